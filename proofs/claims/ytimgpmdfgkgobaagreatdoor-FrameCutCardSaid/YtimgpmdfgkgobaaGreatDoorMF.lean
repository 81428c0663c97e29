/- Part of the proof: QP. Conditions: as each statement tells. -/
import Derived.KernelRfl
import Derived.Test.YtimgpmdfgkgobaaGreatDoorME
noncomputable section
set_option linter.unusedSimpArgs false
set_option linter.unusedVariables false
open BitVec renaming ofInt→a02,toNat_ofInt→a33,ofInt_natCast→a48,toNat_or→a52,toNat_ofNat→a55,toNat_and→a82
open Bool renaming and_self→a03,not_false→a18,not_eq_true'→a29,or_eq_true→a30,true_and→a37,eq_false_iff→a60,or_eq_false_iff→a91
open Int renaming eq_ofNat_of_zero_le→a00,cast_ofNat_Int→a09,toNat_of_nonneg→a20,toNat→a23,natCast_dvd_natCast→a26,tmod→a34,fdiv_eq_ediv_of_nonneg→a35,tmod_eq_emod_of_nonneg→a49,dvd_mul_of_dvd_left→a56,mul_nonneg→a59,tdiv→a62,natCast_nonneg→a74,tdiv_eq_ediv_of_nonneg→a76,mul_fdiv_cancel_left→a79,dvd_add_left→a81,mul_comm→a83,dvd_zero→a98,emod_eq_of_lt→b01,sub_mul→b04,fdiv→b08,natCast_mul→b17,natCast_add→b18,natCast_inj→b19
open List renaming replicate→a01,nil_append→a04,drop_eq_getElem_cons→a05,getElem_mem→a06,all_cons→a07,append_eq→a08,length_nil→a17,length_take→a22,take_length→a24,length_drop→a25,drop_zero→a27,getElem?_append_right→a32,append_nil→a36,take_succ_eq_append_getElem→a39,length→a41,length_singleton→a43,mem_of_mem_take→a46,mem_of_mem_drop→a47,map_cons→a50,getElem?_take→a54,length_eq_zero_iff→a58,flatMap_cons→a61,getElem?_set_self→a63,drop_length→a64,singleton_append→a65,cons_append→a66,not_mem_nil→a67,getElem?_set_ne→a70,mem_cons_self→a73,mem_singleton→a75,sum_cons→a77,ext_getElem?→a78,take_of_length_le→a86,eq_nil_or_concat→a88,take→a89,mem_append_left→a92,getElem?_drop→a94,mem_replicate→a95,map_nil→a96,mem_map→a99,drop→b03,mem_flatMap→b07,foldl_cons→b09,getD→b20
open Nat renaming pow_le_pow_right→a16,two_pow_pos→a19,le_refl→a28,mul_le_mul_right→a38,mod_eq_of_lt→a40,mod_lt→a42,two_pow_add_eq_or_of_lt→a44,lt_trans→a45,div_le_self→a51,lt_of_le_of_lt→a53,pow_succ→a57,div_lt_iff_lt_mul→a68,and_two_pow_sub_one_eq_mod→a69,pow_dvd_pow→a71,testBit_two_pow_mul_add→a72,div_eq_of_lt→a80,add_zero→a84,add_sub_cancel_left→a85,min_eq_left→a87,mul_le_mul→a90,mul_assoc→a93,mul_comm→a97,or_lt_two_pow→b00,add_mod_right→b02,mul_one→b05,lt_of_not_le→b06
open Option renaming bind_eq_some_iff→a21,map_eq_some_iff→a31
namespace Go.Ab
variable {L P R d ks l part r wm:List Int}{N a b i m o v w:Nat}{c:List (List Int)}{g k n sign warm x:Int}{p:Prt}{s:Sub}{zn:List Nat}{α:Type}
open IntKind(wrap)
theorem b7U{k:Nat}(d:k≤25)(g:a0A x=true):∃c,a6x ((k:Int),x)=some c∧0≤c∧c≤65:=by
 have e:=a8k g;have f:z0h .u64 ((a0N x:Nat):Int) (k:Int)=((a0N x / 2^k:Nat):Int):=a5C (by omega);have a:wrap .i64 ((a0N x / 2^k:Nat):Int)=((a0N x / 2^k:Nat):Int):=b1X (a53 (a51 _ _) e);have h:decide ((k:Int)<0)=false:=by simp
 unfold a6x;simp only[a7J d,a8U,g,oB,bT,cF,a8V g,h,f,a];generalize a0N x / 2^k=q
 by_cases hq:q<32
 have b:decide ((q:Int)<32)=true:=decide_eq_true (by omega);refine⟨(q:Int)+1+k,?_,by omega,by omega⟩;simp only[b,cT]
 grind[a0D]
 grind
theorem b8V{k:Nat}(p:k≤25)(q:l.all a0A=true)(t:l.length<10000):∃c,a2Z ((k:Int),l)=some c∧0≤c∧c≤65*l.length:=by
 have g:∀(j i:Nat)(c:Int),i+j=l.length→0≤c→c≤65*i→∃c',x0r a3u ((k:Int),c,l,(l.length:Int),(i:Int),())=some (c',())∧0≤c'∧c'≤65*l.length:=by
  intro j
  induction j with
  |zero=>
   intro i c o a f;obtain rfl:i=l.length:=by omega
   simp_all[a0I,a3u]
  |succ j ih=>
   intro i c o a f;have h:i<l.length:=by omega
   obtain⟨d,b,m,n⟩:=b7U p (lA.1 q _ (a06 h));have e:wrap .i64 (c+d)=c+d:=a0D (by omega);rw[a0J (s':=((k:Int),c+d,l,(l.length:Int),((i+1:Nat):Int),())) (by simp only[a3u,dlt h,cT,a0B h,oB,b,e,a0C (show i<1000000 by omega)])];exact ih (i+1) _ (by omega) (by omega) (by omega)
 obtain⟨c,f,r,s⟩:=g l.length 0 0 (by omega) (by omega) (by omega);simp_all[a2Z]
theorem c3h{n:Nat}(g:w≤32)(f:n<10000):0≤(w:Int)*(n:Int)∧(w:Int)*(n:Int)≤32*n:=by
 have h:w*n≤32*n:=a38 _ g;omega
theorem b7V(h:l.length<10000):∃c,a4T l=some c∧0≤c∧c≤5+32*l.length:=by
 have g:=c3h (a5B l) h;refine⟨5+((a0G l:Nat):Int)*((l.length:Nat):Int),?_,by omega,by omega⟩;unfold a4T;simp only[a2j (show short l by unfold short;omega),oB]
 grind[a0D]
theorem b2y{zn:List Nat}{p:Prt}(H:p.2.1.length=zn.length)(g:p.2.1.all kB=true)(I:zn.length≤256):∀(j i:Nat)(l:List Int)(c:Int),i+j=zn.length→(zn.drop i).sum=l.length→l.all a0A=true→l.length≤5000→4≤c→c+10*j+65*l.length<1000000→
  ∃c',x0r a1s (l,c,(zn.length:Int),(i:Int),a1m zn,p,())=some (c',())∧4≤c'
 |0,i,l,c,hi,_,_,_,hc,_=>by
  obtain rfl:i=zn.length:=by omega
  simp_all[a0I,a1s]
 |j+1,i,l,c,hi,hsum,hw,hl5,hc,hb=>by
  have h:i<zn.length:=by omega
  have f:i<p.2.1.length:=by omega
  have q:=lA.1 g _ (a06 f);rw[b3R h]at hsum;have z:decide ((0:Int)≤(i:Int))=true:=by simp
  have A:decide ((i:Int)<(((a1m zn).length:Nat):Int))=true:=by simp_all[a1t]
  have B:decide ((0:Int)≤((zn[i]:Nat):Int))=true:=by simp
  have C:decide (((zn[i]:Nat):Int)≤((l.length:Nat):Int))=true:=by grind
  have s:(l.take zn[i]).length=zn[i]:=by simp_all
  have b:(l.drop zn[i]).length=(zn.drop (i+1)).sum:=by grind
  have v:(l.take zn[i]).all a0A=true:=lA.2 fun x y=>lA.1 hw x (a46 y);have w:(l.drop zn[i]).all a0A=true:=lA.2 fun x y=>lA.1 hw x (a47 y);have e:∃d,a1s (l,c,(zn.length:Int),(i:Int),a1m zn,p,())=some (.inl (l.drop zn[i],c+d,(zn.length:Int),((i+1:Nat):Int),a1m zn,p,()))∧0≤d∧d≤10+65*zn[i]:=by
   by_cases h31:p.2.1[i]=31
   have a:(p.2.1[i]==31)=true:=by simp_all
   obtain⟨r,m,t,u⟩:=b7V (l:=l.take zn[i]) (by omega);have n:wrap .i64 (5+r)=5+r:=a0D (by omega);have o:wrap .i64 (c+(5+r))=c+(5+r):=a0D (by omega);refine⟨5+r,?_,by omega,by omega⟩;simp only[a1s,dlt h,z,A,a7d h,B,C,cT,a03,tN,a0B f,oB,a,m,n,o,a24,a0C (show i<1000000 by omega)];have a:(p.2.1[i]==31)=false:=by simp_all
   simp[kB]at q;obtain⟨K,D⟩:=a00 (show 0≤p.2.1[i]by omega);obtain⟨r,m,t,u⟩:=b8V (k:=K) (by omega) v (by omega);rw[←D]at m;have n:wrap .i64 (5+r)=5+r:=a0D (by omega);have o:wrap .i64 (c+(5+r))=c+(5+r):=a0D (by omega);refine⟨5+r,?_,by omega,by omega⟩;simp only[a1s,dlt h,z,A,a7d h,B,C,cT,cF,a03,tN,a0B f,oB,a,m,n,o,a24,a0C (show i<1000000 by omega)]
  obtain⟨d,E,F,G⟩:=e;rw[a0J E];exact b2y H g I j (i+1) (l.drop zn[i]) _ (by omega) b.symm w (by omega) (by omega) (by omega)
structure PartsOk (p:Prt) (n warm:Int) (l:List Int) (zn:List Nat):Prop where
 may:a4P p n warm=true
 sizes:a1I p.1 n warm=a1m zn
 sum:zn.sum=l.length
 len:zn.length≤256
 ks:p.2.1.length=zn.length
 all:p.2.1.all kB=true
 wide:l.all a0A=true
 short:l.length≤5000
 row:a5u n warm=true
 rest:(l.length:Int)=n-warm
 order:0≤p.1∧p.1≤8
theorem PartsOk.of{p:Prt}{n warm:Int}{l:List Int}(h:a4P p n warm=true)(i:(l.length:Int)=n-warm)(j:l.all a0A=true)(e:l.length≤5000):∃g,PartsOk p n warm l g:=by
 have f:=h;simp only[a4P,bA,a29,beq_eq_false_iff_ne,ne_eq,beq_iff_eq]at f;obtain⟨c,o,d⟩:=f;obtain⟨g,a,m,b⟩:=b2V c;have k:a5u n warm=true∧0≤p.1∧p.1≤8:=by
  grind[a1I]
 exact⟨g,h,a,by omega,b,by simp_all[a1t],d,j,e,k.1,i,k.2⟩
theorem a9q{n warm:Int}{l:List Int}(h:a5u n warm=true)(c:(l.length:Int)=n-warm)(d:l.all a0A=true)(a:l.length≤5000):a6e (n,warm,l)=some true:=by
 have e:wrap .i64 (n-warm)=n-warm:=by
  simp[a5u]at h;exact a0D (by omega)
 have k:(((l.length:Nat):Int) != n-warm)=false:=by simp_all
 have f:b1C=a2t:=rfl;have g:short l:=by unfold short;omega
 have b:=a3X g;simp_all[a1T,a6e,b1S]
theorem b6X(h:PartsOk p n warm l zn):∃c,a4c (p,n,warm,l)=some c∧4≤c:=by
 have k:Go.Ab.short p.2.1:=by have:=h.ks;have:=h.len;unfold Go.Ab.short;omega
 have a:=h.short;have b:=h.len;obtain⟨c,g,f⟩:=b2y h.ks h.all h.len zn.length 0 l 4 (by omega) (by rw[a27];exact h.sum) h.wide h.short (by omega) (by omega);simp at g;refine⟨c,?_,f⟩;unfold a4c;simp only[b1T k,h.may,a9q h.row h.rest h.wide h.short,oB,bT,cF,a1W,h.sizes,a1t,g]
def a3N(p:Prt)(zn:List Nat)(l L:List Int):List Int:=a3k zn p.2.1 l (a0M (wrap .u64 p.1) 4 L)
theorem b9J(h:PartsOk p n warm l zn)(i:L.length<700000000):a9G (wL L,p,n,warm,l)=some (0,wL (a3N p zn l L)):=by
 have e:=h.short;have j:=h.len;obtain⟨c,a,b⟩:=b6X h;have k:(c==0)=false:=by grind
 have d:=a0U (wrap .u64 p.1) 4 L;have f:a0H (wL L,wrap .u64 p.1,(4:Int))=some (a7c (wrap .u64 p.1) 4,wL (a0M (wrap .u64 p.1) 4 L)):=a2V (n:=4) (by omega) (by omega);have g:=b3v h.ks h.all h.len zn.length 0 l (a0M (wrap .u64 p.1) 4 L) (by omega) (by rw[a27];exact h.sum) h.wide h.short (by omega);simp at g;unfold a9G;simp only[a,oB,k,cF,f,a1W,h.sizes,a1t,g,a3N]
theorem b6Y{c:List Int}{wd:Nat}(k:wd≤32)(g:c.length<10000):∀(j i:Nat)(L:List Int),i+j=c.length→L.length+64*j<999990000→
  x0r a5b ((wd:Int),c,(c.length:Int),(i:Int),wL L,())=some (wL (a1w wd (c.drop i) L),())
 |0,i,L,hi,_=>by
  obtain rfl:i=c.length:=by omega
  simp_all[a0I,a5b,a1w]
 |j+1,i,L,hi,hb=>by
  have h:i<c.length:=by omega
  have f:=a0U (a0S c[i] wd) wd L;rw[a05 h,a0J (s':=((wd:Int),c,(c.length:Int),((i+1:Nat):Int),wL (a0M (a0S c[i] wd) wd L),())) (by
   simp only[a5b,dlt h,cT,a0B h,oB,b1W (show wd≤63 by omega) (show L.length<999999000 by omega),a0C (show i<1000000 by omega)])]
  exact b6Y k g j (i+1) _ (by omega) (by omega)
theorem b8n{t:List Int}{n wd:Int}{s:Sub}(a:t.length=3):∀(j i:Nat)(L:List Int),i+j=3→L.length+64*j<999990000→
  x0r a8F (n,wd,t,(i:Int),wL L,s,())=some (n,wd,wL (a1w 8 (t.drop i) L),s,())
 |0,i,L,hi,_=>by
  obtain rfl:i=t.length:=by omega
  grind[a0I,a8F,a1w]
 |j+1,i,L,hi,hb=>by
  have h:i<t.length:=by omega
  have f:decide ((i:Int)<3)=true:=by grind
  have k:=a0U (a0S t[i] 8) 8 L;have g:a2B (wL L,t[i],(8:Int))=some (wL (a0M (a0S t[i] 8) 8 L)):=b1W (n:=8) (by omega) (by omega);rw[a05 h,a0J (s':=(n,wd,t,((i+1:Nat):Int),wL (a0M (a0S t[i] 8) 8 L),s,())) (by
   simp only[a8F,f,cT,a0B h,oB,g,a0C (show i<1000000 by omega)])]
  exact b8n a j (i+1) _ (by omega) (by omega)
theorem b8o{l:List Int}{n:Int}{wd:Nat}{s:Sub}(k:wd≤32)(g:l.length<10000):∀(j i:Nat)(L:List Int),i+j=l.length→L.length+64*j<999990000→
  x0r a8H (n,(wd:Int),l,(l.length:Int),(i:Int),wL L,s,())=some (n,wL (a1w wd (l.drop i) L),s,())
 |0,i,L,hi,_=>by
  obtain rfl:i=l.length:=by omega
  simp_all[a0I,a8H,a1w]
 |j+1,i,L,hi,hb=>by
  have h:i<l.length:=by omega
  have f:=a0U (a0S l[i] wd) wd L;rw[a05 h,a0J (s':=(n,(wd:Int),l,(l.length:Int),((i+1:Nat):Int),wL (a0M (a0S l[i] wd) wd L),s,())) (by
   simp only[a8H,dlt h,cT,a0B h,oB,b1W (show wd≤63 by omega) (show L.length<999999000 by omega),a0C (show i<1000000 by omega)])]
  exact b8o k g j (i+1) _ (by omega) (by omega)
def a5x(s:Stg)(L:List Int):List Int:=a0M (wrap .u64 s.2.1) 4 (a0M (wrap .u64 (wrap .i64 (s.1-1))) 5 L)
def a2K(st:List Stg)(L:List Int):List Int:=st.foldl (fun L s=>a5x s L) L
theorem b4E(s:Stg)(L:List Int):(a5x s L).length≤L.length+9:=by
 grind[a0U,a5x]
theorem b3w:∀(st:List Stg)(L:List Int),(a2K st L).length≤L.length+9*st.length
 | [],L=>by simp[a2K]
 |s::st,L=>by
  have h:=b4E s L;have g:=b3w st (a5x s L);have e:a2K (s::st) L=a2K st (a5x s L):=rfl
  grind
theorem b5W{st:List Stg}{n wd:Int}{s:Sub}(a:st.length<10000):∀(j i:Nat)(L:List Int),i+j=st.length→L.length+64*j<999990000→
  x0r a8G (n,wd,st,(st.length:Int),(i:Int),wL L,s,())=some (n,wd,wL (a2K (st.drop i) L),s,())
 |0,i,L,hi,_=>by
  obtain rfl:i=st.length:=by omega
  simp_all[a0I,a8G,a2K]
 |j+1,i,L,hi,hb=>by
  have h:i<st.length:=by omega
  have k:=a0U (wrap .u64 (wrap .i64 (st[i].1-1))) 5 L;have b:=b4E st[i] L;have g:a0H (wL L,wrap .u64 (wrap .i64 (st[i].1-1)),(5:Int))=some (a7c (wrap .u64 (wrap .i64 (st[i].1-1))) 5,wL (a0M (wrap .u64 (wrap .i64 (st[i].1-1))) 5 L)):=a2V (n:=5) (by omega) (by omega);have f:a0H (wL (a0M (wrap .u64 (wrap .i64 (st[i].1-1))) 5 L),wrap .u64 st[i].2.1,(4:Int))=some (a7c (wrap .u64 st[i].2.1) 4,wL (a5x st[i] L)):=a2V (n:=4) (by omega) (by omega);rw[a05 h,a0J (s':=(n,wd,st,(st.length:Int),((i+1:Nat):Int),wL (a5x st[i] L),s,())) (by
   simp only[a8G,dlt h,cT,a0B h,oB,g,f,a0C (show i<1000000 by omega)])]
  exact b5W a j (i+1) _ (by omega) (by omega)
def a5y(s:Sub)(L:List Int):List Int:=
 a1w (a0G s.2.2.2.2.2.1) s.2.2.2.2.2.1 (a0M ((a0G s.2.2.2.2.2.1:Nat):Int) 5 (a0M (wrap .u64 s.2.2.2.1) 4 (a0M (wrap .u64 (wrap .i64 (((s.2.2.2.2.2.1.length:Nat):Int)-1))) 5 L)))
theorem b8W{s:Sub}(h:s.2.2.2.2.2.1.length≤40)(L:List Int):(a5y s L).length≤L.length+2000:=by
 unfold a5y;have f:=a0U (wrap .u64 (wrap .i64 (((s.2.2.2.2.2.1.length:Nat):Int)-1))) 5 L;have k:=a0U (wrap .u64 s.2.2.2.1) 4 (a0M (wrap .u64 (wrap .i64 (((s.2.2.2.2.2.1.length:Nat):Int)-1))) 5 L);have a:=a0U ((a0G s.2.2.2.2.2.1:Nat):Int) 5 (a0M (wrap .u64 s.2.2.2.1) 4 (a0M (wrap .u64 (wrap .i64 (((s.2.2.2.2.2.1.length:Nat):Int)-1))) 5 L));have b:=a5v (a0G s.2.2.2.2.2.1) s.2.2.2.2.2.1 (a0M ((a0G s.2.2.2.2.2.1:Nat):Int) 5 (a0M (wrap .u64 s.2.2.2.1) 4 (a0M (wrap .u64 (wrap .i64 (((s.2.2.2.2.2.1.length:Nat):Int)-1))) 5 L)));have g:=a5B s.2.2.2.2.2.1
 have:a0G s.2.2.2.2.2.1*s.2.2.2.2.2.1.length≤32*40:=a90 g h
 omega
theorem b5X(h:s.2.2.2.2.2.1.length≤40)(l:L.length<900000000):a7m (wL L,s)=some (wL (a5y s L)):=by
 have e:=a0U (wrap .u64 (wrap .i64 (((s.2.2.2.2.2.1.length:Nat):Int)-1))) 5 L;have i:=a0U (wrap .u64 s.2.2.2.1) 4 (a0M (wrap .u64 (wrap .i64 (((s.2.2.2.2.2.1.length:Nat):Int)-1))) 5 L);have j:=a0U ((a0G s.2.2.2.2.2.1:Nat):Int) 5 (a0M (wrap .u64 s.2.2.2.1) 4 (a0M (wrap .u64 (wrap .i64 (((s.2.2.2.2.2.1.length:Nat):Int)-1))) 5 L));have k:=a5B s.2.2.2.2.2.1;have f:wrap .u64 ((a0G s.2.2.2.2.2.1:Nat):Int)=((a0G s.2.2.2.2.2.1:Nat):Int):=a0P (by omega);have a:a0H (wL L,wrap .u64 (wrap .i64 (((s.2.2.2.2.2.1.length:Nat):Int)-1)),(5:Int))=some (a7c (wrap .u64 (wrap .i64 (((s.2.2.2.2.2.1.length:Nat):Int)-1))) 5,wL (a0M (wrap .u64 (wrap .i64 (((s.2.2.2.2.2.1.length:Nat):Int)-1))) 5 L)):=a2V (n:=5) (by omega) (by omega);have b:a0H (wL (a0M (wrap .u64 (wrap .i64 (((s.2.2.2.2.2.1.length:Nat):Int)-1))) 5 L),wrap .u64 s.2.2.2.1,(4:Int))=some (a7c (wrap .u64 s.2.2.2.1) 4,wL (a0M (wrap .u64 s.2.2.2.1) 4 (a0M (wrap .u64 (wrap .i64 (((s.2.2.2.2.2.1.length:Nat):Int)-1))) 5 L))):=a2V (n:=4) (by omega) (by omega);have d:a0H (wL (a0M (wrap .u64 s.2.2.2.1) 4 (a0M (wrap .u64 (wrap .i64 (((s.2.2.2.2.2.1.length:Nat):Int)-1))) 5 L)),((a0G s.2.2.2.2.2.1:Nat):Int),(5:Int))=some (a7c ((a0G s.2.2.2.2.2.1:Nat):Int) 5,wL (a0M ((a0G s.2.2.2.2.2.1:Nat):Int) 5 (a0M (wrap .u64 s.2.2.2.1) 4 (a0M (wrap .u64 (wrap .i64 (((s.2.2.2.2.2.1.length:Nat):Int)-1))) 5 L)))):=a2V (n:=5) (by omega) (by omega);have g:=b6Y (c:=s.2.2.2.2.2.1) k (by omega) s.2.2.2.2.2.1.length 0 (a0M ((a0G s.2.2.2.2.2.1:Nat):Int) 5 (a0M (wrap .u64 s.2.2.2.1) 4 (a0M (wrap .u64 (wrap .i64 (((s.2.2.2.2.2.1.length:Nat):Int)-1))) 5 L))) (by omega) (by omega);simp at g;unfold a7m;simp only[a,b,a2j (show short s.2.2.2.2.2.1 by unfold short;omega),f,d,g,oB,a5y]
def a9T(s:Sub)(L:List Int):List Int:=
 a0M ((a0G s.2.2.2.2.2.2.2.2.1:Nat):Int) 5 (a0M (wrap .u64 s.2.1) 5 (a0M (wrap .u64 s.1) 3 L))
def a2s(s:Sub)(L:List Int):List Int:=
 if s.1=2 then a0M (wrap .u64 s.2.2.1) 3 L
 else if s.1=3 then a5y s L
 else if s.1=4 then a5y s (a1w 8 s.2.2.2.2.2.2.1 (a0M (wrap .u64 (wrap .i64 (s.2.2.2.2.1-1))) 10 L))
 else if s.1=5 then a2K s.2.2.2.2.2.2.2.1 (a0M (wrap .u64 ((s.2.2.2.2.2.2.2.1.length:Nat):Int)) 2 L)
 else L
theorem b9K(h:SmallS s)(L:List Int):(a2s s L).length≤L.length+3000:=by
 have f:=h.coefs;have k:=h.taps;have g:=h.stages
 grind[a2s,a0U,b8W,a5v,b3w]
theorem b4F:∀(zs:List Nat)(ks l L:List Int),ks.all kB=true→(a3k zs ks l L).length≤L.length+10*zs.length+100*l.length
 |z::zs,k::ks,l,L,h=>by
  simp only[a07,bA]at h;have g:=b5e h.1 (l.take z) L;have f:=b4F zs ks (l.drop z) (a8g k (l.take z) L) h.2;rw[a22]at g;rw[a25]at f;simp only[a3k,lC];omega
 | [],_,_,_,_=>by simp_all[a3k]
 |_::_,[],_,_,_=>by grind[a3k]
def a4B(s:Sub)(zn:List Nat)(L:List Int):List Int:=
 if s.1=0∨s.1=1 then a1w (a0G s.2.2.2.2.2.2.2.2.1) s.2.2.2.2.2.2.2.2.1 (a2s s (a9T s L))
 else a3N s.2.2.2.2.2.2.2.2.2.1 zn s.2.2.2.2.2.2.2.2.2.2.1 (a1w (a0G s.2.2.2.2.2.2.2.2.1) s.2.2.2.2.2.2.2.2.1 (a2s s (a9T s L)))
theorem b3S(h:SmallS s)(S:L.length<100000000):
  ∃(e:Int)(L':List Int),a8o (wL L,s,n)=some (e,wL L')∧(e=0∨L'=L)∧L'.length≤L.length+700000∧
   ((a2g s n).isSome=true→e=0∧∃a,L'=a4B s a L∧(s.1≠0∧s.1≠1→PartsOk s.2.2.2.2.2.2.2.2.2.1 n ((s.2.2.2.2.2.2.2.2.1.length:Nat):Int) s.2.2.2.2.2.2.2.2.2.2.1 a))∧((a2g s n).isSome=false→e=1∧L'=L):=by
 unfold a8o;simp only[b6U h,oB];cases hs:(a2g s n).isSome with
 |false=>exact⟨1,L,rfl,.inr rfl,by omega,fun h=>(by grind),fun _=>⟨rfl,rfl⟩⟩
 |true=>
  have hp:a1r s n:=by
   grind[a2g]
  obtain⟨Q,R,A,-,-,-,-,v,E,B,-,p⟩:=hp;have b:=c3f A;have m:=a5B s.2.2.2.2.2.2.2.2.1;have u:short s.2.2.2.2.2.2.2.2.1:=by have:=h.warm;unfold short;omega
  have c:=h.warm;have r:=h.rest;have C:=h.stages;have D:=h.taps;have T:=a0U (wrap .u64 s.1) 3 L;have U:=a0U (wrap .u64 s.2.1) 5 (a0M (wrap .u64 s.1) 3 L);have V:=a0U ((a0G s.2.2.2.2.2.2.2.2.1:Nat):Int) 5 (a0M (wrap .u64 s.2.1) 5 (a0M (wrap .u64 s.1) 3 L));have z:wrap .u64 ((a0G s.2.2.2.2.2.2.2.2.1:Nat):Int)=((a0G s.2.2.2.2.2.2.2.2.1:Nat):Int):=a0P (by omega);have I:a0H (wL L,wrap .u64 s.1,(3:Int))=some (a7c (wrap .u64 s.1) 3,wL (a0M (wrap .u64 s.1) 3 L)):=a2V (n:=3) (by omega) (by omega);have K:a0H (wL (a0M (wrap .u64 s.1) 3 L),wrap .u64 s.2.1,(5:Int))=some (a7c (wrap .u64 s.2.1) 5,wL (a0M (wrap .u64 s.2.1) 5 (a0M (wrap .u64 s.1) 3 L))):=a2V (n:=5) (by omega) (by omega);have w:a0H (wL (a0M (wrap .u64 s.2.1) 5 (a0M (wrap .u64 s.1) 3 L)),((a0G s.2.2.2.2.2.2.2.2.1:Nat):Int),(5:Int))=some (a7c ((a0G s.2.2.2.2.2.2.2.2.1:Nat):Int) 5,wL (a9T s L)):=a2V (n:=5) (by omega) (by omega);have N:(a9T s L).length≤L.length+13:=by unfold a9T;omega
  generalize hM:a9T s L=M at w N;have X:=b9K h M;have O:=a5v (a0G s.2.2.2.2.2.2.2.2.1) s.2.2.2.2.2.2.2.2.1 (a2s s M);have Y:a0G s.2.2.2.2.2.2.2.2.1*s.2.2.2.2.2.2.2.2.1.length≤32*5000:=a90 m c;have g:=b8o (l:=s.2.2.2.2.2.2.2.2.1) (n:=n) (s:=s) m (by omega) s.2.2.2.2.2.2.2.2.1.length 0 (a2s s M) (by omega) (by omega);simp at g

  have i:=b5W (st:=s.2.2.2.2.2.2.2.1) (n:=n) (wd:=((a0G s.2.2.2.2.2.2.2.2.1:Nat):Int)) (s:=s) (by omega) s.2.2.2.2.2.2.2.1.length 0 (a0M (wrap .u64 ((s.2.2.2.2.2.2.2.1.length:Nat):Int)) 2 M) (by omega) (by grind[a0U]);have Z:=a0U (wrap .u64 (wrap .i64 (s.2.2.2.2.1-1))) 10 M;have q9:=a5v 8 s.2.2.2.2.2.2.1 (a0M (wrap .u64 (wrap .i64 (s.2.2.2.2.1-1))) 10 M);have j:=b8n (t:=s.2.2.2.2.2.2.1) (n:=n) (wd:=((a0G s.2.2.2.2.2.2.2.2.1:Nat):Int)) (s:=s) D 3 0 (a0M (wrap .u64 (wrap .i64 (s.2.2.2.2.1-1))) 10 M) (by rfl) (by omega);simp at i j;have F:a0H (wL M,wrap .u64 s.2.2.1,(3:Int))=some (a7c (wrap .u64 s.2.2.1) 3,wL (a0M (wrap .u64 s.2.2.1) 3 M)):=a2V (n:=3) (by omega) (by omega);have G:a0H (wL M,wrap .u64 (wrap .i64 (s.2.2.2.2.1-1)),(10:Int))=some (a7c (wrap .u64 (wrap .i64 (s.2.2.2.2.1-1))) 10,wL (a0M (wrap .u64 (wrap .i64 (s.2.2.2.2.1-1))) 10 M)):=a2V (n:=10) (by omega) (by omega);have H:a0H (wL M,wrap .u64 ((s.2.2.2.2.2.2.2.1.length:Nat):Int),(2:Int))=some (a7c (wrap .u64 ((s.2.2.2.2.2.2.2.1.length:Nat):Int)) 2,wL (a0M (wrap .u64 ((s.2.2.2.2.2.2.2.1.length:Nat):Int)) 2 M)):=a2V (n:=2) (by omega) (by omega);have x:=b5X (s:=s) h.coefs (L:=M) (by omega);have y:=b5X (s:=s) h.coefs (L:=a1w 8 s.2.2.2.2.2.2.1 (a0M (wrap .u64 (wrap .i64 (s.2.2.2.2.1-1))) 10 M)) (by omega);simp only[bT,cF,a2j u,oB,I,K,z,w];generalize hPM:a1w (a0G s.2.2.2.2.2.2.2.2.1) s.2.2.2.2.2.2.2.2.1 (a2s s M)=PM at g O

  have o:∀(d:s.1≠0∧s.1≠1),∃a,PartsOk s.2.2.2.2.2.2.2.2.2.1 n ((s.2.2.2.2.2.2.2.2.1.length:Nat):Int) s.2.2.2.2.2.2.2.2.2.2.1 a:=fun d=>by
   simp_all[PartsOk.of]
  rcases b with k|k|k|k|k|k;have f:a2s s M=M:=by unfold a2s;grind
  rw[f]at g;refine⟨0,PM,?_,.inl rfl,by omega,fun _=>⟨rfl,[],by simp_all[a4B],fun h=>absurd k (by omega)⟩,fun h=>by grind⟩;simp only[k,show((0:Int)==2)=false from rfl,show((0:Int)==4)=false from rfl,show((0:Int)==3)=false from rfl,show((0:Int)==5)=false from rfl,cF,oB,g,a5A]
  simp
  have f:a2s s M=M:=by unfold a2s;grind
  rw[f]at g;refine⟨0,PM,?_,.inl rfl,by omega,fun _=>⟨rfl,[],by simp_all[a4B],fun h=>absurd k (by omega)⟩,fun h=>by grind⟩;simp only[k,show((1:Int)==2)=false from rfl,show((1:Int)==4)=false from rfl,show((1:Int)==3)=false from rfl,show((1:Int)==5)=false from rfl,cF,oB,g,a5A]
  simp
  all_goals
   obtain⟨a,q⟩:=o (by omega);have t1:=b9J (L:=PM) q (by omega);have P:(a3N s.2.2.2.2.2.2.2.2.2.1 a s.2.2.2.2.2.2.2.2.2.2.1 PM).length≤L.length+700000:=by
    have z1:=a0U (wrap .u64 s.2.2.2.2.2.2.2.2.2.1.1) 4 PM;have z2:=b4F a s.2.2.2.2.2.2.2.2.2.1.2.1 s.2.2.2.2.2.2.2.2.2.2.1 (a0M (wrap .u64 s.2.2.2.2.2.2.2.2.2.1.1) 4 PM) q.all;have z3:=q.len
    grind[a3N]
   refine⟨0,a3N s.2.2.2.2.2.2.2.2.2.1 a s.2.2.2.2.2.2.2.2.2.2.1 PM,?_,.inl rfl,P,fun _=>⟨rfl,a,by simp_all[a4B],fun _=>q⟩,fun h=>by grind⟩
  have f:a2s s M=a0M (wrap .u64 s.2.2.1) 3 M:=by unfold a2s;grind
  rw[f]at g;simp only[k,show((2:Int)==2)=true from rfl,cT,F,oB,g,a5A]
  grind
  have f:a2s s M=a5y s M:=by unfold a2s;grind
  rw[f]at g;simp only[k,show((3:Int)==2)=false from rfl,show((3:Int)==4)=false from rfl,show((3:Int)==3)=true from rfl,cT,cF,x,oB,g,a5A]
  grind
  have f:a2s s M=a5y s (a1w 8 s.2.2.2.2.2.2.1 (a0M (wrap .u64 (wrap .i64 (s.2.2.2.2.1-1))) 10 M)):=by unfold a2s;grind
  rw[f]at g;simp only[k,show((4:Int)==2)=false from rfl,show((4:Int)==4)=true from rfl,cT,cF,G,j,y,oB,g,a5A]
  grind
  have f:a2s s M=a2K s.2.2.2.2.2.2.2.1 (a0M (wrap .u64 ((s.2.2.2.2.2.2.2.1.length:Nat):Int)) 2 M):=by unfold a2s;grind
  rw[f]at g;simp only[k,show((5:Int)==2)=false from rfl,show((5:Int)==4)=false from rfl,show((5:Int)==3)=false from rfl,show((5:Int)==5)=true from rfl,cT,cF,H,i,oB,g,a5A]
  grind
theorem b2W(h:List Nat):(a1m h).map a23=h:=by
 unfold a1m;rw[List.map_map]
 have:a23∘(fun(a:Nat)=>(a:Int))=id:=by rfl
 simp_all
def a4p(s:Sub)(n:Int):Int:=
 if(a2g s n).isSome=true then(((a4B s ((a1I s.2.2.2.2.2.2.2.2.2.1.1 n ((s.2.2.2.2.2.2.2.2.1.length:Nat):Int)).map a23) []).length:Nat):Int)else 0
theorem b7W(h:s.1≠0∧s.1≠1→PartsOk s.2.2.2.2.2.2.2.2.2.1 n ((s.2.2.2.2.2.2.2.2.1.length:Nat):Int) s.2.2.2.2.2.2.2.2.2.2.1 zn)(L:List Int):
  a4B s zn L=a4B s ((a1I s.2.2.2.2.2.2.2.2.2.1.1 n ((s.2.2.2.2.2.2.2.2.1.length:Nat):Int)).map a23) L:=by
 by_cases hk:s.1=0∨s.1=1
 unfold a4B;rw[if_pos hk,if_pos hk];rw[(h (not_or.1 hk)).sizes,b2W]
theorem c1x(h:SmallS s)(n:Int):a3I (s,n)=some (a4p s n):=by
 obtain⟨e,f,g,-,-,k,a⟩:=b3S h (n:=n) (L:=[]) (by simp);have b:wL []=(([]:List Int),(0:Int),()):=rfl;rw[b]at g;obtain⟨d,-⟩:=a4U f;unfold a3I a4p;simp only[g,oB,a7F];cases hs:(a2g s n).isSome with
 |false=>
  obtain⟨rfl,rfl⟩:=a hs;rfl
 |true=>
  obtain⟨rfl,i,rfl,c⟩:=k hs;rw[if_pos rfl,←b7W c];simp only[d,show((0:Int) != 0)=false from rfl,cF]
def dif:List Int→List Int
 |a::b::r=>W (b-a)::dif (b::r)
 |_=>[]
theorem a4Q:∀l:List Int,(dif l).length=l.length-1
 | []=>rfl
 | [_]=>rfl
 |a::b::r=>by simp[dif,a4Q (b::r)]
theorem b7X:∀(l:List Int)(i:Nat)(x y:Int),l[i]?=some x→l[i+1]?=some y→(dif l)[i]?=some (W (y-x))
 |a::b::r,0,x,y,h1,h2=>by simp at h1 h2;subst h1;subst h2;rfl
 |a::b::r,i+1,x,y,h1,h2=>by
  simp only[dif,List.getElem?_cons_succ]at h1 h2⊢;exact b7X (b::r) i x y h1 h2
 | [_],0,x,y,h1,h2=>by simp at h2
 | [_],i+1,x,y,h1,h2=>by simp at h1
 | [],i,x,y,h1,h2=>by simp at h1
def a1N:Nat→List Int→List Int
 |0,l=>l
 |o+1,l=>dif (a1N o l)
theorem a4V(l:List Int):∀o,(a1N o l).length=l.length-o
 |0=>rfl
 |o+1=>by simp only[a1N,a4Q,a4V l o];omega
theorem b3T(h:short l)(o:Nat):short (a1N o l):=by
 have h:l.length<1000000:=h;show(a1N o l).length<1000000;rw[a4V];omega
def a8W(l:List Int)(i:Nat):List Int:=(dif l).take i++l.drop i
theorem b2X(h:i≤l.length-1):(a8W l i).length=l.length:=by
 simp only[a8W,lN,a22,a25,a4Q];omega
theorem b8p{j:Nat}(h:i≤l.length-1)(g:i≤j):(a8W l i).getD j 0=l.getD j 0:=by
 have e:((dif l).take i).length=i:=by rw[a22,a4Q];omega
 rw[lD,lD,a8W,a32 (by omega),e,a94];congr 2;omega
theorem c4d(h:i<l.length-1):(a8W l i).set i (W (l.getD (i+1) 0-l.getD i 0))=a8W l (i+1):=by
 have e:((dif l).take i).length=i:=by rw[a22,a4Q];omega
 have f:l[i]?=some l[i]:=lG (by omega);have k:l[i+1]?=some l[i+1]:=lG (by omega);have a:=b7X l i _ _ f k;have g:i<(dif l).length:=by rw[a4Q];omega
 simp only[a8W];rw[List.set_append,if_neg (by omega),e,Nat.sub_self,a05 (show i<l.length by omega),List.set_cons_zero,a39 g,aA];have b:(dif l)[i]=W (l.getD (i+1) 0-l.getD i 0):=by
  rw[lG g]at a;rw[Option.some.inj a,lD,lD,f,k];rfl
 rw[b];rfl
theorem c2q{o:Int}(d:short l)(h:1≤l.length):x0r a4I ((0:Int),o,k,l,())=some (o,k,a8W l (l.length-1),()):=by
 have d:l.length<1000000:=d;have r:a8W l 0=l:=by simp[a8W]
 have:=a2F (f:=a4I) (fun i:Nat=>((i:Int),o,k,a8W l i,())) (l.length-1) (b:=(o,k,a8W l (l.length-1),()))
  (fun i u=>by
   have c:wrap .i64 ((i:Int)+1)=((i+1:Nat):Int):=a0C (by omega);have a:=b2X (l:=l) (i:=i) (by omega);have g:decide (((i+1:Nat):Int)<((l.length:Nat):Int))=true:=by simp;omega
   have e:decide ((0:Int)≤((i+1:Nat):Int))=true:=by simp;omega
   have m:decide ((0:Int)≤(i:Int))=true:=by simp
   have n:decide ((i:Int)<((l.length:Nat):Int))=true:=by simp;omega
   have s:a23 ((i+1:Nat):Int)=i+1:=by omega
   have t:a23 (i:Int)=i:=by omega
   have st:=c4d (l:=l) (i:=i) (by omega);have p:=b8p (l:=l) (i:=i) (j:=i+1) (by omega) (by omega);have q:=b8p (l:=l) (i:=i) (j:=i) (by omega) (by omega);simp only[W]at st;simp only[a4I,c,a,g,e,m,n,s,t,p,q,st,a03,cT])
  (by
   have a:=b2X (l:=l) (i:=l.length-1) (by omega);have c:wrap .i64 (((l.length-1:Nat):Int)+1)=((l.length:Nat):Int):=by rw[a0D (by omega)];omega
   have g:decide (((l.length:Nat):Int)<((l.length:Nat):Int))=false:=by simp
   simp only[a4I,c,a,g,cF])
 simp only[nZ,a09,r]at this;exact this
theorem c3i:(a8W l (l.length-1)).take (l.length-1)=dif l:=by
 have e:(dif l).take (l.length-1)=dif l:=a86 (by rw[a4Q];omega);rw[a8W,e,List.take_append_of_le_length (by rw[a4Q];omega),e]
theorem b4G(A:o≤4)(z:o≤l.length)(g:short l)(v:l.all a0A=true):
  a4e (l,(o:Int))=some (bif (a1N o l).all a0A then(a1N o l,0)else([],6)):=by
 have u:l.length<1000000:=g;have h:=a2F (f:=a6O) (fun k:Nat=>((o:Int),(k:Int),a1N k l,())) o (b:=(a1N o l,()))
  (fun k y=>by
   have c:1≤(a1N k l).length:=by rw[a4V];omega
   have s:(a1N k l).length<1000000:=b3T g k;have a:decide ((k:Int)<(o:Int))=true:=by simp;omega
   have t:=b2X (l:=a1N k l) (i:=(a1N k l).length-1) (by omega);have x:wrap .i64 ((((a1N k l).length:Nat):Int)-1)=(((a1N k l).length-1:Nat):Int):=by rw[a0D (by omega)];omega
   have w2:wrap .i64 ((k:Int)+1)=((k+1:Nat):Int):=a0C (by omega);have n:decide ((0:Int)≤(((a1N k l).length-1:Nat):Int))=true:=by simp
   have p:decide ((((a1N k l).length-1:Nat):Int)≤(((a1N k l).length:Nat):Int))=true:=by simp
   have q:decide ((a1N k l).length-1≤(a1N k l).length)=true:=by simp
   have w:a23 (((a1N k l).length-1:Nat):Int)=(a1N k l).length-1:=by omega
   simp only[a6O,a,cT,c2q (b3T g k) c,oB,t,x,w2,n,p,q,w,a03,c3i,a1N])
  (by
   have a:decide ((o:Int)<(o:Int))=false:=by simp
   simp only[a6O,a,cF])
 have d:decide ((o:Int)<0)=false:=by simp
 have e:decide ((o:Int) > 4)=false:=by simp;omega
 have j:decide (((l.length:Nat):Int)<(o:Int))=false:=by simp;omega
 have m:lim l.length=true:=a1c (by omega);simp only[nZ,a09]at h;have r:a1N 0 l=l:=rfl;rw[r]at h;unfold a4e;simp only[d,e,j,m,cF,cT,oB,a6o g,v,bT,h,a6o (b3T g o)];cases (a1N o l).all a0A<;>rfl
def ex:Nat→(Nat→Int)→Nat→Int
 |0,f,i=>f i
 |o+1,f,i=>ex o f (i+1)-ex o f i
theorem b6q{l:List Int}(g:l.all a0A=true):∀(o i:Nat),i+o<l.length→(a1N o l)[i]?=some (W (ex o (fun j=>l.getD j 0) i))
 |0,i,h=>by
  have h:i<l.length:=by omega
  have e:l.getD i 0=l[i]:=by simp[lD,h]
  simp only[a1N,ex,e];rw[lG h,b5b (lA.1 g _ (a06 h))]
 |o+1,i,h=>by
  have f:=b6q g o i (by omega);have k:=b6q g o (i+1) (by omega);simp only[a1N,ex];rw[b7X _ i _ _ f k];simp only[W,a7a,Int.sub_bmod_bmod,Int.bmod_sub_bmod]
theorem c3j(p:l.all a0A=true){j:Nat}(s:o≤4)(h:o+j<l.length):W (W (ex o (fun j=>l.getD j 0) j)+a4h o (l.take (o+j)))=l.getD (o+j) 0:=by
 have a:a0A (l.getD (o+j) 0)=true:=by
  have e:l.getD (o+j) 0=l[o+j]:=by simp[lD,h]
  rw[e];exact lA.1 p _ (a06 h)
 have g:∀i:Nat,1≤i→i≤o→atB (l.take (o+j)) i=l.getD (o+j-i) 0:=fun i q r=>by
  simp only[atB,a22,a87 (Nat.le_of_lt h),lD,a54];rw[if_pos (by omega)]
 have d:ex o (fun j=>l.getD j 0) j+a4h o (l.take (o+j))=l.getD (o+j) 0:=by
  have n:o=0∨o=1∨o=2∨o=3∨o=4:=by omega
  rcases n with rfl|rfl|rfl|rfl|rfl;simp[ex,a4h];simp only[ex,a4h,g 1 (by omega) (by omega)];have f:1+j-1=j:=by omega
  have k:j+1=1+j:=by omega
  rw[f,k];omega;simp only[ex,a4h,g 1 (by omega) (by omega),g 2 (by omega) (by omega)];have f:2+j-1=j+1:=by omega
  have k:2+j-2=j:=by omega
  have b:j+1+1=2+j:=by omega
  rw[f,k,b];omega;simp only[ex,a4h,g 1 (by omega) (by omega),g 2 (by omega) (by omega),g 3 (by omega) (by omega)];have f:3+j-1=j+1+1:=by omega
  have k:3+j-2=j+1:=by omega
  have b:3+j-3=j:=by omega
  have c:j+1+1+1=3+j:=by omega
  rw[f,k,b,c];omega;simp only[ex,a4h,g 1 (by omega) (by omega),g 2 (by omega) (by omega),g 3 (by omega) (by omega),g 4 (by omega) (by omega)];have f:4+j-1=j+1+1+1:=by omega
  have k:4+j-2=j+1+1:=by omega
  have b:4+j-3=j+1:=by omega
  have c:4+j-4=j:=by omega
  have m:j+1+1+1+1=4+j:=by omega
  rw[f,k,b,c,m];omega
 have:W (W (ex o (fun j=>l.getD j 0) j)+a4h o (l.take (o+j)))=W (ex o (fun j=>l.getD j 0) j+a4h o (l.take (o+j))):=by
  simp only[W,a7a,Int.bmod_add_bmod]
 rw[this,d,b5b a]
theorem b9L{l:List Int}(f:l.all a0A=true){o:Nat}(b:o≤4):∀(k j:Nat),o+j+k=l.length→a3J (a4h o) ((a1N o l).drop j) (l.take (o+j))=some l
 |0,j,h=>by
  rw[List.drop_of_length_le (by rw[a4V];omega),a86 (by omega)];rfl
 |k+1,j,h=>by
  have g:j<(a1N o l).length:=by rw[a4V];omega
  have a:=b6q f o j (by omega);rw[lG g]at a;have e:=Option.some.inj a;have c:l.getD (o+j) 0=l[o+j]:=by simp[lD,show o+j<l.length by omega]
  have st:=c3j f b (show o+j<l.length by omega);rw[c]at st;rw[a05 g,e];simp only[a3J,st,lA.1 f _ (a06 (show o+j<l.length by omega)),cT];have d:l.take (o+j)++[l[o+j]]=l.take (o+(j+1)):=by
   rw[show o+(j+1)=(o+j)+1 by omega]
   simp
  rw[d];exact b9L f b k (j+1) (by omega)
theorem a6C{σ β:Type}{f:σ→Option (σ ⊕ β)}(I:Nat→σ→Prop)(Q:β→Prop)(n:Nat)(a:∀i s,i<n→I i s→∃s',f s=some (.inl s')∧I (i+1) s')
  (g:∀s,I n s→∃b,f s=some (.inr b)∧Q b):∀(k i:Nat)(s:σ),i+k=n→I i s→∃b,x0r f s=some b∧Q b
 |0,i,s,h,hi=>by
  obtain rfl:i=n:=by omega
  obtain⟨b,c,d⟩:=g s hi;exact⟨b,a0I c,d⟩
 |k+1,i,s,h,hi=>by
  obtain⟨s',c,d⟩:=a i s (by omega) hi;rw[a0J c];exact a6C I Q n a g k (i+1) s' (by omega) d
theorem b5Y(y:Int):0≤wrap .u64 y∧wrap .u64 y<18446744073709551616:=by
 simp only[wrap,IntKind.bits,IntKind.signed]
 simp
 omega
def a9U(n:Int)(x:Int):Bool:=a0A x&&!(a34 x (z0g .i64 1 n) != 0)
def b3U{β:Type}(n:Int)(bad:β)(out:List Int)(x:Int):List Int ⊕ β:=bif a9U n x then .inl (out++[z0h .i64 x n])else .inr bad
def a8X(n:Int)(l:List Int):Option (List Int):=bif l.all (a9U n)then some (l.map fun x=>z0h .i64 x n)else none
theorem b4H{β:Type}(n:Int)(h:β)(g:List Int→β):∀(l out:List Int),a7G g (a2G (b3U n h) l out)=match a8X n l with|some r=>g (out++r)|none=>h
 | [],out=>by simp[a2G,a7G,a8X]
 |x::l,out=>by
  simp only[a2G,b3U,a8X,a07];cases hx:a9U n x with
  |true=>
   simp only[cT,a37];rw[b4H n h g l _];simp only[a8X];cases l.all (a9U n)with
   |true=>simp
   |false=>rfl
  |false=>rfl
theorem b9M{o:Nat}(h:o≤30):z0g .i64 1 (o:Int)=((2^o:Nat):Int):=by
 have g:2^o≤2^30:=a16 (by omega) h
 have:=b6n (N:=1) (o:=o) (by omega) (by omega)
 simpa using this
theorem b3x(m:o≤30)(q:l.length<100000):a6j (l,(o:Int))=some (a4t (a8X (o:Int) l)):=by
 have n:short l:=by unfold short;omega
 have k:¬ (o:Int)<0:=by omega
 have e:¬ (o:Int) > 30:=by omega
 have j:(z0g .i64 (1:Int) (o:Int)==0)=false:=by
  rw[b9M m]
  have:0<2^o:=a19 o
  simp only[beq_eq_false_iff_ne,ne_eq];omega
 unfold a6j;simp only[k,e,decide_false,cF,oB]
 have:=a1Q (f:=a5L) l (fun i out=>((o:Int),l,(l.length:Int),(i:Int),out,())) (b3U (o:Int) (Sum.inr ((6:Int),([]:List Int),())))
  (fun i out=>out.length=i) (fun out=>Sum.inl (out,()))
  (fun i h out p=>by
   have c:i<1000000:=by omega
   simp only[a5L,dlt h,cT,a0B h,oB,b3p,b3U,a9U,k,j,decide_false,cF];cases hb:a0A l[i]with
   |true=>
    cases hb2:(a34 l[i] (z0g .i64 1 (o:Int)) != 0)with
    |false=>
     simp only[cT,bT,cF,oB,k,decide_false,a0T (show out.length+1<1000000 by omega),a0C c,a03,a18,hb2];refine⟨fun d g=>?_,fun b hb=>(by cases hb)⟩;simp only[Sum.inl.injEq]at g;subst g;exact⟨rfl,by simp;omega⟩
    |true=>
     refine⟨fun d g=>(by simp at g),fun b hb=>?_⟩;simp only[a37,bT,cF,Sum.inr.injEq]at hb;subst hb;simp[hb2]
   |false=>
    refine⟨fun d g=>(by simp at g),fun b hb=>?_⟩;simp only[Bool.false_and,cF,Sum.inr.injEq]at hb;subst hb;rfl)
  (fun out _=>by simp[a5L]) (a:=[]) rfl
 simp only[nZ,b4H,a04]at this;rw[this];cases a8X (o:Int) l<;>rfl
theorem b6r(h:o≤30)(k:a9U (o:Int) x=true):a0A (z0h .i64 x (o:Int))=true∧z0g .i64 (z0h .i64 x (o:Int)) (o:Int)=x∧a0A x=true:=by
 simp only[a9U,b9M h,bA,a29,bne_eq_false_iff_eq]at k;obtain⟨f,d⟩:=k;obtain⟨c,rfl⟩:=Int.dvd_of_tmod_eq_zero d;have g:=a1G.1 f;have e:min (a23 (o:Int)) (IntKind.bits .i64)=o:=by simp only[tN,IntKind.bits];omega
 have hp:(0:Int)<2^o:=Int.pow_pos (by omega);have b:((2^o:Nat):Int)=2^o:=by simp
 rw[b]at g f⊢;have a:z0h .i64 (2^o*c) (o:Int)=c:=by
  unfold z0h;rw[e];exact a79 _ (by omega)
 rw[a];refine⟨a1G.2 ?_,?_,f⟩;generalize (2:Int)^o=p at hp g;have i:p*c=(p-1)*c+c:=by rw[b04];omega
 by_cases hc:0≤c
 have:=a59 (show 0≤p-1 by omega) hc
 omega
 have:=a59 (show 0≤p-1 by omega) (show 0≤-c by omega)
 rw[Int.mul_neg]at this;omega;unfold z0g;rw[e,a83];exact a0D (by omega)
theorem c5F(h:o≤30)(f:a8X (o:Int) l=some d):d.all a0A=true∧d.length=l.length∧upO (o:Int) d=some l:=by
 unfold a8X at f;cases ha:l.all (a9U (o:Int))with
 |false=>rw[ha]at f;cases f
 |true=>
  rw[ha]at f;simp only[cT,sj]at f;subst f;have g:=lA.1 ha;refine⟨?_,by simp,?_⟩;simp only[List.all_map];exact lA.2 fun x k=>(b6r h (g x k)).1;have a:(l.map fun x=>z0h .i64 x (o:Int)).all (fun x=>a0A x&&a0A (z0g .i64 x (o:Int)))=true:=by
   simp only[List.all_map];refine lA.2 fun x k=>?_
   obtain⟨c,e,i⟩:=b6r h (g x k);simp only[Function.comp,c,e,i,a03]
  unfold upO;rw[a];simp only[cT,sj,List.map_map];have b:l.map ((fun x=>z0g .i64 x (o:Int))∘fun x=>z0h .i64 x (o:Int))=l.map id:=List.map_congr_left (fun x k=>(b6r h (g x k)).2.1);rw[b,List.map_id]
theorem c2r{n warm:Int}(h:a5u n warm=true):(a1I 0 n warm).length≠0:=by
 have g:=h;simp only[a5u,bA,dT]at g;unfold a1I b3r;have e:((n.toNat / 2^(0:Int).toNat:Nat):Int)=n:=by simp;omega
 have f:n.toNat%2^(0:Int).toNat=0:=by simp;omega
 simp only[h,e,f];simp[g.2.2.2]
theorem a5S{n:Nat}(g:n≤63)(h:N<2^n)(L:List Int):(a0M (N:Int) n L).length=L.length+n:=by
 unfold a0M;rw[a5C (N:=N) (o:=n) (by omega),a80 h];simp[b2x]
def a4q(k:Nat)(x:Int):Nat:=if a0N x / 2^k<32 then a0N x / 2^k+1+k else 65
theorem b9N{k:Nat}(g:k≤25)(x:Int):a4q k x≤65:=by
 unfold a4q;split;rename_i h;generalize a0N x / 2^k=q at h;omega;omega
theorem c3k{k:Nat}(a:k≤25)(g:a0A x=true)(L:List Int):(a5R k x L).length=L.length+a4q k x:=by
 unfold a5R a4q;have hp:0<2^k:=a19 k;have h:a0N x%2^k<2^k:=a42 _ hp;have f:=a8k g;split;rw[a5S (by omega) h,a8T];omega;rw[a5S (n:=32) (by omega) (by omega),a8T]
theorem b6Z{k:Nat}(g:k≤25):∀(l L:List Int),l.all a0A=true→(a3D k l L).length=L.length+(l.map (a4q k)).sum
 | [],L,_=>by simp[a3D]
 |x::l,L,h=>by
  simp only[a07,bA]at h;have e:a3D k (x::l) L=a3D k l (a5R k x L):=rfl;rw[e,b6Z g l _ h.2,c3k g h.1,a50,a77];omega
theorem b9O{k:Nat}(c:k≤25)(f:a0A x=true):a6x ((k:Int),x)=some ((a4q k x:Nat):Int):=by
 have d:=a8k f;have a:z0h .u64 ((a0N x:Nat):Int) (k:Int)=((a0N x / 2^k:Nat):Int):=a5C (by omega);have b:wrap .i64 ((a0N x / 2^k:Nat):Int)=((a0N x / 2^k:Nat):Int):=b1X (a53 (a51 _ _) d);have g:decide ((k:Int)<0)=false:=by simp
 unfold a6x a4q;simp only[a7J c,a8U,f,oB,bT,cF,a8V f,g,a,b];generalize a0N x / 2^k=q
 by_cases hq:q<32
 have h:decide ((q:Int)<32)=true:=decide_eq_true (by omega);simp only[h,cT,if_pos hq];rw[a0D (n:=(q:Int)+1) (by omega),a0D (by omega)];rfl;have h:decide ((q:Int)<32)=false:=decide_eq_false (by omega);simp only[h,cF,if_neg hq];rfl
theorem b9P{f:Int→Nat}{M:Nat}(h:∀x,f x≤M):∀l:List Int,(l.map f).sum≤M*l.length
 | []=>by simp
 |x::l=>by
  have:=h x
  have:=b9P h l
  rw[a50,a77,lC,Nat.mul_add,b05];omega
theorem b9Q{f:Int→Nat}(h:i<l.length):((l.take (i+1)).map f).sum=((l.take i).map f).sum+f l[i]:=by
 rw[a39 h,pA,List.sum_append];simp only[a50,a96,a77,List.sum_nil,a84]
theorem b5Z{k:Nat}(a:k≤25)(j:l.all a0A=true)(m:l.length<10000):a2Z ((k:Int),l)=some (((l.map (a4q k)).sum:Nat):Int):=by
 have:=a2F (f:=a3u) (fun i:Nat=>((k:Int),((((l.take i).map (a4q k)).sum:Nat):Int),l,(l.length:Int),(i:Int),())) l.length (b:=((((l.map (a4q k)).sum:Nat):Int),()))
  (fun i h=>by
   have d:=b9O a (lA.1 j _ (a06 h));have g:=b9P (b9N a) (l.take (i+1));rw[b9Q h]at g;rw[a22]at g;have e:wrap .i64 (((((l.take i).map (a4q k)).sum:Nat):Int)+((a4q k l[i]:Nat):Int))=((((l.take (i+1)).map (a4q k)).sum:Nat):Int):=by
    rw[b9Q h,a0D (by omega)];omega
   simp only[a3u,dlt h,cT,a0B h,oB,d,e,a0C (show i<1000000 by omega)])
  (by simp only[a3u,dge,cF,a24])
 unfold a2Z;have c:(((l.take 0).map (a4q k)).sum:Nat)=0:=rfl;simp only[c,nZ]at this;simp only[this,oB]
theorem c4e(x:Int){n:Nat}(g:n≤62):∃N:Nat,a0S x n=(N:Int)∧N<2^n:=by
 obtain⟨h,k⟩:=b5Y x;obtain⟨y,f⟩:=a00 h;have hp:0<2^n:=a19 n;refine⟨y%2^n,?_,a42 _ hp⟩;unfold a0S;rw[f];exact b9H (by omega) g
theorem b2z{n:Nat}(h:n≤62):∀(l L:List Int),(a1w n l L).length=L.length+n*l.length
 | [],L=>by simp[a1w]
 |x::l,L=>by
  have e:a1w n (x::l) L=a1w n l (a0M (a0S x n) n L):=rfl;obtain⟨N,g,f⟩:=c4e x h;rw[e,b2z h l,g,a5S (by omega) f,lC,Nat.mul_add,b05];omega
theorem c6y(h:a0A x=true):a1x x ((31:Nat):Int)=true:=by
 have:=a1G.1 h
 have g:z0g .i64 (-1) (((31:Nat):Int)-1)=-1073741824:=by decide
 have f:wrap .i64 (z0g .i64 1 (((31:Nat):Int)-1)-1)=1073741823:=by decide
 unfold a1x;rw[g,f];simp only[bA,dT];omega
theorem b7a{x:Int}(h:a0A x=true):∀(k w:Nat),w+k=32→1≤k→a1J x k w≤31
 |k+1,w,hk,_=>by
  simp only[a1J]
  by_cases h31:w=31
  subst h31;rw[c6y h]
  simp
  ·cases (x != 0)&&!a1x x w with
   |true=>exact b7a h k (w+1) (by omega) (by omega)
   |false=>simp only[cF];omega
theorem b2A:∀(l:List Int)(w:Nat),l.all a0A=true→w≤31→l.foldl (fun w x=>a1J x (32-w) w) w≤31
 | [],w,_,h=>h
 |x::l,w,hl,h=>by
  simp only[a07,bA]at hl;exact b2A l _ hl.2 (b7a hl.1 (32-w) w (by omega) (by omega))
theorem a1U(h:l.all a0A=true):a0G l≤31:=b2A l 0 h (by omega)
theorem b1Y(g:l.length<10000):a4T l=some (((5+a0G l*l.length:Nat)):Int):=by
 have h:=a5B l;have f:a0G l*l.length≤32*l.length:=a38 _ h;unfold a4T;simp only[a2j (show short l by unfold short;omega),oB];have e:((a0G l:Nat):Int)*((l.length:Nat):Int)=((a0G l*l.length:Nat):Int):=by simp
 rw[e,a0D (n:=((a0G l*l.length:Nat):Int)) (by omega),a0D (by omega)];congr 1
def a9V(k:Int)(part:List Int):Nat:=5+(if k=31 then 5+a0G part*part.length else(part.map (a4q k.toNat)).sum)
def a3E:List Nat→List Int→List Int→Nat
 |z::zs,k::ks,l=>a9V k (l.take z)+a3E zs ks (l.drop z)
 |_,_,_=>0
theorem a2k{q:Nat}(h:q<2147483648):wrap .u64 (q:Int)=(q:Int):=a0P (by omega)
theorem c3l(f:kB k=true)(g:part.all a0A=true)(L:List Int):(a8g k part L).length=L.length+a9V k part:=by
 simp only[kB,a30,bA,dT,beq_iff_eq]at f;obtain⟨K,rfl⟩:=a00 (show 0≤k by omega);have b:K≤31:=by omega
 have h:=a5S (N:=K) (n:=5) (by omega) (by omega) L;have a:=a1U g;unfold a8g a9V;rw[a2k (by omega)];split;rw[b2z (by omega),a5S (n:=5) (by omega) (by omega),h];omega;rw[b6Z (by omega) _ _ g,h];omega
theorem b7b:∀(zs:List Nat)(ks l L:List Int),ks.all kB=true→l.all a0A=true→(a3k zs ks l L).length=L.length+a3E zs ks l
 |z::zs,k::ks,l,L,h,hw=>by
  simp only[a07,bA]at h;have g:(l.take z).all a0A=true:=lA.2 fun x a=>lA.1 hw x (a46 a);have f:(l.drop z).all a0A=true:=lA.2 fun x a=>lA.1 hw x (a47 a);simp only[a3k,a3E];rw[b7b zs ks _ _ h.2 f,c3l h.1 g];omega
 | [],_,_,_,_,_=>by simp[a3k,a3E]
 |_::_,[],_,_,_,_=>by simp[a3k,a3E]
theorem c4f(h:kB k=true)(part:List Int):a9V k part≤10+65*part.length:=by
 simp only[kB,a30,bA,dT,beq_iff_eq]at h;unfold a9V;split;have g:a0G part*part.length≤32*part.length:=a38 _ (a5B part);omega
 have:=b9P (b9N (k:=k.toNat) (by omega)) part
 omega
theorem b1Z{zn:List Nat}{p:Prt}(E:p.2.1.length=zn.length)(a:p.2.1.all kB=true)(F:zn.length≤256):∀(j i:Nat)(l:List Int)(c:Nat),i+j=zn.length→(zn.drop i).sum=l.length→l.all a0A=true→l.length≤5000→c+10*j+65*l.length<1000000→
  x0r a1s (l,(c:Int),(zn.length:Int),(i:Int),a1m zn,p,())=some (((c+a3E (zn.drop i) (p.2.1.drop i) l:Nat):Int),())
 |0,i,l,c,hi,_,_,_,_=>by
  obtain rfl:i=zn.length:=by omega
  rw[a64];exact a0I (by simp[a1s,a3E])
 |j+1,i,l,c,hi,hsum,hw,hl5,hb=>by
  have h:i<zn.length:=by omega
  have f:i<p.2.1.length:=by omega
  have o:=lA.1 a _ (a06 f);rw[b3R h]at hsum;have z:decide ((0:Int)≤(i:Int))=true:=by simp
  have A:decide ((i:Int)<(((a1m zn).length:Nat):Int))=true:=by rw[a1t];simp;omega
  have B:decide ((0:Int)≤((zn[i]:Nat):Int))=true:=by simp
  have C:decide (((zn[i]:Nat):Int)≤((l.length:Nat):Int))=true:=by simp;omega
  have d:(l.take zn[i]).length=zn[i]:=by rw[a22];omega
  have e:(l.drop zn[i]).length=(zn.drop (i+1)).sum:=by rw[a25];omega
  have v:(l.take zn[i]).all a0A=true:=lA.2 fun x y=>lA.1 hw x (a46 y);have w:(l.drop zn[i]).all a0A=true:=lA.2 fun x y=>lA.1 hw x (a47 y);have g:=c4f o (l.take zn[i]);rw[d]at g;have n:a1s (l,(c:Int),(zn.length:Int),(i:Int),a1m zn,p,())=some (.inl (l.drop zn[i],((c+a9V p.2.1[i] (l.take zn[i]):Nat):Int),(zn.length:Int),((i+1:Nat):Int),a1m zn,p,())):=by
   by_cases h31:p.2.1[i]=31
   have b:(p.2.1[i]==31)=true:=by rw[h31];rfl
   have m:=b1Y (l:=l.take zn[i]) (by omega);have u:a9V p.2.1[i] (l.take zn[i])=5+(5+a0G (l.take zn[i])*(l.take zn[i]).length):=by unfold a9V;rw[if_pos h31]
   rw[u]at g⊢;generalize 5+a0G (l.take zn[i])*(l.take zn[i]).length=r at m g⊢;have s:wrap .i64 (5+(r:Int))=5+(r:Int):=a0D (by omega);have t:wrap .i64 ((c:Int)+(5+(r:Int)))=((c+(5+r):Nat):Int):=by rw[a0D (by omega)];omega
   simp only[a1s,dlt h,z,A,a7d h,B,C,cT,a03,tN,a0B f,oB,b,m,s,t,a24,a0C (show i<1000000 by omega)];have b:(p.2.1[i]==31)=false:=by simp[h31]
   have q:=o;simp only[kB,a30,bA,dT,beq_iff_eq]at q;obtain⟨K,D⟩:=a00 (show 0≤p.2.1[i]by omega);have m:=b5Z (k:=K) (by omega) v (by omega);have u:a9V p.2.1[i] (l.take zn[i])=5+((l.take zn[i]).map (a4q K)).sum:=by unfold a9V;rw[if_neg h31,D];rfl
   rw[←D]at m;rw[u]at g⊢;generalize ((l.take zn[i]).map (a4q K)).sum=r at m g⊢;have s:wrap .i64 (5+(r:Int))=5+(r:Int):=a0D (by omega);have t:wrap .i64 ((c:Int)+(5+(r:Int)))=((c+(5+r):Nat):Int):=by rw[a0D (by omega)];omega
   simp only[a1s,dlt h,z,A,a7d h,B,C,cT,cF,a03,tN,a0B f,oB,b,m,s,t,a24,a0C (show i<1000000 by omega)]
  rw[a0J n,b1Z E a F j (i+1) (l.drop zn[i]) _ (by omega) e.symm w (by rw[a25];omega) (by rw[a25];omega)];rw[a05 h,a05 f];simp only[a3E];congr 3;omega
theorem b8X(h:PartsOk p n warm l zn):a4c (p,n,warm,l)=some ((4+a3E zn p.2.1 l:Nat):Int):=by
 have f:Go.Ab.short p.2.1:=by have:=h.ks;have:=h.len;unfold Go.Ab.short;omega
 have k:=h.short;have a:=h.len;have g:=b1Z h.ks h.all h.len zn.length 0 l 4 (by omega) (by rw[a27];exact h.sum) h.wide h.short (by omega);simp only[nZ,a09,a27]at g;unfold a4c;simp only[b1T f,h.may,a9q h.row h.rest h.wide h.short,oB,bT,cF,a1W,h.sizes,a1t,g]
theorem b8Y(h:PartsOk p n warm l zn)(L:List Int):(a3N p zn l L).length=L.length+(4+a3E zn p.2.1 l):=by
 obtain⟨o,g⟩:=a00 h.order.1;have f:=h.order.2;unfold a3N;rw[b7b _ _ _ _ h.all h.wide,g,a2k (by omega),a5S (by omega) (by omega)];omega
def a1O(o:Int):Sub:=((0:Int),(0:Int),o,(0:Int),(0:Int),([]:List Int),a01 3 (0:Int),([]:List Stg),([]:List Int),((0:Int),([]:List Int),()),([]:List Int),())
theorem c1e(o:Int):SmallS (a1O o):=⟨by simp[a1O],by simp[a1O],by simp[a1O],by simp[a1O],by simp[a1O],by simp[a1O]⟩
theorem c2s(h:-1048576≤x∧x≤1048575):v0a (u0z x (-1048576)) 1048575=x:=by
 unfold v0a u0z;have g:decide ((-1048576:Int) > x)=false:=decide_eq_false (by omega);have f:decide ((1048575:Int)<x)=false:=decide_eq_false (by omega);simp only[g,cF,f]
theorem c8d(h:a0A x=true):-1048576≤z0h .i64 x ((10:Nat):Int)∧z0h .i64 x ((10:Nat):Int)≤1048575:=by
 have g:=a1G.1 h;have e:z0h .i64 x ((10:Nat):Int)=x / 1024:=by
  show b08 x 1024=_;exact a35 _ (by decide)
 rw[e];omega
theorem b8q{x:Int}(f:a0A x=true){a l:List Int}{n i:Int}:∀(k s:Nat),s+k=10→∃s':Nat,s'≤10∧x0r a3i (a,(s:Int),x,l,n,i,())=some (a,(s':Int),l,n,i,())
 |0,s,h=>by
  obtain rfl:s=10:=by omega
  have g:decide (((10:Nat):Int)<0)=false:=by decide
  have d:=c2s (c8d f);refine⟨10,a28 _,a0I ?_⟩;simp only[a3i,g,cF,a2x,oB,d,bne_self_eq_false]
 |k+1,s,h=>by
  have g:decide ((s:Int)<0)=false:=decide_eq_false (by omega);cases hc:(v0a (u0z (z0h .i64 x (s:Int)) (-1048576)) 1048575 != z0h .i64 x (s:Int))with
  |false=>exact⟨s,by omega,a0I (by simp only[a3i,g,cF,a2x,oB,hc])⟩
  |true=>
   obtain⟨s',b,c⟩:=b8q f (a:=a) (l:=l) (n:=n) (i:=i) k (s+1) (by omega);refine⟨s',b,?_⟩;rw[a0J (s':=(a,((s+1:Nat):Int),x,l,n,i,())) (by simp only[a3i,g,cF,a2x,oB,hc,cT,a0C (show s<1000000 by omega)])];exact c
theorem c1f(y:l.all a0A=true)(A:l.length<100000):∃r,a6Q l=some r∧r.length=l.length:=by
 obtain⟨b,t,s,z,x⟩:=a6C (f:=a4L) (fun i st=>∃s:Nat,s≤10∧st=(l,(s:Int),l,(l.length:Int),(i:Int),())) (fun b=>∃s:Nat,s≤10∧b=(l,(s:Int),())) l.length
  (fun i st g h=>by
   obtain⟨s,u,rfl⟩:=h;obtain⟨s',p,e⟩:=b8q (lA.1 y _ (a06 g)) (a:=l) (l:=l) (n:=(l.length:Int)) (i:=(i:Int)) (10-s) s (by omega);exact⟨_,by simp only[a4L,dlt g,cT,a0B g,oB,e,a0C (show i<1000000 by omega)]<;>rfl,s',p,rfl⟩)
  (fun st h=>by
   obtain⟨s,u,rfl⟩:=h;exact⟨_,by simp only[a4L,dge,cF]<;>rfl,s,u,rfl⟩) l.length 0 _ (by omega) ⟨0,by omega,rfl⟩
 subst x;obtain⟨c,q,o,v,w⟩:=a6C (f:=a4M) (fun i st=>∃o:List Int,st=((s:Int),l,(l.length:Int),(i:Int),o,())∧o.length=l.length) (fun b=>∃o:List Int,b=(o,())∧o.length=l.length) l.length
  (fun i st g h=>by
   obtain⟨o,rfl,m⟩:=h;have k:decide ((s:Int)<0)=false:=decide_eq_false (by omega);have d:decide ((0:Int)≤(i:Int))=true:=by simp
   have j:decide ((i:Int)<((o.length:Nat):Int))=true:=decide_eq_true (by omega);exact⟨_,by simp only[a4M,dlt g,cT,a0B g,oB,k,cF,d,j,a03,a0C (show i<1000000 by omega)]<;>rfl,_,rfl,by simp[m]⟩)
  (fun st h=>by
   obtain⟨o,rfl,m⟩:=h;exact⟨_,by simp only[a4M,dge,cF]<;>rfl,o,rfl,m⟩) l.length 0 _ (by omega) ⟨a01 l.length 0,rfl,by simp⟩
 subst v;refine⟨o,?_,w⟩;have k:decide ((0:Int)≤((l.length:Nat):Int))=true:=by simp
 have d:decide (((l.length:Nat):Int)≤((l.length:Nat):Int))=true:=by simp
 have j:lim l.length=true:=a0T (by omega);simp only[nZ]at t q;unfold a6Q;simp only[t,oB,k,d,j,tN,a03,cT,q]
theorem b7c:∀(N:Nat)(num den:Int),den.toNat≤N→∃a b,x0r a3f (num,den,())=some (a,b,())
 |N,num,den,h=>by
  by_cases hd:den≥1099511627776
  ·have g:decide (den≥(1099511627776:Int))=true:=decide_eq_true hd;have e:z0h .i64 den 1=den / 2:=by
    show b08 den 2=_;exact a35 _ (by decide)
   rw[a0J (s':=(z0h .i64 num 1,den / 2,())) (by simp only[a3f,g,cT,e])]
   match N with
   |0=>omega
   |N+1=>exact b7c N _ _ (by omega)
  have g:decide (den≥(1099511627776:Int))=false:=decide_eq_false hd;exact⟨num,den,a0I (by simp only[a3f,g,cF])⟩
theorem b7d{f g:List Int}(u:1≤m)(r:g.length=f.length)(t:f.length<100000)(q:m<1000):∃k,a4o (f,g,(m:Int))=some k:=by
 obtain⟨b,n,d,den,o⟩:=a6C (f:=a3e) (fun i st=>∃d den:Int,st=(f,g,d,den,((m+i:Nat):Int),())) (fun b=>∃d den:Int,b=(d,den,())) (f.length-m)
  (fun i st s h=>by
   obtain⟨d,den,rfl⟩:=h;have j:m+i<f.length:=by omega
   have e:wrap .i64 (((m+i:Nat):Int)-1)=((m+i-1:Nat):Int):=by rw[a0D (by omega)];omega
   exact⟨_,by simp only[a3e,dlt j,cT,a0B j,e,a0B (show m+i-1<g.length by omega),oB,a0C (show m+i<1000000 by omega)]<;>rfl,_,_,rfl⟩)
  (fun st h=>by
   obtain⟨d,den,rfl⟩:=h;have l:decide (((m+(f.length-m):Nat):Int)<((f.length:Nat):Int))=false:=decide_eq_false (by omega);exact⟨_,by simp only[a3e,l,cF]<;>rfl,_,_,rfl⟩) (f.length-m) 0 (f,g,0,0,(m:Int),()) (by omega) ⟨0,0,rfl⟩
 subst o;obtain⟨a,c,p⟩:=b7c den.toNat d den (a28 _);unfold a4o;simp only[n,oB,p];cases hc:(c==0)with
 |true=>exact⟨0,rfl⟩
 |false=>
  simp only[cF];cases decide ((z0g .i64 a 15).tmod c<0)<;>exact⟨_,rfl⟩
theorem b8Z{f g:List Int}{order:Int}(y:1≤m)(u:g.length=f.length)(x:f.length<100000)(v:m<1000):
  ∃f' a:List Int,x0r a2T (order,(m:Int),k,((f.length:Nat):Int)-1,f,g,ks,())=some (order,(m:Int),f',a,ks,())∧f'.length=f.length∧a.length=f.length:=by
 obtain⟨b,l,f',a,s,t⟩:=a6C (f:=a2T) (fun i st=>∃f' a:List Int,st=(order,(m:Int),k,((f.length:Nat):Int)-1-(i:Int),f',a,ks,())∧f'.length=f.length∧a.length=f.length)
  (fun b=>∃f' a:List Int,b=(order,(m:Int),f',a,ks,())∧f'.length=f.length∧a.length=f.length) (f.length-m)
  (fun i st w h=>by
   obtain⟨f',a,rfl,c,d⟩:=h;have j:decide (((f.length:Nat):Int)-1-(i:Int)≥(m:Int))=true:=decide_eq_true (by omega);have n:decide ((0:Int)≤((f.length:Nat):Int)-1-(i:Int))=true:=decide_eq_true (by omega);have o:decide (((f.length:Nat):Int)-1-(i:Int)<((f'.length:Nat):Int))=true:=decide_eq_true (by omega);have p:decide (((f.length:Nat):Int)-1-(i:Int)<((a.length:Nat):Int))=true:=decide_eq_true (by omega);have e:wrap .i64 (((f.length:Nat):Int)-1-(i:Int)-1)=((f.length:Nat):Int)-1-((i+1:Nat):Int):=by rw[a0D (by omega)];omega
   have q:decide ((0:Int)≤((f.length:Nat):Int)-1-((i+1:Nat):Int))=true:=decide_eq_true (by omega);have r:decide (((f.length:Nat):Int)-1-((i+1:Nat):Int)<((a.length:Nat):Int))=true:=decide_eq_true (by omega);exact⟨_,by simp only[a2T,j,n,o,p,e,q,r,cT,a03,a2x,oB]<;>rfl,_,_,rfl,by simp[c],by simp[d]⟩)
  (fun st h=>by
   obtain⟨f',a,rfl,c,d⟩:=h;have j:decide (((f.length:Nat):Int)-1-((f.length-m:Nat):Int)≥(m:Int))=false:=decide_eq_false (by omega);exact⟨_,by simp only[a2T,j,cF]<;>rfl,f',a,rfl,c,d⟩) (f.length-m) 0 _ (by omega) ⟨f,g,rfl,rfl,u⟩
 subst s;simp only[nZ,Int.sub_zero]at l;exact⟨f',a,l,t⟩
theorem b9R{f g:List Int}(y:o≤32)(v:g.length=f.length)(x:f.length<100000):∃ks:List Int,x0r a2U ((o:Int),(1:Int),f,g,([]:List Int),())=some (ks,())∧ks.length=o:=by
 obtain⟨b,j,ks,r,s⟩:=a6C (f:=a2U) (fun i st=>∃f' a ks:List Int,st=((o:Int),((i+1:Nat):Int),f',a,ks,())∧f'.length=f.length∧a.length=f.length∧ks.length=i)
  (fun b=>∃ks:List Int,b=(ks,())∧ks.length=o) o
  (fun i st w h=>by
   obtain⟨f',a,ks,rfl,l,n,p⟩:=h;have d:decide (((i+1:Nat):Int)≤(o:Int))=true:=decide_eq_true (by omega);obtain⟨k,q⟩:=b7d (f:=f') (g:=a) (m:=i+1) (by omega) (by omega) (by omega) (by omega);have e:wrap .i64 (((f'.length:Nat):Int)-1)=((f'.length:Nat):Int)-1:=a0D (by omega);obtain⟨t,u,j,r,s⟩:=b8Z (f:=f') (g:=a) (ks:=ks++[k]) (m:=i+1) (order:=(o:Int)) (k:=k) (by omega) (by omega) (by omega) (by omega);have c:lim (ks.length+1)=true:=a0T (by omega);exact⟨_,by simp only[a2U,d,cT,q,oB,c,e,a08,j,a0C (show i+1<1000000 by omega)]<;>rfl,t,u,ks++[k],rfl,by omega,by omega,by simp[p]⟩)
  (fun st h=>by
   obtain⟨f',a,ks,rfl,l,n,p⟩:=h;have d:decide (((o+1:Nat):Int)≤(o:Int))=false:=decide_eq_false (by omega);exact⟨_,by simp only[a2U,d,cF]<;>rfl,ks,rfl,p⟩) o 0 _ (by omega) ⟨f,g,[],rfl,rfl,v,rfl⟩
 subst r;exact⟨ks,j,s⟩
theorem b9S(h:l.all a0A=true)(t:l.length≤4096)(s:1≤o)(m:o≤32):∃ks:List Int,a5M (l,(o:Int))=some (ks,0)∧ks.length=o:=by
 have p:short l:=by unfold short;omega
 obtain⟨r,e,q⟩:=c1f h (by omega);have n:short r:=by unfold short;omega
 obtain⟨ks,i,j⟩:=b9R (f:=r) (g:=r) m rfl (by omega);have k:decide ((o:Int)<1)=false:=decide_eq_false (by omega);have a:decide ((o:Int) > 32)=false:=decide_eq_false (by omega);have b:decide (((l.length:Nat):Int) > 4096)=false:=decide_eq_false (by omega);have c:decide ((0:Int)≤(o:Int))=true:=by simp
 have d:lim o=true:=a0T (by omega);refine⟨ks,?_,j⟩;unfold a5M;simp only[k,a,b,c,d,cF,cT,oB,a5f p,h,bT,e,a7b n,tN,a03,i]
theorem b2a{σ β:Type}{f:σ→Option (σ ⊕ β)}(I:Nat→σ→Prop)(Q:β→Prop)(n:Nat)(a:∀i s,i<n→I i s→(∃s',f s=some (.inl s')∧I (i+1) s')∨(∃b,f s=some (.inr b)∧Q b))
  (g:∀s,I n s→∃b,f s=some (.inr b)∧Q b):∀(k i:Nat)(s:σ),i+k=n→I i s→∃b,x0r f s=some b∧Q b
 |0,i,s,h,hi=>by
  obtain rfl:i=n:=by omega
  obtain⟨b,c,d⟩:=g s hi;exact⟨b,a0I c,d⟩
 |k+1,i,s,h,hi=>by
  rcases a i s (by omega) hi with⟨s',c,d⟩|⟨b,c,d⟩;rw[a0J c];exact b2a I Q n a g k (i+1) s' (by omega) d;exact⟨b,a0I c,d⟩
theorem c1g(k:ks.length≤32):∃b,x0r a2c (ks,ks,(ks.length:Int),(0:Int),())=some b∧(b=.inl (ks,())∨b=.inr (([]:List Int),(1:Int),())):=
 b2a (f:=a2c) (fun i s=>s=(ks,ks,(ks.length:Int),(i:Int),())) (fun b=>b=.inl (ks,())∨b=.inr (([]:List Int),(1:Int),())) ks.length
  (fun i s g h=>by
   subst h;cases h1:decide (ks[i]<(-16383:Int))with
   |true=>exact Or.inr ⟨_,by simp only[a2c,dlt g,cT,a0B g,oB,h1]<;>rfl,Or.inr rfl⟩
   |false=>
    cases h2:decide (ks[i] > (16383:Int))with
    |true=>exact Or.inr ⟨_,by simp only[a2c,dlt g,cT,cF,a0B g,oB,h1,h2]<;>rfl,Or.inr rfl⟩
    |false=>exact Or.inl ⟨_,by simp only[a2c,dlt g,cT,cF,a0B g,oB,h1,h2,a0C (show i<1000000 by omega)]<;>rfl,rfl⟩)
  (fun s h=>by
   subst h;exact⟨_,by simp only[a2c,dge,cF]<;>rfl,Or.inl rfl⟩) ks.length 0 _ (by omega) rfl
theorem c1h{c a:List Int}(t:c.length=i)(u:i≤32):
  ∃g:List Int,x0r a3B (c,(i:Int),k,a,n,(i:Int),c,(c.length:Int),(0:Int),([]:List Int),())=some (k,a,n,(i:Int),g,())∧g.length=i:=by
 obtain⟨b,p,g,q,r⟩:=a6C (f:=a3B) (fun j s=>∃g:List Int,s=(c,(i:Int),k,a,n,(i:Int),c,(c.length:Int),(j:Int),g,())∧g.length=j)
  (fun b=>∃g:List Int,b=(k,a,n,(i:Int),g,())∧g.length=c.length) c.length
  (fun j s l h=>by
   obtain⟨g,rfl,e⟩:=h;have m:wrap .i64 ((i:Int)-1)=(i:Int)-1:=a0D (by omega);have o:wrap .i64 ((i:Int)-1-(j:Int))=((i-1-j:Nat):Int):=by rw[a0D (by omega)];omega
   have d:lim (g.length+1)=true:=a0T (by omega);exact⟨_,by simp only[a3B,dlt l,cT,a0B l,oB,m,o,a0B (show i-1-j<c.length by omega),d,a0C (show j<1000000 by omega),a08]<;>rfl,_,rfl,by simp[e]⟩)
  (fun s h=>by
   obtain⟨g,rfl,e⟩:=h;exact⟨_,by simp only[a3B,dge,cF]<;>rfl,g,rfl,e⟩) c.length 0 _ (by omega) ⟨[],rfl,rfl⟩
 subst q;exact⟨g,p,by omega⟩
theorem c2t(C:1≤ks.length)(w:ks.length≤32):∃c e,a7w ks=some (c,e)∧(e=0→c.length=ks.length):=by
 obtain⟨b,q,t⟩:=c1g w;have l:decide (((ks.length:Nat):Int)<1)=false:=decide_eq_false (by omega);have m:decide (((ks.length:Nat):Int) > 32)=false:=decide_eq_false (by omega);unfold a7w;simp only[l,m,cF,oB,q];rcases t with rfl|rfl;obtain⟨r,d,c,u,v⟩:=a6C (f:=a5e) (fun i s=>∃c:List Int,s=(c,ks,(ks.length:Int),(i:Int),())∧c.length=i) (fun r=>∃c:List Int,r=(c,())∧c.length=ks.length) ks.length
  (fun i s j h=>by
   obtain⟨c,rfl,g⟩:=h;have p:wrap .i64 ((i:Int)+1)=((i+1:Nat):Int):=a0C (by omega);have o:decide ((0:Int)≤((i+1:Nat):Int))=true:=by simp;omega
   have x:lim (i+1)=true:=a0T (by omega);obtain⟨B,z,A⟩:=c1h (c:=c) (a:=ks) (i:=i) (k:=ks[i]) (n:=(ks.length:Int)) g (by omega);have y:lim (B.length+1)=true:=a0T (by omega);exact⟨_,by simp only[a5e,dlt j,cT,a0B j,oB,p,o,tN,x,a03,z,y,a08]<;>rfl,_,rfl,by simp[A]⟩)
  (fun s h=>by
   obtain⟨c,rfl,g⟩:=h;exact⟨_,by simp only[a5e,dge,cF]<;>rfl,c,rfl,g⟩) ks.length 0 _ (by omega) ⟨[],rfl,rfl⟩
 subst u;simp only[nZ]at d;exact⟨c,0,by simp only[d,oB],fun _=>v⟩;exact⟨[],1,rfl,fun h=>absurd h (by decide)⟩
theorem c1i{c:List Int}{s:Nat}{half:Int}(m:c.length≤32)(e:w≤32):
  ∃out:List Int,x0r a2e (c,(w:Int),(s:Int),half,c,(c.length:Int),(0:Int),([]:List Int),())=some (c,(w:Int),(s:Int),out,()):=by
 obtain⟨b,i,out,l⟩:=b2a (f:=a2e) (fun j st=>∃out:List Int,st=(c,(w:Int),(s:Int),half,c,(c.length:Int),(j:Int),out,())∧out.length=j)
  (fun b=>∃out:List Int,b=(c,(w:Int),(s:Int),out,())) c.length
  (fun j st k h=>by
   obtain⟨out,rfl,d⟩:=h;have a:decide ((s:Int)<0)=false:=decide_eq_false (by omega);have g:lim (out.length+1)=true:=a0T (by omega);cases hf:a1x (z0h .i64 (wrap .i64 (c[j]+half)) (s:Int)) (w:Int)with
   |true=>exact Or.inl ⟨_,by simp only[a2e,dlt k,cT,a0B k,oB,a,cF,a5w e,hf,bT,g,a0C (show j<1000000 by omega),a08]<;>rfl,_,rfl,by simp[d]⟩
   |false=>exact Or.inr ⟨_,by simp only[a2e,dlt k,cT,a0B k,oB,a,cF,a5w e,hf,a18]<;>rfl,out,rfl⟩)
  (fun st h=>by
   obtain⟨out,rfl,d⟩:=h;exact⟨_,by simp only[a2e,dge,cF]<;>rfl,out,rfl⟩) c.length 0 _ (by omega) ⟨[],rfl,rfl⟩
 subst l;exact⟨out,i⟩
theorem c1j{c:List Int}{w:Int}(k:c.length≤32):∃b,x0r a2d (c,w,c,(c.length:Int),(0:Int),())=some b∧(b=.inl (c,w,())∨b=.inr ((0:Int),(1:Int),([]:List Int),())):=
 b2a (f:=a2d) (fun i s=>s=(c,w,c,(c.length:Int),(i:Int),())) (fun b=>b=.inl (c,w,())∨b=.inr ((0:Int),(1:Int),([]:List Int),())) c.length
  (fun i s g h=>by
   subst h;cases h1:decide (c[i]<(-35184372088832:Int))with
   |true=>exact Or.inr ⟨_,by simp only[a2d,dlt g,cT,a0B g,oB,h1]<;>rfl,Or.inr rfl⟩
   |false=>
    cases h2:decide (c[i] > (35184372088832:Int))with
    |true=>exact Or.inr ⟨_,by simp only[a2d,dlt g,cT,cF,a0B g,oB,h1,h2]<;>rfl,Or.inr rfl⟩
    |false=>exact Or.inl ⟨_,by simp only[a2d,dlt g,cT,cF,a0B g,oB,h1,h2,a0C (show i<1000000 by omega)]<;>rfl,rfl⟩)
  (fun s h=>by
   subst h;exact⟨_,by simp only[a2d,dge,cF]<;>rfl,Or.inl rfl⟩) c.length 0 _ (by omega) rfl
theorem c2u{c:List Int}(B:1≤c.length)(q:c.length≤32)(D:2≤w∧w≤16):∃o sh e,a7x (c,(w:Int))=some (o,sh,e)∧(e=0→o.length=c.length):=by
 obtain⟨b,y,z⟩:=c1j (w:=(w:Int)) q;have t:decide (((c.length:Nat):Int)<1)=false:=decide_eq_false (by omega);have u:decide (((c.length:Nat):Int) > 32)=false:=decide_eq_false (by omega);have v:decide ((w:Int)<2)=false:=decide_eq_false (by omega);have x:decide ((w:Int) > 16)=false:=decide_eq_false (by omega);unfold a7x;simp only[t,u,v,x,cF,oB,y];rcases z with rfl|rfl
 ·obtain⟨r,p,A⟩:=b2a (f:=a2f) (fun i s=>s=(c,(w:Int),(i:Int),())) (fun r=>r=.inl ()∨∃(sh:Int)(o:List Int),r=.inr (sh,(0:Int),o,())∧o.length=c.length) 15
   (fun i s C h=>by
    subst h;have d:decide ((i:Int)≤14)=true:=decide_eq_true (by omega);have j:decide ((0:Int)≤((c.length:Nat):Int))=true:=by simp
    have l:lim c.length=true:=a0T (by omega);have k:∀g:Int,∃o:List Int,x0r a2e (c,(w:Int),(i:Int),g,c,(c.length:Int),(0:Int),([]:List Int),())=some (c,(w:Int),(i:Int),o,()):=fun g=>c1i q (by omega)
    by_cases hp:(i:Int) > 0
    ·have n:wrap .i64 ((i:Int)-1)=(i:Int)-1:=a0D (by omega);have m:decide ((i:Int)-1<0)=false:=decide_eq_false (by omega);obtain⟨o,a⟩:=k (z0g .i64 1 ((i:Int)-1));cases hc:((((o.length:Nat):Int))==((c.length:Nat):Int))with
     |true=>exact Or.inr ⟨_,by simp only[a2f,d,cT,hp,decide_true,n,m,cF,oB,j,tN,l,a03,a,hc]<;>rfl,Or.inr ⟨_,o,rfl,by have:=beq_iff_eq.1 hc;omega⟩⟩
     |false=>exact Or.inl ⟨_,by simp only[a2f,d,cT,hp,decide_true,n,m,cF,oB,j,tN,l,a03,a,hc,a0C (show i<1000000 by omega)]<;>rfl,rfl⟩
    ·obtain⟨o,a⟩:=k 0;cases hc:((((o.length:Nat):Int))==((c.length:Nat):Int))with
     |true=>exact Or.inr ⟨_,by simp only[a2f,d,cT,hp,decide_false,cF,oB,j,tN,l,a03,a,hc]<;>rfl,Or.inr ⟨_,o,rfl,by have:=beq_iff_eq.1 hc;omega⟩⟩
     |false=>exact Or.inl ⟨_,by simp only[a2f,d,cT,hp,decide_false,cF,oB,j,tN,l,a03,a,hc,a0C (show i<1000000 by omega)]<;>rfl,rfl⟩)
   (fun s h=>by
    subst h;have d:decide (((15:Nat):Int)≤14)=false:=by decide
    exact⟨_,by simp only[a2f,d,cF]<;>rfl,Or.inl rfl⟩) 15 0 (c,(w:Int),(0:Int),()) (by omega) rfl
  rcases A with rfl|⟨sh,o,rfl,a⟩;exact⟨[],0,6,by simp only[p,oB],fun h=>absurd h (by decide)⟩;exact⟨o,sh,0,by simp only[p,oB],fun _=>a⟩
 exact⟨[],0,1,rfl,fun h=>absurd h (by decide)⟩
theorem c3m(q:l.all a0A=true)(p:l.length≤4096)(j:1≤o)(m:o≤32)(n:2≤w∧w≤16):∃c sh e,a3v (l,(o:Int),(w:Int))=some (c,sh,e)∧(e=0→c.length=o):=by
 obtain⟨ks,a,s⟩:=b9S q p j m;obtain⟨c,e,b,g⟩:=c2t (ks:=ks) (by omega) (by omega);unfold a3v;simp only[a,oB,show((0:Int) != 0)=false from rfl,cF,b]
 by_cases he:e=0
 subst he;obtain⟨r,sh,k,d,i⟩:=c2u (c:=c) (w:=w) (by have:=g rfl;omega) (by have:=g rfl;omega) n
 have:=g rfl
 exact⟨r,sh,k,by simp only[show((0:Int) != 0)=false from rfl,cF,d,oB],fun h=>by have:=i h;omega⟩;have f:(e != 0)=true:=by simpa using he
 exact⟨[],0,e,by simp only[f,cT],fun h=>absurd h he⟩
theorem c2v(c:l.length<100000)(d:o≤4):∃v,a8d (l,(o:Int))=some v:=by
 obtain⟨b,k,v,a⟩:=a6C (f:=a4g) (fun i s=>∃v:Int,s=((o:Int),v,l,(l.length:Int),(i:Int),())) (fun b=>∃v:Int,b=(v,())) l.length
  (fun i s g h=>by
   obtain⟨v,rfl⟩:=h;cases hc:decide (wrap .i64 ((i:Int)+(o:Int))≥4)with
   |true=>exact⟨_,by simp only[a4g,dlt g,cT,a0B g,oB,hc,a0C (show i<1000000 by omega)]<;>rfl,_,rfl⟩
   |false=>exact⟨_,by simp only[a4g,dlt g,cT,cF,a0B g,oB,hc,a0C (show i<1000000 by omega)]<;>rfl,_,rfl⟩)
  (fun s h=>by
   obtain⟨v,rfl⟩:=h;exact⟨_,by simp only[a4g,dge,cF]<;>rfl,v,rfl⟩) l.length 0 ((o:Int),(0:Int),l,(l.length:Int),(0:Int),()) (by omega) ⟨0,rfl⟩
 subst a;refine⟨v,?_⟩;unfold a8d;simp only[k,oB]
theorem b7e(k:o≤4)(b:l.length<100000)(a:l.all a0A=true):∃r e,a4e (l,(o:Int))=some (r,e)∧r.length≤l.length:=by
 by_cases hn:o≤l.length
 ·rw[b4G k hn (by unfold short;omega) a];cases (a1N o l).all a0A with
  |true=>exact⟨_,_,rfl,by rw[a4V];omega⟩
  |false=>exact⟨_,_,rfl,by simp⟩
 have h:decide ((o:Int)<0)=false:=decide_eq_false (by omega);have g:decide ((o:Int) > 4)=false:=decide_eq_false (by omega);have f:decide (((l.length:Nat):Int)<(o:Int))=true:=decide_eq_true (by omega);exact⟨[],1,by unfold a4e;simp only[h,g,f,cF,cT,oB],by simp⟩
theorem b7f(n:l.length<100000)(p:l.all a0A=true):∃o:Nat,a5m l=some (o:Int)∧o≤4:=by
 obtain⟨b,d,o,j,m⟩:=a6C (f:=a2E) (fun i s=>∃(o:Nat)(v:Int),s=(l,(o:Int),v,(i:Int),())∧o≤4) (fun b=>∃o:Nat,b=((o:Int),())∧o≤4) 5
  (fun i s t h=>by
   obtain⟨o,v,rfl,a⟩:=h;have g:decide ((i:Int)≤4)=true:=decide_eq_true (by omega);obtain⟨r,e,k,q⟩:=b7e (o:=i) (by omega) n p;obtain⟨y,c⟩:=c2v (l:=r) (o:=i) (by omega) (by omega);cases hc:(e != 0)with
   |true=>exact⟨_,by simp only[a2E,g,cT,k,oB,hc,a0C (show i<1000000 by omega)]<;>rfl,o,v,rfl,a⟩
   |false=>
    cases h4:decide (v<0)with
    |true=>exact⟨_,by simp only[a2E,g,cT,cF,k,oB,hc,c,h4,a0C (show i<1000000 by omega)]<;>rfl,i,y,rfl,by omega⟩
    |false=>
     cases h5:decide (y<v)with
     |true=>exact⟨_,by simp only[a2E,g,cT,cF,k,oB,hc,c,h4,h5,a0C (show i<1000000 by omega)]<;>rfl,i,y,rfl,by omega⟩
     |false=>exact⟨_,by simp only[a2E,g,cT,cF,k,oB,hc,c,h4,h5,a0C (show i<1000000 by omega)]<;>rfl,o,v,rfl,a⟩)
  (fun s h=>by
   obtain⟨o,v,rfl,a⟩:=h;have g:decide (((5:Nat):Int)≤4)=false:=by decide
   exact⟨_,by simp only[a2E,g,cF]<;>rfl,o,rfl,a⟩) 5 0 (l,(0:Int),(-1:Int),(0:Int),()) (by omega) ⟨0,-1,rfl,by omega⟩
 subst j;refine⟨o,?_,m⟩;unfold a5m;simp only[d,oB]
def a8h(g:List Int→Int):List Int→List Int→List Int
 | [],_=>[]
 |x::r,done=>W (x-g done)::a8h g r (done++[x])
theorem b2b(g:List Int→Int):∀r done,(a8h g r done).length=r.length
 | [],_=>rfl
 |x::r,done=>by simp[a8h,b2b g r]
theorem c3n(h:a0A x=true):W (W (x-g)+g)=x:=by
 have:=b5b h
 simp_all[a7a]
theorem b3V(g:List Int→Int):∀(r done:List Int),r.all a0A=true→a3J g (a8h g r done) done=some (done++r)
 | [],done,_=>by simp[a8h,a3J]
 |x::r,done,h=>by
  rw[a07,bA]at h;simp only[a8h,a3J,c3n h.1,h.1,cT,b3V g r (done++[x]) h.2,aA,a65]
def a9W(g:List Int→Int)(r done:List Int):Option (List Int):=bif (a8h g r done).all a0A then some (a8h g r done)else none
def b2B{β:Type}(g:List Int→Int)(bad:β)(a:List Int×List Int)(x:Int):(List Int×List Int) ⊕ β:=
 bif a0A (W (x-g a.1))then .inl (a.1++[x],a.2++[W (x-g a.1)])else .inr bad
theorem b3W{β:Type}(g:List Int→Int)(f:β)(k:List Int×List Int→β):∀(r done acc:List Int),
  a7G k (a2G (b2B g f) r (done,acc))=match a9W g r done with|some e=>k (done++r,acc++e)|none=>f
 | [],done,acc=>by grind[a2G,a7G,a9W,a8h]
 |x::r,done,acc=>by
  simp[a2G,b2B];cases h:a0A (W (x-g done))with
  |true=>
   simp
   rw[b3W g f k r];simp only[a9W,a8h,a07,h,a37]
   grind
  |false=>simp_all[a7G,a9W,a8h]
theorem b7g{g:List Int→Int}{done e:List Int}(h:a9W g r done=some e):e=a8h g r done∧e.all a0A=true:=by
 unfold a9W at h
 grind
theorem b8r(h:i<l.length):l.take i++[l[i]]=l.take (i+1):=by simp
theorem b3X{l:List Int}{p:Int→Bool}(h:l.all p=true)(i:Nat):(l.take i).all p=true:=by
 grind
theorem c4g{p:Int→Bool}(h:l.all p=true)(i:Nat):(l.drop i).all p=true:=by
 grind
theorem b8s{σ β:Type}{f:σ→Option (σ ⊕ β)}(l:List Int)(k:Nat)(r:k≤l.length)(S:Nat→List Int→σ)(g:List Int×List Int→Int→(List Int×List Int) ⊕ β)(d:List Int→β)
  (j:∀i (h:i<l.length) c,k≤i→c.length=i-k→(∀a',g (l.take i,c) l[i]=.inl a'→f (S i c)=some (.inl (S (i+1) a'.2))∧a'.1=l.take (i+1)∧a'.2.length=i+1-k)∧(∀b,g (l.take i,c) l[i]=.inr b→f (S i c)=some (.inr b)))
  (e:∀c,c.length=l.length-k→f (S l.length c)=some (.inr (d c))):x0r f (S k [])=some (a7G (fun a=>d a.2) (a2G g (l.drop k) (l.take k,[]))):=by
 have h:=a1Q (f:=f) (l.drop k) (fun i a=>S (k+i) a.2) g (fun i a=>a.1=l.take (k+i)∧a.2.length=i) (fun a=>d a.2)
  (fun i p a n=>by
   obtain⟨a1,c⟩:=a;obtain⟨m,o⟩:=n;simp only at m o;subst m;rw[a25]at p;have q:k+i<l.length:=by omega
   grind)
  (fun a n=>by
   simp_all) (a:=(l.take k,[])) ⟨by simp,rfl⟩
 omega
def b3Y(l c:List Int)(s:Int):Option (List Int):=bif l.all a0A then a9W (a9o c s) (l.drop c.length) (l.take c.length)else none
theorem b3y{c:List Int}{s:Int}(w:a7H c s=true)(u:c.length≤l.length)(z:l.length<100000):
  a6k (l,c,s)=some (a4t (b3Y l c s)):=by
 have n:short l:=by unfold short;omega
 have k:short c:=by unfold short;omega
 have e:0≤s:=by simp_all[a7H]
 have p:decide (((l.length:Nat):Int)<((c.length:Nat):Int))=false:=by simp_all
 unfold a6k b3Y;simp only[a8e k,w,oB,bT,cF,p,a5f n];cases hw:l.all a0A with
 |false=>rfl
 |true=>
  have q:wrap .i64 (((l.length:Nat):Int)-((c.length:Nat):Int))=((l.length-c.length:Nat):Int):=by grind[a0D]
  have y:decide ((0:Int)≤((l.length-c.length:Nat):Int))=true:=by simp
  have r:lim (l.length-c.length)=true:=a0T (by omega);simp[q,r]
  have:=b8s (f:=a4f) l c.length u (fun i h=>(l,c,s,(i:Int),h,())) (b2B (a9o c s) (.inr ((6:Int),([]:List Int),()))) (fun h=>.inl (h,()))
   (fun i a h v d=>by
    have o:short (l.take i):=by unfold short;grind
    have j:decide ((0:Int)≤(i:Int))=true:=by simp
    have m:decide ((i:Int)≤((l.length:Nat):Int))=true:=by grind
    have t:lim (h.length+1)=true:=a0T (by omega);constructor
    ·intro x g;unfold b2B at g;cases hq:a0A (W (l[i]-a9o c s (l.take i)))with
     |false=>simp_all
     |true=>
      simp only[hq,cT,Sum.inl.injEq]at g;subst g;refine⟨?_,b8r a,by grind⟩;simp only[a4f,dlt a,cT,a0B a,oB,j,m,a03,tN,b3M o k e,a5s,hq,bT,cF,t,a0C (a45 a n),a08]
    ·intro b hb;unfold b2B at hb;cases hq:a0A (W (l[i]-a9o c s (l.take i)))with
     |true=>simp_all
     |false=>
      simp[hq]at hb;subst hb;simp only[a4f,dlt a,cT,a0B a,oB,j,m,a03,tN,b3M o k e,a5s,hq,a18])
   (fun h d=>by simp[a4f])
  rw[this,b3W];cases a9W (a9o c s) (l.drop c.length) (l.take c.length)<;>rfl
theorem b3Z{c:List Int}{s:Int}(h:b3Y l c s=some r):b1P (l.take c.length) r c s=some l∧r.all a0A=true∧r.length=l.length-c.length:=by
 unfold b3Y at h;cases hw:l.all a0A with
 |false=>simp_all
 |true=>
  simp[hw]at h;obtain⟨e,g⟩:=b7g h;refine⟨?_,g,by simp_all[b2b]⟩;simp[b1P,b3X hw,g]
  grind[b3V,List.take_append_drop]
def b3z(l:List Int)(lag:Int)(t:List Int):Option (List Int):=bif l.all a0A then a9W (a8f lag t) l []else none
theorem b9T{t:List Int}{lag:Int}(p:a9R lag t=true)(d:t.length=3)(s:l.length<100000):
  a7Q (l,lag,t)=some (a4t (b3z l lag t)):=by
 have c:short l:=by unfold short;omega
 obtain⟨j,m⟩:2≤lag∧lag≤1024:=by simp_all[a9R]
 unfold a7Q b3z;simp only[b2S d,p,oB,bT,cF,b2q c];cases hw:l.all a0A with
 |false=>rfl
 |true=>
  have r:decide ((0:Int)≤((l.length:Nat):Int))=true:=by simp
  have e:lim l.length=true:=a0T (by omega);simp[e]
  have:=b8s (f:=a5l) l 0 (Nat.zero_le _) (fun i h=>(l,lag,l,(l.length:Int),(i:Int),h,t,())) (b2B (a8f lag t) (.inr ((6:Int),([]:List Int),()))) (fun h=>.inl (h,()))
   (fun i a h o k=>by
    have n:lim (h.length+1)=true:=a0T (by omega);have hp:=b2t (lag:=lag) (t:=t) (Nat.le_of_lt a) c d j m;constructor
    ·intro q g;unfold b2B at g;cases hq:a0A (W (l[i]-a8f lag t (l.take i)))with
     |false=>simp_all
     |true=>
      simp only[hq,cT,Sum.inl.injEq]at g;subst g;refine⟨?_,b8r a,by simp_all⟩;simp only[a5l,dlt a,cT,a0B a,oB,hp,a6Z,hq,bT,cF,n,a0C (a45 a c),a08]
    ·intro b hb;unfold b2B at hb;cases hq:a0A (W (l[i]-a8f lag t (l.take i)))with
     |true=>simp_all
     |false=>
      simp_all[a5l,a0B,a6Z])
   (fun h k=>by simp[a5l])
  simp only[nZ]at this;rw[this,b3W,a27,List.take_zero];cases a9W (a8f lag t) l []<;>rfl
theorem b5f{t:List Int}{lag:Int}(h:b3z l lag t=some r):b2u r lag t=some l∧r.all a0A=true∧r.length=l.length:=by
 unfold b3z at h;cases hw:l.all a0A with
 |false=>simp_all
 |true=>
  simp[hw]at h;obtain⟨e,g⟩:=b7g h;refine⟨?_,g,by rw[e,b2b]⟩;simp[b2u,g];simp_all[b3V]
def rsG:List Int→Fil→List Int
 | [],_=>[]
 |x::r,f=>W (x-a1h f)::rsG r (b1n f x)
theorem b4a:∀r f,(rsG r f).length=r.length
 | [],_=>rfl
 |x::r,f=>by simp[rsG,b4a r]
def rsO:List Int→List Int→Fil→Option (List Int)
 | [],done,_=>some done
 |x::r,done,f=>bif a0A (W (x-a1h f))then rsO r (done++[W (x-a1h f)]) (b1n f x)else none
theorem c3o:∀(r done:List Int)(f:Fil),rsO r done f=bif (rsG r f).all a0A then some (done++rsG r f)else none
 | [],done,f=>by simp[rsO,rsG]
 |x::r,done,f=>by
  simp only[rsO,rsG,a07];cases a0A (W (x-a1h f))with
  |false=>rfl
  |true=>simp only[cT,a37,c3o r,aA,a65]
theorem c1y:∀(r z:List Int)(f:Fil),r.all a0A=true→stO (rsG r f) z f=some (z++r)
 | [],z,f,_=>by simp[rsG,stO]
 |x::r,z,f,h=>by
  rw[a07,bA]at h;have e:W (a1h f+W (x-a1h f))=x:=by rw[Int.add_comm];exact c3n h.1
  simp only[rsG,stO,e,h.1,cT,c1y r _ _ h.2,aA,a65]
theorem b2C{row:List Int}{a:List Stg}{b c:Int}(l:short row):∀(k i:Nat)(done:List Int)(f:Fil),i+k=row.length→done.length=i→FilOk f→
  x0r a4J (a,b,c,(row.length:Int),(i:Int),done++row.drop i,f,())=some (match rsO (row.drop i) done f with
   |some r=>.inl (a,b,c,r,())
   |none=>.inr ((6:Int),([]:List Int),()))
 |0,i,done,f,h,hd,hf=>by
  obtain rfl:i=row.length:=by omega
  rw[a64,a36];exact a0I (b:=Sum.inl (a,b,c,done,())) (by simp[a4J])
 |k+1,i,done,f,h,hd,hf=>by
  have g:i<row.length:=by omega
  have n:row.length<1000000:=l;have e:decide ((0:Int)≤(i:Int))=true:=by simp
  have m:(done++row.drop i).length=row.length:=by simp;omega
  have j:decide ((i:Int)<(((done++row.drop i).length:Nat):Int))=true:=by rw[m];simp;omega
  have d:rsO (row.drop i) done f=bif a0A (W (row[i]-a1h f))then rsO (row.drop (i+1)) (done++[W (row[i]-a1h f)]) (b1n f row[i])else none:=by
   rw[a05 g];rfl
  rw[d];cases hw:a0A (W (row[i]-a1h f))with
  |true=>
   rw[a0J (s':=(a,b,c,(row.length:Int),((i+1:Nat):Int),(done++[W (row[i]-a1h f)])++row.drop (i+1),b1n f row[i],())) (by
    simp only[a4J,dlt g,e,j,cT,a03,a5t hf,oB,tN,b2v hd g,a4A,hw,bT,cF,b4B hf,b9z hd g,a0C (show i<1000000 by omega)])]
   exact b2C l k (i+1) _ _ (by omega) (by simp;omega) (b9y hf _)
  |false=>
   exact a0I (by
    simp only[a4J,dlt g,e,j,cT,a03,a5t hf,oB,tN,b2v hd g,a4A,hw,a18];rfl)
def lRO:List Stg→List Int→Option (List Int)
 | [],row=>some row
 |s::r,row=>match rsO row [] (a8S s)with
  |some row'=>lRO r row'
  |none=>none
theorem b9U{row:List Int}{f:Fil}(h:rsO row [] f=some d):d=rsG row f∧d.all a0A=true:=by
 rw[c3o]at h;cases hc:(rsG row f).all a0A with
 |true=>simp only[hc,cT,a04,sj]at h;subst h;exact⟨rfl,hc⟩
 |false=>simp[hc]at h
theorem b8t:∀(a b:List Stg)(row:List Int),lO (a++b) row=match lO a row with|some r=>lO b r|none=>none
 | [],b,row=>rfl
 |s::a,b,row=>by
  simp only[a66,lO];split;exact b8t a b _;rfl
theorem b9V:∀(st:List Stg)(row d:List Int),row.all a0A=true→lRO st row=some d→lO st.reverse d=some row∧d.all a0A=true∧d.length=row.length
 | [],row,d,hw,h=>by
  simp only[lRO,sj]at h;subst h;exact⟨rfl,hw,rfl⟩
 |s::st,row,d,hw,h=>by
  simp only[lRO]at h
  split at h
  rename_i g c;obtain⟨e,f⟩:=b9U c;obtain⟨k,a,b⟩:=b9V st g d f h;refine⟨?_,a,by rw[b,e,b4a]⟩;rw[List.reverse_cons,b8t,k];simp only[lO];rw[e,c1y row [] _ hw,a04];cases h
theorem b0Z{st:List Stg}(i:∀s∈st,stageB s=true)(l:st.length≤3):∀(j k:Nat)(row:List Int),k+j=st.length→short row→
  x0r a4K (st,(st.length:Int),(k:Int),row,())=some (match lRO (st.drop k) row with
   |some r=>.inl (r,())
   |none=>.inr ((6:Int),([]:List Int),()))
 |0,k,row,h,hs=>by
  obtain rfl:k=st.length:=by omega
  rw[a64];exact a0I (by simp[a4K,lRO])
 |j+1,k,row,h,hs=>by
  have f:k<st.length:=by omega
  have g:=i _ (a06 f);have d:=b2C (a:=st) (b:=(st.length:Int)) (c:=(k:Int)) hs row.length 0 [] (a8S st[k]) (by omega) rfl (c1w g);simp only[nZ,a27,a04]at d;have e:((0:Int) != 0)=false:=rfl;rw[a05 f];simp only[lRO];cases hr:rsO row [] (a8S st[k])with
  |some r=>
   rw[hr]at d;rw[a0J (s':=(st,(st.length:Int),((k+1:Nat):Int),r,())) (by simp only[a4K,dlt f,cT,a0B f,oB,b1R g,e,cF,d,a0C (show k<1000000 by omega)])];exact b0Z i l j (k+1) r (by omega) (by have:=(b9U hr).1;unfold short at hs⊢;rw[this,b4a];exact hs)
  |none=>
   rw[hr]at d;exact a0I (by simp only[a4K,dlt f,cT,a0B f,oB,b1R g,e,cF,d])
def b1r(l:List Int)(st:List Stg):Option (List Int):=bif l.all a0A then lRO st l else none
theorem b9a{st:List Stg}(k:a7S st=true)(a:l.length<100000):a8O (l,st)=some (a4t (b1r l st)):=by
 have h:=k;simp only[a7S,bA,dT]at h;have f:short st:=by unfold short;omega
 have g:short l:=by unfold short;omega
 unfold a8O b1r;simp only[b1O f,k,oB,bT,cF,b1N g];cases hw:l.all a0A with
 |false=>rfl
 |true=>
  have:=b0Z (lA.1 h.2) h.1 st.length 0 l (by omega) g
  simp only[nZ,a27]at this;simp only[bT,cF,cT,a7b g,oB,this];cases lRO st l<;>rfl
theorem b7h{st:List Stg}(h:b1r l st=some r):b0G r st=some l∧r.all a0A=true∧r.length=l.length:=by
 unfold b1r at h;cases hw:l.all a0A with
 |false=>simp[hw]at h
 |true=>
  simp only[hw,cT]at h;obtain⟨f,g,k⟩:=b9V st l r hw h;exact⟨by simp only[b0G,g,cT,f],g,k⟩
theorem p64{w:Nat}(h:w≤64):((2^w:Nat):Int) ∣ 18446744073709551616:=a26.2 (a71 2 h)
theorem c6z(n:Int):∃q,wrap .i64 n=n+18446744073709551616*q:=by
 rw[a7a,Int.bmod];split;exact⟨-(n / 18446744073709551616),by omega⟩;exact⟨-(n / 18446744073709551616)-1,by omega⟩
theorem c4h(h:w≤64)(n:Int):((2^w:Nat):Int) ∣ wrap .i64 n↔((2^w:Nat):Int) ∣ n:=by
 obtain⟨q,g⟩:=c6z n;rw[g]
 grind[a81,a56,p64]
theorem b8u(h:w≤64)(a:Int):2^w ∣ (a02 64 a).toNat↔((2^w:Nat):Int) ∣ a:=by
 have e:(((a02 64 a).toNat:Nat):Int)=a+18446744073709551616*-(a / 18446744073709551616):=by
  rw[a33];omega
 rw[←a26,e]
 grind[a81,a56,p64]
theorem c2w(w x y:Nat):2^w ∣ (x ||| y)↔2^w ∣ x∧2^w ∣ y:=by
 simp_all[Nat.dvd_iff_mod_eq_zero,Nat.or_mod_two_pow]
theorem c6A(h:w≤64)(a b:Int):((2^w:Nat):Int) ∣ bits .i64 .or a b↔((2^w:Nat):Int) ∣ a∧((2^w:Nat):Int) ∣ b:=by
 show((2^w:Nat):Int) ∣ wrap .i64 ((((a02 64 a) ||| (a02 64 b)).toNat:Nat):Int)↔_;rw[c4h h,a26,a52,c2w,b8u h,b8u h]
def orI(l:List Int)(a:Int):Int:=l.foldl (fun a x=>bits .i64 .or a x) a
theorem b3A{w:Nat}(h:w≤64):∀(l:List Int)(a:Int),((2^w:Nat):Int) ∣ orI l a↔((2^w:Nat):Int) ∣ a∧∀x∈l,((2^w:Nat):Int) ∣ x
 | [],a=>by simp[orI]
 |x::l,a=>by
  show((2^w:Nat):Int) ∣ orI l (bits .i64 .or a x)↔_;rw[b3A h l,c6A h];simp_all[and_assoc]
theorem b9W:∀(l:List Int),(∀x∈l,x=0)→orI l 0=0
 | [],_=>rfl
 |x::l,h=>by
  have g:=h x (a73);subst g;show orI l (bits .i64 .or 0 0)=0;rw[show bits .i64 .or 0 0=0 from by rfl];simp_all[b9W]
theorem c6B(k:l.all a0A=true)(h:∃x∈l,x≠0):orI l 0≠0:=by
 intro e;obtain⟨x,g,f⟩:=h;have b:=((b3A (w:=62) (by omega) l 0).1 (by omega)).2 x g;have a:=a1G.1 (lA.1 k x g);omega
def a7z(l:List Int)(w:Nat):Prop:=
 ((∀x∈l,x=0)∧w=0)∨((∃x∈l,x≠0)∧w≤30∧(∀x∈l,((2^w:Nat):Int) ∣ x)∧(w=30∨∃x∈l,¬ ((2^(w+1):Nat):Int) ∣ x))
theorem c2x{v w:Nat}(h:v≤w){x:Int}(g:((2^w:Nat):Int) ∣ x):((2^v:Nat):Int) ∣ x:=
 Int.dvd_trans (a26.2 (a71 2 h)) g
theorem a7z.unique(hv:a7z l v)(g:a7z l w):v=w:=by
 have d:∀{v w:Nat},v≤30→w≤30→(∀x∈l,((2^w:Nat):Int) ∣ x)→(v=30∨∃x∈l,¬ ((2^(v+1):Nat):Int) ∣ x)→w≤v:=by
  grind[c2x]
 rcases hv with⟨f,hv⟩|⟨⟨x,c,h⟩,hv1,hv2,hv3⟩
 ·rcases g with⟨-,g⟩|⟨⟨x,c,h⟩,-⟩
  all_goals grind
 ·rcases g with⟨f,-⟩|⟨-,k,a,b⟩
  all_goals grind
theorem b9X:∀(n N:Nat),N≤n→0<N→∃k m,N=2^k*(2*m+1)
 |0,N,h,h0=>absurd h0 (by omega)
 |n+1,N,h,h0=>by
  by_cases he:N%2=0
  obtain⟨k,m,e⟩:=b9X n (N / 2) (by omega) (by omega);refine⟨k+1,m,?_⟩;rw[a57,a97 (2^k) 2,a93,←e];omega;exact⟨0,N / 2,by omega⟩
theorem c5G{k:Nat}(h:2^k*(2*m+1)<2^64):(2^k*(2*m+1)) &&& (2^64-2^k*(2*m+1))=2^k:=by
 have hp:1≤2^k:=Nat.one_le_two_pow;have n:k<64:=by
  refine b06 fun g=>?_
  have d:2^64≤2^k:=a16 (by simp) g
  grind
 have e:2^k*(2*m+1)=(2^k*(2*m)+(2^k-1))+1:=by grind
 have l:2^k*(2*m)+(2^k-1)<2^64:=by omega
 refine Nat.eq_of_testBit_eq fun i=>?_
 have a:(2^64-2^k*(2*m+1)).testBit i=(decide (i<64)&&!(2^k*(2*m)+(2^k-1)).testBit i):=by
  rw[e];exact Nat.testBit_two_pow_sub_succ l i
 have f:=a72 (2*m+1) (b:=0) (i:=k) (by omega) i;rw[a84]at f;have c:=a72 (2*m) (b:=2^k-1) (i:=k) (by omega) i;rw[Nat.testBit_and,a,f,c,Nat.testBit_two_pow]
 by_cases d:i<k
 grind
 by_cases h2:k=i
 simp_all;obtain⟨j,rfl⟩:∃j,i=k+(j+1):=⟨i-k-1,by omega⟩;have o:k+(j+1)-k=j+1:=by omega
 have p:(2*m+1) / 2=m:=by omega
 simp_all[Nat.testBit_succ]
theorem c4i:∀k:Nat,k<64→a9w[(2^k*285870213051353865)%18446744073709551616 / 288230376151711744]?=some (k:Int):=by
 have h:∀k:Fin 64,a9w[(2^k.val*285870213051353865)%18446744073709551616 / 288230376151711744]?=some (k.val:Int):=by decide
 exact fun k g=>h ⟨k,g⟩
theorem c1k{k:Nat}:¬ 2^(k+1) ∣ 2^k*(2*m+1):=by
 rintro⟨c,h⟩
 rw[a57,a93]at h
 grind[Nat.eq_of_mul_eq_mul_left]
theorem c4j(d:0<N)(h:N<18446744073709551616):∃k:Nat,a1z (N:Int)=some (k:Int)∧2^k ∣ N∧¬ 2^(k+1) ∣ N:=by
 obtain⟨k,m,e⟩:=b9X N N (a28 _) d;have n:2^k≤N:=by grind
 have i:k<64:=by
  refine b06 fun g=>?_
  have l:2^64≤2^k:=a16 (by simp) g;omega
 refine⟨k,?_,⟨_,e⟩,e▸c1k⟩;have hb:bits .u64 .and (N:Int) (wrap .u64 (0-(N:Int)))=((2^k:Nat):Int):=by
  have b:wrap .u64 (0-(N:Int))=((18446744073709551616-N:Nat):Int):=by
   grind[wrap,IntKind.bits,IntKind.signed]
  rw[b];show wrap .u64 (((a02 64 (N:Int)) &&& (a02 64 ((18446744073709551616-N:Nat):Int))).toNat:Int)=_;rw[a48,a48,a82,a55,a55,a40 h,a40 (by omega)]
  have:=c5G (k:=k) (m:=m) (by omega)
  rw[←e]at this;rw[show(18446744073709551616:Nat)=2^64 from rfl,this];exact a0P (by omega)
 have j:((N:Int)==0)=false:=by grind
 unfold a1z;rw[hb,j,cF];have f:wrap .u64 (((2^k:Nat):Int)*285870213051353865)=(((2^k*285870213051353865)%18446744073709551616:Nat):Int):=by
  rfl
 have a:=c4i k i;generalize (2^k*285870213051353865)%18446744073709551616=M at f a;have c:=a5C (N:=M) (o:=58) (by omega);rw[f,show(58:Int)=((58:Nat):Int)from rfl,c,show 2^58=288230376151711744 from rfl];generalize M / 288230376151711744=J at a
 grind[a0B,a0D]
theorem c4k{n:Nat}(g:n≤62)(c:Int):z0h .i64 (((2^n:Nat):Int)*c) (n:Int)=c:=by
 have hp:0<2^n:=a19 n;have e:min (a23 (n:Int)) (IntKind.bits .i64)=n:=by grind[IntKind.bits]
 have h:((2^n:Nat):Int)=2^n:=by simp
 unfold z0h
 grind[a79]
theorem c1z{l:List Int}(f:short l):∀(k i:Nat)(a:Int),i+k=l.length→x0r a4H (a,l,(l.length:Int),(i:Int),())=some (orI (l.drop i) a,())
 |0,i,a,h=>by
  obtain rfl:i=l.length:=by omega
  simp_all[a0I,a4H,orI]
 |k+1,i,a,h=>by
  have g:i<l.length:=by omega
  have b:l.length<1000000:=f;rw[a05 g,a0J (s':=(bits .i64 .or a l[i],l,(l.length:Int),((i+1:Nat):Int),())) (by
   simp only[a4H,dlt g,cT,a0B g,oB,a0C (show i<1000000 by omega)])]
  exact c1z f k (i+1) _ (by omega)
theorem c1l{l:List Int}{r:Nat}(g:r≤30)(h:r=30∨¬ ((2^(r+1):Nat):Int) ∣ orI l 0):r=30∨∃x∈l,¬ ((2^(r+1):Nat):Int) ∣ x:=by
 grind[b3A,a98]
theorem b6s{l:List Int}(y:short l)(j:l.all a0A=true):∃w:Nat,a3o l=some (w:Int)∧w≤30∧a7z l w:=by
 have a:=c1z y l.length 0 0 (by omega);simp at a;unfold a3o;simp[a]
 by_cases hz:∀x∈l,x=0
 have e:=b9W l hz;exact⟨0,by simp_all,by omega,.inl ⟨hz,rfl⟩⟩
 ·have g:∃x∈l,x≠0:=Classical.byContradiction fun m=>hz fun x g=>Classical.byContradiction fun s=>m ⟨x,g,s⟩;have t:=c6B j g;have n:(orI l 0==0)=false:=by simp_all
  obtain⟨q,u⟩:∃q,wrap .u64 (orI l 0)=orI l 0+18446744073709551616*q:=⟨-(orI l 0 / 18446744073709551616),by
   grind[wrap,IntKind.bits,IntKind.signed]⟩
  obtain⟨B,r2⟩:=b5Y (orI l 0);obtain⟨N,d⟩:=a00 B;have b:∀v,v≤64→(2^v ∣ N↔((2^v:Nat):Int) ∣ orI l 0):=fun v hv=>by
   rw[←a26,←d,u]
   grind[a81,a56,p64]
  have h:0<N:=by
   refine Nat.pos_of_ne_zero fun C=>?_
   obtain⟨x,f,A⟩:=g;have E:=((b3A (w:=62) (by omega) l 0).1 ((b 62 (by omega)).1 (by omega))).2 x f;have z:=a1G.1 (lA.1 j x f);omega
  obtain⟨k,p,c,r⟩:=c4j h (by omega);have i:k≤63:=by
   refine Nat.le_of_not_lt fun o=>?_
   have a:2^64≤2^k:=a16 (by simp) (by omega)
   have:=Nat.le_of_dvd h c
   omega
  simp only[n,cF,d,p,oB];have D:v0a (k:Int) 30=((min k 30:Nat):Int):=by rw[c1v];omega
  refine⟨min k 30,by grind,by omega,.inr ⟨g,by omega,?_,?_⟩⟩
  all_goals grind[b3A,Nat.dvd_trans,a71,c1l]
theorem c5H(g:w≤30)(d:l.all a0A=true)(h:a7z l w):a8X (w:Int) l=some (l.map fun x=>z0h .i64 x (w:Int)):=by
 have f:∀x∈l,((2^w:Nat):Int) ∣ x:=by
  rcases h with⟨h,-⟩|⟨-,-,h,-⟩
  all_goals grind[a98]
 have:l.all (a9U (w:Int))=true:=by
  rw[lA];intro x k;obtain⟨c,a⟩:=f x k;have b:a34 x (z0g .i64 1 (w:Int))=0:=by simp_all[b9M]
  simp_all[a9U]
 simp only[a8X,this,cT]
def b5g(k:Nat)(l:List Int):Nat:=(l.map (a4q k)).sum
def rbN(l:List Int):Nat→Nat
 |0=>0
 |i+1=>if b5g (i+1) l<b5g (rbN l i) l then i+1 else rbN l i
theorem b9Y(l:List Int):∀i,rbN l i≤i
 |0=>a28 _
 |i+1=>by
  have:=b9Y l i
  simp only[rbN]
  split<;>omega
theorem b4b{k:Nat}(h:k≤25)(f:l.all a0A=true)(g:l.length<10000):a2Z ((k:Int),l)=some ((b5g k l:Nat):Int):=b5Z h f g
theorem c6C(h:a<b):decide ((a:Int)<(b:Int))=true:=decide_eq_true (by omega)
theorem c2y(h:¬ a<b):decide ((a:Int)<(b:Int))=false:=decide_eq_false (by omega)
theorem b5h(g:l.all a0A=true)(h:l.length<10000):a9N l=some ((rbN l 25:Nat):Int):=by
 have:=a2F (f:=a7u) (fun i:Nat=>(l,((rbN l i:Nat):Int),((b5g (rbN l i) l:Nat):Int),((i+1:Nat):Int),())) 25 (b:=(((rbN l 25:Nat):Int),()))
  (fun i n=>by
   have a:decide (((i+1:Nat):Int)≤25)=true:=decide_eq_true (by omega);have d:wrap .i64 (((i+1:Nat):Int)+1)=((i+1+1:Nat):Int):=a0C (by omega);have c:=b4b (k:=i+1) (by omega) g h
   by_cases hlt:b5g (i+1) l<b5g (rbN l i) l
   simp_all[a7u,rbN];simp only[a7u,a,cT,cF,c,oB,d,c2y hlt,rbN,hlt,if_false])
  (by
   rfl)
 have m:=b4b (k:=0) (by omega) g h;have j:((0+1:Nat):Int)=1:=rfl;have e:rbN l 0=0:=rfl;simp_all[a9N]
def b1s(l:List Int):Int:=if 5+a0G l*l.length<b5g (rbN l 25) l then 31 else((rbN l 25:Nat):Int)
theorem c2z(l:List Int):kB (b1s l)=true:=by
 have:=b9Y l 25
 unfold b1s;split;rfl;simp only[kB,a30,bA,dT];omega
theorem b7i(g:l.all a0A=true)(h:l.length<10000):a7v l=some (b1s l):=by
 have a:=b9Y l 25;have f:=b4b (k:=rbN l 25) a g h;unfold a7v b1s
 by_cases hlt:5+a0G l*l.length<b5g (rbN l 25) l
 simp only[b5h g h,b1Y h,f,oB,c6C hlt,cT,hlt,if_true];simp only[b5h g h,b1Y h,f,oB,c2y hlt,cF,hlt,if_false]
def a2y:List Nat→List Int→List Int
 | [],_=>[]
 |z::zs,l=>b1s (l.take z)::a2y zs (l.drop z)
theorem b3B:∀zs l,(a2y zs l).length=zs.length
 | [],_=>rfl
 |z::zs,l=>by simp[a2y,b3B zs]
theorem b7j:∀zs l,(a2y zs l).all kB=true
 | [],_=>rfl
 |z::zs,l=>by simp[a2y,b7j zs,c2z]
theorem b4I{zn:List Nat}{n warm most least order:Int}{L:List Int}{a b:Prt}(m:zn.length≤256):∀(j i:Nat)(rest ks:List Int),i+j=zn.length→(zn.drop i).sum=rest.length→rest.all a0A=true→rest.length≤5000→ks.length=i→
  x0r a6P (n,warm,most,L,least,order,rest,((zn.length:Nat):Int),(i:Int),a1m zn,a,b,(order,ks,()),())=some (n,warm,most,L,least,order,a,b,(order,ks++a2y (zn.drop i) rest,()),())
 |0,i,rest,ks,h,_,_,_,_=>by
  obtain rfl:i=zn.length:=by omega
  simp_all[a0I,a6P,a2y]
 |j+1,i,rest,ks,h,hr,hwr,hr5,hki=>by
  have g:i<zn.length:=by omega
  rw[b3R g]at hr;have k:decide ((0:Int)≤(i:Int))=true:=by simp
  have c:decide ((i:Int)<(((a1m zn).length:Nat):Int))=true:=by simp_all[a1t]
  have d:decide ((0:Int)≤((zn[i]:Nat):Int))=true:=by simp
  have e:decide (((zn[i]:Nat):Int)≤((rest.length:Nat):Int))=true:=by grind
  have l:=b7i (b3X hwr zn[i]) (by grind);have f:lim (ks.length+1)=true:=a0T (by omega);rw[a05 g,a0J (s':=(n,warm,most,L,least,order,rest.drop zn[i],((zn.length:Nat):Int),((i+1:Nat):Int),a1m zn,a,b,(order,ks++[b1s (rest.take zn[i])],()),())) (by
   simp only[a6P,dlt g,k,c,a7d g,d,e,cT,a03,tN,l,oB,f,a24,a0C (show i<1000000 by omega),a08])]
  rw[b4I m j (i+1) _ _ (by omega) (by grind) (c4g hwr _) (by grind) (by simp_all)];simp_all[a2y]
def zsN(o n warm:Int):List Nat:=(a1I o n warm).map a23
def b1o(o n warm:Int)(l:List Int):Prt:=(o,a2y (zsN o n warm) l,())
def b7k(o n warm:Int)(l:List Int):Nat:=4+a3E (zsN o n warm) (a2y (zsN o n warm) l) l
def a1A(n warm:Int)(l:List Int):Nat→Prt×Nat
 |0=>((0,[],()),0)
 |i+1=>if(a1I (i:Int) n warm).length=0 then a1A n warm l i else
   if(a1A n warm l i).2=0∨b7k (i:Int) n warm l<(a1A n warm l i).2 then(b1o (i:Int) n warm l,b7k (i:Int) n warm l)else a1A n warm l i
def b5r(n warm:Int)(l:List Int):Prt:=(a1A n warm l 7).1
theorem c1A(b:(a1I (o:Int) n warm).length≠0)(a:(l.length:Int)=n-warm)(c:l.all a0A=true)(k:l.length≤5000):
  ∃h,a1I (o:Int) n warm=a1m h∧zsN (o:Int) n warm=h∧h.length≤256∧h.sum=l.length∧a4P (b1o (o:Int) n warm l) n warm=true∧PartsOk (b1o (o:Int) n warm l) n warm l h:=by
 obtain⟨h,e,i,j⟩:=b2V b;have d:zsN (o:Int) n warm=h:=by simp_all[zsN,b2W]
 have hp:a4P (b1o (o:Int) n warm l) n warm=true:=by
  simp only[a4P,b1o,bA,a29,beq_eq_false_iff_ne,ne_eq,beq_iff_eq];simp_all[a1t,b3B,b7j]
 obtain⟨f,g⟩:=PartsOk.of hp a c k
 have:f=h:=by
  have m:=g.sizes
  grind[b1o,b2W]
 grind
theorem b4c{n warm:Int}{l:List Int}(b:a5u n warm=true)(f:(l.length:Int)=n-warm)(a:l.all a0A=true)(g:l.length≤5000):∀i,1≤i→(a1A n warm l i).2≠0∧a4P (a1A n warm l i).1 n warm=true
 |0,h=>absurd h (by omega)
 |i+1,_=>by
  by_cases hs:(a1I (i:Int) n warm).length=0
  ·simp only[a1A,hs,if_true];cases i with
   |zero=>grind[c2r]
   |succ i=>exact b4c b f a g (i+1) (by omega)
  ·obtain⟨c,-,-,-,-,hp,-⟩:=c1A hs f a g;simp only[a1A,hs,if_false];split;simp_all[b7k]
   ·rename_i k;cases i with
    |zero=>exact absurd (Or.inl rfl) k
    |succ i=>exact b4c b f a g (i+1) (by omega)
theorem c4l(f:a5u n warm=true)(g:(l.length:Int)=n-warm)(k:l.all a0A=true)(h:l.length≤5000):a4P (b5r n warm l) n warm=true:=
 (b4c f g k h 7 (by omega)).2
theorem b9b(A:a5u n warm=true)(x:(l.length:Int)=n-warm)(t:l.all a0A=true)(s:l.length≤5000):
  a8P (n,warm,(6:Int),l)=some (b5r n warm l,0):=by
 have:=a2F (f:=a3p) (fun i:Nat=>(n,warm,(6:Int),l,(((a1A n warm l i).2:Nat):Int),(i:Int),((0:Int),([]:List Int),()),(a1A n warm l i).1,())) 7 (b:=(((0:Int),([]:List Int),()),b5r n warm l,()))
  (fun i z=>by
   have j:decide ((i:Int)≤v0a (u0z 6 0) 8)=true:=decide_eq_true (by have:v0a (u0z 6 0) 8=6:=rfl;omega);have r:wrap .i64 ((i:Int)+1)=((i+1:Nat):Int):=a0C (by omega)
   by_cases hs:(a1I (i:Int) n warm).length=0
   simp_all[a1A,a3p,a1W];have hb:((((a1I (i:Int) n warm).length:Nat):Int)==0)=false:=by simp_all
   obtain⟨h,p,o,w,y,-,q⟩:=c1A hs x t s;have d:=b4I (n:=n) (warm:=warm) (most:=6) (least:=(((a1A n warm l i).2:Nat):Int)) (order:=(i:Int)) (L:=l) (a:=((0:Int),([]:List Int),())) (b:=(a1A n warm l i).1) w h.length 0 l [] (by omega) (by simp_all) t s rfl;simp at d;have e:=b8X q;simp only[b1o,o]at e;have k:(((h.length:Nat):Int)==0)=false:=by simp_all[a1t]
   have m:(((a1m h).length:Nat):Int)=((h.length:Nat):Int):=by rw[a1t]
   have v:b1o (i:Int) n warm l=((i:Int),a2y h l,()):=by simp only[b1o,o]
   have u:b7k (i:Int) n warm l=4+a3E h (a2y h l) l:=by simp only[b7k,o]
   by_cases hz:(a1A n warm l i).2=0
   have g:((((a1A n warm l i).2:Nat):Int)==0)=true:=by simp_all
   have c:a1A n warm l (i+1)=(((i:Int),a2y h l,()),4+a3E h (a2y h l) l):=by simp_all[a1A]
   simp only[a3p,j,cT,a1W,oB,p,m,k,cF,d,e,r,c,g];have g:((((a1A n warm l i).2:Nat):Int)==0)=false:=by simp_all
   by_cases hlt:4+a3E h (a2y h l) l<(a1A n warm l i).2
   have c:a1A n warm l (i+1)=(((i:Int),a2y h l,()),4+a3E h (a2y h l) l):=by simp_all[a1A]
   simp only[a3p,j,cT,a1W,oB,p,m,k,cF,d,e,r,c,g,c6C hlt];have c:a1A n warm l (i+1)=a1A n warm l i:=by simp only[a1A,hs,if_false,hz,false_or,v,u,hlt]
   simp only[a3p,j,cT,a1W,oB,p,m,k,cF,d,e,r,c,g,c2y hlt])
  (by
   rfl)
 simp_all[a1A,a8P,a9q]
def a0W(k:Int)(s:Sub):Sub:=
 (k,(0:Int),(if k=2 then s.2.2.1 else 0),(if k=3∨k=4 then s.2.2.2.1 else 0),(if k=4 then s.2.2.2.2.1 else 0),(if k=3∨k=4 then s.2.2.2.2.2.1 else[]),
  ((if k=4 then s.2.2.2.2.2.2.1 else a01 3 (0:Int)),(if k=5 then s.2.2.2.2.2.2.2.1 else[]),([]:List Int),((0:Int),([]:List Int),()),([]:List Int),()))
def z0:Prt:=((0:Int),([]:List Int),())
def a1K(s:Sub)(w:Nat)(wm:List Int)(p:Prt)(r:List Int):Sub:=
 (s.1,(w:Int),s.2.2.1,s.2.2.2.1,s.2.2.2.2.1,s.2.2.2.2.2.1,s.2.2.2.2.2.2.1,s.2.2.2.2.2.2.2.1,wm,p,r,())
theorem c3p(h:SmallS s)(k:Int):a5i (k,s)=some (a0W k s):=by
 have f:short s.2.2.2.2.2.1:=by have:=h.coefs;unfold short;omega
 have g:short s.2.2.2.2.2.2.2.1:=by have:=h.stages;unfold short;omega
 grind[a5i,a0W,b3Q,b5V]
theorem b9Z(h:SmallS s)(k:Int):SmallS (a0W k s):=by
 have g:=h.coefs;have f:=h.taps;have a:=h.stages;refine⟨?_,?_,?_,by simp[a0W],by simp[a0W],by simp[a0W]⟩<;>simp only[a0W]<;>split<;>first|omega|simp
theorem c2A:a3w (a0W k s).1 (a0W k s) n↔a3w k s n:=by
 unfold a3w a0W
 grind
open Classical in
def a2N (l:List Int):Nat:=if h:∃w,a7z l w then h.choose else 0
theorem c5I{l:List Int}{w:Nat}(h:a7z l w):a2N l=w:=by
 unfold a2N;rw[dif_pos ⟨w,h⟩];exact(Classical.choose_spec (⟨w,h⟩:∃w,a7z l w)).unique h
def a1f(l:List Int):List Int:=l.map fun x=>z0h .i64 x (a2N l:Int)
theorem a7T(h:short l)(g:l.all a0A=true):a3o l=some ((a2N l:Nat):Int)∧a2N l≤30∧a7z l (a2N l):=by
 grind[b6s,c5I]
theorem a5T(a:l.length≤4096)(f:l.all a0A=true):a8X ((a2N l:Nat):Int) l=some (a1f l)∧(a1f l).all a0A=true∧(a1f l).length=l.length∧upO ((a2N l:Nat):Int) (a1f l)=some l:=by
 obtain⟨-,g,k⟩:=a7T (show short l by unfold short;omega) f;have h:=c5H g f k;exact⟨h,c5F g h⟩
def a4r(k:Int)(s:Sub)(d:List Int):Option (List Int×List Int):=
 if k=2 then(bif (a1N s.2.2.1.toNat d).all a0A then some (d.take s.2.2.1.toNat,a1N s.2.2.1.toNat d)else none)
 else if k=3 then(b3Y d s.2.2.2.2.2.1 s.2.2.2.1).map fun r=>(d.take s.2.2.2.2.2.1.length,r)
 else if k=4 then(b3z d s.2.2.2.2.1 s.2.2.2.2.2.2.1).bind fun x=>(b3Y x s.2.2.2.2.2.1 s.2.2.2.1).map fun r=>(x.take s.2.2.2.2.2.1.length,r)
 else(b1r d s.2.2.2.2.2.2.2.1).map fun r=>([],r)
theorem c0A(j:k=2∨k=3∨k=4∨k=5)(i:a3w k s (d.length:Int))(n:d.all a0A=true)(h:a4r k s d=some (wm,r)):
  wm.length≤d.length∧r.length=d.length-wm.length∧r.all a0A=true∧wm.all a0A=true:=by
 have f:=i;simp only[a3w]at f;rcases j with rfl|rfl|rfl|rfl
 ·have:0≤s.2.2.1∧s.2.2.1≤(d.length:Int):=by omega
  simp[a4r]at h;cases hq:(a1N s.2.2.1.toNat d).all a0A with
  |false=>simp_all
  |true=>
   simp[hq]at h;obtain⟨rfl,rfl⟩:=h;simp_all[a4V,b3X]
 have:(s.2.2.2.2.2.1.length:Int)≤(d.length:Int):=by omega
 simp only[a4r,show ¬ (3:Int)=2 by simp,if_false,if_true,a31,pJ]at h;obtain⟨c,g,rfl,rfl⟩:=h;obtain⟨-,a,b⟩:=b3Z g
 grind
 have:(s.2.2.2.2.2.1.length:Int)≤(d.length:Int):=by omega
 simp only[a4r,show ¬ (4:Int)=2 by simp,show ¬ (4:Int)=3 by simp,if_false,if_true,a21,a31,pJ]at h;obtain⟨x,e,c,g,rfl,rfl⟩:=h;obtain⟨-,l,m⟩:=b5f e;obtain⟨-,a,b⟩:=b3Z g
 grind
 simp only[a4r,show ¬ (5:Int)=2 by simp,show ¬ (5:Int)=3 by simp,show ¬ (5:Int)=4 by simp,if_false,a31,pJ]at h;obtain⟨c,g,rfl,rfl⟩:=h;obtain⟨-,a,b⟩:=b7h g;simp_all
theorem c4m(v:k=2∨k=3∨k=4∨k=5)(h:SmallS s)(q:a3w k s (d.length:Int))(D:d.length≤4096)(y:d.all a0A=true)(w:Nat):
  a9M (a1K (a0W k s) w [] z0 [],d)=some (match a4r k s d with|none=>(6,a1K (a0W k s) w [] z0 [])|some (wm,r)=>(0,a1K (a0W k s) w wm z0 r)):=by
 have l:=h.taps;have g:=h.stages;have i:short d:=by unfold short;omega
 obtain⟨k',w',o,sh,lag,c,t,st,z,p,E,u⟩:=s;simp only[a3w]at q l g;unfold a9M;rcases v with rfl|rfl|rfl|rfl;obtain⟨n,C,e⟩:0≤o∧o≤4∧o≤(d.length:Int):=by omega
 obtain⟨O,rfl⟩:=a00 n;have g:short (d.take O):=by unfold short;grind
 have j:decide ((O:Int)≤((d.length:Nat):Int))=true:=by simp_all
 simp only[a1K,a0W,a4r,if_true,show((2:Int)==2)=true from rfl,cT,b4G (show O≤4 by omega) (show O≤d.length by omega) i y,oB,tN]
 grind[b0H,a2i,a7b]
 ·obtain⟨f,e⟩:a7H c sh=true∧(c.length:Int)≤(d.length:Int):=by simp_all
  have g:short (d.take c.length):=by unfold short;grind
  have m:decide ((0:Int)≤((c.length:Nat):Int))=true:=by simp
  have j:decide (((c.length:Nat):Int)≤((d.length:Nat):Int))=true:=by simp_all
  simp only[a1K,a0W,a4r,show((3:Int)==2)=false from rfl,show((3:Int)==3)=true from rfl,show ¬ (3:Int)=2 by simp,show ¬ (3:Int)=4 by simp,show ¬ (3:Int)=5 by simp,true_or,if_true,if_false,cT,cF,b3y f (show c.length≤d.length by omega) (show d.length<100000 by omega),oB];cases b3Y d c sh with
  |none=>rfl
  |some r=>simp_all[a4t,b0H,a2i,a7b]
 ·obtain⟨f,e,a⟩:a7H c sh=true∧(c.length:Int)≤(d.length:Int)∧a9R lag t=true:=by simp_all
  simp[a1K,a0W,a4r,b9T a l (show d.length<100000 by omega)];cases hx:b3z d lag t with
  |none=>rfl
  |some x=>
   obtain⟨-,A,B⟩:=b5f hx;have g:short (x.take c.length):=by unfold short;grind
   have m:decide ((0:Int)≤((c.length:Nat):Int))=true:=by simp
   have j:decide (((c.length:Nat):Int)≤((x.length:Nat):Int))=true:=by simp_all
   simp[a4t,b3y f (show c.length≤x.length by omega) (show x.length<100000 by omega)]
   grind[b0H,a2i,a7b]
 ·obtain⟨e,b⟩:0<st.length∧a7S st=true:=by simp_all
  have g:short (d.take 0):=by simp[short]
  simp only[a1K,a0W,a4r,show((5:Int)==2)=false from rfl,show((5:Int)==3)=false from rfl,show((5:Int)==4)=false from rfl,show((5:Int)==5)=true from rfl,show ¬ (5:Int)=2 by simp,show ¬ (5:Int)=3 by simp,show ¬ (5:Int)=4 by simp,or_self,if_true,if_false,cT,cF,b9a b (show d.length<100000 by omega),oB];cases b1r d st with
  |none=>rfl
  |some r=>
   rfl
open Classical in

def a1p (k:Int) (l:List Int) (s:Sub):Sub×Int:=
 if ¬ (1≤l.length∧l.length≤4096∧a3w k s (l.length:Int))then(a1O 0,1)
 else if l.all a0A=false then(a1O 0,6)
 else if k=0 then(bif l.all (fun x=>x==l.headD 0)then(a1K (a0W 0 s) 0 [l.headD 0] z0 [],0)else(a1O 0,7))
 else if k=1 then(a1K (a0W 1 s) (a2N l) (a1f l) z0 [],0)
 else match a4r k s (a1f l)with
  |none=>(a1O 0,6)
  |some (wm,r)=>(a1K (a0W k s) (a2N l) wm (b5r (l.length:Int) (wm.length:Int) r) r,0)
theorem c2B(h:1≤l.length):l0z l 0=some (l.headD 0):=by
 cases l with
 |nil=>simp at h
 |cons a l=>rfl
theorem c0B(k:1≤l.length)(c:short l)(a b:Sub):
  x0r a4z (l,l,(l.length:Int),(0:Int),a,b,())=some (bif l.all (fun x=>x==l.headD 0)then .inl (l,a,b,())else .inr ((7:Int),a1O 0,())):=by
 have:=a1C (f:=a4z) l (fun i=>(l,l,(l.length:Int),(i:Int),a,b,())) (fun x=>x==l.headD 0) (bt:=Sum.inl (l,a,b,())) (bf:=Sum.inr ((7:Int),a1O 0,()))
  (fun i h hp=>by
   have g:(l[i] != l.headD 0)=false:=by simpa using hp
   simp only[a4z,dlt h,cT,a0B h,oB,c2B k,g,cF,a0C (a45 h c)])
  (fun i h hp=>by
   have g:(l[i] != l.headD 0)=true:=by simpa using hp
   simp only[a4z,dlt h,cT,a0B h,oB,c2B k,g];rfl)
  (by simp[a4z])
 simpa using this
theorem b6a(h:a3w k s n)(g:k≠0)(f:k≠1):k=2∨k=3∨k=4∨k=5:=by
 rcases h with h|h|⟨h,-⟩|⟨h,-⟩|⟨h,-⟩|⟨h,-⟩;exact absurd h g;exact absurd h f;exact .inl h;exact .inr (.inl h);exact .inr (.inr (.inl h));exact .inr (.inr (.inr h))
theorem c5J(h:SmallS s)(k:Int)(D:l.length≤100000):b1i (k,l,s)=some (a1p k l s):=by
 have j:short l:=by unfold short;omega
 unfold b1i a1p
 by_cases h1:1≤l.length
 rotate_left;have e:decide (((l.length:Nat):Int)<1)=true:=decide_eq_true (by omega);rw[if_pos (fun g=>h1 g.1)];simp only[e,cT,oB];rfl;have a:decide (((l.length:Nat):Int)<1)=false:=decide_eq_false (by omega)
 by_cases h2:l.length≤4096
 rotate_left;have e:decide (((l.length:Nat):Int) > 4096)=true:=decide_eq_true (by omega);rw[if_pos (fun g=>h2 g.2.1)];simp only[a,e,cT,cF,oB];rfl;have p:decide (((l.length:Nat):Int) > 4096)=false:=decide_eq_false (by omega)
 by_cases h3:a3w k s (l.length:Int)
 rotate_left;have b:b1V k s (l.length:Int)=false:=by simp[b1V,h3]
 rw[if_pos (fun g=>h3 g.2.2)];simp only[a,p,b3s h,b,cF,a18,cT,oB];rfl;have b:b1V k s (l.length:Int)=true:=by simp[b1V,h3]
 rw[if_neg (fun g=>g ⟨h1,h2,h3⟩)];simp only[a,p,b3s h,b,cF,bT,oB,a3X j];cases hw:l.all a0A with
 |false=>rfl
 |true=>
  simp only[bT,cF,c3p h,oB];rw[if_neg (by decide)]
  by_cases h0:k=0
  ·subst h0;have y:=c0B h1 j (a1O 0) (a0W 0 s);have w:a1O 0=((0:Int),(0:Int),(0:Int),(0:Int),(0:Int),([]:(List Int)),a01 3 (0:Int),([]:(List (Int×Int×Unit))),([]:(List Int)),((0:Int),([]:(List Int)),()),([]:(List Int)),()):=rfl;rw[←w,if_pos rfl];simp only[show((0:Int)==0)=true from rfl,cT,y,oB];cases l.all (fun x=>x==l.headD 0)with
   |false=>rfl
   |true=>simp only[cT,c2B h1,oB];rfl
  ·obtain⟨A,B,-⟩:=a7T j hw;obtain⟨u,n,o,-⟩:=a5T h2 hw;have c:(k==0)=false:=by simp[h0]
   rw[if_neg h0];simp only[c,cF,A,oB,b3x B (show l.length<100000 by omega),u,a4t,show((0:Int) != 0)=false from rfl]
   by_cases hk1:k=1
   subst hk1;rfl
   ·have i:(k==1)=false:=by simp[hk1]
    have t:=b6a h3 h0 hk1;rw[if_neg hk1];have m:=c4m t h (d:=a1f l) (by rw[o];exact h3) (by omega) n (a2N l);have v:((a0W k s).1,((a2N l:Nat):Int),(a0W k s).2.2)=a1K (a0W k s) (a2N l) [] z0 []:=rfl;simp only[i,cF,v,m,oB];cases hr:a4r k s (a1f l)with
    |none=>rfl
    |some q=>
     obtain⟨C,r⟩:=q;obtain⟨E,r2,z,-⟩:=c0A t (by rw[o];exact h3) n hr;have f:a5u (l.length:Int) (C.length:Int)=true:=by simp only[a5u,bA,dT];omega
     have hb:=b9b f (l:=r) (by omega) z (by omega);simp only[show((0:Int) != 0)=false from rfl,cF,a1K,hb,oB]
theorem c3q(h:a4P p n warm=true):p.2.1.length≤256:=by
 simp only[a4P,bA,a29,beq_eq_false_iff_ne,ne_eq,beq_iff_eq]at h;obtain⟨k,g,-,f⟩:=b2V h.1;rw[←h.2.1,g,a1t];exact f
theorem b4d(h:SmallS s)(g:wm.length≤5000)(f:r.length≤5000)(k:p.2.1.length≤300):SmallS (a1K s w wm p r):=
 ⟨h.coefs,h.taps,h.stages,g,f,k⟩
theorem c2C(g:(a1p k l s).2=0):
  1≤l.length∧l.length≤4096∧a3w k s (l.length:Int)∧l.all a0A=true∧
   ((k=0∧l.all (fun x=>x==l.headD 0)=true∧(a1p k l s).1=a1K (a0W 0 s) 0 [l.headD 0] z0 [])∨
    (k=1∧(a1p k l s).1=a1K (a0W 1 s) (a2N l) (a1f l) z0 [])∨
     ((k=2∨k=3∨k=4∨k=5)∧∃c r,a4r k s (a1f l)=some (c,r)∧(a1p k l s).1=a1K (a0W k s) (a2N l) c (b5r (l.length:Int) (c.length:Int) r) r)):=by
 unfold a1p at g⊢
 split at g
 cases g;rename_i f;have f:1≤l.length∧l.length≤4096∧a3w k s (l.length:Int):=Classical.byContradiction f;refine⟨f.1,f.2.1,f.2.2,?_⟩;rw[if_neg (fun h=>h f)]
 split at g
 cases g;rename_i e;have d:l.all a0A=true:=by simpa using e
 refine⟨d,?_⟩;rw[if_neg e]
 split at g
 ·rename_i a;rw[if_pos a];cases hq:l.all (fun x=>x==l.headD 0)with
  |false=>rw[hq]at g;cases g
  |true=>exact .inl ⟨a,rfl,rfl⟩
 rename_i a;rw[if_neg a]
 split at g
 rename_i b;rw[if_pos b];exact .inr (.inl ⟨b,rfl⟩);rename_i b;rw[if_neg b];refine .inr (.inr ⟨b6a f.2.2 a b,?_⟩);cases hr:a4r k s (a1f l)with
 |none=>rw[hr]at g;cases g
 |some q=>
  obtain⟨c,r⟩:=q;exact⟨c,r,rfl,rfl⟩
theorem b2c:b3t (a1K (a0W k s) w wm p r):=by
 unfold b3t a1K a0W;refine⟨fun h=>if_neg h,fun h=>if_neg (not_or.2 h),fun h=>if_neg h,fun h=>if_neg h,fun h=>if_neg (not_or.2 h),fun h=>if_neg h⟩
theorem b6t(h:a3w k s n):a3w (a1K (a0W k s) w wm p r).1 (a1K (a0W k s) w wm p r) n:=c2A.2 h
theorem c4n(h:l.all (fun x=>x==l.headD 0)=true):a01 l.length (l.headD 0)=l:=by
 refine(List.eq_replicate_iff.2 ⟨rfl,fun x g=>?_⟩).symm
 have:=lA.1 h x g
 simpa using this
theorem b7Y(L:SmallS s)(I:(a1p k l s).2=0):
  SmallS (a1p k l s).1∧(a1p k l s).1.1=k∧a1r (a1p k l s).1 (l.length:Int)∧a2g (a1p k l s).1 (l.length:Int)=some l:=by
 obtain⟨T,K,b,z,M⟩:=c2C I;have P:short l:=by unfold short;omega
 obtain⟨-,Y,-⟩:=a7T P z;obtain⟨R,w,B,C⟩:=a5T K z;have n:∀m:Sub,a1r m (l.length:Int)→b9C m (l.length:Int)=some l→a2g m (l.length:Int)=some l:=fun m c d=>by unfold a2g;rw[if_pos c,d]
 have i:=b9Z L k;rcases M with⟨rfl,t,e⟩|⟨rfl,e⟩|⟨y,q,r,f,e⟩
 ·rw[e];have g:a1r (a1K (a0W 0 s) 0 [l.headD 0] z0 []) (l.length:Int):=by
   have N:a0A (l.headD 0)=true:=by
    cases l with
    |nil=>rfl
    |cons a l=>exact lA.1 z _ a73
   exact⟨by omega,by omega,b6t b,b2c,Int.le_refl _,(by decide:(0:Int)≤30),fun _=>rfl,rfl,by simp only[a1K,a07,N,List.all_nil];rfl,rfl,fun _=>⟨rfl,rfl,rfl⟩,fun h=>absurd rfl h.1⟩
  refine⟨b4d i (by simp) (by simp) (by simp[z0]),rfl,g,n _ g ?_⟩;show some (a01 (l.length:Int).toNat (l.headD 0))=some l;rw[tN,c4n t]
 rw[e];have g:a1r (a1K (a0W 1 s) (a2N l) (a1f l) z0 []) (l.length:Int):=
  ⟨by omega,by omega,b6t b,b2c,a74 _,(by show((a2N l:Nat):Int)≤30;omega),fun h=>absurd h (by decide:¬ (1:Int)=0),by show(((a1f l).length:Nat):Int)=(l.length:Int);rw[B],w,rfl,fun _=>⟨rfl,rfl,rfl⟩,fun h=>absurd rfl h.2⟩
 refine⟨b4d i (by omega) (by simp) (by simp[z0]),rfl,g,n _ g ?_⟩;show upO ((a2N l:Nat):Int) (a1f l)=some l;exact C
 ·rw[e];obtain⟨X,r2,E,Q⟩:=c0A y (by rw[B];exact b) w f;have u:a5u (l.length:Int) (q.length:Int)=true:=by simp only[a5u,bA,dT];omega
  have hp:=c4l u (l:=r) (by omega) E (by omega);generalize b5r (l.length:Int) (q.length:Int) r=p at hp;have O:=c3q hp

  have v:a2i (a1K (a0W k s) (a2N l) q p r) (l.length:Int)=(q.length:Int)∧backP (a1K (a0W k s) (a2N l) q p r)=some (a1f l):=by
   simp only[a3w]at b;rcases y with rfl|rfl|rfl|rfl
   ·obtain⟨U,V,D⟩:0≤s.2.2.1∧s.2.2.1≤4∧s.2.2.1≤(l.length:Int):=by simp at b;omega
    simp only[a4r,if_true]at f;cases hq:(a1N s.2.2.1.toNat (a1f l)).all a0A with
    |false=>simp[hq]at f
    |true=>
     simp only[hq,cT,sj,pJ]at f;obtain⟨rfl,rfl⟩:=f;refine⟨?_,?_⟩;show s.2.2.1=_;rw[a22];omega;show b6o ((a1f l).take s.2.2.1.toNat) (a1N s.2.2.1.toNat (a1f l)) s.2.2.1=some (a1f l);have hb:=b9L w (o:=s.2.2.1.toNat) (by omega) ((a1f l).length-s.2.2.1.toNat) 0 (by omega);rw[a27,a84]at hb;unfold b6o;rw[b3X w,hq];exact hb
   have D:(s.2.2.2.2.2.1.length:Int)≤(l.length:Int):=by simp at b;omega
   simp only[a4r,show ¬ (3:Int)=2 by decide,if_false,if_true,a31,pJ]at f;obtain⟨A,c,rfl,rfl⟩:=f;obtain⟨d,-,-⟩:=b3Z c;refine⟨?_,?_⟩;show((s.2.2.2.2.2.1.length:Nat):Int)=_;rw[a22];omega;exact d;have D:(s.2.2.2.2.2.1.length:Int)≤(l.length:Int):=by simp at b;omega
   simp only[a4r,show ¬ (4:Int)=2 by decide,show ¬ (4:Int)=3 by decide,if_false,if_true,a21,a31,pJ]at f;obtain⟨x,H,A,c,rfl,rfl⟩:=f;obtain⟨G,-,S⟩:=b5f H;obtain⟨d,-,-⟩:=b3Z c;refine⟨?_,?_⟩;show((s.2.2.2.2.2.1.length:Nat):Int)=_;rw[a22];omega;show(b1P (x.take s.2.2.2.2.2.1.length) A s.2.2.2.2.2.1 s.2.2.2.1).bind (fun l=>b2u l s.2.2.2.2.1 s.2.2.2.2.2.2.1)=_;rw[d];exact G;simp only[a4r,show ¬ (5:Int)=2 by decide,show ¬ (5:Int)=3 by decide,show ¬ (5:Int)=4 by decide,if_false,a31,pJ]at f;obtain⟨A,c,rfl,rfl⟩:=f;obtain⟨d,-,-⟩:=b7h c;exact⟨rfl,d⟩
  have j:¬ (k=0∨k=1):=by rcases y with rfl|rfl|rfl|rfl<;>decide
  have g:a1r (a1K (a0W k s) (a2N l) q p r) (l.length:Int):=by
   unfold a1r;rw[v.1];exact⟨by omega,by omega,b6t b,b2c,a74 _,(by show((a2N l:Nat):Int)≤30;omega),fun h=>absurd (.inl h) j,rfl,Q,E,fun h=>absurd h j,fun _=>⟨(by show((r.length:Nat):Int)=_;omega),hp⟩⟩
  refine⟨b4d i (by omega) (by omega) (by omega),rfl,g,n _ g ?_⟩;have F:¬ (a1K (a0W k s) (a2N l) q p r).1=0:=fun h=>j (.inl h);unfold b9C;rw[if_neg F,v.2];exact C
theorem c2D:SmallS (a1O 0):=c1e 0
def cS(k o sh:Int)(c:List Int)(st:List Stg):Sub:=
 (k,(0:Int),o,sh,(0:Int),c,a01 3 (0:Int),st,([]:List Int),((0:Int),([]:List Int),()),([]:List Int),())
theorem a9r{k o sh:Int}{c:List Int}{st:List Stg}(h:c.length≤40)(g:st.length≤6):SmallS (cS k o sh c st):=
 ⟨h,rfl,g,by simp[cS],by simp[cS],by simp[cS]⟩
def b1p(d:List Int)(o w:Int):List Int×(Int×Int):=(a3v (d,o,w)).getD ([],0,1)
def a9s(d:List Int)(o w:Int):List Sub:=bif (b1p d o w).2.2==0 then[cS 3 0 (b1p d o w).2.1 (b1p d o w).1 []]else[]
def c2E(d:List Int):Int:=(a5m d).getD 0
def b4e(d:List Int):Sub×Bool:=(a3j d).getD (a1O 0,false)
def b6u(d:List Int):List Sub:=bif (b4e d).2 then[(b4e d).1]else[]
def a9t(i:Nat):List Sub:=(List.range i).map fun(j:Nat)=>cS 2 (j:Int) 0 [] []
def a2l(d:List Int):List Sub:=[cS 0 0 0 [] [],cS 1 0 0 [] [],cS 2 (c2E d) 0 [] []]
def a3q(d:List Int)(k:Int):List Sub:=if 1≤k then a9s d 4 12++a9s d 8 12 else[]
def a9X(d:List Int)(k:Int):List Sub:=if 2≤k then[cS 5 0 0 [] [((16:Int),(4:Int),())],cS 5 0 0 [] [((32:Int),(3:Int),()),((16:Int),(5:Int),())]]++b6u d else[]
def b9i(d:List Int)(k:Int):List Sub:=if 3≤k then a9t 5++(a9s d 1 12++(a9s d 2 12++(a9s d 12 14++a9s d 16 14)))else[]
def a3K(d:List Int)(k:Int):List Sub:=a2l d++(a3q d k++(a9X d k++b9i d k))
def b7l(d:List Int):Prop:=a3j d=some (b4e d)∧((b4e d).2=true→SmallS (b4e d).1)
theorem c0C(a:d.all a0A=true)(k:d.length≤4096)(h:1≤o)(g:o≤32)(f:2≤w∧w≤16):
  a3v (d,(o:Int),(w:Int))=some (b1p d o w)∧((b1p d o w).2.2=0→(b1p d o w).1.length=o):=by
 obtain⟨c,sh,e,b,i⟩:=c3m a k h g f;unfold b1p;simp_all
theorem a9u(d:List Int)(o w:Int):(a9s d o w).length≤1:=by
 grind[a9s]
theorem a9v(c:d.all a0A=true)(b:d.length≤4096)(f:1≤o)(k:o≤32)(a:2≤w∧w≤16){L:List Sub}(e:L.length<1000):
  a0O ((o:Int),(w:Int),d,L)=some (d,L++a9s d o w):=by
 obtain⟨g,-⟩:=c0C c b f k a;have h:lim (L.length+1)=true:=a0T (by omega);unfold a0O a9s;simp only[g,oB];cases (b1p d o w).2.2==0 with
 |true=>simp only[cT,h];rfl
 |false=>simp
theorem c2F{L:List Sub}(k:L.length<1000):x0r a2n ((0:Int),L,d,())=some (L++a9t 5,d,()):=by
 have:=a2F (f:=a2n) (fun i:Nat=>((i:Int),L++a9t i,d,())) 5 (b:=(L++a9t 5,d,()))
  (fun i a=>by
   have g:decide ((i:Int)<5)=true:=decide_eq_true (by omega);have h:lim ((L++a9t i).length+1)=true:=a0T (by simp[a9t];omega);have e:(L++a9t i)++[cS 2 (i:Int) 0 [] []]=L++a9t (i+1):=by simp[a9t,List.range_succ]
   rw[←e];simp only[a2n,g,cT,h,a0C (show i<1000000 by omega)];rfl)
  (by
   rfl)
 simp at this;rw[show a9t 0=[]from rfl,a36]at this;omega
theorem c5K(a:d.all a0A=true)(c:d.length≤4096)(l:b7l d)(k:Int):a5N (d,k)=some (a3K d k):=by
 obtain⟨o,E,F⟩:=b7f (show d.length<100000 by omega) a;have hb:c2E d=(o:Int):=by simp_all[c2E]
 have D:(b6u d).length≤1:=by grind[b6u]
 have P:=a9u d 4 12;have Q:=a9u d 8 12;have N:=a9u d 1 12;have O:=a9u d 2 12;have G:=a9u d 12 14;have y:=fun L (hL:L.length<1000)=>a9v (L:=L) a c (o:=4) (w:=12) (by omega) (by omega) (by omega) hL;have z:=fun L (hL:L.length<1000)=>a9v (L:=L) a c (o:=8) (w:=12) (by omega) (by omega) (by omega) hL;have v:=fun L (hL:L.length<1000)=>a9v (L:=L) a c (o:=1) (w:=12) (by omega) (by omega) (by omega) hL;have x:=fun L (hL:L.length<1000)=>a9v (L:=L) a c (o:=2) (w:=12) (by omega) (by omega) (by omega) hL;have i:=fun L (hL:L.length<1000)=>a9v (L:=L) a c (o:=12) (w:=14) (by omega) (by omega) (by omega) hL;have j:=fun L (hL:L.length<1000)=>a9v (L:=L) a c (o:=16) (w:=14) (by omega) (by omega) (by omega) hL;simp at y z v x i j;have R:(a2l d).length=3:=rfl;have S:(a3q d k).length≤2:=by unfold a3q;split<;>simp<;>omega
 have T:(a9X d k).length≤3:=by unfold a9X;split<;>simp<;>omega
 have U:(a9t 5).length=5:=rfl;have M:(bif decide (k≥1)then((a0O ((4:Int),(12:Int),d,a2l d)).bind fun n=>(a0O ((8:Int),(12:Int),n.1,n.2)).bind fun p=>some (k,p.1,p.2,()))else some (k,d,a2l d,()))=some (k,d,a2l d++a3q d k,()):=by
  unfold a3q
  by_cases h:1≤k
  have e:decide (k≥1)=true:=decide_eq_true h;simp only[e,cT,y (a2l d) (by omega),oB,z (a2l d++a9s d 4 12) (by grind),if_pos h,aA]
  grind
 have C:a5N (d,k)=(a5m d).bind fun A=>
   (show Option (Int×((List Int)×((List Sub)×Unit)))from bif decide (k≥1)then((a0O ((4:Int),(12:Int),d,[cS 0 0 0 [] [],cS 1 0 0 [] [],cS 2 A 0 [] []])).bind fun n=>(a0O ((8:Int),(12:Int),n.1,n.2)).bind fun p=>some (k,p.1,p.2,()))else some (k,d,[cS 0 0 0 [] [],cS 1 0 0 [] [],cS 2 A 0 [] []],())).bind fun g=>
   (show Option (Int×((List Sub)×((List Int)×Unit)))from bif decide (g.1≥2)then(bif lim (g.2.2.1.length+1)then(bif lim ((g.2.2.1++[cS 5 0 0 [] [((16:Int),(4:Int),())]]).length+1)then((a3j g.2.1).bind fun q=>
    bif q.2 then(bif lim ((g.2.2.1++[cS 5 0 0 [] [((16:Int),(4:Int),())]]++[cS 5 0 0 [] [((32:Int),(3:Int),()),((16:Int),(5:Int),())]]).length+1)then some (g.1,g.2.2.1++[cS 5 0 0 [] [((16:Int),(4:Int),())]]++[cS 5 0 0 [] [((32:Int),(3:Int),()),((16:Int),(5:Int),())]]++[q.1],g.2.1,())else none)
    else some (g.1,g.2.2.1++[cS 5 0 0 [] [((16:Int),(4:Int),())]]++[cS 5 0 0 [] [((32:Int),(3:Int),()),((16:Int),(5:Int),())]],g.2.1,()))else none)else none)else some (g.1,g.2.2.1,g.2.1,())).bind fun t=>
   (show Option ((List Sub)×Unit)from bif decide (t.1≥3)then((x0r a2n ((0:Int),t.2.1,t.2.2.1,())).bind fun m=>(a0O ((1:Int),(12:Int),m.2.1,m.1)).bind fun r=>(a0O ((2:Int),(12:Int),r.1,r.2)).bind fun s=>
    (a0O ((12:Int),(14:Int),s.1,s.2)).bind fun f=>(a0O ((16:Int),(14:Int),f.1,f.2)).bind fun b=>some (b.2,()))else some (t.2.1,())).bind fun u=>some u.1:=rfl
 have B:[cS 0 0 0 [] [],cS 1 0 0 [] [],cS 2 (o:Int) 0 [] []]=a2l d:=by unfold a2l;grind
 have V:(bif decide (k≥2)then(bif lim ((a2l d++a3q d k).length+1)then(bif lim ((a2l d++a3q d k++[cS 5 0 0 [] [((16:Int),(4:Int),())]]).length+1)then((a3j d).bind fun q=>
    bif q.2 then(bif lim ((a2l d++a3q d k++[cS 5 0 0 [] [((16:Int),(4:Int),())]]++[cS 5 0 0 [] [((32:Int),(3:Int),()),((16:Int),(5:Int),())]]).length+1)then some (k,a2l d++a3q d k++[cS 5 0 0 [] [((16:Int),(4:Int),())]]++[cS 5 0 0 [] [((32:Int),(3:Int),()),((16:Int),(5:Int),())]]++[q.1],d,())else none)
    else some (k,a2l d++a3q d k++[cS 5 0 0 [] [((16:Int),(4:Int),())]]++[cS 5 0 0 [] [((32:Int),(3:Int),()),((16:Int),(5:Int),())]],d,()))else none)else none)else some (k,a2l d++a3q d k,d,()):Option (Int×((List Sub)×((List Int)×Unit))))=some (k,a2l d++(a3q d k++a9X d k),d,()):=by
  unfold a9X
  by_cases h:2≤k
  have e:decide (k≥2)=true:=decide_eq_true h;have H:lim ((a2l d++a3q d k).length+1)=true:=a0T (by grind);have I:lim ((a2l d++a3q d k++[cS 5 0 0 [] [((16:Int),(4:Int),())]]).length+1)=true:=a0T (by simp;omega);have K:lim ((a2l d++a3q d k++[cS 5 0 0 [] [((16:Int),(4:Int),())]]++[cS 5 0 0 [] [((32:Int),(3:Int),()),((16:Int),(5:Int),())]]).length+1)=true:=a0T (by simp;omega);simp only[e,H,I,K,cT,l.1,oB,if_pos h,b6u];cases (b4e d).2<;>simp
  grind
 have X:(bif decide (k≥3)then((x0r a2n ((0:Int),a2l d++(a3q d k++a9X d k),d,())).bind fun m=>(a0O ((1:Int),(12:Int),m.2.1,m.1)).bind fun r=>(a0O ((2:Int),(12:Int),r.1,r.2)).bind fun s=>
    (a0O ((12:Int),(14:Int),s.1,s.2)).bind fun f=>(a0O ((16:Int),(14:Int),f.1,f.2)).bind fun b=>some (b.2,()))else some (a2l d++(a3q d k++a9X d k),()):Option ((List Sub)×Unit))=some (a3K d k,()):=by
  unfold a3K b9i
  by_cases h:3≤k
  have e:decide (k≥3)=true:=decide_eq_true h;simp only[e,cT,c2F (L:=a2l d++(a3q d k++a9X d k)) (by simp;omega),oB,if_pos h];rw[v _ (by simp;omega)];simp only[oB];rw[x _ (by simp;omega)];simp only[oB];rw[i _ (by simp;omega)];simp only[oB];rw[j _ (by simp;omega)]
  simp
  grind
 rw[C,E,oB,B];simp only[];rw[M];simp only[oB];simp_all
theorem b7m(l:d.all a0A=true)(i:d.length≤4096)(f:b7l d)(k:Int):∀c∈a3K d k,SmallS c:=by
 have g:∀(o w:Nat),1≤o→o≤32→2≤w∧w≤16→∀c∈a9s d o w,SmallS c:=fun o w a b e c h=>by
  obtain⟨-,m⟩:=c0C l i a b e;unfold a9s at h;cases he:(b1p d o w).2.2==0 with
  |false=>simp_all
  |true=>
   rw[he]at h;simp at h
   grind[a9r]
 intro c h;simp[a3K]at h;rcases h with h|h|h|h;simp[a2l]at h;rcases h with rfl|rfl|rfl<;>exact a9r (by simp) (by simp);unfold a3q at h
 split at h
 simp at h;rcases h with h|h;exact g 4 12 (by omega) (by omega) (by omega) c h;exact g 8 12 (by omega) (by omega) (by omega) c h;simp_all
 ·unfold a9X at h
  split at h
  ·simp only[mA,mC,a67,or_false]at h;rcases h with(rfl|rfl)|h;simp_all[a9r];simp_all[a9r]
   ·unfold b6u at h;cases hg:(b4e d).2 with
    |false=>simp_all
    |true=>
     rw[hg]at h;simp at h;subst h;exact f.2 hg
  simp_all
 unfold b9i at h
 split at h
 simp only[mA,a9t,a99]at h;rcases h with⟨j,-,rfl⟩|h|h|h|h;simp_all[a9r];exact g 1 12 (by omega) (by omega) (by omega) c h;exact g 2 12 (by omega) (by omega) (by omega) c h;exact g 12 14 (by omega) (by omega) (by omega) c h;exact g 16 14 (by omega) (by omega) (by omega) c h;simp_all
theorem c4o(g:d.length≤256):a3j d=some (a1O 0,false):=by
 have h:a9O (d,(16:Int),(256:Int))=some (0,7):=by
  unfold a9O
  grind
 unfold a3j;simp only[h,oB,show((7:Int) != 0)=true from rfl,cT];rfl
theorem c6D(g:d.length≤256):b7l d:=by
 have h:=c4o g
 have:b4e d=(a1O 0,false):=by unfold b4e;simp_all
 exact⟨by simp_all,fun f=>by simp_all⟩
def b3C(l:List Int)(a:Int×(Bool×Sub))(c:Sub):Int×(Bool×Sub):=
 bif (a1p c.1 l c).2 != 0 then a else bif !a.2.1 || decide (a4p (a1p c.1 l c).1 (l.length:Int)<a.1)then(a4p (a1p c.1 l c).1 (l.length:Int),true,(a1p c.1 l c).1)else a
def b4f(l:List Int)(cs:List Sub):Int×(Bool×Sub):=cs.foldl (b3C l) (0,false,a1O 0)
theorem b4g{α A β:Type}(g:A→α→A)(h:A→β):∀(l:List α)(a:A),a7G h (a2G (fun a x=>.inl (g a x)) l a)=h (l.foldl g a)
 | [],_=>rfl
 |x::l,a=>b4g g h l (g a x)
theorem c1m(h:SmallS s):SmallS (a1p k l s).1:=by
 by_cases h0:(a1p k l s).2=0
 exact(b7Y h h0).1
 have:(a1p k l s).1=a1O 0:=by
  unfold a1p at h0⊢
  grind
 simp_all[c2D]
theorem c3r{cs:List Sub}(j:∀c∈cs,SmallS c)(p:l.length≤4096)(o:cs.length<1000):
  x0r a6l (l,(0:Int),false,cs,((cs.length:Nat):Int),(0:Int),a1O 0,a1O 0,())=some (a1O 0,(b4f l cs).2.2,()):=by
 have:=a1Q (f:=a6l) cs (fun i a=>(l,a.1,a.2.1,cs,((cs.length:Nat):Int),(i:Int),a1O 0,a.2.2,())) (fun a x=>.inl (b3C l a x)) (fun _ _=>True) (fun a=>(a1O 0,a.2.2,()))
  (fun i g a _=>by
   refine⟨fun n h=>?_,fun b hb=>by grind⟩;simp at h;subst h;refine⟨?_,trivial⟩;have d:=j _ (a06 g);have e:=c1x (c1m (k:=cs[i].1) (l:=l) d) (l.length:Int);unfold b3C;simp only[a6l,dlt g,cT,a0B g,oB,c5J d cs[i].1 (show l.length≤100000 by omega),e,a0C (show i<1000000 by omega)];cases (a1p cs[i].1 l cs[i]).2 != 0 with
   |true=>rfl
   |false=>
    have m:=a0C (show i<1000000 by omega)
    grind)
  (fun a _=>by simp_all[a6l]) (a:=((0:Int),false,a1O 0)) trivial
 simp at this;rw[this,b4g];rfl
theorem c5L(v:1≤l.length)(c:l.length≤4096)(a:l.all a0A=true)(h:b7l (a1f l))(u:0≤k)(x:k≤3):
  a4N (l,k)=some ((b4f l (a3K (a1f l) k)).2.2,0):=by
 have d:short l:=by unfold short;omega
 obtain⟨r,s,-⟩:=a7T d a;obtain⟨e,b,t,-⟩:=a5T c a;have i:decide (((l.length:Nat):Int)<1)=false:=decide_eq_false (by omega);have j:decide (((l.length:Nat):Int) > 4096)=false:=decide_eq_false (by omega);have m:decide (k<0)=false:=decide_eq_false (by omega);have n:decide (k > 3)=false:=decide_eq_false (by omega);have f:(a3K (a1f l) k).length<1000:=by
  have g:=fun o w=>a9u (a1f l) o w;have y:=g 4 12;have z:=g 8 12;have A:=g 1 12;have B:=g 2 12;have C:=g 12 14;have D:=g 16 14;have p:(b6u (a1f l)).length≤1:=by grind[b6u]
  simp only[a3K,a2l,a3q,a9X,b9i,lN]
  grind[a9t]
 have hb:=c3r (l:=l) (b7m b (by omega) h k) c f;have q:a1O 0=((0:Int),(0:Int),(0:Int),(0:Int),(0:Int),([]:(List Int)),a01 3 (0:Int),([]:(List (Int×Int×Unit))),([]:(List Int)),((0:Int),([]:(List Int)),()),([]:(List Int)),()):=rfl;unfold a4N;simp only[←q,i,j,m,n,cF,oB,a3X d,a,bT,r,b3x s (show l.length<100000 by omega),e,a4t,show((0:Int) != 0)=false from rfl,c5K b (show(a1f l).length≤4096 by omega) h,hb]
theorem a3x(v:Int)(n:Nat)(L:List Int):(a0M v n L).length=L.length+(a0M v n []).length:=by
 unfold a0M;cases (z0h .u64 v (n:Int) != 0)<;>simp
theorem a8r(n:Nat):∀(l L:List Int),(a1w n l L).length=L.length+(a1w n l []).length
 | [],L=>by simp[a1w]
 |x::l,L=>by
  show(a1w n l (a0M (a0S x n) n L)).length=L.length+(a1w n l (a0M (a0S x n) n [])).length;rw[a8r n l,a8r n l (a0M (a0S x n) n []),a3x];omega
theorem a9Y:∀(st:List Stg)(L:List Int),(a2K st L).length=L.length+(a2K st []).length
 | [],L=>by simp[a2K]
 |s::st,L=>by
  show(a2K st (a5x s L)).length=L.length+(a2K st (a5x s [])).length;rw[a9Y st,a9Y st (a5x s [])];unfold a5x;rw[a3x,a3x _ 5 L,a3x _ 4 (a0M _ 5 [])];omega
theorem b4h(s:Sub)(L:List Int):(a5y s L).length=L.length+(a5y s []).length:=by
 unfold a5y;rw[a8r,a3x,a3x _ 4,a3x _ 5 L]
 conv=>rhs;rw[a8r,a3x,a3x _ 4]
 omega
theorem b8v(s:Sub)(L:List Int):(a2s s L).length=L.length+(a2s s []).length:=by
 unfold a2s;split;rw[a3x];split;rw[b4h];split;rw[b4h,a8r,a3x]
 conv=>rhs;rw[b4h,a8r]
 omega;split;rw[a9Y,a3x]
 conv=>rhs;rw[a9Y]
 omega
 simp
theorem c4p(k:0≤s.1∧s.1≤5)(a:0≤s.2.1∧s.2.1≤30)(f:s.2.2.2.2.2.2.2.2.1.all a0A=true)(L:List Int):(a9T s L).length=L.length+13:=by
 obtain⟨K,g⟩:=a00 k.1;obtain⟨w,h⟩:=a00 a.1
 have:=a1U f
 unfold a9T;rw[g,h,a2k (q:=K) (by omega),a2k (q:=w) (by omega),a5S (n:=5) (by omega) (by omega),a5S (n:=5) (by omega) (by omega),a5S (n:=3) (by omega) (by omega)]
def c2G(s:Sub)(zn:List Nat):Nat:=
 13+(a2s s []).length+a0G s.2.2.2.2.2.2.2.2.1*s.2.2.2.2.2.2.2.2.1.length+if s.1=0∨s.1=1 then 0 else 4+a3E zn s.2.2.2.2.2.2.2.2.2.1.2.1 s.2.2.2.2.2.2.2.2.2.2.1
theorem b4i(h:a3w k s n):0≤k∧k≤5:=by
 rcases h with h|h|⟨h,-⟩|⟨h,-⟩|⟨h,-⟩|⟨h,-⟩<;>omega
theorem b2Y(h:(a2g s n).isSome=true):a1r s n:=by
 unfold a2g at h
 split at h
 assumption
 cases h
theorem c5M(h:(a2g s n).isSome=true)(d:s.1≠0∧s.1≠1→PartsOk s.2.2.2.2.2.2.2.2.2.1 n ((s.2.2.2.2.2.2.2.2.1.length:Nat):Int) s.2.2.2.2.2.2.2.2.2.2.1 zn)(L:List Int):
  (a4B s zn L).length=L.length+c2G s zn:=by
 obtain⟨e,i,b,-,k,a,-,-,f,-⟩:=b2Y h;have c:=a1U f;have g:=c4p (b4i b) ⟨k,a⟩ f L;unfold a4B c2G
 by_cases hk:s.1=0∨s.1=1
 rw[if_pos hk,if_pos hk,b2z (by omega),b8v,g];omega;rw[if_neg hk,if_neg hk,b8Y (d (not_or.1 hk)),b2z (by omega),b8v,g];omega
theorem c4q(h:SmallS s)(f:(a2g s n).isSome=true):∃g,a4p s n=((c2G s g:Nat):Int)∧(s.1≠0∧s.1≠1→PartsOk s.2.2.2.2.2.2.2.2.2.1 n ((s.2.2.2.2.2.2.2.2.1.length:Nat):Int) s.2.2.2.2.2.2.2.2.2.2.1 g):=by
 obtain⟨e,b,-,-,-,a,-⟩:=b3S h (n:=n) (L:=[]) (by simp);obtain⟨-,g,-,k⟩:=a f;refine⟨g,?_,k⟩;unfold a4p;rw[if_pos f,←b7W k,c5M f k]
 simp
structure Shifted (l m:List Int) (n:Nat):Prop where
 len:m.length=l.length
 wl:l.all a0A=true
 wm:m.all a0A=true
 down:a1f m=a1f l
 waste:a2N m=a2N l+n
 fl:l.all (fun x=>x==l.headD 0)=false
 fm:m.all (fun x=>x==m.headD 0)=false
structure BestIs (l:List Int) (cs:List Sub) (a:Int×(Bool×Sub)):Prop where
 one:a.2.1=true→∃c∈cs,(a1p c.1 l c).2=0∧a.2.2=(a1p c.1 l c).1∧a.1=a4p a.2.2 (l.length:Int)
 least:∀c∈cs,(a1p c.1 l c).2=0→a.2.1=true∧a.1≤a4p (a1p c.1 l c).1 (l.length:Int)
theorem b5i{l:List Int}:∀(cs ds:List Sub)(a:Int×(Bool×Sub)),BestIs l ds a→BestIs l (ds++cs) (cs.foldl (b3C l) a)
 | [],ds,a,h=>by rw[a36];exact h
 |c::cs,ds,a,h=>by
  rw[b09,show ds++c::cs=(ds++[c])++cs by simp];refine b5i cs (ds++[c]) _ ?_
  unfold b3C
  by_cases h0:(a1p c.1 l c).2=0
  ·have e:((a1p c.1 l c).2 != 0)=false:=by rw[h0];rfl
   rw[e,cF];cases hq:(!a.2.1 || decide (a4p (a1p c.1 l c).1 (l.length:Int)<a.1))with
   |true=>
    refine⟨fun _=>⟨c,by simp,h0,rfl,rfl⟩,fun d f k=>⟨rfl,?_⟩⟩;rcases mA.1 f with f|f;obtain⟨i,j⟩:=h.least d f k;rw[i]at hq;simp only[bT,Bool.false_or,dT]at hq;exact Int.le_trans (Int.le_of_lt hq) j;simp only[a75]at f;subst f;exact Int.le_refl _
   |false=>
    simp only[a91,Bool.not_eq_false',decide_eq_false_iff_not]at hq;refine⟨fun b=>?_,fun d f k=>?_⟩;obtain⟨d,f,g⟩:=h.one b;exact⟨d,a92 _ f,g⟩;rcases mA.1 f with f|f;exact h.least d f k;simp only[a75]at f;subst f;exact⟨hq.1,Int.not_lt.1 hq.2⟩
  have e:((a1p c.1 l c).2 != 0)=true:=by simpa using h0
  rw[e,cT];refine⟨fun b=>?_,fun d f k=>?_⟩;obtain⟨d,f,g⟩:=h.one b;exact⟨d,a92 _ f,g⟩;rcases mA.1 f with f|f;exact h.least d f k;simp only[a75]at f;subst f;exact absurd k h0
theorem b7Z(l:List Int)(cs:List Sub):BestIs l cs (b4f l cs):=
 b5i cs [] _ ⟨fun h=>(by cases h),fun _ h=>(by cases h)⟩
theorem b4j(h:1≤l.length)(g:l.length≤4096)(f:l.all a0A=true):a1p 1 l (cS 1 0 0 [] [])=(a1K (a0W 1 (cS 1 0 0 [] [])) (a2N l) (a1f l) z0 [],0):=by
 unfold a1p;rw[if_neg (fun q=>q ⟨h,g,.inr (.inl rfl)⟩),if_neg (by rw[f];decide),if_neg (by decide),if_pos rfl]
theorem c2H(h:1≤l.length)(g:l.length≤4096)(f:l.all a0A=true)(d:List Int)(k:Int):(b4f l (a3K d k)).2.1=true:=
 ((b7Z l (a3K d k)).least (cS 1 0 0 [] []) (by simp[a3K,a2l]) (by rw[show(cS 1 0 0 [] []).1=1 from rfl,b4j h g f])).1
def inW(x:Int)(v:Nat):Bool:=decide (x=0) || a1x x (v:Int)
theorem c4r:a1x x (v:Int)=true↔1≤v∧v≤31∧-((2^(v-1):Nat):Int)≤x∧x≤((2^(v-1):Nat):Int)-1:=by
 by_cases hv:1≤v∧v≤31
 have e:((v:Int)-1)=((v-1:Nat):Int):=by omega
 have hp:2^(v-1)≤2^30:=a16 (by omega) (by omega);have b:=a19 (v-1);have g:z0g .i64 1 ((v-1:Nat):Int)=((2^(v-1):Nat):Int):=b9M (by omega);have f:z0g .i64 (-1) ((v-1:Nat):Int)=-((2^(v-1):Nat):Int):=by
  have a:min (a23 ((v-1:Nat):Int)) (IntKind.bits .i64)=v-1:=by simp only[tN,IntKind.bits];omega
  unfold z0g;rw[a,show(-1:Int)*2^(v-1)=-((2^(v-1):Nat):Int)by simp];exact a0D (by omega)
 have k:wrap .i64 (((2^(v-1):Nat):Int)-1)=((2^(v-1):Nat):Int)-1:=a0D (by omega);simp only[a1x,e,g,f,k,bA,dT];constructor;intro h;exact⟨hv.1,hv.2,h.2.2.1,h.2.2.2⟩;intro h;exact⟨by omega,by omega,h.2.2.1,h.2.2.2⟩;constructor;intro h;simp only[a1x,bA,dT]at h;omega;intro h;omega
theorem b5s:inW x v=true↔x=0∨(1≤v∧v≤31∧-((2^(v-1):Nat):Int)≤x∧x≤((2^(v-1):Nat):Int)-1):=by
 simp only[inW,a30,dT,c4r]
theorem c4s(h:v≤w)(f:w≤31)(g:inW x v=true):inW x w=true:=by
 rw[b5s]at g⊢;rcases g with g|⟨k,a,b,c⟩;exact .inl g
 have:2^(v-1)≤2^(w-1):=a16 (by omega) (by omega)
 exact .inr ⟨by omega,f,by omega,by omega⟩
theorem c4t(h:a0A x=true):inW x 31=true:=by
 have:=a1G.1 h
 rw[b5s];exact .inr ⟨by omega,by omega,by rw[show((2^(31-1):Nat):Int)=1073741824 from rfl];omega,by rw[show((2^(31-1):Nat):Int)=1073741824 from rfl];omega⟩
theorem b8w{x:Int}(b:a0A x=true):∀(k w:Nat),w+k=32→w≤31→w≤a1J x k w∧a1J x k w≤31∧inW x (a1J x k w)=true∧∀v,w≤v→inW x v=true→v≤31→a1J x k w≤v
 |0,w,h,g=>absurd g (by omega)
 |k+1,w,h,g=>by
  by_cases hin:inW x w=true
  ·have:a1J x (k+1) w=w:=by
    unfold a1J;cases f:(x != 0)&&!a1x x (w:Int)with
    |false=>rfl
    |true=>
     simp only[bA,bne_iff_ne,ne_eq,a29]at f;simp only[inW,a30,dT,f.2,Bool.false_eq_true,or_false]at hin;exact absurd hin f.1
   rw[this];exact⟨a28 _,g,hin,fun v hv _ _=>hv⟩
  have f:((x != 0)&&!a1x x (w:Int))=true:=by
   simp only[inW,a30,dT,not_or,Bool.not_eq_true]at hin;simp only[bA,bne_iff_ne,ne_eq,a29];exact hin
  have j:w≠31:=fun e=>hin (by rw[e];exact c4t b);have e:a1J x (k+1) w=a1J x k (w+1):=by
   show(bif (x != 0)&&!a1x x (w:Int)then a1J x k (w+1)else w)=_;rw[f,cT]
  obtain⟨l,c,d,i⟩:=b8w b k (w+1) (by omega) (by omega);rw[e];refine⟨by omega,c,d,fun v hv a g=>i v ?_ a g⟩;rcases Nat.lt_or_ge w v with q|q;exact q
  have:v=w:=by omega
  exact absurd (this▸a) hin
theorem a8Y:∀(l:List Int)(w:Nat),l.all a0A=true→w≤31→
  w≤l.foldl (fun w x=>a1J x (32-w) w) w∧l.foldl (fun w x=>a1J x (32-w) w) w≤31∧(∀x∈l,inW x (l.foldl (fun w x=>a1J x (32-w) w) w)=true)∧∀v,w≤v→v≤31→(∀x∈l,inW x v=true)→l.foldl (fun w x=>a1J x (32-w) w) w≤v
 | [],w,_,h31=>⟨a28 _,h31,by simp,fun v hv _ _=>hv⟩
 |x::l,w,h,h31=>by
  rw[a07,bA]at h;obtain⟨m,e,i,j⟩:=b8w h.1 (32-w) w (by omega) h31;obtain⟨b,a,c,d⟩:=a8Y l (a1J x (32-w) w) h.2 e;simp only[b09];refine⟨by omega,a,fun y k=>?_,fun v hv f g=>?_⟩;rcases mC.1 k with rfl|k;exact c4s b a i;exact c y k;exact d v (j v hv (g x a73) f) f fun y k=>g y (List.mem_cons_of_mem _ k)
theorem c0D(h:l.all a0A=true):∀x∈l,inW x (a0G l)=true:=(a8Y l 0 h (by omega)).2.2.1
theorem c1n(h:l.all a0A=true)(hv:v≤31)(g:∀x∈l,inW x v=true):a0G l≤v:=(a8Y l 0 h (by omega)).2.2.2 v (by omega) hv g
theorem c4u(e:w≤30)(a:((2^w:Nat):Int) ∣ x)(h:inW x v=true):inW (z0h .i64 x (w:Int)) v=true:=by
 obtain⟨c,rfl⟩:=a;rw[c4k (by omega)];rw[b5s]at h⊢;have hp:(1:Int)≤((2^w:Nat):Int):=by have:=a19 w;omega
 generalize ((2^w:Nat):Int)=p at h hp;rcases h with h|⟨f,k,b,d⟩;rcases Int.mul_eq_zero.1 h with h|h;omega;exact .inl h;refine .inr ⟨f,k,?_,?_⟩
 by_cases hc:0≤c
 have:(0:Int)≤((2^(v-1):Nat):Int):=a74 _
 omega;have g:=a59 (show 0≤p-1 by omega) (show 0≤-c by omega);rw[Int.mul_neg,b04]at g;omega
 by_cases hc:0≤c
 have g:=a59 (show 0≤p-1 by omega) hc;rw[b04]at g;omega
 have:(1:Int)≤((2^(v-1):Nat):Int):=by have:=a19 (v-1);omega
 omega
theorem c2I(b:l.length≤4096)(h:l.all a0A=true):a0G (a1f l)≤a0G l:=by
 obtain⟨-,d,e⟩:=a7T (show short l by unfold short;omega) h;obtain⟨-,a,-,-⟩:=a5T b h;have k:∀x∈l,((2^a2N l:Nat):Int) ∣ x:=by
  rcases e with⟨g,-⟩|⟨-,-,g,-⟩;exact fun x f=>by rw[g x f];exact a98 _
  exact g
 refine c1n a (a1U h) fun y c=>?_
 obtain⟨x,f,rfl⟩:=a99.1 c;exact c4u d (k x f) (c0D h x f)
theorem c2J(c:1≤l.length)(h:l.length≤4096)(f:l.all a0A=true):a4p (a1p 1 l (cS 1 0 0 [] [])).1 (l.length:Int)=((13+a0G (a1f l)*l.length:Nat):Int):=by
 have d:SmallS (cS 1 0 0 [] []):=a9r (by simp) (by simp);have g:=b4j c h f;obtain⟨a1,-,-,a⟩:=b7Y d (k:=1) (l:=l) (by rw[g]);obtain⟨j,i,-⟩:=c4q a1 (by rw[a];rfl);obtain⟨-,-,b,-⟩:=a5T h f;rw[i,g];have e:c2G (a1K (a0W 1 (cS 1 0 0 [] [])) (a2N l) (a1f l) z0 []) j=13+0+a0G (a1f l)*(a1f l).length+0:=rfl;rw[e,b];rfl
theorem c2K(b:1≤l.length)(f:l.length≤4096)(a:l.all a0A=true)(g:b7l (a1f l))(d:0≤k)(t:k≤3):
  ∃s,a4N (l,k)=some (s,0)∧SmallS s∧a2g s (l.length:Int)=some l∧s=(b4f l (a3K (a1f l) k)).2.2∧a4p s (l.length:Int)=(b4f l (a3K (a1f l) k)).1∧a4p s (l.length:Int)≤((13+a0G l*l.length:Nat):Int)∧
   (∀c∈a3K (a1f l) k,(a1p c.1 l c).2=0→a4p s (l.length:Int)≤a4p (a1p c.1 l c).1 (l.length:Int)):=by
 obtain⟨-,p,u,-⟩:=a5T f a;have hb:=c5L b f a g d t;have j:=c2H b f a (a1f l) k;obtain⟨c,i,q,r,o⟩:=(b7Z l (a3K (a1f l) k)).one j;have e:=b7m p (by omega) g k c i;obtain⟨m,-,-,n⟩:=b7Y e q;rw[←r]at m n;have h:∀c∈a3K (a1f l) k,(a1p c.1 l c).2=0→a4p (b4f l (a3K (a1f l) k)).2.2 (l.length:Int)≤a4p (a1p c.1 l c).1 (l.length:Int):=fun c i d=>by
  rw[←o];exact((b7Z l (a3K (a1f l) k)).least c i d).2
 refine⟨_,hb,m,n,rfl,o.symm,?_,h⟩;have hp:=h (cS 1 0 0 [] []) (by simp[a3K,a2l]) (by rw[show(cS 1 0 0 [] []).1=1 from rfl,b4j b f a]);rw[show(cS 1 0 0 [] []).1=1 from rfl,c2J b f a]at hp
 have:=a38 l.length (c2I f a)
 omega
@[reducible] def Rd:Type:=(List Int)×(Int×(Int×Unit))
def a1u(L:List Int):Prop:=∀b∈L,b=0∨b=1
def b1t(bs:List Int)(i:Nat):Bool:=(bs.getD (i / 8) 0).toNat.testBit (7-i%8)
theorem or8{x y:Nat}(h:x<256)(g:y<256):bits .u8 .or (x:Int) (y:Int)=((x ||| y:Nat):Int):=by
 show wrap .u8 (((a02 8 (x:Int)) ||| (a02 8 (y:Int))).toNat:Int)=_;rw[a48,a48,a52,a55,a55,a40 h,a40 g,a8R]
 have:x ||| y<2^8:=b00 h g
 omega
theorem d1D{b:Int}(hb:b=0∨b=1){r:Nat}(g:r<8):z0g .u8 b (7-(r:Int))=((b.toNat*2^(7-r):Nat):Int):=by
 have h:∀r:Fin 8,z0g .u8 0 (7-(r.1:Int))=((0*2^(7-r.1):Nat):Int)∧z0g .u8 1 (7-(r.1:Int))=((1*2^(7-r.1):Nat):Int):=by decide +kernel
 rcases hb with rfl|rfl;exact(h ⟨r,g⟩).1;exact(h ⟨r,g⟩).2
theorem c4v{x:Nat}(h:x<256){r:Nat}(g:r<8):bits .u8 .and (z0h .u8 (x:Int) (7-(r:Int))) 1=if x.testBit (7-r)then 1 else 0:=by
 have e:z0h .u8 (x:Int) (7-(r:Int))=((x / 2^(7-r):Nat):Int):=by
  show b08 (x:Int) (2^(min (7-(r:Int)).toNat 8))=_
  grind
 rw[e];have f:x / 2^(7-r)<256:=a53 (a51 _ _) h;show wrap .u8 (((a02 8 ((x / 2^(7-r):Nat):Int)) &&& (a02 8 1)).toNat:Int)=_
 grind[a02,a8R]
theorem c3s(L:List Int)(b:Int)(i:Nat):(L++[b]).getD i 0=if i=L.length then b else L.getD i 0:=by
 grind
theorem c0E(h:List Int)(k:Nat)(y:Int)(g:k<h.length)(j:Nat):(h.set k y).getD j 0=if j=k then y else h.getD j 0:=by
 grind
theorem b8x:∀(n:Nat)(L:List Int),L.length=n→a1u L→(∀j,0≤(wL L).1.getD j 0∧(wL L).1.getD j 0<256)∧∀i,b1t (wL L).1 i=decide (L.getD i 0=1)
 |0,L,h,_=>by
  simp_all[wL,b1t]
 |n+1,L,h,hL=>by
  obtain⟨g,b,rfl⟩:∃g b,L=g++[b]:=by
   rcases a88 L with rfl|⟨g,b,e⟩
   all_goals simp_all
  have hb:b=0∨b=1:=hL b (by simp);obtain⟨v,w⟩:=b8x n g (by simp_all) fun c D=>hL c (by grind);obtain⟨o,p⟩:=a4U g;rw[b7T];generalize wL g=wr at o p v w⊢;obtain⟨d,m,u⟩:=wr;have o:m=(g.length:Int):=o;have p:d.length=(g.length+7) / 8:=p;subst o;have e8:((g.length:Int) / 8).toNat=g.length / 8:=by rfl
  have r:(g.length:Int)%8=((g.length%8:Nat):Int):=by rfl
  obtain⟨f,a,y,z⟩:∃f:List Int,(if(g.length:Int)%8=0 then d++[0]else d)=f∧g.length / 8<f.length∧∀j,f.getD j 0=d.getD j 0:=by
   grind
  rw[r]at a;have C:g.length%8<8:=a42 _ (by simp);obtain⟨x,s⟩:∃x:Nat,d.getD (g.length / 8) 0=(x:Int):=a00 (v _).1;have k:x<256:=by
   grind
  have t:b.toNat*2^(7-g.length%8)<256:=by
   have hp:2^(7-g.length%8)≤2^7:=a16 (by simp) (by omega)
   grind
  have B:x ||| b.toNat*2^(7-g.length%8)<2^8:=b00 k t;have l:(b7S (d,(g.length:Int),u) b).1=f.set (g.length / 8) ((x ||| b.toNat*2^(7-g.length%8):Nat):Int):=by
   unfold b7S;simp only[a,e8,r];rw[z,s,d1D hb C,or8 k t]
  rw[l];refine⟨fun j=>?_,fun i=>?_⟩
  grind[c0E]
  ·unfold b1t;rw[c0E _ _ _ y,c3s];have q:=w i;unfold b1t at q
   by_cases hk:i / 8=g.length / 8
   ·rw[if_pos hk,tN,Nat.testBit_or];rw[hk,s,tN]at q;rw[q];have A:(b.toNat*2^(7-g.length%8)).testBit (7-i%8)=(decide (b=1)&&decide (i=g.length)):=by
     rcases hb with rfl|rfl
     all_goals grind
    grind
   grind
theorem c5N(h:a1u L):(∀j,0≤(wL L).1.getD j 0∧(wL L).1.getD j 0<256)∧∀i,b1t (wL L).1 i=decide (L.getD i 0=1):=b8x _ L rfl h
def rdr(P R:List Int):Rd:=((wL (P++R)).1,(P.length:Int),(0:Int),())
theorem b8a(k:a1u L)(o:L.length<1000000000)(l:i<L.length)(t:Int×(Int×Unit)):
  a1y (((wL L).1,t),(i:Int))=some (L.getD i 0,(wL L).1,t):=by
 obtain⟨d,e⟩:=c5N k;obtain⟨-,n⟩:=a4U L;have m:a34 (i:Int) 8=((i%8:Nat):Int):=by rfl
 have j:a62 (i:Int) 8=((i / 8:Nat):Int):=by rfl
 have b:wrap .i64 ((i / 8:Nat):Int)=((i / 8:Nat):Int):=a0D (by omega);have c:wrap .i64 (7-((i%8:Nat):Int))=7-((i%8:Nat):Int):=a0D (by omega);have g:decide (7-((i%8:Nat):Int)<0)=false:=by grind
 have hb:i / 8<(wL L).1.length:=by omega
 have f:(wL L).1[i / 8]=(wL L).1.getD (i / 8) 0:=by grind
 unfold a1y;simp only[m,j,b,c,g,a0B hb,oB,cF];obtain⟨x,a⟩:∃x:Nat,(wL L).1.getD (i / 8) 0=(x:Int):=a00 (d _).1;have h:x<256:=by grind
 rw[f,a,c4v h (a42 _ (by simp))]
 have:=e i
 unfold b1t at this;rw[a,tN]at this;rw[this];have hv:L.getD i 0=0∨L.getD i 0=1:=by
  have:L.getD i 0=L[i]:=by simp_all
  rw[this];exact k _ (a06 l)
 grind
theorem c3t(hv:v<18446744073709551616)(h:i≤64):a5Q (v:Int) i=((v / 2^i%2:Nat):Int):=by
 unfold a5Q;rw[a5C h];have g:v / 2^i<18446744073709551616:=a53 (a51 _ _) hv;show wrap .u8 (wrap .u64 (((a02 64 ((v / 2^i:Nat):Int)) &&& (a02 64 1)).toNat:Int))=_
 grind[a02,a0P,a8R]
theorem a1u.app{A B:List Int}(h:a1u A)(g:a1u B):a1u (A++B):=fun b hb=>(mA.1 hb).elim (h b) (g b)
theorem orU(k:a<18446744073709551616)(hb:b<2)(f:a%2=0):bits .u64 .or (a:Int) (b:Int)=((a+b:Nat):Int):=by
 show wrap .u64 (((a02 64 (a:Int) ||| a02 64 (b:Int)).toNat:Nat):Int)=_;have g:(a02 64 (a:Int)).toNat=a:=by simp_all
 have h:(a02 64 (b:Int)).toNat=b:=by grind
 rw[a52,g,h];have e:a ||| b=a+b:=by
  have:=a44 (i:=1) (b:=b) (by omega) (a / 2)
  grind
 grind[a0P]
theorem c0F{v:Nat}(hv:v<9223372036854775808){n:Nat}(q:n≤62):∀(m:Nat)(P R:List Int),m≤n→a1u (P++(pb (v:Int) m++R))→(P++(pb (v:Int) m++R)).length<1000000000→
  x0r a3H (((v / 2^m:Nat):Int),(n:Int),((n-m:Nat):Int),rdr P (pb (v:Int) m++R),())=some ((v:Int),rdr (P++pb (v:Int) m) R,())
 |0,P,R,_,_,_=>by
  grind[a0I,a3H,pb]
 |m+1,P,R,hm,hok,hlen=>by
  have l:decide (((n-(m+1):Nat):Int)<(n:Int))=true:=by grind
  have a:a1y (rdr P (pb (v:Int) (m+1)++R),(P.length:Int))=some (a5Q v m,rdr P (pb (v:Int) (m+1)++R)):=by
   have:=b8a hok hlen (i:=P.length) (by simp[pb]) ((P.length:Int),(0:Int),())
   rw[show(P++(pb (v:Int) (m+1)++R)).getD P.length 0=a5Q v m from by simp_all[pb]]at this;exact this
  have g:=c3t (v:=v) (by omega) (i:=m) (by omega);have b:v / 2^m%2<2:=a42 _ (by simp);have f:v / 2^(m+1)=v / 2^m / 2:=by grind[Nat.div_div_eq_div_mul]
  have p:v / 2^m≤v:=a51 _ _;have d:z0g .u64 ((v / 2^(m+1):Nat):Int) 1=((v / 2^(m+1)*2^1:Nat):Int):=a8q (o:=1) (by omega) (by omega);have h:bits .u64 .or ((v / 2^(m+1)*2^1:Nat):Int) (wrap .u64 (a5Q (v:Int) m))=((v / 2^m:Nat):Int):=by
   rw[g,a0P (by omega),orU (by omega) b (by omega),f];omega
  have e:wrap .i64 (((n-(m+1):Nat):Int)+1)=((n-m:Nat):Int):=by grind[a0D]
  have j:wrap .i64 ((P.length:Int)+1)=(((P++[a5Q v m]).length:Nat):Int):=by
   grind[a0D]
  have k:P++(pb (v:Int) (m+1)++R)=(P++[a5Q v m])++(pb (v:Int) m++R):=by simp[pb]
  have c:((rdr P (pb (v:Int) (m+1)++R)).1,(((P++[a5Q v m]).length:Nat):Int),(rdr P (pb (v:Int) (m+1)++R)).2.2)=rdr (P++[a5Q v m]) (pb (v:Int) m++R):=by
   unfold rdr;simp_all
  rw[a0J (s':=(((v / 2^m:Nat):Int),(n:Int),((n-m:Nat):Int),rdr (P++[a5Q v m]) (pb (v:Int) m++R),())) (by
   simp only[a3H,l,cT];rw[show(rdr P (pb (v:Int) (m+1)++R)).2.1=(P.length:Int)from rfl,a];simp only[oB,d,h,e];rw[show(rdr P (pb (v:Int) (m+1)++R)).2.1=(P.length:Int)from rfl,j,c])]
  rw[c0F hv q m _ _ (by omega) (by simp_all) (by simp_all)];simp[pb]
theorem c3u{n:Nat}(a:n≤62)(hv:v<2^n)(g:a1u (P++(pb (v:Int) n++R)))(k:(P++(pb (v:Int) n++R)).length<200000000):
  a0F (rdr P (pb (v:Int) n++R),(n:Int))=some ((v:Int),rdr (P++pb (v:Int) n) R):=by
 have h:v<9223372036854775808:=Nat.lt_of_lt_of_le hv (Nat.le_trans (a16 (by simp) a) (by simp));have f:=c0F h a n P R (by omega) g (by omega);rw[a80 hv,Nat.sub_self]at f;simp at f;obtain⟨-,e⟩:=a4U (P++(pb (v:Int) n++R));have j:=b2x (v:Int) n;have i:(P++(pb (v:Int) n++R)).length=P.length+n+R.length:=by grind
 have e8:wrap .i64 ((8:Int)*(((wL (P++(pb (v:Int) n++R))).1.length:Nat):Int))=(8:Int)*(((wL (P++(pb (v:Int) n++R))).1.length:Nat):Int):=a0D (by omega);have d:wrap .i64 ((8:Int)*(((wL (P++(pb (v:Int) n++R))).1.length:Nat):Int)-(P.length:Int))=(8:Int)*(((wL (P++(pb (v:Int) n++R))).1.length:Nat):Int)-(P.length:Int):=a0D (by omega);have b:decide ((n:Int)<0)=false:=by simp
 have c:decide ((n:Int) > 64)=false:=by grind
 have l:decide ((n:Int) > (8:Int)*(((wL (P++(pb (v:Int) n++R))).1.length:Nat):Int)-(P.length:Int))=false:=by
  grind
 unfold a0F a2w;rw[show(rdr P (pb (v:Int) n++R)).2.2.1=0 from rfl];simp only[bne_self_eq_false,cF,b,c,oB];rw[show(rdr P (pb (v:Int) n++R)).1=(wL (P++(pb (v:Int) n++R))).1 from rfl,show(rdr P (pb (v:Int) n++R)).2.1=(P.length:Int)from rfl,e8,d]
 grind
def b2Z(n:Nat)(x:Int):Prop:=-((2^n:Nat):Int)≤2*x∧2*x<((2^n:Nat):Int)
theorem b8y{n:Nat}(f:n≤62)(x:Int):∃v:Nat,a0S x n=(v:Int)∧v<2^n∧(v:Int)=x%((2^n:Nat):Int):=by
 have k:wrap .u64 x=x%18446744073709551616:=by simp[wrap,IntKind.bits,IntKind.signed]
 obtain⟨y,g⟩:∃y:Nat,x%18446744073709551616=(y:Int):=a00 (Int.emod_nonneg _ (by decide));have h:y<18446744073709551616:=by omega
 refine⟨y%2^n,?_,a42 _ (a19 n),?_⟩;unfold a0S;rw[k,g];exact b9H h f;rw[Int.natCast_emod,←g];refine Int.emod_emod_of_dvd x ?_
 have:(2:Nat)^n ∣ 2^64:=a71 2 (by omega)
 exact a26.2 this
theorem c3v{n:Nat}(t:n≤62)(B:b2Z n x)(j:a1u (P++(pb (a0S x n) n++R)))(f:(P++(pb (a0S x n) n++R)).length<200000000):
  a0Z (rdr P (pb (a0S x n) n++R),(n:Int))=some (x,rdr (P++pb (a0S x n) n) R):=by
 obtain⟨v,hv,i,a⟩:=b8y t x;rw[hv]at j f⊢;have d:=c3u t i j f;obtain⟨b,c⟩:=B;have E:=a19 n;have q:(v:Int)=x∧0≤x∨(v:Int)=x+((2^n:Nat):Int)∧x<0:=by
  by_cases h0:0≤x
  exact .inl ⟨by rw[a];exact b01 h0 (by omega),h0⟩;refine .inr ⟨?_,by omega⟩;rw[a,←Int.add_emod_right];exact b01 (by omega) (by omega)
 unfold a0Z;simp only[d,oB];rw[show(rdr (P++pb (v:Int) n) R).2.2.1=0 from rfl];simp only[bne_self_eq_false,cF,oB];cases n with
 |zero=>
  have o:x=0:=by simp at b c;omega
  subst o;rfl
 |succ k=>
  have p:(((k+1:Nat):Int)==0)=false:=by simp only[beq_eq_false_iff_ne];omega
  have A:wrap .i64 ((64:Int)-((k+1:Nat):Int))=((64-(k+1):Nat):Int):=by rw[a0D (by omega)];omega
  have z:decide (((64-(k+1):Nat):Int)<0)=false:=by simp
  simp only[p,cF,A,z];have s:64-(k+1)+(k+1)=64:=by omega
  generalize 64-(k+1)=m at s⊢;have l:2^m*2^(k+1)=18446744073709551616:=by rw[←Nat.pow_add,s]
  have g:((2^m:Nat):Int)*((2^(k+1):Nat):Int)=18446744073709551616:=by rw[←b17,l];rfl
  have hp:=a19 m;have r:z0g .u64 (v:Int) (m:Int)=(v:Int)*((2^m:Nat):Int):=by
   show wrap .u64 ((v:Int)*2^(min (m:Int).toNat 64))=_;rw[tN,a87 (by omega)];have e:(2:Int)^m=((2^m:Nat):Int):=by simp
   rw[e];refine a0P ⟨a59 (by omega) (by omega),?_⟩
   have:v*2^m<2^(k+1)*2^m:=Nat.mul_lt_mul_of_pos_right i hp
   rw[←b17];rw[a97 (2^(k+1)),l]at this;omega
  have u:-9223372036854775808≤x*((2^m:Nat):Int):=by
   have:=Int.mul_le_mul_of_nonneg_right b (show(0:Int)≤((2^m:Nat):Int)by omega)
   have e:-((2^(k+1):Nat):Int)*((2^m:Nat):Int)=-18446744073709551616:=by rw[Int.neg_mul,a83,g]
   rw[e,Int.mul_assoc]at this;omega
  have w:x*((2^m:Nat):Int)<9223372036854775808:=by
   have:=Int.mul_lt_mul_of_pos_right c (show(0:Int)<((2^m:Nat):Int)by omega)
   rw[a83 ((2^(k+1):Nat):Int),g,Int.mul_assoc]at this;omega
  have D:wrap .i64 ((v:Int)*((2^m:Nat):Int))=x*((2^m:Nat):Int):=by
   rcases q with⟨h,-⟩|⟨h,-⟩;rw[h];exact a0D (by omega);rw[h,Int.add_mul,a83 ((2^(k+1):Nat):Int),g];generalize x*((2^m:Nat):Int)=y at u w⊢;have o:y<0∨0≤y:=by omega
   simp only[wrap,IntKind.bits,IntKind.signed]
   simp
   split<;>omega
  have C:z0h .i64 (x*((2^m:Nat):Int)) (m:Int)=x:=by
   show b08 (x*((2^m:Nat):Int)) (2^(min (m:Int).toNat 64))=x;rw[tN,a87 (by omega)];have e:(2:Int)^m=((2^m:Nat):Int):=by simp
   rw[e,a35 _ (by omega)];exact Int.mul_ediv_cancel _ (by omega)
  rw[r,D,C]
theorem c2L(P:List Int)(n:Nat)(R:List Int){c:Nat}(h:c<n):(P++(a01 n 0++1::R)).getD (P.length+c) 0=0:=by
 simp only[lD];rw[a32 (by omega),a85,List.getElem?_append_left (by simpa using h)];simp[h]
theorem c4w(P:List Int)(n:Nat)(R:List Int):(P++(a01 n 0++1::R)).getD (P.length+n) 0=1:=by
 simp only[lD];rw[a32 (by omega),a85,a32 (by simp)]
 simp
theorem c3w{n lm:Nat}(y:n≤lm)(w:lm<1000000)(q:a1u (P++(a01 n 0++1::R)))(s:(P++(a01 n 0++1::R)).length<200000000):
  a1H (rdr P (a01 n 0++1::R),(lm:Int))=some ((n:Int),rdr (P++(a01 n 0++[1])) R):=by
 obtain⟨-,u⟩:=a4U (P++(a01 n 0++1::R));have v:(P++(a01 n 0++1::R)).length=P.length+n+1+R.length:=by simp;omega
 have e8:wrap .i64 ((8:Int)*(((wL (P++(a01 n 0++1::R))).1.length:Nat):Int))=(8:Int)*(((wL (P++(a01 n 0++1::R))).1.length:Nat):Int):=a0D (by omega);have j:∀c,c≤n→a1y (rdr P (a01 n 0++1::R),((P.length:Int)+(c:Int)))=some (if c=n then 1 else 0,rdr P (a01 n 0++1::R)):=fun c o=>by
  have:=b8a q (by omega) (i:=P.length+c) (by omega) ((P.length:Int),(0:Int),())
  rw[b18]at this;refine this.trans ?_
  by_cases e:c=n
  subst e;rw[c4w,if_pos rfl];rfl;rw[c2L P n R (by omega),if_neg e];rfl
 have k:∀c:Nat,c≤n→(((P.length:Int)+(c:Int))==(8:Int)*(((wL (P++(a01 n 0++1::R))).1.length:Nat):Int))=false:=fun c o=>by
  simp only[beq_eq_false_iff_ne];omega
 have m:wrap .i64 ((P.length:Int)+(n:Int)+1)=(((P++(a01 n 0++[1])).length:Nat):Int):=by
  rw[a0D (by omega)];simp;omega
 have g:P++(a01 n 0++1::R)=(P++(a01 n 0++[1]))++R:=by simp
 have r:((rdr P (a01 n 0++1::R)).1,(((P++(a01 n 0++[1])).length:Nat):Int),(rdr P (a01 n 0++1::R)).2.2)=rdr (P++(a01 n 0++[1])) R:=by
  unfold rdr;rw[g]
 have a:(rdr P (a01 n 0++1::R)).1=(wL (P++(a01 n 0++1::R))).1:=rfl;have h:=a2F (f:=a3c) (fun c:Nat=>((lm:Int),(c:Int),(P.length:Int)+(c:Int),rdr P (a01 n 0++1::R),())) n (b:=((n:Int),rdr (P++(a01 n 0++[1])) R,()))
  (fun c o=>by
   have l:((0:Int)==1)=false:=rfl;have t:(((c:Nat):Int)==(lm:Int))=false:=by simp only[beq_eq_false_iff_ne];omega
   have x:wrap .i64 ((c:Int)+1)=((c+1:Nat):Int):=a0C (by omega);have w2:wrap .i64 ((P.length:Int)+(c:Int)+1)=(P.length:Int)+((c+1:Nat):Int):=by rw[a0D (by omega)];omega
   simp only[a3c,a,e8,k c (by omega),cF,j c (by omega),oB,if_neg (Nat.ne_of_lt o),l,t,x,w2])
  (by
   have l:((1:Int)==1)=true:=rfl;simp only[a3c,a,e8,k n (a28 _),cF,j n (a28 _),oB,if_pos rfl,l,cT,m];rw[←a,r];rfl)
 unfold a1H;rw[show(rdr P (a01 n 0++1::R)).2.2.1=0 from rfl,show(rdr P (a01 n 0++1::R)).2.1=(P.length:Int)from rfl];have p:u0z (lm:Int) 0=(lm:Int):=by
  have d:decide ((0:Int) > (lm:Int))=false:=by simp
  simp only[u0z,d,cF]
 simp only[nZ,Int.add_zero,a09]at h;simp only[bne_self_eq_false,cF,p,h,oB]
def OkR(P R:List Int):Prop:=a1u (P++R)∧(P++R).length<200000000
theorem OkR.shift{A:List Int}(h:OkR P (A++R)):OkR (P++A) R:=by
 unfold OkR at h⊢
 rwa [aA]
theorem a3l{n:Nat}(g:n≤62)(hv:v<2^n)(h:OkR P (pb (v:Int) n++R)):a0F (rdr P (pb (v:Int) n++R),(n:Int))=some ((v:Int),rdr (P++pb (v:Int) n) R):=c3u g hv h.1 h.2
theorem a8s{n:Nat}(f:n≤62)(g:b2Z n x)(h:OkR P (pb (a0S x n) n++R)):a0Z (rdr P (pb (a0S x n) n++R),(n:Int))=some (x,rdr (P++pb (a0S x n) n) R):=c3v f g h.1 h.2
def unB(n:Nat):List Int:=a01 n 0++[1]
theorem c0G{n lm:Nat}(f:n≤lm)(g:lm<1000000)(h:OkR P (unB n++R)):a1H (rdr P (unB n++R),(lm:Int))=some ((n:Int),rdr (P++unB n) R):=by
 have e:unB n++R=a01 n 0++1::R:=by simp[unB]
 rw[e]at h⊢;exact c3w f g h.1 h.2
theorem a1R{n:Nat}(h:n≤63)(hv:v<2^n)(L:List Int):a0M (v:Int) n L=L++pb (v:Int) n:=by
 unfold a0M;rw[a5C (N:=v) (o:=n) (by omega),a80 hv]
 simp
def a8i(k:Nat)(x:Int):List Int:=
 if a0N x / 2^k<32 then unB (a0N x / 2^k)++pb ((a0N x%2^k:Nat):Int) k else unB 32++pb ((a0N x:Nat):Int) 32
theorem c3x{k:Nat}(f:k≤25)(g:a0A x=true)(L:List Int):a5R k x L=L++a8i k x:=by
 have h:=a8k g;unfold a5R a8i;split;rw[a1R (by omega) (a42 _ (a19 k))];simp[unL,unB];rw[a1R (by omega) (by omega)];simp[unL,unB]
theorem c3y(f:a0A x=true):a6i ((a0N x:Nat):Int)=some x:=by
 have b:=a8k f;have d:=a1G.1 f;have c:a34 ((a0N x:Nat):Int) 2=((a0N x:Nat):Int)%2:=a49 (by omega);have a:a62 ((a0N x:Nat):Int) 2=((a0N x:Nat):Int) / 2:=a76 (by omega);have k:decide (((a0N x:Nat):Int)≥2147483648)=false:=by simp only[ge_iff_le,decide_eq_false_iff_not];omega
 unfold a6i;simp only[k,cF,c,a]
 by_cases h0:0≤x
 have e:((a0N x:Nat):Int)=2*x:=by unfold a0N;rw[if_pos h0];omega
 rw[e];have h:((2*x)%2==(0:Int))=true:=by simp only[beq_iff_eq];omega
 have g:2*x / 2=x:=by omega
 simp only[h,cT,g];rw[a0P (by omega),a0D (by omega)];have e:((a0N x:Nat):Int)=-2*x-1:=by unfold a0N;rw[if_neg h0];omega
 rw[e];have h:((-2*x-1)%2==(0:Int))=false:=by simp only[beq_eq_false_iff_ne];omega
 have g:(-2*x-1) / 2=-x-1:=by omega
 simp only[h,cF,g];rw[a0P (n:=-x-1) (by omega),a0D (n:=-x-1) (by omega),a0D (n:=0-(-x-1)) (by omega),a0D (by omega)];congr 1;omega
theorem c1o{k:Nat}(w:k≤25)(q:a0A x=true)(h:OkR P (a8i k x++R)):b1g (rdr P (a8i k x++R),(k:Int))=some (x,(0:Int),rdr (P++a8i k x) R):=by
 have u:=a8k q;have g:=c3y q;unfold b1g a0L;unfold a8i at h⊢;have r:∀A B:List Int,(rdr A B).2.2.1=0:=fun _ _=>rfl;split;rename_i l;rw[if_pos l,aA]at h;have e:=c0G (n:=a0N x / 2^k) (lm:=32) (by omega) (by omega) h;have i:=a3l (n:=k) (v:=a0N x%2^k) (by omega) (a42 _ (a19 k)) h.shift;have d:wrap .u64 ((a0N x / 2^k:Nat):Int)=((a0N x / 2^k:Nat):Int):=a2k (by omega);have b:decide (((a0N x / 2^k:Nat):Int)<32)=true:=by simp only[dT];omega
 have c:decide ((k:Int)<0)=false:=by simp
 have p:a0N x / 2^k*2^k≤a0N x:=Nat.div_mul_le_self _ _;have m:z0g .u64 ((a0N x / 2^k:Nat):Int) (k:Int)=((a0N x / 2^k*2^k:Nat):Int):=a8q (by omega) (by omega);have a:wrap .u64 (((a0N x / 2^k*2^k:Nat):Int)+((a0N x%2^k:Nat):Int))=((a0N x:Nat):Int):=by
  rw[←b18,Nat.div_add_mod',a0P (by omega)]
 rw[aA];have f:a1H (rdr P (unB (a0N x / 2^k)++(pb ((a0N x%2^k:Nat):Int) k++R)),(32:Int))=_:=e;simp only[f,oB,r,bne_self_eq_false,cF,d,b,cT,i,c,m,a,g];rw[aA];rename_i l;rw[if_neg l,aA]at h;have e:=c0G (n:=32) (lm:=32) (by omega) (by omega) h;have i:=a3l (n:=32) (v:=a0N x) (by omega) (by omega) h.shift;have d:wrap .u64 (32:Int)=32:=a0P (by omega);have b:decide ((32:Int)<32)=false:=by simp
 have c:decide ((k:Int)<0)=false:=by simp
 have s:decide (((a0N x:Nat):Int)≥2147483648)=false:=by simp only[ge_iff_le,decide_eq_false_iff_not];omega
 have o:z0h .u64 ((a0N x:Nat):Int) (k:Int)=((a0N x / 2^k:Nat):Int):=a5C (by omega);have t:decide (((a0N x / 2^k:Nat):Int)<32)=false:=by simp only[decide_eq_false_iff_not];omega
 rw[aA];have f:a1H (rdr P (unB 32++(pb ((a0N x:Nat):Int) 32++R)),(32:Int))=some ((32:Int),_):=e;have j:a0F (rdr (P++unB 32) (pb ((a0N x:Nat):Int) 32++R),(32:Int))=_:=i;simp only[f,oB,r,bne_self_eq_false,cF,d,b,j,c,s,o,t,g];rw[aA]
def a2W(k:Nat)(l:List Int):List Int:=l.flatMap (a8i k)
theorem b7n{k:Nat}(g:k≤25):∀(l L:List Int),l.all a0A=true→a3D k l L=L++a2W k l
 | [],L,_=>by simp[a3D,a2W]
 |x::l,L,h=>by
  simp only[a07,bA]at h;show a3D k l (a5R k x L)=_;rw[b7n g l _ h.2,c3x g h.1];simp[a2W]
theorem b4J{k:Nat}(f:k≤25){N:Nat}(c:N<1000000):∀(l done P R:List Int),l.all a0A=true→done.length+l.length=N→OkR P (a2W k l++R)→
  x0r a8c ((k:Int),(N:Int),(done.length:Int),done,rdr P (a2W k l++R),())=some (Sum.inl (done++l,rdr (P++a2W k l) R,()))
 | [],done,P,R,_,hl,_=>by
  have:done.length=N:=by simpa using hl
  subst this;have d:decide ((done.length:Int)<(done.length:Int))=false:=by simp
  rw[a0I (b:=Sum.inl (done,rdr P R,())) (by simp only[a8c,d,cF];simp[a2W])];simp[a2W]
 |x::l,done,P,R,h,hl,hok=>by
  simp only[a07,bA]at h;rw[lC]at hl;have e:a2W k (x::l)++R=a8i k x++(a2W k l++R):=by simp[a2W]
  rw[e]at hok⊢;have d:decide ((done.length:Int)<(N:Int))=true:=by simp;omega
  have a:=c1o f h.1 hok;have g:lim (a41 done+1)=true:=a1c (by omega);have i:wrap .i64 ((done.length:Int)+1)=(((done++[x]).length:Nat):Int):=by rw[a0D (by omega)];simp
  rw[a0J (s':=((k:Int),(N:Int),(((done++[x]).length:Nat):Int),done++[x],rdr (P++a8i k x) (a2W k l++R),())) (by
   simp only[a8c,d,cT,a,oB,bne_self_eq_false,cF,g,i,a08])]
  rw[b4J f c l (done++[x]) (P++a8i k x) R h.2 (by simp;omega) hok.shift];simp[a2W]
theorem c1p{k:Nat}(c:k≤25)(h:l.all a0A=true)(d:l.length<1000000)(b:OkR P (a2W k l++R)):
  b1h (rdr P (a2W k l++R),(k:Int),((l.length:Nat):Int))=some (l,(0:Int),rdr (P++a2W k l) R):=by
 have hp:a1P (k:Int)=some true:=by
  unfold a1P;have f:decide ((k:Int)≥0)=true:=by simp
  have a:decide ((k:Int)≤25)=true:=by simp;omega
  simp[f,a]
 have f:decide (((l.length:Nat):Int)<0)=false:=by simp
 have a:decide (((l.length:Nat):Int) > 4194304)=false:=by simp;omega
 have e:∀A B:List Int,(rdr A B).2.2.1=0:=fun _ _=>rfl;have g:=b4J c d l [] P R h (by simp) b;simp only[a17,nZ,a04,a09]at g;unfold b1h a0L;simp only[hp,oB,bT,cF,f,a,e,bne_self_eq_false]
 erw[g]
 rfl
theorem c4x(h:inW x v=true):b2Z v x:=by
 have hp:=a19 v;rcases b5s.1 h with rfl|⟨g,-,f,k⟩;exact⟨by omega,by omega⟩;have e:2^v=2^(v-1)*2:=by rw[←a57];congr 1;omega
 unfold b2Z;rw[e];omega
theorem b4k(h:l.all a0A=true):∀x∈l,b2Z (a0G l) x:=fun x g=>c4x (c0D h x g)
def sB(n:Nat)(l:List Int):List Int:=l.flatMap fun x=>pb (a0S x n) n
theorem a8t{n:Nat}(g:n≤62):∀(l L:List Int),a1w n l L=L++sB n l
 | [],L=>by simp[a1w,sB]
 |x::l,L=>by
  show a1w n l (a0M (a0S x n) n L)=_;obtain⟨v,hv,h,-⟩:=b8y g x;rw[a8t g l,hv,a1R (by omega) h,←hv];simp[sB]
theorem b8b(n:Nat)(x:Int)(l R:List Int):sB n (x::l)++R=pb (a0S x n) n++(sB n l++R):=by simp[sB]
theorem b3D{k:Int}{n:Nat}(f:n≤62){N:Nat}(c:N<1000000):∀(l done P R:List Int),(∀x∈l,b2Z n x)→done.length+l.length=N→OkR P (sB n l++R)→
  x0r a7s (k,(n:Int),(N:Int),(done.length:Int),done,rdr P (sB n l++R),())=some (k,(n:Int),done++l,rdr (P++sB n l) R,())
 | [],done,P,R,_,hl,_=>by
  have:done.length=N:=by simpa using hl
  subst this;have d:decide ((done.length:Int)<(done.length:Int))=false:=by simp
  rw[a0I (b:=(k,(n:Int),done,rdr P R,())) (by simp only[a7s,d,cF];simp[sB])];simp[sB]
 |x::l,done,P,R,h,hl,hok=>by
  rw[lC]at hl;rw[b8b]at hok⊢;have d:decide ((done.length:Int)<(N:Int))=true:=by simp;omega
  have a:=a8s f (h x (by simp)) hok;have g:lim (a41 done+1)=true:=a1c (by omega);have e:wrap .i64 ((done.length:Int)+1)=(((done++[x]).length:Nat):Int):=by rw[a0D (by omega)];simp
  rw[a0J (s':=(k,(n:Int),(N:Int),(((done++[x]).length:Nat):Int),done++[x],rdr (P++pb (a0S x n) n) (sB n l++R),())) (by
   simp only[a7s,d,cT,a,oB,g,e,a08])]
  rw[b3D f c l (done++[x]) _ R (fun y i=>h y (by simp[i])) (by simp;omega) hok.shift];simp[sB]
def a8Z(k:Int)(part:List Int):List Int:=if k=31 then pb 31 5++(pb ((a0G part:Nat):Int) 5++sB (a0G part) part)else pb k 5++a2W k.toNat part
theorem c3z(a:kB k=true)(f:part.all a0A=true)(L:List Int):a8g k part L=L++a8Z k part:=by
 have b:=a1U f;simp only[kB,a30,bA,dT,beq_iff_eq]at a;obtain⟨K,rfl⟩:=a00 (show 0≤k by omega);unfold a8g a8Z;rw[a2k (by omega)];have g:=a1R (v:=K) (n:=5) (by omega) (by omega) L;split;rename_i h;rw[a8t (by omega),a1R (v:=a0G part) (n:=5) (by omega) (by omega),g,h]
 simp
 rw[b7n (by omega) _ _ f,g]
 simp
theorem c0H(o:kB k=true)(e:part.all a0A=true)(d:part.length<1000000)(h:OkR P (a8Z k part++R)):
  a9K (rdr P (a8Z k part++R),((part.length:Nat):Int))=some (k,part,(0:Int),rdr (P++a8Z k part) R):=by
 have q:=a1U e;have i:∀A B:List Int,(rdr A B).2.2.1=0:=fun _ _=>rfl;simp only[kB,a30,bA,dT,beq_iff_eq]at o;obtain⟨K,rfl⟩:=a00 (show 0≤k by omega);unfold a9K a0L;unfold a8Z at h⊢;split;rename_i f;rw[if_pos f,aA,aA]at h;rw[aA,aA];obtain rfl:K=31:=by omega
 have c:a0F (rdr P (pb 31 5++(pb ((a0G part:Nat):Int) 5++(sB (a0G part) part++R))),(5:Int))=_:=a3l (v:=31) (n:=5) (by omega) (by omega) h;have g:=h.shift;have l:a0F (rdr (P++pb 31 5) (pb ((a0G part:Nat):Int) 5++(sB (a0G part) part++R)),(5:Int))=_:=a3l (v:=a0G part) (n:=5) (by omega) (by omega) g;have a:=b3D (k:=31) (n:=a0G part) (by omega) d part [] _ R (b4k e) (by simp) g.shift;simp only[a17,nZ,a04,a09]at a;have j:wrap .i64 ((31:Nat):Int)=31:=by decide
 have w2:wrap .i64 ((a0G part:Nat):Int)=((a0G part:Nat):Int):=a0D (by omega);have b:decide ((31:Int)≤25)=false:=by decide
 have r:((31:Int) != 31)=false:=by decide
 rw[c];simp only[oB,i,bne_self_eq_false,cF,j,b]
 erw[l]
 simp only[oB,w2]
 erw[a]
 simp only[oB,i,bne_self_eq_false,cF,a2j (show short part from d)]
 simp
 rename_i f;rw[if_neg f,aA]at h;rw[aA];have m:K≤25:=by omega
 have c:a0F (rdr P (pb (K:Int) 5++(a2W ((K:Int).toNat) part++R)),(5:Int))=_:=a3l (v:=K) (n:=5) (by omega) (by omega) h;have p:=c1p m e d h.shift;have j:wrap .i64 (K:Int)=(K:Int):=a0D (by omega);have b:decide ((K:Int)≤25)=true:=by simp;omega
 rw[c];simp only[oB,i,bne_self_eq_false,cF,j,b,cT]
 erw[p]
 simp
def a1F:List Nat→List Int→List Int→List Int
 |z::zs,k::ks,l=>a8Z k (l.take z)++a1F zs ks (l.drop z)
 |_,_,_=>[]
theorem b8z(h:l.all a0A=true)(z:Nat):(l.take z).all a0A=true:=lA.2 fun x g=>lA.1 h x (a46 g)
theorem b8A(h:l.all a0A=true)(z:Nat):(l.drop z).all a0A=true:=lA.2 fun x g=>lA.1 h x (a47 g)
theorem b7o:∀(zs:List Nat)(ks l L:List Int),ks.all kB=true→l.all a0A=true→a3k zs ks l L=L++a1F zs ks l
 |z::zs,k::ks,l,L,hk,hw=>by
  simp only[a07,bA]at hk;simp only[a3k,a1F];rw[b7o zs ks _ _ hk.2 (b8A hw z),c3z hk.1 (b8z hw z)]
  simp
 | [],_,_,L,_,_=>by simp[a3k,a1F]
 |_::_,[],_,L,_,_=>by simp[a3k,a1F]
theorem c3A(h:List Nat)(z:Nat)(g:List Nat):(a1m (h++z::g)).getD h.length 0=(z:Int):=by
 simp[a1m,lD]
theorem b3E{o:Int}{z0:Prt}:∀(zs:List Nat)(ks l dk acc P R:List Int)(dz:List Nat),ks.length=zs.length→ks.all kB=true→zs.sum=l.length→l.all a0A=true→
  dk.length=dz.length→(dz++zs).length≤256→acc.length+l.length≤10000→OkR P (a1F zs ks l++R)→
  x0r a7t (((a1m (dz++zs)).length:Int),(dz.length:Int),acc,a1m (dz++zs),rdr P (a1F zs ks l++R),z0,(o,dk,()),()) =
   some (Sum.inl (acc++l,z0,(o,dk++ks,()),rdr (P++a1F zs ks l) R,()))
 | [],ks,l,dk,acc,P,R,dz,hk,_,hs,_,_,_,_,_=>by
  obtain rfl:ks=[]:=a58.1 hk;obtain rfl:l=[]:=a58.1 (by simpa using hs.symm);have d:decide ((dz.length:Int)<((a1m (dz++[])).length:Int))=false:=by simp[a1t]
  rw[a0I (b:=Sum.inl (acc,z0,(o,dk,()),rdr P R,())) (by simp only[a7t,d,cF];simp[a1F])];simp[a1F]
 |z::zs,[],_,_,_,_,_,_,hk,_,_,_,_,_,_,_=>by simp at hk
 |z::zs,k::ks,l,dk,acc,P,R,dz,hk,hkb,hs,hw,hd,h256,hacc,hok=>by
  simp only[a07,bA]at hkb;rw[a77]at hs;have p:z≤l.length:=by omega
  have a:(l.take z).length=z:=by rw[a22];omega
  have e:a1F (z::zs) (k::ks) l++R=a8Z k (l.take z)++(a1F zs ks (l.drop z)++R):=by simp[a1F]
  rw[e]at hok⊢;have j:(a1m (dz++z::zs)).length=dz.length+1+zs.length:=by rw[a1t];simp;omega
  have d:decide ((dz.length:Int)<((a1m (dz++z::zs)).length:Int))=true:=by simp only[dT];omega
  have m:decide ((0:Int)≤(dz.length:Int))=true:=by simp
  have h:=c0H hkb.1 (b8z hw z) (by omega) hok;rw[a]at h;have i:((0:Int) != 0)=false:=rfl;rw[lN,lC]at h256;have g:lim (a41 dk+1)=true:=a1c (by omega);have f:lim (a41 acc+a41 (l.take z))=true:=a1c (by omega);have c:wrap .i64 ((dz.length:Int)+1)=(((dz++[z]).length:Nat):Int):=by rw[a0D (by omega)];simp
  have n:dz++z::zs=(dz++[z])++zs:=by simp
  rw[a0J (s':=(((a1m ((dz++[z])++zs)).length:Int),(((dz++[z]).length:Nat):Int),acc++l.take z,a1m ((dz++[z])++zs),rdr (P++a8Z k (l.take z)) (a1F zs ks (l.drop z)++R),z0,(o,dk++[k],()),())) (by
   simp only[a7t,d,m,a03,cT,tN,c3A,h,oB,i,cF,g,f,c,a08];rw[n])]
  rw[b3E zs ks (l.drop z) (dk++[k]) (acc++l.take z) _ R (dz++[z]) (by simpa using hk) hkb.2 (by rw[a25];omega) (b8A hw z) (by simp[hd]) (by simp;omega) (by simp;omega) hok.shift];simp[a1F]
def a5D(p:Prt)(zn:List Nat)(l:List Int):List Int:=pb p.1 4++a1F zn p.2.1 l
theorem b9c(h:PartsOk p n warm l zn)(L:List Int):a3N p zn l L=L++a5D p zn l:=by
 obtain⟨o,ks,u⟩:=p;have g:=h.order;simp only at g;obtain⟨O,rfl⟩:=a00 g.1;unfold a3N a5D;simp only;rw[a2k (by omega),a1R (n:=4) (by omega) (by omega),b7o _ _ _ _ h.all h.wide]
 simp
theorem c0I(h:PartsOk p n warm l zn)(f:OkR P (a5D p zn l++R)):
  a9L (rdr P (a5D p zn l++R),n,warm)=some (p,l,(0:Int),rdr (P++a5D p zn l) R):=by
 obtain⟨o,ks,u⟩:=p;have d:=h.order;have m:=h.short;have k:=h.len;simp only at d;obtain⟨O,rfl⟩:=a00 d.1;have i:∀A B:List Int,(rdr A B).2.2.1=0:=fun _ _=>rfl;have g:=h.may;unfold a4P at g;simp only[bA,a29,beq_eq_false_iff_ne]at g;have c:=h.sizes;simp only at c;have b:(((a1m zn).length:Int)==0)=false:=by
  rw[beq_eq_false_iff_ne]
  have:=g.1
  rw[c]at this;omega
 unfold a5D at f⊢;simp only at f⊢;rw[aA]at f⊢;have e:a0F (rdr P (pb (O:Int) 4++(a1F zn ks l++R)),(4:Int))=_:=a3l (v:=O) (n:=4) (by omega) (by omega) f;have j:wrap .i64 (O:Int)=(O:Int):=a0D (by omega);have a:=b3E (o:=(O:Int)) (z0:=((0:Int),([]:List Int),())) zn ks l [] [] _ R [] h.ks h.all h.sum h.wide rfl (by simpa using k) (by simp;omega) f.shift;simp only[a17,nZ,a04,a09]at a;unfold a9L a0L;simp only[b1S,h.row,oB,bT,cF];rw[e];simp only[oB,i,bne_self_eq_false,cF,j,a1W,c,b]
 erw[a]
 simp
def a6p(s:Sub):List Int:=
 pb ((s.2.2.2.2.2.1.length-1:Nat):Int) 5++(pb s.2.2.2.1 4++(pb ((a0G s.2.2.2.2.2.1:Nat):Int) 5++sB (a0G s.2.2.2.2.2.1) s.2.2.2.2.2.1))
theorem b8B{c:List Int}{t:Int}(h:a7H c t=true):1≤c.length∧c.length≤32∧0≤t∧t≤15∧c.all a0A=true:=by
 simp only[a7H,bA,dT]at h;obtain⟨g,f,k,a,b⟩:=h;refine⟨g,f,k,a,lA.2 fun x d=>?_⟩
 have:=lA.1 b x d
 simp only[b5p,bA,dT]at this;rw[a1G];omega
theorem b7p(h:a7H s.2.2.2.2.2.1 s.2.2.2.1=true)(L:List Int):a5y s L=L++a6p s:=by
 obtain⟨d,e,k,i,a⟩:=b8B h;have b:=a1U a;unfold a5y a6p;generalize s.2.2.2.2.2.1=c at *;generalize s.2.2.2.1=t at *;obtain⟨T,rfl⟩:=a00 k;have g:wrap .u64 (wrap .i64 (((c.length:Nat):Int)-1))=((c.length-1:Nat):Int):=by rw[a0D (by omega),a0P (by omega)];omega
 have f:wrap .u64 (T:Int)=(T:Int):=a0P (by omega);rw[g,f,a8t (by omega),a1R (v:=a0G c) (n:=5) (by omega) (by omega),a1R (v:=T) (n:=4) (by omega) (by omega),a1R (v:=c.length-1) (n:=5) (by omega) (by omega)]
 simp
def b3a(s:Sub)(c:List Int):Sub:=(s.1,s.2.1,s.2.2.1,s.2.2.2.1,s.2.2.2.2.1,c,s.2.2.2.2.2.2)
def b8c(s:Sub)(t:Int):Sub:=(s.1,s.2.1,s.2.2.1,t,s.2.2.2.2)
theorem b7q{n:Nat}(f:n≤62){N:Nat}(a:N<1000000)(s:Sub):∀(l done P R:List Int),(∀x∈l,b2Z n x)→done.length+l.length=N→OkR P (sB n l++R)→
  x0r a5d ((n:Int),(N:Int),(done.length:Int),rdr P (sB n l++R),b3a s done,())=some ((n:Int),b3a s (done++l),rdr (P++sB n l) R,())
 | [],done,P,R,_,hl,_=>by
  have:done.length=N:=by simpa using hl
  subst this;have d:decide ((done.length:Int)<(done.length:Int))=false:=by simp
  rw[a0I (b:=((n:Int),b3a s done,rdr P R,())) (by simp only[a5d,d,cF];simp[sB])];simp[sB]
 |x::l,done,P,R,h,hl,hok=>by
  rw[lC]at hl;rw[b8b]at hok⊢;have d:decide ((done.length:Int)<(N:Int))=true:=by simp;omega
  have k:=a8s f (h x (by simp)) hok;have g:lim (a41 done+1)=true:=a1c (by omega);have c:wrap .i64 ((done.length:Int)+1)=(((done++[x]).length:Nat):Int):=by rw[a0D (by omega)];simp
  rw[a0J (s':=((n:Int),(N:Int),(((done++[x]).length:Nat):Int),rdr (P++pb (a0S x n) n) (sB n l++R),b3a s (done++[x]),())) (by
   simp only[a5d,d,cT,k,oB,b3a,g,c,a08])]
  rw[b7q f a s l (done++[x]) _ R (fun y e=>h y (by simp[e])) (by simp;omega) hok.shift];simp[sB]
theorem b6b{s0:Sub}(h:a7H s.2.2.2.2.2.1 s.2.2.2.1=true)(l:s0.2.2.2.2.2.1=[])(g:OkR P (a6p s++R)):
  a7r (rdr P (a6p s++R),s0)=some (true,rdr (P++a6p s) R,b3a (b8c s0 s.2.2.2.1) s.2.2.2.2.2.1):=by
 obtain⟨u,w,m,x,d⟩:=b8B h;have o:=a1U d;unfold a6p at g⊢;generalize s.2.2.2.2.2.1=c at *;generalize s.2.2.2.1=t at *;obtain⟨T,rfl⟩:=a00 m;simp only[aA]at g⊢;have e:a0F (rdr P (pb ((c.length-1:Nat):Int) 5++(pb (T:Int) 4++(pb ((a0G c:Nat):Int) 5++(sB (a0G c) c++R)))),(5:Int))=_:=a3l (v:=c.length-1) (n:=5) (by omega) (by omega) g;have f:=g.shift;have i:a0F (rdr (P++pb ((c.length-1:Nat):Int) 5) (pb (T:Int) 4++(pb ((a0G c:Nat):Int) 5++(sB (a0G c) c++R))),(4:Int))=_:=a3l (v:=T) (n:=4) (by omega) (by omega) f;have k:=f.shift;have j:a0F (rdr (P++pb ((c.length-1:Nat):Int) 5++pb (T:Int) 4) (pb ((a0G c:Nat):Int) 5++(sB (a0G c) c++R)),(5:Int))=_:=a3l (v:=a0G c) (n:=5) (by omega) (by omega) k;have a:=b7q (n:=a0G c) (by omega) (N:=c.length) (by omega) (b8c s0 (T:Int)) c [] _ R (b4k d) (by simp) k.shift;simp only[a17,nZ,a04,a09]at a;have p:wrap .i64 ((c.length-1:Nat):Int)=((c.length-1:Nat):Int):=a0D (by omega);have w2:wrap .i64 (((c.length-1:Nat):Int)+1)=(c.length:Int):=by rw[a0D (by omega)];omega
 have q:wrap .i64 (T:Int)=(T:Int):=a0D (by omega);have r:wrap .i64 ((a0G c:Nat):Int)=((a0G c:Nat):Int):=a0D (by omega);have b:((s0.1,s0.2.1,s0.2.2.1,(T:Int),s0.2.2.2.2):Sub)=b3a (b8c s0 (T:Int)) []:=by
  unfold b3a b8c;rw[←l]
 unfold a7r;rw[e];simp only[oB];rw[i];simp only[oB];rw[j];simp only[oB,p,w2,q,r]
 erw[b,a]
 simp only[oB];rw[show(b3a (b8c s0 (T:Int)) c).2.2.2.2.2.1=c from rfl,a2j (show short c by unfold short;omega)]
 simp
def a6G(st:List Stg):List Int:=st.flatMap fun g=>pb (g.1-1) 5++pb g.2.1 4
theorem b6c{g:Stg}(h:Ab.stageB g=true):1≤g.1∧g.1≤32∧0≤g.2.1∧g.2.1≤8:=by
 simp only[Ab.stageB,bA,dT]at h;exact⟨h.1,h.2.1,h.2.2.1,h.2.2.2⟩
theorem b6d:∀(st:List Stg)(L:List Int),st.all Ab.stageB=true→a2K st L=L++a6G st
 | [],L,_=>by simp[a2K,a6G]
 |g::st,L,h=>by
  simp only[a07,bA]at h;obtain⟨c,d,f,e⟩:=b6c h.1;show a2K st (a5x g L)=_;rw[b6d st _ h.2];obtain⟨a,b,u⟩:=g;simp only at c d f e;obtain⟨B,rfl⟩:=a00 f;obtain⟨A,k⟩:=a00 (show 0≤a-1 by omega);unfold a5x;simp only;rw[k,b1X (q:=A) (by omega),a2k (q:=A) (by omega),a2k (q:=B) (by omega),a1R (v:=A) (n:=5) (by omega) (by omega),a1R (v:=B) (n:=4) (by omega) (by omega)];simp[a6G,k]
def a4s(s:Sub):List Int:=
 if s.1=2 then pb s.2.2.1 3
 else if s.1=3 then a6p s
 else if s.1=4 then pb (s.2.2.2.2.1-1) 10++(sB 8 s.2.2.2.2.2.2.1++a6p s)
 else if s.1=5 then pb ((s.2.2.2.2.2.2.2.1.length:Nat):Int) 2++a6G s.2.2.2.2.2.2.2.1
 else[]
theorem b8C(h:a3w s.1 s n)(L:List Int):a2s s L=L++a4s s:=by
 unfold a2s a4s;rcases h with k|k|⟨k,g,f,-⟩|⟨k,g,-⟩|⟨k,g,-,b⟩|⟨k,g,f⟩;simp[k];simp[k];rw[if_pos k,if_pos k];obtain⟨A,a⟩:=a00 g;rw[a,a2k (by omega),a1R (n:=3) (by omega) (by omega)];rw[if_neg (by omega),if_pos k,if_neg (by omega),if_pos k,b7p g];rw[if_neg (by omega),if_neg (by omega),if_pos k,if_neg (by omega),if_neg (by omega),if_pos k,b7p g,a8t (by omega)];simp only[a9R,bA,dT]at b;obtain⟨A,a⟩:=a00 (show 0≤s.2.2.2.2.1-1 by omega);rw[a,b1X (by omega),a2k (by omega),a1R (n:=10) (by omega) (by omega)]
 simp
 rw[if_neg (by omega),if_neg (by omega),if_neg (by omega),if_pos k,if_neg (by omega),if_neg (by omega),if_neg (by omega),if_pos k];simp only[a7S,bA,dT]at f;rw[b6d _ _ f.2,a2k (by omega),a1R (n:=2) (by omega) (by omega)]
 simp
def b2D(s:Sub):List Int:=pb s.1 3++(pb s.2.1 5++pb ((a0G s.2.2.2.2.2.2.2.2.1:Nat):Int) 5)
theorem c3B(k:0≤s.1∧s.1≤5)(a:0≤s.2.1∧s.2.1≤30)(f:s.2.2.2.2.2.2.2.2.1.all a0A=true)(L:List Int):a9T s L=L++b2D s:=by
 obtain⟨K,g⟩:=a00 k.1;obtain⟨w,h⟩:=a00 a.1
 have:=a1U f
 unfold a9T b2D;rw[g,h,a2k (q:=K) (by omega),a2k (q:=w) (by omega),a1R (v:=a0G s.2.2.2.2.2.2.2.2.1) (n:=5) (by omega) (by omega),a1R (v:=w) (n:=5) (by omega) (by omega),a1R (v:=K) (n:=3) (by omega) (by omega)]
 simp
def a3y(s:Sub):Sub:=(s.1,s.2.1,s.2.2.1,s.2.2.2.1,s.2.2.2.2.1,s.2.2.2.2.2.1,s.2.2.2.2.2.2.1,s.2.2.2.2.2.2.2.1,[],(0,[],()),[],())
theorem b6e{wd N:Nat}{ok:Bool}(q:N<1000)(k w:Int):∀(st done:List Stg)(P R:List Int),st.all Ab.stageB=true→done.length+st.length=N→OkR P (a6G st++R)→
  x0r a5K ((wd:Int),ok,(N:Int),(done.length:Int),rdr P (a6G st++R),(k,w,0,0,0,[],[0,0,0],done,[],(0,[],()),[],()),()) =
   some ((wd:Int),ok,(k,w,0,0,0,[],[0,0,0],done++st,[],(0,[],()),[],()),rdr (P++a6G st) R,())
 | [],done,P,R,_,hl,_=>by
  have:done.length=N:=by simpa using hl
  subst this;have d:decide ((done.length:Int)<(done.length:Int))=false:=by simp
  rw[a0I (b:=((wd:Int),ok,(k,w,0,0,0,[],[0,0,0],done,[],(0,[],()),[],()),rdr P R,())) (by simp only[a5K,d,cF];simp[a6G])];simp[a6G]
 |g::st,done,P,R,h,hl,hok=>by
  simp only[a07,bA]at h;rw[lC]at hl;obtain⟨m,o,i,p⟩:=b6c h.1;obtain⟨a,b,u⟩:=g;simp only at m o i p;obtain⟨B,rfl⟩:=a00 i;obtain⟨A,x⟩:=a00 (show 0≤a-1 by omega);obtain rfl:a=(A:Int)+1:=by omega
  have e:a6G (((A:Int)+1,(B:Int),u)::st)++R=pb (A:Int) 5++(pb (B:Int) 4++(a6G st++R)):=by simp[a6G]
  rw[e]at hok⊢;have d:decide ((done.length:Int)<(N:Int))=true:=by simp;omega
  have j:a0F (rdr P (pb (A:Int) 5++(pb (B:Int) 4++(a6G st++R))),(5:Int))=_:=a3l (v:=A) (n:=5) (by omega) (by omega) hok;have f:=hok.shift;have l:a0F (rdr (P++pb (A:Int) 5) (pb (B:Int) 4++(a6G st++R)),(4:Int))=_:=a3l (v:=B) (n:=4) (by omega) (by omega) f;have c:lim (a41 done+1)=true:=a1c (by omega);have s:wrap .i64 (A:Int)=(A:Int):=a0D (by omega);have w2:wrap .i64 (B:Int)=(B:Int):=a0D (by omega);have t:wrap .i64 ((A:Int)+1)=(A:Int)+1:=a0D (by omega);have r:wrap .u64 ((done.length:Int)+1)=(((done++[((A:Int)+1,(B:Int),u)]).length:Nat):Int):=by rw[a0P (by omega)];simp
  rw[a0J (s':=((wd:Int),ok,(N:Int),(((done++[((A:Int)+1,(B:Int),u)]).length:Nat):Int),rdr (P++pb (A:Int) 5++pb (B:Int) 4) (a6G st++R),(k,w,0,0,0,[],[0,0,0],done++[((A:Int)+1,(B:Int),u)],[],(0,[],()),[],()),())) (by
    simp only[a5K,d,cT,j,oB,l,c,s,w2,t,r,a08])]
  rw[b6e q k w st (done++[((A:Int)+1,(B:Int),u)]) _ R h.2 (by simp;omega) f.shift];simp[a6G]
theorem b8d(h:b2R x=true):b2Z 8 x:=by
 simp only[b2R,bA,dT]at h;unfold b2Z;omega
theorem c3C{wd:Nat}{w:Int}{a b c:Int}(u:b2R a=true)(hb:b2R b=true)(v:b2R c=true)(f:OkR P (sB 8 [a,b,c]++R)):
  x0r a2Y ((wd:Int),(0:Int),rdr P (sB 8 [a,b,c]++R),(k,w,0,0,g,[],[0,0,0],[],[],(0,[],()),[],()),()) =
   some ((wd:Int),rdr (P++sB 8 [a,b,c]) R,(k,w,0,0,g,[],[a,b,c],[],[],(0,[],()),[],()),()):=by
 have e:sB 8 [a,b,c]++R=pb (a0S a 8) 8++(pb (a0S b 8) 8++(pb (a0S c 8) 8++R)):=by simp[sB]
 rw[e]at f⊢;have r:a0Z (rdr P (pb (a0S a 8) 8++(pb (a0S b 8) 8++(pb (a0S c 8) 8++R))),(8:Int))=_:=a8s (n:=8) (by omega) (b8d u) f;have h:=f.shift;have s:a0Z (rdr (P++pb (a0S a 8) 8) (pb (a0S b 8) 8++(pb (a0S c 8) 8++R)),(8:Int))=_:=a8s (n:=8) (by omega) (b8d hb) h;have d:=h.shift;have t:a0Z (rdr (P++pb (a0S a 8) 8++pb (a0S b 8) 8) (pb (a0S c 8) 8++R),(8:Int))=_:=a8s (n:=8) (by omega) (b8d v) d;have x:wrap .i64 ((0:Int)+1)=1:=by decide
 have y:wrap .i64 ((1:Int)+1)=2:=by decide
 have w2:wrap .i64 ((2:Int)+1)=3:=by decide
 have m:decide ((0:Int)<3)=true:=by decide
 have i:decide ((0:Int)≤0)=true:=by decide
 have o:decide ((1:Int)<3)=true:=by decide
 have j:decide ((0:Int)≤1)=true:=by decide
 have p:decide ((2:Int)<3)=true:=by decide
 have l:decide ((0:Int)≤2)=true:=by decide
 have q:decide ((3:Int)<3)=false:=by decide
 rw[a0J (s':=((wd:Int),(1:Int),rdr (P++pb (a0S a 8) 8) (pb (a0S b 8) 8++(pb (a0S c 8) 8++R)),(k,w,0,0,g,[],[a,0,0],[],[],(0,[],()),[],()),())) (by
  simp only[a2Y,m,i,a03,cT,r,oB,x];rfl)]
 rw[a0J (s':=((wd:Int),(2:Int),rdr (P++pb (a0S a 8) 8++pb (a0S b 8) 8) (pb (a0S c 8) 8++R),(k,w,0,0,g,[],[a,b,0],[],[],(0,[],()),[],()),())) (by
  simp only[a2Y,o,j,a03,cT,s,oB,y];rfl)]
 rw[a0J (s':=((wd:Int),(3:Int),rdr (P++pb (a0S a 8) 8++pb (a0S b 8) 8++pb (a0S c 8) 8) R,(k,w,0,0,g,[],[a,b,c],[],[],(0,[],()),[],()),())) (by
  simp only[a2Y,p,l,a03,cT,t,oB,w2];rfl)]
 rw[a0I (b:=((wd:Int),rdr (P++pb (a0S a 8) 8++pb (a0S b 8) 8++pb (a0S c 8) 8) R,(k,w,0,0,g,[],[a,b,c],[],[],(0,[],()),[],()),())) (by
  simp only[a2Y,q,cF])]
 simp[sB]
theorem c2M{s:Sub}{n:Int}(hs:a1r s n)(ht:s.2.2.2.2.2.2.1.length=3){P R:List Int}(i:OkR P (b2D s++(a4s s++R))):
  a8b (rdr P (b2D s++(a4s s++R)))=some (a3y s,((a0G s.2.2.2.2.2.2.2.2.1:Nat):Int),true,rdr (P++(b2D s++a4s s)) R):=by
 obtain⟨-,-,hf,ha,M,Q,-,-,S,-⟩:=hs;obtain⟨k,w,o,sh,g,c,t,st,a,b,d,u⟩:=s;have hk:=b4i hf;simp only at hk M Q S ht;have h0:=a1U S;obtain⟨K,rfl⟩:=a00 hk.1;obtain⟨W,rfl⟩:=a00 M;unfold b2D at i⊢;simp only[aA]at i⊢;have g1:a0F (rdr P (pb (K:Int) 3++(pb (W:Int) 5++(pb ((a0G a:Nat):Int) 5++(a4s ((K:Int),(W:Int),o,sh,g,c,t,st,a,b,d,u)++R)))),(3:Int))=_:=a3l (v:=K) (n:=3) (by omega) (by omega) i;have j:=i.shift;have g2:a0F (rdr (P++pb (K:Int) 3) (pb (W:Int) 5++(pb ((a0G a:Nat):Int) 5++(a4s ((K:Int),(W:Int),o,sh,g,c,t,st,a,b,d,u)++R))),(5:Int))=_:=a3l (v:=W) (n:=5) (by omega) (by omega) j;have l:=j.shift;have g3:a0F (rdr (P++pb (K:Int) 3++pb (W:Int) 5) (pb ((a0G a:Nat):Int) 5++(a4s ((K:Int),(W:Int),o,sh,g,c,t,st,a,b,d,u)++R)),(5:Int))=_:=a3l (v:=a0G a) (n:=5) (by omega) (by omega) l;have f:=l.shift;have wK:wrap .i64 (K:Int)=(K:Int):=a0D (by omega);have wW:wrap .i64 (W:Int)=(W:Int):=a0D (by omega);have wd:wrap .i64 ((a0G a:Nat):Int)=((a0G a:Nat):Int):=a0D (by omega);unfold a8b;rw[g1];simp only[oB];rw[g2];simp only[oB];rw[g3];simp only[oB,wK,wW,wd];generalize hX:P++pb (K:Int) 3++pb (W:Int) 5++pb ((a0G a:Nat):Int) 5=X at f⊢;have L:∀B:List Int,P++(pb (K:Int) 3++(pb (W:Int) 5++(pb ((a0G a:Nat):Int) 5++B)))=X++B:=fun B=>by rw[←hX];simp
 rw[L];obtain⟨a1,E,r,C,F,D⟩:=ha;simp only at a1 E r C F D;clear g1 g2 g3 i j l hX L;rcases hf with h|h|⟨h,m,I,-⟩|⟨h,m,-⟩|⟨h,m,-,U⟩|⟨h,m,I⟩
 
 simp only at h;obtain rfl:=a1 (by omega);obtain rfl:=E (by omega);obtain rfl:=r (by omega);obtain rfl:=C (by omega);obtain rfl:=F (by omega);obtain rfl:=D (by omega);rw[h];have hb:a4s ((0:Int),(W:Int),0,0,0,[],[0,0,0],[],a,b,d,u)=[]:=rfl;rw[hb,a04,a36];rfl;simp only at h;obtain rfl:=a1 (by omega);obtain rfl:=E (by omega);obtain rfl:=r (by omega);obtain rfl:=C (by omega);obtain rfl:=F (by omega);obtain rfl:=D (by omega);rw[h];have hb:a4s ((1:Int),(W:Int),0,0,0,[],[0,0,0],[],a,b,d,u)=[]:=rfl;rw[hb,a04,a36];rfl;simp only at h m I;obtain rfl:=E (by omega);obtain rfl:=r (by omega);obtain rfl:=C (by omega);obtain rfl:=F (by omega);obtain rfl:=D (by omega);rw[h]at f⊢;obtain⟨O,rfl⟩:=a00 m;have hb:a4s ((2:Int),(W:Int),(O:Int),0,0,[],[0,0,0],[],a,b,d,u)=pb (O:Int) 3:=rfl;rw[hb]at f⊢;have e:((2:Int)==2)=true:=rfl;have q:a0F (rdr X (pb (O:Int) 3++R),(3:Int))=_:=a3l (v:=O) (n:=3) (by omega) (by omega) f;have wO:wrap .i64 (O:Int)=(O:Int):=a0D (by omega);simp only[e,cT,q,oB,wO];rfl;simp only at h m;obtain rfl:=a1 (by omega);obtain rfl:=r (by omega);obtain rfl:=C (by omega);obtain rfl:=D (by omega);rw[h]at f⊢;have hb:a4s ((3:Int),(W:Int),0,sh,0,c,[0,0,0],[],a,b,d,u)=a6p ((3:Int),(W:Int),0,sh,0,c,[0,0,0],[],a,b,d,u):=rfl;rw[hb]at f⊢;have G:((3:Int)==2)=false:=rfl;have H:((3:Int)==4)=false:=rfl;have Y:((3:Int)==3)=true:=rfl;have q:=b6b (s:=((3:Int),(W:Int),0,sh,0,c,[0,0,0],[],a,b,d,u)) (s0:=((3:Int),(W:Int),0,0,0,[],a01 3 0,[],[],(0,[],()),[],())) m rfl f;simp only[G,Y,H,cT,cF,oB]
 erw[q]
 rfl
 ·simp only at h m U;obtain rfl:=a1 (by omega);obtain rfl:=D (by omega);rw[h]at f⊢;simp only[a9R,bA,dT]at U;obtain⟨U,h5,V⟩:=U;obtain⟨A,hA⟩:=a00 (show 0≤g-1 by omega);obtain rfl:g=(A:Int)+1:=by omega
  obtain⟨x,y,z,rfl⟩:∃x y z,t=[x,y,z]:=by
   match t,ht with
   | [x,y,z],_=>exact⟨x,y,z,rfl⟩
  simp only[a07,List.all_nil,Bool.and_true,bA]at V;have hb:a4s ((4:Int),(W:Int),0,sh,(A:Int)+1,c,[x,y,z],[],a,b,d,u)=pb (A:Int) 10++(sB 8 [x,y,z]++a6p ((4:Int),(W:Int),0,sh,(A:Int)+1,c,[x,y,z],[],a,b,d,u)):=by
   show pb ((A:Int)+1-1) 10++_=_;rw[hA]
  rw[hb]at f⊢;simp only[aA]at f⊢;have G:((4:Int)==2)=false:=rfl;have H:((4:Int)==4)=true:=rfl;have q:a0F (rdr X (pb (A:Int) 10++(sB 8 [x,y,z]++(a6p ((4:Int),(W:Int),0,sh,(A:Int)+1,c,[x,y,z],[],a,b,d,u)++R))),(10:Int))=_:=a3l (v:=A) (n:=10) (by omega) (by omega) f;have p:=f.shift;have wA:wrap .i64 (A:Int)=(A:Int):=a0D (by omega);have Z:wrap .i64 ((A:Int)+1)=(A:Int)+1:=a0D (by omega);have T:=c3C (wd:=a0G a) (k:=4) (w:=(W:Int)) (g:=(A:Int)+1) V.1 V.2.1 V.2.2 p;have g6:=b6b (s:=((4:Int),(W:Int),0,sh,(A:Int)+1,c,[x,y,z],[],a,b,d,u)) (s0:=((4:Int),(W:Int),0,0,(A:Int)+1,[],[x,y,z],[],[],(0,[],()),[],())) m rfl p.shift;simp only[G,H,cT,cF,q,oB,wA,Z]
  erw[T]
  simp only[oB]
  erw[g6]
  simp only[oB,a3y,b3a,b8c,aA]
 simp only at h m I;obtain rfl:=a1 (by omega);obtain rfl:=E (by omega);obtain rfl:=r (by omega);obtain rfl:=C (by omega);obtain rfl:=F (by omega);rw[h]at f⊢;simp only[a7S,bA,dT]at I;have hb:a4s ((5:Int),(W:Int),0,0,0,[],[0,0,0],st,a,b,d,u)=pb ((st.length:Nat):Int) 2++a6G st:=rfl;rw[hb]at f⊢;simp only[aA]at f⊢;have G:((5:Int)==2)=false:=rfl;have H:((5:Int)==4)=false:=rfl;have Y:((5:Int)==3)=false:=rfl;have e5:((5:Int)==5)=true:=rfl;have q:a0F (rdr X (pb ((st.length:Nat):Int) 2++(a6G st++R)),(2:Int))=_:=a3l (v:=st.length) (n:=2) (by omega) (by omega) f;have T:=b6e (wd:=a0G a) (ok:=true) (N:=st.length) (by omega) (5:Int) (W:Int) st [] _ R I.2 (by simp) f.shift;simp only[a17,nZ,a04,a09]at T;simp only[G,Y,H,e5,cT,cF,oB]
 erw[q]
 simp only[oB]
 erw[T]
 simp only[oB,a3y,aA]
def a7e(s:Sub)(zn:List Nat):List Int:=
 (b2D s++a4s s)++(sB (a0G s.2.2.2.2.2.2.2.2.1) s.2.2.2.2.2.2.2.2.1++if s.1=0∨s.1=1 then[]else a5D s.2.2.2.2.2.2.2.2.2.1 zn s.2.2.2.2.2.2.2.2.2.2.1)
theorem b6f(b:a1r s n)(d:s.1≠0∧s.1≠1→PartsOk s.2.2.2.2.2.2.2.2.2.1 n ((s.2.2.2.2.2.2.2.2.1.length:Nat):Int) s.2.2.2.2.2.2.2.2.2.2.1 zn)(L:List Int):
  a4B s zn L=L++a7e s zn:=by
 obtain⟨-,-,h,-,k,a,-,-,f,-⟩:=b;have c:=a1U f;have g:=c3B (b4i h) ⟨k,a⟩ f L;unfold a4B a7e
 by_cases hk:s.1=0∨s.1=1
 rw[if_pos hk,if_pos hk,a8t (by omega),b8C h,g]
 simp
 rw[if_neg hk,if_neg hk,b9c (d (not_or.1 hk)),a8t (by omega),b8C h,g]
 simp
def a6H(s:Sub)(l:List Int):Sub:=(s.1,s.2.1,s.2.2.1,s.2.2.2.1,s.2.2.2.2.1,s.2.2.2.2.2.1,s.2.2.2.2.2.2.1,s.2.2.2.2.2.2.2.1,l,s.2.2.2.2.2.2.2.2.2)
theorem b8D{wd:Nat}(f:wd≤62){N:Nat}(a:N<1000000)(n:Int)(ok:Bool)(z s:Sub):∀(l done P R:List Int),(∀x∈l,b2Z wd x)→done.length+l.length=N→OkR P (sB wd l++R)→
  x0r a8K (n,(wd:Int),ok,(N:Int),(done.length:Int),rdr P (sB wd l++R),z,a6H s done,())=some (n,(wd:Int),ok,rdr (P++sB wd l) R,z,a6H s (done++l),())
 | [],done,P,R,_,hl,_=>by
  have:done.length=N:=by simpa using hl
  subst this;have d:decide ((done.length:Int)<(done.length:Int))=false:=by simp
  rw[a0I (b:=(n,(wd:Int),ok,rdr P R,z,a6H s done,())) (by simp only[a8K,d,cF];simp[sB])];simp[sB]
 |x::l,done,P,R,h,hl,hok=>by
  rw[lC]at hl;rw[b8b]at hok⊢;have d:decide ((done.length:Int)<(N:Int))=true:=by simp;omega
  have k:=a8s f (h x (by simp)) hok;have g:lim (a41 done+1)=true:=a1c (by omega);have c:wrap .i64 ((done.length:Int)+1)=(((done++[x]).length:Nat):Int):=by rw[a0D (by omega)];simp
  rw[a0J (s':=(n,(wd:Int),ok,(N:Int),(((done++[x]).length:Nat):Int),rdr (P++pb (a0S x wd) wd) (sB wd l++R),z,a6H s (done++[x]),())) (by
   simp only[a8K,d,cT,k,oB,a6H,g,c,a08])]
  rw[b8D f a n ok z s l (done++[x]) _ R (fun y e=>h y (by simp[e])) (by simp;omega) hok.shift];simp[sB]
theorem c2N(h:SmallS s):SmallS (a3y s) where
 coefs:=h.coefs
 taps:=h.taps
 stages:=h.stages
 warm:=by show([]:List Int).length≤5000;simp
 rest:=by show([]:List Int).length≤5000;simp
 ks:=by show([]:List Int).length≤_;simp
theorem c5O(h:SmallS s)(K:(a2g s n).isSome=true)(T:s.1≠0∧s.1≠1→PartsOk s.2.2.2.2.2.2.2.2.2.1 n ((s.2.2.2.2.2.2.2.2.1.length:Nat):Int) s.2.2.2.2.2.2.2.2.2.2.1 zn)(d:OkR P (a7e s zn++R)):b0C (rdr P (a7e s zn++R),n)=some (s,(0:Int),rdr (P++a7e s zn) R):=by
 have L:=b2Y K;have j:=@c2M s n L h.taps P;have y:=L;obtain⟨U,V,Q,-,-,-,-,C,r,-,x,-⟩:=y;have S:=a1U r;have D:=h.warm;have M:decide (n<1)=false:=by simp;omega
 have O:decide (n > 4096)=false:=by simp;omega
 have m:∀A B:List Int,(rdr A B).2.2.1=0:=fun _ _=>rfl;have p:a6R ((a3y s).1,a3y s,n)=some true:=by
  rw[b3s (c2N h)];unfold b1V
  have:a3w (a3y s).1 (a3y s) n:=Q
  simp only[this,decide_true]
 have l:a3Z (a3y s,n)=some ((s.2.2.2.2.2.2.2.2.1.length:Nat):Int):=by
  rw[b0H]
  have:a2i (a3y s) n=a2i s n:=rfl
  rw[this,←C]
 have a:=b6U h n;rw[K]at a;have f:a1q s.2.2.2.2.2.2.2.2.1=some ((a0G s.2.2.2.2.2.2.2.2.1:Nat):Int):=a2j (by unfold short;omega);unfold b0C a0L;unfold a7e at d⊢;simp only[aA]at d⊢;have e:OkR (P++(b2D s++a4s s)) (sB (a0G s.2.2.2.2.2.2.2.2.1) s.2.2.2.2.2.2.2.2.1++((if s.1=0∨s.1=1 then[]else a5D s.2.2.2.2.2.2.2.2.2.1 zn s.2.2.2.2.2.2.2.2.2.2.1)++R)):=OkR.shift (by rw[aA];exact d)
 have I:=fun(ok:Bool) (z:Sub)=>b8D (wd:=a0G s.2.2.2.2.2.2.2.2.1) (by omega) (N:=s.2.2.2.2.2.2.2.2.1.length) (by omega) n ok z (a3y s) s.2.2.2.2.2.2.2.2.1 [] _ _ (b4k r) (by simp) e;simp only[a17,nZ,a04,a09]at I;simp only[M,O,cF,m,bne_self_eq_false,oB];rw[j d];simp only[m,bne_self_eq_false,cF,oB,p,bT,l];rw[show((a3y s:Sub))=a6H (a3y s) []from rfl]
 erw[I]
 simp only[oB,m,bne_self_eq_false,cF];rw[show(a6H (a3y s) s.2.2.2.2.2.2.2.2.1).1=s.1 from rfl,a5A];simp only[oB]
 by_cases hk:s.1=0∨s.1=1
 have v:decide (s.1≠0∧s.1≠1)=false:=by simp only[decide_eq_false_iff_not];omega
 have b:a6H (a3y s) s.2.2.2.2.2.2.2.2.1=s:=by
  obtain⟨F,G,H⟩:=x hk;obtain⟨k,w,o,sh,g,c,t,st,wm,⟨X,Y,Z⟩,re,u⟩:=s;simp only at F G H;subst F G H;rfl
 rw[b];simp only[v,cF,bT,f,oB,bne_self_eq_false,a,if_pos hk,a04,a36]
 simp
 have v:decide (s.1≠0∧s.1≠1)=true:=by simp only[dT];omega
 have hp:=T (not_or.1 hk);have i:=e.shift;rw[if_neg hk]at i;have q:=c0I hp i;simp only[v,cT,if_neg hk];rw[show(a6H (a3y s) s.2.2.2.2.2.2.2.2.1).2.2.2.2.2.2.2.2.1=s.2.2.2.2.2.2.2.2.1 from rfl]
 erw[q]
 have E:((0:Int) != 0)=false:=rfl;simp only[oB,E,cF,bT,f,bne_self_eq_false];have b:((a6H (a3y s) s.2.2.2.2.2.2.2.2.1).1,(a6H (a3y s) s.2.2.2.2.2.2.2.2.1).2.1,(a6H (a3y s) s.2.2.2.2.2.2.2.2.1).2.2.1,(a6H (a3y s) s.2.2.2.2.2.2.2.2.1).2.2.2.1,(a6H (a3y s) s.2.2.2.2.2.2.2.2.1).2.2.2.2.1,(a6H (a3y s) s.2.2.2.2.2.2.2.2.1).2.2.2.2.2.1,(a6H (a3y s) s.2.2.2.2.2.2.2.2.1).2.2.2.2.2.2.1,(a6H (a3y s) s.2.2.2.2.2.2.2.2.1).2.2.2.2.2.2.2.1,s.2.2.2.2.2.2.2.2.1,s.2.2.2.2.2.2.2.2.2.1,s.2.2.2.2.2.2.2.2.2.2.1,(a6H (a3y s) s.2.2.2.2.2.2.2.2.1).2.2.2.2.2.2.2.2.2.2.2)=s:=rfl
 erw[b]
 simp only[a,oB,bT,cF]
 simp
theorem c8e(y:Int):bits .u64 .and y 1=y%2:=by
 have h:((a02 64 y) &&& (a02 64 1)).toNat=(y%18446744073709551616).toNat%2:=by
  rw[a82,a33];have e:(a02 64 1).toNat=2^1-1:=by decide
  rw[e,a69];rfl
 show wrap .u64 ((((a02 64 y) &&& (a02 64 1)).toNat:Nat):Int)=_;rw[h,a0P (by omega)];omega
theorem a1X(v:Int):∀n,a1u (pb v n)
 |0=>fun b hb=>by cases hb
 |n+1=>fun b hb=>by
  rcases mC.1 hb with rfl|hb;unfold a5Q;rw[c8e,a8R];omega;exact a1X v n b hb
theorem c1B(n:Nat):a1u (unB n):=fun b hb=>by
 rcases mA.1 hb with hb|hb;exact .inl (a95.1 hb).2;exact .inr (by simpa using hb)
theorem b2E{f:α→List Int}{l:List α}(h:∀x,a1u (f x)):a1u (l.flatMap f):=fun b hb=>by
 obtain⟨x,-,g⟩:=b07.1 hb;exact h x b g
theorem c3D(k:Nat)(x:Int):a1u (a8i k x):=by
 unfold a8i;split;exact(c1B _).app (a1X _ _);exact(c1B _).app (a1X _ _)
theorem b5t(n:Nat)(l:List Int):a1u (sB n l):=b2E fun _=>a1X _ _
theorem c3E(k:Int)(l:List Int):a1u (a8Z k l):=by
 unfold a8Z;split;exact(a1X _ _).app ((a1X _ _).app (b5t _ _));exact(a1X _ _).app (b2E fun _=>c3D _ _)
theorem b4l:a1u []:=fun b hb=>by cases hb
theorem b7r:∀(zs:List Nat)(ks l:List Int),a1u (a1F zs ks l)
 |z::zs,k::ks,l=>by
  simp only[a1F];exact(c3E _ _).app (b7r zs ks _)
 | [],_,_=>by simp only[a1F];exact b4l
 |_::_,[],_=>by simp only[a1F];exact b4l
theorem b7s(s:Sub):a1u (a6p s):=(a1X _ _).app ((a1X _ _).app ((a1X _ _).app (b5t _ _)))
theorem c3F(s:Sub):a1u (a4s s):=by
 unfold a4s;split;exact a1X _ _;split;exact b7s s;split;exact(a1X _ _).app ((b5t _ _).app (b7s s));split;exact(a1X _ _).app (b2E fun _=>(a1X _ _).app (a1X _ _));exact b4l
theorem c4y(s:Sub)(h:List Nat):a1u (a7e s h):=by
 refine(((a1X _ _).app ((a1X _ _).app (a1X _ _))).app (c3F s)).app ((b5t _ _).app ?_);split;exact b4l;exact(a1X _ _).app (b7r _ _ _)
theorem c4z(h:SmallS s)(k:(a2g s n).isSome=true)(j:L.length<50000000):
  ∃g,a8o (wL L,s,n)=some (0,wL (L++a7e s g))∧a3I (s,n)=some (((a7e s g).length:Nat):Int)∧(a7e s g).length≤700000∧
   (s.1≠0∧s.1≠1→PartsOk s.2.2.2.2.2.2.2.2.2.1 n ((s.2.2.2.2.2.2.2.2.1.length:Nat):Int) s.2.2.2.2.2.2.2.2.2.2.1 g):=by
 obtain⟨e,i,a,-,b,d,-⟩:=b3S h (n:=n) (L:=L) (by omega);obtain⟨rfl,g,rfl,f⟩:=d k;have c:=b2Y k;rw[b6f c f]at a b;refine⟨g,a,?_,by simp at b;omega,f⟩;rw[c1x h];unfold a4p;rw[if_pos k,←b7W f,b6f c f]
 simp
theorem c6E(g:L.length<1000000000):b1f (wL L).1=some (rdr [] L):=by
 obtain⟨-,h⟩:=a4U L;unfold b1f;rw[a1c (by omega)];rfl
theorem c4A(g:L.length<1000000000):a4l (wL L)=some ((wL L).1,wL L):=by
 obtain⟨-,h⟩:=a4U L;unfold a4l;rw[a1c (by omega)];rfl
def a0E(n:Nat):List Int:=if h:n<128 then[(n:Int)]else((n%128+128:Nat):Int)::a0E (n / 128)
termination_by n
decreasing_by omega
theorem b1u{n:Nat}(h:n<128):a0E n=[(n:Int)]:=by rw[a0E,dif_pos h]
theorem a7A{n:Nat}(h:¬ n<128):a0E n=((n%128+128:Nat):Int)::a0E (n / 128):=by rw[a0E,dif_neg h]
theorem b6v:∀(k n:Nat),n<128^(k+1)→1≤(a0E n).length∧(a0E n).length≤k+1
 |0,n,h=>by rw[b1u (by omega)];simp
 |k+1,n,h=>by
  by_cases hn:n<128
  rw[b1u hn];simp;rw[a7A hn]
  have:=b6v k (n / 128) (by rw[a68 (by omega)];rw[a57]at h;exact h)
  simp only[lC];omega
theorem c1C:∀(k n:Nat)(a:List Int)(b c:Int)(out:List Int),n<128^(k+1)→k≤8→out.length+k<1000000→
  ∃r g,x0r a7o ((n:Int),a,b,c,out,())=some (((r:Nat):Int),a,b,c,out++g,())∧a0E n=g++[(r:Int)]∧r<128
 |k,n,a,b,c,out,h,hk,ho=>by
  by_cases hn:n<128
  refine⟨n,[],?_,by rw[b1u hn];rfl,hn⟩;rw[a0I (b:=((n:Int),a,b,c,out,())) (by
   have d:decide ((n:Int)≥128)=false:=by simp;omega
   simp only[a7o,d,cF])]
  simp
  ·cases k with
   |zero=>omega
   |succ k=>
    have p:n / 128<128^(k+1):=by rw[a68 (by omega)];rw[a57]at h;exact h
    have f:n<18446744073709551616:=by
     have:128^(k+1+1)≤128^9:=a16 (by omega) (by omega)
     have e:(128:Nat)^9=9223372036854775808:=by decide
     omega
    obtain⟨r,g,l,m,o⟩:=c1C k (n / 128) a b c (out++[((n%128+128:Nat):Int)]) p (by omega) (by simp;omega);refine⟨r,((n%128+128:Nat):Int)::g,?_,by rw[a7A hn,m];rfl,o⟩;have d:decide ((n:Int)≥128)=true:=by simp;omega
    have i:wrap .u64 (a62 (n:Int) 128)=((n / 128:Nat):Int):=by
     rw[show a62 (n:Int) 128=((n / 128:Nat):Int)from rfl];exact a0P (by omega)
    have j:wrap .u8 (wrap .u8 (a34 (n:Int) 128)+128)=((n%128+128:Nat):Int):=by
     rw[show a34 (n:Int) 128=((n%128:Nat):Int)from rfl,a8R,a8R];omega
    rw[a0J (s':=(((n / 128:Nat):Int),a,b,c,out++[((n%128+128:Nat):Int)],())) (by
     simp only[a7o,d,cT,a1c (show out.length+1<2147483648 by omega),i,j,a08])]
    rw[l]
    simp
theorem b2d{α β γ:Type}(f:α→List γ):∀(l:List α)(a:List γ),a2G (β:=β) (fun a x=>.inl (a++f x)) l a=.inl (a++l.flatMap f)
 | [],a=>by simp[a2G]
 |x::l,a=>by simp only[a2G];rw[b2d f l];simp
def asI(ns:List Nat):List Int:=ns.map fun n:Nat=>(n:Int)
theorem c0J{ns:List Nat}(h:∀n∈ns,n<9223372036854775808)(u:ns.length≤1000):a9I (asI ns)=some (ns.flatMap a0E):=by
 have m:(asI ns).length=ns.length:=by simp[asI]
 have:=a1Q (f:=a7p) (asI ns) (fun i (a:List Int)=>(asI ns,((asI ns).length:Int),(i:Int),a,())) (fun a x=>.inl (a++a0E x.toNat)) (fun i a=>a.length≤10*i) (fun a=>(a,()))
  (fun i l a q=>⟨fun s g=>by
   have c:i<ns.length:=by omega
   have o:(asI ns)[i]=((ns[i]:Nat):Int):=by simp[asI]
   have hb:=h ns[i] (a06 c);have k:ns[i]<128^(8+1):=by rw[show(128:Nat)^(8+1)=9223372036854775808 from by decide];exact hb
   obtain⟨r,d,p,j,t⟩:=c1C 8 ns[i] (asI ns) ((asI ns).length:Int) (i:Int) a k (a28 _) (by omega);have hv:=b6v 8 ns[i] k;rw[j]at hv;simp only[lN,lC,a17]at hv;simp only[o,tN,j,Sum.inl.injEq]at g;subst g;have e:wrap .u8 (r:Int)=(r:Int):=by rw[a8R];omega
   refine⟨?_,by simp;omega⟩;simp only[a7p,dlt l,cT,a0B l,o,oB,p,a1c (show(a++d).length+1<2147483648 by simp;omega),a0C (show i<1000000 by omega),e,a08,aA],fun b hb=>by cases hb⟩)
  (fun a q=>by simp only[a7p,dge,cF]) (a:=[]) (by simp)
 unfold a9I;simp only[nZ]at this;rw[this,b2d];simp[a7G,asI,List.flatMap_map]
theorem orA{k:Nat}(f:a<2^k)(c:b*2^k+a<18446744073709551616):bits .u64 .or (a:Int) ((b*2^k:Nat):Int)=((a+b*2^k:Nat):Int):=by
 show wrap .u64 (((a02 64 (a:Int) ||| a02 64 ((b*2^k:Nat):Int)).toNat:Nat):Int)=_;have g:(a02 64 (a:Int)).toNat=a:=by rw[a33];omega
 have h:(a02 64 ((b*2^k:Nat):Int)).toNat=b*2^k:=by rw[a33];omega
 rw[a52,g,h];have e:a ||| b*2^k=a+b*2^k:=by
  have:=a44 (i:=k) (b:=a) f b
  rw[Nat.or_comm,a97 b,←this,Nat.add_comm]
 rw[e];exact a0P (by omega)
theorem b6g{rest:List Int}:∀(j m i acc:Nat)(P:List Int),m<128^(j+1)→P.length=i→(i=0∨1≤m)→acc<2^(7*i)→m*2^(7*i)+acc<9223372036854775808→(P++(a0E m++rest)).length<1000000→
  x0r a1Z ((acc:Int),P++(a0E m++rest),((P++(a0E m++rest)).length:Nat),(i:Int),())=some (.inr (((acc+m*2^(7*i):Nat):Int),((i+(a0E m).length:Nat):Int),(0:Int),()))
 |j,m,i,acc,P,hj,hP,hm,ha,hs,hl=>by
  have v:i≤8:=by
   rcases hm with r|h1;omega;apply Classical.byContradiction;intro B;have z:2^(7*9)≤2^(7*i):=a16 (by omega) (by omega);have A:2^(7*i)≤m*2^(7*i):=Nat.le_mul_of_pos_left _ (by omega);have e:(2:Nat)^(7*9)=9223372036854775808:=by decide
   omega
  have a:wrap .i64 ((7:Int)*(i:Int))=((7*i:Nat):Int):=by rw[a0D (by omega)];omega
  have l:decide ((((7*i:Nat):Int))<0)=false:=by simp;omega
  have b:wrap .i64 ((i:Int)+1)=((i+1:Nat):Int):=a0C (by omega);have y:∀c:Nat,c<256→(i=9→False):=fun _ _ h=>by omega
  have s:((i:Int)==9)=false:=by simp;omega
  have g:∀(c:Nat)(q:List Int),c<256→a0E m=(c:Int)::q→(i=0∨c≠0)→
    a1Z ((acc:Int),P++(a0E m++rest),((P++(a0E m++rest)).length:Nat),(i:Int),()) =
     bif decide ((c:Int)<128)then some (.inr (Sum.inr (bits .u64 .or (acc:Int) (z0g .u64 (wrap .u64 (a34 (c:Int) 128)) ((7*i:Nat):Int)),((i+1:Nat):Int),(0:Int),())))
     else some (.inl (bits .u64 .or (acc:Int) (z0g .u64 (wrap .u64 (a34 (c:Int) 128)) ((7*i:Nat):Int)),P++(a0E m++rest),((P++(a0E m++rest)).length:Nat),((i+1:Nat):Int),())):=fun c q t hv r=>by
   have f:i<(P++(a0E m++rest)).length:=by rw[hv];simp;omega
   have u:l0z (P++(a0E m++rest)) (i:Int)=some (c:Int):=by
    rw[a0B f];congr 1;subst hP;simp[hv]
   have w:(decide ((i:Int) > 0)=true→((c:Int)==0)=false):=fun h=>by
    simp only[dT]at h;simp only[beq_eq_false_iff_ne,ne_eq];omega
   simp only[a1Z,dlt f,cT,u,oB,s,cF];cases o:decide ((i:Int) > 0)with
   |true=>simp only[cT,oB,w o,cF,a,l,b]
   |false=>simp only[oB,cF,a,l,b]
  have n:∀c:Nat,c%128*2^(7*i)+acc<9223372036854775808→bits .u64 .or (acc:Int) (z0g .u64 (wrap .u64 (a34 (c:Int) 128)) ((7*i:Nat):Int))=((acc+c%128*2^(7*i):Nat):Int):=fun c t=>by
   rw[show a34 (c:Int) 128=((c%128:Nat):Int)from rfl,a0P (by omega),a8q (by omega) (by omega)];exact orA ha (by omega)
  by_cases hm128:m<128
  rw[a0I (g m [] (by omega) (b1u hm128) (by omega) |>.trans (by
   have d:decide ((m:Int)<128)=true:=by simp;omega
   simp only[d,cT];rfl))]
  rw[n m (by rw[a40 hm128];exact hs),a40 hm128,b1u hm128];rfl
  ·cases j with
   |zero=>omega
   |succ j=>
    have o:m / 128<128^(j+1):=by rw[a68 (by omega)];rw[a57]at hj;exact hj
    have k:2^(7*(i+1))=128*2^(7*i):=by rw[show 7*(i+1)=7+7*i from by omega,Nat.pow_add]
    have p:m*2^(7*i)=m%128*2^(7*i)+m / 128*2^(7*(i+1)):=by
     rw[k,←a93,←Nat.add_mul];congr 1;omega
    have hb:m%128*2^(7*i)≤127*2^(7*i):=a38 _ (by omega);rw[a0J (g (m%128+128) (a0E (m / 128)) (by omega) (a7A hm128) (by omega) |>.trans (by
     have d:decide (((m%128+128:Nat):Int)<128)=false:=by simp;omega
     simp only[d,cF];rfl))]
    rw[n (m%128+128) (by rw[b02,Nat.mod_mod];omega),b02,Nat.mod_mod];have e:P++(a0E m++rest)=(P++[((m%128+128:Nat):Int)])++(a0E (m / 128)++rest):=by rw[a7A hm128];simp
    rw[e]at hl⊢;have x:=b6g j (m / 128) (i+1) (acc+m%128*2^(7*i)) (P++[((m%128+128:Nat):Int)]) o (by simp[hP]) (.inr (by omega)) (by rw[k];omega) (by omega) hl;rw[x,p,a7A hm128];congr 3;omega
    simp;omega
theorem c3G{n:Nat}(h:n<9223372036854775808){rest:List Int}(g:(a0E n++rest).length<1000000):a3W (a0E n++rest)=some ((n:Int),(((a0E n).length:Nat):Int),(0:Int)):=by
 have:=b6g (rest:=rest) 8 n 0 0 [] (by rw[show(128:Nat)^(8+1)=9223372036854775808 from by decide];exact h) rfl (.inl rfl) (by simp) (by simpa using h) g
 simp only[a04,nZ,Nat.mul_zero,Nat.pow_zero,b05,Nat.zero_add,a09]at this;unfold a3W;rw[this];rfl
def ord(P R:List Int):List Int×(Int×Int×Unit):=(P++R,(P.length:Int),(0:Int),())
theorem a7f{n:Nat}(d:n<9223372036854775808){most:Int}(i:(n:Int)≤most)(f:(P++(a0E n++R)).length<1000000):
  a0Q (ord P (a0E n++R),most)=some ((n:Int),ord (P++a0E n) R):=by
 have c:b03 (a23 (P.length:Int)) (a89 (P++(a0E n++R)).length (P++(a0E n++R)))=a0E n++R:=by
  rw[a24,tN,List.drop_left]
 have g:((0:Int) != 0)=false:=rfl;have k:decide ((0:Int)≤(P.length:Int))=true:=by simp
 have a:decide ((P.length:Int)≤((P++(a0E n++R)).length:Int))=true:=by simp;omega
 have b:decide ((n:Int) > most)=false:=by simp;omega
 have h:(a0E n++R).length<1000000:=by rw[lN]at f;omega
 have e:wrap .i64 ((P.length:Int)+((a0E n).length:Int))=(((P++a0E n).length:Nat):Int):=by
  rw[a0D (by simp only[lN]at f;omega)];simp
 unfold a0Q ord;simp only[g,cF,k,a,a03,cT];rw[c,c3G d h];simp only[oB,beq_self_eq_true,cT,b,cF,g,e,aA]
def a3L(g:Int):Nat:=if 0≤g then(2*g).toNat else(-2*g-1).toNat
theorem c6F(h:-100000≤g∧g≤100000):a9H g=some ((a3L g:Nat):Int):=by
 unfold a9H a3L
 by_cases hg:0≤g
 have d:decide (g≥0)=true:=by simpa using hg
 rw[d,cT,if_pos hg,a0P (n:=g) (by omega),a0P (by omega),a20 (by omega)];have d:decide (g≥0)=false:=by simp;omega
 rw[d,cF,if_neg hg,a0D (n:=g+1) (by omega),a0D (by omega),a0P (n:=0-(g+1)) (by omega),a0P (n:=2*(0-(g+1))) (by omega),a0P (by omega),a20 (by omega)];congr 1;omega
theorem b5u(h:-(m:Int)≤g∧g≤(m:Int)):a3L g≤2*m:=by
 unfold a3L
 split<;>omega
theorem c3H(h:-100000≤g∧g≤100000):a6A ((a3L g:Nat):Int)=some g:=by
 unfold a6A;have f:a34 ((a3L g:Nat):Int) 2=((a3L g%2:Nat):Int):=rfl;have k:a62 ((a3L g:Nat):Int) 2=((a3L g / 2:Nat):Int):=rfl;rw[f,k];unfold a3L
 by_cases hg:0≤g
 rw[if_pos hg];have d:((((2*g).toNat%2:Nat):Int)==0)=true:=by simp;omega
 rw[d,cT,a0P (by omega),a0D (by omega)];congr 1;omega;rw[if_neg hg];have d:((((-2*g-1).toNat%2:Nat):Int)==0)=false:=by simp;omega
 rw[d,cF,a0P (by omega),a0D (n:=(((-2*g-1).toNat / 2:Nat):Int)) (by omega),a0D (n:=0-(((-2*g-1).toNat / 2:Nat):Int)) (by omega),a0D (by omega)];congr 1;omega
def e8(s:Int):Int:=bif (z0h .u8 s 7)==(1:Int)then bits .u8 .xor (z0g .u8 s 1) 7 else z0g .u8 s 1
def e16(s:Int):Int:=bif (z0h .u16 s 15)==(1:Int)then bits .u16 .xor (z0g .u16 s 1) 32773 else z0g .u16 s 1
def rep{α:Type}(f:α→α):Nat→α→α
 |0,s=>s
 |n+1,s=>rep f n (f s)
def g8(s c:Int):Int:=rep e8 8 (bits .u8 .xor s c)
def g16(s c:Int):Int:=rep e16 8 (bits .u16 .xor s (z0g .u16 (wrap .u16 c) 8))
theorem b7t(l:List Int)(n i:Int):∀(j k:Nat)(s:Int),k+j=8→x0r a8I (s,l,n,i,(k:Int),())=some (rep e8 j s,l,n,i,())
 |0,k,s,h=>by
  obtain rfl:k=8:=by omega
  exact a0I rfl
 |j+1,k,s,h=>by
  have d:decide ((k:Int)<8)=true:=by simp;omega
  rw[a0J (s':=(e8 s,l,n,i,((k+1:Nat):Int),())) (by
   simp only[a8I,d,cT,a0C (show k<1000000 by omega),e8];cases (z0h .u8 s 7==1:Bool)<;>rfl)]
  exact b7t l n i j (k+1) (e8 s) (by omega)
theorem b5j(l:List Int)(n i:Int):∀(j k:Nat)(s:Int),k+j=8→x0r a7D (s,l,n,i,(k:Int),())=some (rep e16 j s,l,n,i,())
 |0,k,s,h=>by
  obtain rfl:k=8:=by omega
  exact a0I rfl
 |j+1,k,s,h=>by
  have d:decide ((k:Int)<8)=true:=by simp;omega
  rw[a0J (s':=(e16 s,l,n,i,((k+1:Nat):Int),())) (by
   simp only[a7D,d,cT,a0C (show k<1000000 by omega),e16];cases (z0h .u16 s 15==1:Bool)<;>rfl)]
  exact b5j l n i j (k+1) (e16 s) (by omega)
def a8l(l:List Int):Int:=l.foldl g8 0
def a1L(l:List Int):Int:=l.foldl g16 0
theorem c0K(h:short l):a6U l=some (a8l l):=by
 have:=a1Q (f:=a6L) (β:=Int×Unit) l (fun i (a:Int)=>(a,l,(l.length:Int),(i:Int),())) (fun a x=>.inl (g8 a x)) (fun _ _=>True) (fun a=>(a,()))
  (fun i k a _=>⟨fun c g=>by
   simp only[Sum.inl.injEq]at g;subst g
   have:=b7t l (l.length:Int) (i:Int) 8 0 (bits .u8 .xor a l[i]) rfl
   simp only[nZ]at this;refine⟨?_,trivial⟩;simp only[a6L,dlt k,cT,a0B k,oB,this,a0C (a45 k h),g8],fun b hb=>by cases hb⟩)
  (fun a d=>by simp only[a6L,dge,cF]) (a:=0) trivial
 unfold a6U;simp only[nZ]at this;rw[this,b4g];rfl
theorem b7u(h:short l):a5k l=some (a1L l):=by
 have:=a1Q (f:=a5c) (β:=Int×Unit) l (fun i (a:Int)=>(a,l,(l.length:Int),(i:Int),())) (fun a x=>.inl (g16 a x)) (fun _ _=>True) (fun a=>(a,()))
  (fun i k a _=>⟨fun c g=>by
   simp only[Sum.inl.injEq]at g;subst g
   have:=b5j l (l.length:Int) (i:Int) 8 0 (bits .u16 .xor a (z0g .u16 (wrap .u16 l[i]) 8)) rfl
   simp only[nZ]at this;refine⟨?_,trivial⟩;simp only[a5c,dlt k,cT,a0B k,oB,this,a0C (a45 k h),g16],fun b hb=>by cases hb⟩)
  (fun a d=>by simp only[a5c,dge,cF]) (a:=0) trivial
 unfold a5k;simp only[nZ]at this;rw[this,b4g];rfl
theorem b1v(n:Int):wrap .u16 n=n%65536:=by simp[wrap,IntKind.bits,IntKind.signed]
theorem c3I(s:Int):0≤e16 s∧e16 s<65536:=by
 unfold e16;cases (z0h .u16 s 15==1:Bool);simp only[cF,z0g,b1v];omega;simp only[cT,bits,b1v];omega
theorem b6h(l:List Int):0≤a1L l∧a1L l<65536:=by
 unfold a1L;rcases a88 l with rfl|⟨L,b,rfl⟩
 simp
 rw[List.concat_eq_append,List.foldl_append];exact c3I _
theorem d1E{v:Int}(h:0≤v∧v<65536):a9J (v,2)=some [v / 256,v%256]:=by
 have g:wrap .u64 (a62 v 256)=v / 256:=by rw[a76 h.1];exact a0P (by omega)
 have f:wrap .u8 (a34 v 256)=v%256:=by rw[a49 h.1,a8R];omega
 have k:wrap .u8 (a34 (v / 256) 256)=v / 256:=by rw[a49 (by omega),a8R];omega
 have s0:a4d (v,(2:Int),(0:Int),([]:List Int),())=some (.inl (v / 256,(2:Int),(1:Int),[v%256],())):=by
  simp only[a4d,show decide ((0:Int)<2)=true from rfl,cT,a1c (show([]:List Int).length+1<2147483648 by simp),g,f];rfl
 have c:a4d (v / 256,(2:Int),(1:Int),[v%256],())=some (.inl (wrap .u64 (a62 (v / 256) 256),(2:Int),(2:Int),[v%256,v / 256],())):=by
  simp only[a4d,show decide ((1:Int)<2)=true from rfl,cT,a1c (show([v%256]:List Int).length+1<2147483648 by simp),k];rfl
 have a:a8a (v,2)=some [v%256,v / 256]:=by
  unfold a8a b0T;simp only[oB];rw[show v0a (u0z (2:Int) 0) 8=2 from rfl,a0J s0,a0J c,a0I (b:=([v%256,v / 256],())) rfl];rfl
 unfold a9J a2M;simp only[a,oB];rfl
@[reducible] def a0V:Type:=Int×(Int×(Int×Unit))
@[reducible] def a1k:Type:=Int×(Int×(a0V×(List a0V×(List Sub×Unit))))
variable {f:a1k}
@[reducible] def a1B:Type:=Int×(List (List Int)×Unit)
def a1M(n:Int)(s:a0V):Bool:=!(decide (s.1<0) || decide (s.1≥n) || decide (s.2.1<0) || decide (s.2.1≥n) || s.1==s.2.1)&&!(decide (s.2.2.1 < -1024) || decide (s.2.2.1 > 1024))
theorem a2z{s:a0V}:a1M n s=true↔0≤s.1∧s.1<n∧0≤s.2.1∧s.2.1<n∧s.1≠s.2.1∧-1024≤s.2.2.1∧s.2.2.1≤1024:=by
 simp only[a1M,bA,a29,a91,decide_eq_false_iff_not,beq_eq_false_iff_ne];omega
def a4u(l:List a0V)(n:Int):Prop:=1≤n∧n≤8∧l.length≤16∧l.all (a1M n)=true
instance (l:List a0V) (n:Int):Decidable (a4u l n):=by unfold a4u;infer_instance
theorem b3b(l:List a0V)(n:Int):a7h (l,n)=some (decide (a4u l n)):=by
 unfold a7h a4u
 by_cases h1:n<1
 have:¬ 1≤n:=by omega
 simp[h1,this]
 by_cases h2:n > 8
 have:¬ n≤8:=by omega
 simp[h1,h2,this]
 by_cases h3:((l.length:Nat):Int) > 16
 have:¬ l.length≤16:=by omega
 simp[h1,h2,h3,this];have g:=a1C (f:=a5X) (β:=Unit ⊕ (Bool×Unit)) l (fun i=>(n,l,(l.length:Int),(i:Int),())) (a1M n) (bt:=Sum.inl ()) (bf:=Sum.inr (false,()))
  (fun i h hp=>by
   obtain⟨a1,s,t,u,c,v,w⟩:=a2z.1 hp;have k:decide (l[i].1<0)=false:=by simp;omega
   have a:decide (l[i].1≥n)=false:=by simp;omega
   have b:decide (l[i].2.1<0)=false:=by simp;omega
   have m:decide (l[i].2.1≥n)=false:=by simp;omega
   have o:(l[i].1==l[i].2.1)=false:=by simpa using c
   have q:decide (l[i].2.2.1 < -1024)=false:=by simp;omega
   have r:decide (l[i].2.2.1 > 1024)=false:=by simp;omega
   simp only[a5X,dlt h,cT,a0B h,oB,k,a,b,m,o,q,r,cF,a0C (show i<1000000 by omega)])
  (fun i h hp=>by
   simp only[a5X,dlt h,cT,a0B h,oB];unfold a1M at hp;generalize decide (l[i].1<0)=b1 at *;generalize decide (l[i].1≥n)=b2 at *;generalize decide (l[i].2.1<0)=b3 at *;generalize decide (l[i].2.1≥n)=b4 at *;generalize (l[i].1==l[i].2.1)=b5 at *;cases b1<;>cases b2<;>cases b3<;>cases b4<;>cases b5<;>simp at hp⊢;generalize hb6:decide (l[i].2.2.1 < -1024)=b6;cases b6;simp only[decide_eq_false_iff_not]at hb6
   have:1024<l[i].2.2.1:=hp (by omega)
   simp[this]
   simp)
  (by simp[a5X])
 simp only[nZ]at g;have j:decide (((l.length:Nat):Int) > 16)=false:=by simpa using h3
 have d:decide (n<1)=false:=by simpa using h1
 have e:decide (n > 8)=false:=by simpa using h2
 simp only[d,e,j,cF,oB,g];have k:1≤n:=by omega
 have a:n≤8:=by omega
 have b:l.length≤16:=by omega
 by_cases hA:l.all (a1M n)=true
 rw[decide_eq_true (p:=1≤n∧n≤8∧l.length≤16∧l.all (a1M n)=true) ⟨k,a,b,hA⟩,hA];rfl;rw[decide_eq_false (p:=1≤n∧n≤8∧l.length≤16∧l.all (a1M n)=true) (fun h=>hA h.2.2.2),a60.2 hA];rfl
def b6w(f:a0V):Prop:=1≤f.1∧f.1≤1048576∧1≤f.2.1∧f.2.1≤8∧4≤f.2.2.1∧f.2.2.1≤24
instance (f:a0V):Decidable (b6w f):=by unfold b6w;infer_instance
theorem b3F(f:a0V):a5W f=some (decide (b6w f)):=by
 unfold a5W a5V b6w
 by_cases h1:1≤f.1<;>by_cases h2:f.1≤1048576<;>by_cases h3:1≤f.2.1<;>by_cases h4:f.2.1≤8<;>by_cases h5:4≤f.2.2.1<;>simp[h1,h2,h3,h4,h5]
def frP(f:a1k):Prop:=b6w f.2.2.1∧1≤f.2.1∧f.2.1≤4096∧0≤f.1∧f.1≤4194304-f.2.1∧a4u f.2.2.2.1 f.2.2.1.2.1
instance (f:a1k):Decidable (frP f):=by unfold frP;infer_instance
theorem b3G(f:a1k):a5Y f=some (decide (frP f)):=by
 unfold a5Y frP;rw[b3F,b3b]
 by_cases h1:b6w f.2.2.1<;>by_cases h2:1≤f.2.1<;>by_cases h3:f.2.1≤4096<;>by_cases h4:0≤f.1<;>simp[h1,h2,h3,h4]
 have h:wrap .i64 ((4194304:Int)-f.2.1)=4194304-f.2.1:=a0D (by omega);rw[h]
 by_cases h5:f.1≤4194304-f.2.1<;>simp[h5]
def a6q(s:a0V):List Nat:=[s.1.toNat,s.2.1.toNat,a3L s.2.2.1]
def a1j(s:a0V):List Int:=a0E s.1.toNat++(a0E s.2.1.toNat++a0E (a3L s.2.2.1))
def hb(f:a1k)(body:Nat):List Int:=
 [245,75]++(a0E f.1.toNat++(a0E f.2.1.toNat++(a0E f.2.2.1.1.toNat++(a0E f.2.2.1.2.1.toNat++(a0E f.2.2.1.2.2.1.toNat++(a0E f.2.2.2.1.length++(f.2.2.2.1.flatMap a1j++a0E body)))))))
def a0X(f:a1k)(body:Nat):List Int:=hb f body++[a8l (hb f body)]
theorem a5z{n:Nat}(h:n<9223372036854775808):1≤(a0E n).length∧(a0E n).length≤9:=b6v 8 n (by rw[show(128:Nat)^(8+1)=9223372036854775808 from by decide];exact h)
theorem c3J(j:n≤8){s:a0V}(h:a1M n s=true):(a1j s).length≤27:=by
 obtain⟨a1,k,a,b,c,g,f⟩:=a2z.1 h
 have:=b5u (m:=1024) ⟨g,f⟩
 have d:=a5z (n:=s.1.toNat) (by omega);have e:=a5z (n:=s.2.1.toNat) (by omega);have i:=a5z (n:=a3L s.2.2.1) (by omega);simp only[a1j,lN];omega
theorem b8E{n:Int}(g:n≤8):∀(l:List a0V),l.all (a1M n)=true→(l.flatMap a1j).length≤27*l.length
 | [],_=>by simp
 |s::l,h=>by
  simp only[a07,bA]at h
  have:=c3J g h.1
  have:=b8E g l h.2
  simp only[a61,lN,lC];omega
theorem b7v(g:frP f){body:Nat}(h:body≤1048576):2≤(hb f body).length∧(hb f body).length≤600:=by
 obtain⟨⟨q,r2,k,a,b,c⟩,l1,l2,s1,s2,m1,m2,m3,m4⟩:=g;have d:=a5z (n:=f.1.toNat) (by omega);have e:=a5z (n:=f.2.1.toNat) (by omega);have i:=a5z (n:=f.2.2.1.1.toNat) (by omega);have j:=a5z (n:=f.2.2.1.2.1.toNat) (by omega);have l:=a5z (n:=f.2.2.1.2.2.1.toNat) (by omega);have m:=a5z (n:=f.2.2.2.1.length) (by omega);have o:=a5z (n:=body) (by omega);have p:=b8E m2 _ m4;simp only[hb,lN,lC,a17];omega
theorem c1D:∀l:List a0V,(l.flatMap a6q).length=3*l.length
 | []=>rfl
 |s::l=>by simp only[a61,lN,lC,c1D l];simp only[a6q,lC,a17];omega
theorem c1E(a b:List Nat):asI (a++b)=asI a++asI b:=by simp[asI]
theorem c2O(D:frP f){body:Nat}(r:body≤1048576):a6M (f,(body:Int))=some (a0X f body):=by
 have u:=D;obtain⟨⟨O,r2,K,L,M,N⟩,l1,l2,s1,s2,m1,m2,m3,m4⟩:=u;have k:∀s∈f.2.2.2.1,a1M f.2.2.1.2.1 s=true:=fun s y=>lA.1 m4 s y;have h:=a1Q (f:=a4F) (β:=Int×(List Int×Unit)) f.2.2.2.1 (fun i (a:List Int)=>((body:Int),f.2.2.2.1,((f.2.2.2.1.length:Nat):Int),(i:Int),a,())) (fun a x=>.inl (a++asI (a6q x))) (fun i a=>a.length=6+3*i) (fun a=>((body:Int),a,()))
  (fun i v a C=>⟨fun I l=>by
   simp only[Sum.inl.injEq]at l;subst l;obtain⟨a1,E,z,F,G,A,B⟩:=a2z.1 (k _ (a06 v));refine⟨?_,by simp[C,asI,a6q];omega⟩;simp only[a4F,dlt v,cT,a0B v,oB,c6F (g:=f.2.2.2.1[i].2.2.1) (by omega),a1c (show a.length+3<2147483648 by omega),a0C (show i<1000000 by omega),a08];rw[a0P (n:=f.2.2.2.1[i].1) (by omega),a0P (n:=f.2.2.2.1[i].2.1) (by omega)];simp only[asI,a6q,a50,a96,a20 a1,a20 z],fun b hb=>by cases hb⟩)
  (fun a C=>by simp only[a4F,dge,cF]) (a:=asI [f.1.toNat,f.2.1.toNat,f.2.2.1.1.toNat,f.2.2.1.2.1.toNat,f.2.2.1.2.2.1.toNat,f.2.2.2.1.length]) (by simp[asI])
 rw[b2d]at h;simp only[a7G,nZ]at h;have e:([wrap .u64 f.1,wrap .u64 f.2.1,wrap .u64 f.2.2.1.1,wrap .u64 f.2.2.1.2.1,wrap .u64 f.2.2.1.2.2.1,wrap .u64 ((f.2.2.2.1.length:Nat):Int)]:List Int)=asI [f.1.toNat,f.2.1.toNat,f.2.2.1.1.toNat,f.2.2.1.2.1.toNat,f.2.2.1.2.2.1.toNat,f.2.2.2.1.length]:=by
  rw[a0P (n:=f.1) (by omega),a0P (n:=f.2.1) (by omega),a0P (n:=f.2.2.1.1) (by omega),a0P (n:=f.2.2.1.2.1) (by omega),a0P (n:=f.2.2.1.2.2.1) (by omega),a0P (by omega)];simp only[asI,a50,a96,a20 (show 0≤f.1 by omega),a20 (show 0≤f.2.1 by omega),a20 (show 0≤f.2.2.1.1 by omega),a20 (show 0≤f.2.2.1.2.1 by omega),a20 (show 0≤f.2.2.1.2.2.1 by omega)]
 have p:asI [f.1.toNat,f.2.1.toNat,f.2.2.1.1.toNat,f.2.2.1.2.1.toNat,f.2.2.1.2.2.1.toNat,f.2.2.2.1.length]++f.2.2.2.1.flatMap (fun x=>asI (a6q x))++[((body:Nat):Int)]=asI ([f.1.toNat,f.2.1.toNat,f.2.2.1.1.toNat,f.2.2.1.2.1.toNat,f.2.2.1.2.2.1.toNat,f.2.2.2.1.length]++f.2.2.2.1.flatMap a6q++[body]):=by
  rw[c1E,c1E];congr 2;simp only[asI,List.map_flatMap]
 have w:∀n∈[f.1.toNat,f.2.1.toNat,f.2.2.1.1.toNat,f.2.2.1.2.1.toNat,f.2.2.1.2.2.1.toNat,f.2.2.2.1.length]++f.2.2.2.1.flatMap a6q++[body],n<9223372036854775808:=fun n j=>by
  simp only[mA,mC,a67,or_false,b07]at j;rcases j with(j|⟨s,y,j⟩)|j;omega;obtain⟨a1,E,z,F,G,A,B⟩:=a2z.1 (k _ y)
  have:=b5u (m:=1024) ⟨A,B⟩
  simp only[a6q,mC,a67,or_false]at j;omega;omega
 have c:=c1D f.2.2.2.1;have q:=c0J w (by simp[c];omega);have d:(([f.1.toNat,f.2.1.toNat,f.2.2.1.1.toNat,f.2.2.1.2.1.toNat,f.2.2.1.2.2.1.toNat,f.2.2.2.1.length]++f.2.2.2.1.flatMap a6q++[body]).flatMap a0E)=(hb f body).drop 2:=by
  simp only[hb,List.flatMap_append,a61,List.flatMap_nil,a36,aA,List.flatMap_assoc,a66,a04,List.drop_succ_cons,a27];congr 7;exact congrArg (fun g=>List.flatMap g f.2.2.2.1) (funext fun s=>by simp[a1j,a6q])
 have t:[245,75]++(hb f body).drop 2=hb f body:=by simp[hb]
 have H:=b7v D r;unfold a6M;simp only[e];rw[h];simp only[oB,a08];have o:=congrArg a41 p;rw[show(asI ([f.1.toNat,f.2.1.toNat,f.2.2.1.1.toNat,f.2.2.1.2.1.toNat,f.2.2.1.2.2.1.toNat,f.2.2.2.1.length]++f.2.2.2.1.flatMap a6q++[body])).length=7+3*f.2.2.2.1.length from by simp only[asI,List.length_map,lN,c,lC,a17];omega]at o;rw[lN,a43]at o;rw[a0P (n:=(body:Int)) (by omega),a1c (by omega),cT,p,q];simp only[oB,d,a08,t];rw[a1c (by simp;omega),cT,c0K (show short (hb f body)by unfold short;omega)];simp only[oB];rw[a1c (by omega),cT];rfl
def c2P(f:a1k):a1k:=(f.1,f.2.1,f.2.2.1,f.2.2.2.1,[],())
theorem a1l{A:List Int}{k:Nat}(h:(P++(A++R)).length<k):((P++A)++R).length<k:=by rw[aA];exact h
theorem b7w{x:List Int}{ch:Int}(d:ch≤8)(s l:Int)(c:a0V)(u:List Sub×Unit){N:Nat}(p:N≤16){R:List Int}:∀(rest done:List a0V)(P:List Int),rest.all (a1M ch)=true→done.length+rest.length=N→
  (P++(rest.flatMap a1j++R)).length<1000000→
  x0r a0R (x,(N:Int),(done.length:Int),(s,l,c,done,u),ord P (rest.flatMap a1j++R),())=some (x,(s,l,c,done++rest,u),ord (P++rest.flatMap a1j) R,())
 | [],done,P,_,hl,_=>by
  have e:done.length=N:=by simpa using hl
  rw[e,a0I (b:=(x,(s,l,c,done,u),ord P R,())) (by simp only[a0R,dge,cF];rfl)]
  simp
 |g::rest,done,P,h,hl,hlen=>by
  simp only[a07,bA]at h;rw[lC]at hl;obtain⟨a1,z,A,B,C,i,j⟩:=a2z.1 h.1;have D:=b5u (m:=1024) ⟨i,j⟩;have o:(g::rest).flatMap a1j++R=a0E g.1.toNat++(a0E g.2.1.toNat++(a0E (a3L g.2.2.1)++(rest.flatMap a1j++R))):=by simp[a1j]
  rw[o]at hlen⊢;have t:=a7f (n:=g.1.toNat) (most:=7) (by omega) (by omega) hlen;have f:=a1l hlen;have v:=a7f (n:=g.2.1.toNat) (most:=7) (by omega) (by omega) f;have k:=a1l f;have w:=a7f (n:=a3L g.2.2.1) (most:=2048) (by omega) (by omega) k;have a:=a1l k;have r:wrap .u64 ((done.length:Int)+1)=(((done++[g]).length:Nat):Int):=by rw[a0P (by omega)];simp
  have y:wrap .i64 ((g.1.toNat:Nat):Int)=g.1:=by rw[a0D (by omega)];omega
  have w2:wrap .i64 ((g.2.1.toNat:Nat):Int)=g.2.1:=by rw[a0D (by omega)];omega
  have q:decide ((done.length:Int)<(N:Int))=true:=by simp;omega
  rw[a0J (s':=(x,(N:Int),(((done++[g]).length:Nat):Int),(s,l,c,done++[g],u),ord (P++a0E g.1.toNat++a0E g.2.1.toNat++a0E (a3L g.2.2.1)) (rest.flatMap a1j++R),())) (by
   simp only[a0R,q,cT,t,v,w,oB,c3H (g:=g.2.2.1) (by omega),a1c (show done.length+1<2147483648 by omega),y,w2,r,a08])]
  rw[b7w d s l c u p rest (done++[g]) _ h.2 (by simp;omega) a];simp[a1j]
theorem b4m(p:frP f){body:Nat}(o:body≤1048576)(hl:(a0X f body++R).length<1000000):
  a2h (a0X f body++R)=some (c2P f,((a0X f body).length:Int),(body:Int),(0:Int)):=by
 have q:=p;obtain⟨⟨r1,r2,c1,c2,d1,d2⟩,l1,l2,s1,s2,m1,m2,m3,m4⟩:=q;have X:=b7v p o

 have d:a0X f body++R=[245,75]++(a0E f.1.toNat++(a0E f.2.1.toNat++(a0E f.2.2.1.1.toNat++(a0E f.2.2.1.2.1.toNat++(a0E f.2.2.1.2.2.1.toNat++(a0E f.2.2.2.1.length++(f.2.2.2.1.flatMap a1j++(a0E body++([a8l (hb f body)]++R))))))))):=by
  simp[a0X,hb]
 generalize hx:a0X f body++R=x at *;have Y:2≤x.length:=by rw[d];simp
 have S:l0z x 0=some 245:=by rw[d];rfl
 have U:l0z x 1=some 75:=by rw[d];rfl
 have k:b03 2 (a89 x.length x)=a0E f.1.toNat++(a0E f.2.1.toNat++(a0E f.2.2.1.1.toNat++(a0E f.2.2.1.2.1.toNat++(a0E f.2.2.1.2.2.1.toNat++(a0E f.2.2.2.1.length++(f.2.2.2.1.flatMap a1j++(a0E body++([a8l (hb f body)]++R)))))))):=by
  rw[a24,d];rfl
 have h:([]++(a0E f.1.toNat++(a0E f.2.1.toNat++(a0E f.2.2.1.1.toNat++(a0E f.2.2.1.2.1.toNat++(a0E f.2.2.1.2.2.1.toNat++(a0E f.2.2.2.1.length++(f.2.2.2.1.flatMap a1j++(a0E body++([a8l (hb f body)]++R))))))))):List Int).length<1000000:=by
  rw[←k];simp;omega
 have E:=a7f (n:=f.1.toNat) (most:=4194304) (by omega) (by omega) h;have y:=a1l h;have F:=a7f (n:=f.2.1.toNat) (most:=4096) (by omega) (by omega) y;have z:=a1l y;have G:=a7f (n:=f.2.2.1.1.toNat) (most:=1048576) (by omega) (by omega) z;have A:=a1l z;have H:=a7f (n:=f.2.2.1.2.1.toNat) (most:=8) (by omega) (by omega) A;have B:=a1l A;have I:=a7f (n:=f.2.2.1.2.2.1.toNat) (most:=24) (by omega) (by omega) B;have C:=a1l B;have K:=a7f (n:=f.2.2.2.1.length) (most:=16) (by omega) (by omega) C;have D:=a1l C;have a:=b7w (x:=x) m2 f.1 f.2.1 f.2.2.1 ([],()) m3 f.2.2.2.1 [] _ m4 (by simp) D;have V:=a1l D;have i:=a7f (n:=body) (most:=1048576) (by omega) (by omega) V;simp only[a17,nZ,a04,a09]at E F G H I K i a;have w1:wrap .i64 ((f.1.toNat:Nat):Int)=f.1:=by rw[a0D (by omega)];omega
 have w2:wrap .i64 ((f.2.1.toNat:Nat):Int)=f.2.1:=by rw[a0D (by omega)];omega
 have w3:wrap .i64 ((f.2.2.1.1.toNat:Nat):Int)=f.2.2.1.1:=by rw[a0D (by omega)];omega
 have w4:wrap .i64 ((f.2.2.1.2.1.toNat:Nat):Int)=f.2.2.1.2.1:=by rw[a0D (by omega)];omega
 have w5:wrap .i64 ((f.2.2.1.2.2.1.toNat:Nat):Int)=f.2.2.1.2.2.1:=by rw[a0D (by omega)];omega
 have l:a0E f.1.toNat++a0E f.2.1.toNat++a0E f.2.2.1.1.toNat++a0E f.2.2.1.2.1.toNat++a0E f.2.2.1.2.2.1.toNat++a0E f.2.2.2.1.length++f.2.2.2.1.flatMap a1j++a0E body=(hb f body).drop 2:=by simp[hb]
 rw[l]at i;have u:ord ((hb f body).drop 2) ([a8l (hb f body)]++R)=(x.drop 2,(((hb f body).length-2:Nat):Int),(0:Int),()):=by
  unfold ord;rw[a25,←hx];congr 1;unfold a0X;rw[aA,List.drop_append_of_le_length (by omega)]
 rw[u]at i;have b:wrap .i64 (((x.drop 2).length:Int)-(((hb f body).length-2:Nat):Int))=((1+R.length:Nat):Int):=by
  have:x.length=(hb f body).length+(1+R.length):=by rw[←hx];simp[a0X];omega
  rw[a25,a0D (by omega)];omega
 have m:wrap .i64 ((2:Int)+(((hb f body).length-2:Nat):Int))=(((hb f body).length:Nat):Int):=by rw[a0D (by omega)];omega
 have t:(hb f body).length<x.length:=by rw[←hx];simp[a0X]
 have c:a89 (hb f body).length x=hb f body:=by rw[←hx];simp[a0X]
 have s:l0z x (((hb f body).length:Nat):Int)=some (a8l (hb f body)):=by rw[a0B t];congr 1;subst hx;simp[a0X]
 have Q:decide (((x.length:Nat):Int)<2)=false:=by simp;omega
 have j:decide ((2:Int)≤((x.length:Nat):Int))=true:=by simp;omega
 have L:((245:Int) != 245)=false:=rfl;have M:((75:Int) != 75)=false:=rfl;have e:∀T:List Int,T.length<1000000→a6z T=some (ord [] T):=fun T d=>by unfold a6z;rw[a1c (by omega)];rfl
 have g:=h;rw[a04]at g;have z0:((0:Int) != 0)=false:=rfl;have N:decide (((1+R.length:Nat):Int)<1)=false:=by simp;omega
 have O:decide ((0:Int)≤(((hb f body).length:Nat):Int))=true:=by simp
 have P:decide ((((hb f body).length:Nat):Int)≤((x.length:Nat):Int))=true:=by simp;omega
 have Z:(a8l (hb f body) != a8l (hb f body))=false:=bne_self_eq_false _;have r:frP (f.1,f.2.1,f.2.2.1,f.2.2.2.1,([]:List Sub),()):=p;have w:wrap .i64 ((((hb f body).length:Nat):Int)+1)=(((a0X f body).length:Nat):Int):=by rw[a0D (by omega)];simp[a0X]
 have v:wrap .i64 ((body:Nat):Int)=(body:Int):=a0D (by omega);unfold a2h;simp only[Q,cF,S,U,oB,L,M,j,cT];rw[k,e _ g];simp only[oB,E,F,G,H,I,K,w1,w2,w3,w4,w5]
 erw[a]
 simp only[oB,i,a1a,z0,cF,a4m,a7E,b,N,m,O,P,a03,cT,tN,c,c0K (show short (hb f body)by unfold short;omega),s,Z];rw[b3G,decide_eq_true r];simp only[oB,bT,cF,w,v];rfl
@[reducible] def PZ:Type:=Sub×List Nat
def c2Q(n:Int)(p:PZ):Prop:=SmallS p.1∧(a2g p.1 n).isSome=true∧(p.1.1≠0∧p.1.1≠1→PartsOk p.1.2.2.2.2.2.2.2.2.2.1 n ((p.1.2.2.2.2.2.2.2.2.1.length:Nat):Int) p.1.2.2.2.2.2.2.2.2.2.2.1 p.2)
def a0K(l:List PZ):List Int:=l.flatMap fun p=>a7e p.1 p.2
theorem b8F(l:List PZ):a1u (a0K l):=b2E fun _=>c4y _ _
theorem b8G(x:a1k)(all:List Sub)(n:all.length≤8):∀(rest done:List Sub)(L:List Int),done++rest=all→(∀s∈rest,SmallS s∧(a2g s x.2.1).isSome=true)→L.length+700000*rest.length<40000000→
  ∃zs:List PZ,zs.map (·.1)=rest∧(∀p∈zs,c2Q x.2.1 p)∧(a0K zs).length≤700000*rest.length∧((∀s∈rest,∃c,a3I (s,x.2.1)=some (c:Int))∧some (((a0K zs).length:Nat):Int)=rest.foldr (fun s a=>a.bind fun a=>(a3I (s,x.2.1)).bind fun c=>some (c+a)) (some 0))∧
   x0r a7q (all,(all.length:Int),(done.length:Int),wL L,x,())=some (.inl (wL (L++a0K zs),x,()))
 | [],done,L,hd,_,_=>by
  have e:done=all:=by simpa using hd
  subst e;refine⟨[],rfl,by simp,by simp[a0K],⟨by simp,by simp[a0K]⟩,?_⟩;rw[a0I (b:=Sum.inl (wL L,x,())) (by simp only[a7q,dge,cF])];simp[a0K]
 |s::rest,done,L,hd,h,hL=>by
  obtain⟨j,i⟩:=h s (by simp);rw[lC]at hL;obtain⟨k,l,d,u,m⟩:=c4z j i (L:=L) (by omega);obtain⟨zs,k1,k2,k3,⟨q,r⟩,k6⟩:=b8G x all n rest (done++[s]) (L++a7e s k) (by simpa using hd) (fun t f=>h t (by simp[f])) (by rw[lN];omega);have g:done.length<all.length:=by rw[←hd];simp
  have o:l0z all (done.length:Int)=some s:=by rw[a0B g];subst hd;simp
  refine⟨(s,k)::zs,by simp[k1],fun p hp=>?_,?_,⟨fun t f=>?_,?_⟩,?_⟩;rcases mC.1 hp with rfl|hp;exact⟨j,i,m⟩;exact k2 p hp;simp only[a0K,a61,lN,lC];simp only[a0K]at k3;omega;rcases mC.1 f with rfl|f;exact⟨_,d⟩;exact q t f;simp only[List.foldr_cons,←r,oB,d];simp[a0K];have z0:((0:Int) != 0)=false:=rfl;rw[a0J (s':=(all,(all.length:Int),(((done++[s]).length:Nat):Int),wL (L++a7e s k),x,())) (by
   simp only[a7q,dlt g,cT,o,oB,l,z0,cF,a0C (show done.length<1000000 by omega)]
   simp)]
  rw[k6];simp[a0K]
def a4i(k:Nat):Nat:=(8-k%8)%8
def a2r(L:List Int):List Int:=L++a01 (a4i L.length) 0
theorem b7x:∀(k:Nat)(L:List Int),a4i L.length=k→L.length+k<900000000→x0r a3b (wL L,())=some (wL (L++a01 k 0),())
 |k,L,hk,hL=>by
  have f:=(a4U L).1;have h:a34 (wL L).2.1 8=((L.length%8:Nat):Int):=by rw[f];rfl
  unfold a4i at hk;cases k with
  |zero=>
   have:L.length%8=0:=by omega
   rw[a0I (b:=(wL L,())) (by
    simp only[a3b,h,this];rfl)]
   simp
  |succ k=>
   have hb:(((L.length%8:Nat):Int) != 0)=true:=by simp;omega
   rw[a0J (s':=(wL (L++[0]),())) (by
    simp only[a3b,h,hb,cT,b6W (show L.length<1000000000 by omega),oB])]
   rw[b7x k (L++[0]) (by unfold a4i;rw[lN,a43];omega) (by rw[lN,a43];omega)];rw[aA];rfl
theorem c4B(h:L.length<800000000):a4k (wL L)=some (wL (a2r L)):=by
 unfold a4k;rw[b7x _ L rfl (by unfold a4i;omega)];rfl
def a1v(L:List Int):List Int:=(wL (a2r L)).1
theorem b5k(L:List Int):(a1v L).length=(L.length+7) / 8∧8*(a1v L).length=(a2r L).length:=by
 have:=(a4U (a2r L)).2
 unfold a1v;rw[this];unfold a2r a4i;simp only[lN,List.length_replicate];omega
def a1S(f:a1k)(L:List Int):List Int:=a0X f (a1v L).length++a1v L
def a1e(f:a1k)(L:List Int):List Int:=a1S f L++[a1L (a1S f L) / 256,a1L (a1S f L)%256]
theorem b4n(h:frP f)(a:L.length≤5600000):(a1S f L).length≤700700∧(a1v L).length≤700000:=by
 have g:=(b5k L).1;have k:=b7v h (body:=(a1v L).length) (by omega);simp only[a1S,a0X,lN,a43];omega
theorem c0L(j:a3M f=some true)(d:frP f)(e:f.2.2.2.2.1.length≤8)(m:∀s∈f.2.2.2.2.1,SmallS s∧(a2g s f.2.1).isSome=true):
  ∃zs:List PZ,zs.map (·.1)=f.2.2.2.2.1∧(∀p∈zs,c2Q f.2.1 p)∧(a0K zs).length≤5600000∧
   some (((a0K zs).length:Nat):Int)=f.2.2.2.2.1.foldr (fun s a=>a.bind fun a=>(a3I (s,f.2.1)).bind fun c=>some (c+a)) (some 0)∧a6y f=some (a1e f (a0K zs),0):=by
 obtain⟨zs,k1,k2,k3,⟨-,n⟩,k6⟩:=b8G f f.2.2.2.2.1 e f.2.2.2.2.1 [] [] rfl m (by simp;omega);have b:(a0K zs).length≤5600000:=by omega
 refine⟨zs,k1,k2,b,n,?_⟩;rw[a04,a17]at k6;have hp:=b4n d b;have k:wL []=(([]:List Int),(0:Int),()):=rfl;rw[k]at k6;have g:(a2r (a0K zs)).length<1000000000:=by
  have:=(b5k (a0K zs)).2
  omega
 have l:=b6h (a1S f (a0K zs));have h:a0X f (a1v (a0K zs)).length++a1v (a0K zs)=a1S f (a0K zs):=rfl;have i:(a0X f (a1v (a0K zs)).length).length+(a1v (a0K zs)).length=(a1S f (a0K zs)).length:=by rw[←h,lN]
 unfold a6y;simp only[j,oB,bT,cF]
 erw[k6]
 simp only[oB,c4B (show(a0K zs).length<800000000 by omega),c4A g]
 erw[c2O d (show(a1v (a0K zs)).length≤1048576 by omega)]
 simp only[oB,a08];rw[show(wL (a2r (a0K zs))).1=a1v (a0K zs)from rfl];rw[h,a1c (by omega),cT,b7u (show short (a1S f (a0K zs))by unfold short;omega)];simp only[oB];rw[a0P (by omega),d1E l];simp only[oB];rw[a1c (by simp;omega),cT];rfl
def a7B(f:a1k)(l:List Sub):a1k:=(f.1,f.2.1,f.2.2.1,f.2.2.2.1,l,())
theorem c2R(f:a1k):a7B f f.2.2.2.2.1=f:=rfl
theorem b7y(f g:a1k)(e:Int){N:Nat}(d:N≤8){Z:List Int}:∀(rest:List PZ)(done:List Sub)(P:List Int),done.length+rest.length=N→(∀p∈rest,c2Q f.2.1 p)→OkR P (a0K rest++Z)→
  x0r a6N (e,(N:Int),(done.length:Int),g,a7B f done,rdr P (a0K rest++Z),())=some (.inl (e,g,a7B f (done++rest.map (·.1)),rdr (P++a0K rest) Z,()))
 | [],done,P,hl,_,_=>by
  have a:done.length=N:=by simpa using hl
  rw[a,a0I (b:=Sum.inl (e,g,a7B f done,rdr P Z,())) (by simp only[a6N,dge,cF];rfl)];simp[a0K]
 |p::rest,done,P,hl,h,hok=>by
  rw[lC]at hl;obtain⟨n,l,o⟩:=h p (by simp);have c:a0K (p::rest)++Z=a7e p.1 p.2++(a0K rest++Z):=by simp[a0K]
  rw[c]at hok⊢;have j:=c5O n l o hok;have i:decide ((done.length:Int)<(N:Int))=true:=by simp;omega
  have z0:((0:Int) != 0)=false:=rfl;rw[a0J (s':=(e,(N:Int),(((done++[p.1]).length:Nat):Int),g,a7B f (done++[p.1]),rdr (P++a7e p.1 p.2) (a0K rest++Z),())) (by
   have k:b0C (rdr P (a7e p.1 p.2++(a0K rest++Z)),(a7B f done).2.1)=some (p.1,(0:Int),rdr (P++a7e p.1 p.2) (a0K rest++Z)):=j;simp only[a6N,i,cT,k,oB,z0,cF];rw[show(a7B f done).2.2.2.2.1=done from rfl,a1c (show done.length+1<2147483648 by omega),cT,a0C (show done.length<1000000 by omega)];rw[show(((done++[p.1]).length:Nat):Int)=((done.length+1:Nat):Int)from by simp];rfl)]
  rw[b7y f g e d rest (done++[p.1]) _ (by simp;omega) (fun q m=>h q (by simp[m])) hok.shift];simp[a0K]
theorem b6i{L:List Int}(f:a1u L)(a:L.length<500000000)(t:Int×(Int×Unit)):∀(k i:Nat),i+k=L.length→(∀j,i≤j→L.getD j 0=0)→
  x0r a3d ((L.length:Int),(i:Int),((wL L).1,t),())=some (.inl ((L.length:Int),((wL L).1,t),()))
 |0,i,h,_=>by
  obtain rfl:i=L.length:=by omega
  exact a0I (by simp only[a3d,dge,cF])
 |k+1,i,h,h0=>by
  have g:i<L.length:=by omega
  have z:((0:Int)==1)=false:=rfl;have b:wrap .i64 ((i:Int)+1)=((i+1:Nat):Int):=by rw[a0D (by omega)];omega
  rw[a0J (s':=((L.length:Int),((i+1:Nat):Int),((wL L).1,t),())) (by
   simp only[a3d,dlt g,cT];rw[b8a f (by omega) g t,h0 i (a28 _)];simp only[oB,z,cF,b])]
  exact b6i f a t k (i+1) (by omega) (fun j c=>h0 j (by omega))
theorem c4C(L:List Int)(k j:Nat)(h:L.length≤j):(L++a01 k 0).getD j 0=0:=by
 rw[lD,a32 h,List.getElem?_replicate]
 split<;>rfl
theorem b8H(h:a1u L):a1u (a2r L):=h.app fun _ hb=>.inl (a95.1 hb).2
theorem c3K(f:a1u L)(c:L.length≤5600000):∃r,a4n (rdr L (a01 (a4i L.length) 0))=some r∧r.2.2.1=0:=by
 have hp:(a2r L).length=L.length+a4i L.length:=by simp[a2r]
 have a:a4i L.length<8:=by unfold a4i;omega
 have b:(a2r L).length%8=0:=by rw[hp];unfold a4i;omega
 have z0:((0:Int) != 0)=false:=rfl;have g:wrap .i64 (wrap .i64 (a62 (wrap .i64 ((L.length:Int)+7)) 8)*8)=((a2r L).length:Int):=by
  rw[a0D (n:=(L.length:Int)+7) (by omega),show a62 ((L.length:Int)+7) 8=(((L.length+7) / 8:Nat):Int)from by
   rw[show((L.length:Int)+7)=((L.length+7:Nat):Int)from by omega];rfl,a0D (n:=(((L.length+7) / 8:Nat):Int)) (by omega),a0D (by omega),hp]
  unfold a4i;omega
 have h:=b6i (b8H f) (by omega) ((L.length:Int),(0:Int),()) (a4i L.length) L.length (by omega) (fun j k=>c4C L _ j k);refine⟨((wL (a2r L)).1,((a2r L).length:Int),(0:Int),()),?_,rfl⟩;unfold a4n rdr;simp only[z0,cF,g];rw[show L++a01 (a4i L.length) 0=a2r L from rfl,h];rfl
theorem d1F{v:Int}(h:0≤v∧v<65536):bits .u16 .or (z0g .u16 (wrap .u16 (v / 256)) 8) (wrap .u16 (v%256))=v:=by
 rw[b1v,b1v];have e:z0g .u16 (v / 256%65536) 8=((v.toNat / 256*256:Nat):Int):=by
  show wrap .u16 (v / 256%65536*256)=_;rw[b1v];omega
 rw[e];have g:v%256%65536=((v.toNat%256:Nat):Int):=by omega
 rw[g];show wrap .u16 (((a02 16 ((v.toNat / 256*256:Nat):Int) ||| a02 16 ((v.toNat%256:Nat):Int)).toNat:Nat):Int)=_;have f:(a02 16 ((v.toNat / 256*256:Nat):Int)).toNat=v.toNat / 256*256:=by rw[a33];omega
 have k:(a02 16 ((v.toNat%256:Nat):Int)).toNat=v.toNat%256:=by rw[a33];omega
 rw[a52,f,k];have e:v.toNat / 256*256 ||| v.toNat%256=v.toNat / 256*256+v.toNat%256:=by
  have:=a44 (i:=8) (b:=v.toNat%256) (by omega) (v.toNat / 256)
  rw[show 2^8*(v.toNat / 256)=v.toNat / 256*256 from by omega]at this;exact this.symm
 rw[e,b1v];omega
theorem b9d(O:a3M f=some true)(u:frP f)(t:((f.2.2.2.2.1.length:Nat):Int)=f.2.2.1.2.1){zs:List PZ}(B:zs.map (·.1)=f.2.2.2.2.1)(hp:∀p∈zs,c2Q f.2.1 p)(z:(a0K zs).length≤5600000)(V:R.length≤1000):a2D (a1e f (a0K zs)++R)=some (f,((a1e f (a0K zs)).length:Int),(0:Int)):=by
 have P:=b4n u z;have Q:=b6h (a1S f (a0K zs));have L:f.2.2.2.2.1.length≤8:=by have:=u.1.2.2.2.1;omega
 have N:=b5k (a0K zs);generalize hbd:a1v (a0K zs)=body at *;have c:a1e f (a0K zs)=a1S f (a0K zs)++[a1L (a1S f (a0K zs)) / 256,a1L (a1S f (a0K zs))%256]:=rfl;have g:a1S f (a0K zs)=a0X f body.length++body:=by unfold a1S;rw[hbd]
 generalize hpb:a1S f (a0K zs)=pre at *;have o:a1e f (a0K zs)++R=a0X f body.length++(body++([a1L pre / 256,a1L pre%256]++R)):=by rw[c,g];simp
 have m:(a1e f (a0K zs)).length=pre.length+2:=by rw[c];simp
 have A:pre.length=(a0X f body.length).length+body.length:=by rw[g];simp
 have y:(a1e f (a0K zs)++R).length=pre.length+2+R.length:=by rw[lN,m]
 have k:=b4m u (body:=body.length) (by omega) (R:=body++([a1L pre / 256,a1L pre%256]++R)) (by rw[←o,y];omega);rw[←o]at k;generalize hx:a1e f (a0K zs)++R=x at *;have z0:((0:Int) != 0)=false:=rfl;have T:wrap .i64 (((a0X f body.length).length:Int)+(body.length:Int))=(pre.length:Int):=by rw[a0D (by omega)];omega
 have w2:wrap .i64 ((pre.length:Int)+2)=((pre.length+2:Nat):Int):=by rw[a0D (by omega)];omega
 have U:wrap .i64 ((pre.length:Int)+1)=((pre.length+1:Nat):Int):=by rw[a0D (by omega)];omega
 have C:decide ((x.length:Int)<((pre.length+2:Nat):Int))=false:=by simp;omega
 have D:decide ((0:Int)≤(pre.length:Int))=true:=by simp
 have E:decide ((pre.length:Int)≤(x.length:Int))=true:=by simp;omega
 have F:decide ((0:Int)≤((a0X f body.length).length:Int))=true:=by simp
 have G:decide (((a0X f body.length).length:Int)≤(pre.length:Int))=true:=by simp;omega
 have j:x=pre++([a1L pre / 256,a1L pre%256]++R):=by rw[←hx,c];simp
 have i:a89 pre.length x=pre:=by rw[j];simp
 have b:b03 (a0X f body.length).length pre=body:=by rw[g];simp
 have I:l0z x (pre.length:Int)=some (a1L pre / 256):=by rw[a0B (by omega)];congr 1;subst j;simp
 have K:l0z x ((pre.length+1:Nat):Int)=some (a1L pre%256):=by rw[a0B (by omega)];congr 1;subst j;simp
 have S:(a1L pre != bits .u16 .or (z0g .u16 (wrap .u16 (a1L pre / 256)) 8) (wrap .u16 (a1L pre%256)))=false:=by rw[d1F Q];exact bne_self_eq_false _
 have e:(a2r (a0K zs)).length<1000000000:=by omega
 have a:=c6E e;rw[show(wL (a2r (a0K zs))).1=body from hbd]at a;have v:OkR [] (a0K zs++a01 (a4i (a0K zs).length) 0):=⟨by rw[a04];exact b8H (b8F zs),by
  rw[a04];show(a2r (a0K zs)).length<_;omega⟩
 have h:=b7y f ((0:Int),(0:Int),((0:Int),(0:Int),(0:Int),()),([]:List a0V),([]:List Sub),()) (pre.length:Int) L zs [] [] (by rw[←B];simp) hp v;simp only[a04,a17,B,c2R]at h;have w:rdr [] (a2r (a0K zs))=rdr [] (a0K zs++a01 (a4i (a0K zs).length) 0):=rfl;obtain⟨r,q,s⟩:=c3K (b8F zs) z;have d:a2w (rdr (a0K zs) (a01 (a4i (a0K zs).length) 0))=some ((a4i (a0K zs).length:Int),rdr (a0K zs) (a01 (a4i (a0K zs).length) 0)):=by
  unfold a2w rdr
  have:(wL (a0K zs++a01 (a4i (a0K zs).length) 0)).1=body:=hbd
  simp only[this];have hp:(a2r (a0K zs)).length=(a0K zs).length+a4i (a0K zs).length:=by simp[a2r]
  rw[a0D (n:=8*(body.length:Int)) (by omega),a0D (by omega)];congr 2;omega
 have H:decide (((a4i (a0K zs).length:Nat):Int)≥8)=false:=by unfold a4i;simp;omega
 have M:a7B f []=c2P f:=rfl;have l:f.2.2.1.2.1=((f.2.2.2.2.1.length:Nat):Int):=t.symm;unfold a2D;rw[k];simp only[oB,z0,cF,T,w2,C,D,E,F,a03,cT,tN,i,b7u (show short pre by unfold short;omega),I,U,K,S,G,b,a,w];rw[show(c2P f).2.2.1.2.1=((f.2.2.2.2.1.length:Nat):Int)from l]
 erw[h]
 simp only[oB,d,H,cF,q,a0L,s,z0,O,bT,w2,m]
theorem b9e(k:frP f)(a:L.length≤5600000)(c:R.length≤1000):a6X (a1e f L++R)=some (f.2.2.1,f.1,f.2.1,(0:Int)):=by
 have b:=b4n k a;have g:a1e f L++R=a0X f (a1v L).length++(a1v L++([a1L (a1S f L) / 256,a1L (a1S f L)%256]++R)):=by simp[a1e,a1S]
 have h:=b4m k (body:=(a1v L).length) (by omega) (R:=a1v L++([a1L (a1S f L) / 256,a1L (a1S f L)%256]++R)) (by
  rw[←g];simp only[a1e,lN,lC,a17];omega)
 rw[←g]at h;unfold a6X;rw[h];rfl
theorem b2e(x:Int):a7N x=some (a0A x):=by
 unfold a7N a0A
 by_cases h:-1073741824≤x<;>simp[h]
def a2A(c:List (List Int)):Prop:=1≤c.length∧c.length≤8∧(c.headD []).length≤4096∧c.all (fun r=>decide (r.length=(c.headD []).length)&&r.all a0A)=true
instance (c:List (List Int)):Decidable (a2A c):=by unfold a2A;infer_instance
theorem b0I{l:List α}{d:α}(h:0<l.length):l[0]=l.headD d:=by
 cases l with
 |nil=>simp at h
 |cons a l=>rfl
theorem b8e(c:List (List Int)):a6u c=some (decide (a2A c)):=by
 unfold a6u
 by_cases h1:((c.length:Nat):Int)<1
 have:¬ a2A c:=fun h=>by have:=h.1;omega
 simp[h1,this]
 by_cases h2:((c.length:Nat):Int) > 8
 have:¬ a2A c:=fun h=>by have:=h.2.1;omega
 simp[h1,h2,this];have l:0<c.length:=by omega
 have b:l0z c 0=some (c.headD []):=by rw[show(0:Int)=((0:Nat):Int)from rfl,a0B l,b0I (d:=[]) l]
 have m:decide (((c.length:Nat):Int)<1)=false:=by simpa using h1
 have n:decide (((c.length:Nat):Int) > 8)=false:=by simpa using h2
 simp only[m,n,cF,b,oB]
 by_cases h3:(((c.headD []).length:Nat):Int) > 4096
 rw[decide_eq_true h3,decide_eq_false (show ¬ a2A c from fun h=>by have:=h.2.2.1;omega)];rfl;have o:decide ((((c.headD []).length:Nat):Int) > 4096)=false:=by simpa using h3
 simp only[o,cF];have g:∀(i:Nat)(r:List Int),short r→x0r a3R (c,c,(c.length:Int),(i:Int),r,(r.length:Int),(0:Int),())=some (bif r.all a0A then Sum.inl (c,c,(c.length:Int),(i:Int),())else Sum.inr (false,())):=fun i r t=>by
  have:=a1C (f:=a3R) r (fun j=>(c,c,(c.length:Int),(i:Int),r,(r.length:Int),(j:Int),())) a0A (bt:=Sum.inl (c,c,(c.length:Int),(i:Int),())) (bf:=Sum.inr (false,()))
   (fun j h hp=>by simp only[a3R,dlt h,cT,a0B h,oB,b2e,hp,bT,cF,a0C (a45 h t)])
   (fun j h hp=>by simp only[a3R,dlt h,cT,a0B h,oB,b2e,hp,a18])
   (by simp only[a3R,dge,cF])
  exact this
 have k:=a1C (f:=a3S) c (fun i=>(c,c,(c.length:Int),(i:Int),())) (fun r=>decide (r.length=(c.headD []).length)&&r.all a0A) (bt:=Sum.inl ()) (bf:=Sum.inr (false,()))
  (fun i h hp=>by
   simp only[bA,dT]at hp;have e:((((c[i]).length:Nat):Int) != (((c.headD []).length:Nat):Int))=false:=by rw[hp.1];exact bne_self_eq_false _
   have a:=g i c[i] (by unfold short;omega);rw[hp.2,cT]at a;simp only[a3S,dlt h,cT,a0B h,oB,b,e,cF,a,a0C (show i<1000000 by omega)])
  (fun i h hp=>by
   by_cases hl:(c[i]).length=(c.headD []).length
   have e:((((c[i]).length:Nat):Int) != (((c.headD []).length:Nat):Int))=false:=by rw[hl];exact bne_self_eq_false _
   have a:=g i c[i] (by unfold short;omega);rw[decide_eq_true hl,a37]at hp;rw[hp,cF]at a;simp only[a3S,dlt h,cT,a0B h,oB,b,e,cF,a];have e:((((c[i]).length:Nat):Int) != (((c.headD []).length:Nat):Int))=true:=by simp only[bne_iff_ne,ne_eq,b19];exact hl
   simp only[a3S,dlt h,cT,a0B h,oB,b,e])
  (by simp only[a3S,dge,cF])
 simp only[nZ]at k;rw[k];have p:1≤c.length:=by omega
 have q:c.length≤8:=by omega
 have s:(c.headD []).length≤4096:=by omega
 by_cases hA:c.all (fun r=>decide (r.length=(c.headD []).length)&&r.all a0A)=true
 rw[hA,decide_eq_true (show a2A c from⟨p,q,s,hA⟩)];rfl;rw[a60.2 hA,decide_eq_false (show ¬ a2A c from fun h=>hA h.2.2.2)];rfl
def a3g(c:List (List Int))(n:Nat):Prop:=∀r∈c,r.length=n∧r.all a0A=true
theorem c1F(h:a2A c):a3g c (c.headD []).length:=fun r g=>by
 have:=lA.1 h.2.2.2 r g
 simpa using this
theorem b6x{c:List (List Int)}{n:Nat}(h:a3g c n)(g:1≤c.length)(f:c.length≤8)(b:n≤4096):a2A c:=by
 have k:(c.headD []).length=n:=by
  rw[←b0I (d:=[]) (show 0<c.length by omega)];exact(h _ (a06 _)).1
 refine⟨g,f,by omega,lA.2 fun r a=>?_⟩
 have:=h r a
 rw[decide_eq_true (show r.length=(c.headD []).length from by rw[k];exact this.1),this.2];rfl
theorem b8I{n:Nat}(h:a3g c n)(m:n≤5000)(l:c.length≤100):a6c c=some c:=by
 have:=a1Q (f:=a5I) (β:=List (List Int)×Unit) c (fun i (a:List (List Int))=>(c,(c.length:Int),(i:Int),a,())) (fun a x=>.inl (a++[x])) (fun i a=>a.length=i) (fun a=>(a,()))
  (fun i k a d=>⟨fun j g=>by
   simp only[Sum.inl.injEq]at g;subst g;have o:=(h _ (a06 k)).1;have e:∀y:List Int,List.set ([([]:List Int)]:List (List Int)) 0 y=[y]:=fun _=>rfl;refine⟨?_,by simp[d]⟩;simp only[a5I,dlt k,cT,a0B k,oB,a7b (show short c[i]by unfold short;omega),e];rw[a1c (by simp;omega),cT,a0C (show i<1000000 by omega)];rfl,fun b hb=>by cases hb⟩)
  (fun a d=>by simp only[a5I,dge,cF]) (a:=[]) rfl
 rw[b2d (fun x:List Int=>[x])]at this;unfold a6c;simp only[nZ]at this;rw[this];simp[a7G]
def a5U(sign g:Int)(x y:Int):Int:=y+sign*(g*x / 256)
def a8m(sign g:Int)(xs ys:List Int):List Int:=List.zipWith (a5U sign g) xs ys
theorem c4D(sign g:Int){xs ys:List Int}(h:xs.length=ys.length):(a8m sign g xs ys).length=ys.length:=by simp[a8m,h]
theorem c4E{y:Int}(b:sign=1∨sign=-1)(c:-1024≤g∧g≤1024)(k:a0A x=true)(a:a0A y=true):
  wrap .i64 (y+wrap .i64 (sign*z0h .i64 (wrap .i64 (g*x)) 8))=a5U sign g x y:=by
 have k:=a1G.1 k;have a:=a1G.1 a;have f:-1099511627776≤g*x∧g*x≤1099511627776:=by
  have f:g.natAbs≤1024:=by omega
  have h:x.natAbs≤1073741824:=by omega
  have:=a90 f h
  rw[←Int.natAbs_mul]at this;omega
 rw[a0D (n:=g*x) (by omega)];have h:z0h .i64 (g*x) 8=g*x / 256:=by
  unfold z0h;show(g*x).fdiv (2^8)=_;rw[a35 _ (by omega)];rfl
 rw[h];unfold a5U;rcases b with rfl|rfl;rw[a0D (n:=1*(g*x / 256)) (by omega),a0D (by omega)];rw[a0D (n:=-1*(g*x / 256)) (by omega),a0D (by omega)]
theorem a4W(c:List α)(h:a≠b)(y d:α):(c.set b y).getD a d=c.getD a d:=by
 rw[lD,lD,a70 (Ne.symm h)]
theorem a6D(c:List α)(h:b<c.length)(y d:α):(c.set b y).getD b d=y:=by
 rw[lD,a63 h];rfl
theorem c5q(p:List α)(x:α)(s:List α)(d:α):(p++x::s).getD p.length d=x:=by
 rw[lD];simp
theorem c5P(p:List α)(x y:α)(s:List α):(p++x::s).set p.length y=p++y::s:=by simp
theorem b7z{c:List (List Int)}{s:a0V}{sign:Int}(a:sign=1∨sign=-1)(l:-1024≤s.2.2.1∧s.2.2.1≤1024)(a0:0≤s.1)(j:0≤s.2.1)(g:s.1.toNat≠s.2.1.toNat)(hb:s.2.1.toNat<c.length)(f:s.2.1<(c.length:Int))
  {xs:List Int}(b:c.getD s.1.toNat []=xs)(B:xs.length≤5000):∀(sx suf px pre:List Int),px++sx=xs→px.length=pre.length→sx.length=suf.length→sx.all a0A=true→suf.all a0A=true→
  if(a8m sign s.2.2.1 sx suf).all a0A=true then
   x0r a3n (sign,(xs.length:Int),(pre.length:Int),c.set s.2.1.toNat (pre++suf),s,((s.1.toNat:Nat):Int),())=some (.inl (c.set s.2.1.toNat (pre++a8m sign s.2.2.1 sx suf),()))
  else ∃c',x0r a3n (sign,(xs.length:Int),(pre.length:Int),c.set s.2.1.toNat (pre++suf),s,((s.1.toNat:Nat):Int),())=some (.inr (false,c',()))
 | [],suf,px,pre,hx,hp,hl,_,_=>by
  have e:suf=[]:=a58.1 hl.symm;subst e;have t:pre.length=xs.length:=by rw[←hx,←hp];simp
  rw[if_pos (by rfl),t];exact a0I (by simp only[a3n,dge,cF];rfl)
 |x::sx,[],px,pre,_,_,hl,_,_=>by simp at hl
 |x::sx,y::suf,px,pre,hx,hp,hl,hwx,hwy=>by
  simp only[a07,bA]at hwx hwy;have A:pre.length<xs.length:=by rw[←hx,←hp];simp
  have u:(c.set s.2.1.toNat (pre++y::suf)).getD (a23 ((s.1.toNat:Nat):Int)) []=xs:=by rw[tN,a4W _ g];exact b
  have v:(c.set s.2.1.toNat (pre++y::suf)).getD s.2.1.toNat []=pre++y::suf:=a6D _ hb _ _;have w:b20 xs (a23 (pre.length:Int)) 0=x:=by rw[tN,←hp,←hx];exact c5q _ _ _ _
  have z:b20 (pre++y::suf) (a23 (pre.length:Int)) 0=y:=by rw[tN];exact c5q _ _ _ _
  have n:decide ((0:Int)≤(pre.length:Int))=true:=by simp
  have o:decide ((pre.length:Int)<(xs.length:Int))=true:=by simp;omega
  have p:decide ((0:Int)≤s.2.1)=true:=by simpa using j
  have q:decide (s.2.1<(((c.set s.2.1.toNat (pre++y::suf)).length:Nat):Int))=true:=by rw[List.length_set];simpa using f
  have r:decide ((pre.length:Int)<(((pre++y::suf).length:Nat):Int))=true:=by simp;omega
  have hv:=c4E a l hwx.1 hwy.1;have C:wrap .i64 ((pre.length:Int)+1)=((pre.length+1:Nat):Int):=a0C (by omega);have m:a8m sign s.2.2.1 (x::sx) (y::suf)=a5U sign s.2.2.1 x y::a8m sign s.2.2.1 sx suf:=rfl;have k:List.set (c.set s.2.1.toNat (pre++y::suf)) s.2.1.toNat (List.set (pre++y::suf) (a23 (pre.length:Int)) (a5U sign s.2.2.1 x y))=c.set s.2.1.toNat ((pre++[a5U sign s.2.2.1 x y])++suf):=by
   rw[tN,List.set_set,c5P];simp
  have h:a3n (sign,(xs.length:Int),(pre.length:Int),c.set s.2.1.toNat (pre++y::suf),s,((s.1.toNat:Nat):Int),()) =
    bif !(a0A (a5U sign s.2.2.1 x y))then some (.inr (Sum.inr (false,c.set s.2.1.toNat (pre++y::suf),())))
    else some (.inl (sign,(xs.length:Int),((pre.length+1:Nat):Int),c.set s.2.1.toNat ((pre++[a5U sign s.2.2.1 x y])++suf),s,((s.1.toNat:Nat):Int),())):=by
   simp only[a3n,o,cT,u,v,n,a03,p,q,r,w,z,b2e,hv,oB,C];cases hwv:a0A (a5U sign s.2.2.1 x y);rfl;simp only[bT,cF];rw[k,tN]
  cases hwv:a0A (a5U sign s.2.2.1 x y)with
  |false=>
   rw[m,if_neg (by simp[hwv])];rw[hwv]at h;exact⟨_,a0I h⟩
  |true=>
   rw[hwv]at h;have d:=b7z a l a0 j g hb f b B sx suf (px++[x]) (pre++[a5U sign s.2.2.1 x y]) (by simpa using hx) (by simp[hp]) (by simpa using hl) hwx.2 hwy.2;rw[a0J h,m];simp only[a07,hwv,a37];rw[show((pre++[a5U sign s.2.2.1 x y]).length)=pre.length+1 from by simp]at d;split;rename_i i;rw[if_pos i]at d;rw[d]
   simp
   rename_i i;rw[if_neg i]at d;exact d
def a3r(sign:Int)(s:a0V)(c:List (List Int)):Option (List (List Int)):=
 let r:=a8m sign s.2.2.1 (c.getD s.1.toNat []) (c.getD s.2.1.toNat [])
 if r.all a0A=true then some (c.set s.2.1.toNat r)else none
theorem a5E{n:Nat}(h:a3g c n)(g:i<c.length):(c.getD i []).length=n∧(c.getD i []).all a0A=true:=by
 rw[lD,lG g];exact h _ (a06 g)
theorem c0M{n:Nat}(a:a3g c n)(w:n≤5000){s:a0V}(q:a1M (c.length:Int) s=true)(k:sign=1∨sign=-1):
  ∃b f,a6T (c,s,sign)=some (b,f)∧match a3r sign s c with|some r=>b=true∧f=r|none=>b=false:=by
 obtain⟨a1,d,e,j,v,l,m⟩:=a2z.1 q;have t:=a5E a (i:=s.1.toNat) (by omega);have u:=a5E a (i:=s.2.1.toNat) (by omega);have hb:s.2.1.toNat<c.length:=by omega
 have g:c.set s.2.1.toNat (c.getD s.2.1.toNat [])=c:=by
  apply a78;intro i
  by_cases hi:s.2.1.toNat=i
  subst hi;rw[a63 hb,lD,lG hb];rfl;rw[a70 hi]
 have:=b7z k ⟨l,m⟩ a1 e (by omega) hb j (rfl:c.getD s.1.toNat []=_) (by omega) (c.getD s.1.toNat []) (c.getD s.2.1.toNat []) [] [] rfl rfl (by omega) t.2 u.2
 rw[a04,g]at this;simp only[a17,nZ,a04,a09]at this;have o:decide ((0:Int)≤s.1)=true:=by simpa using a1
 have p:decide (s.1<(c.length:Int))=true:=by simpa using d
 unfold a6T a3r;simp only[o,p,a03,cT]
 by_cases hA:(a8m sign s.2.2.1 (c.getD s.1.toNat []) (c.getD s.2.1.toNat [])).all a0A=true
 rw[if_pos hA]at this⊢;refine⟨true,_,?_,rfl,rfl⟩
 erw[this]
 rfl;rw[if_neg hA]at this⊢;obtain⟨f,h⟩:=this;refine⟨false,f,?_,rfl⟩
 erw[h]
 rfl
theorem b1q{c':List (List Int)}{n:Nat}(g:a3g c n){s:a0V}(a:a1M (c.length:Int) s=true)(h:a3r sign s c=some c'):a3g c' n∧c'.length=c.length:=by
 obtain⟨a1,d,e,j,l,m,o⟩:=a2z.1 a;have p:=a5E g (i:=s.1.toNat) (by omega);have b:=a5E g (i:=s.2.1.toNat) (by omega);unfold a3r at h;simp only at h
 split at h
 rename_i k;cases h;refine⟨fun r f=>?_,by simp⟩;rcases List.mem_or_eq_of_mem_set f with f|rfl;exact g r f;exact⟨by rw[c4D _ _ (by omega)];exact b.1,k⟩;cases h
theorem c0N(g:Int):∀xs ys:List Int,xs.length=ys.length→a8m (-1) g xs (a8m 1 g xs ys)=ys
 | [],[],_=>rfl
 |x::xs,y::ys,h=>by
  have f:=c0N g xs ys (by simpa using h);show a5U (-1) g x (a5U 1 g x y)::a8m (-1) g xs (a8m 1 g xs ys)=_;rw[f];unfold a5U;congr 1;omega
 | [],_::_,h=>by simp at h
 |_::_,[],h=>by simp at h
theorem c3L{c':List (List Int)}{n:Nat}(g:a3g c n){s:a0V}(f:a1M (c.length:Int) s=true)(h:a3r 1 s c=some c'):a3r (-1) s c'=some c:=by
 obtain⟨a1,a,b,d,e,j,l⟩:=a2z.1 f;have m:=a5E g (i:=s.1.toNat) (by omega);have k:=a5E g (i:=s.2.1.toNat) (by omega);have hb:s.2.1.toNat<c.length:=by omega
 unfold a3r at h;simp only at h
 split at h
 cases h;unfold a3r;simp only;rw[a4W _ (show s.1.toNat≠s.2.1.toNat by omega),a6D _ hb,c0N _ _ _ (by omega),if_pos k.2,List.set_set];congr 1;apply a78;intro i
 by_cases hi:s.2.1.toNat=i
 subst hi;rw[a63 hb,lD,lG hb];rfl;rw[a70 hi];cases h
def doO:List a0V→List (List Int)→Option (List (List Int))
 | [],c=>some c
 |s::l,c=>(a3r 1 s c).bind (doO l)
def a9a:List a0V→List (List Int)→Option (List (List Int))
 | [],c=>some c
 |s::l,c=>(a9a l c).bind (a3r (-1) s)
theorem b1w{n:Nat}{N:Nat}:∀(l:List a0V){c c':List (List Int)},a3g c n→c.length=N→l.all (a1M (N:Int))=true→doO l c=some c'→a3g c' n∧c'.length=N
 | [],c,c',hc,hl,_,h=>by cases h;exact⟨hc,hl⟩
 |s::l,c,c',hc,hl,hs,h=>by
  simp only[a07,bA]at hs;simp only[doO,a21]at h;obtain⟨d,g,f⟩:=h;obtain⟨k,a⟩:=b1q hc (by rw[hl];exact hs.1) g;exact b1w l k (by omega) hs.2 f
theorem c1G{n:Nat}{N:Nat}:∀(l:List a0V){c c':List (List Int)},a3g c n→c.length=N→l.all (a1M (N:Int))=true→doO l c=some c'→a9a l c'=some c
 | [],c,c',_,_,_,h=>by cases h;rfl
 |s::l,c,c',hc,hl,hs,h=>by
  simp only[a07,bA]at hs;simp only[doO,a21]at h;obtain⟨d,g,f⟩:=h;obtain⟨k,a⟩:=b1q hc (by rw[hl];exact hs.1) g;simp only[a9a];rw[c1G l k (by omega) hs.2 f];exact c3L hc (by rw[hl];exact hs.1) g
def b6y:Option (List (List Int))→List (List Int)×Int
 |some r=>(r,0)
 |none=>([],6)
theorem c1H{n N:Nat}(j:n≤5000){l:List a0V}(o:l.length≤16)(e:l.all (a1M (N:Int))=true):∀(k i:Nat)(c:List (List Int)),i+k=l.length→a3g c n→c.length=N→
  x0r a6Y (l,(l.length:Int),(i:Int),c,())=some (match doO (l.drop i) c with|some r=>Sum.inl (r,())|none=>Sum.inr ([],6,()))
 |0,i,c,h,_,_=>by
  obtain rfl:i=l.length:=by omega
  rw[a64];exact a0I (by simp only[a6Y,dge,cF];rfl)
 |k+1,i,c,h,hc,hcl=>by
  have g:i<l.length:=by omega
  rw[a05 g];have m:a1M (c.length:Int) l[i]=true:=by rw[hcl];exact lA.1 e _ (a06 g)
  obtain⟨b,a,d,f⟩:=c0M hc j m (sign:=1) (.inl rfl);simp only[doO];cases hst:a3r 1 l[i] c with
  |none=>
   rw[hst]at f;simp only at f;subst f;exact a0I (by simp only[a6Y,dlt g,cT,a0B g,oB,d,a18];rfl)
  |some r=>
   rw[hst]at f;obtain⟨rfl,rfl⟩:=f;obtain⟨p,q⟩:=b1q hc m hst;rw[a0J (s':=(l,(l.length:Int),((i+1:Nat):Int),a,())) (by
    simp only[a6Y,dlt g,cT,a0B g,oB,d,bT,cF,a0C (show i<1000000 by omega)])]
   rw[c1H j o e k (i+1) a (by omega) p (by omega)];rfl
theorem b9j(c:List (List Int))(l:List a0V):b0E (c,l)=some (if a2A c∧a4u l (c.length:Int)then b6y (doO l c)else([],1)):=by
 unfold b0E;simp only[b8e,oB]
 by_cases hq:a2A c
 have h:=c1F hq;simp only[hq,decide_true,bT,cF,b3b,oB,true_and]
 by_cases hm:a4u l (c.length:Int)
 simp only[hm,decide_true,bT,cF,if_true];rw[b8I h (by have:=hq.2.2.1;omega) (by have:=hq.2.1;omega)]
 have:=c1H (N:=c.length) (by have:=hq.2.2.1;omega:(c.headD []).length≤5000) hm.2.2.1 hm.2.2.2 l.length 0 c (by omega) h rfl
 simp only[nZ,a27,a09]at this;simp only[oB]
 erw[this]
 cases doO l c<;>rfl;simp only[hm,decide_false,a18,cT,if_false];simp only[hq,decide_false,a18,cT,oB,false_and,if_false]
theorem b7A(s:a0V):∀(l:List a0V)(c:List (List Int)),a9a (l++[s]) c=(a3r (-1) s c).bind (a9a l)
 | [],c=>by
  show a3r (-1) s c=_;cases a3r (-1) s c<;>rfl
 |t::l,c=>by
  simp only[a66,a9a,b7A s l];cases a3r (-1) s c<;>rfl
theorem b8J{n N:Nat}(j:n≤5000){l:List a0V}(i:l.all (a1M (N:Int))=true)(z:List (List Int))(e:Int):∀(k:Nat)(c:List (List Int)),k≤l.length→a3g c n→c.length=N→
  match a9a (l.take k) c with
  |some r=>k0w a2X l k (l,z,e,c,())=some (.inl (l,z,e,r,()))
  |none=>∃d,k0w a2X l k (l,z,e,c,())=some (.inr (.ret,l,[],6,d,()))
 |0,c,_,_,_=>rfl
 |k+1,c,hk,hc,hcl=>by
  have g:k<l.length:=by omega
  have m:a1M (c.length:Int) l[k]=true:=by rw[hcl];exact lA.1 i _ (a06 g)
  obtain⟨b,f,a,h⟩:=c0M hc j m (sign:=-1) (.inr rfl);rw[a39 g,b7A];cases hst:a3r (-1) l[k] c with
  |none=>
   rw[hst]at h;simp only at h;subst h;refine⟨f,?_⟩;simp only[k0w,lG g,a2X,a,oB,a18,cT]
  |some r=>
   rw[hst]at h;obtain⟨rfl,rfl⟩:=h;obtain⟨p,q⟩:=b1q hc m hst;have o:=b8J j i z e k f (by omega) p (by omega);have hb:k0w a2X l (k+1) (l,z,e,c,())=k0w a2X l k (l,z,e,f,()):=by
    simp only[k0w,lG g,a2X,a,oB,bT,cF]
   rw[hb];exact o
theorem c5Q(c:List (List Int))(l:List a0V):a9D (c,l)=some (if a2A c∧a4u l (c.length:Int)then b6y (a9a l c)else([],1)):=by
 unfold a9D;simp only[b8e,oB]
 by_cases hq:a2A c
 ·have h:=c1F hq;simp only[hq,decide_true,bT,cF,b3b,oB,true_and]
  by_cases hm:a4u l (c.length:Int)
  ·simp only[hm,decide_true,bT,cF,if_true];rw[b8I h (by have:=hq.2.2.1;omega) (by have:=hq.2.1;omega)]
   have:=b8J (N:=c.length) (by have:=hq.2.2.1;omega:(c.headD []).length≤5000) hm.2.2.2 [] 0 l.length c (a28 _) h rfl
   rw[a24]at this;simp only[oB,a1c (show l.length<2147483648 by have:=hm.2.2.1;omega),cT];cases hu:a9a l c with
   |some r=>
    rw[hu]at this;simp only at this
    erw[this]
    rfl
   |none=>
    rw[hu]at this;obtain⟨d,g⟩:=this
    erw[g]
    rfl
  simp only[hm,decide_false,a18,cT,if_false]
 simp only[hq,decide_false,a18,cT,oB,false_and,if_false]
def a1E(b:a1B):Nat:=(b.2.1.headD []).length
theorem a7g(b:a1B):a4S b=some ((a1E b:Nat):Int):=by
 unfold a4S a1E;obtain⟨d,c,u⟩:=b;cases c with
 |nil=>rfl
 |cons r c=>
  have:((((r::c).length:Nat):Int)==0)=false:=by simp;omega
  simp only[this,cF];rfl
def a2O(b:a1B):Prop:=4≤b.1∧b.1≤24∧1≤b.2.1.length∧b.2.1.length≤8∧1≤a1E b∧a1E b≤4096∧b.2.1.all (fun r=>decide (r.length=a1E b)&&r.all fun x=>a1x x b.1)=true
instance (b:a1B):Decidable (a2O b):=by unfold a2O;infer_instance
theorem c0O{w:Int}(h:4≤w∧w≤24):a3t (x,w)=some (a1x x w):=by
 have:=a5w (x:=x) (w:=w.toNat) (by omega)
 rwa [a20 (by omega)]at this
theorem b2f(b:a1B):a6v b=some (decide (a2O b)):=by
 unfold a6v a5V
 by_cases h1:4≤b.1
 rotate_left;rw[decide_eq_false (show ¬ a2O b from fun h=>h1 h.1),decide_eq_false h1];rfl
 by_cases h2:b.1≤24
 rotate_left;rw[decide_eq_false (show ¬ a2O b from fun h=>h2 h.2.1),decide_eq_true h1,decide_eq_false h2];rfl
 by_cases h3:((b.2.1.length:Nat):Int)<1
 rw[decide_eq_false (show ¬ a2O b from fun h=>by have:=h.2.2.1;omega),decide_eq_true h1,decide_eq_true h2,decide_eq_true h3];rfl
 by_cases h4:((b.2.1.length:Nat):Int) > 8
 rw[decide_eq_false (show ¬ a2O b from fun h=>by have:=h.2.2.2.1;omega),decide_eq_true h1,decide_eq_true h2,decide_eq_false h3,decide_eq_true h4];rfl;have c:decide (((b.2.1.length:Nat):Int)<1)=false:=by simpa using h3
 have d:decide (((b.2.1.length:Nat):Int) > 8)=false:=by simpa using h4
 simp only[decide_eq_true h1,decide_eq_true h2,c,d,cT,cF,oB,bT,a7g]
 by_cases h5:((a1E b:Nat):Int)<1
 rw[decide_eq_false (show ¬ a2O b from fun h=>by have:=h.2.2.2.2.1;omega),decide_eq_true h5];rfl
 by_cases h6:((a1E b:Nat):Int) > 4096
 rw[decide_eq_false (show ¬ a2O b from fun h=>by have:=h.2.2.2.2.2.1;omega),decide_eq_false h5,decide_eq_true h6];rfl;have l:decide (((a1E b:Nat):Int)<1)=false:=by simpa using h5
 have m:decide (((a1E b:Nat):Int) > 4096)=false:=by simpa using h6
 simp only[l,m,cF,oB];have g:∀(i:Nat)(r:List Int),short r→x0r a3T (b.2.1,(b.2.1.length:Int),(i:Int),r,(r.length:Int),(0:Int),b,())=some (bif r.all (fun x=>a1x x b.1)then Sum.inl (b.2.1,(b.2.1.length:Int),(i:Int),b,())else Sum.inr (false,())):=fun i r n=>by
  have:=a1C (f:=a3T) r (fun j=>(b.2.1,(b.2.1.length:Int),(i:Int),r,(r.length:Int),(j:Int),b,())) (fun x=>a1x x b.1) (bt:=Sum.inl (b.2.1,(b.2.1.length:Int),(i:Int),b,())) (bf:=Sum.inr (false,()))
   (fun j h hp=>by simp only[a3T,dlt h,cT,a0B h,oB,c0O ⟨h1,h2⟩,hp,bT,cF,a0C (a45 h n)])
   (fun j h hp=>by simp only[a3T,dlt h,cT,a0B h,oB,c0O ⟨h1,h2⟩,hp,a18])
   (by simp only[a3T,dge,cF])
  exact this
 have k:=a1C (f:=a3U) b.2.1 (fun i=>(b.2.1,(b.2.1.length:Int),(i:Int),b,())) (fun r=>decide (r.length=a1E b)&&r.all fun x=>a1x x b.1) (bt:=Sum.inl ()) (bf:=Sum.inr (false,()))
  (fun i h hp=>by
   simp only[bA,dT]at hp;have e:((((b.2.1[i]).length:Nat):Int) != ((a1E b:Nat):Int))=false:=by rw[hp.1];exact bne_self_eq_false _
   have a:=g i b.2.1[i] (by unfold short;omega);rw[hp.2,cT]at a;simp only[a3U,dlt h,cT,a0B h,oB,a7g,e,cF,a,a0C (show i<1000000 by omega)])
  (fun i h hp=>by
   by_cases hl:(b.2.1[i]).length=a1E b
   have e:((((b.2.1[i]).length:Nat):Int) != ((a1E b:Nat):Int))=false:=by rw[hl];exact bne_self_eq_false _
   have a:=g i b.2.1[i] (by unfold short;omega);rw[decide_eq_true hl,a37]at hp;rw[hp,cF]at a;simp only[a3U,dlt h,cT,a0B h,oB,a7g,e,cF,a];have e:((((b.2.1[i]).length:Nat):Int) != ((a1E b:Nat):Int))=true:=by simp only[bne_iff_ne,ne_eq,b19];exact hl
   simp only[a3U,dlt h,cT,a0B h,oB,a7g,e])
  (by simp only[a3U,dge,cF])
 simp only[nZ]at k;rw[k]
 by_cases hA:b.2.1.all (fun r=>decide (r.length=a1E b)&&r.all fun x=>a1x x b.1)=true
 rw[hA,decide_eq_true (show a2O b from⟨h1,h2,by omega,by omega,by omega,by omega,hA⟩)];rfl;rw[a60.2 hA,decide_eq_false (show ¬ a2O b from fun h=>hA h.2.2.2.2.2.2)];rfl
def a6I{α β:Type}(g:α→Option β):List α→Option (List β)
 | []=>some []
 |a::l=>(g a).bind fun b=>(a6I g l).bind fun r=>some (b::r)
theorem b6z{α β:Type}{g:α→Option β}:∀{l:List α}{r:List β},a6I g l=some r→r.length=l.length
 | [],r,h=>by cases h;rfl
 |a::l,r,h=>by
  simp only[a6I,a21]at h;obtain⟨b,-,c,f,k⟩:=h;cases k;simp[b6z f]
theorem b8K{α β:Type}{g:α→Option β}:∀{l:List α}{r:List β},a6I g l=some r→∀a∈l,(g a).isSome=true
 | [],r,h,a,ha=>by cases ha
 |a::l,r,h,x,hx=>by
  simp only[a6I,a21]at h;obtain⟨b,f,d,k,c⟩:=h;rcases mC.1 hx with rfl|hx;rw[f];rfl;exact b8K k x hx
def a7U(f:a1k):Option a1B:=
 if frP f∧((f.2.2.2.2.1.length:Nat):Int)=f.2.2.1.2.1 then
  (a6I (fun s=>a2g s f.2.1) f.2.2.2.2.1).bind fun rs=>
   if a2A rs∧a4u f.2.2.2.1 (rs.length:Int)then
    (a9a f.2.2.2.1 rs).bind fun ch=>if a2O (f.2.2.1.2.2.1,ch,())then some (f.2.2.1.2.2.1,ch,())else none
   else none
 else none
def b3H:a1B:=(0,[],())
def d1G:Option a1B→a1B×Int
 |some b=>(b,0)
 |none=>(b3H,1)
theorem b6j(f:a1k)(all:List Sub)(i:all.length≤8):∀(rest done:List Sub)(rows:List (List Int)),done++rest=all→rows.length=done.length→(∀s∈rest,SmallS s)→
  x0r a4b (all,(all.length:Int),(done.length:Int),rows,b3H,f,())=some (match a6I (fun s=>a2g s f.2.1) rest with|some rs=>Sum.inl (rows++rs,b3H,f,())|none=>Sum.inr (1,b3H,()))
 | [],done,rows,hd,hr,_=>by
  have e:done=all:=by simpa using hd
  subst e;rw[a0I (b:=Sum.inl (rows,b3H,f,())) (by simp only[a4b,dge,cF])];simp[a6I]
 |s::rest,done,rows,hd,hr,h=>by
  have j:=h s (by simp);have k:done.length<all.length:=by rw[←hd];simp
  have a:l0z all (done.length:Int)=some s:=by rw[a0B k];subst hd;simp
  have g:=b6T j f.2.1;simp only[a6I];cases ho:a2g s f.2.1 with
  |none=>
   rw[ho]at g;have d:((1:Int) != 0)=true:=rfl;exact a0I (by simp only[a4b,dlt k,cT,a,oB,g,d];rfl)
  |some r=>
   rw[ho]at g;have c:((0:Int) != 0)=false:=rfl;rw[a0J (s':=(all,(all.length:Int),(((done++[s]).length:Nat):Int),rows++[r],b3H,f,())) (by
    simp only[a4b,dlt k,cT,a,oB,g,c,cF,a1c (show rows.length+1<2147483648 by omega),a0C (show done.length<1000000 by omega)]
    simp)]
   rw[b6j f all i rest (done++[s]) (rows++[r]) (by simpa using hd) (by simp[hr]) (fun t l=>h t (by simp[l]))];simp only[oB];cases a6I (fun s=>a2g s f.2.1) rest<;>simp
theorem c4F(b:∀s∈f.2.2.2.2.1,SmallS s):a6d f=some (d1G (a7U f)):=by
 unfold a6d a7U;simp only[b3G,oB]
 by_cases hf:frP f
 rotate_left;simp only[hf,decide_false,a18,cT,oB,false_and,if_false];rfl
 by_cases hl:((f.2.2.2.2.1.length:Nat):Int)=f.2.2.1.2.1
 rotate_left;have e:(((f.2.2.2.2.1.length:Nat):Int) != f.2.2.1.2.1)=true:=by simpa using hl
 simp only[hf,decide_true,bT,cF,oB,e,cT,hl,and_false,if_false];rfl;have e:(((f.2.2.2.2.1.length:Nat):Int) != f.2.2.1.2.1)=false:=by simpa using hl
 have a:f.2.2.2.2.1.length≤8:=by have:=hf.1.2.2.2.1;omega
 have k:decide ((0:Int)≤((f.2.2.2.2.1.length:Nat):Int))=true:=by simp
 have h:=b6j f f.2.2.2.2.1 a f.2.2.2.2.1 [] [] rfl rfl b;rw[a17]at h;rw[if_pos ⟨hf,hl⟩];simp only[hf,decide_true,bT,cF,oB,e,k,tN,a1c (show f.2.2.2.2.1.length<2147483648 by omega),a03,cT]
 erw[h]
 cases hm:a6I (fun s=>a2g s f.2.1) f.2.2.2.2.1 with
 |none=>rfl
 |some rs=>
  simp only[oB,a04,c5Q]
  by_cases hq:a2A rs∧a4u f.2.2.2.1 (rs.length:Int)
  ·simp only[if_pos hq];cases hu:a9a f.2.2.2.1 rs with
   |none=>rfl
   |some ch=>
    have g:((0:Int) != 0)=false:=rfl;simp only[b6y,g,cF,b2f,oB]
    by_cases hb:a2O (f.2.2.1.2.2.1,ch,())
    simp only[hb,decide_true,bT,cF,if_true];rfl;simp only[hb,decide_false,a18,cT,if_false];rfl
  simp only[if_neg hq];rfl
theorem c6G(h:∀s∈f.2.2.2.2.1,SmallS s):a3M f=some (a7U f).isSome:=by
 unfold a3M;rw[c4F h];cases a7U f<;>rfl
theorem b5l{b:a1B}(h:a7U f=some b):frP f∧((f.2.2.2.2.1.length:Nat):Int)=f.2.2.1.2.1∧∀s∈f.2.2.2.2.1,(a2g s f.2.1).isSome=true:=by
 unfold a7U at h
 split at h
 rename_i g;simp only[a21]at h;obtain⟨a,k,-⟩:=h;exact⟨g.1,g.2,b8K k⟩;cases h
theorem c2S{b:a1B}(e:∀s∈f.2.2.2.2.1,SmallS s)(h:a7U f=some b):∃L,L.length≤5600000∧some ((L.length:Nat):Int)=f.2.2.2.2.1.foldr (fun s a=>a.bind fun a=>(a3I (s,f.2.1)).bind fun c=>some (c+a)) (some 0)∧
  a6y f=some (a1e f L,0)∧(∀R:List Int,R.length≤1000→a2D (a1e f L++R)=some (f,((a1e f L).length:Int),(0:Int)))∧
  (∀R:List Int,R.length≤1000→a6X (a1e f L++R)=some (f.2.2.1,f.1,f.2.1,(0:Int))):=by
 obtain⟨g,l,m⟩:=b5l h;have i:a3M f=some true:=by rw[c6G e,h];rfl
 have n:f.2.2.2.2.1.length≤8:=by have:=g.1.2.2.2.1;omega
 obtain⟨t,o,p,d,q,r⟩:=c0L i g n (fun s j=>⟨e s j,m s j⟩);exact⟨a0K t,d,q,r,fun R k=>b9d i g l o p d k,fun R k=>b9e g d k⟩
set_option maxRecDepth 100000 in
theorem c5R:b2Q ()=some true:=by kernel_rfl
def c6H(b:a1B)(m:Nat):Prop:=b.2.1.length≤12∧∀r∈b.2.1,r.length≤m
theorem c3M(b:a1B)(m:Nat):∃t,b1j (b,(m:Int))=some t∧(t=true→c6H b m):=by
 unfold b1j
 by_cases h1:((b.2.1.length:Nat):Int) > 12
 simp_all;have g:decide (((b.2.1.length:Nat):Int) > 12)=false:=decide_eq_false h1
 have:=a1C (f:=a6n) (β:=Unit ⊕ (Bool×Unit)) b.2.1 (fun i=>((m:Int),(i:Int),b,())) (fun r=>decide (r.length≤m)) (bt:=Sum.inl ()) (bf:=Sum.inr (false,()))
  (fun i h hp=>by
   have e:decide (((b.2.1[i].length:Nat):Int) > (m:Int))=false:=by simp_all
   simp only[a6n,dlt h,cT,a0B h,oB,e,cF,a0C (show i<1000000 by omega)])
  (fun i h hp=>by
   have e:decide (((b.2.1[i].length:Nat):Int) > (m:Int))=true:=by simp_all
   simp_all[a6n,a0B]) (by simp_all[a6n])
 simp at this;simp only[g,cF];rw[this];cases hA:b.2.1.all (fun r=>decide (r.length≤m))with
 |true=>exact⟨true,rfl,fun _=>⟨by omega,fun r k=>by simp_all⟩⟩
 |false=>simp
theorem c4G:a9Q c=some (decide (1≤c.length∧c.length≤8∧c.all (fun r=>decide (r.length=(c.headD []).length))=true)):=by
 unfold a9Q
 by_cases h1:((c.length:Nat):Int)<1
 grind
 by_cases h2:((c.length:Nat):Int) > 8
 grind
 have g:0<c.length:=by omega
 have k:l0z c 0=some (c.headD []):=by rw[show(0:Int)=((0:Nat):Int)from rfl,a0B g,b0I (d:=[]) g]
 have:=a1C (f:=a5q) (β:=Unit ⊕ (Bool×Unit)) c (fun i=>(c,(i:Int),())) (fun r=>decide (r.length=(c.headD []).length)) (bt:=Sum.inl ()) (bf:=Sum.inr (false,()))
  (fun i h hp=>by
   simp only[dT]at hp;have e:((((c[i]).length:Nat):Int) != (((c.headD []).length:Nat):Int))=false:=by simp_all
   simp only[a5q,dlt h,cT,a0B h,oB,k,e,cF,a0C (show i<1000000 by omega)])
  (fun i h hp=>by
   simp only[decide_eq_false_iff_not]at hp;have e:((((c[i]).length:Nat):Int) != (((c.headD []).length:Nat):Int))=true:=by grind
   simp only[a5q,dlt h,cT,a0B h,oB,k,e]) (by simp_all[a5q])
 grind
theorem b5m{w:Int}(h:4≤w∧w≤24):b0F (x,w)=some (a1x x w):=by
 have:=c1c (x:=x) (w:=w.toNat) (by omega)
 grind
theorem b7B(b:a1B):a5r b=some (decide (a2O b)):=by
 unfold a5r
 by_cases h1:b.1<4
 rw[decide_eq_true h1,decide_eq_false (fun h:a2O b=>by have:=h.1;omega)];rfl
 by_cases h2:b.1 > 24
 rw[decide_eq_false h1,decide_eq_true h2,decide_eq_false (fun h:a2O b=>by have:=h.2.1;omega)];rfl;simp only[decide_eq_false h1,decide_eq_false h2,cF,c4G,oB]
 by_cases h3:1≤b.2.1.length∧b.2.1.length≤8∧b.2.1.all (fun r=>decide (r.length=(b.2.1.headD []).length))=true
 rotate_left;rw[decide_eq_false h3,decide_eq_false (fun h:a2O b=>h3 ⟨h.2.2.1,h.2.2.2.1,lA.2 fun r c=>by
  have:=lA.1 h.2.2.2.2.2.2 r c
  simp only[bA]at this;exact this.1⟩)];rfl
 have e:0<b.2.1.length:=by omega
 have l:l0z b.2.1 0=some (b.2.1.headD []):=by rw[show(0:Int)=((0:Nat):Int)from rfl,a0B e,b0I (d:=[]) e]
 simp only[decide_eq_true h3,bT,cF,l,oB]
 by_cases h4:(((b.2.1.headD []).length:Nat):Int)<1
 rw[decide_eq_true h4,decide_eq_false (fun h:a2O b=>by have:=h.2.2.2.2.1;grind[a1E])];rfl
 by_cases h5:(((b.2.1.headD []).length:Nat):Int) > 4096
 rw[decide_eq_false h4,decide_eq_true h5,decide_eq_false (fun h:a2O b=>by have:=h.2.2.2.2.2.1;grind[a1E])];rfl;simp only[decide_eq_false h4,decide_eq_false h5,cF,oB];have hb:4≤b.1∧b.1≤24:=by omega
 have g:∀(i:Nat)(a:i<b.2.1.length),x0r a2J ((i:Int),(0:Int),b,())=some (bif (b.2.1[i]).all (fun x=>a1x x b.1)then Sum.inl ((i:Int),b,())else Sum.inr (false,())):=fun i a=>by
  have o:(b.2.1[i]).length=(b.2.1.headD []).length:=by simp_all
  have:=a1C (f:=a2J) (β:=(Int×a1B×Unit) ⊕ (Bool×Unit)) b.2.1[i] (fun j=>((i:Int),(j:Int),b,())) (fun x=>a1x x b.1) (bt:=Sum.inl ((i:Int),b,())) (bf:=Sum.inr (false,()))
   (fun j h hp=>by simp only[a2J,a0B a,oB,dlt h,cT,a0B h,b5m hb,hp,bT,cF,a0C (show j<1000000 by omega)])
   (fun j h hp=>by simp only[a2J,a0B a,oB,dlt h,cT,a0B h,b5m hb,hp,a18])
   (by simp_all[a2J,a0B])
  omega
 have k:=a1C (f:=a3C) (β:=Unit ⊕ (Bool×Unit)) b.2.1 (fun i=>((i:Int),b,())) (fun r=>r.all fun x=>a1x x b.1) (bt:=Sum.inl ()) (bf:=Sum.inr (false,()))
  (fun i h hp=>by
   have a:=g i h;rw[hp,cT]at a;simp only[a3C,dlt h,cT]
   grind[a0C])
  (fun i h hp=>by
   have a:=g i h;rw[hp,cF]at a;simp_all[a3C])
  (by simp_all[a3C])
 simp at k;rw[k]
 by_cases hA:b.2.1.all (fun r=>r.all fun x=>a1x x b.1)=true
 rw[hA,decide_eq_true (p:=a2O b) (⟨hb.1,hb.2,h3.1,h3.2.1,by unfold a1E;omega,by unfold a1E;omega,lA.2 fun r c=>by
  have m:=lA.1 h3.2.2 r c;have n:=lA.1 hA r c;simp_all[a1E]⟩:a2O b)]
 rfl;rw[a60.2 hA,decide_eq_false (p:=a2O b) (fun h=>hA (lA.2 fun r c=>by
  have:=lA.1 h.2.2.2.2.2.2 r c
  simp_all))]
 rfl
theorem c1q{b:a1B}(h:∀r∈b.2.1,r.length≤100):∃t,a5r b=some t∧(t=true→a2O b):=⟨_,b7B b,of_decide_eq_true⟩
theorem c5S{w:Int}(b:4≤w∧w≤24)(h:a1x x w=true):-16777216≤x∧x≤16777216:=by
 unfold a1x at h;simp at h;obtain⟨-,-,f,g⟩:=h;obtain⟨o,k⟩:∃o:Nat,w-1=(o:Int):=⟨(w-1).toNat,by omega⟩;rw[k]at f g;rw[b9M (by omega)]at g;have hp:2^o≤2^24:=a16 (by omega) (by omega);have a:z0g .i64 (-1) (o:Int)=wrap .i64 (-((2^o:Nat):Int)):=by
  unfold z0g;show wrap .i64 (-1*2^(min (o:Int).toNat 64))=_
  grind
 grind[a0D]
theorem c3N{x w:Int}(g:4≤w∧w≤24)(h:a1x x w=true):a0A x=true:=a1G.2 (by have:=c5S g h;omega)
theorem b4o{b:a1B}(h:a2O b):a3g b.2.1 (a1E b)∧a2A b.2.1:=by
 obtain⟨k,a,c,d,e,i,g⟩:=h;have j:a3g b.2.1 (a1E b):=fun r f=>by
  have:=lA.1 g r f
  simp only[bA,dT]at this
  grind[c3N]
 grind[b6x]
theorem c2T{b:a1B}(hb:a2O b){l:List a0V}(c:a4u l (b.2.1.length:Int)){rows:List (List Int)}(n:doO l b.2.1=some rows){ss:List Sub}(q:a6I (fun s=>a2g s ((a1E b:Nat):Int)) ss=some rows)
  {start rate:Int}(h:0≤start∧start≤4194304-((a1E b:Nat):Int))(p:1≤rate∧rate≤1048576):
  a7U (start,((a1E b:Nat):Int),(rate,((b.2.1.length:Nat):Int),b.1,()),l,ss,())=some b:=by
 obtain⟨m,y⟩:=b4o hb;obtain⟨x,z⟩:=b1w l m rfl c.2.2.2 n;have o:=b6z q;obtain⟨e,i,r,t,u,j,v⟩:=hb;have a:frP (start,((a1E b:Nat):Int),(rate,((b.2.1.length:Nat):Int),b.1,()),l,ss,()):=⟨⟨p.1,p.2,by grind,by grind,e,i⟩,by grind,by grind,h.1,h.2,c⟩;have k:((ss.length:Nat):Int)=((b.2.1.length:Nat):Int):=by omega
 have g:a2A rows:=b6x x (by omega) (by omega) j;have d:a4u l ((rows.length:Nat):Int):=by simp_all
 have w:=c1G l m rfl c.2.2.2 n;have f:((b.1,b.2.1,()):a1B)=b:=rfl;unfold a7U;rw[if_pos ⟨a,k⟩];simp only[q,oB];rw[if_pos ⟨g,d⟩,w];simp only[oB,f];rw[if_pos ⟨e,i,r,t,u,j,v⟩]
def b3I:a1k:=(0,0,(0,0,0,()),[],[],())
theorem c6I(k:Nat)(a:k≤62)(y:Int):∃v:Nat,bits .i64 .and y ((2^k-1:Nat):Int)=(v:Int)∧v<2^k:=by
 have hp:2^k≤2^62:=a16 (by omega) a;have f:0<2^k:=Nat.pow_pos (by omega);have h:((a02 64 y) &&& (a02 64 ((2^k-1:Nat):Int))).toNat=(a02 64 y).toNat%2^k:=by
  rw[a82];have e:(a02 64 ((2^k-1:Nat):Int)).toNat=2^k-1:=by
   rw[a33];generalize 2^k=p at *;omega
  rw[e,a69]
 have g:=a42 (a02 64 y).toNat f;refine⟨(a02 64 y).toNat%2^k,?_,g⟩;show wrap .i64 ((((a02 64 y) &&& (a02 64 ((2^k-1:Nat):Int))).toNat:Nat):Int)=_;rw[h];generalize (a02 64 y).toNat%2^k=z at *;exact a0D (by omega)
theorem b7C(c:List (List Int))(n i:Int){r:List Int}(a:short r):∀(k j:Nat)(s:Int),2≤j→j+k=r.length∨(k=0∧r.length≤j)→∃s',x0r a5O (s,r,(j:Int),c,n,i,())=some (s',c,n,i,())
 |0,j,s,h2,h=>⟨s,a0I (by
   have d:decide ((j:Int)<(r.length:Int))=false:=by simp;omega
   simp only[a5O,d,cF])⟩
 |k+1,j,s,h2,h=>by
  have f:j<r.length:=by omega
  unfold short at a;have b:wrap .i64 ((j:Int)-1)=((j-1:Nat):Int):=by rw[a0D (by omega)];omega
  have e:wrap .i64 ((j:Int)-2)=((j-2:Nat):Int):=by rw[a0D (by omega)];omega
  have m:=a0B (l:=r) (i:=j-1) (by omega);have o:=a0B (l:=r) (i:=j-2) (by omega);obtain⟨s',g⟩:=b7C c n i a k (j+1) (wrap .i64 (s+u0z (wrap .i64 (wrap .i64 (r[j]-wrap .i64 (2*r[j-1]))+r[j-2])) (wrap .i64 (0-wrap .i64 (wrap .i64 (r[j]-wrap .i64 (2*r[j-1]))+r[j-2]))))) (by omega) (by omega);refine⟨s',?_⟩;rw[←g];exact a0J (by simp only[a5O,dlt f,cT,a0B f,oB,b,e,m,o,a0C (show j<1000000 by omega)])
theorem b8L{n:Nat}(h:a3g c n)(o:n≤4096)(m:c.length<1000):∃w,a6m c=some w:=by
 unfold a6m;simp only[b8e,oB]
 by_cases hq:a2A c
 rotate_left;exact⟨0,by simp only[hq,decide_false,a18,cT]⟩;simp only[hq,decide_true,bT,cF];have a:∀(k i:Nat)(s:Int),i+k=c.length→∃s',x0r a5P (s,c,(c.length:Int),(i:Int),())=some (s',()):=by
  intro k
  induction k with
  |zero=>
   intro i s e;obtain rfl:i=c.length:=by omega
   exact⟨s,a0I (by simp only[a5P,dge,cF])⟩
  |succ k ih=>
   intro i s e;have g:i<c.length:=by omega
   have p:=(h _ (a06 g)).1;obtain⟨j,b⟩:=b7C c (c.length:Int) (i:Int) (r:=c[i]) (by unfold short;omega) (c[i].length-2) 2 s (a28 _) (by omega);obtain⟨l,d⟩:=ih (i+1) j (by omega);refine⟨l,?_⟩;rw[←d];rw[show((2:Nat):Int)=2 from rfl]at b;exact a0J (by simp only[a5P,dlt g,cT,a0B g,oB,b,a0C (show i<1000000 by omega)])
 obtain⟨s',f⟩:=a c.length 0 0 (by omega);rw[show((0:Nat):Int)=0 from rfl]at f;rw[f];exact⟨s',rfl⟩
def a4j(m:Nat):List a0V:=match m with
 | 1=>[(0,1,-256,())]
 | 2=>[(1,0,-256,())]
 | 3=>[(1,0,-256,()),(0,1,128,())]
 | 4=>[(1,0,-106,()),(0,1,181,()),(1,0,-106,())]
 |_=>[]
theorem b6A(h:m≤4):a8Q (m:Int)=some (a4j m):=by
 match m,h with
 |0,_=>rfl
 | 1,_=>rfl
 | 2,_=>rfl
 | 3,_=>rfl
 | 4,_=>rfl
theorem b8M(h:m≤4):a4u (a4j m) 2:=by
 match m,h with
 |0,_=>decide
 | 1,_=>decide
 | 2,_=>decide
 | 3,_=>decide
 | 4,_=>decide
theorem b2F{p:List (List Int)}{n:Nat}(hp:a3g p n)(a:p.length=2)(f:a2A p)(b:n≤4096):∀(k m best:Nat)(least:Int),m+k=5→best≤4→(doO (a4j best) p).isSome=true→
  ∃best',x0r a5n (p,(best:Int),least,(m:Int),())=some (((best':Nat):Int),())∧best'≤4∧(doO (a4j best') p).isSome=true
 |0,m,best,least,hm,hb,hd=>by
  obtain rfl:m=5:=by omega
  exact⟨best,a0I rfl,hb,hd⟩
 |k+1,m,best,least,hm,hb,hd=>by
  have d:decide ((m:Int)<5)=true:=by simp;omega
  have e:wrap .i64 ((m:Int)+1)=((m+1:Nat):Int):=a0C (by omega);have g:a4u (a4j m) (p.length:Int):=by rw[a];exact b8M (by omega)
  cases hdo:doO (a4j m) p with
  |none=>
   have j:((6:Int) != 0)=true:=rfl;rw[a0J (s':=(p,(best:Int),least,((m+1:Nat):Int),())) (by
    simp only[a5n,d,cT,b6A (show m≤4 by omega),oB,b9j,if_pos (show a2A p∧a4u (a4j m) (p.length:Int)from⟨f,g⟩),hdo,b6y,j,e])]
   exact b2F hp a f b k (m+1) best least (by omega) hb hd
  |some r=>
   have i:((0:Int) != 0)=false:=rfl;obtain⟨l,o⟩:=b1w (a4j m) hp rfl g.2.2.2 hdo
   obtain⟨w,c⟩:=b8L l b (by omega);have h:a5n (p,(best:Int),least,(m:Int),())=bif decide (w<least)then some (.inl (p,(m:Int),w,((m+1:Nat):Int),()))else some (.inl (p,(best:Int),least,((m+1:Nat):Int),())):=by
    simp only[a5n,d,cT,b6A (show m≤4 by omega),oB,b9j,if_pos (show a2A p∧a4u (a4j m) (p.length:Int)from⟨f,g⟩),hdo,b6y,i,cF,c,e]
   cases hlt:decide (w<least)with
   |true=>
    rw[hlt]at h;rw[a0J h];exact b2F hp a f b k (m+1) m w (by omega) (by omega) (by rw[hdo];rfl)
   |false=>
    rw[hlt]at h;rw[a0J h];exact b2F hp a f b k (m+1) best least (by omega) hb hd
theorem c5T{p:List (List Int)}{n:Nat}(hp:a3g p n)(k:p.length=2)(g:n≤4096):∃m,m≤4∧a9P p=some (a4j m)∧(doO (a4j m) p).isSome=true:=by
 have b:=b6x hp (by omega) (by omega) g;obtain⟨w,c⟩:=b8L hp g (by omega);obtain⟨m,f,h,a⟩:=b2F hp k b g 4 1 0 w rfl (by omega) rfl;refine⟨m,h,?_,a⟩;unfold a9P;simp only[c,oB]
 erw[f]
 simp only[oB,b6A h]
def a9b(i:Nat)(s:a0V):a0V:=(s.1+(i:Int),s.2.1+(i:Int),s.2.2.1,())
theorem c4H(h:i+2≤N){s:a0V}(k:a1M 2 s=true):a1M (N:Int) (a9b i s)=true:=by
 obtain⟨a1,a,b,c,d,g,f⟩:=a2z.1 k;exact a2z.2 ⟨by show 0≤s.1+(i:Int);omega,by show s.1+(i:Int)<(N:Int);omega,by show 0≤s.2.1+(i:Int);omega,by show s.2.1+(i:Int)<(N:Int);omega,by show s.1+(i:Int)≠s.2.1+(i:Int);omega,g,f⟩
def b9k(i:Nat)(c c' p:List (List Int)):Prop:=c'.length=c.length∧p.length=2∧c'.getD i []=p.getD 0 []∧c'.getD (i+1) []=p.getD 1 []∧∀j,j≠i→j≠i+1→c'.getD j []=c.getD j []
theorem c2U{c0 p p':List (List Int)}(E:i+2≤c0.length)(h:b9k i c0 c p){s:a0V}(z:a1M 2 s=true)(g:a3r 1 s p=some p'):∃c',a3r 1 (a9b i s) c=some c'∧b9k i c0 c' p':=by
 obtain⟨q,t,a,b,u⟩:=h;obtain⟨a1,d,l,m,B,C,D⟩:=a2z.1 z;unfold a3r at g⊢;simp only at g⊢;have f:∀x:Int,0≤x→x<2→c.getD (x+(i:Int)).toNat []=p.getD x.toNat []:=fun x F A=>by
  have:x=0∨x=1:=by omega
  rcases this with rfl|rfl;rw[show((0:Int)+(i:Int)).toNat=i from by omega];exact a;rw[show((1:Int)+(i:Int)).toNat=i+1 from by omega];exact b
 have n:=f s.1 a1 d;have o:=f s.2.1 l m;simp only[a9b];have y:a8m 1 s.2.2.1 (c.getD (s.1+(i:Int)).toNat []) (c.getD (s.2.1+(i:Int)).toNat [])=a8m 1 s.2.2.1 (p.getD s.1.toNat []) (p.getD s.2.1.toNat []):=by rw[n,o]
 simp only[y]
 split at g
 rename_i v;cases g;rw[if_pos v];generalize a8m 1 s.2.2.1 (p.getD s.1.toNat []) (p.getD s.2.1.toNat [])=r at *;refine⟨_,rfl,by simp[q],by simp[t],?_,?_,fun j w k=>?_⟩
 have:s.2.1=0∨s.2.1=1:=by omega
 rcases this with e|e;rw[e,show((0:Int)+(i:Int)).toNat=i from by omega,a6D _ (by omega),show(0:Int).toNat=0 from rfl,a6D _ (by omega)];rw[e,show((1:Int)+(i:Int)).toNat=i+1 from by omega,a4W _ (by omega),show(1:Int).toNat=1 from rfl,a4W _ (by omega)];exact a
 have:s.2.1=0∨s.2.1=1:=by omega
 rcases this with e|e;rw[e,show((0:Int)+(i:Int)).toNat=i from by omega,a4W _ (by omega),show(0:Int).toNat=0 from rfl,a4W _ (by omega)];exact b;rw[e,show((1:Int)+(i:Int)).toNat=i+1 from by omega,a6D _ (by omega),show(1:Int).toNat=1 from rfl,a6D _ (by omega)];rw[a4W _ (by omega)];exact u j w k;cases g
theorem c0P{i:Nat}{c0:List (List Int)}(f:i+2≤c0.length):∀(l:List a0V){c p p':List (List Int)},l.all (a1M 2)=true→b9k i c0 c p→doO l p=some p'→∃g,doO (l.map (a9b i)) c=some g∧b9k i c0 g p'
 | [],c,p,p',_,h,hd=>by cases hd;exact⟨c,rfl,h⟩
 |s::l,c,p,p',hl,h,hd=>by
  simp only[a07,bA]at hl;simp only[doO,a21]at hd;obtain⟨q,k,a⟩:=hd;obtain⟨d,b,e⟩:=c2U f h hl.1 k;obtain⟨g,j1,j2⟩:=c0P f l hl.2 e a;exact⟨g,by simp only[a50,doO,b,oB];exact j1,j2⟩
theorem c1I:∀(l m:List a0V)(c:List (List Int)),doO (l++m) c=(doO l c).bind (doO m)
 | [],m,c=>rfl
 |s::l,m,c=>by
  simp only[a66,doO];cases a3r 1 s c with
  |none=>rfl
  |some d=>exact c1I l m d
theorem c3O{α β:Type}(f:α→β):∀l:List α,l.flatMap (fun x=>[f x])=l.map f
 | []=>rfl
 |x::l=>by simp[c3O f l]
theorem c1r(b:a1B)(first:Nat)(t:first≤100){y:List a0V}(e:y.all (a1M 2)=true)(s:y.length≤10)(out:List a0V)(u:out.length≤1000):
  x0r a5o ((first:Int),(y.length:Int),(0:Int),out,y,b,())=some ((first:Int),out++y.map (a9b first),b,()):=by
 have:=a1Q (f:=a5o) (β:=Int×(List a0V×(a1B×Unit))) y (fun i (a:List a0V)=>((first:Int),(y.length:Int),(i:Int),a,y,b,())) (fun a x=>.inl (a++[a9b first x])) (fun i a=>a.length=out.length+i) (fun a=>((first:Int),a,b,()))
  (fun i g a k=>⟨fun j h=>by
   simp only[Sum.inl.injEq]at h;subst h;obtain⟨a1,l,m,o,p,q,r⟩:=a2z.1 (lA.1 e _ (a06 g));have c:decide ((0:Int)≤(i:Int))=true:=by simp
   have d:b20 y (a23 (i:Int)) ((0:Int),(0:Int),(0:Int),())=y[i]:=by rw[tN,lD,lG g];rfl
   refine⟨?_,by simp[k];omega⟩;simp only[a5o,dlt g,cT,c,a03,a1c (show a.length+1<2147483648 by omega),d,a0C (show i<1000000 by omega),a08];rw[a0D (n:=y[i].1+(first:Int)) (by omega),a0D (n:=y[i].2.1+(first:Int)) (by omega)]
   rfl,fun b hb=>by cases hb⟩)
  (fun a k=>by simp only[a5o,dge,cF]) (a:=out) (by simp)
 rw[b2d (fun x:a0V=>[a9b first x])]at this
 simp only[nZ]at this;rw[this];simp only[a7G,c3O]
theorem c8f(h:i+2≤c.length):b03 i (a89 (i+2) c)=[c.getD i [],c.getD (i+1) []]:=by
 apply a78;intro j;rw[a94]
 match j with
 |0=>rw[a54,if_pos (by omega),a84,lD,lG (by omega)];rfl
 | 1=>rw[a54,if_pos (by omega),lD,lD,lG (by omega)];rfl
 |j+2=>rw[a54,if_neg (by omega)];rfl
theorem b7D{b:a1B}{n:Nat}(a:a3g b.2.1 n)(q:n≤4096)(C:b.2.1.length≤8):∀(k j:Nat)(out:List a0V)(c:List (List Int)),j+k=5→out.length≤3*j→out.all (a1M (b.2.1.length:Int))=true→doO out b.2.1=some c→(∀i,2*j≤i→c.getD i []=b.2.1.getD i [])→3*j≤12∨b.2.1.length≤2*j→
  ∃l d,x0r a7y (((2*j:Nat):Int),out,b,())=some (l,())∧l.length≤16∧l.all (a1M (b.2.1.length:Int))=true∧doO l b.2.1=some d
 |k,j,out,c,hk,hol,hob,hdo,hag,h12=>by
  have g:wrap .i64 (((2*j:Nat):Int)+1)=((2*j+1:Nat):Int):=by rw[a0D (by omega)];omega
  by_cases hlt:2*j+1<b.2.1.length
  ·cases k with
   |zero=>omega
   |succ k=>
    have f:wrap .i64 (((2*j:Nat):Int)+2)=((2*j+2:Nat):Int):=by rw[a0D (by omega)];omega
    have hp:a3g [b.2.1.getD (2*j) [],b.2.1.getD (2*j+1) []] n:=fun r u=>by
     simp only[mC,a67,or_false]at u;rcases u with rfl|rfl;exact a5E a (by omega);exact a5E a (by omega)
    obtain⟨m,v,H,I⟩:=c5T hp rfl q;obtain⟨p',p⟩:=Option.isSome_iff_exists.1 I;have h:=(b8M v).2.2.2;have E:(a4j m).length≤3:=by
     match m,v with
     |0,_=>decide
     | 1,_=>decide
     | 2,_=>decide
     | 3,_=>decide
     | 4,_=>decide
    have D:c.length=b.2.1.length:=(b1w out a rfl hob hdo).2;obtain⟨d,A,K,L,M,N,B⟩:=c0P (i:=2*j) (c0:=c) (by omega) (a4j m) h ⟨rfl,rfl,hag _ (a28 _),hag _ (by omega),fun _ _ _=>rfl⟩ p;have o:=c1r b (2*j) (by omega) h (by omega) out (by omega);have e:decide (((2*j+1:Nat):Int)<((b.2.1.length:Nat):Int))=true:=by simp only[dT];omega
    have w:decide ((0:Int)≤((2*j+2:Nat):Int))=true:=by simp only[dT];omega
    have x:decide (((2*j+2:Nat):Int)≤((b.2.1.length:Nat):Int))=true:=by simp only[dT];omega
    have y:decide ((0:Int)≤((2*j:Nat):Int))=true:=by simp only[dT];omega
    have z:decide (((2*j:Nat):Int)≤((2*j+2:Nat):Int))=true:=by simp only[dT];omega
    rw[a0J (s':=(((2*(j+1):Nat):Int),out++(a4j m).map (a9b (2*j)),b,())) (by
     simp only[a7y,g,e,cT,f,w,x,a03,tN,y,z];rw[c8f (by omega),H];simp only[oB];rw[o];simp only[oB,f];rfl)]
    refine b7D a q C k (j+1) (out++(a4j m).map (a9b (2*j))) d (by omega) (by simp;omega) ?_ (by rw[c1I,hdo];exact A) (fun i O=>by rw[B i (by omega) (by omega)];exact hag i (by omega)) (by omega);rw[List.all_append,hob,a37,lA];intro s F;obtain⟨t,G,rfl⟩:=a99.1 F;exact c4H (by omega) (lA.1 h t G)
  refine⟨out,c,a0I ?_,by omega,hob,hdo⟩;have e:decide (((2*j+1:Nat):Int)<((b.2.1.length:Nat):Int))=false:=by simp only[decide_eq_false_iff_not];omega
  simp only[a7y,g,e,cF]
termination_by k=>k
theorem c0Q{b:a1B}(hb:a2O b):∃l h,a6B b=some l∧a4u l (b.2.1.length:Int)∧doO l b.2.1=some h:=by
 obtain⟨d,-⟩:=b4o hb;have c:=hb.2.2.2.1;obtain⟨l,h,g,f,k,a⟩:=b7D d hb.2.2.2.2.2.1 c 5 0 [] b.2.1 rfl (by simp) rfl rfl (fun _ _=>rfl) (by omega);refine⟨l,h,?_,⟨by have:=hb.2.2.1;omega,by omega,f,k⟩,a⟩;unfold a6B;simp only[b2f,decide_eq_true hb,oB,bT,cF];rw[show((2*0:Nat):Int)=0 from rfl]at g;rw[g];rfl
end Go.Ab
