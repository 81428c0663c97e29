/- Part of the proof: QXZD. Conditions: as each statement tells. -/
import Derived.Test.YtlddggjghmobhaaGreatMI
noncomputable section
set_option linter.unusedSimpArgs false
set_option linter.unusedVariables false
open Bool renaming and_true→a07,not_false→a13
open Int renaming toNat→a29
open List renaming replicate→a00,length_take→a01,length_replicate→a02,length_filter_le→a03,take_succ_eq_append_getElem→a04,append_nil→a05,take_length→a06,length_drop→a08,nil_append→a09,getElem_mem→a16,append_eq→a19,mem_of_mem_take→a20,mem_of_mem_drop→a23,pairwise_append→a24,take→a26,foldl_append→a27,drop→a30
open Nat renaming min_eq_right→a17,min_eq_left→a28
namespace Go.Ab
variable {P l:List Pge}{X Y:List Int}{c:Int}{g z:Pge}
open IntKind(wrap)
theorem b9u{p:Pge}(h:GdOk p):a3M p=some true:=by
 obtain⟨e,g,f,a⟩:=h.k;unfold a3M;rw[h.gd,e,decide_eq_true (show((p.2.2.2.2.1.length:Nat):Int)≥4 by omega)];simp only[cT,oB];rw[decide_eq_true (show((gdK p:Nat):Int)≥1 by omega),decide_eq_true (show((gdK p:Nat):Int)≤8 by omega)];rfl
theorem b6y{A B:List Pge}{s:Nat}(j:∀(i:Nat) p,A[i]?=some p→p.1=((s+i:Nat):Int))(l:∀p∈B,((s+A.length:Nat):Int)<p.1)(m:s+(A++B).length<1000000):
  y0h a4c ((s:Int),(0:Int),A++B,z,g,())=some (((s+A.length:Nat):Int),A++B,z,g,()):=by
 have:=a0D (f:=a4c) (fun i=>(((s+min i A.length:Nat):Int),(i:Int),A++B,z,g,())) (A++B).length (b:=(((s+A.length:Nat):Int),A++B,z,g,())) (fun i e=>?_) ?_
 rw[Nat.zero_min]at this;exact this;have a:List.getD (A++B) (a29 (i:Int)) ((0:Int),false,false,false,([]:List Int),())=(A++B)[i]:=by rw[tN,lD,lG e];rfl
 have n:wrap .i64 ((i:Int)+1)=((i+1:Nat):Int):=by rw[w64 (by omega)];omega
 unfold a4c;simp only;rw[decide_eq_true (show(i:Int)<(((A++B).length:Nat):Int)by omega),decide_eq_true (show(0:Int)≤(i:Int)by omega),a,n];simp only[cT,a07];rw[lN]at e m
 by_cases hiA:i<A.length
 have h:(A++B)[i]=A[i]:=List.getElem_append_left hiA;have c:=j i A[i] (lG hiA);rw[h,c,a28 (by omega),a28 (by omega),beq_self_eq_true,w64 (by omega)];rfl;have h:(A++B)[i]=B[i-A.length]:=List.getElem_append_right (by omega);have c:=l B[i-A.length] (a16 _);rw[h,a17 (by omega),a17 (by omega),show((B[i-A.length]).1==((s+A.length:Nat):Int))=false by rw[beq_eq_false_iff_ne];omega];rfl;unfold a4c;simp only;rw[decide_eq_false (by omega),a17 (by rw[lN];omega)];rfl
theorem b6z{k:Int}(h:g.2.2.2.2.1=k::X)(e:Y.length≤X.length)(a:X.length<1000):
  y0h a4d (c,Y,z,g,())=some (c,Y++a00 (X.length-Y.length) (0:Int),z,g,()):=by
 have w:wrap .i64 (((g.2.2.2.2.1.length:Nat):Int)-1)=((X.length:Nat):Int):=by rw[h,lC,w64 (by omega)];omega
 have:=a0D (f:=a4d) (fun i=>(c,Y++a00 i (0:Int),z,g,())) (X.length-Y.length) (b:=(c,Y++a00 (X.length-Y.length) (0:Int),z,g,())) (fun i j=>?_) ?_
 rw[List.replicate_zero,a05]at this;exact this;unfold a4d;simp only[w];rw[decide_eq_true (by rw[lN,a02];omega),a0A (by rw[lN,a02];omega),List.replicate_succ',←aA];rfl;unfold a4d;simp only[w];rw[decide_eq_false (by rw[lN,a02];omega)];rfl
def zx(Y X:List Int)(i:Nat):List Int:=(List.range X.length).map fun j=>if j<i then bx (Y.getD j 0) (X.getD j 0)else Y.getD j 0
theorem a6e(Y X:List Int)(i:Nat):(zx Y X i).length=X.length:=by rw[zx,List.length_map,List.length_range]
theorem a9G(h:Y.length=X.length)(i j:Nat):(zx Y X i).getD j 0=if j<i∧j<X.length then bx (Y.getD j 0) (X.getD j 0)else Y.getD j 0:=by
 by_cases hj:j<X.length
 rw[lD,zx,List.getElem?_map,List.getElem?_range hj];show(if j<i then _ else _)=_
 by_cases hi:j<i
 rw[if_pos hi,if_pos ⟨hi,hj⟩];rw[if_neg hi,if_neg (by omega)];rw[a2a (by rw[a6e];omega),if_neg (by omega),a2a (by omega)]
theorem b6A{k:Int}(e:g.2.2.2.2.1=k::X)(h:Y.length=X.length)(q:X.length<1000):
  y0h a4e (c,(0:Int),Y,z,g,())=some (c,zx Y X X.length,z,()):=by
 have w:wrap .i64 (((g.2.2.2.2.1.length:Nat):Int)-1)=((X.length:Nat):Int):=by rw[e,lC,w64 (by omega)];omega
 have:=a0D (f:=a4e) (fun i=>(c,(i:Int),zx Y X i,z,g,())) X.length (b:=(c,zx Y X X.length,z,())) (fun i a=>?_) ?_
 have l:zx Y X 0=Y:=a3a (by rw[a6e,h]) fun j _=>by rw[a9G h,if_neg (by omega)]
 rw[l]at this;exact this;have p:wrap .i64 ((i:Int)+1)=((i+1:Nat):Int):=by rw[w64 (by omega)];omega
 have o:n0s (k::X) ((i+1:Nat):Int)=some X[i]:=by
  rw[a0F (by rw[lC];omega)];rfl
 have n:X.getD i 0=X[i]:=by rw[lD,lG a];rfl
 unfold a4e;simp only[w];rw[decide_eq_true (show(i:Int)<((X.length:Nat):Int)by omega),decide_eq_true (show(0:Int)≤(i:Int)by omega),decide_eq_true (show(i:Int)<(((zx Y X i).length:Nat):Int)by rw[a6e];omega),p,e,o,tN];simp only[cT,a07,oB];have m:(zx Y X i).set i (bits .u8 .xor ((zx Y X i).getD i 0) X[i])=zx Y X (i+1):=a3a (by rw[List.length_set,a6e,a6e]) fun j _=>by
  rw[a7K,a6e,a9G h,a9G h,a9G h]
  by_cases hij:i=j
  subst hij;rw[if_pos ⟨rfl,a⟩,if_neg (by omega),if_pos ⟨by omega,a⟩,n];rfl;rw[if_neg (by omega)]
  by_cases hj:j<i∧j<X.length
  rw[if_pos hj,if_pos (by omega)];rw[if_neg hj,if_neg (by omega)]
 rw[m];unfold a4e;simp only[w];rw[decide_eq_false (by omega)];rfl
theorem b6B{n:Int}{a:Nat}(g:a≤Y.length)(h:∀i,a≤i→Y.getD i 0=0)(l:Y.length<1000):
  y0h a4f (c,Y,n,(a:Int),z,())=some (.inl (c,Y,n,z,())):=by
 have:=a0D (f:=a4f) (fun i=>(c,Y,n,((a+i:Nat):Int),z,())) (Y.length-a) (b:=.inl (c,Y,n,z,())) (fun i j=>?_) ?_
 exact this;have e:=h (a+i) (by omega);rw[lD,lG (by omega)]at e;have e:Y[a+i]=0:=e;unfold a4f;simp only;rw[decide_eq_true (show((a+i:Nat):Int)<((Y.length:Nat):Int)by omega),a0F (show a+i<Y.length by omega),e];simp only[cT,oB,bne_self_eq_false,cF];rw[w64 (by omega)];rfl;unfold a4f;simp only;rw[decide_eq_false (by omega)];rfl
theorem b4l{A B:List Pge}{p:Pge}(hp:PgByt p)(l:∀q∈A,PgByt q)(m:∀q∈B,PgByt q):
  ∃z,zx (xr (A++B)++a00 ((xr (A++p::B)).length-(xr (A++B)).length) 0) (xr (A++p::B)) (xr (A++p::B)).length=pgD p++a00 z 0∧2+p.2.2.2.2.1.length+z=(xr (A++p::B)).length∧(xr (A++B)).length≤(xr (A++p::B)).length∧(xr (A++p::B)).length≤254∧2≤(xr (A++p::B)).length:=by
 have x:∀q∈A++B,PgByt q:=fun q g=>(mA.1 g).elim (l q) (m q);have f:∀q∈A++p::B,PgByt q:=fun q g=>by
  rcases mA.1 g with h|h;exact l q h;rcases mC.1 h with h|h;rw[h];exact hp;exact m q h
 obtain⟨z,v,e⟩:=b3t hp l m;obtain⟨j,t⟩:=a5r (a:=[0,0]) (by decide) (by decide) (A++p::B) f;have j:2≤(xr (A++p::B)).length:=j;have t:(xr (A++p::B)).length≤254:=t;have r:∀q:Pge,PgByt q→(pgD q).length≤254:=fun q g=>by
  have:=g.len
  rw[a3O];omega
 obtain⟨l1,l2,y⟩:=a6u (A++p::B) [0,0] 254 (by decide) fun q g=>r q (f q g);obtain⟨C,s,D⟩:=a6u (A++B) [0,0] (xr (A++p::B)).length (by rw[lC];exact j) fun q g=>y q (by
  rcases mA.1 g with h|h;simp[h];simp[h])
 have s:(xr (A++B)).length≤(xr (A++p::B)).length:=s;refine⟨z,?_,e,s,t,j⟩;rw[←v];have n:(xr (A++B)++a00 ((xr (A++p::B)).length-(xr (A++B)).length) (0:Int)).length=(xr (A++p::B)).length:=by rw[lN,a02];omega
 have c:(xrF (xr (A++p::B)) (A++B)).length=(xr (A++p::B)).length:=by rw[v,lN,a02,a3O];exact e
 refine a3a (by rw[a6e,c]) fun i o=>?_
 rw[a6e]at o;rw[a9G n,if_pos ⟨o,o⟩,a4D,a8k i _ _ (a8j _),b2g];have w:(xr (A++B)).getD i 0=(((sx (A++B) i).toNat:Nat):Int):=by
  unfold xr;rw[a8k i _ _ (by intro b u;simp only[mC,List.not_mem_nil,or_false]at u;rcases u with rfl|rfl<;>decide)]
  have:BitVec.ofInt 8 (([0,0]:List Int).getD i 0)=0#8:=by
   match i with
   |0=>rfl
   | 1=>rfl
   |i+2=>rfl
  rw[this,BitVec.zero_xor]
 rw[w,BitVec.ofInt_natCast,BitVec.ofNat_toNat,BitVec.setWidth_eq,BitVec.xor_comm]
theorem b7q{R:List Pge}(m:a1v 0 P)(hb:∀p∈P,PgByt p)(hl:P.length≤50000)(E:Sub P R)(h2:R.length<500000)(h7:(a0H R).length<500000){s:Nat}(h:GOf P g s):
  ∃y b,a6n (a0H R,g)=some (y,b)∧(b=false→a5k P R s=R)∧(b=true→y∈P∧y∉R∧a5k P R s=R++[y]):=by
 obtain⟨f1,f2,f3,D,f5⟩:=h.fit m hb hl;have h8:((P.drop s).take 8).length≤8:=by rw[a01];omega
 have hs:=h.1;have h1:1≤((P.drop s).take 8).length:=by rw[a01,a08];omega
 have g0:n0s g.2.2.2.2.1 0=some (((((P.drop s).take 8).length:Nat):Int)):=by rw[D];rfl
 have wk:wrap .i64 ((((P.drop s).take 8).length:Nat):Int)=((((P.drop s).take 8).length:Nat):Int):=w64 (by omega);have h0:wrap .i64 (((((P.drop s).take 8).length:Nat):Int)-1)=((((P.drop s).take 8).length:Nat):Int)-1:=w64 (by omega);have F:=b3c m E (s:=s) (k:=((P.drop s).take 8).length) (by omega) (by omega) (by omega) (by omega);have T:=a9F (kv R) (s:Int) ((P.drop s).take 8).length;unfold a6n;simp only[g0,oB,wk,h0,f2,F];rcases a7L m E s with⟨Q,hn⟩|⟨j,p,hg,hj,h6,L,hp,N,M,Q⟩;rw[show((((a1K (kv R) (s:Int) ((P.drop s).take 8).length).length:Nat):Int) != ((((P.drop s).take 8).length:Nat):Int)-1)=true by rw[bne_iff_ne];omega];exact⟨_,false,rfl,fun _=>Q,fun h=>by cases h⟩;rw[hg,List.length_singleton]at T;rw[show((((a1K (kv R) (s:Int) ((P.drop s).take 8).length).length:Nat):Int) != ((((P.drop s).take 8).length:Nat):Int)-1)=false by rw[bne_eq_false_iff_eq];omega];have U:=b2o m E hg hj;have S:=b2p L;have l:=(m.drop s).take 8;rw[Nat.zero_add]at l;rw[U];generalize (P.drop s).take 8=G at *;have o:∀q∈G.take j,PgByt q:=fun q f=>f5 q (a20 f);have r:∀q∈G.drop (j+1),PgByt q:=fun q f=>f5 q (a23 f);obtain⟨z,hz,W,x,X,Z⟩:=b4l (hb p hp) o r;rw[←S]at hz W x X Z;have w:(G.take j).length=j:=by rw[a01];omega
 have u:=b6y (A:=G.take j) (B:=G.drop (j+1)) (s:=s) (z:=zRd) (g:=g) (fun i q f=>by
  rw[List.getElem?_take]at f
  by_cases H:i<j
  rw[if_pos H]at f;exact(l i q f).1;rw[if_neg H]at f;cases f) (fun q f=>by
  have:=(l.drop (j+1)).num q f
  rw[w];omega) (by rw[lN,a01,a08];omega)
 rw[w]at u;have V:a4m (G.take j++G.drop (j+1))=some (xr (G.take j++G.drop (j+1))):=b3x (fun q f=>(mA.1 f).elim (o q) (r q)) (by rw[lN,a01,a08];omega);generalize hO:G.take j++G.drop (j+1)=O at *;have t:(xr G).length<1000:=by omega
 have I:=b6z (c:=((s+j:Nat):Int)) (z:=zRd) (g:=g) D (Y:=xr O) x t;have v:=b6A (c:=((s+j:Nat):Int)) (z:=zRd) (g:=g) D (Y:=xr O++a00 ((xr G).length-(xr O).length) (0:Int)) (by rw[lN,a02];omega) t;rw[hz]at v;have e:=m.plain p hp;have h4:=e.b0;have h5:=e.b2;have h3:(pgD p++a00 z (0:Int)).length=2+p.2.2.2.2.1.length+z:=by rw[lN,a02,a3O]
 have K:=b6B (c:=((s+j:Nat):Int)) (n:=((p.2.2.2.2.1.length:Nat):Int)) (z:=zRd) (a:=p.2.2.2.2.1.length+2) (Y:=pgD p++a00 z (0:Int)) (by omega) (fun i H=>by
  rw[a4D,a2a (by rw[a3O];omega)]) (by omega)
 obtain⟨m0,m3⟩:=a6J p;obtain⟨_,_,b1,b2⟩:=b2k p;have y0:(pgD p++a00 z (0:Int)).getD 0 0=mkI p:=by rw[a4D,b1i]
 have y1:(pgD p++a00 z (0:Int)).getD 1 0=((p.2.2.2.2.1.length:Nat):Int):=by rw[a4D,b1j]
 have gy:n0s (pgD p++a00 z (0:Int)) 0=some (mkI p):=rfl;have eB:a30 2 (a26 (p.2.2.2.2.1.length+2) (pgD p++a00 z (0:Int)))=p.2.2.2.2.1:=by
  rw[List.take_left' (by rw[a3O];omega)];rfl
 generalize hY:pgD p++a00 z (0:Int)=Y at *;have wn:wrap .i64 ((p.2.2.2.2.1.length:Nat):Int)=((p.2.2.2.2.1.length:Nat):Int):=w64 (by omega);have C:wrap .i64 (((p.2.2.2.2.1.length:Nat):Int)+2)=((p.2.2.2.2.1.length+2:Nat):Int):=by rw[w64 (by omega)];omega
 have wY:wrap .i64 (((Y.length:Nat):Int)-2)=((Y.length:Nat):Int)-2:=w64 (by omega);refine⟨p,true,?_,fun h=>(by cases h),fun _=>⟨hp,M,Q⟩⟩;simp only[cF];refine a0E u ?_
 simp only[V,oB];refine a0E I ?_
 simp only;refine a0E v ?_
 simp only;rw[decide_eq_true (show(1:Int)<((Y.length:Nat):Int)by omega),decide_eq_true (show(0:Int)<((Y.length:Nat):Int)by omega),y0,y1,wn,wY,decide_eq_false (show ¬ mkI p > 3 by omega),decide_eq_false (show ¬ ((p.2.2.2.2.1.length:Nat):Int)<1 by omega),decide_eq_false (show ¬ ((p.2.2.2.2.1.length:Nat):Int) > 252 by omega),decide_eq_false (show ¬ ((p.2.2.2.2.1.length:Nat):Int) > ((Y.length:Nat):Int)-2 by omega),decide_eq_false (show ¬ ((s+j:Nat):Int) > 2147483647 by omega)];simp only[cT,cF,oB,C];refine a0E K ?_
 simp only[gy,oB,C,tN];rw[decide_eq_true (show(0:Int)≤((p.2.2.2.2.1.length+2:Nat):Int)by omega),decide_eq_true (show((p.2.2.2.2.1.length+2:Nat):Int)≤((Y.length:Nat):Int)by omega),decide_eq_true (show(2:Int)≤((p.2.2.2.2.1.length+2:Nat):Int)by omega),eB,a0A (by omega),b1,b2,←N];have ep:(p.1,p.2.1,p.2.2.1,false,p.2.2.2.2.1,())=p:=by rw[←e.ng]
 simp only[cT,a07,a19,a09,ep]
def a5W(t:Int)(l:List Pge):Int:=(a1i l).foldl (fun t p=>y0d t (p.1+1)) t
def topG(t:Int)(l:List Pge):Int:=(a2g l).foldl (fun t g=>y0d t (g.1+(gdK g:Int))) t
theorem a5J{f:Pge→Int}{c:Int}:∀(l:List Pge)(t:Int),l.foldl (fun t p=>y0d t (f p)) t≤c↔t≤c∧∀p∈l,f p≤c
 | [],t=>by simp
 |p::l,t=>by
  rw[List.foldl_cons,a5J l,a8s];constructor
  rintro⟨a,g⟩
  refine⟨by omega,fun q h=>?_⟩;rcases mC.1 h with rfl|h;omega;exact g q h
  rintro⟨a,g⟩
  have:=g p (by simp)
  exact⟨by omega,fun q h=>g q (by simp[h])⟩
theorem b5c(l:List Pge):topG (a5W 0 l) l≤c↔a5m (-1) l≤c-1:=by
 unfold topG a5W a5m;rw[a5J,a5J,a5J];constructor
 ·rintro⟨⟨g,h⟩,h2⟩
  refine⟨by omega,fun p hp=>?_⟩;unfold a4T;cases hg:isG p with
  |true=>
   have:=h2 p (a7M.2 ⟨hp,hg⟩)
   rw[if_pos rfl];omega
  |false=>
   have:=h p (b2r.2 ⟨hp,hg⟩)
   rw[if_neg (by decide)];omega
 rintro⟨g,h⟩
 refine⟨⟨by omega,fun p hp=>?_⟩,fun p hp=>?_⟩;obtain⟨a,b⟩:=b2r.1 hp
 have:=h p a
 unfold a4T at this;rw[b,if_neg (by decide)]at this;omega;obtain⟨a,b⟩:=a7M.1 hp
 have:=h p a
 unfold a4T at this;rw[b,if_pos rfl]at this;omega
theorem b7r(l:List Pge):topG (a5W 0 l) l=a5m (-1) l+1:=by
 have h:=(b5c (c:=a5m (-1) l+1) l).2 (by omega);have g:=(b5c (c:=topG (a5W 0 l) l) l).1 (Int.le_refl _);omega
theorem b5M(v:a1v 0 P)(x:P.length≤50000)(h:Some P l):
  y0h a4g (l,([]:List Pge),(0:Int),(0:Int),())=some (l,a0H (a1i l),a5W 0 l,()):=by
 obtain⟨t,u,B,C⟩:=h.fit v x
 have:=a0D (f:=a4g) (fun i=>(l,a0H (a1i (l.take i)),a5W 0 (l.take i),(i:Int),())) l.length (b:=(l,a0H (a1i l),a5W 0 l,())) (fun i c=>?_) ?_
 exact this;have r:wrap .i64 ((i:Int)+1)=((i+1:Nat):Int):=by rw[w64 (by omega)];omega
 have y:l[i]∈l:=a16 c;have g:(a1i (l.take (i+1))).Sublist (a1i l):=(List.take_sublist _ _).filter _;rw[a04 c]at g⊢;unfold a4g;simp only;rw[decide_eq_true (show(i:Int)<((l.length:Nat):Int)by omega),a0F c];rw[a5T]at g⊢;rcases t.1 l[i] y with hp|hp;have n:isG l[i]=false:=hp.ng;have a:a1i [l[i]]=[l[i]]:=by simp[a1i,n]
 have e:a5W 0 (l.take i++[l[i]])=y0d (a5W 0 (l.take i)) ((l[i]).1+1):=by unfold a5W;rw[a5T,a,a27];rfl
 rw[a]at g⊢;rw[e];have o:=u.dif.sublist g;have j:(a1i (l.take i)).length≤(l.take i).length:=a03 ..;rw[a01]at j;have D:=hp.n0;have n1:=hp.n1;have m:=b2u (l:=a0H (a1i (l.take i))) (p:=l[i]) (fun q z=>(a24.1 o).2.2 q ((a3w q _).1 z) _ (by simp)) (by rw[a6N];omega);have A:wrap .i64 ((l[i]).1+1)=(l[i]).1+1:=w64 (by omega);have w:=hp.b2;simp only[cT,oB,a5U hp.toPgOk,beq_self_eq_true,hp.ng,a13,a19,a09,a0F c];have s:(((l[i]).1,(l[i]).2.1,(l[i]).2.2.1,false,(l[i]).2.2.2.2.1,(l[i]).2.2.2.2.2):Pge)=l[i]:=by rw[←hp.ng]
 rw[a0A (by omega),s,m];simp only[cT,oB,A,r];rw[b0P o];have n:isG l[i]=true:=hp.gd;have a:a1i [l[i]]=[]:=by simp[a1i,n]
 have e:a5W 0 (l.take i++[l[i]])=a5W 0 (l.take i):=by unfold a5W;rw[a5T,a,a05]
 rw[a,e,a05];simp only[cT,oB,a5U hp.toPgOk,beq_self_eq_true,hp.gd,bT,cF,r];unfold a4g;simp only;rw[decide_eq_false (by omega),a06];rfl
theorem b5N(g:a1v 0 P)(B:∀p∈P,PgByt p)(w:P.length≤50000)(h:Some P l){t:Int}:
  y0h a4h (l,a0H (a1i l),t,(0:Int),())=some (a0H (a5V P l),topG t l,()):=by
 obtain⟨G,H,N,O⟩:=h.fit g w;have K:(a1i l).length≤l.length:=a03 ..
 have:=a0D (f:=a4h) (fun i=>(l,a0H (a2C P (a1i l) (a2g (l.take i))),topG t (l.take i),(i:Int),())) l.length (b:=(a0H (a5V P l),topG t l,())) (fun i v=>?_) ?_
 exact this
 ·have z:wrap .i64 ((i:Int)+1)=((i+1:Nat):Int):=by rw[w64 (by omega)];omega
  have D:l[i]∈l:=a16 v;have r:(a2g (l.take i)).length≤(l.take i).length:=a03 ..;rw[a01]at r;obtain⟨E,V,W⟩:=a6d g (a2g (l.take i)) (a1i l) H;rw[a04 v,a7I];unfold a4h;simp only;rw[decide_eq_true (show(i:Int)<((l.length:Nat):Int)by omega),a0F v];rcases G.1 l[i] D with hp|hp;have c:isG l[i]=false:=hp.ng;have a:a2g [l[i]]=[]:=by simp[a2g,c]
  have j:topG t (l.take i++[l[i]])=topG t (l.take i):=by unfold topG;rw[a7I,a,a05]
  have u:a3M l[i]=some false:=by unfold a3M;rw[hp.ng];rfl
  rw[a,j,a05];simp only[cT,oB,a5U hp.toPgOk,bne_self_eq_false,cF,u,a13,z]
  ·have c:isG l[i]=true:=hp.gd;have a:a2g [l[i]]=[l[i]]:=by simp[a2g,c]
   have j:topG t (l.take i++[l[i]])=y0d (topG t (l.take i)) ((l[i]).1+(gdK l[i]:Int)):=by unfold topG;rw[a7I,a,a27];rfl
   obtain⟨s,hs⟩:=h.gs g l[i] (a7M.2 ⟨D,c⟩);obtain⟨_,F,_⟩:=hs.fit g B w;have e:(l[i]).1.toNat=s:=by rw[F,tN]
   obtain⟨y,b,m,n,o⟩:=b7q g B w E (by omega) (by rw[a6N];omega) hs;obtain⟨I,Q,R,S⟩:=hp.k;have X:=hp.n0;have n1:=hp.n1;have M:wrap .i64 ((gdK l[i]:Nat):Int)=((gdK l[i]:Nat):Int):=w64 (by omega);have w2:wrap .i64 ((l[i]).1+((gdK l[i]:Nat):Int))=(l[i]).1+((gdK l[i]:Nat):Int):=w64 (by omega);rw[a,j,a9C,e];simp only[cT,oB,a5U hp.toPgOk,bne_self_eq_false,cF,b9u hp,bT,I,m,M,w2];cases b with
   |false=>
    rw[n rfl];simp only[cF,z]
   |true=>
    obtain⟨T,U,A⟩:=o rfl;have C:(a2C P (a1i l) (a2g (l.take i))++[y]).Pairwise fun p q=>p.1≠q.1:=by
     rw[←A];exact(b0N g E s).1.dif
    have x:=b2u (l:=a0H (a2C P (a1i l) (a2g (l.take i)))) (p:=y) (fun q L=>(a24.1 C).2.2 q ((a3w q _).1 L) _ (by simp)) (by rw[a6N];omega);rw[A,x,b0P C];simp only[cT,oB,z]
 unfold a4h;simp only;rw[decide_eq_false (by omega),a06];rfl
theorem b4m(g:a1v 0 P)(i:∀p∈P,PgByt p)(b:P.length≤50000)(h:Some P l):∃S hs,a4k l=some (S,hs)∧a6o l=some (S,hs)∧S.Sublist P∧hs.length<1000000:=by
 obtain⟨c,t⟩:=b5K g i b h;obtain⟨u,n,v,w⟩:=h.fit g b;have r:(a1i l).length≤l.length:=a03 ..;have o:(a2g l).length≤l.length:=a03 ..;obtain⟨x,m,y⟩:=a6d g (a2g l) (a1i l) n;have m:(a5V P l).length≤_:=m;have a:∀p∈a0H (a5V P l),0≤p.1∧p.1≤1000000:=fun p hp=>by
  have:=g.num p (c.sub p ((a3w p _).1 hp))
  omega
 have j:=a6N (a5V P l);have s:-1≤a5m (-1) l:=((a5J (f:=a4T) l (-1)).1 (Int.le_refl _)).1;refine⟨a0H (a5V P l),a7p (a0H (a5V P l)) (a5m (-1) l),?_,?_,?_,?_⟩;rw[t,b6x a (by omega)];rfl;unfold a6o;refine a0E (b5M g b h) ?_
 simp only;refine a0E (b5N g i b h) ?_
 simp only[b7r];rw[b5a ⟨s,by omega⟩ a (by omega)];rfl;have e:a0H (a5V P l)=P.filter fun q=>decide (q∈a5V P l):=a6U (a7o c.dif) ((b3z g).filter _) fun q=>by
  rw[a3w,List.mem_filter,decide_eq_true_iff];exact⟨fun h=>⟨c.sub q h,h⟩,fun h=>h.2⟩
 rw[e];exact List.filter_sublist
 have:=a4V (a0H (a5V P l)) 0
 unfold a7p;rw[lN]
 split<;>simp<;>omega
theorem Byt.app{a b:List Int}(h:Byt a)(g:Byt b):Byt (a++b):=fun x f=>(mA.1 f).elim (h x) (g x)
theorem b3B{x:Int}(h:0≤x∧x<256):Byt [x]:=fun b g=>by rw[List.mem_singleton]at g;rw[g];exact h
theorem b6C{p:Pk}{s:Int}(h:PkOk s p):Byt (a1l p):=by
 have g:0≤a1Z p∧a1Z p<256:=by unfold a1Z;cases p.2.2.2.1<;>cases p.2.2.2.2.1<;>decide
 unfold a1l;refine Byt.app (Byt.app (b3B (wu8 _)) (b3B g)) (Byt.app (a6R _ _) (Byt.app (a6R _ _) h.byt))
theorem b3C:∀(n:Nat)(f:Bool)(s:Nat)(r:List Int),r.length≤n→Byt r→∀p∈a1P f s r,PgByt p
 |n,f,s,[],_,_=>by rw[a2k];intro p hp;cases hp
 |0,f,s,a::r,h,_=>by simp at h
 |n+1,f,s,a::r0,h,hb=>by
  have c:(a::r0)≠[]:=by simp
  generalize a::r0=r at *
  have:=List.length_pos_iff.2 c
  rw[a2Q c];intro p hp;rcases mC.1 hp with rfl|hp;exact⟨by show(r.take 252).length≤252;rw[a01];omega,fun b g=>hb b (a20 g)⟩;exact b3C n false (s+1) (r.drop 252) (by rw[a08];omega) (fun b g=>hb b (a23 g)) p hp
theorem b0Q:∀(bs:List (List Int)) (s:Nat),(∀b∈bs,Byt b)→∀p∈a1z s bs,PgByt p
 | [],s,_=>by intro p hp;cases hp
 |b::bs,s,h=>by
  rw[a1z];intro p hp;rcases mA.1 hp with hp|hp;exact b3C _ true s b (Nat.le_refl _) (h b (by simp)) p hp;exact b0Q bs _ (fun c g=>h c (by simp[g])) p hp
theorem b0R{Z:List Pk}(h:Woven Z):∀p∈a0J Z,PgByt p:=b0Q _ _ fun b g=>by
 obtain⟨p,hp,rfl⟩:=List.mem_map.1 g;obtain⟨s,hs,_⟩:=h.pk p hp;exact b6C hs
def kb(drops:List Bool)(i:Nat):Bool:=!((drops[i]?).getD false)
def a3Y(drops:List Bool):Nat→List Pge→List Pge
 |_,[]=>[]
 |i,p::l=>(if kb drops i then[p]else[])++a3Y drops (i+1) l
theorem a9H(h:List Bool)(p:Pge):∀(l:List Pge)(i:Nat),a3Y h i (l++[p])=a3Y h i l++(if kb h (i+l.length)then[p]else[])
 | [],i=>by simp[a3Y]
 |q::l,i=>by
  rw[List.cons_append,a3Y,a9H h p l,a3Y,aA,lC,show i+1+l.length=i+(l.length+1)by omega]
theorem a8r(h:List Bool):∀(l:List Pge)(i:Nat),(a3Y h i l).Sublist l
 | [],i=>.slnil
 |p::l,i=>by
  have g:=a8r h l (i+1);rw[a3Y];cases kb h i with
  |true=>exact g.cons_cons p
  |false=>exact g.cons p
theorem b5d{drops:List Bool}{f:List Int}{at0:Int}{W:List Pge}(e:W.length<1000000):
  y0h a2w (drops,f,at0,(0:Int),W,([]:List Pge),())=some (f,at0,W,a3Y drops 0 W,()):=by
 have:=a0D (f:=a2w) (fun i=>(drops,f,at0,(i:Int),W,a3Y drops 0 (W.take i),())) W.length (b:=(f,at0,W,a3Y drops 0 W,())) (fun i a=>?_) ?_
 exact this
 ·have h:List.getD W (a29 (i:Int)) ((0:Int),false,false,false,([]:List Int),())=W[i]:=by rw[tN,lD,lG a];rfl
  have g:wrap .i64 ((i:Int)+1)=((i+1:Nat):Int):=by rw[w64 (by omega)];omega
  have c:(a3Y drops 0 (W.take i)).length≤i:=by
   have:=(a8r drops (W.take i) 0).length_le
   rw[a01]at this;omega
  have hs:=a9H drops W[i] (W.take i) 0;rw[show 0+(W.take i).length=i by rw[a01];omega]at hs;rw[a04 a,hs];unfold a2w;simp only;rw[decide_eq_true (show(i:Int)<((W.length:Nat):Int)by omega)];simp only[cT];unfold kb
  by_cases hd:i<drops.length
  ·rw[decide_eq_false (show ¬ (i:Int)≥((drops.length:Nat):Int)by omega),a0F hd,lG hd];simp only[cF,oB,Option.getD_some];cases drops[i]with
   |true=>
    simp only[bT,cF,g];rw[if_neg (by decide),a05]
   |false=>
    simp only[a13,cT];rw[decide_eq_true (show(0:Int)≤(i:Int)by omega),decide_eq_true (show(i:Int)<((W.length:Nat):Int)by omega),a0A (by omega),h,g];rfl
  rw[decide_eq_true (show(i:Int)≥((drops.length:Nat):Int)by omega),List.getElem?_eq_none (by omega)];simp only[cT,oB,Option.getD_none,a13];rw[decide_eq_true (show(0:Int)≤(i:Int)by omega),decide_eq_true (show(i:Int)<((W.length:Nat):Int)by omega),a0A (by omega),h,g];rfl
 unfold a2w;simp only;rw[decide_eq_false (by omega),a06];rfl
theorem b4n{W:List Pge}(h:l.Sublist W):(a0K l).length≤(a0K W).length:=by
 induction h with
 |slnil=>exact Nat.le_refl _
 |cons p h ih=>
  show _≤(pgB p++a0K _).length;rw[lN];omega
 |cons_cons p h ih=>
  show(pgB p++a0K _).length≤(pgB p++a0K _).length;rw[lN,lN];omega
theorem b5O{n:Nat}{a:List Inf}{L:List (List Pk)}(h:Drawn n a L){S:List Pge}{hs:List (Int×Int×Unit)}{o:List Pk}(f:a2T X=some (S,hs))(i:a2H (0,S)=some o)(j:X.length<500000):a5c (a1q a++X)=some (o,hs,0):=by
 have l:=h.str.one;have m:=h.str.four;have b:=h.len;have e:a2n (a1q a++X)=some (a,(((a1q a).length:Nat):Int),0):=b1V h.inf (by omega) (by omega) j;have c:(a1q a++X).length=(a1q a).length+X.length:=lN;have g:a30 (a29 (((a1q a).length:Nat):Int)) (a26 (a1q a++X).length (a1q a++X))=X:=by rw[a06,tN,List.drop_left]
 unfold a5c;rw[e];simp only[oB,bne_self_eq_false,cF];rw[decide_eq_true (show(0:Int)≤(((a1q a).length:Nat):Int)by omega),decide_eq_true (show(((a1q a).length:Nat):Int)≤(((a1q a++X).length:Nat):Int)by omega),g];simp only[cT,a07,f,i,oB]
theorem b1h(x:List Int×List Bool):a5z x=some true:=by
 obtain⟨x,h⟩:=x;have K:a4W x=some (x,(0:Int),()):=rfl;obtain⟨a,L,t',E,l1,i1,H,-⟩:=b5u (r:=0) (t:=(x,(0:Int),())) (n:=7) ⟨by simp,by simp⟩ (by omega);rw[show((7:Nat):Int)=7 from rfl]at E;have m:Drawn 7 a L:=⟨l1,i1,H⟩;obtain⟨Z,w,g,st⟩:=m.weave (by omega);have h4:=H.four;have B:=b4g m (by omega) g st;have X:=a5q g;have y:=b5J (a5e g) (b0R g) (a7J g) (by omega);have u:=a8S g;have h0:=a8T g;have Q:=b4M m.inf (by omega);have h1:=b1Y g;have p:=a9r g;have b:=a8r h (a0Q (a0J Z)) 0;have s:a5S (a4S ((a0J Z).flatMap a1e)):=b6m (a7G g) (by have:=b2a g;omega);obtain⟨S,hs,m1,m2,G,m4⟩:=b4m (a7J g) (b0R g) (by omega) ⟨b⟩;obtain⟨o,I,j1,j2⟩:=b4i g G;have P:=G.length_le;have R:=b4n b;have U:=b.length_le;have e:∀q∈a3Y h 0 (a0Q (a0J Z)),PgOk q:=fun q Y=>p q (b.subset Y);have f:a8w a Z=a1q a++(a0K (a0Q (a0J Z))++a4S ((a0J Z).flatMap a1e)):=rfl;have i:a7m Z=a0K (a0Q (a0J Z)):=rfl;rw[i]at u;have z:a2H (0,S)=some o:=b3Z (by omega) (by omega) (by omega) j1;have C:=b0L e (by omega);have D:=b0L p (by omega);unfold a5z;simp only[K,E,oB,m.write w g,b4Q m g,bne_self_eq_false,cF,B,b5I g,y];refine a0E (b5d (by omega)) ?_
 simp only[C,D,m2,oB];have A:a2T (a0K (a3Y h 0 (a0Q (a0J Z)))++a4S ((a0J Z).flatMap a1e))=some (S,hs):=by
  unfold a2T;rw[b6l e s (by rw[lN];omega) (by omega)];simp only[oB,m1]
 have v:=b5O m A z (by rw[lN];omega);generalize a3Y h 0 (a0Q (a0J Z))=l at *;generalize a4S ((a0J Z).flatMap a1e)=T at *;generalize a0Q (a0J Z)=W at *;generalize a8w a Z=F at *;have O:F.length=(a1q a).length+((a0K W).length+T.length):=by rw[f,lN,lN]
 have w1:wrap .i64 (((F.length:Nat):Int)-(((a1q a).length:Nat):Int))=(((a0K W).length+T.length:Nat):Int):=by rw[w64 (by omega)];omega
 have w2:wrap .i64 ((((a1q a).length:Nat):Int)+(((a0K W).length:Nat):Int))=(((a1q a).length+(a0K W).length:Nat):Int):=by rw[w64 (by omega)];omega
 have M:a26 (a1q a).length F=a1q a:=by rw[f,List.take_left]
 have N:a30 ((a1q a).length+(a0K W).length) (a26 F.length F)=T:=by
  rw[a06,f,←aA,List.drop_left' (by rw[lN])]
 rw[w1,w2,decide_eq_false (by omega),decide_eq_true (show(0:Int)≤(((a1q a).length:Nat):Int)by omega),decide_eq_true (show(((a1q a).length:Nat):Int)≤((F.length:Nat):Int)by omega),decide_eq_true (show(0:Int)≤(((a1q a).length+(a0K W).length:Nat):Int)by omega),decide_eq_true (show(((a1q a).length+(a0K W).length:Nat):Int)≤((F.length:Nat):Int)by omega),tN,tN,M,N];simp only[cT,cF,a07,a19,a09];rw[a0A (by omega),a0A (by omega),a0A (by rw[lN];omega)];have V:a5v (0:Int)=some ((0:Int),false,([]:List Int),(0:Int),()):=rfl;have j:=b0O (l:=S) (c:=a1q a++(a0K l++T)) (hs:=hs) (by omega) S [] _ I [] o rfl j1 (by rw[List.length_nil];omega);simp only[cT,V,oB,aA];refine a0E j ?_
 simp only[v,oB,beq_self_eq_true,cT,a09,b4k m4,b2e (l:=o) (by omega),b6k]
end Go.Ab
