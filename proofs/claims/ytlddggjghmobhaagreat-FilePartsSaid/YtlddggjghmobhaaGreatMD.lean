/- Part of the proof: LibZM. Conditions: as each statement tells. -/
import Derived.OpenShut
import Derived.Deep.Slices
import Derived.ChangeSame
import Derived.WideKeyArgs
import Derived.RowKit
import Derived.Laws.StructEq
import Derived.ChangeKeysEq
import Derived.RangeFuncNested
import Derived.RangeFuncLeaves
import Derived.Test.YtlddggjghmobhaaGreatMC
noncomputable section
set_option linter.unusedSimpArgs false
set_option linter.unusedVariables false
open Array renaming getElem?_eq_some_iff→a00,getElem?_append→a10,getD_eq_getD_getElem?→a13,replicate→a21,getElem?_toList→a22
open Bool renaming not_eq_true'→a06,false_eq_true→a15
open List renaming getElem?_cons_zero→a01,length→a05,append_nil→a07,map_cons→a11,mem_cons_of_mem→a12,getElem?_drop→a14,sum_cons→a17,getElem?_take_of_lt→a18,map_nil→a20,mem_append_right→a23,mem_of_getElem?→a24,range_eq_range'→a25,mem_append_left→a26,contains_eq_mem→a27,all_cons→a29,zipWith→a30,mem_map→a31,range'→a32,nil_append→a34
open Nat renaming lt_of_lt_of_le→a02,le_trans→a03,zero_add→a08,le_refl→a09,add_zero→a19,add_assoc→a28,mul_one→a33
open Option renaming bind_eq_some_iff→a04,ne_none_iff_exists'→a16
namespace Go.Ab
def E0a(Γ:AE)(av:AV)(o:Option Nat):((r:RA)×r.ty.den)→Prop
 |⟨.v t,x⟩=>av=.val t x∧o=none
 |⟨.o e,x⟩=>(∃n,o=some n∧av=.sref n []∧Γ.rt n=some ⟨false,.list true e,x⟩)∨(o=none∧(av=.nils∨av=.empt)∧x=[])
 |⟨.b t,x⟩=>∃n,o=some n∧av=.ptr n []∧Γ.rt n=some ⟨true,t,x⟩
theorem q0e.finK{tk tk':List Nat}{Γ Γ':AE}{av:AV}{i:Nat}(a:Γ.get i=av):∀{it:(r:RA)×r.ty.den},q0e tk tk' Γ av it→c0w tk' Γ Γ'→
  ∃o,E0a Γ' (Γ'.get i) o it∧(∀n∈tk,n∈tk')∧∀n,o=some n→n∉tk∧n∈tk'
 |⟨.v t,x⟩,⟨f,k⟩,hs=>by
  subst f;subst k;exact⟨none,⟨hs.1 i _ a (.inl rfl),rfl⟩,fun _ g=>g,by simp⟩
 |⟨.o e,x⟩,h,hs=>by
  rcases h with⟨n,rfl,k,rfl,c⟩|⟨f,k,rfl⟩;refine⟨some n,.inl ⟨n,rfl,hs.1 i _ a (.inr ⟨n,by simp,.inl rfl⟩),(hs.2 n (by simp)).trans c⟩,fun m g=>a12 _ g,?_⟩;simp_all;refine⟨none,.inr ⟨rfl,?_,k⟩,fun _ g=>g,by simp⟩;rw[hs.1 i av a (.inl (by rcases f with rfl|rfl<;>rfl))];omega
 |⟨.b t,x⟩,⟨n,f,k,h3,c⟩,hs=>by
  subst f;subst h3;refine⟨some n,⟨n,rfl,hs.1 i _ a (.inr ⟨n,by simp,.inr rfl⟩),(hs.2 n (by simp)).trans c⟩,fun m g=>a12 _ g,?_⟩;simp_all
section
variable {P:Program} {B:Base} {w:World} {cx:Cx} {ρ:Type}
theorem Rel.ext_slot{N:Nat}{tm:Nat→Value}{Γ:AE}{σ:Gh}(h:Rel B Γ N tm w σ){av:AV}{u:Value}(hv:a0e (a0a w σ.ov) σ.g Γ.rt (Shr B w σ) av u):Rel B (Γ.set N av) (N+1) (fun i=>if i=N then u else tm i) w σ:=by
 refine⟨h.roots,h.norm,h.nodup,h.disj,h.live,fun i hi=>?_,h.pend,h.size,h.frame,h.mine,h.pins,h.still⟩;rw[c0t]
 by_cases e:i=N
 rw[if_pos e,if_pos e];exact hv;rw[if_neg e,if_neg e];exact h.slots i (by omega)
theorem j0v.congr{tm tm':Nat→Value}{N0:Nat}{u:Value}{v:ResultVar ⊕ Option Nat}(hv:g0y N0 v=true)(h:j0v P B w tm u v)(g:∀i,i<N0→tm' i=tm i):j0v P B w tm' u v:=by
 cases v with
 |inr n=>cases n<;>exact h
 |inl r=>
  cases r with
  |tmp i=>
   simp[g0y]at hv;simp only[j0v,f0c]at h⊢;simp_all
  |cell i t=>
   simp[g0y]at hv;simp only[j0v,f0c]at h⊢;simp_all
structure Outd (P:Program) (B:Base) (w:World) (N0 N:Nat) (tm:Nat→Value) (tk:List Nat) (Γ Γ':AE) (σ':Gh) (rs:List RA) (vs:List (ResultVar ⊕ Option Nat)) (y:(c0m (rs.map RA.ty)).den) (us:List Value) (tm':Nat→Value) (ns:List (Option Nat)):Prop where
 lu:us.length=rs.length
 lv:vs.length=rs.length
 ln:ns.length=rs.length
 rel:Rel B Γ' (N+rs.length) tm' w σ'
 pd:Γ'.pd=none
 low:∀i,i<N→tm' i=tm i
 high:∀(k:Nat) u,us[k]?=some u→tm' (N+k)=u
 stay:c0w tk Γ Γ'
 comes:∀(k:Nat) v u,vs[k]?=some v→us[k]?=some u→j0v P B w tm u v
 fin:∀(k:Nat) it o,(c0r rs y)[k]?=some it→ns[k]?=some o→E0a Γ' (Γ'.get (N+k)) o it
 names:∀(k n:Nat),ns[k]?=some (some n)→n∉tk∧∀k':Nat,ns[k']?=some (some n)→k'=k
theorem r0a(d:CxTy P cx){N0:Nat}:∀(rs:List RA)(vs:List (ResultVar ⊕ Option Nat)) {Γ:AE} {σ:Gh} {N:Nat} {tm:Nat→Value} {tk:List Nat} (_:N0≤N) (_:Rel B Γ N tm w σ) (_:Γ.pd=none) (_:∀i,N≤i→Γ.get i=.dead)
  (_:∀v∈vs,g0y N0 v=true) {K:(c0m (rs.map RA.ty)).den→AE→Rs ρ} {z:ρ} (_:Γ.outs cx tk N rs vs K=some z),∃y Γ' σ' us e ns,K y Γ'=some z∧Outd P B w N0 N tm tk Γ Γ' σ' rs vs y us e ns
 | [],vs,Γ,σ,N,tm,tk,hN,h,hpd,hdead,hvs,K,z,hz=>by
  cases vs with
  |cons=>simp_all[AE.outs]
  |nil=>exact⟨(),Γ,σ,[],tm,[],hz,⟨rfl,rfl,rfl,h,hpd,fun _ _=>rfl,by simp,c0w.refl,by simp,by simp,by simp⟩⟩
 | [r],vs,Γ,σ,N,tm,tk,hN,h,hpd,hdead,hvs,K,z,hz=>by
  match vs,hvs with
  | [],_=>simp_all[AE.outs]
  |_::_::_,_=>simp_all[AE.outs]
  | [v],hvs=>
   simp[AE.outs]at hz;obtain⟨x,Γ1,σ1,b,av,u,m,p,q,s,H,t,A,C⟩:=s0z d hN h hpd (hvs v (by simp)) hz;have a:(Γ1.set N av).get N=av:=by simp[AE.get];rw[c0t,if_pos rfl]
   have J:c0w b Γ1 (Γ1.set N av):=c0w.refl.set (C N (hdead N (a09 _)));have c:q0e tk b (Γ1.set N av) av ⟨r,x⟩:=t;obtain⟨o,F,g,S⟩:=c.finK a c0w.refl;refine⟨x,Γ1.set N av,σ1,[u],_,[o],m,⟨rfl,rfl,rfl,p.ext_slot s,q,fun i hi=>if_neg (by omega),fun k l f=>?_,A.set (hdead N (a09 _)),fun k v' l f L=>?_,fun k it G f I=>?_,fun k n f=>?_⟩⟩
   all_goals grind[c0r]
 |r::r'::rs,vs,Γ,σ,N,tm,tk,hN,h,hpd,hdead,hvs,K,z,hz=>by
  match vs,hvs with
  | [],_=>simp_all[AE.outs]
  |v::vs,hvs=>
   simp[AE.outs]at hz;obtain⟨x,Γ1,σ1,b,av,u,m,p,q,s,H,t,A,C⟩:=s0z d hN h hpd (hvs v (by simp)) hz;have a:(Γ1.set N av).get N=av:=by simp[AE.get];rw[c0t,if_pos rfl]
   have D:∀i,N+1≤i→(Γ1.set N av).get i=.dead:=fun i hi=>by
    have:=C i (hdead i (by omega))
    simp[AE.get]at this⊢;rw[c0t,if_neg (by omega)];omega
   obtain⟨y,Γ',σ',us,e,ns,F,g⟩:=r0a d (r'::rs) vs (by omega:N0≤N+1) (p.ext_slot s) q D (fun v' M=>hvs v' (by simp_all)) m;have c:q0e tk b (Γ1.set N av) av ⟨r,x⟩:=t;obtain⟨o,R,O,E⟩:=c.finK a g.stay;refine⟨(x,y),Γ',σ',u::us,e,o::ns,F,⟨by simp[g.lu],by simp[g.lv],by simp[g.ln],?_,g.pd,fun i hi=>?_,fun k l f=>?_,(A.set (hdead N (a09 _))).trans g.stay O,fun k v' l f L=>?_,fun k it G f I=>?_,fun k n f=>?_⟩⟩
   have:=g.rel
   grind
   rw[g.low i (by omega),if_neg (by omega)]
   ·cases k with
    |zero=>
     simp at f;rw[←f,a19,g.low N (by omega),if_pos rfl]
    |succ k=>
     have:=g.high k l (by simp_all)
     grind
   ·cases k with
    |zero=>
     simp_all
    |succ k=>
     have j:vs[k]?=some v':=by simp_all
     exact(g.comes k v' l j (by simp_all)).congr (hvs v' (by grind)) (fun i hi=>(if_neg (by omega)).symm)
   ·cases k with
    |zero=>
     simp_all[c0r]
    |succ k=>
     have:=g.fin k it G (by simpa[c0r]using f) (by simp_all)
     grind
   ·cases k with
    |zero=>
     simp at f;refine⟨(E n f).1,fun k' j=>?_⟩;cases k' with
     |zero=>rfl
     |succ k'=>exact absurd (E n f).2 (g.names k' n (by simp_all)).1
    |succ k=>
     obtain⟨a1,Q⟩:=g.names k n (by simp_all)
     grind
end
theorem w0b{P:Program}{fn:Func}{a:Act}{w:World}{vr:List Value}(c:vr.length=fn.results.toList.length)
  (h:∀(k:Nat) r u,fn.results.toList[k]?=some r→vr[k]?=some u→(f0c (a0f a) r).run P w=.ok u w):(results fn a.tmps).run P w=.ok (m0t vr) w:=by
 have g:(fn.results.toList.mapM (f0c (a0f a))).run P w=.ok vr w:=v0a _ _ c h;have f:fn.results.mapM (f0c (a0f a))=Functor.map List.toArray (fn.results.toList.mapM (f0c (a0f a))):=by
  rw[←List.mapM_toArray]
 have b:results fn a.tmps=(do
   let vs ←fn.results.mapM (f0c (a0f a))
   pure (if h:vs.size=1 then vs[0]else .tuple vs)):=by
  rfl
 rw[b,f];simp only[map_eq_pure_bind,bind_assoc,pure_bind,Sem.run_bind,g,Result.andThen_ok,Sem.run_pure,List.size_toArray];congr 1
 match vr with
 | []=>rfl
 | [u]=>rfl
 |_::_::_=>rfl
section
variable {P:Program} {B:Base} {w:World} {cx:Cx}
theorem Outd.back{N0 N:Nat}{tm:Nat→Value}{Γ Γ':AE}{σ':Gh}{rs:List RA}{vs y us tm' ns}(h:Outd P B w N0 N tm [] Γ Γ' σ' rs vs y us tm' ns):
  ∃C,Back B w (c0r rs y) us C:=by
 have W:=h.rel.ov_none h.pd;have q:a0a w σ'.ov=cells w:=by rw[W];rfl
 let F:Option Nat→Value→Src×b0k:=fun o u=>match o with
  |some n=>(σ'.g n,σ'.ow n)
  |none=>(.one u,[])
 let C:=a30 F ns us
 have m:∀(k:Nat) L,C[k]?=some L→∃o u,ns[k]?=some o∧us[k]?=some u∧L=F o u:=fun k L X=>by
  grind
 have a:∀L∈C,L.2=[]∨∃(k n:Nat),ns[k]?=some (some n)∧L.2=σ'.ow n:=fun L d=>by
  obtain⟨k,X⟩:=List.mem_iff_getElem?.1 d
  grind
 have D:∀c,Shr B w σ' c→(c<w.heap.size∧(B.S c∨B.F c∨B.size≤c)∧∀L∈C,c∉L.2.map (·.1)):=fun c j=>⟨j.1,j.2.1,fun L d I=>by
  rcases a L d with g|⟨k,n,-,g⟩;simp_all;rw[g]at I;exact j.2.2 ⟨n,I⟩⟩
 have J:∀L∈C,∀c∈L.2.map (·.1),a0u σ' c:=fun L d c j=>by
  rcases a L d with g|⟨k,n,-,g⟩;simp_all;rw[g]at j;exact⟨n,j⟩
 refine⟨C,⟨by rw[h.lu,g0b],by simp[C,h.lu,h.ln,g0b],fun k it u L O Y d=>?_,fun L d=>?_,fun k k' L L' d K Q c j M=>?_,fun L d p hp=>?_,fun L d c j=>h.rel.mine c (J L d c j),h.rel.size,h.rel.frame,h.rel.still⟩⟩
 ·obtain⟨o,u',U,E,rfl⟩:=m k L d;rw[Y]at E;simp at E;subst E;have l:=h.fin k it o O U;have X:k<rs.length:=by rw[←h.lu];grind
  have i:=d0k h.rel (show N+k<N+rs.length by omega);rw[h.high k u Y,q]at i;obtain⟨r,x⟩:=it;cases r with
  |v t=>
   obtain⟨g1,rfl⟩:=l;rw[g1]at i;exact⟨VOk.frame i (fun _ _ _=>rfl) D,rfl⟩
  |o e=>
   rcases l with⟨n,rfl,z,H⟩|⟨rfl,z,rfl⟩;rw[z]at i;obtain⟨r',e',s,a1,G,a3⟩:=i;rw[H]at a1;simp at a1;subst a1;simp only[loc,a0t,sj,pJ]at G;obtain⟨-,rfl⟩:=G;have f:=h.rel.roots n _ H;rw[q]at f;refine⟨?_,f.mono D⟩;obtain⟨O',R,-,-,j⟩:=f.rd;rcases j with⟨hb,-⟩|⟨-,⟨v0,h0⟩,-,-⟩
   grind
   show σ'.g n=.one u;simp_all[Src.rd]
   ·refine⟨rfl,⟨[],[],?_,by simp,.inr ⟨rfl,⟨_,rfl⟩,⟨e,rfl⟩,rfl⟩⟩⟩;show a0w _ true e.cells (dec _ e) (some u)=some (([]:List e.den),[],[]);rcases z with z|z;rw[z]at i;have i:u=.slice none 0 0:=i;rw[i];rfl
    ·rw[z]at i;obtain⟨A,i⟩:=i;rw[i];cases A with
     |none=>rfl
     |some A=>rfl
  |b t=>
   obtain⟨n,rfl,z,H⟩:=l;rw[z]at i;obtain⟨r',t',b,Z,a1,G,a3⟩:=i;rw[H]at a1;simp at a1;subst a1;simp[a0t]at G;obtain⟨rfl,G⟩:=G;have f:=h.rel.roots n _ H;rw[q]at f;refine⟨f.mono D,b,?_⟩;obtain⟨O',R,-,-,j⟩:=f.rd
   grind
 rcases a L d with g|⟨k,n,-,g⟩;simp_all;rw[g];exact h.rel.nodup n
 ·obtain⟨o,u,U,-,rfl⟩:=m k L d;obtain⟨Z,u',V,-,rfl⟩:=m k' L' K;cases o with
  |none=>grind
  |some n=>
   cases Z with
   |none=>grind
   |some n'=>
    have T:n≠n':=by
     rintro rfl
     exact Q ((h.names k' n V).2 k U)
    exact h.rel.disj n n' T c j M
 rcases a L d with g|⟨k,n,-,g⟩;simp_all;rw[g]at hp;exact h.rel.live n p hp
theorem l0l:∀(ps:List PA)(i0 i:Nat),i∈a0o ps i0→∃c a,ps[i-i0]?=some (.r c a)
 | [],_,_,h=>by simp[a0o]at h
 |.v _::ps,i0,i,h=>by
  have:=(j0c ps (i0+1)).2 i h
  obtain⟨c,a,g⟩:=l0l ps (i0+1) i h;exact⟨c,a,by rw[show i-i0=(i-(i0+1))+1 from by omega];simpa using g⟩
 |.r c a::ps,i0,i,h=>by
  rcases mC.1 h with rfl|h;exact⟨c,a,by simp⟩
  have:=(j0c ps (i0+1)).2 i h
  obtain⟨c,a,g⟩:=l0l ps (i0+1) i h;exact⟨c,a,by rw[show i-i0=(i-(i0+1))+1 from by omega];simpa using g⟩
def y0b(fn:Func)(c:Code)(H:Hints)(s:FSem):Bool:=
 c0g fn.ntmps c&&(H.fits fn.ntmps&&(decide (s.ps.length≤fn.ntmps)&&fn.results.toList.all fun r=>g0y fn.ntmps (.inl r)))
theorem i0q(o:CxTy P cx){fn:Func}{s:FSem}{y}{args:Array Value}(F:(fn.results.toList.all fun r=>g0y fn.ntmps (.inl r))=true){a':Act}{w':World}{σ':Gh}{Γ':AE}(J:Rel B Γ' fn.ntmps (a0f a') w' σ')(x:Γ'.pd=none)
  (H:(Γ'.upto fn.ntmps).outs cx [] fn.ntmps (RA.all s.ps s.rs) (fn.results.toList.map .inl++(a0o s.ps 0).map fun i=>.inr (g0f s.ps i)) (fun y _=>some y)=some y)
  (f:t0q B s.ps args):
  ∃v,(results fn a'.tmps).run P w'=.ok v w'∧∃vr D,Ending.returned v=.returned (m0t vr)∧vr.length=s.rs.length∧Back B w' (c0r (RA.all s.ps s.rs) y) (vr++(a0o s.ps 0).map (e0d s.ps args)) D:=by
 have C:Rel B (Γ'.upto fn.ntmps) fn.ntmps (a0f a') w' σ':=J.weak fun i hi v hv=>by
  simp_all
 obtain⟨y',Γf,σf,us,M,ns,E,d⟩:=r0a (P:=P) (w:=w') (N0:=fn.ntmps) o _ _ (a09 _) C x (fun i hi=>by
   have:decide (i<fn.ntmps)=false:=by simp_all
   simp only[AE.get,AE.upto,this,cF]) (fun v hv=>by
   rcases mA.1 hv with hv|hv
   grind
   obtain⟨i,-,rfl⟩:=a31.1 hv;rfl) H
 simp at E;subst E;obtain⟨D,n⟩:=d.back;have t:=d.lv;simp only[RA.all,lN,List.length_map,g0v s.ps 0,Array.length_toList]at t;have q:=d.lu;simp[RA.all]at q;have K:fn.results.toList.length=s.rs.length:=by simp_all

 have L:us=us.take s.rs.length++(a0o s.ps 0).map (e0d s.ps args):=by
  have e:=List.take_append_drop s.rs.length us
  conv=>lhs;rw[←e]
  congr 1;refine List.ext_getElem? fun k=>?_
  rw[a14,List.getElem?_map];cases hk:(a0o s.ps 0)[k]? with
  |none=>
   simp_all[g0v]
  |some i=>
   have j:=(lS.1 hk).1;rw[g0v]at j;have A:=lG (show s.rs.length+k<us.length by omega);rw[A]
   simp
   have hv:(fn.results.toList.map Sum.inl++(a0o s.ps 0).map fun i=>Sum.inr (g0f s.ps i))[s.rs.length+k]?=some (Sum.inr (g0f s.ps i):ResultVar ⊕ Option Nat):=by
    simp_all[List.getElem?_append_right]
   have g:=d.comes _ _ _ hv A;have p:∃c,j0g s.ps i=some c:=by
    obtain⟨c,a,I⟩:=l0l s.ps 0 i (a24 hk);exact⟨c,h0l (by omega)⟩
   obtain⟨c,h⟩:=p;cases c with
   |true=>
    simp[g0f,h]at g;simp[e0d,h];exact g
   |false=>
    simp[g0f,h]at g;simp only[e0d,h];obtain⟨b,l,m⟩:=f i (a24 hk) h;exact n0h.uniq (g i b rfl l) m
 have G:(results fn a'.tmps).run P w'=.ok (m0t (us.take s.rs.length)) w':=by
  refine w0b (by grind) fun k r u z A=>?_
  have j:=(lS.1 z).1;refine d.comes k (.inl r) u ?_ ?_
  all_goals grind
 grind
theorem h0p.of(b:CxOk P cx)(E:P.follows .mixedOrders=true){f:FuncId}{fn:Func}{c:Code}{H:Hints}{s:FSem}(p:P.funcs[f]?=some fn)(z:fn.body=some c)(j:y0b fn c H s=true)
  (o:∀x,E0e cx H fn s.ps s.rs x=s.F x):h0p P cx.G f s:=by
 simp only[y0b,bA,dT]at j;obtain⟨d,A,I,l⟩:=j;intro w B σ args x y hG hy hB hhp hov hargs hrel hpins;rw[←o x]at hy;simp[E0e,z]at hy
 let a:Act:={ tmps:=args++a21 (fn.ntmps-args.size) undef,defers:=[] }
 have r:a.tmps.size=fn.ntmps:=by grind
 have k:Rel B (ini s.ps x) fn.ntmps (a0f a) w σ:=by
  refine⟨hrel.roots,hrel.norm,hrel.nodup,hrel.disj,hrel.live,fun i hi=>?_,hrel.pend,hrel.size,hrel.frame,hrel.mine,hrel.pins,hrel.still⟩
  by_cases hlt:i<s.ps.length
  have:=hrel.slots i hlt
  have e:a0f a i=args.getD i undef:=by
   simp[a0f,a,a10];simp_all
  simp_all
  have:(ini s.ps x).sl i=.one .dead:=by
   simp_all[ini,e0f]
  rw[this];trivial
 refine calls_of_wp p z (wp_mono ((wpIn_wide (n:=0)).1 (g0o (ro:=none) (D:=[]) b hG E A c 1 d hy k r rfl)) ?_)
 rintro e K w' ⟨t,Γ',σ',rfl,m,J,L,u⟩
 simp at m;have key:(∀i,t≠.exit i)∧Γ'.pd=none∧(Γ'.upto fn.ntmps).outs cx [] fn.ntmps (RA.all s.ps s.rs) (fn.results.toList.map .inl++(a0o s.ps 0).map fun i=>.inr (g0f s.ps i)) (fun y _=>some y)=some y:=by
  grind
 obtain⟨C,q,m⟩:=key;obtain⟨v,g,h⟩:=i0q (args:=args) b.toCxTy l J q m hpins;cases t with
 |exit i=>simp_all
 |normal=>exact⟨u,_,g,h⟩
 |ret=>exact⟨u,_,g,h⟩
end
end Go.Ab
namespace Go.Ab
open Go.ChangeShapes Go.WideShapes
def Wf:(t:Ty)→t.den→Prop
 |.int k,n=>(Lit.int k n).wf=true
 |.str,l=>∀b∈(show List Int from l),0≤b∧b≤255
 |.list _ t,l|.nl t,l=>∀x∈(show List t.den from l),Wf t x
 |.arr n t,l=>(show List t.den from l).length=n∧∀x∈(show List t.den from l),Wf t x
 |.pair a b,x=>Wf a x.1∧Wf b x.2
 |.bool,_|.unit,_|.fn _,_|.hd,_=>True
def d0b:(t:Ty)→t.den→Nat
 |.str,l=>(show List Int from l).length+1
 |.list _ t,l|.nl t,l=>1+((show List t.den from l).map (d0b t)).sum
 |.arr _ t,l=>((show List t.den from l).map (d0b t)).sum
 |.pair a b,x=>d0b a x.1+d0b b x.2
 |.unit,_=>0
 |.int _,_|.bool,_|.fn _,_|.hd,_=>1
structure Bulk {H:Type} (bulk:DataW H→Nat):Prop where
 one:∀d,1≤bulk d
 str:∀bs,bulk (.lit (.string bs))=bs.length+1
 slice:∀es sp,(es.map bulk).sum+1≤bulk (.slice es sp)
 agg:∀ps,(ps.map bulk).sum≤bulk (.agg ps)
def f0q:Ty→Bool
 |.list o e=>f0q e&&!o
 |.nl _=>false
 |.fn _=>false
 |.hd=>false
 |.pair a b=>f0q a&&f0q b
 |.arr _ t=>f0q t
 |_=>true
theorem m0j{α:Type}{f:Nat→Option (α×b0k×List Nat)}{p:α→Prop}{q:Nat→Prop}{g:α→Nat}{b:Nat→Nat}:∀(n i:Nat),(∀j,j<n→∃x R,f (i+j)=some (x,[],R)∧p x∧g x≤b (i+j)∧∀c∈R,q c)→
  ∃xs Rs,a0d f n i=some (xs,[],Rs)∧(∀x∈xs,p x)∧(xs.map g).sum≤((a32 i n).map b).sum∧∀c∈Rs,q c
 |0,_,_=>⟨[],[],rfl,by simp,by simp,by simp⟩
 |n+1,i,h=>by
  obtain⟨x,R,d,o,r,s⟩:=h 0 (by omega);obtain⟨xs,Rs,e,l,t,m⟩:=m0j n (i+1) (fun j u=>by
   have:=h (j+1) (by omega)
   rwa [show i+(j+1)=i+1+j from by omega]at this)
  rw[a19]at d r;refine⟨x::xs,R++Rs,by simp only[a0d,d,e,a34],fun y a=>?_,?_,fun c k=>?_⟩;rcases mC.1 a with rfl|a;exact o;exact l y a;rw[List.range'_succ];simp only[a11,a17];omega;rcases mA.1 k with k|k;exact s c k;exact m c k
section
variable {H:Type} {enc:TypeId×Value→H} {P:Program} {w:World} {base:Nat} {sp:Nat→Bool} {held:Bool} {bulk:DataW H→Nat}
theorem h0s{τ:Ty}{t:TypeId}(h:a0i P τ (.inl t)=true):P.cellsOf t=τ.cells:=by
 have:=a0s h
 unfold e0s at this;unfold Program.cellsOf
 split at this
 rename_i i hi;simp only[bA,beq_iff_eq]at this;rw[hi];exact this.1.1;cases this
theorem C0s{a:Addr}{v:Value}(h:w.cell? a=some v):a.block<w.heap.size:=by
 unfold World.cell? at h
 split at h
 rename_i g;exact(a00.1 g).1;cases h
theorem E0o(O:Bulk bulk)(hs:∀b,sp b=true):∀(t:Ty),
  (∀(T:TypeId)(n:Nat)(cs:List Value) y,a0i P t (.inl T)=true→f0q t=true→DataW.trod enc P w base sp held n T cs=some y→
   ∃x R,dec (cells w) t (fun j=>cs[j]?)=some (x,[],R)∧Wf t x∧d0b t x≤bulk y.1∧∀c∈R,c<w.heap.size)∧
  (∀(fs:List Field)(off n:Nat)(cs:List Value)(xs:List (DataW H×List MemPlace)),a0i P t (.inr (fs,off))=true→f0q t=true→xs.length=fs.length→
   (∀(i:Nat)(f:Field),fs[i]?=some f→DataW.trod enc P w base sp held n f.type ((cs.drop f.offset).take (P.cellsOf f.type))=xs[i]?)→
   ∃x R,dec (cells w) t (fun j=>cs[off+j]?)=some (x,[],R)∧Wf t x∧d0b t x≤((xs.map (·.1)).map bulk).sum∧∀c∈R,c<w.heap.size):=by
 intro t
 induction t with
 |int k=>
  refine⟨fun T n cs y d _ h=>?_,fun fs off n cs xs d=>by simp[a0i]at d⟩;obtain⟨m,rfl,rfl,hw⟩:=DataW.trod_int (h0h d) h;exact⟨m,[],by simp[dec],hw,O.one _,by simp⟩
 |bool=>
  refine⟨fun T n cs y d _ h=>?_,fun fs off n cs xs d=>by simp[a0i]at d⟩;have K:P.underlying T=some .bool:=by
   simp only[a0i,bA]at d;obtain⟨-,d⟩:=d
   split at d
   assumption
   cases d
  obtain⟨m,rfl,rfl⟩:=DataW.trod_bool K h;exact⟨m,[],by simp[dec],trivial,O.one _,by simp⟩
 |str=>
  refine⟨fun T n cs y d _ h=>?_,fun fs off n cs xs d=>by simp[a0i]at d⟩;have K:P.underlying T=some .string:=by
   simp only[a0i,bA]at d;obtain⟨-,d⟩:=d
   split at d
   assumption
   cases d
  obtain⟨s,rfl,rfl,-⟩:=DataW.trod_string K h;refine⟨_,[],by simp only[dec,a01];rfl,fun b g5=>?_,?_,by simp⟩;obtain⟨u,-,rfl⟩:=a31.1 g5
  have:=u.toNat_lt
  exact⟨by omega,by omega⟩;rw[O.str];simp[d0b]
 |unit=>
  refine⟨fun T n cs y d _ h=>⟨(),[],rfl,trivial,Nat.zero_le _,by simp⟩,fun fs off n cs xs d _ _ _=>⟨(),[],rfl,trivial,Nat.zero_le _,by simp⟩⟩
 |pair a b iha ihb=>
  have Q:(∀(fs:List Field)(off n:Nat)(cs:List Value)(xs:List (DataW H×List MemPlace)),a0i P (.pair a b) (.inr (fs,off))=true→f0q (.pair a b)=true→xs.length=fs.length→
   (∀(i:Nat)(f:Field),fs[i]?=some f→DataW.trod enc P w base sp held n f.type ((cs.drop f.offset).take (P.cellsOf f.type))=xs[i]?)→
   ∃x R,dec (cells w) (.pair a b) (fun j=>cs[off+j]?)=some (x,[],R)∧Wf (.pair a b) x∧d0b (.pair a b) x≤((xs.map (·.1)).map bulk).sum∧∀c∈R,c<w.heap.size):=by
   intro fs off n cs xs d l hl hf;cases fs with
   |nil=>simp[a0i]at d
   |cons f r=>
    simp only[a0i,bA,beq_iff_eq,dT]at d;obtain⟨⟨⟨ho,h9⟩,B⟩,htb⟩:=d;simp only[f0q,bA]at l;cases xs with
    |nil=>simp at hl
    |cons x0 xs=>
     have h0:=hf 0 f rfl;simp only[a01]at h0;rw[h0s h9,ho]at h0;have h5:∀j,j<a.cells→((cs.drop off).take a.cells)[j]?=cs[off+j]?:=fun j D=>by
      rw[a18 D,a14]
     obtain⟨x,R,A,F,M,G⟩:=iha.1 f.type n _ x0 h9 l.1 h0;obtain⟨y,R',k1,k2,k3,k4⟩:=ihb.2 r (off+a.cells) n cs xs htb l.2 (by simpa using hl) (fun i f' hi=>by simpa using hf (i+1) f' (by simpa using hi));refine⟨(x,y),R++R',?_,⟨F,k2⟩,?_,fun c N=>?_⟩;have e1:=a0k (m':=cells w) a (rd':=fun j=>cs[off+j]?) A (fun j D=>(h5 j D).symm) (fun _ _ _=>rfl);have e2:(fun j=>cs[off+(a.cells+j)]?)=fun j=>cs[off+a.cells+j]?:=by funext j;rw[a28]
     simp only[dec,e1,e2,k1,a34];simp only[d0b,a11,a17];omega;rcases mA.1 N with N|N;exact G c N;exact k4 c N
  refine⟨fun T n cs y d l h=>?_,Q⟩;obtain⟨fs,K,g6⟩:∃fs:Array Field,P.underlying T=some (.struct fs)∧a0i P (.pair a b) (.inr (fs.toList,0))=true:=by
   simp only[a0i,bA]at d;obtain⟨-,d⟩:=d
   split at d
   rename_i fs K;refine⟨fs,K,?_⟩
   split at d
   rename_i f r hr;rw[hr];simp only[a0i,a08];exact d;cases d;cases d
  obtain⟨xs,m,-,rfl,hl,V,hf⟩:=DataW.trod_struct K h;obtain⟨x,R,A,F,M,G⟩:=Q fs.toList 0 m cs xs g6 l (by simpa using V) (fun i f hi=>hf i f (by simpa using hi));refine⟨x,R,?_,F,a03 M (O.agg _),G⟩;have e:(fun j=>cs[0+j]?)=fun j=>cs[j]?:=by funext j;rw[a08]
  rw[←e];exact A
 |list o e ih=>
  refine⟨fun T n cs y d l h=>?_,fun fs off n cs xs d=>by simp[a0i]at d⟩;obtain⟨X,K,E,B⟩:=b0w d;simp only[f0q,bA,a06]at l;obtain⟨g8,rfl⟩:=l;rcases DataW.trod_slice K h with⟨rfl,rfl⟩|⟨a,L,Y,elems,rest,m,-,rfl,rfl,k5,h7,k0,h8,h4,W,-⟩;exact⟨[],[],by simp[dec,a0w];rfl,by simp[Wf],by simp only[d0b];exact O.one _,by simp⟩;have v:Y=0∨a.spot=none:=by
   by_cases hc0:Y=0
   exact .inl hc0;refine .inr ?_
   have one:∀{o:Nat}{z},o=0→(w.cells? base (a.add (o*P.cellsOf X)) (P.cellsOf X)).bind (DataW.trod enc P w base sp held m X)=some z→a.spot=none:=fun ho C=>by
    subst ho;obtain⟨S,Z,-⟩:=a04.1 C;rw[h0s E]at Z;obtain⟨-,g7,U⟩:=World.cells?_some Z;have h3:=U 0 B;rw[Nat.zero_mul,Addr.add_zero',Addr.add_zero',lG (by omega)]at h3;exact World.cell?_spot h3
   by_cases hl0:L=0
   obtain⟨k6,g9⟩:=W (hs _);have C:=g9 0 (by omega);rw[lG (by omega)]at C;exact one (by omega) C;have C:=h4 0 (by omega);rw[lG (by omega)]at C;exact one rfl C
  have one:∀i,i<L→∃x R,dec (cells w) e (fun j=>cells w a.block (a.off+(i*e.cells+j)))=some (x,[],R)∧Wf e x∧d0b e x≤bulk ((elems.getD i (.nil,[])).1)∧(∀c∈R,c<w.heap.size)∧a.block<w.heap.size:=fun i hi=>by
   have C:=h4 i hi;rw[lG (by omega)]at C;obtain⟨S,Z,h3⟩:=a04.1 C;rw[h0s E]at Z;obtain⟨-,g7,U⟩:=World.cells?_some Z;have v:a.spot=none:=v.resolve_left (by omega);obtain⟨x,R,A,F,M,G⟩:=ih.1 X m S _ E g8 h3;have I:∀j,j<e.cells→cells w a.block (a.off+(i*e.cells+j))=S[j]?:=fun j D=>by
    rw[←U j D]
    have:a=⟨a.block,a.off,none⟩:=by rw[←v]
    rw[this,add_plain,add_plain,a28];rfl
   refine⟨x,R,a0k e A (fun j D=>I j D) (fun _ _ _=>rfl),F,by rw[lD,lG (by omega)];exact M,G,?_⟩
   have:=I 0 B
   rw[lG (by omega)]at this;exact C0s (a:=⟨a.block,_,none⟩) this
  obtain⟨xs,Rs,A,F,M,G⟩:=m0j (p:=Wf e) (q:=fun c=>c<w.heap.size) (g:=d0b e) (b:=fun i=>bulk ((elems.getD i (.nil,[])).1)) L 0 (fun j D=>by
   obtain⟨x,R,k1,k2,k3,k4,-⟩:=one j D;rw[a08];exact⟨x,R,k1,k2,k3,k4⟩)
  have J:((a32 0 L).map fun i=>bulk ((elems.getD i (.nil,[])).1)).sum=((elems.map (·.1)).map bulk).sum:=by
   rw[List.map_map,Go.Deep.map_by_index elems (.nil,[]) (bulk∘(·.1)),h8,a25];rfl
  have g0:=O.slice (elems.map (·.1)) (rest.map (·.1))
  by_cases hn:L=0
  subst hn;simp only[a0d,sj,pJ]at A;obtain⟨rfl,-,-⟩:=A;exact⟨[],[],by simp only[dec,a0w,a01];rw[if_pos ⟨v,h7⟩];simp[a0d];rfl,by simp[Wf],by simp only[d0b];exact O.one _,by simp⟩;refine⟨xs,a.block::([]++Rs),?_,F,?_,fun c N=>?_⟩;simp only[dec,a0w,a01,v,h7,and_self,if_true,A,a15,if_false,if_neg hn,a20];rfl;simp only[d0b]
  have:(xs.map (d0b e)).sum≤((elems.map (·.1)).map bulk).sum:=by rw[←J];exact M
  show 1+(xs.map (d0b e)).sum≤_;omega;rcases mC.1 N with rfl|N;obtain⟨_,_,_,_,_,_,h6⟩:=one 0 (by omega);exact h6;exact G c (by simpa using N)
 |nl e ih=>exact⟨fun T n cs y d l=>by simp[f0q]at l,fun fs off n cs xs d l=>by simp[f0q]at l⟩
 |fn f=>exact⟨fun T n cs y d l=>by simp[f0q]at l,fun fs off n cs xs d l=>by simp[f0q]at l⟩
 |hd=>exact⟨fun T n cs y d l=>by simp[f0q]at l,fun fs off n cs xs d l=>by simp[f0q]at l⟩
 |arr n e ih=>
  refine⟨fun T f cs y d l h=>?_,fun fs off n cs xs d=>by simp[a0i]at d⟩;obtain⟨X,K,E,B⟩:=h0f d;obtain⟨xs,m,-,rfl,hl,V,hf⟩:=DataW.trod_array K h;simp only[f0q]at l;have one:∀i,i<n→∃x R,dec (cells w) e (fun j=>cs[i*e.cells+j]?)=some (x,[],R)∧Wf e x∧d0b e x≤bulk ((xs.getD i (.nil,[])).1)∧∀c∈R,c<w.heap.size:=fun i hi=>by
   have C:=hf i hi;rw[lG (by omega),h0s E]at C;obtain⟨x,R,A,F,M,G⟩:=ih.1 X m _ _ E l C;refine⟨x,R,a0k e A (fun j D=>?_) (fun _ _ _=>rfl),F,by rw[lD,lG (by omega)];exact M,G⟩;rw[a18 D,a14]
  obtain⟨ys,Rs,A,F,M,G⟩:=m0j (p:=Wf e) (q:=fun c=>c<w.heap.size) (g:=d0b e) (b:=fun i=>bulk ((xs.getD i (.nil,[])).1)) n 0 (fun j D=>by
   obtain⟨x,R,k1,k2,k3,k4⟩:=one j D;rw[a08];exact⟨x,R,k1,k2,k3,k4⟩)
  have J:((a32 0 n).map fun i=>bulk ((xs.getD i (.nil,[])).1)).sum=((xs.map (·.1)).map bulk).sum:=by
   rw[List.map_map,Go.Deep.map_by_index xs (.nil,[]) (bulk∘(·.1)),V,a25];rfl
  refine⟨ys,Rs,by simp only[dec];exact A,⟨b0b _ _ A,F⟩,?_,G⟩;simp only[d0b];exact a03 (a03 M (Nat.le_of_eq J)) (O.agg _)
end
end Go.Ab
namespace Go.Ab
open Go.ChangeShapes Go.WideShapes Go.RowKit
def x0c(ps:List PA)(x:(c0m (ps.map PA.ty)).den):Prop:=∀it∈a0z ps x,Wf it.1.ty it.2
def q0k(ps:List PA)(x:(c0m (ps.map PA.ty)).den):Nat:=((a0z ps x).map fun it=>d0b it.1.ty it.2).sum
def f0r(P:Program):List PA→List TypeId→Bool
 | [],[]=>true
 |.v t::ps,T::Ts=>a0i P t (.inl T)&&(f0q t&&(P.readableRec T&&(decide (T<P.types.size)&&f0r P ps Ts)))
 |_,_=>false
section
variable {H:Type} {enc:TypeId×Value→H} {P:Program} {w:World} {base:Nat} {sp:Nat→Bool} {held:Bool} {bulk:DataW H→Nat}
theorem v0e(u:Bulk bulk)(hs:∀b,sp b=true){t:Ty}{T:TypeId}{v:Value}{d:DataW H}{ps:List MemPlace}{r:Reach}{b0:Nat}(g:a0i P t (.inl T)=true)(hf:f0q t=true)(f:Value.okWide P w r b0 T v)(h:DataW.Trod enc P w base sp held T v d ps):
  ∃x,VOk (cells w) (fun c=>c<w.heap.size) t x v∧Wf t x∧d0b t x≤bulk d:=by
 obtain⟨n,y⟩:=h;have e:t.isAgg=true→∃cs,v=.agg cs∧cs.size=P.cellsOf T∧Row.okWide P w r b0 T cs:=fun a=>by
  cases t<;>simp only[Ty.isAgg,a15]at a
  all_goals
   simp only[a0i,bA]at g;obtain⟨-,g⟩:=g
   split at g
   rename_i j;simp only[Value.okWide,j]at f;exact f;cases g
 have one:t.isAgg=false→Cell.okWide P w r b0 T v:=fun a=>by
  cases t<;>simp only[Ty.isAgg,Bool.true_eq_false]at a
  case fn=>simp[a0i]at g
  case hd=>simp[a0i]at g
  all_goals
   simp only[a0i,bA]at g;obtain⟨-,g⟩:=g
   split at g
   rename_i j;simp only[Value.okWide,j]at f;exact f;cases g
 have k:t.isAgg=false→b0v v=true:=fun a=>by
  have:=one a
  cases v<;>first|rfl|skip
  all_goals
   exfalso
   unfold Cell.okWide at this
   split at this<;>first|(rename_i i;cases i;done)|skip
   all_goals
    unfold Cell.ok at this
    split at this<;>first|(rename_i i;cases i;done)|exact this
 obtain⟨x,R,l,m,o,p⟩:=(E0o u hs t).1 T n v.cells.toList _ g hf y;refine⟨x,⟨fun a=>?_,k,R,?_,p⟩,m,o⟩;obtain⟨cs,q,s,-⟩:=e a;exact⟨cs,q,by rw[s,h0s g]⟩;simpa only[a22]using l
theorem w0k(z:Bulk bulk)(hs:∀b,sp b=true){r:Reach}{b0:Nat}:∀(ps:List PA)(Ts:List TypeId)(vs:List Value)(ds:List (DataW H)) (p:List MemPlace),f0r P ps Ts=true→(∀(j:Nat) T v,Ts[j]?=some T→vs[j]?=some v→Value.okWide P w r b0 T v)→
  DataW.TrodAll enc P w base sp held Ts vs ds p→
  ∃x:(c0m (ps.map PA.ty)).den,vs.length=ps.length∧x0c ps x∧q0k ps x≤(ds.map bulk).sum∧ds.length=ps.length∧
   ∀(k:Nat) it v,(a0z ps x)[k]?=some it→vs[k]?=some v→∃t y,it=⟨.v t,y⟩∧VOk (cells w) (fun c=>c<w.heap.size) t y v
 | [],[],vs,ds,p,_,_,h=>by
  obtain⟨rfl,rfl,rfl⟩:=trodAll_nil h;exact⟨(),rfl,by simp[x0c,a0z],by simp[q0k,a0z],rfl,by simp[a0z]⟩
 | [.v t],T::Ts,vs,ds,p,hp,hv,h=>by
  simp only[f0r,bA]at hp;obtain⟨n,o,-,-,s⟩:=hp;obtain⟨v,i,d,e,q,F,rfl,rfl,rfl,l,m⟩:=trodAll_cons h;cases Ts with
  |cons T' Ts=>simp[f0r]at s
  |nil=>
   obtain⟨rfl,rfl,rfl⟩:=trodAll_nil m;obtain⟨x,B,C,D⟩:=v0e z hs n o (hv 0 T v rfl rfl) l;refine⟨x,rfl,fun it g=>by obtain rfl:=List.mem_singleton.1 g;exact C,by simp only[q0k,a0z,a11,a20,a17,List.sum_nil,a19];exact D,rfl,fun k it u f a=>?_⟩;cases k with
   |zero=>
    simp only[a0z,a01,sj]at f a;subst f;subst a;exact⟨t,x,rfl,B⟩
   |succ k=>simp[a0z]at f
 |.v t::p'::ps,T::Ts,vs,ds,p,hp,hv,h=>by
  simp only[f0r,bA]at hp;obtain⟨n,o,-,-,s⟩:=hp;obtain⟨v,i,d,e,q,F,rfl,rfl,rfl,l,m⟩:=trodAll_cons h;obtain⟨x,B,C,D⟩:=v0e z hs n o (hv 0 T v rfl rfl) l;obtain⟨y,l1,l2,E,G,I⟩:=w0k z hs (p'::ps) Ts i e F s (fun j T v hT A=>hv (j+1) T v (by simpa using hT) (by simpa using A)) m;refine⟨(x,y),by simp[l1],fun it g=>?_,?_,by simp[G],fun k it u f a=>?_⟩;rcases mC.1 g with rfl|g;exact C;exact l2 it g;simp only[q0k,a0z,a11,a17]at E⊢;exact Nat.add_le_add D E
  ·cases k with
   |zero=>
    simp only[a0z,a01,sj]at f a;subst f;subst a;exact⟨t,x,rfl,B⟩
   |succ k=>exact I k it u (by simpa[a0z]using f) (by simpa using a)
 |.r _ _::_,_,_,_,_,hp,_,_=>by simp[f0r]at hp
 |.v _::_,[],_,_,_,hp,_,_=>by simp[f0r]at hp
 | [],_::_,_,_,_,hp,_,_=>by simp[f0r]at hp
theorem A0n(a:laidOutB P=true){W W':World}{sp':Nat→Bool}:∀(ps:List PA)(Ts:List TypeId)(vs:List Value)(ds:List (DataW H)) (p:List MemPlace),f0r P ps Ts=true→
  DataW.TrodAll enc P W base (fun _=>true) true Ts vs ds p→(∀q∈p,W.sameAt W' q)→(∀q∈p,sp' q.block=true)→DataW.TrodAll enc P W' base sp' true Ts vs ds p
 | [],[],vs,ds,p,_,h,_,_=>by
  obtain⟨rfl,rfl,rfl⟩:=trodAll_nil h;exact trodAll_mk0
 |.v t::ps,T::Ts,vs,ds,p,hp,h,hs,hsp=>by
  simp only[f0r,bA,dT]at hp;obtain⟨-,-,e,i,j⟩:=hp;obtain⟨v,k,d,f,q,l,rfl,rfl,rfl,b,c⟩:=trodAll_cons h;exact trodAll_cons_mk (WideElems.Trod_stays a e i b (fun x g=>hs x (a26 _ g)) (fun x g=>hsp x (a26 _ g)))
   (A0n a ps Ts k f l j c (fun x g=>hs x (a23 _ g)) (fun x g=>hsp x (a23 _ g)))
 |.r _ _::_,_,_,_,_,hp,_,_,_=>by simp[f0r]at hp
 |.v _::_,[],_,_,_,hp,_,_,_=>by simp[f0r]at hp
 | [],_::_,_,_,_,hp,_,_,_=>by simp[f0r]at hp
theorem p0h:∀(ps:List PA)(Ts:List TypeId)(i:Nat),f0r P ps Ts=true→a0o ps i=[]
 | [],_,_,_=>rfl
 |.v t::ps,T::Ts,i,h=>by
  simp only[f0r,bA]at h;exact p0h ps Ts (i+1) h.2.2.2.2
 |.v _::_,[],_,h=>by simp[f0r]at h
 |.r _ _::_,_,_,h=>by simp[f0r]at h
theorem E0k{bulk:DataW H→Nat}(A:Bulk bulk){f:FuncId}{fn:Func}{s:FSem}{spec:ChangeSpec}{tb:TypeId}{N:Nat}{G:GTab}(hF:h0p P G f s)(hl:laidOutB P=true)(D:f0r P s.ps fn.params.toList=true)
  (g0:s.rs=[.v .bool])(g6:fn.resultTypes=#[tb])(g8:P.underlying tb=some .bool)(d:spec.vars=[])(I:∀ds:List (DataW H),ds.length=s.ps.length→spec.fn H ds={ results:=[.lit (.bool true)],args:=ds })
  (V:∀x,x0c s.ps x→q0k s.ps x≤N→∃y,s.F x=some y∧(c0r (RA.all s.ps s.rs) y)[0]?=some ⟨.v .bool,true⟩)
  {W:World}{b0:Nat}{args:Array Value}{ds gs:List (DataW H)}{before:List MemPlace}{apart fresh handsOn:Bool}
  (h7:G.m=none)(M:∀g t x,G.g g=some ⟨t,x⟩→g<W.heap.size∧dec (a0a W none) t ((Src.at g 0).rd (a0a W none))=some (x,[],[]))
  (h5:∀(j:Nat) t v,fn.params[j]?=some t→args[j]?=some v→Value.okWide P W .any b0 t v)(hW:DataW.Whole enc P fn.params.toList spec.vars apart W args.toList ds gs before)(hN:((ds++gs).map bulk).sum≤N):
  Calls P f args W fun e W'=>∃v,e=.returned v∧spec.post enc P fn apart fresh handsOn false W args v W':=by
 have Y:=hW.lt;have h8:=hW;obtain⟨p,q,hA,hV,rfl,g9,k0⟩:=hW;rw[d]at hV;obtain⟨rfl,rfl⟩:=trodVars_none hV;obtain⟨x,g1,g2,g3,g4,g5⟩:=w0k A (fun _=>rfl) s.ps fn.params.toList args.toList ds p D (fun j T v hT hv=>h5 j T v (by simpa using hT) (by simpa using hv)) hA;rw[a07]at hN;obtain⟨y,hy,C⟩:=V x g2 (a03 g3 hN);have h0:=p0h s.ps fn.params.toList 0 D
 let B:Base:={ size:=W.heap.size,hp:=fun b=>W.heap[b]?,F:=fun _=>False,S:=fun _=>True,io:=c0o W }
 let σ:Gh:=⟨fun _=>.one undef,fun _=>[],none⟩
 have h4:∀n,(ini s.ps x).rt n=none:=fun n=>by
  cases hr:(ini s.ps x).rt n with
  |none=>rfl
  |some r=>
   obtain⟨i,c,a,y,-,hi,-⟩:=A0d hr;have U:=(lS.1 hi).1;rw[e0f,←g1]at U;obtain⟨t,y',e,-⟩:=g5 i _ _ hi (lG U);cases e
 have g7:args.size=s.ps.length:=by rw[←g1];simp
 have Z:Rel B (ini s.ps x) s.ps.length (fun i=>args.getD i undef) W σ:=by
  refine⟨fun n r hr=>?_,fun n _=>rfl,fun n=>by simp[σ],fun n n' _ c O=>by simp[σ]at O,fun n p hp=>by simp[σ]at hp,fun i hi=>?_,trivial,a09 _,fun b _ _=>rfl,fun c O=>?_,fun i b l=>?_,rfl⟩;rw[h4]at hr;cases hr;have h9:i<args.toList.length:=by rw[g1];exact hi
  have u:=lG h9;have Q:i<(a0z s.ps x).length:=by rw[e0f];exact hi
  obtain⟨t,z,h1,J⟩:=g5 i _ _ (lG Q) u;have he:args.getD i undef=args.toList[i]:=by
   simp only[a13,←a22,u,Option.getD_some]
  simp only[ini,lG Q,h1,he];exact VOk.valAV (VOk.frame J (fun _ _ _=>rfl) (fun c O=>⟨O,.inl trivial,fun⟨n,hn⟩=>by simp[σ]at hn⟩));obtain⟨n,hn⟩:=O;simp[σ]at hn;simp only[B]at l;cases l
 refine(hF W B σ args x y ⟨fun g t z hg=>⟨(M g t z hg).1,trivial,fun h=>h,W,rfl,(M g t z hg).2⟩,fun t b L h=>by rw[h7]at h;cases h⟩ hy rfl (fun _=>rfl) rfl g7 Z (fun i hi _=>by rw[h0]at hi;cases hi)).mono ?_
 rintro e W' ⟨vr,Ls,rfl,h6,w⟩
 rw[g0]at h6;rw[h0,a20,a07]at w;obtain⟨v,rfl⟩:∃v,vr=[v]:=by
  match vr,h6 with
  | [v],_=>exact⟨v,rfl⟩
 have X:=w.ll;rw[←w.lv]at X;obtain⟨L,rfl⟩:∃L,Ls=[L]:=by
  match Ls,X with
  | [L],_=>exact⟨L,rfl⟩
 obtain⟨hv,-⟩:=w.ok 0 _ v L C rfl rfl;have hv:v=.bool true:=by
  obtain⟨-,J,R,K,-⟩:=hv;have J:=J rfl;simp only[dec]at K
  split at K
  rename_i b l;simp only[sj]at K;obtain⟨rfl,-⟩:=K;cases v<;>simp[b0v,Value.cells]at J l;rw[l];cases K
 subst hv;have k:∀b,b<W.heap.size→W'.heap[b]?=W.heap[b]?:=fun b l=>w.frame b l (fun h=>h);have E:=I ds g4;refine⟨_,rfl,ds,[],p++[],[],p,[],h8,?_,?_,?_,⟨?_,?_,fun i hi=>?_⟩,fun h=>by cases h⟩;rw[a07,E,g6];exact trodAll_cons_mk (p:=[]) (p':=[]) (shut_bool g8 _) trodAll_mk0
 ·rw[a07,E];refine A0n hl s.ps _ _ _ _ D hA (fun q hq=>?_) (fun q hq=>by simpa using Y q (by simpa using hq));have l:=Y q (by simpa using hq);cases q with
  |cell b off=>
   simp only[World.sameAt,World.cell?];rw[k b l]
  |map b=>exact k b l
 rw[a07,E,d];rfl
 have:=w.still
 simp only[c0o,B,pJ]at this;exact this.1
 have:=w.still
 simp only[c0o,B,pJ]at this;exact this.2
 ·rw[k i hi];cases W.heap[i]? with
  |none=>rfl
  |some o=>
   cases o with
   |cells c t fr=>exact⟨rfl,rfl,rfl,fun _ _=>rfl⟩
   |map es clock=>exact .inr ⟨rfl,rfl⟩
   |_=>rfl
end
end Go.Ab
namespace Go.Ab
def d0a (P:Program):Ty→TypeId ⊕ List Field→Bool
 |.int _,.inl _=>true
 |.bool,.inl _=>true
 | .pair a b, .inl t => !P.stoodInHeld t && (match P.underlying t with | some (.struct fs) => (match fs.toList with | f :: r => f.name != "_" && (d0a P a (.inl f.type) && d0a P b (.inr r)) | [] => false) | _ => false)
 | .pair a b, .inr (f :: r) => f.name != "_" && (d0a P a (.inl f.type) && d0a P b (.inr r))
 |.unit,.inr []=>true
 |_,_=>false
def h0u:Ty→Nat
 |.pair a b=>h0u a+h0u b+1
 |_=>0
def B0l(P:Program)(τ:Ty)(t:TypeId):Bool:=
 !P.eqGuardType P.depth t&&(τ.isAgg&&(decide (h0u τ≤9999)&&d0a P τ (.inl t)))
section
variable {P:Program} {w:World} {cx:Cx}
theorem o0d{τ:Ty}{t:TypeId}(f:a0i P τ (.inl t)=true)(g:τ.isAgg=false){xs:Array Value}{off:Nat}{v:Value}(hv:xs[off]?=some v):(part t xs off).run P w=.ok v w:=by
 have h:=e0z f w;rw[g]at h;simp[part,h,hv]
theorem x0y{m:Mem}{Sh:Nat→Prop}:∀(τ:Ty),
  (∀(t:TypeId)(d:Nat) x y u v,h0u τ≤d→a0i P τ (.inl t)=true→d0a P τ (.inl t)=true→VOk m Sh τ x u→VOk m Sh τ y v→(Op.equalIn (d+1) t u v).run P w=.ok (eqT τ x y) w)∧
  (∀(fs:List Field)(off d:Nat)(xs ys:Array Value) x y R o,h0u τ≤d+1→a0i P τ (.inr (fs,off))=true→d0a P τ (.inr fs)=true→dec m τ (fun j=>xs[off+j]?)=some (x,[],R)→dec m τ (fun j=>ys[off+j]?)=some (y,[],o)→
   (∀c∈R,Sh c)→(∀c∈o,Sh c)→(Op.eqFields (d+1) xs ys fs).run P w=.ok (eqT τ x y) w):=by
 have n:∀(a b:Ty)(off:Nat)(p:Array Value)(x:(Ty.pair a b).den) R,dec m (.pair a b) (fun j=>p[off+j]?)=some (x,[],R)→(∀c∈R,Sh c)→
   ∃R1 R2,dec m a (fun j=>p[off+j]?)=some (x.1,[],R1)∧dec m b (fun j=>p[off+a.cells+j]?)=some (x.2,[],R2)∧(∀c∈R1,Sh c)∧∀c∈R2,Sh c:=by
  intro a b off p x R h B;obtain⟨x1,o1,r1,x2,o2,r2,A,D,rfl,H,rfl⟩:=c0h h;obtain⟨rfl,rfl⟩:=List.append_eq_nil_iff.1 H.symm;refine⟨r1,r2,A,?_,fun c C=>B c (by simp[C]),fun c C=>B c (by simp[C])⟩;have e:(fun j=>p[off+a.cells+j]?)=fun j=>p[off+(a.cells+j)]?:=by funext j;rw[a28]
  rw[e];exact D
 have room:∀(a:Ty)(off:Nat)(p:Array Value) x R,dec m a (fun j=>p[off+j]?)=some (x,[],R)→0<a.cells→off+a.cells≤p.size:=by
  intro a off p x R h C;obtain⟨u,q,-⟩:=e0b a h (a.cells-1) (by omega)
  have:=(a00.1 q).1
  omega
 intro τ
 induction τ with
 |int k=>
  refine⟨fun t d x y u v _ l _ q hv=>?_,fun _ _ _ _ _ _ _ _ _ _ _ i=>by simp[d0a]at i⟩;rw[a0e.int (g:=fun _=>.one undef) (rt:=fun _=>none) q,a0e.int (g:=fun _=>.one undef) (rt:=fun _=>none) hv];exact run_equalIn_int (P:=P) w d t k k x y (h0h l)
 |bool=>
  refine⟨fun t d x y u v _ l _ q hv=>?_,fun _ _ _ _ _ _ _ _ _ _ _ i=>by simp[d0a]at i⟩;rw[a0e.bool (g:=fun _=>.one undef) (rt:=fun _=>none) q,a0e.bool (g:=fun _=>.one undef) (rt:=fun _=>none) hv];have L:P.underlying t=some .bool:=by
   simp only[a0i,bA]at l;obtain⟨-,l⟩:=l
   split at l
   assumption
   cases l
  exact run_equalIn_bool (P:=P) w d t x y L
 |pair a b iha ihb=>
  have S:∀(fs:List Field)(off d:Nat)(xs ys:Array Value) x y R o,h0u (.pair a b)≤d+1→a0i P (.pair a b) (.inr (fs,off))=true→d0a P (.pair a b) (.inr fs)=true→dec m (.pair a b) (fun j=>xs[off+j]?)=some (x,[],R)→dec m (.pair a b) (fun j=>ys[off+j]?)=some (y,[],o)→
    (∀c∈R,Sh c)→(∀c∈o,Sh c)→(Op.eqFields (d+1) xs ys fs).run P w=.ok (eqT (.pair a b) x y) w:=by
   intro fs off d xs ys x y R o hd l i hx hy B E;cases fs with
   |nil=>simp[d0a]at i
   |cons f r=>
    simp only[h0u]at hd;simp only[a0i,bA,beq_iff_eq,dT]at l;obtain⟨⟨⟨H,s⟩,hac⟩,htb⟩:=l;simp only[d0a,bA,bne_iff_ne,ne_eq]at i;obtain⟨hn,F,G⟩:=i;obtain⟨R1,R2,A,D,Z,g2⟩:=n a b off xs x R hx B;obtain⟨R3,U,Q,h4,g3,g4⟩:=n a b off ys y o hy E;obtain⟨u,V,q⟩:=m0x (w:=w) s A Z (room a off xs _ _ A hac);obtain⟨v,W,hv⟩:=m0x (w:=w) s Q g3 (room a off ys _ _ Q hac);have X:=iha.1 f.type d x.1 y.1 u v (by omega) s F q hv;have Y:=ihb.2 r (off+a.cells) d xs ys x.2 y.2 R2 U (by omega) htb G D h4 g2 g4;simp only[Op.eqFields,Sem.run_ite,ne_eq,hn,not_false_eq_true,if_true,Sem.run_bind,H,V,W,X,Result.andThen_ok,eqT];cases hb:eqT a x.1 y.1
    simp
    rw[Y]
    simp
  refine⟨fun t d x y u v hd l i q hv=>?_,S⟩;obtain⟨I,-,R,J,K⟩:=q;obtain⟨M,-,o,N,O⟩:=hv;obtain⟨xs,rfl,-⟩:=I rfl;obtain⟨ys,rfl,-⟩:=M rfl;simp only[h0u]at hd;obtain⟨d,rfl⟩:∃k,d=k+1:=⟨d-1,by omega⟩;simp only[d0a,bA,a06]at i;obtain⟨hs,i⟩:=i;simp only[a0i,bA]at l;obtain⟨-,l⟩:=l;cases hund:P.underlying t with
  |none=>rw[hund]at i;cases i
  |some T=>
   rw[hund]at i l;cases T with
   |struct fs=>
    simp only at i l;cases hfl:fs.toList with
    |nil=>rw[hfl]at i;cases i
    |cons f r=>
     rw[hfl]at i l;have z:P.fieldsOf t=fs:=by simp[Program.fieldsOf,hund]
     rw[run_equalIn_struct w (d+1) t xs ys (by rw[z];exact hund) hs,z,hfl];refine S (f::r) 0 d xs ys x y R o (by simp only[h0u];omega) ?_ ?_ (by simpa[Value.cells]using J) (by simpa[Value.cells]using N) K O;simp only[a0i,a08];simpa using l;simpa[d0a]using i
   |_=>cases i
 |unit=>
  refine⟨fun _ _ _ _ _ _ _ _ i=>by simp[d0a]at i,fun fs off d xs ys x y R o _ _ i _ _ _ _=>?_⟩;cases fs with
  |nil=>simp[Op.eqFields,eqT]
  |cons f r=>simp[d0a]at i
 |_=>exact⟨fun _ _ _ _ _ _ _ _ i=>by simp[d0a]at i,fun _ _ _ _ _ _ _ _ _ _ _ i=>by simp[d0a]at i⟩
theorem p0n.of{τ:Ty}{t:TypeId}(c:a0i P τ (.inl t)=true)(h:B0l P τ t=true):p0n P τ t:=by
 simp only[B0l,bA,a06,dT]at h;obtain⟨f,g,hd,hp⟩:=h;intro m Sh x y u v w a b k hv;have key:=(x0y (P:=P) (w:=w) (m:=m) (Sh:=Sh) τ).1 t 9999 x y u v hd c hp k hv;obtain⟨xs,rfl,-⟩:=k.1 g;obtain⟨ys,rfl,-⟩:=hv.1 g;refine⟨⟨run_eqGuard_agg w _ t a b xs ys f,?_⟩,run_eqGuard_agg w _ t a b xs ys f,?_⟩;rw[run_eql_struct,key];rfl;rw[run_neq_struct,key];rfl
def x0x(P:Program)(τ:Ty)(t:TypeId):Bool:=
 !P.eqGuardType P.depth t&&(match τ,P.underlying t with
  |.arr n (.int k),some (.array n' e)=>n'==n&&(P.cellsOf e==1&&((P.info? e).isSome&&a0i P (.int k) (.inl e)))
  |_,_=>false)
theorem p0a{d e:Nat}{k:IntKind}(g:a0i P (.int k) (.inl e)=true){xs ys:Array Value}{x y:List Int}(l:∀i (h:i<x.length),xs[i]?=some (.int k x[i]))(m:∀i (h:i<y.length),ys[i]?=some (.int k y[i])):
  ∀(is:List Nat),(∀i∈is,i<x.length∧i<y.length)→(Op.eqItems (d+1) e 1 xs ys is).run P w=.ok (is.all fun i=>x[i]?==y[i]?) w
 | [],_=>by simp[Op.eqItems]
 |i::is,h=>by
  obtain⟨b,c⟩:=h i (by simp);have n:=o0d (w:=w) g rfl (show xs[i*1]?=_ by rw[a33];exact l i b);have o:=o0d (w:=w) g rfl (show ys[i*1]?=_ by rw[a33];exact m i c);have p:=run_equalIn_int (P:=P) w d e k k x[i] y[i] (h0h g);have r:=p0a (d:=d) g l m is (fun j q=>h j (by simp[q]));simp only[Op.eqItems,Sem.run_bind,n,o,p,Result.andThen_ok];have f:x[i]?=some x[i]:=lG b;have a:y[i]?=some y[i]:=lG c;cases hb:x[i]==y[i];simp[f,a,hb];simp only[bT,a15,if_false,r,a29,f,a]
  have:(some x[i]==some y[i])=true:=by simpa using hb
  rw[this,Bool.true_and]
theorem x0b:∀(x y:List Int),x.length=y.length→((List.range x.length).all fun i=>x[i]?==y[i]?)=((a30 (fun(a b:Int)=>a==b) x y).all id)
 | [],[],_=>rfl
 |a::x,b::y,h=>by
  have g:=x0b x y (by simpa using h);rw[lC,List.range_succ_eq_map,a29,List.all_map,List.zipWith_cons_cons,a29,←g];simp[Function.comp_def]
theorem p0n.ofArr{τ:Ty}{t:TypeId}(h:x0x P τ t=true):p0n P τ t:=by
 simp only[x0x,bA,a06]at h;obtain⟨K,h⟩:=h
 split at h
 rotate_left;cases h;rename_i n k l e C;simp only[bA,beq_iff_eq]at h;obtain⟨rfl,O,hi,T⟩:=h;obtain⟨i,hi⟩:=Option.isSome_iff_exists.1 hi;intro m Sh x y u v w M N U hv;obtain⟨E,-,R,F,-⟩:=U;obtain⟨G,-,Y,H,-⟩:=hv;obtain⟨xs,rfl,-⟩:=E rfl;obtain⟨ys,rfl,-⟩:=G rfl;have f:∀{J:Array Value}{z:List Int}{R},dec m (.arr l (.int k)) (fun j=>(Value.agg J).cells[j]?)=some (z,[],R)→z.length=l∧∀i (h:i<z.length),J[i]?=some (.int k z[i]):=by
  intro J z R I;simp only[dec]at I;have L:z.length=l:=b0b l 0 I;refine⟨L,fun i q=>?_⟩;obtain⟨a,o,r,A,B,X,B',g,p,-⟩:=b0a l 0 i I (L▸q);have p:z[i]?=some (show Int from a):=p;have p:z[i]=(show Int from a):=Option.some.inj ((lG q).symm.trans p);simp only[Ty.cells,a08,a33,a19,Value.cells]at g
  split at g
  rename_i k' n S;rw[Option.ite_none_right_eq_some]at g;obtain⟨rfl,g⟩:=g;have g:=(Prod.mk.inj (Option.some.inj g)).1;rw[S,p,←g];cases g
 obtain⟨c,V⟩:=f F;obtain⟨D,W⟩:=f H;have key:(Op.equalIn 10000 t (.agg xs) (.agg ys)).run P w=.ok (eqT (.arr l (.int k)) x y) w:=by
  rw[run_equalIn_array w 9999 xs ys C hi,O,p0a (d:=9998) T V W _ (fun j Q=>by rw[List.mem_range]at Q;omega)]
  have:=x0b x y (by rw[c,D])
  rw[c]at this;rw[this];have s:(a05 (show List Int from x)==a05 (show List Int from y))=true:=by rw[c,D];simp
  show _=Result.ok ((a30 (fun(a b:Int)=>a==b) x y).all id&&(a05 (show List Int from x)==a05 (show List Int from y))) w;rw[s,Bool.and_true]
 refine⟨⟨run_eqGuard_agg w _ t M N xs ys K,?_⟩,run_eqGuard_agg w _ t M N xs ys K,?_⟩;rw[run_eql_struct,key];rfl;rw[run_neq_struct,key];rfl
theorem k0t{α:Type}:∀(l:List (Nat×α)) (t:Nat) (x:α),find l t=some x→(t,x)∈l
 | [],_,_,h=>by simp[find]at h
 |(k,y)::r,t,x,h=>by
  simp only[find]at h;rcases a0b h with⟨f,g⟩|⟨-,h⟩;simp only[sj]at g
  have:k=t:=by simpa using f
  rw[this,g];exact List.mem_cons_self ..;exact a12 _ (k0t r t x h)
def E0y(P:Program)(tab:List (Nat×Ty)):Bool:=tab.all fun p=>decide (p.2.sh=p.2)&&a0i P p.2 (.inl p.1)
def E0w(P:Program)(l:List Nat):Bool:=l.all fun t=>match P.underlying t with|some (.pointer _)=>true|_=>false
def E0t(P:Program)(tab:List (Nat×Ty))(l:List Nat):Bool:=l.all fun t=>match find tab t with|some τ=>!τ.isAgg || (B0l P τ t || x0x P τ t)|none=>true
theorem CxTy.of{tab:List (Nat×Ty)}{l q:List Nat}(hT:∀t,cx.T t=find tab t)(c:∀t,cx.E t=l.contains t)(d:∀t,cx.Q t=q.contains t)(f:E0y P tab=true)(k:E0w P q=true)(a:E0t P tab l=true)(b:∀t e,cx.G.w t=some e→t0p P t e:=by exact fun _ _ h=>by cases h):CxTy P cx:=by
 have ok:∀t τ,cx.T t=some τ→τ.sh=τ∧a0i P τ (.inl t)=true:=fun t τ h=>by
  rw[hT]at h
  have:=lA.1 f _ (k0t _ _ _ h)
  simp only[bA,dT]at this;exact this
 refine⟨ok,fun t g=>?_,fun t τ he hτ ha=>?_,b⟩;rw[d]at g
 have:=lA.1 k t (by simpa using g)
 split at this
 rename_i e i;exact⟨e,i⟩;cases this;rw[c]at he
 have:=lA.1 a t (by simpa using he)
 rw[←hT,hτ]at this;simp only[ha,bT,Bool.false_or,Bool.or_eq_true]at this;exact this.elim (p0n.of (ok t τ hτ).2) p0n.ofArr
theorem CxOk.of{fs:List (Nat×FSem)}(h:CxTy P cx)(g:∀f,cx.C f=find fs f)(hf:∀p∈fs,FOk P cx.G p.1 p.2):CxOk P cx:=
 ⟨h,fun f s hs=>by
  rw[g]at hs;exact hf _ (k0t _ _ _ hs)⟩
theorem a0{α:Type}{p:α→Prop}:∀x∈([]:List α),p x:=fun _ h=>by cases h
theorem E0d{G:GTab}{a:Nat×FSem}{l:List (Nat×FSem)}(h:FOk P G a.1 a.2)(f:∀x∈l,FOk P G x.1 x.2):∀x∈a::l,FOk P G x.1 x.2:=fun x g=>by
 rcases mC.1 g with rfl|g;exact h;exact f x g
theorem a1{G:GTab}{a:Nat×FSem}{l:List (Nat×FSem)}(h:h0p P G a.1 a.2∧n0e P a.1)(g:∀x∈l,FOk P G x.1 x.2):∀x∈a::l,FOk P G x.1 x.2:=E0d (.inl h) g
end
def z0n{α:Type}(x:List α):Option (List α):=bif List.isEmpty x then m0f (some ([]:List α)) (bif lim (0+a05 x)then some (List.append [] x)else none)else(bif lim (0+a05 x)then some (List.append [] x)else none)
def z0x{α:Type}(x:List α):Option (List α):=bif lim (0+a05 x)then some x else none
theorem E0s{α:Type}(x:List α):z0n x=z0x x:=by
 unfold z0n z0x;cases x with
 |nil=>exact x0g _
 |cons a x=>rfl
section
variable {α:Type} {f f':Nat→Option (α×b0k×List Nat)}
theorem k0a:∀(n i:Nat){x},(∀j y,f j=some y→f' j=some y)→a0d f n i=some x→a0d f' n i=some x
 |0,_,_,_,h=>h
 |n+1,i,x,hf,h=>by
  simp only[a0d]at h⊢
  split at h
  cases h;rename_i c o1 a g;rw[hf _ _ g];simp only[]
  split at h
  cases h;rename_i xs os b k;rw[k0a n (i+1) hf k];exact h
end
theorem f0w{m m':Mem}(g:∀b j v,m b j=some v→m' b j=some v):∀(t:Ty){rd rd':Nat→Option Value}{x},(∀j v,rd j=some v→rd' j=some v)→dec m t rd=some x→dec m' t rd'=some x
 |.int k,rd,rd',x,hr,h=>by
  simp only[dec]at h⊢
  split at h
  rename_i hv;rw[hr _ _ hv];exact h;cases h
 |.bool,rd,rd',x,hr,h=>by
  simp only[dec]at h⊢
  split at h
  rename_i hv;rw[hr _ _ hv];exact h;cases h
 |.str,rd,rd',x,hr,h=>by
  simp only[dec]at h⊢
  split at h
  rename_i hv;rw[hr _ _ hv];exact h;cases h
 |.unit,rd,rd',x,hr,h=>h
 |.fn f,rd,rd',x,hr,h=>by
  simp only[dec]at h⊢
  split at h
  rename_i hv;rw[hr _ _ hv];exact h;cases h
 |.hd,rd,rd',x,hr,h=>by
  simp only[dec]at h⊢
  split at h
  rename_i hv;rw[hr _ _ hv];exact h;cases h
 |.pair a b,rd,rd',x,hr,h=>by
  simp only[dec]at h⊢
  split at h
  cases h;rename_i u o1 r e;rw[f0w g a hr e];simp only[]
  split at h
  cases h;rename_i w o2 r2 l;rw[f0w g b (fun j v=>hr _ v) l];exact h
 |.arr n t,rd,rd',x,hr,h=>by
  simp only[dec]at h⊢;exact k0a n 0 (fun j y d=>f0w g t (fun i v=>hr _ v) d) h
 |.list o t,rd,rd',x,hr,h=>by
  simp only[dec]at h⊢;unfold a0w at h⊢
  split at h
  rename_i n c hv;rw[hr _ _ hv];exact h;rename_i a n c hv;rw[hr _ _ hv];simp only[]
  split at h
  rename_i q;rw[if_pos q]
  split at h
  cases h;rename_i xs os s p;rw[k0a n 0 (fun j y d=>f0w g t (fun i v hv=>g _ _ _ hv) d) p];exact h;cases h;cases h
 |.nl t,rd,rd',x,hr,h=>by
  simp only[dec]at h⊢
  split at h
  rename_i hv;rw[hr _ _ hv];exact h;cases h
theorem Src.rd_grow{m m':Mem}(g:∀b j v,m b j=some v→m' b j=some v)(s:Src):∀j v,s.rd m j=some v→s.rd m' j=some v:=by
 intro j v h;cases s with
 |one u=>exact h
 |_=>exact g _ _ _ h
theorem g0c{m m':Mem}(f:∀b j v,m b j=some v→m' b j=some v):∀(p:a0l)(t:Ty)(s:Src){x},a0t m p t s=some x→a0t m' p t s=some x
 | [],t,s,x,h=>h
 |.fst::p,t,s,x,h=>by
  unfold a0t at h⊢
  split at h
  exact g0c f p _ _ h;cases h
 |.snd::p,t,s,x,h=>by
  unfold a0t at h⊢
  split at h
  exact g0c f p _ _ h;cases h
 |.idx i::p,t,s,x,h=>by
  unfold a0t at h⊢
  split at h
  rename_i n k bl o
  split at h
  rename_i g;simp only[if_pos g];exact g0c f p _ _ h;cases h;rename_i k s'
  split at h
  rename_i a n c hv
  split at h
  rename_i g;simp only[Src.rd_grow f s _ _ hv,if_pos g];exact g0c f p _ _ h;cases h;cases h;cases h
structure Turns (B:Base) (w w':World):Prop where
 cells:∀(c:Nat)(o:Obj),w.heap[c]?=some o→o.isCells=true→w'.heap[c]?=some o
 size:w.heap.size≤w'.heap.size
 frame:∀b,b<B.size→w'.heap[b]?=w.heap[b]?
 io:c0o w'=c0o w
theorem s0x{w w':World}(h:∀(c:Nat)(o:Obj),w.heap[c]?=some o→o.isCells=true→w'.heap[c]?=some o)(ov:Option (Nat×Nat×Value)):∀b j v,a0a w ov b j=some v→a0a w' ov b j=some v:=by
 have f:∀b j v,w.cell? ⟨b,j,none⟩=some v→w'.cell? ⟨b,j,none⟩=some v:=fun b j v hv=>by
  obtain⟨o,g,k⟩:=cells_of_cell hv;have a:=h b o g k;unfold World.cell? at hv⊢;simp only[g]at hv;simp only[a];exact hv
 intro b j v hv;cases ov with
 |none=>exact f b j v hv
 |some y=>
  obtain⟨d,i,u⟩:=y;simp only[a0a]at hv⊢;split;rename_i e;rw[if_pos e]at hv;exact hv;rename_i e;rw[if_neg e]at hv;exact f b j v hv
theorem Rel.turnedG{B:Base}{Γ:AE}{N:Nat}{tm:Nat→Value}{w w':World}{σ:Gh}(h:Rel B Γ N tm w σ)(f:∀(c:Nat)(o:Obj),w.heap[c]?=some o→o.isCells=true→w'.heap[c]?=some o)
  (z:w.heap.size≤w'.heap.size):Rel { B with hp:=fun b=>w'.heap[b]?,io:=c0o w' } Γ N tm w' σ:=by
 have y:=s0x f σ.ov;have A:∀c,Shr B w σ c→Shr { B with hp:=fun b=>w'.heap[b]?,io:=c0o w' } w' σ c:=fun c D=>⟨a02 D.1 z,D.2⟩;have F:∀a v,a0e (a0a w σ.ov) σ.g Γ.rt (Shr B w σ) a v→a0e (a0a w' σ.ov) σ.g Γ.rt (Shr { B with hp:=fun b=>w'.heap[b]?,io:=c0o w' } w' σ) a v:=fun a v C=>by
  cases a with
  |val t x=>
   obtain⟨j,m,R,q,E⟩:=C;exact⟨j,m,R,f0w y t (fun _ _ hv=>hv) q,fun c D=>A c (E c D)⟩
  |vptr t x=>
   obtain⟨b,o,R,j,m,q,E⟩:=C;exact⟨b,o,R,j,f0w y t (Src.rd_grow y _) m,A b q,fun c D=>A c (E c D)⟩
  |ptr n p=>
   obtain⟨r,t,b,o,j,m,q⟩:=C;exact⟨r,t,b,o,j,g0c y p _ _ m,q⟩
  |sref n p=>
   obtain⟨r,e,s,j,m,q⟩:=C;exact⟨r,e,s,j,g0c y p _ _ m,Src.rd_grow y s _ _ q⟩
  |swin n p off len=>
   obtain⟨r,e,s,a,l,c,j,m,q,E⟩:=C;exact⟨r,e,s,a,l,c,j,g0c y p _ _ m,Src.rd_grow y s _ _ q,E⟩
  |_=>exact C
 refine⟨fun n r G=>?_,h.norm,h.nodup,h.disj,fun n p hp=>?_,fun i hi=>?_,?_,a03 h.size z,fun b _ _=>rfl,h.mine,h.pins,rfl⟩;obtain⟨H,R,I,J,K⟩:=(h.roots n r G).rd;exact⟨H,R,f0w y _ (Src.rd_grow y _) I,fun c D=>A c (J c D),K⟩;obtain⟨c,e,lo,hi,j,m,q⟩:=h.live n p hp;exact⟨c,e,lo,hi,f _ _ j rfl,m,q⟩
 ·have hs:=h.slots i hi
  revert hs
  cases Γ.sl i with
  |one a=>exact fun hs=>F a _ hs
  |cmp c as=>
   rintro⟨vs,j,m⟩
   exact⟨vs,j,fun k a L=>by
    obtain⟨u,P,C⟩:=m k a L;exact⟨u,P,F a u C⟩⟩
 exact h.pend.mono fun n p d r e b o O G M=>⟨r,G,g0c y p _ _ M⟩
theorem Rel.turned{B:Base}{Γ:AE}{N:Nat}{tm:Nat→Value}{w w':World}{σ:Gh}(h:Rel B Γ N tm w σ)(f:Turns B w w'):Rel B Γ N tm w' σ:=by
 have g:=h.turnedG f.cells f.size;exact⟨g.roots,g.norm,g.nodup,g.disj,g.live,g.slots,g.pend,g.size,fun b k a=>(f.frame b k).trans (h.frame b k a),g.mine,g.pins,f.io.trans h.still⟩
def Base.anew(B:Base)(w:World)(σ:Gh):Base where
 size:=w.heap.size
 hp:=fun b=>w.heap[b]?
 F:=a0u σ
 S:=fun c=>(B.S c∨B.F c∨B.size≤c)∧¬ a0u σ c
 pin:=fun i=>match B.pin i with
  |some b=>some b
  |none=>some (σ.g (pinned+i))
 io:=c0o w
theorem B0t{B:Base}{w:World}{σ:Gh}{c:Nat}:Shr (B.anew w σ) w σ c↔Shr B w σ c:=by
 constructor
 rintro⟨f,h,g⟩
 refine⟨f,?_,g⟩;rcases h with h|h|h;exact h.1;exact absurd h g;have h:w.heap.size≤c:=h;omega
 rintro⟨f,h,g⟩
 exact⟨f,.inl ⟨h,g⟩,g⟩
theorem Rel.anew{B:Base}{Γ:AE}{N:Nat}{tm:Nat→Value}{w:World}{σ:Gh}(h:Rel B Γ N tm w σ):Rel (B.anew w σ) Γ N tm w σ:=by
 have e:Shr (B.anew w σ) w σ=Shr B w σ:=funext fun c=>propext B0t;refine⟨fun n r d=>by rw[e];exact h.roots n r d,h.norm,h.nodup,h.disj,h.live,fun i hi=>by rw[e];exact h.slots i hi,h.pend,a09 _,fun b _ _=>rfl,fun c a=>.inl a,fun i b g k=>?_,rfl⟩;simp only[Base.anew]at g
 split at g
 rename_i j f;cases g;exact h.pins i b f k;cases g;rfl
theorem q0b{B:Base}{Γ0:AE}{N0:Nat}{tm0:Nat→Value}{w w':World}{σ σ':Gh}(g:Rel B Γ0 N0 tm0 w σ){f:Nat→Option Src}{c:Nat}(b:Shr { B.anew w σ with pin:=f } w' σ' c):Shr B w' σ' c:=by
 obtain⟨k,h,a⟩:=b;refine⟨k,?_,a⟩;rcases h with h|h|h;exact h.1;exact .inr (g.mine c h);have h:w.heap.size≤c:=h;exact .inr (.inr (a03 g.size h))
theorem Rel.backP{B:Base}{Γ0 Γ:AE}{N0 N:Nat}{tm0 tm:Nat→Value}{w w':World}{σ σ':Gh}{f:Nat→Option Src}(hf:∀i b,B.pin i=some b→f i=some b)(d:Rel B Γ0 N0 tm0 w σ)(h:Rel { B.anew w σ with pin:=f } Γ N tm w' σ'):Rel B Γ N tm w' σ':=by
 have l:∀c,Shr { B.anew w σ with pin:=f } w' σ' c→Shr B w' σ' c:=fun c j=>q0b d j;have e:∀a v,a0e (a0a w' σ'.ov) σ'.g Γ.rt (Shr { B.anew w σ with pin:=f } w' σ') a v→a0e (a0a w' σ'.ov) σ'.g Γ.rt (Shr B w' σ') a v:=fun a v o=>
  o.frame (fun _ _ _=>rfl) l fun n p r t s _ z K=>⟨r,z,K,fun _ _ A=>A⟩
 refine⟨fun n r z=>?_,h.norm,h.nodup,h.disj,h.live,fun i hi=>?_,h.pend,a03 d.size h.size,fun b m C=>?_,fun c j=>?_,fun i b m x=>h.pins i b (hf i b m) x,h.still.trans d.still⟩;obtain⟨D,R,E,F,G⟩:=(h.roots n r z).rd;exact⟨D,R,E,fun c j=>l c (F c j),G⟩
 ·have hs:=h.slots i hi
  revert hs
  cases Γ.sl i with
  |one a=>exact fun hs=>e a _ hs
  |cmp c as=>
   rintro⟨vs,H,I⟩
   exact⟨vs,H,fun k a J=>by
    obtain⟨u,A,o⟩:=I k a J;exact⟨u,A,e a u o⟩⟩
 have q:b<w.heap.size:=a02 m d.size;have y:¬ a0u σ b:=fun L=>by
  rcases d.mine b L with g|g;exact C g;omega
 exact(h.frame b q y).trans (d.frame b m C);rcases h.mine c j with g|g;exact d.mine c g;have g:w.heap.size≤c:=g;exact .inr (a03 d.size g)
theorem Rel.back{B:Base}{Γ0 Γ:AE}{N0 N:Nat}{tm0 tm:Nat→Value}{w w':World}{σ σ':Gh}(g:Rel B Γ0 N0 tm0 w σ)(h:Rel (B.anew w σ) Γ N tm w' σ'):Rel B Γ N tm w' σ':=
 g.backP (f:=(B.anew w σ).pin) (fun i b k=>by simp only[Base.anew,k]) h
theorem Rel.unpin{B:Base}{Γ:AE}{N:Nat}{tm:Nat→Value}{w:World}{σ:Gh}(h:Rel B Γ N tm w σ)(f:Nat→Option Src)(hf:∀i b,f i=some b→B.pin i=some b):Rel { B with pin:=f } Γ N tm w σ:=
 ⟨h.roots,h.norm,h.nodup,h.disj,h.live,h.slots,h.pend,h.size,h.frame,h.mine,fun i b k g=>h.pins i b (hf i b k) g,h.still⟩
def AE.renAll{ρ:Type}(Γ:AE):List Nat→(AE→Rs ρ)→Rs ρ
 | [],K=>K Γ
 |n::ns,K=>match Γ.look n,Γ.rt (pinned+1000+n)with
  |some r,none=>AE.renAll (((Γ.mapv (AV.ren n (pinned+1000+n))).setRt n none).setRt (pinned+1000+n) (some r)) ns K
  |_,_=>none
theorem Rel.renAll{ρ:Type}{B:Base}{N:Nat}{tm:Nat→Value}{w:World}(f:∀i b,1000≤i→B.pin i≠some b):∀(ns:List Nat){Γ:AE}{σ:Gh}{K:AE→Rs ρ}{z:ρ}(_:Rel B Γ N tm w σ)(_:Γ.renAll ns K=some z),∃Γ' σ',K Γ'=some z∧Rel B Γ' N tm w σ'
 | [],Γ,σ,K,z,h,hz=>⟨Γ,σ,hz,h⟩
 |n::ns,Γ,σ,K,z,h,hz=>by
  simp only[AE.renAll]at hz
  split at hz
  rename_i r k a;obtain⟨g,c⟩:=a0q k;exact Rel.renAll f ns (h.rename c a (fun i b e=>f i b (by omega)) (by simp[g])) hz;cases hz
def b0n:a0c→Bool
 | []=>true
 |.sv _ _::r=>b0n r
 |.box n _::r=>(decide (pinned≤n)&&!(a0c.names r).contains n)&&b0n r
 |.own _ n _::r=>(decide (pinned≤n)&&!(a0c.names r).contains n)&&b0n r
 |.ptr _ n []::r=>decide (pinned≤n)&&b0n r
 |_=>false
def u0m:SV→Prop
 |.one .dead=>True
 |.one (.val _ _)=>True
 |.one (.ptr n [])|.one (.sref n [])=>pinned≤n
 |_=>False
theorem j0r:∀(es:a0c)(x:es.ty.den)(_:b0n es=true)(i:Nat),u0m ((es.enc x).sl i)
 | [],_,_,i=>trivial
 |.sv k t::r,x,h,i=>by
  simp only[a0c.enc,c0t];split;trivial;exact j0r r x.2 (by simpa[b0n]using h) i
 |.box n t::r,x,h,i=>by
  simp only[b0n,bA]at h;exact j0r r x.2 h.2 i
 |.own k n e::r,x,h,i=>by
  simp only[b0n,bA,dT]at h;show u0m ((((a0c.enc r x.2).setRt n (some ⟨false,.list true e,x.1⟩)).set k (.sref n [])).sl i);rw[c0t];split;exact h.1.1;exact j0r r x.2 h.2 i
 |.ptr k n p::r,x,h,i=>by
  cases p with
  |cons=>simp[b0n]at h
  |nil=>
   simp[b0n]at h;simp[a0c.enc,c0t];split;exact h.1;exact j0r r x h.2 i
 |.vp _ _::_,_,h,_|.ref _ _ _::_,_,h,_|.rfi _ _::_,_,h,_|.win _ _ _::_,_,h,_|.clo _ _ _::_,_,h,_=>by simp[b0n]at h
theorem e0p:∀(es:a0c)(x:es.ty.den),(es.enc x).pd=none
 | [],_=>rfl
 |.sv _ _::r,x=>e0p r x.2
 |.box _ _::r,x=>e0p r x.2
 |.ptr _ _ _::r,x=>e0p r x
 |.own _ _ _::r,x=>e0p r x.2
 |.vp _ _::r,x=>e0p r x.2
 |.ref _ _ _::r,x=>e0p r x
 |.rfi _ _::r,x=>e0p r x.2
 |.win _ _ _::r,x=>e0p r x.2.2
 |.clo _ _ _::r,x=>e0p r x
theorem l0x:∀(es:a0c)(x:es.ty.den)(_:b0n es=true)(n:Nat),(es.enc x).rt n≠none→n∈es.names
 | [],_,_,n,h=>absurd rfl h
 |.sv k t::r,x,h,n,g=>l0x r x.2 (by simpa[b0n]using h) n g
 |.box m t::r,x,h,n,g=>by
  simp only[b0n,bA]at h;simp only[a0c.enc,i0m]at g
  split at g
  rename_i e;subst e;simp[a0c.names];simp only[a0c.names,mC];exact .inr (l0x r x.2 h.2 n g)
 |.own k m e::r,x,h,n,g=>by
  simp only[b0n,bA]at h;have g:((a0c.enc r x.2).setRt m (some ⟨false,.list true e,x.1⟩)).rt n≠none:=g;rw[i0m]at g
  split at g
  rename_i e;subst e;simp[a0c.names];simp only[a0c.names,mC];exact .inr (l0x r x.2 h.2 n g)
 |.ptr k m p::r,x,h,n,g=>by
  cases p with
  |cons=>simp[b0n]at h
  |nil=>
   simp[b0n]at h;exact l0x r x h.2 n g
 |.vp _ _::_,_,h,_,_|.ref _ _ _::_,_,h,_,_|.rfi _ _::_,_,h,_,_|.win _ _ _::_,_,h,_,_|.clo _ _ _::_,_,h,_,_=>by simp[b0n]at h
theorem i0f:∀(es:a0c)(x:es.ty.den)(_:b0n es=true){i n:Nat}(_:(es.enc x).sl i=.one (.sref n [])),n∈es.names∧∃e l,(es.enc x).rt n=some ⟨false,.list true e,l⟩
 | [],_,_,i,n,h=>by cases h
 |.sv k t::r,x,h,i,n,hs=>by
  have hs:((a0c.enc r x.2).set k (.val t x.1)).sl i=.one (.sref n []):=hs;rw[c0t]at hs
  split at hs
  cases hs;exact i0f r x.2 (by simpa[b0n]using h) hs
 |.box m t::r,x,h,i,n,hs=>by
  simp only[b0n,bA,a06,a27,decide_eq_false_iff_not]at h;obtain⟨f,e,l,b⟩:=i0f r x.2 h.2 (i:=i) (n:=n) hs;refine⟨by simp[a0c.names,f],e,l,?_⟩;show((a0c.enc r x.2).setRt m _).rt n=_;rw[i0m,if_neg (show ¬ n=m from fun g=>h.1.2 (g▸f))];omega
 |.own k m e::r,x,h,i,n,hs=>by
  simp only[b0n,bA,a06,a27,decide_eq_false_iff_not]at h;have hs:(((a0c.enc r x.2).setRt m (some ⟨false,.list true e,x.1⟩)).set k (.sref m [])).sl i=.one (.sref n []):=hs;show n∈_∧∃a l,((a0c.enc r x.2).setRt m (some ⟨false,.list true e,x.1⟩)).rt n=some ⟨false,.list true a,l⟩;rw[c0t]at hs;rw[i0m]
  split at hs
  cases hs;exact⟨by simp[a0c.names],e,x.1,by simp⟩;obtain⟨f,a,l,b⟩:=i0f r x.2 h.2 (i:=i) (n:=n) hs;exact⟨by simp[a0c.names,f],a,l,by grind⟩
 |.ptr k m p::r,x,h,i,n,hs=>by
  cases p with
  |cons=>simp[b0n]at h
  |nil=>
   simp only[b0n,bA]at h;have hs:((a0c.enc r x).set k (.ptr m [])).sl i=.one (.sref n []):=hs;rw[c0t]at hs
   split at hs
   grind
   exact i0f r x h.2 hs
 |.vp _ _::_,_,h,_,_,_|.ref _ _ _::_,_,h,_,_,_|.rfi _ _::_,_,h,_,_,_|.win _ _ _::_,_,h,_,_,_|.clo _ _ _::_,_,h,_,_,_=>by simp[b0n]at h
section
variable {B:Base} {N:Nat} {w w':World} {σ σ':Gh} {Γ:AE}
theorem Rel.kept{tm':Nat→Value}{Γ':AE}(h:Rel (B.anew w σ) Γ' N tm' w' σ'){c:Nat}(f:Shr B w σ c):w'.heap[c]?=w.heap[c]?∧Shr (B.anew w σ) w' σ' c:=by
 have k:c<(B.anew w σ).size:=f.1;have a:¬ (B.anew w σ).F c:=f.2.2;refine⟨h.frame c k a,a02 f.1 h.size,.inl f.2,fun b=>?_⟩;rcases h.mine c b with g|g
 all_goals grind
theorem VOk.kept{tm':Nat→Value}{Γ':AE}(h:Rel (B.anew w σ) Γ' N tm' w' σ')(k:σ.ov=none)(g:σ'.ov=none){t:Ty}{x:t.den}{v:Value}(hv:VOk (a0a w σ.ov) (Shr B w σ) t x v):
  VOk (a0a w' σ'.ov) (Shr (B.anew w σ) w' σ') t x v:=
 hv.frame (fun c j f=>by rw[k,g];exact b0q none (h.kept f).1 j) fun c f=>(h.kept f).2
theorem Rel.again{tm tm':Nat→Value}{Γ':AE}(A:Rel B Γ N tm w σ)(m:∀i,i<N→u0m (Γ.sl i))(F:Γ.pd=none)(h:Rel (B.anew w σ) Γ' N tm' w' σ')(y:Γ'.pd=none)
  (d:∀i n,i<N→Γ.sl i=.one (.ptr n [])∨Γ.sl i=.one (.sref n [])→Γ'.rt n≠none)(q:∀i n,i<N→Γ.sl i=.one (.sref n [])→∃u,σ.g n=.one u):Rel (B.anew w σ) { Γ' with sl:=Γ.sl } N tm w' σ'∧∀i n,i<N→Γ.sl i=.one (.sref n [])→∃u,σ'.g n=.one u:=by
 have E:=A.ov_none F;have v:=h.ov_none y;have k:∀n,pinned≤n→Γ.rt n≠none→Γ'.rt n≠none→σ'.g n=σ.g n:=fun n hf C j=>by
  obtain⟨i,rfl⟩:∃i,n=pinned+i:=⟨n-pinned,by omega⟩;refine h.pins i _ ?_ j;simp[Base.anew];cases hp:B.pin i with
  |none=>rfl
  |some b'=>rw[A.pins i b' hp C]
 refine⟨⟨h.roots,h.norm,h.nodup,h.disj,h.live,fun i hi=>?_,h.pend,h.size,h.frame,h.mine,h.pins,h.still⟩,fun i n hi hs=>?_⟩;rotate_left;have hf:=m i hi;have H:=A.slots i hi;rw[hs]at hf H;obtain⟨r,e,s,C,-⟩:=H;rw[k n hf (by simp_all) (d i n hi (.inr hs))]
 grind
 have hs:=A.slots i hi;have hf:=m i hi;have d:=d i;have q:=q i;show h0a _ _ Γ'.rt _ (Γ.sl i) _
 revert hs hf d q
 cases Γ.sl i with
 |cmp c vs=>intro _ hf;exact hf.elim
 |one a=>
  cases a with
  |dead=>intro _ _ _ _;trivial
  |val t x=>intro hs _ _ _;exact VOk.kept h E v hs
  |ptr n p=>
   cases p with
   |cons=>intro _ hf;exact hf.elim
   |nil=>
    intro hs hf d _;obtain⟨r,t,b,o,C,j,D⟩:=hs;have f:=d n hi (.inl rfl);have G:=k n hf (by simp_all) f;obtain⟨l,f⟩:=a16.1 f;simp[a0t]at j;refine⟨l,l.t,b,o,f,?_,D⟩;show some (l.t,σ'.g n)=_;simp_all
  |sref n p=>
   cases p with
   |cons=>intro _ hf;exact hf.elim
   |nil=>
    intro hs hf d q;obtain⟨u0,z⟩:=q n hi rfl;obtain⟨r,I,s0,C,j,D⟩:=hs;have f:=d n hi (.inr rfl);have G:=k n hf (by simp_all) f;simp[a0t]at j;rw[←j.2,z]at D;rw[z]at G;obtain⟨l,f⟩:=a16.1 f;rcases h.src_of f with⟨-,b,g⟩|⟨-,u,e,g,J⟩;simp_all;refine⟨l,e,.one u0,f,?_,D⟩;show some (l.t,σ'.g n)=_;simp_all
  |_=>intro _ hf;exact hf.elim
end
def z0m{ρ:Type}(s:a0c)(x:s.ty.den)(Γ:AE)(K:s.ty.den→Rs ρ):Rs ρ:=match Γ.pd with
 |none=>bif s.names.all (fun n=>(Γ.rt n).isSome)then s.dcd { Γ with sl:=(s.enc x).sl } K else none
 |some _=>none
def m0g{α S R:Type}(f:Int→α→S→Option (S ⊕ R))(l:List α):Nat→S→Option (S ⊕ R)
 |0,s=>some (.inl s)
 |n+1,s=>match l[n]? with
  |none=>none
  |some v=>match f n v s with
   |none=>none
   |some (.inl s')=>m0g f l n s'
   |some (.inr r)=>some (.inr r)
def rnd(cx:Cx)(H:Hints)(p:Nat)(s:a0c)(i1 i2:Nat)(assign body:Code)(e:Ty)(k:Int)(v:e.den)(x:s.ty.den):Option (s.ty.den ⊕ (Ex×s.ty.den)):=
 d0c cx H assign (2*p) (((s.enc x).set i1 (.val (.int .i64) k)).set i2 (.val e v)) fun ex Γ=>match ex with
  |.normal=>match Γ.pd with
   |none=>bif s.names.all (fun n=>(Γ.rt n).isSome)then
     d0c cx H body (2*p+1) Γ fun ex Γ'=>z0m s x Γ' fun x'=>match ex with
      |.normal=>some (.inl x')
      |ex=>some (.inr (ex,x'))
    else none
   |some _=>none
  |_=>none
structure HintR where
 t:Nat
 e:Ty
 mkr:Nat
 it:Nat
 ns:List Nat
 s:a0c
structure RParts where
 ops:Array Oper
 b:Nat
 g:Nat
 i1:Nat
 i2:Nat
 assign:Code
 body:Code
def l0t:Code→Code→Option RParts
 |.region _ ops false,.block b (.rangeFunc (.tmp g) ps assign body)=>match ps.toList with
  | [i1,i2]=>some ⟨ops,b,g,i1,i2,assign,body⟩
  |_=>none
 |_,_=>none
def r0w(o:Oper)(r:HintR)(g:Nat):Bool:=match o.op with
 |.call c=>(match c.callee,c.args.toList with
  |.value (.func f),[.tmp t]=>f==r.mkr&&t==r.t&&(o.dst==some g)&&o.guard.isNone
  |_,_=>false)
 |_=>false
def x0o{t e:Ty}(h:t=.list false e)(l:t.den):List e.den:=(h▸l:(Ty.list false e).den)
def u0w{ρ:Type}(cx:Cx)(H:Hints)(r:HintR)(q:RParts)(p:Nat)(Γ:AE)(K:Ex→AE→Rs ρ):Rs ρ:=
 match q.ops.toList with
 | [mv,cl]=>bif r0w cl r q.g&&(b0n r.s&&mv.guard.isNone)then
   aop cx false mv Γ fun Γ1=>match Γ1.pd with
    |some _=>none
    |none=>(Γ1.set q.g .dead).renAll r.ns fun Γ2=>r.s.dcd Γ2 fun x=>match (r.s.enc x).get r.t with
     |.val t l=>if h:t=.list false r.e then
       (bif lim (a05 (x0o h l))then(m0g (rnd cx H (2*p+1) r.s q.i1 q.i2 q.assign q.body r.e) (x0o h l) (a05 (x0o h l)) x).bind fun y=>match y with
        |.inl x'=>K .normal (r.s.enc x')
        |.inr (.normal,x')=>K .normal (r.s.enc x')
        |.inr (.exit i,x')=>bif i==q.b then K .normal (r.s.enc x')else K (.exit i) (r.s.enc x')
        |.inr (.ret,x')=>K .ret (r.s.enc x')
       else none)
      else none
     |_=>none
  else none
 |_=>none
def f0z:Code→Bool
 |.seq a b=>f0z a || f0z b
 |.cond _ a b=>f0z a || f0z b
 |.block _ c|.loop c=>f0z c
 |.rangeFunc _ _ _ _=>true
 |_=>false
def l0r(cx:Cx)(H:Hints)(r:HintR):Code→Nat→{ρ:Type}→AE→(Ex→AE→Rs ρ)→Rs ρ
 |.seq a b,p,_,Γ,K=>match l0t a b with
  |some q=>u0w cx H r q p Γ K
  |none=>bif f0z a then l0r cx H r a (2*p) Γ fun e Γ'=>match e with
    |.normal=>d0c cx H b (2*p+1) Γ' K
    |e=>K e Γ'
   else d0c cx H a (2*p) Γ fun e Γ'=>match e with
    |.normal=>l0r cx H r b (2*p+1) Γ' K
    |e=>K e Γ'
 |c,p,_,Γ,K=>d0c cx H c p Γ K
def C0g(cx:Cx)(H:Hints)(r:HintR)(fn:Func)(ps:List PA)(rs:List RA)(x:(c0m (ps.map PA.ty)).den):Option (c0m ((RA.all ps rs).map RA.ty)).den:=
 match fn.body with
 |none=>none
 |some body=>l0r cx H r body 1 (ini ps x) fun e Γ=>match e,Γ.pd with
  |.exit _,_=>none
  |_,some _=>none
  |_,none=>(Γ.upto fn.ntmps).outs cx [] fn.ntmps (RA.all ps rs) (fn.results.toList.map .inl++(a0o ps 0).map fun i=>.inr (g0f ps i)) fun y _=>some y
section
variable {P:Program} {B:Base} {N:Nat} {cx:Cx} {H:Hints} {w w':World} {σ σ':Gh} {Γ Γ':AE} {tm tm':Nat→Value}
theorem GOk.anew{G:GTab}(o:GOk G B)(h:Rel B Γ N tm w σ):GOk G (B.anew w σ):=by
 have key:∀g,g<B.size→¬ B.F g→¬ a0u σ g:=fun g f a z=>by
  rcases h.mine _ z with q|q;exact a q;omega
 refine⟨fun g t x v=>?_,fun t b L y=>?_⟩;rotate_left
 ·obtain⟨n,m,p,k,rfl,f,i,a,l⟩:=o.2 t b L y;exact⟨n,m,p,k,rfl,a02 f h.size,key n f i,(h.frame n f i).trans a,l.frame (fun _ _ _=>rfl) fun c ⟨e,r,j,s⟩=>
   ⟨a02 e h.size,⟨.inl r,key c e j⟩,key c e j,s.trans (h.frame c e j).symm⟩⟩
 obtain⟨f,i,a,m,l,u⟩:=o.1 g t x v;have d:=key g f a;exact⟨a02 f h.size,⟨.inl i,d⟩,d,m,l.trans (h.frame g f a).symm,u⟩
theorem VOk.uniq{m:Mem}{Sh Sh':Nat→Prop}{t:Ty}{x y:t.den}{v:Value}(h:VOk m Sh t x v)(f:VOk m Sh' t y v):x=y:=by
 obtain⟨-,-,R,k,-⟩:=h;obtain⟨-,-,a,g,-⟩:=f;rw[k]at g;simp only[sj,pJ]at g;exact g.1
theorem VOk.run(a:Rel B Γ N tm w σ)(h:Rel (B.anew w σ) Γ' N tm' w' σ')(k:σ.ov=none)(g:σ'.ov=none){t:Ty}{x:t.den}{v:Value}(hv:VOk (a0a w σ.ov) (Shr B w σ) t x v):
  VOk (a0a w' σ'.ov) (Shr B w' σ') t x v:=
 (VOk.kept h k g hv).frame (fun _ _ _=>rfl) fun _ b=>q0b a (f:=(B.anew w σ).pin) b
theorem VOk.turned{ov:Option (Nat×Nat×Value)}(h:∀(c:Nat)(o:Obj),w.heap[c]?=some o→o.isCells=true→w'.heap[c]?=some o)(g:w.heap.size≤w'.heap.size){t:Ty}{x:t.den}{v:Value}
  (hv:VOk (a0a w ov) (Shr B w σ) t x v):VOk (a0a w' ov) (Shr B w' σ) t x v:=by
 obtain⟨a,b,R,d,f⟩:=hv;exact⟨a,b,R,f0w (s0x h ov) t (fun _ _ hv=>hv) d,fun c k=>⟨a02 (f c k).1 g,(f c k).2⟩⟩
theorem i0d{W:World}{l:Nat}{o:Obj}(k:W.heap[l]?=some o)(a:o.isCells=false)(d:B.size≤l)(f:Obj):Turns B W (W.putObj l f):=by
 refine⟨fun c i g h=>?_,(grownBy_putObj' W l f).size,fun b e=>World.putObj_heap_other (by omega),rfl⟩
 have:c≠l:=by
  rintro rfl
  rw[k]at g;cases g;rw[a]at h;cases h
 exact(World.putObj_heap_other this).trans g
theorem i0u{W:World}(g:B.size≤W.heap.size)(o:Obj):Turns B W (W.alloc o):=
 ⟨fun c k h _=>(RowKit.Below.heap_alloc W _ c (a00.1 h).1).trans h,by simp,fun b f=>RowKit.Below.heap_alloc W _ b (by omega),rfl⟩
theorem s0y(h:Rel B Γ N tm w σ){l:Nat}{o:Obj}(f:w.heap[l]?=some o)(a:o.isCells=false):¬ a0u σ l:=by
 rintro⟨n,k⟩
 obtain⟨p,hp,rfl⟩:=a31.1 k;obtain⟨c,e,lo,hi,g,-⟩:=h.live n p hp;rw[f]at g;cases g;cases a
theorem Rel.others(f:Rel B Γ N tm w σ)(h:Rel (B.anew w σ) Γ' N tm' w' σ'){l:Nat}{o:Obj}(g:w.heap[l]?=some o)(k:o.isCells=false):w'.heap[l]?=some o:=
 (h.frame l (a00.1 g).1 (s0y f g k)).trans g
theorem r0v(Γ:AE)(i j:Nat)(v:AV):(Γ.set i v).get j=if j=i then v else Γ.get j:=by
 simp only[AE.get,c0t]
 by_cases e:j=i<;>simp[e]
theorem k0f:∀(es:a0c)(x x':es.ty.den){i:Nat}{T:Ty}{y:T.den}(_:b0n es=true)(_:(es.enc x).get i=.val T y),∃y':T.den,(es.enc x').get i=.val T y'
 | [],_,_,_,_,_,_,h=>by simp[a0c.enc,AE.nothing,AE.get]at h
 |.sv k t::r,x,x',i,T,y,hf,h=>by
  have h:((a0c.enc r x.2).set k (.val t x.1)).get i=.val T y:=h;show ∃y':T.den,((a0c.enc r x'.2).set k (.val t x'.1)).get i=.val T y';rw[r0v]at h⊢
  by_cases e:i=k
  rw[if_pos e]at h⊢;cases h;exact⟨x'.1,rfl⟩;rw[if_neg e]at h⊢;exact k0f r x.2 x'.2 (by simpa[b0n]using hf) h
 |.box n t::r,x,x',i,T,y,hf,h=>by
  simp only[b0n,bA]at hf;exact k0f r x.2 x'.2 hf.2 h
 |.ptr k n p::r,x,x',i,T,y,hf,h=>by
  cases p with
  |cons=>simp[b0n]at hf
  |nil=>
   simp only[b0n,bA]at hf;have h:((a0c.enc r x).set k (.ptr n [])).get i=.val T y:=h;show ∃y':T.den,((a0c.enc r x').set k (.ptr n [])).get i=.val T y';rw[r0v]at h⊢
   by_cases e:i=k
   rw[if_pos e]at h;cases h;rw[if_neg e]at h⊢;exact k0f r x x' hf.2 h
 |.own k m e::r,x,x',i,T,y,hf,h=>by
  simp only[b0n,bA]at hf;have h:(((a0c.enc r x.2).setRt m (some ⟨false,.list true e,x.1⟩)).set k (.sref m [])).get i=.val T y:=h;show ∃y':T.den,(((a0c.enc r x'.2).setRt m (some ⟨false,.list true e,x'.1⟩)).set k (.sref m [])).get i=.val T y';rw[r0v]at h⊢
  by_cases e:i=k
  rw[if_pos e]at h;cases h;rw[if_neg e]at h⊢;exact k0f r x.2 x'.2 hf.2 h
 |.rfi _ _::_,_,_,_,_,_,h,_=>by simp[b0n]at h
 |.vp _ _::_,_,_,_,_,_,h,_=>by simp[b0n]at h
 |.ref _ _ _::_,_,_,_,_,_,h,_=>by simp[b0n]at h
 |.win _ _ _::_,_,_,_,_,_,h,_=>by simp[b0n]at h
 |.clo _ _ _::_,_,_,_,_,_,h,_=>by simp[b0n]at h
def r0j:Ex→Option Code
 |.normal=>none
 |.exit i=>some (.exit i)
 |.ret=>some .ret
def d0r(st:LoopState)(pe:Option Code)(fn:FuncId)(tmps:Array Value)(i1 i2:Nat)(assign body:Code)(D:Nat):Loop:=
 { state:=st,pending:=pe,fn,tmps,params:=#[i1,i2],assign,body,defers:=D }
structure Between (B:Base) (N:Nat) (a:Act) (s:a0c) (t:Nat) (te:Ty) (l0:te.den) (l D:Nat) (r:Loop) (x:s.ty.den) (W:World):Prop where
 rel:∃σ,Rel B (s.enc x) N (a0f a) W σ
 seq:(s.enc x).get t=.val te l0
 loop:W.heap[l]?=some (.loop r)
 dfr:W.heap[D]?=some (.deferred (some []))
theorem t0e(h3:CxOk P cx)(hG:GOk cx.G B)(hm:P.follows .mixedOrders=true)(hH:H.fits N=true){s:a0c}{i1 i2 p:Nat}{assign body:Code}(g8:c0g N assign=true)(g9:c0g N body=true)
  (hs:s.fits N=true)(m:b0n s=true)(k3:i1<N)(k5:i2<N){a:Act}(hN:a.tmps.size=N){fn:FuncId}{e te:Ty}{k:Int}{v:e.den}{ve:Value}{l0:te.den}{t l D:Nat}(ht:t<N){x:s.ty.den}{W:World}
  (hb:Between B N a s t te l0 l D (d0r .ready none fn a.tmps i1 i2 assign body D) x W)(hv:∀Sh,VOk (cells W) Sh te l0 (a0f a t)→VOk (cells W) Sh e v ve)(h6:B.size≤l)(h0:D≠l){y:s.ty.den ⊕ (Ex×s.ty.den)}
  (hy:rnd cx H p s i1 i2 assign body e k v x=some y):
  RoundIn (Fr none) 0 P l fn ((a.tmps.setIfInBounds i1 (.int .i64 k)).setIfInBounds i2 ve) assign body W fun en W'=>
   (∃o,y=.inl o∧en=.returned (.bool true)∧Between B N a s t te l0 l D (d0r .ready none fn a.tmps i1 i2 assign body D) o W')∨
   (∃Z c o,y=.inr (Z,o)∧r0j Z=some c∧en=.returned (.bool false)∧Between B N a s t te l0 l D (d0r .done (some c) fn a.tmps i1 i2 assign body D) o W'):=by
 obtain⟨⟨σ,h⟩,hseq,hl,hD⟩:=hb;have h7:=h.ov_none (e0p s x);have f:VOk (a0a W σ.ov) (Shr B W σ) te l0 (a0f a t):=by
  have:=d0k h ht
  rw[hseq]at this;exact this
 have k0:VOk (a0a W σ.ov) (Shr B W σ) e v ve:=by
  rw[h7]at f⊢;exact hv _ f
 let a1:Act:={ tmps:=(a.tmps.setIfInBounds i1 (.int .i64 k)).setIfInBounds i2 ve,defers:=[] }
 have h1:Rel B (((s.enc x).set i1 (.val (.int .i64) k)).set i2 (.val e v)) N (a0f a1) W σ:=by
  have M:Rel B ((s.enc x).set i1 (.val (.int .i64) k)) N (a0f (a.put (some i1) (.int .i64 k))) W σ:=h.putd hN fun _=>a0e.mk_int (g:=σ.g) (rt:=(s.enc x).rt) _;have O:Rel B (((s.enc x).set i1 (.val (.int .i64) k)).set i2 (.val e v)) N (a0f ((a.put (some i1) (.int .i64 k)).put (some i2) ve)) W σ:=M.putd (by rw[i0n];exact hN) fun _=>k0;exact O
 have g5:a1.tmps.size=N:=by simp[a1,hN]
 have K:∀(Γ2:AE),(s.names.all fun n=>(Γ2.rt n).isSome)=true→∀i n,i<N→(s.enc x).sl i=.one (.ptr n [])∨(s.enc x).sl i=.one (.sref n [])→Γ2.rt n≠none:=by
  intro Γ2 q i n hi f;have hm:n∈s.names:=by
   rcases f with f|f
   have:=h.slots i hi
   rw[f]at this;obtain⟨r,-,-,-,hr,-⟩:=this;exact l0x s x m n (by rw[hr];simp);exact(i0f s x m f).1
  have:=lA.1 q n hm
  intro hc;rw[hc]at this;cases this
 have h9:∀i n,i<N→(s.enc x).sl i=.one (.sref n [])→∃u,σ.g n=.one u:=fun i n _ f=>by
  obtain⟨-,e,l,E⟩:=i0f s x m f;rcases h.src_of E with⟨g,-⟩|⟨-,u,_,g,-⟩;cases g;exact⟨u,g⟩
 unfold rnd at hy;refine roundIn_of_wpIn trivial (wpIn_mono (g0o (ro:=some l) (D:=[]) h3 (hG.anew h1) hm hH assign _ g8 hy h1.anew g5 rfl) ?_)
 rintro e2 a2 A ⟨Z,Γ2,σ2,rfl,z,E,g6,g7⟩
 cases Z with
 |exit i=>simp only[]at z;cases z
 |ret=>simp only[]at z;cases z
 |normal=>
  simp only[]at z
  split at z
  rotate_left;cases z;rename_i w;obtain⟨q,z⟩:=(a0b z).elim id fun h=>by cases h.2
  have F:=E.ov_none w;obtain⟨k2,V⟩:Rel (B.anew W σ) { Γ2 with sl:=(s.enc x).sl } N (a0f a) A σ2∧_:=Rel.again h (fun i _=>j0r s x m i) (e0p s x) E w (K Γ2 q) h9;have b2:=h1.back E;have c2:=h.back k2;have v2:VOk (a0a A σ2.ov) (Shr B A σ2) te l0 (a0f a t):=VOk.run h E h7 F f;have S:=h1.others E hl rfl;have g3:=h1.others E hD rfl;refine⟨_,run_beginRound S rfl,?_⟩;have Y:Turns B A (A.putObj l (.loop { d0r .ready none fn a.tmps i1 i2 assign body D with state:=.busy })):=i0d S rfl h6 _
  revert Y
  have T:(A.putObj l (.loop { d0r .ready none fn a.tmps i1 i2 assign body D with state:=.busy })).heap[l]?=some (.loop { d0r .ready none fn a.tmps i1 i2 assign body D with state:=.busy }):=World.putObj_heap_same (a00.1 S).1;have Q:(A.putObj l (.loop { d0r .ready none fn a.tmps i1 i2 assign body D with state:=.busy })).heap[D]?=some (.deferred (some [])):=(World.putObj_heap_other h0).trans g3
  revert T Q
  generalize A.putObj l (.loop { d0r .ready none fn a.tmps i1 i2 assign body D with state:=.busy })=W3;intro T Q Y;have b3:=b2.turned Y;have c3:=c2.turned Y;have v3:VOk (a0a W3 σ2.ov) (Shr B W3 σ2) te l0 (a0f a t):=VOk.turned Y.cells Y.size v2;refine wpIn_mono (g0o (ro:=some l) (D:=[]) h3 (hG.anew b3) hm hH body _ g9 z b3.anew g6 g7) ?_
  rintro e4 a4 C ⟨Z,Γ4,σ4,rfl,d,h4,k1,-⟩
  simp only[z0m]at d
  split at d
  rotate_left;cases d;rename_i J;obtain⟨R,d⟩:=(a0b d).elim id fun h=>by cases h.2
  have I:=h4.ov_none J;obtain⟨k4,-⟩:Rel (B.anew W3 σ2) { Γ4 with sl:=(s.enc x).sl } N (a0f a) C σ4∧_:=Rel.again (Γ:={ Γ2 with sl:=(s.enc x).sl }) c3 (fun i _=>j0r s x m i) w h4 J (K Γ4 R) V;have c4:=c3.back k4;have v4:VOk (a0a C σ4.ov) (Shr B C σ4) te l0 (a0f a t):=VOk.run b3 h4 F I v3;have U:=b3.others h4 T rfl;have g4:=b3.others h4 Q rfl;obtain⟨o,σ5,j,h5⟩:=c4.dcd hs d;have h8:=h5.ov_none (e0p s o);have X:(s.enc o).get t=.val te l0:=by
   obtain⟨y',g0⟩:=k0f s x o m hseq
   have:=d0k h5 ht
   rw[g0]at this;have this:VOk (a0a C σ5.ov) (Shr B C σ5) te y' (a0f a t):=this;rw[h8]at this;rw[I]at v4;rw[g0,VOk.uniq this v4]
  have L:∀(b:Option Code)(r':Loop),r'={ { d0r .ready none fn a.tmps i1 i2 assign body D with state:=.busy }with state:=if b.isNone then .ready else .done,pending:=b }→
    (Instr.endRound l b).run P C=.ok (.bool b.isNone) (C.putObj l (.loop r'))∧Between B N a s t te l0 l D r' o (C.putObj l (.loop r')):=by
   rintro b r' rfl
   refine⟨run_endRound b U,⟨⟨σ5,h5.turned (i0d U rfl h6 _)⟩,X,World.putObj_heap_same (a00.1 U).1,(World.putObj_heap_other h0).trans g4⟩⟩
  cases Z with
  |normal=>
   simp only[sj]at j;obtain⟨M,O⟩:=L none _ rfl;exact⟨_,_,M,.inl ⟨o,j.symm,rfl,O⟩⟩
  |exit i=>
   simp only[sj]at j;obtain⟨M,O⟩:=L (some (.exit i)) _ rfl;exact⟨_,_,M,.inr ⟨_,_,o,j.symm,rfl,rfl,O⟩⟩
  |ret=>
   simp only[sj]at j;obtain⟨M,O⟩:=L (some .ret) _ rfl;exact⟨_,_,M,.inr ⟨_,_,o,j.symm,rfl,rfl,O⟩⟩
def z0g(P:Program)(it:FuncId)(e:Ty):Prop:=
 (∀args w,(callFunc it args).run P w=.ok (.enter it args) w)∧
 ∀(l Bs:Nat)(sv:Value)(xs:List e.den)(J:Nat→World→Prop)(Jx:World→Prop)(W:World),xs.length<2147483648→
  (∀k W',J k W'→W'.cell? ⟨Bs,0,none⟩=some sv∧∃Sh,VOk (cells W') Sh (.list false e) xs sv)→
  (∀n (x:e.den) (v:Value) W',xs[n]?=some x→J (n+1) W'→(∀Sh,VOk (cells W') Sh (.list false e) xs sv→VOk (cells W') Sh e x v)→
   YieldAt (Fr none) 0 P l #[.int .i64 (n:Int),v] W' fun en W''=>(en=.returned (.bool true)∧J n W'')∨(en=.returned (.bool false)∧Jx W''))→
  J xs.length W→
  CallsIn (Fr none) 0 P it #[.func (.yield l) #[] #[],.pointer (some ⟨Bs,0,none⟩)] W fun en W'=>(∃v,en=.returned v)∧(J 0 W'∨Jx W')
def E0b(P:Program)(mk it:FuncId):Prop:=
 n0e P mk∧∀(A:Option Addr)(len cap:Nat)(w:World),Calls P mk #[.slice A len cap] w fun en w'=>en=.returned (.func (.func it) #[] #[.pointer (some ⟨w.heap.size,0,none⟩)])∧∃ty,w'=w.alloc (.cells #[.slice A len cap] ty)
def yOf{S:Type}:S ⊕ (Ex×S)→Ex×S
 |.inl x=>(.normal,x)
 |.inr q=>q
theorem v0y(hcx:CxOk P cx)(hG:GOk cx.G B)(hm:P.follows .mixedOrders=true)(hH:H.fits N=true){s:a0c}{i1 i2 p:Nat}{assign body:Code}(hfa:c0g N assign=true)(hfb:c0g N body=true)
  (hs:s.fits N=true)(hfl:b0n s=true)(hi1:i1<N)(hi2:i2<N){a:Act}(hN:a.tmps.size=N){e:Ty}{l0:List e.den}{t g Bs it:Nat}(ht:t<N){x:s.ty.den}
  (h:Rel B (s.enc x) N (a0f a) w σ)(hseq:(s.enc x).get t=.val (.list false e) l0)(hg:a.eval (.tmp g)=.func (.func it) #[] #[.pointer (some ⟨Bs,0,none⟩)])(hit:z0g P it e)(hlen:l0.length<2147483648)
  (hcell:w.cell? ⟨Bs,0,none⟩=some (a0f a t))(hBs:Bs<B.size)(hBF:¬ B.F Bs){y:s.ty.den ⊕ (Ex×s.ty.den)}(hy:m0g (rnd cx H p s i1 i2 assign body e) l0 l0.length x=some y)(hd:a.defers=[]):
  (Code.rangeFunc (.tmp g) #[i1,i2] assign body).wpIn (Fr none) 0 P (fun en a' w'=>∃D,en=k0m (yOf y).1∧a'.tmps.size=N∧a'.defers=[{ target:=.collected D,args:=#[] }]∧B.size≤D∧
   w'.heap[D]?=some (.deferred (some []))∧∃σ',Rel B (s.enc (yOf y).2) N (a0f a') w' σ') a w:=by
 refine wpIn_rangeFunc ?_
 intro fn _;obtain⟨D,hDe⟩:∃D,w.heap.size=D:=⟨_,rfl⟩;obtain⟨W1,hW1⟩:∃W1,(w.alloc (.deferred (some []))).alloc (.loop (d0r .ready none fn a.tmps i1 i2 assign body D))=W1:=⟨_,rfl⟩;have hsz:=h.size;have T1:Turns B w W1:=by
  rw[←hW1];have t1:=i0u (B:=B) hsz (.deferred (some []));have t2:=i0u (B:=B) (W:=w.alloc (.deferred (some []))) (by simp;omega) (.loop (d0r .ready none fn a.tmps i1 i2 assign body D));exact⟨fun c o hc ho=>t2.cells c o (t1.cells c o hc ho) ho,a03 t1.size t2.size,fun b hb=>(t2.frame b hb).trans (t1.frame b hb),t2.io.trans t1.io⟩
 have hL1:W1.heap[D+1]?=some (.loop (d0r .ready none fn a.tmps i1 i2 assign body D)):=by
  rw[←hW1,←hDe]
  have:=World.alloc_heap_new (w.alloc (.deferred (some []))) (.loop (d0r .ready none fn a.tmps i1 i2 assign body w.heap.size))
  rwa [World.size_alloc]at this
 have hK1:W1.heap[D]?=some (.deferred (some [])):=by
  rw[←hW1,←hDe];exact(RowKit.Below.heap_alloc _ _ _ (by simp)).trans (World.alloc_heap_new w _)
 have hB1:Between B N a s t (.list false e) l0 (D+1) D (d0r .ready none fn a.tmps i1 i2 assign body D) x W1:=⟨⟨σ,h.turned T1⟩,hseq,hL1,hK1⟩;have hBsAll:∀{Γ' tm' W' σ'},Rel B Γ' N tm' W' σ'→W'.cell? ⟨Bs,0,none⟩=some (a0f a t):=fun {Γ' tm' W' σ'} h'=>by
  have e1:=h'.frame Bs hBs hBF;have e2:=h.frame Bs hBs hBF;rw[←hcell];unfold World.cell?;rw[e1,e2]
 refine⟨D+1,[{ target:=.collected D,args:=#[] }],W1,{ target:=.fn (.func it) #[.pointer (some ⟨Bs,0,none⟩)],args:=#[.func (.yield (D+1)) #[] #[]] },W1,it,
  #[.func (.yield (D+1)) #[] #[],.pointer (some ⟨Bs,0,none⟩)],W1,?_,?_,fun _ _=>trivial,?_,fun h=>(by cases h),?_⟩
 rw[←hW1,←hDe];exact run_enterLoop_outer _ _ _ _ _;simp only[resolve,hg];simp[go_sem]
 have:=hit.1 (#[.func (.yield (D+1)) #[] #[]]++#[.pointer (some ⟨Bs,0,none⟩)]) W1
 simpa[invoke,go_sem]using this
 ·refine(hit.2 (D+1) Bs (a0f a t) l0
   (fun n W=>∃x',m0g (rnd cx H p s i1 i2 assign body e) l0 n x'=some y∧Between B N a s t (.list false e) l0 (D+1) D (d0r .ready none fn a.tmps i1 i2 assign body D) x' W)
   (fun W=>∃ex c x',y=.inr (ex,x')∧r0j ex=some c∧Between B N a s t (.list false e) l0 (D+1) D (d0r .done (some c) fn a.tmps i1 i2 assign body D) x' W)
   W1 hlen ?_ ?_ ⟨x,hy,hB1⟩).mono ?_
  rintro k W' ⟨x',-,hb⟩
  obtain⟨⟨σ',h'⟩,hseq',-,-⟩:=hb;refine⟨hBsAll h',?_⟩
  have:=d0k h' ht
  rw[hseq',h'.ov_none (e0p s x')]at this;exact⟨_,this⟩
  rintro n xe v W' hx ⟨x',hy',hb⟩ hv
  have hyield:(Instr.yield (D+1) #[.int .i64 (n:Int),v]).run P W'=.ok (.round (D+1) fn ((a.tmps.setIfInBounds i1 (.int .i64 (n:Int))).setIfInBounds i2 v) assign body) W':=by
   have:=run_yield (P:=P) (args:=#[.int .i64 (n:Int),v]) hb.loop rfl
   simpa[d0r]using this
  simp only[m0g,hx]at hy'
  split at hy'
  cases hy';rename_i s' hs';refine⟨_,_,_,_,hyield,(t0e hcx hG hm hH hfa hfb hs hfl hi1 hi2 hN ht hb hv (by omega) (by omega) hs').mono ?_⟩
  rintro en W'' (⟨x2,e1,rfl,hb2⟩|⟨ex,c,x2,e1,-⟩)
  simp only[Sum.inl.injEq]at e1;subst e1;exact .inl ⟨rfl,s',hy',hb2⟩;cases e1;rename_i r hr;simp only[sj]at hy';refine⟨_,_,_,_,hyield,(t0e hcx hG hm hH hfa hfb hs hfl hi1 hi2 hN ht hb hv (by omega) (by omega) hr).mono ?_⟩
  rintro en W'' (⟨x2,e1,-⟩|⟨ex,c,x2,e1,hc,rfl,hb2⟩)
  cases e1;simp only[Sum.inr.injEq]at e1;subst e1;exact .inr ⟨rfl,ex,c,x2,hy'.symm,hc,hb2⟩
  ·have hdone:∀{x' W2 st pe},Between B N a s t (.list false e) l0 (D+1) D (d0r st pe fn a.tmps i1 i2 assign body D) x' W2→∀r',(W2.putObj (D+1) (.loop r')).heap[D]?=some (.deferred (some []))∧∃σ',Rel B (s.enc x') N (a0f a) (W2.putObj (D+1) (.loop r')) σ':=by
    rintro x' W2 st pe ⟨⟨σ',h'⟩,-,hl,hD⟩ r'
    exact⟨(World.putObj_heap_other (by omega)).trans hD,σ',h'.turned (i0d hl rfl (by omega) _)⟩
   rintro en W2 ⟨⟨v,rfl⟩,⟨x',hy',hb⟩|⟨ex,c,x',rfl,hc,hb⟩⟩
   simp only[m0g,sj]at hy';subst hy';refine⟨none,_,run_endLoop (P:=P) hb.loop (by simp[d0r]),?_⟩;obtain⟨g1,g2⟩:=hdone hb { d0r .ready none fn a.tmps i1 i2 assign body D with state:=.exhausted };exact⟨D,rfl,hN,by rw[hd];rfl,by omega,g1,g2⟩
   ·refine⟨some c,_,run_endLoop (P:=P) hb.loop (by simp[d0r]),?_⟩;obtain⟨g1,g2⟩:=hdone hb { d0r .done (some c) fn a.tmps i1 i2 assign body D with state:=.exhausted };cases ex with
    |normal=>cases hc
    |exit i=>
     simp only[r0j,sj]at hc;subst hc;exact wpIn_exit ⟨D,rfl,hN,by rw[hd];rfl,by omega,g1,g2⟩
    |ret=>
     simp only[r0j,sj]at hc;subst hc;exact wpIn_ret ⟨D,rfl,hN,by rw[hd];rfl,by omega,g1,g2⟩
end
section
variable {P:Program} {B:Base} {N:Nat} {cx:Cx} {H:Hints} {r:HintR}
def t0z(B:Base)(ds:List Deferred)(w:World):Prop:=ds=[]∨∃D,ds=[{ target:=.collected D,args:=#[] }]∧B.size≤D∧w.heap[D]?=some (.deferred (some []))
def x0e{ρ:Type}(B:Base)(N:Nat)(K:Ex→AE→Rs ρ)(z:ρ):Exit→Act→World→Prop:=fun e a w=>
 ∃ex Γ σ,e=k0m ex∧K ex Γ=some z∧Rel B Γ N (a0f a) w σ∧a.tmps.size=N∧t0z B a.defers w
theorem o0z(b:CxOk P cx)(l:GOk cx.G B)(q:P.follows .mixedOrders=true)(m:H.fits N=true){c:Code}{p:Nat}{ρ:Type}{Γ:AE}{K:Ex→AE→Rs ρ}{z:ρ}{a:Act}{w:World}{σ:Gh}(hf:c0g N c=true)
  (r:d0c cx H c p Γ K=some z)(h:Rel B Γ N (a0f a) w σ)(o:a.tmps.size=N)(hd:t0z B a.defers w):c.wpIn (Fr none) 0 P (x0e B N K z) a w:=by
 refine wpIn_mono (g0o (ro:=none) (D:=a.defers) b (l.anew h) q m c p hf r h.anew o rfl) ?_
 rintro e s w' ⟨j,Γ',σ',rfl,n,i,k,d⟩
 refine⟨j,Γ',σ',rfl,n,h.back i,k,?_⟩;rcases hd with hd|⟨D,hd,f,g⟩;exact .inl (d.trans hd);exact .inr ⟨D,d.trans hd,f,h.others i g rfl⟩
structure RangeOk (P:Program) (r:HintR):Prop where
 mkr:E0b P r.mkr r.it
 it:z0g P r.it r.e
def y0u(N:Nat)(r:HintR)(q:RParts):Bool:=
 q.ops.toList.all (f0e N q.ops.toList)&&(c0g N q.assign&&(c0g N q.body&&(decide (q.i1<N)&&(decide (q.i2<N)&&(decide (q.g<N)&&(decide (r.t<N)&&(r.s.fits N&&r.t != q.g)))))))
theorem x0k{c1 c2:Code}{q:RParts}(h:l0t c1 c2=some q):∃id,c1=.region id q.ops false∧c2=.block q.b (.rangeFunc (.tmp q.g) #[q.i1,q.i2] q.assign q.body):=by
 unfold l0t at h
 split at h
 rename_i c f body
 split at h
 rename_i k a e;cases h;exact⟨_,rfl,by rw[show c=#[k,a]from by grind]⟩;simp_all;simp_all
theorem y0f{o:Oper}{g:Nat}(h:r0w o r g=true):∃c,o.op=.call c∧c.callee=.value (.func r.mkr)∧c.args=#[.tmp r.t]∧o.dst=some g∧o.guard=none:=by
 unfold r0w at h
 split at h
 rename_i c b
 split at h
 rename_i f t k a;simp at h
 grind
 simp_all;simp_all
theorem u0x(W:CxOk P cx)(hG:GOk cx.G B)(hm:P.follows .mixedOrders=true)(hH:H.fits N=true)(hr:RangeOk P r)(L:∀i b,1000≤i→B.pin i≠some b){c1 c2:Code}{q:RParts}(hq:l0t c1 c2=some q)(hf:y0u N r q=true)
  {p:Nat}{ρ:Type}{Γ:AE}{K:Ex→AE→Rs ρ}{z:ρ}{a:Act}{w:World}{σ:Gh}(M:u0w cx H r q p Γ K=some z)(h:Rel B Γ N (a0f a) w σ)(hN:a.tmps.size=N)(hd:a.defers=[]):
  (Code.seq c1 c2).wpIn (Fr none) 0 P (x0e B N K z) a w:=by
 obtain⟨id,rfl,rfl⟩:=x0k hq;simp only[y0u,bA,dT]at hf;obtain⟨h4,g7,g8,k1,k2,hg,ht,hs,k6⟩:=hf;have k6:r.t≠q.g:=by simp_all
 unfold u0w at M
 split at M
 rotate_left
 grind
 rename_i mv cl hl;obtain⟨E,M⟩:=(a0b M).elim _root_.id fun h=>by grind
 simp at E;obtain⟨E,g9,a9⟩:=E;obtain⟨c,ho,g5,g0,X,a8⟩:=y0f E;refine wpIn_seq (wpIn_region_list ?_);have S:=i0r (lA.1 h4 mv (by simp_all));rw[hl];simp only[wpListIn];rw[if_pos (by simp_all[Region.wanted])];refine d0j W hG h hN S M fun v U Γ1 σ1 h1 M=>?_
 obtain⟨a1,h9⟩:∃a1,a.put mv.dst v=a1:=⟨_,rfl⟩;have h8:a1.tmps.size=N:=by grind[i0n]
 have a7:a1.defers=[]:=by grind[h0t]
 rw[h9]at h1⊢;rw[if_pos (by simp_all[Region.wanted])]
 split at M
 grind
 rename_i a5

 obtain⟨m,Y⟩:∃m,Value.func (.func r.it) #[] #[.pointer (some ⟨U.heap.size,0,none⟩)]=m:=⟨_,rfl⟩;have Z:Rel B (Γ1.set q.g .dead) N (a0f (a1.put (some q.g) m)) U σ1:=h1.putd h8 fun _=>trivial;have k7:a0f (a1.put (some q.g) m) r.t=a0f a1 r.t:=by simp_all[k0l]
 have I:∀{B':Base}{w2:World},(∀i b,1000≤i→B'.pin i≠some b)→Rel B' (Γ1.set q.g .dead) N (a0f (a1.put (some q.g) m)) w2 σ1→∃(x:r.s.ty.den)(V:List r.e.den)(y:r.s.ty.den ⊕ (Ex×r.s.ty.den)) (σ2:Gh),Rel B' (r.s.enc x) N (a0f (a1.put (some q.g) m)) w2 σ2∧
   (r.s.enc x).get r.t=.val (.list false r.e) V∧V.length<2147483648∧m0g (rnd cx H (2*p+1) r.s q.i1 q.i2 q.assign q.body r.e) V V.length x=some y∧
   (match y with
    |.inl o=>K .normal (r.s.enc o)
    |.inr (.normal,o)=>K .normal (r.s.enc o)
    |.inr (.exit i,o)=>bif i==q.b then K .normal (r.s.enc o)else K (.exit i) (r.s.enc o)
    |.inr (.ret,o)=>K .ret (r.s.enc o))=some z:=by
  intro B' w2 hp k3;obtain⟨Γ2,σ2,a4,h2⟩:=Rel.renAll hp _ k3 M;obtain⟨x,σ3,j,h3⟩:=h2.dcd hs a4
  split at j
  rename_i t l k0
  split at j
  rename_i he;subst he;obtain⟨h0,j⟩:=(a0b j).elim _root_.id fun h=>by grind
  obtain⟨y,k9,a2⟩:=a04.1 j;exact⟨x,l,y,σ3,h3,k0,of_decide_eq_true (show decide (a05 l<2147483648)=true from h0),k9,a2⟩;simp_all;simp_all
 obtain⟨A,F,u,k5⟩:∃A F u,a0f a1 r.t=.slice A F u:=by
  obtain⟨x,V,y,σ2,g1,g2,-⟩:=I L Z
  have:=d0k g1 ht
  rw[g2,k7]at this;obtain⟨A,n,c,e,-⟩:=VOk.header this;simp_all
 refine m0a (fun c' a6=>by simp_all) ?_
 rw[u0y hr.mkr.1 ho g5,Oper.uponIn_enter];refine⟨fun h=>(by grind),u0f ?_⟩;have Q:c.args.map a1.eval=#[.slice A F u]:=by
  rw[g0,←k5];simp only[List.map_toArray,a11,a20];rfl
 rw[Q];refine(hr.mkr.2 A F u U).mono ?_
 rintro en w2 ⟨rfl,ty,k8⟩
 simp
 rw[Y,X];have T:Turns B U w2:=by rw[k8];exact i0u h1.size _
 have C:=Z.turned T;have h6:Rel { B.anew w2 σ1 with pin:=B.pin } (Γ1.set q.g .dead) N (a0f (a1.put (some q.g) m)) w2 σ1:=C.anew.unpin B.pin fun i b hb=>by simp_all[Base.anew]
 obtain⟨x,V,y,σ2,g1,g2,gl,g3,J⟩:=I (B':={ B.anew w2 σ1 with pin:=B.pin }) L h6;have R:w2.cell? ⟨U.heap.size,0,none⟩=some (a0f (a1.put (some q.g) m) r.t):=by
  simp_all
 have h5:U.heap.size<w2.heap.size:=by simp_all
 refine wpIn_block (wpIn_mono (v0y (B:={ B.anew w2 σ1 with pin:=B.pin }) (a:=a1.put (some q.g) m) (p:=2*p+1) (it:=r.it) (Bs:=U.heap.size) W (hG.anew C) hm hH g7 g8 hs g9 k1 k2 (by rw[i0n];omega) ht g1 g2 ?_ hr.it gl R h5
  (fun ho=>Nat.lt_irrefl _ (h1.lt ho)) g3 (by simp_all[h0t])) ?_)
 show a0f (a1.put (some q.g) m) q.g=_;rw[k0l _ (by omega),if_pos rfl,←Y]
 ·rintro en a3 w3 ⟨D,rfl,k,g6,O,h7,σ3,k4⟩
  have O:w2.heap.size≤D:=O;have d:Rel B (r.s.enc (yOf y).2) N (a0f a3) w3 σ3:=C.backP (fun _ _ h=>h) k4;have f:t0z B a3.defers w3:=.inr ⟨D,g6,a03 C.size O,h7⟩;cases y with
  |inl o=>exact⟨.normal,_,σ3,rfl,J,d,k,f⟩
  |inr ex=>
   obtain⟨ex,o⟩:=ex;cases ex with
   |normal=>exact⟨.normal,_,σ3,rfl,J,d,k,f⟩
   |ret=>exact⟨.ret,_,σ3,rfl,J,d,k,f⟩
   |exit i=>
    simp[yOf,k0m,Exit.inBlock];rcases a0b J with⟨hi,J⟩|⟨hi,J⟩;rw[if_pos (by simp_all)];exact⟨.normal,_,σ3,rfl,J,d,k,f⟩;rw[if_neg (by simp_all)];exact⟨.exit i,_,σ3,rfl,J,d,k,f⟩
def h0j(N:Nat)(r:HintR):Code→Bool
 |.seq a b=>match l0t a b with
  |some q=>y0u N r q
  |none=>bif f0z a then h0j N r a&&c0g N b else c0g N a&&h0j N r b
 |c=>c0g N c
theorem u0b(j:CxOk P cx)(m:GOk cx.G B)(o:P.follows .mixedOrders=true)(n:H.fits N=true)(u:RangeOk P r)(q:∀i b,1000≤i→B.pin i≠some b):∀(c:Code) (p:Nat){ρ:Type}{Γ:AE}{K:Ex→AE→Rs ρ}{z:ρ}{a:Act}{w:World}{σ:Gh}(_:h0j N r c=true)
  (_:l0r cx H r c p Γ K=some z) (_:Rel B Γ N (a0f a) w σ) (_:a.tmps.size=N) (_:a.defers=[]),c.wpIn (Fr none) 0 P (x0e B N K z) a w:=by
 intro c
 induction c with
 |seq x y ihx ihy=>
  intro p ρ Γ K z a w σ hf hz h hN hD;simp[h0j]at hf;simp[l0r]at hz
  split at hz
  grind[u0x]
  ·rename_i t;rw[t]at hf;simp only[]at hf;refine wpIn_seq ?_
   cases hx:f0z x with
   |true=>
    rw[hx]at hf hz;simp at hf hz;refine wpIn_mono (ihx _ hf.1 hz h hN hD) ?_
    rintro e s w' ⟨l,Γ',σ',rfl,d,k,f,g⟩
    cases l with
    |normal=>exact o0z j m o n hf.2 d k f g
    |exit i=>exact⟨.exit i,Γ',σ',rfl,d,k,f,g⟩
    |ret=>exact⟨.ret,Γ',σ',rfl,d,k,f,g⟩
   |false=>
    rw[hx]at hf hz;simp at hf hz;refine wpIn_mono (g0o (ro:=none) (D:=[]) j m o n x _ hf.1 hz h hN hD) ?_
    rintro e s w' ⟨l,Γ',σ',rfl,d,k,f,g⟩
    cases l with
    |normal=>exact ihy _ hf.2 d k f g
    |exit i=>exact⟨.exit i,Γ',σ',rfl,d,k,f,.inl g⟩
    |ret=>exact⟨.ret,Γ',σ',rfl,d,k,f,.inl g⟩
 |_=>
  intro p ρ Γ K z a w σ hf hz h hN hD;refine o0z j m o n (p:=p) (Γ:=Γ) (σ:=σ) ?_ ?_ h hN (.inl hD);simpa only[h0j]using hf;simpa only[l0r]using hz
end
def C0k(fn:Func)(c:Code)(H:Hints)(r:HintR)(s:FSem):Bool:=
 h0j fn.ntmps r c&&(H.fits fn.ntmps&&(decide (s.ps.length≤fn.ntmps)&&(decide (s.ps.length≤1000)&&fn.results.toList.all fun r=>g0y fn.ntmps (.inl r))))
section
variable {P:Program} {cx:Cx}
theorem k0i:∀(ps:List PA)(i0 i:Nat),i∈a0o ps i0→i<i0+ps.length
 | [],_,_,h=>by simp[a0o]at h
 |.v _::ps,i0,i,h=>by
  have:=k0i ps (i0+1) i h
  grind
 |.r _ _::ps,i0,i,h=>by
  simp
  rcases mC.1 h with rfl|h;omega
  have:=k0i ps (i0+1) i h
  omega
theorem h0p.ofR(q:CxOk P cx)(hm:P.follows .mixedOrders=true){f:FuncId}{fn:Func}{c:Code}{H:Hints}{r:HintR}{s:FSem}(Y:RangeOk P r)(W:P.funcs[f]?=some fn)(U:fn.body=some c)(J:C0k fn c H r s=true)
  (V:∀x,C0g cx H r fn s.ps s.rs x=s.F x):h0p P cx.G f s:=by
 simp only[C0k,bA,dT]at J;obtain⟨E,hH,h4,M,p⟩:=J;intro w N σ args x y T hy hB hhp hov hargs hrel0 hpins0;obtain⟨B,d⟩:∃B:Base,{ N with pin:=fun i=>bif decide (i<1000)then N.pin i else none }=B:=⟨_,rfl⟩;have g:Rel B (ini s.ps x) s.ps.length (fun i=>args.getD i undef) w σ:=by
  rw[←d];refine hrel0.unpin _ fun i b U=>?_
  grind
 have L:∀i b,1000≤i→B.pin i≠some b:=by
  rw[←d]
  grind
 have l:t0q B s.ps args:=by
  intro i hi hk;obtain⟨b,O,z⟩:=hpins0 i hi hk;refine⟨b,?_,z⟩;have I:i<s.ps.length:=by have:=k0i s.ps 0 i hi;omega
  have:decide (i<1000)=true:=by grind
  rw[←d];simp_all
 have T:GOk cx.G B:=by rw[←d];exact T
 have j:∀{w' its vs o},Back B w' its vs o→Back N w' its vs o:=fun {w' its vs o} h=>by
  rw[←d]at h;exact⟨h.lv,h.ll,h.ok,h.nodup,h.disj,h.live,h.mine,h.size,h.frame,h.still⟩
 rw[←V x]at hy;simp[C0g,U]at hy
 let a:Act:={ tmps:=args++a21 (fn.ntmps-args.size) undef,defers:=[] }
 have Z:a.tmps.size=fn.ntmps:=by grind
 have t:Rel B (ini s.ps x) fn.ntmps (a0f a) w σ:=by
  refine⟨g.roots,g.norm,g.nodup,g.disj,g.live,fun i hi=>?_,g.pend,g.size,g.frame,g.mine,g.pins,g.still⟩
  by_cases I:i<s.ps.length
  have:=g.slots i I
  have e:a0f a i=args.getD i undef:=by
   simp[a0f,a,a10];simp_all
  simp_all
  have:(ini s.ps x).sl i=.one .dead:=by
   simp_all[ini,e0f]
  rw[this];trivial
 refine callsIn_wide.1 (callsIn_of_wp_marks (F:=Fr none) (n:=0) W U trivial (wpIn_mono (u0b q T hm hH Y L c 1 E hy t Z rfl) ?_))
 rintro e a' w' ⟨ex,Γ',σ',rfl,Q,hr,hN,A⟩
 simp at Q;have key:(∀i,ex≠.exit i)∧Γ'.pd=none∧(Γ'.upto fn.ntmps).outs cx [] fn.ntmps (RA.all s.ps s.rs) (fn.results.toList.map .inl++(a0o s.ps 0).map fun i=>.inr (g0f s.ps i)) (fun y _=>some y)=some y:=by
  grind
 obtain⟨h0,K,Q⟩:=key;have k:LeavesInM (Fr none) 0 P fn a'.tmps (fun e w'=>∃u o,e=.returned (m0t u)∧u.length=s.rs.length∧Back N w' (c0r (RA.all s.ps s.rs) y) (u++(a0o s.ps 0).map (e0d s.ps args)) o) a'.defers .returning w':=by
  rcases A with A|⟨D,A,S,C⟩;rw[A];obtain⟨v,m,u,o,O,z,R⟩:=i0q (args:=args) q.toCxTy p hr K Q l;exact⟨v,m,u,o,O,z,j R⟩;rw[A];have X:=hr.turned (i0d C rfl S (.deferred none));obtain⟨v,m,u,o,O,z,R⟩:=i0q (args:=args) q.toCxTy p X K Q l;exact⟨by simp,.inl ⟨D,_,rfl,run_takeDeferred C,v,m,u,o,O,z,j R⟩⟩
 cases ex with
 |exit i=>simp_all
 |normal=>exact k
 |ret=>exact k
end
end Go.Ab
namespace Go.Ab
open Go.MapKept
@[reducible] def Mu(e:Ty):=Option (Int×List (Int×e.den))
def u0d{α:Type}(f:Int→Option α):Option α:=open Classical in if h:∃z,∀b,f b=some z then some h.choose else none
theorem z0h{α:Type}{f:Int→Option α}{z:α}(h:u0d f=some z)(b:Int):f b=some z:=by
 unfold u0d at h
 split at h
 rename_i g;cases h;exact g.choose_spec b;cases h
theorem F0d{α:Type}{f:Int→Option α}{z:α}(h:∀b,f b=some z):u0d f=some z:=by
 unfold u0d;have g:∃z,∀b,f b=some z:=⟨z,h⟩;rw[dif_pos g];exact congrArg some (Option.some.inj ((g.choose_spec 0).symm.trans (h 0)))
def GTab.withM(G:GTab){e:Ty}(μ:Mu e):GTab:={ G with m:=μ.map fun p=>⟨e,p.1,p.2⟩ }
section
variable {ρ:Type} {e:Ty}
def y0m(o:Oper):Bool:=match o.op,o.guard with
 |.makeMap _ none,none=>true
 |.mapUpdate _ _ _ _,none=>true
 |_,_=>false
def mop(cx:Cx)(o:Oper)(Γ:AE)(μ:Mu e)(K:AE→Mu e→Rs ρ):Rs ρ:=match Γ.pd with
 |some _=>none
 |none=>match o.op,o.dst,μ with
  |.makeMap t none,some d,none=>if cx.G.w t=some e then u0d fun b=>K (Γ.set d (.val .hd b)) (some (b,[]))else none
  |.mapUpdate t m k v,none,some (b,L)=>match Γ.opd m,Γ.opd k,Γ.opd v with
   |.val .hd (b':Int),.val (.int .i64) (k:Int),.val t' y=>if h:t'=e then(if cx.G.w t=some e then(bif b'==b&&(g0l k L).isNone then K Γ (some (b,L++[(k,h▸y)]))else none)else none)else none
   |_,_,_=>none
  |_,_,_=>none
def r0z(cx:Mu e→Cx)(ops:List Oper):List Oper→AE→Mu e→(AE→Mu e→Rs ρ)→Rs ρ
 | [],Γ,μ,K=>K Γ μ
 |o::r,Γ,μ,K=>bif y0m o then mop (cx none) o Γ μ fun Γ' μ'=>r0z cx ops r Γ' μ' K else a0g (cx μ) .x ops o Γ fun Γ'=>r0z cx ops r Γ' μ K
end
def e0k{e:Ty}(cx:Mu e→Cx)(H:Hints):Code→Nat→{ρ:Type}→AE→Mu e→(Ex→AE→Mu e→Rs ρ)→Rs ρ
 |.skip,_,_,Γ,μ,K=>K .normal Γ μ
 |.region id ops draw,_,_,Γ,μ,K=>bif draw then(match find H.regs id with
    |some ms=>bif n0o ops ms then h0q (cx μ) ops.toList (ms.zip ops.toList) Γ fun Γ'=>K .normal Γ' μ else none
    |none=>none)
   else r0z cx ops.toList ops.toList Γ μ fun Γ' μ'=>K .normal Γ' μ'
 |.seq a b,p,_,Γ,μ,K=>match find H.cuts p with
  |none=>e0k cx H a (2*p) Γ μ fun e Γ' μ'=>match e with
   |.normal=>e0k cx H b (2*p+1) Γ' μ' K
   |e=>K e Γ' μ'
  |some os=>(e0k cx H a (2*p) Γ μ fun e Γ' μ'=>match μ' with
    |some m=>os.pack e Γ' fun x=>some (x,m)
    |none=>none).bind fun x=>os.open x.1 fun e Γ'=>match e with
   |.normal=>e0k cx H b (2*p+1) Γ' (some x.2) K
   |e=>K e Γ' (some x.2)
 |.cond c x y,p,_,Γ,μ,K=>match Γ.opd c with
  |.val .bool (t:Bool)=>bif t then e0k cx H x (2*p) Γ μ K else e0k cx H y (2*p+1) Γ μ K
  |_=>none
 |.block id c,p,_,Γ,μ,K=>e0k cx H c (2*p) Γ μ fun e Γ' μ'=>match e with
  |.exit i=>bif i==id then K .normal Γ' μ' else K (.exit i) Γ' μ'
  |e=>K e Γ' μ'
 |.loop c,p,_,Γ,μ,K=>match find H.loops p,μ with
  |some (s,os),some m=>s.dcd Γ fun x=>
   (y0h (fun x:s.ty.den×(Int×List (Int×e.den))=>e0k cx H c (2*p) (s.enc x.1) (some x.2) fun e Γ' μ'=>match μ' with
    |none=>none
    |some m'=>match e with
     |.normal=>s.dcd Γ' fun x'=>some (.inl (x',m'))
     |e=>os.pack e Γ' fun y=>some (.inr (y,m'))) (x,m)).bind fun y=>os.open y.1 fun e Γ'=>K e Γ' (some y.2)
  |_,_=>none
 |.exit id,_,_,Γ,μ,K=>K (.exit id) Γ μ
 |.ret,_,_,Γ,μ,K=>K .ret Γ μ
 |_,_,_,_,_,_=>none
section
variable {P:Program} {B:Base} {N:Nat} {w w':World} {σ σ':Gh} {Γ Γ':AE} {tm tm':Nat→Value} {e:Ty}
structure RelM (B:Base) (Γ:AE) (N:Nat) (tm:Nat→Value) (w:World) (σ:Gh) (μ:Mu e):Prop where
 rel:Rel B Γ N tm w σ
 map:∀b L,μ=some (b,L)→∃(n:Nat)(es:Array MapEntry)(k:Nat),b=(n:Int)∧B.size≤n∧w.heap[n]?=some (.map es k)∧d0s (a0a w none) (Shr B w σ) e L es.toList
theorem RelM.gok{G:GTab}{μ:Mu e}(h:RelM B Γ N tm w σ μ)(o:GOk G B):GOk (G.withM μ) (B.anew w σ):=by
 refine⟨(o.anew h.rel).1,fun t b L a=>?_⟩;cases μ with
 |none=>cases a
 |some p=>
  obtain⟨i,d⟩:=p;cases a;obtain⟨n,j,k,l,q,f,m⟩:=h.map i d rfl;exact⟨n,w,j,k,l,(a00.1 f).1,s0y h.rel f rfl,f,m.frame (fun _ _ _=>rfl) fun c g=>⟨g.1,⟨g.2.1,g.2.2⟩,g.2.2,rfl⟩⟩
theorem RelM.step{μ:Mu e}(h:RelM B Γ N tm w σ μ)(g:Rel (B.anew w σ) Γ' N tm' w' σ'):RelM B Γ' N tm' w' σ' μ:=by
 refine⟨h.rel.back g,fun b L p=>?_⟩;obtain⟨n,d,k,i,l,m,o⟩:=h.map b L p;refine⟨n,d,k,i,l,Rel.others h.rel g m rfl,o.frame (fun c j a=>b0q none (g.kept a).1 j) fun c a=>?_⟩;exact q0b h.rel (f:=(B.anew w σ).pin) (g.kept a).2
theorem d0s.turned(g:∀(c:Nat)(o:Obj),w.heap[c]?=some o→o.isCells=true→w'.heap[c]?=some o)(f:w.heap.size≤w'.heap.size):∀{L:List (Int×e.den)} {es:List MapEntry},
  d0s (a0a w none) (Shr B w σ) e L es→d0s (a0a w' none) (Shr B w' σ) e L es
 | [],[],_=>trivial
 |_::_,_::_,⟨h1,h2,h3⟩=>⟨h1,VOk.turned (ov:=none) g f h2,d0s.turned g f h3⟩
 | [],_::_,h=>h.elim
 |_::_,[],h=>h.elim
theorem d0s.append{m:Mem}{Sh:Nat→Prop}{k:Int}{y:e.den}{en:MapEntry}(g:en.key=.int .i64 k)(f:VOk m Sh e y en.val):∀{L:List (Int×e.den)} {es:List MapEntry},d0s m Sh e L es→d0s m Sh e (L++[(k,y)]) (es++[en])
 | [],[],_=>⟨g,f,trivial⟩
 |_::_,_::_,⟨g1,g2,g3⟩=>⟨g1,g2,d0s.append g f g3⟩
 | [],_::_,h=>h.elim
 |_::_,[],h=>h.elim
end
section
variable {P:Program} {B:Base} {N:Nat} {ρ:Type} {Γ:AE} {a:Act} {w:World} {σ:Gh} {e:Ty} {ro:Option Nat} {D:List Deferred} {H:Hints} {G:GTab} {cx:Mu e→Cx}
theorem E0l{cx:Cx}(M:CxTy P cx){o:Oper}{μ:Mu e}{K:AE→Mu e→Rs ρ}{z:ρ}{next:Act→World→Prop}{Q:Exit→Act→World→Prop}
  (h:RelM B Γ N (a0f a) w σ μ)(hN:a.tmps.size=N)(hf:fits N o=true)(f:mop cx o Γ μ K=some z)
  (l:∀v w' Γ' σ' μ',RelM B Γ' N (a0f (a.put o.dst v)) w' σ' μ'→K Γ' μ'=some z→next (a.put o.dst v) w'):o.wpIn (Fr ro) 0 P a w next Q:=by
 unfold mop at f
 split at f
 cases f;rename_i h5;have h0:=h.rel.ov_none h5
 split at f
 rename_i t d s hd
 split at f
 have f:=z0h f (w.heap.size:Int);have q:(execOp a.eval o).run P w=.ok (.value (.map (some w.heap.size))) (w.alloc (.map #[] 0)):=by
  have U:(Instr.makeMap t none).run P w=.ok (.map (some w.heap.size)) (w.alloc (.map #[] 0)):=rfl;simp[execOp,s,U]
 have hr:=h.rel.turned (i0u h.rel.size (.map #[] 0));refine m0a (fun c r=>by rw[s]at r;cases r) ?_
 rw[q,Oper.uponIn_value];refine l _ _ _ σ _ ⟨?_,fun b L F=>?_⟩ f;rw[hd];exact hr.putd hN fun _=>VOk.mk_hd w.heap.size;cases F;exact⟨w.heap.size,#[],0,rfl,h.rel.size,b0r _,trivial⟩;cases f;rename_i t m k v b L s hd;have p:=a0r hf;have F:=h.rel.opd (p m (by simp[s,Op.operands]));have hk:=h.rel.opd (p k (by simp[s,Op.operands]));have hv:=h.rel.opd (p v (by simp[s,Op.operands]))
 split at f
 rename_i b' E t' y S O h7;rw[S]at F;rw[O]at hk;rw[h7]at hv
 split at f
 rename_i h6;subst h6
 split at f
 rename_i hw;obtain⟨hb,f⟩:=(a0b f).elim id fun h=>by cases h.2
 simp only[bA,beq_iff_eq,Option.isNone_iff_eq_none]at hb;obtain⟨h8,Z⟩:=hb;obtain⟨n,V,hn⟩:=VOk.hd_eq F;obtain⟨G,es,D,h1,h2,C,h4⟩:=h.map b L rfl;have Y:G=n:=by omega
 subst Y;obtain⟨kt,et,u1,u2,u3⟩:=M.W t _ hw;have R:a.eval k=.int .i64 E:=a0e.int hk;have J:=run_checkKey (P:=P) (w:=w) (k:=.int .i64 E) u2 (by simp[IsKey]) false 9999;have A:Instr.findNow (.int .i64) (.int .i64 E) es.toList 0=some none:=by
  rcases n0q (k:=E) 0 h4 with⟨-,g2⟩|⟨x,j,u,g1,-⟩;exact g2;rw[Z]at g1;cases g1
 let o':Obj:=.map (es.push { key:=.int .i64 E,val:=a.eval v,born:=D }) (D+1)
 let w':World:={ w with heap:=w.heap.setIfInBounds G o' }
 have q:(execOp a.eval o).run P w=.ok .skip w':=by
  simp[execOp,s,V,R,Instr.mapUpdate,run_underlying u1,MapKept.run_getObj_map C,J,run_findKey u2 A,MapKept.run_setObj_map _ C,Result.andThen,w',o']
 have g:∀(c:Nat)(H:Obj),w.heap[c]?=some H→H.isCells=true→w'.heap[c]?=some H:=fun c H r I=>by
  have X:c≠G:=by
   rintro rfl
   rw[C]at r;cases r;cases I
  exact((heap_set C).2 c X).trans r
 have i:w.heap.size≤w'.heap.size:=by simp[w']
 have ht:Turns B w w':=⟨g,i,fun c r=>(heap_set C).2 c (by omega),rfl⟩;have hr:=h.rel.turned ht;refine m0a (fun c r=>by rw[s]at r;cases r) ?_
 rw[q,Oper.uponIn_skip];refine l undef w' Γ σ _ ⟨by rw[hd];exact hr,fun b2 L2 T=>?_⟩ f;cases T;refine⟨G,_,_,h1,h2,(heap_set C).1,?_⟩;rw[Array.toList_push];refine d0s.append rfl ?_ (h4.turned g i);have hv:VOk (a0a w σ.ov) (Shr B w σ) t' y (a.eval v):=hv;rw[h0]at hv;exact VOk.turned (ov:=none) g i hv;cases f;cases f;cases f;cases f
theorem v0v{o:Oper}(h:y0m o=true):o.guard=none:=by
 unfold y0m at h
 split at h
 assumption
 assumption
 cases h
theorem w0v(k:∀μ,CxOk P (cx μ))(b:∀μ,(cx μ).G=G.withM μ)(i:GOk G B){ops:Array Oper}{Q:Exit→Act→World→Prop}{z:ρ}:∀(l:List Oper){Γ:AE}{a:Act}{w:World}{σ:Gh}{μ:Mu e}{K:AE→Mu e→Rs ρ}
  (_:RelM B Γ N (a0f a) w σ μ) (_:a.tmps.size=N) (_:a.defers=D) (_:∀o∈l,f0e N ops.toList o=true) (_:r0z cx ops.toList l Γ μ K=some z)
  (_:∀a' w' Γ' σ' μ',RelM B Γ' N (a0f a') w' σ' μ'→a'.tmps.size=N→a'.defers=D→K Γ' μ'=some z→Q .normal a' w'),wpListIn (Fr ro) 0 P ops Q l a w
 | [],Γ,a,w,σ,μ,K,h,hN,hD,_,f,hQ=>hQ a w Γ σ μ h hN hD f
 |o::l,Γ,a,w,σ,μ,K,h,hN,hD,hf,f,hQ=>by
  simp only[r0z]at f;have g:∀v w' Γ' σ' μ',RelM B Γ' N (a0f (a.put o.dst v)) w' σ' μ'→r0z cx ops.toList l Γ' μ' K=some z→wpListIn (Fr ro) 0 P ops Q l (a.put o.dst v) w':=fun v w' Γ' σ' μ' hr hK=>
   w0v k b i l hr (by rw[i0n];exact hN) (by rw[h0t];exact hD) (fun o m=>hf o (by simp[m])) hK hQ
  rcases a0b f with⟨d,f⟩|⟨-,f⟩
  ·have j:=v0v d
   have:=E0l (ro:=ro) (Q:=Q) (k none).toCxTy h hN (i0r (hf o (by simp))) f (next:=wpListIn (Fr ro) 0 P ops Q l) g
   simp only[wpListIn];have c:Region.wanted o (yielded ops a.tmps)=true:=by simp[Region.wanted,j]
   rw[if_pos c];exact this
  ·have:=r0k (ro:=ro) (B:=B.anew w σ) (next:=wpListIn (Fr ro) 0 P ops Q l) (Q:=Q) (k μ) (by rw[b];exact h.gok i) h.rel.anew hN (hf o (by simp)) f fun v w' Γ' σ' hr hK=>g v w' Γ' σ' μ (h.step hr) hK
   simp only[wpListIn]
   by_cases c:Region.wanted o (yielded ops a.tmps)=true
   rw[if_pos c]at this⊢;exact this;rw[if_neg c]at this⊢;exact this
def C0e{ρ:Type}(B:Base)(N:Nat)(D:List Deferred)(K:Ex→AE→Mu e→Rs ρ)(z:ρ):Exit→Act→World→Prop:=fun ex a w=>
 ∃e' Γ σ μ,ex=k0m e'∧K e' Γ μ=some z∧RelM B Γ N (a0f a) w σ μ∧a.tmps.size=N∧a.defers=D
theorem v0w(W:∀μ,CxOk P (cx μ))(U:∀μ,(cx μ).G=G.withM μ)(hG:GOk G B)(hm:P.follows .mixedOrders=true)(Y:H.fits N=true):∀(c:Code) (p:Nat) {ρ:Type}{Γ:AE}{μ:Mu e}{K:Ex→AE→Mu e→Rs ρ}{z:ρ}{a:Act}{w:World}{σ:Gh}(_:c0g N c=true)
  (_:e0k cx H c p Γ μ K=some z) (_:RelM B Γ N (a0f a) w σ μ) (_:a.tmps.size=N) (_:a.defers=D),c.wpIn (Fr ro) 0 P (C0e B N D K z) a w:=by
 intro c;have M:∀p s os,find H.loops p=some (s,os)→s.fits N=true∧os.all (fun q=>q.2.fits N)=true:=fun p s os h=>by
  obtain⟨k,hk⟩:=k0e h;simp only[Hints.fits,bA]at Y
  have:=lA.1 Y.1 _ hk
  simpa only[bA]using this
 have V:∀p os,find H.cuts p=some os→os.all (fun q=>q.2.fits N)=true:=fun p os h=>by
  obtain⟨k,hk⟩:=k0e h;simp only[Hints.fits,bA]at Y;exact lA.1 Y.2 _ hk
 induction c with
 |skip=>intro p ρ Γ μ K z a w σ hf g h hN hD;exact wpIn_skip ⟨.normal,Γ,σ,μ,rfl,by simpa only[e0k]using g,h,hN,hD⟩
 |region rid ops draw=>
  intro p ρ Γ μ K z a w σ hf g h hN hD;simp only[e0k]at g;have J:∀o∈ops.toList,f0e N ops.toList o=true:=fun o ho=>lA.1 hf o ho;cases draw with
  |false=>
   simp only[cF]at g;refine wpIn_region_list ?_
   exact w0v (Q:=C0e B N D K z) (ro:=ro) (D:=D) W U hG (ops:=ops) ops.toList h hN hD J g (fun R w' Γ' σ' μ' u d f j=>⟨.normal,Γ',σ',μ',rfl,j,u,d,f⟩)
  |true=>
   simp only[cT]at g
   split at g
   rename_i ms h6;obtain⟨h3,g⟩:=(a0b g).elim id fun h=>by cases h.2
   exact u0a (B:=B.anew w σ) (W μ) (by rw[U];exact h.gok hG) hm h.rel.anew hN hD J h3 g fun R w' Γ' σ' u d f j=>⟨.normal,Γ',σ',μ,rfl,j,h.step u,d,f⟩;cases g
 |seq x y ihx ihy=>
  intro p ρ Γ μ K z a w σ hf g h hN hD;simp only[c0g,bA]at hf;simp only[e0k]at g;refine wpIn_seq ?_
  split at g
  ·refine wpIn_mono (ihx _ hf.1 g h hN hD) ?_
   rintro e R w' ⟨E,Γ',σ',μ',rfl,j,u,d,f⟩
   cases E with
   |normal=>exact ihy _ hf.2 j u d f
   |exit i=>exact⟨.exit i,Γ',σ',μ',rfl,j,u,d,f⟩
   |ret=>exact⟨.ret,Γ',σ',μ',rfl,j,u,d,f⟩
  ·rename_i os C;obtain⟨y0,h1,S⟩:=a04.1 g;refine wpIn_mono (ihx _ hf.1 h1 h hN hD) ?_
   rintro e R w' ⟨E,Γ',σ',μ',rfl,j,u,d,f⟩
   cases μ' with
   |none=>cases j
   |some m=>
    obtain⟨Z,X,σ2,v,A,O⟩:=d0o os u.rel.anew (V _ _ C) j;simp only[sj]at v;subst v;rw[O]at S;have A:=u.step A;cases E with
    |normal=>exact ihy _ hf.2 S A d f
    |exit i=>exact⟨.exit i,X,σ2,_,rfl,S,A,d,f⟩
    |ret=>exact⟨.ret,X,σ2,_,rfl,S,A,d,f⟩
 |cond c x y ihx ihy=>
  intro p ρ Γ μ K z a w σ hf g h hN hD;simp only[c0g,bA]at hf;simp only[e0k]at g
  split at g
  rename_i t ht;have T:=h.rel.opd hf.1;rw[ht]at T;have T:=a0e.bool T;rcases a0b g with⟨rfl,g⟩|⟨rfl,g⟩;exact wpIn_cond_true T (ihx _ hf.2.1 g h hN hD);exact wpIn_cond_false T (ihy _ hf.2.2 g h hN hD);cases g
 |block id c ih=>
  intro p ρ Γ μ K z a w σ hf g h hN hD;simp only[e0k]at g;refine wpIn_block (wpIn_mono (ih _ hf g h hN hD) ?_)
  rintro e R w' ⟨E,Γ',σ',μ',rfl,j,u,d,f⟩
  cases E with
  |normal=>exact⟨.normal,Γ',σ',μ',rfl,j,u,d,f⟩
  |exit i=>
   simp only[k0m,Exit.inBlock];rcases a0b j with⟨hi,j⟩|⟨hi,j⟩;rw[if_pos (by simpa using hi)];exact⟨.normal,Γ',σ',μ',rfl,j,u,d,f⟩;rw[if_neg (by simpa using hi)];exact⟨.exit i,Γ',σ',μ',rfl,j,u,d,f⟩
  |ret=>exact⟨.ret,Γ',σ',μ',rfl,j,u,d,f⟩
 |loop c ih=>
  intro p ρ Γ μ K z a w σ hf g h hN hD;simp only[e0k]at g
  split at g
  ·rename_i s os m h4;obtain⟨hs,C⟩:=M _ _ _ h4;obtain⟨x0,σ0,h1,S⟩:=h.rel.anew.dcd hs g;obtain⟨y,hy,j⟩:=a04.1 h1;obtain⟨n0,h0⟩:=s0t hy;refine l0a (fun n a w=>∃(x:s.ty.den×(Int×List (Int×e.den))) (σ:Gh),g0u _ n x=some y∧RelM B (s.enc x.1) N (a0f a) w σ (some x.2)∧a.tmps.size=N∧a.defers=D) n0 ⟨(x0,m),σ0,h0,h.step S,hN,hD⟩ ?_
   rintro n a w ⟨x,σ,L,u,d,f⟩
   cases n with
   |zero=>simp only[g0u]at L;cases L
   |succ n=>
    simp only[g0u]at L
    split at L
    cases L
    ·rename_i x' h5;refine wpIn_mono (ih _ hf h5 u d f) ?_
     rintro e R w' ⟨E,Γ',σ',μ',rfl,r,l,I,F⟩
     cases μ' with
     |none=>cases r
     |some m'=>
      cases E with
      |normal=>
       obtain⟨x2,σ2,v,A⟩:=l.rel.anew.dcd hs r;simp only[sj,Sum.inl.injEq]at v;subst v;exact⟨n,Nat.lt_succ_self n,(x2,m'),σ2,L,l.step A,I,F⟩
      |exit i=>
       obtain⟨Z,X,σ2,v,A,O⟩:=d0o os l.rel.anew C r;cases v
      |ret=>
       obtain⟨Z,X,σ2,v,A,O⟩:=d0o os l.rel.anew C r;cases v
    ·rename_i b hb;simp only[sj]at L;subst L;refine wpIn_mono (ih _ hf hb u d f) ?_
     rintro e R w' ⟨E,Γ',σ',μ',rfl,r,l,I,F⟩
     cases μ' with
     |none=>cases r
     |some m'=>
      cases E with
      |normal=>
       obtain⟨x2,σ2,v,A⟩:=l.rel.anew.dcd hs r;cases v
      |exit i=>
       obtain⟨Z,X,σ2,v,A,O⟩:=d0o os l.rel.anew C r;simp only[sj,Sum.inr.injEq]at v;subst v;rw[O]at j;exact⟨.exit i,X,σ2,_,rfl,j,l.step A,I,F⟩
      |ret=>
       obtain⟨Z,X,σ2,v,A,O⟩:=d0o os l.rel.anew C r;simp only[sj,Sum.inr.injEq]at v;subst v;rw[O]at j;exact⟨.ret,X,σ2,_,rfl,j,l.step A,I,F⟩
  cases g
 |exit id=>intro p ρ Γ μ K z a w σ hf g h hN hD;exact wpIn_exit ⟨.exit id,Γ,σ,μ,rfl,by simpa only[e0k]using g,h,hN,hD⟩
 |ret=>intro p ρ Γ μ K z a w σ hf g h hN hD;exact wpIn_ret ⟨.ret,Γ,σ,μ,rfl,by simpa only[e0k]using g,h,hN,hD⟩
 |_=>intro p ρ Γ μ K z a w σ hf g h hN hD;simp only[e0k]at g;cases g
end
def C0m{e:Ty}(cx:Mu e→Cx)(H:Hints)(fn:Func)(ps:List PA)(rs:List RA)(x:(c0m (ps.map PA.ty)).den):Option (c0m ((RA.all ps rs).map RA.ty)).den:=
 match fn.body with
 |none=>none
 |some body=>e0k cx H body 1 (ini ps x) none fun e Γ _=>match e,Γ.pd with
  |.exit _,_=>none
  |_,some _=>none
  |_,none=>(Γ.upto fn.ntmps).outs (cx none) [] fn.ntmps (RA.all ps rs) (fn.results.toList.map .inl++(a0o ps 0).map fun i=>.inr (g0f ps i)) fun y _=>some y
theorem h0p.ofM{P:Program}{e:Ty}{cx:Mu e→Cx}{G:GTab}(m:∀μ,CxOk P (cx μ))(z:∀μ,(cx μ).G=G.withM μ)(O:P.follows .mixedOrders=true){f:FuncId}{fn:Func}{c:Code}{H:Hints}{s:FSem}(E:P.funcs[f]?=some fn)(M:fn.body=some c)(q:y0b fn c H s=true)
  (A:∀x y,s.F x=some y→C0m cx H fn s.ps s.rs x=some y):h0p P G f s:=by
 simp only[y0b,bA,dT]at q;obtain⟨o,N,Q,r⟩:=q;intro w B σ args x y hG u hB hhp hov hargs hrel hpins;have u:=A x y u;simp only[C0m,M]at u
 let a:Act:={ tmps:=args++a21 (fn.ntmps-args.size) undef,defers:=[] }
 have J:a.tmps.size=fn.ntmps:=by simp[a];omega
 have l:Rel B (ini s.ps x) fn.ntmps (a0f a) w σ:=by
  refine⟨hrel.roots,hrel.norm,hrel.nodup,hrel.disj,hrel.live,fun i hi=>?_,hrel.pend,hrel.size,hrel.frame,hrel.mine,hrel.pins,hrel.still⟩
  by_cases hlt:i<s.ps.length
  have:=hrel.slots i hlt
  have e:a0f a i=args.getD i undef:=by
   simp only[a0f,a,a13,a10];rw[if_pos (by omega)]
  rw[e];exact this
  have:(ini s.ps x).sl i=.one .dead:=by
   simp only[ini];rw[List.getElem?_eq_none (by rw[e0f];omega)]
  rw[this];trivial
 refine calls_of_wp E M (wp_mono ((wpIn_wide (n:=0)).1 (v0w (ro:=none) (D:=[]) m z hG O N c 1 o u ⟨l,fun b L h=>by cases h⟩ J rfl)) ?_)
 rintro e R w' ⟨t,Γ',σ',μ',rfl,g,I,S,K⟩
 have I:=I.rel;simp only[]at g;have key:(∀i,t≠.exit i)∧Γ'.pd=none∧(Γ'.upto fn.ntmps).outs (cx none) [] fn.ntmps (RA.all s.ps s.rs) (fn.results.toList.map .inl++(a0o s.ps 0).map fun i=>.inr (g0f s.ps i)) (fun y _=>some y)=some y:=by
  cases k:Γ'.pd with
  |some p=>rw[k]at g;cases t<;>simp only[]at g<;>cases g
  |none=>
   rw[k]at g;cases t with
   |exit i=>simp only[]at g;cases g
   |normal=>exact⟨by simp,rfl,g⟩
   |ret=>exact⟨by simp,rfl,g⟩
 obtain⟨C,k,g⟩:=key;obtain⟨v,j,d⟩:=i0q (args:=args) (m none).toCxTy r I k g hpins;cases t with
 |exit i=>exact absurd rfl (C i)
 |normal=>exact⟨K,_,j,d⟩
 |ret=>exact⟨K,_,j,d⟩
theorem FOk.withM{P:Program}{G:GTab}{f:FuncId}{s:FSem}(a:G.m=none)(h:FOk P G f s)(x:Option ((t:Ty)×Int×List (Int×t.den))):FOk P { G with m:=x } f s:=by
 have k:∀B,GOk { G with m:=x } B→GOk G B:=fun B h=>⟨h.1,fun t b L g=>by rw[a]at g;cases g⟩;rcases h with⟨h,c⟩|h;exact .inl ⟨fun w B σ args x y hg=>h w B σ args x y (k B hg),c⟩;exact .inr fun w B σ args x y hg=>h w B σ args x y (k B hg)
def B0p(P:Program)(tab:List (Nat×Ty)):Bool:=tab.all fun p=>match P.underlying p.1 with
 |some (.map kt et)=>(match P.underlying kt with|some (.int .i64)=>true|_=>false)&&a0i P p.2 (.inl et)
 |_=>false
theorem t0p.of{P:Program}{tab:List (Nat×Ty)}(h:B0p P tab=true):∀t e,find tab t=some e→t0p P t e:=fun t e k=>by
 have:=lA.1 h _ (k0t _ _ _ k)
 simp only[]at this
 split at this
 rename_i b f a;simp only[bA]at this;refine⟨b,f,a,?_,this.2⟩;have g:=this.1
 split at g
 assumption
 cases g;cases this
end Go.Ab
