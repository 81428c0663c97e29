/- Part of the proof: LibZH. Conditions: as each statement tells. -/
import Derived.Tactics
import Derived.Deep.LoopGhost
import Derived.TacticsIn
import Derived.OrdersIn
import Derived.Test.YtlddggjghmobhaaGreatMB
noncomputable section
set_option linter.unusedSimpArgs false
set_option linter.unusedVariables false
open Array renaming getD_eq_getD_getElem?→a01,getElem?_setIfInBounds_ne→a16,getElem?_setIfInBounds_self_of_lt→a20,getElem?_eq_getElem→a23,all_toList→a49,replicate→a51
open Bool renaming and_eq_true_iff→a03,false_eq_true→a05,not_eq_true'→a18,true_or→a25,and_self→a26,false_and→a30,or_eq_true→a39,not_false→a53,and_false→a54
open List renaming mem_cons_of_mem→a02,mem_append_right→a04,mem_append_left→a06,mem_range→a07,mem_filter→a08,map_congr_left→a09,all_cons→a12,mem_cons_self→a13,mem_filterMap→a14,mem_map→a17,contains_iff_mem→a19,mem_flatMap→a27,getElem?_eq_none→a28,range→a29,mem_singleton→a31,map_id→a32,filter_congr→a33,getElem?_append_left→a34,mem_reverse→a35,getElem?_cons_zero→a36,nodup_cons→a38,length_singleton→a40,replicate→a41,range_eq_range'→a42,range'_append_1→a43,mem_map_of_mem→a44,filter_append→a45,cons_append→a47,filter_cons→a48,all_append→a50,length_zip→a52
open Nat renaming lt_of_lt_of_le→a24,add_zero→a46
open Option renaming isSome_iff_exists→a00,elim→a10,isSome_iff_ne_none→a11,map_some→a15,getD_some→a21,isNone_iff_eq_none→a22,bind_eq_some_iff→a37
namespace Go.Ab
variable {Q:Exit→Act→World→Prop}{W b ns ws:List Nat}{a v:AV}{c:Call}{d:Option Nat}{e:Ty}{f:AV→AV}{g i j n:Nat}{hi:Option Operand}{lk:Nat→Option Root}{md mi mk:Md}{ms:List Md}{next:Act→World→Prop}{o:Oper}{ops:Array Oper}{p:a0l}{ps:Array (Nat×Operand)}{q:Bool}{r:Root}{s t:TypeId}{x:Operand}{Γ Γ2:AE}{β ρ:Type}{σ:Gh}{l:List e.den}
theorem p0e:∀(l:List Nat),t0v l=true→l.Nodup
 | [],_=>List.nodup_nil
 |a::l,h=>by
  simp only[t0v,bA,a18,List.contains_eq_mem,decide_eq_false_iff_not]at h;exact a38.2 ⟨h.1,p0e l h.2⟩
section
variable {ρ:Type}
inductive SlOk (nm:List Nat) (Γ:AE) (es:a0c) (i:Nat):SV→Prop
 |dead:SlOk nm Γ es i (.one .dead)
 |same (av:AV):Γ.get i=av→av≠.dead→(∀k q,(av=.ptr k q∨av=.sref k q∨∃o l,av=.swin k q o l)→k∈nm)→SlOk nm Γ es i (.one av)
 |made (n:Nat) (e:Ty):Ent.own i n e∈es→Γ.rt n=none→n∈nm→(Γ.get i=.nils∨Γ.get i=.empt)→SlOk nm Γ es i (.one (.sref n []))
 |clo (f:Nat) (ns:List Nat):Γ.sl i=.cmp (.clo f) (g0q ns)→(∀k∈ns,k∈nm)→SlOk nm Γ es i (.cmp (.clo f) (g0q ns))
theorem t0c:∀(vs:List AV)(ns:List Nat),j0b vs ns=true→vs=g0q ns
 | [],[],_=>rfl
 |v::vs,[],h=>by simp_all[j0b]
 | [],_::_,h=>by simp[j0b]at h
 |v::vs,m::ns,h=>by
  cases v with
  |ptr n p=>
   cases p with
   |nil=>
    simp[j0b]at h;rw[h.1,t0c vs ns h.2];rfl
   |cons=>simp[j0b]at h
  |_=>simp[j0b]at h
theorem r0d:∀(ns:List Nat)(k:Nat)(av:AV),(g0q ns)[k]?=some av→∃n∈ns,av=.ptr n []
 | [],k,av,h=>by simp[g0q]at h
 |n::ns,0,av,h=>by
  simp_all[g0q]
 |n::ns,k+1,av,h=>by
  obtain⟨m,g,e⟩:=r0d ns k av (by simpa[g0q]using h);exact⟨m,by simp[g],e⟩
theorem SlOk.cons{nm Γ es i v}(h:SlOk nm Γ es i v)(e:Ent):SlOk nm Γ (e::es) i v:=by
 cases h with
 |dead=>exact .dead
 |same av g1 g2 g3=>exact .same av g1 g2 g3
 |made n e' g1 g2 g3 g4=>exact .made n e' (a02 _ g1) g2 g3 g4
 |clo f ns g1 g2=>exact .clo f ns g1 g2
def i0w(r' r:Root):Prop:=r'=r∨(r'.bx=true∧r.bx=true∧r'.t.shn=r'.t∧castTo r'.t r.t r'.x=some r.x)
theorem u0r{m:Mem}:∀(q:a0l)(a b:Ty)(s:Src){t1 s1},a.le b=true→loc m a s q=some (t1,s1)→∃t2,loc m b s q=some (t2,s1)
 | [],a,b,s,t1,s1,h,g=>by
  simp[a0t]at g;obtain⟨-,rfl⟩:=g;exact⟨b,rfl⟩
 |.fst::p,a,b,s,t1,s1,h,g=>by
  obtain⟨a1,f,bl,o,rfl,rfl,g⟩:=d0v g;cases b with
  |pair b1 b2=>
   simp[Ty.le]at h;exact u0r p a1 b1 _ h.1 g
  |_=>simp[Ty.le]at h
 |.snd::p,a,b,s,t1,s1,h,g=>by
  obtain⟨a1,f,bl,o,rfl,rfl,g⟩:=d0w g;cases b with
  |pair b1 b2=>
   simp[Ty.le]at h;obtain⟨t2,k⟩:=u0r p f b2 _ h.2 g;rw[Ty.le_cells _ _ h.1]at k;exact⟨t2,k⟩
  |_=>simp[Ty.le]at h
 |.idx i::p,a,b,s,t1,s1,h,g=>by
  have d:a=b:=by
   rcases e0v g with⟨n,t,bl,o,rfl,rfl,hi,g⟩|⟨t,e,n,c,rfl,hv,hi,g⟩<;>simpa[Ty.le]using h
  simp_all
theorem i0w.loc{m:Mem}{r' r:Root}(h:i0w r' r){p:a0l}{s:Src}{t1 s1}(g:loc m r'.t s p=some (t1,s1)):∃t2,Ab.loc m r.t s p=some (t2,s1):=by
 rcases h with rfl|⟨-,-,-,h⟩
 all_goals grind[castTo,u0r]
theorem i0w.locL{m:Mem}{r':Root}(h:i0w r' r){s:Src}{e s1}(g:Ab.loc m r'.t s p=some (.list true e,s1)):Ab.loc m r.t s p=some (.list true e,s1):=by
 rcases h with rfl|⟨-,-,h,-⟩;omega
 have:=g0d p _ _ h g
 simp[Ty.shn]at this
theorem a0e.recast{m:Mem}{g g':Nat→Src}{rt rt':Nat→Option Root}{Sh Sh':Nat→Prop}{v:Value}(h:a0e m g rt Sh a v)(hs:∀c,Sh c→Sh' c)(w:∀n p r,(a=.ptr n p∨a=.sref n p∨∃o l,a=.swin n p o l)→rt n=some r→g' n=g n∧∃f,rt' n=some f∧i0w r f):a0e m g' rt' Sh' a v:=by
 cases a with
 |ptr n p=>
  obtain⟨r,t,b,o,k,d,i⟩:=h;obtain⟨u,f,j,q⟩:=w n p r (.inl rfl) k;obtain⟨t2,x⟩:=q.loc d;exact⟨f,t2,b,o,j,by simp_all,i⟩
 |sref n p=>
  obtain⟨r,e,s,k,d,i⟩:=h;obtain⟨u,f,j,q⟩:=w n p r (.inr (.inl rfl)) k;exact⟨f,e,s,j,by rw[u];exact q.locL d,i⟩
 |swin n p o l=>
  obtain⟨r,e,s,a,l',c,k,d,i,j,q⟩:=h;obtain⟨u,f,x,y⟩:=w n p r (.inr (.inr ⟨_,_,rfl⟩)) k;exact⟨f,e,s,a,l',c,x,by rw[u];exact y.locL d,i,j,q⟩
 |_=>exact h.frame (fun _ _ _=>rfl) hs (by rintro n p r t s (g|g|⟨_,_,g⟩)<;>cases g)
inductive RtOk (Γ:AE) (es:a0c) (n:Nat):Option Root→Prop
 |none:n∉es.names→RtOk Γ es n none
 |same (r r':Root):n∈es.names→Γ.rt n=some r'→i0w r' r→RtOk Γ es n (some r)
 |made (i:Nat) (e:Ty):n∈es.names→n<pinned→Ent.own i n e∈es→Γ.rt n=Option.none→(Γ.get i=.nils∨Γ.get i=.empt)→RtOk Γ es n (some ⟨false,.list true e,[]⟩)
theorem c0t(Γ:AE)(i j:Nat)(v:AV):(Γ.set i v).sl j=if j=i then .one v else Γ.sl j:=by
 simp_all[AE.set,AE.put]
theorem i0m(Γ:AE)(n m:Nat)(r:Option Root):(Γ.setRt n r).rt m=if m=n then r else Γ.rt m:=by
 simp_all[AE.setRt]
theorem b0z(b:List Nat)(Γ:AE):∀(es:a0c){K:es.ty.den→Rs ρ}{z:ρ},(∀n∈es.names,n∈b)→es.names.Nodup→a0c.rest b Γ es K=some z→
  ∃x,K x=some z∧(es.enc x).pd=none∧(∀i,SlOk b Γ es i ((es.enc x).sl i))∧∀n,RtOk Γ es n ((es.enc x).rt n)
 | [],K,z,_,_,h=>⟨(),h,rfl,fun i=>.dead,fun n=>.none (by simp[a0c.names])⟩
 |.sv i t::r,K,z,hnm,hnd,h=>by
  simp only[a0c.rest]at h
  split at h
  rename_i S x T
  split at h
  rename_i Q;subst Q;obtain⟨y,F,B,C,v⟩:=b0z b Γ r hnm hnd h;refine⟨(x,y),F,B,fun j=>?_,fun n=>?_⟩;show SlOk b Γ _ j (((a0c.enc r y).set i (.val S x)).sl j);rw[c0t];split;rename_i e;subst e;exact .same _ T (by simp) (by rintro k q (g|g|⟨o,l,g⟩)<;>cases g);exact(C j).cons _;show RtOk Γ _ n ((a0c.enc r y).rt n);cases hrt:(a0c.enc r y).rt n<;>have:=v n<;>rw[hrt]at this<;>cases this;exact .none (by assumption);exact .same _ _ (by assumption) (by assumption) (by assumption);rename_i D u d a s w A;exact .made D u d a (a02 _ s) w A;cases h;cases h
 |.own i n e::r,K,z,hnm,hnd,h=>by
  simp[a0c.names]at hnd;have I:∀m∈a0c.names r,m∈b:=fun m N=>hnm m (by simp[a0c.names,N]);have J:n∈b:=hnm n (by simp[a0c.names]);have G:∀(l:List e.den)(L:(a0c.ty r).den→Rs ρ),a0c.rest b Γ r L=some z→(∀y,L y=K (l,y))→
    SlOk b Γ (.own i n e::r) i (.one (.sref n []))→RtOk Γ (.own i n e::r) n (some ⟨false,.list true e,l⟩)→
    ∃x,K x=some z∧(a0c.enc (.own i n e::r) x).pd=none∧(∀j,SlOk b Γ (.own i n e::r) j ((a0c.enc (.own i n e::r) x).sl j))∧∀m,RtOk Γ (.own i n e::r) m ((a0c.enc (.own i n e::r) x).rt m):=by
   intro l L h W hs H;obtain⟨y,F,B,C,v⟩:=b0z b Γ r I hnd.2 h;refine⟨(l,y),by simp_all,B,fun j=>?_,fun m=>?_⟩;show SlOk b Γ _ j ((((a0c.enc r y).setRt n (some ⟨false,.list true e,l⟩)).set i (.sref n [])).sl j);rw[c0t];split;simp_all;exact(C j).cons _
   ·show RtOk Γ _ m (((a0c.enc r y).setRt n (some ⟨false,.list true e,l⟩)).rt m);rw[i0m];split;simp_all
    ·rename_i O;cases hrt:(a0c.enc r y).rt m with
     |none=>
      have:=v m
      rw[hrt]at this;cases this with
      |none g=>exact .none (by simp_all[a0c.names])
     |some rr=>
      have:=v m
      rw[hrt]at this;cases this with
      |same _ M d s g5=>exact .same rr M (by simp[a0c.names,d]) s g5
      |made D u d a s w A=>exact .made D u (by simp[a0c.names,d]) a (a02 _ s) w A
  simp[a0c.rest]at h
  split at h
  rename_i m N;rcases a0b h with⟨O,h⟩|⟨-,g⟩;obtain rfl:m=n:=by simp_all
  split at h
  rename_i u l H
  split at h
  rename_i X;subst X;exact G l _ h (fun _=>rfl) (.same _ N (by simp) (by simp_all)) (.same _ _ (by simp[a0c.names]) H (.inl rfl));simp_all;simp_all;simp_all;rename_i hi
  split at h
  rename_i H;obtain⟨hp,h⟩:=(a0b h).elim id fun h=>by grind
  exact G [] _ h (fun _=>rfl) (.made n e (by simp) H J (.inl hi)) (.made i e (by simp[a0c.names]) (by simp_all) (by simp) H (.inl hi));simp_all;rename_i hi
  split at h
  rename_i H;obtain⟨hp,h⟩:=(a0b h).elim id fun h=>by grind
  exact G [] _ h (fun _=>rfl) (.made n e (by simp) H J (.inr hi)) (.made i e (by simp[a0c.names]) (by simp_all) (by simp) H (.inr hi));simp_all;simp_all
 |.box n t::r,K,z,hnm,hnd,h=>by
  simp[a0c.names]at hnd;have I:∀m∈a0c.names r,m∈b:=fun m N=>hnm m (by simp[a0c.names,N]);simp[a0c.rest]at h;have G:∀(R:t.den)(L:(a0c.ty r).den→Rs ρ),a0c.rest b Γ r L=some z→(∀y,L y=K (R,y))→(∃M,Γ.rt n=some M∧i0w M ⟨true,t,R⟩)→
    ∃x,K x=some z∧(a0c.enc (.box n t::r) x).pd=none∧(∀j,SlOk b Γ (.box n t::r) j ((a0c.enc (.box n t::r) x).sl j))∧∀m,RtOk Γ (.box n t::r) m ((a0c.enc (.box n t::r) x).rt m):=by
   intro R L h W ⟨M,H,E⟩;obtain⟨y,F,B,C,v⟩:=b0z b Γ r I hnd.2 h;refine⟨(R,y),by simp_all,B,fun j=>(C j).cons _,fun m=>?_⟩;show RtOk Γ _ m (((a0c.enc r y).setRt n (some ⟨true,t,R⟩)).rt m);rw[i0m];split;rename_i e;subst e;exact .same _ _ (by simp[a0c.names]) H E
   ·rename_i O;cases hrt:(a0c.enc r y).rt m with
    |none=>
     have:=v m
     rw[hrt]at this;cases this with
     |none g=>exact .none (by simp_all[a0c.names])
    |some rr=>
     have:=v m
     rw[hrt]at this;cases this with
     |same _ M d s g5=>exact .same rr M (by simp[a0c.names,d]) s g5
     |made D u d a s w A=>exact .made D u (by simp[a0c.names,d]) a (a02 _ s) w A
  split at h
  rename_i S x H
  split at h
  rename_i Q;subst Q;exact G x _ h (fun _=>rfl) ⟨_,H,.inl rfl⟩
  split at h
  rename_i P
  split at h
  rename_i Y U;exact G Y _ h (fun _=>rfl) ⟨_,H,.inr ⟨rfl,rfl,P,U⟩⟩;simp_all;simp_all;simp_all
 |.ptr i n p::r,K,z,hnm,hnd,h=>by
  simp only[a0c.rest]at h
  split at h
  rename_i m q hi;obtain⟨E,h⟩:=(a0b h).elim id fun h=>by grind
  simp at E;obtain⟨J,rfl,hp⟩:=E;obtain rfl:=e0o _ _ hp;obtain⟨y,F,B,C,v⟩:=b0z b Γ r hnm hnd h;refine⟨y,F,B,fun j=>?_,fun c=>?_⟩;show SlOk b Γ _ j (((a0c.enc r y).set i (.ptr m q)).sl j);rw[c0t];split;rename_i e;subst e;exact .same _ hi (by simp) (by simp_all);exact(C j).cons _;show RtOk Γ _ c ((a0c.enc r y).rt c);cases hrt:(a0c.enc r y).rt c<;>have:=v c<;>rw[hrt]at this<;>cases this;exact .none (by assumption);exact .same _ _ (by assumption) (by omega) (by omega);rename_i D u d a s w A;exact .made D u d a (a02 _ s) w A;simp_all
 |.vp i t::r,K,z,hnm,hnd,h=>by
  simp only[a0c.rest]at h
  split at h
  rename_i S x T
  split at h
  rename_i Q;subst Q;obtain⟨y,F,B,C,v⟩:=b0z b Γ r hnm hnd h;refine⟨(x,y),F,B,fun j=>?_,fun n=>?_⟩;show SlOk b Γ _ j (((a0c.enc r y).set i (.vptr S x)).sl j);rw[c0t];split;rename_i e;subst e;exact .same _ T (by simp) (by rintro k q (g|g|⟨o,l,g⟩)<;>cases g);exact(C j).cons _;show RtOk Γ _ n ((a0c.enc r y).rt n);cases hrt:(a0c.enc r y).rt n<;>have:=v n<;>rw[hrt]at this<;>cases this;exact .none (by assumption);exact .same _ _ (by assumption) (by assumption) (by assumption);rename_i D u d a s w A;exact .made D u d a (a02 _ s) w A;cases h;cases h
 |.ref i n p::r,K,z,hnm,hnd,h=>by
  simp only[a0c.rest]at h
  split at h
  rename_i m q hi;obtain⟨E,h⟩:=(a0b h).elim id fun h=>by grind
  simp at E;obtain⟨J,rfl,hp⟩:=E;obtain rfl:=e0o _ _ hp;obtain⟨y,F,B,C,v⟩:=b0z b Γ r hnm hnd h;refine⟨y,F,B,fun j=>?_,fun c=>?_⟩;show SlOk b Γ _ j (((a0c.enc r y).set i (.sref m q)).sl j);rw[c0t];split;rename_i e;subst e;exact .same _ hi (by simp) (by simp_all);exact(C j).cons _;show RtOk Γ _ c ((a0c.enc r y).rt c);cases hrt:(a0c.enc r y).rt c<;>have:=v c<;>rw[hrt]at this<;>cases this;exact .none (by assumption);exact .same _ _ (by assumption) (by omega) (by omega);rename_i D u d a s w A;exact .made D u d a (a02 _ s) w A;simp_all
 |.rfi i n::r,K,z,hnm,hnd,h=>by
  simp only[a0c.rest]at h
  split at h
  rename_i m k hi;obtain⟨E,h⟩:=(a0b h).elim id fun h=>by grind
  simp at E;obtain⟨J,rfl⟩:=E;obtain⟨y,F,B,C,v⟩:=b0z b Γ r hnm hnd h;refine⟨((k:Int),y),F,B,fun j=>?_,fun c=>?_⟩;show SlOk b Γ _ j (((a0c.enc r y).set i (.sref m [.idx (k:Int).toNat])).sl j);rw[c0t];split;rename_i e;subst e;exact .same _ (by simp_all) (by simp) (by simp_all);exact(C j).cons _;show RtOk Γ _ c ((a0c.enc r y).rt c);cases hrt:(a0c.enc r y).rt c<;>have:=v c<;>rw[hrt]at this<;>cases this;exact .none (by assumption);exact .same _ _ (by assumption) (by omega) (by omega);rename_i D u d a s w A;exact .made D u d a (a02 _ s) w A;simp_all
 |.win i n p::r,K,z,hnm,hnd,h=>by
  simp only[a0c.rest]at h
  split at h
  rename_i m q o k hi;obtain⟨E,h⟩:=(a0b h).elim id fun h=>by grind
  simp at E;obtain⟨J,rfl,hp⟩:=E;obtain rfl:=e0o _ _ hp;obtain⟨y,F,B,C,v⟩:=b0z b Γ r hnm hnd h;refine⟨((o:Int),(k:Int),y),F,B,fun j=>?_,fun c=>?_⟩;show SlOk b Γ _ j (((a0c.enc r y).set i (.swin m q (o:Int).toNat (k:Int).toNat)).sl j);rw[c0t];split;rename_i e;subst e;exact .same _ (by simp_all) (by simp) (by simp_all);exact(C j).cons _;show RtOk Γ _ c ((a0c.enc r y).rt c);cases hrt:(a0c.enc r y).rt c<;>have:=v c<;>rw[hrt]at this<;>cases this;exact .none (by assumption);exact .same _ _ (by assumption) (by omega) (by omega);rename_i D u d a s w A;exact .made D u d a (a02 _ s) w A;simp_all
 |.clo i f ns::r,K,z,hnm,hnd,h=>by
  simp[a0c.rest]at h
  split at h
  rename_i f' vs hi;obtain⟨E,V⟩:=(a0b h).elim id fun h=>by grind
  simp at E;obtain⟨rfl,J,hp⟩:=E;obtain rfl:=t0c _ _ hp;obtain⟨y,F,B,C,v⟩:=b0z b Γ r hnm hnd V;refine⟨y,F,B,fun j=>?_,fun c=>?_⟩;show SlOk b Γ _ j (bif j==i then(SV.cmp (.clo f') (g0q ns))else(a0c.enc r y).sl j)
  by_cases e:j=i
  subst e
  simp
  exact .clo f' ns hi J;have u:(j==i)=false:=by simp_all
  simp[u];exact(C j).cons _;show RtOk Γ _ c ((a0c.enc r y).rt c);cases hrt:(a0c.enc r y).rt c<;>have:=v c<;>rw[hrt]at this<;>cases this;exact .none (by assumption);exact .same _ _ (by assumption) (by omega) (by omega);rename_i D u d a s w A;exact .made D u d a (a02 _ s) w A;simp_all
end
def Ent.fits(N:Nat):Ent→Bool
 |.sv i _|.own i _ _|.ptr i _ _|.ref i _ _|.rfi i _|.win i _ _|.vp i _|.clo i _ _=>decide (i<N)
 |.box _ _=>true
def a0c.fits(N:Nat)(es:a0c):Bool:=es.all (Ent.fits N)
section
variable {ρ:Type} {B:Base} {N:Nat} {tm:Nat→Value} {w:World}
theorem d0k(h:Rel B Γ N tm w σ)(hi:i<N):a0e (a0a w σ.ov) σ.g Γ.rt (Shr B w σ) (Γ.get i) (tm i):=by
 have:=h.slots i hi
 simp[AE.get]
 revert this
 cases Γ.sl i with
 |one v=>exact fun h=>h
 |cmp c vs=>exact fun _=>trivial
theorem Rel.vals{nm:List Nat}:∀(m:a0c) {Γ:AE} {σ:Gh}(_:Rel B Γ N tm w σ)(_:Γ.pd=none){K:m.ty.den→Rs ρ}{z:ρ}(_:m.fits N=true)(_:∀n∈m.names,n∈nm)(_:m.names.Nodup)(_:a0c.vals nm m Γ K=some z),
  ∃x Γf σf,K x=some z∧Rel B Γf N tm w σf∧Γf.pd=none∧(∀(j:Nat) t y,Γ.get j=.val t y→Γf.get j=.val t y)∧(m.enc x).pd=none∧(∀i,SlOk nm Γf m i ((m.enc x).sl i))∧∀n,RtOk Γf m n ((m.enc x).rt n):=by
 intro m
 induction m with
 |nil=>
  intro Γ σ h hpd K z hf hnm hnd d;obtain⟨x,k,a,b,c⟩:=b0z nm Γ [] hnm hnd d
  grind
 |cons e r ih=>
  intro Γ σ h hpd K z hf hnm hnd d;cases e with
  |sv i t=>
   simp only[a0c.fits,a12,bA,Ent.fits,dT]at hf;simp[a0c.vals]at d;obtain⟨o,d⟩:=(a0b d).resolve_right (fun g=>by grind);have key:∃x Γ1 σ1,a0c.vals nm r (Γ1.set i (.val t x)) (fun y=>K (x,y))=some z∧Rel B Γ1 N tm w σ1∧Γ1.pd=none∧VOk (a0a w σ1.ov) (Shr B w σ1) t x (tm i)∧
     ∀(j:Nat) l y,Γ.get j=.val l y→(Γ1.set i (.val t x)).get j=.val l y:=by
    have A:=d0k h hf.1;have other:(∀l y,Γ.get i≠.val l y)→∃x Γ1 σ1,a0c.vals nm r (Γ1.set i (.val t x)) (fun y=>K (x,y))=some z∧Rel B Γ1 N tm w σ1∧Γ1.pd=none∧VOk (a0a w σ1.ov) (Shr B w σ1) t x (tm i)∧
     ∀(j:Nat) l y,Γ.get j=.val l y→(Γ1.set i (.val t x)).get j=.val l y:=fun C=>by
     obtain⟨x,Γ1,σ1,k,a,b,c,-,J⟩:=h.asVB (.inl A) d;refine⟨x,Γ1,σ1,k,a,c.pd.trans hpd,b,fun j l y q=>?_⟩;have L:j≠i:=fun e=>C l y (e▸q)
     have:=J.2 j l y q
     simp_all[AE.get,c0t]
    cases hg:Γ.get i with
    |val l x=>
     rw[hg]at d A;simp[AE.asV]at d
     split at d
     rename_i x2 s;rw[hg]at o;simp[AV.exact]at o;subst o;rw[l0c]at s;cases s;refine⟨x,Γ,σ,d,h,hpd,A,fun j t2 y q=>?_⟩
     by_cases e:j=i
     subst e;rw[hg]at q;simp[AE.get];rw[c0t,if_pos rfl];omega;simp_all[AE.get,c0t];simp_all
    |_=>exact other (by rw[hg];intro l y e;cases e)
   obtain⟨x,Γ1,σ1,V,W,X,Y,Z⟩:=key;have k6:Rel B (Γ1.set i (.val t x)) N tm w σ1:=W.put (v:=tm i) (fun _=>Y) (fun j _=>by simp_all);obtain⟨y,Γf,σf,P,Q,R,D,S,T,U⟩:=ih k6 X (by simp_all[a0c.fits]) hnm hnd V;have M:Γf.get i=.val t x:=D i t x (by simp[AE.get];rw[c0t,if_pos rfl]);refine⟨(x,y),Γf,σf,P,Q,R,fun j l y' q=>D j l y' (Z j l y' q),S,fun j=>?_,fun n=>?_⟩;show SlOk nm Γf _ j (((a0c.enc r y).set i (.val t x)).sl j);rw[c0t];split;rename_i e;subst e;exact .same _ M (by simp) (by simp);exact(T j).cons _;show RtOk Γf _ n ((a0c.enc r y).rt n);cases hrt:(a0c.enc r y).rt n<;>have:=U n<;>rw[hrt]at this<;>cases this;exact .none (by assumption);exact .same _ _ (by assumption) (by omega) (by omega);rename_i O E F u G H I;exact .made O E F u (a02 _ G) H I
  |own i n e=>exact(fun⟨x,k,a,b,c⟩=>⟨x,Γ,σ,k,h,hpd,fun _ _ _ g=>g,a,b,c⟩) (b0z nm Γ _ hnm hnd d)
  |box n t=>exact(fun⟨x,k,a,b,c⟩=>⟨x,Γ,σ,k,h,hpd,fun _ _ _ g=>g,a,b,c⟩) (b0z nm Γ _ hnm hnd d)
  |ptr i n p=>exact(fun⟨x,k,a,b,c⟩=>⟨x,Γ,σ,k,h,hpd,fun _ _ _ g=>g,a,b,c⟩) (b0z nm Γ _ hnm hnd d)
  |vp i n=>exact(fun⟨x,k,a,b,c⟩=>⟨x,Γ,σ,k,h,hpd,fun _ _ _ g=>g,a,b,c⟩) (b0z nm Γ _ hnm hnd d)
  |ref i n p=>exact(fun⟨x,k,a,b,c⟩=>⟨x,Γ,σ,k,h,hpd,fun _ _ _ g=>g,a,b,c⟩) (b0z nm Γ _ hnm hnd d)
  |rfi i n=>exact(fun⟨x,k,a,b,c⟩=>⟨x,Γ,σ,k,h,hpd,fun _ _ _ g=>g,a,b,c⟩) (b0z nm Γ _ hnm hnd d)
  |clo i f ns=>exact(fun⟨x,k,a,b,c⟩=>⟨x,Γ,σ,k,h,hpd,fun _ _ _ g=>g,a,b,c⟩) (b0z nm Γ _ hnm hnd d)
  |win i n p=>exact(fun⟨x,k,a,b,c⟩=>⟨x,Γ,σ,k,h,hpd,fun _ _ _ g=>g,a,b,c⟩) (b0z nm Γ _ hnm hnd d)
theorem t0a:∀(r:a0c){i n e},Ent.own i n e∈r→n∈r.names
 |a::r,i,n,e,h=>by
  rcases mC.1 h with h|h;subst h;simp[a0c.names]
  have:=t0a r h
  cases a<;>simp[a0c.names,this]
def j0s:a0c→Nat→Nat
 | [],_=>0
 |.own i m _::r,n=>if m=n then i else j0s r n
 |_::r,n=>j0s r n
theorem d0n:∀(es:a0c){i n e},es.names.Nodup→Ent.own i n e∈es→j0s es n=i
 |.own j m e'::r,i,n,e,hnd,h=>by
  simp only[a0c.names,a38]at hnd;simp only[j0s];rcases mC.1 h with h|h;cases h;simp
  have:=t0a r h
  rw[if_neg (fun g=>hnd.1 (by rw[g];exact this))];exact d0n r hnd.2 h
 |.sv j t::r,i,n,e,hnd,h=>by
  rcases mC.1 h with h|h;cases h;exact d0n r hnd h
 |.box m t::r,i,n,e,hnd,h=>by
  simp only[a0c.names,a38]at hnd;rcases mC.1 h with h|h;cases h;exact d0n r hnd.2 h
 |.ptr j m p::r,i,n,e,hnd,h=>by
  rcases mC.1 h with h|h;cases h;exact d0n r hnd h
 |.vp j m::r,i,n,e,hnd,h=>by
  rcases mC.1 h with h|h;cases h;exact d0n r hnd h
 |.ref j m p::r,i,n,e,hnd,h=>by
  rcases mC.1 h with h|h;cases h;exact d0n r hnd h
 |.rfi j m::r,i,n,e,hnd,h=>by
  rcases mC.1 h with h|h;cases h;exact d0n r hnd h
 |.clo j m p::r,i,n,e,hnd,h=>by
  rcases mC.1 h with h|h;cases h;exact d0n r hnd h
 |.win j m p::r,i,n,e,hnd,h=>by
  rcases mC.1 h with h|h;cases h;exact d0n r hnd h
theorem Rel.cut(h:Rel B Γ N tm w σ)(Q:Γ.pd=none){es:a0c}(hf:es.fits N=true)(D:es.names.Nodup){X:AE}(hX:X.pd=none)(hs:∀i,SlOk es.names Γ es i (X.sl i))(E:∀n,RtOk Γ es n (X.rt n)):
  ∃σ',Rel B X N tm w σ':=by
 have h0:=h.ov_none Q
 let σ':Gh:=⟨fun n=>match Γ.rt n with|some _=>σ.g n|none=>.one (tm (j0s es n)),fun n=>match X.rt n with|some _=>σ.ow n|none=>[],none⟩
 have K:∀n r,Γ.rt n=some r→σ'.g n=σ.g n:=fun n r e=>by grind
 have C:∀n,Γ.rt n=none→σ'.g n=.one (tm (j0s es n)):=fun n e=>by grind
 have V:∀n r,X.rt n=some r→σ'.ow n=σ.ow n:=fun n r e=>by grind
 have P:∀n,X.rt n=none→σ'.ow n=[]:=fun n e=>by grind
 have G:∀n p,p∈σ'.ow n→p∈σ.ow n:=fun n p hp=>by
  grind
 have a:∀n c,c∈(σ'.ow n).map (·.1)→c∈(σ.ow n).map (·.1):=fun n c l=>by
  grind
 have q:∀c,Shr B w σ c→Shr B w σ' c:=fun c l=>⟨l.1,l.2.1,fun⟨n,d⟩=>l.2.2 ⟨n,a n c d⟩⟩;have o:a0a w σ'.ov=a0a w σ.ov:=by grind
 have O:∀n,n∈es.names→∃r,X.rt n=some r:=fun n d=>by
  cases hrt:X.rt n<;>have:=E n<;>rw[hrt]at this<;>cases this
  all_goals simp_all
 have v:∀n r,n∈es.names→Γ.rt n=some r→∃r2,X.rt n=some r2∧i0w r r2:=fun n r d K=>by
  cases hrt:X.rt n<;>have:=E n<;>rw[hrt]at this<;>cases this
  all_goals simp_all
 have y:∀i e n,Ent.own i n e∈es→i<N:=fun i e n U=>by
  have:=lA.1 hf _ U
  simp_all[Ent.fits]
 refine⟨σ',fun n r d=>?_,fun n d=>P n d,fun n=>?_,fun n m s c l M=>h.disj n m s c (a n c l) (a m c M),fun n p hp=>h.live n p (G n p hp),fun i hi=>?_,?_,h.size,h.frame,fun c ⟨n,d⟩=>h.mine c ⟨n,a n c d⟩,fun i b J s=>?_,h.still⟩
 ·have:=E n
  rw[d]at this;rw[o,V n r d];cases this with
  |same _ r5 g1 g2 g5=>
   rw[K n r5 g2];rcases g5 with rfl|⟨e1,W,Y,S⟩;exact(h.roots n _ g2).mono q;obtain⟨O',R,z,H,L⟩:=(h.roots n r5 g2).rd;have Z:=h0c Y z;subst Z;refine⟨[],R,m0i S z,fun c l=>q c (H c l),?_⟩;rcases L with⟨-,b,I,k5⟩|⟨I,-⟩;exact .inl ⟨W,b,I,by rw[k5,(s0i S).2]⟩;simp_all
  |made i e g1 g1' g2 g3 g4=>
   rw[C n g3,d0n es D g2,h.norm n g3];have hi:=y i e n g2;have j:=d0k h hi;refine⟨[],[],?_,by simp,.inr ⟨rfl,⟨_,rfl⟩,⟨e,rfl⟩,rfl⟩⟩;show a0w _ true e.cells (dec _ e) (some (tm i))=some (([]:List e.den),[],[]);rcases g4 with g4|g4;rw[g4]at j;have j:tm i=.slice none 0 0:=j;rw[j];rfl
   ·rw[g4]at j;obtain⟨A,j⟩:=j;rw[j];cases A with
    |none=>rfl
    |some A=>rfl
 ·cases e:X.rt n with
  |none=>simp_all
  |some r=>rw[V n r e];exact h.nodup n
 ·have x:=hs i
  revert x
  generalize X.sl i=sv;intro x;have j:=d0k h hi;cases x with
  |dead=>trivial
  |clo f ns g1 g2=>
   have J:=h.slots i hi;rw[g1]at J;obtain⟨us,z,H⟩:=J;refine⟨us,z,fun k av T=>?_⟩;obtain⟨u,L,I⟩:=H k av T;obtain⟨m,U,rfl⟩:=r0d ns k av T;refine⟨u,L,?_⟩;rw[o];refine I.recast q fun n p r l t=>?_
   simp_all
  |same av g1 g2 g3=>
   rw[g1]at j;show a0e _ _ _ _ av _;rw[o];exact j.recast q fun n p r l t=>⟨K n r t,v n r (g3 n p l) t⟩
  |made n e g1 g2 g3 g4=>
   obtain⟨r,F⟩:=O n g3
   have:=E n
   rw[F]at this;cases this with
   |same _ _ z H=>simp_all
   |made i' e' z k1' H L I=>
    refine⟨_,e',.one (tm i),F,?_,rfl⟩;rw[C n g2,d0n es D g1];rfl
 show f0t _ _ _ X.pd none;rw[hX];trivial
 ·obtain⟨r,d⟩:=Option.ne_none_iff_exists'.1 s
  have:=E (pinned+i)
  rw[d]at this;cases this with
  |same _ _ g1 g2=>rw[K _ _ g2];exact h.pins i b J (by simp_all)
  |made i' e g1 g1'=>omega
theorem Rel.dcd(h:Rel B Γ N tm w σ){es:a0c}(hf:es.fits N=true){K:es.ty.den→Rs ρ}{z:ρ}(k:es.dcd Γ K=some z):∃x σ',K x=some z∧Rel B (es.enc x) N tm w σ':=by
 unfold a0c.dcd at k
 split at k
 rename_i a;obtain⟨f,k⟩:=(a0b k).elim id fun h=>by grind
 have f:=p0e _ f;obtain⟨x,Γf,σf,j,b,c,-,d,e,i⟩:=Rel.vals es h a hf (fun _ g=>g) f k;obtain⟨σ',l⟩:=b.cut c hf f d e i
 grind
 simp_all
end
structure CxOk (P:Program) (cx:Cx):Prop extends CxTy P cx where
 C:∀f s,cx.C f=some s→FOk P cx.G f s
section
variable {P:Program} {B:Base} {N:Nat} {ρ:Type} {Γ:AE} {a:Act} {w:World} {σ:Gh} {cx:Cx} {ro:Option Nat}
theorem a0j.wp{K:AE→Rs ρ}{z:ρ}(b:∀c,o.op≠.defer c)(h:a0j P B N o a w K z)(g:∀v w' Γ' σ',Rel B Γ' N (a0f (a.put o.dst v)) w' σ'→K Γ'=some z→next (a.put o.dst v) w'):o.wpIn (Fr ro) 0 P a w next Q:=by
 obtain⟨v,w',Γ',σ',k,f,d⟩:=h;refine m0a b ?_
 rcases k with h|⟨h,rfl⟩;rw[h,Oper.uponIn_value];exact g v w' Γ' σ' f d;rw[h,Oper.uponIn_skip];exact g _ w' Γ' σ' f d
theorem d0j(b:CxOk P cx)(l:GOk cx.G B){K:AE→Rs ρ}{z:ρ}(h:Rel B Γ N (a0f a) w σ)(m:a.tmps.size=N)(hf:fits N o=true)(j:aop cx q o Γ K=some z)(k:∀v w' Γ' σ',Rel B Γ' N (a0f (a.put o.dst v)) w' σ'→K Γ'=some z→next (a.put o.dst v) w'):o.wpIn (Fr ro) 0 P a w next Q:=by
 by_cases d:∃c v,o.op=.call c∧c.callee=.value v
 ·obtain⟨c,v,i,d⟩:=d;have g:(match v with|.func f=>(match cx.C f with|some s=>Γ.call q o.dst s (c.args.toList.map Γ.opd) K|none=>none)|.tmp t=>(if q then none else match Γ.sl t with|.cmp (.clo f) vs=>(match cx.C f with|some s=>Γ.call q o.dst s (c.args.toList.map Γ.opd++vs) K|none=>none)|.one (.val (.fn f) _)=>(match cx.C f with|some s=>Γ.call q o.dst s (c.args.toList.map Γ.opd) K|none=>none)|_=>none)|_=>none)=some z:=by
   cases hd:o.dst<;>simp only[aop,i,hd,d]at j<;>rw[←j]<;>cases v<;>rfl
  cases v with
  |func f=>
   simp only[]at g
   split at g
   rename_i s hs;exact x0n i d l (b.C f s hs) h m hf g k;cases g
  |tmp t=>
   simp only[]at g
   split at g
   cases g
   split at g
   rename_i f vs hs
   split at g
   rename_i s n;exact s0k i d (.inl hs) l (b.C f s n) h m hf g k;cases g;rename_i f x hs
   split at g
   rename_i s n;exact s0k (vs:=[]) i d (.inr ⟨rfl,x,hs⟩) l (b.C f s n) h m hf (by rw[List.append_nil];exact g) k;cases g;cases g
  |_=>simp only[]at g;cases g
 refine(z0i b.toCxTy l (fun c v i e=>d ⟨c,v,i,e⟩) h m hf j).wp (fun p e=>?_) k;cases hd:o.dst<;>simp only[aop,e,hd]at j<;>cases j
theorem r0b{Γ:AE}(h:o0s Γ x=some n):∃t,x=.tmp t∧Γ.sl t=.one (.ptr n [])∧pinned≤n:=by
 unfold o0s at h
 split at h
 rename_i t
 split at h
 rename_i m hs;rcases a0b h with⟨f,g⟩|⟨-,g⟩;cases g;exact⟨t,rfl,hs,by simpa using f⟩;cases g;cases h;cases h
theorem m0u{Γ:AE}(h:i0s o Γ=some n):∃t,(o.op=.move (.tmp t)∨o.op=.nilCheck (.tmp t))∧Γ.sl t=.one (.ptr n [])∧pinned≤n:=by
 unfold i0s at h
 split at h
 rename_i x k;obtain⟨t,rfl,g,f⟩:=r0b h;exact⟨t,.inl k,g,f⟩;rename_i x k;obtain⟨t,rfl,g,f⟩:=r0b h;exact⟨t,.inr k,g,f⟩;cases h
theorem t0b{ρ:Type}{cx:Cx}{Γ:AE}{d:Nat}(h:i0s o Γ=some n)(hd:o.dst=some d)(K:AE→Rs ρ):aop cx q o Γ K=K (Γ.put d (.one (.ptr n []))):=by
 obtain⟨t,g|g,hs,-⟩:=m0u h;simp only[aop,g,hd,hs];simp only[aop,g,hd,AE.opd,AE.get,hs];rfl
theorem o0w{m:Mem}:∀(p:a0l)(t:Ty)(s:Src){t' τ s'},loc m t s p=some (t',s')→tyF t p=some τ→t'=τ
 | [],t,s,t',τ,s',h,h2=>by
  simp only[loc,a0t,sj,pJ]at h;simp only[tyF,sj]at h2;rw[←h.1,h2]
 |.fst::p,t,s,t',τ,s',h,h2=>by
  obtain⟨a,b,bl,o,rfl,rfl,h⟩:=d0v h;exact o0w p a _ h h2
 |.snd::p,t,s,t',τ,s',h,h2=>by
  obtain⟨a,b,bl,o,rfl,rfl,h⟩:=d0w h;exact o0w p b _ h h2
 |.idx i::p,t,s,t',τ,s',h,h2=>by cases t<;>cases h2
theorem m0d:∀(p:a0l)(t:Ty)(x:t.den){τ},tyF t p=some τ→(a0p t x p).1=τ
 | [],t,x,τ,h=>by simp only[tyF,sj]at h;subst h;rfl
 |.fst::p,.pair a b,x,τ,h=>m0d p a x.1 h
 |.snd::p,.pair a b,x,τ,h=>m0d p b x.2 h
 |.idx i::p,t,x,τ,h=>by cases t<;>cases h
 |.fst::p,.unit,_,_,h|.fst::p,.int _,_,_,h|.fst::p,.bool,_,_,h|.fst::p,.str,_,_,h|.fst::p,.list _ _,_,_,h|.fst::p,.arr _ _,_,_,h|.fst::p,.nl _,_,_,h|.fst::p,.fn _,_,_,h|.fst::p,.hd,_,_,h=>by cases h
 |.snd::p,.unit,_,_,h|.snd::p,.int _,_,_,h|.snd::p,.bool,_,_,h|.snd::p,.str,_,_,h|.snd::p,.list _ _,_,_,h|.snd::p,.arr _ _,_,_,h|.snd::p,.nl _,_,_,h|.snd::p,.fn _,_,_,h|.snd::p,.hd,_,_,h=>by cases h
theorem Rel.cell_of{tm}(h:Rel B Γ N tm w σ){n r p b o e}(m:Γ.rt n=some r)(q:loc (a0a w σ.ov) r.t (σ.g n) p=some (.list true e,.at b o))(hp:p.all Step.isField=true)(l:Γ.pdElem=true):
  w.cell? ⟨b,o,none⟩=a0a w σ.ov b o:=by
 cases hov:σ.ov with
 |none=>rfl
 |some ov=>
  obtain⟨z,E,u⟩:=ov;have f:=h.pend;rw[hov]at f;cases hpd':Γ.pd with
  |none=>rw[hpd']at f;exact f.elim
  |some x=>
   obtain⟨n2,k,G⟩:=x;rw[hpd']at f;obtain⟨r2,H,q1,a⟩:=f;rw[←hov]at a;have i:k.all Step.isField=false:=by simpa[AE.pdElem,hpd']using l
   have s:∀rest,p≠k++rest:=fun rest e=>by rw[e,a50,i]at hp;simp at hp
   have d:¬ (b=z∧o=E):=by
    rintro⟨rfl,rfl⟩
    by_cases hn:n=n2
    subst hn;rw[m]at q1;cases q1;obtain⟨F,R,v,I,D,J,K,L⟩:=h.sep m;obtain⟨y,O2,R2,_,_,_,_,C,-,-,-⟩:=b0f k r.t _ v a
    have:=(i0h (m':=fun c j=>if c=b∧j=o then none else a0a w σ.ov c j) k p r.t (σ.g n) v a C D (fun c j=>by
     by_cases hc:c=b∧j=o
     exact .inr (.inl ⟨hc.1,by omega,by simp only[Ty.cells];omega⟩);exact .inl (by simp only[if_neg hc])) (fun rest e=>absurd e (s rest)) q).2 _ _ rfl s
    have A:a0a w σ.ov b o=some u:=by rw[hov];simp[a0a]
    simp[Src.rd,A]at this;exact h.disj n n2 hn b (h.place m q) (h.place q1 a)
   simp only[a0a,if_neg d]
theorem d0p{n p τ}(h:Γ.ptrTy x=some (n,p,τ)):∃t r,x=.tmp t∧Γ.sl t=.one (.ptr n p)∧Γ.rt n=some r∧tyF r.t p=some τ:=by
 unfold AE.ptrTy at h
 split at h
 rename_i t
 split at h
 rename_i a p' hs
 split at h
 rename_i r k;obtain⟨τ',f,g⟩:=Option.map_eq_some_iff.1 h;simp only[pJ]at g;obtain⟨rfl,rfl,rfl⟩:=g;exact⟨t,r,rfl,hs,k,f⟩;cases h;cases h;cases h
theorem D0g(c:CxOk P cx)(U:GOk cx.G B){d:Nat}{K:AE→Rs ρ}{z:ρ}(hs:Γ.stay cx o=some v)(hd:o.dst=some d)(hv:v.still=true)(L:Γ.pdElem=true)(h:Rel B Γ N (a0f a) w σ)(I:a.tmps.size=N)(hf:fits N o=true)(O:K (Γ.put d (.one v))=some z)(g:∀v w' Γ' σ',Rel B Γ' N (a0f (a.put o.dst v)) w' σ'→K Γ'=some z→next (a.put o.dst v) w'):o.wpIn (Fr ro) 0 P a w next Q:=by
 unfold AE.stay at hs
 split at hs
 rename_i t i
 split at hs
 rename_i u D;obtain⟨-,hs⟩:=(a0b hs).elim id fun h=>by cases h.2
 cases hs;refine d0j (q:=true) c U h I hf (z:=z) (K:=K) ?_ g;simp only[aop,i,hd,D];exact O;cases hs;rename_i s x f i
 split at hs
 rename_i n p τ hp;obtain⟨t,r,rfl,F,j,H⟩:=d0p hp
 split at hs
 rename_i V;cases hs;refine d0j (q:=true) c U h I hf (z:=z) (K:=K) ?_ g;have W:(b0j p r.t r.x).1=τ:=m0d p r.t r.x H;simp only[aop,i,hd,AE.opd,AE.get,F,j];show(if c0k (b0j p r.t r.x).1 f=true∧cx.T s=some (b0j p r.t r.x).1.sh then _ else _)=_
 rw[W,if_pos V];exact O;cases hs;cases hs;rename_i s x i
 split at hs
 rename_i n p e hp;obtain⟨t,r,rfl,F,j,H⟩:=d0p hp
 split at hs
 rename_i τ hT;obtain⟨J,hs⟩:=(a0b hs).elim id fun h=>by cases h.2
 cases hs;obtain⟨X,hty⟩:=c.T s _ hT;have k:∀y∈(o.op.operands.toList),b0m N y=true:=a0r hf;rw[i]at k;have Y:t<N:=by simpa[b0m]using k (.tmp t) (by simp[Op.operands])
 have A:=h.slots t Y;rw[F]at A;obtain⟨r',t1,b,off,S,C,E⟩:=A;rw[j]at S;cases S;have M:=o0w p r.t _ C H;subst M;obtain⟨O',R,k1,-,-,-,-,-⟩:=h.sep j;obtain⟨y,O2,R2,_,_,_,_,hy,-,-,-⟩:=b0f p r.t _ k1 C;obtain⟨u,D,-⟩:=e0b _ hy 0 (by simp[Ty.cells]);have Z:w.cell? ⟨b,off,none⟩=some u:=by rw[h.cell_of j C hv L];exact D
 have l:τ.isAgg=false:=by cases τ<;>first|rfl|cases J
 refine a0j.wp (fun c' m=>by rw[i]at m;cases m) (a0j.set hd I (v:=u) (av:=.sref n p) ?_ h ⟨r,e,.at b off,j,C,D⟩ O) g;have E:a.eval (.tmp t)=.pointer (some ⟨b,off,none⟩):=E;simp[execOp,i,E,Instr.loadAt,Instr.sureAddr,loadVar,e0z hty,l,Z];cases hs;cases hs;cases hs
theorem u0p{y:(t:Ty)×t.den}(h:w0s y=true):∃e l,y=⟨.list true e,l⟩:=by
 obtain⟨t,x⟩:=y;cases t with
 |list o e=>
  cases o with
  |true=>exact⟨e,x,rfl⟩
  |false=>cases h
 |_=>cases h
theorem A0m{ρ:Type}{cx:Cx}{Γ:AE}(h:Γ.pends cx o=true)(hd:o.dst=none)(K:AE→Rs ρ):aop cx false o Γ K=K { Γ with pd:=none }:=by
 unfold AE.pends at h
 split at h
 ·rename_i t a x q
  split at h
  ·rename_i n p d n1 s n2 u g f k;simp only[bA,beq_iff_eq]at h;obtain⟨⟨rfl,rfl,b,j⟩,h5,h6⟩:=h;have c:=e0o _ _ b;have i:=e0o _ _ j;subst c;subst i;cases hr:Γ.rt n2 with
   |none=>rw[hr]at h5;cases h5
   |some r=>
    rw[hr]at h5;obtain⟨e,l,m⟩:=u0p h5;cases hT:cx.T t with
    |none=>rw[hT]at h6;cases h6
    |some τ=>
     rw[hT]at h6;simp only at h6;simp only[aop,q,hd,a05,if_false,AE.aggOf,k,AE.opd,AE.get,f,hT,AE.stor,hr,m,h6,if_true,beq_self_eq_true,b,a26,cT,g];rfl
  cases h
 cases h
theorem t0f(h:r.scal p=some v):∃k n,v=.val (.int k) n∧a0p r.t r.x p=⟨.int k,n⟩:=by
 unfold Root.scal at h;obtain⟨-,h⟩:=(a0b h).elim id fun h=>by cases h.2
 split at h
 rename_i k n g;cases h;exact⟨k,n,rfl,g⟩;cases h
theorem Rel.int_of{tm}(h:Rel B Γ N tm w σ){n r p b o k v}(z:Γ.rt n=some r)(s:loc (a0a w σ.ov) r.t (σ.g n) p=some (.int k,.at b o))(q:a0p r.t r.x p=⟨.int k,v⟩):w.cell? ⟨b,o,none⟩=some (.int k v):=by
 obtain⟨F,R,C,-,-,-,-,-⟩:=h.sep z;obtain⟨y,O2,R2,_,_,_,_,a,c,-,-⟩:=b0f p r.t _ C s;rw[q]at c;cases c;have d:a0a w σ.ov b o=some (.int k v):=by
  simp only[dec,Src.rd,a46]at a
  split at a
  rename_i k' K j
  split at a
  rename_i e;subst e;cases a;exact j;cases a;cases a
 cases hov:σ.ov with
 |none=>rw[hov]at d;exact d
 |some ov=>
  obtain⟨m,D,u⟩:=ov
  by_cases j:b=m∧o=D
  ·obtain⟨rfl,rfl⟩:=j;have f:=h.pend;rw[hov]at f;cases hpd:Γ.pd with
   |none=>rw[hpd]at f;exact f.elim
   |some x=>
    obtain⟨n2,E,I⟩:=x;rw[hpd]at f;obtain⟨r2,J,q1,l⟩:=f;rw[←hov]at l;obtain⟨G,H,A,-,-,-,-,-⟩:=h.sep q1;obtain⟨L,_,_,_,_,_,_,i,-,-,-⟩:=b0f E r2.t _ A l;simp only[dec,Src.rd,a46,d]at i;cases i
  rw[hov]at d;simpa[a0a,j]using d
theorem D0b(j:CxOk P cx)(M:GOk cx.G B){d:Nat}{K:AE→Rs ρ}{z:ρ}(hs:Γ.peek cx o=some v)(hd:o.dst=some d)(h:Rel B Γ N (a0f a) w σ)(J:a.tmps.size=N)(hf:fits N o=true)(L:K (Γ.put d (.one v))=some z)(g:∀v w' Γ' σ',Rel B Γ' N (a0f (a.put o.dst v)) w' σ'→K Γ'=some z→next (a.put o.dst v) w'):o.wpIn (Fr ro) 0 P a w next Q:=by
 unfold AE.peek at hs
 split at hs
 rename_i s x f l
 split at hs
 rename_i n p τ hp;obtain⟨t,r,rfl,E,e,A⟩:=d0p hp
 split at hs
 rename_i O;cases hs;refine d0j (q:=true) j M h J hf (z:=z) (K:=K) ?_ g;have C:(b0j p r.t r.x).1=τ:=m0d p r.t r.x A;simp only[aop,l,hd,AE.opd,AE.get,E,e];show(if c0k (b0j p r.t r.x).1 f=true∧cx.T s=some (b0j p r.t r.x).1.sh then _ else _)=_
 rw[C,if_pos O];exact L;cases hs;cases hs;rename_i s x l
 split at hs
 rename_i n p k hp;obtain⟨t,r,rfl,E,e,A⟩:=d0p hp
 split at hs
 rename_i hT;rw[e]at hs;obtain⟨k',m,rfl,C⟩:=t0f hs;have R:k'=k:=by
  have:=m0d p r.t r.x A
  rw[C]at this;cases this;rfl
 subst R;obtain⟨S,hty⟩:=j.T s _ hT;have c:∀y∈(o.op.operands.toList),b0m N y=true:=a0r hf;rw[l]at c;have U:t<N:=by simpa[b0m]using c (.tmp t) (by simp[Op.operands])
 have u:=h.slots t U;rw[E]at u;obtain⟨X,Y,b,off,H,I,D⟩:=u;rw[e]at H;cases H;have F:=o0w p r.t _ I A;subst F;have V:=h.int_of e I C;refine a0j.wp (fun W i=>by rw[l]at i;cases i) (a0j.set hd J (v:=.int k' m) (av:=.val (.int k') m) ?_ h (a0e.mk_int m) L) g;have D:a.eval (.tmp t)=.pointer (some ⟨b,off,none⟩):=D;simp[execOp,l,D,Instr.loadAt,Instr.sureAddr,loadVar,e0z hty,Ty.isAgg,V];cases hs;cases hs;cases hs
theorem C0x{ρ:Type}{cx:Cx}{Γ:AE}(h:Γ.kst cx o=some (n,r))(K:AE→Rs ρ):aop cx false o Γ K=K ((Γ.setRt n (some r)).setD o.dst .dead):=by
 unfold AE.kst at h
 split at h
 ·rename_i t a x C
  split at h
  ·rename_i m p u y ty A c hT
   split at h
   ·rename_i f w
    split at h
    ·rename_i B;obtain⟨d,j,z⟩:=B;cases h;have q:Γ.nilAt cx a x=none:=by
      unfold AE.nilAt;split;simp only[AE.opd,i0e]at c;cases c;rfl
     have l:Γ.aggOf x=none:=by
      unfold AE.aggOf;split;rename_i i;split;rename_i vs hs;simp only[AE.opd,AE.get,hs]at c;cases c;rfl;rfl
     obtain⟨D,E⟩:=a0q w;have s:∀b:AE→Rs ρ,Γ.stor ty n p (.val u y) b=b (Γ.setRt n (some ⟨f.bx,f.t,b0s f.t f.x p u y⟩)):=fun b=>by
      unfold AE.stor;rw[E];simp only[];generalize hg:a0p f.t f.x p=g at d;obtain⟨k,v⟩:=g;have d:k=u:=d;subst d;have key:(if k.shn=k∧k.sh=ty then Γ.asV false k (.val k y) fun y Γ'=>match Γ'.look n with
        |some r=>if(a0p r.t r.x p).1=k then b (Γ'.setRt n (some ⟨r.bx,r.t,b0s r.t r.x p k y⟩))else none
        |none=>none else Γ.overP ty n f (.val k y) b p)=b (Γ.setRt n (some ⟨f.bx,f.t,b0s f.t f.x p k y⟩)):=by
       rw[if_pos ⟨j,z⟩];simp only[AE.asV,l0c,w,hg,if_true]
      cases k with
      |list o e=>
       cases o with
       |true=>simp only[Ty.shn]at j;cases j
       |false=>exact key
      |_=>exact key
     simp only[aop,C,a05,if_false,q,l,A,c,hT,s]
    cases h
   cases h
  cases h
 cases h
theorem r0l(j:CxOk P cx)(m:GOk cx.G B){K:AE→Rs ρ}{z:ρ}(h:Rel B Γ N (a0f a) w σ)(y:a.tmps.size=N)(hf:fits N o=true)(g:b0d cx md o Γ K=some z)(i:∀v w' Γ' σ',Rel B Γ' N (a0f (a.put o.dst v)) w' σ'→K Γ'=some z→next (a.put o.dst v) w'):o.wpIn (Fr ro) 0 P a w next Q:=by
 cases md with
 |x=>exact d0j j m h y hf g i
 |h=>
  simp only[b0d]at g
  split at g
  rename_i t d C hd;refine d0j (q:=true) j m h y hf (z:=z) (K:=K) ?_ i;simp only[aop,C,hd];exact g;cases g
 |k ws=>
  simp only[b0d]at g
  split at g
  rename_i n r H;obtain⟨-,g⟩:=(a0b g).elim id fun h=>by cases h.2
  refine d0j (q:=false) j m h y hf (z:=z) (K:=K) ?_ i;rw[C0x H];exact g;cases g
 |w ws=>
  simp only[b0d]at g
  split at g
  obtain⟨-,g⟩:=(a0b g).elim id fun h=>by cases h.2
  refine d0j j m h y hf g fun v w' Γ' σ' hr l=>i v w' Γ' σ' hr ?_
  split at l
  exact l;cases l;cases g
 |r ns=>
  simp only[b0d]at g;obtain⟨-,g⟩:=(a0b g).elim id fun h=>by cases h.2
  split at g
  refine d0j j m h y hf g fun v w' Γ' σ' hr l=>i v w' Γ' σ' hr ?_
  obtain⟨-,l⟩:=(a0b l).elim id fun h=>by cases h.2
  exact l;cases g
 |p=>
  simp only[b0d]at g
  split at g
  rename_i n d hp hd;refine d0j (q:=true) j m h y hf (z:=z) (K:=K) ?_ i;rw[t0b hp hd];exact g;cases g
 |a ws=>
  simp only[b0d]at g
  split at g
  obtain⟨-,g⟩:=(a0b g).elim id fun h=>by cases h.2
  exact d0j j m h y hf g i;cases g
 |b ws=>
  simp only[b0d]at g
  split at g
  obtain⟨-,g⟩:=(a0b g).elim id fun h=>by cases h.2
  refine d0j j m h y hf g fun v w' Γ' σ' hr l=>i v w' Γ' σ' hr ?_
  split at l
  exact((a0b l).elim id fun h=>by cases h.2).2;cases l;cases g
 |c ws=>
  simp only[b0d]at g
  split at g
  obtain⟨-,g⟩:=(a0b g).elim id fun h=>by cases h.2
  refine d0j j m h y hf g fun v w' Γ' σ' hr l=>i v w' Γ' σ' hr ?_
  split at l
  exact((a0b l).elim id fun h=>by cases h.2).2;cases l;cases g
 |f=>
  simp only[b0d]at g
  split at g
  rename_i t I d C hd;obtain⟨A,g⟩:=(a0b g).elim id fun h=>by cases h.2
  obtain⟨E,F⟩:=a03.1 A;refine d0j (q:=false) j m h y hf (z:=z) (K:=K) ?_ i;simp only[aop,C,hd,a22.1 E,a22.1 F];exact g;cases g
 |e=>
  simp only[b0d]at g;obtain⟨A,g⟩:=(a0b g).elim id fun h=>by cases h.2
  obtain⟨hp,hd⟩:=a03.1 A;refine d0j (q:=false) j m h y hf (z:=z) (K:=K) ?_ i;rw[A0m hp (by simpa using hd)];exact g
 |t=>
  simp only[b0d]at g
  split at g
  rename_i v d hs hd;exact D0b j m hs hd h y hf g i;cases g
 |u=>
  simp only[b0d]at g;obtain⟨-,g⟩:=(a0b g).elim id fun h=>by cases h.2
  split at g
  refine d0j j m h y hf g fun v w' Γ' σ' hr l=>i v w' Γ' σ' hr ?_
  exact((a0b l).elim id fun h=>by cases h.2).2;cases g
 |s=>
  simp only[b0d]at g
  split at g
  rename_i v d hs hd;obtain⟨A,g⟩:=(a0b g).elim id fun h=>by cases h.2
  obtain⟨hv,D⟩:=a03.1 A;exact D0g j m hs hd hv D h y hf g i;cases g
 |q=>
  simp only[b0d]at g;obtain⟨-,g⟩:=(a0b g).elim id fun h=>by cases h.2
  split at g
  exact d0j j m h y hf g i;cases g
 |v=>
  simp only[b0d]at g
  split at g
  rename_i n hp
  split at g
  rename_i d hd;refine d0j (q:=true) j m h y hf (z:=z) (K:=K) ?_ i;rw[t0b hp hd];exact g;cases g;obtain⟨-,g⟩:=(a0b g).elim id fun h=>by cases h.2
  split at g
  refine d0j j m h y hf g fun v w' Γ' σ' hr l=>i v w' Γ' σ' hr ?_
  obtain⟨-,l⟩:=(a0b l).elim id fun h=>by cases h.2
  exact l;cases g
def f0e(N:Nat)(ops:List Oper)(o:Oper):Bool:=fits N o&&(match o.guard with
 |some (j,_)=>(match f0i ops j with
  |some g=>decide (g<N)
  |none=>true)
 |none=>true)
theorem i0r{ops:List Oper}(h:f0e N ops o=true):fits N o=true:=by
 simp only[f0e,bA]at h;exact h.1
theorem Rel.skip(h:Rel B Γ N (a0f a) w σ)(g:a.tmps.size=N)(d:Option Nat):Rel B (Γ.setD d .skp) N (a0f (a.put d undef)) w σ:=by
 cases d with
 |none=>exact h
 |some d=>exact h.putd g fun _=>rfl
theorem Rel.same(h:Rel B Γ N (a0f a) w σ){av:AV}(k:Γ.get g=av):Rel B (Γ.set g av) N (a0f a) w σ:=by
 refine h.put (v:=a0f a g) (fun f=>?_) (fun i _=>by split<;>simp[*])
 have:=d0k h f
 rw[k]at this;exact this
theorem z0e(h:f0i ops.toList j=some g)(f:g<a.tmps.size):yielded ops a.tmps j=match a0f a g with|.bool b=>some b|_=>none:=by
 have h:(ops[j]?).bind (·.dst)=some g:=by simpa[f0i]using h
 simp only[yielded,h,oB,a0f,a01,a23 f,a21];cases a.tmps[g]<;>rfl
theorem r0k(m:CxOk P cx)(s:GOk cx.G B){K:AE→Rs ρ}{z:ρ}(h:Rel B Γ N (a0f a) w σ)(p:a.tmps.size=N)(hf:f0e N ops.toList o=true)(e:a0g cx md ops.toList o Γ K=some z)(k:∀v w' Γ' σ',Rel B Γ' N (a0f (a.put o.dst v)) w' σ'→K Γ'=some z→next (a.put o.dst v) w'):
  if Region.wanted o (yielded ops a.tmps)then o.wpIn (Fr ro) 0 P a w next Q else((∀f,o.about P w a.eval=some f→(Fr ro).fn f)∧next (a.put o.dst undef) w):=by
 have n:=i0r hf;unfold a0g at e
 split at e
 rename_i l;rw[if_pos (by simp[Region.wanted,l])];exact r0l m s h p n e k;rename_i j r l
 split at e
 cases e;rename_i g q;have t:g<N:=by
  simp only[f0e,l,q,bA,dT]at hf;exact hf.2
 have i:=z0e (a:=a) q (by omega);have d:=d0k h t
 split at e
 rename_i b c;rw[c]at d;have u:=a0e.bool d;rw[u]at i;simp only[]at i;cases b<;>cases r<;>simp only[cT,cF]at e;rw[if_pos (by simp[Region.wanted,l,i])];exact r0l m s (h.same c) p n e k;rw[if_neg (by simp[Region.wanted,l,i])];exact⟨fun _ _=>trivial,k _ w _ _ ((h.same c).skip p o.dst) e⟩;rw[if_neg (by simp[Region.wanted,l,i])];exact⟨fun _ _=>trivial,k _ w _ _ ((h.same c).skip p o.dst) e⟩;rw[if_pos (by simp[Region.wanted,l,i])];exact r0l m s (h.same c) p n e k;rename_i c;rw[c]at d;have d:a0f a g=undef:=d;rw[d]at i;simp only[undef]at i;rw[if_neg (by simp[Region.wanted,l,i])];exact⟨fun _ _=>trivial,k _ w _ _ (h.skip p o.dst) e⟩;cases e
theorem w0j(g:CxOk P cx)(f:GOk cx.G B){ops:Array Oper}{Q:Exit→Act→World→Prop}{D:List Deferred}{z:ρ}:∀(l:List (Md×Oper)) {Γ:AE} {a:Act} {w:World} {σ:Gh} {K:AE→Rs ρ} (_:Rel B Γ N (a0f a) w σ) (_:a.tmps.size=N) (_:a.defers=D)
  (_:∀p∈l,f0e N ops.toList p.2=true) (_:h0q cx ops.toList l Γ K=some z) (_:∀a' w' Γ' σ',Rel B Γ' N (a0f a') w' σ'→a'.tmps.size=N→a'.defers=D→K Γ'=some z→Q .normal a' w'),
  wpListIn (Fr ro) 0 P ops Q (l.map (·.2)) a w
 | [],Γ,a,w,σ,K,h,hN,hD,_,hz,hQ=>hQ a w Γ σ h hN hD hz
 |(md,o)::l,Γ,a,w,σ,K,h,hN,hD,hf,hz,hQ=>by
  simp only[h0q]at hz
  have:=r0k (ro:=ro) (next:=wpListIn (Fr ro) 0 P ops Q (l.map (·.2))) (Q:=Q) g f h hN (hf (md,o) (by simp)) hz fun v w' Γ' σ' hr hK=>
   w0j g f l hr (by rw[i0n];exact hN) (by rw[h0t];exact hD) (fun p hp=>hf p (by simp[hp])) hK hQ
  simp only[List.map_cons,wpListIn]
  by_cases hw:Region.wanted o (yielded ops a.tmps)=true
  rw[if_pos hw]at this⊢;exact this;rw[if_neg hw]at this⊢;exact this
end
theorem d0o{B:Base}{N:Nat}{tm:Nat→Value}{w:World}{ρ:Type}:∀(os:g0n){Γ:AE}{σ:Gh}(_:Rel B Γ N tm w σ){e:Ex}{K:os.den→Rs ρ}{z:ρ}(_:os.all (fun p=>p.2.fits N)=true) (_:os.pack e Γ K=some z),
  ∃y X σ',K y=some z∧Rel B X N tm w σ'∧∀{ρ':Type}(g:Ex→AE→Rs ρ'),os.open y g=g e X
 | [],Γ,σ,h,e,K,z,hf,hz=>by simp only[g0n.pack]at hz;cases hz
 | [(e',s)],Γ,σ,h,e,K,z,hf,hz=>by
  simp only[g0n.pack]at hz
  split at hz
  rename_i a;subst a;obtain⟨x,σ',f,k⟩:=h.dcd (by simpa using hf) hz;exact⟨x,_,σ',f,k,fun g=>rfl⟩;cases hz
 |(e',s)::x::r,Γ,σ,h,e,K,z,hf,hz=>by
  simp only[g0n.pack]at hz
  split at hz
  rename_i a;subst a;obtain⟨y,σ',f,k⟩:=h.dcd (by simpa using(lA.1 hf _ (a13))) hz;exact⟨.inl y,_,σ',f,k,fun g=>rfl⟩;obtain⟨y,X,σ',f,k,b⟩:=d0o (x::r) h (by
   simp only[a12,bA]at hf⊢;exact hf.2) hz
  exact⟨.inr y,X,σ',f,k,fun g=>b g⟩
theorem y0j{σ:Type}{f:σ→Option (σ ⊕ β)}{s:σ}{b:β}(h:y0i f s=some b):∃n,g0u f n s=some b:=by
 unfold y0i at h
 split at h
 rename_i k;simp only[sj]at h;obtain⟨n,a⟩:=k.choose_spec.choose_spec |> fun g=>(⟨k.choose,g⟩:∃n,g0u f n s=some k.choose_spec.choose);exact⟨n,h▸a⟩;cases h
theorem s0t{σ:Type}{f:σ→Option (σ ⊕ β)}{s:σ}{b:β}(h:y0h f s=some b):∃n,g0u f n s=some b:=by
 unfold y0h at h
 split at h
 rename_i k g;exact⟨400,by rw[g];exact h⟩;exact y0j h
structure Dl where
 rs:List (Nat×Root)
 sv:SV
variable {δ:Dl}
def Dl.app(δ:Dl)(d:Nat)(Γ:AE):AE:=⟨fun i=>bif i==d then δ.sv else Γ.sl i,fun n=>match find δ.rs n with|some r=>some r|none=>Γ.rt n,Γ.pd⟩
def a0h(o:Oper):List Nat:=o.op.operands.toList.filterMap fun x=>match x with|.tmp t=>some t|_=>none
def c0n(T:List Nat)(Γ Γ2:AE):Prop:=Γ2.pd=Γ.pd∧∀t∈T,Γ2.sl t=Γ.sl t∧∀n∈(Γ.sl t).refs,Γ2.rt n=Γ.rt n
theorem c0n.refl{T Γ}:c0n T Γ Γ:=⟨rfl,fun _ _=>⟨rfl,fun _ _=>rfl⟩⟩
theorem c0a{t:Nat}(h:Operand.tmp t∈o.op.operands.toList):t∈a0h o:=a14.2 ⟨_,h,rfl⟩
theorem c0n.opd{o:Oper}{Γ Γ2:AE}(h:c0n (a0h o) Γ Γ2){x:Operand}(g:x∈o.op.operands.toList):Γ2.opd x=Γ.opd x:=by
 cases x with
 |tmp t=>simp[AE.opd,AE.get];rw[(h.2 t (c0a g)).1]
 |_=>rfl
theorem c0n.rt(a:c0n (a0h o) Γ Γ2)(b:x∈o.op.operands.toList)(k:n∈(Γ.opd x).refs):Γ2.rt n=Γ.rt n:=by
 cases x with
 |tmp t=>
  refine(a.2 t (c0a b)).2 n ?_
  simp[AE.opd,AE.get]at k
  revert k
  cases Γ.sl t with
  |one v=>exact id
  |cmp c vs=>exact fun h=>by cases h
 |const v=>
  simp[AE.opd]at k;unfold i0e at k
  split at k<;>cases k
 |global g=>cases k
 |func f=>cases k
theorem c0n.look{o:Oper}{Γ Γ2:AE}(h:c0n (a0h o) Γ Γ2){x:Operand}(f:x∈o.op.operands.toList){n:Nat}(g:n∈(Γ.opd x).refs):Γ2.look n=Γ.look n:=by
 simp only[AE.look,h.1,h.rt f g]
def n0g{ρ:Type}(r:Option Dl)(d:Nat)(Γ2:AE)(K:AE→Rs ρ):Rs ρ:=match r with
 |none=>none
 |some δ=>bif δ.rs.all fun p=>decide (p.1<pinned)&&(Γ2.rt p.1).isNone then K (δ.app d Γ2)else none
def Uni(cx:Cx)(o:Oper)(d:Nat)(Γ:AE):Prop:=
 ∃r:Option Dl,(∀δ,r=some δ→(δ.sv.firm=true→δ.rs=[])∧∀n,find δ.rs n≠none→n∈d0y cx o d)∧∀Γ2,c0n (a0h o) Γ Γ2→∀{ρ:Type}(K:AE→Rs ρ),aop cx true o Γ2 K=n0g r d Γ2 K
theorem Uni.none{cx o d Γ}(h:∀Γ2,c0n (a0h o) Γ Γ2→∀{ρ:Type}(K:AE→Rs ρ),aop cx true o Γ2 K=none):Uni cx o d Γ:=
 ⟨.none,by simp,fun Γ2 hA ρ K=>h Γ2 hA K⟩
theorem Uni.put{cx o d Γ}(sv:SV)(h:∀Γ2,c0n (a0h o) Γ Γ2→∀{ρ:Type}(K:AE→Rs ρ),aop cx true o Γ2 K=K (Γ2.put d sv)):Uni cx o d Γ:=
 ⟨some ⟨[],sv⟩,fun δ e=>by cases e;exact⟨fun _=>rfl,fun n g=>absurd rfl g⟩,fun Γ2 hA ρ K=>by rw[h Γ2 hA K];rfl⟩
theorem Uni.of{cx o d Γ}(r:Option AV)(h:∀Γ2,c0n (a0h o) Γ Γ2→∀{ρ:Type}(K:AE→Rs ρ),aop cx true o Γ2 K=r.elim .none fun v=>K (Γ2.set d v)):Uni cx o d Γ:=by
 cases r with
 |none=>exact Uni.none h
 |some v=>exact Uni.put (.one v) h
theorem C0u{ρ:Type}{Γ2:AE}{d:Nat}{r:Root}{v:AV}{K:AE→Rs ρ}:(Γ2.fresh true d r fun Γ=>K (Γ.set d v))=n0g (some ⟨[(d,r)],.one v⟩) d Γ2 K:=by
 unfold AE.fresh n0g;cases hd:decide (d<pinned)
 grind
 ·simp[hd];cases hr:Γ2.rt d with
  |some r0=>simp
  |none=>
   simp
   congr 1;simp only[AE.newRt,hr,AE.setRt,AE.set,AE.put,Dl.app];congr 1;funext n;simp[find]
   grind
theorem Uni.ofFresh{cx o d Γ}(r:Root)(v:AV)(hv:v.firm=false)(h:∀Γ2,c0n (a0h o) Γ Γ2→∀{ρ:Type}(K:AE→Rs ρ),aop cx true o Γ2 K=Γ2.fresh true d r fun Γ=>K (Γ.set d v)):Uni cx o d Γ:=
 ⟨some ⟨[(d,r)],.one v⟩,(fun δ e=>by
  cases e;refine⟨fun hf=>?_,fun n g=>?_⟩;simp_all[SV.firm];simp only[find]at g
  by_cases e:d=n
  subst e;exact a13
  grind),fun Γ2 hA ρ K=>by simp_all[C0u]⟩
def f0a(t:Ty)(a:AV):Option t.den:=match a with
 |.val t' x=>castTo t' t x
 |.nils=>match t with
  |.list false _=>some []
  |.nl _=>some []
  |_=>none
 |.empt=>match t with
  |.list false _=>some []
  |_=>none
 |_=>none
theorem o0m(Γ:AE)(t:Ty)(a:AV)(K:t.den→AE→Rs ρ):Γ.asV true t a K=(f0a t a).elim none fun x=>K x Γ:=by
 cases a with
 |val t' x=>grind[AE.asV,f0a]
 |nils=>cases t with
  |list o e=>cases o<;>rfl
  |_=>rfl
 |empt=>cases t with
  |list o e=>cases o<;>rfl
  |_=>rfl
 |sref n p=>cases p<;>simp[AE.asV,f0a]
 |swin n p o k=>cases p<;>simp[AE.asV,f0a]
 |_=>rfl
def g0p(f:Operand→AV)(t:Ty):List (Nat×Operand)→t.den→Option t.den
 | [],x=>some x
 |(i,o)::r,x=>bif AE.pathOk t i then(match a0p t x (AE.pathOf t i)with
  |⟨t',_⟩=>(f0a t' (f o)).elim none fun y=>g0p f t r (b0s t x (AE.pathOf t i) t' y))else none
theorem r0u{ρ:Type}(Γ:AE)(t:Ty):∀(ps:List (Nat×Operand)) (x:t.den) (K:t.den→AE→Rs ρ),Γ.fills true t ps x K=(g0p Γ.opd t ps x).elim none fun y=>K y Γ
 | [],x,K=>rfl
 |(i,o)::r,x,K=>by
  simp[AE.fills,g0p];cases AE.pathOk t i;rfl
  ·simp
   rw[o0m];cases f0a _ (Γ.opd o)with
   |none=>rfl
   |some y=>exact r0u Γ t r _ K
theorem k0d(f g:Operand→AV)(t:Ty):∀(ps:List (Nat×Operand)) (x:t.den),(∀p∈ps,f p.2=g p.2)→g0p f t ps x=g0p g t ps x
 | [],x,_=>rfl
 |(i,o)::r,x,h=>by
  simp[g0p];rw[h (i,o) (by simp)];cases AE.pathOk t i;rfl
  ·simp
   cases f0a _ (g o)with
   |none=>rfl
   |some y=>exact k0d f g t r _ fun p hp=>h p (by simp[hp])
def p0t(f:Operand→AV)(e:Ty)(n:Nat):List (Nat×Operand)→List e.den→Option (List e.den)
 | [],x=>some x
 |(i,o)::r,x=>bif decide (i<n)then(f0a e (f o)).elim none fun y=>p0t f e n r (x.set i y)else none
theorem t0u{ρ:Type}(Γ:AE)(e:Ty)(n:Nat):∀(ps:List (Nat×Operand)) (x:List e.den) (K:List e.den→AE→Rs ρ),Γ.lit true e n ps x K=(p0t Γ.opd e n ps x).elim none fun y=>K y Γ
 | [],x,K=>rfl
 |(i,o)::r,x,K=>by
  simp[AE.lit,p0t];cases decide (i<n);rfl
  ·simp
   rw[o0m];cases f0a _ (Γ.opd o)with
   |none=>rfl
   |some y=>exact t0u Γ e n r _ K
theorem j0k(f g:Operand→AV)(e:Ty)(n:Nat):∀(ps:List (Nat×Operand)) (x:List e.den),(∀p∈ps,f p.2=g p.2)→p0t f e n ps x=p0t g e n ps x
 | [],x,_=>rfl
 |(i,o)::r,x,h=>by
  simp[p0t];rw[h (i,o) (by simp)];cases decide (i<n);rfl
  ·simp
   cases f0a _ (g o)with
   |none=>rfl
   |some y=>exact j0k f g e n r _ fun p hp=>h p (by simp[hp])
def e0j(lk:Nat→Option Root)(n:Nat)(p:a0l):Option ((e:Ty)×List e.den):=match lk n with
 |some r=>match a0p r.t r.x p with
  |⟨.list true e,l⟩=>some ⟨e,l⟩
  |_=>none
 |none=>none
theorem f0k(Γ:AE)(n:Nat)(p:a0l)(K:(e:Ty)→List e.den→Rs ρ):Γ.body n p K=(e0j Γ.look n p).elim none fun x=>K x.1 x.2:=by
 unfold AE.body e0j
 grind
theorem o0o(Γ:AE)(n:Nat)(p:a0l)(K:(e:Ty)→List e.den→Rs ρ):Γ.bodyP n p K=(e0j Γ.rt n p).elim none fun x=>K x.1 x.2:=by
 unfold AE.bodyP e0j;cases Γ.rt n with
 |none=>rfl
 |some r=>
  simp only[];generalize a0p r.t r.x p=X;obtain⟨h,l⟩:=X;cases h with
  |list o e=>cases o<;>rfl
  |_=>rfl
def g0z(lk:Nat→Option Root)(t:Ty)(a:AV):Option t.den:=match a with
 |.val t' x=>castTo t' t x
 |.nils=>match t with
  |.list false _=>some []
  |.nl _=>some []
  |_=>none
 |.empt=>match t with
  |.list false _=>some []
  |_=>none
 |.sref n p=>(e0j lk n p).elim none fun x=>if h:Ty.list false x.1.sh=t then some (h▸Ty.shx (.list false x.1) x.2)else none
 |.swin n p o k=>(e0j lk n p).elim none fun x=>if h:Ty.list false x.1.sh=t then some (h▸Ty.shx (.list false x.1) ((x.2.drop o).take k))else none
 |_=>none
theorem A0w(Γ:AE)(t:Ty)(a:AV)(K:t.den→Rs ρ):Γ.view t a K=(g0z Γ.look t a).elim none K:=by
 cases a with
 |val t' x=>grind[AE.view,g0z]
 |nils=>cases t with
  |list o e=>cases o<;>rfl
  |_=>rfl
 |empt=>cases t with
  |list o e=>cases o<;>rfl
  |_=>rfl
 |sref n p=>
  simp[AE.view,g0z,e0j]
  grind
 |swin n p o k=>
  simp[AE.view,g0z,e0j]
  grind
 |_=>rfl
theorem e0l{lk lk':Nat→Option Root}{n:Nat}(h:lk' n=lk n)(p:a0l):e0j lk' n p=e0j lk n p:=by simp only[e0j,h]
theorem p0m{lk':Nat→Option Root}{t:Ty}(h:∀n∈a.refs,lk' n=lk n):g0z lk' t a=g0z lk t a:=by
 cases a with
 |sref n p=>simp_all[g0z,e0l,AV.refs]
 |swin n p o k=>simp_all[g0z,e0l,AV.refs]
 |_=>rfl
def f0x(lk:Nat→Option Root)(e:Ty)(a:AV):Option (List e.den):=match a with
 |.val (.list false t') x=>if h:t'=e then some (h▸(show List t'.den from x))else none
 |.nils|.empt=>some []
 |.sref n p=>(e0j lk n p).elim none fun x=>if h:x.1=e then some (h▸x.2)else none
 |.swin n p o k=>(e0j lk n p).elim none fun x=>if h:x.1=e then some (List.take k (List.drop o (h▸x.2)))else none
 |_=>none
theorem j0q{ρ:Type}(Γ:AE)(e:Ty)(a:AV)(K:List e.den→Rs ρ):Γ.elems e a K=(f0x Γ.look e a).elim none K:=by
 cases a with
 |val t' x=>cases t' with
  |list o t'=>
   cases o
   all_goals grind[AE.elems,f0x]
  |_=>rfl
 |sref n p=>
  simp[AE.elems,f0x,e0j]
  grind
 |swin n p o k=>
  simp[AE.elems,f0x,e0j]
  grind
 |_=>rfl
theorem k0c{lk lk':Nat→Option Root}{e:Ty}{a:AV}(h:∀n∈a.refs,lk' n=lk n):f0x lk' e a=f0x lk e a:=by
 cases a with
 |sref n p=>simp_all[f0x,e0l,AV.refs]
 |swin n p o k=>simp_all[f0x,e0l,AV.refs]
 |val t' x=>cases t' with
  |list o t'=>cases o<;>rfl
  |_=>rfl
 |_=>rfl
theorem E0f{γ:Type}{c:Bool}{v:β}{K:β→Option γ}:(bif c then K v else none)=(bif c then some v else none:Option β).elim none K:=by cases c<;>rfl
section
variable {cx:Cx} {o:Oper} {d:Nat} {Γ:AE}
theorem C0a(h:o.op=.move x)(hd:o.dst=some d):Uni cx o d Γ:=by
 have k:x∈o.op.operands.toList:=by simp[h,Op.operands]
 cases x with
 |tmp t=>exact Uni.put (Γ.sl t) fun Γ2 hA ρ K=>by simp only[aop,h,hd];rw[(hA.2 t (c0a k)).1]
 |const v=>exact Uni.put (.one (Γ.opd (.const v))) fun Γ2 hA ρ K=>by simp only[aop,h,hd];rfl
 |global g=>exact Uni.put (.one (.glob g)) fun Γ2 hA ρ K=>by simp only[aop,h,hd];rfl
 |func f=>exact Uni.put (.one (Γ.opd (.func f))) fun Γ2 hA ρ K=>by simp only[aop,h,hd];rfl
theorem C0i(Γ:AE)(v:AV)(K:AE→Rs ρ):Γ.asg true cx d v K=K (Γ.set d v):=by
 unfold AE.asg;split;rename_i r;split;cases hrd:(r==d)
 simp
 simp
 rfl;rename_i r k;split
 simp
 rfl;split
 simp
 rfl;rfl
theorem z0c(h:o.op=.assign x)(hd:o.dst=some d):Uni cx o d Γ:=by
 have g:x∈o.op.operands.toList:=by simp[h,Op.operands]
 cases x with
 |tmp t=>
  have hs:∀Γ2,c0n (a0h o) Γ Γ2→Γ2.sl t=Γ.sl t:=fun Γ2 hA=>(hA.2 t (c0a g)).1;cases hv:Γ.sl t with
  |one v=>exact Uni.put (.one v) fun Γ2 hA ρ K=>by simp only[aop,h,hd,AE.sopd,hs Γ2 hA,hv];rw[C0i];rfl
  |cmp c vs=>exact Uni.put (.cmp c vs) fun Γ2 hA ρ K=>by simp only[aop,h,hd,AE.sopd,hs Γ2 hA,hv]
 |_=>exact Uni.put (.one (Γ.opd _)) fun Γ2 hA ρ K=>by simp only[aop,h,hd,AE.sopd];rw[C0i,hA.opd g];rfl
theorem v0c{fn:Fn}{first caps:Array Operand}(h:o.op=.makeFunc fn first caps)(hd:o.dst=some d):Uni cx o d Γ:=by
 cases fn with
 |func f=>
  cases hf:first.isEmpty with
  |false=>exact Uni.none fun Γ2 hA ρ K=>by simp only[aop,h,hd,hf,cF]
  |true=>
   refine Uni.put (.cmp (.clo f) (caps.toList.map Γ.opd)) fun Γ2 hA ρ K=>?_
   simp only[aop,h,hd,hf,cT]
   have:caps.toList.map Γ2.opd=caps.toList.map Γ.opd:=a09 fun x g=>hA.opd (by
    rw[h];simp only[Op.operands];simpa using .inr (by simpa using g))
   rw[this]
 |_=>exact Uni.none fun Γ2 hA ρ K=>by simp only[aop,h,hd]
theorem E0p(c x y:AV)(K:AV→Rs ρ):o0t c x y K=(o0t c x y some).elim none K:=by
 unfold o0t;split;rename_i b;split;rfl;cases b<;>rfl;cases b<;>rfl;rfl;rfl
theorem C0b{c y:Operand}(h:o.op=.pick c x y)(hd:o.dst=some d):Uni cx o d Γ:=by
 have g:c∈o.op.operands.toList:=by simp[h,Op.operands]
 have f:x∈o.op.operands.toList:=by simp[h,Op.operands]
 have k:y∈o.op.operands.toList:=by simp[h,Op.operands]
 refine Uni.of (o0t (Γ.opd c) (Γ.opd x) (Γ.opd y) some) fun Γ2 hA ρ K=>?_
 simp only[aop,h,hd,hA.opd g,hA.opd f,hA.opd k];exact E0p _ _ _ _
theorem A0o(h:o.op=.alloc t)(hd:o.dst=some d):Uni cx o d Γ:=by
 cases ht:cx.own d t with
 |none=>exact Uni.none fun Γ2 hA ρ K=>by simp only[aop,h,hd,ht]
 |some t'=>exact Uni.ofFresh ⟨true,t',t'.dflt⟩ (.ptr d []) rfl fun Γ2 hA ρ K=>by simp only[aop,h,hd,ht]
theorem D0z(h:o.op=.box t x)(hd:o.dst=some d):Uni cx o d Γ:=by
 have g:x∈o.op.operands.toList:=by simp[h,Op.operands]
 cases ht:cx.T t with
 |none=>exact Uni.none fun Γ2 hA ρ K=>by simp only[aop,h,hd,ht,cT]
 |some t'=>
  cases ha:f0a t' (Γ.opd x)with
  |none=>exact Uni.none fun Γ2 hA ρ K=>by simp only[aop,h,hd,ht,cT];rw[o0m,hA.opd g,ha];rfl
  |some y=>
   cases hk:cx.K d with
   |true=>exact Uni.put (.one (.vptr t' y)) fun Γ2 hA ρ K=>by simp only[aop,h,hd,ht,cT];rw[o0m,hA.opd g,ha];simp[hk,AE.set]
   |false=>exact Uni.ofFresh ⟨true,t',y⟩ (.ptr d []) rfl fun Γ2 hA ρ K=>by simp only[aop,h,hd,ht,cT];rw[o0m,hA.opd g,ha];simp[hk]
theorem f0g(h:o.op=.build t ps∨∃n,o.op=.buildSlice t n ps):∀p∈ps.toList,p.2∈o.op.operands.toList:=by
 intro p hp;rcases h with h|⟨n,h⟩<;>rw[h]<;>simp only[Op.operands]<;>exact a17.2 ⟨p,hp,rfl⟩
theorem g0h{Γ Γ2:AE}:∀(τ:Ty)(k:Nat)(ps:List (Nat×Operand)),(∀p∈ps,Γ2.opd p.2=Γ.opd p.2)→Γ2.aggV k τ ps=Γ.aggV k τ ps
 |.pair u v,k,[],_=>by simp only[AE.aggV];rw[g0h v (k+1) [] (by simp)]
 |.pair u v,k,(i,o)::r,h=>by
  simp only[AE.aggV];rw[g0h v (k+1) r fun p hp=>h p (by simp[hp]),g0h v (k+1) ((i,o)::r) h,h (i,o) (by simp)]
 |.unit,_,[],_=>rfl
 |.unit,_,_::_,_=>rfl
 |.int _,_,_,_=>rfl
 |.bool,_,_,_=>rfl
 |.str,_,_,_=>rfl
 |.list _ _,_,_,_=>rfl
 |.arr _ _,_,_,_=>rfl
 |.fn _,_,_,_=>rfl
 |.hd,_,_,_=>rfl
 |.nl _,_,_,_=>rfl
theorem A0q(h:o.op=.build t ps)(hd:o.dst=some d):Uni cx o d Γ:=by
 cases hn:cx.nlT d t with
 |some t'=>
  cases hagg:t'.isAgg with
  |false=>exact Uni.none fun Γ2 hA ρ K=>by simp[aop,h,hd,hn,hagg]
  |true=>
   refine Uni.of ((g0p Γ.opd t' ps.toList t'.dflt).map fun y=>.val t' y) fun Γ2 hA ρ K=>?_
   simp only[aop,h,hd,hn,hagg,cT];rw[r0u,k0d Γ2.opd Γ.opd t' _ _ fun p hp=>hA.opd (f0g (.inl h) p hp)];cases g0p Γ.opd t' ps.toList t'.dflt<;>rfl
 |none=>
 cases hO:cx.O d with
 |some t'=>
  by_cases hT:cx.T t=some t'.sh
  ·cases hv:Γ.aggV 0 t' ps.toList with
   |none=>exact Uni.none fun Γ2 hA ρ K=>by simp only[aop,h,hd,hn,hO,if_pos hT,g0h t' 0 _ fun p hp=>hA.opd (f0g (.inl h) p hp),hv]
   |some vs=>
    cases hc:decide (0<t'.cells)with
    |false=>exact Uni.none fun Γ2 hA ρ K=>by simp only[aop,h,hd,hn,hO,if_pos hT,g0h t' 0 _ fun p hp=>hA.opd (f0g (.inl h) p hp),hv,hc,cF]
    |true=>exact Uni.put (.cmp .agg vs) fun Γ2 hA ρ K=>by simp only[aop,h,hd,hn,hO,if_pos hT,g0h t' 0 _ fun p hp=>hA.opd (f0g (.inl h) p hp),hv,hc,cT]
  exact Uni.none fun Γ2 hA ρ K=>by simp only[aop,h,hd,hn,hO,if_neg hT]
 |none=>
 cases ht:cx.T t with
 |none=>exact Uni.none fun Γ2 hA ρ K=>by simp only[aop,h,hd,hn,hO,ht]
 |some t'=>
  cases hagg:t'.isAgg with
  |false=>exact Uni.none fun Γ2 hA ρ K=>by simp[aop,h,hd,hn,hO,ht,hagg]
  |true=>
   refine Uni.of ((g0p Γ.opd t' ps.toList t'.dflt).map fun y=>.val t' y) fun Γ2 hA ρ K=>?_
   simp only[aop,h,hd,hn,hO,ht,hagg,cT];rw[r0u,k0d Γ2.opd Γ.opd t' _ _ fun p hp=>hA.opd (f0g (.inl h) p hp)];cases g0p Γ.opd t' ps.toList t'.dflt<;>rfl
theorem s0d(h:o.op=.buildSlice t n ps)(hd:o.dst=some d):Uni cx o d Γ:=by
 cases ht:cx.T t with
 |none=>exact Uni.none fun Γ2 hA ρ K=>by simp only[aop,h,hd,ht]
 |some t'=>
  cases t' with
  |list o' e=>
   cases hc:(lim n&&decide (n*e.cells≤16777216))with
   |false=>exact Uni.none fun Γ2 hA ρ K=>by simp only[aop,h,hd,ht,hc,cF,cT,a25]
   |true=>
    cases hl:p0t Γ.opd e n ps.toList (a41 n e.dflt)with
    |none=>
     exact Uni.none fun Γ2 hA ρ K=>by
      simp only[aop,h,hd,ht,hc,cT,a25];rw[t0u,j0k Γ2.opd Γ.opd e n _ _ (fun p hp=>hA.opd (f0g (.inr ⟨n,h⟩) p hp)),hl];rfl
    |some y=>
     cases hK:cx.K d with
     |true=>
      exact Uni.put (.one (.val (.list false e) y)) fun Γ2 hA ρ K=>by
       simp only[aop,h,hd,ht,hc,hK,cT,a25];rw[t0u,j0k Γ2.opd Γ.opd e n _ _ (fun p hp=>hA.opd (f0g (.inr ⟨n,h⟩) p hp)),hl];rfl
     |false=>
      exact Uni.ofFresh ⟨false,.list true e,y⟩ (.sref d []) rfl fun Γ2 hA ρ K=>by
       simp only[aop,h,hd,ht,hc,hK,cT,cF,a25];rw[t0u,j0k Γ2.opd Γ.opd e n _ _ (fun p hp=>hA.opd (f0g (.inr ⟨n,h⟩) p hp)),hl];rfl
  |_=>exact Uni.none fun Γ2 hA ρ K=>by simp only[aop,h,hd,ht]
def p0u(lk:Nat→Option Root)(ty:Ty)(a:AV):Option AV:=match a with
 |.vptr t x=>if t=ty then some (.val t x)else none
 |.ptr n p=>match lk n with
  |some r=>match a0p r.t r.x p with
   |⟨.list true _,_⟩=>if ty.isList then some (.sref n p)else none
   |⟨t,y⟩=>if t.sh=ty∧t.shn=t then some (.val t y)else none
  |none=>none
 |_=>none
theorem E0v(Γ:AE)(ty:Ty)(a:AV)(K:AV→AE→Rs ρ):Γ.lodK true ty a K=(p0u Γ.look ty a).elim none fun v=>K v Γ:=by
 cases a with
 |vptr t x=>simp only[AE.lodK,p0u];split<;>rfl
 |ptr n p=>
  simp only[AE.lodK,p0u];cases Γ.look n with
  |none=>rfl
  |some r=>
   simp only[];generalize a0p r.t r.x p=X;obtain⟨h,l⟩:=X;have g:∀(h:Ty)(l:h.den),((if h.sh=ty∧h.shn=h then K (AV.val h l) Γ else none:Rs ρ))=(if h.sh=ty∧h.shn=h then some (AV.val h l)else none:Option AV).elim none fun v=>K v Γ:=by
    intro h l
    split<;>rfl
   cases h with
   |list o e=>
    cases o;exact g _ l;simp only[];split<;>rfl
   |_=>exact g _ l
 |_=>rfl
theorem B0z(f:o.op=.load t x)(hd:o.dst=some d):Uni cx o d Γ:=by
 have k:x∈o.op.operands.toList:=by simp[f,Op.operands]
 cases ht:cx.T t with
 |none=>exact Uni.none fun Γ2 hA ρ K=>by simp only[aop,f,hd,ht]
 |some ty=>
  refine Uni.of (p0u Γ.look ty (cx.glob (Γ.opd x))) fun Γ2 hA ρ K=>?_
  simp only[aop,f,hd,ht,cT];rw[E0v,hA.opd k]
  have:p0u Γ2.look ty (cx.glob (Γ.opd x))=p0u Γ.look ty (cx.glob (Γ.opd x)):=by
   have h:=fun n a=>hA.look (n:=n) k a
   revert h
   cases Γ.opd x with
   |ptr n p=>intro h;simp only[Cx.glob,p0u,h n (by simp[AV.refs])]
   |glob g=>
    intro _;simp only[Cx.glob]
    split<;>rfl
   |_=>intro _;rfl
  rw[this]
theorem v0d(h:o.op=.nilCheck x)(hd:o.dst=some d):Uni cx o d Γ:=by
 have g:x∈o.op.operands.toList:=by simp[h,Op.operands]
 refine Uni.of (match Γ.opd x with|.ptr n p=>some (.ptr n p)|.vptr t y=>some (.vptr t y)|_=>none) fun Γ2 hA ρ K=>?_
 simp only[aop,h,hd,hA.opd g];cases Γ.opd x<;>rfl
theorem B0n(h:BinOp)(k:IntKind)(x y:Int)(K:AV→Rs ρ):i0y h k x y K=(i0y h k x y some).elim none K:=by
 cases h<;>simp only[i0y]<;>first|rfl|(cases (y==0)<;>rfl)|(cases decide (y<0)<;>rfl)
theorem B0b(h:BinOp)(ty:Nat)(t:Ty)(x:t.den)(g:Ty)(y:g.den)(K:AV→Rs ρ):l0u cx h ty t x g y K=(l0u cx h ty t x g y some).elim none K:=by
 unfold l0u;split;cases (cx.E ty&&t.isAgg&&decide (cx.T ty=some t));rfl;cases h<;>rfl;rfl
theorem E0g(h:BinOp)(ty:Nat)(a b:AV)(K:AV→Rs ρ):h0r cx h ty a b K=(h0r cx h ty a b some).elim none K:=by
 unfold h0r;split;split;exact B0n _ _ _ _ _;rfl;split;cases h<;>rfl;rfl;cases h<;>first|rfl|exact E0f
 exact B0b _ _ _ _ _ _ _;split;cases h<;>rfl;rfl;split;cases h<;>rfl;rfl;rfl
theorem A0p{op:BinOp}{y:Operand}(h:o.op=.binOp op t x y s)(hd:o.dst=some d):Uni cx o d Γ:=by
 have g:x∈o.op.operands.toList:=by simp[h,Op.operands]
 have f:y∈o.op.operands.toList:=by simp[h,Op.operands]
 cases hl:w0r (cx.T t)with
 |true=>
  cases hn:u0t (cx.T t) (Γ.opd x) (Γ.opd y)with
  |some e=>exact Uni.none fun Γ2 hA ρ K=>by simp only[aop,h,hd,hA.opd g,hA.opd f,hl,hn,cT,if_true]
  |none=>exact Uni.none fun Γ2 hA ρ K=>by simp only[aop,h,hd,hA.opd g,hA.opd f,hl,hn,cT]
 |false=>
  refine Uni.of (h0r cx op t (Γ.opd x) (Γ.opd y) some) fun Γ2 hA ρ K=>?_
  simp only[aop,h,hd,hA.opd g,hA.opd f,hl,cF];exact E0g _ _ _ _ _
theorem F0c(h:UnOp)(a:AV)(K:AV→Rs ρ):AE.un h a K=(AE.un h a some).elim none K:=by
 unfold AE.un
 split<;>rfl
theorem C0c{op:UnOp}(h:o.op=.unOp op t x)(hd:o.dst=some d):Uni cx o d Γ:=by
 have g:x∈o.op.operands.toList:=by simp[h,Op.operands]
 refine Uni.of (AE.un op (Γ.opd x) some) fun Γ2 hA ρ K=>?_
 simp only[aop,h,hd,hA.opd g];exact F0c _ _ _
theorem C0p{c:Bool}{K:AV→Rs ρ}{Kr:Root→Rs ρ}:(bif c then K v else none)=(bif c then some (Sum.inl v)else none:Option (AV ⊕ Root)).elim none fun y=>match y with
  |.inl v=>K v
  |.inr r=>Kr r:=by cases c<;>rfl
theorem C0q{c:Bool}{v:Root}{K:AV→Rs ρ}{Kr:Root→Rs ρ}:(bif c then Kr v else none)=(bif c then some (Sum.inr v)else none:Option (AV ⊕ Root)).elim none fun y=>match y with
  |.inl v=>K v
  |.inr r=>Kr r:=by cases c<;>rfl
theorem E0h(Γ:AE)(s t:Nat)(g f:Option Ty)(a:AV)(K:AV→Rs ρ)(h:Root→Rs ρ):Γ.convK s t g f a K h=(Γ.convK s t g f a (fun v=>some (Sum.inl v)) (fun r=>some (Sum.inr r)):Option (AV ⊕ Root)).elim none fun y=>match y with
  |.inl v=>K v
  |.inr r=>h r:=by
 unfold AE.convK;split;rfl;exact C0q;rfl;rename_i n;split;split;exact C0p;rfl;rfl;rw[j0q,j0q (ρ:=AV ⊕ Root)];generalize f0x Γ.look (.int .u8) _=r;cases r<;>rfl;rfl
theorem x0q{Γ:AE}(s t:Nat)(f k:Option Ty)(h:∀n∈a.refs,Γ2.look n=Γ.look n)(K:AV→Rs ρ)(g:Root→Rs ρ):Γ2.convK s t f k a K g=Γ.convK s t f k a K g:=by
 unfold AE.convK;split;rfl;rfl;rfl;rename_i n;rw[h n (by simp[AV.refs])];rw[j0q,j0q,k0c h];rfl
theorem w0f(h:o.op=.convert s t x)(hd:o.dst=some d):Uni cx o d Γ:=by
 have g:x∈o.op.operands.toList:=by simp[h,Op.operands]
 have run:∀Γ2,c0n (a0h o) Γ Γ2→∀{ρ:Type}(K:AE→Rs ρ),aop cx true o Γ2 K=(Γ.convK s t (cx.T s) (cx.T t) (Γ.opd x) (fun v=>some (Sum.inl v)) (fun r=>some (Sum.inr r)):Option (AV ⊕ Root)).elim none fun y=>match y with
   |.inl v=>K (Γ2.set d v)
   |.inr r=>Γ2.fresh true d r fun Γ=>K (Γ.set d (.sref d [])):=fun Γ2 hA ρ K=>by
  simp only[aop,h,hd,hA.opd g,AE.conv];rw[E0h,x0q s t _ _ fun n f=>hA.look g f]
 revert run
 generalize (Γ.convK s t (cx.T s) (cx.T t) (Γ.opd x) (fun v=>some (Sum.inl v)) (fun r=>some (Sum.inr r)):Option (AV ⊕ Root))=r;cases r with
 |none=>exact fun run=>Uni.none run
 |some y=>
  cases y with
  |inl v=>exact fun run=>Uni.put (.one v) run
  |inr r=>exact fun run=>Uni.ofFresh r (.sref d []) rfl run
end
section
variable {cx:Cx} {o:Oper} {d:Nat} {Γ:AE}
theorem w0t{ρ:Type}(a:AV)(t:Ty)(K:t.den→Rs ρ):a.isVal t K=(a.isVal t some).elim none K:=by
 cases a with
 |val t' x=>grind[AV.isVal]
 |_=>rfl
theorem t0n{n c:Operand}(h:o.op=.makeSlice t n c)(hd:o.dst=some d):Uni cx o d Γ:=by
 have f:n∈o.op.operands.toList:=by simp[h,Op.operands]
 have g:c∈o.op.operands.toList:=by simp[h,Op.operands]
 cases ht:cx.own d t with
 |none=>simp_all[Uni.none,aop]
 |some t'=>
  cases t' with
  |list o' e=>
   have run:∀Γ2,c0n (a0h o) Γ Γ2→∀{ρ:Type}(K:AE→Rs ρ),aop cx true o Γ2 K=((Γ.opd n).isVal (.int .i64) some).elim none fun(x:Int)=>((Γ.opd c).isVal (.int .i64) some).elim none fun(y:Int)=>
     bif decide (0≤x)&&(decide (x≤y)&&lim y.toNat)then Γ2.fresh true d ⟨false,.list true e,a41 x.toNat e.dflt⟩ fun Γ=>K (Γ.set d (.sref d []))else none:=fun Γ2 hA ρ K=>by
    simp[aop,h,hd,ht,hA.opd f,hA.opd g];refine(w0t _ (.int .i64) _).trans ?_
    grind[w0t]
   revert run
   generalize (Γ.opd n).isVal (.int .i64) some=rx;generalize (Γ.opd c).isVal (.int .i64) some=ry;intro run;cases rx with
   |none=>exact Uni.none run
   |some x=>
    cases ry with
    |none=>exact Uni.none run
    |some y=>
     cases hb:(decide (0≤(show Int from x))&&(decide ((show Int from x)≤(show Int from y))&&lim (show Int from y).toNat))with
     |false=>
      grind[Uni.none]
     |true=>
      refine Uni.ofFresh ⟨false,.list true e,a41 (show Int from x).toNat e.dflt⟩ (.sref d []) rfl fun Γ2 hA ρ K=>(run Γ2 hA K).trans ?_
      grind
  |_=>exact Uni.none fun Γ2 hA ρ K=>by simp only[aop,h,hd,ht]
theorem t0s(Γ:AE)(h g:Nat)(x:Option Operand)(K:Nat→Rs ρ):Γ.bnd h g x K=(Γ.bnd h g x some).elim none K:=by
 cases x with
 |none=>rfl
 |some x=>
  simp[AE.bnd]
  grind
theorem f0j(Γ:AE)(g:Nat)(lo hi:Option Operand)(K:Nat→Nat→Rs ρ):Γ.bnds g lo hi K=(Γ.bnds g lo hi fun x y=>some (x,y)).elim none fun p=>K p.1 p.2:=by
 unfold AE.bnds;rw[t0s,t0s (ρ:=Nat×Nat)];cases Γ.bnd g g hi some with
 |none=>rfl
 |some h=>
  simp[a10];rw[t0s,t0s (ρ:=Nat×Nat)];cases Γ.bnd h 0 lo some<;>rfl
theorem x0l{Γ:AE}{lo:Option Operand}(k:∀x,lo=some x→Γ2.opd x=Γ.opd x)(f:∀x,hi=some x→Γ2.opd x=Γ.opd x)(h:Nat)(K:Nat→Nat→Rs ρ):Γ2.bnds h lo hi K=Γ.bnds h lo hi K:=by
 have one:∀(x:Option Operand),(∀y,x=some y→Γ2.opd y=Γ.opd y)→∀(l g:Nat){ρ:Type}(K:Nat→Rs ρ),Γ2.bnd l g x K=Γ.bnd l g x K:=by
  intro x a l g ρ K;cases x with
  |none=>rfl
  |some y=>simp[AE.bnd];simp_all
 unfold AE.bnds;simp_all
theorem E0r{ρ:Type}(Γ:AE)(ty:Option Ty)(a:AV)(lo hi h:Option Operand)(K:AV→Rs ρ):Γ.slic ty a lo hi h K=(Γ.slic ty a lo hi h some).elim none K:=by
 unfold AE.slic;cases h with
 |some m=>
  simp
  cases (l0z (some m)&&l0z hi&&lo.isNone);rfl;simp[o0q]
  grind
 |none=>
  simp
  cases a with
  |val t l=>
   cases t with
   |str=>
    simp
    split;rw[f0j,f0j (ρ:=AV)];generalize (Γ.bnds _ lo hi fun x y=>some (x,y):Option (Nat×Nat))=r;cases r<;>rfl;rfl
   |list o e=>
    cases o
    simp
    split;rw[f0j,f0j (ρ:=AV)];generalize (Γ.bnds _ lo hi fun x y=>some (x,y):Option (Nat×Nat))=r;cases r<;>rfl;rfl;rfl
   |_=>rfl
  |nils=>
   cases ty with
   |none=>rfl
   |some t=>
    cases t with
    |list o e=>
     simp
     rw[f0j,f0j (ρ:=AV)];generalize (Γ.bnds _ lo hi fun x y=>some (x,y):Option (Nat×Nat))=r;cases r<;>rfl
    |_=>rfl
  |sref n p=>
   simp
   rw[f0k,f0k (ρ:=AV)];cases e0j Γ.look n p with
   |none=>rfl
   |some x=>
    simp[a10];split;cases lo<;>cases hi<;>simp only[]<;>(try rfl)<;>(rw[f0j,f0j (ρ:=AV)];generalize (Γ.bnds _ _ _ fun x y=>some (x,y):Option (Nat×Nat))=r;cases r<;>rfl)
    rfl
  |swin n p o k=>
   simp
   rw[f0k,f0k (ρ:=AV)];cases e0j Γ.look n p with
   |none=>rfl
   |some x=>
    simp[a10];split;rw[f0j,f0j (ρ:=AV)];generalize (Γ.bnds _ _ _ fun x y=>some (x,y):Option (Nat×Nat))=r;cases r<;>rfl;rfl
  |vptr t l=>
   cases t with
   |arr n e=>
    simp
    split;rw[f0j,f0j (ρ:=AV)];generalize (Γ.bnds _ lo hi fun x y=>some (x,y):Option (Nat×Nat))=r;cases r<;>rfl;rfl
   |_=>rfl
  |_=>rfl
theorem y0y{Γ:AE}{lo:Option Operand}(b:∀n∈a.refs,Γ2.look n=Γ.look n)(g:∀x,lo=some x→Γ2.opd x=Γ.opd x)(h:∀x,hi=some x→Γ2.opd x=Γ.opd x)(ty:Option Ty)(f:Option Operand)(K:AV→Rs ρ):
  Γ2.slic ty a lo hi f K=Γ.slic ty a lo hi f K:=by
 have c:=fun(len:Nat) {ρ:Type} (K:Nat→Nat→Rs ρ)=>x0l (Γ:=Γ) (Γ2:=Γ2) g h len K;unfold AE.slic;cases f with
 |some m=>rfl
 |none=>
  simp
  cases a with
  |val t l=>
   cases t with
   |str=>simp_all
   |list o e=>grind
   |_=>rfl
  |nils=>
   simp_all
  |sref n p=>
   simp
   rw[f0k,f0k,e0l (b n (by simp[AV.refs]))]
   grind
  |swin n p o k=>
   simp only[];rw[f0k,f0k,e0l (b n (by simp[AV.refs]))];simp only[c]
  |vptr t l=>
   grind
  |_=>rfl
theorem A0t{lo mx:Option Operand}(k:o.op=.slice t x lo hi mx)(hd:o.dst=some d):Uni cx o d Γ:=by
 have a:x∈o.op.operands.toList:=by simp[k,Op.operands]
 have f:∀y,lo=some y→y∈o.op.operands.toList:=fun y h=>by simp_all[Op.operands]
 have g:∀y,hi=some y→y∈o.op.operands.toList:=fun y h=>by simp_all[Op.operands]
 refine Uni.of (Γ.slic (cx.T t) (Γ.opd x) lo hi mx some) fun Γ2 hA ρ K=>?_
 simp[aop,k,hd,hA.opd a];rw[y0y (fun n b=>hA.look a b) (fun y h=>hA.opd (f y h)) (fun y h=>hA.opd (g y h))]
 grind[E0r]
theorem t0l{f:Nat}(h:o.op=.fieldAddr s x f)(hd:o.dst=some d):Uni cx o d Γ:=by
 have g:x∈o.op.operands.toList:=by simp[h,Op.operands]
 cases ha:Γ.opd x with
 |ptr n p=>
  have k:∀Γ2,c0n (a0h o) Γ Γ2→Γ2.rt n=Γ.rt n:=fun Γ2 hA=>hA.rt g (by rw[ha];simp[AV.refs]);cases hrt:Γ.rt n with
  |none=>exact Uni.none fun Γ2 hA ρ K=>by simp only[aop,h,hd,hA.opd g,ha,k Γ2 hA,hrt]
  |some r=>
   by_cases hc:c0k (a0p r.t r.x p).1 f=true∧cx.T s=some (a0p r.t r.x p).1.sh
   exact Uni.put (.one (.ptr n (p++b0l f))) fun Γ2 hA ρ K=>by
    simp[aop,h,hd,hA.opd g,ha,k Γ2 hA,hrt];rw[if_pos hc];rfl
   exact Uni.none fun Γ2 hA ρ K=>by
    simp only[aop,h,hd,hA.opd g,ha,k Γ2 hA,hrt];simp_all
 |vptr t y=>
  by_cases hc:c0k t f=true∧cx.T s=some t
  exact Uni.put (.one (.vptr (a0p t y (b0l f)).1 (a0p t y (b0l f)).2)) fun Γ2 hA ρ K=>by
   simp[aop,h,hd,hA.opd g,ha];rw[if_pos hc];rfl
  exact Uni.none fun Γ2 hA ρ K=>by
   simp only[aop,h,hd,hA.opd g,ha];simp_all
 |_=>exact Uni.none fun Γ2 hA ρ K=>by simp only[aop,h,hd,hA.opd g,ha]
theorem A0r{f:Nat}(h:o.op=.field s x f)(hd:o.dst=some d):Uni cx o d Γ:=by
 have g:x∈o.op.operands.toList:=by simp[h,Op.operands]
 cases ha:Γ.opd x with
 |val t y=>
  by_cases hc:c0k t f=true∧cx.T s=some t
  exact Uni.put (.one (.val (a0p t y (b0l f)).1 (a0p t y (b0l f)).2)) fun Γ2 hA ρ K=>by
   simp[aop,h,hd,hA.opd g,ha];rw[if_pos hc];rfl
  exact Uni.none fun Γ2 hA ρ K=>by
   simp only[aop,h,hd,hA.opd g,ha];simp_all
 |_=>exact Uni.none fun Γ2 hA ρ K=>by simp only[aop,h,hd,hA.opd g,ha]
theorem o0n{α γ:Type}{o:Option α}{f:α→β}{K:β→Option γ}:(o.bind fun x=>K (f x))=(o.bind fun x=>some (f x)).elim none K:=by cases o<;>rfl
theorem E0c(Γ:AE)(ty:Option Ty)(a:AV)(i:Int)(K:AV→Rs ρ):Γ.addrK ty a i K=(Γ.addrK ty a i some).elim none K:=by
 cases a with
 |val t l=>
  cases t with
  |list o e=>
   cases o;simp[AE.addrK];split;exact o0n;rfl;rfl
  |_=>rfl
 |sref n p=>
  simp only[AE.addrK];rw[o0o,o0o (ρ:=AV)];cases e0j Γ.rt n p with
  |none=>rfl
  |some x=>
   grind
 |swin n p o k=>
  simp[AE.addrK];rw[f0k,f0k (ρ:=AV)];cases e0j Γ.look n p with
  |none=>rfl
  |some x=>
   grind
 |ptr n p=>
  simp[AE.addrK]
  grind
 |vptr t l=>
  cases t with
  |arr k e=>
   simp[AE.addrK];split;exact o0n;rfl
  |_=>rfl
 |_=>rfl
theorem x0f{Γ:AE}(h:∀n∈a.refs,Γ2.look n=Γ.look n)(g:∀n∈a.refs,Γ2.rt n=Γ.rt n)(ty:Option Ty)(i:Int)(K:AV→Rs ρ):Γ2.addrK ty a i K=Γ.addrK ty a i K:=by
 cases a with
 |sref n p=>simp only[AE.addrK];rw[o0o,o0o,e0l (g n (by simp[AV.refs]))]
 |swin n p o k=>simp only[AE.addrK];rw[f0k,f0k,e0l (h n (by simp[AV.refs]))]
 |ptr n p=>simp_all[AE.addrK,AV.refs]
 |val t l=>
  cases t with
  |list o e=>cases o<;>rfl
  |_=>rfl
 |vptr t l=>cases t<;>rfl
 |_=>rfl
theorem t0m{i:Operand}(b:o.op=.indexAddr t x i)(hd:o.dst=some d):Uni cx o d Γ:=by
 have c:x∈o.op.operands.toList:=by simp[b,Op.operands]
 have hi:i∈o.op.operands.toList:=by simp[b,Op.operands]
 have e:(∀k y,Γ.opd i≠.val (.int k) y)→Uni cx o d Γ:=fun h=>Uni.none fun Γ2 hA ρ K=>by
  simp[aop,b,hd,hA.opd hi]
  grind
 cases ha:Γ.opd i with
 |val t' y=>
  cases t' with
  |int k=>
   refine Uni.of (Γ.addrK (cx.T t) (cx.glob (Γ.opd x)) (show Int from y) some) fun Γ2 hA ρ K=>?_
   simp[aop,b,hd,hA.opd hi,hA.opd c,ha];have f:∀n∈(cx.glob (Γ.opd x)).refs,n∈(Γ.opd x).refs:=fun n a=>by
    revert a
    cases Γ.opd x with
    |glob g=>
     simp[Cx.glob]
     split<;>exact fun h=>h
    |_=>exact id
   exact(x0f (fun n a=>hA.look c (f n a)) (fun n a=>hA.rt c (f n a)) (cx.T t) (show Int from y) _).trans (E0c _ _ _ _ _)
  |_=>exact e (by rw[ha];intro k y h;cases h)
 |_=>exact e (by rw[ha];intro k y h;cases h)
def n0u{ρ:Type}(ty:Option Ty)(x i:AV)(K:AV→Rs ρ):Rs ρ:=match x,i with
 |.val (.arr n t) l,.val (.int _) (i:Int)=>if ty=some (.arr n t)then(n0s l i).bind fun y=>K (.val t y)else none
 |.val .str (l:List Int),.val (.int _) (i:Int)=>if ty=some .str then(n0s l i).bind fun y=>K (.val (.int .u8) y)else none
 |_,_=>none
theorem B0m{ρ:Type}(ty:Option Ty)(x i:AV)(K:AV→Rs ρ):n0u ty x i K=(n0u ty x i some).elim none K:=by
 unfold n0u;split;split;exact o0n;rfl;split;exact o0n;rfl;rfl
theorem A0s{i:Operand}(h:o.op=.index s x i)(hd:o.dst=some d):Uni cx o d Γ:=by
 have g:x∈o.op.operands.toList:=by simp[h,Op.operands]
 have hi:i∈o.op.operands.toList:=by simp[h,Op.operands]
 refine Uni.of (n0u (cx.T s) (Γ.opd x) (Γ.opd i) some) fun Γ2 hA ρ K=>?_
 have:aop cx true o Γ2 K=n0u (cx.T s) (Γ.opd x) (Γ.opd i) fun v=>K (Γ2.set d v):=by
  simp[aop,h,hd,hA.opd g,hA.opd hi];rfl
 grind[B0m]
theorem w0g(h:o.op=.extract x i)(hd:o.dst=some d):Uni cx o d Γ:=by
 have g:x∈o.op.operands.toList:=by simp[h,Op.operands]
 cases x with
 |tmp t=>
  have hs:∀Γ2,c0n (a0h o) Γ Γ2→Γ2.sl t=Γ.sl t:=fun Γ2 hA=>(hA.2 t (c0a g)).1;cases hv:Γ.sl t with
  |one v=>simp_all[Uni.none,aop]
  |cmp c vs=>
   cases c with
   |agg=>simp_all[Uni.none,aop]
   |clo f=>simp_all[Uni.none,aop]
   |tup=>
   cases hi:vs[i]? with
   |none=>simp_all[Uni.none,aop]
   |some v=>exact Uni.put (.one v) fun Γ2 hA ρ K=>by simp[aop,h,hd,hs Γ2 hA,hv,hi];rfl
 |_=>simp_all[Uni.none,aop]
end
section
variable {cx:Cx} {o:Oper} {d:Nat} {Γ:AE}
theorem E0u(Γ:AE)(ty:Option Ty)(a:AV)(K:Nat→Rs ρ):Γ.lenK ty a K=(Γ.lenK ty a some).elim none K:=by
 unfold AE.lenK
 grind
theorem A0h{Γ:AE}(h:∀n∈a.refs,Γ2.look n=Γ.look n)(ty:Option Ty)(K:Nat→Rs ρ):Γ2.lenK ty a K=Γ.lenK ty a K:=by
 unfold AE.lenK
 grind[AV.refs]
theorem u0s{ρ:Type}(f:Int→Int→Int)(k:IntKind):∀(l:List AV)(x:Int)(K:AV→Rs ρ),AE.mins f k l x K=(AE.mins f k l x some).elim none K
 | [],x,K=>rfl
 |a::r,x,K=>by
  cases a with
  |val t y=>
   cases t with
   |int k'=>
    simp only[AE.mins];split;exact u0s f k r _ K;rfl
   |_=>rfl
  |_=>rfl
theorem q0i{ρ:Type}(Γ:AE)(e:Ty)(x:AV)(ys:List e.den)(K:AE→Rs ρ):Γ.apnd true d e x ys K=(match x with
  |.nils|.empt=>bif lim ys.length then Γ.fresh true d ⟨false,.list true e,ys⟩ fun Γ=>K (Γ.set d (.sref d []))else none
  |_=>none):=by
 cases x<;>rfl
theorem q0d{x:AV}{ys:Option (List e.den)}(h:∀Γ2,c0n (a0h o) Γ Γ2→∀{ρ:Type}(K:AE→Rs ρ),aop cx true o Γ2 K=ys.elim none fun ys=>Γ2.apnd true d e x ys K):Uni cx o d Γ:=by
 cases ys with
 |none=>exact Uni.none h
 |some ys=>
  have h:∀Γ2,c0n (a0h o) Γ Γ2→∀{ρ:Type}(K:AE→Rs ρ),aop cx true o Γ2 K=Γ2.apnd true d e x ys K:=h;cases hl:lim ys.length with
  |false=>grind[Uni.none,q0i]
  |true=>
   cases x with
   |nils=>exact Uni.ofFresh ⟨false,.list true e,ys⟩ (.sref d []) rfl fun Γ2 hA ρ K=>by simp_all[q0i]
   |empt=>exact Uni.ofFresh ⟨false,.list true e,ys⟩ (.sref d []) rfl fun Γ2 hA ρ K=>by simp_all[q0i]
   |_=>exact Uni.none fun Γ2 hA ρ K=>by rw[h Γ2 hA,q0i]
theorem w0u{Γ2:AE}(h:c0n (a0h o) Γ Γ2){c:Call}(g:o.op=.call c):c.args.toList.map Γ2.opd=c.args.toList.map Γ.opd:=
 a09 fun x f=>h.opd (by simp_all[Op.operands,Call.operands])
theorem h0b(h:o.op=.call c):∀x∈c.args.toList,x∈o.op.operands.toList:=fun x g=>by
 simp_all[Op.operands,Call.operands]
theorem w0e{b:Builtin}(m:o.op=.call c)(q:c.callee=.builtin b)(hd:o.dst=some d):Uni cx o d Γ:=by
 have run:∀Γ2,c0n (a0h o) Γ Γ2→∀{ρ:Type}(K:AE→Rs ρ),aop cx true o Γ2 K=Γ2.blt true cx d b c.argTypes.toList (c.args.toList.map Γ.opd) K:=fun Γ2 hA ρ K=>by
  grind[aop,w0u]
 have i:∀a∈c.args.toList.map Γ.opd,∀n∈a.refs,∀Γ2,c0n (a0h o) Γ Γ2→Γ2.look n=Γ.look n:=fun a l n j Γ2 hA=>by
  obtain⟨x,p,rfl⟩:=a17.1 l;exact hA.look (h0b m x p) j
 revert run i
 generalize c.args.toList.map Γ.opd=as;generalize c.argTypes.toList=ts;intro run i;have g:(∀(Γ2:AE){ρ:Type}(K:AE→Rs ρ),Γ2.blt true cx d b ts as K=none)→Uni cx o d Γ:=fun h=>Uni.none fun Γ2 hA ρ K=>by simp_all
 cases b with
 |len=>
  match as with
  | [a]=>
   refine Uni.of ((Γ.lenK (ts.head?.bind cx.T) a some).map fun n=>.val (.int .i64) (n:Int)) fun Γ2 hA ρ K=>?_
   rw[run Γ2 hA];simp only[AE.blt];rw[E0u,A0h fun n j=>i a (by simp) n j Γ2 hA];cases Γ.lenK (ts.head?.bind cx.T) a some<;>rfl
  | []=>exact g fun Γ2 ρ K=>rfl
  |_::_::_=>exact g fun Γ2 ρ K=>rfl
 |max=>
  match as with
  | []=>exact g fun Γ2 ρ K=>rfl
  |a::r=>
   cases a with
   |val t x=>
    cases t with
    |int k=>exact Uni.of (AE.mins y0d k r x some) fun Γ2 hA ρ K=>by rw[run Γ2 hA];exact u0s _ _ _ _ _
    |_=>exact g fun Γ2 ρ K=>rfl
   |_=>exact g fun Γ2 ρ K=>rfl
 |min=>
  match as with
  | []=>exact g fun Γ2 ρ K=>rfl
  |a::r=>
   cases a with
   |val t x=>
    cases t with
    |int k=>exact Uni.of (AE.mins y0e k r x some) fun Γ2 hA ρ K=>by rw[run Γ2 hA];exact u0s _ _ _ _ _
    |_=>exact g fun Γ2 ρ K=>rfl
   |_=>exact g fun Γ2 ρ K=>rfl
 |append=>
  match as with
  | []=>exact g fun Γ2 ρ K=>rfl
  | [_]=>exact g fun Γ2 ρ K=>rfl
  |_::_::_::_=>exact g fun Γ2 ρ K=>rfl
  | [a,b]=>
   cases hni:n0y cx ts with
   |false=>
    cases hzl:v0h cx ts a b with
    |none=>exact g fun Γ2 ρ K=>by simp only[AE.blt,hni,m0e,hzl,cF]
    |some w=>
     obtain⟨e,ys⟩:=w;exact q0d (e:=e) (x:=.nils) (ys:=some ys) fun Γ2 hA ρ K=>by
      rw[run Γ2 hA];simp only[AE.blt,hni,m0e,hzl,cF];rfl
   |true=>
    cases ht:ts.head?.bind cx.T with
    |none=>simp_all[AE.blt]
    |some τ=>
     cases τ with
     |list o' e=>
      have f:(∀(Γ2:AE){ρ:Type}(K:AE→Rs ρ),Γ2.blt true cx d .append ts [a,b] K=Γ2.elems e b fun ys=>Γ2.apnd true d e a ys K)→Uni cx o d Γ:=fun h=>
       q0d (e:=e) (x:=a) (ys:=f0x Γ.look e b) fun Γ2 hA ρ K=>by
        simp_all[j0q,k0c]
      cases b with
      |val t y=>
       cases t with
       |str=>
        by_cases he:e=.int .u8
        subst he;exact q0d (e:=.int .u8) (x:=a) (ys:=some y) fun Γ2 hA ρ K=>by
         rw[run Γ2 hA];simp only[AE.blt,hni,ht,cT];rfl
        simp_all[AE.blt]
       |_=>exact f fun Γ2 ρ K=>by simp only[AE.blt,hni,ht,cT,a25]
      |_=>exact f fun Γ2 ρ K=>by simp only[AE.blt,hni,ht,cT,a25]
     |_=>exact g fun Γ2 ρ K=>by simp only[AE.blt,hni,ht,cT]
 |cap=>
  match as with
  | []=>exact g fun Γ2 ρ K=>rfl
  |a::_::_=>exact g fun Γ2 ρ K=>by cases a<;>rfl
  | [a]=>
   cases a with
   |nils=>
    refine Uni.of (bif Ty.isList ((ts.head?.bind cx.T).getD .unit)then some (.val (.int .i64) (0:Int))else none) fun Γ2 hA ρ K=>?_
    rw[run Γ2 hA];simp only[AE.blt];cases Ty.isList ((ts.head?.bind cx.T).getD .unit)<;>rfl
   |_=>exact g fun Γ2 ρ K=>rfl
 |_=>exact g fun Γ2 ρ K=>by unfold AE.blt;split<;>first|rfl|(rename_i h;cases h)|(rename_i h _;cases h)
def j0x(fz:Bool)(lk:Nat→Option Root):(p:PA)→AV→Option p.ty.den
 |.v t,a=>bif fz then f0a t a else g0z lk t a
 |.r _ _,_=>none
theorem k0p{ρ:Type}(Γ:AE)(fz:Bool)(seen:List Nat)(p:PA)(a:AV)(K:p.ty.den→AE→List Nat→List Nat→Rs ρ):
  Γ.arg fz true [] seen p a K=(j0x fz Γ.look p a).elim none fun x=>K x Γ [] (bif fz then seen else a.viewed++seen):=by
 cases p with
 |v t=>
  simp only[AE.arg];rw[show(a.viewed.any fun n=>([]:List Nat).contains n)=false from by simp]
  simp
  cases fz with
  |true=>simp[j0x];rw[o0m];rfl
  |false=>
   simp[j0x];rw[A0w];rfl
 |r c b=>
  cases b with
  |v t=>rfl
  |b t=>
   cases a with
   |ptr n p=>cases p<;>simp[AE.arg,j0x]
   |_=>rfl
  |o e=>
   cases a with
   |sref n p=>cases p<;>simp[AE.arg,j0x]
   |_=>rfl
def AE.argso(Γ:AE)(fz:Bool)(seen:List Nat)(ps:List PA)(as:List AV):Option (c0m (ps.map PA.ty)).den:=Γ.args fz true [] seen ps as fun x _ _=>some x
theorem u0e(Γ:AE)(fz:Bool)(h:List PA):∀{ρ:Type}(as:List AV)(seen:List Nat)(K:(c0m (h.map PA.ty)).den→AE→List Nat→Rs ρ),Γ.args fz true [] seen h as K=(Γ.argso fz seen h as).elim none fun x=>K x Γ []:=by
 induction h with
 |nil=>
  intro ρ as seen K;cases as<;>rfl
 |cons p h ih=>
  intro ρ as seen K;cases as with
  |nil=>cases h<;>rfl
  |cons a as=>
   cases h with
   |nil=>
    cases as with
    |nil=>
     simp[AE.argso,AE.args];rw[k0p,k0p];cases j0x fz Γ.look p a<;>rfl
    |cons=>rfl
   |cons p' h=>
    simp[AE.argso,AE.args];rw[k0p,k0p];cases j0x fz Γ.look p a with
    |none=>rfl
    |some x=>
     simp[a10];rw[ih,ih];cases Γ.argso fz (bif fz then seen else a.viewed++seen) (p'::h) as<;>rfl
theorem x0j{Γ:AE}(fz:Bool)(g:List PA):∀(as:List AV)(seen:List Nat)(x:(c0m (g.map PA.ty)).den),Γ.argso fz seen g as=some x→e0i g=[]:=by
 induction g with
 |nil=>intro as seen x h;rfl
 |cons p g ih=>
  intro as seen x h;cases as with
  |nil=>cases g<;>cases h
  |cons a as=>
   cases g with
   |nil=>
    cases as with
    |nil=>
     simp[AE.argso,AE.args]at h;rw[k0p]at h;cases p with
     |v t=>rfl
     |r c t=>cases h
    |cons=>cases h
   |cons p' g=>
    simp[AE.argso,AE.args]at h;rw[k0p]at h;cases p with
    |r c t=>cases h
    |v t=>
     cases h1:j0x fz Γ.look (.v t) a with
     |none=>simp_all
     |some y=>
      rw[h1]at h;simp at h;rw[u0e]at h;cases h2:Γ.argso fz (bif fz then seen else a.viewed++seen) (p'::g) as with
      |none=>simp_all
      |some z=>exact ih as _ z h2
theorem v0k{Γ:AE}(fz:Bool)(g:List PA):∀(as:List AV)(seen:List Nat),(∀a∈as,∀n∈a.refs,Γ2.look n=Γ.look n)→Γ2.argso fz seen g as=Γ.argso fz seen g as:=by
 have one:∀(p:PA)(a:AV),(∀n∈a.refs,Γ2.look n=Γ.look n)→j0x fz Γ2.look p a=j0x fz Γ.look p a:=fun p a h=>by
  cases p with
  |v t=>simp only[j0x];rw[p0m h]
  |r c t=>rfl
 induction g with
 |nil=>intro as seen h;cases as<;>rfl
 |cons p g ih=>
  intro as seen h;cases as with
  |nil=>cases g<;>rfl
  |cons a as=>
   cases g with
   |nil=>
    cases as with
    |nil=>
     simp_all[AE.argso,AE.args,k0p]
    |cons=>rfl
   |cons p' g=>
    simp[AE.argso,AE.args]
    grind[k0p,u0e]
theorem s0l{ρ:Type}(Γ:AE):∀(ns:List Nat)(K:AE→Rs ρ),Γ.dropAll true [] ns K=bif ns.all fun n=>decide (n<pinned)&&(Γ.rt n).isNone then K Γ else none
 | [],K=>rfl
 |n::r,K=>by
  simp only[AE.dropAll,a12];rw[show(!([]:List Nat).contains n)=true from by simp,Bool.and_true];cases decide (n<pinned);rfl
  ·simp
   cases Γ.rt n with
   |none=>simp_all[s0l]
   |some x=>simp
def d0z:List Nat→List ((r:RA)×r.ty.den)→List (Nat×Root)
 |k::ns,it::its=>match a0v it with
  |some r=>(k,r)::d0z ns its
  |none=>d0z ns its
 |_,_=>[]
theorem j0h:∀(ns:List Nat)(its:List ((r:RA)×r.ty.den)) (n:Nat),find (d0z ns its) n=b0y ns its n
 | [],its,n=>by rfl
 |k::ns,[],n=>rfl
 |k::ns,it::its,n=>by
  simp[d0z,b0y];cases a0v it with
  |none=>simp_all[j0h]
  |some r=>
   simp[find];rw[j0h ns its n]
   grind
theorem m0b:∀(rs:List RA)(n:Nat)(its:List ((r:RA)×r.ty.den)),(∀(k:Nat) it,its[k]?=some it→k<rs.length→rs[k]?=some it.1)→rs.length≤its.length→
  (d0z (b0o rs n++[]) its).map (·.1)=c0v rs n
 | [],n,its,h,hl=>by rfl
 |r::rs,n,[],h,hl=>by simp_all
 |r::rs,n,it::its,h,hl=>by
  have f:=h 0 it rfl (by simp);simp at f;have i:=m0b rs (n+1000) its (fun k g d a=>by simpa using h (k+1) g (by simp_all) (by simp_all)) (by simp_all);obtain⟨c,x⟩:=it;obtain rfl:r=c:=f;simp only[b0o,a47,d0z];cases r with
  |v t=>simp_all[a0v,c0v]
  |o e=>simp_all[a0v,c0v]
  |b t=>simp_all[a0v,c0v]
theorem z0p{ks:List Nat}:AV.deeps [] ks=id:=by
 funext a;cases a<;>simp[AV.deeps]
theorem z0k:∀{it:(r:RA)×r.ty.den},(r0m n it).firm=true→a0v it=none
 |⟨.v t,x⟩,_=>rfl
 |⟨.o e,x⟩,h=>by cases h
 |⟨.b t,x⟩,h=>by cases h
theorem q0j:∀(ns:List Nat)(its:List ((r:RA)×r.ty.den)),(d0q ns its).all AV.firm=true→ns.length=its.length→d0z ns its=[]
 | [],its,_,_=>by rfl
 |k::ns,[],_,h=>by rfl
 |k::ns,it::its,h,hl=>by
  simp only[d0q,a12,bA]at h;simp only[d0z];rw[z0k h.1];exact q0j ns its h.2 (by simpa using hl)
theorem h0y:∀(ns:List Nat)(its:List ((r:RA)×r.ty.den)) (n:Nat),b0y ns its n≠none→n∈ns
 | [],_,n,h=>absurd rfl h
 |_::_,[],n,h=>absurd rfl h
 |k::ns,it::its,n,h=>by
  simp only[b0y]at h;cases hr:a0v it with
  |none=>rw[hr]at h;exact a02 _ (h0y ns its n h)
  |some r=>
   rw[hr]at h;simp only[]at h
   by_cases e:n=k
   subst e;exact a13
   have:(n==k)=false:=by simpa using e
   rw[this]at h;exact a02 _ (h0y ns its n h)
theorem B0y{f:FuncId}(t:o.op=.call c)(z:c.callee=.value (.func f))(hd:o.dst=some d):Uni cx o d Γ:=by
  cases hs:cx.C f with
  |none=>simp_all[Uni.none,aop]
  |some s=>
    let fz:=s.rs.any RA.hasList || (e0i s.ps).any RA.hasList
    let j:=c0v s.rs (d+1000)
    have A:∀a∈c.args.toList.map Γ.opd,∀n∈a.refs,∀Γ2,c0n (a0h o) Γ Γ2→Γ2.look n=Γ.look n:=fun a l n q Γ2 hA=>by
      obtain⟨x,b,rfl⟩:=a17.1 l;exact hA.look (h0b t x b) q
    have run:∀Γ2,c0n (a0h o) Γ Γ2→∀{ρ:Type}(K:AE→Rs ρ),aop cx true o Γ2 K=(match Γ.pd with
        |some _=>none
        |none=>(Γ.argso fz [] s.ps (c.args.toList.map Γ.opd)).elim none fun x=>bif j.all (fun n=>decide (n<pinned)&&(Γ2.rt n).isNone)then(s.F x).bind fun y=>
            (let Γ3:AE:=⟨fun i=>(Γ2.sl i).mapv (AV.deeps [] (Γ2.unbx (brw s.ps []))),fun n=>match b0y (b0o s.rs (d+1000)++[]) (c0r (RA.all s.ps s.rs) y) n with
              |some r=>some r
              |none=>Γ2.rt n,none⟩
             match d0q (b0o s.rs (d+1000)) (c0r (RA.all s.ps s.rs) y)with
              | [v]=>K (Γ3.set d v)
              |vs=>K (Γ3.put d (.cmp .tup vs)))else none):=fun Γ2 hA ρ K=>by
      simp only[aop,t,hd,z,hs,w0u hA t];unfold AE.call;rw[hA.1];cases Γ.pd with
      |some p=>rfl
      |none=>
        simp only[];rw[u0e,v0k _ _ _ _ fun a l n q=>A a l n q Γ2 hA];cases Γ.argso (s.rs.any RA.hasList || (e0i s.ps).any RA.hasList) [] s.ps (c.args.toList.map Γ.opd)with
        |none=>rfl
        |some x=>
          grind[s0l]
    cases hpd:Γ.pd with
    |some p=>simp_all[Uni.none]
    |none=>
      rw[hpd]at run;cases b:Γ.argso fz [] s.ps (c.args.toList.map Γ.opd)with
      |none=>simp_all[Uni.none]
      |some x=>
        cases hy:s.F x with
        |none=>
          simp_all[Uni.none]
        |some y=>
          let h:=c0r (RA.all s.ps s.rs) y
          let ns:=b0o s.rs (d+1000)
          let sv:SV:=match d0q ns h with
            | [v]=>.one v
            |vs=>.cmp .tup vs

          have u:=x0j fz s.ps _ _ x b;have g:RA.all s.ps s.rs=s.rs:=by rw[RA.all,u];simp
          have w:h.length=s.rs.length:=by rw[show h=c0r (RA.all s.ps s.rs) y from rfl,g0b,g]
          have B:(d0z (ns++[]) h).map (·.1)=j:=m0b s.rs (d+1000) h (fun k it D _=>by
            grind[i0z]) (by omega)
          have m:∀n,find (d0z (ns++[]) h) n=b0y (ns++[]) h n:=j0h _ _;refine⟨some ⟨d0z (ns++[]) h,sv⟩,fun δ e=>?_,fun Γ2 hA ρ K=>?_⟩
          grind[h0y,d0y,SV.firm,q0j,i0b]
          · rw[run Γ2 hA,b]
            simp only[a10,hy,oB,n0g];rw[show((d0z (ns++[]) h).all fun p=>decide (p.1<pinned)&&(Γ2.rt p.1).isNone)=j.all fun n=>decide (n<pinned)&&(Γ2.rt n).isNone from by grind[List.all_map]];cases (j.all fun n=>decide (n<pinned)&&(Γ2.rt n).isNone)with
            |false=>rfl
            |true=>
              simp only[cT];have E:∀sv':SV,(⟨fun i=>(Γ2.sl i).mapv (AV.deeps [] (Γ2.unbx (brw s.ps []))),fun n=>match b0y (b0o s.rs (d+1000)++[]) (c0r (RA.all s.ps s.rs) y) n with
                  |some r=>some r
                  |none=>Γ2.rt n,none⟩:AE).put d sv'=(Dl.mk (d0z (ns++[]) h) sv').app d Γ2:=fun sv'=>by
                simp only[AE.put,Dl.app];congr 1;funext i;rw[z0p]
                have:(Γ2.sl i).mapv id=Γ2.sl i:=by cases Γ2.sl i<;>simp[SV.mapv]
                grind
                grind
                all_goals exact(hA.1.trans hpd).symm
              grind[AE.set]
end
section
variable {cx:Cx} {o:Oper} {d:Nat} {Γ:AE}
theorem o0y(hd:o.dst=some d):Uni cx o d Γ:=by
 cases ho:o.op
 case move x=>exact C0a ho hd
 case assign x=>exact z0c ho hd
 case pick x y u=>exact C0b ho hd
 case alloc t=>exact A0o ho hd
 case box t x=>exact D0z ho hd
 case build t x=>exact A0q ho hd
 case buildSlice t n x=>exact s0d ho hd
 case load t x=>exact B0z ho hd
 case nilCheck x=>exact v0d ho hd
 case binOp op t x y s=>exact A0p ho hd
 case unOp op t x=>exact C0c ho hd
 case convert s t x=>exact w0f ho hd
 case makeSlice t x y=>exact t0n ho hd
 case slice t x u v m=>exact A0t ho hd
 case fieldAddr s x f=>exact t0l ho hd
 case field s x f=>exact A0r ho hd
 case indexAddr t x i=>exact t0m ho hd
 case index t x i=>exact A0s ho hd
 case extract x i=>exact w0g ho hd
 case makeFunc fn first caps=>exact v0c ho hd
 case store t x y=>exact Uni.none fun Γ2 hA ρ K=>by simp only[aop,ho,hd,if_true]
 case call c=>
  cases hc:c.callee with
  |builtin b=>exact w0e ho hc hd
  |invoke r n=>exact Uni.none fun Γ2 hA ρ K=>by simp only[aop,ho,hd,hc]
  |value v=>
   cases v with
   |func f=>exact B0y ho hc hd
   |tmp t=>exact Uni.none fun Γ2 hA ρ K=>by simp only[aop,ho,hd,hc,if_true]
   |_=>exact Uni.none fun Γ2 hA ρ K=>by simp only[aop,ho,hd,hc]
 case lookup t x k ok=>
  cases ok with
  |true=>exact Uni.none fun Γ2 hA ρ K=>by simp only[aop,ho,hd,if_true]
  |false=>exact Uni.none fun Γ2 hA ρ K=>by simp only[aop,ho,hd]
 all_goals exact Uni.none fun Γ2 hA ρ K=>by simp only[aop,ho,hd]
theorem B0r(Γ:AE){sv:SV}(h:Γ.sl g=sv):Γ.put g sv=Γ:=by
 obtain⟨k,rt,f⟩:=Γ;simp only[AE.put];congr 1;funext i
 by_cases e:i=g
 subst e;simp only[beq_self_eq_true,cT];exact h.symm
 have:(i==g)=false:=by simpa using e
 simp[this]
theorem b0u{t:Nat}(h:t∈a0h o):t∈o.looksAt ops:=by
 simp only[Oper.looksAt,mA];exact .inl h
theorem p0d{want:Bool}(h:o.guard=some (j,want))(f:f0i ops.toList j=some g):g∈o.looksAt ops:=by
 simp only[Oper.looksAt,mA,h];refine .inr ?_
 have:(ops[j]?).bind (·.dst)=some g:=by simpa[f0i]using f
 rw[this];simp
def a0n(ops:Array Oper)(o:Oper)(Γ:AE):Option Bool:=match o.guard with
 |none=>some true
 |some (j,want)=>match f0i ops.toList j with
  |none=>none
  |some g=>match Γ.get g with
   |.val .bool (b:Bool)=>some (b==want)
   |.skp=>some false
   |_=>none
theorem b0i(Γ:AE)(K:AE→Rs ρ):a0g cx md ops.toList o Γ K=(match a0n ops o Γ with
  |some true=>b0d cx md o Γ K
  |some false=>K (Γ.setD o.dst .skp)
  |none=>none):=by
 unfold a0g a0n;cases hg:o.guard with
 |none=>rfl
 |some p=>
  obtain⟨j,k⟩:=p;simp only[];cases hj:f0i ops.toList j with
  |none=>rfl
  |some g=>
   simp only[];have f:∀(v:AV),v≠.dead→Γ.get g=v→Γ.set g v=Γ:=fun v hv h=>B0r Γ (by
    simp only[AE.get]at h;cases hs:Γ.sl g with
    |one u=>rw[hs]at h;simp only[]at h;rw[h]
    |cmp c0 us=>rw[hs]at h;exact absurd h.symm hv)
   cases hv:Γ.get g with
   |val t b=>
    cases t with
    |bool=>
     have e:Γ.set g (.val .bool b)=Γ:=f _ (by simp) hv;cases b<;>cases k<;>simp[e]
    |_=>rfl
   |skp=>simp
   |_=>rfl
theorem c0b(hd:o.dst=some d)(Γ:AE)(K:AE→Rs ρ):a0g cx md ops.toList o Γ K=(match a0n ops o Γ with
  |some true=>b0d cx md o Γ K
  |some false=>K (Γ.put d (.one .skp))
  |none=>none):=by
 rw[b0i,hd];rfl
theorem b0p{Γ:AE}(h:∀t∈o.looksAt ops,Γ2.sl t=Γ.sl t):a0n ops o Γ2=a0n ops o Γ:=by
 unfold a0n;cases hg:o.guard with
 |none=>rfl
 |some p=>
  obtain⟨j,f⟩:=p;simp only[];cases hj:f0i ops.toList j with
  |none=>rfl
  |some g=>
   simp only[AE.get];rw[h g (p0d hg hj)]
theorem u0q{want:Bool}(f:o.guard=some (j,want))(k:f0i ops.toList j=some g)(h:a0n ops o Γ≠none):(Γ.sl g).firm=true:=by
 unfold a0n at h;rw[f]at h;simp only[k,AE.get]at h;cases hs:Γ.sl g with
 |cmp c0 vs=>rw[hs]at h;exact absurd rfl h
 |one v=>
  rw[hs]at h;cases v<;>first|rfl|exact absurd rfl h
def l0q(T:List Nat)(Γ Γ2:AE):Prop:=Γ2.pd=Γ.pd∧∀t∈T,Γ2.sl t=Γ.sl t∧∀n∈(Γ.sl t).refs,Γ2.rt n=Γ.rt n
theorem l0q.sub{Γ:AE}(h:l0q (o.looksAt ops) Γ Γ2):c0n (a0h o) Γ Γ2:=⟨h.1,fun t g=>h.2 t (b0u g)⟩
theorem s0r{α:Type}{l:List (Nat×α)}:find l n=none↔∀p∈l,p.1≠n:=by
 induction l with
 |nil=>simp[find]
 |cons p l ih=>
  obtain⟨k,x⟩:=p;simp only[find,mC,forall_eq_or_imp]
  by_cases e:k=n
  subst e;simp
  have:(k==n)=false:=by simpa using e
  simp only[this,cF,ih,ne_eq,e,not_false_eq_true,true_and]
theorem k0x{ρ:Type}{r:Option Dl}{Γ2:AE}{K:AE→Rs ρ}{z:ρ}(h:n0g r d Γ2 K=some z):∃δ,r=some δ∧(∀n,find δ.rs n≠none→Γ2.rt n=none)∧K (δ.app d Γ2)=some z∧(δ.rs.all fun p=>decide (p.1<pinned))=true:=by
 cases r with
 |none=>cases h
 |some δ=>
  simp only[n0g]at h;obtain⟨g,h⟩:=(a0b h).elim id fun h=>by cases h.2
  refine⟨δ,rfl,fun n k=>?_,h,?_⟩
  by_cases e:∃p∈δ.rs,p.1=n
  obtain⟨p,hp,rfl⟩:=e
  have:=lA.1 g p hp
  simp only[bA,a22]at this;exact this.2;exact absurd (s0r.2 fun p hp f=>e ⟨p,hp,f⟩) k;refine lA.2 fun p hp=>?_
  have:=lA.1 g p hp
  simp only[bA]at this;exact this.1
theorem o0u{ρ:Type}{δ:Dl}{Γ2:AE}{K:AE→Rs ρ}(h:(δ.rs.all fun p=>decide (p.1<pinned))=true)(g:∀n,find δ.rs n≠none→Γ2.rt n=none):n0g (some δ) d Γ2 K=K (δ.app d Γ2):=by
 simp only[n0g];rw[show(δ.rs.all fun p=>decide (p.1<pinned)&&(Γ2.rt p.1).isNone)=true from lA.2 fun p hp=>by
  have a:=lA.1 h p hp;have b:=g p.1 fun e=>s0r.1 e p hp rfl;simp[b]at a⊢;exact a]
 rfl
theorem n0r(h:v.firm=true):v.refs=[]:=by cases v<;>first|rfl|cases h
theorem f0o{sv:SV}(h:sv.firm=true):sv.refs=[]:=by
 cases sv with
 |one v=>exact n0r h
 |cmp c0 vs=>
  simp only[SV.refs,List.flatMap_eq_nil_iff];exact fun v hv=>n0r (lA.1 h v hv)
theorem m0m{sv:SV}(h:sv.firm=true):sv.alive=true:=by
 have one:∀v:AV,v.firm=true→v.alive=true:=fun v h=>by cases v<;>first|rfl|cases h
 cases sv with
 |one v=>exact one v h
 |cmp c0 vs=>exact lA.2 fun v hv=>one v (lA.1 h v hv)
def a0x(ops:Array Oper)(o:Oper):List Nat:=match o.guard with
 |none=>[]
 |some (j,_)=>(f0i ops.toList j).toList
theorem b0e{t:Nat}(h:t∈a0x ops o):t∈o.looksAt ops:=by
 unfold a0x at h;cases hg:o.guard with
 |none=>rw[hg]at h;cases h
 |some p=>
  obtain⟨j,g⟩:=p;rw[hg]at h;exact p0d hg (by simpa using h)
theorem a0y{Γ:AE}(h:∀t∈a0x ops o,Γ2.sl t=Γ.sl t):a0n ops o Γ2=a0n ops o Γ:=by
 unfold a0n;unfold a0x at h;cases hg:o.guard with
 |none=>rfl
 |some p=>
  obtain⟨j,f⟩:=p;rw[hg]at h;simp only[]at h⊢;cases hj:f0i ops.toList j with
  |none=>rfl
  |some g=>
   rw[hj]at h;simp only[AE.get];rw[h g (by simp)]
theorem d0f(h:a0n ops o Γ≠none):∀t∈a0x ops o,(Γ.sl t).firm=true:=by
 intro t g;unfold a0x at g;cases hg:o.guard with
 |none=>rw[hg]at g;cases g
 |some p=>
  obtain⟨j,f⟩:=p;rw[hg]at g;exact u0q hg (by simpa using g) h
theorem E0x{ρ:Type}{ops:Array Oper}(hd:o.dst=some d){K:AE→Rs ρ}{z:ρ}(a:a0g cx .q ops.toList o Γ K=some z):
  ∃(δ:Dl)(L:List Nat),(∀t∈L,t∈o.looksAt ops∧∀n∈(Γ.sl t).refs,Γ.rt n≠none)∧K (δ.app d Γ)=some z∧(∀n,find δ.rs n≠none→Γ.rt n=none)∧
   ∀Γ2,l0q L Γ Γ2→(∀n,find δ.rs n≠none→Γ2.rt n=none)→∀{ρ2:Type}(K2:AE→Rs ρ2),a0g cx .q ops.toList o Γ2 K2=K2 (δ.app d Γ2):=by
 rw[c0b hd]at a;cases hl:a0n ops o Γ with
 |none=>rw[hl]at a;cases a
 |some b=>
  have j:=d0f (ops:=ops) (Γ:=Γ) (o:=o) (by rw[hl];simp);have i:∀t∈a0x ops o,t∈o.looksAt ops∧∀n∈(Γ.sl t).refs,Γ.rt n≠none:=fun t g=>⟨b0e g,fun n f=>by rw[f0o (j t g)]at f;cases f⟩;rw[hl]at a;cases b with
  |false=>
   refine⟨⟨[],.one .skp⟩,a0x ops o,i,a,fun n f=>absurd rfl f,fun Γ2 hA _ ρ2 K2=>?_⟩;rw[c0b hd,a0y fun t g=>(hA.2 t g).1,hl];rfl
  |true=>
   simp only[b0d,hd]at a;obtain⟨v,a⟩:=(a0b a).elim id fun h=>by cases h.2
   have k:∀t∈a0h o,∀n∈(Γ.sl t).refs,Γ.rt n≠none:=fun t g n f=>by
    obtain⟨x,l,e⟩:=a14.1 g
    have:=lA.1 v x l
    cases x with
    |tmp t'=>
     simp only[sj]at e;subst e
     have:=lA.1 this n f
     exact a11.1 this
    |_=>cases e
   obtain⟨r,w,m⟩:=o0y (cx:=cx) (Γ:=Γ) hd;rw[m Γ c0n.refl]at a;obtain⟨δ,rfl,p,s,u⟩:=k0x a;refine⟨δ,a0h o++a0x ops o,fun t g=>?_,s,p,fun Γ2 hA f ρ2 K2=>?_⟩;rcases mA.1 g with g|g;exact⟨b0u g,k t g⟩;exact i t g
   ·rw[c0b hd,a0y fun t g=>(hA.2 t (a04 _ g)).1,hl];simp only[b0d,hd];have c:c0n (a0h o) Γ Γ2:=⟨hA.1,fun t g=>hA.2 t (a06 _ g)⟩;refine(congrArg (fun b=>bif b then _ else none) (lA.2 fun x l=>?_)).trans ?_
    ·cases x with
     |tmp t=>
      simp only[];have g:=c0a l;refine lA.2 fun n f=>?_
      rw[(c.2 t g).1]at f;rw[(c.2 t g).2 n f];exact a11.2 (k t g n f)
     |_=>rfl
    simp only[cT];rw[m Γ2 c];exact o0u u f
theorem r0n(h:v.firm=true):v.calm=true:=by
 cases v with
 |ptr n p=>cases h
 |_=>exact h
theorem e0u{sv:SV}(h:sv.firm=true):sv.calm=true:=by
 cases sv with
 |one v=>exact r0n h
 |cmp c vs=>exact h
theorem l0j{Γ:AE}(h:∀t∈a0h o,Γ2.sl t=Γ.sl t):i0s o Γ2=i0s o Γ:=by
 unfold i0s;split
 ·rename_i x g;cases x with
  |tmp t=>simp only[o0s,h t (by simp[a0h,g,Op.operands])]
  |_=>rfl
 ·rename_i x g;cases x with
  |tmp t=>simp only[o0s,h t (by simp[a0h,g,Op.operands])]
  |_=>rfl
 rfl
theorem t0x{ρ:Type}{ops:Array Oper}(hd:o.dst=some d){K:AE→Rs ρ}{z:ρ}(k:a0g cx .v ops.toList o Γ K=some z):
  ∃(sv:SV)(L:List Nat),sv.calm=true∧(∀t∈L,t∈o.looksAt ops∧(Γ.sl t).calm=true)∧K (Γ.put d sv)=some z∧
   ∀Γ2,Γ2.pd=Γ.pd→(∀t∈L,Γ2.sl t=Γ.sl t)→∀{ρ2:Type}(K2:AE→Rs ρ2),a0g cx .v ops.toList o Γ2 K2=K2 (Γ2.put d sv):=by
 rw[c0b hd]at k;cases hl:a0n ops o Γ with
 |none=>rw[hl]at k;cases k
 |some b=>
  have l:=d0f (ops:=ops) (Γ:=Γ) (o:=o) (by rw[hl];simp);rw[hl]at k;cases b with
  |false=>
   refine⟨.one .skp,a0x ops o,rfl,fun t g=>⟨b0e g,e0u (l t g)⟩,k,fun Γ2 _ hA ρ2 K2=>?_⟩;rw[c0b hd,a0y hA,hl]
  |true=>
   simp only[b0d,hd]at k;cases hp:i0s o Γ with
   |some n=>
    rw[hp]at k;obtain⟨t,c,hs,m⟩:=m0u hp;have B:t∈a0h o:=by
     rcases c with c|c<;>simp[a0h,c,Op.operands]
    have j:(Γ.sl t).calm=true:=by rw[hs];simpa[SV.calm,AV.calm]using m
    refine⟨.one (.ptr n []),[t]++a0x ops o,by simpa[SV.calm,AV.calm]using m,fun e g=>?_,k,fun Γ2 hpd hA ρ2 K2=>?_⟩;rcases mA.1 g with g|g;obtain rfl:e=t:=by simpa using g
    exact⟨b0u B,j⟩;exact⟨b0e g,e0u (l e g)⟩;rw[c0b hd,a0y fun e g=>hA e (a04 _ g),hl];simp only[b0d,hd];rw[l0j (fun e A=>by
     have:e=t:=by rcases c with c|c<;>simpa[a0h,c,Op.operands]using A
     subst this;exact hA e (by simp)),hp]
   |none=>
   rw[hp]at k;simp only[]at k;obtain⟨E,k⟩:=(a0b k).elim id fun h=>by cases h.2
   have f:∀t∈a0h o,(Γ.sl t).firm=true:=fun t g=>by
    obtain⟨x,s,p⟩:=a14.1 g
    have:=lA.1 E x s
    cases x with
    |tmp e=>simp only[sj]at p;subst p;exact this
    |_=>cases p
   obtain⟨r,y,C⟩:=o0y (cx:=cx) (Γ:=Γ) hd;rw[C Γ c0n.refl]at k;obtain⟨δ,rfl,F,u,D⟩:=k0x k;obtain⟨hf,u⟩:=(a0b u).elim id fun h=>by cases h.2
   have a:δ.sv.firm=true:=by simpa[Dl.app]using hf
   have q:=(y δ rfl).1 a;obtain⟨G,sv⟩:=δ;simp only at q a;subst q;refine⟨sv,a0h o++a0x ops o,e0u a,fun t g=>?_,u,fun Γ2 hpd hA ρ2 K2=>?_⟩;rcases mA.1 g with g|g;exact⟨b0u g,e0u (f t g)⟩;exact⟨b0e g,e0u (l t g)⟩
   ·rw[c0b hd,a0y fun t g=>hA t (a04 _ g),hl];simp only[b0d,hd];have i:∀t∈a0h o,Γ2.sl t=Γ.sl t:=fun t g=>hA t (a06 _ g);have w:c0n (a0h o) Γ Γ2:=⟨hpd,fun t g=>⟨i t g,fun n m=>by rw[f0o (f t g)]at m;cases m⟩⟩;rw[l0j i,hp];simp only[];refine(congrArg (fun b=>bif b then _ else none) (lA.2 fun x s=>?_)).trans ?_
    ·cases x with
     |tmp t=>
      simp only[];rw[i t (c0a s)];exact f t (c0a s)
     |_=>rfl
    simp only[cT];rw[C Γ2 w,o0u D (fun n m=>absurd rfl m)];show(bif (((Dl.mk [] sv).app d Γ2).sl d).firm then K2 ((Dl.mk [] sv).app d Γ2)else none)=_;rw[show((Dl.mk [] sv).app d Γ2).sl d=sv from by simp[Dl.app],a];rfl
theorem y0p{ρ:Type}{ops:Array Oper}(hd:o.dst=some d){K:AE→Rs ρ}{z:ρ}(g:a0g cx .p ops.toList o Γ K=some z):
  ∃(sv:SV)(L:List Nat),sv.calm=true∧(∀t∈L,t∈o.looksAt ops∧(Γ.sl t).calm=true)∧K (Γ.put d sv)=some z∧
   ∀Γ2,(∀t∈L,Γ2.sl t=Γ.sl t)→∀{ρ2:Type}(K2:AE→Rs ρ2),a0g cx .p ops.toList o Γ2 K2=K2 (Γ2.put d sv):=by
 rw[c0b hd]at g;cases hl:a0n ops o Γ with
 |none=>rw[hl]at g;cases g
 |some b=>
  have c:=d0f (ops:=ops) (Γ:=Γ) (o:=o) (by rw[hl];simp);rw[hl]at g;cases b with
  |false=>
   refine⟨.one .skp,a0x ops o,rfl,fun t h=>⟨b0e h,e0u (c t h)⟩,g,fun Γ2 hA ρ2 K2=>?_⟩;rw[c0b hd,a0y hA,hl]
  |true=>
   simp only[b0d,hd]at g;cases hp:i0s o Γ with
   |none=>rw[hp]at g;cases g
   |some n=>
    rw[hp]at g;obtain⟨t,f,hs,j⟩:=m0u hp;have i:t∈a0h o:=by
     rcases f with f|f<;>simp[a0h,f,Op.operands]
    have k:(Γ.sl t).calm=true:=by rw[hs];simpa[SV.calm,AV.calm]using j
    refine⟨.one (.ptr n []),[t]++a0x ops o,by simpa[SV.calm,AV.calm]using j,fun a h=>?_,g,fun Γ2 hA ρ2 K2=>?_⟩;rcases mA.1 h with h|h;obtain rfl:a=t:=by simpa using h
    exact⟨b0u i,k⟩;exact⟨b0e h,e0u (c a h)⟩;rw[c0b hd,a0y fun a h=>hA a (a04 _ h),hl];simp only[b0d,hd];rw[l0j (fun a e=>by
     have:a=t:=by rcases f with f|f<;>simpa[a0h,f,Op.operands]using e
     subst this;exact hA a (by simp)),hp]
theorem y0o(h:∀t,x=.tmp t→(Γ.sl t).firm=true):(Γ.opd x).refs=[]:=by
 cases x with
 |tmp t=>
  have:=h t rfl
  simp only[AE.opd,AE.get];cases hs:Γ.sl t with
  |one v=>rw[hs]at this;exact n0r this
  |cmp c vs=>rfl
 |const v=>simp only[AE.opd,i0e];split<;>rfl
 |_=>rfl
theorem s0s(h:v.refs=[]):(cx.glob v).refs=[]:=by
 cases v with
 |glob g=>simp only[Cx.glob];cases cx.G.g g<;>rfl
 |_=>exact h
theorem C0y(h:a.refs=[]){ty:Ty}(x:Option (Nat×a0l×Nat))(K:AV→AE→Rs ρ):AE.lodK { Γ with pd:=x } q ty a K=Γ.lodK q ty a fun v Γ'=>K v { Γ' with pd:=x }:=by
 cases a with
 |ptr n p=>cases h
 |_=>rfl
theorem A0z(h:a.refs=[]){ty:Option Ty}{i:Int}(x:Option (Nat×a0l×Nat))(K:AV→Rs ρ):AE.addrK { Γ with pd:=x } ty a i K=Γ.addrK ty a i K:=by
 cases a with
 |ptr n p=>cases h
 |sref n p=>cases h
 |swin n p o l=>cases h
 |val t y=>cases t with
  |list o e=>cases o<;>rfl
  |_=>rfl
 |vptr t y=>cases t<;>rfl
 |_=>rfl
theorem D0c(hp:u0v o=true)(hd:o.dst=some d)(h:∀x∈o.op.operands.toList,(Γ.opd x).refs=[])(x:Option (Nat×a0l×Nat))(K:AE→Rs ρ):aop cx true o { Γ with pd:=x } K=aop cx true o Γ fun Γ'=>K { Γ' with pd:=x }:=by
 cases ho:o.op with
 |move y=>simp only[aop,ho,hd];cases y<;>rfl
 |binOp op ty y z s=>simp only[aop,ho,hd];rfl
 |unOp op t y=>simp only[aop,ho,hd];rfl
 |pick c a b=>simp only[aop,ho,hd];rfl
 |load t a=>
  simp only[aop,ho,hd];cases cx.T t with
  |none=>rfl
  |some t=>exact C0y (s0s (h a (by simp[ho,Op.operands]))) x _
 |fieldAddr s y f=>simp only[aop,ho,hd];rfl
 |indexAddr t y i=>
  simp only[aop,ho,hd];show(match Γ.opd i with|.val (.int _) (i:Int)=>AE.addrK { Γ with pd:=x } (cx.T t) (cx.glob (Γ.opd y)) i _|_=>none)=_;simp only[A0z (s0s (h y (by simp[ho,Op.operands])))];rfl
 |index s y i=>simp only[aop,ho,hd];rfl
 |_=>simp[u0v,ho]at hp
theorem o0x{ρ:Type}{ops:Array Oper}(hd:o.dst=some d){K:AE→Rs ρ}{z:ρ}(k:a0g cx .u ops.toList o Γ K=some z):
  ∃(sv:SV)(L:List Nat),sv.calm=true∧(∀t∈L,t∈o.looksAt ops∧(Γ.sl t).calm=true)∧K (Γ.put d sv)=some z∧
   ∀Γ2,(∀t∈L,Γ2.sl t=Γ.sl t)→∀{ρ2:Type}(K2:AE→Rs ρ2),a0g cx .u ops.toList o Γ2 K2=K2 (Γ2.put d sv):=by
 rw[c0b hd]at k;cases hl:a0n ops o Γ with
 |none=>rw[hl]at k;cases k
 |some b=>
  have l:=d0f (ops:=ops) (Γ:=Γ) (o:=o) (by rw[hl];simp);rw[hl]at k;cases b with
  |false=>
   refine⟨.one .skp,a0x ops o,rfl,fun t f=>⟨b0e f,e0u (l t f)⟩,k,fun Γ2 hA ρ2 K2=>?_⟩;rw[c0b hd,a0y hA,hl]
  |true=>
   simp only[b0d,hd]at k;obtain⟨v,k⟩:=(a0b k).elim id fun h=>by cases h.2
   obtain⟨hp,v⟩:=a03.1 v;have g:∀t∈a0h o,(Γ.sl t).firm=true:=fun t f=>by
    obtain⟨x,i,j⟩:=a14.1 f
    have:=lA.1 v x i
    cases x with
    |tmp t'=>simp only[sj]at j;subst j;exact this
    |_=>cases j
   obtain⟨r,w,A⟩:=o0y (cx:=cx) (Γ:=Γ) hd;rw[A Γ c0n.refl]at k;obtain⟨δ,rfl,C,q,B⟩:=k0x k;obtain⟨hf,q⟩:=(a0b q).elim id fun h=>by cases h.2
   have a:δ.sv.firm=true:=by simpa[Dl.app]using hf
   have m:=(w δ rfl).1 a;obtain⟨D,sv⟩:=δ;simp only at m a;subst m;refine⟨sv,a0h o++a0x ops o,e0u a,fun t f=>?_,q,fun Γ2 hA ρ2 K2=>?_⟩;rcases mA.1 f with f|f;exact⟨b0u f,e0u (g t f)⟩;exact⟨b0e f,e0u (l t f)⟩
   ·rw[c0b hd,a0y fun t f=>hA t (a04 _ f),hl];simp only[b0d,hd];have c:∀t∈a0h o,Γ2.sl t=Γ.sl t:=fun t f=>hA t (a06 _ f);have s:c0n (a0h o) Γ { Γ2 with pd:=Γ.pd }:=⟨rfl,fun t f=>⟨c t f,fun n p=>by rw[f0o (g t f)]at p;cases p⟩⟩;refine(congrArg (fun b=>bif b then _ else none) (a03.2 ⟨hp,lA.2 fun x i=>?_⟩)).trans ?_
    ·cases x with
     |tmp t=>
      simp only[];rw[c t (c0a i)];exact g t (c0a i)
     |_=>rfl
    simp only[cT];have y:∀x∈o.op.operands.toList,(AE.opd { Γ2 with pd:=Γ.pd } x).refs=[]:=fun x i=>y0o fun t e=>by
     subst e;exact(congrArg SV.firm (c t (c0a i))).trans (g t (c0a i))
    refine(D0c (Γ:={ Γ2 with pd:=Γ.pd }) hp hd y Γ2.pd _).trans ?_
    rw[A _ s,o0u B (fun n p=>absurd rfl p)];show(bif (((Dl.mk [] sv).app d Γ2).sl d).firm then K2 ((Dl.mk [] sv).app d Γ2)else none)=_;rw[show((Dl.mk [] sv).app d Γ2).sl d=sv from by simp[Dl.app],a];rfl
theorem e0g{a:List Nat}(h:j0i a b=true)(g:n∈a):n∈b:=by
 have:=lA.1 h n g
 simpa using this
theorem y0v{ρ:Type}{ops:Array Oper}{ns:List Nat}(hd:o.dst=some d){K:AE→Rs ρ}{z:ρ}(c:a0g cx (.r ns) ops.toList o Γ K=some z):
  ∃(δ:Dl)(L:List Nat),(∀t∈L,t∈o.looksAt ops∧(Γ.sl t).alive=true∧∀n∈(Γ.sl t).refs,Γ.rt n≠none∧n∈ns)∧K (δ.app d Γ)=some z∧(∀n,find δ.rs n≠none→Γ.rt n=none∧n∈ns)∧(∀n∈δ.sv.refs,n∈ns)∧
   ∀Γ2,l0q L Γ Γ2→(∀n,find δ.rs n≠none→Γ2.rt n=none)→∀{ρ2:Type}(K2:AE→Rs ρ2),a0g cx (.r ns) ops.toList o Γ2 K2=K2 (δ.app d Γ2):=by
 rw[c0b hd]at c;cases hl:a0n ops o Γ with
 |none=>rw[hl]at c;cases c
 |some b=>
  have l:=d0f (ops:=ops) (Γ:=Γ) (o:=o) (by rw[hl];simp);have m:∀t∈a0x ops o,t∈o.looksAt ops∧(Γ.sl t).alive=true∧∀n∈(Γ.sl t).refs,Γ.rt n≠none∧n∈ns:=fun t g=>⟨b0e g,m0m (l t g),fun n f=>by rw[f0o (l t g)]at f;cases f⟩;rw[hl]at c;cases b with
  |false=>
   refine⟨⟨[],.one .skp⟩,a0x ops o,m,c,fun n f=>absurd rfl f,fun n f=>(by cases f),fun Γ2 hA _ ρ2 K2=>?_⟩;rw[c0b hd,a0y fun t g=>(hA.2 t g).1,hl];rfl
  |true=>
   simp only[b0d,hd]at c;obtain⟨u,c⟩:=(a0b c).elim id fun h=>by cases h.2
   obtain⟨u,p⟩:=a03.1 u;have k:∀t∈a0h o,(Γ.sl t).alive=true∧∀n∈(Γ.sl t).refs,Γ.rt n≠none∧n∈ns:=fun t g=>by
    obtain⟨x,y,i⟩:=a14.1 g
    have:=lA.1 u x y
    cases x with
    |tmp t'=>
     simp only[sj]at i;subst i;obtain⟨q,j⟩:=a03.1 this;refine⟨q,fun n f=>?_⟩;obtain⟨s,B⟩:=a03.1 (lA.1 j n f);exact⟨a11.1 s,by simpa using B⟩
    |_=>cases i
   obtain⟨r,v,A⟩:=o0y (cx:=cx) (Γ:=Γ) hd;rw[A Γ c0n.refl]at c;obtain⟨δ,rfl,q,j,s⟩:=k0x c;obtain⟨a,j⟩:=(a0b j).elim id fun h=>by cases h.2
   have w:(δ.app d Γ).sl d=δ.sv:=by simp[Dl.app]
   rw[w]at a;refine⟨δ,a0h o++a0x ops o,fun t g=>?_,j,fun n f=>⟨q n f,?_⟩,fun n f=>e0g a f,fun Γ2 hA f ρ2 K2=>?_⟩;rcases mA.1 g with g|g;exact⟨b0u g,k t g⟩;exact m t g
   have:=(v δ rfl).2 n f
   refine e0g p ?_
   rwa [show(some d).getD 0=d from rfl]
   ·rw[c0b hd,a0y fun t g=>(hA.2 t (a04 _ g)).1,hl];simp only[b0d,hd];have e:c0n (a0h o) Γ Γ2:=⟨hA.1,fun t g=>hA.2 t (a06 _ g)⟩;refine(congrArg (fun b=>bif b then _ else none) (a03.2 ⟨lA.2 fun x y=>?_,p⟩)).trans ?_
    ·cases x with
     |tmp t=>
      simp only[];have g:=c0a y;have hs:=(e.2 t g).1;refine a03.2 ⟨by rw[hs];exact(k t g).1,lA.2 fun n f=>?_⟩;rw[hs]at f;rw[(e.2 t g).2 n f];exact a03.2 ⟨a11.2 ((k t g).2 n f).1,by simpa using((k t g).2 n f).2⟩
     |_=>rfl
    simp only[cT];rw[A Γ2 e,o0u s f];show(bif j0i ((δ.app d Γ2).sl d).refs ns then K2 (δ.app d Γ2)else none)=_;rw[show(δ.app d Γ2).sl d=δ.sv from by simp[Dl.app],a];rfl
def tyq(o:Option Root):Option Ty:=o.map (·.t)
theorem B0x{a b:Option Root}(h:tyq a=tyq b):a.isSome=b.isSome:=by cases a<;>cases b<;>first|rfl|cases h
def scq(o:Option Root):Option (Ty×(a0l→Option AV)):=o.map fun r=>(r.t,r.scal)
theorem o0f{a b:Option Root}(h:scq a=scq b):tyq a=tyq b:=by
 have:=congrArg (Option.map Prod.fst) h
 cases a<;>cases b<;>first|rfl|cases this|exact this
theorem l0k(h:∀t,x=.tmp t→Γ2.sl t=Γ.sl t∧∀n∈(Γ.sl t).refs,tyq (Γ2.rt n)=tyq (Γ.rt n)):Γ2.ptrTy x=Γ.ptrTy x:=by
 cases x with
 |tmp t=>
  obtain⟨f,g⟩:=h t rfl;simp only[AE.ptrTy,f];generalize Γ.sl t=sv at g;split;rename_i n p
  have:=g n (by simp[SV.refs,AV.refs])
  cases h3:Γ.rt n<;>cases h4:Γ2.rt n<;>rw[h3,h4]at this<;>first|rfl|cases this|skip
  rename_i r r2;simp only[tyq,a15,sj]at this;simp only[this];rfl
 |_=>rfl
theorem y0z(h:∀t∈a0h o,Γ2.sl t=Γ.sl t∧∀n∈(Γ.sl t).refs,tyq (Γ2.rt n)=tyq (Γ.rt n)):Γ2.stay cx o=Γ.stay cx o:=by
 unfold AE.stay;split
 ·rename_i t g;obtain⟨e,d⟩:=h t (by simp[a0h,g,Op.operands]);rw[e];generalize Γ.sl t=sv at d;cases sv with
  |one v=>
   simp only[]
   have:(v.refs.all fun n=>(Γ2.rt n).isSome)=v.refs.all fun n=>(Γ.rt n).isSome:=by
    have k:∀n∈v.refs,tyq (Γ2.rt n)=tyq (Γ.rt n):=d;generalize v.refs=l at k
    induction l with
    |nil=>rfl
    |cons a l ih=>simp only[a12];rw[B0x (k a (by simp)),ih fun n i=>k n (by simp[i])]
   rw[this]
  |cmp c vs=>rfl
 rename_i s x f g;rw[l0k (Γ:=Γ) (x:=x) fun t b=>h t (by subst b;simp[a0h,g,Op.operands])];rename_i s x g;rw[l0k (Γ:=Γ) (x:=x) fun t b=>h t (by subst b;simp[a0h,g,Op.operands])];rfl
theorem z0a(hs:Γ.stay cx o=some v)(hv:v.still=true):∀t∈a0h o,(Γ.sl t).still=true∧∀n∈(Γ.sl t).refs,Γ.rt n≠none:=by
 have d:∀(t:Nat)(n:Nat)(p:a0l)(r:Root),Γ.sl t=.one (.ptr n p)→Γ.rt n=some r→p.all Step.isField=true→(Γ.sl t).still=true∧∀n∈(Γ.sl t).refs,Γ.rt n≠none:=fun t n p r a b i=>by
  rw[a];refine⟨i,fun m l=>?_⟩
  have:m=n:=by simpa[SV.refs,AV.refs]using l
  subst this;rw[b];simp
 unfold AE.stay at hs
 split at hs
 rename_i t c
 split at hs
 rename_i u w;obtain⟨j,hs⟩:=(a0b hs).elim id fun h=>by cases h.2
 cases hs;obtain⟨-,j⟩:=a03.1 j;intro k g;obtain rfl:k=t:=by simpa[a0h,c,Op.operands]using g
 rw[w];exact⟨hv,fun n q=>a11.1 (lA.1 j n q)⟩;cases hs;rename_i s x f c
 split at hs
 rename_i n p τ hp;obtain⟨t,r,rfl,a,b,i⟩:=d0p hp
 split at hs
 cases hs;intro k g;obtain rfl:k=t:=by simpa[a0h,c,Op.operands]using g
 exact d k n p r a b (by simp only[AV.still,a50,bA]at hv;exact hv.1);cases hs;cases hs;rename_i s x c
 split at hs
 rename_i n p e hp;obtain⟨t,r,rfl,a,b,i⟩:=d0p hp
 split at hs
 obtain⟨-,hs⟩:=(a0b hs).elim id fun h=>by cases h.2
 cases hs;intro k g;obtain rfl:k=t:=by simpa[a0h,c,Op.operands]using g
 exact d k n p r a b hv;cases hs;cases hs;cases hs
theorem y0a{sv:SV}(h:sv.firm=true):sv.still=true:=by
 cases sv with
 |one v=>cases v<;>first|rfl|cases h
 |cmp c vs=>exact h
theorem y0x{ρ:Type}{ops:Array Oper}(hd:o.dst=some d){K:AE→Rs ρ}{z:ρ}(f:a0g cx .s ops.toList o Γ K=some z):
  ∃(sv:SV)(L:List Nat),sv.still=true∧(∀t∈L,t∈o.looksAt ops∧(Γ.sl t).still=true∧∀n∈(Γ.sl t).refs,Γ.rt n≠none)∧K (Γ.put d sv)=some z∧
   ∀Γ2,(∀t∈L,Γ2.sl t=Γ.sl t∧∀n∈(Γ.sl t).refs,tyq (Γ2.rt n)=tyq (Γ.rt n))→(Γ.pdElem=true→Γ2.pdElem=true)→∀{ρ2:Type}(K2:AE→Rs ρ2),a0g cx .s ops.toList o Γ2 K2=K2 (Γ2.put d sv):=by
 rw[c0b hd]at f;cases hl:a0n ops o Γ with
 |none=>rw[hl]at f;cases f
 |some b=>
  have k:=d0f (ops:=ops) (Γ:=Γ) (o:=o) (by rw[hl];simp);have a:∀t∈a0x ops o,t∈o.looksAt ops∧(Γ.sl t).still=true∧∀n∈(Γ.sl t).refs,Γ.rt n≠none:=fun t g=>⟨b0e g,y0a (k t g),fun n i=>by rw[f0o (k t g)]at i;cases i⟩;rw[hl]at f;cases b with
  |false=>
   refine⟨.one .skp,a0x ops o,rfl,a,f,fun Γ2 hA _ ρ2 K2=>?_⟩;rw[c0b hd,a0y fun t g=>(hA t g).1,hl]
  |true=>
   simp only[b0d,hd]at f;cases hs:Γ.stay cx o with
   |none=>rw[hs]at f;cases f
   |some v=>
    rw[hs]at f;obtain⟨j,f⟩:=(a0b f).elim id fun h=>by cases h.2
    obtain⟨hv,c⟩:=a03.1 j;have e:=z0a hs hv;refine⟨.one v,a0h o++a0x ops o,hv,fun t g=>?_,f,fun Γ2 hA hp ρ2 K2=>?_⟩;rcases mA.1 g with g|g;exact⟨b0u g,e t g⟩;exact a t g;rw[c0b hd,a0y fun t g=>(hA t (a04 _ g)).1,hl];simp only[b0d,hd];rw[y0z fun t g=>hA t (a06 _ g),hs];simp only[hv,hp c,a26,cT]
theorem y0q(h:∀t∈a0h o,Γ2.sl t=Γ.sl t∧∀n∈(Γ.sl t).refs,scq (Γ2.rt n)=scq (Γ.rt n)):Γ2.peek cx o=Γ.peek cx o:=by
 have hp:∀x∈o.op.operands.toList,Γ2.ptrTy x=Γ.ptrTy x:=fun x a=>l0k fun t i=>by
  subst i
  have:=h t (c0a a)
  exact⟨this.1,fun n d=>o0f (this.2 n d)⟩
 unfold AE.peek;split;rename_i s x f g;rw[hp x (by simp[g,Op.operands])]
 ·rename_i s x g;rw[hp x (by simp[g,Op.operands])];cases a:Γ.ptrTy x with
  |none=>rfl
  |some y=>
   obtain⟨n,p,τ⟩:=y;obtain⟨t,r,rfl,b,c,j⟩:=d0p a
   have:=(h t (by simp[a0h,g,Op.operands])).2 n (by rw[b];simp[SV.refs,AV.refs])
   cases τ with
   |int k=>
    simp only[];rw[c]at this⊢;cases e:Γ2.rt n with
    |none=>rw[e]at this;cases this
    |some r2=>
     rw[e]at this;simp only[scq,a15,sj,pJ]at this;simp only[this.2]
   |_=>rfl
 rfl
theorem y0r(hs:Γ.peek cx o=some v):∀t∈a0h o,∃n p r τ,Γ.sl t=.one (.ptr n p)∧Γ.rt n=some r∧tyF r.t p=some τ:=by
 unfold AE.peek at hs
 split at hs
 rename_i s x f c
 split at hs
 rename_i n p τ hp;obtain⟨t,r,rfl,g,a,b⟩:=d0p hp;intro d h;obtain rfl:d=t:=by simpa[a0h,c,Op.operands]using h
 exact⟨n,p,r,τ,g,a,b⟩;cases hs;rename_i s x c
 split at hs
 rename_i n p k hp;obtain⟨t,r,rfl,g,a,b⟩:=d0p hp;intro d h;obtain rfl:d=t:=by simpa[a0h,c,Op.operands]using h
 exact⟨n,p,r,_,g,a,b⟩;cases hs;cases hs
theorem p0f:∀(f:Nat)(t:Ty),c0k t f=true→∃τ,tyF t (b0l f)=some τ
 |0,.pair a b,_=>⟨a,by simp[b0l,tyF]⟩
 |f+1,.pair a b,h=>p0f f b h
 |0,.unit,h|0,.int _,h|0,.bool,h|0,.str,h|0,.list _ _,h|0,.arr _ _,h|0,.nl _,h|0,.fn _,h|0,.hd,h=>by cases h
 |f+1,.unit,h|f+1,.int _,h|f+1,.bool,h|f+1,.str,h|f+1,.list _ _,h|f+1,.arr _ _,h|f+1,.nl _,h|f+1,.fn _,h|f+1,.hd,h=>by cases h
theorem n0a:∀(p:a0l)(t:Ty){τ}(q:a0l),tyF t p=some τ→tyF t (p++q)=tyF τ q
 | [],t,τ,q,h=>by simp only[tyF,sj]at h;subst h;rfl
 |.fst::p,.pair a b,τ,q,h=>n0a p a q h
 |.snd::p,.pair a b,τ,q,h=>n0a p b q h
 |.idx i::p,t,τ,q,h=>by cases t<;>cases h
 |.fst::p,.unit,_,_,h|.fst::p,.int _,_,_,h|.fst::p,.bool,_,_,h|.fst::p,.str,_,_,h|.fst::p,.list _ _,_,_,h|.fst::p,.arr _ _,_,_,h|.fst::p,.nl _,_,_,h|.fst::p,.fn _,_,_,h|.fst::p,.hd,_,_,h=>by cases h
 |.snd::p,.unit,_,_,h|.snd::p,.int _,_,_,h|.snd::p,.bool,_,_,h|.snd::p,.str,_,_,h|.snd::p,.list _ _,_,_,h|.snd::p,.arr _ _,_,_,h|.snd::p,.nl _,_,_,h|.snd::p,.fn _,_,_,h|.snd::p,.hd,_,_,h=>by cases h
def l0b(rt:Nat→Option Root)(sv:SV):Prop:=sv.firm=true∨∃n p r τ,sv=.one (.ptr n p)∧rt n=some r∧tyF r.t p=some τ
theorem A0l(hs:Γ.peek cx o=some v):l0b Γ.rt (.one v):=by
 unfold AE.peek at hs
 split at hs
 rename_i s x f d
 split at hs
 rename_i n p τ hp;obtain⟨t,r,rfl,a,h,g⟩:=d0p hp
 split at hs
 rename_i c;cases hs;obtain⟨τ',b⟩:=p0f f τ c.1;exact .inr ⟨n,_,r,τ',rfl,h,by rw[n0a p _ _ g,b]⟩;cases hs;cases hs;rename_i s x d
 split at hs
 rename_i n p k hp;obtain⟨t,r,rfl,a,h,g⟩:=d0p hp
 split at hs
 rw[h]at hs;obtain⟨k',m,rfl,-⟩:=t0f hs;exact .inl rfl;cases hs;cases hs;cases hs
theorem r0i{ρ:Type}{ops:Array Oper}(hd:o.dst=some d){K:AE→Rs ρ}{z:ρ}(g:a0g cx .t ops.toList o Γ K=some z):
  ∃(sv:SV)(L:List Nat),l0b Γ.rt sv∧(∀t∈L,t∈o.looksAt ops∧l0b Γ.rt (Γ.sl t))∧K (Γ.put d sv)=some z∧
   ∀Γ2,(∀t∈L,Γ2.sl t=Γ.sl t∧∀n∈(Γ.sl t).refs,scq (Γ2.rt n)=scq (Γ.rt n))→∀{ρ2:Type}(K2:AE→Rs ρ2),a0g cx .t ops.toList o Γ2 K2=K2 (Γ2.put d sv):=by
 rw[c0b hd]at g;cases hl:a0n ops o Γ with
 |none=>rw[hl]at g;cases g
 |some b=>
  have f:=d0f (ops:=ops) (Γ:=Γ) (o:=o) (by rw[hl];simp);rw[hl]at g;cases b with
  |false=>
   refine⟨.one .skp,a0x ops o,.inl rfl,fun t h=>⟨b0e h,.inl (f t h)⟩,g,fun Γ2 hA ρ2 K2=>?_⟩;rw[c0b hd,a0y fun t h=>(hA t h).1,hl]
  |true=>
   simp only[b0d,hd]at g;cases hs:Γ.peek cx o with
   |none=>rw[hs]at g;cases g
   |some v=>
    rw[hs]at g;have k:=y0r hs;refine⟨.one v,a0h o++a0x ops o,A0l hs,fun t h=>?_,g,fun Γ2 hA ρ2 K2=>?_⟩;rcases mA.1 h with h|h;exact⟨b0u h,.inr (k t h)⟩;exact⟨b0e h,.inl (f t h)⟩;rw[c0b hd,a0y fun t h=>(hA t (a04 _ h)).1,hl];simp only[b0d,hd];rw[y0q fun t h=>hA t (a06 _ h),hs]
theorem C0w{sv:SV}(h:l0b Γ.rt sv):∀n∈sv.refs,Γ.rt n≠none:=fun n g=>by
 rcases h with h|⟨m,p,r,τ,rfl,f,-⟩;rw[f0o h]at g;cases g;obtain rfl:n=m:=by simpa[SV.refs,AV.refs]using g
 rw[f];simp
theorem C0l{ρ:Type}{ops:Array Oper}(hd:o.dst=some d){K:AE→Rs ρ}{z:ρ}(f:a0g cx .h ops.toList o Γ K=some z):
  ∃(sv:SV)(L:List Nat),(∀t∈L,t∈o.looksAt ops)∧K (Γ.put d sv)=some z∧
   ∀Γ2,(∀t∈L,Γ2.sl t=Γ.sl t)→∀{ρ2:Type}(K2:AE→Rs ρ2),a0g cx .h ops.toList o Γ2 K2=K2 (Γ2.put d sv):=by
 rw[c0b hd]at f;cases hl:a0n ops o Γ with
 |none=>rw[hl]at f;cases f
 |some b=>
  rw[hl]at f;cases b with
  |false=>
   refine⟨.one .skp,a0x ops o,fun t g=>b0e g,f,fun Γ2 hA ρ2 K2=>?_⟩;rw[c0b hd,a0y hA,hl]
  |true=>
   simp only[b0d,hd]at f
   split at f
   rename_i t e c k;cases k;refine⟨Γ.sl t,[t]++a0x ops o,fun a g=>?_,f,fun Γ2 hA ρ2 K2=>?_⟩;rcases mA.1 g with g|g;obtain rfl:a=t:=by simpa using g
   exact b0u (by simp[a0h,c,Op.operands]);exact b0e g;rw[c0b hd,a0y fun a g=>hA a (a04 _ g),hl];simp only[b0d,hd,c];rw[hA t (by simp)];cases f
def Md.reads:Md→Nat→Prop
 |.q,_=>True
 |.s,_=>True
 |.t,_=>True
 |.r ns,n=>n∈ns
 |_,_=>False
def Md.quiet:Md→Prop
 |.v|.p|.q|.s|.u|.t|.h|.r _=>True
 |_=>False
def Md.isV:Md→Bool
 |.v|.p|.u|.h=>true
 |_=>false
def t0y(md:Md)(T:List Nat)(Γ Γ2:AE):Prop:=Γ2.pd=Γ.pd∧∀t∈T,Γ2.sl t=Γ.sl t∧∀n∈(Γ.sl t).refs,md.isV=false→Γ2.rt n=Γ.rt n
theorem v0f{ρ:Type}{ops:Array Oper}{md:Md}(m:md.quiet)(hd:o.dst=some d){K:AE→Rs ρ}{z:ρ}(C:a0g cx md ops.toList o Γ K=some z):
  ∃(δ:Dl)(L:List Nat),(∀t∈L,t∈o.looksAt ops∧∀n∈(Γ.sl t).refs,md.isV=false→md.reads n∧Γ.rt n≠none)∧K (δ.app d Γ)=some z∧(∀n,find δ.rs n≠none→Γ.rt n=none)∧
   ∀Γ2,t0y md L Γ Γ2→(∀n,find δ.rs n≠none→Γ2.rt n=none)→∀{ρ2:Type}(K2:AE→Rs ρ2),a0g cx md ops.toList o Γ2 K2=K2 (δ.app d Γ2):=by
 cases md with
 |v=>
  obtain⟨sv,L,B,l,y,A⟩:=t0x hd C;exact⟨⟨[],sv⟩,L,fun t i=>⟨(l t i).1,fun n j e=>by cases e⟩,y,fun n j=>absurd rfl j,fun Γ2 hA _ ρ2 K2=>A Γ2 hA.1 (fun t i=>(hA.2 t i).1) K2⟩
 |q=>
  obtain⟨δ,L,B,l⟩:=E0x hd C;exact⟨δ,L,fun t i=>⟨(B t i).1,fun n j _=>⟨trivial,(B t i).2 n j⟩⟩,l.1,l.2.1,fun Γ2 hA=>l.2.2 Γ2 ⟨hA.1,fun t i=>⟨(hA.2 t i).1,fun n j=>(hA.2 t i).2 n j rfl⟩⟩⟩
 |r ns=>
  obtain⟨δ,L,B,l,y,-,A⟩:=y0v hd C;exact⟨δ,L,fun t i=>⟨(B t i).1,fun n j _=>⟨((B t i).2.2 n j).2,((B t i).2.2 n j).1⟩⟩,l,fun n j=>(y n j).1,fun Γ2 hA=>A Γ2 ⟨hA.1,fun t i=>⟨(hA.2 t i).1,fun n j=>(hA.2 t i).2 n j rfl⟩⟩⟩
 |p=>
  obtain⟨sv,L,B,l,y,A⟩:=y0p hd C;exact⟨⟨[],sv⟩,L,fun t i=>⟨(l t i).1,fun n j e=>by cases e⟩,y,fun n j=>absurd rfl j,fun Γ2 hA _ ρ2 K2=>A Γ2 (fun t i=>(hA.2 t i).1) K2⟩
 |s=>
  obtain⟨sv,L,B,l,y,A⟩:=y0x hd C;exact⟨⟨[],sv⟩,L,fun t i=>⟨(l t i).1,fun n j _=>⟨trivial,(l t i).2.2 n j⟩⟩,y,fun n j=>absurd rfl j,fun Γ2 hA _ ρ2 K2=>A Γ2 (fun t i=>⟨(hA.2 t i).1,fun n j=>by rw[(hA.2 t i).2 n j rfl]⟩) (fun g=>by unfold AE.pdElem at g⊢;rw[hA.1];exact g) K2⟩
 |u=>
  obtain⟨sv,L,B,l,y,A⟩:=o0x hd C;exact⟨⟨[],sv⟩,L,fun t i=>⟨(l t i).1,fun n j e=>by cases e⟩,y,fun n j=>absurd rfl j,fun Γ2 hA _ ρ2 K2=>A Γ2 (fun t i=>(hA.2 t i).1) K2⟩
 |t=>
  obtain⟨sv,L,B,l,y,A⟩:=r0i hd C;exact⟨⟨[],sv⟩,L,fun t i=>⟨(l t i).1,fun n j _=>⟨trivial,C0w (l t i).2 n j⟩⟩,y,fun n j=>absurd rfl j,fun Γ2 hA _ ρ2 K2=>A Γ2 (fun t i=>⟨(hA.2 t i).1,fun n j=>by rw[(hA.2 t i).2 n j rfl]⟩) K2⟩
 |h=>
  obtain⟨sv,L,l,y,A⟩:=C0l hd C;exact⟨⟨[],sv⟩,L,fun t i=>⟨l t i,fun n j e=>by cases e⟩,y,fun n j=>absurd rfl j,fun Γ2 hA _ ρ2 K2=>A Γ2 (fun t i=>(hA.2 t i).1) K2⟩
 |f=>cases m
 |k ws=>cases m
 |x=>cases m
 |c ws=>cases m
 |e=>cases m
 |b ws=>cases m
 |a ws=>cases m
 |w ws=>cases m
theorem A0e{ρ:Type}{ops:Array Oper}{md:Md}(c:md.isV=true)(hd:o.dst=some d){K:AE→Rs ρ}{z:ρ}(b:a0g cx md ops.toList o Γ K=some z):
  ∃(sv:SV)(L:List Nat),(∀t∈L,t∈o.looksAt ops)∧K (Γ.put d sv)=some z∧
   ∀Γ2,Γ2.pd=Γ.pd→(∀t∈L,Γ2.sl t=Γ.sl t)→∀{ρ2:Type}(K2:AE→Rs ρ2),a0g cx md ops.toList o Γ2 K2=K2 (Γ2.put d sv):=by
 cases md with
 |v=>
  obtain⟨sv,L,-,g,f,k⟩:=t0x hd b;exact⟨sv,L,fun t a=>(g t a).1,f,fun Γ2 hp hA ρ2 K2=>k Γ2 hp hA K2⟩
 |p=>
  obtain⟨sv,L,-,g,f,k⟩:=y0p hd b;exact⟨sv,L,fun t a=>(g t a).1,f,fun Γ2 _ hA ρ2 K2=>k Γ2 hA K2⟩
 |u=>
  obtain⟨sv,L,-,g,f,k⟩:=o0x hd b;exact⟨sv,L,fun t a=>(g t a).1,f,fun Γ2 _ hA ρ2 K2=>k Γ2 hA K2⟩
 |h=>
  obtain⟨sv,L,g,f,k⟩:=C0l hd b;exact⟨sv,L,g,f,fun Γ2 _ hA ρ2 K2=>k Γ2 hA K2⟩
 |_=>cases c
end
def t0w(y:(t:Ty)×t.den):Option AV:=match y with
 |⟨.int k,v⟩=>some (.val (.int k) v)
 |_=>none
theorem D0e(r:Root)(q:a0l):r.scal q=bif q.all Step.isField then t0w (a0p r.t r.x q)else none:=rfl
theorem o0h:∀(p:a0l)(t:Ty)(x:t.den){e:Ty}(l l':List e.den),b0j p t x=⟨.list true e,l⟩→∀q:a0l,q.all Step.isField=true→t0w (b0j q t (c0i p t x (.list true e) l'))=t0w (b0j q t x)
 | [],t,x,e,l,l',h,q,hq=>by
  simp[b0j]at h;cases h;cases q with
  |nil=>rfl
  |cons s q=>cases s with
   |idx i=>simp_all[Step.isField]
   |_=>rfl
 |.fst::p,t,x,e,l,l',h,q,hq=>by
  cases t with
  |pair a b=>
   cases q with
   |nil=>rfl
   |cons s q=>cases s with
    |idx i=>simp[Step.isField]at hq
    |fst=>exact o0h p a x.1 l l' h q (by simpa[Step.isField]using hq)
    |snd=>rfl
  |_=>cases h
 |.snd::p,t,x,e,l,l',h,q,hq=>by
  cases t with
  |pair a b=>
   cases q with
   |nil=>rfl
   |cons s q=>cases s with
    |idx i=>simp[Step.isField]at hq
    |snd=>exact o0h p b x.2 l l' h q (by simpa[Step.isField]using hq)
    |fst=>rfl
  |_=>cases h
 |.idx i::p,t,x,e,l,l',h,q,hq=>by
  have g:∀y:t.den,(∀k,t≠.int k)→(∀a b,t≠.pair a b)→t0w (b0j q t y)=none:=fun y f c=>by
   cases q with
   |nil=>cases t with
    |int k=>simp_all
    |_=>rfl
   |cons s q=>cases s with
    |idx i=>simp_all[Step.isField]
    |fst=>cases t with
     |pair a b=>simp_all
     |_=>rfl
    |snd=>cases t with
     |pair a b=>simp_all
     |_=>rfl
  cases t with
  |int k=>rfl
  |pair a b=>rfl
  |_=>exact(g _ (by simp) (by simp)).trans (g _ (by simp) (by simp)).symm
theorem D0f{r:Root}{p:a0l}{e:Ty}{l:List e.den}(h:a0p r.t r.x p=⟨.list true e,l⟩)(l':List e.den):scq (some ⟨r.bx,r.t,b0s r.t r.x p (.list true e) l'⟩)=scq (some r):=by
 simp only[scq,a15];congr 2
 grind[D0e,o0h]
def FP(f:AV→AV):Prop:=(∀v:AV,v.calm=true→f v=v)∧∀v:AV,(f v).calm=true→f v=v
theorem FP.id:FP id:=⟨fun _ _=>rfl,fun _ _=>rfl⟩
def FW(W:List Nat)(f:AV→AV):Prop:=(∀v:AV,(∀n∈v.refs,n∉W)→f v=v)∧(∀v:AV,f v=v∨f v=.dead)∧∀n,pinned≤n→f (.ptr n [])=.ptr n []
theorem FW.id{W:List Nat}:FW W id:=⟨fun _ _=>rfl,fun _=>.inl rfl,fun _ _=>rfl⟩
theorem FW.comp{g:AV→AV}(hf:FW W f)(k:FW W g)(hd:g .dead=.dead:=by rfl):FW W (fun v=>g (f v)):=by
 refine⟨fun v h=>?_,fun v=>?_,fun n a=>?_⟩;show g (f v)=v;rw[hf.1 v h];exact k.1 v h;show g (f v)=v∨g (f v)=.dead;rcases hf.2.1 v with h|h;rw[h];exact k.2.1 v;simp_all;show g (f _)=_;rw[hf.2.2 n a];exact k.2.2 n a
theorem FW.dead(hf:FW W f):f .dead=.dead:=(hf.2.1 .dead).elim _root_.id _root_.id
theorem FW.fp(hf:FW W f):FP f:=by
 refine⟨fun v h=>?_,fun v h=>?_⟩
 ·cases v with
  |ptr n p=>
   cases p with
   |nil=>exact hf.2.2 n (by simpa[AV.calm]using h)
   |cons=>simp_all[AV.calm,AV.firm]
  |sref=>cases h
  |swin=>cases h
  |_=>exact hf.1 _ fun n k=>(by cases k)
 rcases hf.2.1 v with g|g;omega;rw[g]at h;cases h
theorem nb{m:Nat}(g:n∈W)(h:∀k∈[m],k∉W):(m==n)=false:=by
 grind
theorem FW.drop{W:List Nat}{n:Nat}(g:n∈W)(hp:n<pinned):FW W (AV.drop n):=by
 refine⟨fun v h=>?_,fun v=>?_,fun m f=>?_⟩
 ·cases v with
  |ptr m q=>simp only[AV.drop,nb g h,a05,if_false]
  |sref m q=>simp only[AV.drop,nb g h,a05,if_false]
  |swin m q o l=>simp only[AV.drop,nb g h,a05,if_false]
  |_=>rfl
 ·cases v with
  |ptr m q=>simp only[AV.drop];split<;>simp
  |sref m q=>simp only[AV.drop];split<;>simp
  |swin m q o l=>simp only[AV.drop];split<;>simp
  |_=>exact .inl rfl
 have:(m==n)=false:=by simp only[beq_eq_false_iff_ne];omega
 simp[AV.drop,this]
theorem FW.kill{W:List Nat}{n:Nat}(g:n∈W)(p:a0l):FW W (AV.kill n p):=by
 refine⟨fun v h=>?_,fun v=>?_,fun m f=>by simp[AV.kill]⟩
 ·cases v with
  |ptr m q=>simp only[AV.kill,nb g h,a30,a05,if_false]
  |sref m q=>simp only[AV.kill,nb g h,a30,a05,if_false]
  |swin m q o l=>simp only[AV.kill,nb g h,a30,a05,if_false]
  |_=>rfl
 ·cases v with
  |ptr m q=>simp only[AV.kill];split<;>simp
  |sref m q=>simp only[AV.kill];split<;>simp
  |swin m q o l=>simp only[AV.kill];split<;>simp
  |_=>exact .inl rfl
theorem FW.deeps{us ks:List Nat}(a:∀n∈us,n∈W):FW W (AV.deeps us ks):=by
 have g:∀m,(∀k∈[m],k∉W)→us.contains m=false:=fun m h=>by
  grind
 refine⟨fun v h=>?_,fun v=>?_,fun m f=>by simp[AV.deeps]⟩
 ·cases v with
  |ptr m q=>simp only[AV.deeps,g m h,a05,if_false]
  |sref m q=>simp only[AV.deeps,g m h,a05,if_false]
  |swin m q o l=>simp only[AV.deeps,g m h,a05,if_false]
  |_=>rfl
 ·cases v with
  |ptr m q=>
   simp only[AV.deeps];split;cases q<;>simp
   simp
  |sref m q=>
   simp only[AV.deeps];split
   ·cases q with
    |nil=>simp only[];split<;>simp
    |cons=>simp
   simp
  |swin m q o l=>simp only[AV.deeps];split<;>simp
  |_=>exact .inl rfl
theorem FP.sv{f:AV→AV}(hf:FP f){sv:SV}(h:sv.calm=true):sv.mapv f=sv:=by
 cases sv with
 |one v=>simp only[SV.mapv];rw[hf.1 v h]
 |cmp c0 vs=>
  simp only[SV.mapv];congr 1;refine(a09 fun v hv=>hf.1 v (r0n (lA.1 h v hv))).trans (a32 _)
theorem FP.sv'(hf:FP f){sv:SV}(h:(sv.mapv f).calm=true):sv.mapv f=sv:=by
 cases sv with
 |one v=>simp only[SV.mapv]at h⊢;rw[hf.2 v h]
 |cmp c0 vs=>
  simp only[SV.mapv]at h⊢;congr 1;refine(a09 fun v hv=>hf.2 v (r0n (lA.1 h _ (a44 hv)))).trans (a32 _)
theorem FW.sv{W:List Nat}{f:AV→AV}(hf:FW W f){sv:SV}(h:∀n∈sv.refs,n∉W):sv.mapv f=sv:=by
 cases sv with
 |one v=>simp only[SV.mapv];rw[hf.1 v h]
 |cmp c0 vs=>
  simp only[SV.mapv];congr 1;refine(a09 fun v hv=>hf.1 v fun n g=>h n (a27.2 ⟨v,hv,g⟩)).trans (a32 _)
theorem FW.sv'(hf:FW W f){sv:SV}(h:(sv.mapv f).alive=true):sv.mapv f=sv:=by
 have one:∀v:AV,(f v).alive=true→f v=v:=fun v hv=>by
  rcases hf.2.1 v with g|g;omega;rw[g]at hv;cases hv
 cases sv with
 |one v=>simp only[SV.mapv]at h⊢;rw[one v h]
 |cmp c0 vs=>
  simp only[SV.mapv]at h⊢;congr 1;refine(a09 fun v hv=>one v (lA.1 h _ (a44 hv))).trans (a32 _)
theorem FW.refs{W:List Nat}{f:AV→AV}(hf:FW W f){sv:SV}{n:Nat}(h:n∈(sv.mapv f).refs):n∈sv.refs:=by
 have one:∀v:AV,n∈(f v).refs→n∈v.refs:=fun v hv=>by
  rcases hf.2.1 v with g|g;simp_all;rw[g]at hv;cases hv
 cases sv with
 |one v=>exact one v h
 |cmp c0 vs=>
  simp only[SV.mapv,SV.refs,a27]at h⊢
  grind
structure MDl where
 f:AV→AV
 rt:Nat→Option Root
 sv:SV

 pd:Option (Nat×a0l×Nat):=none
variable {m:MDl}
def c0d(W:List Nat)(m:MDl)(d:Option Nat)(Γ:AE):AE:=⟨fun i=>bif d==some i then m.sv else(Γ.sl i).mapv m.f,fun n=>bif W.contains n then m.rt n else Γ.rt n,Γ.pd⟩
def b0t(W:List Nat)(m:MDl)(d:Option Nat)(Γ:AE):AE:={ c0d W m d Γ with pd:=match m.pd with|none=>Γ.pd|some x=>some x }
theorem h0x(h:m.pd=none):b0t W m d Γ=c0d W m d Γ:=by simp[b0t,h];rfl
theorem s0w(f g:AV→AV)(sv:SV):(sv.mapv f).mapv g=sv.mapv fun v=>g (f v):=by
 cases sv with
 |one v=>rfl
 |cmp c0 vs=>simp_all[SV.mapv]
theorem c0x(sv:SV):sv.mapv id=sv:=by cases sv<;>simp[SV.mapv]
section
variable {g:Bool} {cx:Cx} {o:Oper} {d:Nat} {Γ:AE} {W:List Nat}
def E0n{ρ:Type}(K:AE→Rs ρ):AE→Rs ρ:=fun Γ'=>match Γ'.pd with
 |none=>K Γ'
 |some _=>none
def Same(W T:List Nat)(Γ Γ2:AE):Prop:=Γ2.pd=Γ.pd∧(∀n∈W,Γ2.rt n=Γ.rt n)∧∀t∈T,Γ2.sl t=Γ.sl t
theorem Same.refl{T:List Nat}:Same W T Γ Γ:=⟨rfl,fun _ _=>rfl,fun _ _=>rfl⟩
theorem Same.opd{Γ2:AE}(h:Same W (a0h o) Γ Γ2){x:Operand}(g:x∈o.op.operands.toList):Γ2.opd x=Γ.opd x:=by
 cases x with
 |tmp t=>simp[AE.opd,AE.get];rw[h.2.2 t (c0a g)]
 |_=>rfl
theorem Same.aggOf(h:Same W (a0h o) Γ Γ2)(g:x∈o.op.operands.toList):Γ2.aggOf x=Γ.aggOf x:=by
 cases x with
 |tmp t=>simp[AE.aggOf];rw[h.2.2 t (c0a g)]
 |_=>rfl
theorem Same.look{T:List Nat}{Γ2:AE}(h:Same W T Γ Γ2){n:Nat}(g:n∈W):Γ2.look n=Γ.look n:=by
 simp only[AE.look,h.1,h.2.1 n g]
def f0d{ρ:Type}(W:List Nat)(r:Option MDl)(d:Option Nat)(Γ2:AE)(K:AE→Rs ρ):Rs ρ:=match r with
 |none=>none
 |some m=>K (b0t W m d Γ2)
def gPd{ρ:Type}(g:Bool)(K:AE→Rs ρ):AE→Rs ρ:=bif g then E0n K else K
def c0e(g:Bool)(cx:Cx)(o:Oper)(d:Option Nat)(Γ:AE)(W:List Nat):Prop:=
 ∃r:Option MDl,(∀m,r=some m→FW W m.f∧(g=true→m.pd=none)∧∀n p d,m.pd=some (n,p,d)→m.f=AV.kill n p∧(∃r e l,Γ.rt n=Option.some r∧a0p r.t r.x p=⟨Ty.list true e,l⟩)∧∀k∈W,scq (m.rt k)=scq (Γ.rt k))∧∀Γ2,Same W (a0h o) Γ Γ2→∀{ρ:Type}(K:AE→Rs ρ),aop cx false o Γ2 (gPd g K)=f0d W r d Γ2 K
theorem c0e.none{d:Option Nat}(h:∀Γ2,Same W (a0h o) Γ Γ2→∀{ρ:Type}(K:AE→Rs ρ),aop cx false o Γ2 (gPd g K)=none):c0e g cx o d Γ W:=⟨.none,by simp,fun Γ2 hA ρ K=>h Γ2 hA K⟩
theorem c0e.some{d:Option Nat}(f:AV→AV)(hf:FW W f)(sv:SV)(S:List Nat)(a:∀n∈S,n∈W)(k:Nat→Option Root)
  (h:∀Γ2,Same W (a0h o) Γ Γ2→∀{ρ:Type}(K:AE→Rs ρ),aop cx false o Γ2 (gPd g K)=K ⟨fun i=>bif d==some i then sv else(Γ2.sl i).mapv f,fun n=>bif S.contains n then k n else Γ2.rt n,Γ2.pd⟩):c0e g cx o d Γ W:=by
 refine⟨.some ⟨f,fun n=>bif S.contains n then k n else Γ.rt n,sv,.none⟩,fun m b=>by grind,fun Γ2 hA ρ K=>?_⟩;rw[h Γ2 hA K];simp only[f0d,b0t,c0d];congr 2;funext n;cases hs:S.contains n with
 |true=>
  simp_all
 |false=>
  cases hw:W.contains n with
  |true=>simp;exact hA.2.1 n (a19.1 hw)
  |false=>rfl
theorem z0d{d:Option Nat}(f:Nat×a0l×Nat)(hf:FW W (AV.kill f.1 f.2.1))(sv:SV)(S:List Nat)(c:∀n∈S,n∈W)(k:Nat→Option Root)(a:∀n∈S,scq (k n)=scq (Γ.rt n))(p:∃r e l,Γ.rt f.1=Option.some r∧a0p r.t r.x f.2.1=⟨Ty.list true e,l⟩)(j:g=false)
  (h:∀Γ2,Same W (a0h o) Γ Γ2→∀{ρ:Type}(K:AE→Rs ρ),aop cx false o Γ2 (gPd g K)=K ⟨fun i=>bif d==some i then sv else(Γ2.sl i).mapv (AV.kill f.1 f.2.1),fun n=>bif S.contains n then k n else Γ2.rt n,.some f⟩):c0e g cx o d Γ W:=by
 refine⟨.some ⟨AV.kill f.1 f.2.1,fun n=>bif S.contains n then k n else Γ.rt n,sv,.some f⟩,fun m b=>by
  cases b
  grind,fun Γ2 hA ρ K=>?_⟩
 rw[h Γ2 hA K];simp only[f0d,b0t,c0d];congr 2;funext n;cases hs:S.contains n with
 |true=>
  simp_all
 |false=>
  cases hw:W.contains n with
  |true=>simp;exact hA.2.1 n (a19.1 hw)
  |false=>rfl
theorem h0d{ρ:Type}{K:AE→Rs ρ}{Γ':AE}(h:Γ'.pd=none):gPd g K Γ'=K Γ':=by cases g<;>simp only[gPd,E0n,h,cT,cF]
theorem c0z(n m:Nat):[m].contains n=(n==m):=by grind
theorem w0n(h:Γ2.pd=none)(r:Root)(v:AV)(K:AE→Rs ρ):(Γ2.fresh false d r fun Γ=>K (Γ.set d v)) =
  bif decide (d<pinned)then K ⟨fun i=>bif some d==some i then .one v else(Γ2.sl i).mapv (match Γ2.rt d with|none=>id|some _=>AV.drop d),fun n=>bif [d].contains n then some r else Γ2.rt n,Γ2.pd⟩else none:=by
 have g:∀i,(some d==some i)=(i==d):=fun i=>by
  grind
 unfold AE.fresh;cases decide (d<pinned);rfl
 ·simp only[cT];cases hr:Γ2.rt d with
  |none=>
   simp only[AE.newRt,hr];congr 1;simp only[AE.set,AE.put,AE.setRt,c0z,g];simp_all[c0x]
  |some r0=>
   simp only[cF,AE.look,h,hr,AE.newRt];congr 1;simp only[AE.set,AE.put,AE.setRt,c0z,g,AE.mapv,h]
theorem o0l(f:Γ.pd=none)(v:d∈W){x:AV}(w:∀n∈x.refs,n∈W){ys:Option (List e.den)}(h:∀Γ2,Same W (a0h o) Γ Γ2→∀{ρ:Type}(K:AE→Rs ρ),aop cx false o Γ2 K=ys.elim none fun ys=>Γ2.apnd false d e x ys K):c0e g cx o (some d) Γ W:=by
 have s:∀i,(some d==some i)=(i==d):=fun i=>by
  grind
 cases ys with
 |none=>simp_all[c0e.none]
 |some ys=>
  have h:∀Γ2,Same W (a0h o) Γ Γ2→∀{ρ:Type}(K:AE→Rs ρ),aop cx false o Γ2 K=Γ2.apnd false d e x ys K:=h;have y:(x=.nils∨x=.empt)→c0e g cx o (some d) Γ W:=fun z=>by
   have h:∀Γ2,Same W (a0h o) Γ Γ2→∀{ρ:Type}(K:AE→Rs ρ),aop cx false o Γ2 K=bif lim ys.length then Γ2.fresh false d ⟨false,.list true e,ys⟩ fun Γ=>K (Γ.set d (.sref d []))else none:=fun Γ2 hA ρ K=>by
    rw[h Γ2 hA];rcases z with rfl|rfl<;>rfl
   cases hl:lim ys.length with
   |false=>simp_all[c0e.none]
   |true=>
    cases hd':decide (d<pinned)with
    |false=>exact c0e.none fun Γ2 hA ρ K=>by rw[h Γ2 hA,hl];simp;rw[w0n (hA.1.trans f),hd'];rfl
    |true=>
     refine c0e.some (match Γ.rt d with|.none=>id|.some _=>AV.drop d) ?_ (.one (.sref d [])) [d] (by simp_all) (fun _=>.some ⟨false,.list true e,ys⟩) fun Γ2 hA ρ K=>?_
     grind[FW.id,FW.drop]
     rw[h Γ2 hA,hl];simp only[cT];rw[w0n (hA.1.trans f),hd',hA.2.1 d v];simp only[cT];exact h0d (hA.1.trans f)
  cases x with
  |nils=>simp_all
  |empt=>simp_all
  |sref n p=>
   have c:n∈W:=w n (by simp[AV.refs]);have b:∀Γ2,Same W (a0h o) Γ Γ2→Γ2.look n=Γ.rt n:=fun Γ2 hA=>by rw[hA.look c];simp only[AE.look,f]
   cases hr:Γ.rt n with
   |none=>
    simp_all[c0e.none,AE.apnd]
   |some r=>
    cases hg:a0p r.t r.x p with
    |mk tt l=>
     cases tt with
     |list o' e'=>
      cases o' with
      |false=>
       simp_all[c0e.none,AE.apnd]
      |true=>
       by_cases he:e=e'
       ·subst he;cases hl:lim (List.length l+ys.length)with
        |false=>
         simp_all[c0e.none,AE.apnd]
        |true=>
         by_cases hp:p=[]∧r.bx=false
         ·obtain⟨rfl,u⟩:=hp;cases hnp:decide (n<pinned)with
          |false=>simp_all[c0e.none,AE.apnd]
          |true=>
          refine c0e.some (AV.kill n []) (FW.kill c []) (.one (.sref n [])) [n] (by simp_all) (fun _=>.some ⟨r.bx,r.t,b0s r.t r.x [] (.list true e) (List.append l ys)⟩) fun Γ2 hA ρ K=>?_
          rw[h Γ2 hA];simp only[AE.apnd,cF,b Γ2 hA,hr,hg,dite_true,hl,cT,u,hnp];rw[h0d (by exact hA.1.trans f)];congr 1;simp only[AE.set,AE.put,AE.setRt,AE.mapv,c0z,s]
         ·cases hgg:g with
          |true=>
           refine c0e.none fun Γ2 hA ρ K=>?_
           rw[h Γ2 hA];simp[AE.apnd,b Γ2 hA,hr,hg,hl];cases p with
           |nil=>
            cases hb:r.bx with
            |false=>simp_all
            |true=>simp[hA.1,f];rfl
           |cons a p'=>simp[hA.1,f];rfl
          |false=>
           refine z0d (n,p,d) (FW.kill c p) (.one (.sref n p)) [n] (by simp_all) (fun _=>.some ⟨r.bx,r.t,b0s r.t r.x p (.list true e) (List.append l ys)⟩) (fun k A=>by
            grind[D0f]) ⟨r,_,_,hr,hg⟩ rfl fun Γ2 hA ρ K=>?_
           rw[h Γ2 hA];simp only[AE.apnd,cF,b Γ2 hA,hr,hg,dite_true,hl,cT];have j:∀(m q:AE),m=q→gPd false K m=K q:=fun m q e=>by rw[e];rfl
           cases p with
           |nil=>
            cases hb:r.bx with
            |false=>simp_all
            |true=>
             simp only[hA.1,f];refine j _ _ ?_
             simp only[AE.set,AE.put,AE.setRt,AE.mapv,c0z,s]
           |cons a p'=>
            simp only[hA.1,f];refine j _ _ ?_
            simp only[AE.set,AE.put,AE.setRt,AE.mapv,c0z,s]
       simp_all[c0e.none,AE.apnd]
     |_=>
      exact c0e.none fun Γ2 hA ρ K=>by
        rw[h Γ2 hA];simp only[AE.apnd,cF,b Γ2 hA,hr,hg]
  |_=>exact c0e.none fun Γ2 hA ρ K=>by rw[h Γ2 hA];rfl
end
section
variable {g:Bool} {cx:Cx} {o:Oper} {d:Nat} {Γ:AE} {W:List Nat}
theorem C0h(Γ:AE)(t:Ty)(a:AV)(hv:a.viewed=[])(K:t.den→AE→Rs ρ):Γ.asV false t a K=(f0a t a).elim none fun x=>K x Γ:=by
 cases a with
 |val t' x=>simp only[AE.asV,f0a];cases castTo t' t x<;>rfl
 |nils=>cases t with
  |list o e=>cases o<;>rfl
  |_=>rfl
 |empt=>cases t with
  |list o e=>cases o<;>rfl
  |_=>rfl
 |sref n p=>cases hv
 |swin n p o k=>cases hv
 |_=>rfl
def f0p(fz:Bool)(lk:Nat→Option Root)(used seen:List Nat):(p:PA)→AV→Option (p.ty.den×List Nat×List Nat)
 |.v t,a=>bif a.viewed.any fun n=>used.contains n then none else bif fz then(f0a t a).map fun x=>(x,used,seen)else(g0z lk t a).map fun x=>(x,used,a.viewed++seen)
 |.r c (.b t),.ptr n []=>if c || used.contains n || seen.contains n then none else match lk n with
  |some ⟨true,t',x⟩=>if h:t'=t then some (h▸x,n::used,seen)else none
  |_=>none
 |.r c (.o e),.sref n []=>if(c&&decide (pinned≤n)) || used.contains n || seen.contains n then none else match lk n with
  |some ⟨bx,.list true e',x⟩=>if h:e'=e then(bif bx&&c then none else some (h▸x,n::used,seen))else none
  |_=>none
 |.r _ _,_=>none
theorem i0o(Γ:AE)(fz:Bool)(used seen:List Nat)(p:PA)(a:AV)(hv:fz=false∨a.viewed=[])(K:p.ty.den→AE→List Nat→List Nat→Rs ρ):
  Γ.arg fz false used seen p a K=(f0p fz Γ.look used seen p a).elim none fun y=>K y.1 Γ y.2.1 y.2.2:=by
 cases p with
 |v t=>
  simp only[AE.arg,f0p];cases (a.viewed.any fun n=>used.contains n)
  ·simp only[cF];cases fz with
   |true=>
    simp only[if_true,cT];rw[C0h Γ t a (hv.resolve_left (by simp))];cases f0a t a<;>rfl
   |false=>
    simp only[a05,if_false,cF];rw[A0w];cases g0z Γ.look t a<;>rfl
  rfl
 |r c b=>
  cases b with
  |v t=>cases a<;>rfl
  |b t=>
   cases a with
   |ptr n p=>
    cases p with
    |nil=>
     simp only[AE.arg,f0p,Bool.or_false];split;rfl
     ·cases Γ.look n with
      |none=>rfl
      |some r=>
       obtain⟨g,f,x⟩:=r;cases g;rfl;simp only[];split;rename_i h;subst h;rfl;rfl
    |cons=>rfl
   |_=>rfl
  |o e=>
   cases a with
   |sref n p=>
    cases p with
    |nil=>
     simp only[AE.arg,f0p,Bool.or_false];split;rfl
     ·cases Γ.look n with
      |none=>rfl
      |some r=>
       obtain⟨g,f,x⟩:=r;cases f with
       |list o' e'=>
        cases o' with
        |false=>rfl
        |true=>
         simp only[];split;rename_i h;subst h;cases g<;>cases c<;>rfl;rfl
       |_=>rfl
    |cons=>rfl
   |_=>rfl
def AE.argsm(Γ:AE)(fz:Bool)(used seen:List Nat)(ps:List PA)(as:List AV):Option ((c0m (ps.map PA.ty)).den×List Nat):=Γ.args fz false used seen ps as fun x _ u=>some (x,u)
theorem args_m(Γ:AE)(fz:Bool)(f:List PA):∀{ρ:Type}(as:List AV)(used seen:List Nat)(K:(c0m (f.map PA.ty)).den→AE→List Nat→Rs ρ),(fz=false∨∀a∈as,a.viewed=[])→
  Γ.args fz false used seen f as K=(Γ.argsm fz used seen f as).elim none fun x=>K x.1 Γ x.2:=by
 induction f with
 |nil=>
  intro ρ as used seen K hv;cases as<;>rfl
 |cons p f ih=>
  intro ρ as used seen K hv;cases as with
  |nil=>cases f<;>rfl
  |cons a as=>
   have g:fz=false∨a.viewed=[]:=hv.imp id fun h=>h a (by simp);have k:fz=false∨∀a∈as,a.viewed=[]:=hv.imp id fun h b c=>h b (by simp[c]);cases f with
   |nil=>
    cases as with
    |nil=>
     simp only[AE.argsm,AE.args];rw[i0o (hv:=g),i0o (hv:=g)];cases f0p fz Γ.look used seen p a<;>rfl
    |cons=>rfl
   |cons p' f=>
    simp only[AE.argsm,AE.args];rw[i0o (hv:=g),i0o (hv:=g)];cases f0p fz Γ.look used seen p a with
    |none=>rfl
    |some x=>
     simp only[a10];rw[ih as _ _ _ k,ih as _ _ _ k];cases Γ.argsm fz x.2.1 x.2.2 (p'::f) as<;>rfl
theorem x0h{lk':Nat→Option Root}{fz:Bool}{used seen:List Nat}{p:PA}(h:∀n∈a.refs,lk' n=lk n):f0p fz lk' used seen p a=f0p fz lk used seen p a:=by
 cases p with
 |v t=>simp only[f0p,p0m h]
 |r c b=>
  cases b with
  |v t=>cases a<;>rfl
  |b t=>
   cases a with
   |ptr n q=>cases q<;>simp only[f0p,h n (by simp[AV.refs])]
   |_=>rfl
  |o e=>
   cases a with
   |sref n q=>cases q<;>simp only[f0p,h n (by simp[AV.refs])]
   |_=>rfl
theorem s0e{fz:Bool}{used seen:List Nat}{p:PA}{x}(h:f0p fz lk used seen p a=some x):∀n∈x.2.1,n∈used∨n∈a.refs:=by
 intro n g;cases p with
 |v t=>
  simp only[f0p]at h;obtain⟨-,h⟩:=(a0b h).elim (fun h=>by cases h.2) id;cases fz with
  |true=>
   simp only[cT]at h;cases ha:f0a t a with
   |none=>rw[ha]at h;cases h
   |some y=>rw[ha]at h;cases h;exact .inl g
  |false=>
   simp only[cF]at h;cases ha:g0z lk t a with
   |none=>rw[ha]at h;cases h
   |some y=>rw[ha]at h;cases h;exact .inl g
 |r c b=>
  cases b with
  |v t=>cases a<;>cases h
  |b t=>
   cases a with
   |ptr m q=>
    cases q with
    |nil=>
     simp only[f0p]at h
     split at h
     cases h
     split at h
     split at h
     cases h;rcases mC.1 g with rfl|g;exact .inr (by simp[AV.refs]);exact .inl g;cases h;cases h
    |cons=>cases h
   |_=>cases h
  |o e=>
   cases a with
   |sref m q=>
    cases q with
    |nil=>
     simp only[f0p]at h
     split at h
     cases h
     split at h
     split at h
     obtain⟨-,h⟩:=(a0b h).elim (fun h=>by cases h.2) id;cases h;rcases mC.1 g with rfl|g;exact .inr (by simp[AV.refs]);exact .inl g;cases h;cases h
    |cons=>cases h
   |_=>cases h
theorem v0j{Γ:AE}(fz:Bool)(g:List PA):∀(as:List AV)(used seen:List Nat),(∀a∈as,∀n∈a.refs,Γ2.look n=Γ.look n)→(fz=false∨∀a∈as,a.viewed=[])→Γ2.argsm fz used seen g as=Γ.argsm fz used seen g as:=by
 induction g with
 |nil=>intro as used seen e hv;cases as<;>rfl
 |cons p g ih=>
  intro as used seen e hv;cases as with
  |nil=>cases g<;>rfl
  |cons a as=>
   have f:fz=false∨a.viewed=[]:=hv.imp id fun h=>h a (by simp);have k:fz=false∨∀a∈as,a.viewed=[]:=hv.imp id fun h c d=>h c (by simp[d]);have b:=x0h (fz:=fz) (used:=used) (seen:=seen) (p:=p) (e a (by simp));cases g with
   |nil=>
    cases as with
    |nil=>
     simp only[AE.argsm,AE.args];rw[i0o (hv:=f),i0o (hv:=f),b]
    |cons=>rfl
   |cons p' g=>
    simp only[AE.argsm,AE.args];rw[i0o (hv:=f),i0o (hv:=f),b];cases f0p fz Γ.look used seen p a with
    |none=>rfl
    |some x=>
     simp only[a10];rw[args_m (hv:=k),args_m (hv:=k),ih as _ _ (fun c d=>e c (by simp[d])) k]
where
 args_m {Γ:AE} {fz:Bool} {g:List PA} {ρ:Type} {as:List AV} {used seen:List Nat} {K:(c0m (g.map PA.ty)).den→AE→List Nat→Rs ρ} (hv:fz=false∨∀a∈as,a.viewed=[]):=Go.Ab.args_m Γ fz g as used seen K hv
theorem x0i{Γ:AE}(fz:Bool)(g:List PA):∀(as:List AV)(used seen:List Nat)(x),(fz=false∨∀a∈as,a.viewed=[])→Γ.argsm fz used seen g as=some x→∀n∈x.2,n∈used∨∃a∈as,n∈a.refs:=by
 induction g with
 |nil=>
  intro as used seen x hv h n b;cases as with
  |nil=>cases h;exact .inl b
  |cons=>cases h
 |cons p g ih=>
  intro as used seen x hv h n b;cases as with
  |nil=>cases g<;>cases h
  |cons a as=>
   have f:fz=false∨a.viewed=[]:=hv.imp id fun h=>h a (by simp);have k:fz=false∨∀a∈as,a.viewed=[]:=hv.imp id fun h c e=>h c (by simp[e]);cases g with
   |nil=>
    cases as with
    |nil=>
     simp only[AE.argsm,AE.args]at h;rw[i0o (hv:=f)]at h;cases hx:f0p fz Γ.look used seen p a with
     |none=>rw[hx]at h;cases h
     |some y=>
      rw[hx]at h;cases h;exact(s0e hx n b).imp id fun h=>⟨a,by simp,h⟩
    |cons=>cases h
   |cons p' g=>
    simp only[AE.argsm,AE.args]at h;rw[i0o (hv:=f)]at h;cases hx:f0p fz Γ.look used seen p a with
    |none=>rw[hx]at h;cases h
    |some y=>
     rw[hx]at h;simp only[a10]at h;rw[args_m Γ fz (p'::g) as _ _ _ k]at h;cases hr:Γ.argsm fz y.2.1 y.2.2 (p'::g) as with
     |none=>rw[hr]at h;cases h
     |some u=>
      rw[hr]at h;cases h;rcases ih as _ _ u k hr n b with h|⟨c,d,h⟩;exact(s0e hx n h).imp id fun h=>⟨a,by simp,h⟩;exact .inr ⟨c,by simp[d],h⟩
def f0h:List Nat→(Nat→Option Root)→AV→AV
 | [],_=>id
 |n::r,rt=>match rt n with
  |none=>f0h r rt
  |some _=>fun v=>f0h r (fun j=>bif j==n then none else rt j) (AV.drop n v)
theorem l0f:∀(ns:List Nat){rt rt2:Nat→Option Root},(∀n∈ns,rt2 n=rt n)→f0h ns rt2=f0h ns rt
 | [],_,_,_=>rfl
 |n::r,rt,rt2,h=>by
  simp only[f0h,h n (by simp)];cases rt n with
  |none=>exact l0f r fun m g=>h m (by simp[g])
  |some x=>
   simp only[];rw[l0f r (rt:=fun j=>bif j==n then none else rt j) (rt2:=fun j=>bif j==n then none else rt2 j) fun m g=>by
    show(bif m==n then none else rt2 m)=_;rw[h m (by simp[g])]]
theorem p0r:∀(ns:List Nat)(rt:Nat→Option Root),(∀n∈ns,n∈W∧n<pinned)→FW W (f0h ns rt)
 | [],rt,_=>FW.id
 |n::r,rt,h=>by
  simp only[f0h];cases rt n with
  |none=>exact p0r r rt fun m g=>h m (by simp[g])
  |some x=>
   have:=p0r r (fun j=>bif j==n then none else rt j) fun m g=>h m (by simp[g])
   exact(FW.drop (h n (by simp)).1 (h n (by simp)).2).comp this this.dead
theorem k0b{m:Nat}{r:List Nat}(h:¬ m=n):(n::r).contains m=r.contains m:=by
 have:(m==n)=false:=by simpa using h
 simp only[List.contains,List.elem,this]
theorem n0p{ρ:Type}(us:List Nat):∀(ns:List Nat)(Γ:AE)(K:AE→Rs ρ),Γ.dropAll false us ns K =
  bif ns.all fun n=>decide (n<pinned)&&!us.contains n then K ⟨fun i=>(Γ.sl i).mapv (f0h ns Γ.rt),fun n=>bif ns.contains n then none else Γ.rt n,Γ.pd⟩else none
 | [],Γ,K=>by
  simp only[AE.dropAll,List.all_nil,cT,f0h];congr 1;obtain⟨g,rt,h⟩:=Γ;simp only[c0x];rfl
 |n::r,Γ,K=>by
  simp only[AE.dropAll,a12];cases (decide (n<pinned)&&!us.contains n);rfl
  ·simp only[cT,Bool.true_and];cases hr:Γ.rt n with
   |none=>
    simp only[f0h,hr];rw[n0p us r Γ K];congr 2;congr 1;funext m
    by_cases e:m=n
    subst e;simp[hr];rw[k0b e]
   |some x=>
    simp only[cF,f0h,hr];rw[n0p us r];simp only[AE.setRt,AE.mapv,s0w];congr 2;congr 1;funext m
    by_cases e:m=n
    subst e;simp;rw[k0b e]
    have:(m==n)=false:=by simpa using e
    rw[this];rfl
theorem g0w:∀(rs:List RA)(b n:Nat),n∈c0v rs b→n∈b0o rs b
 | [],_,_,h=>h
 |.v _::rs,b,n,h=>a02 _ (g0w rs _ n h)
 |.o _::rs,b,n,h=>by
  rcases mC.1 h with rfl|h;exact a13;exact a02 _ (g0w rs _ n h)
 |.b _::rs,b,n,h=>by
  rcases mC.1 h with rfl|h;exact a13;exact a02 _ (g0w rs _ n h)
theorem p0s(a:x∈o.op.operands.toList)(k:n∈(Γ.opd x).refs):n∈Γ.foot o:=by
 refine a27.2 ⟨x,a,?_⟩;cases x with
 |tmp t=>
  simp only[AE.opd,AE.get]at k;show n∈(Γ.sl t).refs
  revert k
  cases Γ.sl t with
  |one v=>exact id
  |cmp c vs=>exact fun h=>by cases h
 |const v=>
  simp only[AE.opd]at k;unfold i0e at k
  split at k<;>cases k
 |global g=>cases k
 |func f=>cases k
theorem A0u{d:Option Nat}{f:FuncId}{s:FSem}(H:o.op=.call c)(R:c.callee=.value (.func f))(hd:o.dst=d)(G:Γ.pd=none)(hs:cx.C f=some s)(L:∀n∈Γ.foot o,n∈W)(M:∀n∈d0y cx o (d.getD 0),n∈W)(hv:(s.rs.any RA.hasList || (e0i s.ps).any RA.hasList)=false∨∀a∈c.args.toList.map Γ.opd,a.viewed=[]):c0e g cx o d Γ W:=by
  let fz:=s.rs.any RA.hasList || (e0i s.ps).any RA.hasList
  let b:=d.getD 0+1000
  let l:=c0v s.rs b
  have D:∀Γ2,Same W (a0h o) Γ Γ2→c.args.toList.map Γ2.opd=c.args.toList.map Γ.opd:=fun Γ2 hA=>a09 fun x w=>hA.opd (h0b H x w);have t:∀a∈c.args.toList.map Γ.opd,∀n∈a.refs,n∈W:=fun a B n j=>by
    obtain⟨x,w,rfl⟩:=a17.1 B;exact L n (p0s (h0b H x w) j)
  have u:∀n∈b0o s.rs b,n∈W:=fun n j=>M n (by simp only[d0y,H,R,hs];exact a02 _ j);have q:∀n∈l,n∈W:=fun n j=>u n (g0w _ _ n j);have run:∀Γ2,Same W (a0h o) Γ Γ2→∀{ρ:Type}(K:AE→Rs ρ),aop cx false o Γ2 (gPd g K)=(Γ.argsm fz [] [] s.ps (c.args.toList.map Γ.opd)).elim none fun x=>
      bif l.all (fun n=>decide (n<pinned)&&!x.2.contains n)then(s.F x.1).bind fun y=>
        (let Γ3:AE:=⟨fun i=>((Γ2.sl i).mapv (f0h l Γ.rt)).mapv (AV.deeps x.2 ((brw s.ps x.2.reverse).filter fun n=>!n0v (bif l.contains n then none else Γ2.rt n))),fun n=>match b0y (b0o s.rs b++x.2.reverse) (c0r (RA.all s.ps s.rs) y) n with
          |some r=>some (bif x.2.contains n then i0a (bif l.contains n then none else Γ2.rt n) r else r)
          |none=>bif l.contains n then none else Γ2.rt n,none⟩
         match d with
          |none=>gPd g K Γ3
          |some d=>match d0q (b0o s.rs b) (c0r (RA.all s.ps s.rs) y)with
            | [v]=>gPd g K (Γ3.set d v)
            |vs=>gPd g K (Γ3.put d (.cmp .tup vs)))else none:=fun Γ2 hA ρ K=>by
    have I:aop cx false o Γ2 (gPd g K)=Γ2.call false d s (c.args.toList.map Γ.opd) (gPd g K):=by
      unfold aop;rw[H,hd];simp only[R,hs,D Γ2 hA]
    rw[I];unfold AE.call;rw[show Γ2.pd=none from hA.1.trans G];simp only[];rw[args_m _ _ _ _ _ _ _ hv,v0j _ _ _ _ _ (fun a B n j=>hA.look (t a B n j)) hv];cases Γ.argsm (s.rs.any RA.hasList || (e0i s.ps).any RA.hasList) [] [] s.ps (c.args.toList.map Γ.opd)with
    |none=>rfl
    |some x=>
      simp only[a10];rw[n0p,l0f _ fun n j=>hA.2.1 n (q n j)];cases d<;>rfl
  cases w:Γ.argsm fz [] [] s.ps (c.args.toList.map Γ.opd)with
  |none=>exact c0e.none fun Γ2 hA ρ K=>by rw[run Γ2 hA,w];rfl
  |some x=>
    cases j:(l.all fun n=>decide (n<pinned)&&!x.2.contains n)with
    |false=>exact c0e.none fun Γ2 hA ρ K=>by rw[run Γ2 hA,w];simp only[a10,j,cF]
    |true=>
      cases hy:s.F x.1 with
      |none=>exact c0e.none fun Γ2 hA ρ K=>by rw[run Γ2 hA,w];simp only[a10,j,cT,hy,Option.bind_none]
      |some y=>
        let p:=c0r (RA.all s.ps s.rs) y
        let ns:=b0o s.rs b
        let sv:SV:=match d0q ns p with
          | [v]=>.one v
          |vs=>.cmp .tup vs
        have m:∀n∈x.2,n∈W:=fun n j=>by
          rcases x0i fz s.ps _ _ _ x hv w n j with h|⟨a,B,h⟩;cases h;exact t a B n h
        have N:=p0r l Γ.rt fun n E=>⟨q n E,by
          have:=lA.1 j n E
          simp only[bA,dT]at this;exact this.1⟩
        have O:∀Γ2,Same W (a0h o) Γ Γ2→((brw s.ps x.2.reverse).filter fun n=>!n0v (bif l.contains n then none else Γ2.rt n))=(brw s.ps x.2.reverse).filter fun n=>!n0v (bif l.contains n then none else Γ.rt n):=fun Γ2 hA=>
          a33 fun n j=>by
            obtain⟨k,i,e,A,-⟩:=o0p s.ps x.2.reverse 0 n j;rw[hA.2.1 n (m n (a35.1 (List.mem_of_getElem? A)))]
        refine c0e.some (fun v=>AV.deeps x.2 ((brw s.ps x.2.reverse).filter fun n=>!n0v (bif l.contains n then none else Γ.rt n)) (f0h l Γ.rt v)) (N.comp (FW.deeps m)) sv ((ns++x.2.reverse)++l) (fun n j=>?_) (fun n=>match b0y (ns++x.2.reverse) p n with
          |some r=>some (bif x.2.contains n then i0a (bif l.contains n then none else Γ.rt n) r else r)
          |none=>bif l.contains n then none else Γ.rt n) fun Γ2 hA ρ K=>?_
        rcases mA.1 j with j|j;rcases mA.1 j with j|j;exact u n j;exact m n (a35.1 j);exact q n j;rw[run Γ2 hA,w];simp only[a10,j,cT,hy,oB];have Q:(fun n=>match b0y (ns++x.2.reverse) p n with
            |some r=>some (bif x.2.contains n then i0a (bif l.contains n then none else Γ2.rt n) r else r)
            |none=>bif l.contains n then none else Γ2.rt n)=fun n=>bif ((ns++x.2.reverse)++l).contains n then(match b0y (ns++x.2.reverse) p n with
            |some r=>some (bif x.2.contains n then i0a (bif l.contains n then none else Γ.rt n) r else r)
            |none=>bif l.contains n then none else Γ.rt n)else Γ2.rt n:=by
          funext n;cases z:((ns++x.2.reverse)++l).contains n with
          |true=>
            have P:n∈W:=by
              have z:n∈(ns++x.2.reverse)++l:=by simpa using z
              rcases mA.1 z with j|j;rcases mA.1 j with j|j;exact u n j;exact m n (a35.1 j);exact q n j
            rw[hA.2.1 n P];rfl
          |false=>
            have z:n∉(ns++x.2.reverse)++l:=fun h=>by
              have:((ns++x.2.reverse)++l).contains n=true:=by simpa using h
              rw[this]at z;cases z
            have A:b0y (ns++x.2.reverse) p n=none:=by
              cases e:b0y (ns++x.2.reverse) p n with
              |none=>rfl
              |some r=>exact absurd (a06 _ (h0y _ _ _ (by rw[e];simp))) z
            have J:l.contains n=false:=by
              cases e:l.contains n with
              |false=>rfl
              |true=>exact absurd (a04 _ (by simpa using e)) z
            rw[A,J];rfl
        have S:∀sv':SV,(⟨fun i=>bif d==some i then sv' else((Γ2.sl i).mapv (f0h l Γ.rt)).mapv (AV.deeps x.2 ((brw s.ps x.2.reverse).filter fun n=>!n0v (bif l.contains n then none else Γ2.rt n))),fun n=>match b0y (b0o s.rs b++x.2.reverse) (c0r (RA.all s.ps s.rs) y) n with
            |some r=>some (bif x.2.contains n then i0a (bif l.contains n then none else Γ2.rt n) r else r)
            |none=>bif l.contains n then none else Γ2.rt n,none⟩:AE)=⟨fun i=>bif d==some i then sv' else(Γ2.sl i).mapv (fun v=>AV.deeps x.2 ((brw s.ps x.2.reverse).filter fun n=>!n0v (bif l.contains n then none else Γ.rt n)) (f0h l Γ.rt v)),fun n=>bif ((ns++x.2.reverse)++l).contains n then(match b0y (ns++x.2.reverse) p n with
            |some r=>some (bif x.2.contains n then i0a (bif l.contains n then none else Γ.rt n) r else r)
            |none=>bif l.contains n then none else Γ.rt n)else Γ2.rt n,Γ2.pd⟩:=fun sv'=>by
          rw[O Γ2 hA];rw[←Q,hA.1,G];congr 1;funext i;rw[s0w]
        rw[←S sv];cases d with
        |none=>
          rw[h0d rfl];rfl
        |some d=>
          have I:∀i,(some d==some i)=(i==d):=fun i=>by
            by_cases h:i=d
            subst h;simp;have A:(i==d)=false:=by simpa using h
            have J:(some d==some i)=false:=by simpa using Ne.symm h
            rw[A,J]
          simp only[I,AE.set,AE.put,sv];show(match d0q ns p with
            | [v]=>gPd g K _
            |vs=>gPd g K _)=_
          generalize d0q ns p=vs
          split<;>exact h0d rfl
theorem w0h(s:o.op=.call c)(A:c.callee=.builtin .append)(hd:o.dst=some d)(j:Γ.pd=none)(q:∀n∈Γ.foot o,n∈W)(i:d∈W)(k:o0k cx c.argTypes.toList=false):c0e g cx o (some d) Γ W:=by
 have run:∀Γ2,Same W (a0h o) Γ Γ2→∀{ρ:Type}(K:AE→Rs ρ),aop cx false o Γ2 K=Γ2.blt false cx d .append c.argTypes.toList (c.args.toList.map Γ.opd) K:=fun Γ2 hA ρ K=>by
  simp only[aop,s,hd,A];rw[a09 fun x u=>hA.opd (h0b s x u)]
 have f:∀a∈c.args.toList.map Γ.opd,∀n∈a.refs,n∈W:=fun a z n r=>by
  obtain⟨x,u,rfl⟩:=a17.1 z;exact q n (p0s (h0b s x u) r)
 revert run f k
 generalize c.args.toList.map Γ.opd=as;generalize c.argTypes.toList=ts;intro k run f;have l:(∀(Γ2:AE){ρ:Type}(K:AE→Rs ρ),Γ2.blt false cx d .append ts as K=none)→c0e g cx o (some d) Γ W:=fun h=>c0e.none fun Γ2 hA ρ K=>by rw[run Γ2 hA];exact h Γ2 _
 match as with
 | []=>exact l fun Γ2 ρ K=>rfl
 | [_]=>exact l fun Γ2 ρ K=>rfl
 |_::_::_::_=>exact l fun Γ2 ρ K=>rfl
 | [a,b]=>
  have p:∀n∈a.refs,n∈W:=f a (by simp);have v:∀n∈b.refs,n∈W:=f b (by simp);cases hni:n0y cx ts with
  |false=>
   cases hzl:v0h cx ts a b with
   |none=>exact l fun Γ2 ρ K=>by simp only[AE.blt,hni,m0e,hzl,cF]
   |some w=>
    obtain⟨e,ys⟩:=w;exact o0l j i (e:=e) (x:=.nils) (by simp[AV.refs]) (ys:=some ys) fun Γ2 hA ρ K=>by
     rw[run Γ2 hA];simp only[AE.blt,hni,m0e,hzl,cF];rfl
  |true=>
   cases ht:ts.head?.bind cx.T with
   |none=>exact l fun Γ2 ρ K=>by simp only[AE.blt,hni,ht,cT]
   |some τ=>
    cases τ with
    |list o' e=>
     have k:e.isList=false:=by simpa only[o0k,ht]using k
     have m:(∀(Γ2:AE){ρ:Type}(K:AE→Rs ρ),Γ2.blt false cx d .append ts [a,b] K=Γ2.elems e b fun ys=>Γ2.apnd false d e a ys K)→c0e g cx o (some d) Γ W:=fun h=>
      o0l j i (e:=e) (x:=a) p (ys:=f0x Γ.look e b) fun Γ2 hA ρ K=>by
       rw[run Γ2 hA,h,j0q,k0c fun n r=>hA.look (v n r)]
     cases b with
     |val t y=>
      cases t with
      |str=>
       by_cases he:e=.int .u8
       subst he;exact o0l j i (e:=.int .u8) (x:=a) p (ys:=some y) fun Γ2 hA ρ K=>by
        rw[run Γ2 hA];simp only[AE.blt,hni,ht,cT];rfl
       exact l fun Γ2 ρ K=>by
        simp only[AE.blt,hni,ht,cT];rw[dif_neg he]
      |_=>exact m fun Γ2 ρ K=>by simp only[AE.blt,hni,ht,cT,k,a53,Bool.or_true]
     |_=>exact m fun Γ2 ρ K=>by simp only[AE.blt,hni,ht,cT,k,a53,Bool.or_true]
    |_=>exact l fun Γ2 ρ K=>by simp only[AE.blt,hni,ht,cT]
theorem p0z{d:Option Nat}(Γ:AE):Γ.setD d .dead=⟨fun i=>bif d==some i then .one .dead else Γ.sl i,Γ.rt,Γ.pd⟩:=by
 cases d with
 |none=>rfl
 |some d=>
  simp only[AE.setD,AE.set,AE.put];congr 1;funext i
  by_cases h:i=d
  subst h;simp;have g:(i==d)=false:=by simpa using h
  have f:(some d==some i)=false:=by simpa using Ne.symm h
  rw[g,f]
theorem A0v{d:Option Nat}(i:Γ.pd=none){t:Ty}{x:AV}(k:n∈W)(hv:x.viewed=[])(h:∀Γ2,Same W (a0h o) Γ Γ2→∀{ρ:Type}(K:AE→Rs ρ),aop cx false o Γ2 K=Γ2.stor t n p x fun Γ=>K (Γ.setD d .dead)):c0e g cx o d Γ W:=by
 have b:∀Γ2,Same W (a0h o) Γ Γ2→Γ2.rt n=Γ.rt n:=fun Γ2 hA=>hA.2.1 n k;have v:∀Γ2,Same W (a0h o) Γ Γ2→Γ2.look n=Γ.rt n:=fun Γ2 hA=>by rw[hA.look k];simp only[AE.look,i]
 cases hr:Γ.rt n with
 |none=>exact c0e.none fun Γ2 hA ρ K=>by rw[h Γ2 hA];simp only[AE.stor,b Γ2 hA,hr]
 |some r=>
  have c:∀f y,a0p r.t r.x p=⟨f,y⟩→(∀e,f≠.list true e)→c0e g cx o d Γ W:=fun f y u B=>by
   have st:∀Γ2,Same W (a0h o) Γ Γ2→∀{ρ:Type}(K:AE→Rs ρ),aop cx false o Γ2 K=if f.shn=f∧f.sh=t then(f0a f x).elim none fun y=>K ((Γ2.setRt n (some ⟨r.bx,r.t,b0s r.t r.x p f y⟩)).setD d .dead)else Γ2.overP t n r x (fun Γ=>K (Γ.setD d .dead)) p:=fun Γ2 hA ρ K=>by
    rw[h Γ2 hA];unfold AE.stor;rw[b Γ2 hA,hr];simp only[u];have body:(if f.shn=f∧f.sh=t then Γ2.asV false f x fun y Γ'=>(match Γ'.look n with
      |some r=>if(a0p r.t r.x p).1=f then K ((Γ'.setRt n (some ⟨r.bx,r.t,b0s r.t r.x p f y⟩)).setD d .dead)else none
      |none=>none)else Γ2.overP t n r x (fun Γ=>K (Γ.setD d .dead)) p)=if f.shn=f∧f.sh=t then(f0a f x).elim none fun y=>K ((Γ2.setRt n (some ⟨r.bx,r.t,b0s r.t r.x p f y⟩)).setD d .dead)else Γ2.overP t n r x (fun Γ=>K (Γ.setD d .dead)) p:=by
     split
     ·rw[C0h Γ2 f x hv];cases f0a f x with
      |none=>rfl
      |some y=>simp only[a10,v Γ2 hA,hr,u,if_true]
     rfl
    rw[←body];cases f with
    |list o' e=>cases o' with
     |true=>exact absurd rfl (B e)
     |false=>rfl
    |_=>rfl
   by_cases hc:f.shn=f∧f.sh=t
   ·cases ha:f0a f x with
    |none=>exact c0e.none fun Γ2 hA ρ K=>by rw[st Γ2 hA,if_pos hc,ha];rfl
    |some y=>
     refine c0e.some id FW.id (.one .dead) [n] (by simpa using k) (fun _=>some ⟨r.bx,r.t,b0s r.t r.x p f y⟩) fun Γ2 hA ρ K=>?_
     rw[st Γ2 hA,if_pos hc,ha];simp only[a10];rw[p0z,h0d (by exact hA.1.trans i)];congr 1;simp only[AE.setRt,c0z,c0x]
   ·cases p with
    |cons s p=>exact c0e.none fun Γ2 hA ρ K=>by rw[st Γ2 hA,if_neg hc];rfl
    |nil=>
     have A:(∀Γ2,Same W (a0h o) Γ Γ2→∀{ρ:Type}(K:AE→Rs ρ),Γ2.over t n r x K=none)→c0e g cx o d Γ W:=fun j=>c0e.none fun Γ2 hA ρ K=>by
      rw[st Γ2 hA,if_neg hc];exact j Γ2 hA (fun Γ=>gPd g K (Γ.setD d .dead))
     have w:∀(t2:Ty)(z:t2.den),(∀Γ2,Same W (a0h o) Γ Γ2→∀{ρ:Type}(K:AE→Rs ρ),Γ2.over t n r x K=K ((Γ2.mapv (AV.deeps [n] [])).setRt n (some ⟨true,t2,z⟩)))→c0e g cx o d Γ W:=fun t2 z j=>by
      refine c0e.some (AV.deeps [n] []) (FW.deeps (by simpa using k)) (.one .dead) [n] (by simpa using k) (fun _=>some ⟨true,t2,z⟩) fun Γ2 hA ρ K=>?_
      rw[st Γ2 hA,if_neg hc];simp only[AE.overP];rw[j Γ2 hA,p0z,h0d (by exact hA.1.trans i)];congr 1;simp only[AE.setRt,AE.mapv,c0z]
     have a:∀Γ2,Same W (a0h o) Γ Γ2→Γ2.look n=some r:=fun Γ2 hA=>(v Γ2 hA).trans hr;cases x with
     |val t' y=>
      by_cases hcc:r.bx=true∧(r.t.sh=t∧(t'.shn=t'∧t'.sh=t))
      ·cases h1:castTo t' r.t y with
       |some z=>exact w r.t z fun Γ2 hA ρ K=>by simp only[AE.over,a Γ2 hA,if_pos hcc,h1]
       |none=>
        cases j:castTo t' r.t.shn y with
        |some z=>exact w r.t.shn z fun Γ2 hA ρ K=>by simp only[AE.over,a Γ2 hA,if_pos hcc,h1,j]
        |none=>exact w t' y fun Γ2 hA ρ K=>by simp only[AE.over,a Γ2 hA,if_pos hcc,h1,j]
      exact A fun Γ2 hA ρ K=>by simp only[AE.over,a Γ2 hA,if_neg hcc]
     |_=>exact A fun Γ2 hA ρ K=>rfl
  cases u:a0p r.t r.x p with
  |mk f l=>
   cases f with
   |list o' e=>
    cases o' with
    |false=>exact c _ l u (by simp)
    |true=>
     by_cases hty:t.isList=true
     ·have A:(∀Γ2,Same W (a0h o) Γ Γ2→∀{ρ:Type}(K:AE→Rs ρ),Γ2.stor t n p x K=none)→c0e g cx o d Γ W:=fun j=>c0e.none fun Γ2 hA ρ K=>by rw[h Γ2 hA];exact j Γ2 hA _
      cases x with
      |nils=>
       refine c0e.some (AV.kill n p) (FW.kill k p) (.one .dead) [n] (by simpa using k) (fun _=>some ⟨r.bx,r.t,b0s r.t r.x p (.list true e) []⟩) fun Γ2 hA ρ K=>?_
       rw[h Γ2 hA];simp only[AE.stor,b Γ2 hA,hr,u,hty,if_true,v Γ2 hA];rw[p0z,h0d (by exact hA.1.trans i)];congr 1;simp only[AE.setRt,AE.mapv,c0z]
      |sref m q=>cases hv
      |_=>exact A fun Γ2 hA ρ K=>by simp only[AE.stor,b Γ2 hA,hr,u,hty,if_true]
     exact c0e.none fun Γ2 hA ρ K=>by rw[h Γ2 hA];simp only[AE.stor,b Γ2 hA,hr,u,hty,if_false,a05]
   |_=>exact c _ l u (by simp)
theorem j0f(g:Same W (a0h o) Γ Γ2):wOk cx o Γ2=wOk cx o Γ:=by
 unfold wOk;cases ho:o.op<;>try rfl
 case store t a x=>
  simp only[];rw[g.opd (by rw[ho];simp[Op.operands]),g.aggOf (by rw[ho];simp[Op.operands])]
 rename_i c;simp only[];cases hc:c.callee with
 |value v=>
  cases v with
  |func f=>
   simp only[];cases cx.C f with
   |none=>rfl
   |some s=>
    simp only[];congr 1
    have:∀x∈c.args.toList,(Γ2.opd x).viewed.isEmpty=(Γ.opd x).viewed.isEmpty:=fun x k=>by rw[g.opd (h0b ho x k)]
    exact all_congr' this
  |_=>rfl
 |builtin b=>cases b<;>rfl
 |invoke r n=>rfl
where
 all_congr' {α:Type} {l:List α} {p q:α→Bool} (h:∀x∈l,p x=q x):l.all p=l.all q:=by
  induction l with
  |nil=>rfl
  |cons a l ih=>simp only[a12];rw[h a (by simp),ih fun x k=>h x (by simp[k])]
theorem h0v(f:∀t∈a0h o,Γ2.sl t=Γ.sl t):Γ2.foot o=Γ.foot o:=by
 unfold AE.foot
 have:∀x∈o.op.operands.toList,(match x with
  |.tmp t=>(Γ2.sl t).refs
  |_=>[])=(match x with
  |.tmp t=>(Γ.sl t).refs
  |_=>[]):=fun x g=>by
  cases x with
  |tmp t=>simp only[f t (c0a g)]
  |_=>rfl
 exact flatMap_congr' this
where
 flatMap_congr' {α β:Type} {l:List α} {p q:α→List β} (h:∀x∈l,p x=q x):l.flatMap p=l.flatMap q:=by
  induction l with
  |nil=>rfl
  |cons a l ih=>simp only[List.flatMap_cons];rw[h a (by simp),ih fun x g=>h x (by simp[g])]
theorem k0o(l:Γ.pd=none)(k:wOk cx o Γ=true)(e:∀n∈Γ.foot o,n∈W)(r:∀n∈d0y cx o (o.dst.getD 0),n∈W):c0e g cx o o.dst Γ W:=by
 unfold wOk at k
 split at k
 rename_i c q
 split at k
 rename_i w;simp only[bA,a18]at k;obtain⟨d,hd⟩:=a00.1 k.1;rw[hd];exact w0h q w hd l e (r d (by rw[hd];exact a13)) k.2;rename_i f w
 split at k
 rename_i s hs;refine A0u q w rfl l hs e r ?_
 simp only[a39,a18]at k;refine k.imp id fun h a m=>?_
 obtain⟨x,v,rfl⟩:=a17.1 m
 have:=lA.1 h x v
 simpa using this;cases k;cases k
 ·rename_i t a x q;have m:a∈o.op.operands.toList:=by rw[q];simp[Op.operands]
  have v:x∈o.op.operands.toList:=by rw[q];simp[Op.operands]
  obtain⟨k,b⟩:=a03.1 k;obtain⟨b,i⟩:=a03.1 b;have b:Γ.aggOf x=none:=by simpa using b
  have i:cx.nilMark a x=false:=by simpa using i
  have j:∀Γ2:AE,Same W (a0h o) Γ Γ2→∀{ρ:Type}(K:AE→Rs ρ),aop cx false o Γ2 K=(match Γ2.opd a with
    |.ptr n p=>(match cx.T t with
     |some t=>Γ2.stor t n p (Γ2.opd x) fun Γ=>K (Γ.setD o.dst .dead)
     |none=>none)
    |_=>none):=fun Γ2 hA ρ K=>by
   have u:Γ2.aggOf x=none:=(hA.aggOf v).trans b;unfold aop;rw[q];simp only[y0n Γ2 i,u];cases o.dst<;>rfl
  cases hpa:Γ.opd a with
  |ptr n p=>
   cases ht:cx.T t with
   |none=>exact c0e.none fun Γ2 hA ρ K=>by rw[j Γ2 hA,hA.opd m,hpa,ht]
   |some τ=>
    refine A0v l (t:=τ) (n:=n) (p:=p) (x:=Γ.opd x) (e n (p0s m (by rw[hpa];simp[AV.refs]))) (by simpa using k) fun Γ2 hA ρ K=>?_
    rw[j Γ2 hA,hA.opd m,hpa,ht,hA.opd v]
  |_=>exact c0e.none fun Γ2 hA ρ K=>by rw[j Γ2 hA,hA.opd m,hpa]
 cases k
theorem j0o{ρ:Type}{ops:Array Oper}{ws:List Nat}{K:AE→Rs ρ}{z:ρ}(k:a0g cx (.w ws) ops.toList o Γ K=some z):
  ∃(W:List Nat)(m:MDl),FW W m.f∧(∀n∈W,n∈ws)∧K (c0d W m o.dst Γ)=some z∧
   ∀Γ2,Same W (o.looksAt ops) Γ Γ2→∀{ρ2:Type}(K2:AE→Rs ρ2),a0g cx (.w ws) ops.toList o Γ2 K2=K2 (c0d W m o.dst Γ2):=by
 rw[b0i]at k;cases hl:a0n ops o Γ with
 |none=>rw[hl]at k;cases k
 |some b=>
  rw[hl]at k;cases b with
  |false=>
   have s:∀Γ2:AE,Γ2.setD o.dst .skp=c0d [] ⟨id,fun _=>none,.one .skp,none⟩ o.dst Γ2:=fun Γ2=>by
    simp only[c0d,c0x];cases o.dst with
    |none=>rfl
    |some d=>
     simp only[AE.setD,AE.set,AE.put];congr 1;funext i
     by_cases h:i=d
     subst h;simp;have v:(i==d)=false:=by simpa using h
     have x:(some d==some i)=false:=by simpa using Ne.symm h
     rw[v,x]
   refine⟨[],⟨id,fun _=>none,.one .skp,none⟩,FW.id,fun n e=>(by cases e),by rw[←s Γ];exact k,fun Γ2 hA ρ2 K2=>?_⟩;rw[b0i,b0p hA.2.2,hl,←s Γ2]
  |true=>
   simp only[b0d]at k;cases hpd:Γ.pd with
   |some p=>rw[hpd]at k;cases k
   |none=>
    rw[hpd]at k;simp only[]at k;obtain⟨a,k⟩:=(a0b k).elim id fun h=>by cases h.2
    simp only[bA]at a;obtain⟨a,l,q⟩:=a
    let W:=Γ.foot o++d0y cx o (o.dst.getD 0)
    obtain⟨r,j,u⟩:=k0o (g:=true) (cx:=cx) (W:=W) hpd a (fun n e=>a06 _ e) (fun n e=>a04 _ e);have k:aop cx false o Γ (gPd true K)=some z:=k;rw[u Γ Same.refl]at k;cases r with
    |none=>cases k
    |some m=>
     have k:K (b0t W m o.dst Γ)=some z:=k;rw[h0x ((j m rfl).2.1 rfl)]at k;refine⟨W,m,(j m rfl).1,fun n e=>(mA.1 e).elim (e0g l) (e0g q),k,fun Γ2 hA ρ2 K2=>?_⟩;have c:Same W (a0h o) Γ Γ2:=⟨hA.1,hA.2.1,fun t y=>hA.2.2 t (b0u y)⟩;rw[b0i,b0p hA.2.2,hl];simp only[b0d];rw[hA.1,hpd,j0f c,a,h0v c.2.2,l,q];refine Eq.trans (u Γ2 c K2) ?_
     simp only[f0d];rw[h0x ((j m rfl).2.1 rfl)]
theorem C0f{ρ:Type}{ops:Array Oper}{ws:List Nat}{K:AE→Rs ρ}{z:ρ}(k:a0g cx (.a ws) ops.toList o Γ K=some z):
  ∃(W:List Nat)(m:MDl),FW W m.f∧(∀n∈W,n∈ws)∧K (b0t W m o.dst Γ)=some z∧
   ∀Γ2,Same W (o.looksAt ops) Γ Γ2→∀{ρ2:Type}(K2:AE→Rs ρ2),a0g cx (.a ws) ops.toList o Γ2 K2=K2 (b0t W m o.dst Γ2):=by
 rw[b0i]at k;cases hl:a0n ops o Γ with
 |none=>rw[hl]at k;cases k
 |some b=>
  rw[hl]at k;cases b with
  |false=>
   have s:∀Γ2:AE,Γ2.setD o.dst .skp=c0d [] ⟨id,fun _=>none,.one .skp,none⟩ o.dst Γ2:=fun Γ2=>by
    simp only[c0d,c0x];cases o.dst with
    |none=>rfl
    |some d=>
     simp only[AE.setD,AE.set,AE.put];congr 1;funext i
     by_cases h:i=d
     subst h;simp;have w:(i==d)=false:=by simpa using h
     have x:(some d==some i)=false:=by simpa using Ne.symm h
     rw[w,x]
   refine⟨[],⟨id,fun _=>none,.one .skp,none⟩,FW.id,fun n j=>(by cases j),by rw[h0x rfl,←s Γ];exact k,fun Γ2 hA ρ2 K2=>?_⟩;rw[b0i,b0p hA.2.2,hl,h0x rfl,←s Γ2]
  |true=>
   simp only[b0d]at k;cases hpd:Γ.pd with
   |some p=>rw[hpd]at k;cases k
   |none=>
    rw[hpd]at k;simp only[]at k;obtain⟨c,k⟩:=(a0b k).elim id fun h=>by cases h.2
    simp only[bA]at c;obtain⟨c,l,q⟩:=c
    let W:=Γ.foot o++d0y cx o (o.dst.getD 0)
    obtain⟨r,u,v⟩:=k0o (g:=false) (cx:=cx) (W:=W) hpd c (fun n j=>a06 _ j) (fun n j=>a04 _ j);have k:aop cx false o Γ (gPd false K)=some z:=k;rw[v Γ Same.refl]at k;cases r with
    |none=>cases k
    |some m=>
     have k:K (b0t W m o.dst Γ)=some z:=k;refine⟨W,m,(u m rfl).1,fun n j=>(mA.1 j).elim (e0g l) (e0g q),k,fun Γ2 hA ρ2 K2=>?_⟩;have e:Same W (a0h o) Γ Γ2:=⟨hA.1,hA.2.1,fun t y=>hA.2.2 t (b0u y)⟩;rw[b0i,b0p hA.2.2,hl];simp only[b0d];rw[hA.1,hpd,j0f e,c,h0v e.2.2,l,q];exact v Γ2 e K2
theorem j0z:∀{p q:a0l},d0d p q=true→q.all Step.isField=true→p.all Step.isField=true
 | [],_,_,_=>rfl
 |.fst::p,.fst::q,h,h2=>by
  simp only[a12,bA]at h2⊢;exact⟨rfl,j0z h h2.2⟩
 |.snd::p,.snd::q,h,h2=>by
  simp only[a12,bA]at h2⊢;exact⟨rfl,j0z h h2.2⟩
 |.idx _::p,.idx _::q,h,h2=>by simp[Step.isField]at h2
theorem y0l(hp:p.all Step.isField=false){sv:SV}(h:sv.still=true):sv.mapv (AV.kill n p)=sv:=by
 cases sv with
 |one v=>
  have key:∀q:a0l,q.all Step.isField=true→d0d p q=false:=fun q g=>by
   cases hb:d0d p q with
   |false=>rfl
   |true=>rw[j0z hb g]at hp;cases hp
  cases v with
  |ptr m q=>simp only[SV.mapv,AV.kill,key q h,a54,a30];rfl
  |sref m q=>simp only[SV.mapv,AV.kill,key q h,a54];rfl
  |swin=>cases h
  |_=>rfl
 |cmp c vs=>exact(FW.kill (W:=[n]) (by simp) p).fp.sv (e0u h)
theorem t0r{ρ:Type}{ops:Array Oper}{ws:List Nat}{K:AE→Rs ρ}{z:ρ}(a:a0g cx (.b ws) ops.toList o Γ K=some z):
  ∃(W:List Nat)(m:MDl),FW W m.f∧(∀n∈W,n∈ws)∧(∀sv:SV,sv.still=true→sv.mapv m.f=sv)∧(∀n∈W,tyq (m.rt n)=tyq (Γ.rt n))∧(b0t W m o.dst Γ).pdElem=Γ.pdElem∧K (b0t W m o.dst Γ)=some z∧
   ∀Γ2,Same W (o.looksAt ops) Γ Γ2→(∀{ρ2:Type}(K2:AE→Rs ρ2),a0g cx (.b ws) ops.toList o Γ2 K2=K2 (b0t W m o.dst Γ2)):=by
 rw[b0i]at a;cases hl:a0n ops o Γ with
 |none=>rw[hl]at a;cases a
 |some b=>
  rw[hl]at a;cases b with
  |false=>
   have v:∀Γ2:AE,Γ2.setD o.dst .skp=c0d [] ⟨id,fun _=>none,.one .skp,none⟩ o.dst Γ2:=fun Γ2=>by
    simp only[c0d,c0x];cases o.dst with
    |none=>rfl
    |some d=>
     simp only[AE.setD,AE.set,AE.put];congr 1;funext i
     by_cases h:i=d
     subst h;simp;have D:(i==d)=false:=by simpa using h
     have E:(some d==some i)=false:=by simpa using Ne.symm h
     rw[D,E]
   refine⟨[],⟨id,fun _=>none,.one .skp,none⟩,FW.id,fun n j=>(by cases j),fun sv _=>c0x sv,fun n j=>(by cases j),by rw[h0x rfl];rfl,by rw[h0x rfl,←v Γ];exact a,fun Γ2 hA ρ2 K2=>?_⟩;rw[b0i,b0p hA.2.2,hl,h0x rfl,←v Γ2]
  |true=>
   simp only[b0d]at a;cases hpd:Γ.pd with
   |some p=>rw[hpd]at a;cases a
   |none=>
    rw[hpd]at a;simp only[]at a;obtain⟨c,a⟩:=(a0b a).elim id fun h=>by cases h.2
    simp only[bA]at c;obtain⟨c,s,u⟩:=c
    let W:=Γ.foot o++d0y cx o (o.dst.getD 0)
    obtain⟨r,B,G⟩:=k0o (g:=false) (cx:=cx) (W:=W) hpd c (fun n j=>a06 _ j) (fun n j=>a04 _ j);have q:∀Γ2,Same W (a0h o) Γ Γ2→∀{ρ:Type}(K:AE→Rs ρ),aop cx false o Γ2 K=f0d W r o.dst Γ2 K:=fun Γ2 hA ρ K=>G Γ2 hA K;rw[q Γ Same.refl]at a;cases r with
    |none=>cases a
    |some m=>
     obtain⟨w,-,A⟩:=B m rfl;cases hmp:m.pd with
     |none=>
      simp only[f0d,b0t,hmp,hpd]at a;cases a
     |some x=>
      obtain⟨n,p,d⟩:=x;obtain⟨hf,-,C⟩:=A n p d hmp;have hty:=fun k F=>o0f (C k F);have e:∀Γ2:AE,(b0t W m o.dst Γ2).pd=some (n,p,d):=fun Γ2=>by simp only[b0t,hmp]
      simp only[f0d,e]at a;obtain⟨hp,a⟩:=(a0b a).elim id fun h=>by cases h.2
      have y:p.all Step.isField=false:=by simpa using hp
      refine⟨W,m,w,fun n j=>(mA.1 j).elim (e0g s) (e0g u),fun sv h=>by rw[hf];exact y0l y h,hty,by simp only[AE.pdElem,e,hp,hpd],a,fun Γ2 hA ρ2 K2=>?_⟩;have l:Same W (a0h o) Γ Γ2:=⟨hA.1,hA.2.1,fun t H=>hA.2.2 t (b0u H)⟩;rw[b0i,b0p hA.2.2,hl];simp only[b0d];rw[hA.1,hpd,j0f l,c,h0v l.2.2,s,u];simp only[a26,cT];rw[q Γ2 l];simp only[f0d,e,hp,cT]
theorem m0h:∀(p:a0l)(t:Ty)(x:t.den)(q:a0l){τ e:Ty}{l:List e.den},b0j p t x=⟨.list true e,l⟩→tyF t q=some τ→d0d p q=true→p.length<q.length→False
 | [],t,x,q,τ,e,l,h,h2,_,h3=>by
  simp only[b0j]at h;cases h;cases q with
  |nil=>simp at h3
  |cons s q=>cases s<;>cases h2
 |.fst::p,t,x,q,τ,e,l,h,h2,h3,h4=>by
  cases q with
  |nil=>cases h3
  |cons s q=>cases s with
   |fst=>cases t with
    |pair a b=>exact m0h p a x.1 q h h2 h3 (by simpa using h4)
    |_=>cases h
   |_=>cases h3
 |.snd::p,t,x,q,τ,e,l,h,h2,h3,h4=>by
  cases q with
  |nil=>cases h3
  |cons s q=>cases s with
   |snd=>cases t with
    |pair a b=>exact m0h p b x.2 q h h2 h3 (by simpa using h4)
    |_=>cases h
   |_=>cases h3
 |.idx i::p,t,x,q,τ,e,l,h,h2,h3,h4=>by
  cases q with
  |nil=>cases h3
  |cons s q=>cases s with
   |idx j=>cases t<;>cases h2
   |_=>cases h3
theorem s0u(c:Γ.rt n=some r)(b:a0p r.t r.x p=⟨.list true e,l⟩){sv:SV}(h:l0b Γ.rt sv):sv.mapv (AV.kill n p)=sv:=by
 rcases h with h|⟨m,q,d,τ,rfl,g,k⟩;exact(FW.kill (W:=[n]) (by simp) p).fp.sv (e0u h);simp only[SV.mapv,AV.kill];split;rename_i f;simp only[bA,beq_iff_eq,dT]at f;obtain⟨⟨rfl,a⟩,h5⟩:=f;rw[c]at g;cases g;exact(m0h p r.t r.x q b k a h5).elim;rfl
theorem t0t{ρ:Type}{ops:Array Oper}{ws:List Nat}{K:AE→Rs ρ}{z:ρ}(k:a0g cx (.c ws) ops.toList o Γ K=some z):
  ∃(W:List Nat)(m:MDl),FW W m.f∧(∀n∈W,n∈ws)∧(∀sv:SV,l0b Γ.rt sv→sv.mapv m.f=sv)∧(∀n∈W,scq (m.rt n)=scq (Γ.rt n))∧K (b0t W m o.dst Γ)=some z∧
   ∀Γ2,Same W (o.looksAt ops) Γ Γ2→(∀{ρ2:Type}(K2:AE→Rs ρ2),a0g cx (.c ws) ops.toList o Γ2 K2=K2 (b0t W m o.dst Γ2)):=by
 rw[b0i]at k;cases hl:a0n ops o Γ with
 |none=>rw[hl]at k;cases k
 |some b=>
  rw[hl]at k;cases b with
  |false=>
   have v:∀Γ2:AE,Γ2.setD o.dst .skp=c0d [] ⟨id,fun _=>none,.one .skp,none⟩ o.dst Γ2:=fun Γ2=>by
    simp only[c0d,c0x];cases o.dst with
    |none=>rfl
    |some d=>
     simp only[AE.setD,AE.set,AE.put];congr 1;funext i
     by_cases h:i=d
     subst h;simp;have D:(i==d)=false:=by simpa using h
     have E:(some d==some i)=false:=by simpa using Ne.symm h
     rw[D,E]
   refine⟨[],⟨id,fun _=>none,.one .skp,none⟩,FW.id,fun n e=>(by cases e),fun sv _=>c0x sv,fun n e=>(by cases e),by rw[h0x rfl,←v Γ];exact k,fun Γ2 hA ρ2 K2=>?_⟩;rw[b0i,b0p hA.2.2,hl,h0x rfl,←v Γ2]
  |true=>
   simp only[b0d]at k;cases hpd:Γ.pd with
   |some p=>rw[hpd]at k;cases k
   |none=>
    rw[hpd]at k;simp only[]at k;obtain⟨a,k⟩:=(a0b k).elim id fun h=>by cases h.2
    simp only[bA]at a;obtain⟨a,s,u⟩:=a
    let W:=Γ.foot o++d0y cx o (o.dst.getD 0)
    obtain⟨r,B,F⟩:=k0o (g:=false) (cx:=cx) (W:=W) hpd a (fun n e=>a06 _ e) (fun n e=>a04 _ e);have q:∀Γ2,Same W (a0h o) Γ Γ2→∀{ρ:Type}(K:AE→Rs ρ),aop cx false o Γ2 K=f0d W r o.dst Γ2 K:=fun Γ2 hA ρ K=>F Γ2 hA K;rw[q Γ Same.refl]at k;cases r with
    |none=>cases k
    |some m=>
     obtain⟨w,-,A⟩:=B m rfl;cases hmp:m.pd with
     |none=>
      simp only[f0d,b0t,hmp,hpd]at k;cases k
     |some x=>
      obtain⟨n,p,d⟩:=x;obtain⟨hf,⟨J,H,I,C,y⟩,hsc⟩:=A n p d hmp;have j:∀Γ2:AE,(b0t W m o.dst Γ2).pd=some (n,p,d):=fun Γ2=>by simp only[b0t,hmp]
      simp only[f0d,j]at k;obtain⟨hp,k⟩:=(a0b k).elim id fun h=>by cases h.2
      refine⟨W,m,w,fun n e=>(mA.1 e).elim (e0g s) (e0g u),fun sv h=>by rw[hf];exact s0u C y h,hsc,k,fun Γ2 hA ρ2 K2=>?_⟩;have l:Same W (a0h o) Γ Γ2:=⟨hA.1,hA.2.1,fun t G=>hA.2.2 t (b0u G)⟩;rw[b0i,b0p hA.2.2,hl];simp only[b0d];rw[hA.1,hpd,j0f l,a,h0v l.2.2,s,u];simp only[a26,cT];rw[q Γ2 l];simp only[f0d,j,hp,cT]
theorem z0l{ρ:Type}{ops:Array Oper}{ws:List Nat}{K:AE→Rs ρ}{z:ρ}(k:a0g cx (.b ws) ops.toList o Γ K=some z):
  ∃(W:List Nat)(m:MDl),FW W m.f∧(∀n∈W,n∈ws)∧(∀sv:SV,l0b Γ.rt sv→sv.mapv m.f=sv)∧(∀n∈W,scq (m.rt n)=scq (Γ.rt n))∧K (b0t W m o.dst Γ)=some z∧
   ∀Γ2,Same W (o.looksAt ops) Γ Γ2→(∀{ρ2:Type}(K2:AE→Rs ρ2),a0g cx (.b ws) ops.toList o Γ2 K2=K2 (b0t W m o.dst Γ2)):=by
 rw[b0i]at k;cases hl:a0n ops o Γ with
 |none=>rw[hl]at k;cases k
 |some b=>
  rw[hl]at k;cases b with
  |false=>
   have u:∀Γ2:AE,Γ2.setD o.dst .skp=c0d [] ⟨id,fun _=>none,.one .skp,none⟩ o.dst Γ2:=fun Γ2=>by
    simp only[c0d,c0x];cases o.dst with
    |none=>rfl
    |some d=>
     simp only[AE.setD,AE.set,AE.put];congr 1;funext i
     by_cases h:i=d
     subst h;simp;have C:(i==d)=false:=by simpa using h
     have D:(some d==some i)=false:=by simpa using Ne.symm h
     rw[C,D]
   refine⟨[],⟨id,fun _=>none,.one .skp,none⟩,FW.id,fun n c=>(by cases c),fun sv _=>c0x sv,fun n c=>(by cases c),by rw[h0x rfl,←u Γ];exact k,fun Γ2 hA ρ2 K2=>?_⟩;rw[b0i,b0p hA.2.2,hl,h0x rfl,←u Γ2]
  |true=>
   simp only[b0d]at k;cases hpd:Γ.pd with
   |some p=>rw[hpd]at k;cases k
   |none=>
    rw[hpd]at k;simp only[]at k;obtain⟨a,k⟩:=(a0b k).elim id fun h=>by cases h.2
    simp only[bA]at a;obtain⟨a,q,s⟩:=a
    let W:=Γ.foot o++d0y cx o (o.dst.getD 0)
    obtain⟨r,A,E⟩:=k0o (g:=false) (cx:=cx) (W:=W) hpd a (fun n c=>a06 _ c) (fun n c=>a04 _ c);have l:∀Γ2,Same W (a0h o) Γ Γ2→∀{ρ:Type}(K:AE→Rs ρ),aop cx false o Γ2 K=f0d W r o.dst Γ2 K:=fun Γ2 hA ρ K=>E Γ2 hA K;rw[l Γ Same.refl]at k;cases r with
    |none=>cases k
    |some m=>
     obtain⟨v,-,y⟩:=A m rfl;cases hmp:m.pd with
     |none=>
      simp only[f0d,b0t,hmp,hpd]at k;cases k
     |some x=>
      obtain⟨n,p,d⟩:=x;obtain⟨hf,⟨I,G,H,B,w⟩,hsc⟩:=y n p d hmp;have e:∀Γ2:AE,(b0t W m o.dst Γ2).pd=some (n,p,d):=fun Γ2=>by simp only[b0t,hmp]
      simp only[f0d,e]at k;obtain⟨hp,k⟩:=(a0b k).elim id fun h=>by cases h.2
      refine⟨W,m,v,fun n c=>(mA.1 c).elim (e0g q) (e0g s),fun sv h=>by rw[hf];exact s0u B w h,hsc,k,fun Γ2 hA ρ2 K2=>?_⟩;have j:Same W (a0h o) Γ Γ2:=⟨hA.1,hA.2.1,fun t F=>hA.2.2 t (b0u F)⟩;rw[b0i,b0p hA.2.2,hl];simp only[b0d];rw[hA.1,hpd,j0f j,a,h0v j.2.2,q,s];simp only[a26,cT];rw[l Γ2 j];simp only[f0d,e,hp,cT]
theorem A0f{Γ:AE}(h:Γ.kst cx o=some (n,r))(g:Same [n] (a0h o) Γ Γ2):Γ2.kst cx o=some (n,r):=by
 unfold AE.kst at h⊢
 split at h
 rename_i t a x f;rw[g.opd (x:=a) (by simp[f,Op.operands]),g.opd (x:=x) (by simp[f,Op.operands])]
 split at h
 rename_i m p i y ty k d hT
 split at h
 rename_i e c
 split at h
 rename_i b;cases h
 have:Γ2.look n=some e:=by rw[←c];simp only[AE.look,g.1,g.2.1 n (by simp)]
 simp only[k,d,hT,this];rw[if_pos b];cases h;cases h;cases h;cases h
theorem y0k{ρ:Type}{ops:Array Oper}{ws:List Nat}{K:AE→Rs ρ}{z:ρ}(g:a0g cx (.k ws) ops.toList o Γ K=some z):
  ∃(W:List Nat)(m:MDl),m.f=id∧K (c0d W m o.dst Γ)=some z∧
   ∀Γ2,Same W (o.looksAt ops) Γ Γ2→∀{ρ2:Type}(K2:AE→Rs ρ2),a0g cx (.k ws) ops.toList o Γ2 K2=K2 (c0d W m o.dst Γ2):=by
 have a:∀(W:List Nat)(rt:Nat→Option Root)(v:AV)(Γ2:AE),(AE.mk Γ2.sl (fun n=>bif W.contains n then rt n else Γ2.rt n) Γ2.pd).setD o.dst v=c0d W ⟨id,rt,.one v,none⟩ o.dst Γ2:=fun W rt v Γ2=>by
  simp only[c0d,c0x];cases o.dst with
  |none=>rfl
  |some d=>
   simp only[AE.setD,AE.set,AE.put];congr 1;funext i
   by_cases h:i=d
   subst h;simp;have l:(i==d)=false:=by simpa using h
   have p:(some d==some i)=false:=by simpa using Ne.symm h
   rw[l,p]
 rw[b0i]at g;cases hl:a0n ops o Γ with
 |none=>rw[hl]at g;cases g
 |some b=>
  rw[hl]at g;cases b with
  |false=>
   refine⟨[],⟨id,fun _=>none,.one .skp,none⟩,rfl,by rw[←a [] _ _ Γ];exact g,fun Γ2 hA ρ2 K2=>?_⟩;rw[b0i,b0p hA.2.2,hl,←a [] _ _ Γ2];rfl
  |true=>
   simp only[b0d]at g
   split at g
   rename_i n r s;obtain⟨q,g⟩:=(a0b g).elim id fun h=>by cases h.2
   have c:∀Γ2:AE,Γ2.setRt n (some r)=AE.mk Γ2.sl (fun m=>bif [n].contains m then some r else Γ2.rt m) Γ2.pd:=fun Γ2=>by
    simp only[AE.setRt];congr 1;funext j
    by_cases e:j=n
    subst e;simp;have l:(j==n)=false:=by simpa using e
    have p:([n].contains j)=false:=by simpa using e
    rw[l,p]
   refine⟨[n],⟨id,fun _=>some r,.one .dead,none⟩,rfl,by rw[←a [n] _ _ Γ,←c];exact g,fun Γ2 hA ρ2 K2=>?_⟩;rw[b0i,b0p hA.2.2,hl];simp only[b0d];rw[A0f s ⟨hA.1,hA.2.1,fun t u=>hA.2.2 t (b0u u)⟩];simp only[q,cT];rw[←a [n] _ _ Γ2,←c];cases g
end
theorem AE.ext'(k:∀i,Γ.sl i=Γ2.sl i)(d:∀n,Γ.rt n=Γ2.rt n)(e:Γ.pd=Γ2.pd):Γ=Γ2:=by
 obtain⟨a,b,c⟩:=Γ;obtain⟨h,g,f⟩:=Γ2;obtain rfl:a=h:=funext k;obtain rfl:b=g:=funext d;obtain rfl:c=f:=e;rfl
theorem i0x(δ:Dl)(d:Nat)(Γ:AE)(i:Nat):(δ.app d Γ).sl i=if i=d then δ.sv else Γ.sl i:=by
 simp only[Dl.app]
 by_cases h:i=d
 simp[h]
 have:(i==d)=false:=by simpa using h
 simp[this,h]
theorem c0f{d:Nat}(h:find δ.rs n=none):(δ.app d Γ).rt n=Γ.rt n:=by simp[Dl.app,h]
theorem v0i{d:Nat}(h:find δ.rs n≠none):(δ.app d Γ).rt n≠none:=by
 cases e:find δ.rs n with
 |none=>exact absurd e h
 |some r=>simp[Dl.app,e]
theorem n0j{d:Nat}(h:∀n,find δ.rs n≠none→Γ.rt n=none)(g:Γ.rt n≠none):(δ.app d Γ).rt n=Γ.rt n:=
 c0f (by
  cases e:find δ.rs n with
  |none=>rfl
  |some r=>exact absurd (h n (by rw[e];simp)) g)
theorem c0c(W:List Nat)(m:MDl)(d:Option Nat)(Γ:AE)(i:Nat):(c0d W m d Γ).sl i=if d=some i then m.sv else(Γ.sl i).mapv m.f:=by
 simp only[c0d]
 by_cases h:d=some i
 subst h;simp
 have:(d==some i)=false:=by simpa using h
 rw[if_neg h,this];rfl
theorem g0j(h:n∉W):(c0d W m d Γ).rt n=Γ.rt n:=by
 simp only[c0d]
 have:W.contains n=false:=by
  cases e:W.contains n with
  |false=>rfl
  |true=>exact absurd (by simpa using e) h
 rw[this];rfl
theorem p0q{a:List Nat}(h:disj a b=true)(g:n∈a):n∉b:=by
 have:=lA.1 h n g
 simpa using this
theorem b0g(Γ:AE)(d:Nat)(sv:SV)(i:Nat):(Γ.put d sv).sl i=if i=d then sv else Γ.sl i:=by
 simp only[AE.put]
 by_cases h:i=d
 simp[h]
 have:(i==d)=false:=by simpa using h
 simp[this,h]
section
variable {ρ:Type} {cx:Cx} {ops:Array Oper} {k i:Oper} {dk di:Nat} {Γ:AE} {K:AE→Rs ρ} {z:ρ}
theorem D0p(x:mk.quiet)(w:mi.quiet)(a:k.dst=some dk)(f:i.dst=some di)(v:k.apart ops i=true)(g:∀t∈i.looksAt ops,∀n∈(Γ.sl t).refs,mi.reads n→Γ.rt n≠none)(J:a0g cx mk ops.toList k Γ (fun Γ1=>a0g cx mi ops.toList i Γ1 K)=some z):a0g cx mi ops.toList i Γ (fun Γ1=>a0g cx mk ops.toList k Γ1 K)=some z:=by
 obtain⟨a1,o,p⟩:=Oper.apart_spec v;have a1:=a1 dk a;have o:di≠dk:=fun e=>o dk a (by rw[f,e]);have p:=p di f;obtain⟨δk,D,A,G,B,H⟩:=v0f x a J;obtain⟨δi,C,q,E,y,F⟩:=v0f w f G;have d:∀n,find δi.rs n≠none→find δk.rs n=none:=fun n h=>by
  have:=y n h
  cases e:find δk.rs n with
  |none=>rfl
  |some r=>exact absurd this (v0i (by rw[e];simp))
 have l:∀n,find δi.rs n≠none→Γ.rt n=none:=fun n h=>by rw[←y n h,c0f (d n h)]
 have s:t0y mi C (δk.app dk Γ) Γ:=by
  refine⟨rfl,fun t c=>?_⟩;have b:t≠dk:=fun e=>a1 (e▸(q t c).1);have hs:(δk.app dk Γ).sl t=Γ.sl t:=by rw[i0x,if_neg b]
  refine⟨hs.symm,fun n h=>?_⟩;intro hv;have I:=((q t c).2 n h hv).1;rw[hs]at h;exact(n0j B (g t (q t c).1 n h I)).symm
 rw[F Γ s l];have u:t0y mk D Γ (δi.app di Γ):=by
  refine⟨rfl,fun t c=>?_⟩;have b:t≠di:=fun e=>p (e▸(A t c).1);exact⟨by rw[i0x,if_neg b],fun n h hv=>n0j l ((A t c).2 n h hv).2⟩
 have m:∀n,find δk.rs n≠none→find δi.rs n=none:=fun n h=>by
  cases e:find δi.rs n with
  |none=>rfl
  |some r=>exact absurd (d n (by rw[e];simp)) h
 rw[H _ u fun n h=>by rw[c0f (m n h)];exact B n h,←E];congr 1;refine AE.ext' (fun j=>?_) (fun n=>?_) rfl;simp only[i0x]
 by_cases e1:j=dk
 rw[if_pos e1,if_neg (fun e=>o (e.symm.trans e1)),if_pos e1];rw[if_neg e1,if_neg e1]
 ·cases e1:find δk.rs n with
  |none=>
   rw[c0f e1];cases e2:find δi.rs n with
   |none=>rw[c0f e2,c0f e2,c0f e1]
   |some r=>simp[Dl.app,e2]
  |some r=>
   rw[c0f (m n (by rw[e1];simp))];simp[Dl.app,e1]
theorem r0e{d:Nat}(g:md=.p∨md=.u)(hd:o.dst=some d)(h:a0g cx md ops.toList o Γ K=some z):
  ∃(sv:SV)(L:List Nat),sv.calm=true∧(∀t∈L,t∈o.looksAt ops∧(Γ.sl t).calm=true)∧K (Γ.put d sv)=some z∧
   ∀Γ2,(∀t∈L,Γ2.sl t=Γ.sl t)→∀{ρ2:Type}(K2:AE→Rs ρ2),a0g cx md ops.toList o Γ2 K2=K2 (Γ2.put d sv):=by
 rcases g with rfl|rfl;exact y0p hd h;exact o0x hd h
theorem w0i(i:md=.a ws∨md=.b ws∨md=.c ws)(e:a0g cx md ops.toList o Γ K=some z):
  ∃(W:List Nat)(m:MDl),FW W m.f∧(∀n∈W,n∈ws)∧K (b0t W m o.dst Γ)=some z∧
   ∀Γ2,Same W (o.looksAt ops) Γ Γ2→∀{ρ2:Type}(K2:AE→Rs ρ2),a0g cx md ops.toList o Γ2 K2=K2 (b0t W m o.dst Γ2):=by
 rcases i with rfl|rfl|rfl;exact C0f e;obtain⟨W,m,h,g,-,-,-,k,d⟩:=t0r e;exact⟨W,m,h,g,k,d⟩;obtain⟨W,m,h,g,-,-,k,d⟩:=t0t e;exact⟨W,m,h,g,k,d⟩
theorem D0v(h:k.dst=some dk)(b:k.apart ops i=true)(u:a0g cx .v ops.toList k Γ (fun Γ1=>a0g cx (.w ws) ops.toList i Γ1 K)=some z):a0g cx (.w ws) ops.toList i Γ (fun Γ1=>a0g cx .v ops.toList k Γ1 K)=some z:=by
 obtain⟨a1,a,l⟩:=Oper.apart_spec b;have a1:=a1 dk h;have a:=a dk h;obtain⟨sv,L,q,d,r,s⟩:=t0x h u;obtain⟨W,m,c,-,o,p⟩:=j0o r;have s1:Same W (i.looksAt ops) (Γ.put dk sv) Γ:=⟨rfl,fun _ _=>rfl,fun t f=>by
  have g:t≠dk:=fun e=>a1 (by rw[←e];exact f);rw[b0g,if_neg g]⟩
 have x:∀t∈L,(c0d W m i.dst Γ).sl t=Γ.sl t:=fun t f=>by
  have g:¬ i.dst=some t:=fun e=>l t e (d t f).1;rw[c0c,if_neg g];exact c.fp.sv (d t f).2
 rw[p Γ s1,s (c0d W m i.dst Γ) rfl x,←o];congr 1;refine AE.ext' (fun j=>?_) (fun n=>rfl) rfl;simp only[b0g,c0c]
 by_cases e1:j=dk
 subst e1;rw[if_pos rfl,if_neg a,if_pos rfl];exact(c.fp.sv q).symm;rw[if_neg e1,if_neg e1]
theorem D0y(h:i.dst=some di)(c:k.apart ops i=true)(x:a0g cx (.w ws) ops.toList k Γ (fun Γ1=>a0g cx .v ops.toList i Γ1 K)=some z):a0g cx .v ops.toList i Γ (fun Γ1=>a0g cx (.w ws) ops.toList k Γ1 K)=some z:=by
 obtain⟨a1,a,b⟩:=Oper.apart_spec c;have b:=b di h;have a:¬ k.dst=some di:=fun e=>a di e h;obtain⟨W,m,d,-,p,q⟩:=j0o x;obtain⟨sv,L,r,l,s,u⟩:=t0x h p;have s1:∀t∈L,Γ.sl t=(c0d W m k.dst Γ).sl t:=fun t f=>by
  have o:=(l t f).2;have g:¬ k.dst=some t:=fun e=>a1 t e (l t f).1;rw[c0c,if_neg g]at o⊢;exact(d.fp.sv' o).symm
 have y:Same W (k.looksAt ops) Γ (Γ.put di sv):=⟨rfl,fun _ _=>rfl,fun t f=>by
  have g:t≠di:=fun e=>b (by rw[←e];exact f);rw[b0g,if_neg g]⟩
 rw[u Γ rfl s1,q (Γ.put di sv) y,←s];congr 1;refine AE.ext' (fun j=>?_) (fun n=>rfl) rfl;simp only[b0g,c0c]
 by_cases e2:j=di
 subst e2;rw[if_neg a,if_pos rfl,if_pos rfl];exact d.fp.sv r;rw[if_neg e2,if_neg e2]
theorem c0p(W:List Nat)(m:MDl)(d:Option Nat)(Γ:AE)(i:Nat):(b0t W m d Γ).sl i=if d=some i then m.sv else(Γ.sl i).mapv m.f:=c0c W m d Γ i
theorem w0z(x:mk=.p∨mk=.u)(h:k.dst=some dk)(b:k.apart ops i=true)(y:a0g cx mk ops.toList k Γ (fun Γ1=>a0g cx (.w ws) ops.toList i Γ1 K)=some z):a0g cx (.w ws) ops.toList i Γ (fun Γ1=>a0g cx mk ops.toList k Γ1 K)=some z:=by
 obtain⟨a1,a,l⟩:=Oper.apart_spec b;have a1:=a1 dk h;have a:=a dk h;obtain⟨sv,L,r,d,s,v⟩:=r0e x h y;obtain⟨W,m,c,-,o,q⟩:=j0o s;have s1:Same W (i.looksAt ops) (Γ.put dk sv) Γ:=⟨rfl,fun _ _=>rfl,fun t f=>by
  have g:t≠dk:=fun e=>a1 (by rw[←e];exact f);rw[b0g,if_neg g]⟩
 have A:∀t∈L,(c0d W m i.dst Γ).sl t=Γ.sl t:=fun t f=>by
  have g:¬ i.dst=some t:=fun e=>l t e (d t f).1;rw[c0c,if_neg g];exact c.fp.sv (d t f).2
 rw[q Γ s1,v (c0d W m i.dst Γ) A,←o];congr 1;refine AE.ext' (fun j=>?_) (fun n=>rfl) rfl;simp only[b0g,c0c]
 by_cases e1:j=dk
 subst e1;rw[if_pos rfl,if_neg a,if_pos rfl];exact(c.fp.sv r).symm;rw[if_neg e1,if_neg e1]
theorem x0a(y:mi=.p∨mi=.u)(h:i.dst=some di)(c:k.apart ops i=true)(A:a0g cx (.w ws) ops.toList k Γ (fun Γ1=>a0g cx mi ops.toList i Γ1 K)=some z):a0g cx mi ops.toList i Γ (fun Γ1=>a0g cx (.w ws) ops.toList k Γ1 K)=some z:=by
 obtain⟨a1,a,b⟩:=Oper.apart_spec c;have b:=b di h;have a:¬ k.dst=some di:=fun e=>a di e h;obtain⟨W,m,d,-,q,r⟩:=j0o A;obtain⟨sv,L,s,l,v,x⟩:=r0e y h q;have s1:∀t∈L,Γ.sl t=(c0d W m k.dst Γ).sl t:=fun t f=>by
  have o:=(l t f).2;have g:¬ k.dst=some t:=fun e=>a1 t e (l t f).1;rw[c0c,if_neg g]at o⊢;exact(d.fp.sv' o).symm
 have B:Same W (k.looksAt ops) Γ (Γ.put di sv):=⟨rfl,fun _ _=>rfl,fun t f=>by
  have g:t≠di:=fun e=>b (by rw[←e];exact f);rw[b0g,if_neg g]⟩
 rw[x Γ s1,r (Γ.put di sv) B,←v];congr 1;refine AE.ext' (fun j=>?_) (fun n=>rfl) rfl;simp only[b0g,c0c]
 by_cases e2:j=di
 subst e2;rw[if_neg a,if_pos rfl,if_pos rfl];exact d.fp.sv s;rw[if_neg e2,if_neg e2]
theorem s0c(B:mk=.p∨mk=.u)(A:mi=.a ws∨mi=.b ws∨mi=.c ws)(h:k.dst=some dk)(l:k.apart ops i=true)(C:a0g cx mk ops.toList k Γ (fun Γ1=>a0g cx mi ops.toList i Γ1 K)=some z):a0g cx mi ops.toList i Γ (fun Γ1=>a0g cx mk ops.toList k Γ1 K)=some z:=by
 obtain⟨a1,d,r⟩:=Oper.apart_spec l;have a1:=a1 dk h;have d:=d dk h;obtain⟨sv,L,w,q,x,y⟩:=r0e B h C;obtain⟨W,m,o,-,s,v⟩:=w0i A x;have s1:Same W (i.looksAt ops) (Γ.put dk sv) Γ:=⟨rfl,fun _ _=>rfl,fun t f=>by
  have g:t≠dk:=fun e=>a1 (by rw[←e];exact f);rw[b0g,if_neg g]⟩
 have D:∀t∈L,(b0t W m i.dst Γ).sl t=Γ.sl t:=fun t f=>by
  have g:¬ i.dst=some t:=fun e=>r t e (q t f).1;rw[c0p,if_neg g];exact o.fp.sv (q t f).2
 rw[v Γ s1,y (b0t W m i.dst Γ) D,←s];congr 1;refine AE.ext' (fun j=>?_) (fun n=>rfl) rfl;simp only[b0g,c0p]
 by_cases e1:j=dk
 subst e1;rw[if_pos rfl,if_neg d,if_pos rfl];exact(o.fp.sv w).symm;rw[if_neg e1,if_neg e1]
theorem s0b(C:mi=.p∨mi=.u)(B:mk=.a ws∨mk=.b ws∨mk=.c ws)(h:i.dst=some di)(o:k.apart ops i=true)(D:a0g cx mk ops.toList k Γ (fun Γ1=>a0g cx mi ops.toList i Γ1 K)=some z):a0g cx mi ops.toList i Γ (fun Γ1=>a0g cx mk ops.toList k Γ1 K)=some z:=by
 obtain⟨a1,d,l⟩:=Oper.apart_spec o;have l:=l di h;have d:¬ k.dst=some di:=fun e=>d di e h;obtain⟨W,m,q,-,v,w⟩:=w0i B D;obtain⟨sv,L,x,r,y,A⟩:=r0e C h v;have s1:∀t∈L,Γ.sl t=(b0t W m k.dst Γ).sl t:=fun t f=>by
  have s:=(r t f).2;have g:¬ k.dst=some t:=fun e=>a1 t e (r t f).1;rw[c0p,if_neg g]at s⊢;exact(q.fp.sv' s).symm
 have E:Same W (k.looksAt ops) Γ (Γ.put di sv):=⟨rfl,fun _ _=>rfl,fun t f=>by
  have g:t≠di:=fun e=>l (by rw[←e];exact f);rw[b0g,if_neg g]⟩
 rw[A Γ s1,w (Γ.put di sv) E,←y];congr 1;refine AE.ext' (fun j=>?_) (fun n=>rfl) rfl;simp only[b0g,c0p]
 by_cases e2:j=di
 subst e2;rw[if_neg d,if_pos rfl,if_pos rfl];exact q.fp.sv x;rw[if_neg e2,if_neg e2]
theorem D0q(hd:disj ns ws=true)(g:k.dst=some dk)(q:k.apart ops i=true)(D:a0g cx (.r ns) ops.toList k Γ (fun Γ1=>a0g cx (.w ws) ops.toList i Γ1 K)=some z):a0g cx (.w ws) ops.toList i Γ (fun Γ1=>a0g cx (.r ns) ops.toList k Γ1 K)=some z:=by
 obtain⟨a1,l,u⟩:=Oper.apart_spec q;have a1:=a1 dk g;have l:=l dk g;obtain⟨δ,L,o,A,p,B,C⟩:=y0v g D;obtain⟨W,m,s,y,v,x⟩:=j0o A;have d:∀n∈ns,n∉W:=fun n h a=>p0q hd h (y n a);have b:∀n∈W,find δ.rs n=none:=fun n h=>by
  cases e:find δ.rs n with
  |none=>rfl
  |some r=>exact absurd h (d n (p n (by rw[e];simp)).2)
 have s1:Same W (i.looksAt ops) (δ.app dk Γ) Γ:=⟨rfl,fun n h=>(c0f (b n h)).symm,fun t c=>by
  have f:t≠dk:=fun e=>a1 (by rw[←e];exact c);rw[i0x,if_neg f]⟩
 have E:l0q L Γ (c0d W m i.dst Γ):=⟨rfl,fun t c=>by
  have f:¬ i.dst=some t:=fun e=>u t e (o t c).1;refine⟨?_,fun n h=>g0j (d n ((o t c).2.2 n h).2)⟩;rw[c0c,if_neg f];exact s.sv fun n h=>d n ((o t c).2.2 n h).2⟩
 rw[x Γ s1,C _ E fun n h=>by rw[g0j (d n (p n h).2)];exact(p n h).1,←v];congr 1;refine AE.ext' (fun j=>?_) (fun n=>?_) rfl;simp only[i0x,c0c]
 by_cases e1:j=dk
 subst e1;rw[if_pos rfl,if_neg l,if_pos rfl];exact(s.sv fun n h=>d n (B n h)).symm;rw[if_neg e1,if_neg e1]
 ·by_cases a:n∈W
  rw[c0f (b n a)]
  have:W.contains n=true:=by simpa using a
  simp only[c0d,this,cT]
  ·rw[g0j a];cases e:find δ.rs n with
   |none=>rw[c0f e,c0f e,g0j a]
   |some r=>simp only[Dl.app,e]
theorem D0x(hd:disj ns ws=true)(f:i.dst=some di)(v:k.apart ops i=true)(F:a0g cx (.w ws) ops.toList k Γ (fun Γ1=>a0g cx (.r ns) ops.toList i Γ1 K)=some z):a0g cx (.r ns) ops.toList i Γ (fun Γ1=>a0g cx (.w ws) ops.toList k Γ1 K)=some z:=by
 obtain⟨a1,p,q⟩:=Oper.apart_spec v;have q:=q di f;have p:¬ k.dst=some di:=fun e=>p di e f;obtain⟨W,m,x,B,y,A⟩:=j0o F;obtain⟨δ,L,s,C,u,D,E⟩:=y0v f y;have o:∀n∈ns,n∉W:=fun n h a=>p0q hd h (B n a);have c:∀n∈W,find δ.rs n=none:=fun n h=>by
  cases e:find δ.rs n with
  |none=>rfl
  |some r=>exact absurd h (o n (u n (by rw[e];simp)).2)
 have s1:l0q L (c0d W m k.dst Γ) Γ:=⟨rfl,fun t l=>by
  have g:¬ k.dst=some t:=fun e=>a1 t e (s t l).1;have b:=(s t l).2.1;have d:=(s t l).2.2;rw[c0c,if_neg g]at b d;refine⟨by rw[c0c,if_neg g];exact(x.sv' b).symm,fun n h=>?_⟩;rw[c0c,if_neg g]at h;exact(g0j (o n (d n h).2)).symm⟩
 have G:Same W (k.looksAt ops) Γ (δ.app di Γ):=⟨rfl,fun n h=>c0f (c n h),fun t l=>by
  have g:t≠di:=fun e=>q (by rw[←e];exact l);rw[i0x,if_neg g]⟩
 rw[E Γ s1 fun n h=>by
  have:=(u n h).1
  rwa [g0j (o n (u n h).2)]at this,A _ G,←C]
 congr 1;refine AE.ext' (fun j=>?_) (fun n=>?_) rfl;simp only[i0x,c0c]
 by_cases e1:j=di
 subst e1;rw[if_neg p,if_pos rfl,if_pos rfl];exact x.sv fun n h=>o n (D n h);rw[if_neg e1,if_neg e1]
 ·by_cases a:n∈W
  rw[c0f (c n a)]
  have:W.contains n=true:=by simpa using a
  simp only[c0d,this,cT]
  ·rw[g0j a];cases e:find δ.rs n with
   |none=>rw[c0f e,c0f e,g0j a]
   |some r=>simp only[Dl.app,e]
theorem k0g{Γ:AE}(h:∀n∈W,tyq (m.rt n)=tyq (Γ.rt n))(n:Nat):tyq ((b0t W m d Γ).rt n)=tyq (Γ.rt n):=by
 show tyq (bif W.contains n then m.rt n else Γ.rt n)=_;cases hw:W.contains n with
 |true=>exact h n (a19.1 hw)
 |false=>rfl
theorem w0d{sv:SV}(h:sv.still=true):sv.alive=true:=by
 cases sv with
 |one v=>cases v<;>first|rfl|cases h
 |cmp c vs=>exact m0m h
theorem D0r(h:k.dst=some dk)(l:k.apart ops i=true)(B:a0g cx .s ops.toList k Γ (fun Γ1=>a0g cx (.b ws) ops.toList i Γ1 K)=some z):a0g cx (.b ws) ops.toList i Γ (fun Γ1=>a0g cx .s ops.toList k Γ1 K)=some z:=by
 obtain⟨a1,c,q⟩:=Oper.apart_spec l;have a1:=a1 dk h;have c:=c dk h;obtain⟨sv,L,x,p,y,A⟩:=y0x h B;obtain⟨W,m,-,-,o,w,v,r,u⟩:=t0r y;have s1:Same W (i.looksAt ops) (Γ.put dk sv) Γ:=⟨rfl,fun _ _=>rfl,fun t a=>by
  have f:t≠dk:=fun e=>a1 (by rw[←e];exact a);rw[b0g,if_neg f]⟩
 have C:∀t∈L,(b0t W m i.dst Γ).sl t=Γ.sl t:=fun t a=>by
  have f:¬ i.dst=some t:=fun e=>q t e (p t a).1;rw[c0p,if_neg f];exact o _ (p t a).2.1
 rw[u Γ s1,A (b0t W m i.dst Γ) (fun t a=>⟨C t a,fun n _=>k0g (d:=i.dst) w n⟩) (fun g=>v.trans g),←r];congr 1;refine AE.ext' (fun j=>?_) (fun n=>rfl) rfl;simp only[b0g,c0p]
 by_cases e1:j=dk
 subst e1;rw[if_pos rfl,if_neg c,if_pos rfl];exact(o _ x).symm;rw[if_neg e1,if_neg e1]
theorem D0h(h:i.dst=some di)(o:k.apart ops i=true)(D:a0g cx (.b ws) ops.toList k Γ (fun Γ1=>a0g cx .s ops.toList i Γ1 K)=some z):a0g cx .s ops.toList i Γ (fun Γ1=>a0g cx (.b ws) ops.toList k Γ1 K)=some z:=by
 obtain⟨a1,c,l⟩:=Oper.apart_spec o;have l:=l di h;have c:¬ k.dst=some di:=fun e=>c di e h;obtain⟨W,m,u,-,r,y,x,v,w⟩:=t0r D;obtain⟨sv,L,A,p,B,C⟩:=y0x h v;have s1:∀t∈L,Γ.sl t=(b0t W m k.dst Γ).sl t:=fun t a=>by
  have q:=(p t a).2.1;have f:¬ k.dst=some t:=fun e=>a1 t e (p t a).1;rw[c0p,if_neg f]at q⊢;exact(u.sv' (w0d q)).symm
 have E:Same W (k.looksAt ops) Γ (Γ.put di sv):=⟨rfl,fun _ _=>rfl,fun t a=>by
  have f:t≠di:=fun e=>l (by rw[←e];exact a);rw[b0g,if_neg f]⟩
 rw[C Γ (fun t a=>⟨s1 t a,fun n _=>(k0g (d:=k.dst) y n).symm⟩) (fun g=>x.symm.trans g),w (Γ.put di sv) E,←B];congr 1;refine AE.ext' (fun j=>?_) (fun n=>rfl) rfl;simp only[b0g,c0p]
 by_cases e2:j=di
 subst e2;rw[if_neg c,if_pos rfl,if_pos rfl];exact r _ A;rw[if_neg e2,if_neg e2]
theorem q0y{rt rt2:Nat→Option Root}(h:∀n,tyq (rt2 n)=tyq (rt n)){sv:SV}(hs:l0b rt2 sv):l0b rt sv:=by
 rcases hs with hs|⟨n,p,r,τ,rfl,g,f⟩;exact .inl hs
 ·have:=h n
  rw[g]at this;cases e:rt n with
  |none=>rw[e]at this;cases this
  |some r'=>
   rw[e]at this;simp only[tyq,a15,sj]at this;exact .inr ⟨n,p,r',τ,rfl,e,by rw[←this];exact f⟩
theorem q0x{rt:Nat→Option Root}{sv:SV}(hs:l0b rt sv):sv.alive=true:=by
 rcases hs with hs|⟨n,p,r,τ,rfl,-⟩;exact m0m hs;rfl
theorem i0j{Γ:AE}(h:∀n∈W,scq (m.rt n)=scq (Γ.rt n))(n:Nat):scq ((b0t W m d Γ).rt n)=scq (Γ.rt n):=by
 show scq (bif W.contains n then m.rt n else Γ.rt n)=_;cases hw:W.contains n with
 |true=>exact h n (a19.1 hw)
 |false=>rfl
theorem D0t(h:k.dst=some dk)(b:k.apart ops i=true)(x:a0g cx .t ops.toList k Γ (fun Γ1=>a0g cx (.c ws) ops.toList i Γ1 K)=some z):a0g cx (.c ws) ops.toList i Γ (fun Γ1=>a0g cx .t ops.toList k Γ1 K)=some z:=by
 obtain⟨a1,a,p⟩:=Oper.apart_spec b;have a1:=a1 dk h;have a:=a dk h;obtain⟨sv,L,u,o,v,w⟩:=r0i h x;obtain⟨W,m,-,-,l,s,q,r⟩:=t0t v;have s1:Same W (i.looksAt ops) (Γ.put dk sv) Γ:=⟨rfl,fun _ _=>rfl,fun t f=>by
  have g:t≠dk:=fun e=>a1 (by rw[←e];exact f);rw[b0g,if_neg g]⟩
 have y:∀t∈L,(b0t W m i.dst Γ).sl t=Γ.sl t:=fun t f=>by
  have g:¬ i.dst=some t:=fun e=>p t e (o t f).1;rw[c0p,if_neg g];exact l _ (o t f).2
 rw[r Γ s1,w (b0t W m i.dst Γ) (fun t f=>⟨y t f,fun n _=>i0j (d:=i.dst) s n⟩),←q];congr 1;refine AE.ext' (fun j=>?_) (fun n=>rfl) rfl;simp only[b0g,c0p]
 by_cases e1:j=dk
 subst e1;rw[if_pos rfl,if_neg a,if_pos rfl];exact(l _ u).symm;rw[if_neg e1,if_neg e1]
theorem D0j(h:i.dst=some di)(o:k.apart ops i=true)(A:a0g cx (.c ws) ops.toList k Γ (fun Γ1=>a0g cx .t ops.toList i Γ1 K)=some z):a0g cx .t ops.toList i Γ (fun Γ1=>a0g cx (.c ws) ops.toList k Γ1 K)=some z:=by
 obtain⟨a1,a,b⟩:=Oper.apart_spec o;have b:=b di h;have a:¬ k.dst=some di:=fun e=>a di e h;obtain⟨W,m,u,-,s,p,v,w⟩:=t0t A;obtain⟨sv,L,l,q,x,y⟩:=r0i h v;have l:=q0y (fun n=>o0f (i0j (d:=k.dst) p n)) l;have s1:∀t∈L,Γ.sl t=(b0t W m k.dst Γ).sl t:=fun t f=>by
  have r:=q0x (q t f).2;have g:¬ k.dst=some t:=fun e=>a1 t e (q t f).1;rw[c0p,if_neg g]at r⊢;exact(u.sv' r).symm
 have B:Same W (k.looksAt ops) Γ (Γ.put di sv):=⟨rfl,fun _ _=>rfl,fun t f=>by
  have g:t≠di:=fun e=>b (by rw[←e];exact f);rw[b0g,if_neg g]⟩
 rw[y Γ (fun t f=>⟨s1 t f,fun n _=>(i0j (d:=k.dst) p n).symm⟩),w (Γ.put di sv) B,←x];congr 1;refine AE.ext' (fun j=>?_) (fun n=>rfl) rfl;simp only[b0g,c0p]
 by_cases e2:j=di
 subst e2;rw[if_neg a,if_pos rfl,if_pos rfl];exact s _ l;rw[if_neg e2,if_neg e2]
theorem D0s(h:k.dst=some dk)(c:k.apart ops i=true)(x:a0g cx .t ops.toList k Γ (fun Γ1=>a0g cx (.b ws) ops.toList i Γ1 K)=some z):a0g cx (.b ws) ops.toList i Γ (fun Γ1=>a0g cx .t ops.toList k Γ1 K)=some z:=by
 obtain⟨a1,a,p⟩:=Oper.apart_spec c;have a1:=a1 dk h;have a:=a dk h;obtain⟨sv,L,u,o,v,w⟩:=r0i h x;obtain⟨W,m,-,-,l,s,q,r⟩:=z0l v;have s1:Same W (i.looksAt ops) (Γ.put dk sv) Γ:=⟨rfl,fun _ _=>rfl,fun t f=>by
  have g:t≠dk:=fun e=>a1 (by rw[←e];exact f);rw[b0g,if_neg g]⟩
 have y:∀t∈L,(b0t W m i.dst Γ).sl t=Γ.sl t:=fun t f=>by
  have g:¬ i.dst=some t:=fun e=>p t e (o t f).1;rw[c0p,if_neg g];exact l _ (o t f).2
 rw[r Γ s1,w (b0t W m i.dst Γ) (fun t f=>⟨y t f,fun n _=>i0j (d:=i.dst) s n⟩),←q];congr 1;refine AE.ext' (fun j=>?_) (fun n=>rfl) rfl;simp only[b0g,c0p]
 by_cases e1:j=dk
 subst e1;rw[if_pos rfl,if_neg a,if_pos rfl];exact(l _ u).symm;rw[if_neg e1,if_neg e1]
theorem D0i(h:i.dst=some di)(o:k.apart ops i=true)(A:a0g cx (.b ws) ops.toList k Γ (fun Γ1=>a0g cx .t ops.toList i Γ1 K)=some z):a0g cx .t ops.toList i Γ (fun Γ1=>a0g cx (.b ws) ops.toList k Γ1 K)=some z:=by
 obtain⟨a1,a,c⟩:=Oper.apart_spec o;have c:=c di h;have a:¬ k.dst=some di:=fun e=>a di e h;obtain⟨W,m,u,-,s,p,v,w⟩:=z0l A;obtain⟨sv,L,l,q,x,y⟩:=r0i h v;have l:=q0y (fun n=>o0f (i0j (d:=k.dst) p n)) l;have s1:∀t∈L,Γ.sl t=(b0t W m k.dst Γ).sl t:=fun t f=>by
  have r:=q0x (q t f).2;have g:¬ k.dst=some t:=fun e=>a1 t e (q t f).1;rw[c0p,if_neg g]at r⊢;exact(u.sv' r).symm
 have B:Same W (k.looksAt ops) Γ (Γ.put di sv):=⟨rfl,fun _ _=>rfl,fun t f=>by
  have g:t≠di:=fun e=>c (by rw[←e];exact f);rw[b0g,if_neg g]⟩
 rw[y Γ (fun t f=>⟨s1 t f,fun n _=>(i0j (d:=k.dst) p n).symm⟩),w (Γ.put di sv) B,←x];congr 1;refine AE.ext' (fun j=>?_) (fun n=>rfl) rfl;simp only[b0g,c0p]
 by_cases e2:j=di
 subst e2;rw[if_neg a,if_pos rfl,if_pos rfl];exact s _ l;rw[if_neg e2,if_neg e2]
theorem p0g(f:Γ2.pd=Γ.pd)(k:Γ2.rt=Γ.rt)(h:∀t∈a0h o,Γ2.sl t=Γ.sl t):Γ2.pends cx o=Γ.pends cx o:=by
 unfold AE.pends;split;rename_i t a x g;rw[f,k,h a (by simp[a0h,g,Op.operands]),h x (by simp[a0h,g,Op.operands])];rfl
theorem j0u(Γ:AE)(d:Option Nat)(v:AV)(j:Nat):(Γ.setD d v).sl j=if d=some j then .one v else Γ.sl j:=by
 cases d with
 |none=>simp[AE.setD]
 |some d=>
  simp only[AE.setD,AE.set,b0g,sj]
  by_cases e:j=d
  rw[if_pos e,if_pos e.symm];rw[if_neg e,if_neg (Ne.symm e)]
theorem k0y(Γ:AE)(d:Option Nat)(v:AV):(Γ.setD d v).rt=Γ.rt∧(Γ.setD d v).pd=Γ.pd:=by cases d<;>exact⟨rfl,rfl⟩
theorem p0w{di:Nat}(h:¬ d=some di)(sv:SV)(v:AV):(Γ.setD d v).put di sv=(Γ.put di sv).setD d v:=by
 refine AE.ext' (fun j=>?_) (fun n=>by rw[(k0y _ _ _).1];exact congrFun (k0y Γ d v).1 n) (by rw[(k0y _ _ _).2];exact(k0y Γ d v).2);rw[j0u,b0g,b0g,j0u]
 by_cases e:j=di
 subst e;rw[if_pos rfl,if_neg h,if_pos rfl];rw[if_neg e,if_neg e]
theorem D0k(f:i.dst=some di)(o:k.apart ops i=true)
  (a:a0g cx .e ops.toList k Γ (fun Γ1=>a0g cx .u ops.toList i Γ1 K)=some z):a0g cx .u ops.toList i Γ (fun Γ1=>a0g cx .e ops.toList k Γ1 K)=some z:=by
 obtain⟨a1,j,l⟩:=Oper.apart_spec o;have l:=l di f;have j:¬ k.dst=some di:=fun e=>j di e f;have g:∀sv:SV,∀t∈k.looksAt ops,(Γ.put di sv).sl t=Γ.sl t:=fun sv t d=>by
  have c:t≠di:=fun e=>l (by rw[←e];exact d);rw[b0g,if_neg c]
 rw[b0i]at a;cases hl:a0n ops k Γ with
 |none=>rw[hl]at a;cases a
 |some b=>
  rw[hl]at a;cases b with
  |false=>
   obtain⟨sv,L,-,p,m,n⟩:=o0x f a;rw[n Γ (fun t d=>by
    have c:¬ k.dst=some t:=fun e=>a1 t e (p t d).1;rw[j0u,if_neg c]),b0i,b0p (g sv),hl]
   simp only[];rw[←p0w j];exact m
  |true=>
   simp only[b0d]at a;obtain⟨q,a⟩:=(a0b a).elim id fun h=>by cases h.2
   obtain⟨hp,r⟩:=a03.1 q;obtain⟨sv,L,-,p,m,n⟩:=o0x f a;rw[n Γ (fun t d=>rfl),b0i,b0p (g sv),hl];simp only[b0d];rw[p0g (Γ:=Γ) (Γ2:=Γ.put di sv) rfl rfl fun t d=>g sv t (b0u d),hp,r];exact m
theorem D0u(a:k.dst=some dk)(l:k.apart ops i=true)
  (q:a0g cx .u ops.toList k Γ (fun Γ1=>a0g cx .e ops.toList i Γ1 K)=some z):a0g cx .e ops.toList i Γ (fun Γ1=>a0g cx .u ops.toList k Γ1 K)=some z:=by
 obtain⟨a1,j,n⟩:=Oper.apart_spec l;have a1:=a1 dk a;have j:=j dk a;obtain⟨sv,L,-,o,g,m⟩:=o0x a q;have f:∀t∈i.looksAt ops,Γ.sl t=(Γ.put dk sv).sl t:=fun t d=>by
  have c:t≠dk:=fun e=>a1 (by rw[←e];exact d);rw[b0g,if_neg c]
 rw[b0i]at g;rw[b0i,b0p (Γ:=Γ.put dk sv) f];cases hl:a0n ops i (Γ.put dk sv)with
 |none=>rw[hl]at g;cases g
 |some b=>
  rw[hl]at g;cases b with
  |false=>
   simp only[]at g⊢;rw[m _ (fun t d=>by
    have c:¬ i.dst=some t:=fun e=>n t e (o t d).1;rw[j0u,if_neg c]),p0w j]
   exact g
  |true=>
   simp only[b0d]at g⊢;obtain⟨p,g⟩:=(a0b g).elim id fun h=>by cases h.2
   rw[p0g (Γ:=Γ.put dk sv) (Γ2:=Γ) rfl rfl fun t d=>f t (b0u d),p];simp only[cT];rw[m { Γ with pd:=none } fun t d=>rfl];exact g
theorem o0v(s:mk.isV=true)(h:k.dst=some dk)(a:k.apart ops i=true)(u:a0g cx mk ops.toList k Γ (fun Γ1=>a0g cx (.k ws) ops.toList i Γ1 K)=some z):a0g cx (.k ws) ops.toList i Γ (fun Γ1=>a0g cx mk ops.toList k Γ1 K)=some z:=by
 obtain⟨a1,f,d⟩:=Oper.apart_spec a;have a1:=a1 dk h;have f:=f dk h;obtain⟨sv,L,p,q,r⟩:=A0e s h u;obtain⟨W,m,c,l,o⟩:=y0k q;have s1:Same W (i.looksAt ops) (Γ.put dk sv) Γ:=⟨rfl,fun _ _=>rfl,fun t b=>by
  have g:t≠dk:=fun e=>a1 (by rw[←e];exact b);rw[b0g,if_neg g]⟩
 have v:∀t∈L,(c0d W m i.dst Γ).sl t=Γ.sl t:=fun t b=>by
  have g:¬ i.dst=some t:=fun e=>d t e (p t b);rw[c0c,if_neg g,c];exact c0x _
 rw[o Γ s1,r (c0d W m i.dst Γ) rfl v,←l];congr 1;refine AE.ext' (fun j=>?_) (fun n=>rfl) rfl;simp only[b0g,c0c,c,c0x]
 by_cases e1:j=dk
 subst e1;rw[if_pos rfl,if_neg f,if_pos rfl];rw[if_neg e1,if_neg e1]
theorem D0o(s:mi.isV=true)(h:i.dst=some di)(b:k.apart ops i=true)(u:a0g cx (.k ws) ops.toList k Γ (fun Γ1=>a0g cx mi ops.toList i Γ1 K)=some z):a0g cx mi ops.toList i Γ (fun Γ1=>a0g cx (.k ws) ops.toList k Γ1 K)=some z:=by
 obtain⟨a1,f,a⟩:=Oper.apart_spec b;have a:=a di h;have f:¬ k.dst=some di:=fun e=>f di e h;obtain⟨W,m,d,l,o⟩:=y0k u;obtain⟨sv,L,p,q,r⟩:=A0e s h l;have s1:∀t∈L,Γ.sl t=(c0d W m k.dst Γ).sl t:=fun t c=>by
  have g:¬ k.dst=some t:=fun e=>a1 t e (p t c);rw[c0c,if_neg g,d];exact(c0x _).symm
 have v:Same W (k.looksAt ops) Γ (Γ.put di sv):=⟨rfl,fun _ _=>rfl,fun t c=>by
  have g:t≠di:=fun e=>a (by rw[←e];exact c);rw[b0g,if_neg g]⟩
 rw[r Γ rfl s1,o (Γ.put di sv) v,←q];congr 1;refine AE.ext' (fun j=>?_) (fun n=>rfl) rfl;simp only[b0g,c0c,d,c0x]
 by_cases e2:j=di
 subst e2;rw[if_neg f,if_pos rfl,if_pos rfl];rw[if_neg e2,if_neg e2]
def gv:Option Nat→AE→SV
 |some t,Γ=>Γ.sl t
 |none,_=>.one .skp
def hT(ops:Array Oper)(o:Oper)(Γ:AE):Option (Option Nat):=match a0n ops o Γ with
 |some true=>(match o.op with
  |.move (.tmp t)=>some (some t)
  |_=>none)
 |some false=>some none
 |none=>none
theorem n0t{ρ:Type}{d:Nat}(hd:o.dst=some d)(Γ:AE)(K:AE→Rs ρ):a0g cx .h ops.toList o Γ K=(match hT ops o Γ with
  |some t=>K (Γ.put d (gv t Γ))
  |none=>none):=by
 rw[c0b hd];unfold hT;cases a0n ops o Γ with
 |none=>rfl
 |some b=>
  cases b with
  |false=>rfl
  |true=>
   simp only[b0d,hd];cases o.op with
   |move x=>cases x<;>rfl
   |_=>rfl
theorem m0o{t:Nat}(h:hT ops o Γ=some (some t)):t∈o.looksAt ops:=by
 unfold hT at h
 split at h
 split at h
 rename_i s g;cases h;exact b0u (by simp[a0h,g,Op.operands]);cases h;cases h;cases h
theorem m0n(h:a0n ops o Γ2=a0n ops o Γ):hT ops o Γ2=hT ops o Γ:=by unfold hT;rw[h]
theorem w0q{t:Option Nat}(h:hT ops o Γ=some t):∀s∈a0x ops o,(Γ.sl s).firm=true:=by
 refine d0f ?_
 intro e;unfold hT at h;rw[e]at h;cases h
theorem C0v{t:Option Nat}(hf:f .skp=.skp)(Γ:AE):gv t (Γ.mapv f)=(gv t Γ).mapv f:=by
 cases t with
 |none=>show SV.one .skp=SV.one (f .skp);rw[hf]
 |some t=>rfl
theorem B0q{t:Option Nat}(hf:f .skp=.skp)(Γ:AE)(d:Nat):(Γ.put d (gv t Γ)).mapv f=(Γ.mapv f).put d (gv t (Γ.mapv f)):=by
 rw[C0v hf];refine AE.ext' (fun j=>?_) (fun n=>rfl) rfl;show((Γ.put d (gv t Γ)).sl j).mapv f=_;rw[b0g,b0g]
 by_cases h:j=d
 rw[if_pos h,if_pos h];rw[if_neg h,if_neg h];rfl
theorem w0o(Γ:AE)(d:Nat)(t:Option Nat)(n:Nat)(e:Ty)(l:List e.den):((Γ.put d (gv t Γ)).mapv (AV.frz n e l)).setRt n none=((Γ.mapv (AV.frz n e l)).setRt n none).put d (gv t ((Γ.mapv (AV.frz n e l)).setRt n none)):=by
 rw[B0q rfl]
 have:gv t ((Γ.mapv (AV.frz n e l)).setRt n none)=gv t (Γ.mapv (AV.frz n e l)):=by cases t<;>rfl
 rw[this];rfl
theorem C0o{ρ:Type}(Γ:AE)(τ:Ty)(a:AV)(d:Nat)(t:Option Nat)(K:τ.den→AE→Rs ρ):(Γ.put d (gv t Γ)).asV false τ a K=Γ.asV false τ a fun y Γ'=>K y (Γ'.put d (gv t Γ')):=by
 have g:∀n,(Γ.put d (gv t Γ)).look n=Γ.look n:=fun n=>rfl;cases a with
 |val t' x=>
  cases hc:castTo t' τ x with
  |none=>simp only[AE.asV,hc]
  |some y=>simp only[AE.asV,hc]
 |nils=>cases τ with
  |list o e=>cases o<;>rfl
  |_=>rfl
 |empt=>cases τ with
  |list o e=>cases o<;>rfl
  |_=>rfl
 |sref n p=>cases p with
  |cons=>rfl
  |nil=>cases hl:Γ.look n with
   |none=>simp only[AE.asV,g,hl]
   |some r=>
    obtain⟨f,t2,l⟩:=r;cases f with
    |true=>simp only[AE.asV,g,hl]
    |false=>cases t2 with
     |list o e=>cases o with
      |false=>simp only[AE.asV,g,hl]
      |true=>
       by_cases h:Ty.list false e.sh=τ
       simp only[AE.asV,g,hl,dif_pos h,a05,if_false];exact congrArg (K _) (w0o Γ d t n e l);simp only[AE.asV,g,hl,dif_neg h]
     |_=>simp only[AE.asV,g,hl]
 |swin n p o k=>cases p with
  |cons=>rfl
  |nil=>cases hl:Γ.look n with
   |none=>simp only[AE.asV,g,hl]
   |some r=>
    obtain⟨f,t2,l⟩:=r;cases f with
    |true=>simp only[AE.asV,g,hl]
    |false=>cases t2 with
     |list o e=>cases o with
      |false=>simp only[AE.asV,g,hl]
      |true=>
       by_cases h:Ty.list false e.sh=τ
       simp only[AE.asV,g,hl,dif_pos h,a05,if_false];exact congrArg (K _) (w0o Γ d t n e l);simp only[AE.asV,g,hl,dif_neg h]
     |_=>simp only[AE.asV,g,hl]
 |_=>rfl
theorem s0q{ρ:Type}{τ:Ty}{d:Nat}{t:Option Nat}:∀(ps:List (Nat×Operand)) (Γ:AE) (x:τ.den) (K:τ.den→AE→Rs ρ),(∀p∈ps,p.2≠.tmp d)→
  (Γ.put d (gv t Γ)).fills false τ ps x K=Γ.fills false τ ps x fun y Γ'=>K y (Γ'.put d (gv t Γ'))
 | [],Γ,x,K,_=>rfl
 |(i,o)::ps,Γ,x,K,h=>by
  have g:(Γ.put d (gv t Γ)).opd o=Γ.opd o:=by
   cases o with
   |tmp s=>
    have hs:s≠d:=fun e=>h (i,.tmp s) (by simp) (by rw[e]);show(Γ.put d (gv t Γ)).get s=Γ.get s;simp only[AE.get,b0g,if_neg hs]
   |_=>rfl
  simp only[AE.fills];cases AE.pathOk τ i with
  |false=>rfl
  |true=>
   simp only[cT];rw[g,C0o];congr 1;funext y Γ';exact s0q ps Γ' _ K fun p hp=>h p (by simp[hp])
theorem C0j{ρ:Type}{d:Nat}{t:Option Nat}(hd:d∉o.looksAt ops)(i:o.dst≠some d)(j:∀s,t=some s→o.dst≠some s)(K:AE→Rs ρ):
  a0g cx .f ops.toList o (Γ.put d (gv t Γ)) K=a0g cx .f ops.toList o Γ fun Γ1=>K (Γ1.put d (gv t Γ1)):=by
 have a:∀s∈o.looksAt ops,(Γ.put d (gv t Γ)).sl s=Γ.sl s:=fun s hs=>by
  have:s≠d:=fun e=>hd (by rw[←e];exact hs)
  rw[b0g,if_neg this]
 have g:∀(Γ:AE)(h:Option Nat)(v:AV),h=o.dst→(Γ.put d (gv t Γ)).setD h v=(Γ.setD h v).put d (gv t (Γ.setD h v)):=fun Γ h v e=>by
  subst e;have c:gv t (Γ.setD o.dst v)=gv t Γ:=by
   cases t with
   |none=>rfl
   |some s=>
    show(Γ.setD o.dst v).sl s=Γ.sl s;rw[j0u,if_neg (j s rfl)]
  rw[c];exact(p0w i _ _).symm
 rw[b0i,b0i,b0p a];cases a0n ops o Γ with
 |none=>rfl
 |some b=>
  cases b with
  |false=>
   simp only[];rw[g Γ o.dst .skp rfl]
  |true=>
   simp only[b0d];split
   ·rename_i ty m h l k;cases (cx.nlT h ty).isNone&&(cx.O h).isNone with
    |false=>rfl
    |true=>
     simp only[cT];split
     ·rename_i τ _;cases τ.isAgg with
      |false=>rfl
      |true=>
       simp only[cT];rw[s0q];congr 1;funext y Γ'
       have:=g Γ' o.dst (.val τ y) rfl
       rw[k]at this;exact congrArg K this;intro p hp e;refine hd (b0u ?_)
       have:Operand.tmp d∈o.op.operands.toList:=by
        rw[l];simp only[Op.operands,Array.toList_map,a17];exact⟨p,by simpa using hp,e⟩
       exact c0a this
     rfl
   rfl
theorem p0c:a0n ops o ((Γ.mapv (AV.frz n e l)).setRt n none)=a0n ops o Γ:=by
 unfold a0n;cases o.guard with
 |none=>rfl
 |some p=>
  obtain⟨j,f⟩:=p;simp only[];cases f0i ops.toList j with
  |none=>rfl
  |some g=>
   simp only[]
   have:((Γ.mapv (AV.frz n e l)).setRt n none).get g=(match Γ.sl g with|.one v=>AV.frz n e l v|.cmp _ _=>.dead):=by
    show(match (Γ.sl g).mapv (AV.frz n e l)with|.one v=>v|.cmp _ _=>.dead)=_;cases Γ.sl g<;>rfl
   rw[this];have a:Γ.get g=(match Γ.sl g with|.one v=>v|.cmp _ _=>.dead):=by
    unfold AE.get;cases Γ.sl g<;>rfl
   rw[a];cases Γ.sl g with
   |cmp c vs=>rfl
   |one v=>
    simp only[];cases v with
    |sref m p=>
     by_cases h:(m==n)=true
     simp only[AV.frz,if_pos h];cases p<;>rfl;simp only[AV.frz,if_neg h]
    |swin m p o' k=>
     by_cases h:(m==n)=true
     simp only[AV.frz,if_pos h];cases p<;>rfl;simp only[AV.frz,if_neg h]
    |ptr m p=>
     by_cases h:(m==n)=true
     simp only[AV.frz,if_pos h];simp only[AV.frz,if_neg h]
    |_=>rfl
theorem C0n{ρ:Type}{τ:Ty}:(∀K:τ.den→AE→Rs ρ,Γ.asV false τ a K=none)∨∃y Γ1,(∀i,a0n ops i Γ1=a0n ops i Γ)∧∀K:τ.den→AE→Rs ρ,Γ.asV false τ a K=K y Γ1:=by
 cases a with
 |val t' x=>
  cases hc:castTo t' τ x with
  |none=>exact .inl fun K=>by simp only[AE.asV,hc]
  |some y=>exact .inr ⟨y,Γ,fun _=>rfl,fun K=>by simp only[AE.asV,hc]⟩
 |nils=>cases τ with
  |list o e=>cases o with
   |false=>exact .inr ⟨[],Γ,fun _=>rfl,fun K=>rfl⟩
   |true=>exact .inl fun K=>rfl
  |nl e=>exact .inr ⟨[],Γ,fun _=>rfl,fun K=>rfl⟩
  |_=>exact .inl fun K=>rfl
 |empt=>cases τ with
  |list o e=>cases o with
   |false=>exact .inr ⟨[],Γ,fun _=>rfl,fun K=>rfl⟩
   |true=>exact .inl fun K=>rfl
  |_=>exact .inl fun K=>rfl
 |sref n p=>cases p with
  |cons=>exact .inl fun K=>rfl
  |nil=>cases hl:Γ.look n with
   |none=>exact .inl fun K=>by simp only[AE.asV,hl];rfl
   |some r=>
    obtain⟨g,t,l⟩:=r;cases g with
    |true=>exact .inl fun K=>by simp only[AE.asV,hl];rfl
    |false=>cases t with
     |list o e=>cases o with
      |false=>exact .inl fun K=>by simp only[AE.asV,hl];rfl
      |true=>
       by_cases h:Ty.list false e.sh=τ
       exact .inr ⟨_,_,fun i=>p0c,fun K=>by simp only[AE.asV,hl,dif_pos h];rfl⟩;exact .inl fun K=>by simp only[AE.asV,hl,dif_neg h];rfl
     |_=>exact .inl fun K=>by simp only[AE.asV,hl];rfl
 |swin n p o k=>cases p with
  |cons=>exact .inl fun K=>rfl
  |nil=>cases hl:Γ.look n with
   |none=>exact .inl fun K=>by simp only[AE.asV,hl];rfl
   |some r=>
    obtain⟨g,t,l⟩:=r;cases g with
    |true=>exact .inl fun K=>by simp only[AE.asV,hl];rfl
    |false=>cases t with
     |list o e=>cases o with
      |false=>exact .inl fun K=>by simp only[AE.asV,hl];rfl
      |true=>
       by_cases h:Ty.list false e.sh=τ
       exact .inr ⟨_,_,fun i=>p0c,fun K=>by simp only[AE.asV,hl,dif_pos h];rfl⟩;exact .inl fun K=>by simp only[AE.asV,hl,dif_neg h];rfl
     |_=>exact .inl fun K=>by simp only[AE.asV,hl];rfl
 |_=>exact .inl fun K=>rfl
theorem s0p{ρ:Type}{τ:Ty}:∀(ps:List (Nat×Operand)) (Γ:AE) (x:τ.den),(∀K:τ.den→AE→Rs ρ,Γ.fills false τ ps x K=none)∨∃y Γ1,(∀i,a0n ops i Γ1=a0n ops i Γ)∧∀K:τ.den→AE→Rs ρ,Γ.fills false τ ps x K=K y Γ1
 | [],Γ,x=>.inr ⟨x,Γ,fun _=>rfl,fun _=>rfl⟩
 |(j,o)::ps,Γ,x=>by
  simp only[AE.fills];cases AE.pathOk τ j with
  |false=>exact .inl fun K=>rfl
  |true=>
   simp only[cT];rcases C0n (ops:=ops) (Γ:=Γ) (a:=Γ.opd o) (τ:=(a0p τ x (AE.pathOf τ j)).1) (ρ:=ρ)with h|⟨y,Γ1,f,g⟩;exact .inl fun K=>h _;rcases s0p (ρ:=ρ) ps Γ1 (b0s τ x (AE.pathOf τ j) (a0p τ x (AE.pathOf τ j)).1 y)with h|⟨c,Γ2,k,b⟩;exact .inl fun K=>(g _).trans (h K);exact .inr ⟨c,Γ2,fun i=>(k i).trans (f i),fun K=>(g _).trans (b K)⟩
theorem x0z{ρ:Type}:(∀K:AE→Rs ρ,a0g cx .f ops.toList o Γ K=none)∨∃Γ1,(∀i,(∀d,o.dst=some d→d∉i.looksAt ops)→a0n ops i Γ1=a0n ops i Γ)∧∀K:AE→Rs ρ,a0g cx .f ops.toList o Γ K=K Γ1:=by
 have g:∀(Γ1:AE)(v:AV)(i:Oper),(∀d,o.dst=some d→d∉i.looksAt ops)→a0n ops i (Γ1.setD o.dst v)=a0n ops i Γ1:=fun Γ1 v i hd=>b0p fun s hs=>by
  rw[j0u,if_neg (fun e=>hd s e hs)]
 cases hl:a0n ops o Γ with
 |none=>exact .inl fun K=>by rw[b0i,hl]
 |some b=>
  cases b with
  |false=>exact .inr ⟨_,g Γ .skp,fun K=>by rw[b0i,hl]⟩
  |true=>
   have e:∀K:AE→Rs ρ,a0g cx .f ops.toList o Γ K=b0d cx .f o Γ K:=fun K=>by rw[b0i,hl]
   have k:(∀K:AE→Rs ρ,b0d cx .f o Γ K=none)→(∀K:AE→Rs ρ,a0g cx .f ops.toList o Γ K=none)∨∃Γ1,(∀i,(∀d,o.dst=some d→d∉i.looksAt ops)→a0n ops i Γ1=a0n ops i Γ)∧∀K:AE→Rs ρ,a0g cx .f ops.toList o Γ K=K Γ1:=fun h=>.inl fun K=>(e K).trans (h K);cases ho:o.op with
   |build ty ps=>
    cases hdd:o.dst with
    |none=>rw[hdd]at k;exact k fun K=>by simp only[b0d,ho,hdd]
    |some dd=>
     rw[hdd]at k g;cases hc:(cx.nlT dd ty).isNone&&(cx.O dd).isNone with
     |false=>exact k fun K=>by simp only[b0d,ho,hdd,hc,cF]
     |true=>cases hT:cx.T ty with
      |none=>exact k fun K=>by simp only[b0d,ho,hdd,hc,hT,cT]
      |some τ=>cases hg:τ.isAgg with
       |false=>exact k fun K=>by simp only[b0d,ho,hdd,hc,hT,hg,cT,cF]
       |true=>
        rcases s0p (ops:=ops) (ρ:=ρ) ps.toList Γ τ.dflt with h|⟨y,Γ1,a,c⟩;exact k fun K=>by simp only[b0d,ho,hdd,hc,hT,hg,cT];exact h _
        exact .inr ⟨Γ1.set dd (.val τ y),fun i hi=>(g Γ1 (.val τ y) i hi).trans (a i),fun K=>by rw[e K];simp only[b0d,ho,hdd,hc,hT,hg,cT];exact c _⟩
   |_=>exact k fun K=>by simp only[b0d,ho]
theorem D0m(a:k.dst=some dk)(b:k.apart ops i=true)
  (g:a0g cx .h ops.toList k Γ (fun Γ1=>a0g cx .f ops.toList i Γ1 K)=some z):a0g cx .f ops.toList i Γ (fun Γ1=>a0g cx .h ops.toList k Γ1 K)=some z:=by
 obtain⟨a1,j,c⟩:=Oper.apart_spec b;rw[n0t a]at g;cases ht:hT ops k Γ with
 |none=>rw[ht]at g;cases g
 |some t=>
  rw[ht]at g;simp only[]at g;rw[C0j (a1 dk a) (j dk a) (fun s e n=>c s n (m0o (by rw[ht,e])))]at g;rcases x0z (cx:=cx) (ops:=ops) (Γ:=Γ) (o:=i) (ρ:=ρ)with h|⟨Γ1,l,m⟩;rw[h]at g;cases g;rw[m]at g⊢;rw[n0t a,m0n (l k fun d hd=>c d hd),ht];exact g
theorem D0l(g:i.dst=some di)(d:k.apart ops i=true)
  (a:a0g cx .f ops.toList k Γ (fun Γ1=>a0g cx .h ops.toList i Γ1 K)=some z):a0g cx .h ops.toList i Γ (fun Γ1=>a0g cx .f ops.toList k Γ1 K)=some z:=by
 obtain⟨a1,b,c⟩:=Oper.apart_spec d;have c:=c di g;have b:¬ k.dst=some di:=fun e=>b di e g;rcases x0z (cx:=cx) (ops:=ops) (Γ:=Γ) (o:=k) (ρ:=ρ)with h|⟨Γ1,l,j⟩;rw[h]at a;cases a
 ·rw[j,n0t g,m0n (l i a1)]at a;rw[n0t g];cases ht:hT ops i Γ with
  |none=>rw[ht]at a;cases a
  |some t=>
   rw[ht]at a;simp only[]at a⊢;rw[C0j c b (fun s e m=>a1 s m (m0o (by rw[ht,e]))),j];exact a
theorem D0n(g:k.dst=some dk)(l:k.apart ops i=true)(c:a0g cx .h ops.toList k Γ (fun Γ1=>a0g cx (.w ws) ops.toList i Γ1 K)=some z):a0g cx (.w ws) ops.toList i Γ (fun Γ1=>a0g cx .h ops.toList k Γ1 K)=some z:=by
 obtain⟨a1,d,o⟩:=Oper.apart_spec l;have a1:=a1 dk g;have d:=d dk g;rw[n0t g]at c;cases a:hT ops k Γ with
 |none=>rw[a]at c;cases c
 |some t=>
 rw[a]at c;have x:a0g cx (.w ws) ops.toList i (Γ.put dk (gv t Γ)) K=some z:=c;have u:∀s,t=some s→s∈k.looksAt ops:=fun s e=>m0o (by rw[a,e]);have v:=w0q a;have y:∀Γ2,(∀s∈a0x ops k,Γ2.sl s=Γ.sl s)→∀{ρ2:Type}(K2:AE→Rs ρ2),a0g cx .h ops.toList k Γ2 K2=K2 (Γ2.put dk (gv t Γ2)):=fun Γ2 hA ρ2 K2=>by rw[n0t g,m0n (a0y hA),a]
 obtain⟨W,m,p,-,q,r⟩:=j0o x;have s1:Same W (i.looksAt ops) (Γ.put dk (gv t Γ)) Γ:=⟨rfl,fun _ _=>rfl,fun t a=>by
  have b:t≠dk:=fun e=>a1 (by rw[←e];exact a);rw[b0g,if_neg b]⟩
 have C:∀s∈a0x ops k,(c0d W m i.dst Γ).sl s=Γ.sl s:=fun s hs=>by
  have b:¬ i.dst=some s:=fun e=>o s e (b0e hs);rw[c0c,if_neg b];exact p.fp.sv (e0u (v s hs))
 have A:m.f .skp=.skp:=p.1 .skp (fun n B=>by cases B);rw[r Γ s1,y (c0d W m i.dst Γ) C,←q];congr 1;refine AE.ext' (fun j=>?_) (fun n=>rfl) rfl;simp only[b0g,c0c]
 by_cases e1:j=dk
 ·subst e1;rw[if_pos rfl,if_neg d,if_pos rfl];cases t with
  |none=>show SV.one .skp=SV.one (m.f .skp);rw[A]
  |some s=>
   show(c0d W m i.dst Γ).sl s=_;rw[c0c,if_neg (fun e=>o s e (u s rfl))];rfl
 rw[if_neg e1,if_neg e1]
theorem D0w(g:i.dst=some di)(o:k.apart ops i=true)(C:a0g cx (.w ws) ops.toList k Γ (fun Γ1=>a0g cx .h ops.toList i Γ1 K)=some z):a0g cx .h ops.toList i Γ (fun Γ1=>a0g cx (.w ws) ops.toList k Γ1 K)=some z:=by
 obtain⟨a1,d,l⟩:=Oper.apart_spec o;have l:=l di g;have d:¬ k.dst=some di:=fun e=>d di e g;obtain⟨W,m,p,-,c,r⟩:=j0o C;rw[n0t g]at c;cases a:hT ops i (c0d W m k.dst Γ)with
 |none=>rw[a]at c;cases c
 |some t=>
 rw[a]at c;have x:K ((c0d W m k.dst Γ).put di (gv t (c0d W m k.dst Γ)))=some z:=c;have u:∀s,t=some s→s∈i.looksAt ops:=fun s e=>m0o (by rw[a,e]);have v:=w0q a;have y:∀Γ2,(∀s∈a0x ops i,Γ2.sl s=(c0d W m k.dst Γ).sl s)→∀{ρ2:Type}(K2:AE→Rs ρ2),a0g cx .h ops.toList i Γ2 K2=K2 (Γ2.put di (gv t Γ2)):=fun Γ2 hA ρ2 K2=>by rw[n0t g,m0n (a0y hA),a]
 have A:m.f .skp=.skp:=p.1 .skp (fun n B=>by cases B);have s1:∀s∈a0x ops i,Γ.sl s=(c0d W m k.dst Γ).sl s:=fun s hs=>by
  have q:=e0u (v s hs);have b:¬ k.dst=some s:=fun e=>a1 s e (b0e hs);rw[c0c,if_neg b]at q⊢;exact(p.fp.sv' q).symm
 have D:Same W (k.looksAt ops) Γ (Γ.put di (gv t Γ)):=⟨rfl,fun _ _=>rfl,fun t a=>by
  have b:t≠di:=fun e=>l (by rw[←e];exact a);rw[b0g,if_neg b]⟩
 rw[y Γ s1,r (Γ.put di (gv t Γ)) D,←x];congr 1;refine AE.ext' (fun j=>?_) (fun n=>rfl) rfl;simp only[b0g,c0c]
 by_cases e2:j=di
 ·subst e2;rw[if_neg d,if_pos rfl,if_pos rfl];cases t with
  |none=>show SV.one (m.f .skp)=SV.one .skp;rw[A]
  |some s=>
   show _=(c0d W m k.dst Γ).sl s;rw[c0c,if_neg (fun e=>a1 s e (u s rfl))];rfl
 rw[if_neg e2,if_neg e2]
theorem swap(l:q0l mk mi=true)(g:mk.isW=true∨k.dst.isSome=true)(d:mi.isW=true∨i.dst.isSome=true)(j:k.apart ops i=true)(A:∀t∈i.looksAt ops,∀n∈(Γ.sl t).refs,mi.reads n→Γ.rt n≠none)(m:a0g cx mk ops.toList k Γ (fun Γ1=>a0g cx mi ops.toList i Γ1 K)=some z):a0g cx mi ops.toList i Γ (fun Γ1=>a0g cx mk ops.toList k Γ1 K)=some z:=by
 have B:mk.quiet→mi.quiet→a0g cx mi ops.toList i Γ (fun Γ1=>a0g cx mk ops.toList k Γ1 K)=some z:=fun D E=>by
  obtain⟨o,g⟩:=a00.1 (g.resolve_left (by cases mk<;>first|(cases D;done)|simp[Md.isW]))
  obtain⟨y,d⟩:=a00.1 (d.resolve_left (by cases mi<;>first|(cases E;done)|simp[Md.isW]))
  exact D0p D E g d j A m
 cases mk with
 |x=>cases mi<;>cases l
 |f=>
  cases mi with
  |h=>
   obtain⟨y,d⟩:=a00.1 (d.resolve_left (by simp[Md.isW]));exact D0l d j m
  |_=>cases l
 |h=>
  cases mi with
  |f=>
   obtain⟨o,g⟩:=a00.1 (g.resolve_left (by simp[Md.isW]));exact D0m g j m
  |x=>cases l
  |c ws=>cases l
  |e=>cases l
  |b ws=>cases l
  |a ws=>cases l
  |w ws=>
   obtain⟨o,g⟩:=a00.1 (g.resolve_left (by simp[Md.isW]));exact D0n g j m
  |k ws=>
   obtain⟨o,g⟩:=a00.1 (g.resolve_left (by simp[Md.isW]));exact o0v rfl g j m
  |_=>exact B trivial trivial
 |k ws=>
  have C:mi.isV=true→a0g cx mi ops.toList i Γ (fun Γ1=>a0g cx (.k ws) ops.toList k Γ1 K)=some z:=fun F=>by
   obtain⟨y,d⟩:=a00.1 (d.resolve_left (by cases mi<;>first|(cases F;done)|simp[Md.isW]))
   exact D0o F d j m
  cases mi with
  |h=>exact C rfl
  |v=>exact C rfl
  |p=>exact C rfl
  |u=>exact C rfl
  |_=>cases l
 |p=>
  cases mi with
  |k ws=>
   obtain⟨o,g⟩:=a00.1 (g.resolve_left (by simp[Md.isW]));exact o0v rfl g j m
  |x=>cases l
  |f=>cases l
  |c ws=>cases l
  |e=>cases l
  |b ws=>cases l
  |a ws=>
   obtain⟨o,g⟩:=a00.1 (g.resolve_left (by simp[Md.isW]));exact s0c (.inl rfl) (.inl rfl) g j m
  |w ws=>
   obtain⟨o,g⟩:=a00.1 (g.resolve_left (by simp[Md.isW]));exact w0z (.inl rfl) g j m
  |_=>exact B trivial trivial
 |s=>
  cases mi with
  |k ws=>cases l
  |x=>cases l
  |f=>cases l
  |c ws=>cases l
  |e=>cases l
  |a ws=>cases l
  |w ws=>cases l
  |b ws=>
   obtain⟨o,g⟩:=a00.1 (g.resolve_left (by simp[Md.isW]));exact D0r g j m
  |_=>exact B trivial trivial
 |b ws=>
  cases mi with
  |t=>
   obtain⟨y,d⟩:=a00.1 (d.resolve_left (by simp[Md.isW]));exact D0i d j m
  |s=>
   obtain⟨y,d⟩:=a00.1 (d.resolve_left (by simp[Md.isW]));exact D0h d j m
  |u=>
   obtain⟨y,d⟩:=a00.1 (d.resolve_left (by simp[Md.isW]));exact s0b (.inr rfl) (.inr (.inl rfl)) d j m
  |_=>cases l
 |a ws=>
  cases mi with
  |p=>
   obtain⟨y,d⟩:=a00.1 (d.resolve_left (by simp[Md.isW]));exact s0b (.inl rfl) (.inl rfl) d j m
  |_=>cases l
 |u=>
  cases mi with
  |k ws=>
   obtain⟨o,g⟩:=a00.1 (g.resolve_left (by simp[Md.isW]));exact o0v rfl g j m
  |x=>cases l
  |f=>cases l
  |a ws=>cases l
  |b ws=>
   obtain⟨o,g⟩:=a00.1 (g.resolve_left (by simp[Md.isW]));exact s0c (.inr rfl) (.inr (.inl rfl)) g j m
  |c ws=>
   obtain⟨o,g⟩:=a00.1 (g.resolve_left (by simp[Md.isW]));exact s0c (.inr rfl) (.inr (.inr rfl)) g j m
  |w ws=>
   obtain⟨o,g⟩:=a00.1 (g.resolve_left (by simp[Md.isW]));exact w0z (.inr rfl) g j m
  |e=>
   obtain⟨o,g⟩:=a00.1 (g.resolve_left (by simp[Md.isW]));exact D0u g j m
  |_=>exact B trivial trivial
 |t=>
  cases mi with
  |k ws=>cases l
  |x=>cases l
  |f=>cases l
  |a ws=>cases l
  |b ws=>
   obtain⟨o,g⟩:=a00.1 (g.resolve_left (by simp[Md.isW]));exact D0s g j m
  |w ws=>cases l
  |e=>cases l
  |c ws=>
   obtain⟨o,g⟩:=a00.1 (g.resolve_left (by simp[Md.isW]));exact D0t g j m
  |_=>exact B trivial trivial
 |c ws=>
  cases mi with
  |u=>
   obtain⟨y,d⟩:=a00.1 (d.resolve_left (by simp[Md.isW]));exact s0b (.inr rfl) (.inr (.inr rfl)) d j m
  |t=>
   obtain⟨y,d⟩:=a00.1 (d.resolve_left (by simp[Md.isW]));exact D0j d j m
  |_=>cases l
 |e=>
  cases mi with
  |u=>
   obtain⟨y,d⟩:=a00.1 (d.resolve_left (by simp[Md.isW]));exact D0k d j m
  |_=>cases l
 |v=>
  cases mi with
  |k ws=>
   obtain⟨o,g⟩:=a00.1 (g.resolve_left (by simp[Md.isW]));exact o0v rfl g j m
  |x=>cases l
  |f=>cases l
  |c ws=>cases l
  |e=>cases l
  |b ws=>cases l
  |a ws=>cases l
  |w ws=>
   obtain⟨o,g⟩:=a00.1 (g.resolve_left (by simp[Md.isW]));exact D0v g j m
  |_=>exact B trivial trivial
 |q=>
  cases mi with
  |k ws=>cases l
  |x=>cases l
  |f=>cases l
  |c ws=>cases l
  |e=>cases l
  |b ws=>cases l
  |a ws=>cases l
  |w ws=>cases l
  |_=>exact B trivial trivial
 |r ns=>
  cases mi with
  |k ws=>cases l
  |x=>cases l
  |f=>cases l
  |c ws=>cases l
  |e=>cases l
  |b ws=>cases l
  |a ws=>cases l
  |w ws=>
   obtain⟨o,g⟩:=a00.1 (g.resolve_left (by simp[Md.isW]));exact D0q l g j m
  |_=>exact B trivial trivial
 |w ws=>
  cases mi with
  |h=>
   obtain⟨y,d⟩:=a00.1 (d.resolve_left (by simp[Md.isW]));exact D0w d j m
  |p=>
   obtain⟨y,d⟩:=a00.1 (d.resolve_left (by simp[Md.isW]));exact x0a (.inl rfl) d j m
  |v=>
   obtain⟨y,d⟩:=a00.1 (d.resolve_left (by simp[Md.isW]));exact D0y d j m
  |u=>
   obtain⟨y,d⟩:=a00.1 (d.resolve_left (by simp[Md.isW]));exact x0a (.inr rfl) d j m
  |r ns=>
   obtain⟨y,d⟩:=a00.1 (d.resolve_left (by simp[Md.isW]));exact D0x l d j m
  |_=>cases l
end
theorem p0b(g:Nat→Nat)(k:Nat):∀(l:List Edge)(s:Nat),(l.foldl (fun s e=>if Region.binds .any e then s ||| 2^e.on ||| g e.on else s) s).testBit k=true→
  s.testBit k=true∨∃e∈l,Region.binds .any e=true∧(e.on=k∨(g e.on).testBit k=true)
 | [],s,h=>.inl h
 |e::l,s,h=>by
  rcases p0b g k l _ h with h|⟨a,f,b⟩
  by_cases hb:Region.binds .any e=true
  simp only[]at h;rw[if_pos hb,Nat.testBit_or,Nat.testBit_or,Nat.testBit_two_pow]at h;simp only[a39,dT]at h;rcases h with(h|h)|h;exact .inl h;exact .inr ⟨e,by simp,hb,.inl h⟩;exact .inr ⟨e,by simp,hb,.inr h⟩;simp only[]at h;rw[if_neg hb]at h;exact .inl h;exact .inr ⟨a,by simp[f],b⟩
def x0d(ops:List Oper)(b:List Nat):Prop:=∀j k,j<b.length→(b.getD j 0).testBit k=true→
 ∃e∈(ops.getD j default).after.toList,Region.binds .any e=true∧(e.on=k∨(b.getD e.on 0).testBit k=true)
theorem s0g(all:List Oper):∀(r:List Oper)(acc:List Nat),(∀j,r[j]?=all[acc.length+j]?)→x0d all acc→x0d all (p0o r acc)∧(p0o r acc).length=acc.length+r.length
 | [],acc,_,h=>⟨h,by simp[p0o]⟩
 |o::r,acc,hr,h=>by
  simp only[p0o];have p:all.getD acc.length default=o:=by
   have:=hr 0
   simp only[a36,a46]at this;rw[lD,←this];rfl
  have ⟨a,b⟩:=s0g all r (acc++[o.after.toList.foldl (fun s e=>if Region.binds .any e then s ||| 2^e.on ||| acc.getD e.on 0 else s) 0]) (fun j=>by
    have:=hr (j+1)
    simp only[List.getElem?_cons_succ]at this;rw[this,lN,a40];congr 1;omega) (fun j k q g=>by
   have n:∀m,(acc.getD m 0).testBit k=true→((acc++[o.after.toList.foldl (fun s e=>if Region.binds .any e then s ||| 2^e.on ||| acc.getD e.on 0 else s) 0]).getD m 0).testBit k=true:=fun m l=>by
    by_cases hlt:m<acc.length
    rw[lD,a34 hlt,←lD];exact l;rw[lD,a28 (by omega)]at l;simp at l
   by_cases hlt:j<acc.length
   rw[lD,a34 hlt,←lD]at g;obtain⟨e,d,f,c⟩:=h j k hlt g;exact⟨e,d,f,c.imp id (n e.on)⟩;have i:j=acc.length:=by simp only[lN,a40]at q;omega
   subst i;rw[lD,List.getElem?_append_right (Nat.le_refl _)]at g;simp only[Nat.sub_self,a36,a21]at g;rcases p0b (fun m=>acc.getD m 0) k _ _ g with h'|⟨e,d,f,c⟩;simp at h';exact⟨e,by rw[p];exact d,f,c.imp id (n e.on)⟩)
  exact⟨a,by rw[b];simp;omega⟩
section
variable {P:Program} {B:Base} {N:Nat} {cx:Cx} {ro:Option Nat} {D:List Deferred}
theorem E0q{ρ:Type}{ops:Array Oper}{mi:Md}{i:Oper}{z:ρ}(l2:List (Md×Oper)):∀(l1:List (Md×Oper)) {Γ:AE} {K:AE→Rs ρ},
  (∀p∈l1,q0l p.1 mi=true∧p.2.apart ops i=true∧(p.1.isW=true∨p.2.dst.isSome=true)∧(mi.isW=true∨i.dst.isSome=true))→(∀t∈i.looksAt ops,∀n∈(Γ.sl t).refs,mi.reads n→Γ.rt n≠none)→
  h0q cx ops.toList (l1++(mi,i)::l2) Γ K=some z→a0g cx mi ops.toList i Γ (fun Γ1=>h0q cx ops.toList (l1++l2) Γ1 K)=some z
 | [],Γ,K,_,_,j=>j
 |(mk,k)::l1,Γ,K,hall,hroots,j=>by
  obtain⟨F,J,E,P⟩:=hall (mk,k) (by simp);have j:a0g cx mk ops.toList k Γ (fun Γ1=>h0q cx ops.toList (l1++(mi,i)::l2) Γ1 K)=some z:=j;have H:∀Γ1,(∀t∈i.looksAt ops,∀n∈(Γ1.sl t).refs,mi.reads n→Γ1.rt n≠none)→h0q cx ops.toList (l1++(mi,i)::l2) Γ1 K=some z→a0g cx mi ops.toList i Γ1 (fun Γ2=>h0q cx ops.toList (l1++l2) Γ2 K)=some z:=
   fun Γ1 hr h=>E0q l2 l1 (fun p hp=>hall p (by simp[hp])) hr h
  refine swap F E P J hroots ?_
  obtain⟨a1,-,-⟩:=Oper.apart_spec J;have I:mk.quiet→a0g cx mk ops.toList k Γ (fun Γ1=>a0g cx mi ops.toList i Γ1 fun Γ2=>h0q cx ops.toList (l1++l2) Γ2 K)=some z:=fun R=>by
   obtain⟨T,E⟩:=a00.1 (E.resolve_left (by cases mk<;>first|(cases R;done)|simp[Md.isW]))
   have a1:=a1 T E;obtain⟨δ,L,G,B,C,U⟩:=v0f R E j;rw[U Γ ⟨rfl,fun _ _=>⟨rfl,fun _ _ _=>rfl⟩⟩ C];refine H _ (fun t y n l g=>?_) B;rw[i0x,if_neg (fun e=>a1 (by rw[←e];exact y))]at l
   have:=hroots t y n l g
   rw[n0j C this];exact this
  cases mk with
  |v=>exact I trivial
  |h=>exact I trivial
  |k ws=>
   obtain⟨W,m,-,B,C⟩:=y0k j;rw[C Γ Same.refl];refine H _ (fun t y n l g=>?_) B;cases mi with
   |h=>cases g
   |v=>cases g
   |p=>cases g
   |u=>cases g
   |_=>cases F
  |p=>exact I trivial
  |a ws=>
   obtain⟨W,m,G,N,B,C⟩:=C0f j;rw[C Γ Same.refl];refine H _ (fun t y n l g=>?_) B;cases mi with
   |p=>cases g
   |_=>cases F
  |b ws=>
   obtain⟨W,m,G,N,-,M,-,B,C⟩:=t0r j;rw[C Γ Same.refl];refine H _ (fun t y n l g=>?_) B;cases mi with
   |s=>
    have A:¬ k.dst=some t:=fun e=>a1 t e y;rw[c0p,if_neg A]at l
    have:=hroots t y n (G.refs l) trivial
    intro e;have D:=k0g (d:=k.dst) M n;rw[e]at D;cases e3:Γ.rt n with
    |none=>exact this e3
    |some r=>rw[e3]at D;cases D
   |t=>
    have A:¬ k.dst=some t:=fun e=>a1 t e y;rw[c0p,if_neg A]at l
    have:=hroots t y n (G.refs l) trivial
    intro e;have D:=k0g (d:=k.dst) M n;rw[e]at D;cases e3:Γ.rt n with
    |none=>exact this e3
    |some r=>rw[e3]at D;cases D
   |u=>cases g
   |_=>cases F
  |c ws=>
   obtain⟨W,m,G,N,-,M,B,C⟩:=t0t j;rw[C Γ Same.refl];refine H _ (fun t y n l g=>?_) B;cases mi with
   |t=>
    have A:¬ k.dst=some t:=fun e=>a1 t e y;rw[c0p,if_neg A]at l
    have:=hroots t y n (G.refs l) trivial
    intro e;have D:=k0g (d:=k.dst) (fun n l=>o0f (M n l)) n;rw[e]at D;cases e3:Γ.rt n with
    |none=>exact this e3
    |some r=>rw[e3]at D;cases D
   |u=>cases g
   |_=>cases F
  |e=>
   rw[b0i]at j⊢;cases hl:a0n ops k Γ with
   |none=>rw[hl]at j;cases j
   |some b=>
    rw[hl]at j;have S:∀Γ1:AE,∀t∈i.looksAt ops,∀n∈(Γ1.sl t).refs,mi.reads n→Γ1.rt n≠none:=fun Γ1 t y n l g=>by
     cases mi with
     |u=>cases g
     |_=>cases F
    cases b with
    |false=>exact H _ (S _) j
    |true=>
     simp only[b0d]at j⊢;obtain⟨O,j⟩:=(a0b j).elim id fun h=>by cases h.2
     rw[O];exact H _ (S _) j
  |f=>
   rcases x0z (cx:=cx) (ops:=ops) (Γ:=Γ) (o:=k) (ρ:=ρ)with h|⟨Γ1,G,B⟩;rw[h]at j;cases j
   ·rw[B]at j⊢;refine H Γ1 (fun t y n l g=>?_) j;cases mi with
    |h=>cases g
    |_=>cases F
  |u=>exact I trivial
  |t=>exact I trivial
  |s=>exact I trivial
  |q=>exact I trivial
  |r ns=>exact I trivial
  |w ws=>
   obtain⟨W,m,G,N,B,C⟩:=j0o j;rw[C Γ Same.refl];refine H _ (fun t y n l g=>?_) B;have A:¬ k.dst=some t:=fun e=>a1 t e y;rw[c0c,if_neg A]at l;have l:=G.refs l;cases mi with
   |h=>cases g
   |v=>cases g
   |p=>cases g
   |u=>cases g
   |r ns=>
    have Q:n∉W:=fun V=>p0q F g (N n V);rw[g0j Q];exact hroots t y n l g
   |_=>cases F
  |x=>cases mi<;>cases F
def c0u(n:Nat)(listed:Array Bool):List Nat:=(a29 n).filter fun i=>!listed.getD i true
def n0z(ops:Array Oper)(ms:List Md)(i:Nat):Md×Oper:=(ms.getD i .x,ops.getD i default)
structure DrawOk (ops:Array Oper) (ms:List Md) (b:List Nat):Prop where
 len:ms.length=ops.size
 good:x0d ops.toList b
 lb:b.length=ops.size
 back:∀j e,j<ops.size→e∈(ops.getD j default).after.toList→Region.binds .any e=true→e.on<j
 pair:∀i j,i<j→j<ops.size→(b.getD j 0).testBit i=true∨(q0l (ms.getD i .x) (ms.getD j .x)=true∧(ops.getD i default).apart ops (ops.getD j default)=true∧((ms.getD i .x).isW=true∨(ops.getD i default).dst.isSome=true)∧((ms.getD j .x).isW=true∨(ops.getD j default).dst.isSome=true))
theorem v0s(h:n0o ops ms=true):DrawOk ops ms (p0o ops.toList []):=by
 simp only[n0o,bA,dT,lA,a07]at h;obtain⟨d,a⟩:=h;obtain⟨b,c⟩:=s0g ops.toList ops.toList [] (fun j=>by simp) (fun j k g=>by simp at g);refine⟨d,b,by simpa using c,fun j e g m l=>?_,fun i j f g=>?_⟩
 have:=(a j g).1 e m
 simp only[l,bT,Bool.false_or,dT]at this;exact this
 have:=(a j g).2 i f
 simp only[a39,bA]at this;exact this
theorem r0g{listed:Array Bool}(hs:listed.size=n)(hi:i∈c0u n listed):∃l1 l2,c0u n listed=l1++i::l2∧c0u n (listed.setIfInBounds i true)=l1++l2∧∀k∈l1,k<i∧k∈c0u n listed:=by
 have c:i<n:=by
  simp only[c0u,a08,a07]at hi;exact hi.1
 have b:listed.getD i true=false:=by
  simp only[c0u,a08,a18]at hi;exact hi.2
 have h:a29 n=a29 i++i::(List.range' (i+1) (n-i-1)):=by
  rw[a42,a42,show n=i+(1+(n-i-1))from by omega,←a43,←a43]
  simp
 have f:∀j,j≠i→(listed.setIfInBounds i true).getD j true=listed.getD j true:=fun j g=>by
  simp only[a01];rw[a16 (Ne.symm g)]
 refine⟨(a29 i).filter fun i=>!listed.getD i true,(List.range' (i+1) (n-i-1)).filter fun i=>!listed.getD i true,?_,?_,fun k a=>?_⟩;simp only[c0u];rw[h,a45,a48,if_pos (by simp[b])];simp only[c0u];rw[h,a45,a48,if_neg (by
  simp only[a01];rw[a20 (by omega)]
  simp)]
 congr 1;exact a33 fun j g=>by rw[f j (by have:=a07.1 g;omega)]
 exact a33 fun j g=>by rw[f j (by have:=List.mem_range'_1.1 g;omega)]
 simp only[a08,a07]at a;exact⟨a.1,by simp only[c0u,a08,a07];exact⟨by omega,a.2⟩⟩
theorem B0a(g6:CxOk P cx)(hG:GOk cx.G B){ρ:Type}{ops:Array Oper}{ms:List Md}{b:List Nat}(F:DrawOk ops ms b){K:AE→Rs ρ}{z:ρ}{Q:Exit→Act→World→Prop}(hf:∀o∈ops.toList,f0e N ops.toList o=true)
  (hQ:∀a' w' Γ' σ',Rel B Γ' N (a0f a') w' σ'→a'.tmps.size=N→a'.defers=D→K Γ'=some z→Q .normal a' w'):
  ∀(fuel:Nat)(f:Array Bool){Γ:AE}{a:Act}{w:World}{σ:Gh},f.size=ops.size→(c0u ops.size f).length=fuel→
   (∀j k,j<ops.size→f.getD j true=true→(b.getD j 0).testBit k=true→f.getD k true=true)→
   Rel B Γ N (a0f a) w σ→a.tmps.size=N→a.defers=D→h0q cx ops.toList ((c0u ops.size f).map (n0z ops ms)) Γ K=some z→wpAnyIn (Fr ro) 0 P .any ops Q fuel f a w:=by
 intro fuel;have H:∀f i,i∈Region.ready .any ops f→i∈c0u ops.size f∧∀e∈(ops.getD i default).after.toList,Region.binds .any e=true→f.getD e.on false=true:=by
  intro f i hi;simp only[Region.ready,a08,a07,bA]at hi;refine⟨by simp only[c0u,a08,a07];exact⟨hi.1,hi.2.1⟩,fun e he hb=>?_⟩;have h3:=hi.2.2;have d:ops[i]?=some (ops.getD i default):=by
   have O:=hi.1;simp[a01,O]
  rw[d]at h3;simp only[a15,a21]at h3;rw[←a49]at h3
  have:=lA.1 h3 e he
  simpa[hb]using this
 have X:∀(f:Array Bool),c0u ops.size f=[]→Region.ready .any ops f=[]:=fun f h=>by
  refine List.eq_nil_iff_forall_not_mem.2 fun i hi=>?_
  have:=(H f i hi).1
  rw[h]at this;cases this
 induction fuel with
 |zero=>
  intro f Γ a w σ hs hl hcl hr hN hD hz;have h0:=List.eq_nil_of_length_eq_zero hl;rw[h0]at hz;exact⟨X f h0,hQ a w Γ σ hr hN hD hz⟩
 |succ fuel ih=>
  intro f Γ a w σ hs hl hcl hr hN hD hz;refine⟨fun g0=>?_,fun i hi=>?_⟩
  ·
   exfalso
   cases hR:c0u ops.size f with
   |nil=>rw[hR]at hl;cases hl
   |cons i R=>
    have C:i∈c0u ops.size f:=by rw[hR];simp
    have hi:=C;simp only[c0u,a08,a07]at hi
    have:i∈Region.ready .any ops f:=by
     simp only[Region.ready,a08,a07,bA];refine⟨hi.1,hi.2,?_⟩;have d:ops[i]?=some (ops.getD i default):=by
      have O:=hi.1;simp[a01,O]
     rw[d];simp only[a15,a21];rw[←a49];refine lA.2 fun e he=>?_
     by_cases hb:Region.binds .any e=true
     ·have O:=F.back i e hi.1 he hb;have E:f.getD e.on true=true:=by
       cases hv:f.getD e.on true with
       |true=>rfl
       |false=>
        obtain⟨l1,l2,V,-,g3⟩:=r0g (n:=ops.size) hs (i:=e.on) (by simp only[c0u,a08,a07];exact⟨by omega,by simp[hv]⟩);have U:(c0u ops.size f).Pairwise (·<·):=List.Pairwise.filter _ List.pairwise_lt_range;rw[hR]at V U;cases l1 with
        |nil=>simp only[List.nil_append,List.cons.injEq]at V;omega
        |cons x l1=>
         simp only[a47,List.cons.injEq]at V
         have:=(List.pairwise_cons.1 U).1 e.on (by rw[V.2];simp)
         omega
      have M:f.getD e.on false=true:=by
       have:e.on<f.size:=by omega
       simp only[a01,a23 this,a21]at E⊢;exact E
      simp[M]
     simp[hb]
    rw[g0]at this;cases this
  ·obtain⟨C,W⟩:=H f i hi;obtain⟨l1,l2,V,g2,g3⟩:=r0g hs C;have J:i<ops.size:=by simp only[c0u,a08,a07]at C;exact C.1
   have d:ops[i]?=some (ops.getD i default):=by
    simp[a01,J]
   have h9:ops.getD i default∈ops.toList:=by
    rw[Array.mem_toList_iff];exact Array.mem_of_getElem? d
   have A:=hf _ h9;have tr:∀k,f.getD k false=true→f.getD k true=true:=fun k L=>by
    simp only[a01]at L⊢;cases h:f[k]? with
    |none=>rfl
    |some v=>rw[h]at L;simpa using L
   have T:∀k,(b.getD i 0).testBit k=true→f.getD k true=true:=fun k L=>by
    obtain⟨e,he,S,h2⟩:=F.good i k (by rw[F.lb];exact J) L;have h6:e∈(ops.getD i default).after.toList:=by
     rwa [show ops.toList.getD i default=ops.getD i default from by simp[lD,a01]]at he
    have g4:=W e h6 S;rcases h2 with rfl|h2;exact tr _ g4;exact hcl e.on k (by have:=F.back i e J h6 S;omega) (tr _ g4) h2
   rw[V,pA,List.map_cons]at hz;have Y:=E0q (cx:=cx) (mi:=ms.getD i .x) (i:=ops.getD i default) (l2.map (n0z ops ms)) (l1.map (n0z ops ms)) (fun p hp=>by
     obtain⟨k,L,rfl⟩:=a17.1 hp;obtain⟨g7,h7⟩:=g3 k L;rcases F.pair k i g7 J with h|h
     have:=T k h
     simp only[c0u,a08,a18]at h7;rw[h7.2]at this;cases this;exact h) (fun t I n y _=>by
     have g8:t<N:=by
      simp only[Oper.looksAt,mA]at I;rcases I with I|I
      ·obtain⟨x,hx,Z⟩:=a14.1 I
       have:=a0r (i0r A) x hx
       cases x with
       |tmp t'=>simp only[sj]at Z;subst Z;simpa[b0m]using this
       |_=>cases Z
      ·cases hg:(ops.getD i default).guard with
       |none=>rw[hg]at I;cases I
       |some p=>
        obtain⟨j,g9⟩:=p;rw[hg]at I;simp only[Option.mem_toList]at I;have h5:f0i ops.toList j=some t:=by simpa[f0i]using I
        simp only[f0e,hg,h5,bA,dT]at A;exact A.2
     have hs:=hr.slots t g8
     revert hs y
     generalize Γ.sl t=sv;intro y hs;have one:∀(av:AV)(v:Value),a0e (a0a w σ.ov) σ.g Γ.rt (Shr B w σ) av v→n∈av.refs→Γ.rt n≠none:=fun av v ha y=>by
      cases av with
      |ptr m p=>obtain⟨r,t,b,o,S,-⟩:=ha;simp only[AV.refs,a31]at y;subst y;rw[S];simp
      |sref m p=>obtain⟨r,e,s,S,-⟩:=ha;simp only[AV.refs,a31]at y;subst y;rw[S];simp
      |swin m p o l=>obtain⟨r,e,s,_,_,_,S,-⟩:=ha;simp only[AV.refs,a31]at y;subst y;rw[S];simp
      |_=>cases y
     cases sv with
     |one av=>exact one av _ hs y
     |cmp c vs=>
      obtain⟨us,-,h2⟩:=hs;simp only[SV.refs,a27]at y;obtain⟨av,g5,y⟩:=y;obtain⟨k,L⟩:=List.mem_iff_getElem?.1 g5;obtain⟨u,-,hu⟩:=h2 k av L;exact one av u hu y) hz
   have q:=r0k (ro:=ro) (next:=wpAnyIn (Fr ro) 0 P .any ops Q fuel (f.setIfInBounds i true)) (Q:=Q) g6 hG hr hN A Y fun v w' Γ' σ' hr' hK=>by
    refine ih (f.setIfInBounds i true) (by simpa using hs) ?_ ?_ hr' (by rw[i0n];exact hN) (by rw[h0t];exact hD) ?_
    rw[g2];rw[V]at hl;simp only[lN,lC]at hl⊢;omega;intro j k hj h8 h4;have up:∀m,f.getD m true=true→(f.setIfInBounds i true).getD m true=true:=fun m hm=>by
     by_cases e:m=i
     subst e;simp only[a01];rw[a20 (by omega)];rfl;simp only[a01]at hm⊢;rw[a16 (Ne.symm e)];exact hm
    by_cases e:j=i
    subst e;exact up k (T k h4);refine up k (hcl j k hj ?_ h4);simp only[a01]at h8⊢
    rwa [a16 (Ne.symm e)]at h8
    rw[g2,pA];exact hK
   unfold wpOpIn;rw[d];simp only[]
   by_cases hw:Region.wanted (ops.getD i default) (yielded ops a.tmps)=true
   rw[if_pos hw]at q⊢;exact q;rw[if_neg hw]at q⊢;exact q
theorem u0a{ρ:Type}{Γ:AE}{a:Act}{w:World}{σ:Gh}(d:CxOk P cx)(p:GOk cx.G B)(t:P.follows .mixedOrders=true){ops:Array Oper}{id:Nat}{ms:List Md}{K:AE→Rs ρ}{z:ρ}{Q:Exit→Act→World→Prop}
  (h:Rel B Γ N (a0f a) w σ)(q:a.tmps.size=N)(n:a.defers=D)(hf:∀o∈ops.toList,f0e N ops.toList o=true)(e:n0o ops ms=true)(u:h0q cx ops.toList (ms.zip ops.toList) Γ K=some z)
  (r:∀a' w' Γ' σ',Rel B Γ' N (a0f a') w' σ'→a'.tmps.size=N→a'.defers=D→K Γ'=some z→Q .normal a' w'):(Code.region id ops true).wpIn (Fr ro) 0 P Q a w:=by
 refine wpIn_region_any t ?_
 have f:=v0s e;have b:Rel B Γ N (a0f a) { w with drawn:=w.drawn+1 } σ:=h.ext (fun _ _=>rfl) (Nat.le_refl _);have g:∀i,i<ops.size→(a51 ops.size false).getD i true=false:=fun i hi=>by
  simp[a01,hi]
 have c:c0u ops.size (a51 ops.size false)=a29 ops.size:=by
  simp only[c0u];exact List.filter_eq_self.2 fun i hi=>by rw[g i (a07.1 hi)];rfl
 refine B0a d p f hf r ops.size _ (by simp) (by rw[c];simp) (fun j k s l _=>by rw[g j s]at l;cases l) b q n ?_
 rw[c];rw[show(a29 ops.size).map (n0z ops ms)=ms.zip ops.toList from ?_];exact u;refine List.ext_getElem? fun i=>?_
 rw[List.getElem?_map]
 by_cases hi:i<ops.size
 have m:i<ms.length:=by rw[f.len];exact hi
 have v:i<ops.toList.length:=by simpa using hi
 rw[List.getElem?_range hi,lG (by rw[a52];omega)];simp only[a15,n0z,List.getElem_zip,sj,pJ];refine⟨by rw[lD,lG m];rfl,by rw[a01,a23 hi];simp⟩;rw[a28 (by simpa using Nat.le_of_not_lt hi),a28 (by rw[a52,f.len];simp;omega)];rfl
end
def k0m:Ex→Exit
 |.normal=>.normal
 |.exit i=>.exit i
 |.ret=>.ret
def C0d{ρ:Type}(B:Base)(N:Nat)(D:List Deferred)(K:Ex→AE→Rs ρ)(z:ρ):Exit→Act→World→Prop:=fun e a w=>
 ∃ex Γ σ,e=k0m ex∧K ex Γ=some z∧Rel B Γ N (a0f a) w σ∧a.tmps.size=N∧a.defers=D
def c0g(N:Nat):Code→Bool
 |.region _ ops _=>ops.toList.all (f0e N ops.toList)
 |.seq a b=>c0g N a&&c0g N b
 |.cond c a b=>b0m N c&&(c0g N a&&c0g N b)
 |.block _ c|.loop c=>c0g N c
 |_=>true
def Hints.fits(N:Nat)(H:Hints):Bool:=
 H.loops.all (fun p=>p.2.1.fits N&&p.2.2.all (fun q=>q.2.fits N))&&H.cuts.all (fun p=>p.2.all (fun q=>q.2.fits N))
theorem k0e{α:Type}:∀{l:List (Nat×α)} {n:Nat} {x:α},find l n=some x→∃k,(k,x)∈l
 |(k,y)::r,n,x,h=>by
  simp[find]at h;rcases a0b h with⟨-,h⟩|⟨-,h⟩;simp only[sj]at h;exact⟨k,by simp[h]⟩;obtain⟨k',g⟩:=k0e h;exact⟨k',a02 _ g⟩
section
variable {P:Program} {B:Base} {N:Nat} {cx:Cx} {H:Hints} {ro:Option Nat} {D:List Deferred}
theorem l0a{a:Act}{w:World}{c:Code}(I:Nat→Act→World→Prop)(k:Nat)(d:I k a w)(round:∀n a w,I n a w→c.wpIn (Fr ro) 0 P (Exit.then (fun g w'=>∃m,m<n∧I m g w') Q) a w):(Code.loop c).wpIn (Fr ro) 0 P Q a w:=by
 classical
 have least:∀a w,(∃n,I n a w)→∃n,I n a w∧∀m,I m a w→n≤m:=by
  intro a w ⟨n,l⟩
  induction n using Nat.strongRecOn with
  |_ n ih=>
   grind
 let μ:Act→World→Nat:=fun a w=>if h:∃n,I n a w then(least a w h).choose else 0
 refine wpIn_loop (fun a w=>∃n,I n a w) μ ⟨k,d⟩ fun a w b=>?_
 have hs:=(least a w b).choose_spec;refine wpIn_mono (round _ a w hs.1) fun e g w' f=>?_
 cases e with
 |normal=>
  obtain⟨m,j,hi⟩:=f;refine⟨⟨m,hi⟩,?_⟩;have i:∃n,I n g w':=⟨m,hi⟩
  grind
 |_=>exact f
theorem g0o(O:CxOk P cx)(hG:GOk cx.G B)(hm:P.follows .mixedOrders=true)(hH:H.fits N=true):∀(c:Code) (p:Nat){ρ:Type}{Γ:AE}{K:Ex→AE→Rs ρ}{z:ρ}{a:Act}{w:World}{σ:Gh}(_:c0g N c=true)
  (_:d0c cx H c p Γ K=some z) (_:Rel B Γ N (a0f a) w σ) (_:a.tmps.size=N) (_:a.defers=D),c.wpIn (Fr ro) 0 P (C0d B N D K z) a w:=by
 intro c;have I:∀p s os,find H.loops p=some (s,os)→s.fits N=true∧os.all (fun q=>q.2.fits N)=true:=fun p s os h=>by
  obtain⟨k,hk⟩:=k0e h;simp only[Hints.fits,bA]at hH
  grind
 have M:∀p os,find H.cuts p=some os→os.all (fun q=>q.2.fits N)=true:=fun p os h=>by
  obtain⟨k,hk⟩:=k0e h;simp only[Hints.fits,bA]at hH
  grind
 induction c with
 |skip=>intro p ρ Γ K z a w σ hf d h hN hD;exact wpIn_skip ⟨.normal,Γ,σ,rfl,by simp_all[d0c],h,hN,hD⟩
 |region rid ops draw=>
  intro p ρ Γ K z a w σ hf d h hN hD;simp[d0c]at d;have R:∀o∈ops.toList,f0e N ops.toList o=true:=fun o ho=>lA.1 hf o ho;cases draw with
  |false=>
   simp at d;refine wpIn_region_list ?_
   have:=w0j (Q:=C0d B N D K z) (ro:=ro) (D:=D) O hG (ops:=ops) (ops.toList.map fun o=>(Md.x,o)) h hN hD (fun q hq=>by
    grind) d (fun J w' Γ' σ' l f g j=>⟨.normal,Γ',σ',rfl,j,l,f,g⟩)
   rwa [List.map_map,show((fun x:Md×Oper=>x.2)∘fun o=>(Md.x,o))=_root_.id from rfl,a32]at this
  |true=>
   simp at d
   split at d
   rename_i ms h3;obtain⟨Y,d⟩:=(a0b d).elim id fun h=>by grind
   exact u0a O hG hm h hN hD R Y d fun J w' Γ' σ' l f g j=>⟨.normal,Γ',σ',rfl,j,l,f,g⟩;simp_all
 |seq x y ihx ihy=>
  intro p ρ Γ K z a w σ hf d h hN hD;simp[c0g]at hf;simp[d0c]at d;refine wpIn_seq ?_
  split at d
  ·refine wpIn_mono (ihx _ hf.1 d h hN hD) ?_
   rintro e J w' ⟨A,Γ',σ',rfl,j,l,f,g⟩
   cases A with
   |normal=>exact ihy _ hf.2 j l f g
   |exit i=>exact⟨.exit i,Γ',σ',rfl,j,l,f,g⟩
   |ret=>exact⟨.ret,Γ',σ',rfl,j,l,f,g⟩
  ·rename_i os F;obtain⟨y0,U,L⟩:=a37.1 d;refine wpIn_mono (ihx _ hf.1 U h hN hD) ?_
   rintro e J w' ⟨A,Γ',σ',rfl,j,l,f,g⟩
   obtain⟨y1,X,σ2,r,v,T⟩:=d0o os l (M _ _ F) j;simp at r;subst r;rw[T]at L;cases A with
   |normal=>exact ihy _ hf.2 L v f g
   |exit i=>exact⟨.exit i,X,σ2,rfl,L,v,f,g⟩
   |ret=>exact⟨.ret,X,σ2,rfl,L,v,f,g⟩
 |cond c x y ihx ihy=>
  intro p ρ Γ K z a w σ hf d h hN hD;simp[c0g]at hf;simp[d0c]at d
  split at d
  ·rename_i t ht;have V:=h.opd hf.1;rw[ht]at V;have V:=a0e.bool V;rcases a0b d with⟨rfl,d⟩|⟨rfl,d⟩
   all_goals grind[wpIn_cond_true,wpIn_cond_false]
  simp_all
 |block id c ih=>
  intro p ρ Γ K z a w σ hf d h hN hD;simp[d0c]at d;refine wpIn_block (wpIn_mono (ih _ hf d h hN hD) ?_)
  rintro e J w' ⟨A,Γ',σ',rfl,j,l,f,g⟩
  cases A with
  |normal=>exact⟨.normal,Γ',σ',rfl,j,l,f,g⟩
  |exit i=>
   simp[k0m,Exit.inBlock];rcases a0b j with⟨hi,j⟩|⟨hi,j⟩;rw[if_pos (by simp_all)];exact⟨.normal,Γ',σ',rfl,j,l,f,g⟩;rw[if_neg (by simp_all)];exact⟨.exit i,Γ',σ',rfl,j,l,f,g⟩
  |ret=>exact⟨.ret,Γ',σ',rfl,j,l,f,g⟩
 |loop c ih=>
  intro p ρ Γ K z a w σ hf d h hN hD;simp[d0c]at d
  split at d
  grind
  ·rename_i s os Z;obtain⟨hs,F⟩:=I _ _ _ Z;obtain⟨x0,σ0,U,L⟩:=h.dcd hs d;obtain⟨y,hy,j⟩:=a37.1 U;obtain⟨n0,W⟩:=s0t hy;refine l0a (fun n a w=>∃x σ,g0u _ n x=some y∧Rel B (s.enc x) N (a0f a) w σ∧a.tmps.size=N∧a.defers=D) n0 ⟨x0,σ0,W,L,hN,hD⟩ ?_
   rintro n a w ⟨x,σ,S,l,f,g⟩
   cases n with
   |zero=>simp_all[g0u]
   |succ n=>
    simp[g0u]at S
    split at S
    grind
    ·rename_i x' h0;refine wpIn_mono (ih _ hf h0 l f g) ?_
     rintro e J w' ⟨A,Γ',σ',rfl,m,u,E,C⟩
     cases A with
     |normal=>
      simp at m;obtain⟨x2,σ2,r,v⟩:=u.dcd hs m;simp at r;subst r;exact⟨n,Nat.lt_succ_self n,x2,σ2,S,v,E,C⟩
     |exit i=>
      grind[d0o]
     |ret=>
      grind[d0o]
    ·rename_i b hb;simp at S;subst S;refine wpIn_mono (ih _ hf hb l f g) ?_
     rintro e J w' ⟨A,Γ',σ',rfl,m,u,E,C⟩
     cases A with
     |normal=>
      simp at m;obtain⟨x2,σ2,r,v⟩:=u.dcd hs m
      grind
     |exit i=>
      obtain⟨y1,X,σ2,r,v,T⟩:=d0o os u F m;simp at r;subst r;rw[T]at j;exact⟨.exit i,X,σ2,rfl,j,v,E,C⟩
     |ret=>
      obtain⟨y1,X,σ2,r,v,T⟩:=d0o os u F m;simp at r;subst r;rw[T]at j;exact⟨.ret,X,σ2,rfl,j,v,E,C⟩
 |exit id=>intro p ρ Γ K z a w σ hf d h hN hD;exact wpIn_exit ⟨.exit id,Γ,σ,rfl,by simp_all[d0c],h,hN,hD⟩
 |ret=>intro p ρ Γ K z a w σ hf d h hN hD;exact wpIn_ret ⟨.ret,Γ,σ,rfl,by simp_all[d0c],h,hN,hD⟩
 |_=>intro p ρ Γ K z a w σ hf d h hN hD;simp only[d0c]at d;cases d
end
theorem v0a{α:Type}{P:Program}{w:World}{f:α→Sem Value}:∀(l:List α)(us:List Value),us.length=l.length→(∀(k:Nat) x u,l[k]?=some x→us[k]?=some u→(f x).run P w=.ok u w)→(l.mapM f).run P w=.ok us w
 | [],us,hl,_=>by
  simp_all
 |x::l,[],hl,_=>by simp_all
 |x::l,u::us,hl,h=>by
  have g:=h 0 x u rfl rfl;have a:=v0a l us (by simpa using hl) (fun k y v b hv=>h (k+1) y v (by simpa using b) (by simpa using hv));simp[List.mapM_cons,g,a,Result.andThen]
def c0w(tk:List Nat)(Γ Γ':AE):Prop:=
 (∀i av,Γ.get i=av→(av.firm=true∨∃n∈tk,av=.sref n []∨av=.ptr n [])→Γ'.get i=av)∧∀n∈tk,Γ'.rt n=Γ.rt n
theorem c0w.refl{tk Γ}:c0w tk Γ Γ:=⟨fun _ _ h _=>h,fun _ _=>rfl⟩
theorem c0w.trans{tk tk' Γ Γ' Γ''}(h:c0w tk Γ Γ')(f:c0w tk' Γ' Γ'')(hs:∀n∈tk,n∈tk'):c0w tk Γ Γ'':=
 ⟨fun i av hi k=>f.1 i av (h.1 i av hi k) (k.imp id fun⟨n,g,e⟩=>⟨n,hs n g,e⟩),fun n g=>(f.2 n (hs n g)).trans (h.2 n g)⟩
theorem c0w.gone{tk:List Nat}(g:n∉tk)(f:AV→AV)(hf:∀av:AV,(av.firm=true∨∃m,m≠n∧(av=.sref m []∨av=.ptr m []))→f av=av):c0w tk Γ ((Γ.mapv f).setRt n none):=by
 refine⟨fun i av hi k=>?_,fun m h=>?_⟩
 grind[AE.get,AE.setRt,AE.mapv,SV.mapv]
 have:(m==n)=false:=by
  grind
 simp[AE.setRt,AE.mapv,this]
theorem c0w.set{tk:List Nat}{Γ Γ':AE}(h:c0w tk Γ Γ'){j:Nat}{av:AV}(k:Γ.get j=.dead):c0w tk Γ (Γ'.set j av):=by
 refine⟨fun i v hi g=>?_,fun n a=>h.2 n a⟩;have f:i≠j:=by
  rintro rfl
  rw[k]at hi;subst hi;rcases g with g|⟨m,-,e|e⟩;cases g
  all_goals simp_all
 have:=h.1 i v hi g
 simp_all[AE.get,c0t]
def q0e(tk tk':List Nat)(Γ:AE)(av:AV):((r:RA)×r.ty.den)→Prop
 |⟨.v t,x⟩=>av=.val t x∧tk'=tk
 |⟨.o e,x⟩=>(∃n,av=.sref n []∧n∉tk∧tk'=n::tk∧Γ.rt n=some ⟨false,.list true e,x⟩)∨((av=.nils∨av=.empt)∧x=[]∧tk'=tk)
 |⟨.b t,x⟩=>∃n,av=.ptr n []∧n∉tk∧tk'=n::tk∧Γ.rt n=some ⟨true,t,x⟩
theorem u0o{r:Option Root}{av:AV}(h:Γ.get i=av)(hf:f av=av):((Γ.mapv f).setRt n r).get i=av:=by
 grind[AE.get,AE.setRt,AE.mapv,SV.mapv]
theorem Rel.clear{B Γ N tm w σ}(h:Rel B Γ N tm w σ)(V:Γ.rt n=some ⟨false,.list true e,l⟩)(P:Γ.pd=none)(hn:n<pinned){v:Value}(hv:a0e (a0a w σ.ov) σ.g Γ.rt (Shr B w σ) (.swin n [] 0 0) v):
  ∃σ1,Rel B ((Γ.mapv (AV.drop n)).setRt n (some ⟨false,.list true e,([]:List e.den)⟩)) N tm w σ1∧σ1.g n=.one v:=by
 have key:∃O,dec (a0a w σ.ov) (.list true e) ((Src.one v).rd (a0a w σ.ov))=some (([]:List e.den),O,[])∧(∀p∈O,p∈σ.ow n)∧(O.map (·.1)).Nodup:=by
  obtain⟨H,R,t,-,h3⟩:=(h.roots n _ V).rd;rcases h3 with⟨g,-⟩|⟨-,⟨W,T⟩,-,ho⟩
  grind
  obtain⟨r,e',s,a,l',c,F,G,J,-,I,rfl,Z,g6⟩:=hv;rw[V]at F;cases F;rw[T]at G t;have hs:Src.one W=s:=by
   have:=Option.some.inj G
   simp_all
  subst hs;obtain rfl:W=.slice a l' c:=by simpa[Src.rd]using J
  have t:a0w (a0a w σ.ov) true e.cells (dec (a0a w σ.ov) e) (some (.slice a l' c))=some (l,H,R):=t;show ∃O,a0w (a0a w σ.ov) true e.cells (dec (a0a w σ.ov) e) (some (.slice I 0 (c-0)))=_∧_
  by_cases z:c=0
  subst z;refine⟨[],?_,by simp,by simp⟩;cases I<;>simp[a0w,a0d]<;>rfl
  ·cases a with
   |none=>simp_all[a0w]
   |some A=>
    obtain rfl:I=some (A.add (0*e.cells)):=by simp_all
    have S:=(Z _ rfl).resolve_left (by omega);rw[Nat.zero_mul]at S;simp only[a0w]at t
    split at t
    split at t
    grind
    rename_i xs os rs U;simp only[if_true]at t;simp at t;obtain⟨-,rfl,-⟩:=t;simp_all[a0w,a0d,Addr.add];simp_all
 obtain⟨O,k1,k2,k3⟩:=key
 let f:Nat→b0k:=fun m=>if m=n then O else σ.ow m
 have d:∀m c,c∈(f m).map (·.1)→c∈(σ.ow m).map (·.1):=fun m c z=>by
  grind
 have C:∀c,a0u ⟨fun m=>if m=n then .one v else σ.g m,f,σ.ov⟩ c→a0u σ c:=fun c ⟨m,j⟩=>⟨m,d m c j⟩
 have E:∀c,Shr B w σ c→Shr B w ⟨fun m=>if m=n then .one v else σ.g m,f,σ.ov⟩ c:=fun c ⟨a1,X,Y⟩=>⟨a1,X,fun g=>Y (C c g)⟩
 have y:∀m,m≠n→((Γ.mapv (AV.drop n)).setRt n (some ⟨false,.list true e,([]:List e.den)⟩)).rt m=Γ.rt m:=fun m j=>by
  have:(m==n)=false:=by simp_all
  simp[AE.setRt,AE.mapv,this]
 have Q:((Γ.mapv (AV.drop n)).setRt n (some ⟨false,.list true e,([]:List e.den)⟩)).rt n=some ⟨false,.list true e,([]:List e.den)⟩:=by simp[AE.setRt]
 refine⟨⟨fun m=>if m=n then .one v else σ.g m,f,σ.ov⟩,⟨fun m r j=>?_,fun m j=>?_,fun m=>?_,fun m m' M c z K=>h.disj m m' M c (d m c z) (d m' c K),fun m p hp=>?_,fun i hi=>(h.slots i hi).mapv fun a u ha=>?_,?_,h.size,h.frame,fun c z=>h.mine c (C c z),fun i b hb D=>?_,h.still⟩,by simp⟩
 by_cases e1:m=n
 subst e1;rw[Q]at j;cases j;simp[f];exact⟨O,[],k1,by simp,.inr ⟨rfl,⟨v,rfl⟩,⟨e,rfl⟩,rfl⟩⟩;rw[y m e1]at j;simp[f,if_neg e1];obtain⟨H,R,F,G,J⟩:=(h.roots m r j).rd;exact⟨H,R,F,fun c z=>E c (G c z),J⟩
 by_cases e1:m=n
 simp_all;rw[y m e1]at j;simp[f,if_neg e1];exact h.norm m j
 by_cases e1:m=n
 grind
 simp[f,if_neg e1];exact h.nodup m
 by_cases e1:m=n
 simp[f,if_pos e1]at hp;exact h.live n p (k2 p hp);simp[f,if_neg e1]at hp;exact h.live m p hp
 ·by_cases hd:AV.drop n a=.dead
  rw[hd];trivial
  ·have L:AV.drop n a=a∧∀k q,(a=.ptr k q∨a=.sref k q∨∃o l,a=.swin k q o l)→k≠n:=by
    cases a<;>simp only[AV.drop]at hd⊢<;>try (refine⟨trivial,?_⟩;rintro k q (h|h|⟨o,l,h⟩)<;>cases h)
    all_goals simp_all
   rw[L.1];exact ha.other E y (fun k L=>by grind) L.2
 ·have:=h.pend
  show f0t _ _ _ Γ.pd σ.ov;rw[P]at this⊢;cases hov:σ.ov with
  |none=>trivial
  |some x=>rw[hov]at this;exact this.elim
 have:pinned+i≠n:=by omega
 rw[y _ this]at D;simp[if_neg this];exact h.pins i b hb D
def f0c(a:Nat→Value):ResultVar→Sem Value
 |.tmp t=>pure (a t)
 |.cell i t=>do loadVar t (←asAddr (a i))
def g0y(N0:Nat):ResultVar ⊕ Option Nat→Bool
 |.inl (.tmp i)=>decide (i<N0)
 |.inl (.cell i _)=>decide (i<N0)
 |.inr _=>true
def j0v(P:Program)(B:Base)(w:World)(tm:Nat→Value)(u:Value):ResultVar ⊕ Option Nat→Prop
 |.inl r=>(f0c tm r).run P w=.ok u w
 |.inr none=>u=.slice none 0 0
 |.inr (some n)=>∀i b,n=pinned+i→B.pin i=some b→n0h b u
section
variable {P:Program} {B:Base} {N:Nat} {w:World} {cx:Cx} {ρ:Type}
theorem s0z(h0:CxTy P cx){tm:Nat→Value}{N0:Nat}(H:N0≤N)(h:Rel B Γ N tm w σ)(y:Γ.pd=none){tk:List Nat}{r:RA}{v:ResultVar ⊕ Option Nat}(hv:g0y N0 v=true){K:r.ty.den→AE→List Nat→Rs ρ}{z:ρ}(a:Γ.out cx tk j r v K=some z):
  ∃x Γ1 σ1 tk1 av u,K x (Γ1.set j av) tk1=some z∧Rel B Γ1 N tm w σ1∧Γ1.pd=none∧a0e (a0a w σ1.ov) σ1.g Γ1.rt (Shr B w σ1) av u∧j0v P B w tm u v∧q0e tk tk1 Γ1 av ⟨r,x⟩∧c0w tk Γ Γ1∧
   ∀i,Γ.get i=.dead→Γ1.get i=.dead:=by
 have s:∀(Γ:AE)(n:Nat)(f:AV→AV),f .dead=.dead→∀i,Γ.get i=.dead→((Γ.mapv f).setRt n none).get i=.dead:=fun Γ n f hf i hi=>by
  grind[AE.get,AE.setRt,AE.mapv,SV.mapv]
 cases r with
 |v t=>
  cases v with
  |inr n=>simp_all[AE.out]
  |inl rv=>
   cases rv with
   |tmp i=>
    simp[g0y]at hv;simp[AE.out]at a;rcases a0b a with⟨-,g⟩|⟨h7,a⟩
    grind
    have d:∀n∈(Γ.get i).viewed,n∉tk:=fun n hn hu=>by
     simp_all
    have q:=d0k h (a24 hv H);have key:∃x Γ1 σ1,K x (Γ1.set j (.val t x)) tk=some z∧Rel B Γ1 N tm w σ1∧VOk (a0a w σ1.ov) (Shr B w σ1) t x (tm i)∧Γ1.pd=Γ.pd∧c0w tk Γ Γ1∧∀i,Γ.get i=.dead→Γ1.get i=.dead:=by

     let K':t.den→AE→Rs ρ:=fun x Γ'=>K x (Γ'.set j (.val t x)) tk
     cases D:Γ.get i with
     |glob g=>
      simp_all[AE.asV]
     |val J x=>
      rw[D]at a q;simp[AE.asV]at a
      split at a
      rename_i Q O;exact⟨Q,Γ,σ,a,h,VOk.castTo O q,rfl,c0w.refl,fun _ g=>g⟩;simp_all
     |nils=>
      rw[D]at a q;cases t with
      |list o e=>
       cases o with
       |false=>
        obtain q:tm i=_:=q;exact⟨[],Γ,σ,a,h,by rw[q];exact VOk.empty,rfl,c0w.refl,fun _ g=>g⟩
       |true=>simp_all[AE.asV]
      |nl e=>
       obtain q:tm i=_:=q;exact⟨_,Γ,σ,a,h,by simp_all[VOk.nil_nl],rfl,c0w.refl,fun _ g=>g⟩
      |_=>simp only[AE.asV]at a;cases a
     |empt=>
      rw[D]at a q;cases t with
      |list o e=>
       cases o with
       |false=>
        obtain⟨A,q⟩:=q;exact⟨[],Γ,σ,a,h,by rw[q];exact VOk.empty,rfl,c0w.refl,fun _ g=>g⟩
       |true=>simp_all[AE.asV]
      |_=>simp only[AE.asV]at a;cases a
     |sref n p=>
      rw[D]at a q d;cases p with
      |cons=>simp_all[AE.asV]
      |nil=>
       simp[AE.asV]at a
       split at a
       ·rename_i e l C;obtain⟨W,C⟩:=a0q C
        split at a
        ·rename_i ht;subst ht;have M:=h.sref_vok q C rfl;refine⟨_,_,_,a,h.frz C (by simp_all),M.frame (fun _ _ _=>rfl) (fun c U=>?_),rfl,c0w.gone (d n (by simp[AV.viewed])) _ ?_,s Γ n _ rfl⟩;rcases U with g|g;exact Rel.shr_gone c g;have E:a0u σ c:=⟨n,g⟩;refine⟨h.lt E,.inr (h.mine c E),fun⟨m,F⟩=>?_⟩;have F:c∈(if m=n then[]else σ.ow m).map (·.1):=F
         split at F
         simp_all;rename_i L;exact h.disj m n L c F g
         ·rintro av (g|⟨m,F,rfl|rfl⟩)
          cases av<;>first|rfl|cases g
          all_goals simp_all[AV.frz]
        simp_all
       simp_all
     |swin n p o k=>
      rw[D]at a q d;cases p with
      |cons=>simp_all[AE.asV]
      |nil=>
       simp[AE.asV]at a
       split at a
       ·rename_i e l C;obtain⟨W,C⟩:=a0q C
        split at a
        ·rename_i ht;subst ht;have M:=h.swin_vok q C rfl;refine⟨_,_,_,a,h.frz C (by simp_all),M.frame (fun _ _ _=>rfl) (fun c U=>?_),rfl,c0w.gone (d n (by simp[AV.viewed])) _ ?_,s Γ n _ rfl⟩;rcases U with g|g;exact Rel.shr_gone c g;have E:a0u σ c:=⟨n,g⟩;refine⟨h.lt E,.inr (h.mine c E),fun⟨m,F⟩=>?_⟩;have F:c∈(if m=n then[]else σ.ow m).map (·.1):=F
         split at F
         simp_all;rename_i L;exact h.disj m n L c F g
         ·rintro av (g|⟨m,F,rfl|rfl⟩)
          cases av<;>first|rfl|cases g
          all_goals simp_all[AV.frz]
        simp_all
       simp_all
     |dead|skp|nilp|ptr|vptr=>rw[D]at a;cases a
    obtain⟨x,Γ1,σ1,k1,k2,k3,k4,k5,k6⟩:=key;exact⟨x,Γ1,σ1,tk,.val t x,tm i,k1,k2,k4.trans y,k3,by rfl,⟨rfl,rfl⟩,k5,k6⟩
   |cell i J=>
    simp[g0y]at hv;simp only[AE.out]at a;have q:=d0k h (a24 hv H)
    split at a
    ·rename_i n D;rw[D]at q;rcases a0b a with⟨-,g⟩|⟨d,a⟩
     grind
     have d:n∉tk:=by simp_all
     split at a
     ·rename_i hT;obtain⟨h6,hty⟩:=h0.T J _ hT;obtain⟨u,Γ1,σ1,G,h1,h2,h3,Y,h5⟩:=Rel.lod hty h6 h q a
      split at Y
      ·rename_i h8 x
       split at Y
       ·rename_i Q O;have S:a0e (a0a w σ1.ov) σ1.g Γ1.rt (Shr B w σ1) (.val t Q) u:=VOk.castTo O h3;have hu:(f0c tm (.cell i J)).run P w=.ok u w:=by
         obtain⟨r',t1,b,off,-,-,g3⟩:=q;simp_all[Instr.loadAt,Instr.sureAddr,f0c,asAddr]
        rcases h5 with⟨rfl,rfl⟩|⟨-,m,F,rfl⟩;exact⟨Q,Γ1,σ1,tk,.val t Q,u,Y,h2,y,S,hu,⟨rfl,rfl⟩,c0w.refl,fun _ g=>g⟩
        ·cases F;refine⟨Q,_,σ1,tk,.val t Q,u,Y,h2,y,S,hu,⟨rfl,rfl⟩,c0w.gone d _ ?_,s Γ n _ rfl⟩
         rintro av (g|⟨m,F,rfl|rfl⟩)
         cases av<;>first|rfl|cases g
         all_goals simp_all[AV.drop]
       simp_all
      simp_all
     simp_all
    simp_all
 |o e=>
  cases v with
  |inr n=>
   cases n with
   |none=>
    simp[AE.out]at a;exact⟨[],Γ,σ,tk,.nils,.slice none 0 0,a,h,y,rfl,rfl,.inr ⟨.inl rfl,rfl,rfl⟩,c0w.refl,fun _ g=>g⟩
   |some n=>
    simp only[AE.out]at a;rcases a0b a with⟨-,g⟩|⟨d,a⟩
    grind
    have d:n∉tk:=by simp_all
    split at a
    rename_i X x C
    split at a
    rename_i I;subst I;rcases h.src_of C with⟨g,-⟩|⟨-,u,e2,D,-⟩
    grind
    refine⟨x,Γ,σ,n::tk,.sref n [],u,a,h,y,⟨_,X,.one u,C,by show some (_,σ.g n)=_;grind,rfl⟩,fun i b' hn Z=>?_,.inl ⟨n,rfl,d,rfl,C⟩,c0w.refl,fun _ g=>g⟩;subst hn
    have:=h.pins i b' Z (by simp_all)
    rw[←this,D];rfl;simp_all;simp_all
  |inl rv=>
   cases rv with
   |cell i J=>simp_all[AE.out]
   |tmp i=>
    simp[g0y]at hv;have q:=d0k h (a24 hv H);simp only[AE.out]at a
    split at a
    rename_i n D;rw[D]at q;rcases a0b a with⟨-,g⟩|⟨d,a⟩
    grind
    have d:n∉tk:=by simp_all
    split at a
    rename_i X l C
    split at a
    rename_i I;subst I;exact⟨l,Γ,σ,n::tk,.sref n [],tm i,a,h,y,q,by rfl,.inl ⟨n,rfl,d,rfl,C⟩,c0w.refl,fun _ g=>g⟩;simp_all;simp_all;rename_i D;rw[D]at q;exact⟨[],Γ,σ,tk,.nils,tm i,a,h,y,q,by rfl,.inr ⟨.inl rfl,rfl,rfl⟩,c0w.refl,fun _ g=>g⟩;rename_i D;rw[D]at q;exact⟨[],Γ,σ,tk,.empt,tm i,a,h,y,q,by rfl,.inr ⟨.inr rfl,rfl,rfl⟩,c0w.refl,fun _ g=>g⟩;rename_i n D;rw[D]at q;rcases a0b a with⟨-,g⟩|⟨d,a⟩
    grind
    simp only[Bool.or_eq_false_iff,Bool.not_eq_false',dT]at d;have V:n∉tk:=by simp_all
    split at a
    rename_i X l C
    split at a
    rename_i I;subst I;obtain⟨σ1,k1,k2⟩:=h.clear (a0q C).2 y d.2 q;refine⟨[],_,σ1,n::tk,.sref n [],tm i,a,k1,y,⟨_,X,.one (tm i),by simp[AE.setRt];rfl,by show some (_,σ1.g n)=_;grind,rfl⟩,by rfl,.inl ⟨n,rfl,V,rfl,by simp[AE.setRt]⟩,⟨fun i' G g1 g2=>?_,fun m F=>?_⟩,fun i' g=>?_⟩;have hd:AV.drop n G=G:=by
     rcases g2 with g|⟨m,F,rfl|rfl⟩;cases G<;>first|rfl|cases g
     have:(m==n)=false:=by grind
     simp[AV.drop,this]
     have:(m==n)=false:=by grind
     simp[AV.drop,this]
    exact u0o g1 hd
    have:(m==n)=false:=by grind
    simp[AE.setRt,AE.mapv,this];exact u0o g rfl;simp_all;simp_all;simp_all
 |b t=>
  cases v with
  |inr n=>
   cases n with
   |none=>simp_all[AE.out]
   |some n=>
   simp only[AE.out]at a;rcases a0b a with⟨-,g⟩|⟨d,a⟩
   grind
   have d:n∉tk:=by simp_all
   split at a
   rename_i J x C
   split at a
   rename_i I;subst I;obtain⟨O',R,-,-,U⟩:=(h.roots n _ C).rd;rcases U with⟨-,b,hs,-⟩|⟨Z,-⟩;refine⟨x,Γ,σ,n::tk,.ptr n [],.pointer (some ⟨b,0,none⟩),a,h,y,⟨_,J,b,0,C,by show some (J,σ.g n)=_;grind,rfl⟩,fun i b' hn Z=>?_,⟨n,rfl,d,rfl,C⟩,c0w.refl,fun _ g=>g⟩;subst hn
   have:=h.pins i b' Z (by simp_all)
   rw[←this,hs];exact⟨rfl,rfl⟩;simp_all;simp_all;simp_all
  |inl rv=>
   cases rv with
   |cell i J=>simp_all[AE.out]
   |tmp i=>
    simp[g0y]at hv;have q:=d0k h (a24 hv H);simp only[AE.out]at a
    split at a
    rename_i n D;rw[D]at q;rcases a0b a with⟨-,g⟩|⟨d,a⟩
    grind
    have d:n∉tk:=by
     simp_all
    split at a
    rename_i J x C
    split at a
    rename_i I;subst I;exact⟨x,Γ,σ,n::tk,.ptr n [],tm i,a,h,y,q,by rfl,⟨n,rfl,d,rfl,C⟩,c0w.refl,fun _ g=>g⟩;simp_all;simp_all;simp_all
end
end Go.Ab
