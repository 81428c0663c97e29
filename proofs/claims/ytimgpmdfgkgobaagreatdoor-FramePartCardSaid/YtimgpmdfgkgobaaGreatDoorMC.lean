/- Part of the proof: LibZH, LibZI, LibZJ, LibZJA, LibZJB, LibZJC, LibZJD, LibZJE, LibZJF, LibZJG, LibZJH, LibZK, LibZL, LibZM, LibZN, LibZO, LibZP, LibZQ, LibZR, LibZS. Conditions: as each statement tells. -/
import Derived.Tactics
import Derived.Deep.LoopGhost
import Derived.TacticsIn
import Derived.OrdersIn
import Derived.OpenShut
import Derived.Deep.Slices
import Derived.ChangeSame
import Derived.WideKeyArgs
import Derived.RowKit
import Derived.Laws.StructEq
import Derived.ChangeKeysEq
import Derived.RangeFuncNested
import Derived.RangeFuncLeaves
import Derived.Test.YtimgpmdfgkgobaaGreatDoorMB
noncomputable section
set_option linter.unusedSimpArgs false
set_option linter.unusedVariables false
open Array renaming getD_eq_getD_getElem?→a02,getElem?_setIfInBounds_ne→a31,getElem?_setIfInBounds_self_of_lt→a39,getElem?_eq_getElem→a41,replicate→a64,getElem?_toList→a69,toList_append→a74,length_toList→a75,all_toList→a86
open Bool renaming false_eq_true→a04,not_eq_true'→a08,and_eq_true_iff→a21,true_and→a48,or_eq_true→a50,true_or→a53,false_and→a71,and_true→a73,not_false→a91
open List renaming getElem?_cons_zero→a00,mem_cons_of_mem→a01,mem_append_right→a06,mem_range→a07,mem_filter→a09,contains_eq_mem→a16,mem_append_left→a17,map_congr_left→a18,mem_map→a19,contains_iff_mem→a20,all_cons→a22,mem_cons_self→a23,length→a25,getElem?_eq_none→a26,append_nil→a27,map_cons→a28,mem_filterMap→a34,mem_of_getElem?→a37,range_eq_range'→a38,getElem?_append_left→a42,nodup_cons→a43,mem_singleton→a44,getElem?_map→a46,range→a47,mem_flatMap→a49,mem_map_of_mem→a54,getElem?_drop→a55,map_id→a56,getElem?_append_right→a57,range'→a58,filter_congr→a59,sum_cons→a60,getElem?_take_of_lt→a61,mem_reverse→a62,nil_append→a63,length_map→a65,append→a66,length_singleton→a67,mem_iff_getElem?→a68,replicate→a70,range'_append_1→a72,filter_append→a78,map_map→a79,zipWith→a80,map_nil→a81,ext_getElem?→a82,cons_append→a83,filter_cons→a85,length_take→a88,length_zip→a90
open Nat renaming lt_of_lt_of_le→a24,le_trans→a33,le_refl→a35,add_zero→a36,zero_add→a45,add_assoc→a76,le_of_not_lt→a87,mul_one→a89
open Option renaming isSome_iff_exists→a03,elim→a05,isSome_iff_ne_none→a29,getD_some→a30,bind_eq_some_iff→a32,ne_none_iff_exists'→a40,map_some→a51,ite_none_right_eq_some→a52,isNone_none→a77,bind_none→a84
namespace Go.Ab
theorem b9Q:∀(l:List Nat),c5i l=true→l.Nodup
 | [],_=>List.nodup_nil
 |a::l,h=>by
  simp only[c5i,bA,a08,a16,decide_eq_false_iff_not]at h;exact a43.2 ⟨h.1,b9Q l h.2⟩
section
variable {ρ:Type}
inductive SlOk (nm:List Nat) (Γ:AE) (es:a0e) (i:Nat):SV→Prop
 |dead:SlOk nm Γ es i (.one .dead)
 |same (av:AV):Γ.get i=av→av≠.dead→(∀k q,(av=.ptr k q∨av=.sref k q∨∃o l,av=.swin k q o l)→k∈nm)→SlOk nm Γ es i (.one av)
 |made (n:Nat) (e:Ty):Ent.own i n e∈es→Γ.rt n=none→n∈nm→(Γ.get i=.nils∨Γ.get i=.empt)→SlOk nm Γ es i (.one (.sref n []))
 |clo (f:Nat) (ns:List Nat):Γ.sl i=.cmp (.clo f) (a8U ns)→(∀k∈ns,k∈nm)→SlOk nm Γ es i (.cmp (.clo f) (a8U ns))
theorem c4a:∀(vs:List AV)(ns:List Nat),b2h vs ns=true→vs=a8U ns
 | [],[],_=>rfl
 |v::vs,[],h=>by cases v<;>simp[b2h]at h
 | [],_::_,h=>by simp[b2h]at h
 |v::vs,m::ns,h=>by
  cases v with
  |ptr n p=>
   cases p with
   |nil=>
    simp only[b2h,bA,beq_iff_eq]at h;rw[h.1,c4a vs ns h.2];rfl
   |cons=>simp[b2h]at h
  |_=>simp[b2h]at h
theorem c1M:∀(ns:List Nat)(k:Nat)(av:AV),(a8U ns)[k]?=some av→∃n∈ns,av=.ptr n []
 | [],k,av,h=>by simp[a8U]at h
 |n::ns,0,av,h=>by
  simp only[a8U,a00,sj]at h;exact⟨n,by simp,h.symm⟩
 |n::ns,k+1,av,h=>by
  obtain⟨m,hm,e⟩:=c1M ns k av (by simpa[a8U]using h);exact⟨m,by simp[hm],e⟩
theorem SlOk.cons{nm Γ es i v}(h:SlOk nm Γ es i v)(e:Ent):SlOk nm Γ (e::es) i v:=by
 cases h with
 |dead=>exact .dead
 |same av g1 g2 g3=>exact .same av g1 g2 g3
 |made n e' g1 g2 g3 g4=>exact .made n e' (a01 _ g1) g2 g3 g4
 |clo f ns g1 g2=>exact .clo f ns g1 g2
def b2o(r' r:Root):Prop:=r'=r∨(r'.bx=true∧r.bx=true∧r'.t.shn=r'.t∧castTo r'.t r.t r'.x=some r.x)
theorem c5O{m:Mem}:∀(q:a0N)(a b:Ty)(s:Src){t1 s1},a.le b=true→loc m a s q=some (t1,s1)→∃t2,loc m b s q=some (t2,s1)
 | [],a,b,s,t1,s1,h,hl=>by
  simp only[loc,a0Q,sj,pJ]at hl;obtain⟨-,rfl⟩:=hl;exact⟨b,rfl⟩
 |.fst::p,a,b,s,t1,s1,h,hl=>by
  obtain⟨a1,a2,bl,o,rfl,rfl,hl⟩:=a7r hl;cases b with
  |pair b1 b2=>
   simp only[Ty.le,bA]at h;exact c5O p a1 b1 _ h.1 hl
  |_=>simp[Ty.le]at h
 |.snd::p,a,b,s,t1,s1,h,hl=>by
  obtain⟨a1,a2,bl,o,rfl,rfl,hl⟩:=a7s hl;cases b with
  |pair b1 b2=>
   simp only[Ty.le,bA]at h;obtain⟨t2,h2⟩:=c5O p a2 b2 _ h.2 hl;rw[Ty.le_cells _ _ h.1]at h2;exact⟨t2,h2⟩
  |_=>simp[Ty.le]at h
 |.idx i::p,a,b,s,t1,s1,h,hl=>by
  have hab:a=b:=by
   rcases a5e hl with⟨n,t,bl,o,rfl,rfl,hi,hl⟩|⟨t,a',n,c,rfl,hv,hi,hl⟩<;>simpa[Ty.le]using h
  subst hab;exact⟨t1,hl⟩
theorem b2o.loc{m:Mem}{r' r:Root}(h:b2o r' r){p:a0N}{s:Src}{t1 s1}(hl:loc m r'.t s p=some (t1,s1)):∃t2,Ab.loc m r.t s p=some (t2,s1):=by
 rcases h with rfl|⟨-,-,-,h⟩;exact⟨t1,hl⟩;unfold castTo at h
 split at h
 rename_i e;rw[←e];exact⟨t1,hl⟩
 split at h
 rename_i e;exact c5O p _ _ _ e hl;cases h
theorem b2o.locL{m:Mem}{r' r:Root}(h:b2o r' r){p:a0N}{s:Src}{e s1}(hl:Ab.loc m r'.t s p=some (.list true e,s1)):Ab.loc m r.t s p=some (.list true e,s1):=by
 rcases h with rfl|⟨-,-,h,-⟩;exact hl
 have:=a6a p _ _ h hl
 simp[Ty.shn]at this
theorem a0i.recast{m:Mem}{g g':Nat→Src}{rt rt':Nat→Option Root}{Sh Sh':Nat→Prop}{a:AV}{v:Value}(h:a0i m g rt Sh a v)(hs:∀c,Sh c→Sh' c)
  (hr:∀n p r,(a=.ptr n p∨a=.sref n p∨∃o l,a=.swin n p o l)→rt n=some r→g' n=g n∧∃r',rt' n=some r'∧b2o r r'):a0i m g' rt' Sh' a v:=by
 cases a with
 |ptr n p=>
  obtain⟨r,t,b,o,h1,h2,h3⟩:=h;obtain⟨hg,r',h4,h5⟩:=hr n p r (.inl rfl) h1;obtain⟨t2,h6⟩:=h5.loc h2;exact⟨r',t2,b,o,h4,by rw[hg];exact h6,h3⟩
 |sref n p=>
  obtain⟨r,e,s,h1,h2,h3⟩:=h;obtain⟨hg,r',h4,h5⟩:=hr n p r (.inr (.inl rfl)) h1;exact⟨r',e,s,h4,by rw[hg];exact h5.locL h2,h3⟩
 |swin n p o l=>
  obtain⟨r,e,s,a,l',c,h1,h2,h3,h4,h5⟩:=h;obtain⟨hg,r',h6,h7⟩:=hr n p r (.inr (.inr ⟨_,_,rfl⟩)) h1;exact⟨r',e,s,a,l',c,h6,by rw[hg];exact h7.locL h2,h3,h4,h5⟩
 |_=>exact h.frame (fun _ _ _=>rfl) hs (by rintro n p r t s (g|g|⟨_,_,g⟩)<;>cases g)
inductive RtOk (Γ:AE) (es:a0e) (n:Nat):Option Root→Prop
 |none:n∉es.names→RtOk Γ es n none
 |same (r r':Root):n∈es.names→Γ.rt n=some r'→b2o r' r→RtOk Γ es n (some r)
 |made (i:Nat) (e:Ty):n∈es.names→n<pinned→Ent.own i n e∈es→Γ.rt n=Option.none→(Γ.get i=.nils∨Γ.get i=.empt)→RtOk Γ es n (some ⟨false,.list true e,[]⟩)
theorem a2b(Γ:AE)(i j:Nat)(v:AV):(Γ.set i v).sl j=if j=i then .one v else Γ.sl j:=by
 simp only[AE.set,AE.put]
 by_cases h:j=i
 simp[h]
 have:(j==i)=false:=by simpa using h
 simp[this,h]
theorem b1h(Γ:AE)(n m:Nat)(r:Option Root):(Γ.setRt n r).rt m=if m=n then r else Γ.rt m:=by
 simp only[AE.setRt]
 by_cases h:m=n
 simp[h]
 have:(m==n)=false:=by simpa using h
 simp[this,h]
theorem a1q(nm:List Nat)(Γ:AE):∀(es:a0e){K:es.ty.den→Rs ρ}{z:ρ},(∀n∈es.names,n∈nm)→es.names.Nodup→a0e.rest nm Γ es K=some z→
  ∃x,K x=some z∧(es.enc x).pd=none∧(∀i,SlOk nm Γ es i ((es.enc x).sl i))∧∀n,RtOk Γ es n ((es.enc x).rt n)
 | [],K,z,_,_,h=>⟨(),h,rfl,fun i=>.dead,fun n=>.none (by simp[a0e.names])⟩
 |.sv i t::r,K,z,hnm,hnd,h=>by
  simp only[a0e.rest]at h
  split at h
  rename_i t' x hx
  split at h
  rename_i ht;subst ht;obtain⟨y,h1,h2,h3,h4⟩:=a1q nm Γ r hnm hnd h;refine⟨(x,y),h1,h2,fun j=>?_,fun n=>?_⟩;show SlOk nm Γ _ j (((a0e.enc r y).set i (.val t' x)).sl j);rw[a2b];split;rename_i e;subst e;exact .same _ hx (by simp) (by rintro k q (g|g|⟨o,l,g⟩)<;>cases g);exact(h3 j).cons _;show RtOk Γ _ n ((a0e.enc r y).rt n);cases hrt:(a0e.enc r y).rt n<;>have:=h4 n<;>rw[hrt]at this<;>cases this;exact .none (by assumption);exact .same _ _ (by assumption) (by assumption) (by assumption);rename_i i' e' g1 g1' g2 g3 g4;exact .made i' e' g1 g1' (a01 _ g2) g3 g4;cases h;cases h
 |.own i n e::r,K,z,hnm,hnd,h=>by
  simp only[a0e.names,a43]at hnd;have hnm':∀m∈a0e.names r,m∈nm:=fun m hm=>hnm m (by simp[a0e.names,hm]);have hn:n∈nm:=hnm n (by simp[a0e.names]);have fin:∀(l:List e.den)(K':(a0e.ty r).den→Rs ρ),a0e.rest nm Γ r K'=some z→(∀y,K' y=K (l,y))→
    SlOk nm Γ (.own i n e::r) i (.one (.sref n []))→RtOk Γ (.own i n e::r) n (some ⟨false,.list true e,l⟩)→
    ∃x,K x=some z∧(a0e.enc (.own i n e::r) x).pd=none∧(∀j,SlOk nm Γ (.own i n e::r) j ((a0e.enc (.own i n e::r) x).sl j))∧∀m,RtOk Γ (.own i n e::r) m ((a0e.enc (.own i n e::r) x).rt m):=by
   intro l K' h hK hs hr;obtain⟨y,h1,h2,h3,h4⟩:=a1q nm Γ r hnm' hnd.2 h;refine⟨(l,y),by rw[←hK];exact h1,h2,fun j=>?_,fun m=>?_⟩;show SlOk nm Γ _ j ((((a0e.enc r y).setRt n (some ⟨false,.list true e,l⟩)).set i (.sref n [])).sl j);rw[a2b];split;rename_i e;subst e;exact hs;exact(h3 j).cons _
   ·show RtOk Γ _ m (((a0e.enc r y).setRt n (some ⟨false,.list true e,l⟩)).rt m);rw[b1h];split;rename_i e;subst e;exact hr
    ·rename_i hmn;cases hrt:(a0e.enc r y).rt m with
     |none=>
      have:=h4 m
      rw[hrt]at this;cases this with
      |none g=>exact .none (by simp only[a0e.names,mC,not_or];exact⟨hmn,g⟩)
     |some rr=>
      have:=h4 m
      rw[hrt]at this;cases this with
      |same _ r5 g1 g2 g5=>exact .same rr r5 (by simp[a0e.names,g1]) g2 g5
      |made i' e' g1 g1' g2 g3 g4=>exact .made i' e' (by simp[a0e.names,g1]) g1' (a01 _ g2) g3 g4
  simp only[a0e.rest]at h
  split at h
  rename_i m hm;rcases a0g h with⟨hmn,h⟩|⟨-,g⟩;obtain rfl:m=n:=by simpa using hmn
  split at h
  rename_i e' l hr
  split at h
  rename_i he;subst he;exact fin l _ h (fun _=>rfl) (.same _ hm (by simp) (by rintro k q (g|g|⟨o,l,g⟩)<;>cases g;exact hn)) (.same _ _ (by simp[a0e.names]) hr (.inl rfl));cases h;cases h;cases g;rename_i hi
  split at h
  rename_i hr;obtain⟨hp,h⟩:=(a0g h).elim id fun h=>by cases h.2
  exact fin [] _ h (fun _=>rfl) (.made n e (by simp) hr hn (.inl hi)) (.made i e (by simp[a0e.names]) (by simpa using hp) (by simp) hr (.inl hi));cases h;rename_i hi
  split at h
  rename_i hr;obtain⟨hp,h⟩:=(a0g h).elim id fun h=>by cases h.2
  exact fin [] _ h (fun _=>rfl) (.made n e (by simp) hr hn (.inr hi)) (.made i e (by simp[a0e.names]) (by simpa using hp) (by simp) hr (.inr hi));cases h;cases h
 |.box n t::r,K,z,hnm,hnd,h=>by
  simp only[a0e.names,a43]at hnd;have hnm':∀m∈a0e.names r,m∈nm:=fun m hm=>hnm m (by simp[a0e.names,hm]);simp only[a0e.rest]at h;have fin:∀(x':t.den)(K':(a0e.ty r).den→Rs ρ),a0e.rest nm Γ r K'=some z→(∀y,K' y=K (x',y))→(∃r5,Γ.rt n=some r5∧b2o r5 ⟨true,t,x'⟩)→
    ∃x,K x=some z∧(a0e.enc (.box n t::r) x).pd=none∧(∀j,SlOk nm Γ (.box n t::r) j ((a0e.enc (.box n t::r) x).sl j))∧∀m,RtOk Γ (.box n t::r) m ((a0e.enc (.box n t::r) x).rt m):=by
   intro x' K' h hK ⟨r5,hr,hc⟩;obtain⟨y,h1,h2,h3,h4⟩:=a1q nm Γ r hnm' hnd.2 h;refine⟨(x',y),by rw[←hK];exact h1,h2,fun j=>(h3 j).cons _,fun m=>?_⟩;show RtOk Γ _ m (((a0e.enc r y).setRt n (some ⟨true,t,x'⟩)).rt m);rw[b1h];split;rename_i e;subst e;exact .same _ _ (by simp[a0e.names]) hr hc
   ·rename_i hmn;cases hrt:(a0e.enc r y).rt m with
    |none=>
     have:=h4 m
     rw[hrt]at this;cases this with
     |none g=>exact .none (by simp only[a0e.names,mC,not_or];exact⟨hmn,g⟩)
    |some rr=>
     have:=h4 m
     rw[hrt]at this;cases this with
     |same _ r5 g1 g2 g5=>exact .same rr r5 (by simp[a0e.names,g1]) g2 g5
     |made i' e' g1 g1' g2 g3 g4=>exact .made i' e' (by simp[a0e.names,g1]) g1' (a01 _ g2) g3 g4
  split at h
  rename_i t' x hr
  split at h
  rename_i ht;subst ht;exact fin x _ h (fun _=>rfl) ⟨_,hr,.inl rfl⟩
  split at h
  rename_i hshn
  split at h
  rename_i z' hz';exact fin z' _ h (fun _=>rfl) ⟨_,hr,.inr ⟨rfl,rfl,hshn,hz'⟩⟩;cases h;cases h;cases h
 |.ptr i n p::r,K,z,hnm,hnd,h=>by
  simp only[a0e.rest]at h
  split at h
  rename_i m q hi;obtain⟨hc,h⟩:=(a0g h).elim id fun h=>by cases h.2
  simp only[bA,beq_iff_eq,a16,dT]at hc;obtain⟨hn,rfl,hp⟩:=hc;obtain rfl:=a6y _ _ hp;obtain⟨y,h1,h2,h3,h4⟩:=a1q nm Γ r hnm hnd h;refine⟨y,h1,h2,fun j=>?_,fun n'=>?_⟩;show SlOk nm Γ _ j (((a0e.enc r y).set i (.ptr m q)).sl j);rw[a2b];split;rename_i e;subst e;exact .same _ hi (by simp) (by rintro k q' (g|g|⟨o,l,g⟩)<;>cases g;exact hn);exact(h3 j).cons _;show RtOk Γ _ n' ((a0e.enc r y).rt n');cases hrt:(a0e.enc r y).rt n'<;>have:=h4 n'<;>rw[hrt]at this<;>cases this;exact .none (by assumption);exact .same _ _ (by assumption) (by assumption) (by assumption);rename_i i' e' g1 g1' g2 g3 g4;exact .made i' e' g1 g1' (a01 _ g2) g3 g4;cases h
 |.vp i t::r,K,z,hnm,hnd,h=>by
  simp only[a0e.rest]at h
  split at h
  rename_i t' x hx
  split at h
  rename_i ht;subst ht;obtain⟨y,h1,h2,h3,h4⟩:=a1q nm Γ r hnm hnd h;refine⟨(x,y),h1,h2,fun j=>?_,fun n=>?_⟩;show SlOk nm Γ _ j (((a0e.enc r y).set i (.vptr t' x)).sl j);rw[a2b];split;rename_i e;subst e;exact .same _ hx (by simp) (by rintro k q (g|g|⟨o,l,g⟩)<;>cases g);exact(h3 j).cons _;show RtOk Γ _ n ((a0e.enc r y).rt n);cases hrt:(a0e.enc r y).rt n<;>have:=h4 n<;>rw[hrt]at this<;>cases this;exact .none (by assumption);exact .same _ _ (by assumption) (by assumption) (by assumption);rename_i i' e' g1 g1' g2 g3 g4;exact .made i' e' g1 g1' (a01 _ g2) g3 g4;cases h;cases h
 |.ref i n p::r,K,z,hnm,hnd,h=>by
  simp only[a0e.rest]at h
  split at h
  rename_i m q hi;obtain⟨hc,h⟩:=(a0g h).elim id fun h=>by cases h.2
  simp only[bA,beq_iff_eq,a16,dT]at hc;obtain⟨hn,rfl,hp⟩:=hc;obtain rfl:=a6y _ _ hp;obtain⟨y,h1,h2,h3,h4⟩:=a1q nm Γ r hnm hnd h;refine⟨y,h1,h2,fun j=>?_,fun n'=>?_⟩;show SlOk nm Γ _ j (((a0e.enc r y).set i (.sref m q)).sl j);rw[a2b];split;rename_i e;subst e;exact .same _ hi (by simp) (by rintro k q' (g|g|⟨o,l,g⟩)<;>cases g;exact hn);exact(h3 j).cons _;show RtOk Γ _ n' ((a0e.enc r y).rt n');cases hrt:(a0e.enc r y).rt n'<;>have:=h4 n'<;>rw[hrt]at this<;>cases this;exact .none (by assumption);exact .same _ _ (by assumption) (by assumption) (by assumption);rename_i i' e' g1 g1' g2 g3 g4;exact .made i' e' g1 g1' (a01 _ g2) g3 g4;cases h
 |.rfi i n::r,K,z,hnm,hnd,h=>by
  simp only[a0e.rest]at h
  split at h
  rename_i m k hi;obtain⟨hc,h⟩:=(a0g h).elim id fun h=>by cases h.2
  simp only[bA,beq_iff_eq,a16,dT]at hc;obtain⟨hn,rfl⟩:=hc;obtain⟨y,h1,h2,h3,h4⟩:=a1q nm Γ r hnm hnd h;refine⟨((k:Int),y),h1,h2,fun j=>?_,fun n'=>?_⟩;show SlOk nm Γ _ j (((a0e.enc r y).set i (.sref m [.idx (k:Int).toNat])).sl j);rw[a2b];split;rename_i e;subst e;exact .same _ (by rw[hi];simp) (by simp) (by rintro k q' (g|g|⟨o,l,g⟩)<;>cases g;exact hn);exact(h3 j).cons _;show RtOk Γ _ n' ((a0e.enc r y).rt n');cases hrt:(a0e.enc r y).rt n'<;>have:=h4 n'<;>rw[hrt]at this<;>cases this;exact .none (by assumption);exact .same _ _ (by assumption) (by assumption) (by assumption);rename_i i' e' g1 g1' g2 g3 g4;exact .made i' e' g1 g1' (a01 _ g2) g3 g4;cases h
 |.win i n p::r,K,z,hnm,hnd,h=>by
  simp only[a0e.rest]at h
  split at h
  rename_i m q o k hi;obtain⟨hc,h⟩:=(a0g h).elim id fun h=>by cases h.2
  simp only[bA,beq_iff_eq,a16,dT]at hc;obtain⟨hn,rfl,hp⟩:=hc;obtain rfl:=a6y _ _ hp;obtain⟨y,h1,h2,h3,h4⟩:=a1q nm Γ r hnm hnd h;refine⟨((o:Int),(k:Int),y),h1,h2,fun j=>?_,fun n'=>?_⟩;show SlOk nm Γ _ j (((a0e.enc r y).set i (.swin m q (o:Int).toNat (k:Int).toNat)).sl j);rw[a2b];split;rename_i e;subst e;exact .same _ (by rw[hi];simp) (by simp) (by rintro k q' (g|g|⟨o,l,g⟩)<;>cases g;exact hn);exact(h3 j).cons _;show RtOk Γ _ n' ((a0e.enc r y).rt n');cases hrt:(a0e.enc r y).rt n'<;>have:=h4 n'<;>rw[hrt]at this<;>cases this;exact .none (by assumption);exact .same _ _ (by assumption) (by assumption) (by assumption);rename_i i' e' g1 g1' g2 g3 g4;exact .made i' e' g1 g1' (a01 _ g2) g3 g4;cases h
 |.clo i f ns::r,K,z,hnm,hnd,h=>by
  simp only[a0e.rest]at h
  split at h
  rename_i f' vs hi;obtain⟨hc,h5⟩:=(a0g h).elim id fun h=>by cases h.2
  simp only[bA,beq_iff_eq,lA,a16,dT]at hc;obtain⟨rfl,hn,hp⟩:=hc;obtain rfl:=c4a _ _ hp;obtain⟨y,h1,h2,h3,h4⟩:=a1q nm Γ r hnm hnd h5;refine⟨y,h1,h2,fun j=>?_,fun n'=>?_⟩;show SlOk nm Γ _ j (bif j==i then(SV.cmp (.clo f') (a8U ns))else(a0e.enc r y).sl j)
  by_cases e:j=i
  subst e;simp only[beq_self_eq_true,cT];exact .clo f' ns hi hn;have e':(j==i)=false:=by simpa using e
  simp only[e',cF];exact(h3 j).cons _;show RtOk Γ _ n' ((a0e.enc r y).rt n');cases hrt:(a0e.enc r y).rt n'<;>have:=h4 n'<;>rw[hrt]at this<;>cases this;exact .none (by assumption);exact .same _ _ (by assumption) (by assumption) (by assumption);rename_i i' e' g1 g1' g2 g3 g4;exact .made i' e' g1 g1' (a01 _ g2) g3 g4;cases h
end
def Ent.fits(N:Nat):Ent→Bool
 |.sv i _|.own i _ _|.ptr i _ _|.ref i _ _|.rfi i _|.win i _ _|.vp i _|.clo i _ _=>decide (i<N)
 |.box _ _=>true
def a0e.fits(N:Nat)(es:a0e):Bool:=es.all (Ent.fits N)
section
variable {ρ:Type} {B:Base} {N:Nat} {tm:Nat→Value} {w:World}
theorem a3c{Γ:AE}{σ:Gh}(h:Rel B Γ N tm w σ){i:Nat}(hi:i<N):a0i (a0a w σ.ov) σ.g Γ.rt (Shr B w σ) (Γ.get i) (tm i):=by
 have:=h.slots i hi
 simp only[AE.get]
 revert this
 cases Γ.sl i with
 |one v=>exact fun h=>h
 |cmp c vs=>exact fun _=>trivial
theorem Rel.vals{nm:List Nat}:∀(es:a0e) {Γ:AE} {σ:Gh}(_:Rel B Γ N tm w σ)(_:Γ.pd=none){K:es.ty.den→Rs ρ}{z:ρ}(_:es.fits N=true)(_:∀n∈es.names,n∈nm)(_:es.names.Nodup)(_:a0e.vals nm es Γ K=some z),
  ∃x Γf σf,K x=some z∧Rel B Γf N tm w σf∧Γf.pd=none∧(∀(j:Nat) t y,Γ.get j=.val t y→Γf.get j=.val t y)∧(es.enc x).pd=none∧(∀i,SlOk nm Γf es i ((es.enc x).sl i))∧∀n,RtOk Γf es n ((es.enc x).rt n):=by
 intro es
 induction es with
 |nil=>
  intro Γ σ h hpd K z hf hnm hnd hz;obtain⟨x,h1,h2,h3,h4⟩:=a1q nm Γ [] hnm hnd hz;exact⟨x,Γ,σ,h1,h,hpd,fun _ _ _ g=>g,h2,h3,h4⟩
 |cons e r ih=>
  intro Γ σ h hpd K z hf hnm hnd hz;cases e with
  |sv i t=>
   simp only[a0e.fits,a22,bA,Ent.fits,dT]at hf;simp only[a0e.vals]at hz;obtain⟨hex,hz⟩:=(a0g hz).resolve_right (fun g=>by cases g.2);have key:∃x Γ1 σ1,a0e.vals nm r (Γ1.set i (.val t x)) (fun y=>K (x,y))=some z∧Rel B Γ1 N tm w σ1∧Γ1.pd=none∧VOk (a0a w σ1.ov) (Shr B w σ1) t x (tm i)∧
     ∀(j:Nat) t' y,Γ.get j=.val t' y→(Γ1.set i (.val t x)).get j=.val t' y:=by
    have ha:=a3c h hf.1;have other:(∀t' y,Γ.get i≠.val t' y)→∃x Γ1 σ1,a0e.vals nm r (Γ1.set i (.val t x)) (fun y=>K (x,y))=some z∧Rel B Γ1 N tm w σ1∧Γ1.pd=none∧VOk (a0a w σ1.ov) (Shr B w σ1) t x (tm i)∧
     ∀(j:Nat) t' y,Γ.get j=.val t' y→(Γ1.set i (.val t x)).get j=.val t' y:=fun hne=>by
     obtain⟨x,Γ1,σ1,h1,h2,h3,h4,-,h5⟩:=h.asVB (.inl ha) hz;refine⟨x,Γ1,σ1,h1,h2,h4.pd.trans hpd,h3,fun j t' y hj=>?_⟩;have hji:j≠i:=fun e=>hne t' y (e▸hj)
     have:=h5.2 j t' y hj
     simp only[AE.get]at this⊢;rw[a2b,if_neg hji];exact this
    cases hg:Γ.get i with
    |val t' x=>
     rw[hg]at hz ha;simp only[AE.asV]at hz
     split at hz
     rename_i x2 hx2;rw[hg]at hex;simp only[AV.exact,dT]at hex;subst hex;rw[b1y]at hx2;cases hx2;refine⟨x,Γ,σ,hz,h,hpd,ha,fun j t2 y hj=>?_⟩
     by_cases e:j=i
     subst e;rw[hg]at hj;simp only[AE.get];rw[a2b,if_pos rfl];exact hj;simp only[AE.get]at hj⊢;rw[a2b,if_neg e];exact hj;cases hz
    |_=>exact other (by rw[hg];intro t' y e;cases e)
   obtain⟨x,Γ1,σ1,k1,k2,k3,k4,k5⟩:=key;have k6:Rel B (Γ1.set i (.val t x)) N tm w σ1:=k2.put (v:=tm i) (fun _=>k4) (fun j _=>by split<;>simp[*]);obtain⟨y,Γf,σf,j1,j2,j3,j4,j5,j6,j7⟩:=ih k6 k3 (by simpa[a0e.fits]using hf.2) hnm hnd k1;have hx:Γf.get i=.val t x:=j4 i t x (by simp only[AE.get];rw[a2b,if_pos rfl]);refine⟨(x,y),Γf,σf,j1,j2,j3,fun j t' y' hj=>j4 j t' y' (k5 j t' y' hj),j5,fun j=>?_,fun n=>?_⟩;show SlOk nm Γf _ j (((a0e.enc r y).set i (.val t x)).sl j);rw[a2b];split;rename_i e;subst e;exact .same _ hx (by simp) (by rintro k q (g|g|⟨o,l,g⟩)<;>cases g);exact(j6 j).cons _;show RtOk Γf _ n ((a0e.enc r y).rt n);cases hrt:(a0e.enc r y).rt n<;>have:=j7 n<;>rw[hrt]at this<;>cases this;exact .none (by assumption);exact .same _ _ (by assumption) (by assumption) (by assumption);rename_i i' e' g1 g1' g2 g3 g4;exact .made i' e' g1 g1' (a01 _ g2) g3 g4
  |own i n e=>exact(fun⟨x,h1,h2,h3,h4⟩=>⟨x,Γ,σ,h1,h,hpd,fun _ _ _ g=>g,h2,h3,h4⟩) (a1q nm Γ _ hnm hnd hz)
  |box n t=>exact(fun⟨x,h1,h2,h3,h4⟩=>⟨x,Γ,σ,h1,h,hpd,fun _ _ _ g=>g,h2,h3,h4⟩) (a1q nm Γ _ hnm hnd hz)
  |ptr i n p=>exact(fun⟨x,h1,h2,h3,h4⟩=>⟨x,Γ,σ,h1,h,hpd,fun _ _ _ g=>g,h2,h3,h4⟩) (a1q nm Γ _ hnm hnd hz)
  |vp i n=>exact(fun⟨x,h1,h2,h3,h4⟩=>⟨x,Γ,σ,h1,h,hpd,fun _ _ _ g=>g,h2,h3,h4⟩) (a1q nm Γ _ hnm hnd hz)
  |ref i n p=>exact(fun⟨x,h1,h2,h3,h4⟩=>⟨x,Γ,σ,h1,h,hpd,fun _ _ _ g=>g,h2,h3,h4⟩) (a1q nm Γ _ hnm hnd hz)
  |rfi i n=>exact(fun⟨x,h1,h2,h3,h4⟩=>⟨x,Γ,σ,h1,h,hpd,fun _ _ _ g=>g,h2,h3,h4⟩) (a1q nm Γ _ hnm hnd hz)
  |clo i f ns=>exact(fun⟨x,h1,h2,h3,h4⟩=>⟨x,Γ,σ,h1,h,hpd,fun _ _ _ g=>g,h2,h3,h4⟩) (a1q nm Γ _ hnm hnd hz)
  |win i n p=>exact(fun⟨x,h1,h2,h3,h4⟩=>⟨x,Γ,σ,h1,h,hpd,fun _ _ _ g=>g,h2,h3,h4⟩) (a1q nm Γ _ hnm hnd hz)
theorem c4b:∀(r:a0e){i n e},Ent.own i n e∈r→n∈r.names
 |a::r,i,n,e,h=>by
  rcases mC.1 h with h|h;subst h;simp[a0e.names]
  have:=c4b r h
  cases a<;>simp[a0e.names,this]
def b3u:a0e→Nat→Nat
 | [],_=>0
 |.own i m _::r,n=>if m=n then i else b3u r n
 |_::r,n=>b3u r n
theorem a3d:∀(es:a0e){i n e},es.names.Nodup→Ent.own i n e∈es→b3u es n=i
 |.own j m e'::r,i,n,e,hnd,h=>by
  simp only[a0e.names,a43]at hnd;simp only[b3u];rcases mC.1 h with h|h;cases h;simp
  have:=c4b r h
  rw[if_neg (fun g=>hnd.1 (by rw[g];exact this))];exact a3d r hnd.2 h
 |.sv j t::r,i,n,e,hnd,h=>by
  rcases mC.1 h with h|h;cases h;exact a3d r hnd h
 |.box m t::r,i,n,e,hnd,h=>by
  simp only[a0e.names,a43]at hnd;rcases mC.1 h with h|h;cases h;exact a3d r hnd.2 h
 |.ptr j m p::r,i,n,e,hnd,h=>by
  rcases mC.1 h with h|h;cases h;exact a3d r hnd h
 |.vp j m::r,i,n,e,hnd,h=>by
  rcases mC.1 h with h|h;cases h;exact a3d r hnd h
 |.ref j m p::r,i,n,e,hnd,h=>by
  rcases mC.1 h with h|h;cases h;exact a3d r hnd h
 |.rfi j m::r,i,n,e,hnd,h=>by
  rcases mC.1 h with h|h;cases h;exact a3d r hnd h
 |.clo j m p::r,i,n,e,hnd,h=>by
  rcases mC.1 h with h|h;cases h;exact a3d r hnd h
 |.win j m p::r,i,n,e,hnd,h=>by
  rcases mC.1 h with h|h;cases h;exact a3d r hnd h
theorem Rel.cut{Γ:AE}{σ:Gh}(h:Rel B Γ N tm w σ)(hpd:Γ.pd=none){es:a0e}(hf:es.fits N=true)(hnd:es.names.Nodup){X:AE}(hX:X.pd=none)(hs:∀i,SlOk es.names Γ es i (X.sl i))(hr:∀n,RtOk Γ es n (X.rt n)):
  ∃σ',Rel B X N tm w σ':=by
 have hov:=h.ov_none hpd
 let σ':Gh:=⟨fun n=>match Γ.rt n with|some _=>σ.g n|none=>.one (tm (b3u es n)),fun n=>match X.rt n with|some _=>σ.ow n|none=>[],none⟩
 have hg:∀n r,Γ.rt n=some r→σ'.g n=σ.g n:=fun n r e=>by simp only[σ',e]
 have hg':∀n,Γ.rt n=none→σ'.g n=.one (tm (b3u es n)):=fun n e=>by simp only[σ',e]
 have ho:∀n r,X.rt n=some r→σ'.ow n=σ.ow n:=fun n r e=>by simp only[σ',e]
 have ho':∀n,X.rt n=none→σ'.ow n=[]:=fun n e=>by simp only[σ',e]
 have hsub:∀n p,p∈σ'.ow n→p∈σ.ow n:=fun n p hp=>by
  cases e:X.rt n with
  |none=>rw[ho' n e]at hp;cases hp
  |some r=>rw[ho n r e]at hp;exact hp
 have hsubc:∀n c,c∈(σ'.ow n).map (·.1)→c∈(σ.ow n).map (·.1):=fun n c hc=>by
  obtain⟨p,hp,rfl⟩:=a19.1 hc;exact a54 (hsub n p hp)
 have hsh:∀c,Shr B w σ c→Shr B w σ' c:=fun c hc=>⟨hc.1,hc.2.1,fun⟨n,hn⟩=>hc.2.2 ⟨n,hsubc n c hn⟩⟩;have hmem:a0a w σ'.ov=a0a w σ.ov:=by rw[hov]
 have hin:∀n,n∈es.names→∃r,X.rt n=some r:=fun n hn=>by
  cases hrt:X.rt n<;>have:=hr n<;>rw[hrt]at this<;>cases this;exact absurd hn (by assumption);exact⟨_,rfl⟩;exact⟨_,rfl⟩
 have hsame:∀n r,n∈es.names→Γ.rt n=some r→∃r2,X.rt n=some r2∧b2o r r2:=fun n r hn hg=>by
  cases hrt:X.rt n<;>have:=hr n<;>rw[hrt]at this<;>cases this;exact absurd hn (by assumption);rename_i r5 h1 h2 h3;rw[hg]at h2;cases h2;exact⟨_,rfl,h3⟩;rename_i h1 h2 h3;rw[hg]at h2;cases h2
 have hslot:∀i e n,Ent.own i n e∈es→i<N:=fun i e n hm=>by
  have:=lA.1 hf _ hm
  simpa[Ent.fits]using this
 refine⟨σ',fun n r hn=>?_,fun n hn=>ho' n hn,fun n=>?_,fun n m hne c hc hc'=>h.disj n m hne c (hsubc n c hc) (hsubc m c hc'),fun n p hp=>h.live n p (hsub n p hp),fun i hi=>?_,?_,h.size,h.frame,fun c ⟨n,hn⟩=>h.mine c ⟨n,hsubc n c hn⟩,fun i b hb hne=>?_,h.still⟩
 ·have:=hr n
  rw[hn]at this;rw[hmem,ho n r hn];cases this with
  |same _ r5 g1 g2 g5=>
   rw[hg n r5 g2];rcases g5 with rfl|⟨e1,e2,e3,e4⟩;exact(h.roots n _ g2).mono hsh;obtain⟨O',R,k1,k2,k3⟩:=(h.roots n r5 g2).rd;have hO:=a9C e3 k1;subst hO;refine⟨[],R,b6O e4 k1,fun c hc=>hsh c (k2 c hc),?_⟩;rcases k3 with⟨-,b,k4,k5⟩|⟨k4,-⟩;exact .inl ⟨e2,b,k4,by rw[k5,(c3S e4).2]⟩;rw[e1]at k4;cases k4
  |made i e g1 g1' g2 g3 g4=>
   rw[hg' n g3,a3d es hnd g2,h.norm n g3];have hi:=hslot i e n g2;have ha:=a3c h hi;refine⟨[],[],?_,by simp,.inr ⟨rfl,⟨_,rfl⟩,⟨e,rfl⟩,rfl⟩⟩;show a0K _ true e.cells (dec _ e) (some (tm i))=some (([]:List e.den),[],[]);rcases g4 with g4|g4;rw[g4]at ha;have ha:tm i=.slice none 0 0:=ha;rw[ha];rfl
   ·rw[g4]at ha;obtain⟨A,ha⟩:=ha;rw[ha];cases A with
    |none=>rfl
    |some A=>simp[a0K,a0d]
 ·cases e:X.rt n with
  |none=>rw[ho' n e];simp
  |some r=>rw[ho n r e];exact h.nodup n
 ·have hsl:=hs i
  revert hsl
  generalize X.sl i=sv;intro hsl;have ha:=a3c h hi;cases hsl with
  |dead=>trivial
  |clo f ns g1 g2=>
   have hb:=h.slots i hi;rw[g1]at hb;obtain⟨us,k1,k2⟩:=hb;refine⟨us,k1,fun k av hk=>?_⟩;obtain⟨u,k3,k4⟩:=k2 k av hk;obtain⟨m,hm,rfl⟩:=c1M ns k av hk;refine⟨u,k3,?_⟩;rw[hmem];refine k4.recast hsh fun n p r hc hr'=>?_
   have hnm:n=m:=by
    rcases hc with g|g|⟨_,_,g⟩<;>cases g;rfl
   subst hnm;exact⟨hg n r hr',hsame n r (g2 n hm) hr'⟩
  |same av g1 g2 g3=>
   rw[g1]at ha;show a0i _ _ _ _ av _;rw[hmem];exact ha.recast hsh fun n p r hc hr'=>⟨hg n r hr',hsame n r (g3 n p hc) hr'⟩
  |made n e g1 g2 g3 g4=>
   obtain⟨r,hrn⟩:=hin n g3
   have:=hr n
   rw[hrn]at this;cases this with
   |same _ _ k1 k2=>rw[g2]at k2;cases k2
   |made i' e' k1 k1' k2 k3 k4=>
    refine⟨_,e',.one (tm i),hrn,?_,rfl⟩;rw[hg' n g2,a3d es hnd g1];rfl
 show a9Z _ _ _ X.pd none;rw[hX];trivial
 ·obtain⟨r,hn⟩:=a40.1 hne
  have:=hr (pinned+i)
  rw[hn]at this;cases this with
  |same _ _ g1 g2=>rw[hg _ _ g2];exact h.pins i b hb (by rw[g2];simp)
  |made i' e g1 g1'=>omega
theorem Rel.dcd{Γ:AE}{σ:Gh}(h:Rel B Γ N tm w σ){es:a0e}(hf:es.fits N=true){K:es.ty.den→Rs ρ}{z:ρ}(hz:es.dcd Γ K=some z):∃x σ',K x=some z∧Rel B (es.enc x) N tm w σ':=by
 unfold a0e.dcd at hz
 split at hz
 rename_i hpd;obtain⟨hnd,hz⟩:=(a0g hz).elim id fun h=>by cases h.2
 have hnd:=b9Q _ hnd;obtain⟨x,Γf,σf,h1,h2,h3,-,h5,h6,h7⟩:=Rel.vals es h hpd hf (fun _ g=>g) hnd hz;obtain⟨σ',h8⟩:=h2.cut h3 hf hnd h5 h6 h7;exact⟨x,σ',h1,h8⟩;cases hz
end
end Go.Ab
namespace Go.Ab
structure CxOk (P:Program) (cx:Cx):Prop extends CxTy P cx where
 C:∀f s,cx.C f=some s→a3b P cx.G f s∧b0d P f
section
variable {P:Program} {B:Base} {N:Nat} {ρ:Type} {Γ:AE} {a:Act} {w:World} {σ:Gh} {cx:Cx} {ro:Option Nat}
theorem a0o.wp{o:Oper}{K:AE→Rs ρ}{z:ρ}(hnd:∀c,o.op≠.defer c)(h:a0o P B N o a w K z){next:Act→World→Prop}{Q:Exit→Act→World→Prop}
  (hnext:∀v w' Γ' σ',Rel B Γ' N (a0k (a.put o.dst v)) w' σ'→K Γ'=some z→next (a.put o.dst v) w'):o.wpIn (Fr ro) 0 P a w next Q:=by
 obtain⟨v,w',Γ',σ',hrun,hrel,hK⟩:=h;refine c5M hnd ?_
 rcases hrun with h|⟨h,rfl⟩;rw[h,Oper.uponIn_value];exact hnext v w' Γ' σ' hrel hK;rw[h,Oper.uponIn_skip];exact hnext _ w' Γ' σ' hrel hK
theorem b0f(hcx:CxOk P cx)(hG:GOk cx.G B){o:Oper}{q:Bool}{K:AE→Rs ρ}{z:ρ}{next:Act→World→Prop}{Q:Exit→Act→World→Prop}
  (h:Rel B Γ N (a0k a) w σ)(hN:a.tmps.size=N)(hf:fits N o=true)(hz:aop cx q o Γ K=some z)
  (hnext:∀v w' Γ' σ',Rel B Γ' N (a0k (a.put o.dst v)) w' σ'→K Γ'=some z→next (a.put o.dst v) w'):o.wpIn (Fr ro) 0 P a w next Q:=by
 by_cases hc:∃c v,o.op=.call c∧c.callee=.value v
 ·obtain⟨c,v,ho,hc⟩:=hc;have hz':(match v with|.func f=>(match cx.C f with|some s=>Γ.call q o.dst s (c.args.toList.map Γ.opd) K|none=>none)|.tmp t=>(if q then none else match Γ.sl t with|.cmp (.clo f) vs=>(match cx.C f with|some s=>Γ.call q o.dst s (c.args.toList.map Γ.opd++vs) K|none=>none)|_=>none)|_=>none)=some z:=by
   cases hd:o.dst<;>simp only[aop,ho,hd,hc]at hz<;>rw[←hz]<;>cases v<;>rfl
  cases v with
  |func f=>
   simp only[]at hz'
   split at hz'
   rename_i s hs;obtain⟨hF,hB⟩:=hcx.C f s hs;exact c8P ho hc hG hF hB h hN hf hz' hnext;cases hz'
  |tmp t=>
   simp only[]at hz'
   split at hz'
   cases hz'
   split at hz'
   rename_i f vs hs
   split at hz'
   rename_i s hC;obtain⟨hF,hB⟩:=hcx.C f s hC;exact d0R ho hc hs hG hF hB h hN hf hz' hnext;cases hz';cases hz'
  |_=>simp only[]at hz';cases hz'
 refine(d0O hcx.toCxTy hG (fun c v ho hc'=>hc ⟨c,v,ho,hc'⟩) h hN hf hz).wp (fun c' hc'=>?_) hnext;cases hd:o.dst<;>simp only[aop,hc',hd]at hz<;>cases hz
theorem c1N{Γ:AE}{x:Operand}{n:Nat}(h:b9x Γ x=some n):∃t,x=.tmp t∧Γ.sl t=.one (.ptr n [])∧pinned≤n:=by
 unfold b9x at h
 split at h
 rename_i t
 split at h
 rename_i m hs;rcases a0g h with⟨h1,h2⟩|⟨-,h2⟩;cases h2;exact⟨t,rfl,hs,by simpa using h1⟩;cases h2;cases h;cases h
theorem b6S{o:Oper}{Γ:AE}{n:Nat}(h:b1z o Γ=some n):∃t,(o.op=.move (.tmp t)∨o.op=.nilCheck (.tmp t))∧Γ.sl t=.one (.ptr n [])∧pinned≤n:=by
 unfold b1z at h
 split at h
 rename_i x hx;obtain⟨t,rfl,h1,h2⟩:=c1N h;exact⟨t,.inl hx,h1,h2⟩;rename_i x hx;obtain⟨t,rfl,h1,h2⟩:=c1N h;exact⟨t,.inr hx,h1,h2⟩;cases h
theorem c4c{ρ:Type}{cx:Cx}{o:Oper}{Γ:AE}{n d:Nat}(h:b1z o Γ=some n)(hd:o.dst=some d){q:Bool}(K:AE→Rs ρ):aop cx q o Γ K=K (Γ.put d (.one (.ptr n []))):=by
 obtain⟨t,ho|ho,hs,-⟩:=b6S h;simp only[aop,ho,hd,hs];simp only[aop,ho,hd,AE.opd,AE.get,hs];rfl
theorem c3g(hcx:CxOk P cx)(hG:GOk cx.G B){o:Oper}{md:Md}{K:AE→Rs ρ}{z:ρ}{next:Act→World→Prop}{Q:Exit→Act→World→Prop}
  (h:Rel B Γ N (a0k a) w σ)(hN:a.tmps.size=N)(hf:fits N o=true)(hz:a4c cx md o Γ K=some z)
  (hnext:∀v w' Γ' σ',Rel B Γ' N (a0k (a.put o.dst v)) w' σ'→K Γ'=some z→next (a.put o.dst v) w'):o.wpIn (Fr ro) 0 P a w next Q:=by
 cases md with
 |x=>exact b0f hcx hG h hN hf hz hnext
 |w ws=>
  simp only[a4c]at hz
  split at hz
  obtain⟨-,hz⟩:=(a0g hz).elim id fun h=>by cases h.2
  refine b0f hcx hG h hN hf hz fun v w' Γ' σ' hr hK=>hnext v w' Γ' σ' hr ?_
  split at hK
  exact hK;cases hK;cases hz
 |r ns=>
  simp only[a4c]at hz;obtain⟨-,hz⟩:=(a0g hz).elim id fun h=>by cases h.2
  split at hz
  refine b0f hcx hG h hN hf hz fun v w' Γ' σ' hr hK=>hnext v w' Γ' σ' hr ?_
  obtain⟨-,hK⟩:=(a0g hK).elim id fun h=>by cases h.2
  exact hK;cases hz
 |p=>
  simp only[a4c]at hz
  split at hz
  rename_i n d hp hd;refine b0f (q:=true) hcx hG h hN hf (z:=z) (K:=K) ?_ hnext;rw[c4c hp hd];exact hz;cases hz
 |a ws=>
  simp only[a4c]at hz
  split at hz
  obtain⟨-,hz⟩:=(a0g hz).elim id fun h=>by cases h.2
  exact b0f hcx hG h hN hf hz hnext;cases hz
 |q=>
  simp only[a4c]at hz;obtain⟨-,hz⟩:=(a0g hz).elim id fun h=>by cases h.2
  split at hz
  exact b0f hcx hG h hN hf hz hnext;cases hz
 |v=>
  simp only[a4c]at hz
  split at hz
  rename_i n hp
  split at hz
  rename_i d hd;refine b0f (q:=true) hcx hG h hN hf (z:=z) (K:=K) ?_ hnext;rw[c4c hp hd];exact hz;cases hz;obtain⟨-,hz⟩:=(a0g hz).elim id fun h=>by cases h.2
  split at hz
  refine b0f hcx hG h hN hf hz fun v w' Γ' σ' hr hK=>hnext v w' Γ' σ' hr ?_
  obtain⟨-,hK⟩:=(a0g hK).elim id fun h=>by cases h.2
  exact hK;cases hz
def a7W(N:Nat)(ops:List Oper)(o:Oper):Bool:=fits N o&&(match o.guard with
 |some (j,_)=>(match a7H ops j with
  |some g=>decide (g<N)
  |none=>true)
 |none=>true)
theorem b5s{ops:List Oper}{o:Oper}(h:a7W N ops o=true):fits N o=true:=by
 simp only[a7W,bA]at h;exact h.1
theorem Rel.skip(h:Rel B Γ N (a0k a) w σ)(hN:a.tmps.size=N)(d:Option Nat):Rel B (Γ.setD d .skp) N (a0k (a.put d undef)) w σ:=by
 cases d with
 |none=>exact h
 |some d=>exact h.putd hN fun _=>rfl
theorem Rel.same(h:Rel B Γ N (a0k a) w σ){g:Nat}{av:AV}(hg:Γ.get g=av):Rel B (Γ.set g av) N (a0k a) w σ:=by
 refine h.put (v:=a0k a g) (fun hlt=>?_) (fun i _=>by split<;>simp[*])
 have:=a3c h hlt
 rw[hg]at this;exact this
theorem c8Q{ops:Array Oper}{j g:Nat}(hg:a7H ops.toList j=some g)(hlt:g<a.tmps.size):yielded ops a.tmps j=match a0k a g with|.bool b=>some b|_=>none:=by
 have hg:(ops[j]?).bind (·.dst)=some g:=by simpa[a7H]using hg
 simp only[yielded,hg,oB,a0k,a02,a41 hlt,a30];cases a.tmps[g]<;>rfl
theorem c8g(hcx:CxOk P cx)(hG:GOk cx.G B){ops:Array Oper}{o:Oper}{md:Md}{K:AE→Rs ρ}{z:ρ}{next:Act→World→Prop}{Q:Exit→Act→World→Prop}
  (h:Rel B Γ N (a0k a) w σ)(hN:a.tmps.size=N)(hf:a7W N ops.toList o=true)(hz:a0O cx md ops.toList o Γ K=some z)
  (hnext:∀v w' Γ' σ',Rel B Γ' N (a0k (a.put o.dst v)) w' σ'→K Γ'=some z→next (a.put o.dst v) w'):
  if Region.wanted o (yielded ops a.tmps)then o.wpIn (Fr ro) 0 P a w next Q else((∀f,o.about P w a.eval=some f→(Fr ro).fn f)∧next (a.put o.dst undef) w):=by
 have hfo:=b5s hf;unfold a0O at hz
 split at hz
 rename_i hg;rw[if_pos (by simp[Region.wanted,hg])];exact c3g hcx hG h hN hfo hz hnext;rename_i j want hg
 split at hz
 cases hz;rename_i g hdg;have hlt:g<N:=by
  simp only[a7W,hg,hdg,bA,dT]at hf;exact hf.2
 have hy:=c8Q (a:=a) hdg (by omega);have hsl:=a3c h hlt
 split at hz
 rename_i b hgv;rw[hgv]at hsl;have hb:=a0i.bool hsl;rw[hb]at hy;simp only[]at hy;cases b<;>cases want<;>simp only[cT,cF]at hz;rw[if_pos (by simp[Region.wanted,hg,hy])];exact c3g hcx hG (h.same hgv) hN hfo hz hnext;rw[if_neg (by simp[Region.wanted,hg,hy])];exact⟨fun _ _=>trivial,hnext _ w _ _ ((h.same hgv).skip hN o.dst) hz⟩;rw[if_neg (by simp[Region.wanted,hg,hy])];exact⟨fun _ _=>trivial,hnext _ w _ _ ((h.same hgv).skip hN o.dst) hz⟩;rw[if_pos (by simp[Region.wanted,hg,hy])];exact c3g hcx hG (h.same hgv) hN hfo hz hnext;rename_i hgv;rw[hgv]at hsl;have hsl:a0k a g=undef:=hsl;rw[hsl]at hy;simp only[undef]at hy;rw[if_neg (by simp[Region.wanted,hg,hy])];exact⟨fun _ _=>trivial,hnext _ w _ _ (h.skip hN o.dst) hz⟩;cases hz
theorem c8h(hcx:CxOk P cx)(hG:GOk cx.G B){ops:Array Oper}{Q:Exit→Act→World→Prop}{D:List Deferred}{z:ρ}:∀(l:List (Md×Oper)) {Γ:AE} {a:Act} {w:World} {σ:Gh} {K:AE→Rs ρ} (_:Rel B Γ N (a0k a) w σ) (_:a.tmps.size=N) (_:a.defers=D)
  (_:∀p∈l,a7W N ops.toList p.2=true) (_:a5K cx ops.toList l Γ K=some z) (_:∀a' w' Γ' σ',Rel B Γ' N (a0k a') w' σ'→a'.tmps.size=N→a'.defers=D→K Γ'=some z→Q .normal a' w'),
  wpListIn (Fr ro) 0 P ops Q (l.map (·.2)) a w
 | [],Γ,a,w,σ,K,h,hN,hD,_,hz,hQ=>hQ a w Γ σ h hN hD hz
 |(md,o)::l,Γ,a,w,σ,K,h,hN,hD,hf,hz,hQ=>by
  simp only[a5K]at hz
  have:=c8g (ro:=ro) (next:=wpListIn (Fr ro) 0 P ops Q (l.map (·.2))) (Q:=Q) hcx hG h hN (hf (md,o) (by simp)) hz fun v w' Γ' σ' hr hK=>
   c8h hcx hG l hr (by rw[b3E];exact hN) (by rw[b3c];exact hD) (fun p hp=>hf p (by simp[hp])) hK hQ
  simp only[a28,wpListIn]
  by_cases hw:Region.wanted o (yielded ops a.tmps)=true
  rw[if_pos hw]at this⊢;exact this;rw[if_neg hw]at this⊢;exact this
end
theorem a8u{B:Base}{N:Nat}{tm:Nat→Value}{w:World}{ρ:Type}:∀(os:a8O){Γ:AE}{σ:Gh}(_:Rel B Γ N tm w σ){e:Ex}{K:os.den→Rs ρ}{z:ρ}(_:os.all (fun p=>p.2.fits N)=true) (_:os.pack e Γ K=some z),
  ∃y X σ',K y=some z∧Rel B X N tm w σ'∧∀{ρ':Type}(K2:Ex→AE→Rs ρ'),os.open y K2=K2 e X
 | [],Γ,σ,h,e,K,z,hf,hz=>by simp only[a8O.pack]at hz;cases hz
 | [(e',s)],Γ,σ,h,e,K,z,hf,hz=>by
  simp only[a8O.pack]at hz
  split at hz
  rename_i he;subst he;obtain⟨x,σ',h1,h2⟩:=h.dcd (by simpa using hf) hz;exact⟨x,_,σ',h1,h2,fun K2=>rfl⟩;cases hz
 |(e',s)::x::r,Γ,σ,h,e,K,z,hf,hz=>by
  simp only[a8O.pack]at hz
  split at hz
  rename_i he;subst he;obtain⟨y,σ',h1,h2⟩:=h.dcd (by simpa using(lA.1 hf _ (a23))) hz;exact⟨.inl y,_,σ',h1,h2,fun K2=>rfl⟩;obtain⟨y,X,σ',h1,h2,h3⟩:=a8u (x::r) h (by
   simp only[a22,bA]at hf⊢;exact hf.2) hz
  exact⟨.inr y,X,σ',h1,h2,fun K2=>h3 K2⟩
theorem c8R{σ β:Type}{f:σ→Option (σ ⊕ β)}{s:σ}{b:β}(h:b6I f s=some b):∃n,a2H f n s=some b:=by
 unfold b6I at h
 split at h
 rename_i hx;simp only[sj]at h;obtain⟨n,h1⟩:=hx.choose_spec.choose_spec |> fun g=>(⟨hx.choose,g⟩:∃n,a2H f n s=some hx.choose_spec.choose);exact⟨n,h▸h1⟩;cases h
theorem d0S{σ β:Type}{f:σ→Option (σ ⊕ β)}{s:σ}{b:β}(h:a0h f s=some b):∃n,a2H f n s=some b:=by
 unfold a0h at h
 split at h
 rename_i b' hb;exact⟨400,by rw[hb];exact h⟩;exact c8R h
end Go.Ab
namespace Go.Ab
structure Dl where
 rs:List (Nat×Root)
 sv:SV
def Dl.app(δ:Dl)(d:Nat)(Γ:AE):AE:=⟨fun i=>bif i==d then δ.sv else Γ.sl i,fun n=>match find δ.rs n with|some r=>some r|none=>Γ.rt n,Γ.pd⟩
def a0r(o:Oper):List Nat:=o.op.operands.toList.filterMap fun x=>match x with|.tmp t=>some t|_=>none
def a1N(T:List Nat)(Γ Γ2:AE):Prop:=Γ2.pd=Γ.pd∧∀t∈T,Γ2.sl t=Γ.sl t∧∀n∈(Γ.sl t).refs,Γ2.rt n=Γ.rt n
theorem a1N.refl{T Γ}:a1N T Γ Γ:=⟨rfl,fun _ _=>⟨rfl,fun _ _=>rfl⟩⟩
theorem a2J{o:Oper}{t:Nat}(h:Operand.tmp t∈o.op.operands.toList):t∈a0r o:=a34.2 ⟨_,h,rfl⟩
theorem a1N.opd{o:Oper}{Γ Γ2:AE}(hA:a1N (a0r o) Γ Γ2){x:Operand}(hx:x∈o.op.operands.toList):Γ2.opd x=Γ.opd x:=by
 cases x with
 |tmp t=>simp only[AE.opd,AE.get];rw[(hA.2 t (a2J hx)).1]
 |_=>rfl
theorem a1N.rt{o:Oper}{Γ Γ2:AE}(hA:a1N (a0r o) Γ Γ2){x:Operand}(hx:x∈o.op.operands.toList){n:Nat}(hn:n∈(Γ.opd x).refs):Γ2.rt n=Γ.rt n:=by
 cases x with
 |tmp t=>
  refine(hA.2 t (a2J hx)).2 n ?_
  simp only[AE.opd,AE.get]at hn
  revert hn
  cases Γ.sl t with
  |one v=>exact id
  |cmp c vs=>exact fun h=>by cases h
 |const v=>
  simp only[AE.opd]at hn;unfold b5R at hn
  split at hn<;>cases hn
 |global g=>cases hn
 |func f=>cases hn
theorem a1N.look{o:Oper}{Γ Γ2:AE}(hA:a1N (a0r o) Γ Γ2){x:Operand}(hx:x∈o.op.operands.toList){n:Nat}(hn:n∈(Γ.opd x).refs):Γ2.look n=Γ.look n:=by
 simp only[AE.look,hA.1,hA.rt hx hn]
def b8v{ρ:Type}(r:Option Dl)(d:Nat)(Γ2:AE)(K:AE→Rs ρ):Rs ρ:=match r with
 |none=>none
 |some δ=>bif δ.rs.all fun p=>decide (p.1<pinned)&&(Γ2.rt p.1).isNone then K (δ.app d Γ2)else none
def Uni(cx:Cx)(o:Oper)(d:Nat)(Γ:AE):Prop:=
 ∃r:Option Dl,(∀δ,r=some δ→(δ.sv.firm=true→δ.rs=[])∧∀n,find δ.rs n≠none→n∈a7p cx o d)∧∀Γ2,a1N (a0r o) Γ Γ2→∀{ρ:Type}(K:AE→Rs ρ),aop cx true o Γ2 K=b8v r d Γ2 K
theorem Uni.none{cx o d Γ}(h:∀Γ2,a1N (a0r o) Γ Γ2→∀{ρ:Type}(K:AE→Rs ρ),aop cx true o Γ2 K=none):Uni cx o d Γ:=
 ⟨.none,by simp,fun Γ2 hA ρ K=>h Γ2 hA K⟩
theorem Uni.put{cx o d Γ}(sv:SV)(h:∀Γ2,a1N (a0r o) Γ Γ2→∀{ρ:Type}(K:AE→Rs ρ),aop cx true o Γ2 K=K (Γ2.put d sv)):Uni cx o d Γ:=
 ⟨some ⟨[],sv⟩,fun δ e=>by cases e;exact⟨fun _=>rfl,fun n hn=>absurd rfl hn⟩,fun Γ2 hA ρ K=>by rw[h Γ2 hA K];rfl⟩
theorem Uni.of{cx o d Γ}(r:Option AV)(h:∀Γ2,a1N (a0r o) Γ Γ2→∀{ρ:Type}(K:AE→Rs ρ),aop cx true o Γ2 K=r.elim .none fun v=>K (Γ2.set d v)):Uni cx o d Γ:=by
 cases r with
 |none=>exact Uni.none h
 |some v=>exact Uni.put (.one v) h
theorem d3L{ρ:Type}{Γ2:AE}{d:Nat}{r:Root}{v:AV}{K:AE→Rs ρ}:(Γ2.fresh true d r fun Γ=>K (Γ.set d v))=b8v (some ⟨[(d,r)],.one v⟩) d Γ2 K:=by
 unfold AE.fresh b8v;cases hd:decide (d<pinned);simp[hd]
 ·simp only[cT,a22,List.all_nil,a73,hd,a48];cases hr:Γ2.rt d with
  |some r0=>simp
  |none=>
   simp only[a77,cT];congr 1;simp only[AE.newRt,hr,AE.setRt,AE.set,AE.put,Dl.app];congr 1;funext n;simp only[find]
   by_cases e:n=d
   subst e;simp;have e1:(n==d)=false:=by simpa using e
   have e2:(d==n)=false:=by simpa using(Ne.symm e)
   simp[e1,e2]
theorem Uni.ofFresh{cx o d Γ}(r:Root)(v:AV)(hv:v.firm=false)(h:∀Γ2,a1N (a0r o) Γ Γ2→∀{ρ:Type}(K:AE→Rs ρ),aop cx true o Γ2 K=Γ2.fresh true d r fun Γ=>K (Γ.set d v)):Uni cx o d Γ:=
 ⟨some ⟨[(d,r)],.one v⟩,(fun δ e=>by
  cases e;refine⟨fun hf=>?_,fun n hn=>?_⟩;simp only[SV.firm,hv]at hf;cases hf;simp only[find]at hn
  by_cases e:d=n
  subst e;exact a23
  have:(d==n)=false:=by simpa using e
  simp[this]at hn),fun Γ2 hA ρ K=>by rw[h Γ2 hA K];exact d3L⟩
def a5M(t:Ty)(a:AV):Option t.den:=match a with
 |.val t' x=>castTo t' t x
 |.nils|.empt=>match t with
  |.list false _=>some []
  |_=>none
 |_=>none
theorem b9B{ρ:Type}(Γ:AE)(t:Ty)(a:AV)(K:t.den→AE→Rs ρ):Γ.asV true t a K=(a5M t a).elim none fun x=>K x Γ:=by
 cases a with
 |val t' x=>simp only[AE.asV,a5M];cases castTo t' t x<;>rfl
 |nils=>cases t with
  |list o e=>cases o<;>rfl
  |_=>rfl
 |empt=>cases t with
  |list o e=>cases o<;>rfl
  |_=>rfl
 |sref n p=>cases p<;>simp[AE.asV,a5M]
 |swin n p o k=>cases p<;>simp[AE.asV,a5M]
 |_=>rfl
def a8V(f:Operand→AV)(t:Ty):List (Nat×Operand)→t.den→Option t.den
 | [],x=>some x
 |(i,o)::r,x=>bif AE.pathOk t i then(match a0W t x (AE.pathOf t i)with
  |⟨t',_⟩=>(a5M t' (f o)).elim none fun y=>a8V f t r (a1y t x (AE.pathOf t i) t' y))else none
theorem c3h{ρ:Type}(Γ:AE)(t:Ty):∀(ps:List (Nat×Operand)) (x:t.den) (K:t.den→AE→Rs ρ),Γ.fills true t ps x K=(a8V Γ.opd t ps x).elim none fun y=>K y Γ
 | [],x,K=>rfl
 |(i,o)::r,x,K=>by
  simp only[AE.fills,a8V];cases AE.pathOk t i;rfl
  ·simp only[cT];rw[b9B];cases a5M _ (Γ.opd o)with
   |none=>rfl
   |some y=>exact c3h Γ t r _ K
theorem b3J(f g:Operand→AV)(t:Ty):∀(ps:List (Nat×Operand)) (x:t.den),(∀p∈ps,f p.2=g p.2)→a8V f t ps x=a8V g t ps x
 | [],x,_=>rfl
 |(i,o)::r,x,h=>by
  simp only[a8V];rw[h (i,o) (by simp)];cases AE.pathOk t i;rfl
  ·simp only[cT];cases a5M _ (g o)with
   |none=>rfl
   |some y=>exact b3J f g t r _ fun p hp=>h p (by simp[hp])
def c0T(f:Operand→AV)(e:Ty)(n:Nat):List (Nat×Operand)→List e.den→Option (List e.den)
 | [],x=>some x
 |(i,o)::r,x=>bif decide (i<n)then(a5M e (f o)).elim none fun y=>c0T f e n r (x.set i y)else none
theorem c8S{ρ:Type}(Γ:AE)(e:Ty)(n:Nat):∀(ps:List (Nat×Operand)) (x:List e.den) (K:List e.den→AE→Rs ρ),Γ.lit true e n ps x K=(c0T Γ.opd e n ps x).elim none fun y=>K y Γ
 | [],x,K=>rfl
 |(i,o)::r,x,K=>by
  simp only[AE.lit,c0T];cases decide (i<n);rfl
  ·simp only[cT];rw[b9B];cases a5M _ (Γ.opd o)with
   |none=>rfl
   |some y=>exact c8S Γ e n r _ K
theorem b6T(f g:Operand→AV)(e:Ty)(n:Nat):∀(ps:List (Nat×Operand)) (x:List e.den),(∀p∈ps,f p.2=g p.2)→c0T f e n ps x=c0T g e n ps x
 | [],x,_=>rfl
 |(i,o)::r,x,h=>by
  simp only[c0T];rw[h (i,o) (by simp)];cases decide (i<n);rfl
  ·simp only[cT];cases a5M _ (g o)with
   |none=>rfl
   |some y=>exact b6T f g e n r _ fun p hp=>h p (by simp[hp])
def a5r(lk:Nat→Option Root)(n:Nat)(p:a0N):Option ((e:Ty)×List e.den):=match lk n with
 |some r=>match a0W r.t r.x p with
  |⟨.list true e,l⟩=>some ⟨e,l⟩
  |_=>none
 |none=>none
theorem a4j{ρ:Type}(Γ:AE)(n:Nat)(p:a0N)(K:(e:Ty)→List e.den→Rs ρ):Γ.body n p K=(a5r Γ.look n p).elim none fun x=>K x.1 x.2:=by
 unfold AE.body a5r;cases Γ.look n with
 |none=>rfl
 |some r=>
  simp only[];generalize a0W r.t r.x p=X;obtain⟨tt,l⟩:=X;cases tt with
  |list o e=>cases o<;>rfl
  |_=>rfl
def a9l(lk:Nat→Option Root)(t:Ty)(a:AV):Option t.den:=match a with
 |.val t' x=>castTo t' t x
 |.nils|.empt=>match t with
  |.list false _=>some []
  |_=>none
 |.sref n p=>(a5r lk n p).elim none fun x=>if h:Ty.list false x.1.sh=t then some (h▸Ty.shx (.list false x.1) x.2)else none
 |.swin n p o k=>(a5r lk n p).elim none fun x=>if h:Ty.list false x.1.sh=t then some (h▸Ty.shx (.list false x.1) ((x.2.drop o).take k))else none
 |_=>none
theorem d0T{ρ:Type}(Γ:AE)(t:Ty)(a:AV)(K:t.den→Rs ρ):Γ.view t a K=(a9l Γ.look t a).elim none K:=by
 cases a with
 |val t' x=>simp only[AE.view,a9l];cases castTo t' t x<;>rfl
 |nils=>cases t with
  |list o e=>cases o<;>rfl
  |_=>rfl
 |empt=>cases t with
  |list o e=>cases o<;>rfl
  |_=>rfl
 |sref n p=>
  simp only[AE.view,a9l,a5r];cases Γ.look n with
  |none=>rfl
  |some r=>
   simp only[];generalize a0W r.t r.x p=X;obtain⟨tt,l⟩:=X;cases tt with
   |list o e=>
    cases o;rfl;simp only[a05];split<;>rfl
   |_=>rfl
 |swin n p o k=>
  simp only[AE.view,a9l,a5r];cases Γ.look n with
  |none=>rfl
  |some r=>
   simp only[];generalize a0W r.t r.x p=X;obtain⟨tt,l⟩:=X;cases tt with
   |list o e=>
    cases o;rfl;simp only[a05];split<;>rfl
   |_=>rfl
 |_=>rfl
theorem a4w{lk lk':Nat→Option Root}{n:Nat}(h:lk' n=lk n)(p:a0N):a5r lk' n p=a5r lk n p:=by simp only[a5r,h]
theorem b9R{lk lk':Nat→Option Root}{t:Ty}{a:AV}(h:∀n∈a.refs,lk' n=lk n):a9l lk' t a=a9l lk t a:=by
 cases a with
 |sref n p=>simp only[a9l];rw[a4w (h n (by simp[AV.refs]))]
 |swin n p o k=>simp only[a9l];rw[a4w (h n (by simp[AV.refs]))]
 |_=>rfl
def a7X(lk:Nat→Option Root)(e:Ty)(a:AV):Option (List e.den):=match a with
 |.val (.list false t') x=>if h:t'=e then some (h▸(show List t'.den from x))else none
 |.nils|.empt=>some []
 |.sref n p=>(a5r lk n p).elim none fun x=>if h:x.1=e then some (h▸x.2)else none
 |.swin n p o k=>(a5r lk n p).elim none fun x=>if h:x.1=e then some (List.take k (List.drop o (h▸x.2)))else none
 |_=>none
theorem b3v{ρ:Type}(Γ:AE)(e:Ty)(a:AV)(K:List e.den→Rs ρ):Γ.elems e a K=(a7X Γ.look e a).elim none K:=by
 cases a with
 |val t' x=>cases t' with
  |list o t'=>
   cases o;simp only[AE.elems,a7X];split<;>rfl;rfl
  |_=>rfl
 |sref n p=>
  simp only[AE.elems,a7X,a5r];cases Γ.look n with
  |none=>rfl
  |some r=>
   simp only[];generalize a0W r.t r.x p=X;obtain⟨tt,l⟩:=X;cases tt with
   |list o e=>
    cases o;rfl;simp only[a05];split<;>rfl
   |_=>rfl
 |swin n p o k=>
  simp only[AE.elems,a7X,a5r];cases Γ.look n with
  |none=>rfl
  |some r=>
   simp only[];generalize a0W r.t r.x p=X;obtain⟨tt,l⟩:=X;cases tt with
   |list o e=>
    cases o;rfl;simp only[a05];split<;>rfl
   |_=>rfl
 |_=>rfl
theorem b3K{lk lk':Nat→Option Root}{e:Ty}{a:AV}(h:∀n∈a.refs,lk' n=lk n):a7X lk' e a=a7X lk e a:=by
 cases a with
 |sref n p=>simp only[a7X];rw[a4w (h n (by simp[AV.refs]))]
 |swin n p o k=>simp only[a7X];rw[a4w (h n (by simp[AV.refs]))]
 |val t' x=>cases t' with
  |list o t'=>cases o<;>rfl
  |_=>rfl
 |_=>rfl
end Go.Ab
namespace Go.Ab
theorem b8w{β γ:Type}{c:Bool}{v:β}{K:β→Option γ}:(bif c then K v else none)=(bif c then some v else none:Option β).elim none K:=by cases c<;>rfl
section
variable {cx:Cx} {o:Oper} {d:Nat} {Γ:AE}
theorem d1U{x:Operand}(ho:o.op=.move x)(hd:o.dst=some d):Uni cx o d Γ:=by
 have hx:x∈o.op.operands.toList:=by simp[ho,Op.operands]
 cases x with
 |tmp t=>exact Uni.put (Γ.sl t) fun Γ2 hA ρ K=>by simp only[aop,ho,hd];rw[(hA.2 t (a2J hx)).1]
 |const v=>exact Uni.put (.one (Γ.opd (.const v))) fun Γ2 hA ρ K=>by simp only[aop,ho,hd];rfl
 |global g=>exact Uni.put (.one (.glob g)) fun Γ2 hA ρ K=>by simp only[aop,ho,hd];rfl
 |func f=>exact Uni.put (.one .dead) fun Γ2 hA ρ K=>by simp only[aop,ho,hd];rfl
theorem d2Y{ρ:Type}(Γ:AE)(v:AV)(K:AE→Rs ρ):Γ.asg true cx d v K=K (Γ.set d v):=by
 unfold AE.asg;split;rename_i r;split;cases hrd:(r==d)
 simp
 simp
 rfl;rename_i r k;split
 simp
 rfl;rfl
theorem c8T{x:Operand}(ho:o.op=.assign x)(hd:o.dst=some d):Uni cx o d Γ:=by
 have hx:x∈o.op.operands.toList:=by simp[ho,Op.operands]
 cases x with
 |tmp t=>
  have hs:∀Γ2,a1N (a0r o) Γ Γ2→Γ2.sl t=Γ.sl t:=fun Γ2 hA=>(hA.2 t (a2J hx)).1;cases hv:Γ.sl t with
  |one v=>exact Uni.put (.one v) fun Γ2 hA ρ K=>by simp only[aop,ho,hd,AE.sopd,hs Γ2 hA,hv];rw[d2Y];rfl
  |cmp c vs=>exact Uni.put (.cmp c vs) fun Γ2 hA ρ K=>by simp only[aop,ho,hd,AE.sopd,hs Γ2 hA,hv]
 |_=>exact Uni.put (.one (Γ.opd _)) fun Γ2 hA ρ K=>by simp only[aop,ho,hd,AE.sopd];rw[d2Y,hA.opd hx];rfl
theorem c5P{fn:Fn}{first caps:Array Operand}(ho:o.op=.makeFunc fn first caps)(hd:o.dst=some d):Uni cx o d Γ:=by
 cases fn with
 |func f=>
  cases hf:first.isEmpty with
  |false=>exact Uni.none fun Γ2 hA ρ K=>by simp only[aop,ho,hd,hf,cF]
  |true=>
   refine Uni.put (.cmp (.clo f) (caps.toList.map Γ.opd)) fun Γ2 hA ρ K=>?_
   simp only[aop,ho,hd,hf,cT]
   have:caps.toList.map Γ2.opd=caps.toList.map Γ.opd:=a18 fun x hx=>hA.opd (by
    rw[ho];simp only[Op.operands];simpa using .inr (by simpa using hx))
   rw[this]
 |_=>exact Uni.none fun Γ2 hA ρ K=>by simp only[aop,ho,hd]
theorem d4B{ρ:Type}(c x y:AV)(K:AV→Rs ρ):b9w c x y K=(b9w c x y some).elim none K:=by
 unfold b9w;split;rename_i b;split;rfl;cases b<;>rfl;cases b<;>rfl;rfl;rfl
theorem d1V{c x y:Operand}(ho:o.op=.pick c x y)(hd:o.dst=some d):Uni cx o d Γ:=by
 have hc:c∈o.op.operands.toList:=by simp[ho,Op.operands]
 have hx:x∈o.op.operands.toList:=by simp[ho,Op.operands]
 have hy:y∈o.op.operands.toList:=by simp[ho,Op.operands]
 refine Uni.of (b9w (Γ.opd c) (Γ.opd x) (Γ.opd y) some) fun Γ2 hA ρ K=>?_
 simp only[aop,ho,hd,hA.opd hc,hA.opd hx,hA.opd hy];exact d4B _ _ _ _
theorem d0U{t:TypeId}(ho:o.op=.alloc t)(hd:o.dst=some d):Uni cx o d Γ:=by
 cases ht:cx.own d t with
 |none=>exact Uni.none fun Γ2 hA ρ K=>by simp only[aop,ho,hd,ht]
 |some t'=>exact Uni.ofFresh ⟨true,t',t'.dflt⟩ (.ptr d []) rfl fun Γ2 hA ρ K=>by simp only[aop,ho,hd,ht]
theorem d3M{t:TypeId}{x:Operand}(ho:o.op=.box t x)(hd:o.dst=some d):Uni cx o d Γ:=by
 have hx:x∈o.op.operands.toList:=by simp[ho,Op.operands]
 cases ht:cx.T t with
 |none=>exact Uni.none fun Γ2 hA ρ K=>by simp only[aop,ho,hd,ht,cT]
 |some t'=>
  cases ha:a5M t' (Γ.opd x)with
  |none=>exact Uni.none fun Γ2 hA ρ K=>by simp only[aop,ho,hd,ht,cT];rw[b9B,hA.opd hx,ha];rfl
  |some y=>
   cases hk:cx.K d with
   |true=>exact Uni.put (.one (.vptr t' y)) fun Γ2 hA ρ K=>by simp only[aop,ho,hd,ht,cT];rw[b9B,hA.opd hx,ha];simp[hk,AE.set]
   |false=>exact Uni.ofFresh ⟨true,t',y⟩ (.ptr d []) rfl fun Γ2 hA ρ K=>by simp only[aop,ho,hd,ht,cT];rw[b9B,hA.opd hx,ha];simp[hk]
theorem b4I{t:TypeId}{ps:Array (Nat×Operand)}(ho:o.op=.build t ps∨∃n,o.op=.buildSlice t n ps):∀p∈ps.toList,p.2∈o.op.operands.toList:=by
 intro p hp;rcases ho with ho|⟨n,ho⟩<;>rw[ho]<;>simp only[Op.operands]<;>exact a19.2 ⟨p,hp,rfl⟩
theorem d0V{t:TypeId}{ps:Array (Nat×Operand)}(ho:o.op=.build t ps)(hd:o.dst=some d):Uni cx o d Γ:=by
 cases hn:cx.nlT d t with
 |some t'=>
  cases hagg:t'.isAgg with
  |false=>exact Uni.none fun Γ2 hA ρ K=>by simp[aop,ho,hd,hn,hagg]
  |true=>
   refine Uni.of ((a8V Γ.opd t' ps.toList t'.dflt).map fun y=>.val t' y) fun Γ2 hA ρ K=>?_
   simp only[aop,ho,hd,hn,hagg,cT];rw[c3h,b3J Γ2.opd Γ.opd t' _ _ fun p hp=>hA.opd (b4I (.inl ho) p hp)];cases a8V Γ.opd t' ps.toList t'.dflt<;>rfl
 |none=>
 cases ht:cx.T t with
 |none=>exact Uni.none fun Γ2 hA ρ K=>by simp only[aop,ho,hd,hn,ht,cT]
 |some t'=>
  cases hagg:t'.isAgg with
  |false=>exact Uni.none fun Γ2 hA ρ K=>by simp[aop,ho,hd,hn,ht,hagg]
  |true=>
   refine Uni.of ((a8V Γ.opd t' ps.toList t'.dflt).map fun y=>.val t' y) fun Γ2 hA ρ K=>?_
   simp only[aop,ho,hd,hn,ht,hagg,cT];rw[c3h,b3J Γ2.opd Γ.opd t' _ _ fun p hp=>hA.opd (b4I (.inl ho) p hp)];cases a8V Γ.opd t' ps.toList t'.dflt<;>rfl
theorem c3i{t:TypeId}{n:Nat}{ps:Array (Nat×Operand)}(ho:o.op=.buildSlice t n ps)(hd:o.dst=some d):Uni cx o d Γ:=by
 cases ht:cx.T t with
 |none=>exact Uni.none fun Γ2 hA ρ K=>by simp only[aop,ho,hd,ht]
 |some t'=>
  cases t' with
  |list o' e=>
   cases hc:(lim n&&decide (n*e.cells≤16777216))with
   |false=>exact Uni.none fun Γ2 hA ρ K=>by simp only[aop,ho,hd,ht,hc,cF,cT,a53]
   |true=>
    cases hl:c0T Γ.opd e n ps.toList (a70 n e.dflt)with
    |none=>
     exact Uni.none fun Γ2 hA ρ K=>by
      simp only[aop,ho,hd,ht,hc,cT,a53];rw[c8S,b6T Γ2.opd Γ.opd e n _ _ (fun p hp=>hA.opd (b4I (.inr ⟨n,ho⟩) p hp)),hl];rfl
    |some y=>
     exact Uni.ofFresh ⟨false,.list true e,y⟩ (.sref d []) rfl fun Γ2 hA ρ K=>by
      simp only[aop,ho,hd,ht,hc,cT,a53];rw[c8S,b6T Γ2.opd Γ.opd e n _ _ (fun p hp=>hA.opd (b4I (.inr ⟨n,ho⟩) p hp)),hl];rfl
  |_=>exact Uni.none fun Γ2 hA ρ K=>by simp only[aop,ho,hd,ht]
def c0U(lk:Nat→Option Root)(ty:Ty)(a:AV):Option AV:=match a with
 |.vptr t x=>if t=ty then some (.val t x)else none
 |.ptr n p=>match lk n with
  |some r=>match a0W r.t r.x p with
   |⟨.list true _,_⟩=>if ty.isList then some (.sref n p)else none
   |⟨t,y⟩=>if t.sh=ty∧t.shn=t then some (.val t y)else none
  |none=>none
 |_=>none
theorem d5r{ρ:Type}(Γ:AE)(ty:Ty)(a:AV)(K:AV→AE→Rs ρ):Γ.lodK true ty a K=(c0U Γ.look ty a).elim none fun v=>K v Γ:=by
 cases a with
 |vptr t x=>simp only[AE.lodK,c0U];split<;>rfl
 |ptr n p=>
  simp only[AE.lodK,c0U];cases Γ.look n with
  |none=>rfl
  |some r=>
   simp only[];generalize a0W r.t r.x p=X;obtain⟨tt,l⟩:=X;have gen:∀(tt:Ty)(l:tt.den),((if tt.sh=ty∧tt.shn=tt then K (AV.val tt l) Γ else none:Rs ρ))=(if tt.sh=ty∧tt.shn=tt then some (AV.val tt l)else none:Option AV).elim none fun v=>K v Γ:=by
    intro tt l
    split<;>rfl
   cases tt with
   |list o e=>
    cases o;exact gen _ l;simp only[];split<;>rfl
   |_=>exact gen _ l
 |_=>rfl
theorem d1W{t:TypeId}{x:Operand}(ho:o.op=.load t x)(hd:o.dst=some d):Uni cx o d Γ:=by
 have hx:x∈o.op.operands.toList:=by simp[ho,Op.operands]
 cases ht:cx.T t with
 |none=>exact Uni.none fun Γ2 hA ρ K=>by simp only[aop,ho,hd,ht]
 |some ty=>
  refine Uni.of (c0U Γ.look ty (cx.glob (Γ.opd x))) fun Γ2 hA ρ K=>?_
  simp only[aop,ho,hd,ht,cT];rw[d5r,hA.opd hx]
  have:c0U Γ2.look ty (cx.glob (Γ.opd x))=c0U Γ.look ty (cx.glob (Γ.opd x)):=by
   have hl:=fun n hn=>hA.look (n:=n) hx hn
   revert hl
   cases Γ.opd x with
   |ptr n p=>intro hl;simp only[Cx.glob,c0U,hl n (by simp[AV.refs])]
   |glob g=>
    intro _;simp only[Cx.glob]
    split<;>rfl
   |_=>intro _;rfl
  rw[this]
theorem c5Q{x:Operand}(ho:o.op=.nilCheck x)(hd:o.dst=some d):Uni cx o d Γ:=by
 have hx:x∈o.op.operands.toList:=by simp[ho,Op.operands]
 refine Uni.of (match Γ.opd x with|.ptr n p=>some (.ptr n p)|.vptr t y=>some (.vptr t y)|_=>none) fun Γ2 hA ρ K=>?_
 simp only[aop,ho,hd,hA.opd hx];cases Γ.opd x<;>rfl
theorem d1X{ρ:Type}(op:BinOp)(k:IntKind)(x y:Int)(K:AV→Rs ρ):b2g op k x y K=(b2g op k x y some).elim none K:=by
 cases op<;>simp only[b2g]<;>first|rfl|(cases (y==0)<;>rfl)|(cases decide (y<0)<;>rfl)
theorem d1Y{ρ:Type}(op:BinOp)(ty:Nat)(t:Ty)(x:t.den)(t':Ty)(y:t'.den)(K:AV→Rs ρ):b5T cx op ty t x t' y K=(b5T cx op ty t x t' y some).elim none K:=by
 unfold b5T;split;cases (cx.E ty&&t.isAgg&&decide (cx.T ty=some t));rfl;cases op<;>rfl;rfl
theorem d4C{ρ:Type}(op:BinOp)(ty:Nat)(a b:AV)(K:AV→Rs ρ):a9W cx op ty a b K=(a9W cx op ty a b some).elim none K:=by
 unfold a9W;split;split;exact d1X _ _ _ _ _;rfl;split;cases op<;>rfl;rfl;cases op<;>first|rfl|exact b8w
 exact d1Y _ _ _ _ _ _ _;split;cases op<;>rfl;rfl;split;cases op<;>rfl;rfl;rfl
theorem d0W{op:BinOp}{t s:TypeId}{x y:Operand}(ho:o.op=.binOp op t x y s)(hd:o.dst=some d):Uni cx o d Γ:=by
 have hx:x∈o.op.operands.toList:=by simp[ho,Op.operands]
 have hy:y∈o.op.operands.toList:=by simp[ho,Op.operands]
 cases hl:c8a (cx.T t)with
 |true=>
  cases hn:c5v (cx.T t) (Γ.opd x) (Γ.opd y)with
  |some e=>exact Uni.none fun Γ2 hA ρ K=>by simp only[aop,ho,hd,hA.opd hx,hA.opd hy,hl,hn,cT,if_true]
  |none=>exact Uni.none fun Γ2 hA ρ K=>by simp only[aop,ho,hd,hA.opd hx,hA.opd hy,hl,hn,cT]
 |false=>
  refine Uni.of (a9W cx op t (Γ.opd x) (Γ.opd y) some) fun Γ2 hA ρ K=>?_
  simp only[aop,ho,hd,hA.opd hx,hA.opd hy,hl,cF];exact d4C _ _ _ _ _
theorem d6P{ρ:Type}(op:UnOp)(a:AV)(K:AV→Rs ρ):AE.un op a K=(AE.un op a some).elim none K:=by
 unfold AE.un
 split<;>rfl
theorem d1Z{op:UnOp}{t:TypeId}{x:Operand}(ho:o.op=.unOp op t x)(hd:o.dst=some d):Uni cx o d Γ:=by
 have hx:x∈o.op.operands.toList:=by simp[ho,Op.operands]
 refine Uni.of (AE.un op (Γ.opd x) some) fun Γ2 hA ρ K=>?_
 simp only[aop,ho,hd,hA.opd hx];exact d6P _ _ _
theorem d3N{ρ:Type}{c:Bool}{v:AV}{K:AV→Rs ρ}{Kr:Root→Rs ρ}:(bif c then K v else none)=(bif c then some (Sum.inl v)else none:Option (AV ⊕ Root)).elim none fun y=>match y with
  |.inl v=>K v
  |.inr r=>Kr r:=by cases c<;>rfl
theorem d3O{ρ:Type}{c:Bool}{v:Root}{K:AV→Rs ρ}{Kr:Root→Rs ρ}:(bif c then Kr v else none)=(bif c then some (Sum.inr v)else none:Option (AV ⊕ Root)).elim none fun y=>match y with
  |.inl v=>K v
  |.inr r=>Kr r:=by cases c<;>rfl
theorem d4D{ρ:Type}(Γ:AE)(s t:Nat)(ts tt:Option Ty)(a:AV)(K:AV→Rs ρ)(Kr:Root→Rs ρ):Γ.convK s t ts tt a K Kr=(Γ.convK s t ts tt a (fun v=>some (Sum.inl v)) (fun r=>some (Sum.inr r)):Option (AV ⊕ Root)).elim none fun y=>match y with
  |.inl v=>K v
  |.inr r=>Kr r:=by
 unfold AE.convK;split;rfl;exact d3O;rfl;rename_i n;split;split;exact d3N;rfl;rfl;rw[b3v,b3v (ρ:=AV ⊕ Root)];generalize a7X Γ.look (.int .u8) _=r;cases r<;>rfl;rfl
theorem c8U{ρ:Type}{Γ Γ2:AE}(s t:Nat)(ts tt:Option Ty){a:AV}(h:∀n∈a.refs,Γ2.look n=Γ.look n)(K:AV→Rs ρ)(Kr:Root→Rs ρ):Γ2.convK s t ts tt a K Kr=Γ.convK s t ts tt a K Kr:=by
 unfold AE.convK;split;rfl;rfl;rfl;rename_i n;rw[h n (by simp[AV.refs])];rw[b3v,b3v,b3K h];rfl
theorem c7u{s t:TypeId}{x:Operand}(ho:o.op=.convert s t x)(hd:o.dst=some d):Uni cx o d Γ:=by
 have hx:x∈o.op.operands.toList:=by simp[ho,Op.operands]
 have run:∀Γ2,a1N (a0r o) Γ Γ2→∀{ρ:Type}(K:AE→Rs ρ),aop cx true o Γ2 K=(Γ.convK s t (cx.T s) (cx.T t) (Γ.opd x) (fun v=>some (Sum.inl v)) (fun r=>some (Sum.inr r)):Option (AV ⊕ Root)).elim none fun y=>match y with
   |.inl v=>K (Γ2.set d v)
   |.inr r=>Γ2.fresh true d r fun Γ=>K (Γ.set d (.sref d [])):=fun Γ2 hA ρ K=>by
  simp only[aop,ho,hd,hA.opd hx,AE.conv];rw[d4D,c8U s t _ _ fun n hn=>hA.look hx hn]
 revert run
 generalize (Γ.convK s t (cx.T s) (cx.T t) (Γ.opd x) (fun v=>some (Sum.inl v)) (fun r=>some (Sum.inr r)):Option (AV ⊕ Root))=r;cases r with
 |none=>exact fun run=>Uni.none run
 |some y=>
  cases y with
  |inl v=>exact fun run=>Uni.put (.one v) run
  |inr r=>exact fun run=>Uni.ofFresh r (.sref d []) rfl run
end
end Go.Ab
namespace Go.Ab
section
variable {cx:Cx} {o:Oper} {d:Nat} {Γ:AE}
theorem c8i{ρ:Type}(a:AV)(t:Ty)(K:t.den→Rs ρ):a.isVal t K=(a.isVal t some).elim none K:=by
 cases a with
 |val t' x=>simp only[AV.isVal];split<;>rfl
 |_=>rfl
theorem c4R{t:TypeId}{n c:Operand}(ho:o.op=.makeSlice t n c)(hd:o.dst=some d):Uni cx o d Γ:=by
 have hn:n∈o.op.operands.toList:=by simp[ho,Op.operands]
 have hc:c∈o.op.operands.toList:=by simp[ho,Op.operands]
 cases ht:cx.own d t with
 |none=>exact Uni.none fun Γ2 hA ρ K=>by simp only[aop,ho,hd,ht]
 |some t'=>
  cases t' with
  |list o' e=>
   have run:∀Γ2,a1N (a0r o) Γ Γ2→∀{ρ:Type}(K:AE→Rs ρ),aop cx true o Γ2 K=((Γ.opd n).isVal (.int .i64) some).elim none fun(x:Int)=>((Γ.opd c).isVal (.int .i64) some).elim none fun(y:Int)=>
     bif decide (0≤x)&&(decide (x≤y)&&lim y.toNat)then Γ2.fresh true d ⟨false,.list true e,a70 x.toNat e.dflt⟩ fun Γ=>K (Γ.set d (.sref d []))else none:=fun Γ2 hA ρ K=>by
    simp only[aop,ho,hd,ht,hA.opd hn,hA.opd hc];refine(c8i _ (.int .i64) _).trans ?_
    congr 1;funext x;exact c8i _ (.int .i64) _
   revert run
   generalize (Γ.opd n).isVal (.int .i64) some=rx;generalize (Γ.opd c).isVal (.int .i64) some=ry;intro run;cases rx with
   |none=>exact Uni.none run
   |some x=>
    cases ry with
    |none=>exact Uni.none run
    |some y=>
     cases hb:(decide (0≤(show Int from x))&&(decide ((show Int from x)≤(show Int from y))&&lim (show Int from y).toNat))with
     |false=>
      refine Uni.none fun Γ2 hA ρ K=>(run Γ2 hA K).trans ?_
      show(bif (decide (0≤(show Int from x))&&(decide ((show Int from x)≤(show Int from y))&&lim (show Int from y).toNat))then _ else none)=none;rw[hb];rfl
     |true=>
      refine Uni.ofFresh ⟨false,.list true e,a70 (show Int from x).toNat e.dflt⟩ (.sref d []) rfl fun Γ2 hA ρ K=>(run Γ2 hA K).trans ?_
      show(bif (decide (0≤(show Int from x))&&(decide ((show Int from x)≤(show Int from y))&&lim (show Int from y).toNat))then _ else none)=_;rw[hb];rfl
  |_=>exact Uni.none fun Γ2 hA ρ K=>by simp only[aop,ho,hd,ht]
theorem c5l{ρ:Type}(Γ:AE)(len dv:Nat)(x:Option Operand)(K:Nat→Rs ρ):Γ.bnd len dv x K=(Γ.bnd len dv x some).elim none K:=by
 cases x with
 |none=>rfl
 |some x=>
  simp only[AE.bnd];split;exact b8w;rfl
theorem a6V{ρ:Type}(Γ:AE)(len:Nat)(lo hi:Option Operand)(K:Nat→Nat→Rs ρ):Γ.bnds len lo hi K=(Γ.bnds len lo hi fun x y=>some (x,y)).elim none fun p=>K p.1 p.2:=by
 unfold AE.bnds;rw[c5l,c5l (ρ:=Nat×Nat)];cases Γ.bnd len len hi some with
 |none=>rfl
 |some h=>
  simp only[a05];rw[c5l,c5l (ρ:=Nat×Nat)];cases Γ.bnd h 0 lo some<;>rfl
theorem c8V{ρ:Type}{Γ Γ2:AE}{lo hi:Option Operand}(hlo:∀x,lo=some x→Γ2.opd x=Γ.opd x)(hhi:∀x,hi=some x→Γ2.opd x=Γ.opd x)(len:Nat)(K:Nat→Nat→Rs ρ):Γ2.bnds len lo hi K=Γ.bnds len lo hi K:=by
 have one:∀(x:Option Operand),(∀y,x=some y→Γ2.opd y=Γ.opd y)→∀(l dv:Nat){ρ:Type}(K:Nat→Rs ρ),Γ2.bnd l dv x K=Γ.bnd l dv x K:=by
  intro x hx l dv ρ K;cases x with
  |none=>rfl
  |some y=>simp only[AE.bnd];rw[hx y rfl]
 unfold AE.bnds;rw[one hi hhi];congr 1;funext h;rw[one lo hlo]
theorem d4E{ρ:Type}(Γ:AE)(ty:Option Ty)(a:AV)(lo hi mx:Option Operand)(K:AV→Rs ρ):Γ.slic ty a lo hi mx K=(Γ.slic ty a lo hi mx some).elim none K:=by
 unfold AE.slic;cases mx with
 |some m=>
  simp only[];cases (b5U (some m)&&b5U hi&&lo.isNone);rfl;simp only[cT,b9v]
  split<;>rfl
 |none=>
  simp only[];cases a with
  |val t l=>
   cases t with
   |str=>
    simp only[];split;rw[a6V,a6V (ρ:=AV)];generalize (Γ.bnds _ lo hi fun x y=>some (x,y):Option (Nat×Nat))=r;cases r<;>rfl;rfl
   |list o e=>
    cases o;simp only[];split;rw[a6V,a6V (ρ:=AV)];generalize (Γ.bnds _ lo hi fun x y=>some (x,y):Option (Nat×Nat))=r;cases r<;>rfl;rfl;rfl
   |_=>rfl
  |nils=>
   cases ty with
   |none=>rfl
   |some t=>
    cases t with
    |list o e=>
     simp only[];rw[a6V,a6V (ρ:=AV)];generalize (Γ.bnds _ lo hi fun x y=>some (x,y):Option (Nat×Nat))=r;cases r<;>rfl
    |_=>rfl
  |sref n p=>
   simp only[];rw[a4j,a4j (ρ:=AV)];cases a5r Γ.look n p with
   |none=>rfl
   |some x=>
    simp only[a05];split;cases lo<;>cases hi<;>simp only[]<;>(try rfl)<;>(rw[a6V,a6V (ρ:=AV)];generalize (Γ.bnds _ _ _ fun x y=>some (x,y):Option (Nat×Nat))=r;cases r<;>rfl)
    rfl
  |swin n p o k=>
   simp only[];rw[a4j,a4j (ρ:=AV)];cases a5r Γ.look n p with
   |none=>rfl
   |some x=>
    simp only[a05];split;rw[a6V,a6V (ρ:=AV)];generalize (Γ.bnds _ _ _ fun x y=>some (x,y):Option (Nat×Nat))=r;cases r<;>rfl;rfl
  |vptr t l=>
   cases t with
   |arr n e=>
    simp only[];split;rw[a6V,a6V (ρ:=AV)];generalize (Γ.bnds _ lo hi fun x y=>some (x,y):Option (Nat×Nat))=r;cases r<;>rfl;rfl
   |_=>rfl
  |_=>rfl
theorem c8W{ρ:Type}{Γ Γ2:AE}{a:AV}{lo hi:Option Operand}(ha:∀n∈a.refs,Γ2.look n=Γ.look n)(hlo:∀x,lo=some x→Γ2.opd x=Γ.opd x)(hhi:∀x,hi=some x→Γ2.opd x=Γ.opd x)(ty:Option Ty)(mx:Option Operand)(K:AV→Rs ρ):
  Γ2.slic ty a lo hi mx K=Γ.slic ty a lo hi mx K:=by
 have hb:=fun(len:Nat) {ρ:Type} (K:Nat→Nat→Rs ρ)=>c8V (Γ:=Γ) (Γ2:=Γ2) hlo hhi len K;unfold AE.slic;cases mx with
 |some m=>rfl
 |none=>
  simp only[];cases a with
  |val t l=>
   cases t with
   |str=>simp only[hb]
   |list o e=>cases o<;>simp only[hb]
   |_=>rfl
  |nils=>
   cases ty with
   |none=>rfl
   |some t=>cases t<;>simp only[hb]
  |sref n p=>
   simp only[];rw[a4j,a4j,a4w (ha n (by simp[AV.refs]))];cases lo<;>cases hi<;>simp only[hb]
  |swin n p o k=>
   simp only[];rw[a4j,a4j,a4w (ha n (by simp[AV.refs]))];simp only[hb]
  |vptr t l=>
   cases t with
   |arr n e=>simp only[hb]
   |_=>rfl
  |_=>rfl
theorem d0X{t:TypeId}{x:Operand}{lo hi mx:Option Operand}(ho:o.op=.slice t x lo hi mx)(hd:o.dst=some d):Uni cx o d Γ:=by
 have hx:x∈o.op.operands.toList:=by simp[ho,Op.operands]
 have hlo:∀y,lo=some y→y∈o.op.operands.toList:=fun y h=>by subst h;simp[ho,Op.operands]
 have hhi:∀y,hi=some y→y∈o.op.operands.toList:=fun y h=>by subst h;simp[ho,Op.operands]
 refine Uni.of (Γ.slic (cx.T t) (Γ.opd x) lo hi mx some) fun Γ2 hA ρ K=>?_
 simp only[aop,ho,hd,hA.opd hx];rw[c8W (fun n hn=>hA.look hx hn) (fun y h=>hA.opd (hlo y h)) (fun y h=>hA.opd (hhi y h))];exact d4E _ _ _ _ _ _ _
theorem c4S{s:TypeId}{x:Operand}{f:Nat}(ho:o.op=.fieldAddr s x f)(hd:o.dst=some d):Uni cx o d Γ:=by
 have hx:x∈o.op.operands.toList:=by simp[ho,Op.operands]
 cases ha:Γ.opd x with
 |ptr n p=>
  have hr:∀Γ2,a1N (a0r o) Γ Γ2→Γ2.rt n=Γ.rt n:=fun Γ2 hA=>hA.rt hx (by rw[ha];simp[AV.refs]);cases hrt:Γ.rt n with
  |none=>exact Uni.none fun Γ2 hA ρ K=>by simp only[aop,ho,hd,hA.opd hx,ha,hr Γ2 hA,hrt]
  |some r=>
   by_cases hc:a2e (a0W r.t r.x p).1 f=true∧cx.T s=some (a0W r.t r.x p).1.sh
   exact Uni.put (.one (.ptr n (p++a1l f))) fun Γ2 hA ρ K=>by
    simp only[aop,ho,hd,hA.opd hx,ha,hr Γ2 hA,hrt];rw[if_pos hc];rfl
   exact Uni.none fun Γ2 hA ρ K=>by
    simp only[aop,ho,hd,hA.opd hx,ha,hr Γ2 hA,hrt];rw[if_neg hc]
 |vptr t y=>
  by_cases hc:a2e t f=true∧cx.T s=some t
  exact Uni.put (.one (.vptr (a0W t y (a1l f)).1 (a0W t y (a1l f)).2)) fun Γ2 hA ρ K=>by
   simp only[aop,ho,hd,hA.opd hx,ha];rw[if_pos hc];rfl
  exact Uni.none fun Γ2 hA ρ K=>by
   simp only[aop,ho,hd,hA.opd hx,ha];rw[if_neg hc]
 |_=>exact Uni.none fun Γ2 hA ρ K=>by simp only[aop,ho,hd,hA.opd hx,ha]
theorem d0Y{s:TypeId}{x:Operand}{f:Nat}(ho:o.op=.field s x f)(hd:o.dst=some d):Uni cx o d Γ:=by
 have hx:x∈o.op.operands.toList:=by simp[ho,Op.operands]
 cases ha:Γ.opd x with
 |val t y=>
  by_cases hc:a2e t f=true∧cx.T s=some t
  exact Uni.put (.one (.val (a0W t y (a1l f)).1 (a0W t y (a1l f)).2)) fun Γ2 hA ρ K=>by
   simp only[aop,ho,hd,hA.opd hx,ha];rw[if_pos hc];rfl
  exact Uni.none fun Γ2 hA ρ K=>by
   simp only[aop,ho,hd,hA.opd hx,ha];rw[if_neg hc]
 |_=>exact Uni.none fun Γ2 hA ρ K=>by simp only[aop,ho,hd,hA.opd hx,ha]
theorem b9C{α β γ:Type}{o:Option α}{f:α→β}{K:β→Option γ}:(o.bind fun x=>K (f x))=(o.bind fun x=>some (f x)).elim none K:=by cases o<;>rfl
theorem d4F{ρ:Type}(Γ:AE)(ty:Option Ty)(a:AV)(i:Int)(K:AV→Rs ρ):Γ.addrK ty a i K=(Γ.addrK ty a i some).elim none K:=by
 cases a with
 |val t l=>
  cases t with
  |list o e=>
   cases o;simp only[AE.addrK];split;exact b9C;rfl;rfl
  |_=>rfl
 |sref n p=>
  simp only[AE.addrK];rw[a4j,a4j (ρ:=AV)];cases a5r Γ.look n p with
  |none=>rfl
  |some x=>
   simp only[a05];split;exact b8w;rfl
 |swin n p o k=>
  simp only[AE.addrK];rw[a4j,a4j (ρ:=AV)];cases a5r Γ.look n p with
  |none=>rfl
  |some x=>
   simp only[a05];split;exact b8w;rfl
 |ptr n p=>
  simp only[AE.addrK];cases Γ.rt n with
  |none=>rfl
  |some r=>
   simp only[];generalize a0W r.t r.x p=X;obtain⟨tt,l⟩:=X;cases tt with
   |arr k e=>
    simp only[];split;exact b8w;rfl
   |_=>rfl
 |vptr t l=>
  cases t with
  |arr k e=>
   simp only[AE.addrK];split;exact b9C;rfl
  |_=>rfl
 |_=>rfl
theorem c8X{ρ:Type}{Γ Γ2:AE}{a:AV}(hl:∀n∈a.refs,Γ2.look n=Γ.look n)(hr:∀n∈a.refs,Γ2.rt n=Γ.rt n)(ty:Option Ty)(i:Int)(K:AV→Rs ρ):Γ2.addrK ty a i K=Γ.addrK ty a i K:=by
 cases a with
 |sref n p=>simp only[AE.addrK];rw[a4j,a4j,a4w (hl n (by simp[AV.refs]))]
 |swin n p o k=>simp only[AE.addrK];rw[a4j,a4j,a4w (hl n (by simp[AV.refs]))]
 |ptr n p=>simp only[AE.addrK];rw[hr n (by simp[AV.refs])]
 |val t l=>
  cases t with
  |list o e=>cases o<;>rfl
  |_=>rfl
 |vptr t l=>cases t<;>rfl
 |_=>rfl
theorem c4T{t:TypeId}{x i:Operand}(ho:o.op=.indexAddr t x i)(hd:o.dst=some d):Uni cx o d Γ:=by
 have hx:x∈o.op.operands.toList:=by simp[ho,Op.operands]
 have hi:i∈o.op.operands.toList:=by simp[ho,Op.operands]
 have no:(∀k y,Γ.opd i≠.val (.int k) y)→Uni cx o d Γ:=fun h=>Uni.none fun Γ2 hA ρ K=>by
  simp only[aop,ho,hd,hA.opd hi];split;rename_i k y e;exact absurd e (h k y);rfl
 cases ha:Γ.opd i with
 |val t' y=>
  cases t' with
  |int k=>
   refine Uni.of (Γ.addrK (cx.T t) (cx.glob (Γ.opd x)) (show Int from y) some) fun Γ2 hA ρ K=>?_
   simp only[aop,ho,hd,hA.opd hi,hA.opd hx,ha];have hgr:∀n∈(cx.glob (Γ.opd x)).refs,n∈(Γ.opd x).refs:=fun n hn=>by
    revert hn
    cases Γ.opd x with
    |glob g=>
     simp only[Cx.glob]
     split<;>exact fun h=>h
    |_=>exact id
   exact(c8X (fun n hn=>hA.look hx (hgr n hn)) (fun n hn=>hA.rt hx (hgr n hn)) (cx.T t) (show Int from y) _).trans (d4F _ _ _ _ _)
  |_=>exact no (by rw[ha];intro k y h;cases h)
 |_=>exact no (by rw[ha];intro k y h;cases h)
def b8x{ρ:Type}(ty:Option Ty)(x i:AV)(K:AV→Rs ρ):Rs ρ:=match x,i with
 |.val (.arr n t) l,.val (.int _) (i:Int)=>if ty=some (.arr n t)then(a0m l i).bind fun y=>K (.val t y)else none
 |.val .str (l:List Int),.val (.int _) (i:Int)=>if ty=some .str then(a0m l i).bind fun y=>K (.val (.int .u8) y)else none
 |_,_=>none
theorem d2a{ρ:Type}(ty:Option Ty)(x i:AV)(K:AV→Rs ρ):b8x ty x i K=(b8x ty x i some).elim none K:=by
 unfold b8x;split;split;exact b9C;rfl;split;exact b9C;rfl;rfl
theorem d0Z{s:TypeId}{x i:Operand}(ho:o.op=.index s x i)(hd:o.dst=some d):Uni cx o d Γ:=by
 have hx:x∈o.op.operands.toList:=by simp[ho,Op.operands]
 have hi:i∈o.op.operands.toList:=by simp[ho,Op.operands]
 refine Uni.of (b8x (cx.T s) (Γ.opd x) (Γ.opd i) some) fun Γ2 hA ρ K=>?_
 have:aop cx true o Γ2 K=b8x (cx.T s) (Γ.opd x) (Γ.opd i) fun v=>K (Γ2.set d v):=by
  simp only[aop,ho,hd,hA.opd hx,hA.opd hi];rfl
 rw[this];exact d2a _ _ _ _
theorem c7v{x:Operand}{i:Nat}(ho:o.op=.extract x i)(hd:o.dst=some d):Uni cx o d Γ:=by
 have hx:x∈o.op.operands.toList:=by simp[ho,Op.operands]
 cases x with
 |tmp t=>
  have hs:∀Γ2,a1N (a0r o) Γ Γ2→Γ2.sl t=Γ.sl t:=fun Γ2 hA=>(hA.2 t (a2J hx)).1;cases hv:Γ.sl t with
  |one v=>exact Uni.none fun Γ2 hA ρ K=>by simp only[aop,ho,hd,hs Γ2 hA,hv]
  |cmp c vs=>
   cases c with
   |agg=>exact Uni.none fun Γ2 hA ρ K=>by simp only[aop,ho,hd,hs Γ2 hA,hv]
   |clo f=>exact Uni.none fun Γ2 hA ρ K=>by simp only[aop,ho,hd,hs Γ2 hA,hv]
   |tup=>
   cases hi:vs[i]? with
   |none=>exact Uni.none fun Γ2 hA ρ K=>by simp only[aop,ho,hd,hs Γ2 hA,hv,hi]
   |some v=>exact Uni.put (.one v) fun Γ2 hA ρ K=>by simp only[aop,ho,hd,hs Γ2 hA,hv,hi];rfl
 |_=>exact Uni.none fun Γ2 hA ρ K=>by simp only[aop,ho,hd]
end
end Go.Ab
namespace Go.Ab
section
variable {cx:Cx} {o:Oper} {d:Nat} {Γ:AE}
theorem d5s{ρ:Type}(Γ:AE)(ty:Option Ty)(a:AV)(K:Nat→Rs ρ):Γ.lenK ty a K=(Γ.lenK ty a some).elim none K:=by
 unfold AE.lenK;split;rfl;rfl;rfl;rfl;rfl;split
 split<;>rfl
 rfl;rfl;rfl
theorem d1a{ρ:Type}{Γ Γ2:AE}{a:AV}(h:∀n∈a.refs,Γ2.look n=Γ.look n)(ty:Option Ty)(K:Nat→Rs ρ):Γ2.lenK ty a K=Γ.lenK ty a K:=by
 unfold AE.lenK
 split<;>first|rfl|(rename_i n p;rw[h n (by simp[AV.refs])])
theorem c5R{ρ:Type}(f:Int→Int→Int)(k:IntKind):∀(l:List AV)(x:Int)(K:AV→Rs ρ),AE.mins f k l x K=(AE.mins f k l x some).elim none K
 | [],x,K=>rfl
 |a::r,x,K=>by
  cases a with
  |val t y=>
   cases t with
   |int k'=>
    simp only[AE.mins];split;exact c5R f k r _ K;rfl
   |_=>rfl
  |_=>rfl
theorem c1O{ρ:Type}(Γ:AE)(e:Ty)(x:AV)(ys:List e.den)(K:AE→Rs ρ):Γ.apnd true d e x ys K=(match x with
  |.nils|.empt=>bif lim ys.length then Γ.fresh true d ⟨false,.list true e,ys⟩ fun Γ=>K (Γ.set d (.sref d []))else none
  |_=>none):=by
 cases x<;>rfl
theorem c5S{e:Ty}{x:AV}{ys:Option (List e.den)}(h:∀Γ2,a1N (a0r o) Γ Γ2→∀{ρ:Type}(K:AE→Rs ρ),aop cx true o Γ2 K=ys.elim none fun ys=>Γ2.apnd true d e x ys K):Uni cx o d Γ:=by
 cases ys with
 |none=>exact Uni.none h
 |some ys=>
  have h:∀Γ2,a1N (a0r o) Γ Γ2→∀{ρ:Type}(K:AE→Rs ρ),aop cx true o Γ2 K=Γ2.apnd true d e x ys K:=h;cases hl:lim ys.length with
  |false=>exact Uni.none fun Γ2 hA ρ K=>by rw[h Γ2 hA,c1O,hl];cases x<;>rfl
  |true=>
   cases x with
   |nils=>exact Uni.ofFresh ⟨false,.list true e,ys⟩ (.sref d []) rfl fun Γ2 hA ρ K=>by rw[h Γ2 hA,c1O,hl];rfl
   |empt=>exact Uni.ofFresh ⟨false,.list true e,ys⟩ (.sref d []) rfl fun Γ2 hA ρ K=>by rw[h Γ2 hA,c1O,hl];rfl
   |_=>exact Uni.none fun Γ2 hA ρ K=>by rw[h Γ2 hA,c1O]
theorem c8j{Γ2:AE}(hA:a1N (a0r o) Γ Γ2){c:Call}(ho:o.op=.call c):c.args.toList.map Γ2.opd=c.args.toList.map Γ.opd:=
 a18 fun x hx=>hA.opd (by simp only[ho,Op.operands,Call.operands,a74,mA];exact .inr hx)
theorem a9G{c:Call}(ho:o.op=.call c):∀x∈c.args.toList,x∈o.op.operands.toList:=fun x hx=>by
 simp only[ho,Op.operands,Call.operands,a74,mA];exact .inr hx
theorem c7w{c:Call}{b:Builtin}(ho:o.op=.call c)(hb:c.callee=.builtin b)(hd:o.dst=some d):Uni cx o d Γ:=by
 have run:∀Γ2,a1N (a0r o) Γ Γ2→∀{ρ:Type}(K:AE→Rs ρ),aop cx true o Γ2 K=Γ2.blt true cx d b c.argTypes.toList (c.args.toList.map Γ.opd) K:=fun Γ2 hA ρ K=>by
  simp only[aop,ho,hd,hb,c8j hA ho]
 have hl:∀a∈c.args.toList.map Γ.opd,∀n∈a.refs,∀Γ2,a1N (a0r o) Γ Γ2→Γ2.look n=Γ.look n:=fun a ha n hn Γ2 hA=>by
  obtain⟨x,hx,rfl⟩:=a19.1 ha;exact hA.look (a9G ho x hx) hn
 revert run hl
 generalize c.args.toList.map Γ.opd=as;generalize c.argTypes.toList=ts;intro run hl;have no:(∀(Γ2:AE){ρ:Type}(K:AE→Rs ρ),Γ2.blt true cx d b ts as K=none)→Uni cx o d Γ:=fun h=>Uni.none fun Γ2 hA ρ K=>by rw[run Γ2 hA];exact h Γ2 K
 cases b with
 |len=>
  match as with
  | [a]=>
   refine Uni.of ((Γ.lenK (ts.head?.bind cx.T) a some).map fun n=>.val (.int .i64) (n:Int)) fun Γ2 hA ρ K=>?_
   rw[run Γ2 hA];simp only[AE.blt];rw[d5s,d1a fun n hn=>hl a (by simp) n hn Γ2 hA];cases Γ.lenK (ts.head?.bind cx.T) a some<;>rfl
  | []=>exact no fun Γ2 ρ K=>rfl
  |_::_::_=>exact no fun Γ2 ρ K=>rfl
 |max=>
  match as with
  | []=>exact no fun Γ2 ρ K=>rfl
  |a::r=>
   cases a with
   |val t x=>
    cases t with
    |int k=>exact Uni.of (AE.mins a2m k r x some) fun Γ2 hA ρ K=>by rw[run Γ2 hA];exact c5R _ _ _ _ _
    |_=>exact no fun Γ2 ρ K=>rfl
   |_=>exact no fun Γ2 ρ K=>rfl
 |min=>
  match as with
  | []=>exact no fun Γ2 ρ K=>rfl
  |a::r=>
   cases a with
   |val t x=>
    cases t with
    |int k=>exact Uni.of (AE.mins a3u k r x some) fun Γ2 hA ρ K=>by rw[run Γ2 hA];exact c5R _ _ _ _ _
    |_=>exact no fun Γ2 ρ K=>rfl
   |_=>exact no fun Γ2 ρ K=>rfl
 |append=>
  match as with
  | []=>exact no fun Γ2 ρ K=>rfl
  | [_]=>exact no fun Γ2 ρ K=>rfl
  |_::_::_::_=>exact no fun Γ2 ρ K=>rfl
  | [a,b]=>
   cases hni:b8b cx ts with
   |false=>exact no fun Γ2 ρ K=>by simp only[AE.blt,hni,cF]
   |true=>
    cases ht:ts.head?.bind cx.T with
    |none=>exact no fun Γ2 ρ K=>by simp only[AE.blt,hni,ht,cT]
    |some τ=>
     cases τ with
     |list o' e=>
      have els:(∀(Γ2:AE){ρ:Type}(K:AE→Rs ρ),Γ2.blt true cx d .append ts [a,b] K=Γ2.elems e b fun ys=>Γ2.apnd true d e a ys K)→Uni cx o d Γ:=fun h=>
       c5S (e:=e) (x:=a) (ys:=a7X Γ.look e b) fun Γ2 hA ρ K=>by
        rw[run Γ2 hA,h,b3v,b3K fun n hn=>hl b (by simp) n hn Γ2 hA]
      cases b with
      |val t y=>
       cases t with
       |str=>
        by_cases he:e=.int .u8
        subst he;exact c5S (e:=.int .u8) (x:=a) (ys:=some y) fun Γ2 hA ρ K=>by
         rw[run Γ2 hA];simp only[AE.blt,hni,ht,cT];rfl
        exact no fun Γ2 ρ K=>by
         simp only[AE.blt,hni,ht,cT];rw[dif_neg he]
       |_=>exact els fun Γ2 ρ K=>by simp only[AE.blt,hni,ht,cT,a53]
      |_=>exact els fun Γ2 ρ K=>by simp only[AE.blt,hni,ht,cT,a53]
     |_=>exact no fun Γ2 ρ K=>by simp only[AE.blt,hni,ht,cT]
 |_=>exact no fun Γ2 ρ K=>by unfold AE.blt;split<;>first|rfl|(rename_i h;cases h)|(rename_i h _;cases h)
def b2E(fz:Bool)(lk:Nat→Option Root):(p:PA)→AV→Option p.ty.den
 |.v t,a=>bif fz then a5M t a else a9l lk t a
 |.r _ _,_=>none
theorem b1D{ρ:Type}(Γ:AE)(fz:Bool)(seen:List Nat)(p:PA)(a:AV)(K:p.ty.den→AE→List Nat→List Nat→Rs ρ):
  Γ.arg fz true [] seen p a K=(b2E fz Γ.look p a).elim none fun x=>K x Γ [] (bif fz then seen else a.viewed++seen):=by
 cases p with
 |v t=>
  simp only[AE.arg];rw[show(a.viewed.any fun n=>([]:List Nat).contains n)=false from by simp];simp only[cF];cases fz with
  |true=>simp only[b2E,if_true,cT];rw[b9B];rfl
  |false=>
   simp only[b2E,a04,if_false,cF];rw[d0T];rfl
 |r c b=>
  cases b with
  |v t=>cases a<;>rfl
  |b t=>
   cases a with
   |ptr n p=>cases p<;>simp[AE.arg,b2E]
   |_=>rfl
  |o e=>
   cases a with
   |sref n p=>cases p<;>simp[AE.arg,b2E]
   |_=>rfl
def AE.argso(Γ:AE)(fz:Bool)(seen:List Nat)(ps:List PA)(as:List AV):Option (a1I (ps.map PA.ty)).den:=Γ.args fz true [] seen ps as fun x _ _=>some x
theorem c1P(Γ:AE)(fz:Bool)(ps:List PA):∀{ρ:Type}(as:List AV)(seen:List Nat)(K:(a1I (ps.map PA.ty)).den→AE→List Nat→Rs ρ),Γ.args fz true [] seen ps as K=(Γ.argso fz seen ps as).elim none fun x=>K x Γ []:=by
 induction ps with
 |nil=>
  intro ρ as seen K;cases as<;>rfl
 |cons p ps ih=>
  intro ρ as seen K;cases as with
  |nil=>cases ps<;>rfl
  |cons a as=>
   cases ps with
   |nil=>
    cases as with
    |nil=>
     simp only[AE.argso,AE.args];rw[b1D,b1D];cases b2E fz Γ.look p a<;>rfl
    |cons=>rfl
   |cons p' ps=>
    simp only[AE.argso,AE.args];rw[b1D,b1D];cases b2E fz Γ.look p a with
    |none=>rfl
    |some x=>
     simp only[a05];rw[ih,ih];cases Γ.argso fz (bif fz then seen else a.viewed++seen) (p'::ps) as<;>rfl
theorem c8Y{Γ:AE}(fz:Bool)(ps:List PA):∀(as:List AV)(seen:List Nat)(x:(a1I (ps.map PA.ty)).den),Γ.argso fz seen ps as=some x→a4i ps=[]:=by
 induction ps with
 |nil=>intro as seen x h;rfl
 |cons p ps ih=>
  intro as seen x h;cases as with
  |nil=>cases ps<;>cases h
  |cons a as=>
   cases ps with
   |nil=>
    cases as with
    |nil=>
     simp only[AE.argso,AE.args]at h;rw[b1D]at h;cases p with
     |v t=>rfl
     |r c t=>cases h
    |cons=>cases h
   |cons p' ps=>
    simp only[AE.argso,AE.args]at h;rw[b1D]at h;cases p with
    |r c t=>cases h
    |v t=>
     cases h1:b2E fz Γ.look (.v t) a with
     |none=>rw[h1]at h;cases h
     |some y=>
      rw[h1]at h;simp only[a05]at h;rw[c1P]at h;cases h2:Γ.argso fz (bif fz then seen else a.viewed++seen) (p'::ps) as with
      |none=>rw[h2]at h;cases h
      |some z=>exact ih as _ z h2
theorem c7x{Γ Γ2:AE}(fz:Bool)(ps:List PA):∀(as:List AV)(seen:List Nat),(∀a∈as,∀n∈a.refs,Γ2.look n=Γ.look n)→Γ2.argso fz seen ps as=Γ.argso fz seen ps as:=by
 have one:∀(p:PA)(a:AV),(∀n∈a.refs,Γ2.look n=Γ.look n)→b2E fz Γ2.look p a=b2E fz Γ.look p a:=fun p a h=>by
  cases p with
  |v t=>simp only[b2E];rw[b9R h]
  |r c t=>rfl
 induction ps with
 |nil=>intro as seen h;cases as<;>rfl
 |cons p ps ih=>
  intro as seen h;cases as with
  |nil=>cases ps<;>rfl
  |cons a as=>
   cases ps with
   |nil=>
    cases as with
    |nil=>
     simp only[AE.argso,AE.args];rw[b1D,b1D,one p a (h a (by simp))]
    |cons=>rfl
   |cons p' ps=>
    simp only[AE.argso,AE.args];rw[b1D,b1D,one p a (h a (by simp))];cases b2E fz Γ.look p a with
    |none=>rfl
    |some x=>
     simp only[a05];rw[c1P,c1P,ih as _ fun a' ha=>h a' (by simp[ha])]
theorem c4d{ρ:Type}(Γ:AE):∀(ns:List Nat)(K:AE→Rs ρ),Γ.dropAll true [] ns K=bif ns.all fun n=>decide (n<pinned)&&(Γ.rt n).isNone then K Γ else none
 | [],K=>rfl
 |n::r,K=>by
  simp only[AE.dropAll,a22];rw[show(!([]:List Nat).contains n)=true from by simp,a73];cases decide (n<pinned);rfl
  ·simp only[cT,a48];cases Γ.rt n with
   |none=>simp only[a77,a48];exact c4d Γ r K
   |some x=>simp
def a2N:List Nat→List ((r:RA)×r.ty.den)→List (Nat×Root)
 |k::ns,it::its=>match a0I it with
  |some r=>(k,r)::a2N ns its
  |none=>a2N ns its
 |_,_=>[]
theorem b2F:∀(ns:List Nat)(its:List ((r:RA)×r.ty.den)) (n:Nat),find (a2N ns its) n=a1o ns its n
 | [],its,n=>by cases its<;>rfl
 |k::ns,[],n=>rfl
 |k::ns,it::its,n=>by
  simp only[a2N,a1o];cases a0I it with
  |none=>exact b2F ns its n
  |some r=>
   simp only[find];rw[b2F ns its n]
   by_cases e:n=k
   subst e;simp;have e1:(n==k)=false:=by simpa using e
   have e2:(k==n)=false:=by simpa using(Ne.symm e)
   simp[e1,e2]
theorem b6a:∀(rs:List RA)(n:Nat)(its:List ((r:RA)×r.ty.den)),(∀(k:Nat) it,its[k]?=some it→k<rs.length→rs[k]?=some it.1)→rs.length≤its.length→
  (a2N (a0X rs n++[]) its).map (·.1)=a2h rs n
 | [],n,its,h,hl=>by cases its<;>rfl
 |r::rs,n,[],h,hl=>by simp at hl
 |r::rs,n,it::its,h,hl=>by
  have h0:=h 0 it rfl (by simp);simp only[a00,sj]at h0;have ih:=b6a rs (n+1000) its (fun k it' hk hlt=>by simpa using h (k+1) it' (by simpa using hk) (by simpa using hlt)) (by simpa using hl);obtain⟨r',x⟩:=it;obtain rfl:r=r':=h0;simp only[a0X,a83,a2N];cases r with
  |v t=>simp only[a0I,a2h];exact ih
  |o e=>simp only[a0I,a2h,a28];rw[ih]
  |b t=>simp only[a0I,a2h,a28];rw[ih]
theorem d1b{ks:List Nat}:AV.deeps [] ks=id:=by
 funext a;cases a<;>simp[AV.deeps]
theorem d1c{n:Nat}:∀{it:(r:RA)×r.ty.den},(c2Y n it).firm=true→a0I it=none
 |⟨.v t,x⟩,_=>rfl
 |⟨.o e,x⟩,h=>by cases h
 |⟨.b t,x⟩,h=>by cases h
theorem c1Q:∀(ns:List Nat)(its:List ((r:RA)×r.ty.den)),(a2w ns its).all AV.firm=true→ns.length=its.length→a2N ns its=[]
 | [],its,_,_=>by cases its<;>rfl
 |k::ns,[],_,h=>by simp at h
 |k::ns,it::its,h,hl=>by
  simp only[a2w,a22,bA]at h;simp only[a2N];rw[d1c h.1];exact c1Q ns its h.2 (by simpa using hl)
theorem b0g:∀(ns:List Nat)(its:List ((r:RA)×r.ty.den)) (n:Nat),a1o ns its n≠none→n∈ns
 | [],_,n,h=>absurd rfl h
 |_::_,[],n,h=>absurd rfl h
 |k::ns,it::its,n,h=>by
  simp only[a1o]at h;cases hr:a0I it with
  |none=>rw[hr]at h;exact a01 _ (b0g ns its n h)
  |some r=>
   rw[hr]at h;simp only[]at h
   by_cases e:n=k
   subst e;exact a23
   have:(n==k)=false:=by simpa using e
   rw[this]at h;exact a01 _ (b0g ns its n h)
theorem d2b{c:Call}{f:FuncId}(ho:o.op=.call c)(hb:c.callee=.value (.func f))(hd:o.dst=some d):Uni cx o d Γ:=by
  cases hs:cx.C f with
  |none=>exact Uni.none fun Γ2 hA ρ K=>by simp only[aop,ho,hd,hb,hs]
  |some s=>
    let fz:=s.rs.any RA.hasList || (a4i s.ps).any RA.hasList
    let nm:=a2h s.rs (d+1000)
    have hl:∀a∈c.args.toList.map Γ.opd,∀n∈a.refs,∀Γ2,a1N (a0r o) Γ Γ2→Γ2.look n=Γ.look n:=fun a ha n hn Γ2 hA=>by
      obtain⟨x,hx,rfl⟩:=a19.1 ha;exact hA.look (a9G ho x hx) hn
    have run:∀Γ2,a1N (a0r o) Γ Γ2→∀{ρ:Type}(K:AE→Rs ρ),aop cx true o Γ2 K=(match Γ.pd with
        |some _=>none
        |none=>(Γ.argso fz [] s.ps (c.args.toList.map Γ.opd)).elim none fun x=>bif nm.all (fun n=>decide (n<pinned)&&(Γ2.rt n).isNone)then(s.F x).bind fun y=>
            (let Γ3:AE:=⟨fun i=>(Γ2.sl i).mapv (AV.deeps [] (Γ2.unbx (brw s.ps []))),fun n=>match a1o (a0X s.rs (d+1000)++[]) (a1F (RA.all s.ps s.rs) y) n with
              |some r=>some r
              |none=>Γ2.rt n,none⟩
             match a2w (a0X s.rs (d+1000)) (a1F (RA.all s.ps s.rs) y)with
              | [v]=>K (Γ3.set d v)
              |vs=>K (Γ3.put d (.cmp .tup vs)))else none):=fun Γ2 hA ρ K=>by
      simp only[aop,ho,hd,hb,hs,c8j hA ho];unfold AE.call;rw[hA.1];cases Γ.pd with
      |some p=>rfl
      |none=>
        simp only[];rw[c1P,c7x _ _ _ _ fun a ha n hn=>hl a ha n hn Γ2 hA];cases Γ.argso (s.rs.any RA.hasList || (a4i s.ps).any RA.hasList) [] s.ps (c.args.toList.map Γ.opd)with
        |none=>rfl
        |some x=>
          simp only[a05];rw[c4d];rfl
    cases hpd:Γ.pd with
    |some p=>exact Uni.none fun Γ2 hA ρ K=>by rw[run Γ2 hA,hpd]
    |none=>
      rw[hpd]at run;cases hx:Γ.argso fz [] s.ps (c.args.toList.map Γ.opd)with
      |none=>exact Uni.none fun Γ2 hA ρ K=>by rw[run Γ2 hA,hx];rfl
      |some x=>
        cases hy:s.F x with
        |none=>
          exact Uni.none fun Γ2 hA ρ K=>by
            rw[run Γ2 hA,hx];simp only[a05,hy,a84];cases (nm.all fun n=>decide (n<pinned)&&(Γ2.rt n).isNone)<;>rfl
        |some y=>
          let its:=a1F (RA.all s.ps s.rs) y
          let ns:=a0X s.rs (d+1000)
          let sv:SV:=match a2w ns its with
            | [v]=>.one v
            |vs=>.cmp .tup vs

          have hps:=c8Y fz s.ps _ _ x hx;have hall:RA.all s.ps s.rs=s.rs:=by rw[RA.all,hps];simp
          have hlen:its.length=s.rs.length:=by rw[show its=a1F (RA.all s.ps s.rs) y from rfl,a7T,hall]
          have hnm:(a2N (ns++[]) its).map (·.1)=nm:=b6a s.rs (d+1000) its (fun k it hk _=>by
            have:=b2l (RA.all s.ps s.rs) y k it hk
            rwa [hall]at this) (by omega)
          have hfind:∀n,find (a2N (ns++[]) its) n=a1o (ns++[]) its n:=b2F _ _;refine⟨some ⟨a2N (ns++[]) its,sv⟩,fun δ e=>?_,fun Γ2 hA ρ K=>?_⟩
          · cases e
            refine⟨fun hf=>?_,fun n hn=>?_⟩;rotate_left;rw[hfind n]at hn
            have:=b0g _ _ _ hn
            rw[a27]at this;simp only[a7p,ho,hb,hs];exact a01 _ this;have hall':(a2w ns its).all AV.firm=true:=by
              simp only[sv]at hf
              revert hf
              generalize a2w ns its=vs;intro hf
              split at hf
              simpa[SV.firm]using hf;exact hf
            have:=c1Q ns its hall' (by rw[hlen];exact b0e _ _)
            simp only[a27];exact this
          · rw[run Γ2 hA,hx]
            simp only[a05,hy,oB,b8v];rw[show((a2N (ns++[]) its).all fun p=>decide (p.1<pinned)&&(Γ2.rt p.1).isNone)=nm.all fun n=>decide (n<pinned)&&(Γ2.rt n).isNone from by rw[←hnm,List.all_map];rfl];cases (nm.all fun n=>decide (n<pinned)&&(Γ2.rt n).isNone)with
            |false=>rfl
            |true=>
              simp only[cT];have hΓ:∀sv':SV,(⟨fun i=>(Γ2.sl i).mapv (AV.deeps [] (Γ2.unbx (brw s.ps []))),fun n=>match a1o (a0X s.rs (d+1000)++[]) (a1F (RA.all s.ps s.rs) y) n with
                  |some r=>some r
                  |none=>Γ2.rt n,none⟩:AE).put d sv'=(Dl.mk (a2N (ns++[]) its) sv').app d Γ2:=fun sv'=>by
                simp only[AE.put,Dl.app];congr 1;funext i;rw[d1b]
                have:(Γ2.sl i).mapv id=Γ2.sl i:=by cases Γ2.sl i<;>simp[SV.mapv]
                rw[this]
                · funext n
                  rw[hfind n]
                  all_goals rfl
                all_goals exact(hA.1.trans hpd).symm
              simp only[AE.set,hΓ];simp only[sv];show(match a2w ns its with
                | [v]=>K ((Dl.mk (a2N (ns++[]) its) (.one v)).app d Γ2)
                |vs=>K ((Dl.mk (a2N (ns++[]) its) (.cmp .tup vs)).app d Γ2))=_
              generalize a2w ns its=vs
              split<;>rfl
end
end Go.Ab
namespace Go.Ab
section
variable {cx:Cx} {o:Oper} {d:Nat} {Γ:AE}
theorem c3j(hd:o.dst=some d):Uni cx o d Γ:=by
 cases ho:o.op
 case move x=>exact d1U ho hd
 case assign x=>exact c8T ho hd
 case pick x y u=>exact d1V ho hd
 case alloc t=>exact d0U ho hd
 case box t x=>exact d3M ho hd
 case build t x=>exact d0V ho hd
 case buildSlice t n x=>exact c3i ho hd
 case load t x=>exact d1W ho hd
 case nilCheck x=>exact c5Q ho hd
 case binOp op t x y s=>exact d0W ho hd
 case unOp op t x=>exact d1Z ho hd
 case convert s t x=>exact c7u ho hd
 case makeSlice t x y=>exact c4R ho hd
 case slice t x u v m=>exact d0X ho hd
 case fieldAddr s x f=>exact c4S ho hd
 case field s x f=>exact d0Y ho hd
 case indexAddr t x i=>exact c4T ho hd
 case index t x i=>exact d0Z ho hd
 case extract x i=>exact c7v ho hd
 case makeFunc fn first caps=>exact c5P ho hd
 case store t x y=>exact Uni.none fun Γ2 hA ρ K=>by simp only[aop,ho,hd,if_true]
 case call c=>
  cases hc:c.callee with
  |builtin b=>exact c7w ho hc hd
  |invoke r n=>exact Uni.none fun Γ2 hA ρ K=>by simp only[aop,ho,hd,hc]
  |value v=>
   cases v with
   |func f=>exact d2b ho hc hd
   |tmp t=>exact Uni.none fun Γ2 hA ρ K=>by simp only[aop,ho,hd,hc,if_true]
   |_=>exact Uni.none fun Γ2 hA ρ K=>by simp only[aop,ho,hd,hc]
 all_goals exact Uni.none fun Γ2 hA ρ K=>by simp only[aop,ho,hd]
theorem d2c(Γ:AE){g:Nat}{sv:SV}(h:Γ.sl g=sv):Γ.put g sv=Γ:=by
 obtain⟨sl,rt,pd⟩:=Γ;simp only[AE.put];congr 1;funext i
 by_cases e:i=g
 subst e;simp only[beq_self_eq_true,cT];exact h.symm
 have:(i==g)=false:=by simpa using e
 simp[this]
theorem a5s{ops:Array Oper}{t:Nat}(h:t∈a0r o):t∈o.looksAt ops:=by
 simp only[Oper.looksAt,mA];exact .inl h
theorem b9S{ops:Array Oper}{j g:Nat}{want:Bool}(hg:o.guard=some (j,want))(hj:a7H ops.toList j=some g):g∈o.looksAt ops:=by
 simp only[Oper.looksAt,mA,hg];refine .inr ?_
 have:(ops[j]?).bind (·.dst)=some g:=by simpa[a7H]using hj
 rw[this];simp
def a2B(ops:Array Oper)(o:Oper)(Γ:AE):Option Bool:=match o.guard with
 |none=>some true
 |some (j,want)=>match a7H ops.toList j with
  |none=>none
  |some g=>match Γ.get g with
   |.val .bool (b:Bool)=>some (b==want)
   |.skp=>some false
   |_=>none
theorem a9H{ρ:Type}{ops:Array Oper}{md:Md}(Γ:AE)(K:AE→Rs ρ):a0O cx md ops.toList o Γ K=(match a2B ops o Γ with
  |some true=>a4c cx md o Γ K
  |some false=>K (Γ.setD o.dst .skp)
  |none=>none):=by
 unfold a0O a2B;cases hg:o.guard with
 |none=>rfl
 |some p=>
  obtain⟨j,want⟩:=p;simp only[];cases hj:a7H ops.toList j with
  |none=>rfl
  |some g=>
   simp only[];have hsame:∀(v:AV),v≠.dead→Γ.get g=v→Γ.set g v=Γ:=fun v hv h=>d2c Γ (by
    simp only[AE.get]at h;cases hs:Γ.sl g with
    |one u=>rw[hs]at h;simp only[]at h;rw[h]
    |cmp c0 us=>rw[hs]at h;exact absurd h.symm hv)
   cases hv:Γ.get g with
   |val t b=>
    cases t with
    |bool=>
     have e:Γ.set g (.val .bool b)=Γ:=hsame _ (by simp) hv;cases b<;>cases want<;>simp[e]
    |_=>rfl
   |skp=>simp
   |_=>rfl
theorem a4z{ρ:Type}{ops:Array Oper}{md:Md}(hd:o.dst=some d)(Γ:AE)(K:AE→Rs ρ):a0O cx md ops.toList o Γ K=(match a2B ops o Γ with
  |some true=>a4c cx md o Γ K
  |some false=>K (Γ.put d (.one .skp))
  |none=>none):=by
 rw[a9H,hd];rfl
theorem a9m{ops:Array Oper}{Γ Γ2:AE}(h:∀t∈o.looksAt ops,Γ2.sl t=Γ.sl t):a2B ops o Γ2=a2B ops o Γ:=by
 unfold a2B;cases hg:o.guard with
 |none=>rfl
 |some p=>
  obtain⟨j,want⟩:=p;simp only[];cases hj:a7H ops.toList j with
  |none=>rfl
  |some g=>
   simp only[AE.get];rw[h g (b9S hg hj)]
theorem c5T{ops:Array Oper}{j g:Nat}{want:Bool}(hg:o.guard=some (j,want))(hj:a7H ops.toList j=some g)(h:a2B ops o Γ≠none):(Γ.sl g).firm=true:=by
 unfold a2B at h;rw[hg]at h;simp only[hj,AE.get]at h;cases hs:Γ.sl g with
 |cmp c0 vs=>rw[hs]at h;exact absurd rfl h
 |one v=>
  rw[hs]at h;cases v<;>first|rfl|exact absurd rfl h
def b6b(T:List Nat)(Γ Γ2:AE):Prop:=Γ2.pd=Γ.pd∧∀t∈T,Γ2.sl t=Γ.sl t∧∀n∈(Γ.sl t).refs,Γ2.rt n=Γ.rt n
theorem b6b.sub{ops:Array Oper}{Γ Γ2:AE}(h:b6b (o.looksAt ops) Γ Γ2):a1N (a0r o) Γ Γ2:=⟨h.1,fun t ht=>h.2 t (a5s ht)⟩
theorem c4e{α:Type}{l:List (Nat×α)}{n:Nat}:find l n=none↔∀p∈l,p.1≠n:=by
 induction l with
 |nil=>simp[find]
 |cons p l ih=>
  obtain⟨k,x⟩:=p;simp only[find,mC,forall_eq_or_imp]
  by_cases e:k=n
  subst e;simp
  have:(k==n)=false:=by simpa using e
  simp only[this,cF,ih,ne_eq,e,not_false_eq_true,true_and]
theorem b8y{ρ:Type}{r:Option Dl}{Γ2:AE}{K:AE→Rs ρ}{z:ρ}(h:b8v r d Γ2 K=some z):∃δ,r=some δ∧(∀n,find δ.rs n≠none→Γ2.rt n=none)∧K (δ.app d Γ2)=some z∧(δ.rs.all fun p=>decide (p.1<pinned))=true:=by
 cases r with
 |none=>cases h
 |some δ=>
  simp only[b8v]at h;obtain⟨hc,h⟩:=(a0g h).elim id fun h=>by cases h.2
  refine⟨δ,rfl,fun n hn=>?_,h,?_⟩
  by_cases e:∃p∈δ.rs,p.1=n
  obtain⟨p,hp,rfl⟩:=e
  have:=lA.1 hc p hp
  simp only[bA,Option.isNone_iff_eq_none]at this;exact this.2;exact absurd (c4e.2 fun p hp e'=>e ⟨p,hp,e'⟩) hn;refine lA.2 fun p hp=>?_
  have:=lA.1 hc p hp
  simp only[bA]at this;exact this.1
theorem c3k{ρ:Type}{δ:Dl}{Γ2:AE}{K:AE→Rs ρ}(h1:(δ.rs.all fun p=>decide (p.1<pinned))=true)(h2:∀n,find δ.rs n≠none→Γ2.rt n=none):b8v (some δ) d Γ2 K=K (δ.app d Γ2):=by
 simp only[b8v];rw[show(δ.rs.all fun p=>decide (p.1<pinned)&&(Γ2.rt p.1).isNone)=true from lA.2 fun p hp=>by
  have a:=lA.1 h1 p hp;have b:=h2 p.1 fun e=>c4e.1 e p hp rfl;simp[b]at a⊢;exact a]
 rfl
theorem c4f{v:AV}(h:v.firm=true):v.refs=[]:=by cases v<;>first|rfl|cases h
theorem b5t{sv:SV}(h:sv.firm=true):sv.refs=[]:=by
 cases sv with
 |one v=>exact c4f h
 |cmp c0 vs=>
  simp only[SV.refs,List.flatMap_eq_nil_iff];exact fun v hv=>c4f (lA.1 h v hv)
theorem c8Z{sv:SV}(h:sv.firm=true):sv.alive=true:=by
 have one:∀v:AV,v.firm=true→v.alive=true:=fun v h=>by cases v<;>first|rfl|cases h
 cases sv with
 |one v=>exact one v h
 |cmp c0 vs=>exact lA.2 fun v hv=>one v (lA.1 h v hv)
def a1O(ops:Array Oper)(o:Oper):List Nat:=match o.guard with
 |none=>[]
 |some (j,_)=>(a7H ops.toList j).toList
theorem a3e{ops:Array Oper}{t:Nat}(h:t∈a1O ops o):t∈o.looksAt ops:=by
 unfold a1O at h;cases hg:o.guard with
 |none=>rw[hg]at h;cases h
 |some p=>
  obtain⟨j,want⟩:=p;rw[hg]at h;exact b9S hg (by simpa using h)
theorem a2k{ops:Array Oper}{Γ Γ2:AE}(h:∀t∈a1O ops o,Γ2.sl t=Γ.sl t):a2B ops o Γ2=a2B ops o Γ:=by
 unfold a2B;unfold a1O at h;cases hg:o.guard with
 |none=>rfl
 |some p=>
  obtain⟨j,want⟩:=p;rw[hg]at h;simp only[]at h⊢;cases hj:a7H ops.toList j with
  |none=>rfl
  |some g=>
   rw[hj]at h;simp only[AE.get];rw[h g (by simp)]
theorem a8v{ops:Array Oper}(h:a2B ops o Γ≠none):∀t∈a1O ops o,(Γ.sl t).firm=true:=by
 intro t ht;unfold a1O at ht;cases hg:o.guard with
 |none=>rw[hg]at ht;cases ht
 |some p=>
  obtain⟨j,want⟩:=p;rw[hg]at ht;exact c5T hg (by simpa using ht) h
theorem d5t{ρ:Type}{ops:Array Oper}(hd:o.dst=some d){K:AE→Rs ρ}{z:ρ}(hz:a0O cx .q ops.toList o Γ K=some z):
  ∃(δ:Dl)(L:List Nat),(∀t∈L,t∈o.looksAt ops∧∀n∈(Γ.sl t).refs,Γ.rt n≠none)∧K (δ.app d Γ)=some z∧(∀n,find δ.rs n≠none→Γ.rt n=none)∧
   ∀Γ2,b6b L Γ Γ2→(∀n,find δ.rs n≠none→Γ2.rt n=none)→∀{ρ2:Type}(K2:AE→Rs ρ2),a0O cx .q ops.toList o Γ2 K2=K2 (δ.app d Γ2):=by
 rw[a4z hd]at hz;cases hl:a2B ops o Γ with
 |none=>rw[hl]at hz;cases hz
 |some b=>
  have hgf:=a8v (ops:=ops) (Γ:=Γ) (o:=o) (by rw[hl];simp);have hgr:∀t∈a1O ops o,t∈o.looksAt ops∧∀n∈(Γ.sl t).refs,Γ.rt n≠none:=fun t ht=>⟨a3e ht,fun n hn=>by rw[b5t (hgf t ht)]at hn;cases hn⟩;rw[hl]at hz;cases b with
  |false=>
   refine⟨⟨[],.one .skp⟩,a1O ops o,hgr,hz,fun n hn=>absurd rfl hn,fun Γ2 hA _ ρ2 K2=>?_⟩;rw[a4z hd,a2k fun t ht=>(hA.2 t ht).1,hl];rfl
  |true=>
   simp only[a4c,hd]at hz;obtain⟨hc,hz⟩:=(a0g hz).elim id fun h=>by cases h.2
   have hrefs:∀t∈a0r o,∀n∈(Γ.sl t).refs,Γ.rt n≠none:=fun t ht n hn=>by
    obtain⟨x,hx,hxt⟩:=a34.1 ht
    have:=lA.1 hc x hx
    cases x with
    |tmp t'=>
     simp only[sj]at hxt;subst hxt
     have:=lA.1 this n hn
     exact a29.1 this
    |_=>cases hxt
   obtain⟨r,hr0,hr⟩:=c3j (cx:=cx) (Γ:=Γ) hd;rw[hr Γ a1N.refl]at hz;obtain⟨δ,rfl,h1,h2,h3⟩:=b8y hz;refine⟨δ,a0r o++a1O ops o,fun t ht=>?_,h2,h1,fun Γ2 hA hn ρ2 K2=>?_⟩;rcases mA.1 ht with ht|ht;exact⟨a5s ht,hrefs t ht⟩;exact hgr t ht
   ·rw[a4z hd,a2k fun t ht=>(hA.2 t (a06 _ ht)).1,hl];simp only[a4c,hd];have hA':a1N (a0r o) Γ Γ2:=⟨hA.1,fun t ht=>hA.2 t (a17 _ ht)⟩;refine(congrArg (fun b=>bif b then _ else none) (lA.2 fun x hx=>?_)).trans ?_
    ·cases x with
     |tmp t=>
      simp only[];have ht:=a2J hx;refine lA.2 fun n hn=>?_
      rw[(hA'.2 t ht).1]at hn;rw[(hA'.2 t ht).2 n hn];exact a29.2 (hrefs t ht n hn)
     |_=>rfl
    simp only[cT];rw[hr Γ2 hA'];exact c3k h3 hn
theorem c3l{v:AV}(h:v.firm=true):v.calm=true:=by
 cases v with
 |ptr n p=>cases h
 |_=>exact h
theorem b3L{sv:SV}(h:sv.firm=true):sv.calm=true:=by
 cases sv with
 |one v=>exact c3l h
 |cmp c vs=>exact h
theorem b5u{Γ Γ2:AE}(h:∀t∈a0r o,Γ2.sl t=Γ.sl t):b1z o Γ2=b1z o Γ:=by
 unfold b1z;split
 ·rename_i x hx;cases x with
  |tmp t=>simp only[b9x,h t (by simp[a0r,hx,Op.operands])]
  |_=>rfl
 ·rename_i x hx;cases x with
  |tmp t=>simp only[b9x,h t (by simp[a0r,hx,Op.operands])]
  |_=>rfl
 rfl
theorem c9a{ρ:Type}{ops:Array Oper}(hd:o.dst=some d){K:AE→Rs ρ}{z:ρ}(hz:a0O cx .v ops.toList o Γ K=some z):
  ∃(sv:SV)(L:List Nat),sv.calm=true∧(∀t∈L,t∈o.looksAt ops∧(Γ.sl t).calm=true)∧K (Γ.put d sv)=some z∧
   ∀Γ2,Γ2.pd=Γ.pd→(∀t∈L,Γ2.sl t=Γ.sl t)→∀{ρ2:Type}(K2:AE→Rs ρ2),a0O cx .v ops.toList o Γ2 K2=K2 (Γ2.put d sv):=by
 rw[a4z hd]at hz;cases hl:a2B ops o Γ with
 |none=>rw[hl]at hz;cases hz
 |some b=>
  have hgf:=a8v (ops:=ops) (Γ:=Γ) (o:=o) (by rw[hl];simp);rw[hl]at hz;cases b with
  |false=>
   refine⟨.one .skp,a1O ops o,rfl,fun t ht=>⟨a3e ht,b3L (hgf t ht)⟩,hz,fun Γ2 _ hA ρ2 K2=>?_⟩;rw[a4z hd,a2k hA,hl]
  |true=>
   simp only[a4c,hd]at hz;cases hp:b1z o Γ with
   |some n=>
    rw[hp]at hz;obtain⟨t,ho,hs,hn⟩:=b6S hp;have htm:t∈a0r o:=by
     rcases ho with ho|ho<;>simp[a0r,ho,Op.operands]
    have hcalm:(Γ.sl t).calm=true:=by rw[hs];simpa[SV.calm,AV.calm]using hn
    refine⟨.one (.ptr n []),[t]++a1O ops o,by simpa[SV.calm,AV.calm]using hn,fun t' ht=>?_,hz,fun Γ2 hpd hA ρ2 K2=>?_⟩;rcases mA.1 ht with ht|ht;obtain rfl:t'=t:=by simpa using ht
    exact⟨a5s htm,hcalm⟩;exact⟨a3e ht,b3L (hgf t' ht)⟩;rw[a4z hd,a2k fun t' ht=>hA t' (a06 _ ht),hl];simp only[a4c,hd];rw[b5u (fun t' ht'=>by
     have:t'=t:=by rcases ho with ho|ho<;>simpa[a0r,ho,Op.operands]using ht'
     subst this;exact hA t' (by simp)),hp]
   |none=>
   rw[hp]at hz;simp only[]at hz;obtain⟨hc,hz⟩:=(a0g hz).elim id fun h=>by cases h.2
   have hfirm:∀t∈a0r o,(Γ.sl t).firm=true:=fun t ht=>by
    obtain⟨x,hx,hxt⟩:=a34.1 ht
    have:=lA.1 hc x hx
    cases x with
    |tmp t'=>simp only[sj]at hxt;subst hxt;exact this
    |_=>cases hxt
   obtain⟨r,hr0,hr⟩:=c3j (cx:=cx) (Γ:=Γ) hd;rw[hr Γ a1N.refl]at hz;obtain⟨δ,rfl,h1,h2,h3⟩:=b8y hz;obtain⟨hf,h2⟩:=(a0g h2).elim id fun h=>by cases h.2
   have hsv:δ.sv.firm=true:=by simpa[Dl.app]using hf
   have hrs:=(hr0 δ rfl).1 hsv;obtain⟨rs,sv⟩:=δ;simp only at hrs hsv;subst hrs;refine⟨sv,a0r o++a1O ops o,b3L hsv,fun t ht=>?_,h2,fun Γ2 hpd hA ρ2 K2=>?_⟩;rcases mA.1 ht with ht|ht;exact⟨a5s ht,b3L (hfirm t ht)⟩;exact⟨a3e ht,b3L (hgf t ht)⟩
   ·rw[a4z hd,a2k fun t ht=>hA t (a06 _ ht),hl];simp only[a4c,hd];have hA':∀t∈a0r o,Γ2.sl t=Γ.sl t:=fun t ht=>hA t (a17 _ ht);have hAg:a1N (a0r o) Γ Γ2:=⟨hpd,fun t ht=>⟨hA' t ht,fun n hn=>by rw[b5t (hfirm t ht)]at hn;cases hn⟩⟩;rw[b5u hA',hp];simp only[];refine(congrArg (fun b=>bif b then _ else none) (lA.2 fun x hx=>?_)).trans ?_
    ·cases x with
     |tmp t=>
      simp only[];rw[hA' t (a2J hx)];exact hfirm t (a2J hx)
     |_=>rfl
    simp only[cT];rw[hr Γ2 hAg,c3k h3 (fun n hn=>absurd rfl hn)];show(bif (((Dl.mk [] sv).app d Γ2).sl d).firm then K2 ((Dl.mk [] sv).app d Γ2)else none)=_;rw[show((Dl.mk [] sv).app d Γ2).sl d=sv from by simp[Dl.app],hsv];rfl
theorem c1R{ρ:Type}{ops:Array Oper}(hd:o.dst=some d){K:AE→Rs ρ}{z:ρ}(hz:a0O cx .p ops.toList o Γ K=some z):
  ∃(sv:SV)(L:List Nat),sv.calm=true∧(∀t∈L,t∈o.looksAt ops∧(Γ.sl t).calm=true)∧K (Γ.put d sv)=some z∧
   ∀Γ2,(∀t∈L,Γ2.sl t=Γ.sl t)→∀{ρ2:Type}(K2:AE→Rs ρ2),a0O cx .p ops.toList o Γ2 K2=K2 (Γ2.put d sv):=by
 rw[a4z hd]at hz;cases hl:a2B ops o Γ with
 |none=>rw[hl]at hz;cases hz
 |some b=>
  have hgf:=a8v (ops:=ops) (Γ:=Γ) (o:=o) (by rw[hl];simp);rw[hl]at hz;cases b with
  |false=>
   refine⟨.one .skp,a1O ops o,rfl,fun t ht=>⟨a3e ht,b3L (hgf t ht)⟩,hz,fun Γ2 hA ρ2 K2=>?_⟩;rw[a4z hd,a2k hA,hl]
  |true=>
   simp only[a4c,hd]at hz;cases hp:b1z o Γ with
   |none=>rw[hp]at hz;cases hz
   |some n=>
    rw[hp]at hz;obtain⟨t,ho,hs,hn⟩:=b6S hp;have htm:t∈a0r o:=by
     rcases ho with ho|ho<;>simp[a0r,ho,Op.operands]
    have hcalm:(Γ.sl t).calm=true:=by rw[hs];simpa[SV.calm,AV.calm]using hn
    refine⟨.one (.ptr n []),[t]++a1O ops o,by simpa[SV.calm,AV.calm]using hn,fun t' ht=>?_,hz,fun Γ2 hA ρ2 K2=>?_⟩;rcases mA.1 ht with ht|ht;obtain rfl:t'=t:=by simpa using ht
    exact⟨a5s htm,hcalm⟩;exact⟨a3e ht,b3L (hgf t' ht)⟩;rw[a4z hd,a2k fun t' ht=>hA t' (a06 _ ht),hl];simp only[a4c,hd];rw[b5u (fun t' ht'=>by
     have:t'=t:=by rcases ho with ho|ho<;>simpa[a0r,ho,Op.operands]using ht'
     subst this;exact hA t' (by simp)),hp]
theorem b1i{a b:List Nat}(h:b8d a b=true){n:Nat}(hn:n∈a):n∈b:=by
 have:=lA.1 h n hn
 simpa using this
theorem c9b{ρ:Type}{ops:Array Oper}{ns:List Nat}(hd:o.dst=some d){K:AE→Rs ρ}{z:ρ}(hz:a0O cx (.r ns) ops.toList o Γ K=some z):
  ∃(δ:Dl)(L:List Nat),(∀t∈L,t∈o.looksAt ops∧(Γ.sl t).alive=true∧∀n∈(Γ.sl t).refs,Γ.rt n≠none∧n∈ns)∧K (δ.app d Γ)=some z∧(∀n,find δ.rs n≠none→Γ.rt n=none∧n∈ns)∧(∀n∈δ.sv.refs,n∈ns)∧
   ∀Γ2,b6b L Γ Γ2→(∀n,find δ.rs n≠none→Γ2.rt n=none)→∀{ρ2:Type}(K2:AE→Rs ρ2),a0O cx (.r ns) ops.toList o Γ2 K2=K2 (δ.app d Γ2):=by
 rw[a4z hd]at hz;cases hl:a2B ops o Γ with
 |none=>rw[hl]at hz;cases hz
 |some b=>
  have hgf:=a8v (ops:=ops) (Γ:=Γ) (o:=o) (by rw[hl];simp);have hgr:∀t∈a1O ops o,t∈o.looksAt ops∧(Γ.sl t).alive=true∧∀n∈(Γ.sl t).refs,Γ.rt n≠none∧n∈ns:=fun t ht=>⟨a3e ht,c8Z (hgf t ht),fun n hn=>by rw[b5t (hgf t ht)]at hn;cases hn⟩;rw[hl]at hz;cases b with
  |false=>
   refine⟨⟨[],.one .skp⟩,a1O ops o,hgr,hz,fun n hn=>absurd rfl hn,fun n hn=>(by cases hn),fun Γ2 hA _ ρ2 K2=>?_⟩;rw[a4z hd,a2k fun t ht=>(hA.2 t ht).1,hl];rfl
  |true=>
   simp only[a4c,hd]at hz;obtain⟨hc,hz⟩:=(a0g hz).elim id fun h=>by cases h.2
   obtain⟨hc,hnm⟩:=a21.1 hc;have hrefs:∀t∈a0r o,(Γ.sl t).alive=true∧∀n∈(Γ.sl t).refs,Γ.rt n≠none∧n∈ns:=fun t ht=>by
    obtain⟨x,hx,hxt⟩:=a34.1 ht
    have:=lA.1 hc x hx
    cases x with
    |tmp t'=>
     simp only[sj]at hxt;subst hxt;obtain⟨h1,h2⟩:=a21.1 this;refine⟨h1,fun n hn=>?_⟩;obtain⟨h3,h4⟩:=a21.1 (lA.1 h2 n hn);exact⟨a29.1 h3,by simpa using h4⟩
    |_=>cases hxt
   obtain⟨r,hr0,hr⟩:=c3j (cx:=cx) (Γ:=Γ) hd;rw[hr Γ a1N.refl]at hz;obtain⟨δ,rfl,h1,h2,h3⟩:=b8y hz;obtain⟨hsub,h2⟩:=(a0g h2).elim id fun h=>by cases h.2
   have hsv:(δ.app d Γ).sl d=δ.sv:=by simp[Dl.app]
   rw[hsv]at hsub;refine⟨δ,a0r o++a1O ops o,fun t ht=>?_,h2,fun n hn=>⟨h1 n hn,?_⟩,fun n hn=>b1i hsub hn,fun Γ2 hA hn ρ2 K2=>?_⟩;rcases mA.1 ht with ht|ht;exact⟨a5s ht,hrefs t ht⟩;exact hgr t ht
   have:=(hr0 δ rfl).2 n hn
   refine b1i hnm ?_
   rwa [show(some d).getD 0=d from rfl]
   ·rw[a4z hd,a2k fun t ht=>(hA.2 t (a06 _ ht)).1,hl];simp only[a4c,hd];have hA':a1N (a0r o) Γ Γ2:=⟨hA.1,fun t ht=>hA.2 t (a17 _ ht)⟩;refine(congrArg (fun b=>bif b then _ else none) (a21.2 ⟨lA.2 fun x hx=>?_,hnm⟩)).trans ?_
    ·cases x with
     |tmp t=>
      simp only[];have ht:=a2J hx;have hs:=(hA'.2 t ht).1;refine a21.2 ⟨by rw[hs];exact(hrefs t ht).1,lA.2 fun n hn=>?_⟩;rw[hs]at hn;rw[(hA'.2 t ht).2 n hn];exact a21.2 ⟨a29.2 ((hrefs t ht).2 n hn).1,by simpa using((hrefs t ht).2 n hn).2⟩
     |_=>rfl
    simp only[cT];rw[hr Γ2 hA',c3k h3 hn];show(bif b8d ((δ.app d Γ2).sl d).refs ns then K2 (δ.app d Γ2)else none)=_;rw[show(δ.app d Γ2).sl d=δ.sv from by simp[Dl.app],hsub];rfl
def Md.reads:Md→Nat→Prop
 |.q,_=>True
 |.r ns,n=>n∈ns
 |_,_=>False
def Md.quiet:Md→Prop
 |.v|.p|.q|.r _=>True
 |_=>False
def Md.isV:Md→Bool
 |.v|.p=>true
 |_=>false
def c5U(md:Md)(T:List Nat)(Γ Γ2:AE):Prop:=Γ2.pd=Γ.pd∧∀t∈T,Γ2.sl t=Γ.sl t∧∀n∈(Γ.sl t).refs,md.isV=false→Γ2.rt n=Γ.rt n
theorem c5V{ρ:Type}{ops:Array Oper}{md:Md}(hmd:md.quiet)(hd:o.dst=some d){K:AE→Rs ρ}{z:ρ}(hz:a0O cx md ops.toList o Γ K=some z):
  ∃(δ:Dl)(L:List Nat),(∀t∈L,t∈o.looksAt ops∧∀n∈(Γ.sl t).refs,md.isV=false→md.reads n∧Γ.rt n≠none)∧K (δ.app d Γ)=some z∧(∀n,find δ.rs n≠none→Γ.rt n=none)∧
   ∀Γ2,c5U md L Γ Γ2→(∀n,find δ.rs n≠none→Γ2.rt n=none)→∀{ρ2:Type}(K2:AE→Rs ρ2),a0O cx md ops.toList o Γ2 K2=K2 (δ.app d Γ2):=by
 cases md with
 |v=>
  obtain⟨sv,L,h1,h2,h3,h4⟩:=c9a hd hz;exact⟨⟨[],sv⟩,L,fun t ht=>⟨(h2 t ht).1,fun n hn e=>by cases e⟩,h3,fun n hn=>absurd rfl hn,fun Γ2 hA _ ρ2 K2=>h4 Γ2 hA.1 (fun t ht=>(hA.2 t ht).1) K2⟩
 |q=>
  obtain⟨δ,L,h1,h2⟩:=d5t hd hz;exact⟨δ,L,fun t ht=>⟨(h1 t ht).1,fun n hn _=>⟨trivial,(h1 t ht).2 n hn⟩⟩,h2.1,h2.2.1,fun Γ2 hA=>h2.2.2 Γ2 ⟨hA.1,fun t ht=>⟨(hA.2 t ht).1,fun n hn=>(hA.2 t ht).2 n hn rfl⟩⟩⟩
 |r ns=>
  obtain⟨δ,L,h1,h2,h3,-,h4⟩:=c9b hd hz;exact⟨δ,L,fun t ht=>⟨(h1 t ht).1,fun n hn _=>⟨((h1 t ht).2.2 n hn).2,((h1 t ht).2.2 n hn).1⟩⟩,h2,fun n hn=>(h3 n hn).1,fun Γ2 hA=>h4 Γ2 ⟨hA.1,fun t ht=>⟨(hA.2 t ht).1,fun n hn=>(hA.2 t ht).2 n hn rfl⟩⟩⟩
 |p=>
  obtain⟨sv,L,h1,h2,h3,h4⟩:=c1R hd hz;exact⟨⟨[],sv⟩,L,fun t ht=>⟨(h2 t ht).1,fun n hn e=>by cases e⟩,h3,fun n hn=>absurd rfl hn,fun Γ2 hA _ ρ2 K2=>h4 Γ2 (fun t ht=>(hA.2 t ht).1) K2⟩
 |x=>cases hmd
 |a ws=>cases hmd
 |w ws=>cases hmd
end
end Go.Ab
namespace Go.Ab
def FP(f:AV→AV):Prop:=(∀v:AV,v.calm=true→f v=v)∧∀v:AV,(f v).calm=true→f v=v
theorem FP.id:FP id:=⟨fun _ _=>rfl,fun _ _=>rfl⟩
def FW(W:List Nat)(f:AV→AV):Prop:=(∀v:AV,(∀n∈v.refs,n∉W)→f v=v)∧(∀v:AV,f v=v∨f v=.dead)∧∀n,pinned≤n→f (.ptr n [])=.ptr n []
theorem FW.id{W:List Nat}:FW W id:=⟨fun _ _=>rfl,fun _=>.inl rfl,fun _ _=>rfl⟩
theorem FW.comp{W:List Nat}{f g:AV→AV}(hf:FW W f)(hg:FW W g)(hd:g .dead=.dead:=by rfl):FW W (fun v=>g (f v)):=by
 refine⟨fun v h=>?_,fun v=>?_,fun n hn=>?_⟩;show g (f v)=v;rw[hf.1 v h];exact hg.1 v h;show g (f v)=v∨g (f v)=.dead;rcases hf.2.1 v with h|h;rw[h];exact hg.2.1 v;rw[h];exact .inr hd;show g (f _)=_;rw[hf.2.2 n hn];exact hg.2.2 n hn
theorem FW.dead{W:List Nat}{f:AV→AV}(hf:FW W f):f .dead=.dead:=(hf.2.1 .dead).elim _root_.id _root_.id
theorem FW.fp{W:List Nat}{f:AV→AV}(hf:FW W f):FP f:=by
 refine⟨fun v h=>?_,fun v h=>?_⟩
 ·cases v with
  |ptr n p=>
   cases p with
   |nil=>exact hf.2.2 n (by simpa[AV.calm]using h)
   |cons=>simp[AV.calm,AV.firm]at h
  |sref=>cases h
  |swin=>cases h
  |_=>exact hf.1 _ fun n hn=>(by cases hn)
 rcases hf.2.1 v with g|g;exact g;rw[g]at h;cases h
theorem nb{W:List Nat}{m n:Nat}(hn:n∈W)(h:∀k∈[m],k∉W):(m==n)=false:=by
 simp only[beq_eq_false_iff_ne];intro e;exact h m (by simp) (e▸hn)
theorem FW.drop{W:List Nat}{n:Nat}(hn:n∈W)(hp:n<pinned):FW W (AV.drop n):=by
 refine⟨fun v h=>?_,fun v=>?_,fun m hm=>?_⟩
 ·cases v with
  |ptr m q=>simp only[AV.drop,nb hn h,a04,if_false]
  |sref m q=>simp only[AV.drop,nb hn h,a04,if_false]
  |swin m q o l=>simp only[AV.drop,nb hn h,a04,if_false]
  |_=>rfl
 ·cases v with
  |ptr m q=>simp only[AV.drop];split<;>simp
  |sref m q=>simp only[AV.drop];split<;>simp
  |swin m q o l=>simp only[AV.drop];split<;>simp
  |_=>exact .inl rfl
 have:(m==n)=false:=by simp only[beq_eq_false_iff_ne];omega
 simp[AV.drop,this]
theorem FW.kill{W:List Nat}{n:Nat}(hn:n∈W)(p:a0N):FW W (AV.kill n p):=by
 refine⟨fun v h=>?_,fun v=>?_,fun m hm=>by simp[AV.kill]⟩
 ·cases v with
  |ptr m q=>simp only[AV.kill,nb hn h,a71,a04,if_false]
  |sref m q=>simp only[AV.kill,nb hn h,a71,a04,if_false]
  |swin m q o l=>simp only[AV.kill,nb hn h,a71,a04,if_false]
  |_=>rfl
 ·cases v with
  |ptr m q=>simp only[AV.kill];split<;>simp
  |sref m q=>simp only[AV.kill];split<;>simp
  |swin m q o l=>simp only[AV.kill];split<;>simp
  |_=>exact .inl rfl
theorem FW.deeps{W us ks:List Nat}(hu:∀n∈us,n∈W):FW W (AV.deeps us ks):=by
 have nu:∀m,(∀k∈[m],k∉W)→us.contains m=false:=fun m h=>by
  cases hc:us.contains m with
  |false=>rfl
  |true=>exact absurd (hu m (a20.1 hc)) (h m (by simp))
 refine⟨fun v h=>?_,fun v=>?_,fun m hm=>by simp[AV.deeps]⟩
 ·cases v with
  |ptr m q=>simp only[AV.deeps,nu m h,a04,if_false]
  |sref m q=>simp only[AV.deeps,nu m h,a04,if_false]
  |swin m q o l=>simp only[AV.deeps,nu m h,a04,if_false]
  |_=>rfl
 ·cases v with
  |ptr m q=>
   simp only[AV.deeps];split;cases q<;>simp
   simp
  |sref m q=>
   simp only[AV.deeps];split
   ·cases q with
    |nil=>simp only[];split<;>simp
    |cons=>simp
   simp
  |swin m q o l=>simp only[AV.deeps];split<;>simp
  |_=>exact .inl rfl
theorem FP.sv{f:AV→AV}(hf:FP f){sv:SV}(h:sv.calm=true):sv.mapv f=sv:=by
 cases sv with
 |one v=>simp only[SV.mapv];rw[hf.1 v h]
 |cmp c0 vs=>
  simp only[SV.mapv];congr 1;refine(a18 fun v hv=>hf.1 v (c3l (lA.1 h v hv))).trans (a56 _)
theorem FP.sv'{f:AV→AV}(hf:FP f){sv:SV}(h:(sv.mapv f).calm=true):sv.mapv f=sv:=by
 cases sv with
 |one v=>simp only[SV.mapv]at h⊢;rw[hf.2 v h]
 |cmp c0 vs=>
  simp only[SV.mapv]at h⊢;congr 1;refine(a18 fun v hv=>hf.2 v (c3l (lA.1 h _ (a54 hv)))).trans (a56 _)
theorem FW.sv{W:List Nat}{f:AV→AV}(hf:FW W f){sv:SV}(h:∀n∈sv.refs,n∉W):sv.mapv f=sv:=by
 cases sv with
 |one v=>simp only[SV.mapv];rw[hf.1 v h]
 |cmp c0 vs=>
  simp only[SV.mapv];congr 1;refine(a18 fun v hv=>hf.1 v fun n hn=>h n (a49.2 ⟨v,hv,hn⟩)).trans (a56 _)
theorem FW.sv'{W:List Nat}{f:AV→AV}(hf:FW W f){sv:SV}(h:(sv.mapv f).alive=true):sv.mapv f=sv:=by
 have one:∀v:AV,(f v).alive=true→f v=v:=fun v hv=>by
  rcases hf.2.1 v with g|g;exact g;rw[g]at hv;cases hv
 cases sv with
 |one v=>simp only[SV.mapv]at h⊢;rw[one v h]
 |cmp c0 vs=>
  simp only[SV.mapv]at h⊢;congr 1;refine(a18 fun v hv=>one v (lA.1 h _ (a54 hv))).trans (a56 _)
theorem FW.refs{W:List Nat}{f:AV→AV}(hf:FW W f){sv:SV}{n:Nat}(hn:n∈(sv.mapv f).refs):n∈sv.refs:=by
 have one:∀v:AV,n∈(f v).refs→n∈v.refs:=fun v hv=>by
  rcases hf.2.1 v with g|g
  rwa [g]at hv
  rw[g]at hv;cases hv
 cases sv with
 |one v=>exact one v hn
 |cmp c0 vs=>
  simp only[SV.mapv,SV.refs,a49]at hn⊢;obtain⟨u,hu,hn⟩:=hn;obtain⟨v,hv,rfl⟩:=a19.1 hu;exact⟨v,hv,one v hn⟩
structure MDl where
 f:AV→AV
 rt:Nat→Option Root
 sv:SV

 pd:Option (Nat×a0N×Nat):=none
def a4p(W:List Nat)(m:MDl)(d:Option Nat)(Γ:AE):AE:=⟨fun i=>bif d==some i then m.sv else(Γ.sl i).mapv m.f,fun n=>bif W.contains n then m.rt n else Γ.rt n,Γ.pd⟩
def a8w(W:List Nat)(m:MDl)(d:Option Nat)(Γ:AE):AE:={ a4p W m d Γ with pd:=match m.pd with|none=>Γ.pd|some x=>some x }
theorem c5m{W:List Nat}{m:MDl}{d:Option Nat}{Γ:AE}(h:m.pd=none):a8w W m d Γ=a4p W m d Γ:=by simp only[a8w,h];rfl
theorem c4g(f g:AV→AV)(sv:SV):(sv.mapv f).mapv g=sv.mapv fun v=>g (f v):=by
 cases sv with
 |one v=>rfl
 |cmp c0 vs=>simp[SV.mapv,Function.comp_def]
theorem b3M(sv:SV):sv.mapv id=sv:=by cases sv<;>simp[SV.mapv]
section
variable {g:Bool} {cx:Cx} {o:Oper} {d:Nat} {Γ:AE} {W:List Nat}
def d4G{ρ:Type}(K:AE→Rs ρ):AE→Rs ρ:=fun Γ'=>match Γ'.pd with
 |none=>K Γ'
 |some _=>none
def a1t(W T:List Nat)(Γ Γ2:AE):Prop:=Γ2.pd=Γ.pd∧(∀n∈W,Γ2.rt n=Γ.rt n)∧∀t∈T,Γ2.sl t=Γ.sl t
theorem a1t.refl{T:List Nat}:a1t W T Γ Γ:=⟨rfl,fun _ _=>rfl,fun _ _=>rfl⟩
theorem a1t.opd{Γ2:AE}(h:a1t W (a0r o) Γ Γ2){x:Operand}(hx:x∈o.op.operands.toList):Γ2.opd x=Γ.opd x:=by
 cases x with
 |tmp t=>simp only[AE.opd,AE.get];rw[h.2.2 t (a2J hx)]
 |_=>rfl
theorem a1t.aggOf{Γ2:AE}(h:a1t W (a0r o) Γ Γ2){x:Operand}(hx:x∈o.op.operands.toList):Γ2.aggOf x=Γ.aggOf x:=by
 cases x with
 |tmp t=>simp only[AE.aggOf];rw[h.2.2 t (a2J hx)]
 |_=>rfl
theorem a1t.look{T:List Nat}{Γ2:AE}(h:a1t W T Γ Γ2){n:Nat}(hn:n∈W):Γ2.look n=Γ.look n:=by
 simp only[AE.look,h.1,h.2.1 n hn]
def c5n{ρ:Type}(W:List Nat)(r:Option MDl)(d:Option Nat)(Γ2:AE)(K:AE→Rs ρ):Rs ρ:=match r with
 |none=>none
 |some m=>K (a8w W m d Γ2)
def gPd{ρ:Type}(g:Bool)(K:AE→Rs ρ):AE→Rs ρ:=bif g then d4G K else K
def a1u(g:Bool)(cx:Cx)(o:Oper)(d:Option Nat)(Γ:AE)(W:List Nat):Prop:=
 ∃r:Option MDl,(∀m,r=some m→FW W m.f∧(g=true→m.pd=none))∧∀Γ2,a1t W (a0r o) Γ Γ2→∀{ρ:Type}(K:AE→Rs ρ),aop cx false o Γ2 (gPd g K)=c5n W r d Γ2 K
theorem a1u.none{d:Option Nat}(h:∀Γ2,a1t W (a0r o) Γ Γ2→∀{ρ:Type}(K:AE→Rs ρ),aop cx false o Γ2 (gPd g K)=none):a1u g cx o d Γ W:=⟨.none,by simp,fun Γ2 hA ρ K=>h Γ2 hA K⟩
theorem a1u.some{d:Option Nat}(f:AV→AV)(hf:FW W f)(sv:SV)(S:List Nat)(hS:∀n∈S,n∈W)(gr:Nat→Option Root)
  (h:∀Γ2,a1t W (a0r o) Γ Γ2→∀{ρ:Type}(K:AE→Rs ρ),aop cx false o Γ2 (gPd g K)=K ⟨fun i=>bif d==some i then sv else(Γ2.sl i).mapv f,fun n=>bif S.contains n then gr n else Γ2.rt n,Γ2.pd⟩):a1u g cx o d Γ W:=by
 refine⟨.some ⟨f,fun n=>bif S.contains n then gr n else Γ.rt n,sv,.none⟩,fun m hm=>by cases hm;exact⟨hf,fun _=>rfl⟩,fun Γ2 hA ρ K=>?_⟩;rw[h Γ2 hA K];simp only[c5n,a8w,a4p];congr 2;funext n;cases hs:S.contains n with
 |true=>
  have:W.contains n=true:=a20.2 (hS n (a20.1 hs))
  rw[this];rfl
 |false=>
  cases hw:W.contains n with
  |true=>simp only[cF,cT];exact hA.2.1 n (a20.1 hw)
  |false=>rfl
theorem c9c{d:Option Nat}(f:AV→AV)(hf:FW W f)(sv:SV)(S:List Nat)(hS:∀n∈S,n∈W)(gr:Nat→Option Root)(pd:Nat×a0N×Nat)(hg:g=false)
  (h:∀Γ2,a1t W (a0r o) Γ Γ2→∀{ρ:Type}(K:AE→Rs ρ),aop cx false o Γ2 (gPd g K)=K ⟨fun i=>bif d==some i then sv else(Γ2.sl i).mapv f,fun n=>bif S.contains n then gr n else Γ2.rt n,.some pd⟩):a1u g cx o d Γ W:=by
 refine⟨.some ⟨f,fun n=>bif S.contains n then gr n else Γ.rt n,sv,.some pd⟩,fun m hm=>by cases hm;exact⟨hf,fun e=>by rw[hg]at e;cases e⟩,fun Γ2 hA ρ K=>?_⟩;rw[h Γ2 hA K];simp only[c5n,a8w,a4p];congr 2;funext n;cases hs:S.contains n with
 |true=>
  have:W.contains n=true:=a20.2 (hS n (a20.1 hs))
  rw[this];rfl
 |false=>
  cases hw:W.contains n with
  |true=>simp only[cF,cT];exact hA.2.1 n (a20.1 hw)
  |false=>rfl
theorem a9I{ρ:Type}{K:AE→Rs ρ}{Γ':AE}(h:Γ'.pd=none):gPd g K Γ'=K Γ':=by cases g<;>simp only[gPd,d4G,h,cT,cF]
theorem a2y(n m:Nat):[m].contains n=(n==m):=by simp only[List.contains,List.elem];cases (n==m)<;>rfl
theorem c8k{ρ:Type}{Γ2:AE}(hpd:Γ2.pd=none)(r:Root)(v:AV)(K:AE→Rs ρ):(Γ2.fresh false d r fun Γ=>K (Γ.set d v)) =
  bif decide (d<pinned)then K ⟨fun i=>bif some d==some i then .one v else(Γ2.sl i).mapv (match Γ2.rt d with|none=>id|some _=>AV.drop d),fun n=>bif [d].contains n then some r else Γ2.rt n,Γ2.pd⟩else none:=by
 have e1:∀i,(some d==some i)=(i==d):=fun i=>by
  by_cases h:i=d
  subst h;simp;have h1:(i==d)=false:=by simpa using h
  have h2:(some d==some i)=false:=by simpa using Ne.symm h
  rw[h1,h2]
 unfold AE.fresh;cases decide (d<pinned);rfl
 ·simp only[cT];cases hr:Γ2.rt d with
  |none=>
   simp only[AE.newRt,hr];congr 1;simp only[AE.set,AE.put,AE.setRt,a2y,e1];congr 1;funext i;rw[b3M]
  |some r0=>
   simp only[cF,AE.look,hpd,hr,AE.newRt];congr 1;simp only[AE.set,AE.put,AE.setRt,a2y,e1,AE.mapv,hpd]
theorem c4h(hpd:Γ.pd=none)(hdW:d∈W){e:Ty}{x:AV}(hxW:∀n∈x.refs,n∈W){ys:Option (List e.den)}(h:∀Γ2,a1t W (a0r o) Γ Γ2→∀{ρ:Type}(K:AE→Rs ρ),aop cx false o Γ2 K=ys.elim none fun ys=>Γ2.apnd false d e x ys K):a1u g cx o (some d) Γ W:=by
 have e1:∀i,(some d==some i)=(i==d):=fun i=>by
  by_cases h:i=d
  subst h;simp;have h1:(i==d)=false:=by simpa using h
  have h2:(some d==some i)=false:=by simpa using Ne.symm h
  rw[h1,h2]
 cases ys with
 |none=>exact a1u.none fun Γ2 hA ρ K=>h Γ2 hA _
 |some ys=>
  have h:∀Γ2,a1t W (a0r o) Γ Γ2→∀{ρ:Type}(K:AE→Rs ρ),aop cx false o Γ2 K=Γ2.apnd false d e x ys K:=h;have hfr:(x=.nils∨x=.empt)→a1u g cx o (some d) Γ W:=fun hx=>by
   have h:∀Γ2,a1t W (a0r o) Γ Γ2→∀{ρ:Type}(K:AE→Rs ρ),aop cx false o Γ2 K=bif lim ys.length then Γ2.fresh false d ⟨false,.list true e,ys⟩ fun Γ=>K (Γ.set d (.sref d []))else none:=fun Γ2 hA ρ K=>by
    rw[h Γ2 hA];rcases hx with rfl|rfl<;>rfl
   cases hl:lim ys.length with
   |false=>exact a1u.none fun Γ2 hA ρ K=>by rw[h Γ2 hA,hl];rfl
   |true=>
    cases hd':decide (d<pinned)with
    |false=>exact a1u.none fun Γ2 hA ρ K=>by rw[h Γ2 hA,hl];simp only[cT];rw[c8k (hA.1.trans hpd),hd'];rfl
    |true=>
     refine a1u.some (match Γ.rt d with|.none=>id|.some _=>AV.drop d) ?_ (.one (.sref d [])) [d] (by simpa using hdW) (fun _=>.some ⟨false,.list true e,ys⟩) fun Γ2 hA ρ K=>?_
     cases Γ.rt d;exact FW.id;exact FW.drop hdW (by simpa using hd');rw[h Γ2 hA,hl];simp only[cT];rw[c8k (hA.1.trans hpd),hd',hA.2.1 d hdW];simp only[cT];exact a9I (hA.1.trans hpd)
  cases x with
  |nils=>exact hfr (.inl rfl)
  |empt=>exact hfr (.inr rfl)
  |sref n p=>
   have hnW:n∈W:=hxW n (by simp[AV.refs]);have hlk:∀Γ2,a1t W (a0r o) Γ Γ2→Γ2.look n=Γ.rt n:=fun Γ2 hA=>by rw[hA.look hnW];simp only[AE.look,hpd]
   cases hr:Γ.rt n with
   |none=>
    exact a1u.none fun Γ2 hA ρ K=>by
      rw[h Γ2 hA];simp only[AE.apnd,cF,hlk Γ2 hA,hr]
   |some r=>
    cases hg:a0W r.t r.x p with
    |mk tt l=>
     cases tt with
     |list o' e'=>
      cases o' with
      |false=>
       exact a1u.none fun Γ2 hA ρ K=>by
         rw[h Γ2 hA];simp only[AE.apnd,cF,hlk Γ2 hA,hr,hg]
      |true=>
       by_cases he:e=e'
       ·subst he;cases hl:lim (a25 l+ys.length)with
        |false=>
         exact a1u.none fun Γ2 hA ρ K=>by
           rw[h Γ2 hA];simp only[AE.apnd,cF,hlk Γ2 hA,hr,hg,dite_true,hl,cF]
        |true=>
         by_cases hp:p=[]∧r.bx=false
         ·obtain⟨rfl,hbx⟩:=hp;cases hnp:decide (n<pinned)with
          |false=>exact a1u.none fun Γ2 hA ρ K=>by rw[h Γ2 hA];simp only[AE.apnd,cF,hlk Γ2 hA,hr,hg,dite_true,hl,cT,hbx,hnp]
          |true=>
          refine a1u.some (AV.kill n []) (FW.kill hnW []) (.one (.sref n [])) [n] (by simpa using hnW) (fun _=>.some ⟨r.bx,r.t,a1y r.t r.x [] (.list true e) (a66 l ys)⟩) fun Γ2 hA ρ K=>?_
          rw[h Γ2 hA];simp only[AE.apnd,cF,hlk Γ2 hA,hr,hg,dite_true,hl,cT,hbx,hnp];rw[a9I (by exact hA.1.trans hpd)];congr 1;simp only[AE.set,AE.put,AE.setRt,AE.mapv,a2y,e1]
         ·cases hgg:g with
          |true=>
           refine a1u.none fun Γ2 hA ρ K=>?_
           rw[h Γ2 hA];simp only[AE.apnd,cF,hlk Γ2 hA,hr,hg,dite_true,hl,cT];cases p with
           |nil=>
            cases hb:r.bx with
            |false=>exact absurd ⟨rfl,hb⟩ hp
            |true=>simp only[hA.1,hpd];rfl
           |cons a p'=>simp only[hA.1,hpd];rfl
          |false=>
           refine c9c (AV.kill n p) (FW.kill hnW p) (.one (.sref n p)) [n] (by simpa using hnW) (fun _=>.some ⟨r.bx,r.t,a1y r.t r.x p (.list true e) (a66 l ys)⟩) (n,p,d) rfl fun Γ2 hA ρ K=>?_
           rw[h Γ2 hA];simp only[AE.apnd,cF,hlk Γ2 hA,hr,hg,dite_true,hl,cT];have fin:∀(G1 G2:AE),G1=G2→gPd false K G1=K G2:=fun G1 G2 e=>by rw[e];rfl
           cases p with
           |nil=>
            cases hb:r.bx with
            |false=>exact absurd ⟨rfl,hb⟩ hp
            |true=>
             simp only[hA.1,hpd];refine fin _ _ ?_
             simp only[AE.set,AE.put,AE.setRt,AE.mapv,a2y,e1]
           |cons a p'=>
            simp only[hA.1,hpd];refine fin _ _ ?_
            simp only[AE.set,AE.put,AE.setRt,AE.mapv,a2y,e1]
       exact a1u.none fun Γ2 hA ρ K=>by
        rw[h Γ2 hA];simp only[AE.apnd,cF,hlk Γ2 hA,hr,hg,he,dite_false]
     |_=>
      exact a1u.none fun Γ2 hA ρ K=>by
        rw[h Γ2 hA];simp only[AE.apnd,cF,hlk Γ2 hA,hr,hg]
  |_=>exact a1u.none fun Γ2 hA ρ K=>by rw[h Γ2 hA];rfl
end
end Go.Ab
namespace Go.Ab
section
variable {g:Bool} {cx:Cx} {o:Oper} {d:Nat} {Γ:AE} {W:List Nat}
theorem d2Z{ρ:Type}(Γ:AE)(t:Ty)(a:AV)(hv:a.viewed=[])(K:t.den→AE→Rs ρ):Γ.asV false t a K=(a5M t a).elim none fun x=>K x Γ:=by
 cases a with
 |val t' x=>simp only[AE.asV,a5M];cases castTo t' t x<;>rfl
 |nils=>cases t with
  |list o e=>cases o<;>rfl
  |_=>rfl
 |empt=>cases t with
  |list o e=>cases o<;>rfl
  |_=>rfl
 |sref n p=>cases hv
 |swin n p o k=>cases hv
 |_=>rfl
def a7E(fz:Bool)(lk:Nat→Option Root)(used seen:List Nat):(p:PA)→AV→Option (p.ty.den×List Nat×List Nat)
 |.v t,a=>bif a.viewed.any fun n=>used.contains n then none else bif fz then(a5M t a).map fun x=>(x,used,seen)else(a9l lk t a).map fun x=>(x,used,a.viewed++seen)
 |.r c (.b t),.ptr n []=>if c || used.contains n || seen.contains n then none else match lk n with
  |some ⟨true,t',x⟩=>if h:t'=t then some (h▸x,n::used,seen)else none
  |_=>none
 |.r c (.o e),.sref n []=>if(c&&decide (pinned≤n)) || used.contains n || seen.contains n then none else match lk n with
  |some ⟨bx,.list true e',x⟩=>if h:e'=e then(bif bx&&c then none else some (h▸x,n::used,seen))else none
  |_=>none
 |.r _ _,_=>none
theorem b1E{ρ:Type}(Γ:AE)(fz:Bool)(used seen:List Nat)(p:PA)(a:AV)(hv:fz=false∨a.viewed=[])(K:p.ty.den→AE→List Nat→List Nat→Rs ρ):
  Γ.arg fz false used seen p a K=(a7E fz Γ.look used seen p a).elim none fun y=>K y.1 Γ y.2.1 y.2.2:=by
 cases p with
 |v t=>
  simp only[AE.arg,a7E];cases (a.viewed.any fun n=>used.contains n)
  ·simp only[cF];cases fz with
   |true=>
    simp only[if_true,cT];rw[d2Z Γ t a (hv.resolve_left (by simp))];cases a5M t a<;>rfl
   |false=>
    simp only[a04,if_false,cF];rw[d0T];cases a9l Γ.look t a<;>rfl
  rfl
 |r c b=>
  cases b with
  |v t=>cases a<;>rfl
  |b t=>
   cases a with
   |ptr n p=>
    cases p with
    |nil=>
     simp only[AE.arg,a7E,Bool.or_false];split;rfl
     ·cases Γ.look n with
      |none=>rfl
      |some r=>
       obtain⟨bx,t',x⟩:=r;cases bx;rfl;simp only[];split;rename_i h;subst h;rfl;rfl
    |cons=>rfl
   |_=>rfl
  |o e=>
   cases a with
   |sref n p=>
    cases p with
    |nil=>
     simp only[AE.arg,a7E,Bool.or_false];split;rfl
     ·cases Γ.look n with
      |none=>rfl
      |some r=>
       obtain⟨bx,t',x⟩:=r;cases t' with
       |list o' e'=>
        cases o' with
        |false=>rfl
        |true=>
         simp only[];split;rename_i h;subst h;cases bx<;>cases c<;>rfl;rfl
       |_=>rfl
    |cons=>rfl
   |_=>rfl
def AE.argsm(Γ:AE)(fz:Bool)(used seen:List Nat)(ps:List PA)(as:List AV):Option ((a1I (ps.map PA.ty)).den×List Nat):=Γ.args fz false used seen ps as fun x _ u=>some (x,u)
theorem args_m(Γ:AE)(fz:Bool)(ps:List PA):∀{ρ:Type}(as:List AV)(used seen:List Nat)(K:(a1I (ps.map PA.ty)).den→AE→List Nat→Rs ρ),(fz=false∨∀a∈as,a.viewed=[])→
  Γ.args fz false used seen ps as K=(Γ.argsm fz used seen ps as).elim none fun x=>K x.1 Γ x.2:=by
 induction ps with
 |nil=>
  intro ρ as used seen K hv;cases as<;>rfl
 |cons p ps ih=>
  intro ρ as used seen K hv;cases as with
  |nil=>cases ps<;>rfl
  |cons a as=>
   have hva:fz=false∨a.viewed=[]:=hv.imp id fun h=>h a (by simp);have hvs:fz=false∨∀a∈as,a.viewed=[]:=hv.imp id fun h a' ha=>h a' (by simp[ha]);cases ps with
   |nil=>
    cases as with
    |nil=>
     simp only[AE.argsm,AE.args];rw[b1E (hv:=hva),b1E (hv:=hva)];cases a7E fz Γ.look used seen p a<;>rfl
    |cons=>rfl
   |cons p' ps=>
    simp only[AE.argsm,AE.args];rw[b1E (hv:=hva),b1E (hv:=hva)];cases a7E fz Γ.look used seen p a with
    |none=>rfl
    |some x=>
     simp only[a05];rw[ih as _ _ _ hvs,ih as _ _ _ hvs];cases Γ.argsm fz x.2.1 x.2.2 (p'::ps) as<;>rfl
theorem c9d{lk lk':Nat→Option Root}{fz:Bool}{used seen:List Nat}{p:PA}{a:AV}(h:∀n∈a.refs,lk' n=lk n):a7E fz lk' used seen p a=a7E fz lk used seen p a:=by
 cases p with
 |v t=>simp only[a7E,b9R h]
 |r c b=>
  cases b with
  |v t=>cases a<;>rfl
  |b t=>
   cases a with
   |ptr n q=>cases q<;>simp only[a7E,h n (by simp[AV.refs])]
   |_=>rfl
  |o e=>
   cases a with
   |sref n q=>cases q<;>simp only[a7E,h n (by simp[AV.refs])]
   |_=>rfl
theorem c4i{lk:Nat→Option Root}{fz:Bool}{used seen:List Nat}{p:PA}{a:AV}{x}(h:a7E fz lk used seen p a=some x):∀n∈x.2.1,n∈used∨n∈a.refs:=by
 intro n hn;cases p with
 |v t=>
  simp only[a7E]at h;obtain⟨-,h⟩:=(a0g h).elim (fun h=>by cases h.2) id;cases fz with
  |true=>
   simp only[cT]at h;cases ha:a5M t a with
   |none=>rw[ha]at h;cases h
   |some y=>rw[ha]at h;cases h;exact .inl hn
  |false=>
   simp only[cF]at h;cases ha:a9l lk t a with
   |none=>rw[ha]at h;cases h
   |some y=>rw[ha]at h;cases h;exact .inl hn
 |r c b=>
  cases b with
  |v t=>cases a<;>cases h
  |b t=>
   cases a with
   |ptr m q=>
    cases q with
    |nil=>
     simp only[a7E]at h
     split at h
     cases h
     split at h
     split at h
     cases h;rcases mC.1 hn with rfl|hn;exact .inr (by simp[AV.refs]);exact .inl hn;cases h;cases h
    |cons=>cases h
   |_=>cases h
  |o e=>
   cases a with
   |sref m q=>
    cases q with
    |nil=>
     simp only[a7E]at h
     split at h
     cases h
     split at h
     split at h
     obtain⟨-,h⟩:=(a0g h).elim (fun h=>by cases h.2) id;cases h;rcases mC.1 hn with rfl|hn;exact .inr (by simp[AV.refs]);exact .inl hn;cases h;cases h
    |cons=>cases h
   |_=>cases h
theorem c7y{Γ Γ2:AE}(fz:Bool)(ps:List PA):∀(as:List AV)(used seen:List Nat),(∀a∈as,∀n∈a.refs,Γ2.look n=Γ.look n)→(fz=false∨∀a∈as,a.viewed=[])→Γ2.argsm fz used seen ps as=Γ.argsm fz used seen ps as:=by
 induction ps with
 |nil=>intro as used seen hl hv;cases as<;>rfl
 |cons p ps ih=>
  intro as used seen hl hv;cases as with
  |nil=>cases ps<;>rfl
  |cons a as=>
   have hva:fz=false∨a.viewed=[]:=hv.imp id fun h=>h a (by simp);have hvs:fz=false∨∀a∈as,a.viewed=[]:=hv.imp id fun h a' ha=>h a' (by simp[ha]);have hla:=c9d (fz:=fz) (used:=used) (seen:=seen) (p:=p) (hl a (by simp));cases ps with
   |nil=>
    cases as with
    |nil=>
     simp only[AE.argsm,AE.args];rw[b1E (hv:=hva),b1E (hv:=hva),hla]
    |cons=>rfl
   |cons p' ps=>
    simp only[AE.argsm,AE.args];rw[b1E (hv:=hva),b1E (hv:=hva),hla];cases a7E fz Γ.look used seen p a with
    |none=>rfl
    |some x=>
     simp only[a05];rw[args_m (hv:=hvs),args_m (hv:=hvs),ih as _ _ (fun a' ha=>hl a' (by simp[ha])) hvs]
where
 args_m {Γ:AE} {fz:Bool} {ps:List PA} {ρ:Type} {as:List AV} {used seen:List Nat} {K:(a1I (ps.map PA.ty)).den→AE→List Nat→Rs ρ} (hv:fz=false∨∀a∈as,a.viewed=[]):=Go.Ab.args_m Γ fz ps as used seen K hv
theorem c9e{Γ:AE}(fz:Bool)(ps:List PA):∀(as:List AV)(used seen:List Nat)(x),(fz=false∨∀a∈as,a.viewed=[])→Γ.argsm fz used seen ps as=some x→∀n∈x.2,n∈used∨∃a∈as,n∈a.refs:=by
 induction ps with
 |nil=>
  intro as used seen x hv h n hn;cases as with
  |nil=>cases h;exact .inl hn
  |cons=>cases h
 |cons p ps ih=>
  intro as used seen x hv h n hn;cases as with
  |nil=>cases ps<;>cases h
  |cons a as=>
   have hva:fz=false∨a.viewed=[]:=hv.imp id fun h=>h a (by simp);have hvs:fz=false∨∀a∈as,a.viewed=[]:=hv.imp id fun h a' ha=>h a' (by simp[ha]);cases ps with
   |nil=>
    cases as with
    |nil=>
     simp only[AE.argsm,AE.args]at h;rw[b1E (hv:=hva)]at h;cases hx:a7E fz Γ.look used seen p a with
     |none=>rw[hx]at h;cases h
     |some y=>
      rw[hx]at h;cases h;exact(c4i hx n hn).imp id fun h=>⟨a,by simp,h⟩
    |cons=>cases h
   |cons p' ps=>
    simp only[AE.argsm,AE.args]at h;rw[b1E (hv:=hva)]at h;cases hx:a7E fz Γ.look used seen p a with
    |none=>rw[hx]at h;cases h
    |some y=>
     rw[hx]at h;simp only[a05]at h;rw[args_m Γ fz (p'::ps) as _ _ _ hvs]at h;cases hr:Γ.argsm fz y.2.1 y.2.2 (p'::ps) as with
     |none=>rw[hr]at h;cases h
     |some u=>
      rw[hr]at h;cases h;rcases ih as _ _ u hvs hr n hn with h|⟨a',ha',h⟩;exact(c4i hx n h).imp id fun h=>⟨a,by simp,h⟩;exact .inr ⟨a',by simp[ha'],h⟩
def a6D:List Nat→(Nat→Option Root)→AV→AV
 | [],_=>id
 |n::r,rt=>match rt n with
  |none=>a6D r rt
  |some _=>fun v=>a6D r (fun j=>bif j==n then none else rt j) (AV.drop n v)
theorem b5v:∀(ns:List Nat){rt rt2:Nat→Option Root},(∀n∈ns,rt2 n=rt n)→a6D ns rt2=a6D ns rt
 | [],_,_,_=>rfl
 |n::r,rt,rt2,h=>by
  simp only[a6D,h n (by simp)];cases rt n with
  |none=>exact b5v r fun m hm=>h m (by simp[hm])
  |some x=>
   simp only[];rw[b5v r (rt:=fun j=>bif j==n then none else rt j) (rt2:=fun j=>bif j==n then none else rt2 j) fun m hm=>by
    show(bif m==n then none else rt2 m)=_;rw[h m (by simp[hm])]]
theorem c0V:∀(ns:List Nat)(rt:Nat→Option Root),(∀n∈ns,n∈W∧n<pinned)→FW W (a6D ns rt)
 | [],rt,_=>FW.id
 |n::r,rt,h=>by
  simp only[a6D];cases rt n with
  |none=>exact c0V r rt fun m hm=>h m (by simp[hm])
  |some x=>
   have:=c0V r (fun j=>bif j==n then none else rt j) fun m hm=>h m (by simp[hm])
   exact(FW.drop (h n (by simp)).1 (h n (by simp)).2).comp this this.dead
theorem b3N{m n:Nat}{r:List Nat}(h:¬ m=n):(n::r).contains m=r.contains m:=by
 have:(m==n)=false:=by simpa using h
 simp only[List.contains,List.elem,this]
theorem b8z{ρ:Type}(us:List Nat):∀(ns:List Nat)(Γ:AE)(K:AE→Rs ρ),Γ.dropAll false us ns K =
  bif ns.all fun n=>decide (n<pinned)&&!us.contains n then K ⟨fun i=>(Γ.sl i).mapv (a6D ns Γ.rt),fun n=>bif ns.contains n then none else Γ.rt n,Γ.pd⟩else none
 | [],Γ,K=>by
  simp only[AE.dropAll,List.all_nil,cT,a6D];congr 1;obtain⟨sl,rt,pd⟩:=Γ;simp only[b3M];rfl
 |n::r,Γ,K=>by
  simp only[AE.dropAll,a22];cases (decide (n<pinned)&&!us.contains n);rfl
  ·simp only[cT,a48];cases hr:Γ.rt n with
   |none=>
    simp only[a6D,hr];rw[b8z us r Γ K];congr 2;congr 1;funext m
    by_cases e:m=n
    subst e;simp[hr];rw[b3N e]
   |some x=>
    simp only[cF,a6D,hr];rw[b8z us r];simp only[AE.setRt,AE.mapv,c4g];congr 2;congr 1;funext m
    by_cases e:m=n
    subst e;simp;rw[b3N e]
    have:(m==n)=false:=by simpa using e
    rw[this];rfl
theorem a9n:∀(rs:List RA)(b n:Nat),n∈a2h rs b→n∈a0X rs b
 | [],_,_,h=>h
 |.v _::rs,b,n,h=>a01 _ (a9n rs _ n h)
 |.o _::rs,b,n,h=>by
  rcases mC.1 h with rfl|h;exact a23;exact a01 _ (a9n rs _ n h)
 |.b _::rs,b,n,h=>by
  rcases mC.1 h with rfl|h;exact a23;exact a01 _ (a9n rs _ n h)
theorem c0W{x:Operand}(hx:x∈o.op.operands.toList){n:Nat}(hn:n∈(Γ.opd x).refs):n∈Γ.foot o:=by
 refine a49.2 ⟨x,hx,?_⟩;cases x with
 |tmp t=>
  simp only[AE.opd,AE.get]at hn;show n∈(Γ.sl t).refs
  revert hn
  cases Γ.sl t with
  |one v=>exact id
  |cmp c vs=>exact fun h=>by cases h
 |const v=>
  simp only[AE.opd]at hn;unfold b5R at hn
  split at hn<;>cases hn
 |global g=>cases hn
 |func f=>cases hn
theorem d1d{d:Option Nat}{c:Call}{f:FuncId}{s:FSem}(ho:o.op=.call c)(hb:c.callee=.value (.func f))(hd:o.dst=d)(hpd:Γ.pd=none)(hs:cx.C f=some s)(hW1:∀n∈Γ.foot o,n∈W)(hW2:∀n∈a7p cx o (d.getD 0),n∈W)
    (hv:(s.rs.any RA.hasList || (a4i s.ps).any RA.hasList)=false∨∀a∈c.args.toList.map Γ.opd,a.viewed=[]):a1u g cx o d Γ W:=by
  let fz:=s.rs.any RA.hasList || (a4i s.ps).any RA.hasList
  let b:=d.getD 0+1000
  let nm:=a2h s.rs b
  have hmap:∀Γ2,a1t W (a0r o) Γ Γ2→c.args.toList.map Γ2.opd=c.args.toList.map Γ.opd:=fun Γ2 hA=>a18 fun x hx=>hA.opd (a9G ho x hx);have hrefs:∀a∈c.args.toList.map Γ.opd,∀n∈a.refs,n∈W:=fun a ha n hn=>by
    obtain⟨x,hx,rfl⟩:=a19.1 ha;exact hW1 n (c0W (a9G ho x hx) hn)
  have hres:∀n∈a0X s.rs b,n∈W:=fun n hn=>hW2 n (by simp only[a7p,ho,hb,hs];exact a01 _ hn);have hnmW:∀n∈nm,n∈W:=fun n hn=>hres n (a9n _ _ n hn);have run:∀Γ2,a1t W (a0r o) Γ Γ2→∀{ρ:Type}(K:AE→Rs ρ),aop cx false o Γ2 (gPd g K)=(Γ.argsm fz [] [] s.ps (c.args.toList.map Γ.opd)).elim none fun x=>
      bif nm.all (fun n=>decide (n<pinned)&&!x.2.contains n)then(s.F x.1).bind fun y=>
        (let Γ3:AE:=⟨fun i=>((Γ2.sl i).mapv (a6D nm Γ.rt)).mapv (AV.deeps x.2 ((brw s.ps x.2.reverse).filter fun n=>!b8a (bif nm.contains n then none else Γ2.rt n))),fun n=>match a1o (a0X s.rs b++x.2.reverse) (a1F (RA.all s.ps s.rs) y) n with
          |some r=>some (bif x.2.contains n then a9X (bif nm.contains n then none else Γ2.rt n) r else r)
          |none=>bif nm.contains n then none else Γ2.rt n,none⟩
         match d with
          |none=>gPd g K Γ3
          |some d=>match a2w (a0X s.rs b) (a1F (RA.all s.ps s.rs) y)with
            | [v]=>gPd g K (Γ3.set d v)
            |vs=>gPd g K (Γ3.put d (.cmp .tup vs)))else none:=fun Γ2 hA ρ K=>by
    have e1:aop cx false o Γ2 (gPd g K)=Γ2.call false d s (c.args.toList.map Γ.opd) (gPd g K):=by
      unfold aop;rw[ho,hd];simp only[hb,hs,hmap Γ2 hA]
    rw[e1];unfold AE.call;rw[show Γ2.pd=none from hA.1.trans hpd];simp only[];rw[args_m _ _ _ _ _ _ _ hv,c7y _ _ _ _ _ (fun a ha n hn=>hA.look (hrefs a ha n hn)) hv];cases Γ.argsm (s.rs.any RA.hasList || (a4i s.ps).any RA.hasList) [] [] s.ps (c.args.toList.map Γ.opd)with
    |none=>rfl
    |some x=>
      simp only[a05];rw[b8z,b5v _ fun n hn=>hA.2.1 n (hnmW n hn)];cases d<;>rfl
  cases hx:Γ.argsm fz [] [] s.ps (c.args.toList.map Γ.opd)with
  |none=>exact a1u.none fun Γ2 hA ρ K=>by rw[run Γ2 hA,hx];rfl
  |some x=>
    cases hn:(nm.all fun n=>decide (n<pinned)&&!x.2.contains n)with
    |false=>exact a1u.none fun Γ2 hA ρ K=>by rw[run Γ2 hA,hx];simp only[a05,hn,cF]
    |true=>
      cases hy:s.F x.1 with
      |none=>exact a1u.none fun Γ2 hA ρ K=>by rw[run Γ2 hA,hx];simp only[a05,hn,cT,hy,a84]
      |some y=>
        let its:=a1F (RA.all s.ps s.rs) y
        let ns:=a0X s.rs b
        let sv:SV:=match a2w ns its with
          | [v]=>.one v
          |vs=>.cmp .tup vs
        have hused:∀n∈x.2,n∈W:=fun n hn=>by
          rcases c9e fz s.ps _ _ _ x hv hx n hn with h|⟨a,ha,h⟩;cases h;exact hrefs a ha n h
        have hdf:=c0V nm Γ.rt fun n hn'=>⟨hnmW n hn',by
          have:=lA.1 hn n hn'
          simp only[bA,dT]at this;exact this.1⟩
        have hks:∀Γ2,a1t W (a0r o) Γ Γ2→((brw s.ps x.2.reverse).filter fun n=>!b8a (bif nm.contains n then none else Γ2.rt n))=(brw s.ps x.2.reverse).filter fun n=>!b8a (bif nm.contains n then none else Γ.rt n):=fun Γ2 hA=>
          a59 fun n hn=>by
            obtain⟨k,i,e,h1,-⟩:=b9A s.ps x.2.reverse 0 n hn;rw[hA.2.1 n (hused n (a62.1 (a37 h1)))]
        refine a1u.some (fun v=>AV.deeps x.2 ((brw s.ps x.2.reverse).filter fun n=>!b8a (bif nm.contains n then none else Γ.rt n)) (a6D nm Γ.rt v)) (hdf.comp (FW.deeps hused)) sv ((ns++x.2.reverse)++nm) (fun n hn=>?_) (fun n=>match a1o (ns++x.2.reverse) its n with
          |some r=>some (bif x.2.contains n then a9X (bif nm.contains n then none else Γ.rt n) r else r)
          |none=>bif nm.contains n then none else Γ.rt n) fun Γ2 hA ρ K=>?_
        rcases mA.1 hn with hn|hn;rcases mA.1 hn with hn|hn;exact hres n hn;exact hused n (a62.1 hn);exact hnmW n hn;rw[run Γ2 hA,hx];simp only[a05,hn,cT,hy,oB];have hrt:(fun n=>match a1o (ns++x.2.reverse) its n with
            |some r=>some (bif x.2.contains n then a9X (bif nm.contains n then none else Γ2.rt n) r else r)
            |none=>bif nm.contains n then none else Γ2.rt n)=fun n=>bif ((ns++x.2.reverse)++nm).contains n then(match a1o (ns++x.2.reverse) its n with
            |some r=>some (bif x.2.contains n then a9X (bif nm.contains n then none else Γ.rt n) r else r)
            |none=>bif nm.contains n then none else Γ.rt n)else Γ2.rt n:=by
          funext n;cases hS:((ns++x.2.reverse)++nm).contains n with
          |true=>
            have hnW:n∈W:=by
              have hS:n∈(ns++x.2.reverse)++nm:=by simpa using hS
              rcases mA.1 hS with hn|hn;rcases mA.1 hn with hn|hn;exact hres n hn;exact hused n (a62.1 hn);exact hnmW n hn
            rw[hA.2.1 n hnW];rfl
          |false=>
            have hS:n∉(ns++x.2.reverse)++nm:=fun h=>by
              have:((ns++x.2.reverse)++nm).contains n=true:=by simpa using h
              rw[this]at hS;cases hS
            have h1:a1o (ns++x.2.reverse) its n=none:=by
              cases e:a1o (ns++x.2.reverse) its n with
              |none=>rfl
              |some r=>exact absurd (a17 _ (b0g _ _ _ (by rw[e];simp))) hS
            have h2:nm.contains n=false:=by
              cases e:nm.contains n with
              |false=>rfl
              |true=>exact absurd (a06 _ (by simpa using e)) hS
            rw[h1,h2];rfl
        have hΓ:∀sv':SV,(⟨fun i=>bif d==some i then sv' else((Γ2.sl i).mapv (a6D nm Γ.rt)).mapv (AV.deeps x.2 ((brw s.ps x.2.reverse).filter fun n=>!b8a (bif nm.contains n then none else Γ2.rt n))),fun n=>match a1o (a0X s.rs b++x.2.reverse) (a1F (RA.all s.ps s.rs) y) n with
            |some r=>some (bif x.2.contains n then a9X (bif nm.contains n then none else Γ2.rt n) r else r)
            |none=>bif nm.contains n then none else Γ2.rt n,none⟩:AE)=⟨fun i=>bif d==some i then sv' else(Γ2.sl i).mapv (fun v=>AV.deeps x.2 ((brw s.ps x.2.reverse).filter fun n=>!b8a (bif nm.contains n then none else Γ.rt n)) (a6D nm Γ.rt v)),fun n=>bif ((ns++x.2.reverse)++nm).contains n then(match a1o (ns++x.2.reverse) its n with
            |some r=>some (bif x.2.contains n then a9X (bif nm.contains n then none else Γ.rt n) r else r)
            |none=>bif nm.contains n then none else Γ.rt n)else Γ2.rt n,Γ2.pd⟩:=fun sv'=>by
          rw[hks Γ2 hA];rw[←hrt,hA.1,hpd];congr 1;funext i;rw[c4g]
        rw[←hΓ sv];cases d with
        |none=>
          rw[a9I rfl];rfl
        |some d=>
          have e1:∀i,(some d==some i)=(i==d):=fun i=>by
            by_cases h:i=d
            subst h;simp;have h1:(i==d)=false:=by simpa using h
            have h2:(some d==some i)=false:=by simpa using Ne.symm h
            rw[h1,h2]
          simp only[e1,AE.set,AE.put,sv];show(match a2w ns its with
            | [v]=>gPd g K _
            |vs=>gPd g K _)=_
          generalize a2w ns its=vs
          split<;>exact a9I rfl
theorem c7z{c:Call}(ho:o.op=.call c)(hb:c.callee=.builtin .append)(hd:o.dst=some d)(hpd:Γ.pd=none)(hW1:∀n∈Γ.foot o,n∈W)(hdW:d∈W)(hel:b8c cx c.argTypes.toList=false):a1u g cx o (some d) Γ W:=by
 have run:∀Γ2,a1t W (a0r o) Γ Γ2→∀{ρ:Type}(K:AE→Rs ρ),aop cx false o Γ2 K=Γ2.blt false cx d .append c.argTypes.toList (c.args.toList.map Γ.opd) K:=fun Γ2 hA ρ K=>by
  simp only[aop,ho,hd,hb];rw[a18 fun x hx=>hA.opd (a9G ho x hx)]
 have hrefs:∀a∈c.args.toList.map Γ.opd,∀n∈a.refs,n∈W:=fun a ha n hn=>by
  obtain⟨x,hx,rfl⟩:=a19.1 ha;exact hW1 n (c0W (a9G ho x hx) hn)
 revert run hrefs hel
 generalize c.args.toList.map Γ.opd=as;generalize c.argTypes.toList=ts;intro hel run hrefs;have no:(∀(Γ2:AE){ρ:Type}(K:AE→Rs ρ),Γ2.blt false cx d .append ts as K=none)→a1u g cx o (some d) Γ W:=fun h=>a1u.none fun Γ2 hA ρ K=>by rw[run Γ2 hA];exact h Γ2 _
 match as with
 | []=>exact no fun Γ2 ρ K=>rfl
 | [_]=>exact no fun Γ2 ρ K=>rfl
 |_::_::_::_=>exact no fun Γ2 ρ K=>rfl
 | [a,b]=>
  have hxW:∀n∈a.refs,n∈W:=hrefs a (by simp);have hyW:∀n∈b.refs,n∈W:=hrefs b (by simp);cases hni:b8b cx ts with
  |false=>exact no fun Γ2 ρ K=>by simp only[AE.blt,hni,cF]
  |true=>
   cases ht:ts.head?.bind cx.T with
   |none=>exact no fun Γ2 ρ K=>by simp only[AE.blt,hni,ht,cT]
   |some τ=>
    cases τ with
    |list o' e=>
     have hel:e.isList=false:=by simpa only[b8c,ht]using hel
     have els:(∀(Γ2:AE){ρ:Type}(K:AE→Rs ρ),Γ2.blt false cx d .append ts [a,b] K=Γ2.elems e b fun ys=>Γ2.apnd false d e a ys K)→a1u g cx o (some d) Γ W:=fun h=>
      c4h hpd hdW (e:=e) (x:=a) hxW (ys:=a7X Γ.look e b) fun Γ2 hA ρ K=>by
       rw[run Γ2 hA,h,b3v,b3K fun n hn=>hA.look (hyW n hn)]
     cases b with
     |val t y=>
      cases t with
      |str=>
       by_cases he:e=.int .u8
       subst he;exact c4h hpd hdW (e:=.int .u8) (x:=a) hxW (ys:=some y) fun Γ2 hA ρ K=>by
        rw[run Γ2 hA];simp only[AE.blt,hni,ht,cT];rfl
       exact no fun Γ2 ρ K=>by
        simp only[AE.blt,hni,ht,cT];rw[dif_neg he]
      |_=>exact els fun Γ2 ρ K=>by simp only[AE.blt,hni,ht,cT,hel,a91,Bool.or_true]
     |_=>exact els fun Γ2 ρ K=>by simp only[AE.blt,hni,ht,cT,hel,a91,Bool.or_true]
    |_=>exact no fun Γ2 ρ K=>by simp only[AE.blt,hni,ht,cT]
theorem c0X{d:Option Nat}(Γ:AE):Γ.setD d .dead=⟨fun i=>bif d==some i then .one .dead else Γ.sl i,Γ.rt,Γ.pd⟩:=by
 cases d with
 |none=>rfl
 |some d=>
  simp only[AE.setD,AE.set,AE.put];congr 1;funext i
  by_cases h:i=d
  subst h;simp;have h1:(i==d)=false:=by simpa using h
  have h2:(some d==some i)=false:=by simpa using Ne.symm h
  rw[h1,h2]
theorem d1e{d:Option Nat}(hpd:Γ.pd=none){t:Ty}{n:Nat}{p:a0N}{x:AV}(hnW:n∈W)(hv:x.viewed=[])(h:∀Γ2,a1t W (a0r o) Γ Γ2→∀{ρ:Type}(K:AE→Rs ρ),aop cx false o Γ2 K=Γ2.stor t n p x fun Γ=>K (Γ.setD d .dead)):a1u g cx o d Γ W:=by
 have hrt:∀Γ2,a1t W (a0r o) Γ Γ2→Γ2.rt n=Γ.rt n:=fun Γ2 hA=>hA.2.1 n hnW;have hlk:∀Γ2,a1t W (a0r o) Γ Γ2→Γ2.look n=Γ.rt n:=fun Γ2 hA=>by rw[hA.look hnW];simp only[AE.look,hpd]
 cases hr:Γ.rt n with
 |none=>exact a1u.none fun Γ2 hA ρ K=>by rw[h Γ2 hA];simp only[AE.stor,hrt Γ2 hA,hr]
 |some r=>
  have plain:∀tt y,a0W r.t r.x p=⟨tt,y⟩→(∀e,tt≠.list true e)→a1u g cx o d Γ W:=fun tt y hg hno=>by
   have st:∀Γ2,a1t W (a0r o) Γ Γ2→∀{ρ:Type}(K:AE→Rs ρ),aop cx false o Γ2 K=if tt.shn=tt∧tt.sh=t then(a5M tt x).elim none fun y=>K ((Γ2.setRt n (some ⟨r.bx,r.t,a1y r.t r.x p tt y⟩)).setD d .dead)else Γ2.overP t n r x (fun Γ=>K (Γ.setD d .dead)) p:=fun Γ2 hA ρ K=>by
    rw[h Γ2 hA];unfold AE.stor;rw[hrt Γ2 hA,hr];simp only[hg];have body:(if tt.shn=tt∧tt.sh=t then Γ2.asV false tt x fun y Γ'=>(match Γ'.look n with
      |some r=>if(a0W r.t r.x p).1=tt then K ((Γ'.setRt n (some ⟨r.bx,r.t,a1y r.t r.x p tt y⟩)).setD d .dead)else none
      |none=>none)else Γ2.overP t n r x (fun Γ=>K (Γ.setD d .dead)) p)=if tt.shn=tt∧tt.sh=t then(a5M tt x).elim none fun y=>K ((Γ2.setRt n (some ⟨r.bx,r.t,a1y r.t r.x p tt y⟩)).setD d .dead)else Γ2.overP t n r x (fun Γ=>K (Γ.setD d .dead)) p:=by
     split
     ·rw[d2Z Γ2 tt x hv];cases a5M tt x with
      |none=>rfl
      |some y=>simp only[a05,hlk Γ2 hA,hr,hg,if_true]
     rfl
    rw[←body];cases tt with
    |list o' e=>cases o' with
     |true=>exact absurd rfl (hno e)
     |false=>rfl
    |_=>rfl
   by_cases hc:tt.shn=tt∧tt.sh=t
   ·cases ha:a5M tt x with
    |none=>exact a1u.none fun Γ2 hA ρ K=>by rw[st Γ2 hA,if_pos hc,ha];rfl
    |some y=>
     refine a1u.some id FW.id (.one .dead) [n] (by simpa using hnW) (fun _=>some ⟨r.bx,r.t,a1y r.t r.x p tt y⟩) fun Γ2 hA ρ K=>?_
     rw[st Γ2 hA,if_pos hc,ha];simp only[a05];rw[c0X,a9I (by exact hA.1.trans hpd)];congr 1;simp only[AE.setRt,a2y,b3M]
   ·cases p with
    |cons s p=>exact a1u.none fun Γ2 hA ρ K=>by rw[st Γ2 hA,if_neg hc];rfl
    |nil=>
     have no:(∀Γ2,a1t W (a0r o) Γ Γ2→∀{ρ:Type}(K:AE→Rs ρ),Γ2.over t n r x K=none)→a1u g cx o d Γ W:=fun h2=>a1u.none fun Γ2 hA ρ K=>by
      rw[st Γ2 hA,if_neg hc];exact h2 Γ2 hA (fun Γ=>gPd g K (Γ.setD d .dead))
     have yes:∀(t2:Ty)(z:t2.den),(∀Γ2,a1t W (a0r o) Γ Γ2→∀{ρ:Type}(K:AE→Rs ρ),Γ2.over t n r x K=K ((Γ2.mapv (AV.deeps [n] [])).setRt n (some ⟨true,t2,z⟩)))→a1u g cx o d Γ W:=fun t2 z h2=>by
      refine a1u.some (AV.deeps [n] []) (FW.deeps (by simpa using hnW)) (.one .dead) [n] (by simpa using hnW) (fun _=>some ⟨true,t2,z⟩) fun Γ2 hA ρ K=>?_
      rw[st Γ2 hA,if_neg hc];simp only[AE.overP];rw[h2 Γ2 hA,c0X,a9I (by exact hA.1.trans hpd)];congr 1;simp only[AE.setRt,AE.mapv,a2y]
     have hlk':∀Γ2,a1t W (a0r o) Γ Γ2→Γ2.look n=some r:=fun Γ2 hA=>(hlk Γ2 hA).trans hr;cases x with
     |val t' y=>
      by_cases hcc:r.bx=true∧(r.t.sh=t∧(t'.shn=t'∧t'.sh=t))
      ·cases h1:castTo t' r.t y with
       |some z=>exact yes r.t z fun Γ2 hA ρ K=>by simp only[AE.over,hlk' Γ2 hA,if_pos hcc,h1]
       |none=>
        cases h2:castTo t' r.t.shn y with
        |some z=>exact yes r.t.shn z fun Γ2 hA ρ K=>by simp only[AE.over,hlk' Γ2 hA,if_pos hcc,h1,h2]
        |none=>exact yes t' y fun Γ2 hA ρ K=>by simp only[AE.over,hlk' Γ2 hA,if_pos hcc,h1,h2]
      exact no fun Γ2 hA ρ K=>by simp only[AE.over,hlk' Γ2 hA,if_neg hcc]
     |_=>exact no fun Γ2 hA ρ K=>rfl
  cases hg:a0W r.t r.x p with
  |mk tt l=>
   cases tt with
   |list o' e=>
    cases o' with
    |false=>exact plain _ l hg (by simp)
    |true=>
     by_cases hty:t.isList=true
     ·have no:(∀Γ2,a1t W (a0r o) Γ Γ2→∀{ρ:Type}(K:AE→Rs ρ),Γ2.stor t n p x K=none)→a1u g cx o d Γ W:=fun h2=>a1u.none fun Γ2 hA ρ K=>by rw[h Γ2 hA];exact h2 Γ2 hA _
      cases x with
      |nils=>
       refine a1u.some (AV.kill n p) (FW.kill hnW p) (.one .dead) [n] (by simpa using hnW) (fun _=>some ⟨r.bx,r.t,a1y r.t r.x p (.list true e) []⟩) fun Γ2 hA ρ K=>?_
       rw[h Γ2 hA];simp only[AE.stor,hrt Γ2 hA,hr,hg,hty,if_true,hlk Γ2 hA];rw[c0X,a9I (by exact hA.1.trans hpd)];congr 1;simp only[AE.setRt,AE.mapv,a2y]
      |sref m q=>cases hv
      |_=>exact no fun Γ2 hA ρ K=>by simp only[AE.stor,hrt Γ2 hA,hr,hg,hty,if_true]
     exact a1u.none fun Γ2 hA ρ K=>by rw[h Γ2 hA];simp only[AE.stor,hrt Γ2 hA,hr,hg,hty,if_false,a04]
   |_=>exact plain _ l hg (by simp)
theorem c4j{Γ2:AE}(hA:a1t W (a0r o) Γ Γ2):wOk cx o Γ2=wOk cx o Γ:=by
 unfold wOk;cases ho:o.op<;>try rfl
 case store t a x=>
  simp only[];rw[hA.opd (by rw[ho];simp[Op.operands]),hA.aggOf (by rw[ho];simp[Op.operands])]
 rename_i c;simp only[];cases hc:c.callee with
 |value v=>
  cases v with
  |func f=>
   simp only[];cases cx.C f with
   |none=>rfl
   |some s=>
    simp only[];congr 1
    have:∀x∈c.args.toList,(Γ2.opd x).viewed.isEmpty=(Γ.opd x).viewed.isEmpty:=fun x hx=>by rw[hA.opd (a9G ho x hx)]
    exact all_congr' this
  |_=>rfl
 |builtin b=>cases b<;>rfl
 |invoke r n=>rfl
where
 all_congr' {α:Type} {l:List α} {p q:α→Bool} (h:∀x∈l,p x=q x):l.all p=l.all q:=by
  induction l with
  |nil=>rfl
  |cons a l ih=>simp only[a22];rw[h a (by simp),ih fun x hx=>h x (by simp[hx])]
theorem c1S{Γ2:AE}(hA:∀t∈a0r o,Γ2.sl t=Γ.sl t):Γ2.foot o=Γ.foot o:=by
 unfold AE.foot
 have:∀x∈o.op.operands.toList,(match x with
  |.tmp t=>(Γ2.sl t).refs
  |_=>[])=(match x with
  |.tmp t=>(Γ.sl t).refs
  |_=>[]):=fun x hx=>by
  cases x with
  |tmp t=>simp only[hA t (a2J hx)]
  |_=>rfl
 exact flatMap_congr' this
where
 flatMap_congr' {α β:Type} {l:List α} {p q:α→List β} (h:∀x∈l,p x=q x):l.flatMap p=l.flatMap q:=by
  induction l with
  |nil=>rfl
  |cons a l ih=>simp only[List.flatMap_cons];rw[h a (by simp),ih fun x hx=>h x (by simp[hx])]
theorem c5W(hpd:Γ.pd=none)(hok:wOk cx o Γ=true)(hW1:∀n∈Γ.foot o,n∈W)(hW2:∀n∈a7p cx o (o.dst.getD 0),n∈W):a1u g cx o o.dst Γ W:=by
 unfold wOk at hok
 split at hok
 rename_i c ho
 split at hok
 rename_i hc;simp only[bA,a08]at hok;obtain⟨d,hd⟩:=a03.1 hok.1;rw[hd];exact c7z ho hc hd hpd hW1 (hW2 d (by rw[hd];exact a23)) hok.2;rename_i f hc
 split at hok
 rename_i s hs;refine d1d ho hc rfl hpd hs hW1 hW2 ?_
 simp only[a50,a08]at hok;refine hok.imp id fun h a ha=>?_
 obtain⟨x,hx,rfl⟩:=a19.1 ha
 have:=lA.1 h x hx
 simpa using this;cases hok;cases hok
 ·rename_i t a x ho;have ha:a∈o.op.operands.toList:=by rw[ho];simp[Op.operands]
  have hx:x∈o.op.operands.toList:=by rw[ho];simp[Op.operands]
  obtain⟨hok,hag⟩:=a21.1 hok;have hag:Γ.aggOf x=none:=by simpa using hag
  have hop:∀Γ2:AE,a1t W (a0r o) Γ Γ2→∀{ρ:Type}(K:AE→Rs ρ),aop cx false o Γ2 K=(match Γ2.opd a with
    |.ptr n p=>(match cx.T t with
     |some t=>Γ2.stor t n p (Γ2.opd x) fun Γ=>K (Γ.setD o.dst .dead)
     |none=>none)
    |_=>none):=fun Γ2 hA ρ K=>by
   have hag2:Γ2.aggOf x=none:=(hA.aggOf hx).trans hag;unfold aop;rw[ho];simp only[hag2];cases o.dst<;>rfl
  cases hpa:Γ.opd a with
  |ptr n p=>
   cases ht:cx.T t with
   |none=>exact a1u.none fun Γ2 hA ρ K=>by rw[hop Γ2 hA,hA.opd ha,hpa,ht]
   |some τ=>
    refine d1e hpd (t:=τ) (n:=n) (p:=p) (x:=Γ.opd x) (hW1 n (c0W ha (by rw[hpa];simp[AV.refs]))) (by simpa using hok) fun Γ2 hA ρ K=>?_
    rw[hop Γ2 hA,hA.opd ha,hpa,ht,hA.opd hx]
  |_=>exact a1u.none fun Γ2 hA ρ K=>by rw[hop Γ2 hA,hA.opd ha,hpa]
 cases hok
theorem b6U{ρ:Type}{ops:Array Oper}{ws:List Nat}{K:AE→Rs ρ}{z:ρ}(hz:a0O cx (.w ws) ops.toList o Γ K=some z):
  ∃(W:List Nat)(m:MDl),FW W m.f∧(∀n∈W,n∈ws)∧K (a4p W m o.dst Γ)=some z∧
   ∀Γ2,a1t W (o.looksAt ops) Γ Γ2→∀{ρ2:Type}(K2:AE→Rs ρ2),a0O cx (.w ws) ops.toList o Γ2 K2=K2 (a4p W m o.dst Γ2):=by
 rw[a9H]at hz;cases hl:a2B ops o Γ with
 |none=>rw[hl]at hz;cases hz
 |some b=>
  rw[hl]at hz;cases b with
  |false=>
   have hsk:∀Γ2:AE,Γ2.setD o.dst .skp=a4p [] ⟨id,fun _=>none,.one .skp,none⟩ o.dst Γ2:=fun Γ2=>by
    simp only[a4p,b3M];cases o.dst with
    |none=>rfl
    |some d=>
     simp only[AE.setD,AE.set,AE.put];congr 1;funext i
     by_cases h:i=d
     subst h;simp;have h1:(i==d)=false:=by simpa using h
     have h2:(some d==some i)=false:=by simpa using Ne.symm h
     rw[h1,h2]
   refine⟨[],⟨id,fun _=>none,.one .skp,none⟩,FW.id,fun n hn=>(by cases hn),by rw[←hsk Γ];exact hz,fun Γ2 hA ρ2 K2=>?_⟩;rw[a9H,a9m hA.2.2,hl,←hsk Γ2]
  |true=>
   simp only[a4c]at hz;cases hpd:Γ.pd with
   |some p=>rw[hpd]at hz;cases hz
   |none=>
    rw[hpd]at hz;simp only[]at hz;obtain⟨hok,hz⟩:=(a0g hz).elim id fun h=>by cases h.2
    simp only[bA]at hok;obtain⟨hok,hs1,hs2⟩:=hok
    let W:=Γ.foot o++a7p cx o (o.dst.getD 0)
    obtain⟨r,hr0,hr⟩:=c5W (g:=true) (cx:=cx) (W:=W) hpd hok (fun n hn=>a17 _ hn) (fun n hn=>a06 _ hn);have hz:aop cx false o Γ (gPd true K)=some z:=hz;rw[hr Γ a1t.refl]at hz;cases r with
    |none=>cases hz
    |some m=>
     have hz:K (a8w W m o.dst Γ)=some z:=hz;rw[c5m ((hr0 m rfl).2 rfl)]at hz;refine⟨W,m,(hr0 m rfl).1,fun n hn=>(mA.1 hn).elim (b1i hs1) (b1i hs2),hz,fun Γ2 hA ρ2 K2=>?_⟩;have hA':a1t W (a0r o) Γ Γ2:=⟨hA.1,hA.2.1,fun t ht=>hA.2.2 t (a5s ht)⟩;rw[a9H,a9m hA.2.2,hl];simp only[a4c];rw[hA.1,hpd,c4j hA',hok,c1S hA'.2.2,hs1,hs2];refine Eq.trans (hr Γ2 hA' K2) ?_
     simp only[c5n];rw[c5m ((hr0 m rfl).2 rfl)]
theorem c9f{ρ:Type}{ops:Array Oper}{ws:List Nat}{K:AE→Rs ρ}{z:ρ}(hz:a0O cx (.a ws) ops.toList o Γ K=some z):
  ∃(W:List Nat)(m:MDl),FW W m.f∧(∀n∈W,n∈ws)∧K (a8w W m o.dst Γ)=some z∧
   ∀Γ2,a1t W (o.looksAt ops) Γ Γ2→∀{ρ2:Type}(K2:AE→Rs ρ2),a0O cx (.a ws) ops.toList o Γ2 K2=K2 (a8w W m o.dst Γ2):=by
 rw[a9H]at hz;cases hl:a2B ops o Γ with
 |none=>rw[hl]at hz;cases hz
 |some b=>
  rw[hl]at hz;cases b with
  |false=>
   have hsk:∀Γ2:AE,Γ2.setD o.dst .skp=a4p [] ⟨id,fun _=>none,.one .skp,none⟩ o.dst Γ2:=fun Γ2=>by
    simp only[a4p,b3M];cases o.dst with
    |none=>rfl
    |some d=>
     simp only[AE.setD,AE.set,AE.put];congr 1;funext i
     by_cases h:i=d
     subst h;simp;have h1:(i==d)=false:=by simpa using h
     have h2:(some d==some i)=false:=by simpa using Ne.symm h
     rw[h1,h2]
   refine⟨[],⟨id,fun _=>none,.one .skp,none⟩,FW.id,fun n hn=>(by cases hn),by rw[c5m rfl,←hsk Γ];exact hz,fun Γ2 hA ρ2 K2=>?_⟩;rw[a9H,a9m hA.2.2,hl,c5m rfl,←hsk Γ2]
  |true=>
   simp only[a4c]at hz;cases hpd:Γ.pd with
   |some p=>rw[hpd]at hz;cases hz
   |none=>
    rw[hpd]at hz;simp only[]at hz;obtain⟨hok,hz⟩:=(a0g hz).elim id fun h=>by cases h.2
    simp only[bA]at hok;obtain⟨hok,hs1,hs2⟩:=hok
    let W:=Γ.foot o++a7p cx o (o.dst.getD 0)
    obtain⟨r,hr0,hr⟩:=c5W (g:=false) (cx:=cx) (W:=W) hpd hok (fun n hn=>a17 _ hn) (fun n hn=>a06 _ hn);have hz:aop cx false o Γ (gPd false K)=some z:=hz;rw[hr Γ a1t.refl]at hz;cases r with
    |none=>cases hz
    |some m=>
     have hz:K (a8w W m o.dst Γ)=some z:=hz;refine⟨W,m,(hr0 m rfl).1,fun n hn=>(mA.1 hn).elim (b1i hs1) (b1i hs2),hz,fun Γ2 hA ρ2 K2=>?_⟩;have hA':a1t W (a0r o) Γ Γ2:=⟨hA.1,hA.2.1,fun t ht=>hA.2.2 t (a5s ht)⟩;rw[a9H,a9m hA.2.2,hl];simp only[a4c];rw[hA.1,hpd,c4j hA',hok,c1S hA'.2.2,hs1,hs2];exact hr Γ2 hA' K2
end
end Go.Ab
namespace Go.Ab
theorem AE.ext'{Γ Γ2:AE}(h1:∀i,Γ.sl i=Γ2.sl i)(h2:∀n,Γ.rt n=Γ2.rt n)(h3:Γ.pd=Γ2.pd):Γ=Γ2:=by
 obtain⟨a,b,c⟩:=Γ;obtain⟨a',b',c'⟩:=Γ2;obtain rfl:a=a':=funext h1;obtain rfl:b=b':=funext h2;obtain rfl:c=c':=h3;rfl
theorem b2p(δ:Dl)(d:Nat)(Γ:AE)(i:Nat):(δ.app d Γ).sl i=if i=d then δ.sv else Γ.sl i:=by
 simp only[Dl.app]
 by_cases h:i=d
 simp[h]
 have:(i==d)=false:=by simpa using h
 simp[this,h]
theorem a1v{δ:Dl}{d:Nat}{Γ:AE}{n:Nat}(h:find δ.rs n=none):(δ.app d Γ).rt n=Γ.rt n:=by simp[Dl.app,h]
theorem c7A{δ:Dl}{d:Nat}{Γ:AE}{n:Nat}(h:find δ.rs n≠none):(δ.app d Γ).rt n≠none:=by
 cases e:find δ.rs n with
 |none=>exact absurd e h
 |some r=>simp[Dl.app,e]
theorem b8A{δ:Dl}{d:Nat}{Γ:AE}(h:∀n,find δ.rs n≠none→Γ.rt n=none){n:Nat}(hn:Γ.rt n≠none):(δ.app d Γ).rt n=Γ.rt n:=
 a1v (by
  cases e:find δ.rs n with
  |none=>rfl
  |some r=>exact absurd (h n (by rw[e];simp)) hn)
theorem a3n(W:List Nat)(m:MDl)(d:Option Nat)(Γ:AE)(i:Nat):(a4p W m d Γ).sl i=if d=some i then m.sv else(Γ.sl i).mapv m.f:=by
 simp only[a4p]
 by_cases h:d=some i
 subst h;simp
 have:(d==some i)=false:=by simpa using h
 rw[if_neg h,this];rfl
theorem a8x{W:List Nat}{m:MDl}{d:Option Nat}{Γ:AE}{n:Nat}(h:n∉W):(a4p W m d Γ).rt n=Γ.rt n:=by
 simp only[a4p]
 have:W.contains n=false:=by
  cases e:W.contains n with
  |false=>rfl
  |true=>exact absurd (by simpa using e) h
 rw[this];rfl
theorem c0Y{a b:List Nat}(h:disj a b=true){n:Nat}(h1:n∈a):n∉b:=by
 have:=lA.1 h n h1
 simpa using this
theorem a6W(Γ:AE)(d:Nat)(sv:SV)(i:Nat):(Γ.put d sv).sl i=if i=d then sv else Γ.sl i:=by
 simp only[AE.put]
 by_cases h:i=d
 simp[h]
 have:(i==d)=false:=by simpa using h
 simp[this,h]
section
variable {ρ:Type} {cx:Cx} {ops:Array Oper} {k i:Oper} {dk di:Nat} {Γ:AE} {K:AE→Rs ρ} {z:ρ}
theorem d3P{mk mi:Md}(hmk:mk.quiet)(hmi:mi.quiet)(hdk:k.dst=some dk)(hdi:i.dst=some di)(hap:k.apart ops i=true)(hroots:∀t∈i.looksAt ops,∀n∈(Γ.sl t).refs,mi.reads n→Γ.rt n≠none)
  (hz:a0O cx mk ops.toList k Γ (fun Γ1=>a0O cx mi ops.toList i Γ1 K)=some z):a0O cx mi ops.toList i Γ (fun Γ1=>a0O cx mk ops.toList k Γ1 K)=some z:=by
 obtain⟨a1,a2,a3⟩:=Oper.apart_spec hap;have a1:=a1 dk hdk;have a2:di≠dk:=fun e=>a2 dk hdk (by rw[hdi,e]);have a3:=a3 di hdi;obtain⟨δk,Lk,h1,h2,h3,h4⟩:=c5V hmk hdk hz;obtain⟨δi,Li,g1,g2,g3,g4⟩:=c5V hmi hdi h2;have hik:∀n,find δi.rs n≠none→find δk.rs n=none:=fun n hn=>by
  have:=g3 n hn
  cases e:find δk.rs n with
  |none=>rfl
  |some r=>exact absurd this (c7A (by rw[e];simp))
 have hiΓ:∀n,find δi.rs n≠none→Γ.rt n=none:=fun n hn=>by rw[←g3 n hn,a1v (hik n hn)]
 have hAi:c5U mi Li (δk.app dk Γ) Γ:=by
  refine⟨rfl,fun t ht=>?_⟩;have htd:t≠dk:=fun e=>a1 (e▸(g1 t ht).1);have hs:(δk.app dk Γ).sl t=Γ.sl t:=by rw[b2p,if_neg htd]
  refine⟨hs.symm,fun n hn=>?_⟩;intro hv;have hq:=((g1 t ht).2 n hn hv).1;rw[hs]at hn;exact(b8A h3 (hroots t (g1 t ht).1 n hn hq)).symm
 rw[g4 Γ hAi hiΓ];have hAk:c5U mk Lk Γ (δi.app di Γ):=by
  refine⟨rfl,fun t ht=>?_⟩;have htd:t≠di:=fun e=>a3 (e▸(h1 t ht).1);exact⟨by rw[b2p,if_neg htd],fun n hn hv=>b8A hiΓ ((h1 t ht).2 n hn hv).2⟩
 have hki:∀n,find δk.rs n≠none→find δi.rs n=none:=fun n hn=>by
  cases e:find δi.rs n with
  |none=>rfl
  |some r=>exact absurd (hik n (by rw[e];simp)) hn
 rw[h4 _ hAk fun n hn=>by rw[a1v (hki n hn)];exact h3 n hn,←g2];congr 1;refine AE.ext' (fun j=>?_) (fun n=>?_) rfl;simp only[b2p]
 by_cases e1:j=dk
 rw[if_pos e1,if_neg (fun e=>a2 (e.symm.trans e1)),if_pos e1];rw[if_neg e1,if_neg e1]
 ·cases e1:find δk.rs n with
  |none=>
   rw[a1v e1];cases e2:find δi.rs n with
   |none=>rw[a1v e2,a1v e2,a1v e1]
   |some r=>simp[Dl.app,e2]
  |some r=>
   rw[a1v (hki n (by rw[e1];simp))];simp[Dl.app,e1]
theorem d3Q{ws:List Nat}(hdk:k.dst=some dk)(hap:k.apart ops i=true)
  (hz:a0O cx .v ops.toList k Γ (fun Γ1=>a0O cx (.w ws) ops.toList i Γ1 K)=some z):a0O cx (.w ws) ops.toList i Γ (fun Γ1=>a0O cx .v ops.toList k Γ1 K)=some z:=by
 obtain⟨a1,a2,a3⟩:=Oper.apart_spec hap;have a1:=a1 dk hdk;have a2:=a2 dk hdk;obtain⟨sv,L,h1,h2,h3,h4⟩:=c9a hdk hz;obtain⟨W,m,g1,-,g2,g3⟩:=b6U h3;have s1:a1t W (i.looksAt ops) (Γ.put dk sv) Γ:=⟨rfl,fun _ _=>rfl,fun t ht=>by
  have htd:t≠dk:=fun e=>a1 (by rw[←e];exact ht);rw[a6W,if_neg htd]⟩
 have s2:∀t∈L,(a4p W m i.dst Γ).sl t=Γ.sl t:=fun t ht=>by
  have htd:¬ i.dst=some t:=fun e=>a3 t e (h2 t ht).1;rw[a3n,if_neg htd];exact g1.fp.sv (h2 t ht).2
 rw[g3 Γ s1,h4 (a4p W m i.dst Γ) rfl s2,←g2];congr 1;refine AE.ext' (fun j=>?_) (fun n=>rfl) rfl;simp only[a6W,a3n]
 by_cases e1:j=dk
 subst e1;rw[if_pos rfl,if_neg a2,if_pos rfl];exact(g1.fp.sv h1).symm;rw[if_neg e1,if_neg e1]
theorem d3R{ws:List Nat}(hdi:i.dst=some di)(hap:k.apart ops i=true)
  (hz:a0O cx (.w ws) ops.toList k Γ (fun Γ1=>a0O cx .v ops.toList i Γ1 K)=some z):a0O cx .v ops.toList i Γ (fun Γ1=>a0O cx (.w ws) ops.toList k Γ1 K)=some z:=by
 obtain⟨a1,a2,a3⟩:=Oper.apart_spec hap;have a3:=a3 di hdi;have a2:¬ k.dst=some di:=fun e=>a2 di e hdi;obtain⟨W,m,g1,-,g2,g3⟩:=b6U hz;obtain⟨sv,L,h1,h2,h3,h4⟩:=c9a hdi g2;have s1:∀t∈L,Γ.sl t=(a4p W m k.dst Γ).sl t:=fun t ht=>by
  have h5:=(h2 t ht).2;have htd:¬ k.dst=some t:=fun e=>a1 t e (h2 t ht).1;rw[a3n,if_neg htd]at h5⊢;exact(g1.fp.sv' h5).symm
 have s2:a1t W (k.looksAt ops) Γ (Γ.put di sv):=⟨rfl,fun _ _=>rfl,fun t ht=>by
  have htd:t≠di:=fun e=>a3 (by rw[←e];exact ht);rw[a6W,if_neg htd]⟩
 rw[h4 Γ rfl s1,g3 (Γ.put di sv) s2,←h3];congr 1;refine AE.ext' (fun j=>?_) (fun n=>rfl) rfl;simp only[a6W,a3n]
 by_cases e2:j=di
 subst e2;rw[if_neg a2,if_pos rfl,if_pos rfl];exact g1.fp.sv h1;rw[if_neg e2,if_neg e2]
theorem b6V(W:List Nat)(m:MDl)(d:Option Nat)(Γ:AE)(i:Nat):(a8w W m d Γ).sl i=if d=some i then m.sv else(Γ.sl i).mapv m.f:=a3n W m d Γ i
theorem d3S{ws:List Nat}(hdk:k.dst=some dk)(hap:k.apart ops i=true)
  (hz:a0O cx .p ops.toList k Γ (fun Γ1=>a0O cx (.w ws) ops.toList i Γ1 K)=some z):a0O cx (.w ws) ops.toList i Γ (fun Γ1=>a0O cx .p ops.toList k Γ1 K)=some z:=by
 obtain⟨a1,a2,a3⟩:=Oper.apart_spec hap;have a1:=a1 dk hdk;have a2:=a2 dk hdk;obtain⟨sv,L,h1,h2,h3,h4⟩:=c1R hdk hz;obtain⟨W,m,g1,-,g2,g3⟩:=b6U h3;have s1:a1t W (i.looksAt ops) (Γ.put dk sv) Γ:=⟨rfl,fun _ _=>rfl,fun t ht=>by
  have htd:t≠dk:=fun e=>a1 (by rw[←e];exact ht);rw[a6W,if_neg htd]⟩
 have s2:∀t∈L,(a4p W m i.dst Γ).sl t=Γ.sl t:=fun t ht=>by
  have htd:¬ i.dst=some t:=fun e=>a3 t e (h2 t ht).1;rw[a3n,if_neg htd];exact g1.fp.sv (h2 t ht).2
 rw[g3 Γ s1,h4 (a4p W m i.dst Γ) s2,←g2];congr 1;refine AE.ext' (fun j=>?_) (fun n=>rfl) rfl;simp only[a6W,a3n]
 by_cases e1:j=dk
 subst e1;rw[if_pos rfl,if_neg a2,if_pos rfl];exact(g1.fp.sv h1).symm;rw[if_neg e1,if_neg e1]
theorem d3T{ws:List Nat}(hdi:i.dst=some di)(hap:k.apart ops i=true)
  (hz:a0O cx (.w ws) ops.toList k Γ (fun Γ1=>a0O cx .p ops.toList i Γ1 K)=some z):a0O cx .p ops.toList i Γ (fun Γ1=>a0O cx (.w ws) ops.toList k Γ1 K)=some z:=by
 obtain⟨a1,a2,a3⟩:=Oper.apart_spec hap;have a3:=a3 di hdi;have a2:¬ k.dst=some di:=fun e=>a2 di e hdi;obtain⟨W,m,g1,-,g2,g3⟩:=b6U hz;obtain⟨sv,L,h1,h2,h3,h4⟩:=c1R hdi g2;have s1:∀t∈L,Γ.sl t=(a4p W m k.dst Γ).sl t:=fun t ht=>by
  have h5:=(h2 t ht).2;have htd:¬ k.dst=some t:=fun e=>a1 t e (h2 t ht).1;rw[a3n,if_neg htd]at h5⊢;exact(g1.fp.sv' h5).symm
 have s2:a1t W (k.looksAt ops) Γ (Γ.put di sv):=⟨rfl,fun _ _=>rfl,fun t ht=>by
  have htd:t≠di:=fun e=>a3 (by rw[←e];exact ht);rw[a6W,if_neg htd]⟩
 rw[h4 Γ s1,g3 (Γ.put di sv) s2,←h3];congr 1;refine AE.ext' (fun j=>?_) (fun n=>rfl) rfl;simp only[a6W,a3n]
 by_cases e2:j=di
 subst e2;rw[if_neg a2,if_pos rfl,if_pos rfl];exact g1.fp.sv h1;rw[if_neg e2,if_neg e2]
theorem d3U{ws:List Nat}(hdk:k.dst=some dk)(hap:k.apart ops i=true)
  (hz:a0O cx .p ops.toList k Γ (fun Γ1=>a0O cx (.a ws) ops.toList i Γ1 K)=some z):a0O cx (.a ws) ops.toList i Γ (fun Γ1=>a0O cx .p ops.toList k Γ1 K)=some z:=by
 obtain⟨a1,a2,a3⟩:=Oper.apart_spec hap;have a1:=a1 dk hdk;have a2:=a2 dk hdk;obtain⟨sv,L,h1,h2,h3,h4⟩:=c1R hdk hz;obtain⟨W,m,g1,-,g2,g3⟩:=c9f h3;have s1:a1t W (i.looksAt ops) (Γ.put dk sv) Γ:=⟨rfl,fun _ _=>rfl,fun t ht=>by
  have htd:t≠dk:=fun e=>a1 (by rw[←e];exact ht);rw[a6W,if_neg htd]⟩
 have s2:∀t∈L,(a8w W m i.dst Γ).sl t=Γ.sl t:=fun t ht=>by
  have htd:¬ i.dst=some t:=fun e=>a3 t e (h2 t ht).1;rw[b6V,if_neg htd];exact g1.fp.sv (h2 t ht).2
 rw[g3 Γ s1,h4 (a8w W m i.dst Γ) s2,←g2];congr 1;refine AE.ext' (fun j=>?_) (fun n=>rfl) rfl;simp only[a6W,b6V]
 by_cases e1:j=dk
 subst e1;rw[if_pos rfl,if_neg a2,if_pos rfl];exact(g1.fp.sv h1).symm;rw[if_neg e1,if_neg e1]
theorem d3V{ws:List Nat}(hdi:i.dst=some di)(hap:k.apart ops i=true)
  (hz:a0O cx (.a ws) ops.toList k Γ (fun Γ1=>a0O cx .p ops.toList i Γ1 K)=some z):a0O cx .p ops.toList i Γ (fun Γ1=>a0O cx (.a ws) ops.toList k Γ1 K)=some z:=by
 obtain⟨a1,a2,a3⟩:=Oper.apart_spec hap;have a3:=a3 di hdi;have a2:¬ k.dst=some di:=fun e=>a2 di e hdi;obtain⟨W,m,g1,-,g2,g3⟩:=c9f hz;obtain⟨sv,L,h1,h2,h3,h4⟩:=c1R hdi g2;have s1:∀t∈L,Γ.sl t=(a8w W m k.dst Γ).sl t:=fun t ht=>by
  have h5:=(h2 t ht).2;have htd:¬ k.dst=some t:=fun e=>a1 t e (h2 t ht).1;rw[b6V,if_neg htd]at h5⊢;exact(g1.fp.sv' h5).symm
 have s2:a1t W (k.looksAt ops) Γ (Γ.put di sv):=⟨rfl,fun _ _=>rfl,fun t ht=>by
  have htd:t≠di:=fun e=>a3 (by rw[←e];exact ht);rw[a6W,if_neg htd]⟩
 rw[h4 Γ s1,g3 (Γ.put di sv) s2,←h3];congr 1;refine AE.ext' (fun j=>?_) (fun n=>rfl) rfl;simp only[a6W,b6V]
 by_cases e2:j=di
 subst e2;rw[if_neg a2,if_pos rfl,if_pos rfl];exact g1.fp.sv h1;rw[if_neg e2,if_neg e2]
theorem d3W{ns ws:List Nat}(hd:disj ns ws=true)(hdk:k.dst=some dk)(hap:k.apart ops i=true)
  (hz:a0O cx (.r ns) ops.toList k Γ (fun Γ1=>a0O cx (.w ws) ops.toList i Γ1 K)=some z):a0O cx (.w ws) ops.toList i Γ (fun Γ1=>a0O cx (.r ns) ops.toList k Γ1 K)=some z:=by
 obtain⟨a1,a2,a3⟩:=Oper.apart_spec hap;have a1:=a1 dk hdk;have a2:=a2 dk hdk;obtain⟨δ,L,h1,h2,h3,h4,h5⟩:=c9b hdk hz;obtain⟨W,m,g1,gW,g2,g3⟩:=b6U h2;have nw:∀n∈ns,n∉W:=fun n hn hW=>c0Y hd hn (gW n hW);have hfn:∀n∈W,find δ.rs n=none:=fun n hn=>by
  cases e:find δ.rs n with
  |none=>rfl
  |some r=>exact absurd hn (nw n (h3 n (by rw[e];simp)).2)
 have s1:a1t W (i.looksAt ops) (δ.app dk Γ) Γ:=⟨rfl,fun n hn=>(a1v (hfn n hn)).symm,fun t ht=>by
  have htd:t≠dk:=fun e=>a1 (by rw[←e];exact ht);rw[b2p,if_neg htd]⟩
 have s2:b6b L Γ (a4p W m i.dst Γ):=⟨rfl,fun t ht=>by
  have htd:¬ i.dst=some t:=fun e=>a3 t e (h1 t ht).1;refine⟨?_,fun n hn=>a8x (nw n ((h1 t ht).2.2 n hn).2)⟩;rw[a3n,if_neg htd];exact g1.sv fun n hn=>nw n ((h1 t ht).2.2 n hn).2⟩
 rw[g3 Γ s1,h5 _ s2 fun n hn=>by rw[a8x (nw n (h3 n hn).2)];exact(h3 n hn).1,←g2];congr 1;refine AE.ext' (fun j=>?_) (fun n=>?_) rfl;simp only[b2p,a3n]
 by_cases e1:j=dk
 subst e1;rw[if_pos rfl,if_neg a2,if_pos rfl];exact(g1.sv fun n hn=>nw n (h4 n hn)).symm;rw[if_neg e1,if_neg e1]
 ·by_cases hW:n∈W
  rw[a1v (hfn n hW)]
  have:W.contains n=true:=by simpa using hW
  simp only[a4p,this,cT]
  ·rw[a8x hW];cases e:find δ.rs n with
   |none=>rw[a1v e,a1v e,a8x hW]
   |some r=>simp only[Dl.app,e]
theorem d3X{ns ws:List Nat}(hd:disj ns ws=true)(hdi:i.dst=some di)(hap:k.apart ops i=true)
  (hz:a0O cx (.w ws) ops.toList k Γ (fun Γ1=>a0O cx (.r ns) ops.toList i Γ1 K)=some z):a0O cx (.r ns) ops.toList i Γ (fun Γ1=>a0O cx (.w ws) ops.toList k Γ1 K)=some z:=by
 obtain⟨a1,a2,a3⟩:=Oper.apart_spec hap;have a3:=a3 di hdi;have a2:¬ k.dst=some di:=fun e=>a2 di e hdi;obtain⟨W,m,g1,gW,g2,g3⟩:=b6U hz;obtain⟨δ,L,h1,h2,h3,h4,h5⟩:=c9b hdi g2;have nw:∀n∈ns,n∉W:=fun n hn hW=>c0Y hd hn (gW n hW);have hfn:∀n∈W,find δ.rs n=none:=fun n hn=>by
  cases e:find δ.rs n with
  |none=>rfl
  |some r=>exact absurd hn (nw n (h3 n (by rw[e];simp)).2)
 have s1:b6b L (a4p W m k.dst Γ) Γ:=⟨rfl,fun t ht=>by
  have htd:¬ k.dst=some t:=fun e=>a1 t e (h1 t ht).1;have hal:=(h1 t ht).2.1;have hrf:=(h1 t ht).2.2;rw[a3n,if_neg htd]at hal hrf;refine⟨by rw[a3n,if_neg htd];exact(g1.sv' hal).symm,fun n hn=>?_⟩;rw[a3n,if_neg htd]at hn;exact(a8x (nw n (hrf n hn).2)).symm⟩
 have s2:a1t W (k.looksAt ops) Γ (δ.app di Γ):=⟨rfl,fun n hn=>a1v (hfn n hn),fun t ht=>by
  have htd:t≠di:=fun e=>a3 (by rw[←e];exact ht);rw[b2p,if_neg htd]⟩
 rw[h5 Γ s1 fun n hn=>by
  have:=(h3 n hn).1
  rwa [a8x (nw n (h3 n hn).2)]at this,g3 _ s2,←h2]
 congr 1;refine AE.ext' (fun j=>?_) (fun n=>?_) rfl;simp only[b2p,a3n]
 by_cases e1:j=di
 subst e1;rw[if_neg a2,if_pos rfl,if_pos rfl];exact g1.sv fun n hn=>nw n (h4 n hn);rw[if_neg e1,if_neg e1]
 ·by_cases hW:n∈W
  rw[a1v (hfn n hW)]
  have:W.contains n=true:=by simpa using hW
  simp only[a4p,this,cT]
  ·rw[a8x hW];cases e:find δ.rs n with
   |none=>rw[a1v e,a1v e,a8x hW]
   |some r=>simp only[Dl.app,e]
theorem d6Q{mk mi:Md}(hc:c1w mk mi=true)(hdk:mk.isW=true∨k.dst.isSome=true)(hdi:mi.isW=true∨i.dst.isSome=true)(hap:k.apart ops i=true)(hroots:∀t∈i.looksAt ops,∀n∈(Γ.sl t).refs,mi.reads n→Γ.rt n≠none)
  (hz:a0O cx mk ops.toList k Γ (fun Γ1=>a0O cx mi ops.toList i Γ1 K)=some z):a0O cx mi ops.toList i Γ (fun Γ1=>a0O cx mk ops.toList k Γ1 K)=some z:=by
 have qq:mk.quiet→mi.quiet→a0O cx mi ops.toList i Γ (fun Γ1=>a0O cx mk ops.toList k Γ1 K)=some z:=fun h1 h2=>by
  obtain⟨dk,hdk⟩:=a03.1 (hdk.resolve_left (by cases mk<;>first|(cases h1;done)|simp[Md.isW]))
  obtain⟨di,hdi⟩:=a03.1 (hdi.resolve_left (by cases mi<;>first|(cases h2;done)|simp[Md.isW]))
  exact d3P h1 h2 hdk hdi hap hroots hz
 cases mk with
 |x=>cases mi<;>cases hc
 |p=>
  cases mi with
  |x=>cases hc
  |a ws=>
   obtain⟨dk,hdk⟩:=a03.1 (hdk.resolve_left (by simp[Md.isW]));exact d3U hdk hap hz
  |w ws=>
   obtain⟨dk,hdk⟩:=a03.1 (hdk.resolve_left (by simp[Md.isW]));exact d3S hdk hap hz
  |_=>exact qq trivial trivial
 |a ws=>
  cases mi with
  |p=>
   obtain⟨di,hdi⟩:=a03.1 (hdi.resolve_left (by simp[Md.isW]));exact d3V hdi hap hz
  |_=>cases hc
 |v=>
  cases mi with
  |x=>cases hc
  |a ws=>cases hc
  |w ws=>
   obtain⟨dk,hdk⟩:=a03.1 (hdk.resolve_left (by simp[Md.isW]));exact d3Q hdk hap hz
  |_=>exact qq trivial trivial
 |q=>
  cases mi with
  |x=>cases hc
  |a ws=>cases hc
  |w ws=>cases hc
  |_=>exact qq trivial trivial
 |r ns=>
  cases mi with
  |x=>cases hc
  |a ws=>cases hc
  |w ws=>
   obtain⟨dk,hdk⟩:=a03.1 (hdk.resolve_left (by simp[Md.isW]));exact d3W hc hdk hap hz
  |_=>exact qq trivial trivial
 |w ws=>
  cases mi with
  |p=>
   obtain⟨di,hdi⟩:=a03.1 (hdi.resolve_left (by simp[Md.isW]));exact d3T hdi hap hz
  |v=>
   obtain⟨di,hdi⟩:=a03.1 (hdi.resolve_left (by simp[Md.isW]));exact d3R hdi hap hz
  |r ns=>
   obtain⟨di,hdi⟩:=a03.1 (hdi.resolve_left (by simp[Md.isW]));exact d3X hc hdi hap hz
  |_=>cases hc
end
end Go.Ab
namespace Go.Ab
theorem b9T(g:Nat→Nat)(k:Nat):∀(l:List Edge)(s:Nat),(l.foldl (fun s e=>if Region.binds .any e then s ||| 2^e.on ||| g e.on else s) s).testBit k=true→
  s.testBit k=true∨∃e∈l,Region.binds .any e=true∧(e.on=k∨(g e.on).testBit k=true)
 | [],s,h=>.inl h
 |e::l,s,h=>by
  rcases b9T g k l _ h with h|⟨e',he',h'⟩
  by_cases hb:Region.binds .any e=true
  simp only[]at h;rw[if_pos hb,Nat.testBit_or,Nat.testBit_or,Nat.testBit_two_pow]at h;simp only[a50,dT]at h;rcases h with(h|h)|h;exact .inl h;exact .inr ⟨e,by simp,hb,.inl h⟩;exact .inr ⟨e,by simp,hb,.inr h⟩;simp only[]at h;rw[if_neg hb]at h;exact .inl h;exact .inr ⟨e',by simp[he'],h'⟩
def c9g(ops:List Oper)(b:List Nat):Prop:=∀j k,j<b.length→(b.getD j 0).testBit k=true→
 ∃e∈(ops.getD j default).after.toList,Region.binds .any e=true∧(e.on=k∨(b.getD e.on 0).testBit k=true)
theorem c4k(all:List Oper):∀(r:List Oper)(acc:List Nat),(∀j,r[j]?=all[acc.length+j]?)→c9g all acc→c9g all (c0N r acc)∧(c0N r acc).length=acc.length+r.length
 | [],acc,_,h=>⟨h,by simp[c0N]⟩
 |o::r,acc,hr,h=>by
  simp only[c0N];have h0:all.getD acc.length default=o:=by
   have:=hr 0
   simp only[a00,a36]at this;rw[lD,←this];rfl
  have ⟨a,b⟩:=c4k all r (acc++[o.after.toList.foldl (fun s e=>if Region.binds .any e then s ||| 2^e.on ||| acc.getD e.on 0 else s) 0]) (fun j=>by
    have:=hr (j+1)
    simp only[List.getElem?_cons_succ]at this;rw[this,lN,a67];congr 1;omega) (fun j k hj hb=>by
   have up:∀m,(acc.getD m 0).testBit k=true→((acc++[o.after.toList.foldl (fun s e=>if Region.binds .any e then s ||| 2^e.on ||| acc.getD e.on 0 else s) 0]).getD m 0).testBit k=true:=fun m hm=>by
    by_cases hlt:m<acc.length
    rw[lD,a42 hlt,←lD];exact hm;rw[lD,a26 (by omega)]at hm;simp at hm
   by_cases hlt:j<acc.length
   rw[lD,a42 hlt,←lD]at hb;obtain⟨e,he,h1,h2⟩:=h j k hlt hb;exact⟨e,he,h1,h2.imp id (up e.on)⟩;have hj':j=acc.length:=by simp only[lN,a67]at hj;omega
   subst hj';rw[lD,a57 (a35 _)]at hb;simp only[Nat.sub_self,a00,a30]at hb;rcases b9T (fun m=>acc.getD m 0) k _ _ hb with h'|⟨e,he,h1,h2⟩;simp at h';exact⟨e,by rw[h0];exact he,h1,h2.imp id (up e.on)⟩)
  exact⟨a,by rw[b];simp;omega⟩
section
variable {P:Program} {B:Base} {N:Nat} {cx:Cx} {ro:Option Nat} {D:List Deferred}
theorem d4H{ρ:Type}{ops:Array Oper}{mi:Md}{i:Oper}{z:ρ}(l2:List (Md×Oper)):∀(l1:List (Md×Oper)) {Γ:AE} {K:AE→Rs ρ},
  (∀p∈l1,c1w p.1 mi=true∧p.2.apart ops i=true∧(p.1.isW=true∨p.2.dst.isSome=true)∧(mi.isW=true∨i.dst.isSome=true))→(∀t∈i.looksAt ops,∀n∈(Γ.sl t).refs,mi.reads n→Γ.rt n≠none)→
  a5K cx ops.toList (l1++(mi,i)::l2) Γ K=some z→a0O cx mi ops.toList i Γ (fun Γ1=>a5K cx ops.toList (l1++l2) Γ1 K)=some z
 | [],Γ,K,_,_,hz=>hz
 |(mk,k)::l1,Γ,K,hall,hroots,hz=>by
  obtain⟨hc,hap,hdk,hdi⟩:=hall (mk,k) (by simp);have hz:a0O cx mk ops.toList k Γ (fun Γ1=>a5K cx ops.toList (l1++(mi,i)::l2) Γ1 K)=some z:=hz;have ih:∀Γ1,(∀t∈i.looksAt ops,∀n∈(Γ1.sl t).refs,mi.reads n→Γ1.rt n≠none)→a5K cx ops.toList (l1++(mi,i)::l2) Γ1 K=some z→a0O cx mi ops.toList i Γ1 (fun Γ2=>a5K cx ops.toList (l1++l2) Γ2 K)=some z:=
   fun Γ1 hr h=>d4H l2 l1 (fun p hp=>hall p (by simp[hp])) hr h
  refine d6Q hc hdk hdi hap hroots ?_
  obtain⟨a1,-,-⟩:=Oper.apart_spec hap;have vq:mk.quiet→a0O cx mk ops.toList k Γ (fun Γ1=>a0O cx mi ops.toList i Γ1 fun Γ2=>a5K cx ops.toList (l1++l2) Γ2 K)=some z:=fun hm=>by
   obtain⟨dk,hdk⟩:=a03.1 (hdk.resolve_left (by cases mk<;>first|(cases hm;done)|simp[Md.isW]))
   have a1:=a1 dk hdk;obtain⟨δ,L,h1,h2,h3,h4⟩:=c5V hm hdk hz;rw[h4 Γ ⟨rfl,fun _ _=>⟨rfl,fun _ _ _=>rfl⟩⟩ h3];refine ih _ (fun t ht n hn hq=>?_) h2;rw[b2p,if_neg (fun e=>a1 (by rw[←e];exact ht))]at hn
   have:=hroots t ht n hn hq
   rw[b8A h3 this];exact this
  cases mk with
  |v=>exact vq trivial
  |p=>exact vq trivial
  |a ws=>
   obtain⟨W,m,h1,hW,h2,h3⟩:=c9f hz;rw[h3 Γ a1t.refl];refine ih _ (fun t ht n hn hq=>?_) h2;cases mi with
   |p=>cases hq
   |_=>cases hc
  |q=>exact vq trivial
  |r ns=>exact vq trivial
  |w ws=>
   obtain⟨W,m,h1,hW,h2,h3⟩:=b6U hz;rw[h3 Γ a1t.refl];refine ih _ (fun t ht n hn hq=>?_) h2;have htd:¬ k.dst=some t:=fun e=>a1 t e ht;rw[a3n,if_neg htd]at hn;have hn:=h1.refs hn;cases mi with
   |v=>cases hq
   |p=>cases hq
   |r ns=>
    have hnw:n∉W:=fun hw=>c0Y hc hq (hW n hw);rw[a8x hnw];exact hroots t ht n hn hq
   |_=>cases hc
  |x=>cases mi<;>cases hc
def a2i(n:Nat)(listed:Array Bool):List Nat:=(a47 n).filter fun i=>!listed.getD i true
def b8B(ops:Array Oper)(ms:List Md)(i:Nat):Md×Oper:=(ms.getD i .x,ops.getD i default)
structure DrawOk (ops:Array Oper) (ms:List Md) (b:List Nat):Prop where
 len:ms.length=ops.size
 good:c9g ops.toList b
 lb:b.length=ops.size
 back:∀j e,j<ops.size→e∈(ops.getD j default).after.toList→Region.binds .any e=true→e.on<j
 pair:∀i j,i<j→j<ops.size→(b.getD j 0).testBit i=true∨(c1w (ms.getD i .x) (ms.getD j .x)=true∧(ops.getD i default).apart ops (ops.getD j default)=true∧((ms.getD i .x).isW=true∨(ops.getD i default).dst.isSome=true)∧((ms.getD j .x).isW=true∨(ops.getD j default).dst.isSome=true))
theorem c7B{ops:Array Oper}{ms:List Md}(h:c1x ops ms=true):DrawOk ops ms (c0N ops.toList []):=by
 simp only[c1x,bA,dT,lA,a07]at h;obtain⟨h1,h2⟩:=h;obtain⟨g1,g2⟩:=c4k ops.toList ops.toList [] (fun j=>by simp) (fun j k hj=>by simp at hj);refine⟨h1,g1,by simpa using g2,fun j e hj he hb=>?_,fun i j hij hj=>?_⟩
 have:=(h2 j hj).1 e he
 simp only[hb,bT,Bool.false_or,dT]at this;exact this
 have:=(h2 j hj).2 i hij
 simp only[a50,bA]at this;exact this
theorem c1T{n:Nat}{listed:Array Bool}{i:Nat}(hs:listed.size=n)(hi:i∈a2i n listed):∃l1 l2,a2i n listed=l1++i::l2∧a2i n (listed.setIfInBounds i true)=l1++l2∧∀k∈l1,k<i∧k∈a2i n listed:=by
 have hin:i<n:=by
  simp only[a2i,a09,a07]at hi;exact hi.1
 have hni:listed.getD i true=false:=by
  simp only[a2i,a09,a08]at hi;exact hi.2
 have hsplit:a47 n=a47 i++i::(a58 (i+1) (n-i-1)):=by
  rw[a38,a38,show n=i+(1+(n-i-1))from by omega,←a72,←a72]
  simp
 have hne:∀j,j≠i→(listed.setIfInBounds i true).getD j true=listed.getD j true:=fun j hj=>by
  simp only[a02];rw[a31 (Ne.symm hj)]
 refine⟨(a47 i).filter fun i=>!listed.getD i true,(a58 (i+1) (n-i-1)).filter fun i=>!listed.getD i true,?_,?_,fun k hk=>?_⟩;simp only[a2i];rw[hsplit,a78,a85,if_pos (by simp[hni])];simp only[a2i];rw[hsplit,a78,a85,if_neg (by
  simp only[a02];rw[a39 (by omega)]
  simp)]
 congr 1;exact a59 fun j hj=>by rw[hne j (by have:=a07.1 hj;omega)]
 exact a59 fun j hj=>by rw[hne j (by have:=List.mem_range'_1.1 hj;omega)]
 simp only[a09,a07]at hk;exact⟨hk.1,by simp only[a2i,a09,a07];exact⟨by omega,hk.2⟩⟩
theorem d2d(hcx:CxOk P cx)(hG:GOk cx.G B){ρ:Type}{ops:Array Oper}{ms:List Md}{b:List Nat}(hok:DrawOk ops ms b){K:AE→Rs ρ}{z:ρ}{Q:Exit→Act→World→Prop}(hf:∀o∈ops.toList,a7W N ops.toList o=true)
  (hQ:∀a' w' Γ' σ',Rel B Γ' N (a0k a') w' σ'→a'.tmps.size=N→a'.defers=D→K Γ'=some z→Q .normal a' w'):
  ∀(fuel:Nat)(listed:Array Bool){Γ:AE}{a:Act}{w:World}{σ:Gh},listed.size=ops.size→(a2i ops.size listed).length=fuel→
   (∀j k,j<ops.size→listed.getD j true=true→(b.getD j 0).testBit k=true→listed.getD k true=true)→
   Rel B Γ N (a0k a) w σ→a.tmps.size=N→a.defers=D→a5K cx ops.toList ((a2i ops.size listed).map (b8B ops ms)) Γ K=some z→wpAnyIn (Fr ro) 0 P .any ops Q fuel listed a w:=by
 intro fuel;have hrest:∀listed i,i∈Region.ready .any ops listed→i∈a2i ops.size listed∧∀e∈(ops.getD i default).after.toList,Region.binds .any e=true→listed.getD e.on false=true:=by
  intro listed i hi;simp only[Region.ready,a09,a07,bA]at hi;refine⟨by simp only[a2i,a09,a07];exact⟨hi.1,hi.2.1⟩,fun e he hb=>?_⟩;have h3:=hi.2.2;have hget:ops[i]?=some (ops.getD i default):=by
   have hlt:=hi.1;simp[a02,hlt]
  rw[hget]at h3;simp only[a51,a30]at h3;rw[←a86]at h3
  have:=lA.1 h3 e he
  simpa[hb]using this
 have hdone:∀(listed:Array Bool),a2i ops.size listed=[]→Region.ready .any ops listed=[]:=fun listed h=>by
  refine List.eq_nil_iff_forall_not_mem.2 fun i hi=>?_
  have:=(hrest listed i hi).1
  rw[h]at this;cases this
 induction fuel with
 |zero=>
  intro listed Γ a w σ hs hl hcl hr hN hD hz;have h0:=List.eq_nil_of_length_eq_zero hl;rw[h0]at hz;exact⟨hdone listed h0,hQ a w Γ σ hr hN hD hz⟩
 |succ fuel ih=>
  intro listed Γ a w σ hs hl hcl hr hN hD hz;refine⟨fun hnil=>?_,fun i hi=>?_⟩
  ·
   exfalso
   cases hR:a2i ops.size listed with
   |nil=>rw[hR]at hl;cases hl
   |cons i R=>
    have hiR:i∈a2i ops.size listed:=by rw[hR];simp
    have hi:=hiR;simp only[a2i,a09,a07]at hi
    have:i∈Region.ready .any ops listed:=by
     simp only[Region.ready,a09,a07,bA];refine⟨hi.1,hi.2,?_⟩;have hget:ops[i]?=some (ops.getD i default):=by
      have hlt:=hi.1;simp[a02,hlt]
     rw[hget];simp only[a51,a30];rw[←a86];refine lA.2 fun e he=>?_
     by_cases hb:Region.binds .any e=true
     ·have hlt:=hok.back i e hi.1 he hb;have hlist:listed.getD e.on true=true:=by
       cases hv:listed.getD e.on true with
       |true=>rfl
       |false=>
        obtain⟨l1,l2,g1,-,g3⟩:=c1T (n:=ops.size) hs (i:=e.on) (by simp only[a2i,a09,a07];exact⟨by omega,by simp[hv]⟩);have hord:(a2i ops.size listed).Pairwise (·<·):=List.Pairwise.filter _ List.pairwise_lt_range;rw[hR]at g1 hord;cases l1 with
        |nil=>simp only[a63,List.cons.injEq]at g1;omega
        |cons x l1=>
         simp only[a83,List.cons.injEq]at g1
         have:=(List.pairwise_cons.1 hord).1 e.on (by rw[g1.2];simp)
         omega
      have hlist':listed.getD e.on false=true:=by
       have:e.on<listed.size:=by omega
       simp only[a02,a41 this,a30]at hlist⊢;exact hlist
      simp[hlist']
     simp[hb]
    rw[hnil]at this;cases this
  ·obtain⟨hiR,hdeps⟩:=hrest listed i hi;obtain⟨l1,l2,g1,g2,g3⟩:=c1T hs hiR;have hin:i<ops.size:=by simp only[a2i,a09,a07]at hiR;exact hiR.1
   have hget:ops[i]?=some (ops.getD i default):=by
    simp[a02,hin]
   have hmem:ops.getD i default∈ops.toList:=by
    rw[Array.mem_toList_iff];exact Array.mem_of_getElem? hget
   have hfit:=hf _ hmem;have tr:∀k,listed.getD k false=true→listed.getD k true=true:=fun k hk=>by
    simp only[a02]at hk⊢;cases h:listed[k]? with
    |none=>rfl
    |some v=>rw[h]at hk;simpa using hk
   have hbef:∀k,(b.getD i 0).testBit k=true→listed.getD k true=true:=fun k hk=>by
    obtain⟨e,he,h1,h2⟩:=hok.good i k (by rw[hok.lb];exact hin) hk;have he':e∈(ops.getD i default).after.toList:=by
     rwa [show ops.toList.getD i default=ops.getD i default from by simp[lD,a02]]at he
    have hon:=hdeps e he' h1;rcases h2 with rfl|h2;exact tr _ hon;exact hcl e.on k (by have:=hok.back i e hin he' h1;omega) (tr _ hon) h2
   rw[g1,pA,a28]at hz;have hpull:=d4H (cx:=cx) (mi:=ms.getD i .x) (i:=ops.getD i default) (l2.map (b8B ops ms)) (l1.map (b8B ops ms)) (fun p hp=>by
     obtain⟨k,hk,rfl⟩:=a19.1 hp;obtain⟨hki,hkR⟩:=g3 k hk;rcases hok.pair k i hki hin with h|h
     have:=hbef k h
     simp only[a2i,a09,a08]at hkR;rw[hkR.2]at this;cases this;exact h) (fun t ht n hn _=>by
     have htN:t<N:=by
      simp only[Oper.looksAt,mA]at ht;rcases ht with ht|ht
      ·obtain⟨x,hx,hxt⟩:=a34.1 ht
       have:=a0S (b5s hfit) x hx
       cases x with
       |tmp t'=>simp only[sj]at hxt;subst hxt;simpa[a1i]using this
       |_=>cases hxt
      ·cases hg:(ops.getD i default).guard with
       |none=>rw[hg]at ht;cases ht
       |some p=>
        obtain⟨j,want⟩:=p;rw[hg]at ht;simp only[Option.mem_toList]at ht;have hdst:a7H ops.toList j=some t:=by simpa[a7H]using ht
        simp only[a7W,hg,hdst,bA,dT]at hfit;exact hfit.2
     have hs:=hr.slots t htN
     revert hs hn
     generalize Γ.sl t=sv;intro hn hs;have one:∀(av:AV)(v:Value),a0i (a0a w σ.ov) σ.g Γ.rt (Shr B w σ) av v→n∈av.refs→Γ.rt n≠none:=fun av v ha hn=>by
      cases av with
      |ptr m p=>obtain⟨r,t,b,o,h1,-⟩:=ha;simp only[AV.refs,a44]at hn;subst hn;rw[h1];simp
      |sref m p=>obtain⟨r,e,s,h1,-⟩:=ha;simp only[AV.refs,a44]at hn;subst hn;rw[h1];simp
      |swin m p o l=>obtain⟨r,e,s,_,_,_,h1,-⟩:=ha;simp only[AV.refs,a44]at hn;subst hn;rw[h1];simp
      |_=>cases hn
     cases sv with
     |one av=>exact one av _ hs hn
     |cmp c vs=>
      obtain⟨us,-,h2⟩:=hs;simp only[SV.refs,a49]at hn;obtain⟨av,hav,hn⟩:=hn;obtain⟨k,hk⟩:=a68.1 hav;obtain⟨u,-,hu⟩:=h2 k av hk;exact one av u hu hn) hz
   have hstep:=c8g (ro:=ro) (next:=wpAnyIn (Fr ro) 0 P .any ops Q fuel (listed.setIfInBounds i true)) (Q:=Q) hcx hG hr hN hfit hpull fun v w' Γ' σ' hr' hK=>by
    refine ih (listed.setIfInBounds i true) (by simpa using hs) ?_ ?_ hr' (by rw[b3E];exact hN) (by rw[b3c];exact hD) ?_
    rw[g2];rw[g1]at hl;simp only[lN,lC]at hl⊢;omega;intro j k hj hlj hbk;have up:∀m,listed.getD m true=true→(listed.setIfInBounds i true).getD m true=true:=fun m hm=>by
     by_cases e:m=i
     subst e;simp only[a02];rw[a39 (by omega)];rfl;simp only[a02]at hm⊢;rw[a31 (Ne.symm e)];exact hm
    by_cases e:j=i
    subst e;exact up k (hbef k hbk);refine up k (hcl j k hj ?_ hbk);simp only[a02]at hlj⊢
    rwa [a31 (Ne.symm e)]at hlj
    rw[g2,pA];exact hK
   unfold wpOpIn;rw[hget];simp only[]
   by_cases hw:Region.wanted (ops.getD i default) (yielded ops a.tmps)=true
   rw[if_pos hw]at hstep⊢;exact hstep;rw[if_neg hw]at hstep⊢;exact hstep
theorem d2e{ρ:Type}{Γ:AE}{a:Act}{w:World}{σ:Gh}(hcx:CxOk P cx)(hG:GOk cx.G B)(hm:P.follows .mixedOrders=true){ops:Array Oper}{id:Nat}{ms:List Md}{K:AE→Rs ρ}{z:ρ}{Q:Exit→Act→World→Prop}
  (h:Rel B Γ N (a0k a) w σ)(hN:a.tmps.size=N)(hD:a.defers=D)(hf:∀o∈ops.toList,a7W N ops.toList o=true)(hok:c1x ops ms=true)(hz:a5K cx ops.toList (ms.zip ops.toList) Γ K=some z)
  (hQ:∀a' w' Γ' σ',Rel B Γ' N (a0k a') w' σ'→a'.tmps.size=N→a'.defers=D→K Γ'=some z→Q .normal a' w'):(Code.region id ops true).wpIn (Fr ro) 0 P Q a w:=by
 refine wpIn_region_any hm ?_
 have hok':=c7B hok;have hdrawn:Rel B Γ N (a0k a) { w with drawn:=w.drawn+1 } σ:=h.ext (fun _ _=>rfl) (a35 _);have hgetD:∀i,i<ops.size→(a64 ops.size false).getD i true=false:=fun i hi=>by
  simp[a02,hi]
 have hall:a2i ops.size (a64 ops.size false)=a47 ops.size:=by
  simp only[a2i];exact List.filter_eq_self.2 fun i hi=>by rw[hgetD i (a07.1 hi)];rfl
 refine d2d hcx hG hok' hf hQ ops.size _ (by simp) (by rw[hall];simp) (fun j k hj hl _=>by rw[hgetD j hj]at hl;cases hl) hdrawn hN hD ?_
 rw[hall];rw[show(a47 ops.size).map (b8B ops ms)=ms.zip ops.toList from ?_];exact hz;refine a82 fun i=>?_
 rw[a46]
 by_cases hi:i<ops.size
 have h1:i<ms.length:=by rw[hok'.len];exact hi
 have h2:i<ops.toList.length:=by simpa using hi
 rw[List.getElem?_range hi,lG (by rw[a90];omega)];simp only[a51,b8B,List.getElem_zip,sj,pJ];refine⟨by rw[lD,lG h1];rfl,by rw[a02,a41 hi];simp⟩;rw[a26 (by simpa using a87 hi),a26 (by rw[a90,hok'.len];simp;omega)];rfl
end
end Go.Ab
namespace Go.Ab
def b8C:Ex→Exit
 |.normal=>.normal
 |.exit i=>.exit i
 |.ret=>.ret
def d3a{ρ:Type}(B:Base)(N:Nat)(D:List Deferred)(K:Ex→AE→Rs ρ)(z:ρ):Exit→Act→World→Prop:=fun e a w=>
 ∃ex Γ σ,e=b8C ex∧K ex Γ=some z∧Rel B Γ N (a0k a) w σ∧a.tmps.size=N∧a.defers=D
def a1S(N:Nat):Code→Bool
 |.region _ ops _=>ops.toList.all (a7W N ops.toList)
 |.seq a b=>a1S N a&&a1S N b
 |.cond c a b=>a1i N c&&(a1S N a&&a1S N b)
 |.block _ c|.loop c=>a1S N c
 |_=>true
def Hints.fits(N:Nat)(H:Hints):Bool:=
 H.loops.all (fun p=>p.2.1.fits N&&p.2.2.all (fun q=>q.2.fits N))&&H.cuts.all (fun p=>p.2.all (fun q=>q.2.fits N))
theorem c0Z{α:Type}:∀{l:List (Nat×α)} {n:Nat} {x:α},find l n=some x→∃k,(k,x)∈l
 |(k,y)::r,n,x,h=>by
  simp only[find]at h;rcases a0g h with⟨-,h⟩|⟨-,h⟩;simp only[sj]at h;exact⟨k,by simp[h]⟩;obtain⟨k',hk⟩:=c0Z h;exact⟨k',a01 _ hk⟩
section
variable {P:Program} {B:Base} {N:Nat} {cx:Cx} {H:Hints} {ro:Option Nat} {D:List Deferred}
theorem c1U{Q:Exit→Act→World→Prop}{a:Act}{w:World}{c:Code}(I:Nat→Act→World→Prop)(n₀:Nat)(h₀:I n₀ a w)
  (round:∀n a w,I n a w→c.wpIn (Fr ro) 0 P (Exit.then (fun a' w'=>∃m,m<n∧I m a' w') Q) a w):(Code.loop c).wpIn (Fr ro) 0 P Q a w:=by
 classical
 have least:∀a w,(∃n,I n a w)→∃n,I n a w∧∀m,I m a w→n≤m:=by
  intro a w ⟨n,hn⟩
  induction n using Nat.strongRecOn with
  |_ n ih=>
   by_cases h:∃m,m<n∧I m a w
   obtain⟨m,hm,hi⟩:=h;exact ih m hm hi;exact⟨n,hn,fun m hm=>a87 fun hlt=>h ⟨m,hlt,hm⟩⟩
 let μ:Act→World→Nat:=fun a w=>if h:∃n,I n a w then(least a w h).choose else 0
 refine wpIn_loop (fun a w=>∃n,I n a w) μ ⟨n₀,h₀⟩ fun a w hI=>?_
 have hs:=(least a w hI).choose_spec;refine wpIn_mono (round _ a w hs.1) fun e a' w' he=>?_
 cases e with
 |normal=>
  obtain⟨m,hm,hi⟩:=he;refine⟨⟨m,hi⟩,?_⟩;have h':∃n,I n a' w':=⟨m,hi⟩;show μ a' w'<μ a w;simp only[μ,dif_pos h',dif_pos hI];exact Nat.lt_of_le_of_lt ((least a' w' h').choose_spec.2 m hi) hm
 |_=>exact he
theorem a8W(hcx:CxOk P cx)(hG:GOk cx.G B)(hm:P.follows .mixedOrders=true)(hH:H.fits N=true):∀(c:Code) (p:Nat){ρ:Type}{Γ:AE}{K:Ex→AE→Rs ρ}{z:ρ}{a:Act}{w:World}{σ:Gh}(_:a1S N c=true)
  (_:a1x cx H c p Γ K=some z) (_:Rel B Γ N (a0k a) w σ) (_:a.tmps.size=N) (_:a.defers=D),c.wpIn (Fr ro) 0 P (d3a B N D K z) a w:=by
 intro c;have hloop:∀p s os,find H.loops p=some (s,os)→s.fits N=true∧os.all (fun q=>q.2.fits N)=true:=fun p s os h=>by
  obtain⟨k,hk⟩:=c0Z h;simp only[Hints.fits,bA]at hH
  have:=lA.1 hH.1 _ hk
  simpa only[bA]using this
 have hcut:∀p os,find H.cuts p=some os→os.all (fun q=>q.2.fits N)=true:=fun p os h=>by
  obtain⟨k,hk⟩:=c0Z h;simp only[Hints.fits,bA]at hH;exact lA.1 hH.2 _ hk
 induction c with
 |skip=>intro p ρ Γ K z a w σ hf hz h hN hD;exact wpIn_skip ⟨.normal,Γ,σ,rfl,by simpa only[a1x]using hz,h,hN,hD⟩
 |region rid ops draw=>
  intro p ρ Γ K z a w σ hf hz h hN hD;simp only[a1x]at hz;have hfit:∀o∈ops.toList,a7W N ops.toList o=true:=fun o ho=>lA.1 hf o ho;cases draw with
  |false=>
   simp only[cF]at hz;refine wpIn_region_list ?_
   have:=c8h (Q:=d3a B N D K z) (ro:=ro) (D:=D) hcx hG (ops:=ops) (ops.toList.map fun o=>(Md.x,o)) h hN hD (fun q hq=>by
    obtain⟨o,ho,rfl⟩:=a19.1 hq;exact hfit o ho) hz (fun a' w' Γ' σ' hr hN' hD' hK=>⟨.normal,Γ',σ',rfl,hK,hr,hN',hD'⟩)
   rwa [a79,show((fun x:Md×Oper=>x.2)∘fun o=>(Md.x,o))=_root_.id from rfl,a56]at this
  |true=>
   simp only[cT]at hz
   split at hz
   rename_i ms hms;obtain⟨hok,hz⟩:=(a0g hz).elim id fun h=>by cases h.2
   exact d2e hcx hG hm h hN hD hfit hok hz fun a' w' Γ' σ' hr hN' hD' hK=>⟨.normal,Γ',σ',rfl,hK,hr,hN',hD'⟩;cases hz
 |seq x y ihx ihy=>
  intro p ρ Γ K z a w σ hf hz h hN hD;simp only[a1S,bA]at hf;simp only[a1x]at hz;refine wpIn_seq ?_
  split at hz
  ·refine wpIn_mono (ihx _ hf.1 hz h hN hD) ?_
   rintro e a' w' ⟨ex,Γ',σ',rfl,hK,hr,hN',hD'⟩
   cases ex with
   |normal=>exact ihy _ hf.2 hK hr hN' hD'
   |exit i=>exact⟨.exit i,Γ',σ',rfl,hK,hr,hN',hD'⟩
   |ret=>exact⟨.ret,Γ',σ',rfl,hK,hr,hN',hD'⟩
  ·rename_i os hos;obtain⟨y0,h1,h2⟩:=a32.1 hz;refine wpIn_mono (ihx _ hf.1 h1 h hN hD) ?_
   rintro e a' w' ⟨ex,Γ',σ',rfl,hK,hr,hN',hD'⟩
   obtain⟨y1,X,σ2,k1,k2,k3⟩:=a8u os hr (hcut _ _ hos) hK;simp only[sj]at k1;subst k1;rw[k3]at h2;cases ex with
   |normal=>exact ihy _ hf.2 h2 k2 hN' hD'
   |exit i=>exact⟨.exit i,X,σ2,rfl,h2,k2,hN',hD'⟩
   |ret=>exact⟨.ret,X,σ2,rfl,h2,k2,hN',hD'⟩
 |cond c x y ihx ihy=>
  intro p ρ Γ K z a w σ hf hz h hN hD;simp only[a1S,bA]at hf;simp only[a1x]at hz
  split at hz
  rename_i t ht;have hc:=h.opd hf.1;rw[ht]at hc;have hc:=a0i.bool hc;rcases a0g hz with⟨rfl,hz⟩|⟨rfl,hz⟩;exact wpIn_cond_true hc (ihx _ hf.2.1 hz h hN hD);exact wpIn_cond_false hc (ihy _ hf.2.2 hz h hN hD);cases hz
 |block id c ih=>
  intro p ρ Γ K z a w σ hf hz h hN hD;simp only[a1x]at hz;refine wpIn_block (wpIn_mono (ih _ hf hz h hN hD) ?_)
  rintro e a' w' ⟨ex,Γ',σ',rfl,hK,hr,hN',hD'⟩
  cases ex with
  |normal=>exact⟨.normal,Γ',σ',rfl,hK,hr,hN',hD'⟩
  |exit i=>
   simp only[b8C,Exit.inBlock];rcases a0g hK with⟨hi,hK⟩|⟨hi,hK⟩;rw[if_pos (by simpa using hi)];exact⟨.normal,Γ',σ',rfl,hK,hr,hN',hD'⟩;rw[if_neg (by simpa using hi)];exact⟨.exit i,Γ',σ',rfl,hK,hr,hN',hD'⟩
  |ret=>exact⟨.ret,Γ',σ',rfl,hK,hr,hN',hD'⟩
 |loop c ih=>
  intro p ρ Γ K z a w σ hf hz h hN hD;simp only[a1x]at hz
  split at hz
  cases hz
  ·rename_i s os hso;obtain⟨hs,hos⟩:=hloop _ _ _ hso;obtain⟨x0,σ0,h1,h2⟩:=h.dcd hs hz;obtain⟨y,hy,hK⟩:=a32.1 h1;obtain⟨n0,hn0⟩:=d0S hy;refine c1U (fun n a w=>∃x σ,a2H _ n x=some y∧Rel B (s.enc x) N (a0k a) w σ∧a.tmps.size=N∧a.defers=D) n0 ⟨x0,σ0,hn0,h2,hN,hD⟩ ?_
   rintro n a w ⟨x,σ,hn,hr,hN',hD'⟩
   cases n with
   |zero=>simp only[a2H]at hn;cases hn
   |succ n=>
    simp only[a2H]at hn
    split at hn
    cases hn
    ·rename_i x' hx';refine wpIn_mono (ih _ hf hx' hr hN' hD') ?_
     rintro e a' w' ⟨ex,Γ',σ',rfl,hK',hr',hN2,hD2⟩
     cases ex with
     |normal=>
      simp only[]at hK';obtain⟨x2,σ2,k1,k2⟩:=hr'.dcd hs hK';simp only[sj,Sum.inl.injEq]at k1;subst k1;exact⟨n,Nat.lt_succ_self n,x2,σ2,hn,k2,hN2,hD2⟩
     |exit i=>
      obtain⟨y1,X,σ2,k1,k2,k3⟩:=a8u os hr' hos hK';cases k1
     |ret=>
      obtain⟨y1,X,σ2,k1,k2,k3⟩:=a8u os hr' hos hK';cases k1
    ·rename_i b hb;simp only[sj]at hn;subst hn;refine wpIn_mono (ih _ hf hb hr hN' hD') ?_
     rintro e a' w' ⟨ex,Γ',σ',rfl,hK',hr',hN2,hD2⟩
     cases ex with
     |normal=>
      simp only[]at hK';obtain⟨x2,σ2,k1,k2⟩:=hr'.dcd hs hK';cases k1
     |exit i=>
      obtain⟨y1,X,σ2,k1,k2,k3⟩:=a8u os hr' hos hK';simp only[sj,Sum.inr.injEq]at k1;subst k1;rw[k3]at hK;exact⟨.exit i,X,σ2,rfl,hK,k2,hN2,hD2⟩
     |ret=>
      obtain⟨y1,X,σ2,k1,k2,k3⟩:=a8u os hr' hos hK';simp only[sj,Sum.inr.injEq]at k1;subst k1;rw[k3]at hK;exact⟨.ret,X,σ2,rfl,hK,k2,hN2,hD2⟩
 |exit id=>intro p ρ Γ K z a w σ hf hz h hN hD;exact wpIn_exit ⟨.exit id,Γ,σ,rfl,by simpa only[a1x]using hz,h,hN,hD⟩
 |ret=>intro p ρ Γ K z a w σ hf hz h hN hD;exact wpIn_ret ⟨.ret,Γ,σ,rfl,by simpa only[a1x]using hz,h,hN,hD⟩
 |_=>intro p ρ Γ K z a w σ hf hz h hN hD;simp only[a1x]at hz;cases hz
end
end Go.Ab
namespace Go.Ab
theorem c5X{α:Type}{P:Program}{w:World}{f:α→Sem Value}:∀(l:List α)(us:List Value),us.length=l.length→(∀(k:Nat) x u,l[k]?=some x→us[k]?=some u→(f x).run P w=.ok u w)→(l.mapM f).run P w=.ok us w
 | [],us,hl,_=>by
  have:us=[]:=by simpa using hl
  subst this;simp[pure]
 |x::l,[],hl,_=>by simp at hl
 |x::l,u::us,hl,h=>by
  have h1:=h 0 x u rfl rfl;have h2:=c5X l us (by simpa using hl) (fun k y v hy hv=>h (k+1) y v (by simpa using hy) (by simpa using hv));simp[List.mapM_cons,h1,h2,Result.andThen]
def a2n(tk:List Nat)(Γ Γ':AE):Prop:=
 (∀i av,Γ.get i=av→(av.firm=true∨∃n∈tk,av=.sref n []∨av=.ptr n [])→Γ'.get i=av)∧∀n∈tk,Γ'.rt n=Γ.rt n
theorem a2n.refl{tk Γ}:a2n tk Γ Γ:=⟨fun _ _ h _=>h,fun _ _=>rfl⟩
theorem a2n.trans{tk tk' Γ Γ' Γ''}(h:a2n tk Γ Γ')(h':a2n tk' Γ' Γ'')(hs:∀n∈tk,n∈tk'):a2n tk Γ Γ'':=
 ⟨fun i av hi ho=>h'.1 i av (h.1 i av hi ho) (ho.imp id fun⟨n,hn,e⟩=>⟨n,hs n hn,e⟩),fun n hn=>(h'.2 n (hs n hn)).trans (h.2 n hn)⟩
theorem a2n.gone{tk:List Nat}{Γ:AE}{n:Nat}(hn:n∉tk)(f:AV→AV)(hf:∀av:AV,(av.firm=true∨∃m,m≠n∧(av=.sref m []∨av=.ptr m []))→f av=av):a2n tk Γ ((Γ.mapv f).setRt n none):=by
 refine⟨fun i av hi ho=>?_,fun m hm=>?_⟩
 ·have hk:f av=av:=hf av (ho.imp id fun⟨m,hm,e⟩=>⟨m,fun g=>hn (g▸hm),e⟩);simp only[AE.get,AE.setRt,AE.mapv]at hi⊢;cases hs:Γ.sl i with
  |one v=>rw[hs]at hi;simp only[]at hi;subst hi;simp[SV.mapv,hk]
  |cmp c0 vs=>
   rw[hs]at hi;simp only[]at hi;subst hi;rcases ho with ho|⟨m,-,e|e⟩;cases ho;cases e;cases e
 have:(m==n)=false:=by
  have:m≠n:=fun e=>hn (e▸hm)
  simpa using this
 simp[AE.setRt,AE.mapv,this]
theorem a2n.set{tk:List Nat}{Γ Γ':AE}(h:a2n tk Γ Γ'){j:Nat}{av:AV}(hj:Γ.get j=.dead):a2n tk Γ (Γ'.set j av):=by
 refine⟨fun i v hi ho=>?_,fun n hn=>h.2 n hn⟩;have hij:i≠j:=by
  rintro rfl
  rw[hj]at hi;subst hi;rcases ho with ho|⟨m,-,e|e⟩;cases ho;cases e;cases e
 have:=h.1 i v hi ho
 simp only[AE.get]at this⊢;rw[a2b,if_neg hij];exact this
def c1V(tk tk':List Nat)(Γ:AE)(av:AV):((r:RA)×r.ty.den)→Prop
 |⟨.v t,x⟩=>av=.val t x∧tk'=tk
 |⟨.o e,x⟩=>(∃n,av=.sref n []∧n∉tk∧tk'=n::tk∧Γ.rt n=some ⟨false,.list true e,x⟩)∨((av=.nils∨av=.empt)∧x=[]∧tk'=tk)
 |⟨.b t,x⟩=>∃n,av=.ptr n []∧n∉tk∧tk'=n::tk∧Γ.rt n=some ⟨true,t,x⟩
def a2o(a:Nat→Value):ResultVar→Sem Value
 |.tmp t=>pure (a t)
 |.cell i t=>do loadVar t (←asAddr (a i))
def a9o(N0:Nat):ResultVar ⊕ Option Nat→Bool
 |.inl (.tmp i)=>decide (i<N0)
 |.inl (.cell i _)=>decide (i<N0)
 |.inr _=>true
def a6X(P:Program)(B:Base)(w:World)(tm:Nat→Value)(u:Value):ResultVar ⊕ Option Nat→Prop
 |.inl r=>(a2o tm r).run P w=.ok u w
 |.inr none=>u=.slice none 0 0
 |.inr (some n)=>∀i b,n=pinned+i→B.pin i=some b→b8o b u
section
variable {P:Program} {B:Base} {N:Nat} {w:World} {cx:Cx} {ρ:Type}
theorem c4l(hcx:CxTy P cx){tm:Nat→Value}{N0:Nat}(hN0:N0≤N){Γ:AE}{σ:Gh}(h:Rel B Γ N tm w σ)(hpd:Γ.pd=none){tk:List Nat}{j:Nat}{r:RA}{v:ResultVar ⊕ Option Nat}(hv:a9o N0 v=true)
  {K:r.ty.den→AE→List Nat→Rs ρ}{z:ρ}(hz:Γ.out cx tk j r v K=some z):
  ∃x Γ1 σ1 tk1 av u,K x (Γ1.set j av) tk1=some z∧Rel B Γ1 N tm w σ1∧Γ1.pd=none∧a0i (a0a w σ1.ov) σ1.g Γ1.rt (Shr B w σ1) av u∧a6X P B w tm u v∧c1V tk tk1 Γ1 av ⟨r,x⟩∧a2n tk Γ Γ1∧
   ∀i,Γ.get i=.dead→Γ1.get i=.dead:=by
 have dead_gone:∀(Γ:AE)(n:Nat)(f:AV→AV),f .dead=.dead→∀i,Γ.get i=.dead→((Γ.mapv f).setRt n none).get i=.dead:=fun Γ n f hf i hi=>by
  simp only[AE.get,AE.setRt,AE.mapv]at hi⊢;cases hs:Γ.sl i with
  |one v=>rw[hs]at hi;simp only[]at hi;subst hi;simp[SV.mapv,hf]
  |cmp c0 vs=>rfl
 cases r with
 |v t=>
  cases v with
  |inr n=>simp only[AE.out]at hz;cases hz
  |inl rv=>
   cases rv with
   |tmp i=>
    simp only[a9o,dT]at hv;simp only[AE.out]at hz;rcases a0g hz with⟨-,g⟩|⟨hvw,hz⟩;cases g;have hnt:∀n∈(Γ.get i).viewed,n∉tk:=fun n hn hu=>by
     have:=List.any_eq_false.1 hvw n hn
     simp[hu]at this
    have ha:=a3c h (a24 hv hN0);have key:∃x Γ1 σ1,K x (Γ1.set j (.val t x)) tk=some z∧Rel B Γ1 N tm w σ1∧VOk (a0a w σ1.ov) (Shr B w σ1) t x (tm i)∧Γ1.pd=Γ.pd∧a2n tk Γ Γ1∧∀i,Γ.get i=.dead→Γ1.get i=.dead:=by

     let K':t.den→AE→Rs ρ:=fun x Γ'=>K x (Γ'.set j (.val t x)) tk
     cases hg:Γ.get i with
     |glob g=>
      rw[hg]at hz;simp only[AE.asV]at hz;cases hz
     |val t' x=>
      rw[hg]at hz ha;simp only[AE.asV]at hz
      split at hz
      rename_i x2 hx2;exact⟨x2,Γ,σ,hz,h,VOk.castTo hx2 ha,rfl,a2n.refl,fun _ g=>g⟩;cases hz
     |nils=>
      rw[hg]at hz ha;cases t with
      |list o e=>
       cases o with
       |false=>
        obtain ha:tm i=_:=ha;exact⟨[],Γ,σ,hz,h,by rw[ha];exact VOk.empty,rfl,a2n.refl,fun _ g=>g⟩
       |true=>simp only[AE.asV]at hz;cases hz
      |_=>simp only[AE.asV]at hz;cases hz
     |empt=>
      rw[hg]at hz ha;cases t with
      |list o e=>
       cases o with
       |false=>
        obtain⟨A,ha⟩:=ha;exact⟨[],Γ,σ,hz,h,by rw[ha];exact VOk.empty,rfl,a2n.refl,fun _ g=>g⟩
       |true=>simp only[AE.asV]at hz;cases hz
      |_=>simp only[AE.asV]at hz;cases hz
     |sref n p=>
      rw[hg]at hz ha hnt;cases p with
      |cons=>simp only[AE.asV]at hz;cases hz
      |nil=>
       simp only[AE.asV,a04,if_false]at hz
       split at hz
       rename_i e l hr;obtain⟨hpd',hr⟩:=a0F hr
       split at hz
       rename_i ht;subst ht;have hv':=h.sref_vok ha hr rfl;refine⟨_,_,_,hz,h.frz hr (by simp[hpd']),hv'.frame (fun _ _ _=>rfl) (fun c hc=>?_),rfl,a2n.gone (hnt n (by simp[AV.viewed])) _ ?_,dead_gone Γ n _ rfl⟩;rcases hc with g|g;exact Rel.shr_gone c g;have hown:a0L σ c:=⟨n,g⟩;refine⟨h.lt hown,.inr (h.mine c hown),fun⟨m,hm⟩=>?_⟩;have hm:c∈(if m=n then[]else σ.ow m).map (·.1):=hm
       split at hm
       simp at hm;rename_i hmn;exact h.disj m n hmn c hm g
       rintro av (g|⟨m,hm,rfl|rfl⟩)
       cases av<;>first|rfl|cases g
       have:(m==n)=false:=by simpa using hm
       simp[AV.frz,this]
       have:(m==n)=false:=by simpa using hm
       simp[AV.frz,this];cases hz;cases hz
     |swin n p o k=>
      rw[hg]at hz ha hnt;cases p with
      |cons=>simp only[AE.asV]at hz;cases hz
      |nil=>
       simp only[AE.asV,a04,if_false]at hz
       split at hz
       rename_i e l hr;obtain⟨hpd',hr⟩:=a0F hr
       split at hz
       rename_i ht;subst ht;have hv':=h.swin_vok ha hr rfl;refine⟨_,_,_,hz,h.frz hr (by simp[hpd']),hv'.frame (fun _ _ _=>rfl) (fun c hc=>?_),rfl,a2n.gone (hnt n (by simp[AV.viewed])) _ ?_,dead_gone Γ n _ rfl⟩;rcases hc with g|g;exact Rel.shr_gone c g;have hown:a0L σ c:=⟨n,g⟩;refine⟨h.lt hown,.inr (h.mine c hown),fun⟨m,hm⟩=>?_⟩;have hm:c∈(if m=n then[]else σ.ow m).map (·.1):=hm
       split at hm
       simp at hm;rename_i hmn;exact h.disj m n hmn c hm g
       rintro av (g|⟨m,hm,rfl|rfl⟩)
       cases av<;>first|rfl|cases g
       have:(m==n)=false:=by simpa using hm
       simp[AV.frz,this]
       have:(m==n)=false:=by simpa using hm
       simp[AV.frz,this];cases hz;cases hz
     |dead|skp|nilp|ptr|vptr=>rw[hg]at hz;cases hz
    obtain⟨x,Γ1,σ1,k1,k2,k3,k4,k5,k6⟩:=key;exact⟨x,Γ1,σ1,tk,.val t x,tm i,k1,k2,k4.trans hpd,k3,by simp[a6X,a2o],⟨rfl,rfl⟩,k5,k6⟩
   |cell i t'=>
    simp only[a9o,dT]at hv;simp only[AE.out]at hz;have ha:=a3c h (a24 hv hN0)
    split at hz
    rename_i n hg;rw[hg]at ha;rcases a0g hz with⟨-,g⟩|⟨hnt,hz⟩;cases g;have hnt:n∉tk:=by simpa using hnt
    split at hz
    rename_i hT;obtain⟨hsh,hty⟩:=hcx.T t' _ hT;obtain⟨u,Γ1,σ1,av',h1,h2,h3,h4,h5⟩:=Rel.lod hty hsh h ha hz
    split at h4
    rename_i t'' x
    split at h4
    rename_i x2 hx2;have h3x:a0i (a0a w σ1.ov) σ1.g Γ1.rt (Shr B w σ1) (.val t x2) u:=VOk.castTo hx2 h3;have hu:(a2o tm (.cell i t')).run P w=.ok u w:=by
     obtain⟨r',t1,b,off,-,-,g3⟩:=ha;simp only[Instr.loadAt,g3,Instr.sureAddr]at h1;simp only[a2o,g3,asAddr];exact h1
    rcases h5 with⟨rfl,rfl⟩|⟨-,m,hm,rfl⟩;exact⟨x2,Γ1,σ1,tk,.val t x2,u,h4,h2,hpd,h3x,hu,⟨rfl,rfl⟩,a2n.refl,fun _ g=>g⟩;cases hm;refine⟨x2,_,σ1,tk,.val t x2,u,h4,h2,hpd,h3x,hu,⟨rfl,rfl⟩,a2n.gone hnt _ ?_,dead_gone Γ n _ rfl⟩
    rintro av (g|⟨m,hm,rfl|rfl⟩)
    cases av<;>first|rfl|cases g
    have:(m==n)=false:=by simpa using hm
    simp[AV.drop,this]
    have:(m==n)=false:=by simpa using hm
    simp[AV.drop,this];cases h4;cases h4;cases hz;cases hz
 |o e=>
  cases v with
  |inr n=>
   cases n with
   |none=>
    simp only[AE.out]at hz;exact⟨[],Γ,σ,tk,.nils,.slice none 0 0,hz,h,hpd,rfl,rfl,.inr ⟨.inl rfl,rfl,rfl⟩,a2n.refl,fun _ g=>g⟩
   |some n=>
    simp only[AE.out]at hz;rcases a0g hz with⟨-,g⟩|⟨hnt,hz⟩;cases g;have hnt:n∉tk:=by simpa using hnt
    split at hz
    rename_i e' x hr
    split at hz
    rename_i he;subst he;rcases h.src_of hr with⟨g,-⟩|⟨-,u,e2,hg,-⟩;cases g;refine⟨x,Γ,σ,n::tk,.sref n [],u,hz,h,hpd,⟨_,e',.one u,hr,by show some (_,σ.g n)=_;rw[hg],rfl⟩,fun i b' hn hb=>?_,.inl ⟨n,rfl,hnt,rfl,hr⟩,a2n.refl,fun _ g=>g⟩;subst hn
    have:=h.pins i b' hb (by rw[hr];simp)
    rw[←this,hg];rfl;cases hz;cases hz
  |inl rv=>
   cases rv with
   |cell i t'=>simp only[AE.out]at hz;cases hz
   |tmp i=>
    simp only[a9o,dT]at hv;have ha:=a3c h (a24 hv hN0);simp only[AE.out]at hz
    split at hz
    rename_i n hg;rw[hg]at ha;rcases a0g hz with⟨-,g⟩|⟨hnt,hz⟩;cases g;have hnt:n∉tk:=by simpa using hnt
    split at hz
    rename_i e' l hr
    split at hz
    rename_i he;subst he;exact⟨l,Γ,σ,n::tk,.sref n [],tm i,hz,h,hpd,ha,by simp[a6X,a2o],.inl ⟨n,rfl,hnt,rfl,hr⟩,a2n.refl,fun _ g=>g⟩;cases hz;cases hz;rename_i hg;rw[hg]at ha;exact⟨[],Γ,σ,tk,.nils,tm i,hz,h,hpd,ha,by simp[a6X,a2o],.inr ⟨.inl rfl,rfl,rfl⟩,a2n.refl,fun _ g=>g⟩;rename_i hg;rw[hg]at ha;exact⟨[],Γ,σ,tk,.empt,tm i,hz,h,hpd,ha,by simp[a6X,a2o],.inr ⟨.inr rfl,rfl,rfl⟩,a2n.refl,fun _ g=>g⟩;cases hz
 |b t=>
  cases v with
  |inr n=>
   cases n with
   |none=>simp only[AE.out]at hz;cases hz
   |some n=>
   simp only[AE.out]at hz;rcases a0g hz with⟨-,g⟩|⟨hnt,hz⟩;cases g;have hnt:n∉tk:=by simpa using hnt
   split at hz
   rename_i t' x hr
   split at hz
   rename_i he;subst he;obtain⟨O',R,-,-,hc⟩:=(h.roots n _ hr).rd;rcases hc with⟨-,b,hs,-⟩|⟨hb,-⟩;refine⟨x,Γ,σ,n::tk,.ptr n [],.pointer (some ⟨b,0,none⟩),hz,h,hpd,⟨_,t',b,0,hr,by show some (t',σ.g n)=_;rw[hs],rfl⟩,fun i b' hn hb=>?_,⟨n,rfl,hnt,rfl,hr⟩,a2n.refl,fun _ g=>g⟩;subst hn
   have:=h.pins i b' hb (by rw[hr];simp)
   rw[←this,hs];exact⟨rfl,rfl⟩;cases hb;cases hz;cases hz
  |inl rv=>
   cases rv with
   |cell i t'=>simp only[AE.out]at hz;cases hz
   |tmp i=>
    simp only[a9o,dT]at hv;have ha:=a3c h (a24 hv hN0);simp only[AE.out]at hz
    split at hz
    rename_i n hg;rw[hg]at ha;rcases a0g hz with⟨-,g⟩|⟨hnt,hz⟩;cases g;have hnt:n∉tk:=by
     simp only[Bool.or_eq_false_iff]at hnt;simpa using hnt.1
    split at hz
    rename_i t' x hr
    split at hz
    rename_i he;subst he;exact⟨x,Γ,σ,n::tk,.ptr n [],tm i,hz,h,hpd,ha,by simp[a6X,a2o],⟨n,rfl,hnt,rfl,hr⟩,a2n.refl,fun _ g=>g⟩;cases hz;cases hz;cases hz
end
end Go.Ab
namespace Go.Ab
def d4I(Γ:AE)(av:AV)(o:Option Nat):((r:RA)×r.ty.den)→Prop
 |⟨.v t,x⟩=>av=.val t x∧o=none
 |⟨.o e,x⟩=>(∃n,o=some n∧av=.sref n []∧Γ.rt n=some ⟨false,.list true e,x⟩)∨(o=none∧(av=.nils∨av=.empt)∧x=[])
 |⟨.b t,x⟩=>∃n,o=some n∧av=.ptr n []∧Γ.rt n=some ⟨true,t,x⟩
theorem c1V.finK{tk tk':List Nat}{Γ Γ':AE}{av:AV}{i:Nat}(hg:Γ.get i=av):∀{it:(r:RA)×r.ty.den},c1V tk tk' Γ av it→a2n tk' Γ Γ'→
  ∃o,d4I Γ' (Γ'.get i) o it∧(∀n∈tk,n∈tk')∧∀n,o=some n→n∉tk∧n∈tk'
 |⟨.v t,x⟩,⟨h1,h2⟩,hs=>by
  subst h1;subst h2;exact⟨none,⟨hs.1 i _ hg (.inl rfl),rfl⟩,fun _ g=>g,by simp⟩
 |⟨.o e,x⟩,h,hs=>by
  rcases h with⟨n,rfl,h2,rfl,h4⟩|⟨h1,h2,rfl⟩;refine⟨some n,.inl ⟨n,rfl,hs.1 i _ hg (.inr ⟨n,by simp,.inl rfl⟩),(hs.2 n (by simp)).trans h4⟩,fun m g=>a01 _ g,?_⟩
  rintro m hm
  simp only[sj]at hm;subst hm;exact⟨h2,by simp⟩;refine⟨none,.inr ⟨rfl,?_,h2⟩,fun _ g=>g,by simp⟩;rw[hs.1 i av hg (.inl (by rcases h1 with rfl|rfl<;>rfl))];exact h1
 |⟨.b t,x⟩,⟨n,h1,h2,h3,h4⟩,hs=>by
  subst h1;subst h3;refine⟨some n,⟨n,rfl,hs.1 i _ hg (.inr ⟨n,by simp,.inr rfl⟩),(hs.2 n (by simp)).trans h4⟩,fun m g=>a01 _ g,?_⟩
  rintro m hm
  simp only[sj]at hm;subst hm;exact⟨h2,by simp⟩
section
variable {P:Program} {B:Base} {w:World} {cx:Cx} {ρ:Type}
theorem Rel.ext_slot{N:Nat}{tm:Nat→Value}{Γ:AE}{σ:Gh}(h:Rel B Γ N tm w σ){av:AV}{u:Value}(hv:a0i (a0a w σ.ov) σ.g Γ.rt (Shr B w σ) av u):Rel B (Γ.set N av) (N+1) (fun i=>if i=N then u else tm i) w σ:=by
 refine⟨h.roots,h.norm,h.nodup,h.disj,h.live,fun i hi=>?_,h.pend,h.size,h.frame,h.mine,h.pins,h.still⟩;rw[a2b]
 by_cases e:i=N
 rw[if_pos e,if_pos e];exact hv;rw[if_neg e,if_neg e];exact h.slots i (by omega)
theorem a6X.congr{tm tm':Nat→Value}{N0:Nat}{u:Value}{v:ResultVar ⊕ Option Nat}(hv:a9o N0 v=true)(h:a6X P B w tm u v)(ht:∀i,i<N0→tm' i=tm i):a6X P B w tm' u v:=by
 cases v with
 |inr n=>cases n<;>exact h
 |inl r=>
  cases r with
  |tmp i=>
   simp only[a9o,dT]at hv;simp only[a6X,a2o]at h⊢;rw[ht i hv];exact h
  |cell i t=>
   simp only[a9o,dT]at hv;simp only[a6X,a2o]at h⊢;rw[ht i hv];exact h
structure Outd (P:Program) (B:Base) (w:World) (N0 N:Nat) (tm:Nat→Value) (tk:List Nat) (Γ Γ':AE) (σ':Gh) (rs:List RA) (vs:List (ResultVar ⊕ Option Nat)) (y:(a1I (rs.map RA.ty)).den) (us:List Value) (tm':Nat→Value) (ns:List (Option Nat)):Prop where
 lu:us.length=rs.length
 lv:vs.length=rs.length
 ln:ns.length=rs.length
 rel:Rel B Γ' (N+rs.length) tm' w σ'
 pd:Γ'.pd=none
 low:∀i,i<N→tm' i=tm i
 high:∀(k:Nat) u,us[k]?=some u→tm' (N+k)=u
 stay:a2n tk Γ Γ'
 comes:∀(k:Nat) v u,vs[k]?=some v→us[k]?=some u→a6X P B w tm u v
 fin:∀(k:Nat) it o,(a1F rs y)[k]?=some it→ns[k]?=some o→d4I Γ' (Γ'.get (N+k)) o it
 names:∀(k n:Nat),ns[k]?=some (some n)→n∉tk∧∀k':Nat,ns[k']?=some (some n)→k'=k
theorem c1W(hcx:CxTy P cx){N0:Nat}:∀(rs:List RA)(vs:List (ResultVar ⊕ Option Nat)) {Γ:AE} {σ:Gh} {N:Nat} {tm:Nat→Value} {tk:List Nat} (_:N0≤N) (_:Rel B Γ N tm w σ) (_:Γ.pd=none) (_:∀i,N≤i→Γ.get i=.dead)
  (_:∀v∈vs,a9o N0 v=true) {K:(a1I (rs.map RA.ty)).den→AE→Rs ρ} {z:ρ} (_:Γ.outs cx tk N rs vs K=some z),∃y Γ' σ' us tm' ns,K y Γ'=some z∧Outd P B w N0 N tm tk Γ Γ' σ' rs vs y us tm' ns
 | [],vs,Γ,σ,N,tm,tk,hN,h,hpd,hdead,hvs,K,z,hz=>by
  cases vs with
  |cons=>simp only[AE.outs]at hz;cases hz
  |nil=>exact⟨(),Γ,σ,[],tm,[],hz,⟨rfl,rfl,rfl,h,hpd,fun _ _=>rfl,by simp,a2n.refl,by simp,by simp[a1F],by simp⟩⟩
 | [r],vs,Γ,σ,N,tm,tk,hN,h,hpd,hdead,hvs,K,z,hz=>by
  match vs,hvs with
  | [],_=>simp only[AE.outs]at hz;cases hz
  |_::_::_,_=>simp only[AE.outs]at hz;cases hz
  | [v],hvs=>
   simp only[AE.outs]at hz;obtain⟨x,Γ1,σ1,tk1,av,u,h1,h2,h3,h4,h5,h6,h7,h8⟩:=c4l hcx hN h hpd (hvs v (by simp)) hz;have hget:(Γ1.set N av).get N=av:=by simp only[AE.get];rw[a2b,if_pos rfl]
   have hs1:a2n tk1 Γ1 (Γ1.set N av):=a2n.refl.set (h8 N (hdead N (a35 _)));have h6':c1V tk tk1 (Γ1.set N av) av ⟨r,x⟩:=h6;obtain⟨o,k1,k2,k3⟩:=h6'.finK hget a2n.refl;refine⟨x,Γ1.set N av,σ1,[u],_,[o],h1,⟨rfl,rfl,rfl,h2.ext_slot h4,h3,fun i hi=>if_neg (by omega),fun k u' hk=>?_,h7.set (hdead N (a35 _)),fun k v' u' hk hu=>?_,fun k it o' hk ho=>?_,fun k n hk=>?_⟩⟩
   ·cases k with
    |zero=>simp only[a00,sj]at hk;simp[hk]
    |succ k=>simp at hk
   ·cases k with
    |zero=>
     simp only[a00,sj]at hk hu;subst hk;subst hu;exact h5
    |succ k=>simp at hk
   ·cases k with
    |zero=>
     simp only[a1F,a00,sj]at hk ho;subst hk;subst ho;exact k1
    |succ k=>simp[a1F]at hk
   ·cases k with
    |zero=>
     simp only[a00,sj]at hk;refine⟨(k3 n hk).1,fun k' hk'=>?_⟩;cases k' with
     |zero=>rfl
     |succ k'=>simp at hk'
    |succ k=>simp at hk
 |r::r'::rs,vs,Γ,σ,N,tm,tk,hN,h,hpd,hdead,hvs,K,z,hz=>by
  match vs,hvs with
  | [],_=>simp only[AE.outs]at hz;cases hz
  |v::vs,hvs=>
   simp only[AE.outs]at hz;obtain⟨x,Γ1,σ1,tk1,av,u,h1,h2,h3,h4,h5,h6,h7,h8⟩:=c4l hcx hN h hpd (hvs v (by simp)) hz;have hget:(Γ1.set N av).get N=av:=by simp only[AE.get];rw[a2b,if_pos rfl]
   have hd1:∀i,N+1≤i→(Γ1.set N av).get i=.dead:=fun i hi=>by
    have:=h8 i (hdead i (by omega))
    simp only[AE.get]at this⊢;rw[a2b,if_neg (by omega)];exact this
   obtain⟨y,Γ',σ',us,tm',ns,k1,k2⟩:=c1W hcx (r'::rs) vs (by omega:N0≤N+1) (h2.ext_slot h4) h3 hd1 (fun v' hv'=>hvs v' (by simp[hv'])) h1;have h6':c1V tk tk1 (Γ1.set N av) av ⟨r,x⟩:=h6;obtain⟨o,j1,j2,j3⟩:=h6'.finK hget k2.stay;refine⟨(x,y),Γ',σ',u::us,tm',o::ns,k1,⟨by simp[k2.lu],by simp[k2.lv],by simp[k2.ln],?_,k2.pd,fun i hi=>?_,fun k u' hk=>?_,(h7.set (hdead N (a35 _))).trans k2.stay j2,fun k v' u' hk hu=>?_,fun k it o' hk ho=>?_,fun k n hk=>?_⟩⟩
   have:=k2.rel
   simp only[lC]at this⊢
   rwa [show N+1+(rs.length+1)=N+(rs.length+1+1)from by omega]at this
   rw[k2.low i (by omega),if_neg (by omega)]
   ·cases k with
    |zero=>
     simp only[a00,sj]at hk;rw[←hk,a36,k2.low N (by omega),if_pos rfl]
    |succ k=>
     have:=k2.high k u' (by simpa using hk)
     rwa [show N+1+k=N+(k+1)from by omega]at this
   ·cases k with
    |zero=>
     simp only[a00,sj]at hk hu;subst hk;subst hu;exact h5
    |succ k=>
     have hk':vs[k]?=some v':=by simpa using hk
     exact(k2.comes k v' u' hk' (by simpa using hu)).congr (hvs v' (by simp[a37 hk'])) (fun i hi=>(if_neg (by omega)).symm)
   ·cases k with
    |zero=>
     simp only[a1F,a00,sj]at hk ho;subst hk;subst ho;exact j1
    |succ k=>
     have:=k2.fin k it o' (by simpa[a1F]using hk) (by simpa using ho)
     rwa [show N+1+k=N+(k+1)from by omega]at this
   ·cases k with
    |zero=>
     simp only[a00,sj]at hk;refine⟨(j3 n hk).1,fun k' hk'=>?_⟩;cases k' with
     |zero=>rfl
     |succ k'=>exact absurd (j3 n hk).2 (k2.names k' n (by simpa using hk')).1
    |succ k=>
     obtain⟨a1,a2⟩:=k2.names k n (by simpa using hk);refine⟨fun g=>a1 (j2 n g),fun k' hk'=>?_⟩;cases k' with
     |zero=>
      simp only[a00,sj]at hk';exact absurd (j3 n hk').2 a1
     |succ k'=>rw[a2 k' (by simpa using hk')]
end
end Go.Ab
namespace Go.Ab
theorem c7C{P:Program}{fn:Func}{a:Act}{w:World}{vr:List Value}(hl:vr.length=fn.results.toList.length)
  (h:∀(k:Nat) r u,fn.results.toList[k]?=some r→vr[k]?=some u→(a2o (a0k a) r).run P w=.ok u w):(results fn a.tmps).run P w=.ok (b4H vr) w:=by
 have h1:(fn.results.toList.mapM (a2o (a0k a))).run P w=.ok vr w:=c5X _ _ hl h;have h2:fn.results.mapM (a2o (a0k a))=Functor.map List.toArray (fn.results.toList.mapM (a2o (a0k a))):=by
  rw[←List.mapM_toArray]
 have h3:results fn a.tmps=(do
   let vs ←fn.results.mapM (a2o (a0k a))
   pure (if h:vs.size=1 then vs[0]else .tuple vs)):=by
  have:(fun(r:ResultVar)=>match r with
   |.tmp t=>(pure (a.tmps.getD t undef):Sem Value)
   |.cell i t=>do loadVar t (←asAddr (a.tmps.getD i undef)))=a2o (a0k a):=by
   funext r;cases r<;>rfl
  rw[←this];rfl
 rw[h3,h2];simp only[map_eq_pure_bind,bind_assoc,pure_bind,Sem.run_bind,h1,Result.andThen_ok,Sem.run_pure,List.size_toArray];congr 1
 match vr with
 | []=>rfl
 | [u]=>rfl
 |_::_::_=>rfl
section
variable {P:Program} {B:Base} {w:World} {cx:Cx}
theorem Outd.back{N0 N:Nat}{tm:Nat→Value}{Γ Γ':AE}{σ':Gh}{rs:List RA}{vs y us tm' ns}(h:Outd P B w N0 N tm [] Γ Γ' σ' rs vs y us tm' ns):
  ∃Ls,Back B w (a1F rs y) us Ls:=by
 have hov:=h.rel.ov_none h.pd;have hmem:a0a w σ'.ov=cells w:=by rw[hov];rfl
 let F:Option Nat→Value→Src×a0U:=fun o u=>match o with
  |some n=>(σ'.g n,σ'.ow n)
  |none=>(.one u,[])
 let Ls:=a80 F ns us
 have hget:∀(k:Nat) L,Ls[k]?=some L→∃o u,ns[k]?=some o∧us[k]?=some u∧L=F o u:=fun k L hk=>by
  simp only[Ls,List.getElem?_zipWith]at hk;cases ho:ns[k]? with
  |none=>rw[ho]at hk;simp at hk
  |some o=>
   cases hu:us[k]? with
   |none=>rw[ho,hu]at hk;simp at hk
   |some u=>
    rw[ho,hu]at hk;simp only[sj]at hk;exact⟨o,u,rfl,rfl,hk.symm⟩
 have hmemL:∀L∈Ls,L.2=[]∨∃(k n:Nat),ns[k]?=some (some n)∧L.2=σ'.ow n:=fun L hL=>by
  obtain⟨k,hk⟩:=a68.1 hL;obtain⟨o,u,ho,hu,rfl⟩:=hget k L hk;cases o with
  |none=>exact .inl rfl
  |some n=>exact .inr ⟨k,n,ho,rfl⟩
 have hsh:∀c,Shr B w σ' c→(c<w.heap.size∧(B.S c∨B.F c∨B.size≤c)∧∀L∈Ls,c∉L.2.map (·.1)):=fun c hc=>⟨hc.1,hc.2.1,fun L hL hcL=>by
  rcases hmemL L hL with g|⟨k,n,-,g⟩;rw[g]at hcL;simp at hcL;rw[g]at hcL;exact hc.2.2 ⟨n,hcL⟩⟩
 have hown:∀L∈Ls,∀c∈L.2.map (·.1),a0L σ' c:=fun L hL c hc=>by
  rcases hmemL L hL with g|⟨k,n,-,g⟩;rw[g]at hc;simp at hc;rw[g]at hc;exact⟨n,hc⟩
 refine⟨Ls,⟨by rw[h.lu,a7T],by simp[Ls,h.lu,h.ln,a7T],fun k it u L hit hu hL=>?_,fun L hL=>?_,fun k k' L L' hL hL' hne c hc hc'=>?_,fun L hL p hp=>?_,fun L hL c hc=>h.rel.mine c (hown L hL c hc),h.rel.size,h.rel.frame,h.rel.still⟩⟩
 ·obtain⟨o,u',ho,hu',rfl⟩:=hget k L hL;rw[hu]at hu';simp only[sj]at hu';subst hu';have hfin:=h.fin k it o hit ho;have hk:k<rs.length:=by rw[←h.lu];exact(lS.1 hu).1
  have ha:=a3c h.rel (show N+k<N+rs.length by omega);rw[h.high k u hu,hmem]at ha;obtain⟨r,x⟩:=it;cases r with
  |v t=>
   obtain⟨g1,rfl⟩:=hfin;rw[g1]at ha;exact⟨VOk.frame ha (fun _ _ _=>rfl) hsh,rfl⟩
  |o e=>
   rcases hfin with⟨n,rfl,g2,g3⟩|⟨rfl,g2,rfl⟩;rw[g2]at ha;obtain⟨r',e',s,a1,a2,a3⟩:=ha;rw[g3]at a1;simp only[sj]at a1;subst a1;simp only[loc,a0Q,sj,pJ]at a2;obtain⟨-,rfl⟩:=a2;have hroot:=h.rel.roots n _ g3;rw[hmem]at hroot;refine⟨?_,hroot.mono hsh⟩;obtain⟨O',R,-,-,hc⟩:=hroot.rd;rcases hc with⟨hb,-⟩|⟨-,⟨v0,hv0⟩,-,-⟩;cases hb;show σ'.g n=.one u;rw[hv0]at a3⊢;simp only[Src.rd,if_true,sj]at a3;rw[a3]
   ·refine⟨rfl,⟨[],[],?_,by simp,.inr ⟨rfl,⟨_,rfl⟩,⟨e,rfl⟩,rfl⟩⟩⟩;show a0K _ true e.cells (dec _ e) (some u)=some (([]:List e.den),[],[]);rcases g2 with g2|g2;rw[g2]at ha;have ha:u=.slice none 0 0:=ha;rw[ha];rfl
    ·rw[g2]at ha;obtain⟨A,ha⟩:=ha;rw[ha];cases A with
     |none=>rfl
     |some A=>simp[a0K,a0d]
  |b t=>
   obtain⟨n,rfl,g2,g3⟩:=hfin;rw[g2]at ha;obtain⟨r',t',b,o',a1,a2,a3⟩:=ha;rw[g3]at a1;simp only[sj]at a1;subst a1;simp only[loc,a0Q,sj,pJ]at a2;obtain⟨rfl,a2⟩:=a2;have hroot:=h.rel.roots n _ g3;rw[hmem]at hroot;refine⟨hroot.mono hsh,b,?_⟩;obtain⟨O',R,-,-,hc⟩:=hroot.rd;rcases hc with⟨-,b',hb,-⟩|⟨hb,-⟩;rw[hb]at a2;simp only[Src.at.injEq]at a2;obtain⟨rfl,rfl⟩:=a2;exact⟨hb,a3⟩;cases hb
 rcases hmemL L hL with g|⟨k,n,-,g⟩;rw[g];simp;rw[g];exact h.rel.nodup n
 ·obtain⟨o,u,ho,-,rfl⟩:=hget k L hL;obtain⟨o',u',ho',-,rfl⟩:=hget k' L' hL';cases o with
  |none=>simp[F]at hc
  |some n=>
   cases o' with
   |none=>simp[F]at hc'
   |some n'=>
    have hnn:n≠n':=by
     rintro rfl
     exact hne ((h.names k' n ho').2 k ho)
    exact h.rel.disj n n' hnn c hc hc'
 rcases hmemL L hL with g|⟨k,n,-,g⟩;rw[g]at hp;cases hp;rw[g]at hp;exact h.rel.live n p hp
theorem b5w:∀(ps:List PA)(i0 i:Nat),i∈a0w ps i0→∃c a,ps[i-i0]?=some (.r c a)
 | [],_,_,h=>by simp[a0w]at h
 |.v _::ps,i0,i,h=>by
  have:=(b2m ps (i0+1)).2 i h
  obtain⟨c,a,h1⟩:=b5w ps (i0+1) i h;exact⟨c,a,by rw[show i-i0=(i-(i0+1))+1 from by omega];simpa using h1⟩
 |.r c a::ps,i0,i,h=>by
  rcases mC.1 h with rfl|h;exact⟨c,a,by simp⟩
  have:=(b2m ps (i0+1)).2 i h
  obtain⟨c,a,h1⟩:=b5w ps (i0+1) i h;exact⟨c,a,by rw[show i-i0=(i-(i0+1))+1 from by omega];simpa using h1⟩
def d2f(fn:Func)(c:Code)(H:Hints)(s:FSem):Bool:=
 a1S fn.ntmps c&&(H.fits fn.ntmps&&(decide (s.ps.length≤fn.ntmps)&&fn.results.toList.all fun r=>a9o fn.ntmps (.inl r)))
theorem b5x(hcx:CxTy P cx){fn:Func}{s:FSem}{y}{args:Array Value}(hres:(fn.results.toList.all fun r=>a9o fn.ntmps (.inl r))=true){a':Act}{w':World}{σ':Gh}{Γ':AE}(hr:Rel B Γ' fn.ntmps (a0k a') w' σ')(hpd:Γ'.pd=none)
  (hK:(Γ'.upto fn.ntmps).outs cx [] fn.ntmps (RA.all s.ps s.rs) (fn.results.toList.map .inl++(a0w s.ps 0).map fun i=>.inr (a9Y s.ps i)) (fun y _=>some y)=some y)
  (hpins:c5k B s.ps args):
  ∃v,(results fn a'.tmps).run P w'=.ok v w'∧∃vr Ls,Ending.returned v=.returned (b4H vr)∧vr.length=s.rs.length∧Back B w' (a1F (RA.all s.ps s.rs) y) (vr++(a0w s.ps 0).map (a3m s.ps args)) Ls:=by
 have hup:Rel B (Γ'.upto fn.ntmps) fn.ntmps (a0k a') w' σ':=hr.weak fun i hi v hv=>by
  rw[show decide (i<fn.ntmps)=true from by simpa using hi];exact hv
 obtain⟨y',Γf,σf,us,tmf,ns,h1,h2⟩:=c1W (P:=P) (w:=w') (N0:=fn.ntmps) hcx _ _ (a35 _) hup hpd (fun i hi=>by
   have:decide (i<fn.ntmps)=false:=by simpa using hi
   simp only[AE.get,AE.upto,this,cF]) (fun v hv=>by
   rcases mA.1 hv with hv|hv;obtain⟨r,hr,rfl⟩:=a19.1 hv;exact lA.1 hres r hr;obtain⟨i,-,rfl⟩:=a19.1 hv;rfl) hK
 simp only[sj]at h1;subst h1;obtain⟨Ls,hback⟩:=h2.back;have hlv:=h2.lv;simp only[RA.all,lN,a65,a9k s.ps 0,a75]at hlv;have hlu:=h2.lu;simp only[RA.all,lN]at hlu;have hrl:fn.results.toList.length=s.rs.length:=by simp only[a75];omega

 have hus:us=us.take s.rs.length++(a0w s.ps 0).map (a3m s.ps args):=by
  have e:=List.take_append_drop s.rs.length us
  conv=>lhs;rw[←e]
  congr 1;refine a82 fun k=>?_
  rw[a55,a46];cases hk:(a0w s.ps 0)[k]? with
  |none=>
   rw[List.getElem?_eq_none_iff]at hk;rw[a9k]at hk;simp only[Option.map_none];exact a26 (by omega)
  |some i=>
   have hkl:=(lS.1 hk).1;rw[a9k]at hkl;have hu:=lG (show s.rs.length+k<us.length by omega);rw[hu];simp only[a51,sj];have hv:(fn.results.toList.map Sum.inl++(a0w s.ps 0).map fun i=>Sum.inr (a9Y s.ps i))[s.rs.length+k]?=some (Sum.inr (a9Y s.ps i):ResultVar ⊕ Option Nat):=by
    rw[a57 (by simp only[a65];omega),a65,hrl,Nat.add_sub_cancel_left,a46,hk];rfl
   have hcm:=h2.comes _ _ _ hv hu;have hkk:∃c,b2D s.ps i=some c:=by
    obtain⟨c,a,hka⟩:=b5w s.ps 0 i (a37 hk);exact⟨c,a9Q (by simpa using hka)⟩
   obtain⟨c,hkc⟩:=hkk;cases c with
   |true=>
    simp only[a9Y,hkc]at hcm;simp only[a3m,hkc];exact hcm
   |false=>
    simp only[a9Y,hkc]at hcm;simp only[a3m,hkc];obtain⟨b,hb1,hb2⟩:=hpins i (a37 hk) hkc;exact b8o.uniq (hcm i b rfl hb1) hb2
 have hrun:(results fn a'.tmps).run P w'=.ok (b4H (us.take s.rs.length)) w':=by
  refine c7C (by rw[a88];omega) fun k r u hr' hu=>?_
  have hkl:=(lS.1 hr').1;refine h2.comes k (.inl r) u ?_ ?_
  rw[a42 (by simpa using hkl),a46,hr'];rfl;rw[List.getElem?_take,if_pos (by omega)]at hu;exact hu
 exact⟨_,hrun,us.take s.rs.length,Ls,rfl,by rw[a88];omega,by rw[←hus];exact hback⟩
theorem a3b.of(hcx:CxOk P cx)(hm:P.follows .mixedOrders=true){f:FuncId}{fn:Func}{c:Code}{H:Hints}{s:FSem}(hfn:P.funcs[f]?=some fn)(hb:fn.body=some c)(hok:d2f fn c H s=true)
  (heq:∀x,b8e cx H fn s.ps s.rs x=s.F x):a3b P cx.G f s:=by
 simp only[d2f,bA,dT]at hok;obtain⟨hfit,hH,hps,hres⟩:=hok;intro w B σ args x y hG hy hB hhp hov hargs hrel hpins;rw[←heq x]at hy;simp only[b8e,hb]at hy
 let a:Act:={ tmps:=args++a64 (fn.ntmps-args.size) undef,defers:=[] }
 have hsz:a.tmps.size=fn.ntmps:=by simp[a];omega
 have hrel':Rel B (ini s.ps x) fn.ntmps (a0k a) w σ:=by
  refine⟨hrel.roots,hrel.norm,hrel.nodup,hrel.disj,hrel.live,fun i hi=>?_,hrel.pend,hrel.size,hrel.frame,hrel.mine,hrel.pins,hrel.still⟩
  by_cases hlt:i<s.ps.length
  have:=hrel.slots i hlt
  have e:a0k a i=args.getD i undef:=by
   simp only[a0k,a,a02,Array.getElem?_append];rw[if_pos (by omega)]
  rw[e];exact this
  have:(ini s.ps x).sl i=.one .dead:=by
   simp only[ini];rw[a26 (by rw[a5g];omega)]
  rw[this];trivial
 refine calls_of_wp hfn hb (wp_mono ((wpIn_wide (n:=0)).1 (a8W (ro:=none) (D:=[]) hcx hG hm hH c 1 hfit hy hrel' hsz rfl)) ?_)
 rintro e a' w' ⟨ex,Γ',σ',rfl,hK,hr,hN,hD⟩
 simp only[]at hK;have key:(∀i,ex≠.exit i)∧Γ'.pd=none∧(Γ'.upto fn.ntmps).outs cx [] fn.ntmps (RA.all s.ps s.rs) (fn.results.toList.map .inl++(a0w s.ps 0).map fun i=>.inr (a9Y s.ps i)) (fun y _=>some y)=some y:=by
  cases hpd:Γ'.pd with
  |some p=>rw[hpd]at hK;cases ex<;>simp only[]at hK<;>cases hK
  |none=>
   rw[hpd]at hK;cases ex with
   |exit i=>simp only[]at hK;cases hK
   |normal=>exact⟨by simp,rfl,hK⟩
   |ret=>exact⟨by simp,rfl,hK⟩
 obtain⟨hex,hpd,hK⟩:=key;obtain⟨v,hrun,hfin⟩:=b5x (args:=args) hcx.toCxTy hres hr hpd hK hpins;cases ex with
 |exit i=>exact absurd rfl (hex i)
 |normal=>exact⟨hD,_,hrun,hfin⟩
 |ret=>exact⟨hD,_,hrun,hfin⟩
end
end Go.Ab
namespace Go.Ab
open Go.ChangeShapes Go.WideShapes
def Wf:(t:Ty)→t.den→Prop
 |.int k,n=>(Lit.int k n).wf=true
 |.str,l=>∀b∈(show List Int from l),0≤b∧b≤255
 |.list _ t,l|.nl t,l=>∀x∈(show List t.den from l),Wf t x
 |.arr n t,l=>(show List t.den from l).length=n∧∀x∈(show List t.den from l),Wf t x
 |.pair a b,x=>Wf a x.1∧Wf b x.2
 |.bool,_|.unit,_=>True
def a2D:(t:Ty)→t.den→Nat
 |.str,l=>(show List Int from l).length+1
 |.list _ t,l|.nl t,l=>1+((show List t.den from l).map (a2D t)).sum
 |.arr _ t,l=>((show List t.den from l).map (a2D t)).sum
 |.pair a b,x=>a2D a x.1+a2D b x.2
 |.unit,_=>0
 |.int _,_|.bool,_=>1
structure Bulk {H:Type} (bulk:DataW H→Nat):Prop where
 one:∀d,1≤bulk d
 str:∀bs,bulk (.lit (.string bs))=bs.length+1
 slice:∀es sp,(es.map bulk).sum+1≤bulk (.slice es sp)
 agg:∀ps,(ps.map bulk).sum≤bulk (.agg ps)
def b0h:Ty→Bool
 |.list o e=>b0h e&&!o
 |.nl _=>false
 |.pair a b=>b0h a&&b0h b
 |.arr _ t=>b0h t
 |_=>true
theorem b6W{α:Type}{f:Nat→Option (α×a0U×List Nat)}{p:α→Prop}{q:Nat→Prop}{g:α→Nat}{b:Nat→Nat}:∀(n i:Nat),(∀j,j<n→∃x R,f (i+j)=some (x,[],R)∧p x∧g x≤b (i+j)∧∀c∈R,q c)→
  ∃xs Rs,a0d f n i=some (xs,[],Rs)∧(∀x∈xs,p x)∧(xs.map g).sum≤((a58 i n).map b).sum∧∀c∈Rs,q c
 |0,_,_=>⟨[],[],rfl,by simp,by simp,by simp⟩
 |n+1,i,h=>by
  obtain⟨x,R,h1,h2,h3,h4⟩:=h 0 (by omega);obtain⟨xs,Rs,g1,g2,g3,g4⟩:=b6W n (i+1) (fun j hj=>by
   have:=h (j+1) (by omega)
   rwa [show i+(j+1)=i+1+j from by omega]at this)
  rw[a36]at h1 h3;refine⟨x::xs,R++Rs,by simp only[a0d,h1,g1,a63],fun y hy=>?_,?_,fun c hc=>?_⟩;rcases mC.1 hy with rfl|hy;exact h2;exact g2 y hy;rw[List.range'_succ];simp only[a28,a60];omega;rcases mA.1 hc with hc|hc;exact h4 c hc;exact g4 c hc
section
variable {H:Type} {enc:TypeId×Value→H} {P:Program} {w:World} {base:Nat} {sp:Nat→Bool} {held:Bool} {bulk:DataW H→Nat}
theorem b0i{τ:Ty}{t:TypeId}(h:a0l P τ (.inl t)=true):P.cellsOf t=τ.cells:=by
 have:=a0G h
 unfold a4K at this;unfold Program.cellsOf
 split at this
 rename_i i hi;simp only[bA,beq_iff_eq]at this;rw[hi];exact this.1.1;cases this
theorem c8l{a:Addr}{v:Value}(h:w.cell? a=some v):a.block<w.heap.size:=by
 unfold World.cell? at h
 split at h
 rename_i he;exact(Array.getElem?_eq_some_iff.1 he).1;cases h
theorem d4J(hb:Bulk bulk)(hs:∀b,sp b=true):∀(t:Ty),
  (∀(T:TypeId)(n:Nat)(cs:List Value) y,a0l P t (.inl T)=true→b0h t=true→DataW.trod enc P w base sp held n T cs=some y→
   ∃x R,dec (cells w) t (fun j=>cs[j]?)=some (x,[],R)∧Wf t x∧a2D t x≤bulk y.1∧∀c∈R,c<w.heap.size)∧
  (∀(fs:List Field)(off n:Nat)(cs:List Value)(xs:List (DataW H×List MemPlace)),a0l P t (.inr (fs,off))=true→b0h t=true→xs.length=fs.length→
   (∀(i:Nat)(f:Field),fs[i]?=some f→DataW.trod enc P w base sp held n f.type ((cs.drop f.offset).take (P.cellsOf f.type))=xs[i]?)→
   ∃x R,dec (cells w) t (fun j=>cs[off+j]?)=some (x,[],R)∧Wf t x∧a2D t x≤((xs.map (·.1)).map bulk).sum∧∀c∈R,c<w.heap.size):=by
 intro t
 induction t with
 |int k=>
  refine⟨fun T n cs y ht _ h=>?_,fun fs off n cs xs ht=>by simp[a0l]at ht⟩;obtain⟨m,rfl,rfl,hw⟩:=DataW.trod_int (a9E ht) h;exact⟨m,[],by simp[dec],hw,hb.one _,by simp⟩
 |bool=>
  refine⟨fun T n cs y ht _ h=>?_,fun fs off n cs xs ht=>by simp[a0l]at ht⟩;have hu:P.underlying T=some .bool:=by
   simp only[a0l,bA]at ht;obtain⟨-,ht⟩:=ht
   split at ht
   assumption
   cases ht
  obtain⟨m,rfl,rfl⟩:=DataW.trod_bool hu h;exact⟨m,[],by simp[dec],trivial,hb.one _,by simp⟩
 |str=>
  refine⟨fun T n cs y ht _ h=>?_,fun fs off n cs xs ht=>by simp[a0l]at ht⟩;have hu:P.underlying T=some .string:=by
   simp only[a0l,bA]at ht;obtain⟨-,ht⟩:=ht
   split at ht
   assumption
   cases ht
  obtain⟨s,rfl,rfl,-⟩:=DataW.trod_string hu h;refine⟨_,[],by simp only[dec,a00];rfl,fun b hb'=>?_,?_,by simp⟩;obtain⟨u,-,rfl⟩:=a19.1 hb'
  have:=u.toNat_lt
  exact⟨by omega,by omega⟩;rw[hb.str];simp[a2D]
 |unit=>
  refine⟨fun T n cs y ht _ h=>⟨(),[],rfl,trivial,Nat.zero_le _,by simp⟩,fun fs off n cs xs ht _ _ _=>⟨(),[],rfl,trivial,Nat.zero_le _,by simp⟩⟩
 |pair a b iha ihb=>
  have main:(∀(fs:List Field)(off n:Nat)(cs:List Value)(xs:List (DataW H×List MemPlace)),a0l P (.pair a b) (.inr (fs,off))=true→b0h (.pair a b)=true→xs.length=fs.length→
   (∀(i:Nat)(f:Field),fs[i]?=some f→DataW.trod enc P w base sp held n f.type ((cs.drop f.offset).take (P.cellsOf f.type))=xs[i]?)→
   ∃x R,dec (cells w) (.pair a b) (fun j=>cs[off+j]?)=some (x,[],R)∧Wf (.pair a b) x∧a2D (.pair a b) x≤((xs.map (·.1)).map bulk).sum∧∀c∈R,c<w.heap.size):=by
   intro fs off n cs xs ht hfl hl hf;cases fs with
   |nil=>simp[a0l]at ht
   |cons f r=>
    simp only[a0l,bA,beq_iff_eq,dT]at ht;obtain⟨⟨⟨ho,hta⟩,hpos⟩,htb⟩:=ht;simp only[b0h,bA]at hfl;cases xs with
    |nil=>simp at hl
    |cons x0 xs=>
     have h0:=hf 0 f rfl;simp only[a00]at h0;rw[b0i hta,ho]at h0;have hget:∀j,j<a.cells→((cs.drop off).take a.cells)[j]?=cs[off+j]?:=fun j hj=>by
      rw[a61 hj,a55]
     obtain⟨x,R,g1,g2,g3,g4⟩:=iha.1 f.type n _ x0 hta hfl.1 h0;obtain⟨y,R',k1,k2,k3,k4⟩:=ihb.2 r (off+a.cells) n cs xs htb hfl.2 (by simpa using hl) (fun i f' hi=>by simpa using hf (i+1) f' (by simpa using hi));refine⟨(x,y),R++R',?_,⟨g2,k2⟩,?_,fun c hc=>?_⟩;have e1:=a0p (m':=cells w) a (rd':=fun j=>cs[off+j]?) g1 (fun j hj=>(hget j hj).symm) (fun _ _ _=>rfl);have e2:(fun j=>cs[off+(a.cells+j)]?)=fun j=>cs[off+a.cells+j]?:=by funext j;rw[a76]
     simp only[dec,e1,e2,k1,a63];simp only[a2D,a28,a60];omega;rcases mA.1 hc with hc|hc;exact g4 c hc;exact k4 c hc
  refine⟨fun T n cs y ht hfl h=>?_,main⟩;obtain⟨fs,hu,hfs⟩:∃fs:Array Field,P.underlying T=some (.struct fs)∧a0l P (.pair a b) (.inr (fs.toList,0))=true:=by
   simp only[a0l,bA]at ht;obtain⟨-,ht⟩:=ht
   split at ht
   rename_i fs hu;refine⟨fs,hu,?_⟩
   split at ht
   rename_i f r hr;rw[hr];simp only[a0l,a45];exact ht;cases ht;cases ht
  obtain⟨xs,m,-,rfl,hl,hlx,hf⟩:=DataW.trod_struct hu h;obtain⟨x,R,g1,g2,g3,g4⟩:=main fs.toList 0 m cs xs hfs hfl (by simpa using hlx) (fun i f hi=>hf i f (by simpa using hi));refine⟨x,R,?_,g2,a33 g3 (hb.agg _),g4⟩;have e:(fun j=>cs[0+j]?)=fun j=>cs[j]?:=by funext j;rw[a45]
  rw[←e];exact g1
 |list o e ih=>
  refine⟨fun T n cs y ht hfl h=>?_,fun fs off n cs xs ht=>by simp[a0l]at ht⟩;obtain⟨T',hu,hte,hpos⟩:=a1B ht;simp only[b0h,bA,a08]at hfl;obtain⟨hno,rfl⟩:=hfl;rcases DataW.trod_slice hu h with⟨rfl,rfl⟩|⟨a,len,cap,elems,rest,m,-,rfl,rfl,hba,hlc,hcap,hlen,hel,hrest,-⟩;exact⟨[],[],by simp[dec,a0K];rfl,by simp[Wf],by simp only[a2D];exact hb.one _,by simp⟩;have hspot:cap=0∨a.spot=none:=by
   by_cases hc0:cap=0
   exact .inl hc0;refine .inr ?_
   have one:∀{o:Nat}{z},o=0→(w.cells? base (a.add (o*P.cellsOf T')) (P.cellsOf T')).bind (DataW.trod enc P w base sp held m T')=some z→a.spot=none:=fun ho h1=>by
    subst ho;obtain⟨cs',h2,-⟩:=a32.1 h1;rw[b0i hte]at h2;obtain⟨-,hl',hc'⟩:=World.cells?_some h2;have h3:=hc' 0 hpos;rw[Nat.zero_mul,Addr.add_zero',Addr.add_zero',lG (by omega)]at h3;exact World.cell?_spot h3
   by_cases hl0:len=0
   obtain⟨hr1,hr2⟩:=hrest (hs _);have h1:=hr2 0 (by omega);rw[lG (by omega)]at h1;exact one (by omega) h1;have h1:=hel 0 (by omega);rw[lG (by omega)]at h1;exact one rfl h1
  have one:∀i,i<len→∃x R,dec (cells w) e (fun j=>cells w a.block (a.off+(i*e.cells+j)))=some (x,[],R)∧Wf e x∧a2D e x≤bulk ((elems.getD i (.nil,[])).1)∧(∀c∈R,c<w.heap.size)∧a.block<w.heap.size:=fun i hi=>by
   have h1:=hel i hi;rw[lG (by omega)]at h1;obtain⟨cs',h2,h3⟩:=a32.1 h1;rw[b0i hte]at h2;obtain⟨-,hl',hc'⟩:=World.cells?_some h2;have hspot:a.spot=none:=hspot.resolve_left (by omega);obtain⟨x,R,g1,g2,g3,g4⟩:=ih.1 T' m cs' _ hte hno h3;have hcell:∀j,j<e.cells→cells w a.block (a.off+(i*e.cells+j))=cs'[j]?:=fun j hj=>by
    rw[←hc' j hj]
    have:a=⟨a.block,a.off,none⟩:=by rw[←hspot]
    rw[this,add_plain,add_plain,a76];rfl
   refine⟨x,R,a0p e g1 (fun j hj=>hcell j hj) (fun _ _ _=>rfl),g2,by rw[lD,lG (by omega)];exact g3,g4,?_⟩
   have:=hcell 0 hpos
   rw[lG (by omega)]at this;exact c8l (a:=⟨a.block,_,none⟩) this
  obtain⟨xs,Rs,g1,g2,g3,g4⟩:=b6W (p:=Wf e) (q:=fun c=>c<w.heap.size) (g:=a2D e) (b:=fun i=>bulk ((elems.getD i (.nil,[])).1)) len 0 (fun j hj=>by
   obtain⟨x,R,k1,k2,k3,k4,-⟩:=one j hj;rw[a45];exact⟨x,R,k1,k2,k3,k4⟩)
  have hsum:((a58 0 len).map fun i=>bulk ((elems.getD i (.nil,[])).1)).sum=((elems.map (·.1)).map bulk).sum:=by
   rw[a79,Go.Deep.map_by_index elems (.nil,[]) (bulk∘(·.1)),hlen,a38];rfl
  have hslice:=hb.slice (elems.map (·.1)) (rest.map (·.1))
  by_cases hn:len=0
  subst hn;simp only[a0d,sj,pJ]at g1;obtain⟨rfl,-,-⟩:=g1;exact⟨[],[],by simp only[dec,a0K,a00];rw[if_pos ⟨hspot,hlc⟩];simp[a0d];rfl,by simp[Wf],by simp only[a2D];exact hb.one _,by simp⟩;refine⟨xs,a.block::([]++Rs),?_,g2,?_,fun c hc=>?_⟩;simp only[dec,a0K,a00,hspot,hlc,and_self,if_true,g1,a04,if_false,if_neg hn,a81];rfl;simp only[a2D]
  have:(xs.map (a2D e)).sum≤((elems.map (·.1)).map bulk).sum:=by rw[←hsum];exact g3
  show 1+(xs.map (a2D e)).sum≤_;omega;rcases mC.1 hc with rfl|hc;obtain⟨_,_,_,_,_,_,h6⟩:=one 0 (by omega);exact h6;exact g4 c (by simpa using hc)
 |nl e ih=>exact⟨fun T n cs y ht hfl=>by simp[b0h]at hfl,fun fs off n cs xs ht hfl=>by simp[b0h]at hfl⟩
 |arr n e ih=>
  refine⟨fun T f cs y ht hfl h=>?_,fun fs off n cs xs ht=>by simp[a0l]at ht⟩;obtain⟨T',hu,hte,hpos⟩:=a9B ht;obtain⟨xs,m,-,rfl,hl,hlx,hf⟩:=DataW.trod_array hu h;simp only[b0h]at hfl;have one:∀i,i<n→∃x R,dec (cells w) e (fun j=>cs[i*e.cells+j]?)=some (x,[],R)∧Wf e x∧a2D e x≤bulk ((xs.getD i (.nil,[])).1)∧∀c∈R,c<w.heap.size:=fun i hi=>by
   have h1:=hf i hi;rw[lG (by omega),b0i hte]at h1;obtain⟨x,R,g1,g2,g3,g4⟩:=ih.1 T' m _ _ hte hfl h1;refine⟨x,R,a0p e g1 (fun j hj=>?_) (fun _ _ _=>rfl),g2,by rw[lD,lG (by omega)];exact g3,g4⟩;rw[a61 hj,a55]
  obtain⟨ys,Rs,g1,g2,g3,g4⟩:=b6W (p:=Wf e) (q:=fun c=>c<w.heap.size) (g:=a2D e) (b:=fun i=>bulk ((xs.getD i (.nil,[])).1)) n 0 (fun j hj=>by
   obtain⟨x,R,k1,k2,k3,k4⟩:=one j hj;rw[a45];exact⟨x,R,k1,k2,k3,k4⟩)
  have hsum:((a58 0 n).map fun i=>bulk ((xs.getD i (.nil,[])).1)).sum=((xs.map (·.1)).map bulk).sum:=by
   rw[a79,Go.Deep.map_by_index xs (.nil,[]) (bulk∘(·.1)),hlx,a38];rfl
  refine⟨ys,Rs,by simp only[dec];exact g1,⟨a0R _ _ g1,g2⟩,?_,g4⟩;simp only[a2D];exact a33 (a33 g3 (Nat.le_of_eq hsum)) (hb.agg _)
end
end Go.Ab
namespace Go.Ab
open Go.ChangeShapes Go.WideShapes Go.RowKit
def c9h(ps:List PA)(x:(a1I (ps.map PA.ty)).den):Prop:=∀it∈a0H ps x,Wf it.1.ty it.2
def c1X(ps:List PA)(x:(a1I (ps.map PA.ty)).den):Nat:=((a0H ps x).map fun it=>a2D it.1.ty it.2).sum
def a7F(P:Program):List PA→List TypeId→Bool
 | [],[]=>true
 |.v t::ps,T::Ts=>a0l P t (.inl T)&&(b0h t&&(P.readableRec T&&(decide (T<P.types.size)&&a7F P ps Ts)))
 |_,_=>false
section
variable {H:Type} {enc:TypeId×Value→H} {P:Program} {w:World} {base:Nat} {sp:Nat→Bool} {held:Bool} {bulk:DataW H→Nat}
theorem c5Y(hb:Bulk bulk)(hs:∀b,sp b=true){t:Ty}{T:TypeId}{v:Value}{d:DataW H}{ps:List MemPlace}{r:Reach}{b0:Nat}(ht:a0l P t (.inl T)=true)(hf:b0h t=true)(hval:Value.okWide P w r b0 T v)(h:DataW.Trod enc P w base sp held T v d ps):
  ∃x,VOk (cells w) (fun c=>c<w.heap.size) t x v∧Wf t x∧a2D t x≤bulk d:=by
 obtain⟨n,hn⟩:=h;have agg:t.isAgg=true→∃cs,v=.agg cs∧cs.size=P.cellsOf T∧Row.okWide P w r b0 T cs:=fun ha=>by
  cases t<;>simp only[Ty.isAgg,a04]at ha
  all_goals
   simp only[a0l,bA]at ht;obtain⟨-,ht⟩:=ht
   split at ht
   rename_i hu;simp only[Value.okWide,hu]at hval;exact hval;cases ht
 have one:t.isAgg=false→Cell.okWide P w r b0 T v:=fun ha=>by
  cases t<;>simp only[Ty.isAgg,Bool.true_eq_false]at ha
  all_goals
   simp only[a0l,bA]at ht;obtain⟨-,ht⟩:=ht
   split at ht
   rename_i hu;simp only[Value.okWide,hu]at hval;exact hval;cases ht
 have hsingle:t.isAgg=false→a1j v=true:=fun ha=>by
  have:=one ha
  cases v<;>first|rfl|skip
  all_goals
   exfalso
   unfold Cell.okWide at this
   split at this<;>first|(rename_i hh;cases hh;done)|skip
   all_goals
    unfold Cell.ok at this
    split at this<;>first|(rename_i hh;cases hh;done)|exact this
 obtain⟨x,R,g1,g2,g3,g4⟩:=(d4J hb hs t).1 T n v.cells.toList _ ht hf hn;refine⟨x,⟨fun ha=>?_,hsingle,R,?_,g4⟩,g2,g3⟩;obtain⟨cs,h1,h2,-⟩:=agg ha;exact⟨cs,h1,by rw[h2,b0i ht]⟩;simpa only[a69]using g1
theorem c8m(hb:Bulk bulk)(hs:∀b,sp b=true){r:Reach}{b0:Nat}:∀(ps:List PA)(Ts:List TypeId)(vs:List Value)(ds:List (DataW H)) (p:List MemPlace),a7F P ps Ts=true→(∀(j:Nat) T v,Ts[j]?=some T→vs[j]?=some v→Value.okWide P w r b0 T v)→
  DataW.TrodAll enc P w base sp held Ts vs ds p→
  ∃x:(a1I (ps.map PA.ty)).den,vs.length=ps.length∧c9h ps x∧c1X ps x≤(ds.map bulk).sum∧ds.length=ps.length∧
   ∀(k:Nat) it v,(a0H ps x)[k]?=some it→vs[k]?=some v→∃t y,it=⟨.v t,y⟩∧VOk (cells w) (fun c=>c<w.heap.size) t y v
 | [],[],vs,ds,p,_,_,h=>by
  obtain⟨rfl,rfl,rfl⟩:=trodAll_nil h;exact⟨(),rfl,by simp[c9h,a0H],by simp[c1X,a0H],rfl,by simp[a0H]⟩
 | [.v t],T::Ts,vs,ds,p,hp,hv,h=>by
  simp only[a7F,bA]at hp;obtain⟨h1,h2,-,-,h5⟩:=hp;obtain⟨v,vs',d,ds',q,q',rfl,rfl,rfl,g1,g2⟩:=trodAll_cons h;cases Ts with
  |cons T' Ts=>simp[a7F]at h5
  |nil=>
   obtain⟨rfl,rfl,rfl⟩:=trodAll_nil g2;obtain⟨x,k1,k2,k3⟩:=c5Y hb hs h1 h2 (hv 0 T v rfl rfl) g1;refine⟨x,rfl,fun it hit=>by obtain rfl:=a44.1 hit;exact k2,by simp only[c1X,a0H,a28,a81,a60,List.sum_nil,a36];exact k3,rfl,fun k it u h3 h4=>?_⟩;cases k with
   |zero=>
    simp only[a0H,a00,sj]at h3 h4;subst h3;subst h4;exact⟨t,x,rfl,k1⟩
   |succ k=>simp[a0H]at h3
 |.v t::p'::ps,T::Ts,vs,ds,p,hp,hv,h=>by
  simp only[a7F,bA]at hp;obtain⟨h1,h2,-,-,h5⟩:=hp;obtain⟨v,vs',d,ds',q,q',rfl,rfl,rfl,g1,g2⟩:=trodAll_cons h;obtain⟨x,k1,k2,k3⟩:=c5Y hb hs h1 h2 (hv 0 T v rfl rfl) g1;obtain⟨y,l1,l2,l3,l4,l5⟩:=c8m hb hs (p'::ps) Ts vs' ds' q' h5 (fun j T v hT hv'=>hv (j+1) T v (by simpa using hT) (by simpa using hv')) g2;refine⟨(x,y),by simp[l1],fun it hit=>?_,?_,by simp[l4],fun k it u h3 h4=>?_⟩;rcases mC.1 hit with rfl|hit;exact k2;exact l2 it hit;simp only[c1X,a0H,a28,a60]at l3⊢;exact Nat.add_le_add k3 l3
  ·cases k with
   |zero=>
    simp only[a0H,a00,sj]at h3 h4;subst h3;subst h4;exact⟨t,x,rfl,k1⟩
   |succ k=>exact l5 k it u (by simpa[a0H]using h3) (by simpa using h4)
 |.r _ _::_,_,_,_,_,hp,_,_=>by simp[a7F]at hp
 |.v _::_,[],_,_,_,hp,_,_=>by simp[a7F]at hp
 | [],_::_,_,_,_,hp,_,_=>by simp[a7F]at hp
theorem d1f(hl:laidOutB P=true){W W':World}{sp':Nat→Bool}:∀(ps:List PA)(Ts:List TypeId)(vs:List Value)(ds:List (DataW H)) (p:List MemPlace),a7F P ps Ts=true→
  DataW.TrodAll enc P W base (fun _=>true) true Ts vs ds p→(∀q∈p,W.sameAt W' q)→(∀q∈p,sp' q.block=true)→DataW.TrodAll enc P W' base sp' true Ts vs ds p
 | [],[],vs,ds,p,_,h,_,_=>by
  obtain⟨rfl,rfl,rfl⟩:=trodAll_nil h;exact trodAll_mk0
 |.v t::ps,T::Ts,vs,ds,p,hp,h,hs,hsp=>by
  simp only[a7F,bA,dT]at hp;obtain⟨-,-,h3,h4,h5⟩:=hp;obtain⟨v,vs',d,ds',q,q',rfl,rfl,rfl,g1,g2⟩:=trodAll_cons h;exact trodAll_cons_mk (WideElems.Trod_stays hl h3 h4 g1 (fun x hx=>hs x (a17 _ hx)) (fun x hx=>hsp x (a17 _ hx)))
   (d1f hl ps Ts vs' ds' q' h5 g2 (fun x hx=>hs x (a06 _ hx)) (fun x hx=>hsp x (a06 _ hx)))
 |.r _ _::_,_,_,_,_,hp,_,_,_=>by simp[a7F]at hp
 |.v _::_,[],_,_,_,hp,_,_,_=>by simp[a7F]at hp
 | [],_::_,_,_,_,hp,_,_,_=>by simp[a7F]at hp
theorem b9U:∀(ps:List PA)(Ts:List TypeId)(i:Nat),a7F P ps Ts=true→a0w ps i=[]
 | [],_,_,_=>rfl
 |.v t::ps,T::Ts,i,h=>by
  simp only[a7F,bA]at h;exact b9U ps Ts (i+1) h.2.2.2.2
 |.v _::_,[],_,h=>by simp[a7F]at h
 |.r _ _::_,_,_,h=>by simp[a7F]at h
theorem c5Z{bulk:DataW H→Nat}(hbulk:Bulk bulk){f:FuncId}{fn:Func}{s:FSem}{spec:ChangeSpec}{tb:TypeId}{N:Nat}{G:b6P}(hF:a3b P G f s)(hl:laidOutB P=true)(hps:a7F P s.ps fn.params.toList=true)
  (hrs:s.rs=[.v .bool])(hrt:fn.resultTypes=#[tb])(hub:P.underlying tb=some .bool)(hvars:spec.vars=[])(hspec:∀ds:List (DataW H),ds.length=s.ps.length→spec.fn H ds={ results:=[.lit (.bool true)],args:=ds })
  (hlaw:∀x,c9h s.ps x→c1X s.ps x≤N→∃y,s.F x=some y∧(a1F (RA.all s.ps s.rs) y)[0]?=some ⟨.v .bool,true⟩)
  {W:World}{b0:Nat}{args:Array Value}{ds gs:List (DataW H)}{before:List MemPlace}{apart fresh handsOn:Bool}
  (hGW:∀g t x,G g=some ⟨t,x⟩→g<W.heap.size∧dec (a0a W none) t ((Src.at g 0).rd (a0a W none))=some (x,[],[]))
  (hval:∀(j:Nat) t v,fn.params[j]?=some t→args[j]?=some v→Value.okWide P W .any b0 t v)(hW:DataW.Whole enc P fn.params.toList spec.vars apart W args.toList ds gs before)(hN:((ds++gs).map bulk).sum≤N):
  Calls P f args W fun e W'=>∃v,e=.returned v∧spec.post enc P fn apart fresh handsOn false W args v W':=by
 have hlt:=hW.lt;have hW0:=hW;obtain⟨p,q,hA,hV,rfl,hfz,hnd⟩:=hW;rw[hvars]at hV;obtain⟨rfl,rfl⟩:=trodVars_none hV;obtain⟨x,g1,g2,g3,g4,g5⟩:=c8m hbulk (fun _=>rfl) s.ps fn.params.toList args.toList ds p hps (fun j T v hT hv=>hval j T v (by simpa using hT) (by simpa using hv)) hA;rw[a27]at hN;obtain⟨y,hy,hitem⟩:=hlaw x g2 (a33 g3 hN);have hri:=b9U s.ps fn.params.toList 0 hps
 let B:Base:={ size:=W.heap.size,hp:=fun b=>W.heap[b]?,F:=fun _=>False,S:=fun _=>True,io:=a1H W }
 let σ:Gh:=⟨fun _=>.one undef,fun _=>[],none⟩
 have hrt0:∀n,(ini s.ps x).rt n=none:=fun n=>by
  cases hr:(ini s.ps x).rt n with
  |none=>rfl
  |some r=>
   obtain⟨i,c,a,y,-,hi,-⟩:=d0P hr;have hl':=(lS.1 hi).1;rw[a5g,←g1]at hl';obtain⟨t,y',e,-⟩:=g5 i _ _ hi (lG hl');cases e
 have hsz:args.size=s.ps.length:=by rw[←g1];simp
 have hrel:Rel B (ini s.ps x) s.ps.length (fun i=>args.getD i undef) W σ:=by
  refine⟨fun n r hr=>?_,fun n _=>rfl,fun n=>by simp[σ],fun n n' _ c hc=>by simp[σ]at hc,fun n p hp=>by simp[σ]at hp,fun i hi=>?_,trivial,a35 _,fun b _ _=>rfl,fun c hc=>?_,fun i b hb=>?_,rfl⟩;rw[hrt0]at hr;cases hr;have hi':i<args.toList.length:=by rw[g1];exact hi
  have hget:=lG hi';have hip:i<(a0H s.ps x).length:=by rw[a5g];exact hi
  obtain⟨t,z,h1,h2⟩:=g5 i _ _ (lG hip) hget;have he:args.getD i undef=args.toList[i]:=by
   simp only[a02,←a69,hget,a30]
  simp only[ini,lG hip,h1,he];exact VOk.frame h2 (fun _ _ _=>rfl) (fun c hc=>⟨hc,.inl trivial,fun⟨n,hn⟩=>by simp[σ]at hn⟩);obtain⟨n,hn⟩:=hc;simp[σ]at hn;simp only[B]at hb;cases hb
 refine(hF W B σ args x y (fun g t z hg=>⟨(hGW g t z hg).1,trivial,fun h=>h,W,rfl,(hGW g t z hg).2⟩) hy rfl (fun _=>rfl) rfl hsz hrel (fun i hi _=>by rw[hri]at hi;cases hi)).mono ?_
 rintro e W' ⟨vr,Ls,rfl,hvr,bk⟩
 rw[hrs]at hvr;rw[hri,a81,a27]at bk;obtain⟨v,rfl⟩:∃v,vr=[v]:=by
  match vr,hvr with
  | [v],_=>exact⟨v,rfl⟩
 have hll:=bk.ll;rw[←bk.lv]at hll;obtain⟨L,rfl⟩:∃L,Ls=[L]:=by
  match Ls,hll with
  | [L],_=>exact⟨L,rfl⟩
 obtain⟨hv,-⟩:=bk.ok 0 _ v L hitem rfl rfl;have hv:v=.bool true:=by
  obtain⟨-,h2,R,h3,-⟩:=hv;have h2:=h2 rfl;simp only[dec]at h3
  split at h3
  rename_i b hb;simp only[sj]at h3;obtain⟨rfl,-⟩:=h3;cases v<;>simp[a1j,Value.cells]at h2 hb;rw[hb];cases h3
 subst hv;have hsame:∀b,b<W.heap.size→W'.heap[b]?=W.heap[b]?:=fun b hb=>bk.frame b hb (fun h=>h);have hsp:=hspec ds g4;refine⟨_,rfl,ds,[],p++[],[],p,[],hW0,?_,?_,?_,⟨?_,?_,fun i hi=>?_⟩,fun h=>by cases h⟩;rw[a27,hsp,hrt];exact trodAll_cons_mk (p:=[]) (p':=[]) (shut_bool hub _) trodAll_mk0
 ·rw[a27,hsp];refine d1f hl s.ps _ _ _ _ hps hA (fun q hq=>?_) (fun q hq=>by simpa using hlt q (by simpa using hq));have hb:=hlt q (by simpa using hq);cases q with
  |cell b off=>
   simp only[World.sameAt,World.cell?];rw[hsame b hb]
  |map b=>exact hsame b hb
 rw[a27,hsp,hvars];rfl
 have:=bk.still
 simp only[a1H,B,pJ]at this;exact this.1
 have:=bk.still
 simp only[a1H,B,pJ]at this;exact this.2
 ·rw[hsame i hi];cases W.heap[i]? with
  |none=>rfl
  |some o=>
   cases o with
   |cells c t fr=>exact⟨rfl,rfl,rfl,fun _ _=>rfl⟩
   |map es clock=>exact .inr ⟨rfl,rfl⟩
   |_=>rfl
end
end Go.Ab
namespace Go.Ab
def a6d:Ty→List Field→Bool
 | .pair (.int _) b, f :: r => f.name != "_" && a6d b r
 | .pair .bool b, f :: r => f.name != "_" && a6d b r
 |.unit,[]=>true
 |_,_=>false
def d2g(P:Program)(τ:Ty)(t:TypeId):Bool:=
 !P.stoodInHeld t&&(!P.eqGuardType P.depth t&&(match P.underlying t with|some (.struct fs)=>a6d τ fs.toList|_=>false))
section
variable {P:Program} {w:World} {cx:Cx}
theorem a6e{τ:Ty}{t:TypeId}(ht:a0l P τ (.inl t)=true)(ha:τ.isAgg=false){xs:Array Value}{off:Nat}{v:Value}(hv:xs[off]?=some v):(part t xs off).run P w=.ok v w:=by
 have h:=a8p ht w;rw[ha]at h;simp[part,h,hv]
theorem c6a{m:Mem}{d:Nat}{xs ys:Array Value}:∀(τ:Ty)(fs:List Field)(off:Nat),a0l P τ (.inr (fs,off))=true→a6d τ fs=true→∀{x y R R'},dec m τ (fun j=>xs[off+j]?)=some (x,[],R)→dec m τ (fun j=>ys[off+j]?)=some (y,[],R')→
  (Op.eqFields (d+1) xs ys fs).run P w=.ok (eqT τ x y) w:=by
 have split1:∀(a b:Ty)(off:Nat)(zs:Array Value)(x:(Ty.pair a b).den) R,dec m (.pair a b) (fun j=>zs[off+j]?)=some (x,[],R)→
   ∃R1 R2,dec m a (fun j=>zs[off+j]?)=some (x.1,[],R1)∧dec m b (fun j=>zs[off+a.cells+j]?)=some (x.2,[],R2):=by
  intro a b off zs x R h;simp only[dec]at h
  split at h
  cases h;rename_i x1 o1 r1 h1
  split at h
  cases h;rename_i x2 o2 r2 h2;obtain⟨h0,h⟩:=Prod.mk.inj (Option.some.inj h);subst h0;obtain⟨ho,-⟩:=Prod.mk.inj (Prod.mk.inj (Option.some.inj h)).2;obtain⟨rfl,rfl⟩:=List.append_eq_nil_iff.1 ho;refine⟨r1,r2,h1,?_⟩;have e:(fun j=>zs[off+a.cells+j]?)=fun j=>zs[off+(a.cells+j)]?:=by funext j;rw[a76]
  rw[e];exact h2
 intro τ
 induction τ with
 |pair a b iha ihb=>
  intro fs off ht he x y R R' hx hy;cases fs with
  |nil=>simp[a0l]at ht
  |cons f r=>
   simp only[a0l,bA,beq_iff_eq,dT]at ht;obtain⟨⟨⟨ho,hta⟩,-⟩,htb⟩:=ht;obtain⟨R1,R2,h1,h2⟩:=split1 a b off xs x R hx;obtain⟨R3,R4,h3,h4⟩:=split1 a b off ys y R' hy;cases a with
   |int k=>
    simp only[a6d,bA,bne_iff_ne,ne_eq]at he;simp only[dec,a36]at h1 h3
    split at h1
    rename_i k1 n1 g1
    split at h3
    rename_i k2 n2 g2;rw[a52]at h1 h3;obtain⟨rfl,h1⟩:=h1;obtain⟨rfl,h3⟩:=h3;have h1:=Prod.mk.inj (Option.some.inj h1);have h3:=Prod.mk.inj (Option.some.inj h3);have e1:=a6e (w:=w) hta rfl g1;have e2:=a6e (w:=w) hta rfl g2;have e3:=run_equalIn_int (P:=P) w d f.type k2 k2 n1 n2 (a9E hta);simp only[Op.eqFields,Sem.run_ite,ne_eq,he.1,not_false_eq_true,if_true,Sem.run_bind,ho,e1,e2,e3,Result.andThen_ok,eqT];rw[←h1.1,←h3.1];cases hb:n1==n2
    simp
    rw[ihb r (off+1) htb he.2 h2 h4]
    simp
    cases h3;cases h1
   |bool=>
    simp only[a6d,bA,bne_iff_ne,ne_eq]at he;simp only[dec,a36]at h1 h3;have hu:P.underlying f.type=some .bool:=by
     simp only[a0l,bA]at hta;obtain⟨-,hta⟩:=hta
     split at hta
     assumption
     cases hta
    split at h1
    rename_i n1 g1
    split at h3
    rename_i n2 g2;have h1:=Prod.mk.inj (Option.some.inj h1);have h3:=Prod.mk.inj (Option.some.inj h3);have e1:=a6e (w:=w) hta rfl g1;have e2:=a6e (w:=w) hta rfl g2;have e3:=run_equalIn_bool (P:=P) w d f.type n1 n2 hu;simp only[Op.eqFields,Sem.run_ite,ne_eq,he.1,not_false_eq_true,if_true,Sem.run_bind,ho,e1,e2,e3,Result.andThen_ok,eqT];rw[←h1.1,←h3.1];cases hb:n1==n2
    simp
    rw[ihb r (off+1) htb he.2 h2 h4]
    simp
    cases h3;cases h1
   |_=>simp[a6d]at he
 |unit=>
  intro fs off ht he x y R R' hx hy;cases fs with
  |nil=>simp[Op.eqFields,eqT]
  |cons f r=>simp[a6d]at he
 |_=>intro fs off ht he;simp[a6d]at he
theorem c0R.of{τ:Ty}{t:TypeId}(ht:a0l P τ (.inl t)=true)(h:d2g P τ t=true):c0R P τ t:=by
 simp only[d2g,bA,a08]at h;obtain⟨hs,hg,hp⟩:=h;intro m Sh x y u v w xo yo hu hv
 split at hp
 ·rename_i fs hund;have hfs:P.fieldsOf t=fs:=by simp[Program.fieldsOf,hund]
  have hagg:τ.isAgg=true:=by cases τ<;>first|rfl|(simp[a6d]at hp)
  obtain⟨hu1,-,R,hu3,-⟩:=hu;obtain⟨hv1,-,R',hv3,-⟩:=hv;obtain⟨xs,rfl,-⟩:=hu1 hagg;obtain⟨ys,rfl,-⟩:=hv1 hagg;have hty:a0l P τ (.inr (fs.toList,0))=true:=by
   cases τ with
   |pair a b=>
    simp only[a0l,hund,bA]at ht;obtain⟨-,ht⟩:=ht
    split at ht
    rename_i f r hr;rw[hr];simp only[a0l,a45];simpa using ht;cases ht
   |unit=>
    simp only[a0l,hund,bA]at ht
    have:fs.toList=[]:=by simpa using ht.2
    rw[this];rfl
   |_=>simp[a6d]at hp
  have key:(Op.equalIn 10000 t (.agg xs) (.agg ys)).run P w=.ok (eqT τ x y) w:=by
   rw[run_equalIn_struct w 9999 t xs ys (by rw[hfs];exact hund) hs,hfs];refine c6a (d:=9998) τ fs.toList 0 hty hp (R:=R) (R':=R') (m:=m) ?_ ?_
   simpa[Value.cells]using hu3;simpa[Value.cells]using hv3
  refine⟨⟨run_eqGuard_agg w _ t xo yo xs ys hg,?_⟩,run_eqGuard_agg w _ t xo yo xs ys hg,?_⟩;rw[run_eql_struct,key];rfl;rw[run_neq_struct,key];rfl
 cases hp
def c9i(P:Program)(τ:Ty)(t:TypeId):Bool:=
 !P.eqGuardType P.depth t&&(match τ,P.underlying t with
  |.arr n (.int k),some (.array n' e)=>n'==n&&(P.cellsOf e==1&&((P.info? e).isSome&&a0l P (.int k) (.inl e)))
  |_,_=>false)
theorem b9V{d e:Nat}{k:IntKind}(he:a0l P (.int k) (.inl e)=true){xs ys:Array Value}{x y:List Int}(hx:∀i (h:i<x.length),xs[i]?=some (.int k x[i]))(hy:∀i (h:i<y.length),ys[i]?=some (.int k y[i])):
  ∀(is:List Nat),(∀i∈is,i<x.length∧i<y.length)→(Op.eqItems (d+1) e 1 xs ys is).run P w=.ok (is.all fun i=>x[i]?==y[i]?) w
 | [],_=>by simp[Op.eqItems]
 |i::is,h=>by
  obtain⟨h1,h2⟩:=h i (by simp);have e1:=a6e (w:=w) he rfl (show xs[i*1]?=_ by rw[a89];exact hx i h1);have e2:=a6e (w:=w) he rfl (show ys[i*1]?=_ by rw[a89];exact hy i h2);have e3:=run_equalIn_int (P:=P) w d e k k x[i] y[i] (a9E he);have ih:=b9V (d:=d) he hx hy is (fun j hj=>h j (by simp[hj]));simp only[Op.eqItems,Sem.run_bind,e1,e2,e3,Result.andThen_ok];have g1:x[i]?=some x[i]:=lG h1;have g2:y[i]?=some y[i]:=lG h2;cases hb:x[i]==y[i];simp[g1,g2,hb];simp only[bT,a04,if_false,ih,a22,g1,g2]
  have:(some x[i]==some y[i])=true:=by simpa using hb
  rw[this,a48]
theorem c8n:∀(x y:List Int),x.length=y.length→((a47 x.length).all fun i=>x[i]?==y[i]?)=((a80 (fun(a b:Int)=>a==b) x y).all id)
 | [],[],_=>rfl
 |a::x,b::y,h=>by
  have ih:=c8n x y (by simpa using h);rw[lC,List.range_succ_eq_map,a22,List.all_map,List.zipWith_cons_cons,a22,←ih];simp[Function.comp_def]
theorem c0R.ofArr{τ:Ty}{t:TypeId}(h:c9i P τ t=true):c0R P τ t:=by
 simp only[c9i,bA,a08]at h;obtain⟨hg,h⟩:=h
 split at h
 rotate_left;cases h;rename_i n k n' e hund;simp only[bA,beq_iff_eq]at h;obtain⟨rfl,hc,hi,ht⟩:=h;obtain⟨i,hi⟩:=a03.1 hi;intro m Sh x y u v w xo yo hu hv;obtain⟨hu1,-,R,hu3,-⟩:=hu;obtain⟨hv1,-,R',hv3,-⟩:=hv;obtain⟨xs,rfl,-⟩:=hu1 rfl;obtain⟨ys,rfl,-⟩:=hv1 rfl;have key0:∀{zs:Array Value}{z:List Int}{R},dec m (.arr n' (.int k)) (fun j=>(Value.agg zs).cells[j]?)=some (z,[],R)→z.length=n'∧∀i (h:i<z.length),zs[i]?=some (.int k z[i]):=by
  intro zs z R hz;simp only[dec]at hz;have hl:z.length=n':=a0R n' 0 hz;refine⟨hl,fun i hi'=>?_⟩;obtain⟨a,o,r,A,B,A',B',h1,h2,-⟩:=a0P n' 0 i hz (hl▸hi');have h2:z[i]?=some (show Int from a):=h2;have h2:z[i]=(show Int from a):=Option.some.inj ((lG hi').symm.trans h2);simp only[Ty.cells,a45,a89,a36,Value.cells]at h1
  split at h1
  rename_i k' n hn;rw[a52]at h1;obtain⟨rfl,h1⟩:=h1;have h1:=(Prod.mk.inj (Option.some.inj h1)).1;rw[hn,h2,←h1];cases h1
 obtain⟨hxl,hx⟩:=key0 hu3;obtain⟨hyl,hy⟩:=key0 hv3;have key:(Op.equalIn 10000 t (.agg xs) (.agg ys)).run P w=.ok (eqT (.arr n' (.int k)) x y) w:=by
  rw[run_equalIn_array w 9999 xs ys hund hi,hc,b9V (d:=9998) ht hx hy _ (fun j hj=>by rw[a07]at hj;omega)]
  have:=c8n x y (by rw[hxl,hyl])
  rw[hxl]at this;rw[this];have hlen:(a25 (show List Int from x)==a25 (show List Int from y))=true:=by rw[hxl,hyl];simp
  show _=Result.ok ((a80 (fun(a b:Int)=>a==b) x y).all id&&(a25 (show List Int from x)==a25 (show List Int from y))) w;rw[hlen,a73]
 refine⟨⟨run_eqGuard_agg w _ t xo yo xs ys hg,?_⟩,run_eqGuard_agg w _ t xo yo xs ys hg,?_⟩;rw[run_eql_struct,key];rfl;rw[run_neq_struct,key];rfl
theorem b8D{α:Type}:∀(l:List (Nat×α)) (t:Nat) (x:α),find l t=some x→(t,x)∈l
 | [],_,_,h=>by simp[find]at h
 |(k,y)::r,t,x,h=>by
  simp only[find]at h;rcases a0g h with⟨hk,h'⟩|⟨-,h⟩;simp only[sj]at h'
  have:k=t:=by simpa using hk
  rw[this,h'];exact a23 ..;exact a01 _ (b8D r t x h)
def d3b(P:Program)(tab:List (Nat×Ty)):Bool:=tab.all fun p=>decide (p.2.sh=p.2)&&a0l P p.2 (.inl p.1)
def d3c(P:Program)(l:List Nat):Bool:=l.all fun t=>match P.underlying t with|some (.pointer _)=>true|_=>false
def d3d(P:Program)(tab:List (Nat×Ty))(l:List Nat):Bool:=l.all fun t=>match find tab t with|some τ=>!τ.isAgg || (d2g P τ t || c9i P τ t)|none=>true
theorem CxTy.of{tab:List (Nat×Ty)}{l q:List Nat}(hT:∀t,cx.T t=find tab t)(hE:∀t,cx.E t=l.contains t)(hQ:∀t,cx.Q t=q.contains t)(h1:d3b P tab=true)(h2:d3c P q=true)(h3:d3d P tab l=true):CxTy P cx:=by
 have ok:∀t τ,cx.T t=some τ→τ.sh=τ∧a0l P τ (.inl t)=true:=fun t τ h=>by
  rw[hT]at h
  have:=lA.1 h1 _ (b8D _ _ _ h)
  simp only[bA,dT]at this;exact this
 refine⟨ok,fun t ht=>?_,fun t τ he hτ ha=>?_⟩;rw[hQ]at ht
 have:=lA.1 h2 t (by simpa using ht)
 split at this
 rename_i e hu;exact⟨e,hu⟩;cases this;rw[hE]at he
 have:=lA.1 h3 t (by simpa using he)
 rw[←hT,hτ]at this;simp only[ha,bT,Bool.false_or,a50]at this;exact this.elim (c0R.of (ok t τ hτ).2) c0R.ofArr
theorem CxOk.of{fs:List (Nat×FSem)}(h:CxTy P cx)(hC:∀f,cx.C f=find fs f)(hf:∀p∈fs,a3b P cx.G p.1 p.2∧b0d P p.1):CxOk P cx:=
 ⟨h,fun f s hs=>by
  rw[hC]at hs;exact hf _ (b8D _ _ _ hs)⟩
theorem a0{α:Type}{p:α→Prop}:∀x∈([]:List α),p x:=fun _ h=>by cases h
theorem a1{α:Type}{p:α→Prop}{a:α}{l:List α}(h:p a)(hl:∀x∈l,p x):∀x∈a::l,p x:=fun x hx=>by
 rcases mC.1 hx with rfl|hx;exact h;exact hl x hx
end
def b8E{α:Type}(x:List α):Option (List α):=bif List.isEmpty x then b6H (some ([]:List α)) (bif lim (0+a25 x)then some (a66 [] x)else none)else(bif lim (0+a25 x)then some (a66 [] x)else none)
def b3O{α:Type}(x:List α):Option (List α):=bif lim (0+a25 x)then some x else none
theorem b6X{α:Type}(x:List α):b8E x=b3O x:=by
 unfold b8E b3O;cases x with
 |nil=>exact c8D _
 |cons a x=>rfl
end Go.Ab
namespace Go.Ab
section
variable {α:Type} {f f':Nat→Option (α×a0U×List Nat)}
theorem b3P:∀(n i:Nat){x},(∀j y,f j=some y→f' j=some y)→a0d f n i=some x→a0d f' n i=some x
 |0,_,_,_,h=>h
 |n+1,i,x,hf,h=>by
  simp only[a0d]at h⊢
  split at h
  cases h;rename_i x1 o1 r1 h1;rw[hf _ _ h1];simp only[]
  split at h
  cases h;rename_i xs os rs h2;rw[b3P n (i+1) hf h2];exact h
end
theorem a7Y{m m':Mem}(hm:∀b j v,m b j=some v→m' b j=some v):∀(t:Ty){rd rd':Nat→Option Value}{x},(∀j v,rd j=some v→rd' j=some v)→dec m t rd=some x→dec m' t rd'=some x
 |.int k,rd,rd',x,hr,h=>by
  simp only[dec]at h⊢
  split at h
  rename_i hv;rw[hr _ _ hv];exact h;cases h
 |.bool,rd,rd',x,hr,h=>by
  simp only[dec]at h⊢
  split at h
  rename_i hv;rw[hr _ _ hv];exact h;cases h
 |.str,rd,rd',x,hr,h=>by
  simp only[dec]at h⊢
  split at h
  rename_i hv;rw[hr _ _ hv];exact h;cases h
 |.unit,rd,rd',x,hr,h=>h
 |.pair a b,rd,rd',x,hr,h=>by
  simp only[dec]at h⊢
  split at h
  cases h;rename_i x1 o1 r1 h1;rw[a7Y hm a hr h1];simp only[]
  split at h
  cases h;rename_i x2 o2 r2 h2;rw[a7Y hm b (fun j v=>hr _ v) h2];exact h
 |.arr n t,rd,rd',x,hr,h=>by
  simp only[dec]at h⊢;exact b3P n 0 (fun j y hy=>a7Y hm t (fun i v=>hr _ v) hy) h
 |.list o t,rd,rd',x,hr,h=>by
  simp only[dec]at h⊢;unfold a0K at h⊢
  split at h
  rename_i n c hv;rw[hr _ _ hv];exact h;rename_i a n c hv;rw[hr _ _ hv];simp only[]
  split at h
  rename_i hc;rw[if_pos hc]
  split at h
  cases h;rename_i xs os rs h3;rw[b3P n 0 (fun j y hy=>a7Y hm t (fun i v hv=>hm _ _ _ hv) hy) h3];exact h;cases h;cases h
 |.nl t,rd,rd',x,hr,h=>by
  simp only[dec]at h⊢
  split at h
  rename_i hv;rw[hr _ _ hv];exact h;cases h
theorem Src.rd_grow{m m':Mem}(hm:∀b j v,m b j=some v→m' b j=some v)(s:Src):∀j v,s.rd m j=some v→s.rd m' j=some v:=by
 intro j v h;cases s with
 |one u=>exact h
 |_=>exact hm _ _ _ h
theorem a7Z{m m':Mem}(hm:∀b j v,m b j=some v→m' b j=some v):∀(p:a0N)(t:Ty)(s:Src){x},a0Q m p t s=some x→a0Q m' p t s=some x
 | [],t,s,x,h=>h
 |.fst::p,t,s,x,h=>by
  unfold a0Q at h⊢
  split at h
  exact a7Z hm p _ _ h;cases h
 |.snd::p,t,s,x,h=>by
  unfold a0Q at h⊢
  split at h
  exact a7Z hm p _ _ h;cases h
 |.idx i::p,t,s,x,h=>by
  unfold a0Q at h⊢
  split at h
  rename_i n t' bl o
  split at h
  rename_i hlt;simp only[if_pos hlt];exact a7Z hm p _ _ h;cases h;rename_i t' s'
  split at h
  rename_i a n c hv
  split at h
  rename_i hlt;simp only[Src.rd_grow hm s _ _ hv,if_pos hlt];exact a7Z hm p _ _ h;cases h;cases h;cases h
structure Turns (B:Base) (w w':World):Prop where
 cells:∀(c:Nat)(o:Obj),w.heap[c]?=some o→o.isCells=true→w'.heap[c]?=some o
 size:w.heap.size≤w'.heap.size
 frame:∀b,b<B.size→w'.heap[b]?=w.heap[b]?
 io:a1H w'=a1H w
theorem c4m{w w':World}(hcells:∀(c:Nat)(o:Obj),w.heap[c]?=some o→o.isCells=true→w'.heap[c]?=some o)(ov:Option (Nat×Nat×Value)):∀b j v,a0a w ov b j=some v→a0a w' ov b j=some v:=by
 have hc:∀b j v,w.cell? ⟨b,j,none⟩=some v→w'.cell? ⟨b,j,none⟩=some v:=fun b j v hv=>by
  obtain⟨o,h1,h2⟩:=cells_of_cell hv;have h3:=hcells b o h1 h2;unfold World.cell? at hv⊢;simp only[h1]at hv;simp only[h3];exact hv
 intro b j v hv;cases ov with
 |none=>exact hc b j v hv
 |some y=>
  obtain⟨b',o',u⟩:=y;simp only[a0a]at hv⊢;split;rename_i e;rw[if_pos e]at hv;exact hv;rename_i e;rw[if_neg e]at hv;exact hc b j v hv
theorem Rel.turnedG{B:Base}{Γ:AE}{N:Nat}{tm:Nat→Value}{w w':World}{σ:Gh}(h:Rel B Γ N tm w σ)(hcells:∀(c:Nat)(o:Obj),w.heap[c]?=some o→o.isCells=true→w'.heap[c]?=some o)
  (hsize:w.heap.size≤w'.heap.size):Rel { B with hp:=fun b=>w'.heap[b]?,io:=a1H w' } Γ N tm w' σ:=by
 have hm:=c4m hcells σ.ov;have hsh:∀c,Shr B w σ c→Shr { B with hp:=fun b=>w'.heap[b]?,io:=a1H w' } w' σ c:=fun c hc=>⟨a24 hc.1 hsize,hc.2⟩;have hav:∀a v,a0i (a0a w σ.ov) σ.g Γ.rt (Shr B w σ) a v→a0i (a0a w' σ.ov) σ.g Γ.rt (Shr { B with hp:=fun b=>w'.heap[b]?,io:=a1H w' } w' σ) a v:=fun a v ha=>by
  cases a with
  |val t x=>
   obtain⟨h1,h2,R,h3,h4⟩:=ha;exact⟨h1,h2,R,a7Y hm t (fun _ _ hv=>hv) h3,fun c hc=>hsh c (h4 c hc)⟩
  |vptr t x=>
   obtain⟨b,o,R,h1,h2,h3,h4⟩:=ha;exact⟨b,o,R,h1,a7Y hm t (Src.rd_grow hm _) h2,hsh b h3,fun c hc=>hsh c (h4 c hc)⟩
  |ptr n p=>
   obtain⟨r,t,b,o,h1,h2,h3⟩:=ha;exact⟨r,t,b,o,h1,a7Z hm p _ _ h2,h3⟩
  |sref n p=>
   obtain⟨r,e,s,h1,h2,h3⟩:=ha;exact⟨r,e,s,h1,a7Z hm p _ _ h2,Src.rd_grow hm s _ _ h3⟩
  |swin n p off len=>
   obtain⟨r,e,s,a,l,c,h1,h2,h3,h4⟩:=ha;exact⟨r,e,s,a,l,c,h1,a7Z hm p _ _ h2,Src.rd_grow hm s _ _ h3,h4⟩
  |_=>exact ha
 refine⟨fun n r hr=>?_,h.norm,h.nodup,h.disj,fun n p hp=>?_,fun i hi=>?_,?_,a33 h.size hsize,fun b _ _=>rfl,h.mine,h.pins,rfl⟩;obtain⟨O',R,g1,g2,g3⟩:=(h.roots n r hr).rd;exact⟨O',R,a7Y hm _ (Src.rd_grow hm _) g1,fun c hc=>hsh c (g2 c hc),g3⟩;obtain⟨c,e,lo,hi,h1,h2,h3⟩:=h.live n p hp;exact⟨c,e,lo,hi,hcells _ _ h1 rfl,h2,h3⟩
 ·have hs:=h.slots i hi
  revert hs
  cases Γ.sl i with
  |one a=>exact fun hs=>hav a _ hs
  |cmp c as=>
   rintro⟨vs,h1,h2⟩
   exact⟨vs,h1,fun k a hk=>by
    obtain⟨u,hu,ha⟩:=h2 k a hk;exact⟨u,hu,hav a u ha⟩⟩
 exact h.pend.mono fun n p d r e b o hpd hr hl=>⟨r,hr,a7Z hm p _ _ hl⟩
theorem Rel.turned{B:Base}{Γ:AE}{N:Nat}{tm:Nat→Value}{w w':World}{σ:Gh}(h:Rel B Γ N tm w σ)(ht:Turns B w w'):Rel B Γ N tm w' σ:=by
 have h1:=h.turnedG ht.cells ht.size;exact⟨h1.roots,h1.norm,h1.nodup,h1.disj,h1.live,h1.slots,h1.pend,h1.size,fun b hb hF=>(ht.frame b hb).trans (h.frame b hb hF),h1.mine,h1.pins,ht.io.trans h.still⟩
def Base.anew(B:Base)(w:World)(σ:Gh):Base where
 size:=w.heap.size
 hp:=fun b=>w.heap[b]?
 F:=a0L σ
 S:=fun c=>(B.S c∨B.F c∨B.size≤c)∧¬ a0L σ c
 pin:=fun i=>match B.pin i with
  |some b=>some b
  |none=>some (σ.g (pinned+i))
 io:=a1H w
theorem d2h{B:Base}{w:World}{σ:Gh}{c:Nat}:Shr (B.anew w σ) w σ c↔Shr B w σ c:=by
 constructor
 rintro⟨h1,h2,h3⟩
 refine⟨h1,?_,h3⟩;rcases h2 with h2|h2|h2;exact h2.1;exact absurd h2 h3;have h2:w.heap.size≤c:=h2;omega
 rintro⟨h1,h2,h3⟩
 exact⟨h1,.inl ⟨h2,h3⟩,h3⟩
theorem Rel.anew{B:Base}{Γ:AE}{N:Nat}{tm:Nat→Value}{w:World}{σ:Gh}(h:Rel B Γ N tm w σ):Rel (B.anew w σ) Γ N tm w σ:=by
 have e:Shr (B.anew w σ) w σ=Shr B w σ:=funext fun c=>propext d2h;refine⟨fun n r hr=>by rw[e];exact h.roots n r hr,h.norm,h.nodup,h.disj,h.live,fun i hi=>by rw[e];exact h.slots i hi,h.pend,a35 _,fun b _ _=>rfl,fun c hc=>.inl hc,fun i b hb hne=>?_,rfl⟩;simp only[Base.anew]at hb
 split at hb
 rename_i b' hb';cases hb;exact h.pins i b hb' hne;cases hb;rfl
theorem c6b{B:Base}{Γ0:AE}{N0:Nat}{tm0:Nat→Value}{w w':World}{σ σ':Gh}(h0:Rel B Γ0 N0 tm0 w σ){f:Nat→Option Src}{c:Nat}(hc:Shr { B.anew w σ with pin:=f } w' σ' c):Shr B w' σ' c:=by
 obtain⟨h1,h2,h3⟩:=hc;refine⟨h1,?_,h3⟩;rcases h2 with h2|h2|h2;exact h2.1;exact .inr (h0.mine c h2);have h2:w.heap.size≤c:=h2;exact .inr (.inr (a33 h0.size h2))
theorem Rel.backP{B:Base}{Γ0 Γ:AE}{N0 N:Nat}{tm0 tm:Nat→Value}{w w':World}{σ σ':Gh}{f:Nat→Option Src}(hf:∀i b,B.pin i=some b→f i=some b)(h0:Rel B Γ0 N0 tm0 w σ)(h:Rel { B.anew w σ with pin:=f } Γ N tm w' σ'):Rel B Γ N tm w' σ':=by
 have hsh:∀c,Shr { B.anew w σ with pin:=f } w' σ' c→Shr B w' σ' c:=fun c hc=>c6b h0 hc;have hav:∀a v,a0i (a0a w' σ'.ov) σ'.g Γ.rt (Shr { B.anew w σ with pin:=f } w' σ') a v→a0i (a0a w' σ'.ov) σ'.g Γ.rt (Shr B w' σ') a v:=fun a v ha=>
  ha.frame (fun _ _ _=>rfl) hsh fun n p r t s _ hr hl=>⟨r,hr,hl,fun _ _ hu=>hu⟩
 refine⟨fun n r hr=>?_,h.norm,h.nodup,h.disj,h.live,fun i hi=>?_,h.pend,a33 h0.size h.size,fun b hb hF=>?_,fun c hc=>?_,fun i b hb hne=>h.pins i b (hf i b hb) hne,h.still.trans h0.still⟩;obtain⟨O',R,g1,g2,g3⟩:=(h.roots n r hr).rd;exact⟨O',R,g1,fun c hc=>hsh c (g2 c hc),g3⟩
 ·have hs:=h.slots i hi
  revert hs
  cases Γ.sl i with
  |one a=>exact fun hs=>hav a _ hs
  |cmp c as=>
   rintro⟨vs,h1,h2⟩
   exact⟨vs,h1,fun k a hk=>by
    obtain⟨u,hu,ha⟩:=h2 k a hk;exact⟨u,hu,hav a u ha⟩⟩
 have hlt:b<w.heap.size:=a24 hb h0.size;have hno:¬ a0L σ b:=fun ho=>by
  rcases h0.mine b ho with g|g;exact hF g;omega
 exact(h.frame b hlt hno).trans (h0.frame b hb hF);rcases h.mine c hc with g|g;exact h0.mine c g;have g:w.heap.size≤c:=g;exact .inr (a33 h0.size g)
theorem Rel.back{B:Base}{Γ0 Γ:AE}{N0 N:Nat}{tm0 tm:Nat→Value}{w w':World}{σ σ':Gh}(h0:Rel B Γ0 N0 tm0 w σ)(h:Rel (B.anew w σ) Γ N tm w' σ'):Rel B Γ N tm w' σ':=
 h0.backP (f:=(B.anew w σ).pin) (fun i b hb=>by simp only[Base.anew,hb]) h
end Go.Ab
namespace Go.Ab
theorem Rel.unpin{B:Base}{Γ:AE}{N:Nat}{tm:Nat→Value}{w:World}{σ:Gh}(h:Rel B Γ N tm w σ)(f:Nat→Option Src)(hf:∀i b,f i=some b→B.pin i=some b):Rel { B with pin:=f } Γ N tm w σ:=
 ⟨h.roots,h.norm,h.nodup,h.disj,h.live,h.slots,h.pend,h.size,h.frame,h.mine,fun i b hb hne=>h.pins i b (hf i b hb) hne,h.still⟩
def AE.renAll{ρ:Type}(Γ:AE):List Nat→(AE→Rs ρ)→Rs ρ
 | [],K=>K Γ
 |n::ns,K=>match Γ.look n,Γ.rt (pinned+1000+n)with
  |some r,none=>AE.renAll (((Γ.mapv (AV.ren n (pinned+1000+n))).setRt n none).setRt (pinned+1000+n) (some r)) ns K
  |_,_=>none
theorem Rel.renAll{ρ:Type}{B:Base}{N:Nat}{tm:Nat→Value}{w:World}(hB:∀i b,1000≤i→B.pin i≠some b):∀(ns:List Nat){Γ:AE}{σ:Gh}{K:AE→Rs ρ}{z:ρ}(_:Rel B Γ N tm w σ)(_:Γ.renAll ns K=some z),∃Γ' σ',K Γ'=some z∧Rel B Γ' N tm w σ'
 | [],Γ,σ,K,z,h,hz=>⟨Γ,σ,hz,h⟩
 |n::ns,Γ,σ,K,z,h,hz=>by
  simp only[AE.renAll]at hz
  split at hz
  rename_i r h1 h2;obtain⟨hpd,hr⟩:=a0F h1;exact Rel.renAll hB ns (h.rename hr h2 (fun i b e=>hB i b (by omega)) (by simp[hpd])) hz;cases hz
def a0Z:a0e→Bool
 | []=>true
 |.sv _ _::r=>a0Z r
 |.box n _::r=>(decide (pinned≤n)&&!(a0e.names r).contains n)&&a0Z r
 |.own _ n _::r=>(decide (pinned≤n)&&!(a0e.names r).contains n)&&a0Z r
 |.ptr _ n []::r=>decide (pinned≤n)&&a0Z r
 |_=>false
def c6c:SV→Prop
 |.one .dead=>True
 |.one (.val _ _)=>True
 |.one (.ptr n [])|.one (.sref n [])=>pinned≤n
 |_=>False
theorem b3w:∀(es:a0e)(x:es.ty.den)(_:a0Z es=true)(i:Nat),c6c ((es.enc x).sl i)
 | [],_,_,i=>trivial
 |.sv k t::r,x,h,i=>by
  simp only[a0e.enc,a2b];split;trivial;exact b3w r x.2 (by simpa[a0Z]using h) i
 |.box n t::r,x,h,i=>by
  simp only[a0Z,bA]at h;exact b3w r x.2 h.2 i
 |.own k n e::r,x,h,i=>by
  simp only[a0Z,bA,dT]at h;show c6c ((((a0e.enc r x.2).setRt n (some ⟨false,.list true e,x.1⟩)).set k (.sref n [])).sl i);rw[a2b];split;exact h.1.1;exact b3w r x.2 h.2 i
 |.ptr k n p::r,x,h,i=>by
  cases p with
  |cons=>simp[a0Z]at h
  |nil=>
   simp only[a0Z,bA,dT]at h;simp only[a0e.enc,a2b];split;exact h.1;exact b3w r x h.2 i
 |.vp _ _::_,_,h,_|.ref _ _ _::_,_,h,_|.rfi _ _::_,_,h,_|.win _ _ _::_,_,h,_|.clo _ _ _::_,_,h,_=>by simp[a0Z]at h
theorem a4A:∀(es:a0e)(x:es.ty.den),(es.enc x).pd=none
 | [],_=>rfl
 |.sv _ _::r,x=>a4A r x.2
 |.box _ _::r,x=>a4A r x.2
 |.ptr _ _ _::r,x=>a4A r x
 |.own _ _ _::r,x=>a4A r x.2
 |.vp _ _::r,x=>a4A r x.2
 |.ref _ _ _::r,x=>a4A r x
 |.rfi _ _::r,x=>a4A r x.2
 |.win _ _ _::r,x=>a4A r x.2.2
 |.clo _ _ _::r,x=>a4A r x
theorem b6c:∀(es:a0e)(x:es.ty.den)(_:a0Z es=true)(n:Nat),(es.enc x).rt n≠none→n∈es.names
 | [],_,_,n,h=>absurd rfl h
 |.sv k t::r,x,h,n,hn=>b6c r x.2 (by simpa[a0Z]using h) n hn
 |.box m t::r,x,h,n,hn=>by
  simp only[a0Z,bA]at h;simp only[a0e.enc,b1h]at hn
  split at hn
  rename_i e;subst e;simp[a0e.names];simp only[a0e.names,mC];exact .inr (b6c r x.2 h.2 n hn)
 |.own k m e::r,x,h,n,hn=>by
  simp only[a0Z,bA]at h;have hn:((a0e.enc r x.2).setRt m (some ⟨false,.list true e,x.1⟩)).rt n≠none:=hn;rw[b1h]at hn
  split at hn
  rename_i e;subst e;simp[a0e.names];simp only[a0e.names,mC];exact .inr (b6c r x.2 h.2 n hn)
 |.ptr k m p::r,x,h,n,hn=>by
  cases p with
  |cons=>simp[a0Z]at h
  |nil=>
   simp only[a0Z,bA,dT]at h;exact b6c r x h.2 n hn
 |.vp _ _::_,_,h,_,_|.ref _ _ _::_,_,h,_,_|.rfi _ _::_,_,h,_,_|.win _ _ _::_,_,h,_,_|.clo _ _ _::_,_,h,_,_=>by simp[a0Z]at h
theorem b1j:∀(es:a0e)(x:es.ty.den)(_:a0Z es=true){i n:Nat}(_:(es.enc x).sl i=.one (.sref n [])),n∈es.names∧∃e l,(es.enc x).rt n=some ⟨false,.list true e,l⟩
 | [],_,_,i,n,h=>by cases h
 |.sv k t::r,x,h,i,n,hs=>by
  have hs:((a0e.enc r x.2).set k (.val t x.1)).sl i=.one (.sref n []):=hs;rw[a2b]at hs
  split at hs
  cases hs;exact b1j r x.2 (by simpa[a0Z]using h) hs
 |.box m t::r,x,h,i,n,hs=>by
  simp only[a0Z,bA,a08,a16,decide_eq_false_iff_not]at h;obtain⟨h1,e,l,h2⟩:=b1j r x.2 h.2 (i:=i) (n:=n) hs;refine⟨by simp[a0e.names,h1],e,l,?_⟩;show((a0e.enc r x.2).setRt m _).rt n=_;rw[b1h,if_neg (show ¬ n=m from fun g=>h.1.2 (g▸h1))];exact h2
 |.own k m e::r,x,h,i,n,hs=>by
  simp only[a0Z,bA,a08,a16,decide_eq_false_iff_not]at h;have hs:(((a0e.enc r x.2).setRt m (some ⟨false,.list true e,x.1⟩)).set k (.sref m [])).sl i=.one (.sref n []):=hs;show n∈_∧∃e' l,((a0e.enc r x.2).setRt m (some ⟨false,.list true e,x.1⟩)).rt n=some ⟨false,.list true e',l⟩;rw[a2b]at hs;rw[b1h]
  split at hs
  cases hs;exact⟨by simp[a0e.names],e,x.1,by rw[if_pos rfl]⟩;obtain⟨h1,e',l,h2⟩:=b1j r x.2 h.2 (i:=i) (n:=n) hs;exact⟨by simp[a0e.names,h1],e',l,by rw[if_neg (show ¬ n=m from fun g=>h.1.2 (g▸h1))];exact h2⟩
 |.ptr k m p::r,x,h,i,n,hs=>by
  cases p with
  |cons=>simp[a0Z]at h
  |nil=>
   simp only[a0Z,bA]at h;have hs:((a0e.enc r x).set k (.ptr m [])).sl i=.one (.sref n []):=hs;rw[a2b]at hs
   split at hs
   cases hs;exact b1j r x h.2 hs
 |.vp _ _::_,_,h,_,_,_|.ref _ _ _::_,_,h,_,_,_|.rfi _ _::_,_,h,_,_,_|.win _ _ _::_,_,h,_,_,_|.clo _ _ _::_,_,h,_,_,_=>by simp[a0Z]at h
section
variable {B:Base} {N:Nat} {w w':World} {σ σ':Gh} {Γ:AE}
theorem Rel.kept{tm':Nat→Value}{Γ':AE}(h:Rel (B.anew w σ) Γ' N tm' w' σ'){c:Nat}(hc:Shr B w σ c):w'.heap[c]?=w.heap[c]?∧Shr (B.anew w σ) w' σ' c:=by
 have hlt:c<(B.anew w σ).size:=hc.1;have hno:¬ (B.anew w σ).F c:=hc.2.2;refine⟨h.frame c hlt hno,a24 hc.1 h.size,.inl hc.2,fun ho=>?_⟩;rcases h.mine c ho with g|g;exact hno g;omega
theorem VOk.kept{tm':Nat→Value}{Γ':AE}(h:Rel (B.anew w σ) Γ' N tm' w' σ')(hov:σ.ov=none)(hov':σ'.ov=none){t:Ty}{x:t.den}{v:Value}(hv:VOk (a0a w σ.ov) (Shr B w σ) t x v):
  VOk (a0a w' σ'.ov) (Shr (B.anew w σ) w' σ') t x v:=
 hv.frame (fun c j hc=>by rw[hov,hov'];exact a1c none (h.kept hc).1 j) fun c hc=>(h.kept hc).2
theorem Rel.again{tm tm':Nat→Value}{Γ':AE}(h0:Rel B Γ N tm w σ)(hfl:∀i,i<N→c6c (Γ.sl i))(hpd:Γ.pd=none)(h:Rel (B.anew w σ) Γ' N tm' w' σ')(hpd':Γ'.pd=none)
  (hn:∀i n,i<N→Γ.sl i=.one (.ptr n [])∨Γ.sl i=.one (.sref n [])→Γ'.rt n≠none)(ho:∀i n,i<N→Γ.sl i=.one (.sref n [])→∃u,σ.g n=.one u):Rel (B.anew w σ) { Γ' with sl:=Γ.sl } N tm w' σ'∧∀i n,i<N→Γ.sl i=.one (.sref n [])→∃u,σ'.g n=.one u:=by
 have hov:=h0.ov_none hpd;have hov':=h.ov_none hpd';have hpin:∀n,pinned≤n→Γ.rt n≠none→Γ'.rt n≠none→σ'.g n=σ.g n:=fun n hf h1 h2=>by
  obtain⟨i,rfl⟩:∃i,n=pinned+i:=⟨n-pinned,by omega⟩;refine h.pins i _ ?_ h2;simp only[Base.anew];cases hp:B.pin i with
  |none=>rfl
  |some b'=>rw[h0.pins i b' hp h1]
 refine⟨⟨h.roots,h.norm,h.nodup,h.disj,h.live,fun i hi=>?_,h.pend,h.size,h.frame,h.mine,h.pins,h.still⟩,fun i n hi hs=>?_⟩;rotate_left;have hf:=hfl i hi;have hk:=h0.slots i hi;rw[hs]at hf hk;obtain⟨r,e,s,h1,-⟩:=hk;rw[hpin n hf (by rw[h1];simp) (hn i n hi (.inr hs))];exact ho i n hi hs;have hs:=h0.slots i hi;have hf:=hfl i hi;have hn:=hn i;have ho:=ho i;show a9A _ _ Γ'.rt _ (Γ.sl i) _
 revert hs hf hn ho
 cases Γ.sl i with
 |cmp c vs=>intro _ hf;exact hf.elim
 |one a=>
  cases a with
  |dead=>intro _ _ _ _;trivial
  |val t x=>intro hs _ _ _;exact VOk.kept h hov hov' hs
  |ptr n p=>
   cases p with
   |cons=>intro _ hf;exact hf.elim
   |nil=>
    intro hs hf hn _;obtain⟨r,t,b,o,h1,h2,h3⟩:=hs;have hr':=hn n hi (.inl rfl);have hg:=hpin n hf (by rw[h1];simp) hr';obtain⟨r',hr'⟩:=a40.1 hr';simp only[loc,a0Q,sj,pJ]at h2;refine⟨r',r'.t,b,o,hr',?_,h3⟩;show some (r'.t,σ'.g n)=_;rw[hg,h2.2]
  |sref n p=>
   cases p with
   |cons=>intro _ hf;exact hf.elim
   |nil=>
    intro hs hf hn ho;obtain⟨u0,hu0⟩:=ho n hi rfl;obtain⟨r,e0,s0,h1,h2,h3⟩:=hs;have hr':=hn n hi (.inr rfl);have hg:=hpin n hf (by rw[h1];simp) hr';simp only[loc,a0Q,sj,pJ]at h2;rw[←h2.2,hu0]at h3;rw[hu0]at hg;obtain⟨r',hr'⟩:=a40.1 hr';rcases h.src_of hr' with⟨-,b,g⟩|⟨-,u,e,g,ht⟩;rw[hg]at g;cases g;refine⟨r',e,.one u0,hr',?_,h3⟩;show some (r'.t,σ'.g n)=_;rw[hg,ht]
  |_=>intro _ hf;exact hf.elim
end
def d1g{ρ:Type}(s:a0e)(x:s.ty.den)(Γ:AE)(K:s.ty.den→Rs ρ):Rs ρ:=match Γ.pd with
 |none=>bif s.names.all (fun n=>(Γ.rt n).isSome)then s.dcd { Γ with sl:=(s.enc x).sl } K else none
 |some _=>none
def a5t{α S R:Type}(f:Int→α→S→Option (S ⊕ R))(l:List α):Nat→S→Option (S ⊕ R)
 |0,s=>some (.inl s)
 |n+1,s=>match l[n]? with
  |none=>none
  |some v=>match f n v s with
   |none=>none
   |some (.inl s')=>a5t f l n s'
   |some (.inr r)=>some (.inr r)
def rnd(cx:Cx)(H:Hints)(p:Nat)(s:a0e)(i1 i2:Nat)(assign body:Code)(e:Ty)(k:Int)(v:e.den)(x:s.ty.den):Option (s.ty.den ⊕ (Ex×s.ty.den)):=
 a1x cx H assign (2*p) (((s.enc x).set i1 (.val (.int .i64) k)).set i2 (.val e v)) fun ex Γ=>match ex with
  |.normal=>match Γ.pd with
   |none=>bif s.names.all (fun n=>(Γ.rt n).isSome)then
     a1x cx H body (2*p+1) Γ fun ex Γ'=>d1g s x Γ' fun x'=>match ex with
      |.normal=>some (.inl x')
      |ex=>some (.inr (ex,x'))
    else none
   |some _=>none
  |_=>none
structure HintR where
 t:Nat
 e:Ty
 mkr:Nat
 it:Nat
 ns:List Nat
 s:a0e
structure RParts where
 ops:Array Oper
 b:Nat
 g:Nat
 i1:Nat
 i2:Nat
 assign:Code
 body:Code
def b6d:Code→Code→Option RParts
 |.region _ ops false,.block b (.rangeFunc (.tmp g) ps assign body)=>match ps.toList with
  | [i1,i2]=>some ⟨ops,b,g,i1,i2,assign,body⟩
  |_=>none
 |_,_=>none
def c3m(o:Oper)(r:HintR)(g:Nat):Bool:=match o.op with
 |.call c=>(match c.callee,c.args.toList with
  |.value (.func f),[.tmp t]=>f==r.mkr&&t==r.t&&(o.dst==some g)&&o.guard.isNone
  |_,_=>false)
 |_=>false
def c9j{t e:Ty}(h:t=.list false e)(l:t.den):List e.den:=(h▸l:(Ty.list false e).den)
def c6d{ρ:Type}(cx:Cx)(H:Hints)(r:HintR)(q:RParts)(p:Nat)(Γ:AE)(K:Ex→AE→Rs ρ):Rs ρ:=
 match q.ops.toList with
 | [mv,cl]=>bif c3m cl r q.g&&(a0Z r.s&&mv.guard.isNone)then
   aop cx false mv Γ fun Γ1=>match Γ1.pd with
    |some _=>none
    |none=>(Γ1.set q.g .dead).renAll r.ns fun Γ2=>r.s.dcd Γ2 fun x=>match (r.s.enc x).get r.t with
     |.val t l=>if h:t=.list false r.e then
       (bif lim (a25 (c9j h l))then(a5t (rnd cx H (2*p+1) r.s q.i1 q.i2 q.assign q.body r.e) (c9j h l) (a25 (c9j h l)) x).bind fun y=>match y with
        |.inl x'=>K .normal (r.s.enc x')
        |.inr (.normal,x')=>K .normal (r.s.enc x')
        |.inr (.exit i,x')=>bif i==q.b then K .normal (r.s.enc x')else K (.exit i) (r.s.enc x')
        |.inr (.ret,x')=>K .ret (r.s.enc x')
       else none)
      else none
     |_=>none
  else none
 |_=>none
def a8a:Code→Bool
 |.seq a b=>a8a a || a8a b
 |.cond _ a b=>a8a a || a8a b
 |.block _ c|.loop c=>a8a c
 |.rangeFunc _ _ _ _=>true
 |_=>false
def b6e(cx:Cx)(H:Hints)(r:HintR):Code→Nat→{ρ:Type}→AE→(Ex→AE→Rs ρ)→Rs ρ
 |.seq a b,p,_,Γ,K=>match b6d a b with
  |some q=>c6d cx H r q p Γ K
  |none=>bif a8a a then b6e cx H r a (2*p) Γ fun e Γ'=>match e with
    |.normal=>a1x cx H b (2*p+1) Γ' K
    |e=>K e Γ'
   else a1x cx H a (2*p) Γ fun e Γ'=>match e with
    |.normal=>b6e cx H r b (2*p+1) Γ' K
    |e=>K e Γ'
 |c,p,_,Γ,K=>a1x cx H c p Γ K
def c5o(cx:Cx)(H:Hints)(r:HintR)(fn:Func)(ps:List PA)(rs:List RA)(x:(a1I (ps.map PA.ty)).den):Option (a1I ((RA.all ps rs).map RA.ty)).den:=
 match fn.body with
 |none=>none
 |some body=>b6e cx H r body 1 (ini ps x) fun e Γ=>match e,Γ.pd with
  |.exit _,_=>none
  |_,some _=>none
  |_,none=>(Γ.upto fn.ntmps).outs cx [] fn.ntmps (RA.all ps rs) (fn.results.toList.map .inl++(a0w ps 0).map fun i=>.inr (a9Y ps i)) fun y _=>some y
end Go.Ab
