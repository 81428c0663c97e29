/- Part of the proof: LibQ, LibR, LibS, LibT, LibU, LibV, LibW, LibWA, LibX, LibY, LibZ, LibZA, LibZAA, LibZAB, LibZB, LibZC, LibZD, LibZE, LibZF, LibZG. Conditions: as each statement tells. -/
import Derived.Laws.MakeOwn
import Derived.Great.FillDense
import Derived.Laws.AppendOwn
import Derived.CallsIn
import Derived.Test.YtimgpmdfgkgobaaGreatDoorMA
noncomputable section
set_option linter.unusedSimpArgs false
set_option linter.unusedVariables false
open Array renaming getElem?_toList→a21,length_toList→a36,toList_inj→a43,getElem?_eq_some_iff→a44,getD_eq_getD_getElem?→a57,getElem?_map→a58,range→a60,getElem?_eq_getElem→a61,mapM_eq_mapM_toList→a62,toList_map→a65,getElem_push_lt→a72,toArray_toList→a75,foldl_toList→a79
open Bool renaming not_eq_true'→a49,not_eq_true→a67,or_eq_false_iff→a76,false_eq_true→a81,or_eq_true→a86
open List renaming mem_map_of_mem→a00,getElem?_cons_zero→a01,length_eq_zero_iff→a02,map_cons→a04,mem_map→a05,mem_of_getElem?→a07,mem_cons_of_mem→a08,getElem?_append_right→a09,getElem?_append_left→a16,nodup_cons→a17,length→a18,getElem?_toArray→a19,nodup_append→a20,getElem?_cons_succ→a23,map_nil→a25,mem_append_left→a28,append→a29,pairwise_iff_getElem→a30,length_nil→a31,mem_singleton→a34,mem_append_right→a35,nil_append→a37,size_toArray→a38,getElem?_map→a39,getD→a40,length_take→a42,drop_eq_getElem_cons→a45,take_succ_eq_append_getElem→a52,length_replicate→a53,singleton_append→a54,mem_iff_getElem?→a55,length_map→a56,take→a63,take_length→a66,append_eq_nil_iff→a69,append_nil→a70,length_eq_one_iff→a71,contains_iff_mem→a73,drop_zero→a74,take_set_of_le→a77,set→a78,mem_cons_self→a80,any_eq_false→a82,foldl_cons→a84,length_set→a85,drop→a87
open Nat renaming zero_add→a03,le_refl→a06,lt_of_lt_of_le→a24,add_mul→a26,mul_le_mul_right→a27,add_zero→a32,add_sub_cancel_left→a33,le_trans→a41,mul_one→a46,zero_mul→a47,lt_trichotomy→a50,pos_of_ne_zero→a59,le_of_eq→a68
open Option renaming map_some→a22,bind_eq_some_iff→a48,map_eq_some_iff→a51,isSome_iff_exists→a64,getD_some→a83
namespace Go.Ab
theorem Rel.ov_lt{B Γ N tm w σ}(h:Rel B Γ N tm w σ){b o v}(hov:σ.ov=some (b,o,v)):b<w.heap.size:=by
 have hp:=h.pend;rw[hov]at hp;cases hpd:Γ.pd with
 |none=>rw[hpd]at hp;exact hp.elim
 |some x=>
  obtain⟨n,p,d⟩:=x;rw[hpd]at hp;obtain⟨r,e,hr,hl⟩:=hp;rw[←hov]at hl;exact h.lt ⟨n,h.place hr hl⟩
theorem Rel.memo_new{B Γ N tm w σ}(h:Rel B Γ N tm w σ){w':World}{cs:Array Value}{e fr}(hnew:w'.heap[w.heap.size]?=some (.cells cs e fr))(j:Nat):a0a w' σ.ov w.heap.size j=cs[j]?:=by
 have hc:w'.cell? ⟨w.heap.size,j,none⟩=cs[j]?:=by simp only[World.cell?,hnew];simp
 unfold a0a;split;rename_i b o v hov
 have:=h.ov_lt hov
 rw[if_neg (by omega),hc];exact hc
theorem Rel.memo_old{B Γ N tm w σ}(_:Rel B Γ N tm w σ){w':World}(hext:∀c,c<w.heap.size→w'.heap[c]?=w.heap[c]?){c j:Nat}(hc:c<w.heap.size):a0a w' σ.ov c j=a0a w σ.ov c j:=
 a1c _ (hext c hc) j
theorem Rel.newBox{ρ:Type}{B Γ N tm w σ}{q:Bool}{n:Nat}{t:Ty}{x:t.den}{K:AE→Rs ρ}{z:ρ}(h:Rel B Γ N tm w σ)(hz:Γ.fresh q n ⟨true,t,x⟩ K=some z){w':World}
  (hext:∀c,c<w.heap.size→w'.heap[c]?=w.heap[c]?)(hsz:w.heap.size≤w'.heap.size){cs:Array Value}{e:TypeId}(hnew:w'.heap[w.heap.size]?=some (.cells cs e (0,0)))(hcs:cs.size=t.cells){R}
  (hx:dec (a0a w σ.ov) t (fun j=>cs[j]?)=some (x,[],R))(hR:∀c∈R,Shr B w σ c)(hio:a1H w'=a1H w:=by first|rfl|assumption):
  ∃Γ' σ',K Γ'=some z∧Rel B Γ' N tm w' σ'∧a0i (a0a w' σ'.ov) σ'.g Γ'.rt (Shr B w' σ') (.ptr n []) (.pointer (some ⟨w.heap.size,0,none⟩)):=by
 have hd:dec (a0a w' σ.ov) t ((Src.at w.heap.size 0).rd (a0a w' σ.ov))=some (x,[],R):=a0p t hx (fun j _=>by simp only[Src.rd,a03];exact h.memo_new hnew j)
  (fun b j hb=>by
   rcases hb with hb|hb;simp at hb;exact h.memo_old hext (hR b hb).1)
 obtain⟨Γ',σ',g1,g2,g3,g4,g5,g6⟩:=h.fresh hz hext hsz (s:=.at w.heap.size 0) (O:=[(w.heap.size,t.cells)]) (by simp) (by simp)
  (by simp only[a34,forall_eq];exact⟨cs,e,0,0,hnew,by omega,.inl rfl⟩) ⟨[],R,hd,hR,.inl ⟨rfl,_,rfl,rfl⟩⟩
 exact⟨Γ',σ',g1,g2,_,t,w.heap.size,0,g3,by rw[g4];rfl,rfl⟩
theorem Rel.newSlice{ρ:Type}{B Γ N tm w σ}{q:Bool}{n:Nat}{e:Ty}{l:List e.den}{K:AE→Rs ρ}{z:ρ}(h:Rel B Γ N tm w σ)(hz:Γ.fresh q n ⟨false,.list true e,l⟩ K=some z){w':World}
  (hext:∀c,c<w.heap.size→w'.heap[c]?=w.heap[c]?)(hsz:w.heap.size≤w'.heap.size){cs:Array Value}{t:TypeId}{fr}(hnew:w'.heap[w.heap.size]?=some (.cells cs t fr)){c:Nat}(hfr:fr.2=fr.1∨c*e.cells≤fr.1)(hcs:c*e.cells≤cs.size)(hlc:l.length≤c){R}
  (hx:a0d (fun i=>dec (a0a w σ.ov) e fun j=>cs[i*e.cells+j]?) l.length 0=some (l,[],R))(hR:∀c∈R,Shr B w σ c)(hio:a1H w'=a1H w:=by first|rfl|assumption):
  ∃Γ' σ',K Γ'=some z∧Rel B Γ' N tm w' σ'∧a0i (a0a w' σ'.ov) σ'.g Γ'.rt (Shr B w' σ') (.sref n []) (.slice (some ⟨w.heap.size,0,none⟩) l.length c)∧σ'.ov=σ.ov∧Γ'=Γ.newRt n ⟨false,.list true e,l⟩:=by
 have hx':a0d (fun i=>dec (a0a w' σ.ov) e fun j=>a0a w' σ.ov w.heap.size (0+(i*e.cells+j))) l.length 0=some (l,[],R):=by
  have h1:dec (a0a w σ.ov) (.arr l.length e) (fun j=>cs[j]?)=some (l,[],R):=hx;refine a0p (.arr l.length e) h1 (rd':=fun j=>a0a w' σ.ov w.heap.size (0+j)) (fun j _=>?_) (fun b j hb=>?_);show a0a w' σ.ov w.heap.size (0+j)=_;rw[a03];exact h.memo_new hnew j;rcases hb with hb|hb;simp at hb;exact h.memo_old hext (hR b hb).1
 have hfree:a0J w' w.heap.size (c*e.cells):=⟨cs,t,fr.1,fr.2,hnew,hcs,hfr⟩
 let O:a0U:=if c=0 then[]else[(w.heap.size,0+c*e.cells)]
 have hO:∀p∈O,p=(w.heap.size,0+c*e.cells):=by
  intro p hp;simp only[O]at hp
  split at hp
  cases hp;simpa using hp
 have hd:dec (a0a w' σ.ov) (.list true e) ((Src.one (.slice (some ⟨w.heap.size,0,none⟩) l.length c)).rd (a0a w' σ.ov))=some (l,O,R):=by
  show a0K (a0a w' σ.ov) true e.cells (dec (a0a w' σ.ov) e) (some (.slice (some ⟨w.heap.size,0,none⟩) l.length c))=_;simp only[a0K];rw[if_pos ⟨.inr trivial,hlc⟩,hx'];simp only[if_true,O]
  split<;>rfl
 obtain⟨Γ',σ',g1,g2,g3,g4,g5,g6⟩:=h.fresh hz hext hsz (s:=.one (.slice (some ⟨w.heap.size,0,none⟩) l.length c)) (O:=O) (by
   intro b hb;obtain⟨p,hp,rfl⟩:=a05.1 hb;rw[hO p hp];exact a06 _) (by simp only[O];split<;>simp)
  (fun p hp=>by rw[hO p hp];simpa using hfree) ⟨O,R,hd,hR,.inr ⟨rfl,⟨_,rfl⟩,⟨e,rfl⟩,rfl⟩⟩
 exact⟨Γ',σ',g1,g2,⟨_,e,_,g3,by rw[g4];rfl,rfl⟩,g5,g6⟩
theorem c5E{P:Program}{cx:Cx}{d t:Nat}{τ:Ty}(hcx:CxTy P cx)(h:cx.own d t=some τ):a0l P τ (.inl t)=true:=by
 unfold Cx.own at h
 split at h
 split at h
 rename_i hT;simp only[sj]at h;subst h;rw[←a2R];exact(hcx.T t _ hT).2;cases h;exact(hcx.T t _ h).2
theorem c5F{m:Mem}{e:Ty}{z:Array Value}(hz:a1R e (fun j=>z[j]?)=true)(hs:z.size=e.cells)(n:Nat):a0d (fun i=>dec m e fun j=>(madeCells z (n*e.cells))[i*e.cells+j]?) n 0=some (List.replicate n e.dflt,[],[]):=by
 refine b1B n 0 fun i _ hi=>a0p e (a5o (m:=m) e hz) (fun j hj=>?_) (fun _ _ _=>rfl);have hlt:i*e.cells+j<n*e.cells:=by
  have:(i+1)*e.cells≤n*e.cells:=a27 _ (by omega)
  rw[Nat.succ_mul]at this;omega
 have hm:(i*e.cells+j)%e.cells=j:=by rw[Nat.mul_comm,Nat.mul_add_mod,Nat.mod_eq_of_lt hj]
 have hj':j<z.size:=by omega
 simp only[madeCells,a58,Array.getElem?_range,if_pos hlt,a22,hs,hm];rw[getElem!_pos z j hj',a61 hj']
section
variable {P:Program} {B:Base} {N:Nat} {ρ:Type} {Γ:AE} {a:Act} {w:World} {σ:Gh}
theorem a1J(o:Obj)(c:Nat)(h:c<w.heap.size):(w.alloc o).heap[c]?=w.heap[c]?:=d0E w o c h
theorem a1K(o:Obj):(w.alloc o).heap[w.heap.size]?=some o:=by
 show(w.heap.push o)[w.heap.size]?=_
 simp
theorem a1V(o:Obj):w.heap.size≤(w.alloc o).heap.size:=by
 show w.heap.size≤(w.heap.push o).size
 simp
theorem a0o.sets{o:Oper}{K:AE→Rs ρ}{z:ρ}{d:Nat}{v:Value}{w':World}{av:AV}(hd:o.dst=some d)(hN:a.tmps.size=N)(hrun:(execOp a.eval o).run P w=.ok (.value v) w')
  (h:∃Γ' σ',K (Γ'.set d av)=some z∧Rel B Γ' N (a0k a) w' σ'∧a0i (a0a w' σ'.ov) σ'.g Γ'.rt (Shr B w' σ') av v):a0o P B N o a w K z:=by
 obtain⟨Γ',σ',h1,h2,h3⟩:=h;exact a0o.set hd hN hrun h2 h3 h1
theorem c8M{o:Oper}{t:TypeId}{d:Nat}{cx:Cx}{q:Bool}{K:AE→Rs ρ}{z:ρ}(hcx:CxTy P cx)(ho:o.op=.alloc t)(hd:o.dst=some d)
  (h:Rel B Γ N (a0k a) w σ)(hN:a.tmps.size=N)(hz:aop cx q o Γ K=some z):a0o P B N o a w K z:=by
 simp only[aop,ho,hd]at hz
 split at hz
 rename_i τ hT;have hty:=c5E hcx hT;obtain⟨I⟩:=a0v (a0G hty);have hrun:(execOp a.eval o).run P w=.ok (.value (.pointer (some ⟨w.heap.size,0,none⟩))) (w.alloc (.cells I.z.cells t)):=by
  simp[execOp,ho,Instr.alloc,I.zeroValue,newVar,newRow]
 exact a0o.sets hd hN hrun (h.newBox hz (fun c hc=>a1J _ c hc) (a1V _) (a1K _) I.zsize (a5o _ I.zok) (by simp));cases hz
theorem d1K{o:Oper}{t:TypeId}{x:Operand}{d:Nat}{cx:Cx}{q:Bool}{K:AE→Rs ρ}{z:ρ}(ho:o.op=.box t x)(hd:o.dst=some d)(hag:(bif q then none else Γ.aggOf x)=none)
  (h:Rel B Γ N (a0k a) w σ)(hN:a.tmps.size=N)(hf:fits N o=true)(hz:aop cx q o Γ K=some z):a0o P B N o a w K z:=by
 have hx:=h.opd (a0S hf x (by simp[ho,Op.operands]));simp only[aop,ho,hd,hag]at hz
 split at hz
 rename_i τ hT;obtain⟨y,Γ1,σ1,hz,h1,hv,-,-⟩:=h.asV (.inl hx) hz;have hrun:(execOp a.eval o).run P w=.ok (.value (.pointer (some ⟨w.heap.size,0,none⟩))) (w.alloc (.cells (a.eval x).cells t)):=by
  simp[execOp,ho,Instr.box,newVar,newRow]
 obtain⟨-,-,R,h3,h4⟩:=id hv
 split at hz
 
 have hnew:=a1K (w:=w) (.cells (a.eval x).cells t);have hext:∀c,c<w.heap.size→(w.alloc (.cells (a.eval x).cells t)).heap[c]?=w.heap[c]?:=fun c hc=>a1J _ c hc;have hsz:=a1V (w:=w) (.cells (a.eval x).cells t);have hlt:w.heap.size<(w.alloc (.cells (a.eval x).cells t)).heap.size:=by show w.heap.size<(w.heap.push _).size;rw[Array.size_push];omega
 have h2:=h1.ext hext hsz;have hdec:dec (a0a (w.alloc (.cells (a.eval x).cells t)) σ1.ov) τ ((Src.at w.heap.size 0).rd (a0a (w.alloc (.cells (a.eval x).cells t)) σ1.ov))=some (y,[],R):=
  a0p τ h3 (fun j _=>by simp only[Src.rd,a03];exact h1.memo_new hnew j) (fun b j hb=>by
   rcases hb with hb|hb;simp at hb;exact h1.memo_old hext (h4 b hb).1)
 have hSh:∀c,Shr B w σ1 c→Shr B (w.alloc (.cells (a.eval x).cells t)) σ1 c:=fun c hc=>⟨a24 hc.1 hsz,hc.2⟩;exact a0o.set hd hN hrun h2 (av:=.vptr τ y) ⟨w.heap.size,0,R,rfl,hdec,⟨hlt,.inr (.inr h1.size),fun g=>by have:=h1.lt g;omega⟩,fun c hc=>hSh c (h4 c hc)⟩ hz;exact a0o.sets hd hN hrun (h1.newBox hz (fun c hc=>a1J _ c hc) (a1V _) (a1K _) hv.cells.1 h3 h4);cases hz
theorem c8N{av:AV}{t:Ty}{K:t.den→Rs ρ}{z:ρ}(h:av.isVal t K=some z):∃x,av=.val t x∧K x=some z:=by
 cases av with
 |val t' x=>
  simp only[AV.isVal]at h
  split at h
  rename_i e;subst e;exact⟨x,rfl,h⟩;cases h
 |_=>cases h
theorem c1A{av:AV}{k:IntKind}{K:Int→Rs ρ}{z:ρ}(h:av.isVal (.int k) K=some z):∃x:Int,av=.val (.int k) x∧K x=some z:=c8N h
theorem c3c{o:Oper}{t:TypeId}{x y:Operand}{d:Nat}{cx:Cx}{q:Bool}{K:AE→Rs ρ}{z:ρ}(hcx:CxTy P cx)(ho:o.op=.makeSlice t x y)(hd:o.dst=some d)
  (h:Rel B Γ N (a0k a) w σ)(hN:a.tmps.size=N)(hf:fits N o=true)(hz:aop cx q o Γ K=some z):a0o P B N o a w K z:=by
 have hx:=h.opd (a0S hf x (by simp[ho,Op.operands]));have hy:=h.opd (a0S hf y (by simp[ho,Op.operands]));simp only[aop,ho,hd]at hz
 split at hz
 rename_i o' e hT;obtain⟨l,hxv,hz⟩:=c1A hz;obtain⟨c,hyv,hz⟩:=c1A hz;rw[hxv]at hx;rw[hyv]at hy;rcases a0g hz with⟨hc,hz⟩|⟨-,hz⟩;simp only[bA,dT,lim]at hc;obtain⟨c1,c2,c3⟩:=hc;have hty:=c5E hcx hT;obtain⟨t',hu,hte,hpos⟩:=a1B hty;obtain⟨I⟩:=a0v (a0G hte);have hrun:=run_make (P:=P) w t t' I.i I.z hu I.info I.zero .i64 .i64 l c c1 c2 (by
  have:=I.bytes
  have h1:((I.i.bytes*c.toNat:Nat):Int)≤((32768*2147483648:Nat):Int):=Int.ofNat_le.2 (Nat.mul_le_mul this (by omega));have h2:((c.toNat:Nat):Int)=c:=Int.toNat_of_nonneg (by omega);rw[Int.natCast_mul,h2]at h1;have h3:((32768*2147483648:Nat):Int)=70368744177664:=by decide
  rw[h3]at h1;exact Int.le_trans h1 (by decide)) (by omega)
 rw[I.size]at hrun;have hrun':(execOp a.eval o).run P w=.ok (.value (.slice (some ⟨w.heap.size,0,none⟩) l.toNat c.toNat)) (w.alloc (.cells (madeCells I.z.cells (c.toNat*e.cells)) t')):=by
  simp only[execOp,ho,a0i.int hx,a0i.int hy,Sem.run_bind]
  erw[hrun];rfl
 have hmd:=c5F (m:=a0a w σ.ov) I.zok I.zsize c.toNat
 obtain⟨Γ',σ',g1,g2,g3,-,-⟩:=h.newSlice (c:=c.toNat) hz (fun c hc=>a1J _ c hc) (a1V _) (a1K (Obj.cells (madeCells I.z.cells (c.toNat*e.cells)) t')) (.inl rfl) (by rw[size_madeCells];exact a06 _)
  (by rw[a53];omega) (R:=[]) (by
   rw[a53];refine b1B _ 0 fun i _ hi=>?_
   obtain⟨x',o',r',A,B',A',B'',k1,k2,k3,k4⟩:=a0P _ 0 i hmd (by omega);rw[a03]at k1;rw[k1];rw[List.getElem?_replicate,if_pos (by omega)]at k2;simp only[sj]at k2;subst k2;have e1:o'=[]:=by
    have:=congrArg a18 k3
    simp at this;exact a02.1 (by omega)
   have e2:r'=[]:=by
    have:=congrArg a18 k4
    simp at this;exact a02.1 (by omega)
   rw[e1,e2]) (by simp)
 rw[a53]at g3;exact a0o.set hd hN hrun' g2 g3 g1;cases hz;cases hz
theorem c1B(off:Nat)(l:List Value)(i:Nat)(cs:Array Value):((l.zipIdx i).foldl (fun cs (c:Value×Nat)=>cs.setIfInBounds (off+c.2) c.1) cs).size=cs.size∧
  ∀k,((l.zipIdx i).foldl (fun cs (c:Value×Nat)=>cs.setIfInBounds (off+c.2) c.1) cs)[k]?=if off+i≤k∧k<off+i+l.length∧k<cs.size then l[k-(off+i)]? else cs[k]?:=by
 induction l generalizing i cs with
 |nil=>exact⟨rfl,fun k=>by rw[if_neg (by simp only[a31];omega)];rfl⟩
 |cons v l ih=>
  obtain⟨h1,h2⟩:=ih (i+1) (cs.setIfInBounds (off+i) v);refine⟨by simpa using h1,fun k=>?_⟩;simp only[List.zipIdx_cons,a84];rw[h2];simp only[Array.size_setIfInBounds,lC,Array.getElem?_setIfInBounds]
  by_cases hk:off+i=k
  subst hk;rw[if_neg (by omega),if_pos rfl]
  by_cases hs:off+i<cs.size
  rw[if_pos hs,if_pos ⟨a06 _,by omega,hs⟩];simp;rw[if_neg hs,if_neg (by omega)]
  simp;omega
  rw[if_neg hk]
  by_cases hs:off+(i+1)≤k∧k<off+(i+1)+l.length∧k<cs.size
  rw[if_pos hs,if_pos (by omega),show k-(off+i)=(k-(off+(i+1)))+1 from by omega,a23];rw[if_neg hs,if_neg (by omega)]
end
end Go.Ab
namespace Go.Ab
def c1C(t:Ty)(place:Nat→Option (Nat×Nat)):Prop:=∀i,AE.pathOk t i=true→∃τ' k,place i=some (k,τ'.cells)∧k+τ'.cells≤t.cells∧∀(m:Mem) b o,loc m t (.at b o) (AE.pathOf t i)=some (τ',.at b (o+k))
theorem c1D(n:Nat)(e:Ty):c1C (.arr n e) fun i=>some (i*e.cells,e.cells):=by
 intro i hi;simp only[AE.pathOk,dT]at hi;refine⟨e,i*e.cells,rfl,?_,fun m b o=>?_⟩
 have:(i+1)*e.cells≤n*e.cells:=a27 _ (by omega)
 rw[Nat.succ_mul]at this;exact this;show(if i<n then a0Q m [] e (.at b (o+i*e.cells))else none)=_
 rw[if_pos hi];rfl
theorem d0G{m:Mem}{Sh:Nat→Prop}{sz:Nat}(hSh:∀c,Sh c→c<sz){t τ':Ty}{cs:Array Value}{x:t.den}{R i k}(hd:dec m t (fun j=>cs[j]?)=some (x,[],R))(hR:∀c∈R,Sh c)
  (hl:∀(m:Mem) b o,loc m t (.at b o) (AE.pathOf t i)=some (τ',.at b (o+k)))(hk:k+τ'.cells≤cs.size){y:τ'.den}{v:Value}(hv:VOk m Sh τ' y v):
  ∃R',dec m t (fun j=>(v.cells.zipIdx.foldl (fun cs (c,j)=>cs.setIfInBounds (k+j) c) cs)[j]?)=some (a1y t x (AE.pathOf t i) τ' y,[],R')∧∀c∈R',Sh c:=by
 obtain⟨hvs,-⟩:=hv.cells;obtain⟨-,-,R2,hv3,hv4⟩:=hv;have hfold:v.cells.zipIdx.foldl (fun cs (c,j)=>cs.setIfInBounds (k+j) c) cs=(v.cells.toList.zipIdx 0).foldl (fun cs (c:Value×Nat)=>cs.setIfInBounds (k+c.2) c.1) cs:=by
  rw[←a79];simp
 obtain⟨-,hcell⟩:=c1B k v.cells.toList 0 cs;rw[hfold];generalize (v.cells.toList.zipIdx 0).foldl (fun cs (c:Value×Nat)=>cs.setIfInBounds (k+c.2) c.1) cs=cs' at hcell
 let m0:Mem:=fun c j=>if c=sz then cs[j]? else m c j
 let m1:Mem:=fun c j=>if c=sz then cs'[j]? else m c j
 have hne:∀c,Sh c→c≠sz:=fun c hc e=>by have:=hSh c hc;omega
 have hm0:∀c j,Sh c→m0 c j=m c j:=fun c j hc=>by simp only[m0];rw[if_neg (hne c hc)]
 have hm1:∀c j,Sh c→m1 c j=m c j:=fun c j hc=>by simp only[m1];rw[if_neg (hne c hc)]
 have h0:dec m0 t ((Src.at sz 0).rd m0)=some (x,[],R):=a0p t hd (fun j _=>by simp[Src.rd,m0]) (fun b j hb=>by
  rcases hb with hb|hb;simp at hb;exact hm0 b j (hR b hb))
 have hl0:=hl m0 sz 0;obtain⟨y0,O1,R1,A1,B1,A1',B1',hd1,-,e1,-⟩:=a1m _ t _ h0 hl0;have hO1:O1=[]:=by
  have:=congrArg a18 e1
  simp at this;exact a02.1 (by omega)
 subst hO1;have h1:dec m1 τ' ((Src.at sz (0+k)).rd m1)=some (y,[],R2):=a0p τ' hv3 (fun j hj=>by
   simp only[Src.rd,m1,if_true,a03,hcell,a32];rw[if_pos ⟨by omega,by simp;omega,by omega⟩,a33];simp) (fun b j hb=>by
  rcases hb with hb|hb;simp at hb;exact hm1 b j (hv4 b hb))
 have hsep:Sep (Src.at sz 0) [] R:=⟨by simp,by simp,fun c hc=>⟨by simp,fun e=>hne c (hR c hc) e⟩⟩;have hchg:Chg m0 m1 (Src.at sz 0) [] R sz (0+k) τ'.cells []:=fun c j=>by
  by_cases hc:c=sz
  by_cases hj:k≤j∧j<k+τ'.cells
  exact .inr (.inl ⟨hc,by omega,by omega⟩);refine .inl ?_
  simp only[m0,m1,if_pos hc,hcell];rw[if_neg (by simp only[a36];omega)];exact .inl (by simp only[m0,m1,if_neg hc])
 obtain⟨A,B',R3,e3,h7,h8⟩:=c0P _ t _ h0 hl0 hd1 h1 hsep hchg;have hAB:A=[]∧B'=[]:=by
  have:=congrArg a18 e3
  simp at this;exact⟨a02.1 (by omega),a02.1 (by omega)⟩
 rw[hAB.1,hAB.2]at h7;have hR3:∀c∈R3,Sh c:=fun c hc=>(h8 c hc).elim (hR c) (hv4 c);exact⟨R3,a0p t h7 (fun j _=>by simp[Src.rd,m1]) (fun b j hb=>by
  rcases hb with hb|hb;simp at hb;exact(hm1 b j (hR3 b hb)).symm),hR3⟩
section
variable {P:Program} {B:Base} {N:Nat} {ρ:Type} {Γ:AE} {a:Act} {w:World} {σ:Gh}
theorem b6Q{q:Bool}{t:Ty}{place:Nat→Option (Nat×Nat)}(hp:c1C t place):∀(l:List (Nat×Operand)) {Γ:AE} {σ:Gh} {x:t.den} {cs:Array Value} {R} {K:t.den→AE→Rs ρ} {z:ρ},Rel B Γ N (a0k a) w σ→
  (∀y∈l,a1i N y.2=true)→cs.size=t.cells→dec (a0a w σ.ov) t (fun j=>cs[j]?)=some (x,[],R)→(∀c∈R,Shr B w σ c)→Γ.fills q t l x K=some z→
  ∃y cs' Γ' σ' R',K y Γ'=some z∧Rel B Γ' N (a0k a) w σ'∧Instr.fill place cs (l.map fun(i,x)=>(i,a.eval x))=some cs'∧cs'.size=t.cells∧dec (a0a w σ'.ov) t (fun j=>cs'[j]?)=some (y,[],R')∧(∀c∈R',Shr B w σ' c)
 | [],Γ,σ,x,cs,R,K,z,h,_,hs,hd,hR,hz=>⟨x,cs,Γ,σ,R,hz,h,rfl,hs,hd,hR⟩
 |(i,o)::l,Γ,σ,x,cs,R,K,z,h,hl,hs,hd,hR,hz=>by
  unfold AE.fills at hz;rcases a0g hz with⟨hi,hz⟩|⟨-,hz⟩;obtain⟨τ',k,h1,h2,h3⟩:=hp i hi;have hg:(a0W t x (AE.pathOf t i)).1=τ':=by
   have h0:dec (fun c j=>if c=w.heap.size then cs[j]? else a0a w σ.ov c j) t ((Src.at w.heap.size 0).rd fun c j=>if c=w.heap.size then cs[j]? else a0a w σ.ov c j)=some (x,[],R):=
    a0p t hd (fun j _=>by simp[Src.rd]) (fun b j hb=>by
     rcases hb with hb|hb;simp at hb
     have:=(hR b hb).1
     exact if_neg (by omega))
   obtain⟨y0,O1,R1,A1,B1,A1',B1',hd1,hg,-⟩:=a1m _ t _ h0 (h3 _ _ _);rw[hg]
  generalize hgg:a0W t x (AE.pathOf t i)=gg at hz hg;obtain⟨t2,y2⟩:=gg;simp only at hg;subst hg;simp only at hz;obtain⟨y,Γ1,σ1,hz,h4,hv,hev,-⟩:=h.asV (.inl (h.opd (hl _ (a80 ..)))) hz;have hd':dec (a0a w σ1.ov) t (fun j=>cs[j]?)=some (x,[],R):=by rw[hev.ov];exact hd
  obtain⟨R',h5,h6⟩:=d0G (sz:=w.heap.size) (fun c hc=>hc.1) hd' (fun c hc=>hev.shr c (hR c hc)) h3 (by omega) hv;obtain⟨y',cs',Γ',σ',R'',g1,g2,g3,g4,g5,g6⟩:=b6Q hp l h4 (fun u hu=>hl u (a08 _ hu)) (cs:=(a.eval o).cells.zipIdx.foldl (fun cs (c,j)=>cs.setIfInBounds (k+j) c) cs) (by
   have hfold:(a.eval o).cells.zipIdx.foldl (fun cs (c,j)=>cs.setIfInBounds (k+j) c) cs=((a.eval o).cells.toList.zipIdx 0).foldl (fun cs (c:Value×Nat)=>cs.setIfInBounds (k+c.2) c.1) cs:=by
    rw[←a79];simp
   rw[hfold,(c1B k _ 0 cs).1];exact hs) h5 h6 hz
  refine⟨y',cs',Γ',σ',R'',g1,g2,?_,g4,g5,g6⟩;have hvc:=hv.cells.1;simp only[a04,Instr.fill,h1];have hvc:(a.eval o).cells.size=t2.cells:=hvc;rw[if_neg (by simp;omega)];exact g3;cases hz
theorem c3T{q:Bool}{e:Ty}{n:Nat}:∀(l:List (Nat×Operand)) (Γ:AE) (x:List e.den) (K:List e.den→AE→Rs ρ),Γ.lit q e n l x K=Γ.fills q (.arr n e) l x K
 | [],_,_,_=>rfl
 |(i,o)::l,Γ,x,K=>by
  show(bif decide (i<n)then Γ.asV q e (Γ.opd o) (fun y Γ'=>Γ'.lit q e n l (x.set i y) K)else none) =
   (bif decide (i<n)then Γ.asV q e (Γ.opd o) (fun y Γ'=>Γ'.fills q (.arr n e) l (a1y (.arr n e) x [.idx i] e y) K)else none)
  congr 2;funext y Γ';rw[c3T l];congr 1;show x.set i y=a78 x i (if h:e=e then h▸y else _)
  rw[dif_pos rfl]
theorem c1E{o:Oper}{t:TypeId}{n:Nat}{ps:Array (Nat×Operand)}{d:Nat}{cx:Cx}{q:Bool}{K:AE→Rs ρ}{z:ρ}(hcx:CxTy P cx)(ho:o.op=.buildSlice t n ps)(hd:o.dst=some d)
  (hO:∀o' e,cx.T t=some (.list o' e)→(bif q || !e.isList then none else cx.O d)=none)
  (h:Rel B Γ N (a0k a) w σ)(hN:a.tmps.size=N)(hf:fits N o=true)(hz:aop cx q o Γ K=some z):a0o P B N o a w K z:=by
 have hops:∀y∈(o.op.operands.toList),a1i N y=true:=a0S hf;rw[ho]at hops;simp only[aop,ho,hd]at hz
 split at hz
 rename_i o' e hT;rw[hO o' e hT]at hz;rcases a0g hz with⟨hc,hz⟩|⟨-,hz⟩;simp only[bA,dT,lim]at hc;rw[c3T]at hz;obtain⟨hsh,hty⟩:=hcx.T t _ hT;obtain⟨t',hu,hte,hpos⟩:=a1B hty;obtain⟨I⟩:=a0v (a0G hte);obtain⟨y,cs',Γ',σ',R',g1,g2,g3,g4,g5,g6⟩:=b6Q (c1D n e) ps.toList h (fun y hy=>hops y.2 (by
   simp only[Op.operands];exact a05.2 ⟨y,hy,rfl⟩)) (cs:=madeCells I.z.cells (n*e.cells)) (size_madeCells _ _) (c5F (m:=a0a w σ.ov) I.zok I.zsize n) (by simp) hz
 have g5:a0d (fun i=>dec (a0a w σ'.ov) e fun j=>cs'[i*e.cells+j]?) n 0=some (y,[],R'):=g5;have hlen:=a0R n 0 g5;have hn2:n*e.cells=0→n=0:=fun e0=>by
  rcases Nat.mul_eq_zero.1 e0 with e1|e1;exact e1;omega
 have hrun:(execOp a.eval o).run P w=.ok (.value (.slice (some ⟨w.heap.size,0,none⟩) n n)) (w.alloc (.cells cs' t')):=by
  have hle:¬ (n*e.cells > 2^24):=by omega
  have hpm:(ps.map fun(i,x)=>(i,a.eval x)).toList=ps.toList.map fun(i,x)=>(i,a.eval x):=by simp
  by_cases h0:n*e.cells=0
  have:(a60 (n*e.cells)).map (fun i=>(#[]:Array Value)[i%(#[]:Array Value).size]!)=madeCells I.z.cells (n*e.cells):=by
   rw[h0];simp[madeCells]
  have g3':=g3;rw[←this]at g3';simp only[execOp,ho,Instr.buildSlice,Sem.run_bind,run_underlying hu,Result.andThen_ok,I.sizeOf,if_neg hle,if_pos h0,Sem.run_pure,hpm,g3',newRow]
  simp
  have g3':Instr.fill (fun i=>some (i*e.cells,e.cells)) ((a60 (n*e.cells)).map (I.z.cells[·%I.z.cells.size]!)) (ps.toList.map fun(i,x)=>(i,a.eval x))=some cs':=g3;simp only[execOp,ho,Instr.buildSlice,Sem.run_bind,run_underlying hu,Result.andThen_ok,I.sizeOf,if_neg hle,if_neg h0,Sem.run_pure,I.zeroValue,hpm,g3',newRow]
  simp
 have hyl:a18 (show List e.den from y)=n:=hlen;obtain⟨Γ2,σ2,k1,k2,k3,-,-⟩:=g2.newSlice (c:=n) g1 (fun c hc=>a1J _ c hc) (a1V _) (a1K (Obj.cells cs' t')) (.inl rfl) (a68 g4.symm) (a68 hyl) (by rw[hyl];exact g5) g6;rw[hyl]at k3;exact a0o.set hd hN hrun k2 k3 k1;cases hz;cases hz
theorem b5o{P:Program}{w:World}:∀(fs:List Field),(∀f∈fs,∃i,P.info? f.type=some i)→
  ∃l:List (Nat×Nat),(fs.mapM fun f=>do pure (f.offset,←sizeOf f.type):Sem (List (Nat×Nat))).run P w=.ok l w∧l.length=fs.length∧∀(k:Nat) f,fs[k]?=some f→∃i,P.info? f.type=some i∧l[k]?=some (f.offset,i.size)
 | [],_=>⟨[],rfl,rfl,by simp⟩
 |f::fs,h=>by
  obtain⟨i,hi⟩:=h f (by simp);obtain⟨l,h1,h2,h3⟩:=b5o (w:=w) fs (fun g hg=>h g (by simp[hg]));refine⟨(f.offset,i.size)::l,?_,by simp[h2],fun k g hg=>?_⟩;have e:(do pure (f.offset,←sizeOf f.type):Sem (Nat×Nat)).run P w=.ok (f.offset,i.size) w:=by simp[sizeOf,typeInfo,hi]
  rw[List.mapM_cons,Sem.run_bind,e];simp only[Result.andThen_ok,Sem.run_bind,h1];rfl
  ·cases k with
   |zero=>simp only[a01,sj]at hg;subst hg;exact⟨i,hi,rfl⟩
   |succ k=>simp only[a23]at hg⊢;exact h3 k g hg
theorem a9D{P:Program}:∀(τ:Ty)(fs:List Field)(off:Nat),a0l P τ (.inr (fs,off))=true→∀f∈fs,∃i,P.info? f.type=some i
 |.pair a b,f::r,off,h=>by
  simp only[a0l,bA]at h;obtain⟨I⟩:=a0v (a0G h.1.1.2);intro g hg;rcases mC.1 hg with rfl|hg;exact⟨_,I.info⟩;exact a9D b r _ h.2 g hg
 |.unit,[],_,_=>by simp
 |.unit,_::_,_,h=>by simp[a0l]at h
 |.pair _ _,[],_,h=>by simp[a0l]at h
 |.int _,_,_,h=>by simp[a0l]at h
 |.bool,_,_,h=>by simp[a0l]at h
 |.str,_,_,h=>by simp[a0l]at h
 |.list _ _,_,_,h=>by simp[a0l]at h
 |.arr _ _,_,_,h=>by simp[a0l]at h
theorem c3U{o:Oper}{t:TypeId}{τ:Ty}{ps:Array (Nat×Operand)}{d:Nat}{q:Bool}{K:AE→Rs ρ}{z:ρ}(hty:a0l P τ (.inl t)=true)(ho:o.op=.build t ps)(hd:o.dst=some d)
  (h:Rel B Γ N (a0k a) w σ)(hN:a.tmps.size=N)(hf:fits N o=true)(hz:(bif τ.isAgg then Γ.fills q τ ps.toList τ.dflt fun y Γ=>K (Γ.set d (.val τ y))else none)=some z):a0o P B N o a w K z:=by
 have hops:∀y∈(o.op.operands.toList),a1i N y=true:=a0S hf;rw[ho]at hops
 ·obtain⟨I⟩:=a0v (a0G hty);obtain⟨hagg,hz⟩:τ.isAgg=true∧_:=(a0g hz).elim id fun h=>by cases h.2
  have hops':∀y∈ps.toList,a1i N y.2=true:=fun y hy=>hops y.2 (by
     simp only[Op.operands];exact a05.2 ⟨y,hy,rfl⟩)
  have hpm:(ps.map fun(i,x)=>(i,a.eval x)).toList=ps.toList.map fun(i,x)=>(i,a.eval x):=by simp
  have fin:∀place,c1C τ place→(∀cs',Instr.fill place I.z.cells (ps.toList.map fun(i,x)=>(i,a.eval x))=some cs'→(execOp a.eval o).run P w=.ok (.value (.agg cs')) w)→τ.isAgg=true→a0o P B N o a w K z:=by
   intro place hp hrun hagg;obtain⟨y,cs',Γ',σ',R',g1,g2,g3,g4,g5,g6⟩:=b6Q hp ps.toList h hops' I.zsize (a5o τ I.zok) (by simp) hz;exact a0o.set hd hN (hrun cs' g3) g2 (av:=.val τ y) ⟨fun _=>⟨cs',rfl,g4⟩,fun e=>(by rw[hagg]at e;cases e),R',g5,g6⟩ g1
  have str:∀fs:Array Field,P.underlying t=some (.struct fs)→a0l P τ (.inr (fs.toList,0))=true→(∀i,AE.pathOk τ i=a2e τ i∧AE.pathOf τ i=a1l i)→τ.isAgg=true→a0o P B N o a w K z:=by
   intro fs hu hs hpath hagg;obtain⟨l,h1,h2,h3⟩:=b5o (P:=P) (w:=w) fs.toList (a9D τ _ _ hs);refine fin (fun i=>l.toArray[i]?) (fun i hi=>?_) (fun cs' hc=>?_) hagg;rw[(hpath i).1]at hi;rw[(hpath i).2];obtain⟨fl,τ',k,k1,k2,k3,k4,k5⟩:=b3b i τ _ 0 hs hi;obtain⟨fl2,τ2,k',j1,j2,j3,j4,-⟩:=b5n i τ _ 0 hs hi;rw[k1]at j1;simp only[sj]at j1;subst j1;obtain⟨i',hi',hl⟩:=h3 i fl k1;obtain⟨I1⟩:=a0v (a0G k3);obtain⟨I2⟩:=a0v (a0G j3);have e1:i'=I1.i:=by have:=hi'.symm.trans I1.info;simpa using this
   have e2:I1.i=I2.i:=by have:=I1.info.symm.trans I2.info;simpa using this
   refine⟨τ',k,?_,?_,k5⟩;have hk:fl.offset=k:=by omega
   simp only[a19];rw[hl,e1,I1.size,hk];have s1:=I1.size;have s2:=I2.size;rw[←e2]at s2;omega;have hm:(fs.mapM fun f=>do pure (f.offset,←sizeOf f.type):Sem (Array (Nat×Nat))).run P w=.ok l.toArray w:=by
    rw[a62];show((fs.toList.mapM fun f=>do pure (f.offset,←sizeOf f.type)) >>= fun l=>pure l.toArray:Sem (Array (Nat×Nat))).run P w=_;rw[Sem.run_bind,h1];rfl
   simp only[execOp,ho,Instr.build,Sem.run_bind,I.zeroValue,Result.andThen_ok,run_underlying hu,hm,hpm,hc]
   simp
  have arr:∀n t' e,P.underlying t=some (.array n t')→a0l P e (.inl t')=true→c1C τ (fun i=>some (i*e.cells,e.cells))→τ.isAgg=true→a0o P B N o a w K z:=by
   intro n t' e hu hte hp hagg;obtain⟨I'⟩:=a0v (a0G hte);refine fin _ hp (fun cs' hc=>?_) hagg;simp only[execOp,ho,Instr.build,Sem.run_bind,I.zeroValue,Result.andThen_ok,run_underlying hu,I'.sizeOf,hpm,hc]
   simp
  clear fin;cases τ with
  |pair u v=>
   simp only[a0l,bA]at hty;obtain⟨-,hty⟩:=hty
   split at hty
   rename_i fs hu
   split at hty
   rename_i fl r hl;refine str fs hu ?_ (fun i=>⟨rfl,rfl⟩) rfl;rw[hl];simp only[a0l];simpa using hty;cases hty;cases hty
  |unit=>
   simp only[a0l,bA]at hty;obtain⟨-,hty⟩:=hty
   split at hty
   rename_i fs hu;refine str fs hu ?_ (fun i=>⟨rfl,rfl⟩) rfl
   have:fs.toList=[]:=by simpa using hty
   rw[this];rfl;cases hty
  |arr n e=>
   obtain⟨t',hu,hte,-⟩:=a9B hty;exact arr n t' e hu hte (c1D n e) rfl
  |_=>cases hagg
theorem c1F{o:Oper}{t:TypeId}{ps:Array (Nat×Operand)}{d:Nat}{cx:Cx}{q:Bool}{K:AE→Rs ρ}{z:ρ}(hcx:CxTy P cx)(ho:o.op=.build t ps)(hd:o.dst=some d)(hO:cx.nlT d t=none→(bif q then none else cx.O d)=none)
  (h:Rel B Γ N (a0k a) w σ)(hN:a.tmps.size=N)(hf:fits N o=true)(hz:aop cx q o Γ K=some z):a0o P B N o a w K z:=by
 simp only[aop,ho,hd]at hz;cases hn:cx.nlT d t with
 |some τ=>
  rw[hn]at hz;refine c3U ?_ ho hd h hN hf hz;simp only[Cx.nlT]at hn
  split at hn
  split at hn
  rename_i t' _ hc;cases hn;rw[←a2R];exact(hcx.T t _ hc.2).2;cases hn;cases hn
 |none=>
 rw[hn]at hz;simp only[hO hn]at hz
 split at hz
 rename_i τ hT;exact c3U (hcx.T t _ hT).2 ho hd h hN hf hz;cases hz
theorem b8j{u:Value}(h:a1j u=true):u.cells=#[u]:=by
 cases u<;>first|rfl|(simp[a1j]at h)
theorem c5G(h:Rel B Γ N (a0k a) w σ){v:AV}{τ:Ty}{u:Value}(hv:a0i (a0a w σ.ov) σ.g Γ.rt (Shr B w σ) v u)(hf:v.fits1 τ=true):a1j u=true:=by
 unfold AV.fits1 at hf
 split at hf
 rename_i t x;simp only[bA,a49]at hf;exact hv.2.1 hf.1;rename_i n e;obtain⟨r,e',s,h1,h2,h3⟩:=hv;obtain⟨O',R,g1,g2,-⟩:=h.sep h1;obtain⟨y,O1,R1,_,_,_,_,g3,g4,-⟩:=a1m _ r.t _ g1 h2;obtain⟨s',A,c,-,-,hv,-,hA,-⟩:=h.sref_head ⟨r,e',s,h1,h2,h3⟩ h1 g4;rw[hv];rfl;have hv:u=.slice none 0 0:=hv;rw[hv];rfl;cases hf
theorem d0H{place:Nat→Option (Nat×Nat)}{k:Nat}{u:Value}{l:List (Nat×Value)}{pre zs:List Value}{c:Value}(hp:place k=some (k,1))(hu:a1j u=true)(hk:pre.length=k):
  Instr.fill place (pre++c::zs).toArray ((k,u)::l)=Instr.fill place (pre++[u]++zs).toArray l:=by
 have hu:=b8j hu;simp only[Instr.fill,hp];have hc:(decide (u.cells.size≠1) || decide (k+u.cells.size > (pre++c::zs).toArray.size))=false:=by
  rw[hu];simp;omega
 rw[hc];simp only[a81,if_false];have hfold:(u.cells.zipIdx.foldl (fun cs (x:Value×Nat)=>cs.setIfInBounds (k+x.2) x.1) (pre++c::zs).toArray)=(pre++[u]++zs).toArray:=by
  rw[hu];subst hk
  simp
 rw[←hfold]
theorem d0I{m:Mem}{g:Nat→Src}{rt:Nat→Option Root}{Sh:Nat→Prop}{τ:Ty}{v:AV}{u:Value}{rd:Nat→Option Value}(h:a7P τ=some v)(hz:a1R τ rd=true)(hu:rd 0=some u):τ.cells=1∧a1j u=true∧a0i m g rt Sh v u:=by
 have val:τ.isAgg=false→a1j u=true→τ.cells=1→a1R τ (fun j=>u.cells[j]?)=true→VOk m Sh τ τ.dflt u:=fun h1 h2 h3 h4=>
  ⟨fun g=>(by rw[h1]at g;cases g),fun _=>h2,[],a5o τ h4,by simp⟩
 cases τ with
 |int k=>
  simp only[a7P,sj]at h;simp only[a1R,hu]at hz;cases u with
  |int k' n=>
   subst h;exact⟨rfl,rfl,val rfl rfl rfl (by simpa[a1R,Value.cells]using hz)⟩
  |_=>cases hz
 |bool=>
  simp only[a7P,sj]at h;simp only[a1R,hu]at hz;cases u with
  |bool b=>
   subst h;exact⟨rfl,rfl,val rfl rfl rfl (by simpa[a1R,Value.cells]using hz)⟩
  |_=>cases hz
 |str=>
  simp only[a7P,sj]at h;simp only[a1R,hu]at hz;cases u with
  |string b=>
   subst h;exact⟨rfl,rfl,val rfl rfl rfl (by simpa[a1R,Value.cells]using hz)⟩
  |_=>cases hz
 |list o e=>
  simp only[a7P,sj]at h;simp only[a1R,hu]at hz;subst h
  split at hz
  rename_i heq;simp only[sj]at heq;subst heq;exact⟨rfl,rfl,rfl⟩;cases hz
 |_=>cases h
theorem b8k{place:Nat→Option (Nat×Nat)}(h:Rel B Γ N (a0k a) w σ):∀(τ:Ty)(k:Nat)(ps:List (Nat×Operand)) (vs:List AV),Γ.aggV k τ ps=some vs→(∀p∈ps,a1i N p.2=true)→
  (∀j,j<τ.cells→place (k+j)=some (k+j,1))→∀(pre zs:List Value),pre.length=k→zs.length=τ.cells→a1R τ (fun j=>zs[j]?)=true→
  ∃us:List Value,us.length=τ.cells∧vs.length=τ.cells∧Instr.fill place (pre++zs).toArray (ps.map fun p=>(p.1,a.eval p.2))=some (pre++us).toArray∧
   ∀(j:Nat) v,vs[j]?=some v→∃u,us[j]?=some u∧a1j u=true∧a0i (a0a w σ.ov) σ.g Γ.rt (Shr B w σ) v u
 |.unit,k,[],vs,hv,_,_,pre,zs,hp,hz,_=>by
  simp only[AE.aggV,sj]at hv;subst hv
  have:zs=[]:=List.eq_nil_of_length_eq_zero hz
  subst this;exact⟨[],rfl,rfl,rfl,fun j v hj=>by simp at hj⟩
 |.pair u v,k,ps,vs,hv,hops,hpl,pre,zs,hp,hz,hzr=>by
  have zero:((a7P u).bind fun x=>(Γ.aggV (k+1) v ps).map (x::·))=some vs→∃us:List Value,us.length=(Ty.pair u v).cells∧vs.length=(Ty.pair u v).cells∧Instr.fill place (pre++zs).toArray (ps.map fun p=>(p.1,a.eval p.2))=some (pre++us).toArray∧
    ∀(j:Nat) v,vs[j]?=some v→∃u,us[j]?=some u∧a1j u=true∧a0i (a0a w σ.ov) σ.g Γ.rt (Shr B w σ) v u:=fun hb=>by
   cases hx:a7P u with
   |none=>rw[hx]at hb;cases hb
   |some x=>
    rw[hx]at hb;cases hr:Γ.aggV (k+1) v ps with
    |none=>rw[hr]at hb;cases hb
    |some vs'=>
     rw[hr]at hb;cases hb;simp only[a1R,bA]at hzr;have hpos:0<u.cells:=by
      cases u<;>first|(cases hx;done)|exact Nat.one_pos
     cases zs with
     |nil=>simp only[Ty.cells,a31]at hz;omega
     |cons z0 zs=>
      obtain⟨c1,c2,c3⟩:=d0I (m:=a0a w σ.ov) (g:=σ.g) (rt:=Γ.rt) (Sh:=Shr B w σ) hx hzr.1 (by simp:(z0::zs)[0]?=some z0);have hz':zs.length=v.cells:=by simp only[Ty.cells,lC]at hz;omega
      obtain⟨us,k1,k2,k3,k4⟩:=b8k h v (k+1) ps vs' hr hops (fun j hj=>by
       have:=hpl (j+1) (by simp only[Ty.cells];omega)
       rwa [show k+(j+1)=k+1+j from by omega]at this) (pre++[z0]) zs (by simp[hp]) hz' (by
       have:=hzr.2
       rw[c1]at this;simpa[Nat.add_comm 1]using this)
      refine⟨z0::us,by simp only[lC,Ty.cells];omega,by simp only[lC,Ty.cells];omega,?_,fun j y hj=>?_⟩;rw[show pre++z0::zs=pre++[z0]++zs from by simp,k3]
      simp
      ·cases j with
       |zero=>
        simp only[a01,sj]at hj;subst hj;exact⟨z0,by simp,c2,c3⟩
       |succ j=>
        simp only[a23]at hj⊢;exact k4 j y hj
  cases ps with
  |nil=>exact zero hv
  |cons p r=>
   obtain⟨i,o⟩:=p;simp only[AE.aggV]at hv;rcases a0g hv with⟨hi,hv'⟩|⟨-,hv'⟩
   ·have hi:i=k:=by simpa using hi
    subst hi;obtain⟨hc,hv'⟩:=(a0g hv').elim id fun h=>by cases h.2
    simp only[bA,dT]at hc;obtain⟨h1,h2⟩:=hc;cases hr:Γ.aggV (i+1) v r with
    |none=>rw[hr]at hv';cases hv'
    |some vs'=>
     rw[hr]at hv';cases hv';have hav:=h.opd (hops (i,o) (by simp));have hsg:=c5G h hav h2;cases zs with
     |nil=>simp only[Ty.cells,a31]at hz;omega
     |cons z0 zs=>
      have hz':zs.length=v.cells:=by simp only[Ty.cells,lC]at hz;omega
      simp only[a1R,bA]at hzr;obtain⟨us,k1,k2,k3,k4⟩:=b8k h v (i+1) r vs' hr (fun p hp=>hops p (by simp[hp])) (fun j hj=>by
       have:=hpl (j+1) (by simp only[Ty.cells];omega)
       rwa [show i+(j+1)=i+1+j from by omega]at this) (pre++[a.eval o]) zs (by simp[hp]) hz' (by
       have:=hzr.2
       rw[h1]at this;simpa[Nat.add_comm 1]using this)
      refine⟨a.eval o::us,by simp only[lC,Ty.cells];omega,by simp only[lC,Ty.cells];omega,?_,fun j y hj=>?_⟩;rw[a04];have hp0:=hpl 0 (by simp only[Ty.cells];omega);rw[a32]at hp0;rw[d0H hp0 hsg hp,k3]
      simp
      ·cases j with
       |zero=>
        simp only[a01,sj]at hj;subst hj;exact⟨a.eval o,by simp,hsg,hav⟩
       |succ j=>
        simp only[a23]at hj⊢;exact k4 j y hj
   exact zero hv'
 |.unit,_,_::_,_,hv,_,_,_,_,_,_,_=>by simp[AE.aggV]at hv
 |.int _,_,_,_,hv,_,_,_,_,_,_,_=>by simp[AE.aggV]at hv
 |.bool,_,_,_,hv,_,_,_,_,_,_,_=>by simp[AE.aggV]at hv
 |.str,_,_,_,hv,_,_,_,_,_,_,_=>by simp[AE.aggV]at hv
 |.list _ _,_,_,_,hv,_,_,_,_,_,_,_=>by simp[AE.aggV]at hv
 |.arr _ _,_,_,_,hv,_,_,_,_,_,_,_=>by simp[AE.aggV]at hv
theorem c5H:∀(τ:Ty)(k:Nat)(ps:List (Nat×Operand)) (vs:List AV),Γ.aggV k τ ps=some vs→vs.length=τ.cells∧
  ∀{P:Program} fs,a0l P τ (.inr (fs,k))=true→fs.length=vs.length∧∀(j:Nat) f,fs[j]?=some f→f.offset=k+j∧∃τ',a0l P τ' (.inl f.type)=true∧τ'.cells=1
 |.unit,k,[],vs,hv=>by
  simp only[AE.aggV,sj]at hv;subst hv;exact⟨rfl,fun fs h=>by
   cases fs with
   |nil=>exact⟨rfl,by simp⟩
   |cons f r=>simp[a0l]at h⟩
 |.pair u v,k,ps,vs,hv=>by
  have step:∀x ps' vs',u.cells=1→Γ.aggV (k+1) v ps'=some vs'→vs=x::vs'→vs.length=(Ty.pair u v).cells∧
    ∀{P:Program} fs,a0l P (.pair u v) (.inr (fs,k))=true→fs.length=vs.length∧∀(j:Nat) f,fs[j]?=some f→f.offset=k+j∧∃τ',a0l P τ' (.inl f.type)=true∧τ'.cells=1:=fun x ps' vs' h1 hr e=>by
   subst e;obtain⟨g1,g2⟩:=c5H v (k+1) ps' vs' hr;refine⟨by simp only[lC,Ty.cells];omega,fun fs h=>?_⟩;cases fs with
   |nil=>simp[a0l]at h
   |cons f fs=>
    simp only[a0l,bA,beq_iff_eq,dT]at h;obtain⟨⟨⟨j1,j2⟩,j3⟩,j4⟩:=h;rw[h1]at j4;obtain⟨q1,q2⟩:=g2 fs j4;refine⟨by simp[q1],fun j f' hf=>?_⟩;cases j with
    |zero=>
     simp only[a01,sj]at hf;subst hf;exact⟨j1,u,j2,h1⟩
    |succ j=>
     obtain⟨e1,e2⟩:=q2 j f' (by simpa using hf);exact⟨by omega,e2⟩
  have zero:((a7P u).bind fun x=>(Γ.aggV (k+1) v ps).map (x::·))=some vs→vs.length=(Ty.pair u v).cells∧
    ∀{P:Program} fs,a0l P (.pair u v) (.inr (fs,k))=true→fs.length=vs.length∧∀(j:Nat) f,fs[j]?=some f→f.offset=k+j∧∃τ',a0l P τ' (.inl f.type)=true∧τ'.cells=1:=fun hb=>by
   cases hx:a7P u with
   |none=>rw[hx]at hb;cases hb
   |some x=>
    rw[hx]at hb;cases hr:Γ.aggV (k+1) v ps with
    |none=>rw[hr]at hb;cases hb
    |some vs'=>
     rw[hr]at hb;cases hb;exact step x ps vs' (by cases u<;>first|(cases hx;done)|rfl) hr rfl
  cases ps with
  |nil=>exact zero hv
  |cons p r=>
   obtain⟨i,o⟩:=p;simp only[AE.aggV]at hv;rcases a0g hv with⟨-,hv'⟩|⟨-,hv'⟩
   ·obtain⟨hc,hv'⟩:=(a0g hv').elim id fun h=>by cases h.2
    simp only[bA,dT]at hc;cases hr:Γ.aggV (k+1) v r with
    |none=>rw[hr]at hv';cases hv'
    |some vs'=>
     rw[hr]at hv';cases hv';exact step _ r vs' hc.1 hr rfl
   exact zero hv'
 |.unit,_,_::_,_,hv=>by simp[AE.aggV]at hv
 |.int _,_,_,_,hv=>by simp[AE.aggV]at hv
 |.bool,_,_,_,hv=>by simp[AE.aggV]at hv
 |.str,_,_,_,hv=>by simp[AE.aggV]at hv
 |.list _ _,_,_,_,hv=>by simp[AE.aggV]at hv
 |.arr _ _,_,_,_,hv=>by simp[AE.aggV]at hv
theorem c4O{o:Oper}{t:TypeId}{ps:Array (Nat×Operand)}{d:Nat}{cx:Cx}{q:Bool}{K:AE→Rs ρ}{z:ρ}{τ:Ty}(hcx:CxTy P cx)(ho:o.op=.build t ps)(hd:o.dst=some d)(hO:(bif q then none else cx.O d)=some τ)(hnl:cx.nlT d t=none)
  (h:Rel B Γ N (a0k a) w σ)(hN:a.tmps.size=N)(hf:fits N o=true)(hz:aop cx q o Γ K=some z):a0o P B N o a w K z:=by
 have hops:∀y∈(o.op.operands.toList),a1i N y=true:=a0S hf;rw[ho]at hops;have hops':∀y∈ps.toList,a1i N y.2=true:=fun y hy=>hops y.2 (by
  simp only[Op.operands];exact a05.2 ⟨y,hy,rfl⟩)
 simp only[aop,ho,hd,hO,hnl]at hz
 ·split at hz
  ·rename_i hT
   split at hz
   ·rename_i vs hag;obtain⟨hpos,hz'⟩:=(a0g hz).elim id fun h=>by cases h.2
    have hpos:0<τ.cells:=by simpa using hpos
    have hty:a0l P τ (.inl t)=true:=by rw[←a2R];exact(hcx.T t _ hT).2
    obtain⟨hvl,g4⟩:=c5H τ 0 ps.toList vs hag;cases τ with
    |pair u v=>
     obtain⟨I⟩:=a0v (a0G hty);obtain⟨fs,hu,hs⟩:=b1C (f:=0) hty rfl;obtain⟨g5,g6⟩:=g4 _ hs;obtain⟨l,h1,h2,h3⟩:=b5o (P:=P) (w:=w) fs.toList (a9D _ _ _ hs);have hm:(fs.mapM fun f=>do pure (f.offset,←sizeOf f.type):Sem (Array (Nat×Nat))).run P w=.ok l.toArray w:=by
      rw[a62];show((fs.toList.mapM fun f=>do pure (f.offset,←sizeOf f.type)) >>= fun l=>pure l.toArray:Sem (Array (Nat×Nat))).run P w=_;rw[Sem.run_bind,h1];rfl
     have hpl:∀j,j<(Ty.pair u v).cells→(fun i=>l.toArray[i]?) (0+j)=some (0+j,1):=fun j hj=>by
      have hj':j<fs.toList.length:=by rw[g5,hvl];exact hj
      have hf':=lG hj';obtain⟨i,hi,hl⟩:=h3 j _ hf';obtain⟨e1,τ',e2,e3⟩:=g6 j _ hf';obtain⟨I1⟩:=a0v (a0G e2);have e4:i=I1.i:=by have:=hi.symm.trans I1.info;simpa using this
      simp only[a19,a03];rw[hl,e1,e4,I1.size,e3,a03]
     obtain⟨us,k1,-,hfill,k4⟩:=b8k h (Ty.pair u v) 0 ps.toList vs hag hops' hpl [] I.z.cells.toList rfl (by simpa using I.zsize) (by simpa using I.zok);simp only[a37,a75]at hfill;have hpm:(ps.map fun(i,x)=>(i,a.eval x)).toList=ps.toList.map fun p=>(p.1,a.eval p.2):=by simp
     have hrun:(execOp a.eval o).run P w=.ok (.value (.agg us.toArray)) w:=by
      simp only[execOp,ho,Instr.build,Sem.run_bind,I.zeroValue,Result.andThen_ok,run_underlying hu,hm,hpm,hfill]
      simp
     refine⟨_,w,_,σ,.inl hrun,?_,hz'⟩;rw[hd];refine h.putd hN (fun _=>⟨_,⟨by simp only[a38];omega,rfl,fun k x hx=>?_⟩,fun k av hk=>?_⟩);rw[a19]at hx;have hlt:k<vs.length:=by
      have:=(lS.1 hx).1
      omega
     obtain⟨u',q1,q2,-⟩:=k4 k _ (lG hlt);rw[hx]at q1;cases q1;exact q2;obtain⟨u',q1,-,q3⟩:=k4 k av hk;exact⟨u',by rw[a19];exact q1,q3⟩
    |unit=>simp[Ty.cells]at hpos
    |int k=>simp[AE.aggV]at hag
    |bool=>simp[AE.aggV]at hag
    |str=>simp[AE.aggV]at hag
    |list o' e=>simp[AE.aggV]at hag
    |arr n e=>simp[AE.aggV]at hag
    |nl e=>simp[AE.aggV]at hag
   cases hz
  cases hz
end
end Go.Ab
namespace Go.Ab
theorem b2j{m:Mem}{e:Ty}{b o n:Nat}{l:List e.den}{os R}(h:a0d (fun i=>dec m e fun j=>m b (o+(i*e.cells+j))) n 0=some (l,os,R)):
  ∃cs:List Value,cs.length=n*e.cells∧(∀j u,cs[j]?=some u→m b (o+j)=some u)∧(∀u∈cs,a1j u=true)∧a0d (fun i=>dec m e fun j=>cs[i*e.cells+j]?) n 0=some (l,os,R):=by
 have h1:dec m (.arr n e) (fun j=>m b (o+j))=some (l,os,R):=h;have hc:∀j,j<n*e.cells→∃u,m b (o+j)=some u∧a1j u=true:=a6x (.arr n e) h1
 let cs:List Value:=(List.range (n*e.cells)).map fun j=>(m b (o+j)).getD undef
 have hcs:∀j,j<n*e.cells→cs[j]?=m b (o+j):=fun j hj=>by
  obtain⟨u,hu,-⟩:=hc j hj;simp only[cs,a39,List.getElem?_range hj,a22,hu,a83]
 have hlen:cs.length=n*e.cells:=by simp[cs]
 refine⟨cs,hlen,fun j u hu=>?_,fun u hu=>?_,?_⟩;have hj:j<n*e.cells:=by
  have:=(lS.1 hu).1
  omega
 rw[←hcs j hj];exact hu;obtain⟨j,hj,rfl⟩:=a05.1 hu;rw[List.mem_range]at hj;obtain⟨u,hu,hs⟩:=hc j hj;rw[hu];exact hs;exact a0p (.arr n e) h1 (rd':=fun j=>cs[j]?) (fun j hj=>hcs j hj) (fun _ _ _=>rfl)
theorem c3d{m:Mem}{o:Bool}{e:Ty}(he:e.sh=e){v:Value}{l:List e.den}{O R}(h:dec m (.list o e) ((Src.one v).rd m)=some (l,O,R)):
  (v=.slice none 0 0∧l=[])∨∃a n c rs,v=.slice (some a) n c∧(c=0∨a.spot=none)∧n≤c∧n=l.length∧a0d (fun i=>dec m e fun j=>m a.block (a.off+(i*e.cells+j))) n 0=some (l,[],rs)∧
   (∀x∈rs,x∈R)∧(o=false→0<n→a.block∈R):=by
 have h:a0K m o e.cells (dec m e) (some v)=some (l,O,R):=h;unfold a0K at h
 split at h
 rename_i n c hv;simp only[sj]at hv
 split at h
 rename_i hc;refine .inl ⟨by rw[hv,hc.1,hc.2],(congrArg (·.1) (Option.some.inj h)).symm⟩;cases h;rename_i a n c hv;simp only[sj]at hv
 split at h
 rename_i hc
 split at h
 cases h;rename_i xs os rs hx;have hos:os=[]:=by
  have h1:dec m (.arr n e) (fun j=>m a.block (a.off+j))=some (xs,os,rs):=hx;exact a9C (by simp only[Ty.shn,Ty.sh,he]) h1
 subst hos;have hxl:xs=l∧(∀x∈rs,x∈R)∧(o=false→0<n→a.block∈R):=by
  split at h
  rename_i ho
  split at h
  have h:=Option.some.inj h;exact⟨congrArg (·.1) h,fun x hx=>(show rs=R from congrArg (·.2.2) h)▸hx,fun e=>(by rw[ho]at e;cases e)⟩;have h:=Option.some.inj h;exact⟨congrArg (·.1) h,fun x hx=>(show rs=R from congrArg (·.2.2) h)▸hx,fun e=>(by rw[ho]at e;cases e)⟩
  split at h
  rename_i hn;subst hn;simp[a0d]at hx;have h:=Option.some.inj h;refine⟨congrArg (·.1) h,fun x hx'=>?_,fun _ hn=>absurd hn (by omega)⟩;rw[hx.2]at hx';cases hx';have h:=Option.some.inj h;have hR:a.block::(([]:a0U).map (·.1)++rs)=R:=congrArg (·.2.2) h;rw[←hR];exact⟨congrArg (·.1) h,fun x hx=>by simp[hx],fun _ _=>by simp⟩
 obtain⟨rfl,h2,h3⟩:=hxl;exact .inr ⟨a,n,c,rs,hv,hc.1,hc.2,(a0R n 0 hx).symm,hx,h2,h3⟩;cases h;cases h
def a8q(w:World)(m:Mem)(Sh:Nat→Prop)(e:Ty)(l:List e.den)(v:Value):Prop:=
 ∃A n c,∃cs:List Value,v=.slice A n c∧n=l.length∧cs.length=n*e.cells∧(∀u∈cs,a1j u=true)∧(∃R,a0d (fun i=>dec m e fun j=>cs[i*e.cells+j]?) n 0=some (l,[],R)∧∀c∈R,Sh c)∧
  (∀b,A=some b→∀j u,cs[j]?=some u→w.cell? (b.add j)=some u)∧(A=none→n=0)∧(∀b,A=some b→n=0∨b.spot=none)
theorem a8q.nil{w m Sh e}{A:Option Addr}{c:Nat}:a8q w m Sh e [] (.slice A 0 c):=
 ⟨A,0,c,[],rfl,rfl,by simp,by simp,⟨[],rfl,by simp⟩,by simp,fun _=>rfl,fun _ _=>.inl rfl⟩
section
variable {P:Program} {B:Base} {N:Nat} {ρ:Type} {Γ:AE} {a:Act} {w:World} {σ:Gh}
theorem Rel.ov_none{tm}(h:Rel B Γ N tm w σ)(hp:Γ.pd=none):σ.ov=none:=by
 have:=h.pend
 rw[hp]at this;cases hov:σ.ov with
 |none=>rfl
 |some x=>rw[hov]at this;exact this.elim
theorem Rel.memo_shr{tm}(h:Rel B Γ N tm w σ){c j:Nat}(hc:Shr B w σ c):a0a w σ.ov c j=w.cell? ⟨c,j,none⟩:=by
 unfold a0a;split
 ·rename_i b o v hov;have hp:=h.pend;rw[hov]at hp;cases hpd:Γ.pd with
  |none=>rw[hpd]at hp;exact hp.elim
  |some x=>
   obtain⟨n,p,d⟩:=x;rw[hpd]at hp;obtain⟨r,e,hr,hl⟩:=hp;rw[←hov]at hl;have hb:=h.place hr hl;rw[if_neg]
   rintro⟨rfl,-⟩
   exact hc.2.2 ⟨n,hb⟩
 rfl
theorem b3F{A:Addr}(h:A.spot=none)(j:Nat):w.cell? (A.add j)=w.cell? ⟨A.block,A.off+j,none⟩:=by rw[a2Z h]
theorem Rel.elems{tm}{e:Ty}(he:e.sh=e)(h:Rel B Γ N tm w σ){av v}{K:List e.den→Rs ρ}{z:ρ}(ha:a0i (a0a w σ.ov) σ.g Γ.rt (Shr B w σ) av v)(hK:Γ.elems e av K=some z):
  ∃l,K l=some z∧a8q w (a0a w σ.ov) (Shr B w σ) e l v:=by
 unfold AE.elems at hK
 split at hK
 rename_i t' x
 split at hK
 rename_i ht;subst ht;refine⟨_,hK,?_⟩;obtain⟨R,h1,h2⟩:=VOk.rd (t:=.list false t') ha rfl rfl;rcases c3d he h1 with⟨rfl,h3⟩|⟨A,n,c,rs,rfl,g1,g2,g3,g4,g5,g6⟩;show a8q _ _ _ _ x _;rw[h3];exact a8q.nil;obtain⟨cs,k1,k2,k3,k4⟩:=b2j g4;refine⟨some A,n,c,cs,rfl,g3,k1,k3,⟨rs,k4,fun b hb=>h2 b (g5 b hb)⟩,fun b hb j u hu=>?_,by simp,fun b hb=>by simp only[sj]at hb;rw[←hb];exact g1.imp (fun e=>by omega) id⟩;simp only[sj]at hb;subst hb;have hn0:0<n:=by
  have:=(lS.1 hu).1
  rw[k1]at this;exact a59 fun e0=>by rw[e0,a47]at this;omega
 rw[b3F (g1.resolve_left (by omega)),←h.memo_shr (h2 _ (g6 rfl hn0))];exact k2 j u hu;cases hK;refine⟨[],hK,?_⟩;have ha:v=.slice none 0 0:=ha;rw[ha];exact a8q.nil;refine⟨[],hK,?_⟩;obtain⟨A,hv⟩:=ha;rw[hv];exact a8q.nil;rename_i n p
 split at hK
 rename_i r hr;obtain⟨hpd,hr⟩:=a0F hr
 split at hK
 rename_i e' l hg
 split at hK
 rename_i hee;subst hee;obtain⟨s,O',R',g1,g2,g3,g4,g5,g6⟩:=h.slice ha hr hg;refine⟨l,hK,?_⟩;have hov:=h.ov_none hpd;rcases c3d he g4 with⟨rfl,h3⟩|⟨A,n,c,rs,rfl,f1,f2,f3,f4,f5,-⟩;rw[h3];exact a8q.nil;obtain⟨cs,k1,k2,k3,k4⟩:=b2j f4;refine⟨some A,n,c,cs,rfl,f3,k1,k3,⟨rs,k4,fun b hb=>g5 b (f5 b hb)⟩,fun b hb j u hu=>?_,by simp,fun b hb=>by simp only[sj]at hb;rw[←hb];exact f1.imp (fun e=>by omega) id⟩;simp only[sj]at hb;subst hb;have hn0:0<n:=by
  have:=(lS.1 hu).1
  rw[k1]at this;exact a59 fun e0=>by rw[e0,a47]at this;omega
 rw[b3F (f1.resolve_left (by omega))]
 have:=k2 j u hu
 rw[hov]at this;exact this;cases hK;cases hK;cases hK
 ·rename_i n p o k
  split at hK
  ·rename_i r hr;obtain⟨hpd,hr⟩:=a0F hr
   split at hK
   ·rename_i e' l hg
    split at hK
    ·rename_i hee;subst hee;obtain⟨s,O',R',A0,n0,c,g1,g2,g3,g4,g5,g6,a',rfl,g7,g8⟩:=h.window ha hr hg;refine⟨_,hK,?_⟩;show a8q _ _ _ _ (a63 k (a87 o l)) _;have hov:=h.ov_none hpd;rcases c3d he g3 with⟨hv,h3⟩|⟨A,n,c',rs,hv,f1,f2,f3,f4,f5,-⟩;simp only[Value.slice.injEq]at hv;have hk:k=0:=by omega
     subst hk;exact a8q.nil
     ·simp only[Value.slice.injEq]at hv;obtain⟨rfl,rfl,rfl⟩:=hv;rw[show n0=o+(k+(n0-o-k))from by omega]at f4;obtain⟨os1,rs1,os2,rs2,j1,j2,e1,rfl⟩:=a3T o _ 0 f4;obtain⟨os3,rs3,os4,rs4,j3,j4,rfl,rfl⟩:=a3T k _ (0+o) j2;have hos:os3=[]:=by
       have:=congrArg a18 e1
       simp at this;exact a02.1 (by omega)
      subst hos;have hshift:∀(q i:Nat),a0d (fun i=>dec (a0a w σ.ov) e' fun j=>a0a w σ.ov A.block (A.off+o*e'.cells+(i*e'.cells+j))) q i=a0d (fun i=>dec (a0a w σ.ov) e' fun j=>a0a w σ.ov A.block (A.off+(i*e'.cells+j))) q (o+i):=by
       intro q
       induction q with
       |zero=>intro i;rfl
       |succ q ih=>
        intro i;have hf:(fun j=>a0a w σ.ov A.block (A.off+o*e'.cells+(i*e'.cells+j)))=fun j=>a0a w σ.ov A.block (A.off+((o+i)*e'.cells+j)):=by
         funext j;rw[a26];congr 1;omega
        simp only[a0d];rw[ih (i+1),hf,show o+(i+1)=o+i+1 from by omega]
      have hc:a0d (fun i=>dec (a0a w σ.ov) e' fun j=>a0a w σ.ov A.block (A.off+o*e'.cells+(i*e'.cells+j))) k 0=some (a63 k (a87 o l),[],rs3):=by
       rw[hshift,a32];rw[a03]at j3;exact j3
      obtain⟨cs,k1,k2,k3,k4⟩:=b2j hc;refine⟨a',k,c-o,cs,rfl,?_,k1,k3,⟨rs3,k4,fun b hb=>g4 b (f5 b (by simp[hb]))⟩,fun b hb j u hu=>?_,fun hn=>?_,fun b hb=>(g7 b hb).imp (fun e=>by omega) id⟩;have e0:n0=l.length:=f3;have e1:(a63 k (a87 o l)).length=min k (l.length-o):=List.length_take.trans (congrArg (min k) List.length_drop);rw[e1];omega;have hjk:=(lS.1 hu).1;rw[k1]at hjk;have hk0:0<k:=a59 fun e0=>by rw[e0,a47]at hjk;omega
      rcases g8 with g8|g8;omega;rw[g8]at hb;simp only[a22,sj]at hb;rw[←hb,a2Z (f1.resolve_left (by omega)),b3F rfl]
      have:=k2 j u hu
      rw[hov]at this;exact this;rcases g8 with g8|g8;omega;rw[g8]at hn;simp at hn
    cases hK
   cases hK
  cases hK
 cases hK
theorem a9O{w w2:World}{e:Ty}{v:Value}{A:Option Addr}{n c:Nat}{cs:List Value}(hv:v=.slice A n c)(hw:∀x,w2.cell? x=w.cell? x)(hlen:cs.length=n*e.cells)
  (hc:∀b,A=some b→∀j u,cs[j]?=some u→w.cell? (b.add j)=some u)(hn:A=none→n=0)(k:Nat)(hk:k≤n):
  (Builtin.firstCells e.cells k v).run P w2=.ok (cs.take (k*e.cells)).toArray w2:=by
 subst hv;cases A with
 |none=>
  have:k=0:=by have:=hn rfl;omega
  subst this;simp[Builtin.firstCells]
 |some b=>
  refine run_firstCells_some w2 e.cells k b n c _ ?_ fun j u hu=>?_
  have:k*e.cells≤n*e.cells:=a27 _ hk
  rw[a42];omega;rw[hw];refine hc b rfl j u ?_
  rw[List.getElem?_take]at hu
  split at hu
  exact hu;cases hu
end
end Go.Ab
namespace Go.Ab
theorem d1L{P:Program}{τ:Ty}{t:TypeId}(h:a0l P τ (.inl t)=true):∃d,P.underlying t=some d:=by
 cases hu:P.underlying t with
 |some d=>exact⟨d,rfl⟩
 |none=>cases τ<;>simp[a0l,hu]at h
theorem a9E{P:Program}{k:IntKind}{t:TypeId}(h:a0l P (.int k) (.inl t)=true):P.underlying t=some (.int k):=by
 simp only[a0l,bA]at h;obtain⟨-,h⟩:=h
 split at h
 rename_i k' hk;rw[hk];simp only[dT]at h;rw[h];cases h
theorem b3G{P:Program}{t:TypeId}(h:a0l P .str (.inl t)=true):P.underlying t=some .string:=by
 simp only[a0l,bA]at h;obtain⟨-,h⟩:=h
 split at h
 assumption
 cases h
theorem b3d{m:Mem}{k:IntKind}:∀(l:List Int)(n i:Nat){cs:List Value}{R},cs.length=i+n→a0d (fun i=>dec m (.int k) fun j=>cs[i*1+j]?) n i=some (l,[],R)→cs.drop i=l.map (Value.int k)
 |l,0,i,cs,R,hl,h=>by
  have h1:[]=l:=congrArg (·.1) (Option.some.inj h)
  have:cs.drop i=[]:=List.drop_eq_nil_iff.2 (by omega)
  rw[this,←h1];rfl
 |l,n+1,i,cs,R,hl,h=>by
  simp only[a0d]at h
  split at h
  cases h;rename_i x o r hx
  split at h
  cases h;rename_i xs os rs h2;have hi:i<cs.length:=by omega
  simp only[dec,a46,a32,lG hi]at hx
  split at hx
  rename_i k' n' hv
  split at hx
  rename_i hk;subst hk;have hxv:n'=x:=congrArg (·.1) (Option.some.inj hx);have hl':x::xs=l:=congrArg (·.1) (Option.some.inj h);have ho:o=[]:=by
   have:o++os=[]:=congrArg (·.2.1) (Option.some.inj h)
   exact(a69.1 this).1
  have hos:os=[]:=by
   have:o++os=[]:=congrArg (·.2.1) (Option.some.inj h)
   exact(a69.1 this).2
  subst hos;rw[a45 hi,b3d xs n (i+1) (by omega) h2,←hl'];simp only[sj]at hv;rw[hv,hxv];rfl;cases hx;cases hx
section
variable {P:Program} {B:Base} {N:Nat} {ρ:Type} {Γ:AE} {a:Act} {w:World} {σ:Gh}
theorem c8O(ns:List Int):∀(s:ByteArray),((ns.foldl (fun r n=>r.push (UInt8.ofNat n.toNat)) s).data.toList.map fun b=>(b.toNat:Int))=(s.data.toList.map fun b=>(b.toNat:Int))++b2s ns:=by
 induction ns with
 |nil=>intro s;simp[b2s]
 |cons n ns ih=>
  intro s;rw[a84,ih];simp[b2s,ByteArray.push]
theorem b5p(w:World)(a:Addr)(c:Nat):(w.freeze a 1).heap[c]?=if c=a.block then(w.heap[c]?).map (fun|.cells cs elem (lo,hi)=>.cells cs elem (if lo==hi then(a.off,a.off+1)else(min lo a.off,max hi (a.off+1)))|o=>o)else w.heap[c]?:=by
 unfold World.freeze;rw[if_neg (by decide)];simp only[Array.getElem?_modify]
 by_cases e:a.block=c
 ·rw[if_pos e,if_pos e.symm];cases w.heap[c]? with
  |none=>rfl
  |some o=>cases o<;>rfl
 rw[if_neg e,if_neg (Ne.symm e)]
theorem b9M(w:World)(a p:Addr):(w.freeze a 1).cell? p=w.cell? p:=by
 unfold World.cell?;rw[b5p]
 by_cases e:p.block=a.block
 ·rw[if_pos e];cases w.heap[p.block]? with
  |none=>rfl
  |some o=>cases o<;>rfl
 rw[if_neg e]
theorem b5q(w:World)(a:Addr)(ov):a0a (w.freeze a 1) ov=a0a w ov:=by
 funext b o;cases ov with
 |none=>exact b9M w a _
 |some y=>
  obtain⟨b',o',v⟩:=y;simp only[a0a];split;rfl;exact b9M w a _
theorem Rel.frozen{Γ:AE}{w:World}{σ:Gh}{tm:Nat→Value}(h:Rel B Γ N tm w σ){b:Nat}(ho:a0L σ b){cs:Array Value}{el:TypeId}{lo hi:Nat}(hh:w.heap[b]?=some (.cells cs el (lo,hi))):
  Rel B Γ N tm (w.freeze { block:=b,off:=cs.size } 1) σ:=by
 have hsz:(w.freeze { block:=b,off:=cs.size } 1).heap.size=w.heap.size:=by
  unfold World.freeze;rw[if_neg (by decide)];simp
 refine h.mem (fun c j _=>by rw[b5q]) (fun n p hp=>?_) (a68 hsz.symm) (fun c hc hF=>?_);obtain⟨c,e,lo',hi',g1,g2,g3⟩:=h.live n p hp;unfold a0J;rw[b5p]
 by_cases e1:p.1=b
 rw[if_pos e1,g1];rw[e1,hh]at g1;simp only[sj,Obj.cells.injEq,pJ]at g1;obtain⟨rfl,rfl,rfl,rfl⟩:=g1;have key:∃lo2 hi2,(if(lo==hi)=true then(cs.size,cs.size+1)else(min lo cs.size,max hi (cs.size+1)))=(lo2,hi2)∧p.2≤lo2:=by
  by_cases e2:lo=hi
  exact⟨_,_,if_pos (by simpa using e2),g2⟩;refine⟨_,_,if_neg (by simpa using e2),?_⟩;rcases g3 with g3|g3;exact absurd g3.symm e2;omega
 obtain⟨lo2,hi2,k1,k2⟩:=key;exact⟨cs,el,lo2,hi2,by simp only[a22,k1],g2,.inr k2⟩;rw[if_neg e1];exact⟨c,e,lo',hi',g1,g2,g3⟩;rw[b5p,if_neg (fun e=>?_)];exact h.frame c hc hF;rcases h.mine b ho with g|g;exact hF (e▸g)
 have:c=b:=e
 omega
theorem c5I{o:Oper}{t t2:TypeId}{x:Operand}{d:Nat}{cx:Cx}{q:Bool}{K:AE→Rs ρ}{z:ρ}(hcx:CxTy P cx)(ho:o.op=.convert t t2 x)(hd:o.dst=some d)
  (h:Rel B Γ N (a0k a) w σ)(hN:a.tmps.size=N)(hf:fits N o=true)(hz:aop cx q o Γ K=some z):a0o P B N o a w K z:=by
 have hx:=h.opd (a0S hf x (by simp[ho,Op.operands]));simp only[aop,ho,hd]at hz;have hrun:∀v w',(convert t t2 (a.eval x)).run P w=.ok v w'→(execOp a.eval o).run P w=.ok (.value v) w':=fun v w' hv=>by simp[execOp,ho,hv]
 unfold AE.conv AE.convK at hz
 split at hz
 rename_i τ k k' n hT hT2 he;rw[he]at hx;have hv:=a0i.int hx;obtain⟨u,hu⟩:=d1L (hcx.T _ _ hT).2;have hu2:=a9E (hcx.T _ _ hT2).2;refine a0o.set hd hN (hrun (.int k (k.wrap n)) w ?_) h (a0i.mk_int _) hz;rw[hv];simp[convert,run_underlying hu,run_underlying hu2,Conv.intToInt]
 ·rename_i o' l hT hT2 he
  suffices main:∀l:List Int,Γ.opd x=.val .str l→(bif lim (a18 l)then Γ.fresh q d ⟨false,.list true (.int .u8),l⟩ fun Γ=>K (Γ.set d (.sref d []))else none)=some z→a0o P B N o a w K z from main l he hz
  clear he hz;intro l he hz;rw[he]at hx;obtain⟨s,hv,hl⟩:=a0i.str hx;have hu:=b3G (hcx.T _ _ hT).2;obtain⟨hsh,hty2⟩:=hcx.T _ _ hT2;obtain⟨e,hu2,hte,-⟩:=a1B hty2;have hue:=a9E hte;rcases a0g hz with⟨-,hz⟩|⟨-,hz⟩
  ·have hr:=run_bytes_of_string (P:=P) w t t2 e s hu hu2 hue;rw[←hv]at hr;have hg:=grownCap_ge w s.size 0 e;have hsize:(bytesRow s (grownCap w s.size 0 e)).size=grownCap w s.size 0 e:=by
    have:s.data.size=s.size:=rfl
    simp only[bytesRow,Array.size_append,Array.size_map,Array.size_replicate];omega
   have hll:a18 l=s.size:=by rw[hl,a56];rfl
   have hll':@List.length (Ty.int .u8).den l=s.size:=hll;have hcol:a0d (fun i=>dec (a0a w σ.ov) (.int .u8) fun j=>(bytesRow s (grownCap w s.size 0 e))[i*(Ty.int .u8).cells+j]?) (a18 l) 0=some (l,[],[]):=by
    have key:∀(n i:Nat)(l':List Int),l'=l.drop i→l'.length=n→i+n=s.size→a0d (fun i=>dec (a0a w σ.ov) (.int .u8) fun j=>(bytesRow s (grownCap w s.size 0 e))[i*(Ty.int .u8).cells+j]?) n i=some (l',[],[]):=by
     intro n
     induction n with
     |zero=>intro i l' _ h2 _;rw[a02.1 h2];rfl
     |succ n ih=>
      intro i l' h1 h2 h3;have hi:i<s.data.toList.length:=by
       have:s.data.toList.length=s.size:=rfl
       omega
      have hi':i<(List.map (fun b:UInt8=>(b.toNat:Int)) s.data.toList).length:=by simpa using hi
      have hcell:(bytesRow s (grownCap w s.size 0 e))[i]?=some (.int .u8 ((s.data.toList[i]).toNat:Int)):=by
       have hi2:i<s.data.size:=by simpa using hi
       simp only[bytesRow];rw[Array.getElem?_append_left (by simpa using hi2),a58,a61 hi2]
       simp
      have hl':l'=((s.data.toList[i]).toNat:Int)::l.drop (i+1):=by
       rw[h1,hl,a45 hi',List.getElem_map]
      subst hl';have h4:=ih (i+1) (l.drop (i+1)) rfl (by simpa using h2) (by omega);simp only[a0d];rw[h4];simp only[dec,Ty.cells,a46,a32,hcell,if_true];rfl
    exact key _ 0 l rfl rfl (by omega)
   obtain⟨Γ',σ',g1,g2,g3,-,-⟩:=h.newSlice (c:=grownCap w s.size 0 e) hz (w':=w.drew.alloc (.cells (bytesRow s (grownCap w s.size 0 e)) e ((bytesRow s (grownCap w s.size 0 e)).size,(bytesRow s (grownCap w s.size 0 e)).size+1)))
    (fun c hc=>a1J (w:=w.drew) _ c hc) (a1V (w:=w.drew) _) (a1K (w:=w.drew) _) (.inr (by simp[hsize,Ty.cells])) (by simp[hsize,Ty.cells]) (a41 (a68 hll') hg) hcol (by simp)
   rw[hll']at g3;exact a0o.set hd hN (hrun _ _ hr) g2 g3 g1
  cases hz
 rename_i l hT hT2 he;rw[he]at hx;obtain⟨s,hv,hl⟩:=a0i.str hx;have hu:=b3G (hcx.T _ _ hT).2;have hu2:=b3G (hcx.T _ _ hT2).2;refine a0o.set hd hN (hrun (.string s) w ?_) h (hl▸a0i.mk_str s) hz;rw[hv];simp[convert,run_underlying hu,run_underlying hu2];rename_i o1 o2 n hT hT2 he
 split at hz
 rename_i htt;subst htt
 split at hz
 rename_i l hl;obtain⟨hlen,hz⟩:=(a0g hz).elim id fun h=>by cases h.2
 have hlen:0<a18 l:=by simpa using hlen
 obtain⟨hpd,hr⟩:=a0F hl;rw[he]at hx;obtain⟨hsh,hty⟩:=hcx.T _ _ hT;obtain⟨e,hu,hte,-⟩:=a1B hty;have hue:=a9E hte;obtain⟨s,O',R',f1,f2,f3,f4,f5,f6⟩:=h.slice hx hr (show a0W (.list true (.int .u8)) l []=⟨.list true (.int .u8),l⟩from rfl);obtain⟨b,n1,c1,hval,hb,hnc,hc0,hbow⟩:∃(b:Addr)(n1 c1:Nat),a.eval x=.slice (some b) n1 c1∧b.spot=none∧n1≤c1∧c1≠0∧b.block∈(σ.ow n).map (·.1):=by
  rcases a1z f4 with⟨hs,hl0,-,-⟩|⟨b,n1,c1,os,hs,hA,hn,hcol,ho⟩;rw[hl0]at hlen;simp at hlen;simp only[Src.rd,if_true,sj]at hs;have hn1:a18 l=n1:=a0R _ _ hcol;have hc1:c1≠0:=by omega
  refine⟨b,n1,c1,hs,hA.resolve_left hc1,hn,hc1,f6 _ ?_⟩;rcases ho with⟨h0,-⟩|⟨-,ho⟩;exact absurd h0 hc1;rw[ho];simp
 have hown:a0L σ b.block:=⟨n,hbow⟩;obtain⟨p0,hp0,hp1⟩:=a05.1 hbow;obtain⟨cs,el,lo,hi,hheap,-,-⟩:=h.live n p0 hp0;rw[hp1]at hheap;have hrun1:(convert t t (a.eval x)).run P w=.ok (a.eval x) (w.freeze { block:=b.block,off:=cs.size } 1):=by
  have hshp:w.shape? b.block=some (el,cs.size):=by unfold World.shape?;rw[hheap]
  rw[hval];simp[convert,run_underlying hu,run_underlying hue,markStringish,hshp]
 exact a0o.set hd hN (hrun _ _ hrun1) (h.frozen hown hheap) (av:=.sref n []) (by
  obtain⟨r,e',s',k1,k2,k3⟩:=hx;exact⟨r,e',s',k1,by rw[b5q];exact k2,by rw[b5q];exact k3⟩) hz
 cases hz;cases hz
 ·rename_i o' hT hT2;obtain⟨hsh,hty⟩:=hcx.T _ _ hT;obtain⟨e,hu,hte,-⟩:=a1B hty;have hue:=a9E hte;have hu2:=b3G (hcx.T _ _ hT2).2;obtain⟨l,hz,A,n,c,cs,hv,hn,hlen,-,⟨R,hcol,-⟩,hc,hnil,-⟩:=h.elems rfl hx hz;have hlen':cs.length=n:=by simpa[Ty.cells]using hlen
  have hcs:cs=l.map (Value.int .u8):=by
   have:=b3d (k:=.u8) l n 0 (cs:=cs) (by omega) hcol
   rwa [a74]at this
  cases A with
  |none=>
   have h0:l=[]:=by
    have:=hnil rfl
    exact a02.1 (by omega)
   refine a0o.set hd hN (hrun (.string .empty) w ?_) h (av:=.val .str (b2s l)) (by rw[h0];exact a0i.mk_str .empty) hz;rw[hv,run_convert_bytes_string w t t2 e none n c hu hue hu2];simp[Conv.bytesToString]
  |some b=>
   refine a0o.set hd hN (hrun (.string (l.foldl (fun r n=>r.push (UInt8.ofNat n.toNat)) ByteArray.empty)) w ?_) h (av:=.val .str (b2s l)) ?_ hz;rw[hv,run_convert_bytes_string w t t2 e _ n c hu hue hu2];refine run_bytesToString w b n c l ?_
   rw[←hcs,←hlen'];exact run_loadCells_list w b cs (hc b rfl)
   have:=c8O l ByteArray.empty
   have e1:b2s l=((l.foldl (fun r n=>r.push (UInt8.ofNat n.toNat)) ByteArray.empty).data.toList.map fun b=>(b.toNat:Int)):=by
    exact(this.trans (a37 _)).symm
   rw[e1];exact a0i.mk_str _
 cases hz
theorem b5Y{o:Oper}{c:Call}{b:Builtin}(ho:o.op=.call c)(hb:c.callee=.builtin b):
  ∃cs,(execOp a.eval o).run P w=(builtin b c.argTypes o.type cs (c.args.map a.eval)).run P w:=by
 exact⟨_,by simp[execOp,ho,resolve,hb,invoke];rfl⟩
theorem d1M{o:Oper}{c:Call}{d:Nat}{cx:Cx}{q:Bool}{K:AE→Rs ρ}{z:ρ}(hcx:CxTy P cx)(ho:o.op=.call c)(hb:c.callee=.builtin .len)(hd:o.dst=some d)
  (h:Rel B Γ N (a0k a) w σ)(hN:a.tmps.size=N)(hf:fits N o=true)(hz:aop cx q o Γ K=some z):a0o P B N o a w K z:=by
 obtain⟨cs,hrun⟩:=b5Y (P:=P) (a:=a) (w:=w) ho hb;have hops:=a0S hf;have hl:∃x,c.args.toList=[x]:=by
  cases hl:c.args.toList with
  |nil=>simp only[aop,ho,hd,hb,hl,a25,AE.blt]at hz;cases hz
  |cons x l=>
   cases l with
   |nil=>exact⟨x,rfl⟩
   |cons y l=>simp only[aop,ho,hd,hb,hl,a04,AE.blt]at hz;cases hz
 obtain⟨x,hx⟩:=hl;have hargs:c.args=#[x]:=by rw[←a43];simpa using hx
 have hxo:a1i N x=true:=hops x (by simp[ho,Op.operands,hb,hargs,Call.operands]);simp only[aop,ho,hd,hb,hx,a04,a25,AE.blt]at hz;cases ht:c.argTypes.toList.head? with
  |none=>
   rw[ht]at hz;simp only[Option.bind_none]at hz;unfold AE.lenK at hz
   split at hz<;>first|(rename_i h1 _;cases h1;done)|(rename_i h1;cases h1;done)|(cases hz;done)
  |some t=>
   rw[ht]at hz;simp only[oB]at hz;obtain⟨n,hz,hn⟩:=d0F hcx h hxo hz o.type;have ht0:c.argTypes[0]?=some t:=by
    rw[←a21];cases hl:c.argTypes.toList with
    |nil=>rw[hl]at ht;cases ht
    |cons y l=>rw[hl]at ht;simpa using ht
   refine a0o.set hd hN (hrun.trans ?_) h (a0i.mk_int _) hz;have hsame:Builtin.len_ c.argTypes o.type #[a.eval x]=Builtin.len_ #[t] o.type #[a.eval x]:=by
    simp[Builtin.len_,ht0]
   simp[builtin,hargs,hsame,hn]
theorem b4F{o:Oper}{c:Call}{b:Builtin}(ho:o.op=.call c)(hb:c.callee=.builtin b)(hf:fits N o=true):∀y∈c.args.toList,a1i N y=true:=fun y hy=>
 a0S hf y (by simp only[ho,Op.operands,Call.operands,hb];simpa using hy)
theorem d1N{o:Oper}{c:Call}{d:Nat}{cx:Cx}{q:Bool}{K:AE→Rs ρ}{z:ρ}(ho:o.op=.call c)(hb:c.callee=.builtin .max)(hd:o.dst=some d)
  (h:Rel B Γ N (a0k a) w σ)(hN:a.tmps.size=N)(hf:fits N o=true)(hz:aop cx q o Γ K=some z):a0o P B N o a w K z:=by
 obtain⟨cs,hrun⟩:=b5Y (P:=P) (a:=a) (w:=w) ho hb;have hops:=b4F ho hb hf;cases hl:c.args.toList with
 |nil=>simp only[aop,ho,hd,hb,hl,a25,AE.blt]at hz;cases hz
 |cons x l=>
  simp only[aop,ho,hd,hb,hl,a04,AE.blt]at hz
  split at hz
  all_goals first|(rename_i h1;cases h1;done)|(rename_i h1 _;cases h1;done)|(cases hz;done)|skip
  rename_i k n r h1 h2;have hx:=h.opd (hops x (by rw[hl];simp));obtain⟨e1,rfl⟩:=List.cons.inj h2;rw[e1]at hx;obtain⟨r,hz,hr⟩:=b8i (P:=P) (f:=a2m) (g:=Builtin.max2) (k:=k) (fun x y w=>by simp[Builtin.max2,a2m]) l n h (fun y hy=>hops y (by rw[hl];simp[hy])) hz;refine a0o.set hd hN (hrun.trans ?_) h (a0i.mk_int _) hz;have hm:(c.args.map a.eval).toList=a.eval x::l.map a.eval:=by rw[a65,hl];rfl
  simp only[builtin,Builtin.max_,hm,a0i.int hx,Sem.run_bind]
  erw[hr];rfl
theorem d1O{o:Oper}{c:Call}{d:Nat}{cx:Cx}{q:Bool}{K:AE→Rs ρ}{z:ρ}(ho:o.op=.call c)(hb:c.callee=.builtin .min)(hd:o.dst=some d)
  (h:Rel B Γ N (a0k a) w σ)(hN:a.tmps.size=N)(hf:fits N o=true)(hz:aop cx q o Γ K=some z):a0o P B N o a w K z:=by
 obtain⟨cs,hrun⟩:=b5Y (P:=P) (a:=a) (w:=w) ho hb;have hops:=b4F ho hb hf;cases hl:c.args.toList with
 |nil=>simp only[aop,ho,hd,hb,hl,a25,AE.blt]at hz;cases hz
 |cons x l=>
  simp only[aop,ho,hd,hb,hl,a04,AE.blt]at hz
  split at hz
  all_goals first|(rename_i h1;cases h1;done)|(rename_i h1 _;cases h1;done)|(cases hz;done)|skip
  rename_i k n r h1 h2;have hx:=h.opd (hops x (by rw[hl];simp));obtain⟨e1,rfl⟩:=List.cons.inj h2;rw[e1]at hx;obtain⟨r,hz,hr⟩:=b8i (P:=P) (f:=a3u) (g:=Builtin.min2) (k:=k) (fun x y w=>by simp[Builtin.min2,a3u]) l n h (fun y hy=>hops y (by rw[hl];simp[hy])) hz;refine a0o.set hd hN (hrun.trans ?_) h (a0i.mk_int _) hz;have hm:(c.args.map a.eval).toList=a.eval x::l.map a.eval:=by rw[a65,hl];rfl
  simp only[builtin,Builtin.min_,hm,a0i.int hx,Sem.run_bind]
  erw[hr];rfl
end
end Go.Ab
namespace Go.Ab
theorem b2k{m:Mem}:∀(p:a0N)(t:Ty)(s:Src){x O R t' b o y O' R'},dec m t (s.rd m)=some (x,O,R)→loc m t s p=some (t',.at b o)→dec m t' ((Src.at b o).rd m)=some (y,O',R')→
  (O.map (·.1)).Nodup→(∀c∈O.map (·.1),s.avoids c)→b∉O'.map (·.1)
 | [],t,s,x,O,R,t',b,o,y,O',R',h,hl,hy,hn,hs=>by
  simp only[loc,a0Q,sj,pJ]at hl;obtain⟨rfl,rfl⟩:=hl;rw[h]at hy;simp only[sj,pJ]at hy;obtain⟨-,rfl,-⟩:=hy;exact fun hb=>hs b hb rfl
 |.fst::p,t,s,x,O,R,t',b,o,y,O',R',h,hl,hy,hn,hs=>by
  obtain⟨a,b',bl,so,rfl,rfl,hl⟩:=a7r hl;obtain⟨x1,o1,r1,x2,o2,r2,h1,h2,rfl,rfl,rfl⟩:=a1Q h;simp only[pA]at hn hs;exact b2k p a (.at bl so) h1 hl hy (a20.1 hn).1 (fun c hc=>hs c (a28 _ hc))
 |.snd::p,t,s,x,O,R,t',b,o,y,O',R',h,hl,hy,hn,hs=>by
  obtain⟨a,b',bl,so,rfl,rfl,hl⟩:=a7s hl;obtain⟨x1,o1,r1,x2,o2,r2,h1,h2,rfl,rfl,rfl⟩:=a1Q h;rw[a4Z]at h2;simp only[pA]at hn hs;exact b2k p b' (.at bl (so+a.cells)) h2 hl hy (a20.1 hn).2.1 (fun c hc=>hs c (a35 _ hc))
 |.idx i::p,t,s,x,O,R,t',b,o,y,O',R',h,hl,hy,hn,hs=>by
  rcases a5e hl with⟨n,t1,bl,so,rfl,rfl,hi,hl⟩|⟨t1,a,n,c,rfl,hv',hi,hl⟩;simp only[dec,a4Z]at h;obtain⟨y0,o0,r0,A0,B0,A0',B0',hf,-,rfl,rfl⟩:=a0P n 0 i h hi;simp only[a03]at hf;simp only[pA]at hn hs;exact b2k p t1 _ hf hl hy (a20.1 (a20.1 hn).2.1).1 (fun c hc=>hs c (a35 _ (a28 _ hc)));rcases a1z h with⟨hv,-⟩|⟨a',n',c',os,hv,ha,hn',hx,ho⟩;rw[hv]at hv';cases hv';rw[hv]at hv';simp only[sj,Value.slice.injEq]at hv';obtain⟨rfl,rfl,rfl⟩:=hv';obtain⟨y0,o0,r0,A0,B0,A0',B0',hf,-,rfl,rfl⟩:=a0P n' 0 i hx hi;simp only[a03]at hf;rcases ho with⟨hc,-⟩|⟨-,rfl⟩;omega;simp only[pA,a04,a17]at hn hs;exact b2k p t1 _ hf hl hy (a20.1 (a20.1 hn.2).2.1).1 (fun c hc=>by
   rintro rfl
   exact hn.1 (a35 _ (a28 _ hc)))
section
variable {P:Program} {B:Base} {N:Nat} {ρ:Type} {Γ:AE} {a:Act} {w:World} {σ:Gh}
theorem Rel.own{tm}(h:Rel B Γ N tm w σ){n p v r}{e:Ty}{l:List e.den}(ha:a0i (a0a w σ.ov) σ.g Γ.rt (Shr B w σ) (.sref n p) v)(hr:Γ.rt n=some r)(hg:a0W r.t r.x p=⟨.list true e,l⟩):
  ∃s O' R',loc (a0a w σ.ov) r.t (σ.g n) p=some (.list true e,s)∧s.rd (a0a w σ.ov) 0=some v∧dec (a0a w σ.ov) (.list true e) (s.rd (a0a w σ.ov))=some (l,O',R')∧
   dec (a0a w σ.ov) (.list true e) ((Src.one v).rd (a0a w σ.ov))=some (l,O',R')∧(∀c∈R',Shr B w σ c)∧(∀q∈O',q∈σ.ow n)∧(O'.map (·.1)).Nodup∧(∀b o,s=.at b o→b∉O'.map (·.1)):=by
 obtain⟨r',e',s,h1,h2,h3⟩:=ha;rw[hr]at h1;simp only[sj]at h1;subst h1;obtain⟨O1,R1,k1,k2,k3,k4,k5,k6⟩:=h.sep hr;obtain⟨y,O',R',A,B',A',B'',g1,g2,g3,g4⟩:=a1m p r.t _ k1 h2;rw[hg]at g2;have hE:e=e':=by have:=congrArg Sigma.fst g2;simpa using this
 subst hE;have g2:=eq_of_heq (Sigma.mk.inj g2).2;subst g2;have hsub:∀q∈O',q∈O1:=fun q hq=>by rw[g3];exact a35 _ (a28 _ hq)
 refine⟨s,O',R',h2,h3,g1,a0p _ g1 (fun j hj=>?_) (fun _ _ _=>rfl),fun c hc=>k2 c (by rw[g4];simp[hc]),fun q hq=>?_,?_,fun b o hs=>?_⟩;have hj0:j=0:=by simp only[Ty.cells]at hj;omega
 subst hj0;rw[h3];rfl;rcases k6 with⟨-,b,-,hO⟩|⟨-,-,-,hO⟩;rw[hO];exact a08 _ (hsub q hq);rw[hO];exact hsub q hq
 have:=k3.nodup
 rw[g3]at this;simp only[pA]at this;exact(a20.1 (a20.1 this).2.1).1;subst hs;exact b2k p r.t _ k1 h2 g1 k3.nodup k3.src
theorem b9N{m:Mem}{e:Ty}{l1 l2:List e.den}{cs1 cs2 rest:List Value}{n1 n2:Nat}{o1 o2 R1 R2}(h1:a0d (fun i=>dec m e fun j=>cs1[i*e.cells+j]?) n1 0=some (l1,o1,R1))(hl1:cs1.length=n1*e.cells)
  (h2:a0d (fun i=>dec m e fun j=>cs2[i*e.cells+j]?) n2 0=some (l2,o2,R2))(hl2:cs2.length=n2*e.cells):
  a0d (fun i=>dec m e fun j=>(cs1++(cs2++rest))[i*e.cells+j]?) (n1+n2) 0=some (a29 l1 l2,o1++o2,R1++R2):=by
 have a1:a0d (fun i=>dec m e fun j=>(cs1++(cs2++rest))[i*e.cells+j]?) n1 0=some (l1,o1,R1):=by
  refine a0p (.arr n1 e) (show dec m (.arr n1 e) (fun j=>cs1[j]?)=_ from h1) (rd':=fun j=>(cs1++(cs2++rest))[j]?) (fun j hj=>?_) (fun _ _ _=>rfl);exact a16 (by rw[hl1];exact hj)
 have a2:a0d (fun i=>dec m e fun j=>(cs1++(cs2++rest))[i*e.cells+j]?) n2 n1=some (l2,o2,R2):=by
  have hs:∀(k i:Nat),i+k≤n2→a0d (fun i=>dec m e fun j=>(cs1++(cs2++rest))[i*e.cells+j]?) k (n1+i)=a0d (fun i=>dec m e fun j=>(cs2++rest)[i*e.cells+j]?) k i:=by
   intro k
   induction k with
   |zero=>intro i _;rfl
   |succ k ih=>
    intro i hi;have hf:(fun j=>(cs1++(cs2++rest))[(n1+i)*e.cells+j]?)=fun j=>(cs2++rest)[i*e.cells+j]?:=by
     funext j;rw[a09 (by rw[hl1,a26];omega),hl1,a26];congr 1;omega
    simp only[a0d];rw[show n1+i+1=n1+(i+1)from by omega,ih (i+1) (by omega),hf]
  have:=hs n2 0 (by omega)
  rw[a32]at this;rw[this];refine a0p (.arr n2 e) (show dec m (.arr n2 e) (fun j=>cs2[j]?)=_ from h2) (rd':=fun j=>(cs2++rest)[j]?) (fun j hj=>?_) (fun _ _ _=>rfl);exact a16 (by rw[hl2];exact hj)
 have:=b5V n1 n2 0 a1 (by rw[a03];exact a2)
 simpa using this
theorem c7m{cx:Cx}{ts:Array TypeId}(hcx:CxTy P cx)(h:b8b cx ts.toList=true):ts[1]?=none∨∃t2,ts[1]?=some t2∧(P.underlying t2=some .string∨∃e,P.underlying t2=some (.slice e)):=by
 rw[←a21];unfold b8b at h
 split at h
 rename_i hl;rw[hl];exact .inl rfl;rename_i t2 _ hl;rw[hl];refine .inr ⟨t2,rfl,?_⟩
 split at h
 rename_i hT;obtain⟨e,he,-⟩:=a1B (hcx.T _ _ hT).2;exact .inr ⟨e,he⟩;rename_i hT;exact .inl (b3G (hcx.T _ _ hT).2);cases h;cases h
theorem a5p{w2:World}{t t' ty:TypeId}{ts:Array TypeId}{x:Value}{e:Ty}(I:Info P e t')(h0:ts[0]?=some t)(hu:P.underlying t=some (.slice t'))
  (h1:ts[1]?=none∨∃t2,ts[1]?=some t2∧(P.underlying t2=some .string∨∃e,P.underlying t2=some (.slice e)))
  {A:Option Addr}{n c k:Nat}{new:List Value}(hlen:(Builtin.lenOf x).run P w=.ok k w)(hnew:(Builtin.firstCells e.cells k x).run P w=.ok new.toArray w)(hfit:n+k≤c)
  (hst:∀b,A=some b→(storeCells (b.add (n*e.cells)) new).run P w=.ok () w2)(hno:A=none→w2=w):
  (Builtin.append_ ts ty #[.slice A n c,x]).run P w=.ok (.slice A (n+k) c) w2:=by
 have key:∀A,(A=none→w2=w)→(∀b,A=some b→(storeCells (b.add (n*e.cells)) new).run P w=.ok () w2)→(Builtin.append_ ts ty #[.slice A n c,x]).run P w=.ok (.slice A (n+k) c) w2:=by
  intro A hno hst;cases A with
  |none=>
   have:=hno rfl
   subst this;rcases h1 with h1|⟨t2,h1,h2|⟨e2,h2⟩⟩;simp[Builtin.append_,h0,h1,run_underlying hu,I.sizeOf,hlen,hfit,hnew];simp[Builtin.append_,h0,h1,run_underlying hu,run_underlying h2,I.sizeOf,hlen,hfit,hnew];simp[Builtin.append_,h0,h1,run_underlying hu,run_underlying h2,I.sizeOf,hlen,hfit,hnew]
  |some b=>
   have hs:=hst b rfl;rcases h1 with h1|⟨t2,h1,h2|⟨e2,h2⟩⟩;simp[Builtin.append_,h0,h1,run_underlying hu,I.sizeOf,hlen,hfit,hnew,hs];simp[Builtin.append_,h0,h1,run_underlying hu,run_underlying h2,I.sizeOf,hlen,hfit,hnew,hs];simp[Builtin.append_,h0,h1,run_underlying hu,run_underlying h2,I.sizeOf,hlen,hfit,hnew,hs]
 exact key A hno hst
theorem a9F{t t' ty:TypeId}{ts:Array TypeId}{x:Value}{e:Ty}(I:Info P e t')(h0:ts[0]?=some t)(hu:P.underlying t=some (.slice t'))
  (h1:ts[1]?=none∨∃t2,ts[1]?=some t2∧(P.underlying t2=some .string∨∃e,P.underlying t2=some (.slice e)))
  {A:Option Addr}{n c k:Nat}{old new:List Value}(hlen:(Builtin.lenOf x).run P w=.ok k w)(hnew:(Builtin.firstCells e.cells k x).run P w.drew=.ok new.toArray w.drew)
  (hold:(Builtin.firstCells e.cells n (.slice A n c)).run P w.drew=.ok old.toArray w.drew)(hg:c<n+k)(hlim:n+k<2147483648):
  (Builtin.append_ ts ty #[.slice A n c,x]).run P w=.ok (.slice (some ⟨w.heap.size,0,none⟩) (n+k) (grownCap w (n+k) c t'))
   (w.drew.alloc (.cells (old++(new++(Builtin.zeroCells I.z.cells (grownCap w (n+k) c t'-(n+k))).toList)).toArray t')):=by
 have hn:¬ (n+k≤c):=by omega
 have hfits:Builtin.nextslicecap (n+k) c*I.i.bytes≤281474976710656:=growslice_fits hg (by
  have:=Nat.mul_le_mul (Nat.le_of_lt hlim) I.bytes
  exact a41 this (by decide))
 have h48:¬ (281474976710656<Builtin.nextslicecap (n+k) c*I.i.bytes):=by omega
 have h63:¬ (9223372036854775807<((n:Int)+(k:Int))):=by omega
 have fin:∀X Y:Array Value,X.toList=Y.toList→w.drew.alloc (Obj.cells X t')=w.drew.alloc (Obj.cells Y t'):=fun X Y e=>by rw[Array.ext' e]
 rcases h1 with h1|⟨t2,h1,h2|⟨e2,h2⟩⟩;simp[Builtin.append_,h0,h1,run_underlying hu,I.sizeOf,I.typeInfo,I.zeroValue,hlen,hn,hnew,hold,h48,h63,Question.forced,newRow,grownCap];exact fin _ _ (by simp);simp[Builtin.append_,h0,h1,run_underlying hu,run_underlying h2,I.sizeOf,I.typeInfo,I.zeroValue,hlen,hn,hnew,hold,h48,h63,Question.forced,newRow,grownCap];exact fin _ _ (by simp);simp[Builtin.append_,h0,h1,run_underlying hu,run_underlying h2,I.sizeOf,I.typeInfo,I.zeroValue,hlen,hn,hnew,hold,h48,h63,Question.forced,newRow,grownCap];exact fin _ _ (by simp)
end
end Go.Ab
namespace Go.Ab
theorem c8d{m:Mem}{e:Ty}(he:e.sh=e){v:Value}{l:List e.den}{O R}(h:dec m (.list true e) ((Src.one v).rd m)=some (l,O,R)):
  (v=.slice none 0 0∧l=[]∧O=[]∧R=[])∨∃b n c,∃cs:List Value,v=.slice (some b) n c∧(c=0∨b.spot=none)∧n≤c∧n=l.length∧O=(if c=0 then[]else[(b.block,b.off+c*e.cells)])∧
   cs.length=n*e.cells∧(∀j u,cs[j]?=some u→m b.block (b.off+j)=some u)∧(∀u∈cs,a1j u=true)∧a0d (fun i=>dec m e fun j=>cs[i*e.cells+j]?) n 0=some (l,[],R):=by
 rcases a1z h with⟨hv,h2,h3,h4⟩|⟨b,n,c,os,hv,hb,hn,hx,ho⟩;simp only[Src.rd,if_true,sj]at hv;exact .inl ⟨hv,h2,h3,h4⟩;simp only[Src.rd,if_true,sj]at hv;have hx':a0d (fun i=>dec m e fun j=>m b.block (b.off+(i*e.cells+j))) n 0=some (l,os,R):=by simp only[b6J];exact hx
 have hos:os=[]:=by
  have h1:dec m (.arr n e) (fun j=>m b.block (b.off+j))=some (l,os,R):=hx';exact a9C (by simp only[Ty.shn,Ty.sh,he]) h1
 subst hos;obtain⟨cs,k1,k2,k3,k4⟩:=b2j hx';refine .inr ⟨b,n,c,cs,hv,hb,hn,(a0R n 0 hx).symm,?_,k1,k2,k3,k4⟩;rcases ho with⟨hc,ho⟩|⟨hc,ho⟩;rw[if_pos hc,ho];rw[if_neg hc,ho]
theorem b9z{m m0:Mem}{e:Ty}{b:Addr}{n c:Nat}{cs:List Value}{l:List e.den}{os R}(hb:c=0∨b.spot=none)(hnc:n≤c)(hlen:n*e.cells≤cs.length)(hm:∀j u,j<n*e.cells→cs[j]?=some u→m b.block (b.off+j)=some u)
  (hc:a0d (fun i=>dec m0 e fun j=>cs[i*e.cells+j]?) n 0=some (l,os,R))(hR:∀c∈R,∀j,m c j=m0 c j)(hos:∀c∈os.map (·.1),∀j,m c j=m0 c j:=by simp):
  dec m (.list true e) ((Src.one (.slice (some b) n c)).rd m)=some (l,if c=0 then[]else(b.block,b.off+c*e.cells)::os,R):=by
 have h1:dec m (.arr n e) (fun j=>m b.block (b.off+j))=some (l,os,R):=a0p (.arr n e) (show dec m0 (.arr n e) (fun j=>cs[j]?)=_ from hc) (fun j hj=>by
  have hj:j<n*e.cells:=hj;have hj':j<cs.length:=by omega
  rw[hm j cs[j] hj (lG hj'),lG hj']) (fun c j hb=>by
  rcases hb with hb|hb;exact hos c hb j;exact hR c hb j)
 have h1:a0d (fun i=>dec m e fun j=>m b.block (b.off+(i*e.cells+j))) n 0=some (l,os,R):=h1;show a0K m true e.cells (dec m e) (some (.slice (some b) n c))=_;simp only[a0K];rw[if_pos ⟨hb,hnc⟩,h1];simp only[if_true];split;rename_i h0;have hn0:n=0:=by omega
 subst hn0;simp only[a0d,sj,pJ]at h1;rw[h1.2.1];rfl
theorem b8l{m:Mem}:∀(p:a0N)(t:Ty)(s:Src){t' s'},loc m t s p=some (t',s')→p≠[]→∃b o,s'=.at b o
 | [],_,_,_,_,_,hp=>absurd rfl hp
 |.fst::p,t,s,t',s',hl,_=>by
  obtain⟨a,b',bl,so,rfl,rfl,hl⟩:=a7r hl;cases p with
  |nil=>simp only[loc,a0Q,sj,pJ]at hl;exact⟨_,_,hl.2.symm⟩
  |cons x p=>exact b8l (x::p) _ _ hl (by simp)
 |.snd::p,t,s,t',s',hl,_=>by
  obtain⟨a,b',bl,so,rfl,rfl,hl⟩:=a7s hl;cases p with
  |nil=>simp only[loc,a0Q,sj,pJ]at hl;exact⟨_,_,hl.2.symm⟩
  |cons x p=>exact b8l (x::p) _ _ hl (by simp)
 |.idx i::p,t,s,t',s',hl,_=>by
  rcases a5e hl with⟨n,t1,bl,so,rfl,rfl,hi,hl⟩|⟨t1,a,n,c,rfl,hv',hi,hl⟩
  ·cases p with
   |nil=>simp only[loc,a0Q,sj,pJ]at hl;exact⟨_,_,hl.2.symm⟩
   |cons x p=>exact b8l (x::p) _ _ hl (by simp)
  ·cases p with
   |nil=>simp only[loc,a0Q,sj,pJ]at hl;exact⟨_,_,hl.2.symm⟩
   |cons x p=>exact b8l (x::p) _ _ hl (by simp)
theorem a8r{Γ:AE}{n:Nat}(r:Option Root):(Γ.setRt n r).rt n=r:=by simp[AE.setRt]
section
variable {P:Program} {B:Base} {N:Nat} {ρ:Type} {Γ:AE} {a:Act} {w:World} {σ:Gh}
structure News (P:Program) (w:World) (m:Mem) (Sh:Nat→Prop) (e:Ty) (ys:List e.den) (x:Value) where
 cs:List Value
 len:(Builtin.lenOf x).run P w=.ok ys.length w
 size:cs.length=ys.length*e.cells
 one:∀u∈cs,a1j u=true
 R:List Nat
 rd:a0d (fun i=>dec m e fun j=>cs[i*e.cells+j]?) ys.length 0=some (ys,[],R)
 shr:∀c∈R,Sh c
 run:(Builtin.firstCells e.cells ys.length x).run P w=.ok cs.toArray w
 drew:(Builtin.firstCells e.cells ys.length x).run P w.drew=.ok cs.toArray w.drew
theorem Rel.turn{d:Nat}{K:AE→Rs ρ}{z:ρ}{n:Nat}{p:a0N}{r:Root}{e:Ty}{l l':List e.den}{v v':Value}{w2:World}{s O' R' O2 R2}(h:Rel B Γ N (a0k a) w σ)(hN:a.tmps.size=N)(hr:Γ.look n=some r)
  (hl:loc (a0a w σ.ov) r.t (σ.g n) p=some (.list true e,s))(hg:a0W r.t r.x p=⟨.list true e,l⟩)(hv:s.rd (a0a w σ.ov) 0=some v)
  (hd:dec (a0a w σ.ov) (.list true e) (s.rd (a0a w σ.ov))=some (l,O',R'))(hsub:∀q∈O',q∈σ.ow n)(hap:∀b o,s=.at b o→b∉O'.map (·.1))
  (hd2:dec (a0a w2 none) (.list true e) ((Src.one v').rd (a0a w2 none))=some (l',O2,R2))
  (hmem:∀c j,a0a w2 none c j=a0a w none c j∨c∈O'.map (·.1)∨w.heap.size≤c)
  (hO2:∀c∈O2.map (·.1),c∈O'.map (·.1)∨w.heap.size≤c)(hn2:(O2.map (·.1)).Nodup)(hlive:∀p∈O2,a0J w2 p.1 p.2)(hfree:∀c k,a0J w c k→a0L σ c→a0J w2 c k)
  (hsz:w.heap.size≤w2.heap.size)(hfr:∀b,b<B.size→¬ B.F b→w2.heap[b]?=B.hp b)(hR2:∀c∈R2,Shr B w σ c)
  (hz:(let Γ':=((Γ.mapv (AV.kill n p)).setRt n (some ⟨r.bx,r.t,a1y r.t r.x p (.list true e) l'⟩)).set d (.sref n p)
   match p,r.bx with
   | [],false=>bif decide (n<pinned)then K Γ' else none
   |p,_=>match Γ.pd with
    |none=>K { Γ' with pd:=some (n,p,d) }
    |some _=>none)=some z)(hio:a1H w2=a1H w:=by first|rfl|assumption):
  ∃Γ' σ',Rel B Γ' N (a0k (a.put (some d) v')) w2 σ'∧K Γ'=some z:=by
 obtain⟨hpd,hr⟩:=a0F hr;have hov:=h.ov_none hpd;have hR2':∀c∈R2,c<w2.heap.size∧(B.S c∨B.F c∨B.size≤c)∧¬ a0L σ c∧c∉O2.map (·.1):=fun c hc=>by
  have hs:=hR2 c hc;refine⟨a24 hs.1 hsz,hs.2.1,hs.2.2,fun g=>?_⟩;rcases hO2 c g with g|g;obtain⟨q,hq,rfl⟩:=a05.1 g;exact hs.2.2 ⟨n,a00 (hsub q hq)⟩
  have:=hs.1;omega
 have top:p=[]→r.bx=false→∃Γ' σ',Rel B Γ' N (a0k (a.put (some d) v')) w2 σ'∧K Γ'=some z:=by
  intro hp hbx;subst hp;obtain⟨bx,t,x⟩:=r;simp only at hbx;subst hbx;simp only[a0W,a1n]at hg;cases hg;have hz:(bif decide (n<pinned)then K (((Γ.mapv (AV.kill n [])).setRt n (some ⟨false,.list true e,a1y (.list true e) l [] (.list true e) l'⟩)).set d (.sref n []))else none)=some z:=hz;obtain⟨hnp,hz⟩:=(a0g hz).elim id fun h=>by cases h.2
  have hnp:n<pinned:=by simpa using hnp
  have hset:a1y (.list true e) l [] (.list true e) l'=l':=c0O _ _ _;replace hz:K (((Γ.mapv (AV.kill n [])).setRt n (some ⟨false,.list true e,l'⟩)).set d (.sref n []))=some z:=by
   have key:∀q,q=l'→K (((Γ.mapv (AV.kill n [])).setRt n (some ⟨false,.list true e,q⟩)).set d (.sref n []))=some z→K (((Γ.mapv (AV.kill n [])).setRt n (some ⟨false,.list true e,l'⟩)).set d (.sref n []))=some z:=by
    rintro q rfl h;exact h
   exact key _ hset hz
  have hrel:=h.top hr hnp hpd (w':=w2) (v':=v') (l':=l') (by rw[hov];exact hd2) (fun c j hc hn=>by
    rw[hov];rcases hmem c j with g|g|g;exact g;obtain⟨q,hq,rfl⟩:=a05.1 g;exact absurd (a00 (hsub q hq)) hn;omega) (fun c hc=>(hO2 c hc).imp (fun g=>by
    obtain⟨q,hq,rfl⟩:=a05.1 g;exact a00 (hsub q hq)) id) hn2 hlive hfree hsz hfr hR2' (f:=AV.kill n []) (fun av=>by
    cases av with
    |ptr m q=>
     simp only[AV.kill]
     by_cases hm:m=n
     ·subst hm;cases q with
      |nil=>exact .inr ⟨by simp,fun k q h1 h2=>rfl⟩
      |cons=>left;simp[a3L]
     right;have hmn:(m==n)=false:=by simpa using hm
     refine⟨by simp[hmn],fun k q h1 h2=>?_⟩;rcases h1 with h1|h1|⟨_,_,h1⟩<;>cases h1;exact absurd h2 hm
    |sref m q=>
     simp only[AV.kill]
     by_cases hm:m=n
     left;simp[hm,a3L];right;have hmn:(m==n)=false:=by simpa using hm
     refine⟨by simp[hmn],fun k q h1 h2=>?_⟩;rcases h1 with h1|h1|⟨_,_,h1⟩<;>cases h1;exact absurd h2 hm
    |swin m q o k=>
     simp only[AV.kill]
     by_cases hm:m=n
     left;simp[hm,a3L];right;have hmn:(m==n)=false:=by simpa using hm
     refine⟨by simp[hmn],fun k q h1 h2=>?_⟩;rcases h1 with h1|h1|⟨_,_,h1⟩<;>cases h1;exact absurd h2 hm
    |_=>exact .inr ⟨rfl,fun k q h1 _=>by rcases h1 with h1|h1|⟨_,_,h1⟩<;>cases h1⟩)
  refine⟨_,_,hrel.putd (sv:=.one (.sref n [])) (v:=v') hN (fun _=>⟨⟨false,.list true e,l'⟩,e,.one v',a8r _,?_,rfl⟩),hz⟩;show some (_,if n=n then Src.one v' else _)=_
  rw[if_pos rfl]
 have pnd:(∃b o,s=.at b o)→K { (((Γ.mapv (AV.kill n p)).setRt n (some ⟨r.bx,r.t,a1y r.t r.x p (.list true e) l'⟩)).set d (.sref n p))with pd:=some (n,p,d) }=some z→
   ∃Γ' σ',Rel B Γ' N (a0k (a.put (some d) v')) w2 σ'∧K Γ'=some z:=by
  rintro⟨b,o,rfl⟩ hz
  have hb:=h.place hr hl;have hbo:a0L σ b:=⟨n,hb⟩;have hblt:=h.lt hbo;have hbO2:b∉O2.map (·.1):=fun g=>by
   rcases hO2 b g with g|g;exact hap b o rfl g;omega
  have hbR2:b∉R2:=fun g=>(hR2 b g).2.2 hbo;have hm2:∀c j,c≠b→a0a w2 (some (b,o,v')) c j=a0a w2 none c j:=fun c j hc=>by
   simp only[a0a];rw[if_neg (fun g=>hc g.1)]
  have hd3:dec (a0a w2 (some (b,o,v'))) (.list true e) ((Src.at b o).rd (a0a w2 (some (b,o,v'))))=some (l',O2,R2):=a0p _ hd2 (fun j hj=>by
   have hj0:j=0:=by simp only[Ty.cells]at hj;omega
   subst hj0;simp[Src.rd,a0a]) (fun c j hc=>hm2 c j fun e=>by
    subst e;rcases hc with hc|hc;exact hbO2 hc;exact hbR2 hc)
  obtain⟨ow',how,hrel⟩:=h.chg hr hl hd (w':=w2) (ov':=some (b,o,v')) (pd':=some (n,p,d)) (.new d v' e hpd rfl) hd3 (fun c j=>by
    by_cases hc:c=b∧j=o
    exact .inr (.inl ⟨hc.1,by omega,by simp only[Ty.cells];omega⟩);have e1:a0a w2 (some (b,o,v')) c j=a0a w2 none c j:=by
     simp only[a0a];rw[if_neg (fun g=>hc ⟨g.1,g.2⟩)]
    rw[e1,hov];rcases hmem c j with g|g|g;exact .inl g;exact .inr (.inr (.inl g));exact .inr (.inr (.inr g))) hO2 hn2 hlive hfree hsz hfr hR2' (f:=AV.kill n p) (fun av=>b6M n p _ av)
  obtain⟨r'',e'',h1,h2⟩:=hrel.pend;exact⟨_,_,hrel.putd (sv:=.one (.sref n p)) (v:=v') hN (fun _=>⟨r'',e'',.at b o,h1,h2,by simp[Src.rd,a0a]⟩),hz⟩
 cases p with
 |nil=>
  cases hb:r.bx with
  |false=>
   exact top rfl hb
  |true=>
   have hz2:(match Γ.pd with
    |none=>K { (((Γ.mapv (AV.kill n [])).setRt n (some ⟨r.bx,r.t,a1y r.t r.x [] (.list true e) l'⟩)).set d (.sref n []))with pd:=some (n,[],d) }
    |some _=>none)=some z:=by
    revert hz
    cases r;simp only at hb;subst hb;exact id
   rw[hpd]at hz2;refine pnd ?_ hz2;simp only[loc,a0Q,sj,pJ]at hl;obtain⟨O'',R'',-,-,-,-,-,h6⟩:=h.sep hr;rcases h6 with⟨-,b,hs,-⟩|⟨hbx,-⟩;exact⟨b,0,by rw[←hl.2,hs]⟩;rw[hb]at hbx;cases hbx
 |cons x p=>
  have hz2:(match Γ.pd with
   |none=>K { (((Γ.mapv (AV.kill n (x::p))).setRt n (some ⟨r.bx,r.t,a1y r.t r.x (x::p) (.list true e) l'⟩)).set d (.sref n (x::p)))with pd:=some (n,x::p,d) }
   |some _=>none)=some z:=hz
  rw[hpd]at hz2;exact pnd (b8l _ _ _ hl (by simp)) hz2
end
end Go.Ab
namespace Go.Ab
section
variable {P:Program} {B:Base} {N:Nat} {ρ:Type} {Γ:AE} {a:Act} {w:World} {σ:Gh}
theorem a6U(b:Nat):∀(vs:List Value)(o:Nat)(w:World),a1H (w.setCells b o vs)=a1H w
 | [],_,_=>rfl
 |v::r,o,w=>(a6U b r (o+1) (w.setCell ⟨b,o,none⟩ v)).trans rfl
theorem c1G{z:Array Value}(n:Nat):Builtin.zeroCells z n=madeCells z (n*z.size):=rfl
theorem d0J{q:Bool}{d:Nat}{e:Ty}(he:e.sh=e){t t' ty:TypeId}{ts:Array TypeId}(I:Info P e t')(h0:ts[0]?=some t)(hu:P.underlying t=some (.slice t'))
  (h1:ts[1]?=none∨∃t2,ts[1]?=some t2∧(P.underlying t2=some .string∨∃e,P.underlying t2=some (.slice e)))
  {av:AV}{s x:Value}{ys:List e.den}{K:AE→Rs ρ}{z:ρ}(h:Rel B Γ N (a0k a) w σ)(hN:a.tmps.size=N)(hav:a0i (a0a w σ.ov) σ.g Γ.rt (Shr B w σ) av s)
  (Y:News P w (a0a w σ.ov) (Shr B w σ) e ys x)(hz:Γ.apnd q d e av ys K=some z):
  ∃v w' Γ' σ',(Builtin.append_ ts ty #[s,x]).run P w=.ok v w'∧Rel B Γ' N (a0k (a.put (some d) v)) w' σ'∧K Γ'=some z:=by

 have row:∀(l:List e.den)(n:Nat)(cs:List Value)(R:List Nat)(rest:List Value),cs.length=n*e.cells→a0d (fun i=>dec (a0a w σ.ov) e fun j=>cs[i*e.cells+j]?) n 0=some (l,[],R)→
   a0d (fun i=>dec (a0a w σ.ov) e fun j=>(cs++(Y.cs++rest)).toArray[i*e.cells+j]?) (n+ys.length) 0=some (a29 l ys,[],R++Y.R):=by
  intro l n cs R rest hl hc;simp only[a19];exact b9N hc hl Y.rd Y.size
 have zsz:∀k,(Builtin.zeroCells I.z.cells k).size=k*e.cells:=fun k=>by rw[c1G,size_madeCells,I.zsize]
 have nil0:∀A:Option Addr,s=.slice A 0 0→(bif lim ys.length then Γ.fresh q d ⟨false,.list true e,ys⟩ fun Γ=>K (Γ.set d (.sref d []))else none)=some z→
   ∃v w' Γ' σ',(Builtin.append_ ts ty #[s,x]).run P w=.ok v w'∧Rel B Γ' N (a0k (a.put (some d) v)) w' σ'∧K Γ'=some z:=by
  intro A hs hz;subst hs;obtain⟨hlim,hz⟩:lim ys.length=true∧_:=(a0g hz).elim id fun h=>by cases h.2
  simp only[lim,dT]at hlim
  by_cases hk:ys.length=0
  ·have hcs:Y.cs=[]:=a02.1 (by rw[Y.size,hk];omega);have hy:ys=[]:=a02.1 hk;have hrun:=a5p (P:=P) (w2:=w) (ty:=ty) I h0 hu h1 (A:=A) (n:=0) (c:=0) Y.len Y.run (by omega) (fun b _=>by rw[hcs];rfl) (fun _=>rfl);obtain⟨Γ',σ',g1,g2,g3,g4,g5,g6⟩:=h.fresh hz (fun _ _=>rfl) (a06 _) (s:=.one (.slice A (0+ys.length) 0)) (O:=[]) (by simp) (by simp) (by simp) ⟨[],[],by
    show a0K (a0a w σ.ov) true e.cells (dec (a0a w σ.ov) e) (some (.slice A (0+ys.length) 0))=some (ys,[],[]);rw[hk,hy];cases A with
    |none=>rfl
    |some b=>simp[a0K,a0d],by simp,.inr ⟨rfl,⟨_,rfl⟩,⟨e,rfl⟩,rfl⟩⟩
   exact⟨_,w,_,σ',hrun,g2.putd (sv:=.one (.sref d [])) hN (fun _=>⟨_,e,_,g3,by rw[g4];rfl,rfl⟩),g1⟩
  have hold:(Builtin.firstCells e.cells 0 (.slice A 0 0)).run P w.drew=.ok ([]:List Value).toArray w.drew:=by
   have:=a9O (P:=P) (w:=w) (w2:=w.drew) (e:=e) (v:=.slice A 0 0) (cs:=[]) rfl (fun _=>rfl) (by simp) (by simp) (fun _=>rfl) 0 (by omega)
   simpa using this
  have hrun:=a9F (P:=P) (w:=w) (ty:=ty) I h0 hu h1 (A:=A) (n:=0) (c:=0) Y.len Y.drew hold (by omega) (by omega);have hg:=grownCap_ge w (0+ys.length) 0 t';obtain⟨Γ',σ',g1,g2,g3,-,-⟩:=h.newSlice (c:=grownCap w (0+ys.length) 0 t') hz (fun c hc=>a1J (w:=w.drew) _ c hc) (a1V (w:=w.drew) _)
   (a1K (w:=w.drew) (Obj.cells (([]:List Value)++(Y.cs++(Builtin.zeroCells I.z.cells (grownCap w (0+ys.length) 0 t'-(0+ys.length))).toList)).toArray t')) (.inl rfl) (by
    have:(([]:List Value)++(Y.cs++(Builtin.zeroCells I.z.cells (grownCap w (0+ys.length) 0 t'-(0+ys.length))).toList)).length=grownCap w (0+ys.length) 0 t'*e.cells:=by
     simp only[a37,lN,Y.size,a36,zsz];rw[←a26];congr 1;omega
    rw[a38,this];exact a06 _) (by omega) (by
    have:=row [] 0 [] [] (Builtin.zeroCells I.z.cells (grownCap w (0+ys.length) 0 t'-(0+ys.length))).toList (by simp) rfl
    rw[a03]at this;rw[a03];exact this) Y.shr
  refine⟨_,_,_,σ',hrun,g2.putd (sv:=.one (.sref d [])) hN (fun _=>?_),g1⟩;rw[a03]at g3⊢;exact g3
 unfold AE.apnd at hz
 split at hz
 have hav:s=.slice none 0 0:=hav;exact nil0 none hav hz;obtain⟨A,hv⟩:=hav;exact nil0 A hv hz;rename_i n p;obtain⟨-,hz⟩:q=false∧_:=by
  by_cases hq:q
  rw[hq]at hz;simp at hz;exact⟨by simpa using hq,(a0g hz).elim (fun h=>absurd h.1 hq) (·.2)⟩
 split at hz
 rename_i r hr;obtain⟨hpd,hr'⟩:=a0F hr;have hov:=h.ov_none hpd
 split at hz
 rename_i e' l hg
 split at hz
 rename_i hee;subst hee;obtain⟨hlim,hz⟩:lim (a18 l+ys.length)=true∧_:=(a0g hz).elim id fun h=>by cases h.2
 simp only[lim,dT]at hlim;obtain⟨s',O',R',f1,f2,f3,f4,f5,f6,f7,f8⟩:=h.own hav hr' hg;have hsh:∀c∈R'++Y.R,Shr B w σ c:=fun c hc=>(mA.1 hc).elim (f5 c) (Y.shr c);have hownb:∀c∈O'.map (·.1),a0L σ c:=fun c hc=>by
  obtain⟨q,hq,rfl⟩:=a05.1 hc;exact⟨n,a00 (f6 q hq)⟩

 have grow:∀(A:Option Addr)(n0 c:Nat)(cs:List Value),s=.slice A n0 c→n0=a18 l→cs.length=n0*e.cells→(∀b,A=some b→∀j u,cs[j]?=some u→w.cell? (b.add j)=some u)→(A=none→n0=0)→
   a0d (fun i=>dec (a0a w σ.ov) e fun j=>cs[i*e.cells+j]?) n0 0=some (l,[],R')→c<n0+ys.length→
   ∃v w' Γ' σ',(Builtin.append_ ts ty #[s,x]).run P w=.ok v w'∧Rel B Γ' N (a0k (a.put (some d) v)) w' σ'∧K Γ'=some z:=by
  intro A n0 c cs hs hn0 hcl hcell hnone hcol hgt;subst hs;have hold:(Builtin.firstCells e.cells n0 (.slice A n0 c)).run P w.drew=.ok cs.toArray w.drew:=by
   have:=a9O (P:=P) (w:=w) (w2:=w.drew) (e:=e) (v:=.slice A n0 c) (cs:=cs) rfl (fun _=>rfl) hcl hcell hnone n0 (a06 _)
   rw[←hcl,a66]at this;exact this
  have hrun:=a9F (P:=P) (w:=w) (ty:=ty) I h0 hu h1 (A:=A) (n:=n0) (c:=c) Y.len Y.drew hold hgt (by rw[hn0];exact hlim);have hge:=grownCap_ge w (n0+ys.length) c t';generalize hw2:w.drew.alloc _=w2 at hrun;generalize hgc:grownCap w (n0+ys.length) c t'=gc at hrun hge;have hold2:∀c,c<w.heap.size→w2.heap[c]?=w.heap[c]?:=fun c hc=>by rw[←hw2];exact a1J (w:=w.drew) _ c hc
  have hnew2:=a1K (w:=w.drew) (.cells (cs++(Y.cs++(Builtin.zeroCells I.z.cells (gc-(n0+ys.length))).toList)).toArray t');have hnew2:w2.heap[w.heap.size]?=some (.cells (cs++(Y.cs++(Builtin.zeroCells I.z.cells (gc-(n0+ys.length))).toList)).toArray t'):=by
   rw[←hw2,hgc];exact hnew2
  have hsz2:w.heap.size≤w2.heap.size:=by rw[←hw2];exact a1V (w:=w.drew) _
  have hcs2:(cs++(Y.cs++(Builtin.zeroCells I.z.cells (gc-(n0+ys.length))).toList)).length=gc*e.cells:=by
   simp only[lN,hcl,Y.size,a36,zsz];rw[←a26,←a26];congr 1;omega
  have hd2:=b9z (m:=a0a w2 none) (m0:=a0a w σ.ov) (b:=⟨w.heap.size,0,none⟩) (n:=n0+ys.length) (c:=gc) (cs:=cs++(Y.cs++(Builtin.zeroCells I.z.cells (gc-(n0+ys.length))).toList)) (.inr rfl) hge (by
    rw[hcs2];exact a27 _ hge) (fun j u _ hu=>by
    simp only[a0a,a03,World.cell?,hnew2];simpa using hu) (by
    have:=row l n0 cs R' (Builtin.zeroCells I.z.cells (gc-(n0+ys.length))).toList hcl hcol
    simpa only[a19]using this) (fun c hc j=>by
    rw[hov];exact a1c none (hold2 c (hsh c hc).1) j)
  have hgc0:gc≠0:=by omega
  rw[if_neg hgc0]at hd2;have hfree:∀c k,a0J w c k→a0J w2 c k:=fun c k hf=>by
   obtain⟨cc,e1,lo,hi,g1,g2⟩:=hf;exact⟨cc,e1,lo,hi,by rw[hold2 c (a44.1 g1).1];exact g1,g2⟩
  obtain⟨Γ',σ',k1,k2⟩:=h.turn (w2:=w2) hN hr f1 hg f2 f3 f6 f8 hd2 (fun c j=>by
    by_cases hc:c<w.heap.size
    exact .inl (a1c none (hold2 c hc) j);exact .inr (.inr (by omega))) (fun c hc=>by
    simp only[a04,a25,a34]at hc;exact .inr (by omega)) (by simp) (fun p hp=>by
    simp only[a34]at hp;subst hp;exact⟨_,t',0,0,hnew2,by show 0+gc*e.cells≤_;rw[a38,hcs2];omega,.inl rfl⟩) (fun c k hf _=>hfree c k hf) hsz2 (fun b hb hF=>by
    have:=h.size
    rw[hold2 b (by omega)];exact h.frame b hb hF) hsh hz (hio:=by rw[←hw2];rfl)
  exact⟨_,w2,Γ',σ',hrun,k1,k2⟩
 rcases c8d he f4 with⟨hs,hl0,hO0,hR0⟩|⟨b,n0,c,cs,hs,hb,hnc,hn0,hO,hcl,hcell,hone,hcol⟩
 by_cases hk:ys.length=0
 have hcs:Y.cs=[]:=a02.1 (by rw[Y.size,hk];omega);have hy:ys=[]:=a02.1 hk;have hrun:=a5p (P:=P) (w2:=w) (ty:=ty) I h0 hu h1 (A:=none) (n:=0) (c:=0) Y.len Y.run (by omega) (fun b hb=>by cases hb) (fun _=>rfl);subst hs;obtain⟨Γ',σ',k1,k2⟩:=h.turn (w2:=w) (v':=.slice none (0+ys.length) 0) (O2:=[]) (R2:=[]) (l':=a29 l ys) hN hr f1 hg f2 f3 f6 f8 (by
   rw[hk,hy]
   have:a29 l ([]:List e.den)=[]:=by rw[hl0];rfl
   rw[this];rfl) (fun c j=>.inl rfl) (by simp) (by simp) (by simp) (fun _ _ hf _=>hf) (a06 _) h.frame (by simp) hz
 exact⟨_,w,Γ',σ',hrun,k1,k2⟩;exact grow none 0 0 [] hs (by rw[hl0];rfl) (by simp) (by simp) (fun _=>rfl) (by rw[hl0,hR0];rfl) (by omega);have hcell':∀b',some b=some b'→∀j u,cs[j]?=some u→w.cell? (b'.add j)=some u:=fun b' hb' j u hu=>by
  simp only[sj]at hb';subst hb';have hc0:c≠0:=fun e0=>by
   have:=(lS.1 hu).1
   rw[hcl,show n0=0 from by omega,a47]at this;omega
  rw[b3F (hb.resolve_left hc0)]
  have:=hcell j u hu
  rw[hov]at this;exact this
 by_cases hfit:n0+ys.length≤c
 
 let w2:=w.setCells b.block (b.off+n0*e.cells) Y.cs
 have hlive:c≠0→a0J w b.block (b.off+c*e.cells):=fun hc=>h.live n (b.block,b.off+c*e.cells) (f6 _ (by rw[hO,if_neg hc];simp));have hroom:Y.cs≠[]→c≠0∧b.off+n0*e.cells+Y.cs.length≤b.off+c*e.cells:=fun hne=>by
  have:ys.length≠0:=fun e0=>hne (a02.1 (by rw[Y.size,e0];omega))
  refine⟨by omega,?_⟩
  have:=a27 e.cells hfit
  rw[a26,←Y.size]at this;omega
 have hstore:(storeCells (b.add (n0*e.cells)) Y.cs).run P w=.ok () w2:=by
  by_cases hne:Y.cs=[]
  simp only[w2,hne];rfl;obtain⟨hc,hle⟩:=hroom hne;rw[a2Z (hb.resolve_left hc)]
  have:=run_storeCells_cells (P:=P) b.block (b.off+n0*e.cells) Y.cs 0 w (fun j hj=>((hlive hc).cell (by omega)).1) (fun j hj=>((hlive hc).cell (by omega)).2) (fun u hu=>a7I (Y.one u hu))
  simpa using this
 have hcells:∀c' j,w2.cell? ⟨c',j,none⟩=if c'=b.block∧b.off+n0*e.cells≤j∧j<b.off+n0*e.cells+Y.cs.length then Y.cs[j-(b.off+n0*e.cells)]? else w.cell? ⟨c',j,none⟩:=fun c' j=>by
  by_cases hne:Y.cs=[]
  simp only[w2,hne,World.setCells,a31];rw[if_neg (by omega)];obtain⟨hc,hle⟩:=hroom hne;exact a6T _ _ _ w _ (hlive hc) hle c' j
 have hrun:=a5p (P:=P) (w2:=w2) (ty:=ty) I h0 hu h1 (A:=some b) (n:=n0) (c:=c) Y.len Y.run hfit (fun b' hb'=>by
  simp only[sj]at hb';subst hb';exact hstore) (fun hn=>by cases hn)
 have hother:∀c',c'≠b.block→w2.heap[c']?=w.heap[c']?:=fun c' hc'=>a3z _ _ _ _ _ hc';have hbO:Y.cs≠[]→b.block∈O'.map (·.1):=fun hne=>by rw[hO,if_neg (hroom hne).1];simp
 have hd2:=b9z (m:=a0a w2 none) (m0:=a0a w σ.ov) (b:=b) (n:=n0+ys.length) (c:=c) (cs:=cs++(Y.cs++[])) (l:=a29 l ys) (R:=R'++Y.R) hb hfit (by
   simp only[lN,hcl,Y.size,a31];rw[a26];omega) (fun j u hj hu=>by
   simp only[a0a,hcells]
   by_cases hj2:j<n0*e.cells
   rw[if_neg (by omega)];rw[a16 (by omega)]at hu
   have:=hcell j u hu
   rw[hov]at this;exact this;rw[a26,←Y.size]at hj;rw[if_pos ⟨trivial,by omega,by omega⟩];rw[a09 (by omega),a70,hcl]at hu;rw[←hu];congr 1;omega) (by
   have:=row l n0 cs R' [] hcl hcol
   simpa only[a19]using this) (fun c' hc' j=>by
   rw[hov]
   by_cases hne:Y.cs=[]
   simp only[w2,hne,World.setCells];exact a1c none (hother c' fun e1=>(hsh c' hc').2.2 (by rw[e1];exact hownb _ (hbO hne))) j)
 rw[←hO]at hd2;subst hs;obtain⟨Γ',σ',k1,k2⟩:=h.turn (w2:=w2) hN hr f1 hg f2 f3 f6 f8 hd2 (fun c' j=>by
   by_cases hne:Y.cs=[]
   left;simp only[w2,hne,World.setCells]
   by_cases hc':c'=b.block
   exact .inr (.inl (by rw[hc'];exact hbO hne));exact .inl (a1c none (hother c' hc') j)) (fun c' hc'=>.inl hc') f7 (fun p hp=>(h.live n p (f6 p hp)).setCells _ _ _) (fun _ _ hf _=>hf.setCells _ _ _) (by rw[a5f];exact a06 _) (fun b' hb' hF=>by
   by_cases hne:Y.cs=[]
   simp only[w2,hne,World.setCells];exact h.frame b' hb' hF;rw[hother b' ?_];exact h.frame b' hb' hF
   rintro rfl
   rcases h.mine _ (hownb _ (hbO hne))with g|g;exact hF g;omega) hsh hz (hio:=a6U _ _ _ _)
 exact⟨_,w2,Γ',σ',hrun,k1,k2⟩;exact grow (some b) n0 c cs hs hn0 hcl hcell' (by simp) hcol (by omega);cases hz;cases hz;cases hz;cases hz
end
end Go.Ab
namespace Go.Ab
theorem c8e{m:Mem}{e:Ty}{v:Value}{l:List e.den}{O R}(h:dec m (.list true e) ((Src.one v).rd m)=some (l,O,R)):
  ∃A n c,∃cs:List Value,∃os,v=.slice A n c∧n=l.length∧n≤c∧cs.length=n*e.cells∧(∀u∈cs,a1j u=true)∧a0d (fun i=>dec m e fun j=>cs[i*e.cells+j]?) n 0=some (l,os,R)∧
   (∀b,A=some b→(c=0∨b.spot=none)∧O=(if c=0 then[]else(b.block,b.off+c*e.cells)::os)∧∀j u,cs[j]?=some u→m b.block (b.off+j)=some u)∧(A=none→c=0)∧(c=0→O=[]∧os=[]∧R=[]):=by
 rcases a1z h with⟨hv,rfl,rfl,rfl⟩|⟨b,n,c,os,hv,hb,hn,hx,ho⟩;simp only[Src.rd,if_true,sj]at hv;exact⟨none,0,0,[],[],hv,rfl,a06 _,by simp,by simp,rfl,by simp,fun _=>rfl,fun _=>⟨rfl,rfl,rfl⟩⟩;simp only[Src.rd,if_true,sj]at hv;have hx':a0d (fun i=>dec m e fun j=>m b.block (b.off+(i*e.cells+j))) n 0=some (l,os,R):=by simp only[b6J];exact hx
 obtain⟨cs,k1,k2,k3,k4⟩:=b2j hx';have h0:c=0→os=[]∧R=[]:=fun e0=>by
  have hn0:n=0:=by omega
  subst hn0;simp only[a0d,sj,pJ]at k4;exact⟨k4.2.1.symm,k4.2.2.symm⟩
 have hO:O=if c=0 then[]else(b.block,b.off+c*e.cells)::os:=by
  rcases ho with⟨hc,ho⟩|⟨hc,ho⟩;rw[if_pos hc,ho,(h0 hc).1];rw[if_neg hc,ho]
 exact⟨some b,n,c,cs,os,hv,(a0R n 0 hx).symm,hn,k1,k3,k4,fun b' hb'=>by
  simp only[sj]at hb';subst hb';exact⟨hb,hO,k2⟩,fun g=>(by cases g),fun e0=>⟨by rw[hO,if_pos e0],(h0 e0).1,(h0 e0).2⟩⟩
section
variable {P:Program} {B:Base} {N:Nat} {ρ:Type} {Γ:AE} {a:Act} {w:World} {σ:Gh}
theorem Rel.one{tm}(h:Rel B Γ N tm w σ){n}{e:Ty}{l:List e.den}(hr:Γ.rt n=some ⟨false,.list true e,l⟩):
  ∃v R,σ.g n=.one v∧dec (a0a w σ.ov) (.list true e) ((Src.one v).rd (a0a w σ.ov))=some (l,σ.ow n,R)∧∀c∈R,Shr B w σ c:=by
 obtain⟨O',R,h1,h2,-,-,-,h3⟩:=h.sep hr;rcases h3 with⟨g,-⟩|⟨-,⟨v,hv⟩,-,hO⟩;cases g;rw[hv]at h1;exact⟨v,R,hv,by rw[hO];exact h1,h2⟩
theorem c1H{d m n:Nat}{es e:Ty}{ys:List e.den}(hes:e.sh=es){t t' ty:TypeId}{ts:Array TypeId}(I:Info P es t')(h0:ts[0]?=some t)(hu:P.underlying t=some (.slice t'))
  (h1:ts[1]?=none∨∃t2,ts[1]?=some t2∧(P.underlying t2=some .string∨∃e,P.underlying t2=some (.slice e)))
  {s x:Value}{K:AE→Rs ρ}{z:ρ}(h:Rel B Γ N (a0k a) w σ)(hN:a.tmps.size=N)(hgn:σ.g n=.one s)(hgm:σ.g m=.one x)(hm:Γ.rt m=some ⟨false,.list true e,ys⟩)(hz:Γ.gathN d m e ys n K=some z):
  ∃v w' Γ' σ',(Builtin.append_ ts ty #[s,x]).run P w=.ok v w'∧Rel B Γ' N (a0k (a.put (some d) v)) w' σ'∧K Γ'=some z:=by
 have hce:es.cells=e.cells:=by rw[←hes,Ty.cells_sh]
 unfold AE.gathN at hz
 split at hz
 rotate_left;cases hz;rename_i e' l hl
 split at hz
 rotate_left;cases hz;rename_i hee;subst hee;obtain⟨hpd,hr⟩:=a0F hl;obtain⟨hc,hz⟩:=(a0g hz).elim id fun h=>by cases h.2
 simp only[bA,lim,dT,a49,beq_eq_false_iff_ne]at hc;obtain⟨⟨hnp,hnm⟩,hlim⟩:=hc;have hov:=h.ov_none hpd;obtain⟨s',Rn,g1,g2,g3⟩:=h.one hr;rw[hgn]at g1;cases g1;obtain⟨x',Rm,f1,f2,f3⟩:=h.one hm;rw[hgm]at f1;cases f1;obtain⟨An,n0,cn,csn,osn,hs,hln,hnc,hcn,hsn,hrn,hAn,hAn0,hcn0⟩:=c8e g2;obtain⟨Am,k0,cm,csm,osm,hx,hlm,hmc,hcm,hsm,hrm,hAm,hAm0,hcm0⟩:=c8e f2;subst hs;subst hx;have cell:∀{A:Option Addr}{cs:List Value}{c:Nat}{O os:a0U},(∀b,A=some b→(c=0∨b.spot=none)∧O=(if c=0 then[]else(b.block,b.off+c*e.cells)::os)∧∀j u,cs[j]?=some u→a0a w σ.ov b.block (b.off+j)=some u)→(∃n,cs.length=n*e.cells∧n≤c)→
   ∀b,A=some b→∀j u,cs[j]?=some u→w.cell? (b.add j)=some u:=fun {A cs c O os} hA ⟨n,hl,hle⟩ b hb j u hu=>by
  obtain⟨q1,-,q2⟩:=hA b hb;have hc0:c≠0:=fun e0=>by
   have:=(lS.1 hu).1
   rw[hl,show n=0 from by omega,a47]at this;omega
  rw[b3F (q1.resolve_left hc0)]
  have:=q2 j u hu
  rw[hov]at this;exact this
 have read:∀(w2:World),(∀x,w2.cell? x=w.cell? x)→∀{A:Option Addr}{cs:List Value}{n c:Nat}{O os:a0U},(∀b,A=some b→(c=0∨b.spot=none)∧O=(if c=0 then[]else(b.block,b.off+c*e.cells)::os)∧∀j u,cs[j]?=some u→a0a w σ.ov b.block (b.off+j)=some u)→
   cs.length=n*e.cells→n≤c→(A=none→c=0)→(Builtin.firstCells es.cells n (.slice A n c)).run P w2=.ok cs.toArray w2:=fun w2 hw A cs n c O os hA hl hle h0=>by
  have:=a9O (P:=P) (w:=w) (w2:=w2) (e:=e) (v:=.slice A n c) rfl hw hl (cell hA ⟨n,hl,hle⟩) (fun g=>by have:=h0 g;omega) n (a06 _)
  rw[←hl,a66]at this;rw[hce];exact this
 have hlen:(Builtin.lenOf (.slice Am k0 cm)).run P w=.ok k0 w:=rfl;have hrows:∀rest,a0d (fun i=>dec (a0a w σ.ov) e fun j=>(csn++(csm++rest))[i*e.cells+j]?) (n0+k0) 0=some (a29 l ys,osn++osm,Rn++Rm):=fun rest=>b9N hrn hcn hrm hcm;have hsubn:∀p∈osn,p∈σ.ow n:=fun p hp=>by
  by_cases e0:cn=0
  rw[(hcn0 e0).2.1]at hp;cases hp
  ·cases hA:An with
   |none=>exact absurd (hAn0 hA) e0
   |some b=>rw[(hAn b hA).2.1,if_neg e0];exact a08 _ hp
 have hsubm:∀p∈osm,p∈σ.ow m:=fun p hp=>by
  by_cases e0:cm=0
  rw[(hcm0 e0).2.1]at hp;cases hp
  ·cases hA:Am with
   |none=>exact absurd (hAm0 hA) e0
   |some b=>rw[(hAm b hA).2.1,if_neg e0];exact a08 _ hp
 have hos:∀p∈osn++osm,p∈σ.ow n∨p∈σ.ow m:=fun p hp=>(mA.1 hp).imp (hsubn p) (hsubm p);have hosO:∀c∈(osn++osm).map (·.1),a0L σ c:=fun c hc=>by
  obtain⟨p,hp,rfl⟩:=a05.1 hc;rcases hos p hp with g|g;exact⟨n,a00 g⟩;exact⟨m,a00 g⟩
 have hndn:(osn.map (·.1)).Nodup:=by
  have:=h.nodup n
  by_cases e0:cn=0
  rw[(hcn0 e0).2.1];simp
  ·cases hA:An with
   |none=>exact absurd (hAn0 hA) e0
   |some b=>rw[(hAn b hA).2.1,if_neg e0]at this;exact(a17.1 this).2
 have hndm:(osm.map (·.1)).Nodup:=by
  have:=h.nodup m
  by_cases e0:cm=0
  rw[(hcm0 e0).2.1];simp
  ·cases hA:Am with
   |none=>exact absurd (hAm0 hA) e0
   |some b=>rw[(hAm b hA).2.1,if_neg e0]at this;exact(a17.1 this).2
 have hnd:((osn++osm).map (·.1)).Nodup:=by
  rw[pA];refine a20.2 ⟨hndn,hndm,fun c hc c' hc' e=>?_⟩;subst e;obtain⟨p,hp,rfl⟩:=a05.1 hc;obtain⟨p',hp',e⟩:=a05.1 hc';exact h.disj n m hnm p.1 (a00 (hsubn p hp)) (by rw[←e];exact a00 (hsubm p' hp'))
 have hshr:∀c∈Rn++Rm,Shr B w σ c:=fun c hc=>(mA.1 hc).elim (g3 c) (f3 c)

 have fin:∀{w2:World}{v':Value}{O2:a0U},dec (a0a w2 none) (.list true e) ((Src.one v').rd (a0a w2 none))=some (a29 l ys,O2,Rn++Rm)→
   (∀c j,c<w.heap.size→c∉(σ.ow n).map (·.1)→a0a w2 none c j=a0a w none c j)→(∀c∈O2.map (·.1),(c∈(σ.ow n).map (·.1)∨c∈(σ.ow m).map (·.1))∨w.heap.size≤c)→(O2.map (·.1)).Nodup→
   (∀p∈O2,a0J w2 p.1 p.2)→(∀c k,a0J w c k→a0L σ c→a0J w2 c k)→w.heap.size≤w2.heap.size→(∀b,b<B.size→¬ B.F b→w2.heap[b]?=B.hp b)→a1H w2=a1H w→
   ∃Γ' σ',Rel B Γ' N (a0k (a.put (some d) v')) w2 σ'∧K Γ'=some z:=by
  intro w2 v' O2 q1 q2 q3 q4 q5 q6 q7 q8 q9;have hrel:=h.topG (w':=w2) (v':=v') (l':=a29 l ys) (O2:=O2) (R2:=Rn++Rm) (G:=fun j=>j==m) hr hnp hpd (by simpa using hnm) (by rw[hov];exact q1) (fun c j c1 c2 _=>by rw[hov];exact q2 c j c1 c2)
   (fun c hc=>(q3 c hc).imp (fun g=>g.imp id fun g=>⟨m,by simp,g⟩) id) q4 q5 q6 q7 q8 (fun c hc=>by
    have hs:=hshr c hc;refine⟨a24 hs.1 q7,hs.2.1,hs.2.2,fun g=>?_⟩;rcases q3 c g with(g|g)|g;exact hs.2.2 ⟨n,g⟩;exact hs.2.2 ⟨m,g⟩
    have:=hs.1;omega) (f:=fun av=>(av.kill n []).drop m) (fun av=>by
    have same:(∀k q,(av=.ptr k q∨av=.sref k q∨∃o l,av=.swin k q o l)→False)→(av.kill n []).drop m=av→(av.kill n []).drop m=.dead∨((av.kill n []).drop m=av∧∀k q,(av=.ptr k q∨av=.sref k q∨∃o l,av=.swin k q o l)→(k=n→av=.ptr n [])∧(k==m)=false):=
     fun h1 h2=>.inr ⟨h2,fun k q hk=>(h1 k q hk).elim⟩
    cases av with
    |sref k q=>
     by_cases e1:k=n
     left;simp[AV.kill,AV.drop,e1,a3L]
     by_cases e2:k=m
     left;simp[AV.kill,AV.drop,e2,Ne.symm hnm];right;simp[AV.kill,AV.drop,e1,e2]
    |swin k q o l=>
     by_cases e1:k=n
     left;simp[AV.kill,AV.drop,e1,a3L]
     by_cases e2:k=m
     left;simp[AV.kill,AV.drop,e2,Ne.symm hnm];right;simp[AV.kill,AV.drop,e1,e2]
    |ptr k q=>
     by_cases e2:k=m
     left
     by_cases e1:k=n
     exact absurd (e1.symm.trans e2) hnm;simp[AV.kill,AV.drop,e2,Ne.symm hnm]
     ·by_cases e1:k=n
      ·cases q with
       |nil=>right;simp[AV.kill,AV.drop,e1,hnm,a3L]
       |cons=>left;simp[AV.kill,AV.drop,e1,a3L]
      right;simp[AV.kill,AV.drop,e1,e2]
    |_=>exact same (by rintro k q (g|g|⟨_,_,g⟩)<;>cases g) rfl) q9
  have hAE:(⟨(Γ.mapv fun av=>(av.kill n []).drop m).sl,fun j=>if j=n then some ⟨false,.list true e,a29 l ys⟩else bif j==m then none else Γ.rt j,none⟩:AE) =
    (((Γ.mapv (AV.kill n [])).mapv (AV.drop m)).setRt m none).setRt n (some ⟨false,.list true e,a29 l ys⟩):=by
   simp only[AE.setRt,AE.mapv,hpd];congr 1;funext j;cases Γ.sl j<;>simp[SV.mapv];funext j
   by_cases e1:j=n
   simp[e1];have e2:(j==n)=false:=by simpa using e1
   simp[e1,e2]
  rw[hAE]at hrel;refine⟨_,_,hrel.putd (sv:=.one (.sref n [])) (v:=v') hN (fun _=>⟨_,e,.one v',a8r _,?_,rfl⟩),hz⟩;show some (_,if n=n then Src.one v' else _)=_
  rw[if_pos rfl]
 by_cases hfit:n0+k0≤cn
 ·cases hA:An with
  |none=>
   have hc0:=hAn0 hA;have hk0:k0=0:=by omega
   have hn00:n0=0:=by omega
   have hl0:a29 l ys=[]:=by
    have e1:l=[]:=a02.1 (by omega);have e2:ys=[]:=a02.1 (by omega);rw[e1,e2];rfl
   have hcsm:csm=[]:=a02.1 (by rw[hcm,hk0];omega);have hRm:Rm=[]:=by
    subst hk0;simp only[a0d,sj,pJ]at hrm;exact hrm.2.2.symm
   have hrun:=a5p (P:=P) (w:=w) (w2:=w) (ty:=ty) (A:=none) (n:=n0) (c:=cn) (k:=k0) (new:=csm) I h0 hu h1 hlen (read w (fun _=>rfl) hAm hcm hmc hAm0) hfit (fun b hb=>by cases hb) (fun _=>rfl);obtain⟨Γ',σ',k1,k2⟩:=fin (w2:=w) (v':=.slice none (n0+k0) cn) (O2:=[]) (by
    rw[hl0,hk0,hn00,hc0,(hcn0 hc0).2.2,hRm];rfl) (fun _ _ _ _=>rfl) (by simp) (by simp) (by simp) (fun _ _ hf _=>hf) (a06 _) h.frame rfl
   exact⟨_,w,Γ',σ',hrun,k1,k2⟩
  |some b=>
   obtain⟨hb,hO,hcell⟩:=hAn b hA;obtain⟨w2,hw2⟩:∃w2,w2=w.setCells b.block (b.off+n0*e.cells) csm:=⟨_,rfl⟩;have hlive:cn≠0→a0J w b.block (b.off+cn*e.cells):=fun hc=>h.live n (b.block,b.off+cn*e.cells) (by rw[hO,if_neg hc];simp);have hroom:csm≠[]→cn≠0∧b.off+n0*e.cells+csm.length≤b.off+cn*e.cells:=fun hne=>by
    have:k0≠0:=fun e0=>hne (a02.1 (by rw[hcm,e0];omega))
    refine⟨by omega,?_⟩
    have:=a27 e.cells hfit
    rw[a26,←hcm]at this;omega
   have hstore:(storeCells (b.add (n0*es.cells)) csm).run P w=.ok () w2:=by
    rw[hce,hw2]
    by_cases hne:csm=[]
    simp only[hne];rfl;obtain⟨hc,hle⟩:=hroom hne;rw[a2Z (hb.resolve_left hc)]
    have:=run_storeCells_cells (P:=P) b.block (b.off+n0*e.cells) csm 0 w (fun j hj=>((hlive hc).cell (by omega)).1) (fun j hj=>((hlive hc).cell (by omega)).2) (fun u hu=>a7I (hsm u hu))
    simpa using this
   have hcells:∀c' j,w2.cell? ⟨c',j,none⟩=if c'=b.block∧b.off+n0*e.cells≤j∧j<b.off+n0*e.cells+csm.length then csm[j-(b.off+n0*e.cells)]? else w.cell? ⟨c',j,none⟩:=fun c' j=>by
    rw[hw2]
    by_cases hne:csm=[]
    simp only[hne,World.setCells,a31];rw[if_neg (by omega)];obtain⟨hc,hle⟩:=hroom hne;exact a6T _ _ _ w _ (hlive hc) hle c' j
   have hrun:=a5p (P:=P) (w:=w) (w2:=w2) (ty:=ty) (A:=some b) (n:=n0) (c:=cn) (k:=k0) (new:=csm) I h0 hu h1 hlen (read w (fun _=>rfl) hAm hcm hmc hAm0) hfit (fun b' hb'=>by
    simp only[sj]at hb';subst hb';exact hstore) (fun hn=>by cases hn)
   have hother:∀c',c'≠b.block→w2.heap[c']?=w.heap[c']?:=fun c' hc'=>by rw[hw2];exact a3z _ _ _ _ _ hc'
   have hbO:csm≠[]→b.block∈(σ.ow n).map (·.1):=fun hne=>by rw[hO,if_neg (hroom hne).1];simp
   have hmem:∀c',(csm≠[]→c'≠b.block)→∀j,a0a w2 none c' j=a0a w σ.ov c' j:=fun c' hc' j=>by
    rw[hov]
    by_cases hne:csm=[]
    rw[hw2,hne];rfl;exact a1c none (hother c' (hc' hne)) j
   have hd2:=b9z (m:=a0a w2 none) (m0:=a0a w σ.ov) (b:=b) (n:=n0+k0) (c:=cn) (cs:=csn++(csm++[])) (l:=a29 l ys) (os:=osn++osm) (R:=Rn++Rm) hb hfit (by
     simp only[lN,hcn,hcm,a31];rw[a26];omega) (fun j u hj hu=>by
     simp only[a0a,hcells]
     by_cases hj2:j<n0*e.cells
     rw[if_neg (by omega)];rw[a16 (by omega)]at hu
     have:=hcell j u hu
     rw[hov]at this;exact this;rw[a26,←hcm]at hj;rw[if_pos ⟨trivial,by omega,by omega⟩];rw[a09 (by omega),a70,hcn]at hu;rw[←hu];congr 1;omega) (hrows []) (fun c' hc' j=>hmem c' (fun hne e1=>(hshr c' hc').2.2 ⟨n,by rw[e1];exact hbO hne⟩) j) (fun c' hc' j=>hmem c' (fun hne e1=>by
     obtain⟨p,hp,rfl⟩:=a05.1 hc';rcases mA.1 hp with hp|hp
     have:=h.nodup n
     rw[hO,if_neg (hroom hne).1,a04,a17]at this;exact this.1 (by show b.block∈_;rw[←e1];exact a00 hp);exact h.disj n m hnm b.block (hbO hne) (by rw[←e1];exact a00 (hsubm p hp))) j)
   have hO2:∀p∈(if cn=0 then[]else(b.block,b.off+cn*e.cells)::(osn++osm)),p∈σ.ow n∨p∈σ.ow m:=fun p hp=>by
    split at hp
    cases hp;rename_i hc;rcases mC.1 hp with rfl|hp;left;rw[hO,if_neg hc];simp;exact hos p hp
   obtain⟨Γ',σ',k1,k2⟩:=fin (w2:=w2) hd2 (fun c' j hc' hn'=>by
     have:=hmem c' (fun hne e1=>hn' (by rw[e1];exact hbO hne)) j
     rw[hov]at this;exact this) (fun c' hc'=>by
     obtain⟨p,hp,rfl⟩:=a05.1 hc';exact .inl ((hO2 p hp).imp a00 a00)) (by
     split
     simp
     rename_i hc;rw[a04,a17];refine⟨fun g=>?_,hnd⟩;obtain⟨p,hp,e1⟩:=a05.1 g;have e1:p.1=b.block:=e1;rcases mA.1 hp with hp|hp
     have:=h.nodup n
     rw[hO,if_neg hc,a04,a17]at this;exact this.1 (by show b.block∈_;rw[←e1];exact a00 hp);exact h.disj n m hnm b.block (by rw[hO,if_neg hc];simp) (by rw[←e1];exact a00 (hsubm p hp))) (fun p hp=>by
     have:a0J w p.1 p.2:=(hO2 p hp).elim (h.live n p) (h.live m p)
     rw[hw2];exact this.setCells _ _ _) (fun _ _ hf _=>by rw[hw2];exact hf.setCells _ _ _) (by rw[hw2,a5f];exact a06 _) (fun b' hb' hF=>by
     by_cases hne:csm=[]
     rw[hw2,hne];exact h.frame b' hb' hF;rw[hother b' ?_];exact h.frame b' hb' hF
     rintro rfl
     rcases h.mine _ ⟨n,hbO hne⟩with g|g;exact hF g;omega) (by rw[hw2];exact a6U _ _ _ _)
   exact⟨_,w2,Γ',σ',hrun,k1,k2⟩
 have hgt:cn<n0+k0:=by omega
 have hrun:=a9F (P:=P) (w:=w) (ty:=ty) (A:=An) (n:=n0) (c:=cn) (k:=k0) (old:=csn) (new:=csm) I h0 hu h1 hlen (read w.drew (fun _=>rfl) hAm hcm hmc hAm0) (read w.drew (fun _=>rfl) hAn hcn hnc hAn0) hgt (by rw[hln,hlm];exact hlim);have hge:=grownCap_ge w (n0+k0) cn t';generalize hw2:w.drew.alloc _=w2 at hrun;generalize hgc:grownCap w (n0+k0) cn t'=gc at hrun hge;have hold2:∀c,c<w.heap.size→w2.heap[c]?=w.heap[c]?:=fun c hc=>by rw[←hw2];exact a1J (w:=w.drew) _ c hc
 have hnew2:=a1K (w:=w.drew) (.cells (csn++(csm++(Builtin.zeroCells I.z.cells (gc-(n0+k0))).toList)).toArray t');have hnew2:w2.heap[w.heap.size]?=some (.cells (csn++(csm++(Builtin.zeroCells I.z.cells (gc-(n0+k0))).toList)).toArray t'):=by
  rw[←hw2,hgc];exact hnew2
 have hsz2:w.heap.size≤w2.heap.size:=by rw[←hw2];exact a1V (w:=w.drew) _
 have zsz:∀k,(Builtin.zeroCells I.z.cells k).size=k*e.cells:=fun k=>by rw[c1G,size_madeCells,I.zsize,hce]
 have hcs2:(csn++(csm++(Builtin.zeroCells I.z.cells (gc-(n0+k0))).toList)).length=gc*e.cells:=by
  simp only[lN,hcn,hcm,a36,zsz];rw[←a26,←a26];congr 1;omega
 have hd2:=b9z (m:=a0a w2 none) (m0:=a0a w σ.ov) (b:=⟨w.heap.size,0,none⟩) (n:=n0+k0) (c:=gc) (cs:=csn++(csm++(Builtin.zeroCells I.z.cells (gc-(n0+k0))).toList)) (os:=osn++osm) (.inr rfl) hge (by
   rw[hcs2];exact a27 _ hge) (fun j u _ hu=>by
   simp only[a0a,a03,World.cell?,hnew2];simpa using hu) (hrows _) (fun c hc j=>by
   rw[hov];exact a1c none (hold2 c (hshr c hc).1) j) (fun c hc j=>by
   rw[hov];exact a1c none (hold2 c (h.lt (hosO c hc))) j)
 have hgc0:gc≠0:=by omega
 rw[if_neg hgc0]at hd2;have hfree:∀c k,a0J w c k→a0J w2 c k:=fun c k hf=>by
  obtain⟨cc,e1,lo,hi,g1,g2⟩:=hf;exact⟨cc,e1,lo,hi,by rw[hold2 c (a44.1 g1).1];exact g1,g2⟩
 obtain⟨Γ',σ',k1,k2⟩:=fin (w2:=w2) hd2 (fun c j hc _=>a1c none (hold2 c hc) j) (fun c hc=>by
   rw[a04,mC]at hc;rcases hc with hc|hc;exact .inr (by have hc:c=w.heap.size:=hc;omega);obtain⟨p,hp,rfl⟩:=a05.1 hc;exact .inl ((hos p hp).imp a00 a00)) (by
   rw[a04,a17];refine⟨fun g=>?_,hnd⟩
   have:=h.lt (hosO _ g)
   exact absurd this (Nat.lt_irrefl _)) (fun p hp=>by
   rcases mC.1 hp with rfl|hp;exact⟨_,t',0,0,hnew2,by show 0+gc*e.cells≤_;rw[a38,hcs2];omega,.inl rfl⟩;exact hfree _ _ ((hos p hp).elim (h.live n p) (h.live m p))) (fun c k hf _=>hfree c k hf) hsz2 (fun b hb hF=>by
   have:=h.size
   rw[hold2 b (by omega)];exact h.frame b hb hF) (by rw[←hw2];rfl)
 exact⟨_,w2,Γ',σ',by rw[←hce]at *;exact hrun,k1,k2⟩
theorem d0K{d m:Nat}{r:Root}{y:Operand}{q:a0N}(h:Γ.opd y=.sref m q)(hd:d≠m):(Γ.newRt d r).opd y=.sref m q:=by
 unfold AE.newRt;split;exact h
 ·cases y with
  |tmp t=>
   have e:(m==d)=false:=by simpa using Ne.symm hd
   simp only[AE.opd,AE.get,AE.setRt,AE.mapv]at h⊢;cases hs:Γ.sl t with
   |one v=>rw[hs]at h;simp only[]at h;subst h;simp[SV.mapv,AV.drop,e]
   |cmp c vs=>rw[hs]at h;cases h
  |_=>exact h
theorem Rel.top1{tm}(h:Rel B Γ N tm w σ){k:Nat}{r:Root}{v:Value}(hr:Γ.rt k=some r)(hb:r.bx=false)(hv:a0i (a0a w σ.ov) σ.g Γ.rt (Shr B w σ) (.sref k []) v):σ.g k=.one v:=by
 obtain⟨r',e',s',k1,k2,k3⟩:=hv;rw[hr]at k1;cases k1;simp only[loc,a0Q,sj,pJ]at k2;obtain⟨O',R,-,-,hc⟩:=(h.roots k r hr).rd;rcases hc with⟨g,-⟩|⟨-,⟨v0,hv0⟩,-⟩;rw[hb]at g;cases g;rw[←k2.2,hv0]at k3;simp only[Src.rd,if_true,sj]at k3;rw[hv0,k3]
theorem d0L{d m:Nat}{es e:Ty}{ys:List e.den}(hes:e.sh=es){t t' ty:TypeId}{ts:Array TypeId}(I:Info P es t')(h0:ts[0]?=some t)(hu:P.underlying t=some (.slice t'))
  (h1:ts[1]?=none∨∃t2,ts[1]?=some t2∧(P.underlying t2=some .string∨∃e,P.underlying t2=some (.slice e)))
  {s:Value}{av:AV}{y:Operand}{K:AE→Rs ρ}{z:ρ}(h:Rel B Γ N (a0k a) w σ)(hN:a.tmps.size=N)(hav:a0i (a0a w σ.ov) σ.g Γ.rt (Shr B w σ) av s)(hyo:a1i N y=true)(hy:Γ.opd y=.sref m [])
  (hm:Γ.look m=some ⟨false,.list true e,ys⟩)(hz:Γ.gath d m e ys av K=some z):
  ∃v w' Γ' σ',(Builtin.append_ ts ty #[s,a.eval y]).run P w=.ok v w'∧Rel B Γ' N (a0k (a.put (some d) v)) w' σ'∧K Γ'=some z:=by
 obtain⟨hpd,hm⟩:=a0F hm;unfold AE.gath at hz
 split at hz
 have hav:s=.slice none 0 0:=hav;subst hav;rcases a0g hz with⟨-,g⟩|⟨hdm,hz⟩;cases g;have hdm:d≠m:=by simpa using hdm
 obtain⟨Γ1,σ1,k1,k2,k3,k4,k5,k6⟩:=h.fresh hz (fun _ _=>rfl) (a06 _) (s:=.one (.slice none 0 0)) (O:=[]) (by simp) (by simp) (by simp) ⟨[],[],rfl,by simp,.inr ⟨rfl,⟨_,rfl⟩,⟨e,rfl⟩,rfl⟩⟩;have hm1:Γ1.rt m=some ⟨false,.list true e,ys⟩:=by
  have e1:(m==d)=false:=by simpa using Ne.symm hdm
  rw[k6];unfold AE.newRt
  split<;>simp[AE.setRt,AE.mapv,e1,hm]
 have hx1:=k2.opd hyo;rw[k6,d0K hy hdm,←k6]at hx1;exact c1H hes I h0 hu h1 k2 hN k4 (k2.top1 hm1 rfl hx1) hm1 k1;rename_i n;have hx:=h.opd hyo;rw[hy]at hx;have hn:∃l,Γ.rt n=some ⟨false,.list true e,l⟩:=by
  unfold AE.gathN at hz
  split at hz
  rename_i e' l hl
  split at hz
  rename_i hee;subst hee;exact⟨l,(a0F hl).2⟩;cases hz;cases hz
 obtain⟨l,hn⟩:=hn;exact c1H hes I h0 hu h1 h hN (h.top1 hn rfl hav) (h.top1 hm rfl hx) hm hz;cases hz
end
end Go.Ab
namespace Go.Ab
section
variable {P:Program} {B:Base} {N:Nat} {ρ:Type} {Γ:AE} {a:Act} {w:World} {σ:Gh}
theorem a8q.news{m Sh}{e:Ty}{l:List e.den}{v:Value}(h:a8q w m Sh e l v):Nonempty (News P w m Sh e l v):=by
 obtain⟨A,n,c,cs,hv,hn,hlen,hone,⟨R,hcol,hR⟩,hc,hnone,-⟩:=h;have f1:=a9O (P:=P) (w:=w) (w2:=w) (e:=e) hv (fun _=>rfl) hlen hc hnone n (a06 _);have f2:=a9O (P:=P) (w:=w) (w2:=w.drew) (e:=e) hv (fun _=>rfl) hlen hc hnone n (a06 _);rw[←hlen,a66]at f1 f2;refine⟨⟨cs,?_,by rw[←hn];exact hlen,hone,R,by rw[←hn];exact hcol,hR,by rw[←hn];exact f1,by rw[←hn];exact f2⟩⟩;rw[hv,←hn];rfl
theorem d1P{m Sh}(s:ByteArray){l:List (Ty.int .u8).den}(hl:l=(s.data.toList.map fun b=>(b.toNat:Int):List Int)):Nonempty (News P w m Sh (.int .u8) l (.string s)):=by
 have hlen:(s.data.toList.map fun b=>(b.toNat:Int)).length=s.size:=by rw[a56];rfl
 have hlen':l.length=s.size:=(congrArg a18 hl).trans hlen;have hfirst:∀w:World,(Builtin.firstCells (Ty.int .u8).cells s.size (.string s)).run P w=.ok (s.data.toList.map fun b=>Value.int .u8 (b.toNat:Int)).toArray w:=fun w=>by
  have hx:s.extract 0 s.size=s:=by simp
  simp only[Builtin.firstCells,hx,Sem.run_pure];congr 1;apply Array.ext'
  simp
 refine⟨⟨s.data.toList.map fun b=>Value.int .u8 (b.toNat:Int),?_,?_,?_,[],?_,by simp,?_,?_⟩⟩;rw[hlen'];rfl;rw[hlen',a56];show s.data.toList.length=s.size*1;rw[a46];rfl;intro u hu;obtain⟨b,-,rfl⟩:=a05.1 hu;rfl
 ·have key:∀(l:List UInt8)(pre:List Value)(i:Nat),pre.length=i→a0d (fun i=>dec m (.int .u8) fun j=>(pre++l.map fun b=>Value.int .u8 (b.toNat:Int))[i*(Ty.int .u8).cells+j]?) l.length i =
    some ((l.map fun b=>(b.toNat:Int):List Int),[],[]):=by
   intro l
   induction l with
   |nil=>intro pre i _;rfl
   |cons b l ih=>
    intro pre i hp;have h1:=ih (pre++[Value.int .u8 (b.toNat:Int)]) (i+1) (by simp[hp]);simp only[aA,a54]at h1;have hcell:(pre++(b::l).map fun b=>Value.int .u8 (b.toNat:Int))[i*(Ty.int .u8).cells+0]?=some (.int .u8 (b.toNat:Int)):=by
     show(pre++_)[i*1+0]?=_;rw[a46,a32,a09 (by omega),hp,Nat.sub_self];rfl
    simp only[lC,a0d];rw[show dec m (.int .u8) (fun j=>(pre++(b::l).map fun b=>Value.int .u8 (b.toNat:Int))[i*(Ty.int .u8).cells+j]?)=some ((b.toNat:Int),[],[])from by
     simp only[dec];rw[hcell];simp only[if_true];rfl]
    simp only[a04];rw[h1];rfl
  have:=key s.data.toList [] 0 rfl
  rw[hlen'];rw[show s.data.toList.length=s.size from rfl]at this;rw[hl];exact this
 rw[hlen'];exact hfirst w;rw[hlen'];exact hfirst w.drew
theorem c7n{o:Oper}{c:Call}{d:Nat}{cx:Cx}{q:Bool}{K:AE→Rs ρ}{z:ρ}(hcx:CxTy P cx)(ho:o.op=.call c)(hb:c.callee=.builtin .append)(hd:o.dst=some d)
  (h:Rel B Γ N (a0k a) w σ)(hN:a.tmps.size=N)(hf:fits N o=true)(hz:aop cx q o Γ K=some z):a0o P B N o a w K z:=by
 obtain⟨cs,hrun⟩:=b5Y (P:=P) (a:=a) (w:=w) ho hb;have hl:∃x y,c.args.toList=[x,y]:=by
  cases hl:c.args.toList with
  |nil=>simp only[aop,ho,hd,hb,hl,a25,AE.blt]at hz;cases hz
  |cons x l=>
   cases l with
   |nil=>simp only[aop,ho,hd,hb,hl,a04,a25,AE.blt]at hz;cases hz
   |cons y l=>
    cases l with
    |nil=>exact⟨x,y,rfl⟩
    |cons u l=>simp only[aop,ho,hd,hb,hl,a04,AE.blt]at hz;cases hz
 obtain⟨x,y,hxy⟩:=hl;have hargs:c.args=#[x,y]:=by rw[←a43];simpa using hxy
 have hops:=b4F ho hb hf;rw[hxy]at hops;have hx:=h.opd (hops x (by simp));have hy:=h.opd (hops y (by simp));simp only[aop,ho,hd,hb,hxy,a04,a25,AE.blt]at hz;obtain⟨hni,hz⟩:=(a0g hz).elim id fun h=>by cases h.2
 have h1:=c7m hcx hni
 split at hz
 ·rename_i o' e hT;obtain⟨t,ht,hT⟩:=a48.1 hT;have ht0:c.argTypes[0]?=some t:=by
   rw[←a21];cases hl:c.argTypes.toList with
   |nil=>rw[hl]at ht;cases ht
   |cons y l=>rw[hl]at ht;simpa using ht
  obtain⟨hsh,hty⟩:=hcx.T t _ hT;obtain⟨t',hu,hte,hpos⟩:=a1B hty;obtain⟨I⟩:=a0v (a0G hte);have he:e.sh=e:=by
   simp only[Ty.sh,Ty.list.injEq]at hsh;exact hsh.2
  have fin:∀ys,Nonempty (News P w (a0a w σ.ov) (Shr B w σ) e ys (a.eval y))→Γ.apnd q d e (Γ.opd x) ys K=some z→a0o P B N o a w K z:=by
   rintro ys ⟨Y⟩ hz
   obtain⟨v,w',Γ',σ',k1,k2,k3⟩:=d0J (ty:=o.type) he I ht0 hu h1 h hN hx Y hz;refine⟨v,w',Γ',σ',.inl (hrun.trans ?_),by rw[hd];exact k2,k3⟩;simp[builtin,hargs,k1]
  split at hz
  rename_i u hyv
  split at hz
  rename_i hee;subst hee;rw[hyv]at hy;obtain⟨s,hv,hl⟩:=a0i.str hy;refine fin u ?_ hz;rw[hv];have hl:u=(s.data.toList.map fun b=>(b.toNat:Int):List Int):=hl;exact d1P s hl;cases hz
  ·split at hz
   ·rename_i m e' ys hown;have hz1:=hz;cases q with
    |true=>cases hown
    |false=>
     cases hel:e.isList with
     |false=>rw[hel]at hown;cases hown
     |true=>
      rw[hel]at hown;have hown:Γ.ownB e (Γ.opd y)=some (m,⟨e',ys⟩):=hown;have key:Γ.opd y=.sref m []∧Γ.look m=some ⟨false,.list true e',ys⟩∧e'.sh=e:=by
       revert hown
       cases Γ.opd y with
       |sref k p=>
        cases p with
        |cons=>intro hown;simp[AE.ownB]at hown
        |nil=>
         intro hown;simp only[AE.ownB]at hown
         split at hown
         rename_i e2 ys2 hl;obtain⟨hc,hown⟩:=(a0g hown).elim id fun h=>by cases h.2
         simp only[bA,dT]at hc;cases hown;exact⟨rfl,hl,hc.1⟩;cases hown
       |_=>intro hown;simp[AE.ownB]at hown
      obtain⟨k1,k2,k3⟩:=key;obtain⟨v,w',Γ',σ',j1,j2,j3⟩:=d0L (ty:=o.type) k3 I ht0 hu h1 h hN hx (hops y (by simp)) k1 k2 hz1;exact⟨v,w',Γ',σ',.inl (hrun.trans (by simp[builtin,hargs,j1])),by rw[hd];exact j2,j3⟩
   obtain⟨l,hz,hE⟩:=h.elems he hy hz;exact fin l hE.news hz
 cases hz
end
end Go.Ab
namespace Go.Ab
theorem d1Q(n:Nat)(av:AV):AV.kill n [] av=.dead∨(AV.kill n [] av=av∧∀k q,(av=.ptr k q∨av=.sref k q∨∃o l,av=.swin k q o l)→k=n→av=.ptr n []):=by
 cases av with
 |ptr m q=>
  simp only[AV.kill]
  by_cases hm:m=n
  ·subst hm;cases q with
   |nil=>exact .inr ⟨by simp,fun k q h1 h2=>rfl⟩
   |cons=>left;simp[a3L]
  right;have hmn:(m==n)=false:=by simpa using hm
  refine⟨by simp[hmn],fun k q h1 h2=>?_⟩;rcases h1 with h1|h1|⟨_,_,h1⟩<;>cases h1;exact absurd h2 hm
 |sref m q=>
  simp only[AV.kill]
  by_cases hm:m=n
  left;simp[hm,a3L];right;have hmn:(m==n)=false:=by simpa using hm
  refine⟨by simp[hmn],fun k q h1 h2=>?_⟩;rcases h1 with h1|h1|⟨_,_,h1⟩<;>cases h1;exact absurd h2 hm
 |swin m q o k=>
  simp only[AV.kill]
  by_cases hm:m=n
  left;simp[hm,a3L];right;have hmn:(m==n)=false:=by simpa using hm
  refine⟨by simp[hmn],fun k q h1 h2=>?_⟩;rcases h1 with h1|h1|⟨_,_,h1⟩<;>cases h1;exact absurd h2 hm
 |_=>exact .inr ⟨rfl,fun k q h1 _=>by rcases h1 with h1|h1|⟨_,_,h1⟩<;>cases h1⟩
section
variable {P:Program} {B:Base} {N:Nat} {ρ:Type} {Γ:AE} {a:Act} {w:World} {σ:Gh}
theorem c7o{o:Oper}{x:Operand}{d:Nat}{cx:Cx}{q:Bool}{K:AE→Rs ρ}{z:ρ}(ho:o.op=.assign x)(hd:o.dst=some d)
  (h:Rel B Γ N (a0k a) w σ)(hN:a.tmps.size=N)(hf:fits N o=true)(hz:aop cx q o Γ K=some z):a0o P B N o a w K z:=by
 have hx:=h.opd (a0S hf x (by simp[ho,Op.operands]));have hrun:(execOp a.eval o).run P w=.ok (.value (a.eval x)) w:=by simp[execOp,ho]
 simp only[aop,ho,hd]at hz;have same:∀av,Γ.opd x=av→K (Γ.set d av)=some z→a0o P B N o a w K z:=fun av hav hz=>a0o.set hd hN hrun h (hav▸hx) hz
 split at hz
 case h_2=>
  rename_i c vs hs;cases x with
  |tmp t=>
   have hs:Γ.sl t=.cmp c vs:=hs;have ht:t<N:=by have:=a0S hf (.tmp t) (by simp[ho,Op.operands]);simpa[a1i]using this
   have hsl:=h.slots t ht;rw[hs]at hsl;exact⟨_,w,_,σ,.inl hrun,by rw[hd];exact h.putd hN (fun _=>hsl),hz⟩
  |_=>cases hs
 rename_i vx hvx;have hvx:vx=Γ.opd x:=by
  cases x with
  |tmp t=>
   have hvx:Γ.sl t=.one vx:=hvx;simp only[AE.opd,AE.get,hvx]
  |_=>exact(SV.one.inj hvx).symm
 subst hvx;unfold AE.asg at hz
 split at hz
 rename_i r hav
 split at hz
 rename_i t x0 hl;obtain⟨hpd,hr⟩:=a0F hl;rcases a0g hz with⟨-,hz⟩|⟨hrd,hz⟩;exact same _ hav hz;rcases a0g hz with⟨-,hz⟩|⟨-,hz⟩;exact same _ hav hz;obtain⟨hdp,hz⟩:=(a0g hz).elim id fun h=>by cases h.2
 have hdp:d<pinned:=by simpa using hdp
 have hne:r≠d:=by
  intro e;rw[e]at hrd;simp at hrd
 have h1:=h.drop (n:=d) (by simp[hpd]);have hr1:((Γ.mapv (AV.drop d)).setRt d none).rt r=some ⟨false,t,x0⟩:=by
  have:(r==d)=false:=by simpa using hne
  simp only[AE.setRt,AE.mapv,this];exact hr
 have h2:=h1.rename hr1 (d:=d) (a8r _) (fun i b e _=>by omega) (by simp[AE.setRt,AE.mapv,hpd]);have hΓ:((((Γ.mapv (AV.drop d)).setRt d none).mapv (AV.ren r d)).setRt r none).setRt d (some ⟨false,t,x0⟩)=(((Γ.mapv (AV.drop d)).mapv (AV.ren r d)).setRt r none).setRt d (some ⟨false,t,x0⟩):=by
  simp only[AE.setRt,AE.mapv];congr 1;funext j
  by_cases hj:j=d
  subst hj;simp
  have:(j==d)=false:=by simpa using hj
  simp[this]
 rw[hΓ]at h2;rw[hav]at hx;obtain⟨r',e',s',g1,g2,g3⟩:=hx;rw[hr]at g1;simp only[sj]at g1;subst g1;simp only[loc,a0Q,sj,pJ]at g2;have hloc:loc (a0a w σ.ov) t (if d=d then σ.g r else σ.g d) []=some (.list true e',s'):=by
  show some (t,if d=d then σ.g r else _)=_
  rw[if_pos rfl,g2.1,g2.2]
 have h3:=h2.putd (sv:=.one (.sref d [])) (v:=a.eval x) (d:=d) hN (fun _=>⟨⟨false,t,x0⟩,e',s',a8r _,hloc,g3⟩);exact⟨_,w,_,_,.inl hrun,by rw[hd];exact h3,hz⟩;exact same _ hav hz
 ·rename_i r k hav
  split at hz
  ·rename_i e l hl;obtain⟨hpd,hr⟩:=a0F hl;rcases a0g hz with⟨hrd,hz⟩|⟨-,hz⟩
   ·simp only[bA,beq_iff_eq]at hrd;obtain⟨rfl,-⟩:=hrd;obtain⟨hkl,hz⟩:=(a0g hz).elim id fun h=>by cases h.2
    simp only[bA,dT]at hkl;replace hkl:=hkl.symm;rw[hav]at hx;obtain⟨s,O',R',a0,n0,c,f1,f2,f3,f4,f5,f6,a',hv,f7,f8⟩:=h.window hx hr (show a0W (.list true e) l []=⟨.list true e,l⟩from rfl);rw[a03]at f6;rw[Nat.sub_zero]at hv;have hov:=h.ov_none hpd;simp only[loc,a0Q,sj,pJ,true_and]at f1;obtain⟨O1,R1,k1,k2,k3,k4,k5,k6⟩:=h.sep hr;rw[f1]at k1;have hd0:dec (a0a w σ.ov) (.list true e) (s.rd (a0a w σ.ov))=some (l,O',R'):=a0p _ f3 (fun j hj=>by
     have hj0:j=0:=by simp only[Ty.cells]at hj;omega
     subst hj0;rw[f2];rfl) (fun _ _ _=>rfl)
    rw[hd0]at k1;simp only[sj,pJ,true_and]at k1;obtain⟨rfl,rfl⟩:=k1;have key:∃O2 R2,dec (a0a w σ.ov) (.list true e) ((Src.one (.slice a' k c)).rd (a0a w σ.ov))=some (a63 k l,O2,R2)∧(∀p∈O2,p∈O')∧(O2.map (·.1)).Nodup∧(∀c∈R2,c∈R'):=by
     rcases a1z f3 with⟨hs,hl0,-,-⟩|⟨A,n1,c1,os,hs,hA,hn,hx',ho⟩
     ·simp only[Src.rd,if_true,sj,Value.slice.injEq]at hs;obtain⟨rfl,rfl,rfl⟩:=hs;have hk:k=0:=by omega
      subst hk;refine⟨[],[],?_,by simp,by simp,by simp⟩;show a0K (a0a w σ.ov) true e.cells (dec (a0a w σ.ov) e) (some (.slice a' 0 0))=some (([]:List e.den),[],[]);cases a' with
      |none=>rfl
      |some b=>simp[a0K,a0d]
     ·simp only[Src.rd,if_true,sj,Value.slice.injEq]at hs;obtain⟨rfl,rfl,rfl⟩:=hs;rw[show n0=k+(n0-k)from by omega]at hx';obtain⟨os1,rs1,os2,rs2,j1,-,rfl,rfl⟩:=a3T k _ 0 hx';have hnd:=k3.nodup
      by_cases hc:c=0
      ·subst hc;have hk:k=0:=by omega
       subst hk;refine⟨[],[],?_,by simp,by simp,by simp⟩;show a0K (a0a w σ.ov) true e.cells (dec (a0a w σ.ov) e) (some (.slice a' 0 0))=some (([]:List e.den),[],[]);cases a' with
       |none=>rfl
       |some b=>simp[a0K,a0d]
      rcases ho with⟨h0,-⟩|⟨-,ho⟩;exact absurd h0 hc;have ha':a'=some ⟨A.block,A.off,none⟩:=by
       rcases f8 with f8|f8;exact absurd f8 hc;rw[f8];simp[a2Z (hA.resolve_left hc)]
      subst ha';refine⟨(A.block,A.off+c*e.cells)::os1,rs1,b6K (a:=⟨A.block,A.off,none⟩) rfl rfl (by omega) hc j1,?_,?_,fun c hc=>a28 _ hc⟩;intro p hp;rw[ho];rcases mC.1 hp with rfl|hp;exact a80;exact a08 _ (a28 _ hp);rw[ho]at hnd;simp only[a04,pA,a17,mA,a20]at hnd⊢;exact⟨fun g=>hnd.1 (.inl g),hnd.2.1⟩
    obtain⟨O2,R2,j1,j2,j3,j4⟩:=key;have hsub:∀p∈O2,p∈σ.ow r:=fun p hp=>by
     rcases k6 with⟨hbx,-⟩|⟨-,-,-,hO⟩;cases hbx;rw[hO];exact j2 p hp
    have hsubc:∀c∈O2.map (·.1),c∈(σ.ow r).map (·.1):=fun c hc=>by
     obtain⟨p,hp,rfl⟩:=a05.1 hc;exact a00 (hsub p hp)
    have hrel:=h.top hr hkl.2 hpd (w':=w) (v':=.slice a' k c) (l':=a63 k l) j1 (fun _ _ _ _=>rfl) (fun c hc=>.inl (hsubc c hc)) j3 (fun p hp=>h.live r p (hsub p hp)) (fun _ _ hf _=>hf) (a06 _) h.frame
     (fun c hc=>by
      have hs:=f4 c (j4 c hc);exact⟨hs.1,hs.2.1,hs.2.2,fun g=>hs.2.2 ⟨r,hsubc c g⟩⟩) (f:=AV.kill r []) (d1Q r)
    have hloc:loc (a0a w σ.ov) (.list true e) (if r=r then Src.one (.slice a' k c)else σ.g r) []=some (.list true e,.one (.slice a' k c)):=by
     show some (_,if r=r then Src.one _ else _)=_
     rw[if_pos rfl]
    have h3:=hrel.putd (sv:=.one (.sref r [])) (v:=a.eval x) (d:=r) hN (fun _=>⟨⟨false,.list true e,a63 k l⟩,e,.one (.slice a' k c),a8r _,hloc,by rw[hv];rfl⟩);exact⟨_,w,_,_,.inl hrun,by rw[hd];exact h3,hz⟩
   exact same _ hav hz
  exact same _ hav hz
 exact same _ rfl hz
end
end Go.Ab
namespace Go.Ab
theorem Rel.move{B Γ N tm w σ}(h:Rel B Γ N tm w σ){n r p ε b o y O1 R1}(hr:Γ.rt n=some r)(hl:loc (a0a w σ.ov) r.t (σ.g n) p=some ((.list true ε),.at b o))
  (hy:dec (a0a w σ.ov) (.list true ε) ((Src.at b o).rd (a0a w σ.ov))=some (y,O1,R1)){m0:Nat}{y':List ε.den}{v:Value}(hm0:Γ.rt m0=some ⟨false,(.list true ε),y'⟩)(hg0:σ.g m0=.one v)(hne0:m0≠n)(hpd:Γ.pd=none)
  {f:AV→AV}(hf:∀a,f a=.dead∨(f a=a∧c5j n p (.list true ε) a∧∀k q,(a=.ptr k q∨a=.sref k q∨∃o l,a=.swin k q o l)→k≠m0)):
  ∃ow',Rel B (((Γ.mapv f).setRt m0 none).setRt n (some ⟨r.bx,r.t,a1y r.t r.x p (.list true ε) y'⟩)) N tm (w.setCell ⟨b,o,none⟩ v) ⟨σ.g,ow',none⟩:=by
 have hov:σ.ov=none:=h.ov_none hpd;obtain⟨O2,R2,i1,i2,i3,i4,i5,i6⟩:=h.sep hm0;have i6:σ.ow m0=O2:=by
  rcases i6 with⟨hbx,-⟩|⟨-,-,-,hO⟩;cases hbx;exact hO
 rw[hg0]at i1;obtain⟨w',hw'⟩:∃w',w'=w.setCell ⟨b,o,none⟩ v:=⟨_,rfl⟩;rw[←hw'];have hb0:b∈(σ.ow n).map (·.1):=h.place hr hl;have hroom:=h.room hr hl;have hcells1:(Ty.list true ε).cells=1:=rfl;have hmem0:∀c j,a0a w' none c j=if c=b∧j=o then some v else a0a w σ.ov c j:=fun c j=>by
  rw[hov,hw'];simp only[a0a]
  by_cases e1:c=b∧j=o
  obtain⟨rfl,rfl⟩:=e1
  have:=(hroom.cell (o:=j) (by omega)).1
  obtain⟨u,hu⟩:=a64.1 this;rw[World.cell?_setCell_same _ _ _ hu]
  simp
  rw[if_neg e1,World.cell?_setCell_other];intro e';simp only[Addr.mk.injEq,and_true]at e';exact e1 ⟨e'.1.symm,e'.2.symm⟩
 have hchg:∀c j,a0a w' none c j=a0a w σ.ov c j∨(c=b∧o≤j∧j<o+(Ty.list true ε).cells)∨c∈O1.map (·.1)∨w.heap.size≤c:=fun c j=>by
  by_cases e1:c=b∧j=o
  exact .inr (.inl ⟨e1.1,by omega,by omega⟩);exact .inl (by rw[hmem0,if_neg e1])
 have hy':dec (a0a w' none) (.list true ε) ((Src.at b o).rd (a0a w' none))=some (y',O2,R2):=by
  refine a0p _ i1 (fun j hj=>?_) (fun c j hc=>?_);have hj0:j=0:=by simp only[Ty.cells]at hj;omega
  subst hj0;simp[Src.rd,hmem0];rw[hmem0,if_neg]
  rintro⟨rfl,-⟩
  rcases hc with hc|hc;exact h.disj n m0 (Ne.symm hne0) c hb0 (i4 c hc);exact(i2 c hc).2.2 ⟨n,hb0⟩
 have hO2:∀c∈O2.map (·.1),c∈(σ.ow m0).map (·.1):=i4;have hn2:(O2.map (·.1)).Nodup:=i3.nodup;have hfree:∀c k,a0J w c k→a0L σ c→a0J w' c k:=fun c k hf _=>by rw[hw'];exact hf.setCell _ _
 have hlive:∀p∈O2,a0J w' p.1 p.2:=fun p hp=>by
  rw[←i6]at hp;exact hfree _ _ (h.live m0 p hp) ⟨m0,a00 hp⟩
 have hsz:w.heap.size≤w'.heap.size:=by rw[hw'];simp
 have hfr:∀b,b<B.size→¬ B.F b→w'.heap[b]?=B.hp b:=fun c hc hF=>by
  rw[hw',a7R,if_neg];exact h.frame c hc hF
  rintro rfl
  rcases h.mine c ⟨n,hb0⟩with g|g;exact hF g;omega
 obtain⟨O',R,h1,h2,h3,h4,h5,h6⟩:=h.sep hr;obtain⟨y1,O1',R1',A1,B1,A1',B1',hd,hg,e1,e2⟩:=a1m p r.t _ h1 hl;rw[hy]at hd;simp only[sj,pJ]at hd;obtain⟨rfl,rfl,rfl⟩:=hd;have hO1:∀c,c∈O1.map (·.1)→c∈(σ.ow n).map (·.1):=fun c hc=>h4 c (by rw[e1];exact a1X hc);have hb:b∈(σ.ow n).map (·.1):=h.place hr hl;have hc1:Chg (a0a w σ.ov) (a0a w' none) (σ.g n) O' R b o (Ty.list true ε).cells O1:=fun c j=>by
  rcases hchg c j with g|g|g|g;exact .inl g;exact .inr (.inl g);exact .inr (.inr (.inl g))
  ·refine .inr (.inr (.inr ⟨fun g'=>?_,fun g'=>?_,?_⟩));exact absurd (h.lt ⟨n,h4 c g'⟩) (by omega);exact absurd (h2 c g').1 (by omega)
   ·cases e:σ.g n with
    |one v=>trivial
    |_=>
     rename_i b' o'
     rintro rfl
     exact absurd (h.lt ⟨n,h5 _ _ e⟩) (by omega)
 obtain⟨A,B',R',e3,h7,h8⟩:=c0P p r.t (σ.g n) h1 hl hy hy' h3 hc1

 have hother:∀c j,c∉(σ.ow n).map (·.1)→c<w.heap.size→a0a w' none c j=a0a w σ.ov c j:=fun c j hc hlt=>by
  rcases hchg c j with g|⟨rfl,-⟩|g|g;exact g;exact absurd hb hc;exact absurd (hO1 c g) hc;omega
 have hoth:∀m,m≠n→∀c j,c∈(σ.ow m).map (·.1)→a0a w' none c j=a0a w σ.ov c j:=fun m hm c j hc=>
  hother c j (h.disj m n hm c hc) (h.lt ⟨m,hc⟩)
 have hshm:∀c j,Shr B w σ c→a0a w' none c j=a0a w σ.ov c j:=fun c j hc=>hother c j (fun g=>hc.2.2 ⟨n,g⟩) hc.1

 let on:a0U:=match r.bx with|true=>(match σ.g n with|.at b0 _=>[(b0,r.t.cells)]|_=>[])++(A++(O2++B'))|false=>A++(O2++B')
 let ow':Nat→a0U:=fun m=>if m=n then on else if m=m0 then[]else σ.ow m
 have hon:ow' n=on:=by simp[ow']
 have hom:∀m,m≠n→m≠m0→ow' m=σ.ow m:=fun m hm hm'=>by simp[ow',hm,hm']
 have hom0:ow' m0=[]:=by simp[ow',hne0]
 have hon1:∀c,c∈on.map (·.1)→c∈(σ.ow n).map (·.1)∨c∈O2.map (·.1):=by
  intro c hc;have key:c∈(A++(O2++B')).map (·.1)→c∈(σ.ow n).map (·.1)∨c∈O2.map (·.1):=by
   intro hc;simp only[pA,mA]at hc;rcases hc with hc|hc|hc;exact .inl (h4 c (by rw[e3];simp only[pA,mA];exact .inl hc));exact .inr hc;exact .inl (h4 c (by rw[e3];simp only[pA,mA];exact .inr (.inr hc)))
  rcases h6 with⟨hbx,b0,hs,ho⟩|⟨hbx,-,-,ho⟩;simp only[on,hbx,hs,pA,mA,a04,a25,mC,List.not_mem_nil,or_false]at hc;rcases hc with rfl|hc;exact .inl (by rw[ho];simp);exact key (by simpa only[pA,mA]using hc);simp only[on,hbx]at hc;exact key hc
 have hOwned:∀c,(∃m,c∈(ow' m).map (·.1))→a0L σ c:=by
  rintro c ⟨m,hm⟩
  by_cases e:m=n
  subst e;rw[hon]at hm;rcases hon1 c hm with g|g;exact⟨m,g⟩;exact⟨m0,hO2 c g⟩
  by_cases e':m=m0
  rw[e',hom0]at hm;simp at hm;rw[hom m e e']at hm;exact⟨m,hm⟩
 have hsh:∀c,Shr B w σ c→Shr B w' ⟨σ.g,ow',none⟩ c:=fun c ⟨g1,g2,g3⟩=>⟨a24 g1 hsz,g2,fun g4=>g3 (hOwned c g4)⟩;have hshR2:∀c∈R2,Shr B w' ⟨σ.g,ow',none⟩ c:=fun c hc=>hsh c (i2 c hc)

 have hplace:∀m q rm tq s,Γ.rt m=some rm→loc (a0a w σ.ov) rm.t (σ.g m) q=some (tq,s)→(m=n→∀rest,q=p++rest→rest=[]∨(Ty.list true ε).shn=(Ty.list true ε))→
   loc (a0a w' none) rm.t (σ.g m) q=some (tq,s)∧∀e,tq=.list true e→(m=n→∀rest,q=p++rest→(Ty.list true ε).shn=(Ty.list true ε))→s.rd (a0a w' none) 0=s.rd (a0a w σ.ov) 0:=by
  intro m q rm tq s hrm hlq hq
  by_cases e:m=n
  subst e;rw[hr]at hrm;simp only[sj]at hrm;subst hrm
  have:=b3t p q r.t (σ.g m) h1 hl hy h3 hc1 (hq rfl) hlq
  refine⟨this.1,fun e ht hne=>this.2 e s (by rw[ht]) (fun rest he=>?_)⟩;have hp:=hne rfl rest he;subst he;rw[a2I p rest r.t _ hl]at hlq
  have:=a6a rest (Ty.list true ε) _ hp hlq
  rw[ht]at this;simp[Ty.shn]at this
  ·obtain⟨Om,Rm,g1,g2,g3,g4,g5,-⟩:=h.sep hrm;have hcell:∀j,j<rm.t.cells→(σ.g m).rd (a0a w' none) j=(σ.g m).rd (a0a w σ.ov) j:=fun j _=>by
    cases es:σ.g m with
    |one v=>rfl
    |_=>rename_i b' o';exact hoth m e b' _ (g5 _ _ es)
   refine⟨a1Y q rm.t _ g1 hlq hcell (fun c j hc=>hoth m e c j (g4 c hc)),fun e' ht _=>?_⟩;rw[ht]at hlq;exact a9M g1 hlq hcell (fun c j hc=>hoth m e c j (g4 c hc))
 have hkeep:∀a v,a0i (a0a w σ.ov) σ.g Γ.rt (Shr B w σ) a v→a0i (a0a w' none) σ.g (fun j=>bif j==n then some ⟨r.bx,r.t,a1y r.t r.x p (Ty.list true ε) y'⟩else bif j==m0 then none else Γ.rt j) (Shr B w' ⟨σ.g,ow',none⟩) (f a) v:=by
  intro a v ha;rcases hf a with g|⟨g,hk,hk0⟩;rw[g];trivial;rw[g];refine ha.frame hshm hsh fun m q rm tq s hcase hrm hlq=>?_
  have hq:m=n→∀rest,q=p++rest→rest=[]∨(Ty.list true ε).shn=(Ty.list true ε):=by
   intro e rest he;rcases hcase with rfl|rfl|⟨o',l',rfl⟩;exact hk e rest he;exact .inr (hk e rest he);exact .inr (hk e rest he)
  have hp:=hplace m q rm tq s hrm hlq hq;refine⟨if m=n then⟨r.bx,r.t,a1y r.t r.x p (Ty.list true ε) y'⟩else rm,?_,?_,?_⟩
  by_cases e:m=n
  simp[e];have e':(m==n)=false:=by simpa using e
  have e0:(m==m0)=false:=by simpa using hk0 m q hcase
  simp[e,e',e0,hrm]
  by_cases e:m=n
  subst e;rw[hr]at hrm;simp only[sj]at hrm;subst hrm;simpa using hp.1;simpa[e]using hp.1;intro u hne hu;rcases hcase with rfl|rfl|⟨o',l',rfl⟩;exact absurd rfl hne;obtain⟨r0,e0,s0,k1,k2,k3⟩:=ha;rw[hrm]at k1;simp only[sj]at k1;subst k1;rw[hlq]at k2;simp only[sj,pJ]at k2;rw[hp.2 e0 k2.1 (fun e rest he=>hk e rest he)];exact hu;obtain⟨r0,e0,s0,a0,l0,c0,k1,k2,k3⟩:=ha;rw[hrm]at k1;simp only[sj]at k1;subst k1;rw[hlq]at k2;simp only[sj,pJ]at k2;rw[hp.2 e0 k2.1 (fun e rest he=>hk e rest he)];exact hu
 have hpins:∀i b,B.pin i=some b→(bif pinned+i==n then some (Root.mk r.bx r.t (a1y r.t r.x p (Ty.list true ε) y'))else bif pinned+i==m0 then none else Γ.rt (pinned+i))≠none→σ.g (pinned+i)=b:=fun i b hb hne=>by
  refine h.pins i b hb fun e=>hne ?_
  by_cases e':pinned+i=n
  rw[e',hr]at e;cases e;have e'':(pinned+i==n)=false:=by simpa using e'
  rw[e'',e];simp
 refine⟨ow',?_,?_,?_,?_,?_,?_,?_,a41 h.size hsz,hfr,?_,hpins,by rw[hw'];exact h.still⟩
 ·intro m rm hrm
  by_cases e:m=n
  subst e;simp only[AE.setRt,beq_self_eq_true,cT,sj]at hrm;subst hrm;refine⟨_,R',h7,fun c hc=>?_,?_⟩;rcases h8 c hc with g|g;exact hsh c (h2 c g);exact hshR2 c g;rcases h6 with⟨hbx,b0,hs,ho⟩|⟨hbx,hs,ht,ho⟩;exact .inl ⟨hbx,b0,hs,by show ow' m=_;rw[hon];simp[on,hbx,hs]⟩;exact .inr ⟨hbx,hs,ht,by show ow' m=_;rw[hon];simp[on,hbx]⟩
  ·have e1:m≠m0:=by
    rintro rfl
    have e':(m==n)=false:=by simpa using e
    simp[AE.setRt,e',AE.mapv]at hrm
   have hrm':Γ.rt m=some rm:=by
    have e':(m==n)=false:=by simpa using e
    have e1':(m==m0)=false:=by simpa using e1
    simpa[AE.setRt,e',e1',AE.mapv]using hrm
   obtain⟨Om,Rm,g1,g2,g3,g4,g5,g6⟩:=h.sep hrm';refine⟨Om,Rm,a0p rm.t g1 (fun j _=>?_) (fun c j hc=>?_),fun c hc=>hsh c (g2 c hc),?_⟩
   ·cases es:σ.g m with
    |one v=>rfl
    |_=>rename_i b' o';exact hoth m e b' _ (g5 _ _ es)
   rcases hc with hc|hc;exact hoth m e c j (g4 c hc);exact hshm c j (g2 c hc);show(rm.bx=true∧∃b,σ.g m=.at b 0∧ow' m=(b,rm.t.cells)::Om)∨(rm.bx=false∧(∃v,σ.g m=.one v)∧(∃e,rm.t=.list true e)∧ow' m=Om);rw[hom m e e1];exact g6
 intro m hm
 by_cases e:m=n
 subst e;simp[AE.setRt]at hm
 by_cases e1:m=m0
 show ow' m=[];rw[e1];exact hom0;have e':(m==n)=false:=by simpa using e
 have e1':(m==m0)=false:=by simpa using e1
 show ow' m=[];rw[hom m e e1];exact h.norm m (by simpa[AE.setRt,e',e1',AE.mapv]using hm);intro m;show((ow' m).map (·.1)).Nodup
 by_cases e:m=n
 subst e;rw[hon];have hnd:=h.nodup m;have key:((A++(O2++B')).map (·.1)).Nodup:=by
  have hO'n:=h3.nodup;rw[e3]at hO'n;simp only[pA,a20,mA]at hO'n⊢;obtain⟨k1,⟨k2,k3,k4⟩,k5⟩:=hO'n;refine⟨k1,⟨hn2,k3,fun a ha c hc e=>?_⟩,fun a ha c hc e=>?_⟩;subst e;exact h.disj m m0 (Ne.symm hne0) a (h4 a (by rw[e3];simp only[pA,mA];exact .inr (.inr hc))) (hO2 a ha);subst e;rcases hc with hc|hc;exact h.disj m m0 (Ne.symm hne0) a (h4 a (by rw[e3];simp only[pA,mA];exact .inl ha)) (hO2 a hc);exact k5 a ha a (.inr hc) rfl
 rcases h6 with⟨hbx,b0,hs,ho⟩|⟨hbx,-,-,ho⟩;simp only[on,hbx,hs,a54,a04,a17];refine⟨fun g=>?_,key⟩;rw[ho]at hnd;simp only[a04,a17]at hnd;simp only[pA,mA]at g;rcases g with g|g|g;exact hnd.1 (by rw[e3];simp only[pA,mA];exact .inl g);exact h.disj m m0 (Ne.symm hne0) b0 (by rw[ho];simp) (hO2 b0 g);exact hnd.1 (by rw[e3];simp only[pA,mA];exact .inr (.inr g));simp only[on,hbx];exact key
 by_cases e1:m=m0
 rw[e1,hom0];simp;rw[hom m e e1];exact h.nodup m;have one:∀m m',m≠m'→m=n→∀c,c∈(ow' m).map (·.1)→c∉(ow' m').map (·.1):=by
  intro m m' hmm e c hc hc';subst e
  by_cases e1:m'=m0
  rw[e1,hom0]at hc';simp at hc';rw[hon]at hc;rw[hom m' (Ne.symm hmm) e1]at hc';rcases hon1 c hc with g|g;exact h.disj m m' hmm c g hc';exact h.disj m0 m' (Ne.symm e1) c (hO2 c g) hc'
 intro m m' hmm c hc hc'
 by_cases e:m=n
 exact one m m' hmm e c hc hc'
 by_cases e':m'=n
 exact one m' m (Ne.symm hmm) e' c hc' hc
 by_cases e1:m=m0
 rw[show(Gh.mk σ.g ow' none).ow m=ow' m from rfl,e1,hom0]at hc;simp at hc
 by_cases e2:m'=m0
 rw[show(Gh.mk σ.g ow' none).ow m'=ow' m' from rfl,e2,hom0]at hc';simp at hc';rw[show(Gh.mk σ.g ow' none).ow m=ow' m from rfl,hom m e e1]at hc;rw[show(Gh.mk σ.g ow' none).ow m'=ow' m' from rfl,hom m' e' e2]at hc';exact h.disj m m' hmm c hc hc';intro m q hq;rw[show(Gh.mk σ.g ow' none).ow m=ow' m from rfl]at hq
 by_cases e:m=n
 subst e;rw[hon]at hq;have hold:q∈σ.ow m→a0J w' q.1 q.2:=fun g=>hfree _ _ (h.live m q g) ⟨m,a00 g⟩;have key:q∈A++(O2++B')→a0J w' q.1 q.2:=by
  intro g;simp only[mA]at g;have hmem:q∈O'→q∈σ.ow m:=fun g=>by
   rcases h6 with⟨-,b0,-,ho⟩|⟨-,-,-,ho⟩;rw[ho];exact a08 _ g;rw[ho];exact g
  rcases g with g|g|g;exact hold (hmem (by rw[e3];simp[g]));exact hlive q g;exact hold (hmem (by rw[e3];simp[g]))
 rcases h6 with⟨hbx,b0,hs,ho⟩|⟨hbx,-,-,ho⟩;simp only[on,hbx,hs,a54,mC]at hq;rcases hq with g|g;exact hold (by rw[ho,g];simp);exact key g;simp only[on,hbx]at hq;exact key hq
 by_cases e1:m=m0
 rw[e1,hom0]at hq;cases hq;rw[hom m e e1]at hq;exact hfree _ _ (h.live m q hq) ⟨m,a00 hq⟩;intro i hi;exact(h.slots i hi).mapv hkeep;show a9Z _ _ _ Γ.pd none;rw[hpd];trivial
 rintro c ⟨m,hm⟩
 exact h.mine c (hOwned c ⟨m,hm⟩)
end Go.Ab
namespace Go.Ab
section
variable {P:Program} {B:Base} {N:Nat} {ρ:Type} {Γ:AE} {a:Act} {w:World} {σ:Gh}
theorem b6R{τ:Ty}{t:TypeId}{A:Option Addr}{n c b o k:Nat}(ht:a0l P τ (.inl t)=true)(h1:τ.cells=1)(hf:a0J w b k)(hk:o+1≤k):
  (Instr.storeAt t (.pointer (some ⟨b,o,none⟩)) (.slice A n c)).run P w=.ok () (w.setCell ⟨b,o,none⟩ (.slice A n c)):=by
 obtain⟨I⟩:=a0v (a0G ht);have hcs:(Value.slice A n c).cells=#[Value.slice A n c]:=rfl
 have:=run_storeCells_cells (P:=P) b o [Value.slice A n c] 0 w (fun j hj=>(hf.cell (o:=o+0+j) (by simp at hj;omega)).1) (fun j hj=>(hf.cell (o:=o+0+j) (by simp at hj;omega)).2) (fun u hu=>by
  simp only[a34]at hu;subst hu;rfl)
 have hsz:(Value.slice A n c).cells.size=τ.cells:=by rw[hcs,h1];rfl
 simp only[Instr.storeAt,Instr.sureAddr,storeVar,Sem.run_bind,Sem.run_pure,Result.andThen_ok,I.sizeOf,hsz,ne_eq,not_true_eq_false,if_false];rw[hcs];simp only[a32]at this;exact this
theorem c5J{b o k:Nat}(hf:a0J w b k)(hk:o<k)(v:Value)(c j:Nat):a0a (w.setCell ⟨b,o,none⟩ v) none c j=if c=b∧j=o then some v else a0a w none c j:=by
 simp only[a0a]
 by_cases e1:c=b∧j=o
 obtain⟨rfl,rfl⟩:=e1;obtain⟨u,hu⟩:=a64.1 (hf.cell hk).1;rw[World.cell?_setCell_same _ _ _ hu]
 simp
 rw[if_neg e1,World.cell?_setCell_other];intro e';simp only[Addr.mk.injEq,and_true]at e';exact e1 ⟨e'.1.symm,e'.2.symm⟩
theorem d3K(Γ:AE):Γ.mapv id=Γ:=by
 have:∀s:SV,s.mapv id=s:=fun s=>by cases s<;>simp[SV.mapv]
 simp only[AE.mapv,this]
theorem a0o.skip{o:Oper}{K:AE→Rs ρ}{z:ρ}{w':World}{Γ':AE}{σ':Gh}(hN:a.tmps.size=N)(hrun:(execOp a.eval o).run P w=.ok .skip w')(h:Rel B Γ' N (a0k a) w' σ')(hK:K (Γ'.setD o.dst .dead)=some z):a0o P B N o a w K z:=by
 cases hd:o.dst with
 |none=>exact⟨undef,w',Γ',σ',.inr ⟨hrun,rfl⟩,by rw[hd];exact h,by rw[hd]at hK;exact hK⟩
 |some d=>exact⟨undef,w',Γ'.set d .dead,σ',.inr ⟨hrun,rfl⟩,by rw[hd];exact h.putd hN (fun _=>trivial),by rw[hd]at hK;exact hK⟩
theorem b0b{t:Ty}(h:t.isList=true):t.cells=1:=by cases t<;>first|rfl|cases h
theorem a6y:∀(p q:a0N),a8T p q=true→p=q
 | [],[],_=>rfl
 |.fst::p,.fst::q,h=>by rw[a6y p q h]
 |.snd::p,.snd::q,h=>by rw[a6y p q h]
 |.idx i::p,.idx j::q,h=>by
  simp only[a8T,bA,beq_iff_eq]at h;rw[h.1,a6y p q h.2]
 | [],_::_,h=>by cases h
 |.fst::_,[],h=>by cases h
 |.fst::_,.snd::_,h=>by cases h
 |.fst::_,.idx _::_,h=>by cases h
 |.snd::_,[],h=>by cases h
 |.snd::_,.fst::_,h=>by cases h
 |.snd::_,.idx _::_,h=>by cases h
 |.idx _::_,[],h=>by cases h
 |.idx _::_,.fst::_,h=>by cases h
 |.idx _::_,.snd::_,h=>by cases h
theorem c7p(n:Nat)(Γ:AE)(r r':Option Root):(((Γ.mapv (AV.deeps [n] [])).setRt n r).mapv (AV.deeps [n] [])).setRt n r'=(Γ.mapv (AV.deeps [n] [])).setRt n r':=by
 have h1:∀a:AV,(a.deeps [n] []).deeps [n] []=a.deeps [n] []:=fun a=>by
  cases a with
  |sref m q=>
   by_cases hm:m=n
   subst hm;cases q<;>simp[AV.deeps];simp[AV.deeps,hm]
  |swin m q o l=>
   by_cases hm:m=n
   subst hm;simp[AV.deeps];simp[AV.deeps,hm]
  |ptr m q=>
   by_cases hm:m=n
   subst hm;cases q<;>simp[AV.deeps];simp[AV.deeps,hm]
  |_=>rfl
 simp only[AE.setRt,AE.mapv];congr 1
 ·funext i;cases Γ.sl i with
  |one v=>simp[SV.mapv,h1]
  |cmp c vs=>simp[SV.mapv,h1]
 funext j;cases (j==n)<;>rfl
theorem Rel.setBox{tm:Nat→Value}(h:Rel B Γ N tm w σ){n b:Nat}{r:Root}(hr:Γ.rt n=some r)(hg:σ.g n=.at b 0)(ho:σ.ow n=[(b,r.t.cells)])(hpd:Γ.pd=none){t2:Ty}{z:t2.den}{R2}{w':World}(hc:t2.cells=r.t.cells)
  (hd:dec (a0a w' none) t2 ((Src.at b 0).rd (a0a w' none))=some (z,[],R2))(hR:∀c∈R2,Shr B w σ c)(hsame:∀c,c≠b→w'.heap[c]?=w.heap[c]?)(hfree:∀c k,a0J w c k→a0J w' c k)(hsz:w.heap.size≤w'.heap.size)(hio:a1H w'=a1H w):
  Rel B ((Γ.mapv (AV.deeps [n] [])).setRt n (some ⟨true,t2,z⟩)) N tm w' σ:=by
 have hov:=h.ov_none hpd;have hbn:b∈(σ.ow n).map (·.1):=by rw[ho];simp
 have hsh:∀c,Shr B w σ c→Shr B w' σ c:=fun c hc=>⟨a24 hc.1 hsz,hc.2⟩;have hm:∀c j,c≠b→a0a w' σ.ov c j=a0a w σ.ov c j:=fun c j hcb=>a1c _ (hsame c hcb) j;have hms:∀c j,Shr B w σ c→a0a w' σ.ov c j=a0a w σ.ov c j:=fun c j hcs=>hm c j fun e=>hcs.2.2 ⟨n,e▸hbn⟩;have hmo:∀m c j,m≠n→c∈(σ.ow m).map (·.1)→a0a w' σ.ov c j=a0a w σ.ov c j:=fun m c j hmn hcm=>hm c j fun e=>h.disj n m (Ne.symm hmn) c (e▸hbn) hcm;have hrt:∀k,k≠n→((Γ.mapv (AV.deeps [n] [])).setRt n (some ⟨true,t2,z⟩)).rt k=Γ.rt k:=fun k hk=>b6N hk _;have hrn:((Γ.mapv (AV.deeps [n] [])).setRt n (some ⟨true,t2,z⟩)).rt n=some ⟨true,t2,z⟩:=by simp[AE.setRt]
 have a1j:∀m:Nat,[n].contains m=(m==n):=fun m=>by simp only[List.contains,List.elem];cases (m==n)<;>rfl
 refine⟨fun m r' hr'=>?_,fun m hm=>?_,h.nodup,h.disj,fun m p hp=>hfree _ _ (h.live m p hp),fun i hi=>(h.slots i hi).mapv fun a v ha=>?_,?_,a41 h.size hsz,fun c hc' hF=>?_,h.mine,fun i b' hb hne=>h.pins i b' hb fun e=>?_,hio.trans h.still⟩
 ·by_cases hmn:m=n
  subst hmn;rw[hrn]at hr';simp only[sj]at hr';subst hr';refine⟨[],R2,?_,fun c hc=>hsh c (hR c hc),.inl ⟨rfl,b,hg,by rw[ho,hc]⟩⟩;rw[hg,hov];exact hd
  ·rw[hrt m hmn]at hr';obtain⟨O1,R1,l1,l2,l3,l4,l5,l6⟩:=h.sep hr';refine⟨O1,R1,a0p _ l1 (fun j _=>?_) (fun c j hc=>?_),fun c hc=>hsh c (l2 c hc),l6⟩
   ·cases es:σ.g m with
    |one v=>rfl
    |_=>rename_i b' o;exact hmo m b' _ hmn (l5 _ _ es)
   rcases hc with hc|hc;exact hmo m c j hmn (l4 c hc);exact hms c j (l2 c hc)
 by_cases hmn:m=n
 subst hmn;rw[hrn]at hm;cases hm;rw[hrt m hmn]at hm;exact h.norm m hm
 ·have other:(∀k q,(a=.ptr k q∨a=.sref k q∨∃o l,a=.swin k q o l)→k≠n)→a0i (a0a w' σ.ov) σ.g ((Γ.mapv (AV.deeps [n] [])).setRt n (some ⟨true,t2,z⟩)).rt (Shr B w' σ) a v:=fun hk=>by
   refine ha.frame hms hsh fun k q rk t s hcase hrk hl=>?_
   have hkn:=hk k q hcase;obtain⟨O1,R1,l1,l2,l3,l4,l5,l6⟩:=h.sep hrk;have hcell:∀j,(σ.g k).rd (a0a w' σ.ov) j=(σ.g k).rd (a0a w σ.ov) j:=fun j=>by
    cases es:σ.g k with
    |one v=>rfl
    |_=>rename_i b' o;exact hmo k b' _ hkn (l5 _ _ es)
   refine⟨rk,by rw[hrt k hkn];exact hrk,a1Y q rk.t _ l1 hl (fun j _=>hcell j) (fun c j hc=>hmo k c j hkn (l4 c hc)),fun u _ hu=>?_⟩;rw[←hu];cases s with
   |one v=>rfl
   |_=>rename_i b' o;exact hmo k b' _ hkn (h.place hrk hl)
  cases a with
  |ptr m q=>
   simp only[AV.deeps,a1j];split
   ·rename_i hmn;have hmn:m=n:=by simpa using hmn
    subst hmn;cases q with
    |cons=>trivial
    |nil=>
     obtain⟨r',t',b',o',p1,p2,p3⟩:=ha;simp only[loc,a0Q,sj,pJ]at p2;exact⟨⟨true,t2,z⟩,t2,b',o',hrn,by show some (t2,σ.g m)=_;rw[p2.2],p3⟩
   rename_i hmn;exact other (by rintro k q' (g|g|⟨o,l,g⟩)<;>cases g;simpa using hmn)
  |sref m q=>
   simp only[AV.deeps,a1j];split;cases q<;>exact True.intro;rename_i hmn;exact other (by rintro k q' (g|g|⟨o,l,g⟩)<;>cases g;simpa using hmn)
  |swin m q o l=>
   simp only[AV.deeps,a1j];split;trivial;rename_i hmn;exact other (by rintro k q' (g|g|⟨o,l,g⟩)<;>cases g;simpa using hmn)
  |_=>exact other (by rintro k q' (g|g|⟨o,l,g⟩)<;>cases g)
 have:=h.pend
 rw[hpd]at this;show a9Z _ _ _ Γ.pd σ.ov;rw[hpd,hov];trivial;rw[hsame c fun e=>?_];exact h.frame c hc' hF;subst e;rcases h.mine c ⟨n,hbn⟩with g|g;exact hF g;omega
 by_cases hi:pinned+i=n
 rw[hi,hr]at e;cases e;rw[hrt _ hi]at hne;exact hne e
theorem Rel.overR{tm:Nat→Value}{ty:Ty}{t:TypeId}{n:Nat}{r:Root}{yv:AV}{vx vy:Value}{K:AE→Rs ρ}{z:ρ}(hty:a0l P ty (.inl t)=true)(h:Rel B Γ N tm w σ)(hr:Γ.rt n=some r)
  (hx:a0i (a0a w σ.ov) σ.g Γ.rt (Shr B w σ) (.ptr n []) vx)(hy:a0i (a0a w σ.ov) σ.g Γ.rt (Shr B w σ) yv vy)(hz:Γ.over ty n r yv K=some z):
  ∃w' Γ' σ' b o,vx=.pointer (some ⟨b,o,none⟩)∧w'=w.setCells b o vy.cells.toList∧(Instr.storeAt t vx vy).run P w=.ok () w'∧Rel B Γ' N tm w' σ'∧K Γ'=some z:=by
 unfold AE.over at hz
 split at hz
 rename_i t' y rr hl;obtain⟨hpd,-⟩:=a0F hl;have hov:=h.ov_none hpd
 split at hz
 rename_i hc;obtain⟨hbx,hrt,hp',hsh'⟩:=hc;have hy:VOk (a0a w σ.ov) (Shr B w σ) t' y vy:=hy;have hct:t'.cells=r.t.cells:=by rw[←Ty.cells_sh t',hsh',←hrt,Ty.cells_sh]
 obtain⟨b,hg,hfr⟩:=h.frzBox hr hbx hpd;obtain⟨r',t1,b1,o1,q1,q2,q3⟩:=hx;simp only[loc,a0Q,hg,sj,pJ,Src.at.injEq]at q2;obtain⟨-,rfl,rfl⟩:=q2;have hroom:a0J w b (0+r.t.cells):=by
  have:=h.room (p:=[]) (t:=r.t) (b:=b) (o:=0) hr (by rw[hg];rfl)
  exact this
 have hty':a0l P t' (.inl t)=true:=by rw[←a2R,hsh'];exact hty
 have hrun:=b9J hty' hy (b:=b) (o:=0) (by rw[hct];exact hroom) (a06 _);rw[←q3]at hrun;obtain⟨hvs,-⟩:=hy.cells;have hvl:vy.cells.toList.length=r.t.cells:=by rw[←hct];simpa using hvs
 obtain⟨-,-,R6,hv3,hv4⟩:=id hy;obtain⟨w',hw'⟩:∃w',w'=w.setCells b 0 vy.cells.toList:=⟨_,rfl⟩;have hm:∀c j,a0a w' none c j=if c=b∧0≤j∧j<0+r.t.cells then vy.cells.toList[j-0]? else a0a w none c j:=fun c j=>by
  have:=a6T b vy.cells.toList 0 w _ hroom (by omega) c j
  rw[hvl]at this;rw[hw'];exact this
 have hbown:a0L σ b:=⟨n,h.place (p:=[]) (t:=r.t) (b:=b) (o:=0) hr (by rw[hg];rfl)⟩;have hd1:dec (a0a w' none) t' ((Src.at b 0).rd (a0a w' none))=some (y,[],R6):=a0p t' hv3 (fun j hj=>by
  show a0a w' none b (0+j)=_;rw[hm,if_pos ⟨rfl,by omega,by omega⟩,Nat.sub_zero,a03];simp) (fun c j hcc=>by
  rcases hcc with hcc|hcc;simp at hcc;rw[hm,if_neg,hov]
  rintro⟨rfl,-⟩
  exact(hv4 c hcc).2.2 hbown)
 have fin:∀(t2:Ty)(z2:t2.den),castTo t' t2 y=some z2→t2.cells=r.t.cells→K ((Γ.mapv (AV.deeps [n] [])).setRt n (some ⟨true,t2,z2⟩))=some z→
   ∃w' Γ' σ' b o,vx=.pointer (some ⟨b,o,none⟩)∧w'=w.setCells b o vy.cells.toList∧(Instr.storeAt t vx vy).run P w=.ok () w'∧Rel B Γ' N tm w' σ'∧K Γ'=some z:=fun t2 z2 hcast hc2 hK=>by
  have hsub:∀c,Shr B w σ c→Shr B w ⟨σ.g,fun m=>if m=n then[(b,r.t.cells)]else σ.ow m,σ.ov⟩ c:=fun c ⟨g1,g2,g3⟩=>⟨g1,g2,fun⟨m,hmm⟩=>g3 ⟨m,by
   have hmm2:c∈(if m=n then[(b,r.t.cells)]else σ.ow m).map (·.1):=hmm
   split at hmm2
   rename_i e;simp only[a04,a25,a34]at hmm2;rw[e,hmm2];exact h.place (p:=[]) (t:=r.t) (b:=b) (o:=0) hr (by rw[hg];rfl);exact hmm2⟩⟩
  have:=hfr.setBox (w':=w') (b:=b) (r:=⟨true,r.t.shn,Ty.shnx r.t r.x⟩) (by simp[AE.setRt]) hg (by simp[Ty.cells_shn]) (by simpa[AE.setRt,AE.mapv]using hpd) (t2:=t2) (z:=z2) (R2:=R6) (by rw[hc2];exact(Ty.cells_shn _).symm) (b6O hcast hd1) (fun c hc=>hsub c (hv4 c hc))
   (fun c hcb=>by rw[hw'];exact a3z _ _ _ _ _ hcb) (fun _ _ hf=>by rw[hw'];exact hf.setCells _ _ _) (by rw[hw',a5f];exact a06 _) (by rw[hw'];exact a6U _ _ _ _)
  rw[c7p]at this;exact⟨w',_,_,b,0,q3,hw',by rw[hw'];exact hrun,this,hK⟩
 split at hz
 rename_i z2 hz2;exact fin _ z2 hz2 rfl hz
 split at hz
 rename_i z2 hz2;exact fin _ z2 hz2 (Ty.cells_shn _) hz;exact fin t' y (b1y _ _) hct hz;cases hz;cases hz
theorem Rel.storR{tm:Nat→Value}{ty:Ty}{t:TypeId}{n:Nat}{p:a0N}{yv:AV}{vx vy:Value}{K:AE→Rs ρ}{z:ρ}(_hsh:ty.sh=ty)(hty:a0l P ty (.inl t)=true)(h:Rel B Γ N tm w σ)
  (hx:a0i (a0a w σ.ov) σ.g Γ.rt (Shr B w σ) (.ptr n p) vx)(hy:a0i (a0a w σ.ov) σ.g Γ.rt (Shr B w σ) yv vy)(hz:Γ.stor ty n p yv K=some z):
  ∃w' Γ' σ' b o,vx=.pointer (some ⟨b,o,none⟩)∧w'=w.setCells b o vy.cells.toList∧(Instr.storeAt t vx vy).run P w=.ok () w'∧Rel B Γ' N tm w' σ'∧K Γ'=some z:=by
 obtain⟨yw,hyw⟩:∃f:AV→AV,f yv=yv:=⟨fun v=>v,rfl⟩;rw[←hyw]at hy hz;clear hyw;obtain⟨r,t0,b,off,hr,hl,hxv⟩:=id hx;obtain⟨O1,R1,k1,k2,k3,k4,k5,k6⟩:=h.sep hr;obtain⟨y0,O',R',A1,B1,A1',B1',hd,hg,e1,e2⟩:=a1m p r.t _ k1 hl;unfold AE.stor at hz;rw[hr]at hz;simp only at hz
 split at hz
 ·rename_i e l hge
  split at hz
  ·rename_i hlist;have ht0:t0=.list true e:=by
    have:=hg.symm.trans hge
    exact congrArg Sigma.fst this
   subst ht0;have hroom:=h.room hr hl;have hbown:a0L σ b:=⟨n,h.place hr hl⟩
   split at hz
   
   rename_i hye;rw[hye]at hy;have hy:vy=.slice none 0 0:=hy
   split at hz
   cases hz;rename_i r2 hlk;obtain⟨hpd,-⟩:=a0F hlk;have hov:=h.ov_none hpd;have hrun:=b6R (A:=none) (n:=0) (c:=0) hty (b0b hlist) hroom (o:=off) (a06 _);rw[←hxv,←hy]at hrun;have hm:=c5J (v:=vy) hroom (o:=off) (Nat.lt_succ_self _);obtain⟨ow',-,hrel⟩:=h.chg hr hl hd (w':=w.setCell ⟨b,off,none⟩ vy) (ov':=σ.ov) (pd':=Γ.pd) (y':=([]:List e.den)) (O2:=[]) (R2:=[]) (.same (by simp[hpd])) (by
     rw[hov];show a0K _ true e.cells _ (a0a _ none b (off+0))=_;rw[hm,if_pos ⟨rfl,rfl⟩,hy];rfl) (fun c j=>by
     rw[hov,hm]
     by_cases e1:c=b∧j=off
     exact .inr (.inl ⟨e1.1,by omega,by simp only[Ty.cells];omega⟩);exact .inl (by rw[if_neg e1])) (by simp) (by simp) (by simp) (fun c k hf _=>hf.setCell _ _) (by simp) (fun c hc hF=>by
     rw[a7R,if_neg];exact h.frame c hc hF
     rintro rfl
     rcases h.mine _ hbown with g|g;exact hF g;omega) (by simp) (f:=AV.kill n p) (fun av=>b6M n p _ av)
   exact⟨_,_,_,b,off,hxv,by rw[hy];rfl,hrun,hrel,hz⟩
   ·
    rename_i m p' hye;rw[hye]at hy;rcases a0g hz with⟨hc,hz1⟩|⟨-,hz1⟩<;>clear hz
    ·simp only[bA,beq_iff_eq]at hc;obtain⟨rfl,hc⟩:=hc;have hpp:=a6y _ _ hc;subst hpp
     split at hz1
     ·rename_i m2 p2 d2 hpd;rcases a0g hz1 with⟨hc2,hz2⟩|⟨-,hz2⟩<;>clear hz1
      ·simp only[bA,beq_iff_eq]at hc2;obtain⟨rfl,hc2⟩:=hc2;have hpp:=a6y _ _ hc2;subst hpp;have hp:=h.pend;rw[hpd]at hp;cases hov:σ.ov with
       |none=>rw[hov]at hp;exact hp.elim
       |some ov=>
        obtain⟨b2,o2,v2⟩:=ov;rw[hov]at hp;obtain⟨r2,e2,q1,q2⟩:=hp;rw[hr]at q1;simp only[sj]at q1;subst q1;rw[←hov,hl]at q2;simp only[sj,pJ,Src.at.injEq]at q2;obtain⟨-,rfl,rfl⟩:=q2;obtain⟨r3,e3,s3,q3,q4,q5⟩:=hy;rw[hr]at q3;simp only[sj]at q3;subst q3;rw[hl]at q4;simp only[sj,pJ]at q4;obtain⟨-,rfl⟩:=q4;have hv:v2=vy:=by
         rw[hov]at q5;simpa[Src.rd,a0a]using q5
        have hsl:∃A n' c',vy=.slice A n' c':=by
         rcases a1z hd with⟨g,-⟩|⟨A,n',c',os,g,-⟩;rw[q5]at g;exact⟨_,_,_,Option.some.inj g⟩;rw[q5]at g;exact⟨_,_,_,Option.some.inj g⟩
        obtain⟨A,n',c',hsl⟩:=hsl;have hrun:=b6R (A:=A) (n:=n') (c:=c') hty (b0b hlist) hroom (o:=off) (a06 _);rw[←hxv,←hsl,←hv]at hrun
        have:=h.done hpd hov
        refine⟨_,_,_,b,off,hxv,?_,?_,this,hz2⟩;rw[hv,hsl];rfl;rw[←hv];exact hrun
      cases hz2
     cases hz1
    ·split at hz1
     ·rename_i r2 e' l' hl1 hl2
      split at hz1
      ·rename_i hee;subst hee;rcases a0g hz1 with⟨-,hz2⟩|⟨hmn,hz2⟩<;>clear hz1;cases hz2
       ·have hmn:m≠n:=by simpa using hmn
        obtain⟨hpd,hrm⟩:=a0F hl2;obtain⟨r3,e3,s3,q3,q4,q5⟩:=hy;rw[hrm]at q3;simp only[sj]at q3;subst q3;simp only[loc,a0Q,sj,pJ]at q4;obtain⟨q4,rfl⟩:=q4;obtain⟨O3,R3,i1,-,-,-,-,i6⟩:=h.sep hrm;have hg0:σ.g m=.one vy:=by
         rcases i6 with⟨hbx,-⟩|⟨-,⟨v,hs⟩,-⟩;cases hbx;rw[hs]at q5⊢;simp only[Src.rd,if_true,sj]at q5;rw[q5]
        have hsl:∃A n' c',vy=.slice A n' c':=by
         rcases a1z i1 with⟨g,-⟩|⟨A,n',c',os,g,-⟩;rw[q5]at g;exact⟨_,_,_,Option.some.inj g⟩;rw[q5]at g;exact⟨_,_,_,Option.some.inj g⟩
        obtain⟨A,n',c',hsl⟩:=hsl;have hrun:=b6R (A:=A) (n:=n') (c:=c') hty (b0b hlist) hroom (o:=off) (a06 _);rw[←hxv,←hsl]at hrun;obtain⟨ow',hrel⟩:=h.move hr hl hd hrm hg0 hmn hpd (f:=fun av=>AV.drop m (AV.kill n p av)) (fun av=>by
         rcases b6M n p (.list true e') av with g|⟨g,g2⟩;left;rw[g];rfl
         ·rw[g];cases av with
          |ptr m2 q2=>
           simp only[AV.drop]
           by_cases hm:m2=m
           left;simp[hm]
           have:(m2==m)=false:=by simpa using hm
           refine .inr ⟨by simp[this],g2,fun k q hh=>?_⟩;rcases hh with hh|hh|⟨_,_,hh⟩<;>cases hh;exact hm
          |sref m2 q2=>
           simp only[AV.drop]
           by_cases hm:m2=m
           left;simp[hm]
           have:(m2==m)=false:=by simpa using hm
           refine .inr ⟨by simp[this],g2,fun k q hh=>?_⟩;rcases hh with hh|hh|⟨_,_,hh⟩<;>cases hh;exact hm
          |swin m2 q2 o2 k2=>
           simp only[AV.drop]
           by_cases hm:m2=m
           left;simp[hm]
           have:(m2==m)=false:=by simpa using hm
           refine .inr ⟨by simp[this],g2,fun k q hh=>?_⟩;rcases hh with hh|hh|⟨_,_,hh⟩<;>cases hh;exact hm
          |_=>exact .inr ⟨rfl,g2,fun k q hh=>by rcases hh with hh|hh|⟨_,_,hh⟩<;>cases hh⟩)
        have hmm:(Γ.mapv (AV.kill n p)).mapv (AV.drop m)=Γ.mapv fun av=>AV.drop m (AV.kill n p av):=by
         have:∀s:SV,(s.mapv (AV.kill n p)).mapv (AV.drop m)=s.mapv fun av=>AV.drop m (AV.kill n p av):=fun s=>by
          cases s<;>simp[SV.mapv]
         simp only[AE.mapv,this]
        rw[hmm]at hz2;exact⟨_,_,_,b,off,hxv,by rw[hsl];rfl,hrun,hrel,hz2⟩
      cases hz1
     cases hz1
   cases hz
  cases hz
 ·rename_i t1 y1 hnl hge
  split at hz
  rename_i hpt;obtain⟨hpure,hteq⟩:=hpt;have hty:a0l P t1 (.inl t)=true:=by rw[←a2R,hteq];exact hty
  obtain⟨yv,Γ1,σ1,hz,h1,hv,hev,-⟩:=h.asV (.inl hy) hz
  split at hz
  rename_i r1 hlk;obtain⟨hpd,hr1⟩:=a0F hlk;have hov:=h1.ov_none hpd
  split at hz
  rename_i hgt;have hx1:a0i (a0a w σ1.ov) σ1.g Γ1.rt (Shr B w σ1) (.ptr n p) vx:=by
   rcases hev.live (.inl hx)with g|⟨k,q,g1,g2⟩;exact g;rcases g1 with g1|g1|⟨_,_,g1⟩<;>cases g1;rw[hr1]at g2;cases g2
  obtain⟨r3,t3,b3,o3,q1,q2,q3⟩:=hx1;rw[hr1]at q1;simp only[sj]at q1;subst q1;obtain⟨O4,R4,j1,j2,j3,j4,j5,j6⟩:=h1.sep hr1;obtain⟨y4,O5,R5,A5,B5,A5',B5',hd5,hg5,-,-⟩:=a1m p r1.t _ j1 q2;have ht3:t3=t1:=by
   rw[hg5]at hgt;exact hgt
  subst ht3;have hO5:=a9C hpure hd5;subst hO5;have hroom:=h1.room hr1 q2;have hbown:a0L σ1 b3:=⟨n,h1.place hr1 q2⟩;have hrun:=b9J hty hv hroom (o:=o3) (a06 _);rw[←q3]at hrun;obtain⟨hvs,-⟩:=hv.cells;obtain⟨-,-,R6,hv3,hv4⟩:=id hv;have hvl:vy.cells.toList.length=t3.cells:=by simpa using hvs
  have hm:∀c j,a0a (w.setCells b3 o3 vy.cells.toList) none c j=if c=b3∧o3≤j∧j<o3+t3.cells then vy.cells.toList[j-o3]? else a0a w none c j:=fun c j=>by
   have:=a6T b3 vy.cells.toList o3 w _ hroom (by omega) c j
   rw[hvl]at this;exact this
  obtain⟨ow',-,hrel⟩:=h1.chg hr1 q2 hd5 (w':=w.setCells b3 o3 vy.cells.toList) (ov':=σ1.ov) (pd':=Γ1.pd) (y':=yv) (O2:=[]) (R2:=R6) (.same (by simp[hpd])) (by
    rw[hov];refine a0p t3 hv3 (fun j hj=>?_) (fun c j hc=>?_);show a0a _ none b3 (o3+j)=_;rw[hm,if_pos ⟨rfl,by omega,by omega⟩,a33];simp;rcases hc with hc|hc;simp at hc;rw[hm,if_neg,hov]
    rintro⟨rfl,-⟩
    exact(hv4 c hc).2.2 hbown) (fun c j=>by
    rw[hov,hm]
    by_cases e1:c=b3∧o3≤j∧j<o3+t3.cells
    exact .inr (.inl e1);exact .inl (by rw[if_neg e1])) (by simp) (by simp) (by simp) (fun c k hf _=>hf.setCells _ _ _) (by rw[a5f];exact a06 _) (fun c hc hF=>by
    rw[a3z];exact h1.frame c hc hF
    rintro rfl
    rcases h1.mine _ hbown with g|g;exact hF g;omega) (fun c hc=>⟨by rw[a5f];exact(hv4 c hc).1,(hv4 c hc).2.1,(hv4 c hc).2.2,by simp⟩) (f:=id) (fun av=>.inr ⟨rfl,c8F n p hpure av⟩) (hio:=a6U _ _ _ _)
  rw[d3K]at hrel;exact⟨_,_,_,b3,o3,q3,rfl,hrun,hrel,hz⟩;cases hz;cases hz
  ·cases p with
   |nil=>exact h.overR (hty:=hty) hr hx hy hz
   |cons=>cases hz
theorem c1I{o:Oper}{t:TypeId}{x y:Operand}{cx:Cx}{q:Bool}{K:AE→Rs ρ}{z:ρ}(hcx:CxTy P cx)(ho:o.op=.store t x y)(hag:Γ.aggOf y=none)
  (h:Rel B Γ N (a0k a) w σ)(hN:a.tmps.size=N)(hf:fits N o=true)(hz:aop cx q o Γ K=some z):a0o P B N o a w K z:=by
 have hx:=h.opd (a0S hf x (by simp[ho,Op.operands]));have hy:=h.opd (a0S hf y (by simp[ho,Op.operands]));have hz:(if q then none else match Γ.opd x with
  |.ptr n p=>match cx.T t with
   |some t=>Γ.stor t n p (Γ.opd y) fun Γ=>K (Γ.setD o.dst .dead)
   |none=>none
  |_=>none)=some z:=by
  simp only[aop,ho,hag]at hz;exact hz
 split at hz
 cases hz
 split at hz
 rename_i n p hxe;rw[hxe]at hx
 split at hz
 rename_i ty hT;obtain⟨hsh,hty⟩:=hcx.T t _ hT;obtain⟨w',Γ',σ',b,off,-,-,hrun,hrel,hK⟩:=Rel.storR hsh hty h hx hy hz;exact a0o.skip hN (by simp[execOp,ho,hrun]) hrel hK;cases hz;cases hz
theorem b7w(w:World)(cs:Array Value)(t:TypeId)(k:Nat)(u:Value):
  (w.alloc (.cells cs t)).setCell ⟨w.heap.size,k,none⟩ u=w.alloc (.cells (cs.setIfInBounds k u) t):=by
 have:(w.heap.push (.cells cs t)).modify w.heap.size (fun
   |.cells c elem frozen=>.cells (if(none:Option Nat).isSome then c else c.setIfInBounds k u) elem frozen
   |o=>o)=w.heap.push (.cells (cs.setIfInBounds k u) t):=by
  refine Array.ext (by simp) fun i h1 h2=>?_
  rw[Array.getElem_modify]
  by_cases hi:i=w.heap.size
  subst hi;simp;have hi':i<w.heap.size:=by simp at h2;omega
  rw[if_neg (by omega),a72 hi',a72 hi']
 simp only[World.setCell,World.alloc];exact congrArg (fun h=>({ w with heap:=h }:World)) this
theorem sh_sh:∀τ:Ty,τ.sh.sh=τ.sh
 |.int _|.bool|.str|.unit=>rfl
 |.list _ e=>by simp only[Ty.sh,sh_sh e]
 |.nl e=>by simp only[Ty.sh,sh_sh e]
 |.arr _ e=>by simp only[Ty.sh,sh_sh e]
 |.pair a b=>by simp only[Ty.sh,sh_sh a,sh_sh b]
def b0c:Nat→Ty→Option Ty
 |0,τ=>some τ
 |k+1,.pair a b=>if a.cells=1 then b0c k b else none
 |_+1,_=>none
theorem b9O:∀(k:Nat)(τ:Ty){a b:Ty},b0c k τ=some (.pair a b)→a2e τ k=true∧(a.cells=1→b0c (k+1) τ=some b)∧∀(m:Mem) bl o,loc m τ (.at bl o) (a1l k)=some (a,.at bl (o+k))
 |0,τ,a,b,h=>by
  simp only[b0c,sj]at h;subst h;exact⟨rfl,fun h=>by simp[b0c,h],fun m bl o=>rfl⟩
 |k+1,τ,a,b,h=>by
  cases τ with
  |pair u v=>
   simp only[b0c]at h
   split at h
   rename_i hu;obtain⟨h1,h2,h3⟩:=b9O k v h;refine⟨h1,fun ha=>by simp only[b0c,if_pos hu];exact h2 ha,fun m bl o=>?_⟩
   have:=h3 m bl (o+u.cells)
   rw[hu]at this;show loc m v (.at bl (o+u.cells)) (a1l k)=_;rw[hu,this];congr 3;omega;cases h
  |_=>simp[b0c]at h
theorem c0S{τ0:Ty}{t:TypeId}(hty:a0l P τ0 (.inl t)=true){i d b0:Nat}(hi:i<N)(hdN:d<N){us:Array Value}{tm:Nat→Value}(htm:tm i=.agg us)(htd:tm d=.pointer (some ⟨b0,0,none⟩)){z:ρ}{K:AE→Rs ρ}:
  ∀(τ:Ty)(k:Nat){Γ:AE}{σ:Gh}{w:World},Rel B Γ N tm w σ→b0c k τ0=some τ→
   AE.stors (.tmp i) d τ0 k τ Γ K=some z→us.size=k+τ.cells∧∃Γ' σ',Rel B Γ' N tm (w.setCells b0 k (us.toList.drop k)) σ'∧K Γ'=some z
 |.unit,k,Γ,σ,w,h,_,hz=>by
  simp only[AE.stors]at hz
  split at hz
  rename_i vs hag;obtain⟨hk,hz'⟩:=(a0g hz).elim id fun h=>by cases h.2
  have hsl:=h.slots i hi;simp only[AE.aggOf]at hag
  split at hag
  rename_i vs' hs;simp only[sj]at hag;subst hag;rw[hs]at hsl;obtain⟨us',⟨h1,h2,h3⟩,h4⟩:=hsl;rw[htm]at h2;cases h2;have hk:vs'.length=k:=by simpa using hk
  refine⟨by simp only[Ty.cells];omega,Γ,σ,?_,hz'⟩;rw[List.drop_of_length_le (by simp;omega)];exact h;cases hag;cases hz
 |.pair a b,k,Γ,σ,w,h,htl,hz=>by
  simp only[AE.stors]at hz
  split at hz
  rename_i r n v hr hg hv
  split at hz
  rename_i hc;obtain⟨hrt,rfl,ha⟩:=hc;obtain⟨h1,h2,h3⟩:=b9O k τ0 htl;have hsd:=h.slots n hdN;rw[htd]at hsd;have hgp:a0i (a0a w σ.ov) σ.g Γ.rt (Shr B w σ) (.ptr n []) (.pointer (some ⟨b0,0,none⟩)):=by
   simp only[AE.get]at hg
   split at hg
   rename_i v' hs';subst hg;rw[hs']at hsd;exact hsd;cases hg
  obtain⟨r',t',b',o',p1,p2,p3⟩:=hgp;rw[hr]at p1;simp only[sj]at p1;subst p1;simp only[loc,a0Q,sj,pJ]at p2;obtain⟨rfl,p2⟩:=p2;simp only[Value.pointer.injEq,sj,Addr.mk.injEq,and_true]at p3;obtain⟨rfl,rfl⟩:=p3;have hx:a0i (a0a w σ.ov) σ.g Γ.rt (Shr B w σ) (.ptr n (a1l k)) (.pointer (some ⟨b0,k,none⟩)):=by
   refine⟨r,a,b0,0+k,hr,?_,by rw[a03]⟩;rw[p2,hrt];exact h3 _ _ _
  have hsl:=h.slots i hi;have hag:∃vs,Γ.sl i=.cmp .agg vs∧vs[k]?=some v:=by
   simp only[AE.aggOf]at hv
   split at hv
   rename_i vs hs;exact⟨vs,hs,hv⟩;cases hv
  obtain⟨vs,hs,hvk⟩:=hag;rw[hs]at hsl;obtain⟨us',⟨g1,g2,g3⟩,g4⟩:=hsl;rw[htm]at g2;cases g2;obtain⟨u,huk,hu⟩:=g4 k v hvk;obtain⟨fs,hut,hs'⟩:∃fs,P.underlying t=some (.struct fs)∧a0l P τ0 (.inr (fs.toList,0))=true:=by
   exact b1C (f:=k) hty h1
  obtain⟨fl,τ',k',q1,q2,q3,q4,q5⟩:=b3b k τ0 _ 0 hs' h1;have e:=(q5 (a0a w none) 0 0).symm.trans (h3 (a0a w none) 0 0);simp only[sj,pJ]at e;obtain⟨rfl,-⟩:=e;have hta:a0l P τ'.sh (.inl fl.type)=true:=by rw[a2R];exact q3
  have hshsh:τ'.sh.sh=τ'.sh:=sh_sh τ';obtain⟨w',Γ',σ',b2,o2,s1,s2,s3,s4,s5⟩:=Rel.storR hshsh hta h hx hu hz;simp only[Value.pointer.injEq,sj,Addr.mk.injEq,and_true]at s1;obtain⟨rfl,rfl⟩:=s1;rw[b8j (g3 k u huk)]at s2;subst s2;obtain⟨c1,Γ2,σ2,c2,c3⟩:=c0S hty hi hdN htm htd b (k+1) s4 (h2 ha) s5;refine⟨by simp only[Ty.cells];omega,Γ2,σ2,?_,c3⟩;have hdr:us.toList.drop k=u::us.toList.drop (k+1):=by
   have hlt:k<us.toList.length:=by
    have:=(a44.1 huk).1
    simpa using this
   rw[a45 hlt];congr 1
   have:=huk
   rw[←a21,lG hlt]at this;exact Option.some.inj this
  rw[hdr];exact c2;cases hz;cases hz
 |.int _,k,Γ,σ,w,_,_,hz=>by simp[AE.stors]at hz
 |.bool,k,Γ,σ,w,_,_,hz=>by simp[AE.stors]at hz
 |.str,k,Γ,σ,w,_,_,hz=>by simp[AE.stors]at hz
 |.list _ _,k,Γ,σ,w,_,_,hz=>by simp[AE.stors]at hz
 |.arr _ _,k,Γ,σ,w,_,_,hz=>by simp[AE.stors]at hz
theorem b5Z(w:World)(t:TypeId):∀(l:List Value)(k:Nat)(cs:Array Value),k+l.length=cs.size→
  (w.alloc (.cells cs t)).setCells w.heap.size k l=w.alloc (.cells (cs.toList.take k++l).toArray t)
 | [],k,cs,h=>by
  simp only[World.setCells,a70];rw[List.take_of_length_le (by simp at h⊢;omega)]
 |u::l,k,cs,h=>by
  simp only[World.setCells,lC]at h⊢;rw[b7w,b5Z w t l (k+1) _ (by simp;omega)];congr 2;have hk:k<cs.toList.length:=by simp;omega
  simp only[Array.toList_setIfInBounds];rw[a52 (by simpa using hk)];simp[a77]
theorem c7q{o:Oper}{t:TypeId}{x:Operand}{d:Nat}{cx:Cx}{q:Bool}{K:AE→Rs ρ}{z:ρ}{vs:List AV}(hcx:CxTy P cx)(ho:o.op=.box t x)(hd:o.dst=some d)(hag:(bif q then none else Γ.aggOf x)=some vs)
  (h:Rel B Γ N (a0k a) w σ)(hN:a.tmps.size=N)(hf:fits N o=true)(hz:aop cx q o Γ K=some z):a0o P B N o a w K z:=by
 have hag':Γ.aggOf x=some vs:=by
  cases q with
  |true=>cases hag
  |false=>exact hag
 have hxo:=a0S hf x (by simp[ho,Op.operands]);have hdN:d<N:=by
  have:=hf
  simp only[fits,hd,bA,dT]at this;exact this.2
 simp only[aop,ho,hd,hag]at hz
 ·split at hz
  ·rename_i τ hrd hO
   split at hz
   ·rename_i hT;have hty:a0l P τ (.inl t)=true:=by rw[←a2R];exact(hcx.T t _ hT).2
    obtain⟨I⟩:=a0v (a0G hty);cases x with
    |tmp i=>
     have hi:i<N:=by simpa[a1i]using hxo
     have hsl:=h.slots i hi;have hs:Γ.sl i=.cmp .agg vs:=by
      simp only[AE.aggOf]at hag'
      split at hag'
      rename_i vs' hs;simp only[sj]at hag';rw[hs,hag'];cases hag'
     rw[hs]at hsl;obtain⟨us,⟨h1,h2,h3⟩,h4⟩:=hsl;have hev:a.eval (.tmp i)=.agg us:=h2;have hrun:(execOp a.eval o).run P w=.ok (.value (.pointer (some ⟨w.heap.size,0,none⟩))) (w.alloc (.cells us t)):=by
      simp[execOp,ho,hev,Instr.box,newVar,newRow,Value.cells]
     obtain⟨Γ1,σ1,g1,g2,g3⟩:=h.newBox hz (fun c hc=>a1J _ c hc) (a1V _) (a1K (w:=w) (.cells I.z.cells t)) I.zsize (a5o _ I.zok) (by simp);have hne:i≠d:=by
      rintro rfl
      cases τ<;>simp[AE.stors,AE.aggOf,AE.set,AE.put]at g1
     have g4:=g2.putd (sv:=.one (.ptr d [])) (v:=.pointer (some ⟨w.heap.size,0,none⟩)) (d:=d) hN (fun _=>g3);obtain⟨g0,Γ',σ',g5,g6⟩:=c0S hty hi hdN (us:=us) (tm:=a0k (a.put (some d) (.pointer (some ⟨w.heap.size,0,none⟩)))) (by rw[b3D i (by rw[hN];exact hi),if_neg hne];exact h2) (by rw[b3D d (by rw[hN];exact hdN),if_pos rfl]) τ 0 g4 rfl g1;rw[a74,b5Z w t us.toList 0 I.z.cells (by rw[I.zsize,a36];omega)]at g5;simp only[List.take_zero,a37,a75]at g5;exact⟨_,_,Γ',σ',.inl hrun,by rw[hd];exact g5,g6⟩
    |_=>simp[AE.aggOf]at hag'
   cases hz
  cases hz
theorem b7x{o:Oper}{t:TypeId}{x y:Operand}{cx:Cx}{q:Bool}{K:AE→Rs ρ}{z:ρ}{vs:List AV}(hcx:CxTy P cx)(ho:o.op=.store t y x)(hag:Γ.aggOf x=some vs)
  (h:Rel B Γ N (a0k a) w σ)(hN:a.tmps.size=N)(hf:fits N o=true)(hz:aop cx q o Γ K=some z):a0o P B N o a w K z:=by
 have hxo:=a0S hf x (by simp[ho,Op.operands]);have hyo:=a0S hf y (by simp[ho,Op.operands]);have hz:(if q then none else match y with
   |.tmp s=>match Γ.rt s with
    |some r=>if cx.T t=some r.t.sh∧0<r.t.cells then AE.stors x s r.t 0 r.t Γ fun Γ=>K (Γ.setD o.dst .dead)else none
    |none=>none
   |_=>none)=some z:=by
  simp only[aop,ho,hag]at hz;exact hz
 split at hz
 cases hz
 ·cases y with
  |tmp d=>
   simp only[]at hz;have hdN:d<N:=by simpa[a1i]using hyo
   split at hz
   ·rename_i r hr
    split at hz
    ·rename_i hT;obtain⟨hT,hpos⟩:=hT;have hty:a0l P r.t (.inl t)=true:=by rw[←a2R];exact(hcx.T t _ hT).2
     cases x with
     |tmp i=>
      have hi:i<N:=by simpa[a1i]using hxo
      have hsl:=h.slots i hi;have hs:Γ.sl i=.cmp .agg vs:=by
       simp only[AE.aggOf]at hag
       split at hag
       rename_i vs' hs;simp only[sj]at hag;rw[hs,hag];cases hag
      rw[hs]at hsl;obtain⟨us,⟨h1,h2,h3⟩,h4⟩:=hsl;have hev:a.eval (.tmp i)=.agg us:=h2

      have hptr:∃b0,a0k a d=.pointer (some ⟨b0,0,none⟩)∧loc (a0a w σ.ov) r.t (σ.g d) []=some (r.t,.at b0 0):=by
       have hgd:Γ.get d=.ptr d []:=by
        revert hz hpos
        cases r.t with
        |pair u v=>
         intro hpos hz;simp only[AE.stors]at hz
         split at hz
         rename_i r' n v' hr' hg hv'
         split at hz
         rename_i hc;rw[hg,hc.2.1];cases hz;cases hz
        |unit=>intro hpos;simp[Ty.cells]at hpos
        |_=>intro hpos hz;simp[AE.stors]at hz
       have hsd:a0i (a0a w σ.ov) σ.g Γ.rt (Shr B w σ) (.ptr d []) (a0k a d):=by
        have hsd:=h.slots d hdN;simp only[AE.get]at hgd
        split at hgd
        rename_i v' hs';subst hgd;rw[hs']at hsd;exact hsd;cases hgd
       obtain⟨r',t',b',o',p1,p2,p3⟩:=hsd;rw[hr]at p1;simp only[sj]at p1;subst p1;simp only[loc,a0Q,sj,pJ]at p2;obtain⟨rfl,p2⟩:=p2;obtain⟨O',R',-,-,hb⟩:=(h.roots d r hr).rd;rcases hb with⟨-,b0,q1,-⟩|⟨-,⟨v,q1⟩,-⟩;rw[q1]at p2;simp only[Src.at.injEq]at p2;obtain⟨rfl,rfl⟩:=p2;exact⟨b0,p3,by simp only[loc,a0Q,q1]⟩;rw[q1]at p2;cases p2
      obtain⟨b0,htd,hloc⟩:=hptr;have hroom:=h.room hr hloc;obtain⟨g0,Γ',σ',g5,g6⟩:=c0S hty hi hdN (us:=us) h2 htd r.t 0 h rfl hz;rw[a74]at g5;have hrun:(Instr.storeAt t (.pointer (some ⟨b0,0,none⟩)) (.agg us)).run P w=.ok () (w.setCells b0 0 us.toList):=
       b8h hty (by simp only[Value.cells];omega) (fun u hu=>by
        obtain⟨k,hk⟩:=a55.1 hu;exact h3 k u (by rw[←a21];exact hk)) hroom (a06 _)
      have htd':a.eval (.tmp d)=.pointer (some ⟨b0,0,none⟩):=htd;exact a0o.skip hN (by simp only[execOp,ho,hev,htd'];simp[hrun]) g5 g6
     |_=>simp[AE.aggOf]at hag
    cases hz
   cases hz
  |_=>cases hz
end
end Go.Ab
namespace Go.Ab
theorem b1e:∀(p q:a0N)(t:Ty)(x:t.den),a1n (p++q) t x=a1n q (a1n p t x).1 (a1n p t x).2
 | [],_,_,_=>rfl
 |.fst::p,q,t,x=>by
  cases t with
  |pair a b=>exact b1e p q a x.1
  |_=>cases q with
   |nil=>rfl
   |cons s q=>cases s<;>rfl
 |.snd::p,q,t,x=>by
  cases t with
  |pair a b=>exact b1e p q b x.2
  |_=>cases q with
   |nil=>rfl
   |cons s q=>cases s<;>rfl
 |.idx i::p,q,t,x=>by
  cases t with
  |arr n e=>exact b1e p q e _
  |list o e=>cases o with
   |true=>exact b1e p q e _
   |false=>cases q with
    |nil=>rfl
    |cons s q=>cases s<;>rfl
  |_=>cases q with
   |nil=>rfl
   |cons s q=>cases s<;>rfl
theorem b1f(t:Ty)(x y:t.den):a1D [] t x t y=y:=c0O t x y
theorem b3H:∀(p q:a0N)(t:Ty)(x:t.den)(t':Ty)(y:t'.den),a1D (p++q) t x t' y=a1D p t x (a1n p t x).1 (a1D q (a1n p t x).1 (a1n p t x).2 t' y)
 | [],q,t,x,t',y=>(b1f t x (a1D q t x t' y)).symm
 |.fst::p,q,t,x,t',y=>by
  cases t with
  |pair a b=>
   show(a1D (p++q) a x.1 t' y,x.2)=(a1D p a x.1 (a1n p a x.1).1 (a1D q (a1n p a x.1).1 (a1n p a x.1).2 t' y),x.2);rw[b3H p q a x.1 t' y]
  |_=>rfl
 |.snd::p,q,t,x,t',y=>by
  cases t with
  |pair a b=>
   show(x.1,a1D (p++q) b x.2 t' y)=(x.1,a1D p b x.2 (a1n p b x.2).1 (a1D q (a1n p b x.2).1 (a1n p b x.2).2 t' y));rw[b3H p q b x.2 t' y]
  |_=>rfl
 |.idx i::p,q,t,x,t',y=>by
  cases t with
  |arr n e=>
   show a78 x i (a1D (p++q) e (a40 x i e.dflt) t' y)=a78 x i (a1D p e (a40 x i e.dflt) (a1n p e (a40 x i e.dflt)).1 (a1D q (a1n p e (a40 x i e.dflt)).1 (a1n p e (a40 x i e.dflt)).2 t' y));rw[b3H p q e _ t' y]
  |list o e=>cases o with
   |true=>
    show a78 x i (a1D (p++q) e (a40 x i e.dflt) t' y)=a78 x i (a1D p e (a40 x i e.dflt) (a1n p e (a40 x i e.dflt)).1 (a1D q (a1n p e (a40 x i e.dflt)).1 (a1n p e (a40 x i e.dflt)).2 t' y));rw[b3H p q e _ t' y]
   |false=>rfl
  |_=>rfl
theorem b8m:∀(p:a0N)(t:Ty)(x:t.den)(t':Ty)(y:t'.den),b3A p=true→(a1n p t x).1=t'→a1n p t (a1D p t x t' y)=⟨t',y⟩
 | [],t,x,t',y,_,h=>by
  have h:t=t':=h;subst h;exact congrArg (Sigma.mk t) (b1f t x y)
 |.fst::p,t,x,t',y,hp,h=>by
  cases t with
  |pair a b=>exact b8m p a x.1 t' y hp h
  |_=>
   have h:Ty.unit=t':=h;subst h;rfl
 |.snd::p,t,x,t',y,hp,h=>by
  cases t with
  |pair a b=>exact b8m p b x.2 t' y hp h
  |_=>
   have h:Ty.unit=t':=h;subst h;rfl
 |.idx _::_,_,_,_,_,hp,_=>by cases hp
theorem b8n:∀(p:a0N)(t:Ty)(x:t.den)(t':Ty)(y z:t'.den),b3A p=true→(a1n p t x).1=t'→a1D p t (a1D p t x t' y) t' z=a1D p t x t' z
 | [],t,x,t',y,z,_,h=>by
  have h:t=t':=h;subst h;exact(b1f t _ z).trans (b1f t x z).symm
 |.fst::p,t,x,t',y,z,hp,h=>by
  cases t with
  |pair a b=>
   show(a1D p a (a1D p a x.1 t' y) t' z,x.2)=(a1D p a x.1 t' z,x.2);rw[b8n p a x.1 t' y z hp h]
  |_=>rfl
 |.snd::p,t,x,t',y,z,hp,h=>by
  cases t with
  |pair a b=>
   show(x.1,a1D p b (a1D p b x.2 t' y) t' z)=(x.1,a1D p b x.2 t' z);rw[b8n p b x.2 t' y z hp h]
  |_=>rfl
 |.idx _::_,_,_,_,_,_,hp,_=>by cases hp
theorem b4G:∀(p:a0N)(t:Ty)(x:t.den),b3A p=true→a1D p t x (a1n p t x).1 (a1n p t x).2=x
 | [],t,x,_=>b1f t x x
 |.fst::p,t,x,hp=>by
  cases t with
  |pair a b=>
   show(a1D p a x.1 (a1n p a x.1).1 (a1n p a x.1).2,x.2)=x;rw[b4G p a x.1 hp];rfl
  |_=>rfl
 |.snd::p,t,x,hp=>by
  cases t with
  |pair a b=>
   show(x.1,a1D p b x.2 (a1n p b x.2).1 (a1n p b x.2).2)=x;rw[b4G p b x.2 hp];rfl
  |_=>rfl
 |.idx _::_,_,_,hp=>by cases hp
section
variable {P:Program} {B:Base} {N:Nat} {ρ:Type} {Γ:AE} {a:Act} {w:World} {σ:Gh}
theorem c3V{tm:Nat→Value}(h:Rel B Γ N tm w σ){n p v r k}{l:List Int}(ha:a0i (a0a w σ.ov) σ.g Γ.rt (Shr B w σ) (.sref n p) v)(hr:Γ.rt n=some r)(hg:a0W r.t r.x p=⟨.list true (.int k),l⟩):
  ∃A c,v=.slice A l.length c∧∀j,j<l.length→∃A0,A=some A0∧A0.spot=none∧a0i (a0a w σ.ov) σ.g Γ.rt (Shr B w σ) (.ptr n (p++[.idx (0+j)])) (.pointer (some ⟨A0.block,A0.off+j,none⟩)):=by
 obtain⟨s,O',R',g1,g2,g3,g4,-,-⟩:=h.slice ha hr hg;rcases a1z g4 with⟨hv,hl⟩|⟨A0,n0,c,os,hv,hsp,hnc,hc,-⟩;simp only[Src.rd,if_true,sj]at hv;obtain⟨hl,-⟩:=hl;subst hl;exact⟨none,0,hv,fun j hj=>absurd hj (Nat.not_lt_zero j)⟩;simp only[Src.rd,if_true,sj]at hv;have hlen:l.length=n0:=a0R _ _ hc;refine⟨some A0,c,by rw[hv,hlen],fun j hj=>⟨A0,rfl,hsp.resolve_left (by omega),r,.int k,A0.block,A0.off+j,hr,?_,rfl⟩⟩;rw[a2I p _ _ _ g1];have hj':0+j<n0:=by omega
 have g2':s.rd (a0a w σ.ov) 0=some (.slice (some A0) n0 c):=by rw[g2,hv]
 simp only[loc,a0Q,g2',if_pos hj',Ty.cells,a46];rw[a03]
theorem c3W{tm:Nat→Value}(h:Rel B Γ N tm w σ){n p v r k off len}{l:List Int}(ha:a0i (a0a w σ.ov) σ.g Γ.rt (Shr B w σ) (.swin n p off len) v)(hr:Γ.rt n=some r)(hg:a0W r.t r.x p=⟨.list true (.int k),l⟩):
  off+len≤l.length∧∃A c,v=.slice A len c∧∀j,j<len→∃A0,A=some A0∧A0.spot=none∧a0i (a0a w σ.ov) σ.g Γ.rt (Shr B w σ) (.ptr n (p++[.idx (off+j)])) (.pointer (some ⟨A0.block,A0.off+j,none⟩)):=by
 obtain⟨s,O',R',A,n0,c,g1,g2,g3,g4,g5,g6,A',hv,g7,g8⟩:=h.window ha hr hg;rcases a1z g3 with⟨hv0,hl⟩|⟨A0,nn,c',os,hv0,hA0,hn0,hc,-⟩;simp only[Src.rd,if_true,sj,Value.slice.injEq]at hv0;obtain⟨rfl,rfl,rfl⟩:=hv0;obtain⟨hl,-⟩:=hl;subst hl;exact⟨by show off+len≤0;omega,A',_,hv,fun j hj=>by omega⟩;simp only[Src.rd,if_true,sj,Value.slice.injEq]at hv0;obtain⟨rfl,rfl,rfl⟩:=hv0;have hlen:l.length=n0:=a0R _ _ hc;refine⟨by omega,A',_,hv,fun j hj=>?_⟩;rcases g8 with g8|g8;omega;simp only[a22,a2Z (hA0.resolve_left (by omega))]at g8;refine⟨_,g8,rfl,r,.int k,A0.block,A0.off+off*1+j,hr,?_,rfl⟩;rw[a2I p _ _ _ g1];have hjl:off+j<n0:=by omega
 simp only[loc,a0Q,g2,if_pos hjl,Ty.cells,a46,Nat.add_assoc]
theorem c1J{Γ:AE}{n:Nat}{r:Root}(h:Γ.rt n=some r):Γ.setRt n (some r)=Γ:=by
 have:(fun j=>bif j==n then some r else Γ.rt j)=Γ.rt:=by
  funext j
  by_cases e:j=n
  subst e;simp[h]
  have:(j==n)=false:=by simpa using e
  simp[this]
 simp only[AE.setRt,this]
theorem c7r{Γ:AE}{n:Nat}{r r':Option Root}:(Γ.setRt n r).setRt n r'=Γ.setRt n r':=by
 simp only[AE.setRt];congr 1;funext j
 by_cases e:j=n
 subst e;simp
 have:(j==n)=false:=by simpa using e
 simp[this]
theorem c5K{k:IntKind}(l:List Int)(i:Nat):a1n [.idx i] (.list true (.int k)) l=⟨.int k,l.getD i 0⟩:=rfl
theorem d1R{k:IntKind}(l:List Int)(i:Nat)(y:Int):a1D [.idx i] (.list true (.int k)) l (.int k) y=l.set i y:=by
 show l.set i (a1D [] (.int k) (l.getD i 0) (.int k) y)=_;exact congrArg _ (b1f (.int k) _ y)
theorem d1S{n:Nat}{p:a0N}{r:Root}{k:IntKind}{l:List Int}{i:Nat}{y:Int}(hpd:Γ.pd=none)(hr:Γ.rt n=some r)(hg:a0W r.t r.x p=⟨.list true (.int k),l⟩):
  Γ.stor (.int k) n (p++[.idx i]) (.val (.int k) y) some=some (Γ.setRt n (some ⟨r.bx,r.t,a1y r.t r.x p (.list true (.int k)) (l.set i y)⟩)):=by
 have hg:a1n p r.t r.x=⟨.list true (.int k),l⟩:=hg;have h1:a1n (p++[.idx i]) r.t r.x=⟨.int k,l.getD i 0⟩:=by rw[b1e,hg,c5K]
 have h2:a1D (p++[.idx i]) r.t r.x (.int k) y=a1D p r.t r.x (.list true (.int k)) (l.set i y):=by
  have h0:=b3H p [.idx i] r.t r.x (.int k) y;rw[hg]at h0;exact h0.trans (congrArg (fun z:List Int=>a1D p r.t r.x (.list true (.int k)) z) (d1R l i y))
 have h3:a0W r.t r.x (p++[.idx i])=⟨.int k,l.getD i 0⟩:=h1;have h4:a1y r.t r.x (p++[.idx i]) (.int k) y=a1y r.t r.x p (.list true (.int k)) (l.set i y):=h2;unfold AE.stor;rw[hr];simp only[];rw[h3];simp only[Ty.sh,Ty.shn,and_self,if_true,AE.asV,b1y,AE.look,hpd,hr];rw[h3];simp only[if_true,h4];rw[show castTo (.int k) (.int k) y=some y from b1y (.int k) y];simp only[];rw[h4]
theorem d0M{n:Nat}{p:a0N}{k:IntKind}{t0:TypeId}{i:Nat}{av:AV}{tm:Nat→Value}{b o off m L:Nat}(hp:b3A p=true)(hty:a0l P (.int k) (.inl t0)=true)
  (hptr:∀{Γ:AE}{σ:Gh}{w:World}{r:Root}{l:List Int},Rel B Γ N tm w σ→Γ.sl i=.one av→Γ.rt n=some r→a0W r.t r.x p=⟨.list true (.int k),l⟩→l.length=L→∀j,j<m→
   a0i (a0a w σ.ov) σ.g Γ.rt (Shr B w σ) (.ptr n (p++[.idx (off+j)])) (.pointer (some ⟨b,o+j,none⟩)))(hoff:off+m≤L):
  ∀(ys:List Int)(s:Nat){Γ:AE}{σ:Gh}{w:World}{r:Root}{l:List Int},s+ys.length≤m→Rel B Γ N tm w σ→Γ.pd=none→Γ.sl i=.one av→Γ.rt n=some r→a0W r.t r.x p=⟨.list true (.int k),l⟩→l.length=L→
   ∃σ',Rel B (Γ.setRt n (some ⟨r.bx,r.t,a1y r.t r.x p (.list true (.int k)) (l.take (off+s)++(ys++l.drop (off+s+ys.length)))⟩)) N tm (w.setCells b (o+s) (ys.map (Value.int k))) σ'
 | [],s,Γ,σ,w,r,l,_,h,_,_,hr,hg,_=>by
  refine⟨σ,?_⟩;have hg:a1n p r.t r.x=⟨.list true (.int k),l⟩:=hg;have e:a1y r.t r.x p (.list true (.int k)) (l.take (off+s)++([]++l.drop (off+s+([]:List Int).length)))=r.x:=by
   have h1:=b4G p r.t r.x hp;rw[hg]at h1;have hl':l.take (off+s)++([]++l.drop (off+s+([]:List Int).length))=l:=by
    simp only[a37,a31,a32,List.take_append_drop]
   exact(congrArg (fun z:List Int=>a1D p r.t r.x (.list true (.int k)) z) hl').trans h1
  have hR:Rel B (Γ.setRt n (some ⟨r.bx,r.t,r.x⟩)) N tm w σ:=by
   rw[show(⟨r.bx,r.t,r.x⟩:Root)=r from rfl,c1J hr];exact h
  exact(congrArg (fun z=>Rel B (Γ.setRt n (some ⟨r.bx,r.t,z⟩)) N tm w σ) e).mpr hR
 |y::ys,s,Γ,σ,w,r,l,hs,h,hpd,hsl,hr,hg,hl=>by
  simp only[lC]at hs;have hx:=hptr h hsl hr hg hl s (by omega);have hz:=d1S (i:=off+s) (y:=y) hpd hr hg;obtain⟨w',Γ',σ',b',o',s1,s2,-,s4,s5⟩:=Rel.storR rfl hty h hx (a0i.mk_int (k:=k) y) hz;simp only[Value.pointer.injEq,sj,Addr.mk.injEq,and_true]at s1 s5;obtain⟨rfl,rfl⟩:=s1;subst s5;have s2:w'=w.setCell ⟨b,o+s,none⟩ (.int k y):=s2;subst s2;have hg0:a1n p r.t r.x=⟨.list true (.int k),l⟩:=hg;have hgs:=b8m p r.t r.x (.list true (.int k)) (l.set (off+s) y) hp (by rw[hg0]);obtain⟨σ2,h2⟩:=d0M hp hty hptr hoff ys (s+1) (r:=⟨r.bx,r.t,a1y r.t r.x p (.list true (.int k)) (l.set (off+s) y)⟩) (l:=l.set (off+s) y) (by omega) s4 hpd hsl (a8r _) hgs (by rw[a85];exact hl);refine⟨σ2,?_⟩;rw[c7r]at h2;have e1:a1y r.t (a1y r.t r.x p (.list true (.int k)) (l.set (off+s) y)) p (.list true (.int k)) ((l.set (off+s) y).take (off+(s+1))++(ys++(l.set (off+s) y).drop (off+(s+1)+ys.length))) =
    a1y r.t r.x p (.list true (.int k)) (l.take (off+s)++(y::ys++l.drop (off+s+(y::ys).length))):=by
   refine(b8n p r.t r.x (.list true (.int k)) _ _ hp (by rw[hg0])).trans (congrArg _ ?_);have hlt:off+s<l.length:=by omega
   rw[show off+(s+1)=off+s+1 from rfl,a52 (by rw[a85];exact hlt)];rw[List.drop_set_of_lt (by omega)];simp only[List.getElem_set_self,a77 (a06 _),aA,lC,List.cons_append,a37];rw[show off+s+1+ys.length=off+s+(ys.length+1)from by omega]
  rw[e1]at h2;exact h2
theorem d1T{n:Nat}{p:a0N}{k:IntKind}{t0:TypeId}{i:Nat}{av:AV}{A:Option Addr}{off Lc c:Nat}{r:Root}{l ys:List Int}{vy:Value}(hty:a0l P (.int k) (.inl t0)=true)
  (h:Rel B Γ N (a0k a) w σ)(hpd:Γ.pd=none)(hp:b3A p=true)(hsl:Γ.sl i=.one av)(hr:Γ.rt n=some r)(hg:a0W r.t r.x p=⟨.list true (.int k),l⟩)(hoff:off+Lc≤l.length)
  (hel:∀{Γ:AE}{σ:Gh}{w:World}{r:Root}{l':List Int},Rel B Γ N (a0k a) w σ→Γ.sl i=.one av→Γ.rt n=some r→a0W r.t r.x p=⟨.list true (.int k),l'⟩→l'.length=l.length→∀j,j<Lc→
   ∃A0,A=some A0∧A0.spot=none∧a0i (a0a w σ.ov) σ.g Γ.rt (Shr B w σ) (.ptr n (p++[.idx (off+j)])) (.pointer (some ⟨A0.block,A0.off+j,none⟩)))
  (hE:a8q w (a0a w σ.ov) (Shr B w σ) (.int k) ys vy){t t' ty:TypeId}{ts:Array TypeId}(h0:ts[0]?=some t)(hu:P.underlying t=some (.slice t'))(I:Info P (.int k) t'):
  ∃w' σ',(Builtin.copy_ ts ty #[.slice A Lc c,vy]).run P w=.ok (goInt ((min Lc ys.length:Nat):Int)) w'∧
   Rel B (Γ.setRt n (some ⟨r.bx,r.t,a1y r.t r.x p (.list true (.int k)) (b2X l off Lc ys)⟩)) N (a0k a) w' σ':=by
 obtain⟨Y,ny,cy,cs,rfl,hn,hlen,hone,⟨R,hcol,hR⟩,hc,hnone,hsp⟩:=hE;have hcs:cs=ys.map (Value.int k):=by
  have:=b3d ys ny 0 (by simpa[Ty.cells]using hlen) hcol
  simpa using this
 obtain⟨m,hm⟩:∃m,m=min Lc ys.length:=⟨_,rfl⟩;have hmn:m≤ny:=by rw[hn,hm];exact Nat.min_le_right _ _
 have hfirst:=a9O (P:=P) (w:=w) (w2:=w) (e:=.int k) rfl (fun _=>rfl) hlen hc hnone m hmn (c:=cy);simp only[Ty.cells,a46]at hfirst;have htake:cs.take m=(ys.take m).map (Value.int k):=by rw[hcs,List.map_take]
 have hgc:b2X l off Lc ys=l.take (off+0)++(ys.take m++l.drop (off+0+(ys.take m).length)):=by
  have:(ys.take m).length=m:=by rw[a42];omega
  rw[this,b2X,←hm,a32]
 have hmin:Nat.min ny Lc=m:=by rw[hm,hn];exact Nat.min_comm _ _
 have hsize:(sizeOf t').run P w=.ok 1 w:=by have:=I.sizeOf (w:=w);simpa[Ty.cells]using this
 by_cases hm0:m=0
 refine⟨w,σ,?_,?_⟩;rw[←hm];simp only[Builtin.copy_,h0];have hf0:(Builtin.firstCells 1 0 (.slice Y ny cy)).run P w=.ok #[] w:=by
  rw[hm0]at hfirst;simpa using hfirst
 simp[run_underlying hu,Builtin.lenOf,hmin,hm0,hsize,hf0];cases A<;>simp[storeCells];have e:b2X l off Lc ys=l:=by
  rw[hgc,hm0];simp
 have h1:=b4G p r.t r.x hp;have hg':a1n p r.t r.x=⟨.list true (.int k),l⟩:=hg;rw[hg']at h1;have hR':Rel B (Γ.setRt n (some ⟨r.bx,r.t,r.x⟩)) N (a0k a) w σ:=by
  rw[show(⟨r.bx,r.t,r.x⟩:Root)=r from rfl,c1J hr];exact h
 exact(congrArg (fun z:List Int=>Rel B (Γ.setRt n (some ⟨r.bx,r.t,a1y r.t r.x p (.list true (.int k)) z⟩)) N (a0k a) w σ) e).mpr ((congrArg (fun z=>Rel B (Γ.setRt n (some ⟨r.bx,r.t,z⟩)) N (a0k a) w σ) h1).mpr hR');obtain⟨A0,rfl,hA0,-⟩:=hel h hsl hr hg rfl 0 (by omega);obtain⟨σ',h2⟩:=d0M (b:=A0.block) (o:=A0.off) (off:=off) (m:=m) (L:=l.length) hp hty (fun hR hs hr' hg' hl' j hj=>by
   obtain⟨A1,e1,-,g⟩:=hel hR hs hr' hg' hl' j (by omega);simp only[sj]at e1;subst e1;exact g) (by omega) (ys.take m) 0 (by rw[a42];omega) h hpd hsl hr hg rfl
 refine⟨_,σ',?_,(congrArg (fun z=>Rel B (Γ.setRt n (some ⟨r.bx,r.t,a1y r.t r.x p (.list true (.int k)) z⟩)) N (a0k a) (w.setCells A0.block (A0.off+0) ((ys.take m).map (Value.int k))) σ') hgc).mpr h2⟩;have hfree:∀j,j<m→∃kk,a0J w A0.block kk∧A0.off+j<kk:=fun j hj=>by
  obtain⟨A1,e1,-,r1,t1,b1,o1,q1,q2,q3⟩:=hel h hsl hr hg rfl j (by omega);simp only[sj]at e1;subst e1;simp only[Value.pointer.injEq,sj,Addr.mk.injEq,and_true]at q3;obtain⟨rfl,rfl⟩:=q3;have hroom:=h.room q1 q2;refine⟨_,hroom,?_⟩;have hR1:t1=.int k:=by
   rw[hr]at q1;simp only[sj]at q1;subst q1;obtain⟨O1,R1,k1,-⟩:=h.sep hr;obtain⟨y,O',R',_,_,_,_,-,g4,-⟩:=a1m _ r.t _ k1 q2;have g5:a1n (p++[.idx (off+j)]) r.t r.x=⟨t1,y⟩:=g4;have hg':a1n p r.t r.x=⟨.list true (.int k),l⟩:=hg;rw[b1e,hg',c5K]at g5;exact(congrArg Sigma.fst g5).symm
  rw[hR1];simp[Ty.cells]
 have hst:=run_storeCells_cells (P:=P) A0.block A0.off (cs.take m) 0 w (fun j hj=>by
   obtain⟨kk,q1,q2⟩:=hfree j (by rw[a42]at hj;omega);exact(q1.cell (o:=A0.off+0+j) (by omega)).1) (fun j hj=>by
   obtain⟨kk,q1,q2⟩:=hfree j (by rw[a42]at hj;omega);exact(q1.cell (o:=A0.off+0+j) (by omega)).2) (fun u hu=>a7I (hone u (List.mem_of_mem_take hu)))
 have hA1:A0=⟨A0.block,A0.off,none⟩:=by cases A0;simp_all
 rw[←hA1,hcs]at hst;rw[←hm];simp only[Builtin.copy_,h0];simp only[a19]at *;simp[run_underlying hu,Builtin.lenOf,hmin,hsize,hfirst,hst,htake]
theorem d0N{o:Oper}{c:Call}{d:Nat}{cx:Cx}{q:Bool}{K:AE→Rs ρ}{z:ρ}(hcx:CxTy P cx)(ho:o.op=.call c)(hb:c.callee=.builtin .copy)(hd:o.dst=some d)
  (h:Rel B Γ N (a0k a) w σ)(hN:a.tmps.size=N)(hf:fits N o=true)(hz:aop cx q o Γ K=some z):a0o P B N o a w K z:=by
 obtain⟨cs,hrun⟩:=b5Y (P:=P) (a:=a) (w:=w) ho hb;have hl:∃x y,c.args.toList=[x,y]:=by
  cases hl:c.args.toList with
  |nil=>simp only[aop,ho,hd,hb,hl,a25,AE.blt]at hz;cases hz
  |cons x l=>
   cases l with
   |nil=>simp only[aop,ho,hd,hb,hl,a04,a25,AE.blt]at hz;cases hz
   |cons y l=>
    cases l with
    |nil=>exact⟨x,y,rfl⟩
    |cons u l=>simp only[aop,ho,hd,hb,hl,a04,AE.blt]at hz;cases hz
 obtain⟨x,y,hxy⟩:=hl;have hargs:c.args=#[x,y]:=by rw[←a43];simpa using hxy
 have hops:=b4F ho hb hf;rw[hxy]at hops;have hx:=h.opd (hops x (by simp));have hy:=h.opd (hops y (by simp));simp only[aop,ho,hd,hb,hxy,a04,a25,AE.blt]at hz
 split at hz
 cases hz
 ·split at hz
  ·rename_i o' k hT;obtain⟨t,ht,hT⟩:=a48.1 hT;have ht0:c.argTypes[0]?=some t:=by
    rw[←a21];cases hl:c.argTypes.toList with
    |nil=>rw[hl]at ht;cases ht
    |cons y l=>rw[hl]at ht;simpa using ht
   obtain⟨hsh,hty⟩:=hcx.T t _ hT;obtain⟨t',hu,hte,hpos⟩:=a1B hty;obtain⟨I⟩:=a0v (a0G hte);obtain⟨ys,hz,hE⟩:=h.elems rfl hy hz;have fin:∀(n:Nat)(p:a0N)(off:Nat)(len:Option Nat),(Γ.opd x=.sref n p∧off=0∧len=none∨∃Lc,Γ.opd x=.swin n p off Lc∧len=some Lc)→
     Γ.copTo n p off len k ys (fun m Γ'=>K (Γ'.set d (.val (.int .i64) (m:Int))))=some z→a0o P B N o a w K z:=by
    intro n p off len hav hz;unfold AE.copTo at hz
    split at hz
    ·rename_i r hlk;obtain⟨hpd,hr⟩:=a0F hlk
     split at hz
     ·rename_i k' l hg;obtain⟨hc,hz5⟩:=(a0g hz).elim id fun h=>by cases h.2
      simp only[bA,dT]at hc;obtain⟨rfl,hp⟩:=hc;have hxt:∃i,x=.tmp i∧Γ.sl i=.one (Γ.opd x):=by
       cases x with
       |tmp i=>
        refine⟨i,rfl,?_⟩;simp only[AE.opd,AE.get]at hav⊢;cases hs:Γ.sl i with
        |one v=>rfl
        |cmp c vs=>
         rw[hs]at hav;rcases hav with⟨h1,-⟩|⟨_,h1,-⟩<;>cases h1
       |const v=>
        exfalso
        simp only[AE.opd]at hav;unfold b5R at hav;rcases hav with⟨h1,-⟩|⟨_,h1,-⟩<;>split at h1<;>cases h1
       |global g=>rcases hav with⟨h1,-⟩|⟨_,h1,-⟩<;>cases h1
       |func f=>rcases hav with⟨h1,-⟩|⟨_,h1,-⟩<;>cases h1
      obtain⟨i,rfl,hsl⟩:=hxt;have hi:i<N:=by have:=hops (.tmp i) (by simp);simpa[a1i]using this
      have done:∀(A:Option Addr)(Lc c':Nat),a.eval (.tmp i)=.slice A Lc c'→len.getD (a18 l)=Lc→off+Lc≤a18 l→
        (∀{Γ':AE}{σ:Gh}{w:World}{r:Root}{l':List Int},Rel B Γ' N (a0k a) w σ→Γ'.sl i=.one (Γ.opd (.tmp i))→Γ'.rt n=some r→a0W r.t r.x p=⟨.list true (.int k'),l'⟩→l'.length=a18 l→∀j,j<Lc→
         ∃A0,A=some A0∧A0.spot=none∧a0i (a0a w σ.ov) σ.g Γ'.rt (Shr B w σ) (.ptr n (p++[.idx (off+j)])) (.pointer (some ⟨A0.block,A0.off+j,none⟩)))→a0o P B N o a w K z:=by
       intro A Lc c' hv hLc hoff hel;obtain⟨w',σ',k1,k2⟩:=d1T (ty:=o.type) hte h hpd hp hsl hr hg hoff hel hE ht0 hu I (c:=c');rw[hLc]at hz5;refine a0o.set hd hN (w':=w') (σ':=σ') (hrun.trans ?_) k2 (a0i.mk_int _) hz5;rw[hargs];have hv':a.eval (.tmp i)=.slice A Lc c':=hv;simp[builtin,hv',k1];rfl
      rcases hav with⟨he,rfl,rfl⟩|⟨Lc,he,rfl⟩;rw[he]at hx;obtain⟨A,c',hv,-⟩:=c3V h hx hr hg;refine done A (a18 l) c' hv rfl (by omega) fun {Γ' σ w r l'} hR hs hr' hg' hl' j hj=>?_
      have hsl':=hR.slots i hi;rw[hs,he]at hsl';obtain⟨A2,c2,hv2,hel⟩:=c3V hR hsl' hr' hg';have e:=hv2.symm.trans hv;simp only[Value.slice.injEq]at e;obtain⟨rfl,-,-⟩:=e;exact hel j (by omega);rw[he]at hx;obtain⟨hoff,A,c',hv,-⟩:=c3W h hx hr hg;refine done A Lc c' hv rfl hoff fun {Γ' σ w r l'} hR hs hr' hg' hl' j hj=>?_
      have hsl':=hR.slots i hi;rw[hs,he]at hsl';obtain⟨-,A2,c2,hv2,hel⟩:=c3W hR hsl' hr' hg';have e:=hv2.symm.trans hv;simp only[Value.slice.injEq]at e;obtain⟨rfl,-,-⟩:=e;exact hel j hj
     cases hz
    cases hz
   unfold AE.copK at hz
   split at hz
   rename_i n p he;exact fin n p 0 none (.inl ⟨he,rfl,rfl⟩) hz;rename_i n p off len he;exact fin n p off (some len) (.inr ⟨len,he,rfl⟩) hz;cases hz
  cases hz
theorem c4P{o:Oper}{f:Nat}{first caps:Array Operand}{d:Nat}{cx:Cx}{q:Bool}{K:AE→Rs ρ}{z:ρ}(ho:o.op=.makeFunc (.func f) first caps)(hd:o.dst=some d)
  (h:Rel B Γ N (a0k a) w σ)(hN:a.tmps.size=N)(hf:fits N o=true)(hz:aop cx q o Γ K=some z):a0o P B N o a w K z:=by
 have hops:=a0S hf;rw[ho]at hops;simp only[aop,ho,hd]at hz;obtain⟨hfe,hz⟩:=(a0g hz).elim id fun h=>by cases h.2
 have hfe:first=#[]:=by simpa using hfe
 subst hfe;have hrun:(execOp a.eval o).run P w=.ok (.value (.func (.func f) #[] (caps.map a.eval))) w:=by
  simp[execOp,ho,Instr.makeFunc]
 refine⟨_,w,_,σ,.inl hrun,?_,hz⟩;rw[hd];refine h.putd hN (fun _=>⟨caps.map a.eval,⟨by simp,rfl⟩,fun k av hk=>?_⟩);rw[a39]at hk;cases hp:caps.toList[k]? with
 |none=>rw[hp]at hk;cases hk
 |some x=>
  rw[hp]at hk;simp only[a22,sj]at hk;subst hk;refine⟨a.eval x,?_,h.opd (hops x (by simp only[Op.operands];simpa using a07 hp))⟩;rw[a58,←a21,hp];rfl
end
end Go.Ab
namespace Go.Ab
section
variable {P:Program} {B:Base} {N:Nat} {ρ:Type} {Γ:AE} {a:Act} {w:World} {σ:Gh}
theorem c4Q{o:Oper}{t:TypeId}{n:Nat}{ps:Array (Nat×Operand)}{d:Nat}{cx:Cx}{q:Bool}{K:AE→Rs ρ}{z:ρ}{o':Bool}{e t0:Ty}(hcx:CxTy P cx)(ho:o.op=.buildSlice t n ps)(hd:o.dst=some d)
  (hT:cx.T t=some (.list o' e))(hO:(bif q || !e.isList then none else cx.O d)=some t0)
  (h:Rel B Γ N (a0k a) w σ)(hN:a.tmps.size=N)(hf:fits N o=true)(hz:aop cx q o Γ K=some z):a0o P B N o a w K z:=by
 have hops:∀y∈(o.op.operands.toList),a1i N y=true:=a0S hf;rw[ho]at hops;simp only[aop,ho,hd,hT,hO]at hz
 split at hz
 ·rename_i e' x hl
  split at hz
  ·rename_i hc;obtain⟨hes,rfl⟩:=hc;have hel:e.isList=true:=by
    cases hel:e.isList with
    |true=>rfl
    |false=>rw[hel]at hO;simp at hO
   have hps:ps=#[(0,x)]:=by rw[←a43];simpa using hl
   obtain⟨hsh,hty⟩:=hcx.T t _ hT;obtain⟨t',hu,hte,hpos⟩:=a1B hty;obtain⟨I⟩:=a0v (a0G hte);have he:e.sh=e:=by
    simp only[Ty.sh,Ty.list.injEq]at hsh;exact hsh.2
   have hc1:e.cells=1:=b0b hel;have hc1':e'.cells=1:=by rw[←Ty.cells_sh,hes];exact hc1
   have hxo:a1i N x=true:=hops x (by simp[Op.operands,hps]);obtain⟨z0,hz0⟩:∃z0,I.z.cells=#[z0]:=by
    have:=I.zsize
    rw[hc1]at this;obtain⟨z0,hz0⟩:=a71.1 (show I.z.cells.toList.length=1 by simpa using this);exact⟨z0,by rw[←a43];simpa using hz0⟩
   have hd0:a0d (fun i=>dec (a0a w σ.ov) e' fun j=>(#[z0]:Array Value)[i*e'.cells+j]?) 1 0=some ([e'.dflt],[],[]):=by
    have:=a5o (m:=a0a w σ.ov) e' (rd:=fun j=>I.z.cells[j]?) (by rw[←c5x,hes];exact I.zok)
    simp only[a0d,a47,a03];rw[hz0]at this;rw[this];rfl
   obtain⟨Γ1,σ1,k1,k2,k3,-,k5⟩:=h.newSlice (c:=1) hz (fun c hc=>a1J _ c hc) (a1V _) (a1K (Obj.cells #[z0] t')) (.inl rfl) (by rw[hc1'];simp) (by simp) hd0 (by simp);have hrt:Γ1.rt d=some ⟨false,.list true e',[e'.dflt]⟩:=by
    rw[k5];unfold AE.newRt;split<;>simp[AE.setRt]
   have hgd:=k2.top1 hrt rfl k3;have hptr:a0i (a0a (w.alloc (.cells #[z0] t')) σ1.ov) σ1.g Γ1.rt (Shr B (w.alloc (.cells #[z0] t')) σ1) (.ptr d [.idx 0]) (.pointer (some ⟨w.heap.size,0,none⟩)):=
    ⟨_,e',w.heap.size,0,hrt,by rw[hgd];simp[loc,a0Q,Src.rd],rfl⟩
   have hyv:=k2.opd hxo
   split at k1
   rename_i m hy;rw[hy]at hyv;have hvs:∃A n c,a.eval x=.slice A n c:=by
    obtain⟨r,e2,s2,q1,q2,q3⟩:=hyv;obtain⟨O',R,q4,-⟩:=(k2.roots m r q1).rd;simp only[loc,a0Q,sj,pJ]at q2;obtain⟨bx,tr,xr⟩:=r;obtain⟨rfl,rfl⟩:tr=.list true e2∧_=s2:=q2;rcases a1z q4 with⟨q5,-⟩|⟨A,n,c,os,q5,-⟩;rw[q3]at q5;exact⟨_,_,_,Option.some.inj q5⟩;rw[q3]at q5;exact⟨_,_,_,Option.some.inj q5⟩
   obtain⟨A,nA,cA,hv⟩:=hvs;have k6:=k2.putd (sv:=.one (.sref d [])) (v:=.slice (some ⟨w.heap.size,0,none⟩) 1 1) (d:=d) hN (fun _=>k3);obtain⟨w',Γ',σ',b,off,j1,j2,-,j4,j5⟩:=k6.storR he hte hptr hyv k1;simp only[Value.pointer.injEq,sj,Addr.mk.injEq,and_true]at j1;obtain⟨rfl,rfl⟩:=j1;have hw':w'=w.alloc (.cells #[a.eval x] t'):=by
    rw[j2,hv];simp only[Value.cells,World.setCells,b7w];rfl
   have hrun:(execOp a.eval o).run P w=.ok (.value (.slice (some ⟨w.heap.size,0,none⟩) 1 1)) (w.alloc (.cells #[a.eval x] t')):=by
    have hfill:Instr.fill (fun i=>some (i*1,1)) ((a60 (1*1)).map (I.z.cells[·%I.z.cells.size]!)) [(0,a.eval x)]=some #[a.eval x]:=by
     have hr:(a60 (1*1)).map (I.z.cells[·%I.z.cells.size]!)=#[z0]:=by rw[hz0];simp[Array.range_succ,show a60 0=#[]from rfl]
     rw[hr,hv];simp[Instr.fill,Value.cells]
    have hle:¬ (1*1 > 2^24):=by decide
    have h10:¬ (1*1=0):=by decide
    have hpm:(ps.map fun(i,x)=>(i,a.eval x)).toList=[(0,a.eval x)]:=by rw[hps];simp
    simp only[execOp,ho,Instr.buildSlice,Sem.run_bind,run_underlying hu,Result.andThen_ok,I.sizeOf,hc1,if_neg hle,if_neg h10,Sem.run_pure,I.zeroValue,hpm,hfill,newRow]
    simp
   rw[hw']at j4;exact⟨_,_,Γ',σ',.inl hrun,by rw[hd];exact j4,j5⟩;cases k1
  cases hz
 cases hz
end
end Go.Ab
namespace Go.Ab
section
variable {P:Program} {B:Base} {N:Nat} {ρ:Type} {Γ:AE} {a:Act} {w:World} {σ:Gh}
theorem d0O{o:Oper}{cx:Cx}{q:Bool}{K:AE→Rs ρ}{z:ρ}(hcx:CxTy P cx)(hG:GOk cx.G B)(hnc:∀c v,o.op=.call c→c.callee≠.value v)
  (h:Rel B Γ N (a0k a) w σ)(hN:a.tmps.size=N)(hf:fits N o=true)(hz:aop cx q o Γ K=some z):a0o P B N o a w K z:=by
 cases hd:o.dst with
 |none=>
  cases ho:o.op
  case store t x y=>
   cases hag:Γ.aggOf y with
   |none=>exact c1I hcx ho hag h hN hf hz
   |some vs=>exact b7x hcx ho hag h hN hf hz
  case call c=>
   cases hc:c.callee with
   |value v=>exact absurd hc (hnc c v ho)
   |builtin b=>simp only[aop,ho,hd,hc]at hz;cases hz
   |invoke r n=>simp only[aop,ho,hd,hc]at hz;cases hz
  all_goals (simp only[aop,ho,hd]at hz;cases hz)
 |some d=>
  cases ho:o.op
  case store t x y=>
   cases hag:Γ.aggOf y with
   |none=>exact c1I hcx ho hag h hN hf hz
   |some vs=>exact b7x hcx ho hag h hN hf hz
  case call c=>
   cases hc:c.callee with
   |value v=>exact absurd hc (hnc c v ho)
   |builtin b=>
    cases b
    case len=>exact d1M hcx ho hc hd h hN hf hz
    case max=>exact d1N ho hc hd h hN hf hz
    case min=>exact d1O ho hc hd h hN hf hz
    case append=>exact c7n hcx ho hc hd h hN hf hz
    case copy=>exact d0N hcx ho hc hd h hN hf hz
    all_goals (simp only[aop,ho,hd,hc]at hz;unfold AE.blt at hz;first|(cases hz;done)|(split at hz<;>first|(cases hz;done)|(rename_i h1;cases h1;done)|(rename_i h1 _;cases h1;done)))
   |invoke r n=>simp only[aop,ho,hd,hc]at hz;cases hz
  case move x=>exact d0y ho hd h hN hf hz
  case assign x=>exact c7o ho hd h hN hf hz
  case pick x y u=>exact d0z ho hd h hN hf hz
  case alloc t=>exact c8M hcx ho hd h hN hz
  case box t x=>
   cases hag:(bif q then none else Γ.aggOf x)with
   |none=>exact d1K ho hd hag h hN hf hz
   |some vs=>exact c7q hcx ho hd hag h hN hf hz
  case build t x=>
   cases hnl:cx.nlT d t with
   |some τ=>exact c1F hcx ho hd (fun g=>by rw[hnl]at g;cases g) h hN hf hz
   |none=>
    cases hO:(bif q then none else cx.O d)with
    |none=>exact c1F hcx ho hd (fun _=>hO) h hN hf hz
    |some τ=>exact c4O hcx ho hd hO hnl h hN hf hz
  case makeFunc fn first caps=>
   cases fn with
   |func f=>exact c4P ho hd h hN hf hz
   |_=>simp only[aop,ho,hd]at hz;cases hz
  case buildSlice t n x=>
   by_cases hO:∃o' e t0,cx.T t=some (.list o' e)∧(bif q || !e.isList then none else cx.O d)=some t0
   obtain⟨o',e,t0,h1,h2⟩:=hO;exact c4Q hcx ho hd h1 h2 h hN hf hz
   ·refine c1E hcx ho hd (fun o' e hT=>?_) h hN hf hz;cases h1:(bif q || !e.isList then none else cx.O d)with
    |none=>rfl
    |some t0=>exact absurd ⟨o',e,t0,hT,h1⟩ hO
  case load t x=>exact d0D hcx hG ho hd h hN hf hz
  case nilCheck x=>exact c4M ho hd h hN hf hz
  case binOp op t x y s=>exact c8I hcx ho hd h hN hf hz
  case unOp op t x=>exact d0A ho hd h hN hf hz
  case convert s t x=>exact c5I hcx ho hd h hN hf hz
  case makeSlice t x y=>exact c3c hcx ho hd h hN hf hz
  case slice t x u v m=>exact c8J hcx ho hd h hN hf hz
  case fieldAddr s x f=>exact c3b hcx ho hd h hN hf hz
  case field s x f=>exact c8K hcx ho hd h hN hf hz
  case indexAddr t x i=>exact c3a hcx hG ho hd h hN hf hz
  case index t x i=>exact c8L hcx ho hd h hN hf hz
  case extract x i=>
   cases x with
   |tmp t=>exact c5y ho hd h hN hf hz
   |_=>simp only[aop,ho,hd]at hz;cases hz
  all_goals (simp only[aop,ho,hd]at hz;cases hz)
end
end Go.Ab
namespace Go.Ab
def cells(w:World):Mem:=fun b o=>w.cell? ⟨b,o,none⟩
structure Ent1 where
 r:Root
 s:Src
 O:a0U
def a7S(Γ:AE)(f:AV→AV)(E:Nat→Option Ent1):AE:=
 ⟨(Γ.mapv f).sl,fun n=>match E n with|some e=>some e.r|none=>Γ.rt n,none⟩
def a3G(σ:Gh)(E:Nat→Option Ent1):Gh:=
 ⟨fun n=>match E n with|some e=>e.s|none=>σ.g n,fun n=>match E n with|some e=>e.O|none=>σ.ow n,none⟩
theorem a8s{Γ f E n}(h:E n=none):(a7S Γ f E).rt n=Γ.rt n:=by simp[a7S,h]
theorem a4x{Γ f E n e}(h:E n=some e):(a7S Γ f E).rt n=some e.r:=by simp[a7S,h]
theorem b1g{σ E n}(h:E n=none):(a3G σ E).g n=σ.g n:=by simp[a3G,h]
theorem a4y{σ E n e}(h:E n=some e):(a3G σ E).g n=e.s:=by simp[a3G,h]
theorem a2x{σ E n}(h:E n=none):(a3G σ E).ow n=σ.ow n:=by simp[a3G,h]
theorem a3a{σ E n e}(h:E n=some e):(a3G σ E).ow n=e.O:=by simp[a3G,h]
structure Work (w w':World) (σ:Gh) (F':Nat→Prop) (E:Nat→Option Ent1):Prop where
 own:∀c,F' c→∃n e,E n=some e∧c∈(σ.ow n).map (·.1)
 size:w.heap.size≤w'.heap.size
 same:∀b,b<w.heap.size→¬ F' b→w'.heap[b]?=w.heap[b]?
 mine:∀n e c,E n=some e→c∈e.O.map (·.1)→(F' c∨c∈(σ.ow n).map (·.1))∨w.heap.size≤c
 nodup:∀n e,E n=some e→(e.O.map (·.1)).Nodup
 disj:∀n e n' e',E n=some e→E n'=some e'→n≠n'→∀c,c∈e.O.map (·.1)→c∉e'.O.map (·.1)
 live:∀n e p,E n=some e→p∈e.O→a0J w' p.1 p.2
 still:a1H w'=a1H w
theorem Rel.merge{B Γ N tm w σ}(h:Rel B Γ N tm w σ)(hov:σ.ov=none){w':World}{F':Nat→Prop}{E:Nat→Option Ent1}(W:Work w w' σ F' E)
  (hroot:∀n e,E n=some e→RootOk (cells w') (fun c=>c<w'.heap.size∧(Shr B w σ c∨F' c∨w.heap.size≤c)∧∀n e,E n=some e→c∉e.O.map (·.1)) e.r e.s e.O)
  (hpin:∀i b e,B.pin i=some b→E (pinned+i)=some e→e.s=b){f:AV→AV}
  (hf:∀a v,a0i (a0a w σ.ov) σ.g Γ.rt (Shr B w σ) a v→f a=.dead∨(f a=a∧∀k q,(a=.ptr k q∨a=.sref k q∨∃o l,a=.swin k q o l)→E k=none∨(a=.ptr k []∧∃e b,E k=some e∧e.s=.at b 0∧σ.g k=.at b 0)∨
   (a=.sref k []∧∃e v ε,E k=some e∧e.s=.one v∧σ.g k=.one v∧e.r.t=.list true ε))):
  Rel B (a7S Γ f E) N tm w' (a3G σ E)∧
   (∀c,c<w'.heap.size∧(Shr B w σ c∨F' c∨w.heap.size≤c)∧(∀n e,E n=some e→c∉e.O.map (·.1))→Shr B w' (a3G σ E) c):=by
 have hFo:∀c,F' c→a0L σ c:=fun c hc=>by obtain⟨n,e,-,hn⟩:=W.own c hc;exact⟨n,hn⟩
 have hFlt:∀c,F' c→c<w.heap.size:=fun c hc=>h.lt (hFo c hc)

 have hoth:∀n c,E n=none→c∈(σ.ow n).map (·.1)→¬ F' c:=fun n c hn hc hF=>by
  obtain⟨n',e',h1,h2⟩:=W.own c hF;have hne:n≠n':=by rintro rfl;rw[hn]at h1;cases h1
  exact h.disj n n' hne c hc h2
 have hOw:∀c,a0L (a3G σ E) c→(∃n,E n=none∧c∈(σ.ow n).map (·.1))∨∃n e,E n=some e∧c∈e.O.map (·.1):=by
  rintro c ⟨n,hn⟩
  cases hE:E n with
  |none=>rw[a2x hE]at hn;exact .inl ⟨n,hE,hn⟩
  |some e=>rw[a3a hE]at hn;exact .inr ⟨n,e,hE,hn⟩
 have hsh:∀c,c<w'.heap.size∧(Shr B w σ c∨F' c∨w.heap.size≤c)∧(∀n e,E n=some e→c∉e.O.map (·.1))→Shr B w' (a3G σ E) c:=by
  rintro c ⟨h1,h2,h3⟩
  refine⟨h1,?_,fun ho=>?_⟩;rcases h2 with h2|h2|h2;exact h2.2.1;exact .inr (h.mine c (hFo c h2));exact .inr (.inr (a41 h.size h2));rcases hOw c ho with⟨n,hE,hn⟩|⟨n,e,hE,hn⟩;rcases h2 with h2|h2|h2;exact h2.2.2 ⟨n,hn⟩;exact hoth n c hE hn h2
  have:=h.lt ⟨n,hn⟩;omega
  exact h3 n e hE hn
 have hshO:∀c,Shr B w σ c→Shr B w' (a3G σ E) c:=fun c hc=>hsh c ⟨a24 hc.1 W.size,.inl hc,fun n e hE hn=>by
  rcases W.mine n e c hE hn with(g|g)|g;exact hc.2.2 (hFo c g);exact hc.2.2 ⟨n,g⟩
  have:=hc.1;omega⟩
 have hmem:∀c j,c<w.heap.size→¬ F' c→a0a w' none c j=a0a w σ.ov c j:=fun c j hc hF=>by
  rw[hov];exact a1c none (W.same c hc hF) j
 have hmemo:∀n c j,E n=none→c∈(σ.ow n).map (·.1)→a0a w' none c j=a0a w σ.ov c j:=fun n c j hn hc=>hmem c j (h.lt ⟨n,hc⟩) (hoth n c hn hc);have hmems:∀c j,Shr B w σ c→a0a w' none c j=a0a w σ.ov c j:=fun c j hc=>hmem c j hc.1 fun hF=>hc.2.2 (hFo c hF);have hplace:∀n q r t s,E n=none→Γ.rt n=some r→loc (a0a w σ.ov) r.t (σ.g n) q=some (t,s)→loc (a0a w' none) r.t (σ.g n) q=some (t,s)∧s.rd (a0a w' none) 0=s.rd (a0a w σ.ov) 0:=by
  intro n q r t s hE hr hl;obtain⟨O1,R1,l1,l2,l3,l4,l5,l6⟩:=h.sep hr;refine⟨a1Y q r.t _ l1 hl (fun j _=>?_) (fun c j hc=>hmemo n c j hE (l4 c hc)),?_⟩
  ·cases es:σ.g n with
   |one v=>rfl
   |_=>rename_i b o;exact hmemo n b _ hE (l5 _ _ es)
  ·cases s with
   |one v=>rfl
   |_=>rename_i b o;exact hmemo n b _ hE (h.place hr hl)
 refine⟨⟨fun n r hr=>?_,fun n hn=>?_,fun n=>?_,fun n n' hne c hc hc'=>?_,fun n p hp=>?_,fun i hi=>?_,trivial,a41 h.size W.size,fun b hb hF=>?_,fun c hc=>?_,fun i b hb hne=>?_,W.still.trans h.still⟩,hsh⟩
 ·cases hE:E n with
  |none=>
   rw[a8s hE]at hr;rw[b1g hE,a2x hE];obtain⟨O1,R1,l1,l2,l3,l4,l5,l6⟩:=h.sep hr;refine⟨O1,R1,?_,fun c hc=>hshO c (l2 c hc),l6⟩;show dec (a0a w' none) r.t ((σ.g n).rd (a0a w' none))=_;refine a0p r.t l1 (fun j _=>?_) (fun c j hc=>?_)
   ·cases es:σ.g n with
    |one v=>rfl
    |_=>rename_i b o;exact hmemo n b _ hE (l5 _ _ es)
   rcases hc with hc|hc;exact hmemo n c j hE (l4 c hc);exact hmems c j (l2 c hc)
  |some e=>
   rw[a4x hE]at hr;rw[a4y hE,a3a hE];simp only[sj]at hr;subst hr;exact(hroot n e hE).mono hsh
 ·cases hE:E n with
  |none=>rw[a8s hE]at hn;rw[a2x hE];exact h.norm n hn
  |some e=>rw[a4x hE]at hn;cases hn
 ·cases hE:E n with
  |none=>rw[a2x hE];exact h.nodup n
  |some e=>rw[a3a hE];exact W.nodup n e hE
 ·have cross:∀n n',E n=none→∀e',E n'=some e'→c∈(σ.ow n).map (·.1)→c∈e'.O.map (·.1)→False:=fun n n' hE e' hE' hc hc'=>by
   rcases W.mine n' e' c hE' hc' with(g|g)|g;exact hoth n c hE hc g;exact h.disj n n' (by rintro rfl;rw[hE]at hE';cases hE') c hc g
   have:=h.lt ⟨n,hc⟩;omega
  cases hE:E n with
  |none=>
   rw[a2x hE]at hc;cases hE':E n' with
   |none=>rw[a2x hE']at hc';exact h.disj n n' hne c hc hc'
   |some e'=>rw[a3a hE']at hc';exact cross n n' hE e' hE' hc hc'
  |some e=>
   rw[a3a hE]at hc;cases hE':E n' with
   |none=>rw[a2x hE']at hc';exact cross n' n hE' e hE hc' hc
   |some e'=>rw[a3a hE']at hc';exact W.disj n e n' e' hE hE' hne c hc hc'
 ·cases hE:E n with
  |none=>
   rw[a2x hE]at hp;obtain⟨c,e,lo,hi,h1,h2,h3⟩:=h.live n p hp;have hc:=a00 (f:=(·.1)) hp;exact⟨c,e,lo,hi,by rw[W.same p.1 (h.lt ⟨n,hc⟩) (hoth n p.1 hE hc)];exact h1,h2,h3⟩
  |some e=>rw[a3a hE]at hp;exact W.live n e p hE hp
 refine(h.slots i hi).mapv fun a v ha=>?_
 rcases hf a v ha with g|⟨g,hk⟩;rw[g];trivial;rw[g]
 by_cases hz:∃k e b,a=.ptr k []∧E k=some e∧e.s=.at b 0∧σ.g k=.at b 0
 obtain⟨k,e,b,rfl,hE,hs,hg⟩:=hz;obtain⟨r,t,b',o,h1,h2,h3⟩:=ha;simp only[loc,a0Q,hg,sj,pJ,Src.at.injEq]at h2;obtain⟨rfl,rfl,rfl⟩:=h2;refine⟨e.r,e.r.t,b,0,a4x hE,?_,h3⟩;rw[a4y hE,hs];rfl
 by_cases hy:∃k e u ε,a=.sref k []∧E k=some e∧e.s=.one u∧σ.g k=.one u∧e.r.t=.list true ε
 obtain⟨k,e,u,ε,rfl,hE,hs,hg,ht⟩:=hy;obtain⟨r,e',s,h1,h2,h3⟩:=ha;simp only[loc,a0Q,hg,sj,pJ]at h2;obtain⟨-,rfl⟩:=h2;refine⟨e.r,ε,.one u,a4x hE,?_,h3⟩;rw[a4y hE,hs,ht];rfl;refine ha.frame hmems hshO fun k q r t s hcase hr hl=>?_
 have hE:E k=none:=by
  rcases hk k q hcase with g|⟨rfl,e,b,h1,h2,h3⟩|⟨rfl,e,u,ε,h1,h2,h3,h4⟩;exact g;exact absurd ⟨k,e,b,rfl,h1,h2,h3⟩ hz;exact absurd ⟨k,e,u,ε,rfl,h1,h2,h3,h4⟩ hy
 have hp:=hplace k q r t s hE hr hl;refine⟨r,by rw[a8s hE];exact hr,by rw[b1g hE];exact hp.1,fun u _ hu=>by rw[←hu];exact hp.2⟩;rw[W.same b (a24 hb h.size) ?_];exact h.frame b hb hF;intro g;rcases h.mine b (hFo b g)with g|g;exact hF g;omega;rcases hOw c hc with⟨n,hE,hn⟩|⟨n,e,hE,hn⟩;exact h.mine c ⟨n,hn⟩;rcases W.mine n e c hE hn with(g|g)|g;exact h.mine c (hFo c g);exact h.mine c ⟨n,g⟩;exact .inr (a41 h.size g)
 ·cases hE:E (pinned+i)with
  |none=>rw[a8s hE]at hne;rw[b1g hE];exact h.pins i b hb hne
  |some e=>rw[a4y hE];exact hpin i b e hb hE
end Go.Ab
namespace Go.Ab
def b8o:Src→Value→Prop
 |.at b o,v=>o=0∧v=.pointer (some ⟨b,0,none⟩)
 |.one u,v=>v=u
theorem b8o.uniq:∀{s:Src}{u v:Value},b8o s u→b8o s v→u=v
 |.at _ _,_,_,h,h'=>h.2.trans h'.2.symm
 |.one _,_,_,h,h'=>h.trans (show _=_ from h').symm
def lg(w:World)(σ:Gh)(n:Nat)(bx:Bool):Src:=match bx,σ.g n with
 |false,.at b _=>.one ((w.cell? ⟨b,0,none⟩).getD undef)
 |_,s=>s
def lo(σ:Gh)(n:Nat)(bx:Bool):a0U:=match bx,σ.g n with
 |false,.at _ _=>(σ.ow n).tail
 |_,_=>σ.ow n
theorem d4A{σ:Gh}{n:Nat}{bx:Bool}{p}(h:p∈lo σ n bx):p∈σ.ow n:=by
 unfold lo at h
 split at h
 exact List.mem_of_mem_tail h;exact h
def b8p(w:World)(Γ:AE)(σ:Gh)(n:Nat)(r:Root)(v:Value):Prop:=
 (Γ.rt n=some r∧b8o (σ.g n) v)∨∃b,(r.bx=false∧∃e,r.t=.list true e)∧Γ.rt n=some ⟨true,r.t,r.x⟩∧σ.g n=.at b 0∧w.cell? ⟨b,0,none⟩=some v
theorem b8p.keep{w:World}{Γ Γ':AE}{σ σ':Gh}{n:Nat}{r:Root}{v:Value}(h:b8p w Γ σ n r v)(hk:∀r,Γ.rt n=some r→Γ'.rt n=some r∧σ'.g n=σ.g n):b8p w Γ' σ' n r v:=by
 rcases h with⟨h1,h2⟩|⟨b,h1,h2,h3,h4⟩;obtain⟨k1,k2⟩:=hk _ h1;exact .inl ⟨k1,by rw[k2];exact h2⟩;obtain⟨k1,k2⟩:=hk _ h2;exact .inr ⟨b,h1,k1,k2.trans h3,h4⟩
structure ArgsOk (fz:Bool) (B:Base) (w:World) (Γ':AE) (σ':Gh) (ps:List PA) (x:(a1I (ps.map PA.ty)).den) (vs:List Value) (used us:List Nat) (i0:Nat):Prop where
 vals:∀(i:Nat)(t:Ty)(y:t.den)(v:Value),(a0H ps x)[i]?=some ⟨.v t,y⟩→vs[i]?=some v→
  VOk (a0a w σ'.ov) (fun c=>Shr B w σ' c∨(fz=false∧∃n,n∉used∧n∉us∧c∈(σ'.ow n).map (·.1))) t y v
 refs:∀(k n:Nat),us[k]?=some n→∃(i:Nat)(c:Bool)(a:RA)(y:a.ty.den)(v:Value)(r:Root),(a0w ps i0)[k]?=some (i0+i)∧(a0H ps x)[i]?=some ⟨.r c a,y⟩∧vs[i]?=some v∧
  a0I ⟨a,y⟩=some r∧b8p w Γ' σ' n r v∧(c=true→Γ'.rt n=some r∧r.bx=false∧n<pinned)
 len:us.length=(a0w ps i0).length
 nodup:us.Nodup
 apart:∀n∈us,n∉used
section
variable {B:Base} {N:Nat} {tm:Nat→Value} {w:World} {Γ:AE} {σ:Gh}
theorem Rel.src_of{n:Nat}{r:Root}(h:Rel B Γ N tm w σ)(hr:Γ.rt n=some r):(r.bx=true∧∃b,σ.g n=.at b 0)∨(r.bx=false∧∃v e,σ.g n=.one v∧r.t=.list true e):=by
 obtain⟨O',R,-,-,hc⟩:=(h.roots n r hr).rd;rcases hc with⟨h1,b,h2,-⟩|⟨h1,⟨v,h2⟩,⟨e,h3⟩,-⟩;exact .inl ⟨h1,b,h2⟩;exact .inr ⟨h1,v,e,h2,h3⟩
theorem Rel.lent(h:Rel B Γ N tm w σ)(hov:σ.ov=none){n:Nat}{r:Root}{v:Value}(hL:b8p w Γ σ n r v):
  RootOk (a0a w σ.ov) (Shr B w σ) r (lg w σ n r.bx) (lo σ n r.bx)∧b8o (lg w σ n r.bx) v∧(∀p∈lo σ n r.bx,p∈σ.ow n)∧((lo σ n r.bx).map (·.1)).Nodup∧
   ((r.bx=true∧∃b,lg w σ n r.bx=.at b 0)∨(r.bx=false∧∃u e,lg w σ n r.bx=.one u∧r.t=.list true e)):=by
 rcases hL with⟨h1,h2⟩|⟨b,h1,h2,h3,h4⟩;have hg:lg w σ n r.bx=σ.g n∧lo σ n r.bx=σ.ow n:=by
  rcases h.src_of h1 with⟨e1,b,e2⟩|⟨e1,u,e,e2,-⟩;simp[lg,lo,e1];simp[lg,lo,e1,e2]
 rw[hg.1,hg.2];exact⟨h.roots n r h1,h2,fun _ g=>g,h.nodup n,h.src_of h1⟩;obtain⟨h1,hlt⟩:=h1;obtain⟨O',R,k1,k2,k3⟩:=(h.roots n _ h2).rd;have hg:lg w σ n r.bx=.one v∧lo σ n r.bx=(σ.ow n).tail:=by simp[lg,lo,h1,h3,h4]
 rcases k3 with⟨-,b',e1,e2⟩|⟨e1,-⟩;rw[hg.1,hg.2,e2];have hnd:=h.nodup n;rw[e2,a04]at hnd;obtain⟨e,ht⟩:=hlt;refine⟨⟨O',R,?_,k2,.inr ⟨h1,⟨v,rfl⟩,⟨e,ht⟩,rfl⟩⟩,rfl,fun p hp=>a08 _ hp,(a17.1 hnd).2,.inr ⟨h1,v,e,rfl,ht⟩⟩;refine a0p r.t k1 (fun j hj=>?_) (fun _ _ _=>rfl);rw[ht]at hj;have hj0:j=0:=by simp only[Ty.cells]at hj;omega
 subst hj0;rw[h3,hov];simp[Src.rd,a0a,h4];cases e1
end
section
variable {ρ:Type} {B:Base} {N:Nat} {tm:Nat→Value} {w:World}
theorem Rel.arg{Γ:AE}{σ:Gh}(h:Rel B Γ N tm w σ){fz q:Bool}{used seen:List Nat}{p:PA}{a:AV}{v:Value}{K:p.ty.den→AE→List Nat→List Nat→Rs ρ}{z:ρ}
  (ha:a0i (a0a w σ.ov) σ.g Γ.rt (Shr B w σ) a v∨b0a Γ a)(hK:Γ.arg fz q used seen p a K=some z):
  ∃x Γ' σ' used' seen',K x Γ' used' seen'=some z∧Rel B Γ' N tm w σ'∧Ev B w Γ σ Γ' σ'∧a2Y (·∉used) Γ σ Γ' σ'∧(fz=false∨q=true→Γ'=Γ∧σ'=σ)∧(∀n∈seen,n∈seen')∧
   match p,x with
   |.v t,x=>used'=used∧VOk (a0a w σ'.ov) (fun c=>Shr B w σ' c∨(fz=false∧∃n,n∉used∧n∈seen'∧c∈(σ'.ow n).map (·.1))) t x v
   |.r c b,x=>∃n r,used'=n::used∧n∉used∧n∉seen∧seen'=seen∧a0I ⟨b,x⟩=some r∧b8p w Γ' σ' n r v∧(c=true→Γ'.rt n=some r∧r.bx=false∧n<pinned):=by
 cases p with
 |v t=>
  simp only[AE.arg]at hK;obtain⟨hv,hK⟩:(a.viewed.any fun n=>used.contains n)=false∧_:=by
   rcases a0g hK with⟨-,g⟩|⟨g1,g2⟩;cases g;exact⟨g1,g2⟩
  have hvu:∀n∈a.viewed,n∉used:=fun n hn hu=>by
   have:=a82.1 hv n hn
   simp[hu]at this
  cases fz with
  |true=>
   simp only[if_true]at hK;obtain⟨x,Γ',σ',h1,h2,h3,h4,h5,h6⟩:=h.asVB ha hK;exact⟨x,Γ',σ',used,seen,h1,h2,h4,h6.mono hvu,fun g=>h5 (g.resolve_left (by simp)),fun _ g=>g,rfl,h3.frame (fun _ _ _=>rfl) (fun c hc=>.inl hc)⟩
  |false=>
   simp only[a81,if_false]at hK;obtain⟨x,h1,h2⟩:=h.viewR ha hK;exact⟨x,Γ,σ,used,a.viewed++seen,h1,h,Ev.refl,a2Y.refl,fun _=>⟨rfl,rfl⟩,fun _ g=>a35 _ g,rfl,
    h2.frame (fun _ _ _=>rfl) (fun c hc=>hc.imp id fun⟨n,hn,hc⟩=>⟨rfl,n,hvu n hn,a28 _ hn,hc⟩)⟩
 |r c b=>
  cases b with
  |v t=>cases a<;>simp only[AE.arg]at hK<;>cases hK
  |b t=>
   cases a with
   |ptr n p=>
    cases p with
    |cons=>simp only[AE.arg]at hK;cases hK
    |nil=>
     simp only[AE.arg]at hK
     split at hK
     cases hK;rename_i hq;simp only[a86,a73,not_or,a67]at hq
     split at hK
     rename_i t' x hl;obtain⟨hpd,hr⟩:=a0F hl
     split at hK
     rename_i ht;subst ht;rcases ha with⟨r',t1,b,o,g1,g2,g3⟩|⟨k,q',hc,hk⟩;rw[hr]at g1;simp only[sj]at g1;subst g1;obtain⟨O',R,-,-,hc⟩:=(h.roots n _ hr).rd;rcases hc with⟨-,b',hs,-⟩|⟨hb,-⟩;simp only[loc,a0Q,hs,sj,pJ,Src.at.injEq]at g2;obtain⟨-,rfl,rfl⟩:=g2;exact⟨x,Γ,σ,n::used,seen,hK,h,Ev.refl,a2Y.refl,fun _=>⟨rfl,rfl⟩,fun _ g=>g,n,_,rfl,hq.1.2,hq.2,rfl,rfl,.inl ⟨hr,by rw[hs];exact⟨rfl,g3⟩⟩,fun g=>by rw[hq.1.1.1]at g;cases g⟩;cases hb;rcases hc with g|g|⟨o,l,g⟩<;>cases g;rw[hr]at hk;cases hk;cases hK;cases hK
   |_=>simp only[AE.arg]at hK;cases hK
  |o e=>
   cases a with
   |sref n p=>
    cases p with
    |cons=>simp only[AE.arg]at hK;cases hK
    |nil=>
     simp only[AE.arg]at hK
     split at hK
     cases hK
     ·rename_i hq;simp only[a86,bA,a73,not_or,a67,dT,not_and]at hq
      split at hK
      ·rename_i bx e' x hl;obtain⟨hpd,hr⟩:=a0F hl
       split at hK
       ·rename_i ht;subst ht;rcases ha with ha|⟨k,q',hc,hk⟩
        ·obtain⟨hbc,hK⟩:=(a0g hK).elim (fun h=>by cases h.2) id;refine⟨x,Γ,σ,n::used,seen,hK,h,Ev.refl,a2Y.refl,fun _=>⟨rfl,rfl⟩,fun _ g=>g,n,_,rfl,hq.1.2,hq.2,rfl,rfl,?_,fun g=>⟨?_,rfl,by have:=hq.1.1.1 g;omega⟩⟩
         ·cases bx with
          |false=>exact .inl ⟨hr,by rw[h.top1 hr rfl ha];rfl⟩
          |true=>
           rcases h.src_of hr with⟨-,b,hs⟩|⟨g,-⟩;refine .inr ⟨b,⟨rfl,_,rfl⟩,hr,hs,?_⟩;obtain⟨r',e2,s2,g1,g2,g3⟩:=ha;simp only[loc,a0Q,sj,pJ]at g2;rw[←g2.2,hs,h.ov_none hpd]at g3;exact g3;cases g
         ·cases bx with
          |false=>exact hr
          |true=>rw[g]at hbc;cases hbc
        rcases hc with g|g|⟨o,l,g⟩<;>cases g;rw[hr]at hk;cases hk
       cases hK
      cases hK
   |_=>simp only[AE.arg]at hK;cases hK
theorem Rel.args:∀(ps:List PA) (as:List AV)(vs:List Value){Γ:AE}{σ:Gh}(_:Rel B Γ N tm w σ){fz q:Bool}{used seen:List Nat}{i0:Nat}{K:(a1I (ps.map PA.ty)).den→AE→List Nat→Rs ρ} {z:ρ}
  (_:∀(i:Nat)(a:AV)(v:Value),as[i]?=some a→vs[i]?=some v→a0i (a0a w σ.ov) σ.g Γ.rt (Shr B w σ) a v∨b0a Γ a) (_:vs.length=as.length) (_:Γ.args fz q used seen ps as K=some z),
  ps.length=as.length∧∃x Γ' σ' us,K x Γ' (us.reverse++used)=some z∧Rel B Γ' N tm w σ'∧Ev B w Γ σ Γ' σ'∧a2Y (·∉used) Γ σ Γ' σ'∧(fz=false∨q=true→Γ'=Γ∧σ'=σ)∧(∀n∈seen,n∉us)∧
   ArgsOk fz B w Γ' σ' ps x vs used us i0
 | [],as,vs,Γ,σ,h,fz,q,used,seen,i0,K,z,has,hlen,hK=>by
  cases as with
  |nil=>exact⟨rfl,(),Γ,σ,[],hK,h,Ev.refl,a2Y.refl,fun _=>⟨rfl,rfl⟩,by simp,⟨fun i t y v hi=>by simp[a0H]at hi,by simp,rfl,by simp,by simp⟩⟩
  |cons=>simp only[AE.args]at hK;cases hK
 | [p],as,vs,Γ,σ,h,fz,q,used,seen,i0,K,z,has,hlen,hK=>by
  match as,vs,hlen with
  | [a],[v],_=>
   simp only[AE.args]at hK;obtain⟨x,Γ',σ',used',seen',h1,h2,h3,h4,h5,h6,h7⟩:=h.arg (has 0 a v rfl rfl) hK;cases p with
   |v t=>
    obtain⟨rfl,h7⟩:=h7;refine⟨rfl,x,Γ',σ',[],h1,h2,h3,h4,h5,by simp,⟨fun i t' y v' hi hv=>?_,by simp,rfl,by simp,by simp⟩⟩;cases i with
    |zero=>
     simp only[a0H,a01,sj]at hi hv;cases hi;cases hv;exact h7.frame (fun _ _ _=>rfl) (fun c hc=>hc.imp id fun⟨e,n,g1,g2,g3⟩=>⟨e,n,g1,by simp,g3⟩)
    |succ i=>simp[a0H]at hi
   |r c b=>
    obtain⟨n,r,rfl,g1,g2,g3,g4,g5,g7⟩:=h7;refine⟨rfl,x,Γ',σ',[n],h1,h2,h3,h4,h5,fun m hm=>by rintro hm';simp only[a34]at hm';exact g2 (hm'▸hm),⟨fun i t' y v' hi hv=>?_,fun k m hk=>?_,rfl,by simp,by simpa using g1⟩⟩
    ·cases i with
     |zero=>simp only[a0H,a01,sj]at hi;cases hi
     |succ i=>simp[a0H]at hi
    ·cases k with
     |zero=>
      simp only[a01,sj]at hk;subst hk;exact⟨0,c,b,x,v,r,rfl,rfl,rfl,g4,g5,g7⟩
     |succ k=>simp at hk
  | [],_,_=>simp only[AE.args]at hK;cases hK
  |_::_::_,_,_=>simp only[AE.args]at hK;cases hK
 |p::p'::ps,as,vs,Γ,σ,h,fz,q,used,seen,i0,K,z,has,hlen,hK=>by
  match as,vs,hlen with
  | [],_,_=>simp only[AE.args]at hK;cases hK
  |a::as,v::vs,hlen=>
   simp only[AE.args]at hK;obtain⟨x,Γ1,σ1,used1,seen1,h1,h2,h3,h4,h5,h6,h7⟩:=h.arg (has 0 a v rfl rfl) hK;have ⟨hl,y,Γ',σ',us,k1,k2,k3,k4,k5,k6,k7⟩:=Rel.args (p'::ps) as vs (i0:=i0+1) h2 (fun i a' v' hi hv=>h3.live (has (i+1) a' v' (by simpa using hi) (by simpa using hv))) (by simpa using hlen) h1;refine⟨by simpa using hl,?_⟩;have hboth:fz=false∨q=true→Γ'=Γ∧σ'=σ:=fun g=>⟨(k5 g).1.trans (h5 g).1,(k5 g).2.trans (h5 g).2⟩;cases p with
   |v t=>
    obtain⟨rfl,h7⟩:=h7;refine⟨(x,y),Γ',σ',us,k1,k2,h3.trans k3,h4.trans k4,hboth,fun n hn=>k6 n (h6 n hn),⟨fun i t' y' v' hi hv=>?_,fun k n hk=>?_,k7.len,k7.nodup,k7.apart⟩⟩
    ·cases i with
     |zero=>
      simp only[a0H,a01,sj]at hi hv;cases hi;cases hv;cases fz with
      |false=>
       obtain⟨rfl,rfl⟩:=k5 (.inl rfl);exact h7.frame (fun _ _ _=>rfl) (fun c hc=>hc.imp id fun⟨e,n,g1,g2,g3⟩=>⟨e,n,g1,k6 n g2,g3⟩)
      |true=>
       have h70:VOk (a0a w σ1.ov) (Shr B w σ1) t x v:=h7.frame (fun _ _ _=>rfl) (fun c hc=>hc.resolve_right (by simp));have h71:=k3.vok h70;rw[k3.ov];rw[k3.ov]at h71;exact h71.frame (fun _ _ _=>rfl) (fun c hc=>.inl hc)
     |succ i=>exact k7.vals i t' y' v' (by simpa[a0H]using hi) (by simpa using hv)
    obtain⟨i,c',a',y',v',r',j1,j2,j3,j4⟩:=k7.refs k n hk;exact⟨i+1,c',a',y',v',r',by simp only[a0w];rw[j1];congr 1;omega,by simpa[a0H]using j2,by simpa using j3,j4⟩
   |r c b=>
    obtain⟨n,r,rfl,g1,g2,rfl,g4,g5,g7⟩:=h7;have hn:=fun r0 h0=>k4.1 n r0 (.inr (by simp)) h0;refine⟨(x,y),Γ',σ',n::us,by simpa using k1,k2,h3.trans k3,h4.trans (k4.mono fun m hm g=>hm (a08 _ g)),hboth,fun m hm=>?_,⟨fun i t' y' v' hi hv=>?_,fun k m hk=>?_,by simp[a0w,k7.len],?_,?_⟩⟩;simp only[mC,not_or];exact⟨fun e=>g2 (e▸hm),k6 m hm⟩
    ·cases i with
     |zero=>simp only[a0H,a01,sj]at hi;cases hi
     |succ i=>
      exact(k7.vals i t' y' v' (by simpa[a0H]using hi) (by simpa using hv)).frame (fun _ _ _=>rfl) (fun c hc=>hc.imp id fun⟨e,m,g1,g2,g3⟩=>
       ⟨e,m,fun g=>g1 (a08 _ g),by simp only[mC,not_or];exact⟨fun e=>g1 (by simp[e]),g2⟩,g3⟩)
    ·cases k with
     |zero=>
      simp only[a01,sj]at hk;subst hk;exact⟨0,c,b,x,v,r,rfl,rfl,rfl,g4,g5.keep fun r0 h0=>⟨(hn r0 h0).1,(hn r0 h0).2.1⟩,fun g=>⟨(hn r (g7 g).1).1,(g7 g).2⟩⟩
     |succ k=>
      obtain⟨i,c',a',y',v',r',j1,j2,j3,j4⟩:=k7.refs k m (by simpa using hk);exact⟨i+1,c',a',y',v',r',by simp only[a0w,a23];rw[j1];congr 1;omega,by simpa[a0H]using j2,by simpa using j3,j4⟩
    simp only[a17];exact⟨fun g=>k7.apart n g (by simp),k7.nodup⟩;intro m hm;rcases mC.1 hm with rfl|hm;exact g1;exact fun g=>k7.apart m hm (a08 _ g)
end
end Go.Ab
namespace Go.Ab
def c1K(m:Mem)(Sh:Nat→Prop):((r:RA)×r.ty.den)→Value→Src×a0U→Prop
 |⟨.v t,x⟩,v,L=>VOk m Sh t x v∧L.2=[]
 |⟨.o e,x⟩,v,L=>L.1=.one v∧RootOk m Sh ⟨false,.list true e,x⟩ L.1 L.2
 |⟨.b t,x⟩,v,L=>RootOk m Sh ⟨true,t,x⟩ L.1 L.2∧∃b,L.1=.at b 0∧v=.pointer (some ⟨b,0,none⟩)
structure Back (B:Base) (w':World) (its:List ((r:RA)×r.ty.den)) (vs:List Value) (Ls:List (Src×a0U)):Prop where
 lv:vs.length=its.length
 ll:Ls.length=its.length
 ok:∀(k:Nat)(it:(r:RA)×r.ty.den) (v:Value) (L:Src×a0U),its[k]?=some it→vs[k]?=some v→Ls[k]?=some L→
  c1K (cells w') (fun c=>c<w'.heap.size∧(B.S c∨B.F c∨B.size≤c)∧∀L∈Ls,c∉L.2.map (·.1)) it v L
 nodup:∀L∈Ls,(L.2.map (·.1)).Nodup
 disj:∀(k k':Nat)(L L':Src×a0U),Ls[k]?=some L→Ls[k']?=some L'→k≠k'→∀c,c∈L.2.map (·.1)→c∉L'.2.map (·.1)
 live:∀L∈Ls,∀p∈L.2,a0J w' p.1 p.2
 mine:∀L∈Ls,∀c∈L.2.map (·.1),B.F c∨B.size≤c
 size:B.size≤w'.heap.size
 frame:∀b,b<B.size→¬ B.F b→w'.heap[b]?=B.hp b
 still:a1H w'=B.io
def b4H:List Value→Value
 | [v]=>v
 |vs=>.tuple vs.toArray
def a3m(ps:List PA)(args:Array Value)(i:Nat):Value:=match b2D ps i with
 |some true=>.slice none 0 0
 |_=>args.getD i undef
def c5k(B:Base)(ps:List PA)(args:Array Value):Prop:=∀i∈a0w ps 0,b2D ps i=some false→∃s,B.pin i=some s∧b8o s (args.getD i undef)
def a3b(P:Program)(G:b6P)(f:FuncId)(s:FSem):Prop:=
 ∀(w:World)(B:Base)(σ:Gh)(args:Array Value) x y,GOk G B→s.F x=some y→B.size=w.heap.size→(∀b,B.hp b=w.heap[b]?)→σ.ov=none→args.size=s.ps.length→
  Rel B (ini s.ps x) s.ps.length (fun i=>args.getD i undef) w σ→c5k B s.ps args→
  Calls P f args w fun e w'=>∃vr Ls,e=.returned (b4H vr)∧vr.length=s.rs.length∧Back B w' (a1F (RA.all s.ps s.rs) y) (vr++(a0w s.ps 0).map (a3m s.ps args)) Ls
def b0d (P : Program) (f : FuncId) : Prop := ∃ fn c, P.funcs[f]? = some fn ∧ fn.body = some c ∧ (fn.name == "runtime.NumGoroutine") = false
theorem a7T:∀(rs:List RA)(x:(a1I (rs.map RA.ty)).den),(a1F rs x).length=rs.length
 | [],_=>rfl
 | [_],_=>rfl
 |_::r'::rs,x=>by simp only[a1F,lC];rw[a7T (r'::rs) x.2];rfl
theorem b2l:∀(rs:List RA)(x:(a1I (rs.map RA.ty)).den) (k:Nat) it,(a1F rs x)[k]?=some it→rs[k]?=some it.1
 | [],_,k,it,h=>by simp[a1F]at h
 | [r],x,0,it,h=>by simp only[a1F,a01,sj]at h;rw[←h];rfl
 | [r],x,k+1,it,h=>by simp[a1F]at h
 |r::r'::rs,x,0,it,h=>by simp only[a1F,a01,sj]at h;rw[←h];rfl
 |r::r'::rs,x,k+1,it,h=>by simpa using b2l (r'::rs) x.2 k it (by simpa[a1F]using h)
theorem a5g:∀(ps:List PA)(x:(a1I (ps.map PA.ty)).den),(a0H ps x).length=ps.length
 | [],_=>rfl
 | [_],_=>rfl
 |_::p'::ps,x=>by simp only[a0H,lC];rw[a5g (p'::ps) x.2];rfl
theorem a5q:∀(ps:List PA)(x:(a1I (ps.map PA.ty)).den) (k:Nat) it,(a0H ps x)[k]?=some it→ps[k]?=some it.1
 | [],_,k,it,h=>by simp[a0H]at h
 | [r],x,0,it,h=>by simp only[a0H,a01,sj]at h;rw[←h];rfl
 | [r],x,k+1,it,h=>by simp[a0H]at h
 |r::r'::ps,x,0,it,h=>by simp only[a0H,a01,sj]at h;rw[←h];rfl
 |r::r'::ps,x,k+1,it,h=>by simpa using a5q (r'::ps) x.2 k it (by simpa[a0H]using h)
theorem b8q:∀(ps:List PA)(i0 i:Nat){c a},ps[i]?=some (.r c a)→∃k:Nat,(a0w ps i0)[k]?=some (i0+i)∧(a4i ps)[k]?=some a
 | [],_,i,c,a,h=>by simp at h
 |p::ps,i0,0,c,a,h=>by
  simp only[a01,sj]at h;subst h;exact⟨0,rfl,rfl⟩
 |p::ps,i0,i+1,c,a,h=>by
  obtain⟨k,hk,ha⟩:=b8q ps (i0+1) i (by simpa using h);have hk:(a0w ps (i0+1))[k]?=some (i0+(i+1)):=by rw[hk];congr 1;omega
  cases p with
  |v t'=>exact⟨k,hk,ha⟩
  |r c t'=>exact⟨k+1,by simpa[a0w]using hk,by simpa[a4i]using ha⟩
theorem b2m:∀(ps:List PA)(i0:Nat),(a0w ps i0).Pairwise (·<·)∧∀i∈a0w ps i0,i0≤i
 | [],_=>⟨List.Pairwise.nil,by simp[a0w]⟩
 |.v _::ps,i0=>by
  obtain⟨h1,h2⟩:=b2m ps (i0+1);exact⟨h1,fun i hi=>by have:=h2 i hi;omega⟩
 |.r _ _::ps,i0=>by
  obtain⟨h1,h2⟩:=b2m ps (i0+1);refine⟨List.Pairwise.cons (fun i hi=>by have:=h2 i hi;omega) h1,fun i hi=>?_⟩;rcases mC.1 hi with rfl|hi;exact a06 _
  have:=h2 i hi;omega
theorem c1L(ps:List PA){i0 k k' i:Nat}(h:(a0w ps i0)[k]?=some i)(h':(a0w ps i0)[k']?=some i):k=k':=by
 have hp:=(b2m ps i0).1;obtain⟨hk,rfl⟩:=lS.1 h;obtain⟨hk',he⟩:=lS.1 h';rcases a50 k k' with g|g|g
 have:=a30.1 hp k k' hk hk' g;omega
 exact g
 have:=a30.1 hp k' k hk' hk g;omega
theorem a9k(ps:List PA):∀i0,(a0w ps i0).length=(a4i ps).length:=by
 induction ps with
 |nil=>intro i0;rfl
 |cons p ps ih=>intro i0;cases p<;>simp[a0w,a4i,ih]
def a5L:List Nat→List Nat→Nat→Option Nat
 |i::is,n::ns,j=>if j=i then some n else a5L is ns j
 |_,_,_=>none
theorem a9P:∀(is ns:List Nat)(j n:Nat),a5L is ns j=some n→∃k:Nat,is[k]?=some j∧ns[k]?=some n
 | [],ns,j,n,h=>by simp[a5L]at h
 |i::is,[],j,n,h=>by simp[a5L]at h
 |i::is,m::ns,j,n,h=>by
  simp only[a5L]at h
  split at h
  rename_i e;simp only[sj]at h;exact⟨0,by simp[e],by simp[h]⟩;obtain⟨k,h1,h2⟩:=a9P is ns j n h;exact⟨k+1,by simpa using h1,by simpa using h2⟩
theorem c3e:∀(is ns:List Nat)(k j n:Nat),is[k]?=some j→ns[k]?=some n→(∀k',is[k']?=some j→k'=k)→a5L is ns j=some n
 | [],ns,k,j,n,h,_,_=>by simp at h
 |i::is,[],k,j,n,_,h,_=>by simp at h
 |i::is,m::ns,0,j,n,h,h',_=>by
  simp only[a01,sj]at h h';simp[a5L,h,h']
 |i::is,m::ns,k+1,j,n,h,h',hu=>by
  have hne:j≠i:=fun e=>by have:=hu 0 (by simp[e]);omega
  simp only[a5L,if_neg hne];exact c3e is ns k j n (by simpa using h) (by simpa using h') (fun k' hk'=>by have:=hu (k'+1) (by simpa using hk');omega)
section
variable {B:Base} {N:Nat} {tm:Nat→Value} {w:World} {Γ:AE} {σ:Gh}
def a7U(ps:List PA)(i:Nat):Bool:=match ps[i]? with
 |some (.r _ (.b _))=>true
 |_=>false
def a0Y(fz:Bool)(B:Base)(w:World)(σ:Gh)(ps:List PA)(us:List Nat):Base where
 size:=w.heap.size
 hp:=fun b=>w.heap[b]?
 F:=fun c=>∃i n,a5L (a0w ps 0) us i=some n∧c∈(lo σ n (a7U ps i)).map (·.1)
 S:=fun c=>Shr B w σ c∨(fz=false∧a0L σ c)
 io:=a1H w
 pin:=fun i=>match b2D ps i with
  |some false=>(a5L (a0w ps 0) us i).map fun n=>lg w σ n (a7U ps i)
  |_=>none
def a2M(w:World)(σ:Gh)(ps:List PA)(us:List Nat):Gh where
 g:=fun m=>match b1c ps m with
  |some i=>(match a5L (a0w ps 0) us i with
   |some n=>lg w σ n (a7U ps i)
   |none=>.one undef)
  |none=>.one undef
 ow:=fun m=>match b1c ps m with
  |some i=>(match a5L (a0w ps 0) us i with
   |some n=>lo σ n (a7U ps i)
   |none=>[])
  |none=>[]
 ov:=none
theorem b8r{ps:List PA}{m i:Nat}(h:b1c ps m=some i):∃c,b2D ps i=some c∧m=rnm c i∧(c=true→i<pinned):=by
 unfold b1c at h;rcases a0g h with⟨hm,h⟩|⟨hm,h⟩
 split at h
 rename_i hk;cases h;exact⟨true,hk,rfl,fun _=>by simpa using hm⟩;cases h;obtain⟨k,rfl⟩:=Nat.exists_eq_add_of_le (show pinned≤m by simpa using hm);rw[a33]at h
 split at h
 rename_i hk;obtain rfl:=Option.some.inj h;exact⟨false,hk,rfl,fun g=>by cases g⟩;cases h
theorem c8f{ps:List PA}{c:Bool}{i:Nat}(hk:b2D ps i=some c)(hi:c=true→i<pinned):b1c ps (rnm c i)=some i:=by
 unfold b1c;cases c with
 |true=>
  have:decide (rnm true i<pinned)=true:=decide_eq_true (show rnm true i<pinned from hi rfl)
  rw[this];simp[rnm,hk]
 |false=>
  have:decide (rnm false i<pinned)=false:=decide_eq_false (by show ¬ pinned+i<pinned;omega)
  rw[this];simp[rnm,hk]
theorem a9Q{ps:List PA}{i:Nat}{c a}(h:ps[i]?=some (.r c a)):b2D ps i=some c:=by simp[b2D,h]
theorem d0P{ps:List PA}{x:(a1I (ps.map PA.ty)).den}{m:Nat}{r:Root}(h:(ini ps x).rt m=some r):∃i c a y,b1c ps m=some i∧(a0H ps x)[i]?=some ⟨.r c a,y⟩∧a0I ⟨a,y⟩=some r:=by
 simp only[ini]at h;rcases a0g h with⟨hm,h⟩|⟨hm,h⟩
 split at h
 rename_i a y hi;have hk:=a9Q (a5q _ _ _ _ hi);exact⟨m,true,a,y,by simp[b1c,hm,hk],hi,h⟩;cases h
 split at h
 rename_i a y hi;have hk:=a9Q (a5q _ _ _ _ hi);exact⟨m-pinned,false,a,y,by simp[b1c,hm,hk],hi,h⟩;cases h
theorem d0Q{ps:List PA}{x:(a1I (ps.map PA.ty)).den}{i:Nat}{c a y}(h:(a0H ps x)[i]?=some ⟨.r c a,y⟩)(hi:c=true→i<pinned):(ini ps x).rt (rnm c i)=a0I ⟨a,y⟩:=by
 cases c with
 |true=>
  have:decide (rnm true i<pinned)=true:=decide_eq_true (show rnm true i<pinned from hi rfl)
  simp only[ini,this,cT];show(match (a0H ps x)[i]? with|some ⟨.r true a,y⟩=>a0I ⟨a,y⟩|_=>none)=_;rw[h]
 |false=>
  have:decide (rnm false i<pinned)=false:=decide_eq_false (by show ¬ pinned+i<pinned;omega)
  have e:rnm false i-pinned=i:=by simp[rnm]
  simp only[ini,this,cF,e,h]
theorem b2n{ps:List PA}{x:(a1I (ps.map PA.ty)).den}{i:Nat}{c a y r}(h:(a0H ps x)[i]?=some ⟨.r c a,y⟩)(hr:a0I ⟨a,y⟩=some r):a7U ps i=r.bx:=by
 have h:=a5q _ _ _ _ h;cases a with
 |v t=>simp[a0I]at hr
 |o e=>simp only[a0I,sj]at hr;subst hr;simp[a7U,h]
 |b t=>simp only[a0I,sj]at hr;subst hr;simp[a7U,h]
theorem Rel.enter(h:Rel B Γ N tm w σ)(hov:σ.ov=none){fz:Bool}{ps:List PA}{x:(a1I (ps.map PA.ty)).den}{vs:List Value}{us:List Nat}(ha:ArgsOk fz B w Γ σ ps x vs [] us 0)(hl:vs.length=ps.length):
  Rel (a0Y fz B w σ ps us) (ini ps x) ps.length (fun i=>vs.toArray.getD i undef) w (a2M w σ ps us)∧c5k (a0Y fz B w σ ps us) ps vs.toArray:=by
 have huniq:∀k i,(a0w ps 0)[k]?=some i→∀k',(a0w ps 0)[k']?=some i→k'=k:=fun k i h1 k' h2=>c1L ps h2 h1;have hget:∀(i:Nat) v,vs[i]?=some v→vs.toArray.getD i undef=v:=fun i v hv=>by simp[a57,hv]

 have href:∀(i:Nat) c a y,(a0H ps x)[i]?=some ⟨.r c a,y⟩→∃n v r,a5L (a0w ps 0) us i=some n∧n∈us∧vs[i]?=some v∧a0I ⟨a,y⟩=some r∧b8p w Γ σ n r v∧a7U ps i=r.bx:=by
  intro i c a y hi;obtain⟨k,hk,-⟩:=b8q ps 0 i (a5q _ _ _ _ hi);rw[a03]at hk;have hlt:k<us.length:=by rw[ha.len];exact(lS.1 hk).1
  have hn:us[k]?=some us[k]:=lG hlt;obtain⟨i',c',a',y',v,r,j1,j2,j3,j4,j5,-⟩:=ha.refs k _ hn;rw[hk]at j1;simp only[a03,sj]at j1;subst j1;rw[hi]at j2;simp only[sj]at j2;cases j2;exact⟨us[k],v,r,c3e _ _ k i _ hk hn (huniq k i hk),List.getElem_mem hlt,j3,j4,j5,b2n hi j4⟩
 have hnm:∀i n,a5L (a0w ps 0) us i=some n→n∈us∧∃c a y v r,(a0H ps x)[i]?=some ⟨.r c a,y⟩∧vs[i]?=some v∧a0I ⟨a,y⟩=some r∧b8p w Γ σ n r v∧a7U ps i=r.bx:=by
  intro i n hi;obtain⟨k,h1,h2⟩:=a9P _ _ _ _ hi;obtain⟨i',c,a,y,v,r,j1,j2,j3,j4,j5,-⟩:=ha.refs k n h2;rw[h1]at j1;simp only[a03,sj]at j1;subst j1;exact⟨a07 h2,c,a,y,v,r,j2,j3,j4,j5,b2n j2 j4⟩
 have hinj:∀i i' n,a5L (a0w ps 0) us i=some n→a5L (a0w ps 0) us i'=some n→i=i':=by
  intro i i' n h1 h2;obtain⟨k,h1,h3⟩:=a9P _ _ _ _ h1;obtain⟨k',h2,h4⟩:=a9P _ _ _ _ h2;obtain⟨a1,b1⟩:=lS.1 h3;obtain⟨a2,b2⟩:=lS.1 h4
  have:k=k':=by
   have hp:=a30.1 ha.nodup;rcases a50 k k' with g|g|g;exact absurd (b1.trans b2.symm) (hp k k' a1 a2 g);exact g;exact absurd (b2.trans b1.symm) (hp k' k a2 a1 g)
  subst this;rw[h1]at h2;exact Option.some.inj h2
 have how:∀m p,p∈(a2M w σ ps us).ow m→∃i n,b1c ps m=some i∧a5L (a0w ps 0) us i=some n∧p∈lo σ n (a7U ps i)∧p∈σ.ow n:=by
  intro m p hp;cases hi:b1c ps m with
  |none=>simp[a2M,hi]at hp
  |some i=>
   cases hn:a5L (a0w ps 0) us i with
   |none=>simp[a2M,hi,hn]at hp
   |some n=>
    have e:(a2M w σ ps us).ow m=lo σ n (a7U ps i):=by simp[a2M,hi,hn]
    rw[e]at hp;obtain⟨-,c,a,y,v,r,-,-,-,hL,hb⟩:=hnm _ _ hn;exact⟨i,n,rfl,hn,hp,(h.lent hov hL).2.2.1 p (hb▸hp)⟩
 have hown:∀c,a0L (a2M w σ ps us) c→(a0Y fz B w σ ps us).F c∧∃n∈us,c∈(σ.ow n).map (·.1):=by
  rintro c ⟨m,hm⟩
  obtain⟨p,hp,rfl⟩:=a05.1 hm;obtain⟨i,n,-,h1,h2,h3⟩:=how m p hp;exact⟨⟨i,n,h1,a00 h2⟩,n,(hnm _ _ h1).1,a00 h3⟩
 have hsh:∀c,Shr B w σ c→Shr (a0Y fz B w σ ps us) w (a2M w σ ps us) c:=fun c hc=>⟨hc.1,.inl (.inl hc),fun g=>by
  obtain⟨-,n,-,h2⟩:=hown c g;exact hc.2.2 ⟨n,h2⟩⟩
 have hmemo:a0a w σ.ov=a0a w (a2M w σ ps us).ov:=by rw[hov];rfl
 have hgs:∀m i n,b1c ps m=some i→a5L (a0w ps 0) us i=some n→(a2M w σ ps us).g m=lg w σ n (a7U ps i)∧(a2M w σ ps us).ow m=lo σ n (a7U ps i):=fun m i n h1 h2=>by
  simp[a2M,h1,h2]
 have hpin:∀i b,(a0Y fz B w σ ps us).pin i=some b→b2D ps i=some false∧∃n,a5L (a0w ps 0) us i=some n∧b=lg w σ n (a7U ps i):=fun i b hb=>by
  simp only[a0Y]at hb
  split at hb
  rename_i hk;obtain⟨n,hn,rfl⟩:=a51.1 hb;exact⟨hk,n,hn,rfl⟩;cases hb
 refine⟨⟨fun m r hr=>?_,fun m hm=>?_,fun m=>?_,fun m m' hne c hc hc'=>?_,fun m p hp=>?_,fun i hi=>?_,trivial,a06 _,fun b _ _=>rfl,fun c hc=>.inl (hown c hc).1,fun i b hb _=>?_,rfl⟩,fun i hi hk=>?_⟩;obtain⟨i,c,a,y,h1,h2,h3⟩:=d0P hr;obtain⟨n,v,r',k1,k2,k3,k4,k5,k6⟩:=href i c a y h2;rw[h3]at k4;cases k4;rw[←hmemo,(hgs m i n h1 k1).1,(hgs m i n h1 k1).2,k6];exact(h.lent hov k5).1.mono hsh
 ·cases ho:(a2M w σ ps us).ow m with
  |nil=>rfl
  |cons p l=>
   obtain⟨i,n,h1,h2,-⟩:=how m p (by rw[ho];simp);obtain⟨-,c,a,y,v,r,h5,-,h6,-⟩:=hnm _ _ h2;obtain⟨c',h7,rfl,h8⟩:=b8r h1
   have:=a9Q (a5q _ _ _ _ h5)
   rw[h7]at this;cases this;rw[d0Q h5 h8,h6]at hm;cases hm
 ·cases hi:b1c ps m with
  |none=>simp[a2M,hi]
  |some i=>
   cases hn:a5L (a0w ps 0) us i with
   |none=>simp[a2M,hi,hn]
   |some n=>
    obtain⟨-,c,a,y,v,r,-,-,-,hL,hb⟩:=hnm _ _ hn;rw[(hgs m i n hi hn).2,hb];exact(h.lent hov hL).2.2.2.1
 obtain⟨p,hp,rfl⟩:=a05.1 hc;obtain⟨p',hp',e'⟩:=a05.1 hc';obtain⟨i,n,h1,h2,-,h4⟩:=how m p hp;obtain⟨i',n',h1',h2',-,h4'⟩:=how m' p' hp'
 by_cases e:n=n'
 subst e
 have:=hinj _ _ _ h2 h2'
 subst this;obtain⟨c1,g1,g2,-⟩:=b8r h1;obtain⟨c2,g1',g2',-⟩:=b8r h1';rw[g1]at g1';cases g1';exact hne (g2.trans g2'.symm);exact h.disj n n' e p.1 (a00 h4) (by rw[←e'];exact a00 h4');obtain⟨i,n,h1,h2,h3,h4⟩:=how m p hp;exact h.live n p h4
 ·have hlt:i<(a0H ps x).length:=by rw[a5g];exact hi
  have hvl:i<vs.length:=by rw[hl];exact hi
  have hv:vs[i]?=some vs[i]:=lG hvl;have hit:(a0H ps x)[i]?=some (a0H ps x)[i]:=lG hlt;show a9A _ _ _ _ ((ini ps x).sl i) (vs.toArray.getD i undef);rw[hget i _ hv]
  revert hit
  generalize (a0H ps x)[i]=it;intro hit;obtain⟨p,y⟩:=it;cases p with
  |v t=>
   have e:(ini ps x).sl i=.one (.val t y):=by simp only[ini,hit]
   rw[e]
   have:=ha.vals i t y _ hit hv
   refine this.frame (fun c j _=>by rw[hmemo]) (fun c hc=>?_);rcases hc with hc|⟨hf,n,-,hn,hc⟩;exact hsh c hc;refine⟨h.lt ⟨n,hc⟩,.inl (.inr ⟨hf,n,hc⟩),fun g=>?_⟩;obtain⟨-,n',h1,h2⟩:=hown c g;exact h.disj n n' (fun e=>hn (e▸h1)) c hc h2
  |r c b=>
   have e:(ini ps x).sl i=bif c&&decide (pinned≤i)then .one .dead else .one (c2Y (rnm c i) ⟨b,y⟩):=by simp only[ini,hit]
   rw[e];cases hcp:c&&decide (pinned≤i)with
   |true=>trivial
   |false=>
    have hci:c=true→i<pinned:=fun g=>by
     rw[g]at hcp;simpa using hcp
    obtain⟨n,v,r,h1,h2,h3,h4,h5,h5b⟩:=href i c b y hit;rw[hv]at h3;simp only[sj]at h3;rw[h3];have hk:=a9Q (a5q _ _ _ _ hit);have hrt:=d0Q hit hci;rw[h4]at hrt;obtain⟨hg,-⟩:=hgs _ i n (c8f hk hci) h1;obtain⟨-,h6,-,-,h7⟩:=h.lent hov h5;rw[←h5b]at h6 h7;show a0i _ _ _ _ (c2Y (rnm c i) ⟨b,y⟩) v;cases b with
    |v t=>simp[a0I]at h4
    |o e0=>
     simp only[a0I,sj]at h4;subst h4;rcases h7 with⟨g,-⟩|⟨-,u,e2,g,-⟩;rw[h5b]at g;cases g;rw[g]at h6;have h6:v=u:=h6;refine⟨_,e0,.one u,hrt,?_,by rw[h6];rfl⟩;rw[hg,g];rfl
    |b t=>
     simp only[a0I,sj]at h4;subst h4;rcases h7 with⟨-,bb,g⟩|⟨g,-⟩;rw[g]at h6;refine⟨_,t,bb,0,hrt,?_,h6.2⟩;rw[hg,g];rfl;rw[h5b]at g;cases g
 obtain⟨hk,n,h1,rfl⟩:=hpin i b hb;exact(hgs _ i n (c8f (c:=false) hk (fun g=>by cases g)) h1).1;obtain⟨k,hk'⟩:=a55.1 hi;have hlt:k<us.length:=by rw[ha.len];exact(lS.1 hk').1
 obtain⟨i',c',a',y',v,r,j1,j2,j3,j4,j5,-⟩:=ha.refs k _ (lG hlt);rw[hk']at j1;simp only[a03,sj]at j1;subst j1;refine⟨lg w σ us[k] (a7U ps i),?_,by rw[hget _ _ j3,b2n j2 j4];exact(h.lent hov j5).2.1⟩;simp only[a0Y,hk];rw[c3e _ _ k i _ hk' (lG hlt) (huniq k i hk')];rfl
end
end Go.Ab
namespace Go.Ab
theorem b5r{α:Type}{f:Nat→Option (α×a0U×List Nat)}:∀(n i:Nat){xs os rs},a0d f n i=some (xs,os,rs)→(∀j x o r,f j=some (x,o,r)→o=[]∧r=[])→os=[]∧rs=[]
 |0,i,xs,os,rs,h,_=>by simp[a0d]at h;simp[h]
 |n+1,i,xs,os,rs,h,hf=>by
  simp only[a0d]at h
  split at h
  cases h;rename_i x o r h1
  split at h
  cases h;rename_i xs' os' rs' h2;simp only[sj,pJ]at h;obtain⟨rfl,rfl,rfl⟩:=h;obtain⟨rfl,rfl⟩:=hf _ _ _ _ h1;obtain⟨rfl,rfl⟩:=b5r n (i+1) h2 hf;exact⟨rfl,rfl⟩
theorem a8t{m:Mem}:∀(t:Ty){rd:Nat→Option Value}{x O R},t.hasList=false→dec m t rd=some (x,O,R)→O=[]∧R=[]
 |.int k,rd,x,O,R,_,h=>by
  simp only[dec]at h
  split at h
  split at h
  cases h;exact⟨rfl,rfl⟩;cases h;cases h
 |.bool,rd,x,O,R,_,h=>by
  simp only[dec]at h
  split at h
  cases h;exact⟨rfl,rfl⟩;cases h
 |.str,rd,x,O,R,_,h=>by
  simp only[dec]at h
  split at h
  cases h;exact⟨rfl,rfl⟩;cases h
 |.unit,rd,x,O,R,_,h=>by
  simp only[dec]at h;cases h;exact⟨rfl,rfl⟩
 |.pair a b,rd,x,O,R,ht,h=>by
  simp only[Ty.hasList,a76]at ht;obtain⟨x1,o1,r1,x2,o2,r2,h1,h2,-,rfl,rfl⟩:=a1Q h;obtain⟨rfl,rfl⟩:=a8t a ht.1 h1;obtain⟨rfl,rfl⟩:=a8t b ht.2 h2;exact⟨rfl,rfl⟩
 |.arr n t,rd,x,O,R,ht,h=>b5r n 0 h fun j x o r hj=>a8t t ht hj
 |.list o t,rd,x,O,R,ht,h=>by simp[Ty.hasList]at ht
 |.nl t,rd,x,O,R,ht,h=>by
  obtain⟨-,-,ho,hr⟩:=b8f h;exact⟨ho,hr⟩
theorem b9P{m:Mem}{e:Ty}{rd:Nat→Option Value}{x O R}(he:e.hasList=false)(h:dec m (.list true e) rd=some (x,O,R)):R=[]:=by
 rcases a1z h with⟨-,-,-,hr⟩|⟨A,n,c,os,hs,hA,hn,hx,ho⟩;exact hr;exact(b5r n 0 hx fun j x o r hj=>a8t e he hj).2
theorem RootOk.anySh{m:Mem}{Sh Sh':Nat→Prop}{r:Root}{s O}(h:RootOk m Sh r s O)(hn:(r.bx=true∧r.t.hasList=false)∨∃e,r.t=.list true e∧e.hasList=false):RootOk m Sh' r s O:=by
 obtain⟨O',R,h1,h2,h3⟩:=h.rd;have hR:R=[]:=by
  rcases hn with⟨-,hn⟩|⟨e,he,hn⟩;exact(a8t _ hn h1).2;obtain⟨bx,t,x⟩:=r;obtain rfl:t=.list true e:=he;exact b9P hn h1
 subst hR;exact⟨O',[],h1,by simp,h3⟩
theorem VOk.anySh{m:Mem}{Sh Sh':Nat→Prop}{t:Ty}{x:t.den}{v:Value}(h:VOk m Sh t x v)(hn:t.hasList=false):VOk m Sh' t x v:=by
 obtain⟨h1,h2,R,h3,h4⟩:=h;obtain⟨-,rfl⟩:=a8t t hn h3;exact⟨h1,h2,[],h3,by simp⟩
theorem b8s:∀(rs:List RA)(n k m:Nat),(a0X rs n)[k]?=some m→m=n+1000*k∧k<rs.length
 | [],_,k,m,h=>by simp[a0X]at h
 |_::rs,n,0,m,h=>by simp only[a0X,a01,sj]at h;simp[h]
 |_::rs,n,k+1,m,h=>by
  obtain⟨h1,h2⟩:=b8s rs (n+1000) k m (by simpa[a0X]using h);exact⟨by omega,by simpa using h2⟩
theorem b0e:∀(rs:List RA)(n:Nat),(a0X rs n).length=rs.length
 | [],_=>rfl
 |_::rs,n=>by simp[a0X,b0e rs]
theorem b8t:∀(rs:List RA)(n k m:Nat)(r:RA),(a0X rs n)[k]?=some m→rs[k]?=some r→(∀t,r≠.v t)→m∈a2h rs n
 | [],_,k,m,r,h,_,_=>by simp[a0X]at h
 |r'::rs,n,0,m,r,h,hr,hv=>by
  simp only[a0X,a01,sj]at h hr;subst h;subst hr;cases r' with
  |v t=>exact absurd rfl (hv t)
  |o e=>simp[a2h]
  |b t=>simp[a2h]
 |r'::rs,n,k+1,m,r,h,hr,hv=>by
  have:=b8t rs (n+1000) k m r (by simpa[a0X]using h) (by simpa using hr) hv
  cases r'<;>simp[a2h,this]
section
variable {ρ:Type} {B:Base} {N:Nat} {tm:Nat→Value} {w:World}
theorem Rel.dropAll:∀(ns:List Nat) {Γ:AE}{σ:Gh}(_:Rel B Γ N tm w σ)(_:Γ.pd=none){q:Bool}{us:List Nat}{K:AE→Rs ρ}{z:ρ}(_:Γ.dropAll q us ns K=some z),
  (∀n∈ns,n<pinned∧n∉us)∧∃Γ' σ',K Γ'=some z∧Rel B Γ' N tm w σ'∧Γ'.pd=none∧σ'.ov=σ.ov∧(∀c,Shr B w σ c→Shr B w σ' c)∧(∀n∈ns,Γ'.rt n=none)∧
   ((∀n,n∉ns→Γ'.rt n=Γ.rt n∧σ'.ow n=σ.ow n)∧σ'.g=σ.g)∧(∀n,Γ.rt n=none→Γ'.rt n=none)
 | [],Γ,σ,h,hpd,q,us,K,z,hz=>⟨by simp,Γ,σ,hz,h,hpd,rfl,fun _ g=>g,by simp,⟨fun _ _=>⟨rfl,rfl⟩,rfl⟩,fun _ g=>g⟩
 |n::ns,Γ,σ,h,hpd,q,us,K,z,hz=>by
  simp only[AE.dropAll]at hz;obtain⟨hn,hz⟩:=(a0g hz).elim id fun h=>by cases h.2
  simp only[bA,dT,a49,List.contains_eq_mem,decide_eq_false_iff_not]at hn
  split at hz
  rename_i hr;have ⟨k1,Γ',σ',h1,h2,h3,h4,h5,h6,⟨h7,h8⟩,h9⟩:=Rel.dropAll ns h hpd hz;refine⟨fun m hm=>?_,Γ',σ',h1,h2,h3,h4,h5,fun m hm=>?_,⟨fun m hm=>h7 m fun g=>hm (a08 _ g),h8⟩,h9⟩;rcases mC.1 hm with rfl|hm;exact hn;exact k1 m hm;rcases mC.1 hm with rfl|hm;exact h9 m hr;exact h6 m hm;rename_i r hr;rcases a0g hz with⟨-,g⟩|⟨-,hz⟩;cases g;have hd:=h.drop (n:=n) (by simp[hpd]);have ⟨k1,Γ',σ',h1,h2,h3,h4,h5,h6,⟨h7,h8⟩,h9⟩:=Rel.dropAll ns hd (by simpa[AE.setRt,AE.mapv]using hpd) hz;have hnone:((Γ.mapv (AV.drop n)).setRt n none).rt n=none:=by simp[AE.setRt]
  refine⟨fun m hm=>?_,Γ',σ',h1,h2,h3,h4,fun c hc=>h5 c (Rel.shr_gone c hc),fun m hm=>?_,⟨fun m hm=>?_,h8⟩,fun m hm=>h9 m ?_⟩;rcases mC.1 hm with rfl|hm;exact hn;exact k1 m hm;rcases mC.1 hm with rfl|hm;exact h9 m hnone;exact h6 m hm;have hmn:m≠n:=fun e=>hm (by simp[e]);have hmns:m∉ns:=fun g=>hm (a08 _ g);obtain⟨a1,a2⟩:=h7 m hmns;have e:(m==n)=false:=by simpa using hmn
  exact⟨a1.trans (by simp[AE.setRt,AE.mapv,e]),a2.trans (by simp[hmn])⟩;simp only[AE.setRt,AE.mapv];rw[hm];simp
end
def a7V:List Nat→List ((r:RA)×r.ty.den)→List (Src×a0U)→Nat→Option Ent1
 |k::ns,it::its,L::Ls,n=>match a0I it with
  |some r=>bif n==k then some ⟨r,L.1,L.2⟩else a7V ns its Ls n
  |none=>a7V ns its Ls n
 |_,_,_,_=>none
theorem c3X:∀(ns:List Nat) its (Ls:List (Src×a0U)) (n:Nat) (e:Ent1),a7V ns its Ls n=some e→
  ∃(k:Nat)(it:(r:RA)×r.ty.den) (L:Src×a0U),ns[k]?=some n∧its[k]?=some it∧Ls[k]?=some L∧a0I it=some e.r∧e.s=L.1∧e.O=L.2
 | [],its,Ls,n,e,h=>by simp[a7V]at h
 |k::ns,[],Ls,n,e,h=>by simp[a7V]at h
 |k::ns,it::its,[],n,e,h=>by simp[a7V]at h
 |k::ns,it::its,L::Ls,n,e,h=>by
  have rest:a7V ns its Ls n=some e→∃(j:Nat)(it':(r:RA)×r.ty.den) (L':Src×a0U),(k::ns)[j]?=some n∧(it::its)[j]?=some it'∧(L::Ls)[j]?=some L'∧a0I it'=some e.r∧e.s=L'.1∧e.O=L'.2:=fun h=>by
   obtain⟨j,it',L',h1,h2,h3,h4⟩:=c3X ns its Ls n e h;exact⟨j+1,it',L',by simpa using h1,by simpa using h2,by simpa using h3,h4⟩
  simp only[a7V]at h
  split at h
  rename_i r hr;rcases a0g h with⟨hk,h⟩|⟨-,h⟩;simp only[sj]at h;subst h;exact⟨0,it,L,by simpa using(beq_iff_eq.1 hk).symm,rfl,rfl,hr,rfl,rfl⟩;exact rest h;exact rest h
theorem c3f:∀(ns:List Nat) its (Ls:List (Src×a0U)) (k n:Nat) it L r,ns[k]?=some n→its[k]?=some it→Ls[k]?=some L→a0I it=some r→
  (∀(k':Nat) it',ns[k']?=some n→its[k']?=some it'→a0I it'≠none→k'=k)→a7V ns its Ls n=some ⟨r,L.1,L.2⟩
 | [],its,Ls,k,n,it,L,r,h,_,_,_,_=>by simp at h
 |m::ns,[],Ls,k,n,it,L,r,_,h,_,_,_=>by simp at h
 |m::ns,it'::its,[],k,n,it,L,r,_,_,h,_,_=>by simp at h
 |m::ns,it'::its,L'::Ls,0,n,it,L,r,h1,h2,h3,h4,_=>by
  simp only[a01,sj]at h1 h2 h3;subst h1;subst h2;subst h3;simp[a7V,h4]
 |m::ns,it'::its,L'::Ls,k+1,n,it,L,r,h1,h2,h3,h4,hu=>by
  simp only[a23]at h1 h2 h3;have ih:=c3f ns its Ls k n it L r h1 h2 h3 h4 fun k' it2 g1 g2 g3=>by
   have:=hu (k'+1) it2 (by simpa using g1) (by simpa using g2) g3
   omega
  simp only[a7V];cases hr:a0I it' with
  |none=>exact ih
  |some r'=>
   have hne:n≠m:=fun e=>by
    have:=hu 0 it' (by simp[e]) rfl (by rw[hr];simp)
    omega
   have e:(n==m)=false:=by simpa using hne
   simp only[e,cF];exact ih
theorem b7y:∀(ns:List Nat) its (Ls:List (Src×a0U)) (n:Nat),Ls.length=its.length→a1o ns its n=(a7V ns its Ls n).map (·.r)
 | [],its,Ls,n,h=>by simp[a1o,a7V]
 |k::ns,[],Ls,n,h=>by simp[a1o,a7V]
 |k::ns,it::its,[],n,h=>by simp at h
 |k::ns,it::its,L::Ls,n,h=>by
  have ih:=b7y ns its Ls n (by simpa using h);simp only[a1o,a7V];cases a0I it with
  |none=>exact ih
  |some r=>cases hk:(n==k)<;>simp[ih]
theorem c3Y:∀(ns:List Nat) its (k:Nat) av,(a2w ns its)[k]?=some av→∃(n:Nat)(it:(r:RA)×r.ty.den),ns[k]?=some n∧its[k]?=some it∧av=c2Y n it
 | [],its,k,av,h=>by simp[a2w]at h
 |_::_,[],k,av,h=>by simp[a2w]at h
 |n::ns,it::its,0,av,h=>by simp only[a2w,a01,sj]at h;exact⟨n,it,rfl,rfl,h.symm⟩
 |n::ns,it::its,k+1,av,h=>by
  obtain⟨m,it',h1,h2,h3⟩:=c3Y ns its k av (by simpa[a2w]using h);exact⟨m,it',by simpa using h1,by simpa using h2,h3⟩
theorem b8u:∀(ns:List Nat)(its:List ((r:RA)×r.ty.den)),ns.length≤its.length→(a2w ns its).length=ns.length
 | [],its,h=>by simp[a2w]
 |_::_,[],h=>by simp at h
 |_::ns,_::its,h=>by simp only[a2w,lC];rw[b8u ns its (by simpa using h)]
theorem c7s:∀{it:(r:RA)×r.ty.den} {r:Root},a0I it=some r→it.1.hasList=false→(r.bx=true∧r.t.hasList=false)∨∃e,r.t=.list true e∧e.hasList=false
 |⟨.v t,x⟩,r,h,_=>by simp[a0I]at h
 |⟨.o e,x⟩,r,h,hl=>by simp only[a0I,sj]at h;subst h;exact .inr ⟨e,rfl,hl⟩
 |⟨.b t,x⟩,r,h,hl=>by simp only[a0I,sj]at h;subst h;exact .inl ⟨rfl,hl⟩
theorem c1K.root{m Sh}:∀{it:(r:RA)×r.ty.den} {v L r},c1K m Sh it v L→a0I it=some r→RootOk m Sh r L.1 L.2
 |⟨.v t,x⟩,v,L,r,h,hr=>by simp[a0I]at hr
 |⟨.o e,x⟩,v,L,r,h,hr=>by simp only[a0I,sj]at hr;subst hr;exact h.2
 |⟨.b t,x⟩,v,L,r,h,hr=>by simp only[a0I,sj]at hr;subst hr;exact h.1
end Go.Ab
namespace Go.Ab
@[reducible] def Fr(ro:Option Nat):Fence:={ fn:=fun _=>True,depth:=none,alive:=false,round:=ro }
theorem c5L{ro:Option Nat}{n:Nat}{P:Program}{f:FuncId}{args:Array Value}{w:World}{R:Ending→World→Prop}(h:Calls P f args w R):CallsIn (Fr ro) n P f args w R:=
 (callsIn_wide (n:=n)).2 h
theorem c5M{ro:Option Nat}{P:Program}{o:Oper}{a:Act}{w:World}{next:Act→World→Prop}{Q:Exit→Act→World→Prop}(hnd:∀c,o.op≠.defer c)(h:o.uponIn (Fr ro) 0 P a next Q ((execOp a.eval o).run P w)):
  o.wpIn (Fr ro) 0 P a w next Q:=
 ⟨fun _ _=>trivial,by rw[Oper.semAt_eq _ _ _ hnd];exact h⟩
theorem c5N {P:Program} {f:FuncId} (hb:b0d P f) {o:Oper} {c:Call} (ho:o.op=.call c) (hc:c.callee=.value (.func f)) (a:Act) (w:World):
  (execOp a.eval o).run P w=.ok (.enter f (c.args.map a.eval)) w:=by
 obtain ⟨fn,c',h1,h2,h3⟩:=hb;have h4 : ¬ fn.name = "runtime.NumGoroutine" := by simpa using h3
 simp [execOp,ho,resolve,hc,Act.eval,Deferred.ofValue,invoke,callFunc,program,Sem.run,h1,h2,h4,Result.andThen]
theorem c7t {P:Program} {f:FuncId} (hb:b0d P f) {o:Oper} {c:Call} {t:Nat} (ho:o.op=.call c) (hc:c.callee=.value (.tmp t)) (a:Act) (w:World) {us:Array Value} (hv:a.eval (.tmp t)=.func (.func f) #[] us):
  (execOp a.eval o).run P w=.ok (.enter f (c.args.map a.eval++us)) w:=by
 obtain ⟨fn,c',h1,h2,h3⟩:=hb;have h4 : ¬ fn.name = "runtime.NumGoroutine" := by simpa using h3
 simp [execOp,ho,resolve,hc,hv,Deferred.ofValue,invoke,callFunc,program,Sem.run,h1,h2,h4,Result.andThen]
section
variable {P:Program} {B:Base} {N:Nat} {ρ:Type} {Γ:AE} {a:Act} {w:World} {σ:Gh} {ro:Option Nat}
theorem GOk.callee{G:b6P}(hG:GOk G B){tm:Nat→Value}(h:Rel B Γ N tm w σ)(fz:Bool)(ps:List PA)(us:List Nat):GOk G (a0Y fz B w σ ps us):=by
 intro g t x hg;obtain⟨h1,h2,h3,w0,h4,h5⟩:=hG g t x hg;have hno:¬ a0L σ g:=fun ho=>by
  rcases h.mine _ ho with q|q;exact h3 q;omega
 have hsz:=h.size;exact⟨a24 h1 hsz,.inl ⟨a24 h1 hsz,.inl h2,hno⟩,fun⟨i,n,_,hn⟩=>by obtain⟨p,hp,rfl⟩:=a05.1 hn;exact hno ⟨n,a00 (d4A hp)⟩,w0,h4.trans (h.frame g h1 h3).symm,h5⟩
theorem b9A:∀(ps:List PA)(us:List Nat)(i0 n:Nat),n∈brw ps us→∃(k i:Nat)(e:Ty),us[k]?=some n∧(a0w ps i0)[k]?=some (i0+i)∧ps[i]?=some (.r false (.o e))
 | [],us,i0,n,h=>by simp[brw]at h
 |.v _::ps,us,i0,n,h=>by
  obtain⟨k,i,e,h1,h2,h3⟩:=b9A ps us (i0+1) n (by simpa[brw]using h);exact⟨k,i+1,e,h1,by simp only[a0w];rw[h2];congr 1;omega,by simpa using h3⟩
 |.r c a::ps,[],i0,n,h=>by cases c<;>cases a<;>simp[brw]at h
 |.r c a::ps,u::us,i0,n,h=>by
  have rest:n∈brw ps us→∃(k i:Nat)(e:Ty),(u::us)[k]?=some n∧(a0w (.r c a::ps) i0)[k]?=some (i0+i)∧(PA.r c a::ps)[i]?=some (.r false (.o e)):=fun h=>by
   obtain⟨k,i,e,h1,h2,h3⟩:=b9A ps us (i0+1) n h;exact⟨k+1,i+1,e,by simpa using h1,by simp only[a0w,a23];rw[h2];congr 1;omega,by simpa using h3⟩
  cases c with
  |true=>exact rest (by cases a<;>simpa[brw]using h)
  |false=>
   cases a with
   |o e=>
    rcases mC.1 (show n∈u::brw ps us from h)with rfl|h;exact⟨0,0,e,rfl,rfl,rfl⟩;exact rest h
   |_=>exact rest (by simpa[brw]using h)
def b3I(o:Option Root)(s:Src)(e:Ent1):Ent1:=match o,s with
 |some ⟨true,_,_⟩,.at b _=>if e.r.bx=true then e else⟨⟨true,e.r.t,e.r.x⟩,s,(b,1)::e.O⟩
 |_,_=>e
theorem c3Z{o:Oper}{avs:List AV}{vals:List Value}{f:FuncId}{s:FSem}{q:Bool}{K:AE→Rs ρ}{z:ρ}{next:Act→World→Prop}{Q:Exit→Act→World→Prop}{G:b6P}
  (hnd:∀c,o.op≠.defer c)(hrun:(execOp a.eval o).run P w=.ok (.enter f vals.toArray) w)(hlen:avs.length=vals.length)(havs:∀(i:Nat) av v,avs[i]?=some av→vals[i]?=some v→a0i (a0a w σ.ov) σ.g Γ.rt (Shr B w σ) av v)(hG:GOk G B)(hF:a3b P G f s)
  (h:Rel B Γ N (a0k a) w σ)(hN:a.tmps.size=N)(hz:Γ.call q o.dst s avs K=some z)
  (hnext:∀v w' Γ' σ',Rel B Γ' N (a0k (a.put o.dst v)) w' σ'→K Γ'=some z→next (a.put o.dst v) w'):o.wpIn (Fr ro) 0 P a w next Q:=by
 refine c5M hnd ?_
 rw[hrun,Oper.uponIn_enter];refine⟨fun h=>(by cases h),c5L ?_⟩;unfold AE.call at hz
 split at hz
 cases hz;rename_i hpd;have hov:=h.ov_none hpd;obtain⟨hl,x,Γ',σ',us,hz1,h',ev,bx,hsame,-,ha⟩:=Rel.args s.ps avs vals (i0:=0) h (fun i av v h1 h2=>.inl (havs i av v h1 h2)) (by omega) hz;clear hz;obtain⟨fz,hfz⟩:∃fz,(s.rs.any RA.hasList || (a4i s.ps).any RA.hasList)=fz:=⟨_,rfl⟩;rw[hfz]at ha hsame;have hpd':Γ'.pd=none:=ev.pd.trans hpd;have hov':σ'.ov=none:=ev.ov.trans hov;obtain⟨hnames,Γ1,σ1,hz2,h1,hpd1,hov1,hshr,hnone,⟨hkeep,hg1⟩,hnone'⟩:=Rel.dropAll _ h' hpd' hz1;clear hz1;obtain⟨y,hy,hz3⟩:=a48.1 hz2;clear hz2;obtain⟨hrel0,hpins0⟩:=h'.enter hov' ha (by omega);obtain⟨ns,hns⟩:∃ns,a0X s.rs (o.dst.getD 0+1000)=ns:=⟨_,rfl⟩;have hus:(us.reverse++[]).reverse=us:=by simp
 obtain⟨rn,hrn⟩:∃rn,a2h s.rs (o.dst.getD 0+1000)=rn:=⟨_,rfl⟩;rw[hrn]at hnames hnone hkeep;refine(hF w _ _ _ x y (hG.callee h' _ _ _) hy rfl (fun _=>rfl) rfl (by rw[a38];omega) hrel0 hpins0).mono ?_
 rintro e w' ⟨vr,Ls,rfl,hvr,bk⟩
 simp only[];obtain⟨its,hits⟩:∃its,a1F (RA.all s.ps s.rs) y=its:=⟨_,rfl⟩;obtain⟨vs,hvs⟩:∃vs,vr++(a0w s.ps 0).map (a3m s.ps vals.toArray)=vs:=⟨_,rfl⟩;rw[hits,hvs]at bk;have hitl:its.length=s.rs.length+us.length:=by
  rw[←hits,a7T,RA.all,lN,ha.len,a9k]
 have hnsl:ns.length=s.rs.length:=by rw[←hns,b0e]
 have hnotus:∀n∈rn,n<pinned∧n∉us:=fun n hn=>by
  have:=hnames n hn
  simpa using this

 have hrooted:∀(k n:Nat) it,(ns++us)[k]?=some n→its[k]?=some it→a0I it≠none→(k<ns.length∧n∈rn∧n=o.dst.getD 0+1000+1000*k)∨(ns.length≤k∧us[k-ns.length]?=some n):=by
  intro k n it h1 h2 h3
  by_cases hk:k<ns.length
  rw[a16 hk]at h1;have hf:=b2l (RA.all s.ps s.rs) y k it (by rw[hits];exact h2);rw[RA.all,a16 (by omega)]at hf;refine .inl ⟨hk,?_,?_⟩;rw[←hrn];exact b8t s.rs _ k n it.1 (by rw[hns];exact h1) hf fun t ht=>h3 (by
   obtain⟨r,xx⟩:=it;obtain rfl:r=.v t:=ht;rfl)
  exact(b8s s.rs _ k n (by rw[hns];exact h1)).1;rw[a09 (by omega)]at h1;exact .inr ⟨by omega,h1⟩
 have huniq:∀(k k' n:Nat) it it',(ns++us)[k]?=some n→its[k]?=some it→a0I it≠none→(ns++us)[k']?=some n→its[k']?=some it'→a0I it'≠none→k'=k:=by
  intro k k' n it it' h1 h2 h3 h4 h5 h6;rcases hrooted k n it h1 h2 h3 with⟨a1,a2,a3⟩|⟨a1,a2⟩;rcases hrooted k' n it' h4 h5 h6 with⟨b1,b2,b3⟩|⟨b1,b2⟩;omega;exact absurd (a07 b2) (hnotus n a2).2;rcases hrooted k' n it' h4 h5 h6 with⟨b1,b2,b3⟩|⟨b1,b2⟩;exact absurd (a07 a2) (hnotus n b2).2;obtain⟨c1,c2⟩:=lS.1 a2;obtain⟨c3,c4⟩:=lS.1 b2;have hp:=a30.1 ha.nodup;rcases a50 (k-ns.length) (k'-ns.length)with g|g|g;exact absurd (c2.trans c4.symm) (hp _ _ c1 c3 g);omega;exact absurd (c4.trans c2.symm) (hp _ _ c3 c1 g)
 let E0:Nat→Option Ent1:=a7V (ns++us) its Ls
 have hous:∀n∈us,Γ1.rt n=Γ'.rt n∧σ1.ow n=σ'.ow n:=fun n hn=>hkeep n fun g=>(hnotus n g).2 hn;have hFown:∀c,(a0Y fz B w σ' s.ps us).F c→∃n∈us,c∈(σ'.ow n).map (·.1):=by
  rintro c ⟨i,n,h1,h2⟩
  obtain⟨k,q1,q2⟩:=a9P _ _ _ _ h1;obtain⟨i',c',ra,y',v,r,j1,j2,j3,j4,j5,-⟩:=ha.refs k n q2;rw[q1]at j1;simp only[a03,sj]at j1;subst j1;obtain⟨p,hp,rfl⟩:=a05.1 h2;rw[b2n j2 j4]at hp;exact⟨n,a07 q2,a00 ((h'.lent hov' j5).2.2.1 p hp)⟩
 have hEu0:∀n∈us,∃e0 r0,E0 n=some e0∧Γ'.rt n=some r0∧
   ((e0.r.bx=r0.bx∧(e0.s=σ'.g n∨(r0.bx=false∧n<pinned∧n∉brw s.ps us))∧(r0.bx=false→∃ε,e0.r.t=.list true ε))∨
    ∃b v ε,r0.bx=true∧e0.r.bx=false∧e0.r.t=.list true ε∧σ'.g n=.at b 0∧w.cell? ⟨b,0,none⟩=some v∧e0.s=.one v∧b∈(σ'.ow n).map (·.1)∧a0J w b 1∧¬ (a0Y fz B w σ' s.ps us).F b):=by
  intro n hn;obtain⟨k,hk⟩:=a55.1 hn;obtain⟨i,c,ra,y',v,r,j1,j2,j3,j4,j5,j7⟩:=ha.refs k n hk;rw[a03]at j1;have hps:=a5q _ _ _ _ j2;have hklt:k<us.length:=(lS.1 hk).1;have hit:(ns.length+k)<its.length:=by omega
  have hitk:=lG hit;have hkL:ns.length+k<Ls.length:=by rw[bk.ll];exact hit
  have hLk:=lG hkL;have hfst:=b2l (RA.all s.ps s.rs) y (ns.length+k) _ (by rw[hits];exact hitk);have hnk:(ns++us)[ns.length+k]?=some n:=by rw[a09 (by omega)];simpa using hk
  have hall:(RA.all s.ps s.rs)[ns.length+k]?=some ra:=by
   rw[RA.all,a09 (by omega),hnsl,a33];obtain⟨k2,q1,q2⟩:=b8q s.ps 0 i hps;rw[a03]at q1;rw[c1L s.ps j1 q1];exact q2
  rw[hall]at hfst;simp only[sj]at hfst;have hvk:vs[ns.length+k]?=some (a3m s.ps vals.toArray i):=by
   rw[←hvs,a09 (by omega),hvr,hnsl,a33,a39,j1];rfl
  have hval:vals.toArray.getD i undef=v:=by simp only[a57,a19,j3,a83]
  have hsame:∀k3,us[k3]?=some n→k=k3:=fun k3 q1=>by
   obtain⟨c1,c2⟩:=lS.1 hk;obtain⟨c3,c4⟩:=lS.1 q1;have hp:=a30.1 ha.nodup;rcases a50 k k3 with g|g|g;exact absurd (c2.trans c4.symm) (hp _ _ c1 c3 g);exact g;exact absurd (c4.trans c2.symm) (hp _ _ c3 c1 g)
  have hok:=bk.ok _ _ _ _ hitk hvk hLk
  revert hfst hok hitk
  generalize its[ns.length+k]=it;obtain⟨r0,xx⟩:=it;intro hitk hfst hok;obtain rfl:ra=r0:=hfst;have hEn:∀r',a0I ⟨ra,xx⟩=some r'→E0 n=some ⟨r',Ls[ns.length+k].1,Ls[ns.length+k].2⟩:=fun r' hr'=>
   c3f (ns++us) its Ls (ns.length+k) n _ _ _ hnk hitk hLk hr' (fun k' it' g1 g2 g3=>huniq _ k' n _ it' hnk hitk (by rw[hr'];simp) g1 g2 g3)
  cases ra with
  |v t=>simp[a0I]at j4
  |b t=>
   simp only[a0I,sj]at j4;subst j4;cases c with
   |true=>have:=(j7 rfl).2.1;cases this
   |false=>
    have hbv:a3m s.ps vals.toArray i=v:=by simp only[a3m,a9Q hps,hval]
    rw[hbv]at hok;obtain⟨hr,b',hs,hv⟩:=hok;rcases j5 with⟨j5,j6⟩|⟨_,⟨g,-⟩,-⟩;refine⟨_,_,hEn _ rfl,j5,.inl ⟨rfl,.inl ?_,fun g=>by cases g⟩⟩;rcases h'.src_of j5 with⟨-,b,g⟩|⟨g,-⟩;rw[g]at j6⊢
    have:=j6.2.symm.trans hv
    simp only[Value.pointer.injEq,sj,Addr.mk.injEq,and_true]at this;rw[this];exact hs;cases g;cases g
  |o e0=>
   simp only[a0I,sj]at j4;subst j4;obtain⟨hs,hr⟩:=hok;have hbx0:a7U s.ps i=false:=by simp[a7U,hps]
   rcases j5 with⟨j5,j6⟩|⟨b,-,j5,hg,hcell⟩
   ·refine⟨_,_,hEn _ rfl,j5,.inl ⟨rfl,?_,fun _=>⟨e0,rfl⟩⟩⟩;cases c with
    |true=>
     refine .inr ⟨rfl,(j7 rfl).2.2,fun hb=>?_⟩;obtain⟨k3,i3,e3,q1,q2,q3⟩:=b9A s.ps us 0 n hb;obtain rfl:=hsame k3 q1;rw[j1]at q2;simp only[a03,sj]at q2;subst q2;rw[hps]at q3;cases q3
    |false=>
     have hbv:a3m s.ps vals.toArray i=v:=by simp only[a3m,a9Q hps,hval]
     rw[hbv]at hs;left;rcases h'.src_of j5 with⟨g,-⟩|⟨-,u,e2,g,-⟩;cases g;rw[g]at j6⊢;have j6:v=u:=j6;rw[←j6];exact hs
   ·have hcf:c=false:=by
     cases c with
     |false=>rfl
     |true=>have:=(j7 rfl).1;rw[j5]at this;cases this
    subst hcf;have hbv:a3m s.ps vals.toArray i=v:=by simp only[a3m,a9Q hps,hval]
    rw[hbv]at hs;have how:σ'.ow n=(b,1)::(σ'.ow n).tail∧b∉((σ'.ow n).tail).map (·.1):=by
     obtain⟨O',R,-,-,q3⟩:=(h'.roots n _ j5).rd;rcases q3 with⟨-,b',q4,q5⟩|⟨q4,-⟩;rw[hg]at q4;simp only[Src.at.injEq,and_true]at q4;subst q4;have hnd:=h'.nodup n;rw[q5,a04]at hnd;rw[q5];exact⟨rfl,(a17.1 hnd).1⟩;cases q4
    have hbo:b∈(σ'.ow n).map (·.1):=by rw[how.1];simp
    refine⟨_,_,hEn _ rfl,j5,.inr ⟨b,v,e0,rfl,rfl,rfl,hg,hcell,hs,hbo,h'.live n (b,1) (by rw[how.1];simp),?_⟩⟩
    rintro⟨i',n',q1,q2⟩
    obtain⟨k',q3,q4⟩:=a9P _ _ _ _ q1
    by_cases hnn:n'=n
    subst hnn;obtain rfl:=hsame k' q4;rw[j1]at q3;simp only[sj]at q3;subst q3;rw[hbx0]at q2;simp only[lo,hg]at q2;exact how.2 q2;obtain⟨i2,c2,a2,y2,v2,r2,z1,z2,z3,z4,z5,-⟩:=ha.refs k' n' q4;rw[q3]at z1;simp only[a03,sj]at z1;subst z1;obtain⟨p,hp,hpb⟩:=a05.1 q2;rw[b2n z2 z4]at hp;exact h'.disj n n' (Ne.symm hnn) b hbo (by rw[←hpb];exact a00 ((h'.lent hov' z5).2.2.1 p hp))
 let E:Nat→Option Ent1:=fun n=>(E0 n).map fun e=>bif us.contains n then b3I (Γ1.rt n) (σ1.g n) e else e
 have hEE:∀n e,E n=some e→∃e0,E0 n=some e0∧(e=e0∨(n∈us∧∃b v ε,e0.r.bx=false∧e0.r.t=.list true ε∧σ'.g n=.at b 0∧w.cell? ⟨b,0,none⟩=some v∧e0.s=.one v∧b∈(σ'.ow n).map (·.1)∧a0J w b 1∧
   ¬ (a0Y fz B w σ' s.ps us).F b∧e=⟨⟨true,e0.r.t,e0.r.x⟩,.at b 0,(b,1)::e0.O⟩)):=by
  intro n e he;obtain⟨e0,he0,rfl⟩:=a51.1 he;refine⟨e0,he0,?_⟩;cases hc:us.contains n with
  |false=>exact .inl rfl
  |true=>
   have hn:n∈us:=by simpa using hc
   obtain⟨e1,r0,q1,q2,q3⟩:=hEu0 n hn;rw[he0]at q1;cases q1;simp only[cT];rw[(hous n hn).1,q2,hg1];obtain⟨bx,t0,x0⟩:=r0;rcases q3 with⟨q3,-⟩|⟨b,v,ε,q3,q4,q5,q6,q7⟩
   ·left;cases bx with
    |false=>rfl
    |true=>
     rcases σ'.g n with⟨b,o⟩|u;simp only[b3I];rw[if_pos q3];rfl
   right;have q3:bx=true:=q3;subst q3;refine⟨hn,b,v,ε,q4,q5,q6,q7.1,q7.2.1,q7.2.2.1,q7.2.2.2.1,q7.2.2.2.2,?_⟩;rw[q6];simp only[b3I];rw[if_neg (by rw[q4];simp)]
 have hEu:∀n∈us,∃e r,E n=some e∧Γ'.rt n=some r∧(e.s=σ'.g n∨(r.bx=false∧n<pinned∧n∉brw s.ps us))∧(r.bx=false→∃ε,e.r.t=.list true ε):=by
  intro n hn;obtain⟨e0,r0,q1,q2,q3⟩:=hEu0 n hn;have hE:∃e,E n=some e:=⟨_,by simp only[E,q1,a22];rfl⟩;obtain⟨e,he⟩:=hE;obtain⟨e1,z1,z2⟩:=hEE n e he;rw[q1]at z1;cases z1;refine⟨e,r0,he,q2,?_⟩;rcases q3 with⟨q3,q4,q5⟩|⟨b,v,ε,q3,q4,q5,q6,q7⟩;rcases z2 with rfl|⟨-,b,v,ε,z3,z4,z5,z6,z7,z8,z9,z10,rfl⟩;exact⟨q4,q5⟩;rw[z3]at q3;rcases h'.src_of q2 with⟨g,-⟩|⟨-,u,_,g,-⟩;rw[g]at q3;cases q3;rw[g]at z5;cases z5;refine⟨.inl ?_,fun g=>by rw[q3]at g;cases g⟩;rcases z2 with rfl|⟨-,b',v',ε',z3,z4,z5,z6,z7,z8,z9,z10,rfl⟩
  exfalso
  obtain⟨e2,he2,he3⟩:=a51.1 he;rw[q1]at he2;cases he2;have hc:us.contains n=true:=by simpa using hn
  rw[hc]at he3;simp only[cT]at he3;rw[(hous n hn).1,q2,hg1,q6]at he3;obtain⟨bx,t0,x0⟩:=r0;have q3:bx=true:=q3;subst q3;simp only[b3I]at he3;rw[if_neg (by rw[q4];simp)]at he3
  have:=congrArg (fun e=>e.r.bx) he3
  rw[q4]at this;cases this;exact z5.symm
 have hEsome:∀n e,E0 n=some e→∃(k:Nat)(it:(r:RA)×r.ty.den) (v:Value) (L:Src×a0U),(ns++us)[k]?=some n∧its[k]?=some it∧vs[k]?=some v∧Ls[k]?=some L∧a0I it=some e.r∧e.s=L.1∧e.O=L.2∧
   c1K (cells w') (fun c=>c<w'.heap.size∧((a0Y fz B w σ' s.ps us).S c∨(a0Y fz B w σ' s.ps us).F c∨(a0Y fz B w σ' s.ps us).size≤c)∧∀L∈Ls,c∉L.2.map (·.1)) it v L:=by
  intro n e he;obtain⟨k,it,L,j1,j2,j3,j4⟩:=c3X _ _ _ _ _ he;have hlt:k<vs.length:=by rw[bk.lv];exact(lS.1 j2).1
  have hv:=lG hlt;exact⟨k,it,vs[k],L,j1,j2,hv,j3,j4.1,j4.2.1,j4.2.2,bk.ok _ _ _ _ j2 hv j3⟩
 have hbase:∀n e0 c,E0 n=some e0→c∈e0.O.map (·.1)→(a0Y fz B w σ' s.ps us).F c∨w.heap.size≤c:=fun n e0 c he hc=>by
  obtain⟨k,it,v,L,j1,j2,jv,j3,j4,j5,j6,j7⟩:=hEsome n e0 he;rw[j6]at hc;exact bk.mine L (a07 j3) c hc
 have hmemE:∀n e,E n=some e→n∈rn∨n∈us:=fun n e he=>by
  obtain⟨e0,he0,-⟩:=hEE n e he;obtain⟨k,it,v,L,j1,j2,-,-,j4,-⟩:=hEsome n e0 he0;rcases hrooted k n it j1 j2 (by rw[j4];simp)with⟨-,g,-⟩|⟨-,g⟩;exact .inl g;exact .inr (a07 g)
 have hold:∀n b,b∈(σ'.ow n).map (·.1)→¬ (a0Y fz B w σ' s.ps us).F b→∀n' e0,E0 n'=some e0→b∉e0.O.map (·.1):=fun n b hb hF n' e0 he hc=>by
  rcases hbase n' e0 b he hc with g|g;exact hF g
  have:=h'.lt ⟨n,hb⟩;omega
 have hW:Work w w' σ1 (a0Y fz B w σ' s.ps us).F E:={
  own:=fun c hF=>by
   obtain⟨n,hn,hc⟩:=hFown c hF;obtain⟨e,r,he,-⟩:=hEu n hn;exact⟨n,e,he,by rw[(hous n hn).2];exact hc⟩
  size:=bk.size
  still:=bk.still
  same:=fun b hb hF'=>bk.frame b hb hF'
  mine:=fun n e c he hc=>by
   obtain⟨e0,he0,z⟩:=hEE n e he;rcases z with rfl|⟨hn,b,v,ε,z3,z4,z5,z6,z7,z8,z9,z10,rfl⟩;exact(hbase n e c he0 hc).imp .inl id;rcases mC.1 (show c∈b::e0.O.map (·.1)from hc)with rfl|hc;exact .inl (.inr (by rw[(hous n hn).2];exact z8));exact(hbase n e0 c he0 hc).imp .inl id
  nodup:=fun n e he=>by
   obtain⟨e0,he0,z⟩:=hEE n e he;have h0:(e0.O.map (·.1)).Nodup:=by
    obtain⟨k,it,v,L,j1,j2,jv,j3,j4,j5,j6,j7⟩:=hEsome n e0 he0;rw[j6];exact bk.nodup L (a07 j3)
   rcases z with rfl|⟨hn,b,v,ε,z3,z4,z5,z6,z7,z8,z9,z10,rfl⟩;exact h0;exact a17.2 ⟨hold n b z8 z10 n e0 he0,h0⟩
  disj:=fun n e n' e' he he' hne c hc hc'=>by
   obtain⟨e0,he0,z⟩:=hEE n e he;obtain⟨e0',he0',z'⟩:=hEE n' e' he';have base:c∈e0.O.map (·.1)→c∈e0'.O.map (·.1)→False:=fun hc hc'=>by
    obtain⟨k,it,v,L,j1,j2,jv,j3,j4,j5,j6,j7⟩:=hEsome n e0 he0;obtain⟨k',it',v',L',i1,i2,iv,i3,i4,i5,i6,i7⟩:=hEsome n' e0' he0';rw[j6]at hc;rw[i6]at hc';exact bk.disj k k' L L' j3 i3 (fun g=>by subst g;rw[j1]at i1;exact hne (Option.some.inj i1)) c hc hc'
   rcases z with rfl|⟨hn,b,v,ε,z3,z4,z5,z6,z7,z8,z9,z10,rfl⟩;rcases z' with rfl|⟨hn',b',v',ε',y3,y4,y5,y6,y7,y8,y9,y10,rfl⟩;exact base hc hc';rcases mC.1 (show c∈b'::e0'.O.map (·.1)from hc')with rfl|hc';exact hold n' c y8 y10 n e he0 hc;exact base hc hc';rcases mC.1 (show c∈b::e0.O.map (·.1)from hc)with rfl|hc;rcases z' with rfl|⟨hn',b',v',ε',y3,y4,y5,y6,y7,y8,y9,y10,rfl⟩;exact hold n c z8 z10 n' e' he0' hc';rcases mC.1 (show c∈b'::e0'.O.map (·.1)from hc')with rfl|hc';exact h'.disj n n' hne c z8 y8;exact hold n c z8 z10 n' e0' he0' hc';rcases z' with rfl|⟨hn',b',v',ε',y3,y4,y5,y6,y7,y8,y9,y10,rfl⟩;exact base hc hc';rcases mC.1 (show c∈b'::e0'.O.map (·.1)from hc')with rfl|hc';exact hold n' c y8 y10 n e0 he0 hc;exact base hc hc'
  live:=fun n e p he hp=>by
   obtain⟨e0,he0,z⟩:=hEE n e he;have h0:p∈e0.O→a0J w' p.1 p.2:=fun hp=>by
    obtain⟨k,it,v,L,j1,j2,jv,j3,j4,j5,j6,j7⟩:=hEsome n e0 he0;rw[j6]at hp;exact bk.live L (a07 j3) p hp
   rcases z with rfl|⟨hn,b,v,ε,z3,z4,z5,z6,z7,z8,z9,z10,rfl⟩;exact h0 hp;rcases mC.1 hp with rfl|hp;obtain⟨c,e,lo,hi,q1,q2⟩:=z9;exact⟨c,e,lo,hi,by rw[bk.frame b (h'.lt ⟨n,z8⟩) z10];exact q1,q2⟩;exact h0 hp }

 have hShB:∀c,(c<w'.heap.size∧((a0Y fz B w σ' s.ps us).S c∨(a0Y fz B w σ' s.ps us).F c∨(a0Y fz B w σ' s.ps us).size≤c)∧∀L∈Ls,c∉L.2.map (·.1))→fz=true→
   (c<w'.heap.size∧(Shr B w σ1 c∨(a0Y fz B w σ' s.ps us).F c∨w.heap.size≤c)∧∀n e,E n=some e→c∉e.O.map (·.1)):=by
  rintro c ⟨g1,g2,g3⟩ hfzt
  refine⟨g1,?_,fun n e he hce=>?_⟩;rcases g2 with(g2|⟨g2,-⟩)|g2|g2;exact .inl (hshr c g2);rw[hfzt]at g2;cases g2;exact .inr (.inl g2);exact .inr (.inr g2);obtain⟨e0,he0,z⟩:=hEE n e he;have h0:c∉e0.O.map (·.1):=by
   obtain⟨k,it,v,L,j1,j2,jv,j3,j4,j5,j6,j7⟩:=hEsome n e0 he0;rw[j6];exact g3 L (a07 j3)
  rcases z with rfl|⟨hn,b,v,ε,z3,z4,z5,z6,z7,z8,z9,z10,rfl⟩;exact h0 hce;rcases mC.1 (show c∈b::e0.O.map (·.1)from hce)with rfl|hce;rcases g2 with(g2|⟨g2,-⟩)|g2|g2;exact g2.2.2 ⟨n,z8⟩;rw[hfzt]at g2;cases g2;exact z10 g2
  have:=h'.lt ⟨n,z8⟩
  have g2:w.heap.size≤c:=g2;omega;exact h0 hce
 have hnoList:fz=false→∀(k:Nat) it,its[k]?=some it→it.1.hasList=false:=by
  intro hf0 k it hk;have h1:=b2l (RA.all s.ps s.rs) y k it (by rw[hits];exact hk);rw[←hfz]at hf0;simp only[a76,a82,a67]at hf0;have hm:=a07 h1;simp only[RA.all,mA]at hm;rcases hm with hm|hm;exact hf0.1 _ hm;exact hf0.2 _ hm
 have hroot:∀n e,E n=some e→RootOk (cells w') (fun c=>c<w'.heap.size∧(Shr B w σ1 c∨(a0Y fz B w σ' s.ps us).F c∨w.heap.size≤c)∧∀n e,E n=some e→c∉e.O.map (·.1)) e.r e.s e.O:=by
  intro n e he;obtain⟨e0,he0,z⟩:=hEE n e he;have h0:RootOk (cells w') (fun c=>c<w'.heap.size∧(Shr B w σ1 c∨(a0Y fz B w σ' s.ps us).F c∨w.heap.size≤c)∧∀n e,E n=some e→c∉e.O.map (·.1)) e0.r e0.s e0.O:=by
   obtain⟨k,it,v,L,j1,j2,jv,j3,j4,j5,j6,j7⟩:=hEsome n e0 he0;have hr:=j7.root j4;rw[j5,j6];cases hfz':fz with
   |true=>
    rw[hfz']at hr hShB;exact hr.mono fun c hc=>hShB c hc rfl
   |false=>exact hr.anySh (c7s j4 (hnoList hfz' k it j2))
  rcases z with rfl|⟨hn,b,v,ε,z3,z4,z5,z6,z7,z8,z9,z10,rfl⟩;exact h0;obtain⟨O',R,k1,k2,k3⟩:=h0.rd;rcases k3 with⟨k3,-⟩|⟨-,-,-,k3⟩;rw[z3]at k3;cases k3;refine⟨O',R,a0p _ k1 (fun j hj=>?_) (fun _ _ _=>rfl),k2,.inl ⟨rfl,b,rfl,?_⟩⟩;have hj:j<e0.r.t.cells:=hj;rw[z4]at hj;have hj0:j=0:=by simp only[Ty.cells]at hj;omega
  subst hj0;rw[z7];show cells w' b (0+0)=some v
  have:=a1c (w':=w') (w:=w) (c:=b) none (bk.frame b (h'.lt ⟨n,z8⟩) z10) 0
  exact this.trans z6;show(b,1)::e0.O=(b,e0.r.t.cells)::O';rw[z4,k3];rfl
 obtain⟨hM,hMsh⟩:=h1.merge (hov1.trans hov') hW hroot (fun i b e hb he=>by
   rcases hmemE _ e he with g|g;exact absurd (hnotus _ g).1 (by omega);obtain⟨e',r',he',hrt,hs,-⟩:=hEu _ g;rw[he]at he';simp only[sj]at he';subst he';rcases hs with hs|⟨-,hs,-⟩;rw[hs];exact h'.pins i b hb (by rw[hrt];simp);omega) (f:=AV.deeps us (Γ1.unbx (brw s.ps us))) (fun av v hav=>by
   have key:∀k q,(av=.ptr k q∨av=.sref k q∨∃o l,av=.swin k q o l)→k∉us→E k=none:=fun k q hk hku=>by
    cases he:E k with
    |none=>rfl
    |some e=>
     rcases hmemE k e he with g|g;have hn:=hnone k g;rcases hk with rfl|rfl|⟨o,l,rfl⟩;obtain⟨r,t,b,o,g1,-⟩:=hav;rw[hn]at g1;cases g1;obtain⟨r,e,s,g1,-⟩:=hav;rw[hn]at g1;cases g1;obtain⟨r,e,s,_,_,_,g1,-⟩:=hav;rw[hn]at g1;cases g1;exact absurd g hku
   cases av with
   |sref m p=>
    simp only[AV.deeps];split
    ·rename_i hm;cases p with
     |cons=>exact .inl rfl
     |nil=>
      simp only[];split;rename_i hb;refine .inr ⟨rfl,fun k p' hk=>.inr (.inr ?_)⟩;rcases hk with g|g|⟨o,l,g⟩<;>cases g;obtain⟨e,r,he,hrt,hs,ht⟩:=hEu m (by simpa using hm);have hrm:=(hous m (by simpa using hm)).1.trans hrt;have hb:m∈Γ1.unbx (brw s.ps us):=by simpa using hb
      simp only[AE.unbx,List.mem_filter,a49]at hb;obtain⟨hb,hbx0⟩:=hb;rcases hs with hs|⟨-,-,hs⟩;obtain⟨r2,e2,s2,g1,g2,g3⟩:=hav;rw[hrm]at g1;cases g1;simp only[loc,a0Q,sj,pJ]at g2;rcases h1.src_of hrm with⟨hbx,b,hg⟩|⟨hbx,u,e3,hg,-⟩;rw[hrm]at hbx0;simp only[b8a]at hbx0;rw[hbx]at hbx0;cases hbx0;obtain⟨ε,ht⟩:=ht hbx;exact⟨rfl,e,u,ε,he,by rw[hs,←hg1];exact hg,hg,ht⟩;exact absurd hb hs;exact .inl rfl
    rename_i hm;refine .inr ⟨rfl,fun k p' hk=>.inl (key k p' hk ?_)⟩;rcases hk with g|g|⟨o,l,g⟩<;>cases g;simpa using hm
   |swin m p o l=>
    simp only[AV.deeps];split;exact .inl rfl;rename_i hm;refine .inr ⟨rfl,fun k p' hk=>.inl (key k p' hk ?_)⟩;rcases hk with g|g|⟨o,l,g⟩<;>cases g;simpa using hm
   |ptr m p=>
    simp only[AV.deeps];split
    ·rename_i hm;cases p with
     |cons=>exact .inl rfl
     |nil=>
      refine .inr ⟨rfl,fun k p' hk=>.inr (.inl ?_)⟩;rcases hk with g|g|⟨o,l,g⟩<;>cases g;obtain⟨e,r,he,hrt,hs,ht⟩:=hEu m (by simpa using hm);have hrm:=(hous m (by simpa using hm)).1.trans hrt;obtain⟨r2,t2,b2,o2,g1,g2,-⟩:=hav;rw[hrm]at g1;cases g1;simp only[loc,a0Q,sj,pJ]at g2;rcases h1.src_of hrm with⟨hbx,b,hg⟩|⟨hbx,u,e3,hg,-⟩;rcases hs with hs|⟨hs,-⟩;exact⟨rfl,e,b,he,by rw[hs,←hg1];exact hg,hg⟩;rw[hbx]at hs;cases hs;rw[hg]at g2;cases g2.2
    rename_i hm;refine .inr ⟨rfl,fun k p' hk=>.inl (key k p' hk ?_)⟩;rcases hk with g|g|⟨o,l,g⟩<;>cases g;simpa using hm
   |_=>exact .inr ⟨rfl,fun k p' hk=>by rcases hk with g|g|⟨o,l,g⟩<;>cases g⟩)

 have hres:∀(k:Nat) av,(a2w ns its)[k]?=some av→∃u,vr[k]?=some u∧a0i (a0a w' none) (a3G σ1 E).g (a7S Γ1 (AV.deeps us (Γ1.unbx (brw s.ps us))) E).rt (Shr B w' (a3G σ1 E)) av u:=by
  intro k av hk;obtain⟨n,it,g1,g2,rfl⟩:=c3Y _ _ _ _ hk;have hkl:k<vr.length:=by rw[hvr,←hnsl];exact(lS.1 g1).1
  have hvk:=lG hkl;have hvsk:vs[k]?=some vr[k]:=by rw[←hvs,a16 hkl];exact hvk
  have hkL:k<Ls.length:=by rw[bk.ll];exact(lS.1 g2).1
  have hLk:=lG hkL;have hok:=bk.ok _ _ _ _ g2 hvsk hLk;have hnk:(ns++us)[k]?=some n:=by rw[a16 (by omega)];exact g1
  refine⟨vr[k],hvk,?_⟩;have hents:∀r,a0I it=some r→E n=some ⟨r,Ls[k].1,Ls[k].2⟩:=fun r hr=>by
   have h0:E0 n=some ⟨r,Ls[k].1,Ls[k].2⟩:=c3f (ns++us) its Ls k n it _ r hnk g2 hLk hr (fun k' it' a1 a2 a3=>huniq _ k' n _ it' hnk g2 (by rw[hr];simp) a1 a2 a3);have hnu:us.contains n=false:=by
    rcases hrooted k n it hnk g2 (by rw[hr];simp)with⟨-,g,-⟩|⟨g,-⟩;simpa using(hnotus n g).2
    have:=(lS.1 g1).1
    omega
   simp only[E,h0,a22,hnu,cF]
  obtain⟨r,xx⟩:=it;cases r with
  |v t=>
   obtain⟨hv,-⟩:=hok;cases hfz':fz with
   |true=>
    rw[hfz']at hv hShB hMsh;exact hv.frame (fun _ _ _=>rfl) fun c hc=>hMsh c (hShB c hc rfl)
   |false=>exact hv.anySh (hnoList hfz' k _ g2)
  |o e=>
   obtain⟨hs,-⟩:=hok;have he:=hents _ rfl;refine⟨_,e,.one vr[k],a4x he,?_,rfl⟩;rw[a4y he];show some (_,Ls[k].1)=_;rw[hs]
  |b t=>
   obtain⟨-,b,hs,hv⟩:=hok;have he:=hents _ rfl;refine⟨_,t,b,0,a4x he,?_,hv⟩;rw[a4y he];show some (_,Ls[k].1)=_;rw[hs]
 have hΓ2:(⟨fun i=>(Γ1.sl i).mapv (AV.deeps (us.reverse++[]) (Γ1.unbx (brw s.ps us))),fun n=>match a1o (ns++us) its n with
    |some r=>some (bif (us.reverse++[]).contains n then a9X (Γ1.rt n) r else r)
    |none=>Γ1.rt n,none⟩:AE)=a7S Γ1 (AV.deeps us (Γ1.unbx (brw s.ps us))) E:=by
  have e1:AV.deeps (us.reverse++[]) (Γ1.unbx (brw s.ps us))=AV.deeps us (Γ1.unbx (brw s.ps us)):=by
   funext av;cases av<;>simp[AV.deeps]
  have e2:∀n,(us.reverse++[]).contains n=us.contains n:=fun n=>by simp
  rw[e1];simp only[a7S,AE.mapv,E,E0,e2];congr 1;funext n;rw[b7y _ _ Ls n bk.ll];cases a7V (ns++us) its Ls n with
  |none=>rfl
  |some e=>
   simp only[a22];cases us.contains n with
   |false=>rfl
   |true=>
    simp only[cT,sj];cases hrt:Γ1.rt n with
    |none=>simp[a9X,b3I]
    |some r0=>
     rcases h1.src_of hrt with⟨hb,b,hg⟩|⟨hb,u,e0,hg,-⟩;obtain⟨bx,t0,x0⟩:=r0;have hb:bx=true:=hb;subst hb;rw[hg];simp only[a9X,b3I];split;rename_i he;obtain⟨⟨bx,t1,x1⟩,s1,O1⟩:=e;have he:bx=true:=he;subst he;rfl;rfl;obtain⟨bx,t0,x0⟩:=r0;have hb:bx=false:=hb;subst hb;simp[a9X,b3I]
 have hz:(match o.dst with
   |none=>K (a7S Γ1 (AV.deeps us (Γ1.unbx (brw s.ps us))) E)
   |some d=>match a2w (a0X s.rs (d+1000)) its with
    | [v]=>K ((a7S Γ1 (AV.deeps us (Γ1.unbx (brw s.ps us))) E).set d v)
    |vs=>K ((a7S Γ1 (AV.deeps us (Γ1.unbx (brw s.ps us))) E).put d (.cmp .tup vs)))=some z:=by
  rw[hus,hns,hits]at hz3;rw[←hΓ2];exact hz3
 cases hd:o.dst with
 |none=>
  rw[hd]at hz hnext;simp only[]at hz;exact hnext _ w' _ _ hM hz
 |some d=>
  have hns':a0X s.rs (d+1000)=ns:=by rw[←hns,hd];rfl
  rw[hd]at hz hnext;simp only[hns']at hz;have hlen:(a2w ns its).length=vr.length:=by rw[b8u _ _ (by omega),hnsl,hvr]
  split at hz
  ·rename_i av hav;rw[hav]at hlen hres;obtain⟨u,hu,hok⟩:=hres 0 av rfl;have hvr1:vr=[u]:=by
    match vr,hlen,hu with
    | [u'],_,hu=>simp only[a01,sj]at hu;rw[hu]
   refine hnext _ w' _ _ (hM.putd (sv:=.one av) (v:=b4H vr) (d:=d) hN (fun _=>?_)) hz;rw[hvr1];exact hok
  ·rename_i hne;refine hnext _ w' _ _ (hM.putd (sv:=.cmp .tup (a2w ns its)) (v:=b4H vr) (d:=d) hN (fun _=>?_)) hz;refine⟨vr.toArray,?_,fun k av hk=>?_⟩
   ·match vr,hlen with
    | [],_=>rfl
    | [u],hlen=>
     obtain⟨av,hav⟩:=a71.1 (hlen.trans rfl);exact absurd hav (hne av)
    |_::_::_,_=>rfl
   obtain⟨u,hu,hok⟩:=hres k av hk;exact⟨u,by simpa using hu,hok⟩
theorem c8P{o:Oper}{c:Call}{f:FuncId}{s:FSem}{q:Bool}{K:AE→Rs ρ}{z:ρ}{next:Act→World→Prop}{Q:Exit→Act→World→Prop}{G:b6P}(ho:o.op=.call c)(hc:c.callee=.value (.func f))(hG:GOk G B)(hF:a3b P G f s)(hB:b0d P f)
  (h:Rel B Γ N (a0k a) w σ)(hN:a.tmps.size=N)(hf:fits N o=true)(hz:Γ.call q o.dst s (c.args.toList.map Γ.opd) K=some z)
  (hnext:∀v w' Γ' σ',Rel B Γ' N (a0k (a.put o.dst v)) w' σ'→K Γ'=some z→next (a.put o.dst v) w'):o.wpIn (Fr ro) 0 P a w next Q:=by
 have hopd:∀x∈c.args.toList,a1i N x=true:=fun x hx=>a0S hf x (by simp only[ho,Op.operands,Call.operands,hc];simp;exact .inr (by simpa using hx));refine c3Z (vals:=c.args.toList.map a.eval) (fun c' h'=>by rw[ho]at h';cases h') (by rw[c5N hB ho hc,←a65]) (by simp) (fun i av v h1 h2=>?_) hG hF h hN hz hnext;rw[a39]at h1 h2;cases hi:c.args.toList[i]? with
 |none=>rw[hi]at h1;cases h1
 |some o'=>
  rw[hi]at h1 h2;simp only[a22,sj]at h1 h2;subst h1;subst h2;exact h.opd (hopd o' (a07 hi))
theorem d0R{o:Oper}{c:Call}{t:Nat}{vs:List AV}{f:FuncId}{s:FSem}{q:Bool}{K:AE→Rs ρ}{z:ρ}{next:Act→World→Prop}{Q:Exit→Act→World→Prop}{G:b6P}(ho:o.op=.call c)(hc:c.callee=.value (.tmp t))(hs:Γ.sl t=.cmp (.clo f) vs)
  (hG:GOk G B)(hF:a3b P G f s)(hB:b0d P f)
  (h:Rel B Γ N (a0k a) w σ)(hN:a.tmps.size=N)(hf:fits N o=true)(hz:Γ.call q o.dst s (c.args.toList.map Γ.opd++vs) K=some z)
  (hnext:∀v w' Γ' σ',Rel B Γ' N (a0k (a.put o.dst v)) w' σ'→K Γ'=some z→next (a.put o.dst v) w'):o.wpIn (Fr ro) 0 P a w next Q:=by
 have hopd:∀x∈c.args.toList,a1i N x=true:=fun x hx=>a0S hf x (by simp only[ho,Op.operands,Call.operands,hc];simp;exact .inr (by simpa using hx));have ht:t<N:=by
  have:=a0S hf (.tmp t) (by simp only[ho,Op.operands,Call.operands,hc];simp)
  simpa[a1i]using this
 have hsl:=h.slots t ht;rw[hs]at hsl;obtain⟨us,⟨h1,h2⟩,h3⟩:=hsl;have h2:a.eval (.tmp t)=.func (.func f) #[] us:=h2;refine c3Z (vals:=c.args.toList.map a.eval++us.toList) (fun c' h'=>by rw[ho]at h';cases h') (by rw[c7t hB ho hc a w h2];simp) (by simp[h1]) (fun i av v g1 g2=>?_) hG hF h hN hz hnext
 by_cases hi:i<c.args.toList.length
 ·rw[a16 (by simpa using hi),a39]at g1 g2;cases hi':c.args.toList[i]? with
  |none=>rw[hi']at g1;cases g1
  |some o'=>
   rw[hi']at g1 g2;simp only[a22,sj]at g1 g2;subst g1;subst g2;exact h.opd (hopd o' (a07 hi'))
 rw[a09 (by simpa using hi),a56]at g1 g2;obtain⟨u,h4,h5⟩:=h3 _ av g1;rw[a21,h4]at g2;simp only[sj]at g2;subst g2;exact h5
end
end Go.Ab
