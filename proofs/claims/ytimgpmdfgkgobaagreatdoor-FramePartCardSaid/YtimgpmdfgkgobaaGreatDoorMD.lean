/- Part of the proof: LibZT, LibZU. Conditions: as each statement tells. -/
import Derived.Test.YtimgpmdfgkgobaaGreatDoorMC
noncomputable section
set_option linter.unusedSimpArgs false
set_option linter.unusedVariables false
open Array renaming getElem?_eq_some_iff→a00,toArray_toList→a02
open Nat renaming lt_of_lt_of_le→a03
open Option renaming isNone_iff_eq_none→a01
namespace Go.Ab
section
variable {P:Program} {B:Base} {N:Nat} {cx:Cx} {H:Hints} {w w':World} {σ σ':Gh} {Γ Γ':AE} {tm tm':Nat→Value}
theorem GOk.anew{G:b6P}(hG:GOk G B)(h:Rel B Γ N tm w σ):GOk G (B.anew w σ):=by
 intro g t x hg;obtain⟨h1,h2,h3,w0,h4,h5⟩:=hG g t x hg;have hno:¬ a0L σ g:=fun ho=>by
  rcases h.mine _ ho with q|q;exact h3 q;omega
 exact⟨a03 h1 h.size,⟨.inl h2,hno⟩,hno,w0,h4.trans (h.frame g h1 h3).symm,h5⟩
theorem VOk.uniq{m:Mem}{Sh Sh':Nat→Prop}{t:Ty}{x y:t.den}{v:Value}(h:VOk m Sh t x v)(h':VOk m Sh' t y v):x=y:=by
 obtain⟨-,-,R,h1,-⟩:=h;obtain⟨-,-,R',h2,-⟩:=h';rw[h1]at h2;simp only[sj,pJ]at h2;exact h2.1
theorem VOk.run(h0:Rel B Γ N tm w σ)(h:Rel (B.anew w σ) Γ' N tm' w' σ')(hov:σ.ov=none)(hov':σ'.ov=none){t:Ty}{x:t.den}{v:Value}(hv:VOk (a0a w σ.ov) (Shr B w σ) t x v):
  VOk (a0a w' σ'.ov) (Shr B w' σ') t x v:=
 (VOk.kept h hov hov' hv).frame (fun _ _ _=>rfl) fun _ hc=>c6b h0 (f:=(B.anew w σ).pin) hc
theorem VOk.turned{ov:Option (Nat×Nat×Value)}(hcells:∀(c:Nat)(o:Obj),w.heap[c]?=some o→o.isCells=true→w'.heap[c]?=some o)(hsize:w.heap.size≤w'.heap.size){t:Ty}{x:t.den}{v:Value}
  (hv:VOk (a0a w ov) (Shr B w σ) t x v):VOk (a0a w' ov) (Shr B w' σ) t x v:=by
 obtain⟨h1,h2,R,h3,h4⟩:=hv;exact⟨h1,h2,R,a7Y (c4m hcells ov) t (fun _ _ hv=>hv) h3,fun c hc=>⟨a03 (h4 c hc).1 hsize,(h4 c hc).2⟩⟩
theorem b0j{W:World}{l:Nat}{o:Obj}(hl:W.heap[l]?=some o)(ho:o.isCells=false)(hB:B.size≤l)(o':Obj):Turns B W (W.putObj l o'):=by
 refine⟨fun c oc hc hcc=>?_,(grownBy_putObj' W l o').size,fun b hb=>World.putObj_heap_other (by omega),rfl⟩
 have:c≠l:=by
  rintro rfl
  rw[hl]at hc;cases hc;rw[ho]at hcc;cases hcc
 exact(World.putObj_heap_other this).trans hc
theorem b5y{W:World}(hB:B.size≤W.heap.size)(o:Obj):Turns B W (W.alloc o):=
 ⟨fun c oc hc _=>(RowKit.Below.heap_alloc W _ c (a00.1 hc).1).trans hc,by simp,fun b hb=>RowKit.Below.heap_alloc W _ b (by omega),rfl⟩
theorem d1h(h:Rel B Γ N tm w σ){l:Nat}{o:Obj}(hl:w.heap[l]?=some o)(ho:o.isCells=false):¬ a0L σ l:=by
 rintro⟨n,hn⟩
 obtain⟨p,hp,rfl⟩:=List.mem_map.1 hn;obtain⟨c,e,lo,hi,h1,-⟩:=h.live n p hp;rw[hl]at h1;cases h1;cases ho
theorem Rel.others(h0:Rel B Γ N tm w σ)(h:Rel (B.anew w σ) Γ' N tm' w' σ'){l:Nat}{o:Obj}(hl:w.heap[l]?=some o)(ho:o.isCells=false):w'.heap[l]?=some o:=
 (h.frame l (a00.1 hl).1 (d1h h0 hl ho)).trans hl
theorem c3n(Γ:AE)(i j:Nat)(v:AV):(Γ.set i v).get j=if j=i then v else Γ.get j:=by
 simp only[AE.get,a2b]
 by_cases e:j=i<;>simp[e]
theorem b3Q:∀(es:a0e)(x x':es.ty.den){i:Nat}{T:Ty}{y:T.den}(_:a0Z es=true)(_:(es.enc x).get i=.val T y),∃y':T.den,(es.enc x').get i=.val T y'
 | [],_,_,_,_,_,_,h=>by simp[a0e.enc,AE.nothing,AE.get]at h
 |.sv k t::r,x,x',i,T,y,hf,h=>by
  have h:((a0e.enc r x.2).set k (.val t x.1)).get i=.val T y:=h;show ∃y':T.den,((a0e.enc r x'.2).set k (.val t x'.1)).get i=.val T y';rw[c3n]at h⊢
  by_cases e:i=k
  rw[if_pos e]at h⊢;cases h;exact⟨x'.1,rfl⟩;rw[if_neg e]at h⊢;exact b3Q r x.2 x'.2 (by simpa[a0Z]using hf) h
 |.box n t::r,x,x',i,T,y,hf,h=>by
  simp only[a0Z,bA]at hf;exact b3Q r x.2 x'.2 hf.2 h
 |.ptr k n p::r,x,x',i,T,y,hf,h=>by
  cases p with
  |cons=>simp[a0Z]at hf
  |nil=>
   simp only[a0Z,bA]at hf;have h:((a0e.enc r x).set k (.ptr n [])).get i=.val T y:=h;show ∃y':T.den,((a0e.enc r x').set k (.ptr n [])).get i=.val T y';rw[c3n]at h⊢
   by_cases e:i=k
   rw[if_pos e]at h;cases h;rw[if_neg e]at h⊢;exact b3Q r x x' hf.2 h
 |.own k m e::r,x,x',i,T,y,hf,h=>by
  simp only[a0Z,bA]at hf;have h:(((a0e.enc r x.2).setRt m (some ⟨false,.list true e,x.1⟩)).set k (.sref m [])).get i=.val T y:=h;show ∃y':T.den,(((a0e.enc r x'.2).setRt m (some ⟨false,.list true e,x'.1⟩)).set k (.sref m [])).get i=.val T y';rw[c3n]at h⊢
  by_cases e:i=k
  rw[if_pos e]at h;cases h;rw[if_neg e]at h⊢;exact b3Q r x.2 x'.2 hf.2 h
 |.rfi _ _::_,_,_,_,_,_,h,_=>by simp[a0Z]at h
 |.vp _ _::_,_,_,_,_,_,h,_=>by simp[a0Z]at h
 |.ref _ _ _::_,_,_,_,_,_,h,_=>by simp[a0Z]at h
 |.win _ _ _::_,_,_,_,_,_,h,_=>by simp[a0Z]at h
 |.clo _ _ _::_,_,_,_,_,_,h,_=>by simp[a0Z]at h
def c1Y:Ex→Option Code
 |.normal=>none
 |.exit i=>some (.exit i)
 |.ret=>some .ret
def a3w(st:LoopState)(pe:Option Code)(fn:FuncId)(tmps:Array Value)(i1 i2:Nat)(assign body:Code)(D:Nat):Loop:=
 { state:=st,pending:=pe,fn,tmps,params:=#[i1,i2],assign,body,defers:=D }
structure Between (B:Base) (N:Nat) (a:Act) (s:a0e) (t:Nat) (te:Ty) (l0:te.den) (l D:Nat) (r:Loop) (x:s.ty.den) (W:World):Prop where
 rel:∃σ,Rel B (s.enc x) N (a0k a) W σ
 seq:(s.enc x).get t=.val te l0
 loop:W.heap[l]?=some (.loop r)
 dfr:W.heap[D]?=some (.deferred (some []))
theorem c4n(hcx:CxOk P cx)(hG:GOk cx.G B)(hm:P.follows .mixedOrders=true)(hH:H.fits N=true){s:a0e}{i1 i2 p:Nat}{assign body:Code}(hfa:a1S N assign=true)(hfb:a1S N body=true)
  (hs:s.fits N=true)(hfl:a0Z s=true)(hi1:i1<N)(hi2:i2<N){a:Act}(hN:a.tmps.size=N){fn:FuncId}{e te:Ty}{k:Int}{v:e.den}{ve:Value}{l0:te.den}{t l D:Nat}(ht:t<N){x:s.ty.den}{W:World}
  (hb:Between B N a s t te l0 l D (a3w .ready none fn a.tmps i1 i2 assign body D) x W)(hv:∀Sh,VOk (cells W) Sh te l0 (a0k a t)→VOk (cells W) Sh e v ve)(hlB:B.size≤l)(hDl:D≠l){y:s.ty.den ⊕ (Ex×s.ty.den)}
  (hy:rnd cx H p s i1 i2 assign body e k v x=some y):
  RoundIn (Fr none) 0 P l fn ((a.tmps.setIfInBounds i1 (.int .i64 k)).setIfInBounds i2 ve) assign body W fun en W'=>
   (∃x',y=.inl x'∧en=.returned (.bool true)∧Between B N a s t te l0 l D (a3w .ready none fn a.tmps i1 i2 assign body D) x' W')∨
   (∃ex c x',y=.inr (ex,x')∧c1Y ex=some c∧en=.returned (.bool false)∧Between B N a s t te l0 l D (a3w .done (some c) fn a.tmps i1 i2 assign body D) x' W'):=by
 obtain⟨⟨σ,h⟩,hseq,hl,hD⟩:=hb;have hov:=h.ov_none (a4A s x);have hsl:VOk (a0a W σ.ov) (Shr B W σ) te l0 (a0k a t):=by
  have:=a3c h ht
  rw[hseq]at this;exact this
 have hve:VOk (a0a W σ.ov) (Shr B W σ) e v ve:=by
  rw[hov]at hsl⊢;exact hv _ hsl
 let a1:Act:={ tmps:=(a.tmps.setIfInBounds i1 (.int .i64 k)).setIfInBounds i2 ve,defers:=[] }
 have h1:Rel B (((s.enc x).set i1 (.val (.int .i64) k)).set i2 (.val e v)) N (a0k a1) W σ:=by
  have g1:Rel B ((s.enc x).set i1 (.val (.int .i64) k)) N (a0k (a.put (some i1) (.int .i64 k))) W σ:=h.putd hN fun _=>a0i.mk_int (g:=σ.g) (rt:=(s.enc x).rt) _;have g2:Rel B (((s.enc x).set i1 (.val (.int .i64) k)).set i2 (.val e v)) N (a0k ((a.put (some i1) (.int .i64 k)).put (some i2) ve)) W σ:=g1.putd (by rw[b3E];exact hN) fun _=>hve;exact g2
 have hN1:a1.tmps.size=N:=by simp[a1,hN]
 have hptr:∀(Γ2:AE),(s.names.all fun n=>(Γ2.rt n).isSome)=true→∀i n,i<N→(s.enc x).sl i=.one (.ptr n [])∨(s.enc x).sl i=.one (.sref n [])→Γ2.rt n≠none:=by
  intro Γ2 hall i n hi hsl;have hm:n∈s.names:=by
   rcases hsl with hsl|hsl
   have:=h.slots i hi
   rw[hsl]at this;obtain⟨r,-,-,-,hr,-⟩:=this;exact b6c s x hfl n (by rw[hr];simp);exact(b1j s x hfl hsl).1
  have:=lA.1 hall n hm
  intro hc;rw[hc]at this;cases this
 have hown:∀i n,i<N→(s.enc x).sl i=.one (.sref n [])→∃u,σ.g n=.one u:=fun i n _ hsl=>by
  obtain⟨-,e,l,h2⟩:=b1j s x hfl hsl;rcases h.src_of h2 with⟨g,-⟩|⟨-,u,_,g,-⟩;cases g;exact⟨u,g⟩
 unfold rnd at hy;refine roundIn_of_wpIn trivial (wpIn_mono (a8W (ro:=some l) (D:=[]) hcx (hG.anew h1) hm hH assign _ hfa hy h1.anew hN1 rfl) ?_)
 rintro e2 a2 W2 ⟨ex,Γ2,σ2,rfl,hK,h2,hN2,hd2⟩
 cases ex with
 |exit i=>simp only[]at hK;cases hK
 |ret=>simp only[]at hK;cases hK
 |normal=>
  simp only[]at hK
  split at hK
  rotate_left;cases hK;rename_i hpd2;obtain⟨hall,hK⟩:=(a0g hK).elim id fun h=>by cases h.2
  have hov2:=h2.ov_none hpd2;obtain⟨k2,hown2⟩:Rel (B.anew W σ) { Γ2 with sl:=(s.enc x).sl } N (a0k a) W2 σ2∧_:=Rel.again h (fun i _=>b3w s x hfl i) (a4A s x) h2 hpd2 (hptr Γ2 hall) hown;have b2:=h1.back h2;have c2:=h.back k2;have v2:VOk (a0a W2 σ2.ov) (Shr B W2 σ2) te l0 (a0k a t):=VOk.run h h2 hov hov2 hsl;have hl2:=h1.others h2 hl rfl;have hD2:=h1.others h2 hD rfl;refine⟨_,run_beginRound hl2 rfl,?_⟩;have T3:Turns B W2 (W2.putObj l (.loop { a3w .ready none fn a.tmps i1 i2 assign body D with state:=.busy })):=b0j hl2 rfl hlB _
  revert T3
  have hl3:(W2.putObj l (.loop { a3w .ready none fn a.tmps i1 i2 assign body D with state:=.busy })).heap[l]?=some (.loop { a3w .ready none fn a.tmps i1 i2 assign body D with state:=.busy }):=World.putObj_heap_same (a00.1 hl2).1;have hD3:(W2.putObj l (.loop { a3w .ready none fn a.tmps i1 i2 assign body D with state:=.busy })).heap[D]?=some (.deferred (some [])):=(World.putObj_heap_other hDl).trans hD2
  revert hl3 hD3
  generalize W2.putObj l (.loop { a3w .ready none fn a.tmps i1 i2 assign body D with state:=.busy })=W3;intro hl3 hD3 T3;have b3:=b2.turned T3;have c3:=c2.turned T3;have v3:VOk (a0a W3 σ2.ov) (Shr B W3 σ2) te l0 (a0k a t):=VOk.turned T3.cells T3.size v2;refine wpIn_mono (a8W (ro:=some l) (D:=[]) hcx (hG.anew b3) hm hH body _ hfb hK b3.anew hN2 hd2) ?_
  rintro e4 a4 W4 ⟨ex,Γ4,σ4,rfl,hK4,h4,hN4,-⟩
  simp only[d1g]at hK4
  split at hK4
  rotate_left;cases hK4;rename_i hpd4;obtain⟨hall4,hK4⟩:=(a0g hK4).elim id fun h=>by cases h.2
  have hov4:=h4.ov_none hpd4;obtain⟨k4,-⟩:Rel (B.anew W3 σ2) { Γ4 with sl:=(s.enc x).sl } N (a0k a) W4 σ4∧_:=Rel.again (Γ:={ Γ2 with sl:=(s.enc x).sl }) c3 (fun i _=>b3w s x hfl i) hpd2 h4 hpd4 (hptr Γ4 hall4) hown2;have c4:=c3.back k4;have v4:VOk (a0a W4 σ4.ov) (Shr B W4 σ4) te l0 (a0k a t):=VOk.run b3 h4 hov2 hov4 v3;have hl4:=b3.others h4 hl3 rfl;have hD4:=b3.others h4 hD3 rfl;obtain⟨x',σ5,hK5,h5⟩:=c4.dcd hs hK4;have hov5:=h5.ov_none (a4A s x');have hseq':(s.enc x').get t=.val te l0:=by
   obtain⟨y',hy'⟩:=b3Q s x x' hfl hseq
   have:=a3c h5 ht
   rw[hy']at this;have this:VOk (a0a W4 σ5.ov) (Shr B W4 σ5) te y' (a0k a t):=this;rw[hov5]at this;rw[hov4]at v4;rw[hy',VOk.uniq this v4]
  have fin:∀(jump:Option Code)(r':Loop),r'={ { a3w .ready none fn a.tmps i1 i2 assign body D with state:=.busy }with state:=if jump.isNone then .ready else .done,pending:=jump }→
    (Instr.endRound l jump).run P W4=.ok (.bool jump.isNone) (W4.putObj l (.loop r'))∧Between B N a s t te l0 l D r' x' (W4.putObj l (.loop r')):=by
   rintro jump r' rfl
   refine⟨run_endRound jump hl4,⟨⟨σ5,h5.turned (b0j hl4 rfl hlB _)⟩,hseq',World.putObj_heap_same (a00.1 hl4).1,(World.putObj_heap_other hDl).trans hD4⟩⟩
  cases ex with
  |normal=>
   simp only[sj]at hK5;obtain⟨g1,g2⟩:=fin none _ rfl;exact⟨_,_,g1,.inl ⟨x',hK5.symm,rfl,g2⟩⟩
  |exit i=>
   simp only[sj]at hK5;obtain⟨g1,g2⟩:=fin (some (.exit i)) _ rfl;exact⟨_,_,g1,.inr ⟨_,_,x',hK5.symm,rfl,rfl,g2⟩⟩
  |ret=>
   simp only[sj]at hK5;obtain⟨g1,g2⟩:=fin (some .ret) _ rfl;exact⟨_,_,g1,.inr ⟨_,_,x',hK5.symm,rfl,rfl,g2⟩⟩
def c1Z(P:Program)(it:FuncId)(e:Ty):Prop:=
 (∀args w,(callFunc it args).run P w=.ok (.enter it args) w)∧
 ∀(l Bs:Nat)(sv:Value)(xs:List e.den)(J:Nat→World→Prop)(Jx:World→Prop)(W:World),xs.length<2147483648→
  (∀k W',J k W'→W'.cell? ⟨Bs,0,none⟩=some sv∧∃Sh,VOk (cells W') Sh (.list false e) xs sv)→
  (∀n (x:e.den) (v:Value) W',xs[n]?=some x→J (n+1) W'→(∀Sh,VOk (cells W') Sh (.list false e) xs sv→VOk (cells W') Sh e x v)→
   YieldAt (Fr none) 0 P l #[.int .i64 (n:Int),v] W' fun en W''=>(en=.returned (.bool true)∧J n W'')∨(en=.returned (.bool false)∧Jx W''))→
  J xs.length W→
  CallsIn (Fr none) 0 P it #[.func (.yield l) #[] #[],.pointer (some ⟨Bs,0,none⟩)] W fun en W'=>(∃v,en=.returned v)∧(J 0 W'∨Jx W')
def c6e(P:Program)(mk it:FuncId):Prop:=
 b0d P mk∧∀(A:Option Addr)(len cap:Nat)(w:World),Calls P mk #[.slice A len cap] w fun en w'=>en=.returned (.func (.func it) #[] #[.pointer (some ⟨w.heap.size,0,none⟩)])∧∃ty,w'=w.alloc (.cells #[.slice A len cap] ty)
def yOf{S:Type}:S ⊕ (Ex×S)→Ex×S
 |.inl x=>(.normal,x)
 |.inr q=>q
theorem c7D(hcx:CxOk P cx)(hG:GOk cx.G B)(hm:P.follows .mixedOrders=true)(hH:H.fits N=true){s:a0e}{i1 i2 p:Nat}{assign body:Code}(hfa:a1S N assign=true)(hfb:a1S N body=true)
  (hs:s.fits N=true)(hfl:a0Z s=true)(hi1:i1<N)(hi2:i2<N){a:Act}(hN:a.tmps.size=N){e:Ty}{l0:List e.den}{t g Bs it:Nat}(ht:t<N){x:s.ty.den}
  (h:Rel B (s.enc x) N (a0k a) w σ)(hseq:(s.enc x).get t=.val (.list false e) l0)(hg:a.eval (.tmp g)=.func (.func it) #[] #[.pointer (some ⟨Bs,0,none⟩)])(hit:c1Z P it e)(hlen:l0.length<2147483648)
  (hcell:w.cell? ⟨Bs,0,none⟩=some (a0k a t))(hBs:Bs<B.size)(hBF:¬ B.F Bs){y:s.ty.den ⊕ (Ex×s.ty.den)}(hy:a5t (rnd cx H p s i1 i2 assign body e) l0 l0.length x=some y)(hd:a.defers=[]):
  (Code.rangeFunc (.tmp g) #[i1,i2] assign body).wpIn (Fr none) 0 P (fun en a' w'=>∃D,en=b8C (yOf y).1∧a'.tmps.size=N∧a'.defers=[{ target:=.collected D,args:=#[] }]∧B.size≤D∧
   w'.heap[D]?=some (.deferred (some []))∧∃σ',Rel B (s.enc (yOf y).2) N (a0k a') w' σ') a w:=by
 refine wpIn_rangeFunc ?_
 intro fn _;obtain⟨D,hDe⟩:∃D,w.heap.size=D:=⟨_,rfl⟩;obtain⟨W1,hW1⟩:∃W1,(w.alloc (.deferred (some []))).alloc (.loop (a3w .ready none fn a.tmps i1 i2 assign body D))=W1:=⟨_,rfl⟩;have hsz:=h.size;have T1:Turns B w W1:=by
  rw[←hW1];have t1:=b5y (B:=B) hsz (.deferred (some []));have t2:=b5y (B:=B) (W:=w.alloc (.deferred (some []))) (by simp;omega) (.loop (a3w .ready none fn a.tmps i1 i2 assign body D));exact⟨fun c o hc ho=>t2.cells c o (t1.cells c o hc ho) ho,Nat.le_trans t1.size t2.size,fun b hb=>(t2.frame b hb).trans (t1.frame b hb),t2.io.trans t1.io⟩
 have hL1:W1.heap[D+1]?=some (.loop (a3w .ready none fn a.tmps i1 i2 assign body D)):=by
  rw[←hW1,←hDe]
  have:=World.alloc_heap_new (w.alloc (.deferred (some []))) (.loop (a3w .ready none fn a.tmps i1 i2 assign body w.heap.size))
  rwa [World.size_alloc]at this
 have hK1:W1.heap[D]?=some (.deferred (some [])):=by
  rw[←hW1,←hDe];exact(RowKit.Below.heap_alloc _ _ _ (by simp)).trans (World.alloc_heap_new w _)
 have hB1:Between B N a s t (.list false e) l0 (D+1) D (a3w .ready none fn a.tmps i1 i2 assign body D) x W1:=⟨⟨σ,h.turned T1⟩,hseq,hL1,hK1⟩;have hBsAll:∀{Γ' tm' W' σ'},Rel B Γ' N tm' W' σ'→W'.cell? ⟨Bs,0,none⟩=some (a0k a t):=fun {Γ' tm' W' σ'} h'=>by
  have e1:=h'.frame Bs hBs hBF;have e2:=h.frame Bs hBs hBF;rw[←hcell];unfold World.cell?;rw[e1,e2]
 refine⟨D+1,[{ target:=.collected D,args:=#[] }],W1,{ target:=.fn (.func it) #[.pointer (some ⟨Bs,0,none⟩)],args:=#[.func (.yield (D+1)) #[] #[]] },W1,it,
  #[.func (.yield (D+1)) #[] #[],.pointer (some ⟨Bs,0,none⟩)],W1,?_,?_,fun _ _=>trivial,?_,fun h=>(by cases h),?_⟩
 rw[←hW1,←hDe];exact run_enterLoop_outer _ _ _ _ _;simp only[resolve,hg];simp[go_sem]
 have:=hit.1 (#[.func (.yield (D+1)) #[] #[]]++#[.pointer (some ⟨Bs,0,none⟩)]) W1
 simpa[invoke,go_sem]using this
 ·refine(hit.2 (D+1) Bs (a0k a t) l0
   (fun n W=>∃x',a5t (rnd cx H p s i1 i2 assign body e) l0 n x'=some y∧Between B N a s t (.list false e) l0 (D+1) D (a3w .ready none fn a.tmps i1 i2 assign body D) x' W)
   (fun W=>∃ex c x',y=.inr (ex,x')∧c1Y ex=some c∧Between B N a s t (.list false e) l0 (D+1) D (a3w .done (some c) fn a.tmps i1 i2 assign body D) x' W)
   W1 hlen ?_ ?_ ⟨x,hy,hB1⟩).mono ?_
  rintro k W' ⟨x',-,hb⟩
  obtain⟨⟨σ',h'⟩,hseq',-,-⟩:=hb;refine⟨hBsAll h',?_⟩
  have:=a3c h' ht
  rw[hseq',h'.ov_none (a4A s x')]at this;exact⟨_,this⟩
  rintro n xe v W' hx ⟨x',hy',hb⟩ hv
  have hyield:(Instr.yield (D+1) #[.int .i64 (n:Int),v]).run P W'=.ok (.round (D+1) fn ((a.tmps.setIfInBounds i1 (.int .i64 (n:Int))).setIfInBounds i2 v) assign body) W':=by
   have:=run_yield (P:=P) (args:=#[.int .i64 (n:Int),v]) hb.loop rfl
   simpa[a3w]using this
  simp only[a5t,hx]at hy'
  split at hy'
  cases hy';rename_i s' hs';refine⟨_,_,_,_,hyield,(c4n hcx hG hm hH hfa hfb hs hfl hi1 hi2 hN ht hb hv (by omega) (by omega) hs').mono ?_⟩
  rintro en W'' (⟨x2,e1,rfl,hb2⟩|⟨ex,c,x2,e1,-⟩)
  simp only[Sum.inl.injEq]at e1;subst e1;exact .inl ⟨rfl,s',hy',hb2⟩;cases e1;rename_i r hr;simp only[sj]at hy';refine⟨_,_,_,_,hyield,(c4n hcx hG hm hH hfa hfb hs hfl hi1 hi2 hN ht hb hv (by omega) (by omega) hr).mono ?_⟩
  rintro en W'' (⟨x2,e1,-⟩|⟨ex,c,x2,e1,hc,rfl,hb2⟩)
  cases e1;simp only[Sum.inr.injEq]at e1;subst e1;exact .inr ⟨rfl,ex,c,x2,hy'.symm,hc,hb2⟩
  ·have hdone:∀{x' W2 st pe},Between B N a s t (.list false e) l0 (D+1) D (a3w st pe fn a.tmps i1 i2 assign body D) x' W2→∀r',(W2.putObj (D+1) (.loop r')).heap[D]?=some (.deferred (some []))∧∃σ',Rel B (s.enc x') N (a0k a) (W2.putObj (D+1) (.loop r')) σ':=by
    rintro x' W2 st pe ⟨⟨σ',h'⟩,-,hl,hD⟩ r'
    exact⟨(World.putObj_heap_other (by omega)).trans hD,σ',h'.turned (b0j hl rfl (by omega) _)⟩
   rintro en W2 ⟨⟨v,rfl⟩,⟨x',hy',hb⟩|⟨ex,c,x',rfl,hc,hb⟩⟩
   simp only[a5t,sj]at hy';subst hy';refine⟨none,_,run_endLoop (P:=P) hb.loop (by simp[a3w]),?_⟩;obtain⟨g1,g2⟩:=hdone hb { a3w .ready none fn a.tmps i1 i2 assign body D with state:=.exhausted };exact⟨D,rfl,hN,by rw[hd];rfl,by omega,g1,g2⟩
   ·refine⟨some c,_,run_endLoop (P:=P) hb.loop (by simp[a3w]),?_⟩;obtain⟨g1,g2⟩:=hdone hb { a3w .done (some c) fn a.tmps i1 i2 assign body D with state:=.exhausted };cases ex with
    |normal=>cases hc
    |exit i=>
     simp only[c1Y,sj]at hc;subst hc;exact wpIn_exit ⟨D,rfl,hN,by rw[hd];rfl,by omega,g1,g2⟩
    |ret=>
     simp only[c1Y,sj]at hc;subst hc;exact wpIn_ret ⟨D,rfl,hN,by rw[hd];rfl,by omega,g1,g2⟩
end
end Go.Ab
namespace Go.Ab
section
variable {P:Program} {B:Base} {N:Nat} {cx:Cx} {H:Hints} {r:HintR}
def c6f(B:Base)(ds:List Deferred)(w:World):Prop:=ds=[]∨∃D,ds=[{ target:=.collected D,args:=#[] }]∧B.size≤D∧w.heap[D]?=some (.deferred (some []))
def c9k{ρ:Type}(B:Base)(N:Nat)(K:Ex→AE→Rs ρ)(z:ρ):Exit→Act→World→Prop:=fun e a w=>
 ∃ex Γ σ,e=b8C ex∧K ex Γ=some z∧Rel B Γ N (a0k a) w σ∧a.tmps.size=N∧c6f B a.defers w
theorem b9W(hcx:CxOk P cx)(hG:GOk cx.G B)(hm:P.follows .mixedOrders=true)(hH:H.fits N=true){c:Code}{p:Nat}{ρ:Type}{Γ:AE}{K:Ex→AE→Rs ρ}{z:ρ}{a:Act}{w:World}{σ:Gh}(hf:a1S N c=true)
  (hz:a1x cx H c p Γ K=some z)(h:Rel B Γ N (a0k a) w σ)(hN:a.tmps.size=N)(hd:c6f B a.defers w):c.wpIn (Fr none) 0 P (c9k B N K z) a w:=by
 refine wpIn_mono (a8W (ro:=none) (D:=a.defers) hcx (hG.anew h) hm hH c p hf hz h.anew hN rfl) ?_
 rintro e a' w' ⟨ex,Γ',σ',rfl,hK,hr,hN',hD⟩
 refine⟨ex,Γ',σ',rfl,hK,h.back hr,hN',?_⟩;rcases hd with hd|⟨D,hd,hDs,hDc⟩;exact .inl (hD.trans hd);exact .inr ⟨D,hD.trans hd,hDs,h.others hr hDc rfl⟩
structure RangeOk (P:Program) (r:HintR):Prop where
 mkr:c6e P r.mkr r.it
 it:c1Z P r.it r.e
def c9l(N:Nat)(r:HintR)(q:RParts):Bool:=
 q.ops.toList.all (a7W N q.ops.toList)&&(a1S N q.assign&&(a1S N q.body&&(decide (q.i1<N)&&(decide (q.i2<N)&&(decide (q.g<N)&&(decide (r.t<N)&&(r.s.fits N&&r.t != q.g)))))))
theorem c9m{c1 c2:Code}{q:RParts}(h:b6d c1 c2=some q):∃id,c1=.region id q.ops false∧c2=.block q.b (.rangeFunc (.tmp q.g) #[q.i1,q.i2] q.assign q.body):=by
 unfold b6d at h
 split at h
 rename_i ps assign body
 split at h
 rename_i i1 i2 e;cases h;exact⟨_,rfl,by rw[show ps=#[i1,i2]from by rw[←a02 (xs:=ps),e]]⟩;cases h;cases h
theorem c9n{o:Oper}{g:Nat}(h:c3m o r g=true):∃c,o.op=.call c∧c.callee=.value (.func r.mkr)∧c.args=#[.tmp r.t]∧o.dst=some g∧o.guard=none:=by
 unfold c3m at h
 split at h
 rename_i c hc
 split at h
 rename_i f t h1 h2;simp only[bA,beq_iff_eq,a01]at h;obtain⟨⟨⟨rfl,rfl⟩,h3⟩,h4⟩:=h;exact⟨c,hc,h1,by rw[←a02 (xs:=c.args),h2],h3,h4⟩;cases h;cases h
theorem c6g(hcx:CxOk P cx)(hG:GOk cx.G B)(hm:P.follows .mixedOrders=true)(hH:H.fits N=true)(hr:RangeOk P r)(hpin:∀i b,1000≤i→B.pin i≠some b){c1 c2:Code}{q:RParts}(hq:b6d c1 c2=some q)(hf:c9l N r q=true)
  {p:Nat}{ρ:Type}{Γ:AE}{K:Ex→AE→Rs ρ}{z:ρ}{a:Act}{w:World}{σ:Gh}(hz:c6d cx H r q p Γ K=some z)(h:Rel B Γ N (a0k a) w σ)(hN:a.tmps.size=N)(hd:a.defers=[]):
  (Code.seq c1 c2).wpIn (Fr none) 0 P (c9k B N K z) a w:=by
 obtain⟨id,rfl,rfl⟩:=c9m hq;simp only[c9l,bA,dT]at hf;obtain⟨hops,hfa,hfb,hi1,hi2,hg,ht,hs,htg⟩:=hf;have htg:r.t≠q.g:=by simpa using htg
 unfold c6d at hz
 split at hz
 rotate_left;cases hz;rename_i mv cl hl;obtain⟨hmk,hz⟩:=(a0g hz).elim _root_.id fun h=>by cases h.2
 simp only[bA,a01]at hmk;obtain⟨hmk,hfl,hmg⟩:=hmk;obtain⟨c,ho,hce,hca,hdst,hgd⟩:=c9n hmk;refine wpIn_seq (wpIn_region_list ?_);have hops1:=b5s (lA.1 hops mv (by rw[hl];simp));rw[hl];simp only[wpListIn];rw[if_pos (by simp[Region.wanted,hmg])];refine b0f hcx hG h hN hops1 hz fun v w1 Γ1 σ1 h1 hz=>?_
 obtain⟨a1,ha1⟩:∃a1,a.put mv.dst v=a1:=⟨_,rfl⟩;have hN1:a1.tmps.size=N:=by rw[←ha1,b3E];exact hN
 have hd1:a1.defers=[]:=by rw[←ha1,b3c];exact hd
 rw[ha1]at h1⊢;rw[if_pos (by simp[Region.wanted,hgd])]
 split at hz
 cases hz;rename_i hpd1

 obtain⟨fv,hfv⟩:∃fv,Value.func (.func r.it) #[] #[.pointer (some ⟨w1.heap.size,0,none⟩)]=fv:=⟨_,rfl⟩;have hg1:Rel B (Γ1.set q.g .dead) N (a0k (a1.put (some q.g) fv)) w1 σ1:=h1.putd hN1 fun _=>trivial;have htm:a0k (a1.put (some q.g) fv) r.t=a0k a1 r.t:=by rw[b3D _ (by omega),if_neg htg]
 have core:∀{B':Base}{w2:World},(∀i b,1000≤i→B'.pin i≠some b)→Rel B' (Γ1.set q.g .dead) N (a0k (a1.put (some q.g) fv)) w2 σ1→∃(x:r.s.ty.den)(l0:List r.e.den)(y:r.s.ty.den ⊕ (Ex×r.s.ty.den)) (σ2:Gh),Rel B' (r.s.enc x) N (a0k (a1.put (some q.g) fv)) w2 σ2∧
   (r.s.enc x).get r.t=.val (.list false r.e) l0∧l0.length<2147483648∧a5t (rnd cx H (2*p+1) r.s q.i1 q.i2 q.assign q.body r.e) l0 l0.length x=some y∧
   (match y with
    |.inl x'=>K .normal (r.s.enc x')
    |.inr (.normal,x')=>K .normal (r.s.enc x')
    |.inr (.exit i,x')=>bif i==q.b then K .normal (r.s.enc x')else K (.exit i) (r.s.enc x')
    |.inr (.ret,x')=>K .ret (r.s.enc x'))=some z:=by
  intro B' w2 hp hr';obtain⟨Γ2,σ2,hz2,h2⟩:=Rel.renAll hp _ hr' hz;obtain⟨x,σ3,hz3,h3⟩:=h2.dcd hs hz2
  split at hz3
  rename_i t l hgt
  split at hz3
  rename_i he;subst he;obtain⟨hlim,hz3⟩:=(a0g hz3).elim _root_.id fun h=>by cases h.2
  obtain⟨y,hy1,hy2⟩:=Option.bind_eq_some_iff.1 hz3;exact⟨x,l,y,σ3,h3,hgt,of_decide_eq_true (show decide (List.length l<2147483648)=true from hlim),hy1,hy2⟩;cases hz3;cases hz3
 obtain⟨A,len,cap,hsv⟩:∃A len cap,a0k a1 r.t=.slice A len cap:=by
  obtain⟨x,l0,y,σ2,g1,g2,-⟩:=core hpin hg1
  have:=a3c g1 ht
  rw[g2,htm]at this;obtain⟨A,n,c,e,-⟩:=VOk.header this;exact⟨A,n,c,e⟩
 refine c5M (fun c' hc'=>by rw[ho]at hc';cases hc') ?_
 rw[c5N hr.mkr.1 ho hce,Oper.uponIn_enter];refine⟨fun h=>(by cases h),c5L ?_⟩;have hargs:c.args.map a1.eval=#[.slice A len cap]:=by
  rw[hca,←hsv];simp only[List.map_toArray,List.map_cons,List.map_nil];rfl
 rw[hargs];refine(hr.mkr.2 A len cap w1).mono ?_
 rintro en w2 ⟨rfl,ty,hw2⟩
 simp only[];rw[hfv,hdst];have T:Turns B w1 w2:=by rw[hw2];exact b5y h1.size _
 have hg2:=hg1.turned T;have hB1:Rel { B.anew w2 σ1 with pin:=B.pin } (Γ1.set q.g .dead) N (a0k (a1.put (some q.g) fv)) w2 σ1:=hg2.anew.unpin B.pin fun i b hb=>by simp only[Base.anew,hb]
 obtain⟨x,l0,y,σ2,g1,g2,gl,g3,g4⟩:=core (B':={ B.anew w2 σ1 with pin:=B.pin }) hpin hB1;have hcell:w2.cell? ⟨w1.heap.size,0,none⟩=some (a0k (a1.put (some q.g) fv) r.t):=by
  rw[htm,hsv,hw2]
  have:=World.alloc_heap_new w1 (.cells #[.slice A len cap] ty)
  unfold World.cell?;rw[this];rfl
 have hsz2:w1.heap.size<w2.heap.size:=by rw[hw2];simp
 refine wpIn_block (wpIn_mono (c7D (B:={ B.anew w2 σ1 with pin:=B.pin }) (a:=a1.put (some q.g) fv) (p:=2*p+1) (it:=r.it) (Bs:=w1.heap.size) hcx (hG.anew hg2) hm hH hfa hfb hs hfl hi1 hi2 (by rw[b3E];exact hN1) ht g1 g2 ?_ hr.it gl hcell hsz2
  (fun ho=>Nat.lt_irrefl _ (h1.lt ho)) g3 (by rw[b3c];exact hd1)) ?_)
 show a0k (a1.put (some q.g) fv) q.g=_;rw[b3D _ (by omega),if_pos rfl,←hfv]
 ·rintro en a3 w3 ⟨D,rfl,hN3,hd3,hDs,hDc,σ3,hr3⟩
  have hDs:w2.heap.size≤D:=hDs;have hb3:Rel B (r.s.enc (yOf y).2) N (a0k a3) w3 σ3:=hg2.backP (fun _ _ h=>h) hr3;have hmk3:c6f B a3.defers w3:=.inr ⟨D,hd3,Nat.le_trans hg2.size hDs,hDc⟩;cases y with
  |inl x'=>exact⟨.normal,_,σ3,rfl,g4,hb3,hN3,hmk3⟩
  |inr ex=>
   obtain⟨ex,x'⟩:=ex;cases ex with
   |normal=>exact⟨.normal,_,σ3,rfl,g4,hb3,hN3,hmk3⟩
   |ret=>exact⟨.ret,_,σ3,rfl,g4,hb3,hN3,hmk3⟩
   |exit i=>
    simp only[yOf,b8C,Exit.inBlock];rcases a0g g4 with⟨hi,g4⟩|⟨hi,g4⟩;rw[if_pos (by simpa using hi)];exact⟨.normal,_,σ3,rfl,g4,hb3,hN3,hmk3⟩;rw[if_neg (by simpa using hi)];exact⟨.exit i,_,σ3,rfl,g4,hb3,hN3,hmk3⟩
def a9R(N:Nat)(r:HintR):Code→Bool
 |.seq a b=>match b6d a b with
  |some q=>c9l N r q
  |none=>bif a8a a then a9R N r a&&a1S N b else a1S N a&&a9R N r b
 |c=>a1S N c
theorem c6h(hcx:CxOk P cx)(hG:GOk cx.G B)(hm:P.follows .mixedOrders=true)(hH:H.fits N=true)(hr:RangeOk P r)(hpin:∀i b,1000≤i→B.pin i≠some b):∀(c:Code) (p:Nat){ρ:Type}{Γ:AE}{K:Ex→AE→Rs ρ}{z:ρ}{a:Act}{w:World}{σ:Gh}(_:a9R N r c=true)
  (_:b6e cx H r c p Γ K=some z) (_:Rel B Γ N (a0k a) w σ) (_:a.tmps.size=N) (_:a.defers=[]),c.wpIn (Fr none) 0 P (c9k B N K z) a w:=by
 intro c
 induction c with
 |seq x y ihx ihy=>
  intro p ρ Γ K z a w σ hf hz h hN hD;simp only[a9R]at hf;simp only[b6e]at hz
  split at hz
  rename_i q hq;rw[hq]at hf;exact c6g hcx hG hm hH hr hpin hq hf hz h hN hD
  ·rename_i hq;rw[hq]at hf;simp only[]at hf;refine wpIn_seq ?_
   cases hx:a8a x with
   |true=>
    rw[hx]at hf hz;simp only[cT,bA]at hf hz;refine wpIn_mono (ihx _ hf.1 hz h hN hD) ?_
    rintro e a' w' ⟨ex,Γ',σ',rfl,hK,hr',hN',hD'⟩
    cases ex with
    |normal=>exact b9W hcx hG hm hH hf.2 hK hr' hN' hD'
    |exit i=>exact⟨.exit i,Γ',σ',rfl,hK,hr',hN',hD'⟩
    |ret=>exact⟨.ret,Γ',σ',rfl,hK,hr',hN',hD'⟩
   |false=>
    rw[hx]at hf hz;simp only[cF,bA]at hf hz;refine wpIn_mono (a8W (ro:=none) (D:=[]) hcx hG hm hH x _ hf.1 hz h hN hD) ?_
    rintro e a' w' ⟨ex,Γ',σ',rfl,hK,hr',hN',hD'⟩
    cases ex with
    |normal=>exact ihy _ hf.2 hK hr' hN' hD'
    |exit i=>exact⟨.exit i,Γ',σ',rfl,hK,hr',hN',.inl hD'⟩
    |ret=>exact⟨.ret,Γ',σ',rfl,hK,hr',hN',.inl hD'⟩
 |_=>
  intro p ρ Γ K z a w σ hf hz h hN hD;refine b9W hcx hG hm hH (p:=p) (Γ:=Γ) (σ:=σ) ?_ ?_ h hN (.inl hD);simpa only[a9R]using hf;simpa only[b6e]using hz
end
def d3e(fn:Func)(c:Code)(H:Hints)(r:HintR)(s:FSem):Bool:=
 a9R fn.ntmps r c&&(H.fits fn.ntmps&&(decide (s.ps.length≤fn.ntmps)&&(decide (s.ps.length≤1000)&&fn.results.toList.all fun r=>a9o fn.ntmps (.inl r))))
section
variable {P:Program} {cx:Cx}
theorem b3R:∀(ps:List PA)(i0 i:Nat),i∈a0w ps i0→i<i0+ps.length
 | [],_,_,h=>by simp[a0w]at h
 |.v _::ps,i0,i,h=>by
  have:=b3R ps (i0+1) i h
  simp only[lC];omega
 |.r _ _::ps,i0,i,h=>by
  simp only[lC];rcases mC.1 h with rfl|h;omega
  have:=b3R ps (i0+1) i h
  omega
theorem a3b.ofR(hcx:CxOk P cx)(hm:P.follows .mixedOrders=true){f:FuncId}{fn:Func}{c:Code}{H:Hints}{r:HintR}{s:FSem}(hro:RangeOk P r)(hfn:P.funcs[f]?=some fn)(hb:fn.body=some c)(hok:d3e fn c H r s=true)
  (heq:∀x,c5o cx H r fn s.ps s.rs x=s.F x):a3b P cx.G f s:=by
 simp only[d3e,bA,dT]at hok;obtain⟨hfit,hH,hps,hps1000,hres⟩:=hok;intro w B0 σ args x y hG hy hB hhp hov hargs hrel0 hpins0;obtain⟨B,hBe⟩:∃B:Base,{ B0 with pin:=fun i=>bif decide (i<1000)then B0.pin i else none }=B:=⟨_,rfl⟩;have hrel:Rel B (ini s.ps x) s.ps.length (fun i=>args.getD i undef) w σ:=by
  rw[←hBe];refine hrel0.unpin _ fun i b hb=>?_
  cases hd:decide (i<1000)<;>rw[hd]at hb;cases hb;exact hb
 have hpin:∀i b,1000≤i→B.pin i≠some b:=by
  rw[←hBe];intro i b hi hc
  have:decide (i<1000)=false:=by simp;omega
  simp only[this,cF]at hc;cases hc
 have hpins:c5k B s.ps args:=by
  intro i hi hk;obtain⟨b,h1,h2⟩:=hpins0 i hi hk;refine⟨b,?_,h2⟩;have hlt:i<s.ps.length:=by have:=b3R s.ps 0 i hi;omega
  have:decide (i<1000)=true:=by simp;omega
  rw[←hBe];simp only[this,cT,h1]
 have hG:GOk cx.G B:=by rw[←hBe];exact hG
 have hback:∀{w' its vs Ls},Back B w' its vs Ls→Back B0 w' its vs Ls:=fun {w' its vs Ls} h=>by
  rw[←hBe]at h;exact⟨h.lv,h.ll,h.ok,h.nodup,h.disj,h.live,h.mine,h.size,h.frame,h.still⟩
 rw[←heq x]at hy;simp only[c5o,hb]at hy
 let a:Act:={ tmps:=args++Array.replicate (fn.ntmps-args.size) undef,defers:=[] }
 have hsz:a.tmps.size=fn.ntmps:=by simp[a];omega
 have hrel':Rel B (ini s.ps x) fn.ntmps (a0k a) w σ:=by
  refine⟨hrel.roots,hrel.norm,hrel.nodup,hrel.disj,hrel.live,fun i hi=>?_,hrel.pend,hrel.size,hrel.frame,hrel.mine,hrel.pins,hrel.still⟩
  by_cases hlt:i<s.ps.length
  have:=hrel.slots i hlt
  have e:a0k a i=args.getD i undef:=by
   simp only[a0k,a,Array.getD_eq_getD_getElem?,Array.getElem?_append];rw[if_pos (by omega)]
  rw[e];exact this
  have:(ini s.ps x).sl i=.one .dead:=by
   simp only[ini];rw[List.getElem?_eq_none (by rw[a5g];omega)]
  rw[this];trivial
 refine callsIn_wide.1 (callsIn_of_wp_marks (F:=Fr none) (n:=0) hfn hb trivial (wpIn_mono (c6h hcx hG hm hH hro hpin c 1 hfit hy hrel' hsz rfl) ?_))
 rintro e a' w' ⟨ex,Γ',σ',rfl,hK,hr,hN,hD⟩
 simp only[]at hK;have key:(∀i,ex≠.exit i)∧Γ'.pd=none∧(Γ'.upto fn.ntmps).outs cx [] fn.ntmps (RA.all s.ps s.rs) (fn.results.toList.map .inl++(a0w s.ps 0).map fun i=>.inr (a9Y s.ps i)) (fun y _=>some y)=some y:=by
  cases hpd:Γ'.pd with
  |some p=>rw[hpd]at hK;cases ex<;>simp only[]at hK<;>cases hK
  |none=>
   rw[hpd]at hK;cases ex with
   |exit i=>simp only[]at hK;cases hK
   |normal=>exact⟨by simp,rfl,hK⟩
   |ret=>exact⟨by simp,rfl,hK⟩
 obtain⟨hex,hpd,hK⟩:=key;have hleave:LeavesInM (Fr none) 0 P fn a'.tmps (fun e w'=>∃vr Ls,e=.returned (b4H vr)∧vr.length=s.rs.length∧Back B0 w' (a1F (RA.all s.ps s.rs) y) (vr++(a0w s.ps 0).map (a3m s.ps args)) Ls) a'.defers .returning w':=by
  rcases hD with hD|⟨D,hD,hDs,hDc⟩;rw[hD];obtain⟨v,hrun,vr,Ls,h1,h2,h3⟩:=b5x (args:=args) hcx.toCxTy hres hr hpd hK hpins;exact⟨v,hrun,vr,Ls,h1,h2,hback h3⟩;rw[hD];have hr':=hr.turned (b0j hDc rfl hDs (.deferred none));obtain⟨v,hrun,vr,Ls,h1,h2,h3⟩:=b5x (args:=args) hcx.toCxTy hres hr' hpd hK hpins;exact⟨by simp,.inl ⟨D,_,rfl,run_takeDeferred hDc,v,hrun,vr,Ls,h1,h2,hback h3⟩⟩
 cases ex with
 |exit i=>exact absurd rfl (hex i)
 |normal=>exact hleave
 |ret=>exact hleave
end
end Go.Ab
