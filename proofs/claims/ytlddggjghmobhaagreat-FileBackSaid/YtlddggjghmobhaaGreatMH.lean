/- Part of the proof: S. Conditions: as each statement tells. -/
import Derived.KernelRfl
import Derived.Test.YtlddggjghmobhaaGreatMG
noncomputable section
set_option linter.unusedSimpArgs false
set_option linter.unusedVariables false
namespace Go.Ab
open Go.Proofs
set_option maxRecDepth 100000
theorem mixed:Tryz.prog.follows .mixedOrders=true:=by kernel_rfl
theorem a8y:E0g Tryz.prog a5o=true:=by kernel_rfl
theorem a8z:E0e Tryz.prog a4Z=true:=by kernel_rfl
theorem a8A:E0b Tryz.prog a5o a5D=true:=by kernel_rfl
theorem laidOut:laidOutB Tryz.prog=true:=by kernel_rfl
theorem a8B:B0g Tryz.prog b1h=true:=by kernel_rfl
@[reducible] def Ok0(n:Nat)(s:FSem):Prop:=h0p Tryz.prog G0 n s∧n0b Tryz.prog n
theorem cxo{a:List (Nat×FSem)}{b:List (Nat×Ty)}{c d:Nat}(h:∀p∈a,FOk Tryz.prog G0 p.1 p.2):CxOk Tryz.prog (b1Q a b c d):=
 CxOk.of (CxTy.of (tab:=a5o) (l:=a5D) (q:=a4Z) (fun _=>rfl) (fun _=>rfl) (fun _=>rfl) a8y a8z a8A (t0i.of a8B)) (fun _=>rfl) h
theorem b1{n:Nat}{s:FSem}{l:List (Nat×FSem)}(h:Ok0 n s)(g:∀p∈l,FOk Tryz.prog G0 p.1 p.2):∀p∈(n,s)::l,FOk Tryz.prog G0 p.1 p.2:=a1 (a:=(n,s)) h g
theorem fo {a : List (Nat × FSem)} (b : List (Nat × Ty)) (c d : Nat) (H : Hints) {n : Nat} {fn : Func} {e : Code} {s : FSem} (h : ∀ p ∈ a, FOk Tryz.prog G0 p.1 p.2) (hf : Tryz.prog.funcs[n]? = some fn) (hb : fn.body = some e :=by rfl) (hk : x0s fn e H s = true :=by kernel_rfl) (hn : (fn.name == "runtime.NumGoroutine") = false :=by kernel_rfl) (hq : ∀ x, D0m (b1Q a b c d) H fn s.ps s.rs x = s.F x :=by intro x; kernel_rfl) : Ok0 n s :=
 ⟨h0p.of (cxo h) mixed hf hb hk hq,⟨_,_,hf,hb,hn⟩⟩
theorem b4f:Ok0 11 a5E:=
 fo [] 71 0 H11 a0 Tryz.func11
theorem a7D:Ok0 36 a5m:=
 fo [] 19 0 H36 (b1 b4f<|a0) Tryz.func36
theorem b3B:Ok0 125 a5t:=
 fo [] 19 0 QH a0 Tryz.func125
theorem b3C:Ok0 112 a5a:=
 fo [] 243 0 b3T (b1 a7D<|b1 b3B<|a0) Tryz.func112
theorem b4g:Ok0 85 a4M:=
 fo [] 967 0 H85 (b1 a7D<|b1 b3C<|a0) Tryz.func85
theorem b4h:Ok0 35 a4N:=
 fo [] 115 0 H35 (b1 a7D<|b1 b4g<|a0) Tryz.func35
theorem b4i:Ok0 37 a5n:=
 fo [] 1 0 QH (b1 a7D<|a0) Tryz.func37
theorem b4j:Ok0 38 a4R:=
 fo [] 1 0 QH (b1 a7D<|a0) Tryz.func38
theorem fs8:Ok0 8 a9j:=
 fo [] 499 0 H8 (b1 b4h<|b1 a7D<|b1 b4i<|b1 b4j<|a0) Tryz.func8
theorem fs9:Ok0 9 a6A:=
 fo [] 5 0 QH a0 Tryz.func9
theorem b2Y:Ok0 93 a7Y:=
 fo [] 5 0 QH a0 Tryz.func93
theorem b3D:Ok0 101 a7Z:=
 fo [] 51 0 b3U (b1 b2Y<|a0) Tryz.func101
theorem b3E:Ok0 102 a4w:=⟨b1L _,⟨_,_,Tryz.func102,rfl,by kernel_rfl⟩⟩
theorem a8C:Ok0 72 a9k:=
 fo [] 51 0 QH (b1 b3D<|b1 b3E<|a0) Tryz.func72
theorem b2Z:Ok0 94 a9l:=
 fo [] 19 0 QH a0 Tryz.func94
theorem b3a:Ok0 57 a9Z:=
 fo [] 29 2 H57 (b1 a8C<|b1 b2Z<|a0) Tryz.func57
theorem b0G:Ok0 64 a8a:=
 fo [] 5 0 QH a0 Tryz.func64
theorem b4k:Ok0 58 a8b:=
 fo [] 1 0 QH (b1 b0G<|a0) Tryz.func58
theorem b4l:Ok0 61 a8c:=
 fo [] 45 0 H61 a0 Tryz.func61
theorem b4m:Ok0 96 a6a:=
 fo [] 5 0 QH a0 Tryz.func96
theorem b4n:Ok0 62 a5F:=
 fo [] 115 0 QH (b1 b4m<|a0) Tryz.func62
theorem b4o:Ok0 97 a6P:=
 fo [] 5 0 QH a0 Tryz.func97
theorem b4p:Ok0 63 a6b:=
 fo [] 115 0 QH (b1 b4o<|a0) Tryz.func63
theorem b3b:Ok0 60 a5V:=
 fo [] 19 12 H60 (b1 b4l<|b1 b4n<|b1 b4p<|a0) Tryz.func60
theorem b3F:Ok0 122 a3a:=
 fo [] 783 0 b3V (b1 b3b<|a0) Tryz.func122
theorem b3G:Ok0 139 a3z:=
 fo [] 1055 0 b3W a0 Tryz.func139
theorem b3H:Ok0 128 a2g:=
 fo [] 3103 0 b3X (b1 b3G<|a0) Tryz.func128
theorem b2x:∀fu,h0p Tryz.prog G0 123 (a0Z fu)∧n0b Tryz.prog 123
 |0=>⟨(fun _ _ _ _ _ y _ h=>by cases (show(none:Option _)=some y from h)),⟨_,_,Tryz.func123,rfl,by kernel_rfl⟩⟩
 |fu+1=>⟨h0p.of (CxOk.of (CxTy.of (cx:=b2u fu) (tab:=a5o) (l:=a5D) (q:=a4Z) (fun _=>rfl) (fun _=>rfl) (fun _=>rfl) a8y a8z a8A (t0i.of a8B)) (fun _=>rfl) (a1 b3b (a1 (b2x fu) (a1 b3H a0)))) mixed Tryz.func123 rfl (by kernel_rfl) (b3z fu),⟨_,_,Tryz.func123,rfl,by kernel_rfl⟩⟩
theorem b4q:Ok0 95 a3R:=
 fo [] 967 0 H95 (b1 b3F<|b1 (b2x 64)<|a0) Tryz.func95
theorem b4r:Ok0 59 a2p:=
 fo [] 3 0 QH (b1 b4q<|a0) Tryz.func59
theorem b4s:Ok0 17 a9m:=
 fo [] 14141 0 H17 (b1 b3a<|b1 b4k<|b1 b4r<|a0) Tryz.func17
theorem b4t:Ok0 18 a8l:=
 fo [] 126707 0 H18 (b1 b3a<|b1 b0G<|a0) Tryz.func18
theorem a7E:Ok0 54 a6Q:=
 fo [] 109 0 H54 a0 Tryz.func54
theorem b2y:Ok0 100 a7c:=
 fo [] 5 0 QH a0 Tryz.func100
theorem b0H:Ok0 68 a8m:=
 fo [] 61 2 H68 (b1 a7E<|b1 a8C<|b1 b2Z<|b1 b2y<|a0) Tryz.func68
theorem b1S:Ok0 65 a3u:=
 fo [] 29 2 QH (b1 b0H<|a0) Tryz.func65
theorem b3c:Ok0 66 a4a:=
 fo [] 1 0 QH a0 Tryz.func66
theorem b3d:Ok0 98 a8n:=
 fo [] 13 2 H98 a0 Tryz.func98
theorem b3e:Ok0 99 a8o:=
 fo [] 115 0 H99 a0 Tryz.func99
theorem b4u:Ok0 67 a8p:=
 fo [] 313 0 H67 (b1 b3d<|b1 b3e<|a0) Tryz.func67
theorem b4v:Ok0 19 a8q:=
 fo [] 477 0 H19 (b1 b1S<|b1 b3c<|b1 b4u<|a0) Tryz.func19
theorem b4w:Ok0 20 a8r:=
 fo [] 413 0 H20 (b1 b0H<|a0) Tryz.func20
theorem b4x:Ok0 86 b0A:=
 fo [] 5 2 QH a0 Tryz.func86
theorem b3I:Ok0 113 a8d:=
 fo [] 5 0 QH a0 Tryz.func113
theorem b4y:Ok0 87 a8e:=
 fo [] 5 2 QH (b1 b3I<|a0) Tryz.func87
theorem b4z:Ok0 88 a8f:=
 fo [] 19 0 QH a0 Tryz.func88
theorem b3f:Ok0 39 b0B:=
 fo [] 17179869701 2 QH (b1 b4x<|b1 b4y<|b1 b4z<|a0) Tryz.func39
theorem b3g:Ok0 69 a6R:=
 fo [] 19 0 QH a0 Tryz.func69
theorem b3h:Ok0 70 a9n:=
 fo [] 45 0 H70 a0 Tryz.func70
theorem b4A:Ok0 71 a9o:=
 fo [] 5 0 QH a0 Tryz.func71
theorem b4B:Ok0 21 a8g:=
 fo [] 2509 0 H21 (b1 a7E<|b1 b3g<|b1 b3h<|b1 b4A<|b1 a8C<|a0) Tryz.func21
theorem a8D:Ok0 48 a9p:=
 fo [] 5 0 QH a0 Tryz.func48
theorem b1T:Ok0 53 a5W:=
 fo [] 5 0 H53 a0 Tryz.func53
theorem b3i:Ok0 49 a5X:=
 fo [] 51 0 H49 (b1 b1T<|a0) Tryz.func49
theorem a8E:Ok0 56 a6c:=
 fo [] 179 0 H56 (b1 b3i<|b1 b2Y<|a0) Tryz.func56
theorem b3j:Ok0 73 a9q:=
 fo [] 505 0 H73 (b1 a8D<|b1 a8E<|b1 b0G<|a0) Tryz.func73
theorem b4C:Ok0 22 b0C:=
 fo [] 717 0 H22 (b1 b0H<|b1 b3j<|a0) Tryz.func22
theorem b4D:Ok0 40 a8h:=
 fo [] 381 0 H40 (b1 b4B<|b1 b4C<|b1 a8C<|a0) Tryz.func40
theorem b4E:Ok0 41 a8i:=
 fo [] 13 0 H41 (b1 a7E<|b1 b3h<|b1 a8C<|a0) Tryz.func41
theorem b3k:Ok0 10 a8s:=
 fo [] 7987 0 H10 (b1 b4s<|b1 b4t<|b1 b4v<|b1 b4w<|b1 b3f<|b1 b4D<|b1 b4E<|a0) Tryz.func10
theorem b4F:Ok0 92 a7z:=
 fo [] 253 0 H92 a0 Tryz.func92
theorem b1U:Ok0 50 a6d:=
 fo [] 243 0 H50 (b1 b4F<|a0) Tryz.func50
theorem b4G:Ok0 51 a9r:=
 fo [] 1 0 QH (b1 b1U<|a0) Tryz.func51
theorem b3l:Ok0 52 a6e:=
 fo [] 5 0 QH a0 Tryz.func52
theorem b4H:Ok0 55 a6B:=
 fo [] 5 0 QH a0 Tryz.func55
theorem b0I:Ok0 16 a9s:=
 fo [] 2557 0 H16 (b1 b3f<|b1 a8D<|b1 b3i<|b1 b1U<|b1 b4G<|b1 b3l<|b1 b1T<|b1 a7E<|b1 b4H<|b1 a8E<|a0) Tryz.func16
theorem b3J:Ok0 114 a9t:=
 fo [] 8163 0 b3Z (b1 a8D<|b1 a7E<|b1 a8E<|b1 b0G<|b1 b2y<|a0) Tryz.func114
theorem b4I:Ok0 89 a9u:=
 fo [] 893 0 H89 (b1 b3J<|a0) Tryz.func89
theorem b3K:Ok0 115 a3L:=
 fo [] 5 2 QH a0 Tryz.func115
theorem b3L(h:Int)(mL):h0p Tryz.prog { G0 with m:=some ⟨b2v,h,mL⟩ } 116 (a2n h mL)∧n0b Tryz.prog 116:=
 ⟨h0p.of (CxOk.of (CxTy.of (cx:=b2w h mL) (tab:=a5o) (l:=a5D) (q:=a4Z) (fun _=>rfl) (fun _=>rfl) (fun _=>rfl) a8y a8z a8A (t0i.of a8B)) (fun _=>rfl) a0) mixed Tryz.func116 rfl (by kernel_rfl) (b3A h mL),⟨_,_,Tryz.func116,rfl,by kernel_rfl⟩⟩
theorem b3M:Ok0 117 a3w:=
 fo [] 42887 8 b4b (b1 b1S<|b1 b3d<|b1 b3e<|a0) Tryz.func117
theorem b3N:Ok0 118 a1n:=⟨b1g _,⟨_,_,Tryz.func118,rfl,by kernel_rfl⟩⟩
theorem b3O:Ok0 120 a4m:=
 fo [] 115 0 b4c a0 Tryz.func120
theorem b1k:∀q∈([(65,a3u),(66,a4a),(115,a3L),(117,a3w),(118,a1n),(120,a4m)]:List (Nat×FSem)),FOk Tryz.prog G0 q.1 q.2:=(a1 b1S (a1 b3c (a1 b3K (a1 b3M (a1 b3N (a1 b3O a0))))))
theorem b3m:∀μ,CxOk Tryz.prog (b0D μ)
 |none=>CxOk.of (CxTy.of (cx:=b0D none) (tab:=a5o) (l:=a5D) (q:=a4Z) (fun _=>rfl) (fun _=>rfl) (fun _=>rfl) a8y a8z a8A (t0i.of a8B)) (fun _=>rfl) b1k
 |some p=>CxOk.of (CxTy.of (cx:=b0D (some p)) (tab:=a5o) (l:=a5D) (q:=a4Z) (fun _=>rfl) (fun _=>rfl) (fun _=>rfl) a8y a8z a8A (t0i.of a8B)) (fun _=>rfl) (D0l (a:=(116,a2n p.1 p.2)) (.inl (b3L p.1 p.2)) (fun q h=>FOk.withM (G:=G0) rfl (b1k q h) _))
theorem b4J:Ok0 90 a9v:=
 ⟨h0p.ofM b3m (fun _=>rfl) mixed Tryz.func90 rfl (by kernel_rfl) (fun x y h=>(b4e x).trans (E0l (b2D x y h))),⟨_,_,Tryz.func90,rfl,by kernel_rfl⟩⟩
theorem b1V:Ok0 42 a7A:=
 fo [] 61 0 QH (b1 b4I<|b1 b4J<|a0) Tryz.func42
theorem b4K:Ok0 28 b0E:=
 fo [(5,.pair QI Q8),(6,.pair QI Q8)] 5 0 QH a0 Tryz.func28
theorem b4L:Ok0 82 a5Y:=
 fo [] 1 0 QH a0 Tryz.func82
theorem b4M:Ok0 29 a6C:=
 fo [] 1523 2596306885592442342940435252510728 H29 (b1 b0H<|b1 b3j<|b1 b4L<|a0) Tryz.func29
theorem b1W:Ok0 43 a8j:=
 fo [] 1651 0 H43 (b1 b4K<|b1 b4M<|a0) Tryz.func43
theorem b4N:Ok0 12 a9w:=
 fo [] 1021 0 QH (b1 b0I<|b1 b1V<|b1 b1W<|a0) Tryz.func12
theorem b3P:Ok0 121 a9x:=
 fo [] 13 0 QH a0 Tryz.func121
theorem b4O:Ok0 91 a8t:=
 fo [] 8189 0 H91 (b1 a8D<|b1 b1U<|b1 b3l<|b1 b1T<|b1 a7E<|b1 a8E<|b1 b3g<|b1 b3P<|a0) Tryz.func91
theorem b4P:Ok0 44 a8u:=
 fo [] 1917 0 H44 (b1 a8D<|b1 a8E<|b1 b4O<|a0) Tryz.func44
theorem b4Q:Ok0 45 a8v:=
 fo [] 647 0 H45 a0 Tryz.func45
theorem b4R:Ok0 13 a9y:=
 fo [] 61383 0 H13 (b1 b0I<|b1 b1V<|b1 b1W<|b1 b4P<|b1 b4Q<|a0) Tryz.func13
theorem b4S:Ok0 47 a6S:=
 fo [] 19 12 QH a0 Tryz.func47
theorem b3n:Ok0 15 a6D:=
 fo [] 51 0 H15 (b1 b4S<|a0) Tryz.func15
theorem b4T:Ok0 46 b0F:=
 fo [] 0 0 QH a0 Tryz.func46
theorem b4U:Ok0 14 a9z:=
 fo [] 65471 223338299392 H14 (b1 b3k<|b1 b4N<|b1 b4R<|b1 b3n<|b1 b0I<|b1 b4T<|a0) Tryz.func14
theorem b4V:Ok0 31 a9A:=
 fo [(32,.list true (.list true Q16))] 4093 0 H31 (b1 b0I<|b1 b1V<|b1 b1W<|a0) Tryz.func31
theorem b4W:Ok0 32 a7h:=
 fo [] 51 0 H32 a0 Tryz.func32
theorem b4X:Ok0 33 a7B:=
 fo [] 51 0 H33 (b1 b3n<|a0) Tryz.func33
theorem fs6:Ok0 6 a4z:=
 fo [] 8189 0 QH (b1 fs8<|b1 fs9<|b1 b3k<|b1 b4U<|b1 b4V<|b1 b4W<|b1 b4X<|a0) Tryz.func6
end Go.Ab
