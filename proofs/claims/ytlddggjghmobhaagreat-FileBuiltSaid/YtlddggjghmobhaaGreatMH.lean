/- Part of the proof: S. Conditions: as each statement tells. -/
import Derived.KernelRfl
import Derived.Test.YtlddggjghmobhaaGreatMG
noncomputable section
set_option linter.unusedSimpArgs false
set_option linter.unusedVariables false
namespace Go.Ab
open Go.Proofs
set_option maxRecDepth 100000
theorem mixed:Tryz.prog.follows .mixedOrders=true:=by kernel_rfl
theorem a7M:E0d Tryz.prog a4L=true:=by kernel_rfl
theorem a7N:E0b Tryz.prog a4y=true:=by kernel_rfl
theorem a7O:D0y Tryz.prog a4L a5b=true:=by kernel_rfl
theorem laidOut:laidOutB Tryz.prog=true:=by kernel_rfl
theorem a7P:B0f Tryz.prog a9t=true:=by kernel_rfl
@[reducible] def Ok0(n:Nat)(s:FSem):Prop:=h0p Tryz.prog G0 n s∧n0a Tryz.prog n
theorem cxo{a:List (Nat×FSem)}{b:List (Nat×Ty)}{c d:Nat}(h:∀p∈a,FOk Tryz.prog G0 p.1 p.2):CxOk Tryz.prog (a9Z a b c d):=
 CxOk.of (CxTy.of (tab:=a4L) (l:=a5b) (q:=a4y) (fun _=>rfl) (fun _=>rfl) (fun _=>rfl) a7M a7N a7O (t0e.of a7P)) (fun _=>rfl) h
theorem b1{n:Nat}{s:FSem}{l:List (Nat×FSem)}(h:Ok0 n s)(g:∀p∈l,FOk Tryz.prog G0 p.1 p.2):∀p∈(n,s)::l,FOk Tryz.prog G0 p.1 p.2:=a1 (a:=(n,s)) h g
theorem fo {a : List (Nat × FSem)} (b : List (Nat × Ty)) (c d : Nat) (H : Hints) {n : Nat} {fn : Func} {e : Code} {s : FSem} (h : ∀ p ∈ a, FOk Tryz.prog G0 p.1 p.2) (hf : Tryz.prog.funcs[n]? = some fn) (hb : fn.body = some e :=by rfl) (hk : x0o fn e H s = true :=by kernel_rfl) (hn : (fn.name == "runtime.NumGoroutine") = false :=by kernel_rfl) (hq : ∀ x, D0j (a9Z a b c d) H fn s.ps s.rs x = s.F x :=by intro x; kernel_rfl) : Ok0 n s :=
 ⟨h0p.of (cxo h) mixed hf hb hk hq,⟨_,_,hf,hb,hn⟩⟩
theorem b2J:Ok0 11 a5c:=
 fo [] 71 0 H11 a0 Tryz.func11
theorem a6V:Ok0 36 a4J:=
 fo [] 19 0 H36 (b1 b2J<|a0) Tryz.func36
theorem b2e:Ok0 125 a4R:=
 fo [] 19 0 QH a0 Tryz.func125
theorem b2f:Ok0 112 a4z:=
 fo [] 243 0 b2x (b1 a6V<|b1 b2e<|a0) Tryz.func112
theorem b2K:Ok0 85 a4k:=
 fo [] 967 0 H85 (b1 a6V<|b1 b2f<|a0) Tryz.func85
theorem b2L:Ok0 35 a4l:=
 fo [] 115 0 H35 (b1 a6V<|b1 b2K<|a0) Tryz.func35
theorem b2M:Ok0 37 a4K:=
 fo [] 1 0 QH (b1 a6V<|a0) Tryz.func37
theorem b2N:Ok0 38 a4r:=
 fo [] 1 0 QH (b1 a6V<|a0) Tryz.func38
theorem fs8:Ok0 8 a8q:=
 fo [] 499 0 H8 (b1 b2L<|b1 a6V<|b1 b2M<|b1 b2N<|a0) Tryz.func8
theorem fs9:Ok0 9 a5U:=
 fo [] 5 0 QH a0 Tryz.func9
theorem b1w:Ok0 93 a7l:=
 fo [] 5 0 QH a0 Tryz.func93
theorem b2g:Ok0 101 a7m:=
 fo [] 51 0 b2y (b1 b1w<|a0) Tryz.func101
theorem b2h:Ok0 102 a4a:=⟨a9U _,⟨_,_,Tryz.func102,rfl,by kernel_rfl⟩⟩
theorem a7Q:Ok0 72 a8r:=
 fo [] 51 0 QH (b1 b2g<|b1 b2h<|a0) Tryz.func72
theorem b1x:Ok0 94 a8s:=
 fo [] 19 0 QH a0 Tryz.func94
theorem b1y:Ok0 57 a8X:=
 fo [] 29 2 H57 (b1 a7Q<|b1 b1x<|a0) Tryz.func57
theorem a9e:Ok0 64 a7n:=
 fo [] 5 0 QH a0 Tryz.func64
theorem b2O:Ok0 58 a7o:=
 fo [] 1 0 QH (b1 a9e<|a0) Tryz.func58
theorem b2P:Ok0 61 a7p:=
 fo [] 45 0 H61 a0 Tryz.func61
theorem b2Q:Ok0 96 a5w:=
 fo [] 5 0 QH a0 Tryz.func96
theorem b2R:Ok0 62 a5d:=
 fo [] 115 0 QH (b1 b2Q<|a0) Tryz.func62
theorem b2S:Ok0 97 a6j:=
 fo [] 5 0 QH a0 Tryz.func97
theorem b2T:Ok0 63 a5x:=
 fo [] 115 0 QH (b1 b2S<|a0) Tryz.func63
theorem b1z:Ok0 60 a5r:=
 fo [] 19 12 H60 (b1 b2P<|b1 b2R<|b1 b2T<|a0) Tryz.func60
theorem b2i:Ok0 122 a2O:=
 fo [] 783 0 b2z (b1 b1z<|a0) Tryz.func122
theorem b2j:Ok0 139 a3e:=
 fo [] 1055 0 b2A a0 Tryz.func139
theorem b2k:Ok0 128 a2a:=
 fo [] 3103 0 b2B (b1 b2j<|a0) Tryz.func128
theorem b0Z:∀fu,h0p Tryz.prog G0 123 (a0T fu)∧n0a Tryz.prog 123
 |0=>⟨(fun _ _ _ _ _ y _ h=>by cases (show(none:Option _)=some y from h)),⟨_,_,Tryz.func123,rfl,by kernel_rfl⟩⟩
 |fu+1=>⟨h0p.of (CxOk.of (CxTy.of (cx:=b0W fu) (tab:=a4L) (l:=a5b) (q:=a4y) (fun _=>rfl) (fun _=>rfl) (fun _=>rfl) a7M a7N a7O (t0e.of a7P)) (fun _=>rfl) (a1 b1z (a1 (b0Z fu) (a1 b2k a0)))) mixed Tryz.func123 rfl (by kernel_rfl) (b2c fu),⟨_,_,Tryz.func123,rfl,by kernel_rfl⟩⟩
theorem b2U:Ok0 95 a3u:=
 fo [] 967 0 H95 (b1 b2i<|b1 (b0Z 64)<|a0) Tryz.func95
theorem b2V:Ok0 59 a2i:=
 fo [] 3 0 QH (b1 b2U<|a0) Tryz.func59
theorem b1A:Ok0 17 a8t:=
 fo [] 14141 0 H17 (b1 b1y<|b1 b2O<|b1 b2V<|a0) Tryz.func17
theorem b1B:Ok0 18 a7z:=
 fo [] 126707 0 H18 (b1 b1y<|b1 a9e<|a0) Tryz.func18
theorem a6W:Ok0 54 a6k:=
 fo [] 109 0 H54 a0 Tryz.func54
theorem b1a:Ok0 100 a6z:=
 fo [] 5 0 QH a0 Tryz.func100
theorem a9f:Ok0 68 a7A:=
 fo [] 61 2 H68 (b1 a6W<|b1 a7Q<|b1 b1x<|b1 b1a<|a0) Tryz.func68
theorem b0B:Ok0 65 a3b:=
 fo [] 29 2 QH (b1 a9f<|a0) Tryz.func65
theorem b1C:Ok0 66 a3D:=
 fo [] 1 0 QH a0 Tryz.func66
theorem b1D:Ok0 98 a7B:=
 fo [] 13 2 H98 a0 Tryz.func98
theorem b1E:Ok0 99 a7C:=
 fo [] 115 0 H99 a0 Tryz.func99
theorem b2W:Ok0 67 a7D:=
 fo [] 313 0 H67 (b1 b1D<|b1 b1E<|a0) Tryz.func67
theorem b1F:Ok0 19 a7E:=
 fo [] 477 0 H19 (b1 b0B<|b1 b1C<|b1 b2W<|a0) Tryz.func19
theorem b1G:Ok0 20 a7F:=
 fo [] 413 0 H20 (b1 a9f<|a0) Tryz.func20
theorem b2X:Ok0 86 a8Y:=
 fo [] 5 2 QH a0 Tryz.func86
theorem b2m:Ok0 113 a7q:=
 fo [] 5 0 QH a0 Tryz.func113
theorem b2Y:Ok0 87 a7r:=
 fo [] 5 2 QH (b1 b2m<|a0) Tryz.func87
theorem b2Z:Ok0 88 a7s:=
 fo [] 19 0 QH a0 Tryz.func88
theorem b1H:Ok0 39 a8Z:=
 fo [] 17179869701 2 QH (b1 b2X<|b1 b2Y<|b1 b2Z<|a0) Tryz.func39
theorem b1I:Ok0 69 a6l:=
 fo [] 19 0 QH a0 Tryz.func69
theorem b1J:Ok0 70 a8u:=
 fo [] 45 0 H70 a0 Tryz.func70
theorem b3a:Ok0 71 a8v:=
 fo [] 5 0 QH a0 Tryz.func71
theorem b1K:Ok0 21 a7t:=
 fo [] 2509 0 H21 (b1 a6W<|b1 b1I<|b1 b1J<|b1 b3a<|b1 a7Q<|a0) Tryz.func21
theorem a7R:Ok0 48 a8w:=
 fo [] 5 0 QH a0 Tryz.func48
theorem b0C:Ok0 53 a5s:=
 fo [] 5 0 H53 a0 Tryz.func53
theorem b1L:Ok0 49 a5t:=
 fo [] 51 0 H49 (b1 b0C<|a0) Tryz.func49
theorem a7S:Ok0 56 a5y:=
 fo [] 179 0 H56 (b1 b1L<|b1 b1w<|a0) Tryz.func56
theorem b1M:Ok0 73 a8x:=
 fo [] 505 0 H73 (b1 a7R<|b1 a7S<|b1 a9e<|a0) Tryz.func73
theorem b1N:Ok0 22 a9a:=
 fo [] 717 0 H22 (b1 a9f<|b1 b1M<|a0) Tryz.func22
theorem b3b:Ok0 40 a7u:=
 fo [] 381 0 H40 (b1 b1K<|b1 b1N<|b1 a7Q<|a0) Tryz.func40
theorem b3c:Ok0 41 a7v:=
 fo [] 13 0 H41 (b1 a6W<|b1 b1J<|b1 a7Q<|a0) Tryz.func41
theorem b1O:Ok0 10 a7G:=
 fo [] 7987 0 H10 (b1 b1A<|b1 b1B<|b1 b1F<|b1 b1G<|b1 b1H<|b1 b3b<|b1 b3c<|a0) Tryz.func10
theorem b3d:Ok0 92 a6R:=
 fo [] 253 0 H92 a0 Tryz.func92
theorem b0D:Ok0 50 a5z:=
 fo [] 243 0 H50 (b1 b3d<|a0) Tryz.func50
theorem b3e:Ok0 51 a8y:=
 fo [] 1 0 QH (b1 b0D<|a0) Tryz.func51
theorem b1P:Ok0 52 a5A:=
 fo [] 5 0 QH a0 Tryz.func52
theorem b3f:Ok0 55 a5V:=
 fo [] 5 0 QH a0 Tryz.func55
theorem a9g:Ok0 16 a8z:=
 fo [] 2557 0 H16 (b1 b1H<|b1 a7R<|b1 b1L<|b1 b0D<|b1 b3e<|b1 b1P<|b1 b0C<|b1 a6W<|b1 b3f<|b1 a7S<|a0) Tryz.func16
theorem b2n:Ok0 114 a8A:=
 fo [] 8163 0 b2D (b1 a7R<|b1 a6W<|b1 a7S<|b1 a9e<|b1 b1a<|a0) Tryz.func114
theorem b3g:Ok0 89 a8B:=
 fo [] 893 0 H89 (b1 b2n<|a0) Tryz.func89
theorem b2o:Ok0 115 a3r:=
 fo [] 5 2 QH a0 Tryz.func115
theorem b2p(h:Int)(mL):h0p Tryz.prog { G0 with m:=some ⟨b0X,h,mL⟩ } 116 (a2h h mL)∧n0a Tryz.prog 116:=
 ⟨h0p.of (CxOk.of (CxTy.of (cx:=b0Y h mL) (tab:=a4L) (l:=a5b) (q:=a4y) (fun _=>rfl) (fun _=>rfl) (fun _=>rfl) a7M a7N a7O (t0e.of a7P)) (fun _=>rfl) a0) mixed Tryz.func116 rfl (by kernel_rfl) (b2d h mL),⟨_,_,Tryz.func116,rfl,by kernel_rfl⟩⟩
theorem b2q:Ok0 117 a3d:=
 fo [] 42887 8 b2F (b1 b0B<|b1 b1D<|b1 b1E<|a0) Tryz.func117
theorem b2r:Ok0 118 a1d:=⟨a9s _,⟨_,_,Tryz.func118,rfl,by kernel_rfl⟩⟩
theorem b2t:Ok0 120 a3N:=
 fo [] 115 0 b2G a0 Tryz.func120
theorem a9w:∀q∈([(65,a3b),(66,a3D),(115,a3r),(117,a3d),(118,a1d),(120,a3N)]:List (Nat×FSem)),FOk Tryz.prog G0 q.1 q.2:=(a1 b0B (a1 b1C (a1 b2o (a1 b2q (a1 b2r (a1 b2t a0))))))
theorem b1Q:∀μ,CxOk Tryz.prog (a9b μ)
 |none=>CxOk.of (CxTy.of (cx:=a9b none) (tab:=a4L) (l:=a5b) (q:=a4y) (fun _=>rfl) (fun _=>rfl) (fun _=>rfl) a7M a7N a7O (t0e.of a7P)) (fun _=>rfl) a9w
 |some p=>CxOk.of (CxTy.of (cx:=a9b (some p)) (tab:=a4L) (l:=a5b) (q:=a4y) (fun _=>rfl) (fun _=>rfl) (fun _=>rfl) a7M a7N a7O (t0e.of a7P)) (fun _=>rfl) (D0i (a:=(116,a2h p.1 p.2)) (.inl (b2p p.1 p.2)) (fun q h=>FOk.withM (G:=G0) rfl (a9w q h) _))
theorem b3h:Ok0 90 a8C:=
 ⟨h0p.ofM b1Q (fun _=>rfl) mixed Tryz.func90 rfl (by kernel_rfl) (fun x y h=>(b2I x).trans (E0i (b1g x y h))),⟨_,_,Tryz.func90,rfl,by kernel_rfl⟩⟩
theorem b1R:Ok0 42 a6T:=
 fo [] 61 0 QH (b1 b3g<|b1 b3h<|a0) Tryz.func42
theorem b3i:Ok0 28 a9c:=
 fo [(5,.pair QI Q8),(6,.pair QI Q8)] 5 0 QH a0 Tryz.func28
theorem b3j:Ok0 82 a5u:=
 fo [] 1 0 QH a0 Tryz.func82
theorem b3k:Ok0 29 a5W:=
 fo [] 1523 2596306885592442342940435252510728 H29 (b1 a9f<|b1 b1M<|b1 b3j<|a0) Tryz.func29
theorem b1S:Ok0 43 a7w:=
 fo [] 1651 0 H43 (b1 b3i<|b1 b3k<|a0) Tryz.func43
theorem b3l:Ok0 12 a8D:=
 fo [] 1021 0 QH (b1 a9g<|b1 b1R<|b1 b1S<|a0) Tryz.func12
theorem b2u:Ok0 121 a8E:=
 fo [] 13 0 QH a0 Tryz.func121
theorem b3m:Ok0 91 a7H:=
 fo [] 8189 0 H91 (b1 a7R<|b1 b0D<|b1 b1P<|b1 b0C<|b1 a6W<|b1 a7S<|b1 b1I<|b1 b2u<|a0) Tryz.func91
theorem b3n:Ok0 44 a7I:=
 fo [] 1917 0 H44 (b1 a7R<|b1 a7S<|b1 b3m<|a0) Tryz.func44
theorem b3o:Ok0 45 a7J:=
 fo [] 647 0 H45 a0 Tryz.func45
theorem b3p:Ok0 13 a8F:=
 fo [] 61383 0 H13 (b1 a9g<|b1 b1R<|b1 b1S<|b1 b3n<|b1 b3o<|a0) Tryz.func13
theorem b3q:Ok0 47 a6n:=
 fo [] 19 12 QH a0 Tryz.func47
theorem b3r:Ok0 15 a5X:=
 fo [] 51 0 H15 (b1 b3q<|a0) Tryz.func15
theorem b3s:Ok0 46 a9d:=
 fo [] 0 0 QH a0 Tryz.func46
theorem b3t:Ok0 14 a8G:=
 fo [] 65471 223338299392 H14 (b1 b1O<|b1 b3l<|b1 b3p<|b1 b3r<|b1 a9g<|b1 b3s<|a0) Tryz.func14
theorem fs4:Ok0 4 a3Q:=
 fo [] 8388605 0 H4 (b1 fs8<|b1 fs9<|b1 b1O<|b1 b3t<|b1 a9g<|b1 b1A<|b1 b1B<|b1 b1F<|b1 b1G<|b1 b1K<|b1 b1N<|a0) Tryz.func4
end Go.Ab
