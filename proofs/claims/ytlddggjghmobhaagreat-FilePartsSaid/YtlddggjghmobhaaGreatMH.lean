/- Part of the proof: S. Conditions: as each statement tells. -/
import Derived.KernelRfl
import Derived.Test.YtlddggjghmobhaaGreatMG
noncomputable section
set_option linter.unusedSimpArgs false
set_option linter.unusedVariables false
namespace Go.Ab
open Go.Proofs
set_option maxRecDepth 100000
theorem mixed:Tryz.prog.follows .mixedOrders=true:=by kernel_rfl
theorem b1B:E0y Tryz.prog a6Q=true:=by kernel_rfl
theorem b1C:E0w Tryz.prog a6w=true:=by kernel_rfl
theorem b1D:E0t Tryz.prog a6Q a7q=true:=by kernel_rfl
theorem laidOut:laidOutB Tryz.prog=true:=by kernel_rfl
theorem b1E:B0p Tryz.prog b4r=true:=by kernel_rfl
@[reducible] def Ok0(n:Nat)(s:FSem):Prop:=h0p Tryz.prog G0 n s∧n0e Tryz.prog n
theorem cxo{a:List (Nat×FSem)}{b:List (Nat×Ty)}{c d:Nat}(h:∀p∈a,FOk Tryz.prog G0 p.1 p.2):CxOk Tryz.prog (b5k a b c d):=
 CxOk.of (CxTy.of (tab:=a6Q) (l:=a7q) (q:=a6w) (fun _=>rfl) (fun _=>rfl) (fun _=>rfl) b1B b1C b1D (t0p.of b1E)) (fun _=>rfl) h
theorem b1{n:Nat}{s:FSem}{l:List (Nat×FSem)}(h:Ok0 n s)(g:∀p∈l,FOk Tryz.prog G0 p.1 p.2):∀p∈(n,s)::l,FOk Tryz.prog G0 p.1 p.2:=a1 (a:=(n,s)) h g
theorem fo {a : List (Nat × FSem)} (b : List (Nat × Ty)) (c d : Nat) (H : Hints) {n : Nat} {fn : Func} {e : Code} {s : FSem} (h : ∀ p ∈ a, FOk Tryz.prog G0 p.1 p.2) (hf : Tryz.prog.funcs[n]? = some fn) (hb : fn.body = some e :=by rfl) (hk : y0b fn e H s = true :=by kernel_rfl) (hn : (fn.name == "runtime.NumGoroutine") = false :=by kernel_rfl) (hq : ∀ x, E0e (b5k a b c d) H fn s.ps s.rs x = s.F x :=by intro x; kernel_rfl) : Ok0 n s :=
 ⟨h0p.of (cxo h) mixed hf hb hk hq,⟨_,_,hf,hb,hn⟩⟩
theorem b8q:Ok0 11 a7r:=
 fo [] 71 0 H11 a0 Tryz.func11
theorem a9N:Ok0 36 a6O:=
 fo [] 19 0 H36 (b1 b8q<|a0) Tryz.func36
theorem b7u:Ok0 125 a6X:=
 fo [] 19 0 QH a0 Tryz.func125
theorem b7v:Ok0 112 a6x:=
 fo [] 243 0 b8a (b1 a9N<|b1 b7u<|a0) Tryz.func112
theorem b8r:Ok0 85 a6f:=
 fo [] 967 0 H85 (b1 a9N<|b1 b7v<|a0) Tryz.func85
theorem b8s:Ok0 35 a6g:=
 fo [] 115 0 H35 (b1 a9N<|b1 b8r<|a0) Tryz.func35
theorem b8t:Ok0 37 a6P:=
 fo [] 1 0 QH (b1 a9N<|a0) Tryz.func37
theorem b8u:Ok0 38 a6k:=
 fo [] 1 0 QH (b1 a9N<|a0) Tryz.func38
theorem fs8:Ok0 8 b2A:=
 fo [] 499 0 H8 (b1 b8s<|b1 a9N<|b1 b8t<|b1 b8u<|a0) Tryz.func8
theorem fs9:Ok0 9 a8y:=
 fo [] 5 0 QH a0 Tryz.func9
theorem b6H:Ok0 93 b0S:=
 fo [] 5 0 QH a0 Tryz.func93
theorem b7w:Ok0 101 b0T:=
 fo [] 51 0 b8b (b1 b6H<|a0) Tryz.func101
theorem b7x:Ok0 102 a5K:=⟨b5f _,⟨_,_,Tryz.func102,rfl,by kernel_rfl⟩⟩
theorem b1F:Ok0 72 b2B:=
 fo [] 51 0 QH (b1 b7w<|b1 b7x<|a0) Tryz.func72
theorem b6I:Ok0 94 b2C:=
 fo [] 19 0 QH a0 Tryz.func94
theorem b6J:Ok0 57 b3E:=
 fo [] 29 2 H57 (b1 b1F<|b1 b6I<|a0) Tryz.func57
theorem b3N:Ok0 64 b0U:=
 fo [] 5 0 QH a0 Tryz.func64
theorem b8v:Ok0 58 b0V:=
 fo [] 1 0 QH (b1 b3N<|a0) Tryz.func58
theorem b8w:Ok0 61 b0W:=
 fo [] 45 0 H61 a0 Tryz.func61
theorem b8x:Ok0 96 a7T:=
 fo [] 5 0 QH a0 Tryz.func96
theorem b8y:Ok0 62 a7s:=
 fo [] 115 0 QH (b1 b8x<|a0) Tryz.func62
theorem b8z:Ok0 97 a8M:=
 fo [] 5 0 QH a0 Tryz.func97
theorem b8A:Ok0 63 a7U:=
 fo [] 115 0 QH (b1 b8z<|a0) Tryz.func63
theorem b6K:Ok0 60 a7O:=
 fo [] 19 12 H60 (b1 b8w<|b1 b8y<|b1 b8A<|a0) Tryz.func60
theorem b7y:Ok0 122 a3P:=
 fo [] 783 0 b8c (b1 b6K<|a0) Tryz.func122
theorem b7z:Ok0 139 a4y:=
 fo [] 1055 0 b8d a0 Tryz.func139
theorem b7A:Ok0 128 a2I:=
 fo [] 3103 0 b8e (b1 b7z<|a0) Tryz.func128
theorem b5S:∀fu,h0p Tryz.prog G0 123 (a1d fu)∧n0e Tryz.prog 123
 |0=>⟨(fun _ _ _ _ _ y _ h=>by cases (show(none:Option _)=some y from h)),⟨_,_,Tryz.func123,rfl,by kernel_rfl⟩⟩
 |fu+1=>⟨h0p.of (CxOk.of (CxTy.of (cx:=b5P fu) (tab:=a6Q) (l:=a7q) (q:=a6w) (fun _=>rfl) (fun _=>rfl) (fun _=>rfl) b1B b1C b1D (t0p.of b1E)) (fun _=>rfl) (a1 b6K (a1 (b5S fu) (a1 b7A a0)))) mixed Tryz.func123 rfl (by kernel_rfl) (b7s fu),⟨_,_,Tryz.func123,rfl,by kernel_rfl⟩⟩
theorem b8B:Ok0 95 a4X:=
 fo [] 967 0 H95 (b1 b7y<|b1 (b5S 64)<|a0) Tryz.func95
theorem b8C:Ok0 59 a2U:=
 fo [] 3 0 QH (b1 b8B<|a0) Tryz.func59
theorem b8D:Ok0 17 b2D:=
 fo [] 14141 0 H17 (b1 b6J<|b1 b8v<|b1 b8C<|a0) Tryz.func17
theorem b8E:Ok0 18 b1k:=
 fo [] 126707 0 H18 (b1 b6J<|b1 b3N<|a0) Tryz.func18
theorem a9O:Ok0 54 a8N:=
 fo [] 109 0 H54 a0 Tryz.func54
theorem b5T:Ok0 100 a8W:=
 fo [] 5 0 QH a0 Tryz.func100
theorem b3O:Ok0 68 b1l:=
 fo [] 61 2 H68 (b1 a9O<|b1 b1F<|b1 b6I<|b1 b5T<|a0) Tryz.func68
theorem b5n:Ok0 65 a4q:=
 fo [] 29 2 QH (b1 b3O<|a0) Tryz.func65
theorem b6L:Ok0 66 a5h:=
 fo [] 1 0 QH a0 Tryz.func66
theorem b6M:Ok0 98 b1m:=
 fo [] 13 2 H98 a0 Tryz.func98
theorem b6N:Ok0 99 b1n:=
 fo [] 115 0 H99 a0 Tryz.func99
theorem b8F:Ok0 67 b1o:=
 fo [] 313 0 H67 (b1 b6M<|b1 b6N<|a0) Tryz.func67
theorem b8G:Ok0 19 b1p:=
 fo [] 477 0 H19 (b1 b5n<|b1 b6L<|b1 b8F<|a0) Tryz.func19
theorem b8H:Ok0 20 b1q:=
 fo [] 413 0 H20 (b1 b3O<|a0) Tryz.func20
theorem b8I:Ok0 86 b3F:=
 fo [] 5 2 QH a0 Tryz.func86
theorem b7B:Ok0 113 b0X:=
 fo [] 5 0 QH a0 Tryz.func113
theorem b8J:Ok0 87 b0Y:=
 fo [] 5 2 QH (b1 b7B<|a0) Tryz.func87
theorem b8K:Ok0 88 b0Z:=
 fo [] 19 0 QH a0 Tryz.func88
theorem b6O:Ok0 39 b3G:=
 fo [] 17179869701 2 QH (b1 b8I<|b1 b8J<|b1 b8K<|a0) Tryz.func39
theorem b6P:Ok0 69 a8O:=
 fo [] 19 0 QH a0 Tryz.func69
theorem b6Q:Ok0 70 b2E:=
 fo [] 45 0 H70 a0 Tryz.func70
theorem b8L:Ok0 71 b2F:=
 fo [] 5 0 QH a0 Tryz.func71
theorem b8M:Ok0 21 b1a:=
 fo [] 2509 0 H21 (b1 a9O<|b1 b6P<|b1 b6Q<|b1 b8L<|b1 b1F<|a0) Tryz.func21
theorem b1G:Ok0 48 b2G:=
 fo [] 5 0 QH a0 Tryz.func48
theorem b5o:Ok0 53 a7P:=
 fo [] 5 0 H53 a0 Tryz.func53
theorem b6R:Ok0 49 a7Q:=
 fo [] 51 0 H49 (b1 b5o<|a0) Tryz.func49
theorem b1H:Ok0 56 a7V:=
 fo [] 179 0 H56 (b1 b6R<|b1 b6H<|a0) Tryz.func56
theorem b6S:Ok0 73 b2H:=
 fo [] 505 0 H73 (b1 b1G<|b1 b1H<|b1 b3N<|a0) Tryz.func73
theorem b8N:Ok0 22 b3H:=
 fo [] 717 0 H22 (b1 b3O<|b1 b6S<|a0) Tryz.func22
theorem b8O:Ok0 40 b1b:=
 fo [] 381 0 H40 (b1 b8M<|b1 b8N<|b1 b1F<|a0) Tryz.func40
theorem b8P:Ok0 41 b1c:=
 fo [] 13 0 H41 (b1 a9O<|b1 b6Q<|b1 b1F<|a0) Tryz.func41
theorem b6T:Ok0 10 b1r:=
 fo [] 7987 0 H10 (b1 b8D<|b1 b8E<|b1 b8G<|b1 b8H<|b1 b6O<|b1 b8O<|b1 b8P<|a0) Tryz.func10
theorem b8Q:Ok0 92 a9I:=
 fo [] 253 0 H92 a0 Tryz.func92
theorem b5p:Ok0 50 a7W:=
 fo [] 243 0 H50 (b1 b8Q<|a0) Tryz.func50
theorem b8R:Ok0 51 b2I:=
 fo [] 1 0 QH (b1 b5p<|a0) Tryz.func51
theorem b6U:Ok0 52 a7X:=
 fo [] 5 0 QH a0 Tryz.func52
theorem b8S:Ok0 55 a8z:=
 fo [] 5 0 QH a0 Tryz.func55
theorem b3P:Ok0 16 b2J:=
 fo [] 2557 0 H16 (b1 b6O<|b1 b1G<|b1 b6R<|b1 b5p<|b1 b8R<|b1 b6U<|b1 b5o<|b1 a9O<|b1 b8S<|b1 b1H<|a0) Tryz.func16
theorem b7C:Ok0 114 b2K:=
 fo [] 8163 0 b8g (b1 b1G<|b1 a9O<|b1 b1H<|b1 b3N<|b1 b5T<|a0) Tryz.func114
theorem b8T:Ok0 89 b2L:=
 fo [] 893 0 H89 (b1 b7C<|a0) Tryz.func89
theorem b7D:Ok0 115 a4M:=
 fo [] 5 2 QH a0 Tryz.func115
theorem b7E(h:Int)(mL):h0p Tryz.prog { G0 with m:=some ⟨b5Q,h,mL⟩ } 116 (a2S h mL)∧n0e Tryz.prog 116:=
 ⟨h0p.of (CxOk.of (CxTy.of (cx:=b5R h mL) (tab:=a6Q) (l:=a7q) (q:=a6w) (fun _=>rfl) (fun _=>rfl) (fun _=>rfl) b1B b1C b1D (t0p.of b1E)) (fun _=>rfl) a0) mixed Tryz.func116 rfl (by kernel_rfl) (b7t h mL),⟨_,_,Tryz.func116,rfl,by kernel_rfl⟩⟩
theorem b7F:Ok0 117 a4s:=
 fo [] 42887 8 b8i (b1 b5n<|b1 b6M<|b1 b6N<|a0) Tryz.func117
theorem b7G:Ok0 118 a1s:=⟨b4q _,⟨_,_,Tryz.func118,rfl,by kernel_rfl⟩⟩
theorem b7H:Ok0 120 a5u:=
 fo [] 115 0 b8j a0 Tryz.func120
theorem b4u:∀q∈([(65,a4q),(66,a5h),(115,a4M),(117,a4s),(118,a1s),(120,a5u)]:List (Nat×FSem)),FOk Tryz.prog G0 q.1 q.2:=(a1 b5n (a1 b6L (a1 b7D (a1 b7F (a1 b7G (a1 b7H a0))))))
theorem b6V:∀μ,CxOk Tryz.prog (b3I μ)
 |none=>CxOk.of (CxTy.of (cx:=b3I none) (tab:=a6Q) (l:=a7q) (q:=a6w) (fun _=>rfl) (fun _=>rfl) (fun _=>rfl) b1B b1C b1D (t0p.of b1E)) (fun _=>rfl) b4u
 |some p=>CxOk.of (CxTy.of (cx:=b3I (some p)) (tab:=a6Q) (l:=a7q) (q:=a6w) (fun _=>rfl) (fun _=>rfl) (fun _=>rfl) b1B b1C b1D (t0p.of b1E)) (fun _=>rfl) (E0d (a:=(116,a2S p.1 p.2)) (.inl (b7E p.1 p.2)) (fun q h=>FOk.withM (G:=G0) rfl (b4u q h) _))
theorem b8U:Ok0 90 b2M:=
 ⟨h0p.ofM b6V (fun _=>rfl) mixed Tryz.func90 rfl (by kernel_rfl) (fun x y h=>(b8l x).trans (F0d (b6b x y h))),⟨_,_,Tryz.func90,rfl,by kernel_rfl⟩⟩
theorem b6W:Ok0 42 a9J:=
 fo [] 61 0 QH (b1 b8T<|b1 b8U<|a0) Tryz.func42
theorem b6X:Ok0 28 b3J:=
 fo [(5,.pair QI Q9),(6,.pair QI Q9)] 5 0 QH a0 Tryz.func28
theorem b8V:Ok0 82 a7R:=
 fo [] 1 0 QH a0 Tryz.func82
theorem b6Y:Ok0 29 a8A:=
 fo [] 1523 2596306885592442342940435252510728 H29 (b1 b3O<|b1 b6S<|b1 b8V<|a0) Tryz.func29
theorem b6Z:Ok0 43 b1d:=
 fo [] 1651 0 H43 (b1 b6X<|b1 b6Y<|a0) Tryz.func43
theorem b7a:Ok0 12 b2N:=
 fo [] 1021 0 QH (b1 b3P<|b1 b6W<|b1 b6Z<|a0) Tryz.func12
theorem b7I:Ok0 121 b2O:=
 fo [] 13 0 QH a0 Tryz.func121
theorem b8W:Ok0 91 b1s:=
 fo [] 8189 0 H91 (b1 b1G<|b1 b5p<|b1 b6U<|b1 b5o<|b1 a9O<|b1 b1H<|b1 b6P<|b1 b7I<|a0) Tryz.func91
theorem b8X:Ok0 44 b1t:=
 fo [] 1917 0 H44 (b1 b1G<|b1 b1H<|b1 b8W<|a0) Tryz.func44
theorem b8Y:Ok0 45 b1u:=
 fo [] 647 0 H45 a0 Tryz.func45
theorem b8Z:Ok0 13 b2P:=
 fo [] 61383 0 H13 (b1 b3P<|b1 b6W<|b1 b6Z<|b1 b8X<|b1 b8Y<|a0) Tryz.func13
theorem b9a:Ok0 47 a8P:=
 fo [] 19 12 QH a0 Tryz.func47
theorem b7b:Ok0 15 a8B:=
 fo [] 51 0 H15 (b1 b9a<|a0) Tryz.func15
theorem b9b:Ok0 46 b3K:=
 fo [] 0 0 QH a0 Tryz.func46
theorem b9c:Ok0 14 b2Q:=
 fo [] 65471 223338299392 H14 (b1 b6T<|b1 b7a<|b1 b8Z<|b1 b7b<|b1 b3P<|b1 b9b<|a0) Tryz.func14
theorem b7J:Ok0 103 b1v:=
 fo [] 5 0 QH a0 Tryz.func103
theorem b7K:Ok0 104 b2R:=
 fo [] 5 0 QH a0 Tryz.func104
theorem b5U:Ok0 105 b5l:=
 fo [] 115 0 b8m a0 Tryz.func105
theorem b7c:Ok0 74 b1e:=
 fo [] 61 2 H74 (b1 b7J<|b1 b7K<|b1 b5U<|a0) Tryz.func74
theorem b9d:Ok0 75 b2S:=
 fo [] 29 0 H75 a0 Tryz.func75
theorem b9e:Ok0 23 a9K:=
 fo [] 8189 0 H23 (b1 b7c<|b1 b9d<|a0) Tryz.func23
theorem b9f:Ok0 24 a9b:=
 fo [] 4083 0 H24 (b1 b7c<|a0) Tryz.func24
theorem b7L:Ok0 106 b1w:=
 fo [] 19 0 QH a0 Tryz.func106
theorem b5V:Ok0 107 b2T:=
 fo [] 13 2 b8n a0 Tryz.func107
theorem b7M:Ok0 108 a9L:=
 fo [] 61 0 b8o a0 Tryz.func108
theorem b5q:Ok0 76 a9c:=
 fo [] 61 2 H76 (b1 b5U<|b1 b7L<|b1 b5V<|b1 b7M<|a0) Tryz.func76
theorem b7d:Ok0 77 b2U:=
 fo [] 61 0 H77 (b1 b5V<|a0) Tryz.func77
theorem b9g:Ok0 25 a9d:=
 fo [] 2045 0 H25 (b1 b5q<|b1 b7d<|a0) Tryz.func25
theorem b9h:Ok0 26 a9e:=
 fo [] 253 0 H26 (b1 b5q<|a0) Tryz.func26
theorem b9i:Ok0 78 b1x:=
 fo [] 115 8 H78 a0 Tryz.func78
theorem b9j:Ok0 79 b1y:=
 fo [] 5 2 QH a0 Tryz.func79
theorem b7N:Ok0 109 b2V:=
 fo [] 455 0 b8p a0 Tryz.func109
theorem b9k:Ok0 80 b3L:=
 fo [] 16355 8 H80 (b1 b7d<|b1 b7N<|a0) Tryz.func80
theorem b9l:Ok0 81 b1f:=
 fo [] 243 0 H81 a0 Tryz.func81
theorem b9m:Ok0 27 b3M:=
 fo [] 24061 0 H27 (b1 b5q<|b1 b9i<|b1 b9j<|b1 b9k<|b1 b9l<|a0) Tryz.func27
theorem b9n:Ok0 30 a9f:=
 fo [] 51 0 H30 a0 Tryz.func30
theorem fs5:Ok0 5 a5A:=
 fo [] 68719476723 0 H5 (b1 fs8<|b1 fs9<|b1 b6T<|b1 b7a<|b1 b9c<|b1 b7b<|b1 b3P<|b1 b9e<|b1 b9f<|b1 b9g<|b1 b9h<|b1 b9m<|b1 b6X<|b1 b6Y<|b1 b9n<|a0) Tryz.func5
end Go.Ab
