/- Part of the proof: S. Conditions: as each statement tells. -/
import Derived.KernelRfl
import Derived.Test.YtlddggjghmobhaaGreatMG
noncomputable section
set_option linter.unusedSimpArgs false
set_option linter.unusedVariables false
namespace Go.Ab
open Go.Proofs
set_option maxRecDepth 100000
theorem mixed:Tryz.prog.follows .mixedOrders=true:=by kernel_rfl
theorem b1d:E0y Tryz.prog a6y=true:=by kernel_rfl
theorem b1e:E0w Tryz.prog a6j=true:=by kernel_rfl
theorem b1f:E0t Tryz.prog a6y a6V=true:=by kernel_rfl
theorem laidOut:laidOutB Tryz.prog=true:=by kernel_rfl
theorem b1g:B0p Tryz.prog b3P=true:=by kernel_rfl
@[reducible] def Ok0(n:Nat)(s:FSem):Prop:=h0p Tryz.prog G0 n s∧n0e Tryz.prog n
theorem cxo{a:List (Nat×FSem)}{b:List (Nat×Ty)}{c d:Nat}(h:∀p∈a,FOk Tryz.prog G0 p.1 p.2):CxOk Tryz.prog (b4K a b c d):=
 CxOk.of (CxTy.of (tab:=a6y) (l:=a6V) (q:=a6j) (fun _=>rfl) (fun _=>rfl) (fun _=>rfl) b1d b1e b1f (t0p.of b1g)) (fun _=>rfl) h
theorem b1{n:Nat}{s:FSem}{l:List (Nat×FSem)}(h:Ok0 n s)(g:∀p∈l,FOk Tryz.prog G0 p.1 p.2):∀p∈(n,s)::l,FOk Tryz.prog G0 p.1 p.2:=a1 (a:=(n,s)) h g
theorem fo {a : List (Nat × FSem)} (b : List (Nat × Ty)) (c d : Nat) (H : Hints) {n : Nat} {fn : Func} {e : Code} {s : FSem} (h : ∀ p ∈ a, FOk Tryz.prog G0 p.1 p.2) (hf : Tryz.prog.funcs[n]? = some fn) (hb : fn.body = some e :=by rfl) (hk : y0b fn e H s = true :=by kernel_rfl) (hn : (fn.name == "runtime.NumGoroutine") = false :=by kernel_rfl) (hq : ∀ x, E0e (b4K a b c d) H fn s.ps s.rs x = s.F x :=by intro x; kernel_rfl) : Ok0 n s :=
 ⟨h0p.of (cxo h) mixed hf hb hk hq,⟨_,_,hf,hb,hn⟩⟩
theorem b6g:Ok0 11 a6W:=
 fo [] 71 0 H11 a0 Tryz.func11
theorem a9w:Ok0 36 a6w:=
 fo [] 19 0 H36 (b1 b6g<|a0) Tryz.func36
theorem b6N:Ok0 125 a6F:=
 fo [] 19 0 QH a0 Tryz.func125
theorem b6O:Ok0 112 a6k:=
 fo [] 243 0 b7u (b1 a9w<|b1 b6N<|a0) Tryz.func112
theorem b7L:Ok0 85 a5T:=
 fo [] 967 0 H85 (b1 a9w<|b1 b6O<|a0) Tryz.func85
theorem b7M:Ok0 35 a5U:=
 fo [] 115 0 H35 (b1 a9w<|b1 b7L<|a0) Tryz.func35
theorem b7N:Ok0 37 a6x:=
 fo [] 1 0 QH (b1 a9w<|a0) Tryz.func37
theorem b7O:Ok0 38 a6a:=
 fo [] 1 0 QH (b1 a9w<|a0) Tryz.func38
theorem fs8:Ok0 8 b1Z:=
 fo [] 499 0 H8 (b1 b7M<|b1 a9w<|b1 b7N<|b1 b7O<|a0) Tryz.func8
theorem fs9:Ok0 9 a7Z:=
 fo [] 5 0 QH a0 Tryz.func9
theorem b6h:Ok0 93 b0A:=
 fo [] 5 0 QH a0 Tryz.func93
theorem b6P:Ok0 101 b0B:=
 fo [] 51 0 b7v (b1 b6h<|a0) Tryz.func101
theorem b6Q:Ok0 102 a5x:=⟨b4F _,⟨_,_,Tryz.func102,rfl,by kernel_rfl⟩⟩
theorem b1h:Ok0 72 b2a:=
 fo [] 51 0 QH (b1 b6P<|b1 b6Q<|a0) Tryz.func72
theorem b6i:Ok0 94 b2b:=
 fo [] 19 0 QH a0 Tryz.func94
theorem b6j:Ok0 57 b3d:=
 fo [] 29 2 H57 (b1 b1h<|b1 b6i<|a0) Tryz.func57
theorem b3k:Ok0 64 b0C:=
 fo [] 5 0 QH a0 Tryz.func64
theorem b7P:Ok0 58 b0D:=
 fo [] 1 0 QH (b1 b3k<|a0) Tryz.func58
theorem b7Q:Ok0 61 b0E:=
 fo [] 45 0 H61 a0 Tryz.func61
theorem b7R:Ok0 96 a7z:=
 fo [] 5 0 QH a0 Tryz.func96
theorem b7S:Ok0 62 a6X:=
 fo [] 115 0 QH (b1 b7R<|a0) Tryz.func62
theorem b7T:Ok0 97 a8o:=
 fo [] 5 0 QH a0 Tryz.func97
theorem b7U:Ok0 63 a7A:=
 fo [] 115 0 QH (b1 b7T<|a0) Tryz.func63
theorem b6k:Ok0 60 a7t:=
 fo [] 19 12 H60 (b1 b7Q<|b1 b7S<|b1 b7U<|a0) Tryz.func60
theorem b6R:Ok0 122 a3N:=
 fo [] 783 0 b7w (b1 b6k<|a0) Tryz.func122
theorem b6S:Ok0 139 a4s:=
 fo [] 1055 0 b7x a0 Tryz.func139
theorem b6T:Ok0 128 a2H:=
 fo [] 3103 0 b7y (b1 b6S<|a0) Tryz.func128
theorem b5w:∀fu,h0p Tryz.prog G0 123 (a1c fu)∧n0e Tryz.prog 123
 |0=>⟨(fun _ _ _ _ _ y _ h=>by cases (show(none:Option _)=some y from h)),⟨_,_,Tryz.func123,rfl,by kernel_rfl⟩⟩
 |fu+1=>⟨h0p.of (CxOk.of (CxTy.of (cx:=b5t fu) (tab:=a6y) (l:=a6V) (q:=a6j) (fun _=>rfl) (fun _=>rfl) (fun _=>rfl) b1d b1e b1f (t0p.of b1g)) (fun _=>rfl) (a1 b6k (a1 (b5w fu) (a1 b6T a0)))) mixed Tryz.func123 rfl (by kernel_rfl) (b6L fu),⟨_,_,Tryz.func123,rfl,by kernel_rfl⟩⟩
theorem b7V:Ok0 95 a4T:=
 fo [] 967 0 H95 (b1 b6R<|b1 (b5w 64)<|a0) Tryz.func95
theorem b7W:Ok0 59 a2T:=
 fo [] 3 0 QH (b1 b7V<|a0) Tryz.func59
theorem b7X:Ok0 17 b2c:=
 fo [] 14141 0 H17 (b1 b6j<|b1 b7P<|b1 b7W<|a0) Tryz.func17
theorem b7Y:Ok0 18 b0O:=
 fo [] 126707 0 H18 (b1 b6j<|b1 b3k<|a0) Tryz.func18
theorem a9x:Ok0 54 a8p:=
 fo [] 109 0 H54 a0 Tryz.func54
theorem b5x:Ok0 100 a8E:=
 fo [] 5 0 QH a0 Tryz.func100
theorem b3l:Ok0 68 b0P:=
 fo [] 61 2 H68 (b1 a9x<|b1 b1h<|b1 b6i<|b1 b5x<|a0) Tryz.func68
theorem b4N:Ok0 65 a4j:=
 fo [] 29 2 QH (b1 b3l<|a0) Tryz.func65
theorem b6l:Ok0 66 a5b:=
 fo [] 1 0 QH a0 Tryz.func66
theorem b6m:Ok0 98 b0Q:=
 fo [] 13 2 H98 a0 Tryz.func98
theorem b6n:Ok0 99 b0R:=
 fo [] 115 0 H99 a0 Tryz.func99
theorem b7Z:Ok0 67 b0S:=
 fo [] 313 0 H67 (b1 b6m<|b1 b6n<|a0) Tryz.func67
theorem b8a:Ok0 19 b0T:=
 fo [] 477 0 H19 (b1 b4N<|b1 b6l<|b1 b7Z<|a0) Tryz.func19
theorem b8b:Ok0 20 b0U:=
 fo [] 413 0 H20 (b1 b3l<|a0) Tryz.func20
theorem b8c:Ok0 86 b3e:=
 fo [] 5 2 QH a0 Tryz.func86
theorem b6U:Ok0 113 b0F:=
 fo [] 5 0 QH a0 Tryz.func113
theorem b8d:Ok0 87 b0G:=
 fo [] 5 2 QH (b1 b6U<|a0) Tryz.func87
theorem b8e:Ok0 88 b0H:=
 fo [] 19 0 QH a0 Tryz.func88
theorem b6o:Ok0 39 b3f:=
 fo [] 17179869701 2 QH (b1 b8c<|b1 b8d<|b1 b8e<|a0) Tryz.func39
theorem b6p:Ok0 69 a8q:=
 fo [] 19 0 QH a0 Tryz.func69
theorem b6q:Ok0 70 b2d:=
 fo [] 45 0 H70 a0 Tryz.func70
theorem b8f:Ok0 71 b2e:=
 fo [] 5 0 QH a0 Tryz.func71
theorem b8g:Ok0 21 b0I:=
 fo [] 2509 0 H21 (b1 a9x<|b1 b6p<|b1 b6q<|b1 b8f<|b1 b1h<|a0) Tryz.func21
theorem b1i:Ok0 48 b2f:=
 fo [] 5 0 QH a0 Tryz.func48
theorem b4O:Ok0 53 a7u:=
 fo [] 5 0 H53 a0 Tryz.func53
theorem b6r:Ok0 49 a7v:=
 fo [] 51 0 H49 (b1 b4O<|a0) Tryz.func49
theorem b1j:Ok0 56 a7B:=
 fo [] 179 0 H56 (b1 b6r<|b1 b6h<|a0) Tryz.func56
theorem b6s:Ok0 73 b2g:=
 fo [] 505 0 H73 (b1 b1i<|b1 b1j<|b1 b3k<|a0) Tryz.func73
theorem b8h:Ok0 22 b3g:=
 fo [] 717 0 H22 (b1 b3l<|b1 b6s<|a0) Tryz.func22
theorem b8i:Ok0 40 b0J:=
 fo [] 381 0 H40 (b1 b8g<|b1 b8h<|b1 b1h<|a0) Tryz.func40
theorem b8j:Ok0 41 b0K:=
 fo [] 13 0 H41 (b1 a9x<|b1 b6q<|b1 b1h<|a0) Tryz.func41
theorem b6t:Ok0 10 b0V:=
 fo [] 7987 0 H10 (b1 b7X<|b1 b7Y<|b1 b8a<|b1 b8b<|b1 b6o<|b1 b8i<|b1 b8j<|a0) Tryz.func10
theorem b8k:Ok0 92 a9m:=
 fo [] 253 0 H92 a0 Tryz.func92
theorem b4P:Ok0 50 a7C:=
 fo [] 243 0 H50 (b1 b8k<|a0) Tryz.func50
theorem b8l:Ok0 51 b2h:=
 fo [] 1 0 QH (b1 b4P<|a0) Tryz.func51
theorem b6u:Ok0 52 a7D:=
 fo [] 5 0 QH a0 Tryz.func52
theorem b8m:Ok0 55 a8a:=
 fo [] 5 0 QH a0 Tryz.func55
theorem b1k:Ok0 16 b2i:=
 fo [] 2557 0 H16 (b1 b6o<|b1 b1i<|b1 b6r<|b1 b4P<|b1 b8l<|b1 b6u<|b1 b4O<|b1 a9x<|b1 b8m<|b1 b1j<|a0) Tryz.func16
theorem b6V:Ok0 114 b2j:=
 fo [] 8163 0 b7A (b1 b1i<|b1 a9x<|b1 b1j<|b1 b3k<|b1 b5x<|a0) Tryz.func114
theorem b8n:Ok0 89 b2k:=
 fo [] 893 0 H89 (b1 b6V<|a0) Tryz.func89
theorem b6W:Ok0 115 a4H:=
 fo [] 5 2 QH a0 Tryz.func115
theorem b6X(h:Int)(mL):h0p Tryz.prog { G0 with m:=some ⟨b5u,h,mL⟩ } 116 (a2S h mL)∧n0e Tryz.prog 116:=
 ⟨h0p.of (CxOk.of (CxTy.of (cx:=b5v h mL) (tab:=a6y) (l:=a6V) (q:=a6j) (fun _=>rfl) (fun _=>rfl) (fun _=>rfl) b1d b1e b1f (t0p.of b1g)) (fun _=>rfl) a0) mixed Tryz.func116 rfl (by kernel_rfl) (b6M h mL),⟨_,_,Tryz.func116,rfl,by kernel_rfl⟩⟩
theorem b6Y:Ok0 117 a4l:=
 fo [] 42887 8 b7C (b1 b4N<|b1 b6m<|b1 b6n<|a0) Tryz.func117
theorem b6Z:Ok0 118 a1r:=⟨b3O _,⟨_,_,Tryz.func118,rfl,by kernel_rfl⟩⟩
theorem b7a:Ok0 120 a5j:=
 fo [] 115 0 b7D a0 Tryz.func120
theorem b3T:∀q∈([(65,a4j),(66,a5b),(115,a4H),(117,a4l),(118,a1r),(120,a5j)]:List (Nat×FSem)),FOk Tryz.prog G0 q.1 q.2:=(a1 b4N (a1 b6l (a1 b6W (a1 b6Y (a1 b6Z (a1 b7a a0))))))
theorem b6v:∀μ,CxOk Tryz.prog (b3h μ)
 |none=>CxOk.of (CxTy.of (cx:=b3h none) (tab:=a6y) (l:=a6V) (q:=a6j) (fun _=>rfl) (fun _=>rfl) (fun _=>rfl) b1d b1e b1f (t0p.of b1g)) (fun _=>rfl) b3T
 |some p=>CxOk.of (CxTy.of (cx:=b3h (some p)) (tab:=a6y) (l:=a6V) (q:=a6j) (fun _=>rfl) (fun _=>rfl) (fun _=>rfl) b1d b1e b1f (t0p.of b1g)) (fun _=>rfl) (E0d (a:=(116,a2S p.1 p.2)) (.inl (b6X p.1 p.2)) (fun q h=>FOk.withM (G:=G0) rfl (b3T q h) _))
theorem b8o:Ok0 90 b2l:=
 ⟨h0p.ofM b6v (fun _=>rfl) mixed Tryz.func90 rfl (by kernel_rfl) (fun x y h=>(b7F x).trans (F0d (b5I x y h))),⟨_,_,Tryz.func90,rfl,by kernel_rfl⟩⟩
theorem b4Q:Ok0 42 a9n:=
 fo [] 61 0 QH (b1 b8n<|b1 b8o<|a0) Tryz.func42
theorem b8p:Ok0 28 b3i:=
 fo [(5,.pair QI Q9),(6,.pair QI Q9)] 5 0 QH a0 Tryz.func28
theorem b8q:Ok0 82 a7w:=
 fo [] 1 0 QH a0 Tryz.func82
theorem b8r:Ok0 29 a8b:=
 fo [] 1523 2596306885592442342940435252510728 H29 (b1 b3l<|b1 b6s<|b1 b8q<|a0) Tryz.func29
theorem b4R:Ok0 43 b0L:=
 fo [] 1651 0 H43 (b1 b8p<|b1 b8r<|a0) Tryz.func43
theorem b8s:Ok0 12 b2m:=
 fo [] 1021 0 QH (b1 b1k<|b1 b4Q<|b1 b4R<|a0) Tryz.func12
theorem b7b:Ok0 121 b2n:=
 fo [] 13 0 QH a0 Tryz.func121
theorem b8t:Ok0 91 b0W:=
 fo [] 8189 0 H91 (b1 b1i<|b1 b4P<|b1 b6u<|b1 b4O<|b1 a9x<|b1 b1j<|b1 b6p<|b1 b7b<|a0) Tryz.func91
theorem b8u:Ok0 44 b0X:=
 fo [] 1917 0 H44 (b1 b1i<|b1 b1j<|b1 b8t<|a0) Tryz.func44
theorem b8v:Ok0 45 b0Y:=
 fo [] 647 0 H45 a0 Tryz.func45
theorem b8w:Ok0 13 b2o:=
 fo [] 61383 0 H13 (b1 b1k<|b1 b4Q<|b1 b4R<|b1 b8u<|b1 b8v<|a0) Tryz.func13
theorem b8x:Ok0 47 a8r:=
 fo [] 19 12 QH a0 Tryz.func47
theorem b6w:Ok0 15 a8c:=
 fo [] 51 0 H15 (b1 b8x<|a0) Tryz.func15
theorem b8y:Ok0 46 b3j:=
 fo [] 0 0 QH a0 Tryz.func46
theorem b8z:Ok0 14 b2p:=
 fo [] 65471 223338299392 H14 (b1 b6t<|b1 b8s<|b1 b8w<|b1 b6w<|b1 b1k<|b1 b8y<|a0) Tryz.func14
theorem b7c:Ok0 103 b0Z:=
 fo [] 5 0 QH a0 Tryz.func103
theorem b7d:Ok0 104 b2q:=
 fo [] 5 0 QH a0 Tryz.func104
theorem b5y:Ok0 105 b4L:=
 fo [] 115 0 b7G a0 Tryz.func105
theorem b6x:Ok0 74 b0M:=
 fo [] 61 2 H74 (b1 b7c<|b1 b7d<|b1 b5y<|a0) Tryz.func74
theorem b8A:Ok0 75 b2r:=
 fo [] 29 0 H75 a0 Tryz.func75
theorem b8B:Ok0 23 a9o:=
 fo [] 8189 0 H23 (b1 b6x<|b1 b8A<|a0) Tryz.func23
theorem b8C:Ok0 24 a8J:=
 fo [] 4083 0 H24 (b1 b6x<|a0) Tryz.func24
theorem b5z:Ok0 106 b1a:=
 fo [] 19 0 QH a0 Tryz.func106
theorem b5A:Ok0 107 b2t:=
 fo [] 13 2 b7H a0 Tryz.func107
theorem b5B:Ok0 108 a9p:=
 fo [] 61 0 b7I a0 Tryz.func108
theorem b8D:Ok0 76 a8K:=
 fo [] 61 2 H76 (b1 b5y<|b1 b5z<|b1 b5A<|b1 b5B<|a0) Tryz.func76
theorem b8E:Ok0 77 b2u:=
 fo [] 61 0 H77 (b1 b5A<|a0) Tryz.func77
theorem b8F:Ok0 25 a8L:=
 fo [] 2045 0 H25 (b1 b8D<|b1 b8E<|a0) Tryz.func25
theorem b8G:Ok0 31 b2v:=
 fo [(32,.list true (.list true Q17))] 4093 0 H31 (b1 b1k<|b1 b4Q<|b1 b4R<|a0) Tryz.func31
theorem b8H:Ok0 32 a8M:=
 fo [] 51 0 H32 a0 Tryz.func32
theorem b8I:Ok0 33 a9q:=
 fo [] 51 0 H33 (b1 b6w<|a0) Tryz.func33
theorem b7e:Ok0 124 b3Q:=
 fo [] 29 0 b7J a0 Tryz.func124
theorem b7f:Ok0 110 a9r:=
 fo [] 549894226659 0 b7K (b1 b5z<|b1 b5B<|b1 b7e<|a0) Tryz.func110
theorem b8J:Ok0 83 a9s:=
 fo [] 893 0 H83 (b1 b7f<|a0) Tryz.func83
theorem b7g:Ok0 111 a9t:=
 fo [] 19 12 QH a0 Tryz.func111
theorem b8K:Ok0 84 a8N:=
 fo [] 51 0 H84 (b1 b7g<|a0) Tryz.func84
theorem b8L:Ok0 34 a7x:=
 fo [] 115 0 QH (b1 b8J<|b1 b8K<|a0) Tryz.func34
theorem fs7:Ok0 7 a5o:=
 fo [] 536870855 0 H7 (b1 fs8<|b1 fs9<|b1 b6t<|b1 b6g<|b1 b8z<|b1 b1k<|b1 b8B<|b1 b8C<|b1 b8F<|b1 b8G<|b1 b8H<|b1 b8I<|b1 b8L<|a0) Tryz.func7
end Go.Ab
