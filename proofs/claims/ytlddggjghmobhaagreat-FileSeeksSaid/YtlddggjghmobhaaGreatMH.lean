/- Part of the proof: S. Conditions: as each statement tells. -/
import Derived.KernelRfl
import Derived.Test.YtlddggjghmobhaaGreatMG
noncomputable section
set_option linter.unusedSimpArgs false
set_option linter.unusedVariables false
namespace Go.Ab
open Go.Proofs
set_option maxRecDepth 100000
theorem mixed:Tryz.prog.follows .mixedOrders=true:=by kernel_rfl
theorem a8H:E0d Tryz.prog a5C=true:=by kernel_rfl
theorem a8I:E0b Tryz.prog a5q=true:=by kernel_rfl
theorem a8J:D0y Tryz.prog a5C a5P=true:=by kernel_rfl
theorem laidOut:laidOutB Tryz.prog=true:=by kernel_rfl
theorem a8K:B0f Tryz.prog b1m=true:=by kernel_rfl
@[reducible] def Ok0(n:Nat)(s:FSem):Prop:=h0p Tryz.prog G0 n s∧n0a Tryz.prog n
theorem cxo{a:List (Nat×FSem)}{b:List (Nat×Ty)}{c d:Nat}(h:∀p∈a,FOk Tryz.prog G0 p.1 p.2):CxOk Tryz.prog (b1X a b c d):=
 CxOk.of (CxTy.of (tab:=a5C) (l:=a5P) (q:=a5q) (fun _=>rfl) (fun _=>rfl) (fun _=>rfl) a8H a8I a8J (t0e.of a8K)) (fun _=>rfl) h
theorem b1{n:Nat}{s:FSem}{l:List (Nat×FSem)}(h:Ok0 n s)(g:∀p∈l,FOk Tryz.prog G0 p.1 p.2):∀p∈(n,s)::l,FOk Tryz.prog G0 p.1 p.2:=a1 (a:=(n,s)) h g
theorem fo {a : List (Nat × FSem)} (b : List (Nat × Ty)) (c d : Nat) (H : Hints) {n : Nat} {fn : Func} {e : Code} {s : FSem} (h : ∀ p ∈ a, FOk Tryz.prog G0 p.1 p.2) (hf : Tryz.prog.funcs[n]? = some fn) (hb : fn.body = some e :=by rfl) (hk : x0o fn e H s = true :=by kernel_rfl) (hn : (fn.name == "runtime.NumGoroutine") = false :=by kernel_rfl) (hq : ∀ x, D0j (b1X a b c d) H fn s.ps s.rs x = s.F x :=by intro x; kernel_rfl) : Ok0 n s :=
 ⟨h0p.of (cxo h) mixed hf hb hk hq,⟨_,_,hf,hb,hn⟩⟩
theorem b3h:Ok0 11 a5Q:=
 fo [] 71 0 H11 a0 Tryz.func11
theorem a7H:Ok0 36 a5A:=
 fo [] 19 0 H36 (b1 b3h<|a0) Tryz.func36
theorem b3Q:Ok0 125 a5H:=
 fo [] 19 0 QH a0 Tryz.func125
theorem b3R:Ok0 112 a5r:=
 fo [] 243 0 b4i (b1 a7H<|b1 b3Q<|a0) Tryz.func112
theorem b4u:Ok0 85 a5a:=
 fo [] 967 0 H85 (b1 a7H<|b1 b3R<|a0) Tryz.func85
theorem b4v:Ok0 35 a5b:=
 fo [] 115 0 H35 (b1 a7H<|b1 b4u<|a0) Tryz.func35
theorem b4w:Ok0 37 a5B:=
 fo [] 1 0 QH (b1 a7H<|a0) Tryz.func37
theorem b4x:Ok0 38 a5f:=
 fo [] 1 0 QH (b1 a7H<|a0) Tryz.func38
theorem fs8:Ok0 8 a9s:=
 fo [] 499 0 H8 (b1 b4v<|b1 a7H<|b1 b4w<|b1 b4x<|a0) Tryz.func8
theorem fs9:Ok0 9 a6L:=
 fo [] 5 0 QH a0 Tryz.func9
theorem b3i:Ok0 93 a8g:=
 fo [] 5 0 QH a0 Tryz.func93
theorem b3S:Ok0 101 a8h:=
 fo [] 51 0 b4j (b1 b3i<|a0) Tryz.func101
theorem b3T:Ok0 102 a4K:=⟨b1S _,⟨_,_,Tryz.func102,rfl,by kernel_rfl⟩⟩
theorem a8L:Ok0 72 a9t:=
 fo [] 51 0 QH (b1 b3S<|b1 b3T<|a0) Tryz.func72
theorem b3j:Ok0 94 a9u:=
 fo [] 19 0 QH a0 Tryz.func94
theorem b3k:Ok0 57 b0G:=
 fo [] 29 2 H57 (b1 a8L<|b1 b3j<|a0) Tryz.func57
theorem b0N:Ok0 64 a8i:=
 fo [] 5 0 QH a0 Tryz.func64
theorem b4y:Ok0 58 a8j:=
 fo [] 1 0 QH (b1 b0N<|a0) Tryz.func58
theorem b4z:Ok0 61 a8k:=
 fo [] 45 0 H61 a0 Tryz.func61
theorem b4A:Ok0 96 a6s:=
 fo [] 5 0 QH a0 Tryz.func96
theorem b4B:Ok0 62 a5R:=
 fo [] 115 0 QH (b1 b4A<|a0) Tryz.func62
theorem b4C:Ok0 97 a7c:=
 fo [] 5 0 QH a0 Tryz.func97
theorem b4D:Ok0 63 a6t:=
 fo [] 115 0 QH (b1 b4C<|a0) Tryz.func63
theorem b3l:Ok0 60 a6m:=
 fo [] 19 12 H60 (b1 b4z<|b1 b4B<|b1 b4D<|a0) Tryz.func60
theorem b3U:Ok0 122 a3l:=
 fo [] 783 0 b4k (b1 b3l<|a0) Tryz.func122
theorem b3V:Ok0 139 a3J:=
 fo [] 1055 0 b4l a0 Tryz.func139
theorem b3W:Ok0 128 a2p:=
 fo [] 3103 0 b4m (b1 b3V<|a0) Tryz.func128
theorem b2H:∀fu,h0p Tryz.prog G0 123 (a1b fu)∧n0a Tryz.prog 123
 |0=>⟨(fun _ _ _ _ _ y _ h=>by cases (show(none:Option _)=some y from h)),⟨_,_,Tryz.func123,rfl,by kernel_rfl⟩⟩
 |fu+1=>⟨h0p.of (CxOk.of (CxTy.of (cx:=b2E fu) (tab:=a5C) (l:=a5P) (q:=a5q) (fun _=>rfl) (fun _=>rfl) (fun _=>rfl) a8H a8I a8J (t0e.of a8K)) (fun _=>rfl) (a1 b3l (a1 (b2H fu) (a1 b3W a0)))) mixed Tryz.func123 rfl (by kernel_rfl) (b3O fu),⟨_,_,Tryz.func123,rfl,by kernel_rfl⟩⟩
theorem b4E:Ok0 95 a4a:=
 fo [] 967 0 H95 (b1 b3U<|b1 (b2H 64)<|a0) Tryz.func95
theorem b4F:Ok0 59 a2x:=
 fo [] 3 0 QH (b1 b4E<|a0) Tryz.func59
theorem b4G:Ok0 17 a9v:=
 fo [] 14141 0 H17 (b1 b3k<|b1 b4y<|b1 b4F<|a0) Tryz.func17
theorem b4H:Ok0 18 a8u:=
 fo [] 126707 0 H18 (b1 b3k<|b1 b0N<|a0) Tryz.func18
theorem a7I:Ok0 54 a7d:=
 fo [] 109 0 H54 a0 Tryz.func54
theorem b2I:Ok0 100 a7l:=
 fo [] 5 0 QH a0 Tryz.func100
theorem b0O:Ok0 68 a8v:=
 fo [] 61 2 H68 (b1 a7I<|b1 a8L<|b1 b3j<|b1 b2I<|a0) Tryz.func68
theorem b1Z:Ok0 65 a3D:=
 fo [] 29 2 QH (b1 b0O<|a0) Tryz.func65
theorem b3m:Ok0 66 a4l:=
 fo [] 1 0 QH a0 Tryz.func66
theorem b3n:Ok0 98 a8w:=
 fo [] 13 2 H98 a0 Tryz.func98
theorem b3o:Ok0 99 a8x:=
 fo [] 115 0 H99 a0 Tryz.func99
theorem b4I:Ok0 67 a8y:=
 fo [] 313 0 H67 (b1 b3n<|b1 b3o<|a0) Tryz.func67
theorem b4J:Ok0 19 a8z:=
 fo [] 477 0 H19 (b1 b1Z<|b1 b3m<|b1 b4I<|a0) Tryz.func19
theorem b4K:Ok0 20 a8A:=
 fo [] 413 0 H20 (b1 b0O<|a0) Tryz.func20
theorem b4L:Ok0 86 b0H:=
 fo [] 5 2 QH a0 Tryz.func86
theorem b3X:Ok0 113 a8l:=
 fo [] 5 0 QH a0 Tryz.func113
theorem b4M:Ok0 87 a8m:=
 fo [] 5 2 QH (b1 b3X<|a0) Tryz.func87
theorem b4N:Ok0 88 a8n:=
 fo [] 19 0 QH a0 Tryz.func88
theorem b3p:Ok0 39 b0I:=
 fo [] 17179869701 2 QH (b1 b4L<|b1 b4M<|b1 b4N<|a0) Tryz.func39
theorem b3q:Ok0 69 a7e:=
 fo [] 19 0 QH a0 Tryz.func69
theorem b3r:Ok0 70 a9w:=
 fo [] 45 0 H70 a0 Tryz.func70
theorem b4O:Ok0 71 a9x:=
 fo [] 5 0 QH a0 Tryz.func71
theorem b4P:Ok0 21 a8o:=
 fo [] 2509 0 H21 (b1 a7I<|b1 b3q<|b1 b3r<|b1 b4O<|b1 a8L<|a0) Tryz.func21
theorem a8M:Ok0 48 a9y:=
 fo [] 5 0 QH a0 Tryz.func48
theorem b2a:Ok0 53 a6o:=
 fo [] 5 0 H53 a0 Tryz.func53
theorem b3s:Ok0 49 a6p:=
 fo [] 51 0 H49 (b1 b2a<|a0) Tryz.func49
theorem a8N:Ok0 56 a6u:=
 fo [] 179 0 H56 (b1 b3s<|b1 b3i<|a0) Tryz.func56
theorem b3t:Ok0 73 a9z:=
 fo [] 505 0 H73 (b1 a8M<|b1 a8N<|b1 b0N<|a0) Tryz.func73
theorem b4Q:Ok0 22 b0J:=
 fo [] 717 0 H22 (b1 b0O<|b1 b3t<|a0) Tryz.func22
theorem b4R:Ok0 40 a8p:=
 fo [] 381 0 H40 (b1 b4P<|b1 b4Q<|b1 a8L<|a0) Tryz.func40
theorem b4S:Ok0 41 a8q:=
 fo [] 13 0 H41 (b1 a7I<|b1 b3r<|b1 a8L<|a0) Tryz.func41
theorem b3u:Ok0 10 a8B:=
 fo [] 7987 0 H10 (b1 b4G<|b1 b4H<|b1 b4J<|b1 b4K<|b1 b3p<|b1 b4R<|b1 b4S<|a0) Tryz.func10
theorem b4T:Ok0 92 a7E:=
 fo [] 253 0 H92 a0 Tryz.func92
theorem b2b:Ok0 50 a6v:=
 fo [] 243 0 H50 (b1 b4T<|a0) Tryz.func50
theorem b4U:Ok0 51 a9A:=
 fo [] 1 0 QH (b1 b2b<|a0) Tryz.func51
theorem b3v:Ok0 52 a6w:=
 fo [] 5 0 QH a0 Tryz.func52
theorem b4V:Ok0 55 a6M:=
 fo [] 5 0 QH a0 Tryz.func55
theorem b2c:Ok0 16 a9B:=
 fo [] 2557 0 H16 (b1 b3p<|b1 a8M<|b1 b3s<|b1 b2b<|b1 b4U<|b1 b3v<|b1 b2a<|b1 a7I<|b1 b4V<|b1 a8N<|a0) Tryz.func16
theorem b3Y:Ok0 114 a9C:=
 fo [] 8163 0 b4o (b1 a8M<|b1 a7I<|b1 a8N<|b1 b0N<|b1 b2I<|a0) Tryz.func114
theorem b4W:Ok0 89 a9D:=
 fo [] 893 0 H89 (b1 b3Y<|a0) Tryz.func89
theorem b3Z:Ok0 115 a3Y:=
 fo [] 5 2 QH a0 Tryz.func115
theorem b4a(h:Int)(mL):h0p Tryz.prog { G0 with m:=some ⟨b2F,h,mL⟩ } 116 (a2w h mL)∧n0a Tryz.prog 116:=
 ⟨h0p.of (CxOk.of (CxTy.of (cx:=b2G h mL) (tab:=a5C) (l:=a5P) (q:=a5q) (fun _=>rfl) (fun _=>rfl) (fun _=>rfl) a8H a8I a8J (t0e.of a8K)) (fun _=>rfl) a0) mixed Tryz.func116 rfl (by kernel_rfl) (b3P h mL),⟨_,_,Tryz.func116,rfl,by kernel_rfl⟩⟩
theorem b4b:Ok0 117 a3F:=
 fo [] 42887 8 b4q (b1 b1Z<|b1 b3n<|b1 b3o<|a0) Tryz.func117
theorem b4c:Ok0 118 a1n:=⟨b1l _,⟨_,_,Tryz.func118,rfl,by kernel_rfl⟩⟩
theorem b4d:Ok0 120 a4w:=
 fo [] 115 0 b4r a0 Tryz.func120
theorem b1p:∀q∈([(65,a3D),(66,a4l),(115,a3Y),(117,a3F),(118,a1n),(120,a4w)]:List (Nat×FSem)),FOk Tryz.prog G0 q.1 q.2:=(a1 b1Z (a1 b3m (a1 b3Z (a1 b4b (a1 b4c (a1 b4d a0))))))
theorem b3w:∀μ,CxOk Tryz.prog (b0K μ)
 |none=>CxOk.of (CxTy.of (cx:=b0K none) (tab:=a5C) (l:=a5P) (q:=a5q) (fun _=>rfl) (fun _=>rfl) (fun _=>rfl) a8H a8I a8J (t0e.of a8K)) (fun _=>rfl) b1p
 |some p=>CxOk.of (CxTy.of (cx:=b0K (some p)) (tab:=a5C) (l:=a5P) (q:=a5q) (fun _=>rfl) (fun _=>rfl) (fun _=>rfl) a8H a8I a8J (t0e.of a8K)) (fun _=>rfl) (D0i (a:=(116,a2w p.1 p.2)) (.inl (b4a p.1 p.2)) (fun q h=>FOk.withM (G:=G0) rfl (b1p q h) _))
theorem b4X:Ok0 90 a9E:=
 ⟨h0p.ofM b3w (fun _=>rfl) mixed Tryz.func90 rfl (by kernel_rfl) (fun x y h=>(b4t x).trans (E0i (b2N x y h))),⟨_,_,Tryz.func90,rfl,by kernel_rfl⟩⟩
theorem b3x:Ok0 42 a7F:=
 fo [] 61 0 QH (b1 b4W<|b1 b4X<|a0) Tryz.func42
theorem b4Y:Ok0 28 b0L:=
 fo [(5,.pair QI Q8),(6,.pair QI Q8)] 5 0 QH a0 Tryz.func28
theorem b4Z:Ok0 82 a6q:=
 fo [] 1 0 QH a0 Tryz.func82
theorem b5a:Ok0 29 a6N:=
 fo [] 1523 2596306885592442342940435252510728 H29 (b1 b0O<|b1 b3t<|b1 b4Z<|a0) Tryz.func29
theorem b3y:Ok0 43 a8r:=
 fo [] 1651 0 H43 (b1 b4Y<|b1 b5a<|a0) Tryz.func43
theorem b3z:Ok0 12 a9F:=
 fo [] 1021 0 QH (b1 b2c<|b1 b3x<|b1 b3y<|a0) Tryz.func12
theorem b4e:Ok0 121 a9G:=
 fo [] 13 0 QH a0 Tryz.func121
theorem b5b:Ok0 91 a8C:=
 fo [] 8189 0 H91 (b1 a8M<|b1 b2b<|b1 b3v<|b1 b2a<|b1 a7I<|b1 a8N<|b1 b3q<|b1 b4e<|a0) Tryz.func91
theorem b5c:Ok0 44 a8D:=
 fo [] 1917 0 H44 (b1 a8M<|b1 a8N<|b1 b5b<|a0) Tryz.func44
theorem b5d:Ok0 45 a8E:=
 fo [] 647 0 H45 a0 Tryz.func45
theorem b3A:Ok0 13 a9H:=
 fo [] 61383 0 H13 (b1 b2c<|b1 b3x<|b1 b3y<|b1 b5c<|b1 b5d<|a0) Tryz.func13
theorem b5e:Ok0 47 a7f:=
 fo [] 19 12 QH a0 Tryz.func47
theorem b3B:Ok0 15 a6O:=
 fo [] 51 0 H15 (b1 b5e<|a0) Tryz.func15
theorem b5f:Ok0 46 b0M:=
 fo [] 0 0 QH a0 Tryz.func46
theorem b5g:Ok0 14 a9I:=
 fo [] 65471 223338299392 H14 (b1 b3u<|b1 b3z<|b1 b3A<|b1 b3B<|b1 b2c<|b1 b5f<|a0) Tryz.func14
theorem fs3:Ok0 3 a4C:=
 fo [] 1048519 0 H3 (b1 fs8<|b1 fs9<|b1 b3u<|b1 b3h<|b1 b3z<|b1 b3A<|b1 b5g<|b1 b3B<|a0) Tryz.func3
end Go.Ab
