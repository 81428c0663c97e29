/- Part of the proof: S. Conditions: as each statement tells. -/
import Derived.KernelRfl
import Derived.Test.YtpckgfbgijdfnaaGreatDoorME
noncomputable section
set_option linter.unusedSimpArgs false
set_option linter.unusedVariables false
namespace Go.Ab
variable {n:Nat}{s:FSem}
open Go.Proofs
set_option maxRecDepth 100000
theorem b2Z:Tryz.prog.follows .mixedOrders=true:=by kernel_rfl
theorem d7z:B0d Tryz.prog c2h=true:=by kernel_rfl
theorem d7A:B0b Tryz.prog c2q=true:=by kernel_rfl
theorem d7B:A0y Tryz.prog c2h c6l=true:=by kernel_rfl
theorem laidOut:laidOutB Tryz.prog=true:=by kernel_rfl
@[reducible] def Ok0(n:Nat)(s:FSem):Prop:=i0y Tryz.prog G0 n s∧l0x Tryz.prog n
theorem cxo{a:List (Nat×FSem)}{b:List (Nat×Ty)}{c d:Nat}(h:∀p∈a,FOk Tryz.prog G0 p.1 p.2):CxOk Tryz.prog (b5s a b c d):=
 CxOk.of (CxTy.of (tab:=c2h) (l:=c6l) (q:=c2q) (fun _=>rfl) (fun _=>rfl) (fun _=>rfl) d7z d7A d7B) (fun _=>rfl) h
theorem b1{l:List (Nat×FSem)}(h:Ok0 n s)(g:∀p∈l,FOk Tryz.prog G0 p.1 p.2):∀p∈(n,s)::l,FOk Tryz.prog G0 p.1 p.2:=a1 (a:=(n,s)) h g
theorem b2{l:List (Nat×FSem)}(h:A0f Tryz.prog G0 n s)(g:∀p∈l,FOk Tryz.prog G0 p.1 p.2):∀p∈(n,s)::l,FOk Tryz.prog G0 p.1 p.2:=B0g (a:=(n,s)) h g
theorem fo{a:List (Nat × FSem)}(b : List (Nat × Ty))(c d : Nat)(H : Hints){fn:Func}{e:Code}(h : ∀ p ∈ a, FOk Tryz.prog G0 p.1 p.2)(hf : Tryz.prog.funcs[n]? = some fn)(hb : fn.body = some e :=by rfl)(hk : A0m fn e H s = true :=by kernel_rfl)(hn : (fn.name == "runtime.NumGoroutine") = false :=by kernel_rfl)(hq : ∀ x, A0j (b5s a b c d) H fn s.ps s.rs x = s.F x :=by intro x; kernel_rfl): Ok0 n s :=
 ⟨i0y.of (cxo h) b2Z hf hb hk hq,⟨_,_,hf,hb,hn⟩⟩
theorem d2V:Ok0 85 c1q:=
 fo [] 5 0 QH a0 Tryz.func85
theorem b9A:Ok0 45 c1r:=
 fo [] 5 2 QH (b1 d2V<|a0) Tryz.func45
theorem d2W:Ok0 78 c4s:=
 fo [] 5 0 QH a0 Tryz.func78
theorem d4n:Ok0 127 b9i:=
 fo [] 253 0 d6g a0 Tryz.func127
theorem d2X:Ok0 79 b5t:=
 fo [] 243 0 H79 (b1 d4n<|a0) Tryz.func79
theorem d2Y:Ok0 80 b5u:=
 fo [] 5 0 QH a0 Tryz.func80
theorem c9y:Ok0 81 b5k:=
 fo [] 5 0 H81 a0 Tryz.func81
theorem d4o:Ok0 128 b5l:=
 fo [] 51 0 d6h (b1 c9y<|a0) Tryz.func128
theorem d1m:Ok0 129 c1s:=
 fo [] 5 0 QH a0 Tryz.func129
theorem d7C:Ok0 82 b5v:=
 fo [] 179 0 H82 (b1 d4o<|b1 d1m<|a0) Tryz.func82
theorem d2Z:Ok0 83 b6o:=
 fo [] 5 0 QH a0 Tryz.func83
theorem d3a:Ok0 84 b7e:=
 fo [] 109 0 H84 a0 Tryz.func84
theorem d7D:Ok0 37 b7O:=
 fo [(4,.pair Q12 Q21)] 745 0 H37 (b1 b9A<|b1 d2W<|b1 d2X<|b1 d2Y<|b1 c9y<|b1 d7C<|b1 d2Z<|b1 d3a<|a0) Tryz.func37
theorem c6A:Ok0 22 c4t:=
 fo [] 5 2 QH a0 Tryz.func22
theorem d4p:Ok0 124 c2r:=
 fo [] 5 0 d6i a0 Tryz.func124
theorem d4q:Ok0 125 c1t:=
 fo [] 5 0 d6j a0 Tryz.func125
theorem b9B:Ok0 71 c1u:=
 fo [] 19 0 QH (b1 d4p<|b1 d4q<|a0) Tryz.func71
theorem b9C:Ok0 44 c4u:=
 fo [] 85 2 H44 (b1 c6A<|b1 b9B<|b1 d2V<|a0) Tryz.func44
theorem c9z:Ok0 88 b7P:=
 fo [] 19 0 H88 a0 Tryz.func88
theorem d3b:Ok0 62 c1v:=
 fo [] 5 2 QH (b1 b9A<|b1 c9z<|a0) Tryz.func62
theorem c9A:Ok0 91 c1w:=
 fo [] 21 0 H91 a0 Tryz.func91
theorem c6B:Ok0 102 c2s:=
 fo [] 5 0 QH a0 Tryz.func102
theorem c6C:Ok0 148 c2t:=
 fo [] 83 0 d6k a0 Tryz.func148
theorem c6D:Ok0 149 c6m:=
 fo [] 83 8 d6l a0 Tryz.func149
theorem d1n:Ok0 181 c1x:=
 fo [] 5 2 QH a0 Tryz.func181
theorem c6E:Ok0 150 b6A:=
 fo [] 5 0 d6m (b1 d1n<|a0) Tryz.func150
theorem c6F:Ok0 112 c7X:=
 fo [] 4611688217584863559 16 d6n (b1 c6C<|b1 c6D<|b1 c6E<|a0) Tryz.func112
theorem c6G:Ok0 113 c2u:=
 fo [] 70291 4 d6o a0 Tryz.func113
theorem c2S:Ok0 65 a1P:=
 ⟨i0y.of (cx:=d2P) (cxo a0) b2Z Tryz.func65 rfl (by kernel_rfl) d6p,⟨_,_,Tryz.func65,rfl,by kernel_rfl⟩⟩
theorem d1o:Ok0 65 a2E:=
 ⟨i0y.of (cx:=d1k) (cxo a0) b2Z Tryz.func65 rfl (by kernel_rfl) d4k,⟨_,_,Tryz.func65,rfl,by kernel_rfl⟩⟩
theorem d3c:Ok0 170 a1o:=
 ⟨i0y.of (cx:=c7Y) (cxo a0) b2Z Tryz.func170 rfl (by kernel_rfl) d2Q,⟨_,_,Tryz.func170,rfl,by kernel_rfl⟩⟩
theorem d1p:Ok0 139 c2v:=
 fo [] 43523 8 d6q (b1 d1o<|b1 d3c<|a0) Tryz.func139
theorem d4r:Ok0 153 c4v:=
 fo [] 5 2 QH (b1 d1p<|a0) Tryz.func153
theorem c6H:Ok0 151 c4w:=
 fo [] 19 0 QH a0 Tryz.func151
theorem b8a:Ok0 144 c1y:=
 fo [] 455 0 d6r (b1 c6H<|a0) Tryz.func144
theorem d1q:Ok0 154 c4x:=
 fo [] 711 8 d6s (b1 b8a<|a0) Tryz.func154
theorem d4s:Ok0 117 c2w:=
 fo [] 51 4 d6t (b1 c9A<|b1 c6B<|b1 c6F<|b1 c6G<|b1 d4r<|b1 d1q<|a0) Tryz.func117
theorem d1r:Ok0 183 c2x:=
 fo [] 21 0 d6u a0 Tryz.func183
theorem d4t:Ok0 205 b7Q:=
 fo [] 11 0 QH a0 Tryz.func205
theorem d4u:Ok0 184 c1z:=
 fo [] 4296020275 0 QH (b1 d4t<|a0) Tryz.func184
theorem d4v:Ok0 155 c2y:=
 fo [] 3527 0 d6v (b1 d1r<|b1 d4u<|a0) Tryz.func155
theorem c6I:Ok0 187 c1A:=
 fo [] 5 0 QH a0 Tryz.func187
theorem c6J:Ok0 185 b7f:=
 fo [] 21 0 d6w (b1 c6I<|a0) Tryz.func185
theorem d1s:Ok0 186 b7g:=
 fo [] 1991 0 d6x a0 Tryz.func186
theorem d4w:Ok0 156 c1B:=
 fo [] 14095 0 d6y (b1 c6C<|b1 c6J<|b1 d1s<|b1 c6I<|a0) Tryz.func156
theorem c6K:Ok0 190 c4y:=
 fo [] 5 0 QH a0 Tryz.func190
theorem c6L:Ok0 188 b9j:=
 fo [] 21 0 d6z (b1 c6K<|a0) Tryz.func188
theorem d1t:Ok0 189 b9k:=
 fo [] 7951 128 d6A a0 Tryz.func189
theorem d4x:Ok0 157 c4z:=
 fo [] 4039 32 d6B (b1 c6D<|b1 c6L<|b1 d1t<|b1 c6K<|a0) Tryz.func157
theorem c6M:Ok0 195 b5w:=
 fo [] 5 0 QH a0 Tryz.func195
theorem d1u:Ok0 191 b2X:=
 fo [] 21 0 d6C (b1 c6M<|a0) Tryz.func191
theorem d1v:Ok0 193 b6B:=
 fo [(15,.pair QI Q14),(16,.pair QI Q14)] 13 2 d6D (b1 d1n<|a0) Tryz.func193
theorem d1w:Ok0 207 b7R:=
 fo [] 5 0 QH a0 Tryz.func207
theorem c6N:Ok0 194 a9P:=
 fo [] 61 0 d6E (b1 d1w<|a0) Tryz.func194
theorem d1x:Ok0 196 b0P:=
 fo [] 4202995 0 d6F (b1 c6N<|b1 d1w<|a0) Tryz.func196
theorem d4y:Ok0 158 a9R:=
 ⟨i0y.ofR (cx:=d1l) (cxo (a1 c2S (a1 c6E (a1 d1u (a1 d1v (a1 c6N (a1 c6M (a1 d1x a0)))))))) b2Z (r:=d2R) ⟨d1P,d1Q⟩ Tryz.func158 rfl (by kernel_rfl) d4l,⟨_,_,Tryz.func158,rfl,by kernel_rfl⟩⟩
theorem d1y:Ok0 133 c1C:=
 fo [] 5 0 QH a0 Tryz.func133
theorem d4z:Ok0 159 c4A:=
 fo [] 371 0 d6H (b1 d1y<|a0) Tryz.func159
theorem d4A:Ok0 118 c6n:=
 fo [] 604462927822812893676787 4 d6I (b1 d4v<|b1 d4w<|b1 d4x<|b1 d4y<|b1 d4z<|a0) Tryz.func118
theorem d3d:Ok0 63 c7Z:=
 fo [] 243 4 QH (b1 d4s<|b1 d4A<|a0) Tryz.func63
theorem d1z:Ok0 132 c4B:=
 fo [] 5 0 QH a0 Tryz.func132
theorem c9B:Ok0 87 b6C:=
 fo [] 85 0 H87 (b1 d1z<|a0) Tryz.func87
theorem d3e:Ok0 89 b4W:=
 fo [(15,.list true (.list true QI))] 45 0 H89 (b1 c2S<|a0) Tryz.func89
theorem d3f:Ok0 90 b5x:=
 fo [] 967 16 H90 (b1 d1z<|a0) Tryz.func90
theorem d7E:Ok0 64 b1l:=
 ⟨i0y.ofR (cx:=d2S) (cxo (a1 c9B (a1 c9z (a1 d3e (a1 d3f a0))))) b2Z (r:=R64) ⟨d1R,d1S⟩ Tryz.func64 rfl (by kernel_rfl) d6J,⟨_,_,Tryz.func64,rfl,by kernel_rfl⟩⟩
theorem c2T:Ok0 25 c1D:=
 fo [] 1945 2 H25 (b1 b9C<|b1 d3b<|b1 d3d<|b1 d7E<|a0) Tryz.func25
theorem d3g:Ok0 49 c4C:=
 fo [] 21 2 QH (b1 c2T<|a0) Tryz.func49
theorem d3h:Ok0 55 b9l:=
 fo [] 109 0 H55 a0 Tryz.func55
theorem d1A:Ok0 107 c2z:=
 fo [] 109 0 d6K a0 Tryz.func107
theorem d4B:Ok0 110 c4D:=
 fo [] 13 0 QH a0 Tryz.func110
theorem d7F:Ok0 56 b7S:=
 fo [(2,.pair QI Q55),(15,.pair QI Q54),(26,.pair QI Q54),(83,.pair QI Q54),(88,.pair QI Q54),(101,.pair QI Q54),(105,.pair QI Q54)] 4089 0 H56 (b1 d3b<|b1 d2W<|b1 d2X<|b1 d2Y<|b1 c9y<|b1 d2Z<|b1 d1A<|b1 d4B<|a0) Tryz.func56
theorem d7G:Ok0 57 c6o:=
 fo [] 5 0 QH a0 Tryz.func57
theorem b9D:Ok0 61 b6p:=
 fo [] 5 0 QH a0 Tryz.func61
theorem d3i:Ok0 97 c8a:=
 fo [] 115 4 QH (b1 d3d<|a0) Tryz.func97
theorem b7n:Ok0 98 b9m:=
 fo [] 45 0 H98 (b1 b9B<|a0) Tryz.func98
theorem d3j:Ok0 59 b5y:=
 fo [] 5 0 H59 a0 Tryz.func59
theorem c6O:Ok0 116 b5z:=
 fo [] 19 0 QH a0 Tryz.func116
theorem b6c:Ok0 146 b6q:=
 fo [] 51 0 d6L (b1 d3j<|b1 c6O<|a0) Tryz.func146
theorem c2i:Ok0 114 b4g:=
 fo [] 51 0 d6M (b1 b6c<|a0) Tryz.func114
theorem d4C:Ok0 147 b9n:=
 fo [] 115 0 d6N (b1 b7n<|b1 c2i<|b1 b6c<|a0) Tryz.func147
theorem d4D:Ok0 111 c1E:=
 fo [(2,.pair QI Q39)] 178258169 0 d6O (b1 c2i<|b1 b6c<|b1 d4C<|a0) Tryz.func111
theorem c6P:Ok0 177 b7h:=
 fo [] 5 0 QH a0 Tryz.func177
theorem d4E:Ok0 209 b5m:=
 fo [] 115 0 d6P (b1 c6O<|a0) Tryz.func209
theorem d4F:Ok0 210 c1F:=
 fo [] 77 0 QH a0 Tryz.func210
theorem d4G:Ok0 204 c6p:=
 fo [] 499 0 d6Q (b1 b9D<|b1 b6c<|b1 d4E<|b1 d4F<|a0) Tryz.func204
theorem d4H:Ok0 182 c6q:=
 fo [] 1991 0 d6R (b1 b9D<|b1 c6P<|b1 d4G<|a0) Tryz.func182
theorem d4I:Ok0 152 c4E:=
 fo [] 4083 0 d6S (b1 b9D<|b1 b7n<|b1 c2i<|b1 b6c<|b1 d4H<|a0) Tryz.func152
theorem d4J:Ok0 115 c4F:=
 fo [(11,.pair QI Q1),(41,.pair QI Q1)] 251783 0 d6T (b1 b9D<|b1 b8a<|b1 b6c<|b1 c6H<|b1 d4I<|a0) Tryz.func115
theorem d7H:Ok0 58 c8b:=
 fo [(7,.pair QI (.pair QI (.pair QI (.pair QI (.pair QI (.pair QL (.pair (.arr 3 QI) (.pair (.list false Q3) Q23))))))))] 8035 0 H58 (b1 b9D<|b1 d3i<|b1 b7n<|b1 c6B<|b1 d4D<|b1 c6F<|b1 c6G<|b1 c2i<|b1 d4J<|a0) Tryz.func58
theorem d7I:Ok0 60 b5n:=
 fo [] 13 0 H60 (b1 c6O<|a0) Tryz.func60
theorem d7J:Ok0 24 c2A:=
 fo [(5,.pair QI Q56)] 6105 0 H24 (b1 d3g<|b1 d3h<|b1 d7F<|b1 d7G<|b1 d7H<|b1 d3j<|b1 d7I<|b1 b9D<|a0) Tryz.func24
theorem d7K:Ok0 38 b7i:=
 fo [] 110623 64 H38 (b1 d7J<|b1 c2T<|a0) Tryz.func38
theorem d4K:Ok0 121 b6r:=
 fo [] 16371 0 QH a0 Tryz.func121
theorem d4L:A0f Tryz.prog G0 122 b6s:=c9o _
theorem d4M:Ok0 208 b6t:=
 fo [] 5 0 d6U a0 Tryz.func208
theorem d4N:Ok0 197 b1R:=
 fo [] 5 0 QH (b1 d4M<|a0) Tryz.func197
theorem d4O:Ok0 161 b6u:=
 fo [] 524231 0 d6V (b1 d4N<|a0) Tryz.func161
theorem d4P:Ok0 123 b6v:=
 fo [] 455 0 QH (b1 d4O<|a0) Tryz.func123
theorem c9C:Ok0 68 c4G:=
 fo [] 967 0 QH (b1 d4K<|b2 d4L<|b1 d4P<|a0) Tryz.func68
theorem d7L:Ok0 69 c2B:=
 fo [] 29 0 H69 (b1 c9C<|a0) Tryz.func69
theorem d3k:Ok0 29 c4H:=
 fo [] 199 0 H29 (b1 c9C<|b1 d7L<|a0) Tryz.func29
theorem d3l:Ok0 41 c1G:=
 fo [] 93 2 H41 (b1 c6A<|b1 b9C<|a0) Tryz.func41
theorem d4Q:Ok0 126 c1H:=
 fo [] 1779 0 d6W (b1 b9B<|a0) Tryz.func126
theorem d3m:Ok0 76 c2C:=
 fo [] 13 2 H76 (b1 d3l<|b1 b9C<|b1 d4Q<|a0) Tryz.func76
theorem d3n:Ok0 77 c2D:=
 fo [] 45 0 H77 (b1 c9C<|a0) Tryz.func77
theorem c9D:Ok0 39 b9o:=
 fo [] 243 8 QH (b1 d3k<|b1 d3m<|b1 d3n<|a0) Tryz.func39
theorem b9E:Ok0 14 c2E:=
 fo [(6,.pair Q12 Q71),(20,.pair Q12 Q70),(24,.pair Q12 Q70),(48,.pair Q12 Q70),(90,.pair Q12 Q70),(96,.pair Q12 Q70)] 5033 0 H14 (b1 d7D<|b1 d7K<|b1 c9D<|a0) Tryz.func14
theorem d3o:Ok0 47 c8c:=
 fo [] 115 0 H47 (b1 c9B<|b1 c9z<|b1 d3e<|b1 d3f<|a0) Tryz.func47
theorem d4R:Ok0 130 c1I:=
 fo [] 237 0 d6X (b1 c9B<|a0) Tryz.func130
theorem d4S:Ok0 131 c2F:=
 fo [] 135445 0 QH a0 Tryz.func131
theorem d7M:Ok0 86 c4I:=
 fo [] 509 0 H86 (b1 d3o<|b1 d4R<|b1 d4S<|a0) Tryz.func86
theorem d7N:Ok0 46 c4J:=
 fo [] 29 2 H46 (b1 b9C<|b1 d7M<|a0) Tryz.func46
theorem d3p:Ok0 92 c1J:=
 fo [] 371 0 H92 (b1 d1y<|a0) Tryz.func92
theorem d4T:Ok0 134 a1r:=
 ⟨i0y.of (cx:=a9W) (cxo a0) b2Z Tryz.func134 rfl (by kernel_rfl) d4m,⟨_,_,Tryz.func134,rfl,by kernel_rfl⟩⟩
theorem d3q:Ok0 93 b7T:=
 fo [] 45 0 H93 (b1 d4T<|a0) Tryz.func93
theorem d1B:Ok0 162 c2I:=
 fo [] 243 0 d6Y (b1 d1r<|a0) Tryz.func162
theorem d4U:Ok0 163 c1K:=
 fo [] 243 0 d6Z a0 Tryz.func163
theorem d4V:Ok0 135 c2J:=
 fo [] 509 0 d7a (b1 d1B<|b1 d4U<|a0) Tryz.func135
theorem d1C:Ok0 200 b9q:=
 fo [] 5 0 QH a0 Tryz.func200
theorem d4W:Ok0 198 b7U:=
 fo [] 493 0 d7b (b1 d1C<|a0) Tryz.func198
theorem d4X:Ok0 199 b5o:=
 fo [] 1991 0 d7c a0 Tryz.func199
theorem d4Y:Ok0 164 b7j:=
 fo [] 16371 0 d7d (b1 c2S<|b1 c6J<|b1 d4W<|b1 d4X<|b1 d1C<|a0) Tryz.func164
theorem d4Z:Ok0 165 b9r:=
 fo [] 4077 0 d7e a0 Tryz.func165
theorem d5a:Ok0 166 b9s:=
 fo [] 28531 0 d7f (b1 b9B<|a0) Tryz.func166
theorem d1D:Ok0 137 c1L:=
 fo [] 4039 0 QH (b1 d4Y<|b1 d4Z<|b1 d5a<|a0) Tryz.func137
theorem d5b:Ok0 167 c4K:=
 fo [] 16327 0 d7g (b1 c6L<|a0) Tryz.func167
theorem c6Q:Ok0 169 c4L:=
 fo [] 4039 32 d7h (b1 c6D<|b1 c6L<|b1 d1t<|b1 c6K<|a0) Tryz.func169
theorem d5c:Ok0 201 c2K:=
 fo [] 1 0 QH a0 Tryz.func201
theorem d5d:Ok0 168 c4M:=
 fo [] 47523 0 d7i (b1 c6Q<|b1 d5c<|a0) Tryz.func168
theorem d5e:Ok0 138 c2L:=
 fo [] 953 0 QH (b1 d1D<|b1 d5b<|b1 d5d<|b1 c6Q<|a0) Tryz.func138
theorem d5f:Ok0 136 b5C:=
 fo [] 463 0 QH (b1 d1D<|a0) Tryz.func136
theorem d7O:Ok0 94 b7k:=
 fo [(5,.list true Q42)] 851 147573952589676412928 H94 (b1 d4V<|b1 d5f<|b1 d5e<|a0) Tryz.func94
theorem d5g:Ok0 171 c1M:=
 fo [] 1991 0 d7j (b1 c6C<|b1 c6J<|b1 d1s<|b1 c6I<|a0) Tryz.func171
theorem d5h:Ok0 172 c2M:=
 fo [] 15987 0 d7k (b1 c2S<|b1 c6E<|b1 d1u<|b1 d1v<|b1 c6N<|b1 c6M<|b1 d1x<|a0) Tryz.func172
theorem d5i:Ok0 140 c4N:=
 fo [] 147573952727119562867 0 d7l (b1 c2S<|b1 c6G<|b1 d1B<|b1 c6Q<|b1 d5g<|b1 d5h<|a0) Tryz.func140
theorem d1E:Ok0 173 c1N:=
 fo [] 327 0 d7m (b1 c6H<|a0) Tryz.func173
theorem d1F:Ok0 175 c4O:=
 fo [] 5 0 QH (b1 b7n<|a0) Tryz.func175
theorem c6R:Ok0 178 c4P:=
 fo [] 5 0 QH a0 Tryz.func178
theorem d1G:Ok0 179 c4Q:=
 fo [] 141 0 QH (b1 c6R<|a0) Tryz.func179
theorem d5j:Ok0 203 c4R:=
 fo [] 51 0 d7n (b1 c6P<|b1 c6R<|b1 d1G<|a0) Tryz.func203
theorem c6S:Ok0 176 c6s:=
 fo [] 179 0 d7o (b1 d5j<|a0) Tryz.func176
theorem d1H:Ok0 143 c2N:=
 fo [] 7951 16 d7p (b1 b8a<|b1 d1q<|b1 d1E<|b1 d1F<|b1 c6S<|a0) Tryz.func143
theorem d5k:Ok0 202 c4S:=
 fo [] 125 0 d7q (b1 c6S<|a0) Tryz.func202
theorem d5l:Ok0 174 b9x:=
 fo [] 13 0 QH (b1 d1F<|b1 c6S<|b1 d5k<|a0) Tryz.func174
theorem d5m:Ok0 141 c2O:=
 fo [(14,.pair QI Q1),(40,.pair QI Q1)] 440847 0 d7r (b1 d1H<|b1 b8a<|b1 d1E<|b1 d5l<|a0) Tryz.func141
theorem d7P:Ok0 95 c6t:=
 fo [] 14727 32 H95 (b1 c9A<|b1 d3p<|b1 d3q<|b1 c6F<|b1 d1p<|b1 d5i<|b1 d5m<|a0) Tryz.func95
theorem c6T:Ok0 104 b6w:=
 fo [] 3 0 d7s a0 Tryz.func104
theorem c2U:Ok0 99 b6x:=
 fo [] 199 0 H99 (b1 c6T<|a0) Tryz.func99
theorem d1I:Ok0 100 b7V:=
 fo [] 7 0 QH (b1 c2U<|a0) Tryz.func100
theorem d5n:Ok0 101 b9y:=
 fo [] 83 8 d7t (b1 b7n<|b1 c2U<|b1 d1I<|a0) Tryz.func101
theorem d5o:Ok0 180 b5p:=
 fo [] 19 0 d7u (b1 c6T<|a0) Tryz.func180
theorem d5p:Ok0 145 c6u:=
 fo [] 7495 0 d7v (b1 c2U<|b1 c6P<|b1 c6R<|b1 d1G<|b1 d5o<|a0) Tryz.func145
theorem d5q:Ok0 103 c4T:=
 fo [] 97311 64 d7w (b1 b7n<|b1 c2U<|b1 d1H<|b1 b8a<|b1 d5p<|a0) Tryz.func103
theorem d3r:Ok0 50 c8e:=
 fo [] 11682311054023 16 H50 (b1 d3i<|b1 b7n<|b1 c2U<|b1 d1I<|b1 d5n<|b1 c6B<|b1 d5q<|a0) Tryz.func50
theorem d5r:Ok0 142 b6y:=
 fo [] 5 0 QH a0 Tryz.func142
theorem d7Q:Ok0 96 c6v:=
 fo [(5,.pair (.list true QV) Q0)] 19 4 QH (b1 d3r<|b1 d5r<|a0) Tryz.func96
theorem d7R:Ok0 48 c6w:=
 fo [] 50915 0 H48 (b1 c9A<|b1 d3p<|b1 d3q<|b1 d7O<|b1 d7P<|b1 d7Q<|a0) Tryz.func48
theorem d3s:Ok0 20 c2P:=
 fo [(10,.pair QI Q56),(52,.pair QI Q54),(57,.pair QI Q54),(63,.pair QI Q54),(79,.pair QI Q54),(95,.pair QI Q54)] 88591 48 H20 (b1 c6A<|b1 b9C<|b1 b9A<|b1 d7N<|b1 d3o<|b1 d7R<|a0) Tryz.func20
theorem d7S:Ok0 26 c4U:=
 fo [(6,.pair QI Q7),(12,.pair QI Q5),(30,.pair QI Q5),(33,.pair QI Q5)] 291 12 H26 (b1 c6A<|b1 b9C<|b1 d1o<|a0) Tryz.func26
theorem d7T:Ok0 35 b7W:=
 fo [] 647 24 QH (b1 d3s<|b1 c2T<|b1 d7S<|a0) Tryz.func35
theorem d7U:Ok0 51 b5q:=
 fo [] 1 0 H51 (b1 c6T<|a0) Tryz.func51
theorem d7V:Ok0 52 b5r:=
 fo [] 5 0 QH a0 Tryz.func52
theorem d5s:Ok0 105 c4V:=
 fo [] 5 0 QH a0 Tryz.func105
theorem d1J:Ok0 106 c4W:=
 fo [] 45 0 d7x a0 Tryz.func106
theorem d7W:Ok0 53 b7X:=
 fo [] 307 4 H53 (b1 d5s<|b1 d1J<|b1 d1A<|a0) Tryz.func53
theorem d5t:Ok0 108 c1O:=
 fo [] 51 0 d7y (b1 d1m<|a0) Tryz.func108
theorem d5u:Ok0 109 b0O:=⟨c9n _,⟨_,_,Tryz.func109,rfl,by kernel_rfl⟩⟩
theorem d3t:Ok0 54 c4X:=
 fo [] 51 0 QH (b1 d5t<|b1 d5u<|a0) Tryz.func54
theorem c6U:Ok0 21 c4Y:=
 fo [(4,.pair (.list true QV) Q0)] 909 2 H21 (b1 d3g<|b1 d3r<|b1 d7U<|b1 d7V<|b1 d7W<|b1 d3t<|b1 d3h<|a0) Tryz.func21
theorem d3u:Ok0 40 c4Z:=
 fo [] 6653 2 H40 (b1 c6U<|b1 c2T<|b1 c9D<|b1 b9A<|a0) Tryz.func40
theorem d3v:Ok0 73 c5a:=
 fo [] 5629 2 H73 (b1 d3u<|b1 d3t<|b1 d3a<|b1 d1J<|a0) Tryz.func73
theorem d3w:Ok0 36 b6z:=
 fo [(6,.pair Q12 Q71),(15,.pair Q12 Q70)] 11443 4 H36 (b1 c6U<|b1 c2T<|b1 d3k<|b1 d3v<|b1 d3m<|b1 d3n<|a0) Tryz.func36
theorem d3x:Ok0 13 c2Q:=
 fo [] 26311 16 H13 (b1 b9E<|b1 d7T<|b1 d3w<|a0) Tryz.func13
theorem d3y:Ok0 15 b7Y:=
 fo [] 253 2 H15 (b1 d3u<|b1 d3l<|a0) Tryz.func15
theorem d7X:Ok0 16 c1P:=
 fo [] 51 0 H16 a0 Tryz.func16
theorem d7Y:Ok0 42 a3a:=
 fo [] 821 0 H42 (b1 b9E<|b1 c6U<|a0) Tryz.func42
theorem d7Z:Ok0 17 b4Z:=⟨c9x d7Y.1,⟨_,_,Tryz.func17,rfl,by kernel_rfl⟩⟩
theorem d8a:Ok0 70 b2c:=
 fo [] 51 0 H70 a0 Tryz.func70
theorem d3z:Ok0 30 c1Q:=
 fo [] 851 0 H30 (b1 b9E<|b1 d3y<|b1 d8a<|a0) Tryz.func30
theorem d8b:Ok0 72 c2R:=
 fo [(6,.pair QI Q6),(36,.list true (.list true QI)),(37,.pair QI Q6)] 931 8 H72 (b1 b9A<|b1 b9B<|a0) Tryz.func72
theorem d3A:Ok0 32 b9z:=
 fo [(13,.pair Q12 Q71),(76,.pair Q12 Q70)] 1431311 16 H32 (b1 d3s<|b1 c6U<|b1 c9D<|b1 b9A<|b1 b9B<|b1 d8b<|b1 d3v<|a0) Tryz.func32
theorem fs9:Ok0 9 c5b:=
 fo [] 957 0 QH (b1 d3x<|b1 b9E<|b1 d3y<|b1 d7X<|b1 d7Z<|b1 d3z<|b1 d3A<|a0) Tryz.func9
theorem d8c:Ok0 33 c5c:=
 fo [] 5 2 QH a0 Tryz.func33
theorem d8d:Ok0 74 c9w:=
 fo [] 5 0 H74 a0 Tryz.func74
theorem d8e:Ok0 75 c8f:=
 fo [] 5 0 H75 a0 Tryz.func75
theorem d8f:Ok0 34 c8g:=
 fo [] 19 0 QH (b1 d8d<|b1 d8e<|a0) Tryz.func34
theorem d8g:Ok0 10 c6x:=
 fo [] 199 8 H10 (b1 d8c<|b1 d8f<|a0) Tryz.func10
theorem d8h:Ok0 11 c6y:=
 fo [] 23823 16 H11 (b1 b9E<|b1 d3A<|a0) Tryz.func11
theorem d8i:Ok0 12 c6z:=
 fo [] 135 0 QH a0 Tryz.func12
theorem d5v:Ok0 120 a8a:=
 fo [] 19 0 QH a0 Tryz.func120
theorem d8j:Ok0 67 a7D:=
 fo [] 365 0 H67 (b1 d5v<|a0) Tryz.func67
theorem d8k:Ok0 28 c1R:=
 fo [] 179 4503599627370496 H28 (b1 b9E<|b1 d3w<|b1 d8j<|a0) Tryz.func28
theorem d8l:Ok0 31 c8h:=
 fo [] 19 0 QH a0 Tryz.func31
theorem fs7:Ok0 7 a8V:=
 fo [] 68716003583 256 QH (b1 fs9<|b1 d8g<|b1 d8h<|b1 d8i<|b1 d3x<|b1 d8k<|b1 d3z<|b1 d8l<|a0) Tryz.func7
end Go.Ab
