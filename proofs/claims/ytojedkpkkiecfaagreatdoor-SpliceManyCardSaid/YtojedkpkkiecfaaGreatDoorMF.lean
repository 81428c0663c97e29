/- Part of the proof: S. Conditions: as each statement tells. -/
import Derived.KernelRfl
import Derived.Test.YtojedkpkkiecfaaGreatDoorME
noncomputable section
set_option linter.unusedSimpArgs false
set_option linter.unusedVariables false
namespace Go.Ab
variable {n:Nat}{s:FSem}
open Go.Proofs
set_option maxRecDepth 100000
theorem b3e:Tryz.prog.follows .mixedOrders=true:=by kernel_rfl
theorem d7T:B0d Tryz.prog c2q=true:=by kernel_rfl
theorem d7U:B0b Tryz.prog c2B=true:=by kernel_rfl
theorem d7V:A0y Tryz.prog c2q c6z=true:=by kernel_rfl
theorem laidOut:laidOutB Tryz.prog=true:=by kernel_rfl
@[reducible] def Ok0(n:Nat)(s:FSem):Prop:=i0y Tryz.prog G0 n s∧l0x Tryz.prog n
theorem cxo{a:List (Nat×FSem)}{b:List (Nat×Ty)}{c d:Nat}(h:∀p∈a,FOk Tryz.prog G0 p.1 p.2):CxOk Tryz.prog (b5B a b c d):=
 CxOk.of (CxTy.of (tab:=c2q) (l:=c6z) (q:=c2B) (fun _=>rfl) (fun _=>rfl) (fun _=>rfl) d7T d7U d7V) (fun _=>rfl) h
theorem b1{l:List (Nat×FSem)}(h:Ok0 n s)(g:∀p∈l,FOk Tryz.prog G0 p.1 p.2):∀p∈(n,s)::l,FOk Tryz.prog G0 p.1 p.2:=a1 (a:=(n,s)) h g
theorem b2{l:List (Nat×FSem)}(h:A0f Tryz.prog G0 n s)(g:∀p∈l,FOk Tryz.prog G0 p.1 p.2):∀p∈(n,s)::l,FOk Tryz.prog G0 p.1 p.2:=B0g (a:=(n,s)) h g
theorem fo{a:List (Nat × FSem)}(b : List (Nat × Ty))(c d : Nat)(H : Hints){fn:Func}{e:Code}(h : ∀ p ∈ a, FOk Tryz.prog G0 p.1 p.2)(hf : Tryz.prog.funcs[n]? = some fn)(hb : fn.body = some e :=by rfl)(hk : A0m fn e H s = true :=by kernel_rfl)(hn : (fn.name == "runtime.NumGoroutine") = false :=by kernel_rfl)(hq : ∀ x, A0j (b5B a b c d) H fn s.ps s.rs x = s.F x :=by intro x; kernel_rfl): Ok0 n s :=
 ⟨i0y.of (cxo h) b3e hf hb hk hq,⟨_,_,hf,hb,hn⟩⟩
theorem d3l:Ok0 85 c1z:=
 fo [] 5 0 QH a0 Tryz.func85
theorem b9H:Ok0 45 c1A:=
 fo [] 5 2 QH (b1 d3l<|a0) Tryz.func45
theorem d3m:Ok0 78 c4G:=
 fo [] 5 0 QH a0 Tryz.func78
theorem d4H:Ok0 127 b9p:=
 fo [] 253 0 d6A a0 Tryz.func127
theorem d3n:Ok0 79 b5C:=
 fo [] 243 0 H79 (b1 d4H<|a0) Tryz.func79
theorem d3o:Ok0 80 b5D:=
 fo [] 5 0 QH a0 Tryz.func80
theorem c9K:Ok0 81 b5t:=
 fo [] 5 0 H81 a0 Tryz.func81
theorem d4I:Ok0 128 b5u:=
 fo [] 51 0 d6B (b1 c9K<|a0) Tryz.func128
theorem d1B:Ok0 129 c1B:=
 fo [] 5 0 QH a0 Tryz.func129
theorem d7W:Ok0 82 b5E:=
 fo [] 179 0 H82 (b1 d4I<|b1 d1B<|a0) Tryz.func82
theorem d3p:Ok0 83 b6x:=
 fo [] 5 0 QH a0 Tryz.func83
theorem d3q:Ok0 84 b7n:=
 fo [] 109 0 H84 a0 Tryz.func84
theorem d7X:Ok0 37 b7W:=
 fo [(4,.pair Q12 Q21)] 745 0 H37 (b1 b9H<|b1 d3m<|b1 d3n<|b1 d3o<|b1 c9K<|b1 d7W<|b1 d3p<|b1 d3q<|a0) Tryz.func37
theorem c6N:Ok0 22 c4H:=
 fo [] 5 2 QH a0 Tryz.func22
theorem d4J:Ok0 124 c2C:=
 fo [] 5 0 d6C a0 Tryz.func124
theorem d4K:Ok0 125 c1C:=
 fo [] 5 0 d6D a0 Tryz.func125
theorem b9I:Ok0 71 c1D:=
 fo [] 19 0 QH (b1 d4J<|b1 d4K<|a0) Tryz.func71
theorem b9J:Ok0 44 c4I:=
 fo [] 85 2 H44 (b1 c6N<|b1 b9I<|b1 d3l<|a0) Tryz.func44
theorem c9L:Ok0 88 b7X:=
 fo [] 19 0 H88 a0 Tryz.func88
theorem d3r:Ok0 62 c1E:=
 fo [] 5 2 QH (b1 b9H<|b1 c9L<|a0) Tryz.func62
theorem c9M:Ok0 91 c1F:=
 fo [] 21 0 H91 a0 Tryz.func91
theorem c6O:Ok0 102 c2D:=
 fo [] 5 0 QH a0 Tryz.func102
theorem c6P:Ok0 148 c2E:=
 fo [] 83 0 d6E a0 Tryz.func148
theorem c6Q:Ok0 149 c6A:=
 fo [] 83 8 d6F a0 Tryz.func149
theorem d1C:Ok0 181 c1G:=
 fo [] 5 2 QH a0 Tryz.func181
theorem c6R:Ok0 150 b6J:=
 fo [] 5 0 d6G (b1 d1C<|a0) Tryz.func150
theorem c6S:Ok0 112 c8i:=
 fo [] 4611688217584863559 16 d6H (b1 c6P<|b1 c6Q<|b1 c6R<|a0) Tryz.func112
theorem c6T:Ok0 113 c2F:=
 fo [] 70291 4 d6I a0 Tryz.func113
theorem c3d:Ok0 65 a1R:=
 ⟨i0y.of (cx:=d3f) (cxo a0) b3e Tryz.func65 rfl (by kernel_rfl) d6J,⟨_,_,Tryz.func65,rfl,by kernel_rfl⟩⟩
theorem d1D:Ok0 65 a2J:=
 ⟨i0y.of (cx:=d1z) (cxo a0) b3e Tryz.func65 rfl (by kernel_rfl) d4E,⟨_,_,Tryz.func65,rfl,by kernel_rfl⟩⟩
theorem d3s:Ok0 170 a1o:=
 ⟨i0y.of (cx:=c8j) (cxo a0) b3e Tryz.func170 rfl (by kernel_rfl) d3g,⟨_,_,Tryz.func170,rfl,by kernel_rfl⟩⟩
theorem d1E:Ok0 139 c2G:=
 fo [] 43523 8 d6K (b1 d1D<|b1 d3s<|a0) Tryz.func139
theorem d4L:Ok0 153 c4J:=
 fo [] 5 2 QH (b1 d1E<|a0) Tryz.func153
theorem c6U:Ok0 151 c4K:=
 fo [] 19 0 QH a0 Tryz.func151
theorem b8i:Ok0 144 c1H:=
 fo [] 455 0 d6L (b1 c6U<|a0) Tryz.func144
theorem d1F:Ok0 154 c4L:=
 fo [] 711 8 d6M (b1 b8i<|a0) Tryz.func154
theorem d4M:Ok0 117 c2H:=
 fo [] 51 4 d6N (b1 c9M<|b1 c6O<|b1 c6S<|b1 c6T<|b1 d4L<|b1 d1F<|a0) Tryz.func117
theorem d1G:Ok0 183 c2I:=
 fo [] 21 0 d6O a0 Tryz.func183
theorem d4N:Ok0 205 b7Y:=
 fo [] 11 0 QH a0 Tryz.func205
theorem d4O:Ok0 184 c1I:=
 fo [] 4296020275 0 QH (b1 d4N<|a0) Tryz.func184
theorem d4P:Ok0 155 c2J:=
 fo [] 3527 0 d6P (b1 d1G<|b1 d4O<|a0) Tryz.func155
theorem c6V:Ok0 187 c1J:=
 fo [] 5 0 QH a0 Tryz.func187
theorem c6W:Ok0 185 b7o:=
 fo [] 21 0 d6Q (b1 c6V<|a0) Tryz.func185
theorem d1H:Ok0 186 b7p:=
 fo [] 1991 0 d6R a0 Tryz.func186
theorem d4Q:Ok0 156 c1K:=
 fo [] 14095 0 d6S (b1 c6P<|b1 c6W<|b1 d1H<|b1 c6V<|a0) Tryz.func156
theorem c6X:Ok0 190 c4M:=
 fo [] 5 0 QH a0 Tryz.func190
theorem c6Y:Ok0 188 b9q:=
 fo [] 21 0 d6T (b1 c6X<|a0) Tryz.func188
theorem d1I:Ok0 189 b9r:=
 fo [] 7951 128 d6U a0 Tryz.func189
theorem d4R:Ok0 157 c4N:=
 fo [] 4039 32 d6V (b1 c6Q<|b1 c6Y<|b1 d1I<|b1 c6X<|a0) Tryz.func157
theorem c6Z:Ok0 195 b5F:=
 fo [] 5 0 QH a0 Tryz.func195
theorem d1J:Ok0 191 b3d:=
 fo [] 21 0 d6W (b1 c6Z<|a0) Tryz.func191
theorem d1K:Ok0 193 b6K:=
 fo [(15,.pair QI Q14),(16,.pair QI Q14)] 13 2 d6X (b1 d1C<|a0) Tryz.func193
theorem d1L:Ok0 207 b7Z:=
 fo [] 5 0 QH a0 Tryz.func207
theorem c7a:Ok0 194 a9V:=
 fo [] 61 0 d6Y (b1 d1L<|a0) Tryz.func194
theorem d1M:Ok0 196 b0V:=
 fo [] 4202995 0 d6Z (b1 c7a<|b1 d1L<|a0) Tryz.func196
theorem d4S:Ok0 158 a9X:=
 ⟨i0y.ofR (cx:=d1A) (cxo (a1 c3d (a1 c6R (a1 d1J (a1 d1K (a1 c7a (a1 c6Z (a1 d1M a0)))))))) b3e (r:=d3h) ⟨d2f,d2g⟩ Tryz.func158 rfl (by kernel_rfl) d4F,⟨_,_,Tryz.func158,rfl,by kernel_rfl⟩⟩
theorem d1N:Ok0 133 c1L:=
 fo [] 5 0 QH a0 Tryz.func133
theorem d4T:Ok0 159 c4O:=
 fo [] 371 0 d7b (b1 d1N<|a0) Tryz.func159
theorem d4U:Ok0 118 c6B:=
 fo [] 604462927822812893676787 4 d7c (b1 d4P<|b1 d4Q<|b1 d4R<|b1 d4S<|b1 d4T<|a0) Tryz.func118
theorem d3t:Ok0 63 c8k:=
 fo [] 243 4 QH (b1 d4M<|b1 d4U<|a0) Tryz.func63
theorem d1O:Ok0 132 c4P:=
 fo [] 5 0 QH a0 Tryz.func132
theorem c9N:Ok0 87 b6L:=
 fo [] 85 0 H87 (b1 d1O<|a0) Tryz.func87
theorem d3u:Ok0 89 b5g:=
 fo [(15,.list true (.list true QI))] 45 0 H89 (b1 c3d<|a0) Tryz.func89
theorem d3v:Ok0 90 b5G:=
 fo [] 967 16 H90 (b1 d1O<|a0) Tryz.func90
theorem d7Y:Ok0 64 b1s:=
 ⟨i0y.ofR (cx:=d3i) (cxo (a1 c9N (a1 c9L (a1 d3u (a1 d3v a0))))) b3e (r:=R64) ⟨d2h,d2i⟩ Tryz.func64 rfl (by kernel_rfl) d7d,⟨_,_,Tryz.func64,rfl,by kernel_rfl⟩⟩
theorem c3e:Ok0 25 c1M:=
 fo [] 1945 2 H25 (b1 b9J<|b1 d3r<|b1 d3t<|b1 d7Y<|a0) Tryz.func25
theorem d3w:Ok0 49 c4Q:=
 fo [] 21 2 QH (b1 c3e<|a0) Tryz.func49
theorem d3x:Ok0 55 b9s:=
 fo [] 109 0 H55 a0 Tryz.func55
theorem d1P:Ok0 107 c2K:=
 fo [] 109 0 d7e a0 Tryz.func107
theorem d4V:Ok0 110 c4R:=
 fo [] 13 0 QH a0 Tryz.func110
theorem d7Z:Ok0 56 b8a:=
 fo [(2,.pair QI Q55),(15,.pair QI Q54),(26,.pair QI Q54),(83,.pair QI Q54),(88,.pair QI Q54),(101,.pair QI Q54),(105,.pair QI Q54)] 4089 0 H56 (b1 d3r<|b1 d3m<|b1 d3n<|b1 d3o<|b1 c9K<|b1 d3p<|b1 d1P<|b1 d4V<|a0) Tryz.func56
theorem d8a:Ok0 57 c6C:=
 fo [] 5 0 QH a0 Tryz.func57
theorem b9K:Ok0 61 b6y:=
 fo [] 5 0 QH a0 Tryz.func61
theorem d3y:Ok0 97 c8l:=
 fo [] 115 4 QH (b1 d3t<|a0) Tryz.func97
theorem b7v:Ok0 98 b9t:=
 fo [] 45 0 H98 (b1 b9I<|a0) Tryz.func98
theorem d3z:Ok0 59 b5H:=
 fo [] 5 0 H59 a0 Tryz.func59
theorem c7b:Ok0 116 b5I:=
 fo [] 19 0 QH a0 Tryz.func116
theorem b6l:Ok0 146 b6z:=
 fo [] 51 0 d7f (b1 d3z<|b1 c7b<|a0) Tryz.func146
theorem c2r:Ok0 114 b4p:=
 fo [] 51 0 d7g (b1 b6l<|a0) Tryz.func114
theorem d4W:Ok0 147 b9u:=
 fo [] 115 0 d7h (b1 b7v<|b1 c2r<|b1 b6l<|a0) Tryz.func147
theorem d4X:Ok0 111 c1N:=
 fo [(2,.pair QI Q39)] 178258169 0 d7i (b1 c2r<|b1 b6l<|b1 d4W<|a0) Tryz.func111
theorem c7c:Ok0 177 b7q:=
 fo [] 5 0 QH a0 Tryz.func177
theorem d4Y:Ok0 209 b5v:=
 fo [] 115 0 d7j (b1 c7b<|a0) Tryz.func209
theorem d4Z:Ok0 210 c1O:=
 fo [] 77 0 QH a0 Tryz.func210
theorem d5a:Ok0 204 c6D:=
 fo [] 499 0 d7k (b1 b9K<|b1 b6l<|b1 d4Y<|b1 d4Z<|a0) Tryz.func204
theorem d5b:Ok0 182 c6E:=
 fo [] 1991 0 d7l (b1 b9K<|b1 c7c<|b1 d5a<|a0) Tryz.func182
theorem d5c:Ok0 152 c4S:=
 fo [] 4083 0 d7m (b1 b9K<|b1 b7v<|b1 c2r<|b1 b6l<|b1 d5b<|a0) Tryz.func152
theorem d5d:Ok0 115 c4T:=
 fo [(11,.pair QI Q1),(41,.pair QI Q1)] 251783 0 d7n (b1 b9K<|b1 b8i<|b1 b6l<|b1 c6U<|b1 d5c<|a0) Tryz.func115
theorem d8b:Ok0 58 c8m:=
 fo [(7,.pair QI (.pair QI (.pair QI (.pair QI (.pair QI (.pair QL (.pair (.arr 3 QI) (.pair (.list false Q3) Q23))))))))] 8035 0 H58 (b1 b9K<|b1 d3y<|b1 b7v<|b1 c6O<|b1 d4X<|b1 c6S<|b1 c6T<|b1 c2r<|b1 d5d<|a0) Tryz.func58
theorem d8c:Ok0 60 b5w:=
 fo [] 13 0 H60 (b1 c7b<|a0) Tryz.func60
theorem d8d:Ok0 24 c2L:=
 fo [(5,.pair QI Q56)] 6105 0 H24 (b1 d3w<|b1 d3x<|b1 d7Z<|b1 d8a<|b1 d8b<|b1 d3z<|b1 d8c<|b1 b9K<|a0) Tryz.func24
theorem d8e:Ok0 38 b7r:=
 fo [] 110623 64 H38 (b1 d8d<|b1 c3e<|a0) Tryz.func38
theorem d5e:Ok0 121 b6A:=
 fo [] 16371 0 QH a0 Tryz.func121
theorem d5f:A0f Tryz.prog G0 122 b6B:=c9A _
theorem d5g:Ok0 208 b6C:=
 fo [] 5 0 d7o a0 Tryz.func208
theorem d5h:Ok0 197 b1Y:=
 fo [] 5 0 QH (b1 d5g<|a0) Tryz.func197
theorem d5i:Ok0 161 b6D:=
 fo [] 524231 0 d7p (b1 d5h<|a0) Tryz.func161
theorem d5j:Ok0 123 b6E:=
 fo [] 455 0 QH (b1 d5i<|a0) Tryz.func123
theorem c9O:Ok0 68 c4U:=
 fo [] 967 0 QH (b1 d5e<|b2 d5f<|b1 d5j<|a0) Tryz.func68
theorem d8f:Ok0 69 c2M:=
 fo [] 29 0 H69 (b1 c9O<|a0) Tryz.func69
theorem d3A:Ok0 29 c4V:=
 fo [] 199 0 H29 (b1 c9O<|b1 d8f<|a0) Tryz.func29
theorem d3B:Ok0 41 c1P:=
 fo [] 93 2 H41 (b1 c6N<|b1 b9J<|a0) Tryz.func41
theorem d5k:Ok0 126 c1Q:=
 fo [] 1779 0 d7q (b1 b9I<|a0) Tryz.func126
theorem d3C:Ok0 76 c2N:=
 fo [] 13 2 H76 (b1 d3B<|b1 b9J<|b1 d5k<|a0) Tryz.func76
theorem d3D:Ok0 77 c2O:=
 fo [] 45 0 H77 (b1 c9O<|a0) Tryz.func77
theorem c9P:Ok0 39 b9v:=
 fo [] 243 8 QH (b1 d3A<|b1 d3C<|b1 d3D<|a0) Tryz.func39
theorem b7w:Ok0 14 c2P:=
 fo [(6,.pair Q12 Q71),(20,.pair Q12 Q70),(24,.pair Q12 Q70),(48,.pair Q12 Q70),(90,.pair Q12 Q70),(96,.pair Q12 Q70)] 5033 0 H14 (b1 d7X<|b1 d8e<|b1 c9P<|a0) Tryz.func14
theorem d3E:Ok0 47 c8n:=
 fo [] 115 0 H47 (b1 c9N<|b1 c9L<|b1 d3u<|b1 d3v<|a0) Tryz.func47
theorem d5l:Ok0 130 c1R:=
 fo [] 237 0 d7r (b1 c9N<|a0) Tryz.func130
theorem d5m:Ok0 131 c2Q:=
 fo [] 135445 0 QH a0 Tryz.func131
theorem d8g:Ok0 86 c4W:=
 fo [] 509 0 H86 (b1 d3E<|b1 d5l<|b1 d5m<|a0) Tryz.func86
theorem d8h:Ok0 46 c4X:=
 fo [] 29 2 H46 (b1 b9J<|b1 d8g<|a0) Tryz.func46
theorem d3F:Ok0 92 c1S:=
 fo [] 371 0 H92 (b1 d1N<|a0) Tryz.func92
theorem d5n:Ok0 134 a1r:=
 ⟨i0y.of (cx:=b0C) (cxo a0) b3e Tryz.func134 rfl (by kernel_rfl) d4G,⟨_,_,Tryz.func134,rfl,by kernel_rfl⟩⟩
theorem d3G:Ok0 93 b8b:=
 fo [] 45 0 H93 (b1 d5n<|a0) Tryz.func93
theorem d1Q:Ok0 162 c2T:=
 fo [] 243 0 d7s (b1 d1G<|a0) Tryz.func162
theorem d5o:Ok0 163 c1T:=
 fo [] 243 0 d7t a0 Tryz.func163
theorem d5p:Ok0 135 c2U:=
 fo [] 509 0 d7u (b1 d1Q<|b1 d5o<|a0) Tryz.func135
theorem d1R:Ok0 200 b9x:=
 fo [] 5 0 QH a0 Tryz.func200
theorem d5q:Ok0 198 b8c:=
 fo [] 493 0 d7v (b1 d1R<|a0) Tryz.func198
theorem d5r:Ok0 199 b5x:=
 fo [] 1991 0 d7w a0 Tryz.func199
theorem d5s:Ok0 164 b7s:=
 fo [] 16371 0 d7x (b1 c3d<|b1 c6W<|b1 d5q<|b1 d5r<|b1 d1R<|a0) Tryz.func164
theorem d5t:Ok0 165 b9y:=
 fo [] 4077 0 d7y a0 Tryz.func165
theorem d5u:Ok0 166 b9z:=
 fo [] 28531 0 d7z (b1 b9I<|a0) Tryz.func166
theorem d1S:Ok0 137 c1U:=
 fo [] 4039 0 QH (b1 d5s<|b1 d5t<|b1 d5u<|a0) Tryz.func137
theorem d5v:Ok0 167 c4Y:=
 fo [] 16327 0 d7A (b1 c6Y<|a0) Tryz.func167
theorem c7d:Ok0 169 c4Z:=
 fo [] 4039 32 d7B (b1 c6Q<|b1 c6Y<|b1 d1I<|b1 c6X<|a0) Tryz.func169
theorem d5w:Ok0 201 c2V:=
 fo [] 1 0 QH a0 Tryz.func201
theorem d5x:Ok0 168 c5a:=
 fo [] 47523 0 d7C (b1 c7d<|b1 d5w<|a0) Tryz.func168
theorem d5y:Ok0 138 c2W:=
 fo [] 953 0 QH (b1 d1S<|b1 d5v<|b1 d5x<|b1 c7d<|a0) Tryz.func138
theorem d5z:Ok0 136 b5L:=
 fo [] 463 0 QH (b1 d1S<|a0) Tryz.func136
theorem d8i:Ok0 94 b7t:=
 fo [(5,.list true Q42)] 851 147573952589676412928 H94 (b1 d5p<|b1 d5z<|b1 d5y<|a0) Tryz.func94
theorem d5A:Ok0 171 c1V:=
 fo [] 1991 0 d7D (b1 c6P<|b1 c6W<|b1 d1H<|b1 c6V<|a0) Tryz.func171
theorem d5B:Ok0 172 c2X:=
 fo [] 15987 0 d7E (b1 c3d<|b1 c6R<|b1 d1J<|b1 d1K<|b1 c7a<|b1 c6Z<|b1 d1M<|a0) Tryz.func172
theorem d5C:Ok0 140 c5b:=
 fo [] 147573952727119562867 0 d7F (b1 c3d<|b1 c6T<|b1 d1Q<|b1 c7d<|b1 d5A<|b1 d5B<|a0) Tryz.func140
theorem d1T:Ok0 173 c1W:=
 fo [] 327 0 d7G (b1 c6U<|a0) Tryz.func173
theorem d1U:Ok0 175 c5c:=
 fo [] 5 0 QH (b1 b7v<|a0) Tryz.func175
theorem c7e:Ok0 178 c5d:=
 fo [] 5 0 QH a0 Tryz.func178
theorem d1V:Ok0 179 c5e:=
 fo [] 141 0 QH (b1 c7e<|a0) Tryz.func179
theorem d5D:Ok0 203 c5f:=
 fo [] 51 0 d7H (b1 c7c<|b1 c7e<|b1 d1V<|a0) Tryz.func203
theorem c7f:Ok0 176 c6G:=
 fo [] 179 0 d7I (b1 d5D<|a0) Tryz.func176
theorem d1W:Ok0 143 c2Y:=
 fo [] 7951 16 d7J (b1 b8i<|b1 d1F<|b1 d1T<|b1 d1U<|b1 c7f<|a0) Tryz.func143
theorem d5E:Ok0 202 c5g:=
 fo [] 125 0 d7K (b1 c7f<|a0) Tryz.func202
theorem d5F:Ok0 174 b9E:=
 fo [] 13 0 QH (b1 d1U<|b1 c7f<|b1 d5E<|a0) Tryz.func174
theorem d5G:Ok0 141 c2Z:=
 fo [(14,.pair QI Q1),(40,.pair QI Q1)] 440847 0 d7L (b1 d1W<|b1 b8i<|b1 d1T<|b1 d5F<|a0) Tryz.func141
theorem d8j:Ok0 95 c6H:=
 fo [] 14727 32 H95 (b1 c9M<|b1 d3F<|b1 d3G<|b1 c6S<|b1 d1E<|b1 d5C<|b1 d5G<|a0) Tryz.func95
theorem c7g:Ok0 104 b6F:=
 fo [] 3 0 d7M a0 Tryz.func104
theorem c3f:Ok0 99 b6G:=
 fo [] 199 0 H99 (b1 c7g<|a0) Tryz.func99
theorem d1X:Ok0 100 b8d:=
 fo [] 7 0 QH (b1 c3f<|a0) Tryz.func100
theorem d5H:Ok0 101 b9F:=
 fo [] 83 8 d7N (b1 b7v<|b1 c3f<|b1 d1X<|a0) Tryz.func101
theorem d5I:Ok0 180 b5y:=
 fo [] 19 0 d7O (b1 c7g<|a0) Tryz.func180
theorem d5J:Ok0 145 c6I:=
 fo [] 7495 0 d7P (b1 c3f<|b1 c7c<|b1 c7e<|b1 d1V<|b1 d5I<|a0) Tryz.func145
theorem d5K:Ok0 103 c5h:=
 fo [] 97311 64 d7Q (b1 b7v<|b1 c3f<|b1 d1W<|b1 b8i<|b1 d5J<|a0) Tryz.func103
theorem d3H:Ok0 50 c8p:=
 fo [] 11682311054023 16 H50 (b1 d3y<|b1 b7v<|b1 c3f<|b1 d1X<|b1 d5H<|b1 c6O<|b1 d5K<|a0) Tryz.func50
theorem d5L:Ok0 142 b6H:=
 fo [] 5 0 QH a0 Tryz.func142
theorem d8k:Ok0 96 c6J:=
 fo [(5,.pair (.list true QV) Q0)] 19 4 QH (b1 d3H<|b1 d5L<|a0) Tryz.func96
theorem d8l:Ok0 48 c6K:=
 fo [] 50915 0 H48 (b1 c9M<|b1 d3F<|b1 d3G<|b1 d8i<|b1 d8j<|b1 d8k<|a0) Tryz.func48
theorem d3I:Ok0 20 c3a:=
 fo [(10,.pair QI Q56),(52,.pair QI Q54),(57,.pair QI Q54),(63,.pair QI Q54),(79,.pair QI Q54),(95,.pair QI Q54)] 88591 48 H20 (b1 c6N<|b1 b9J<|b1 b9H<|b1 d8h<|b1 d3E<|b1 d8l<|a0) Tryz.func20
theorem d8m:Ok0 26 c5i:=
 fo [(6,.pair QI Q7),(12,.pair QI Q5),(30,.pair QI Q5),(33,.pair QI Q5)] 291 12 H26 (b1 c6N<|b1 b9J<|b1 d1D<|a0) Tryz.func26
theorem d8n:Ok0 35 b8e:=
 fo [] 647 24 QH (b1 d3I<|b1 c3e<|b1 d8m<|a0) Tryz.func35
theorem d8o:Ok0 51 b5z:=
 fo [] 1 0 H51 (b1 c7g<|a0) Tryz.func51
theorem d8p:Ok0 52 b5A:=
 fo [] 5 0 QH a0 Tryz.func52
theorem d5M:Ok0 105 c5j:=
 fo [] 5 0 QH a0 Tryz.func105
theorem d1Y:Ok0 106 c5k:=
 fo [] 45 0 d7R a0 Tryz.func106
theorem d8q:Ok0 53 b8f:=
 fo [] 307 4 H53 (b1 d5M<|b1 d1Y<|b1 d1P<|a0) Tryz.func53
theorem d5N:Ok0 108 c1X:=
 fo [] 51 0 d7S (b1 d1B<|a0) Tryz.func108
theorem d5O:Ok0 109 b0U:=⟨c9z _,⟨_,_,Tryz.func109,rfl,by kernel_rfl⟩⟩
theorem d3J:Ok0 54 c5l:=
 fo [] 51 0 QH (b1 d5N<|b1 d5O<|a0) Tryz.func54
theorem c7h:Ok0 21 c5m:=
 fo [(4,.pair (.list true QV) Q0)] 909 2 H21 (b1 d3w<|b1 d3H<|b1 d8o<|b1 d8p<|b1 d8q<|b1 d3J<|b1 d3x<|a0) Tryz.func21
theorem d3K:Ok0 40 c5n:=
 fo [] 6653 2 H40 (b1 c7h<|b1 c3e<|b1 c9P<|b1 b9H<|a0) Tryz.func40
theorem d3L:Ok0 73 c5o:=
 fo [] 5629 2 H73 (b1 d3K<|b1 d3J<|b1 d3q<|b1 d1Y<|a0) Tryz.func73
theorem d3M:Ok0 36 b6I:=
 fo [(6,.pair Q12 Q71),(15,.pair Q12 Q70)] 11443 4 H36 (b1 c7h<|b1 c3e<|b1 d3A<|b1 d3L<|b1 d3C<|b1 d3D<|a0) Tryz.func36
theorem d3N:Ok0 13 c3b:=
 fo [] 26311 16 H13 (b1 b7w<|b1 d8n<|b1 d3M<|a0) Tryz.func13
theorem c9Q:Ok0 15 b8g:=
 fo [] 253 2 H15 (b1 d3K<|b1 d3B<|a0) Tryz.func15
theorem d3O:Ok0 16 c1Y:=
 fo [] 51 0 H16 a0 Tryz.func16
theorem d8r:Ok0 42 a3e:=
 fo [] 821 0 H42 (b1 b7w<|b1 c7h<|a0) Tryz.func42
theorem d3P:Ok0 17 b5h:=⟨c9J d8r.1,⟨_,_,Tryz.func17,rfl,by kernel_rfl⟩⟩
theorem d8s:Ok0 70 b2i:=
 fo [] 51 0 H70 a0 Tryz.func70
theorem d3Q:Ok0 30 c1Z:=
 fo [] 851 0 H30 (b1 b7w<|b1 c9Q<|b1 d8s<|a0) Tryz.func30
theorem d8t:Ok0 72 c3c:=
 fo [(6,.pair QI Q6),(36,.list true (.list true QI)),(37,.pair QI Q6)] 931 8 H72 (b1 b9H<|b1 b9I<|a0) Tryz.func72
theorem d3R:Ok0 32 b9G:=
 fo [(13,.pair Q12 Q71),(76,.pair Q12 Q70)] 1431311 16 H32 (b1 d3I<|b1 c7h<|b1 c9P<|b1 b9H<|b1 b9I<|b1 d8t<|b1 d3L<|a0) Tryz.func32
theorem fs9:Ok0 9 c5p:=
 fo [] 957 0 QH (b1 d3N<|b1 b7w<|b1 c9Q<|b1 d3O<|b1 d3P<|b1 d3Q<|b1 d3R<|a0) Tryz.func9
theorem d8u:Ok0 33 c5q:=
 fo [] 5 2 QH a0 Tryz.func33
theorem d8v:Ok0 74 c9I:=
 fo [] 5 0 H74 a0 Tryz.func74
theorem d8w:Ok0 75 c8q:=
 fo [] 5 0 H75 a0 Tryz.func75
theorem d8x:Ok0 34 c8r:=
 fo [] 19 0 QH (b1 d8v<|b1 d8w<|a0) Tryz.func34
theorem d8y:Ok0 10 c6L:=
 fo [] 199 8 H10 (b1 d8u<|b1 d8x<|a0) Tryz.func10
theorem d8z:Ok0 11 c6M:=
 fo [] 23823 16 H11 (b1 b7w<|b1 d3R<|a0) Tryz.func11
theorem d5P:Ok0 120 a8i:=
 fo [] 19 0 QH a0 Tryz.func120
theorem d8A:Ok0 67 a7M:=
 fo [] 365 0 H67 (b1 d5P<|a0) Tryz.func67
theorem d8B:Ok0 28 c2a:=
 fo [] 179 4503599627370496 H28 (b1 b7w<|b1 d3M<|b1 d8A<|a0) Tryz.func28
theorem fs8:Ok0 8 a9F:=
 fo [] 125824031 32 H8 (b1 fs9<|b1 d8y<|b1 d8z<|b1 d3N<|b1 b7w<|b1 c9Q<|b1 d3O<|b1 d3P<|b1 d8B<|b1 d3Q<|a0) Tryz.func8
end Go.Ab
