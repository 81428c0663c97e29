/- Part of the proof: S. Conditions: as each statement tells. -/
import Derived.KernelRfl
import Derived.Test.YtpckgfbgijdfnaaGreatDoorME
noncomputable section
set_option linter.unusedSimpArgs false
set_option linter.unusedVariables false
namespace Go.Ab
variable {n:Nat}{s:FSem}
open Go.Proofs
set_option maxRecDepth 100000
theorem b1v:Tryz.prog.follows .mixedOrders=true:=by kernel_rfl
theorem d2Z:B0d Tryz.prog b9z=true:=by kernel_rfl
theorem d3a:B0b Tryz.prog b9I=true:=by kernel_rfl
theorem d3b:A0y Tryz.prog b9z c3D=true:=by kernel_rfl
theorem laidOut:laidOutB Tryz.prog=true:=by kernel_rfl
@[reducible] def Ok0(n:Nat)(s:FSem):Prop:=i0y Tryz.prog G0 n s∧l0x Tryz.prog n
theorem cxo{a:List (Nat×FSem)}{b:List (Nat×Ty)}{c d:Nat}(h:∀p∈a,FOk Tryz.prog G0 p.1 p.2):CxOk Tryz.prog (b3N a b c d):=
 CxOk.of (CxTy.of (tab:=b9z) (l:=c3D) (q:=b9I) (fun _=>rfl) (fun _=>rfl) (fun _=>rfl) d2Z d3a d3b) (fun _=>rfl) h
theorem b1{l:List (Nat×FSem)}(h:Ok0 n s)(g:∀p∈l,FOk Tryz.prog G0 p.1 p.2):∀p∈(n,s)::l,FOk Tryz.prog G0 p.1 p.2:=a1 (a:=(n,s)) h g
theorem b2{l:List (Nat×FSem)}(h:A0f Tryz.prog G0 n s)(g:∀p∈l,FOk Tryz.prog G0 p.1 p.2):∀p∈(n,s)::l,FOk Tryz.prog G0 p.1 p.2:=B0g (a:=(n,s)) h g
theorem fo{a:List (Nat × FSem)}(b : List (Nat × Ty))(c d : Nat)(H : Hints){fn:Func}{e:Code}(h : ∀ p ∈ a, FOk Tryz.prog G0 p.1 p.2)(hf : Tryz.prog.funcs[n]? = some fn)(hb : fn.body = some e :=by rfl)(hk : A0m fn e H s = true :=by kernel_rfl)(hn : (fn.name == "runtime.NumGoroutine") = false :=by kernel_rfl)(hq : ∀ x, A0j (b3N a b c d) H fn s.ps s.rs x = s.F x :=by intro x; kernel_rfl): Ok0 n s :=
 ⟨i0y.of (cxo h) b1v hf hb hk hq,⟨_,_,hf,hb,hn⟩⟩
theorem c8x:Ok0 85 b8H:=
 fo [] 5 0 QH a0 Tryz.func85
theorem b7E:Ok0 45 b8I:=
 fo [] 5 2 QH (b1 c8x<|a0) Tryz.func45
theorem c8y:Ok0 78 c1T:=
 fo [] 5 0 QH a0 Tryz.func78
theorem c9y:Ok0 127 b7h:=
 fo [] 253 0 d1G a0 Tryz.func127
theorem c8z:Ok0 79 b3O:=
 fo [] 243 0 H79 (b1 c9y<|a0) Tryz.func79
theorem c8A:Ok0 80 b3P:=
 fo [] 5 0 QH a0 Tryz.func80
theorem c6m:Ok0 81 b3D:=
 fo [] 5 0 H81 a0 Tryz.func81
theorem c9z:Ok0 128 b3E:=
 fo [] 51 0 d1H (b1 c6m<|a0) Tryz.func128
theorem c7j:Ok0 129 b8J:=
 fo [] 5 0 QH a0 Tryz.func129
theorem d3c:Ok0 82 b3Q:=
 fo [] 179 0 H82 (b1 c9z<|b1 c7j<|a0) Tryz.func82
theorem c8B:Ok0 83 b4A:=
 fo [] 5 0 QH a0 Tryz.func83
theorem c8C:Ok0 84 b5l:=
 fo [] 109 0 H84 a0 Tryz.func84
theorem d3d:Ok0 37 b5T:=
 fo [(4,.pair Q12 Q21)] 745 0 H37 (b1 b7E<|b1 c8y<|b1 c8z<|b1 c8A<|b1 c6m<|b1 d3c<|b1 c8B<|b1 c8C<|a0) Tryz.func37
theorem c0K:Ok0 22 c1U:=
 fo [] 5 2 QH a0 Tryz.func22
theorem c9A:Ok0 124 b9J:=
 fo [] 5 0 d1I a0 Tryz.func124
theorem c9B:Ok0 125 b8K:=
 fo [] 5 0 d1J a0 Tryz.func125
theorem b7F:Ok0 71 b8L:=
 fo [] 19 0 QH (b1 c9A<|b1 c9B<|a0) Tryz.func71
theorem b7G:Ok0 44 c1V:=
 fo [] 85 2 H44 (b1 c0K<|b1 b7F<|b1 c8x<|a0) Tryz.func44
theorem c6n:Ok0 88 b5U:=
 fo [] 19 0 H88 a0 Tryz.func88
theorem c8D:Ok0 62 b8M:=
 fo [] 5 2 QH (b1 b7E<|b1 c6n<|a0) Tryz.func62
theorem c6o:Ok0 91 b8N:=
 fo [] 21 0 H91 a0 Tryz.func91
theorem c3R:Ok0 102 b9K:=
 fo [] 5 0 QH a0 Tryz.func102
theorem c3S:Ok0 148 b9L:=
 fo [] 83 0 d1K a0 Tryz.func148
theorem c3T:Ok0 149 c3E:=
 fo [] 83 8 d1L a0 Tryz.func149
theorem c7k:Ok0 181 b8O:=
 fo [] 5 2 QH a0 Tryz.func181
theorem c3U:Ok0 150 b4O:=
 fo [] 5 0 d1M (b1 c7k<|a0) Tryz.func150
theorem c3V:Ok0 112 c5b:=
 fo [] 4611688217584863559 16 d1N (b1 c3S<|b1 c3T<|b1 c3U<|a0) Tryz.func112
theorem c3W:Ok0 113 b9M:=
 fo [] 70291 4 d1O a0 Tryz.func113
theorem c0L:Ok0 65 a1D:=
 ⟨i0y.of (cx:=c8r) (cxo a0) b1v Tryz.func65 rfl (by kernel_rfl) d1P,⟨_,_,Tryz.func65,rfl,by kernel_rfl⟩⟩
theorem c7l:Ok0 65 a2h:=
 ⟨i0y.of (cx:=c7h) (cxo a0) b1v Tryz.func65 rfl (by kernel_rfl) c9v,⟨_,_,Tryz.func65,rfl,by kernel_rfl⟩⟩
theorem c8E:Ok0 170 a1h:=
 ⟨i0y.of (cx:=c5c) (cxo a0) b1v Tryz.func170 rfl (by kernel_rfl) c8s,⟨_,_,Tryz.func170,rfl,by kernel_rfl⟩⟩
theorem c7m:Ok0 139 b9N:=
 fo [] 43523 8 d1Q (b1 c7l<|b1 c8E<|a0) Tryz.func139
theorem c9C:Ok0 153 c1W:=
 fo [] 5 2 QH (b1 c7m<|a0) Tryz.func153
theorem c3X:Ok0 151 c1X:=
 fo [] 19 0 QH a0 Tryz.func151
theorem b6l:Ok0 144 b8P:=
 fo [] 455 0 d1R (b1 c3X<|a0) Tryz.func144
theorem c7n:Ok0 154 c1Y:=
 fo [] 711 8 d1S (b1 b6l<|a0) Tryz.func154
theorem c9D:Ok0 117 b9O:=
 fo [] 51 4 d1T (b1 c6o<|b1 c3R<|b1 c3V<|b1 c3W<|b1 c9C<|b1 c7n<|a0) Tryz.func117
theorem c7o:Ok0 183 b9P:=
 fo [] 21 0 d1U a0 Tryz.func183
theorem c9E:Ok0 205 b5V:=
 fo [] 11 0 QH a0 Tryz.func205
theorem c9F:Ok0 184 b8Q:=
 fo [] 4296020275 0 QH (b1 c9E<|a0) Tryz.func184
theorem c9G:Ok0 155 b9Q:=
 fo [] 3527 0 d1V (b1 c7o<|b1 c9F<|a0) Tryz.func155
theorem c3Y:Ok0 187 b8R:=
 fo [] 5 0 QH a0 Tryz.func187
theorem c3Z:Ok0 185 b5m:=
 fo [] 21 0 d1W (b1 c3Y<|a0) Tryz.func185
theorem c7p:Ok0 186 b5n:=
 fo [] 1991 0 d1X a0 Tryz.func186
theorem c9H:Ok0 156 b8S:=
 fo [] 14095 0 d1Y (b1 c3S<|b1 c3Z<|b1 c7p<|b1 c3Y<|a0) Tryz.func156
theorem c4a:Ok0 190 c1Z:=
 fo [] 5 0 QH a0 Tryz.func190
theorem c4b:Ok0 188 b7i:=
 fo [] 21 0 d1Z (b1 c4a<|a0) Tryz.func188
theorem c7q:Ok0 189 b7j:=
 fo [] 7951 128 d2a a0 Tryz.func189
theorem c9I:Ok0 157 c2a:=
 fo [] 4039 32 d2b (b1 c3T<|b1 c4b<|b1 c7q<|b1 c4a<|a0) Tryz.func157
theorem c4c:Ok0 195 b3T:=
 fo [] 5 0 QH a0 Tryz.func195
theorem c7r:Ok0 191 b1u:=
 fo [] 21 0 d2c (b1 c4c<|a0) Tryz.func191
theorem c7s:Ok0 193 b4P:=
 fo [(15,.pair QI Q14),(16,.pair QI Q14)] 13 2 d2d (b1 c7k<|a0) Tryz.func193
theorem c7t:Ok0 207 b5W:=
 fo [] 5 0 QH a0 Tryz.func207
theorem c4d:Ok0 194 a8s:=
 fo [] 61 0 d2e (b1 c7t<|a0) Tryz.func194
theorem c7u:Ok0 196 a8Q:=
 fo [] 4202995 0 d2f (b1 c4d<|b1 c7t<|a0) Tryz.func196
theorem c9J:Ok0 158 a8u:=
 ⟨i0y.ofR (cx:=c7i) (cxo (a1 c0L (a1 c3U (a1 c7r (a1 c7s (a1 c4d (a1 c4c (a1 c7u a0)))))))) b1v (r:=c8t) ⟨c7J,c7K⟩ Tryz.func158 rfl (by kernel_rfl) c9w,⟨_,_,Tryz.func158,rfl,by kernel_rfl⟩⟩
theorem c7v:Ok0 133 b8T:=
 fo [] 5 0 QH a0 Tryz.func133
theorem c9K:Ok0 159 c2b:=
 fo [] 371 0 d2h (b1 c7v<|a0) Tryz.func159
theorem c9L:Ok0 118 c3F:=
 fo [] 604462927822812893676787 4 d2i (b1 c9G<|b1 c9H<|b1 c9I<|b1 c9J<|b1 c9K<|a0) Tryz.func118
theorem c8F:Ok0 63 c5d:=
 fo [] 243 4 QH (b1 c9D<|b1 c9L<|a0) Tryz.func63
theorem c7w:Ok0 132 c2c:=
 fo [] 5 0 QH a0 Tryz.func132
theorem c6p:Ok0 87 b4Q:=
 fo [] 85 0 H87 (b1 c7w<|a0) Tryz.func87
theorem c8G:Ok0 89 b3o:=
 fo [(15,.list true (.list true QI))] 45 0 H89 (b1 c0L<|a0) Tryz.func89
theorem c8H:Ok0 90 b3U:=
 fo [] 967 16 H90 (b1 c7w<|a0) Tryz.func90
theorem d3e:Ok0 64 a9l:=
 ⟨i0y.ofR (cx:=c8u) (cxo (a1 c6p (a1 c6n (a1 c8G (a1 c8H a0))))) b1v (r:=R64) ⟨c7L,c7M⟩ Tryz.func64 rfl (by kernel_rfl) d2j,⟨_,_,Tryz.func64,rfl,by kernel_rfl⟩⟩
theorem b7H:Ok0 25 b8U:=
 fo [] 1945 2 H25 (b1 b7G<|b1 c8D<|b1 c8F<|b1 d3e<|a0) Tryz.func25
theorem c8I:Ok0 49 c2d:=
 fo [] 21 2 QH (b1 b7H<|a0) Tryz.func49
theorem c8J:Ok0 55 b7k:=
 fo [] 109 0 H55 a0 Tryz.func55
theorem c7x:Ok0 107 b9R:=
 fo [] 109 0 d2k a0 Tryz.func107
theorem c9M:Ok0 110 c2e:=
 fo [] 13 0 QH a0 Tryz.func110
theorem d3f:Ok0 56 b5X:=
 fo [(2,.pair QI Q55),(15,.pair QI Q54),(26,.pair QI Q54),(83,.pair QI Q54),(88,.pair QI Q54),(101,.pair QI Q54),(105,.pair QI Q54)] 4089 0 H56 (b1 c8D<|b1 c8y<|b1 c8z<|b1 c8A<|b1 c6m<|b1 c8B<|b1 c7x<|b1 c9M<|a0) Tryz.func56
theorem d3g:Ok0 57 c3G:=
 fo [] 5 0 QH a0 Tryz.func57
theorem b7I:Ok0 61 b4B:=
 fo [] 5 0 QH a0 Tryz.func61
theorem c8K:Ok0 97 c5e:=
 fo [] 115 4 QH (b1 c8F<|a0) Tryz.func97
theorem b5x:Ok0 98 b7l:=
 fo [] 45 0 H98 (b1 b7F<|a0) Tryz.func98
theorem c8L:Ok0 59 b3V:=
 fo [] 5 0 H59 a0 Tryz.func59
theorem c4e:Ok0 116 b3W:=
 fo [] 19 0 QH a0 Tryz.func116
theorem b4t:Ok0 146 b4C:=
 fo [] 51 0 d2l (b1 c8L<|b1 c4e<|a0) Tryz.func146
theorem b9A:Ok0 114 b2G:=
 fo [] 51 0 d2m (b1 b4t<|a0) Tryz.func114
theorem c9N:Ok0 147 b7m:=
 fo [] 115 0 d2n (b1 b5x<|b1 b9A<|b1 b4t<|a0) Tryz.func147
theorem c9O:Ok0 111 b8V:=
 fo [(2,.pair QI Q39)] 178258169 0 d2o (b1 b9A<|b1 b4t<|b1 c9N<|a0) Tryz.func111
theorem c4f:Ok0 177 b5o:=
 fo [] 5 0 QH a0 Tryz.func177
theorem c9P:Ok0 209 b3H:=
 fo [] 115 0 d2p (b1 c4e<|a0) Tryz.func209
theorem c9Q:Ok0 210 b8W:=
 fo [] 77 0 QH a0 Tryz.func210
theorem c9R:Ok0 204 c3H:=
 fo [] 499 0 d2q (b1 b7I<|b1 b4t<|b1 c9P<|b1 c9Q<|a0) Tryz.func204
theorem c9S:Ok0 182 c3I:=
 fo [] 1991 0 d2r (b1 b7I<|b1 c4f<|b1 c9R<|a0) Tryz.func182
theorem c9T:Ok0 152 c2f:=
 fo [] 4083 0 d2s (b1 b7I<|b1 b5x<|b1 b9A<|b1 b4t<|b1 c9S<|a0) Tryz.func152
theorem c9U:Ok0 115 c2g:=
 fo [(11,.pair QI Q1),(41,.pair QI Q1)] 251783 0 d2t (b1 b7I<|b1 b6l<|b1 b4t<|b1 c3X<|b1 c9T<|a0) Tryz.func115
theorem d3h:Ok0 58 c5f:=
 fo [(7,.pair QI (.pair QI (.pair QI (.pair QI (.pair QI (.pair QL (.pair (.arr 3 QI) (.pair (.list false Q3) Q23))))))))] 8035 0 H58 (b1 b7I<|b1 c8K<|b1 b5x<|b1 c3R<|b1 c9O<|b1 c3V<|b1 c3W<|b1 b9A<|b1 c9U<|a0) Tryz.func58
theorem d3i:Ok0 60 b3I:=
 fo [] 13 0 H60 (b1 c4e<|a0) Tryz.func60
theorem c6q:Ok0 24 b9S:=
 fo [(5,.pair QI Q56)] 6105 0 H24 (b1 c8I<|b1 c8J<|b1 d3f<|b1 d3g<|b1 d3h<|b1 c8L<|b1 d3i<|b1 b7I<|a0) Tryz.func24
theorem d3j:Ok0 38 b5p:=
 fo [] 110623 64 H38 (b1 c6q<|b1 b7H<|a0) Tryz.func38
theorem c9V:Ok0 121 b4D:=
 fo [] 16371 0 QH a0 Tryz.func121
theorem c9W:A0f Tryz.prog G0 122 b4E:=c6c _
theorem c9X:Ok0 208 b4F:=
 fo [] 5 0 d2u a0 Tryz.func208
theorem c9Y:Ok0 197 a9O:=
 fo [] 5 0 QH (b1 c9X<|a0) Tryz.func197
theorem c9Z:Ok0 161 b4G:=
 fo [] 524231 0 d2v (b1 c9Y<|a0) Tryz.func161
theorem d0A:Ok0 123 b4H:=
 fo [] 455 0 QH (b1 c9Z<|a0) Tryz.func123
theorem c6r:Ok0 68 c2h:=
 fo [] 967 0 QH (b1 c9V<|b2 c9W<|b1 d0A<|a0) Tryz.func68
theorem d3k:Ok0 69 b9T:=
 fo [] 29 0 H69 (b1 c6r<|a0) Tryz.func69
theorem c8M:Ok0 29 c2i:=
 fo [] 199 0 H29 (b1 c6r<|b1 d3k<|a0) Tryz.func29
theorem c8N:Ok0 41 b8X:=
 fo [] 93 2 H41 (b1 c0K<|b1 b7G<|a0) Tryz.func41
theorem d0B:Ok0 126 b8Y:=
 fo [] 1779 0 d2w (b1 b7F<|a0) Tryz.func126
theorem c8O:Ok0 76 b9U:=
 fo [] 13 2 H76 (b1 c8N<|b1 b7G<|b1 d0B<|a0) Tryz.func76
theorem c8P:Ok0 77 b9V:=
 fo [] 45 0 H77 (b1 c6r<|a0) Tryz.func77
theorem c6s:Ok0 39 b7n:=
 fo [] 243 8 QH (b1 c8M<|b1 c8O<|b1 c8P<|a0) Tryz.func39
theorem c4g:Ok0 14 b9W:=
 fo [(6,.pair Q12 Q71),(20,.pair Q12 Q70),(24,.pair Q12 Q70),(48,.pair Q12 Q70),(90,.pair Q12 Q70),(96,.pair Q12 Q70)] 5033 0 H14 (b1 d3d<|b1 d3j<|b1 c6s<|a0) Tryz.func14
theorem c8Q:Ok0 47 c5g:=
 fo [] 115 0 H47 (b1 c6p<|b1 c6n<|b1 c8G<|b1 c8H<|a0) Tryz.func47
theorem d0C:Ok0 130 b8Z:=
 fo [] 237 0 d2x (b1 c6p<|a0) Tryz.func130
theorem d0D:Ok0 131 b9X:=
 fo [] 135445 0 QH a0 Tryz.func131
theorem d3l:Ok0 86 c2j:=
 fo [] 509 0 H86 (b1 c8Q<|b1 d0C<|b1 d0D<|a0) Tryz.func86
theorem d3m:Ok0 46 c2k:=
 fo [] 29 2 H46 (b1 b7G<|b1 d3l<|a0) Tryz.func46
theorem c8R:Ok0 92 b9a:=
 fo [] 371 0 H92 (b1 c7v<|a0) Tryz.func92
theorem d0E:Ok0 134 a1j:=
 ⟨i0y.of (cx:=a8y) (cxo a0) b1v Tryz.func134 rfl (by kernel_rfl) c9x,⟨_,_,Tryz.func134,rfl,by kernel_rfl⟩⟩
theorem c8S:Ok0 93 b6b:=
 fo [] 45 0 H93 (b1 d0E<|a0) Tryz.func93
theorem c7y:Ok0 162 c0A:=
 fo [] 243 0 d2y (b1 c7o<|a0) Tryz.func162
theorem d0F:Ok0 163 b9b:=
 fo [] 243 0 d2z a0 Tryz.func163
theorem d0G:Ok0 135 c0B:=
 fo [] 509 0 d2A (b1 c7y<|b1 d0F<|a0) Tryz.func135
theorem c7z:Ok0 200 b7p:=
 fo [] 5 0 QH a0 Tryz.func200
theorem d0H:Ok0 198 b6c:=
 fo [] 493 0 d2B (b1 c7z<|a0) Tryz.func198
theorem d0I:Ok0 199 b3J:=
 fo [] 1991 0 d2C a0 Tryz.func199
theorem d0J:Ok0 164 b5u:=
 fo [] 16371 0 d2D (b1 c0L<|b1 c3Z<|b1 d0H<|b1 d0I<|b1 c7z<|a0) Tryz.func164
theorem d0K:Ok0 165 b7q:=
 fo [] 4077 0 d2E a0 Tryz.func165
theorem d0L:Ok0 166 b7r:=
 fo [] 28531 0 d2F (b1 b7F<|a0) Tryz.func166
theorem c7A:Ok0 137 b9c:=
 fo [] 4039 0 QH (b1 d0J<|b1 d0K<|b1 d0L<|a0) Tryz.func137
theorem d0M:Ok0 167 c2l:=
 fo [] 16327 0 d2G (b1 c4b<|a0) Tryz.func167
theorem c4h:Ok0 169 c2m:=
 fo [] 4039 32 d2H (b1 c3T<|b1 c4b<|b1 c7q<|b1 c4a<|a0) Tryz.func169
theorem d0N:Ok0 201 c0C:=
 fo [] 1 0 QH a0 Tryz.func201
theorem d0O:Ok0 168 c2n:=
 fo [] 47523 0 d2I (b1 c4h<|b1 d0N<|a0) Tryz.func168
theorem d0P:Ok0 138 c0D:=
 fo [] 953 0 QH (b1 c7A<|b1 d0M<|b1 d0O<|b1 c4h<|a0) Tryz.func138
theorem d0Q:Ok0 136 b4a:=
 fo [] 463 0 QH (b1 c7A<|a0) Tryz.func136
theorem d3n:Ok0 94 b5v:=
 fo [(5,.list true Q42)] 851 147573952589676412928 H94 (b1 d0G<|b1 d0Q<|b1 d0P<|a0) Tryz.func94
theorem d0R:Ok0 171 b9d:=
 fo [] 1991 0 d2J (b1 c3S<|b1 c3Z<|b1 c7p<|b1 c3Y<|a0) Tryz.func171
theorem d0S:Ok0 172 c0E:=
 fo [] 15987 0 d2K (b1 c0L<|b1 c3U<|b1 c7r<|b1 c7s<|b1 c4d<|b1 c4c<|b1 c7u<|a0) Tryz.func172
theorem d0T:Ok0 140 c2o:=
 fo [] 147573952727119562867 0 d2L (b1 c0L<|b1 c3W<|b1 c7y<|b1 c4h<|b1 d0R<|b1 d0S<|a0) Tryz.func140
theorem c7B:Ok0 173 b9e:=
 fo [] 327 0 d2M (b1 c3X<|a0) Tryz.func173
theorem c7C:Ok0 175 c2p:=
 fo [] 5 0 QH (b1 b5x<|a0) Tryz.func175
theorem c4i:Ok0 178 c2q:=
 fo [] 5 0 QH a0 Tryz.func178
theorem c7D:Ok0 179 c2r:=
 fo [] 141 0 QH (b1 c4i<|a0) Tryz.func179
theorem d0U:Ok0 203 c2s:=
 fo [] 51 0 d2N (b1 c4f<|b1 c4i<|b1 c7D<|a0) Tryz.func203
theorem c4j:Ok0 176 c3K:=
 fo [] 179 0 d2O (b1 d0U<|a0) Tryz.func176
theorem c7E:Ok0 143 c0F:=
 fo [] 7951 16 d2P (b1 b6l<|b1 c7n<|b1 c7B<|b1 c7C<|b1 c4j<|a0) Tryz.func143
theorem d0V:Ok0 202 c2t:=
 fo [] 125 0 d2Q (b1 c4j<|a0) Tryz.func202
theorem d0W:Ok0 174 b7w:=
 fo [] 13 0 QH (b1 c7C<|b1 c4j<|b1 d0V<|a0) Tryz.func174
theorem d0X:Ok0 141 c0G:=
 fo [(14,.pair QI Q1),(40,.pair QI Q1)] 440847 0 d2R (b1 c7E<|b1 b6l<|b1 c7B<|b1 d0W<|a0) Tryz.func141
theorem d3o:Ok0 95 c3L:=
 fo [] 14727 32 H95 (b1 c6o<|b1 c8R<|b1 c8S<|b1 c3V<|b1 c7m<|b1 d0T<|b1 d0X<|a0) Tryz.func95
theorem c4k:Ok0 104 b4I:=
 fo [] 3 0 d2S a0 Tryz.func104
theorem c0M:Ok0 99 b4J:=
 fo [] 199 0 H99 (b1 c4k<|a0) Tryz.func99
theorem c7F:Ok0 100 b6d:=
 fo [] 7 0 QH (b1 c0M<|a0) Tryz.func100
theorem d0Y:Ok0 101 b7x:=
 fo [] 83 8 d2T (b1 b5x<|b1 c0M<|b1 c7F<|a0) Tryz.func101
theorem d0Z:Ok0 180 b3K:=
 fo [] 19 0 d2U (b1 c4k<|a0) Tryz.func180
theorem d1a:Ok0 145 c3M:=
 fo [] 7495 0 d2V (b1 c0M<|b1 c4f<|b1 c4i<|b1 c7D<|b1 d0Z<|a0) Tryz.func145
theorem d1b:Ok0 103 c2u:=
 fo [] 97311 64 d2W (b1 b5x<|b1 c0M<|b1 c7E<|b1 b6l<|b1 d1a<|a0) Tryz.func103
theorem c8T:Ok0 50 c5i:=
 fo [] 11682311054023 16 H50 (b1 c8K<|b1 b5x<|b1 c0M<|b1 c7F<|b1 d0Y<|b1 c3R<|b1 d1b<|a0) Tryz.func50
theorem d1c:Ok0 142 b4K:=
 fo [] 5 0 QH a0 Tryz.func142
theorem d3p:Ok0 96 c3N:=
 fo [(5,.pair (.list true QV) Q0)] 19 4 QH (b1 c8T<|b1 d1c<|a0) Tryz.func96
theorem d3q:Ok0 48 c3O:=
 fo [] 50915 0 H48 (b1 c6o<|b1 c8R<|b1 c8S<|b1 d3n<|b1 d3o<|b1 d3p<|a0) Tryz.func48
theorem c6t:Ok0 20 c0H:=
 fo [(10,.pair QI Q56),(52,.pair QI Q54),(57,.pair QI Q54),(63,.pair QI Q54),(79,.pair QI Q54),(95,.pair QI Q54)] 88591 48 H20 (b1 c0K<|b1 b7G<|b1 b7E<|b1 d3m<|b1 c8Q<|b1 d3q<|a0) Tryz.func20
theorem c8U:Ok0 26 c2v:=
 fo [(6,.pair QI Q7),(12,.pair QI Q5),(30,.pair QI Q5),(33,.pair QI Q5)] 291 12 H26 (b1 c0K<|b1 b7G<|b1 c7l<|a0) Tryz.func26
theorem c8V:Ok0 35 b6e:=
 fo [] 647 24 QH (b1 c6t<|b1 b7H<|b1 c8U<|a0) Tryz.func35
theorem d3r:Ok0 51 b3L:=
 fo [] 1 0 H51 (b1 c4k<|a0) Tryz.func51
theorem d3s:Ok0 52 b3M:=
 fo [] 5 0 QH a0 Tryz.func52
theorem d1d:Ok0 105 c2w:=
 fo [] 5 0 QH a0 Tryz.func105
theorem c7G:Ok0 106 c2x:=
 fo [] 45 0 d2X a0 Tryz.func106
theorem d3t:Ok0 53 b6f:=
 fo [] 307 4 H53 (b1 d1d<|b1 c7G<|b1 c7x<|a0) Tryz.func53
theorem d1e:Ok0 108 b9f:=
 fo [] 51 0 d2Y (b1 c7j<|a0) Tryz.func108
theorem d1f:Ok0 109 a8O:=⟨c6b _,⟨_,_,Tryz.func109,rfl,by kernel_rfl⟩⟩
theorem c8W:Ok0 54 c2y:=
 fo [] 51 0 QH (b1 d1e<|b1 d1f<|a0) Tryz.func54
theorem b7J:Ok0 21 c2z:=
 fo [(4,.pair (.list true QV) Q0)] 909 2 H21 (b1 c8I<|b1 c8T<|b1 d3r<|b1 d3s<|b1 d3t<|b1 c8W<|b1 c8J<|a0) Tryz.func21
theorem c8X:Ok0 40 c2A:=
 fo [] 6653 2 H40 (b1 b7J<|b1 b7H<|b1 c6s<|b1 b7E<|a0) Tryz.func40
theorem c8Y:Ok0 73 c2B:=
 fo [] 5629 2 H73 (b1 c8X<|b1 c8W<|b1 c8C<|b1 c7G<|a0) Tryz.func73
theorem d3u:Ok0 36 b4L:=
 fo [(6,.pair Q12 Q71),(15,.pair Q12 Q70)] 11443 4 H36 (b1 b7J<|b1 b7H<|b1 c8M<|b1 c8Y<|b1 c8O<|b1 c8P<|a0) Tryz.func36
theorem d3v:Ok0 13 c0I:=
 fo [] 26311 16 H13 (b1 c4g<|b1 c8V<|b1 d3u<|a0) Tryz.func13
theorem c8Z:Ok0 15 b6h:=
 fo [] 253 2 H15 (b1 c8X<|b1 c8N<|a0) Tryz.func15
theorem c9a:Ok0 16 b9g:=
 fo [] 51 0 H16 a0 Tryz.func16
theorem d3w:Ok0 42 a2y:=
 fo [] 821 0 H42 (b1 c4g<|b1 b7J<|a0) Tryz.func42
theorem d3x:Ok0 17 b3r:=⟨c6l d3w.1,⟨_,_,Tryz.func17,rfl,by kernel_rfl⟩⟩
theorem d3y:Ok0 70 b0D:=
 fo [] 51 0 H70 a0 Tryz.func70
theorem d3z:Ok0 30 b9h:=
 fo [] 851 0 H30 (b1 c4g<|b1 c8Z<|b1 d3y<|a0) Tryz.func30
theorem d3A:Ok0 72 c0J:=
 fo [(6,.pair QI Q6),(36,.list true (.list true QI)),(37,.pair QI Q6)] 931 8 H72 (b1 b7E<|b1 b7F<|a0) Tryz.func72
theorem d3B:Ok0 32 b7B:=
 fo [(13,.pair Q12 Q71),(76,.pair Q12 Q70)] 1431311 16 H32 (b1 c6t<|b1 b7J<|b1 c6s<|b1 b7E<|b1 b7F<|b1 d3A<|b1 c8Y<|a0) Tryz.func32
theorem fs9:Ok0 9 c2C:=
 fo [] 957 0 QH (b1 d3v<|b1 c4g<|b1 c8Z<|b1 c9a<|b1 d3x<|b1 d3z<|b1 d3B<|a0) Tryz.func9
theorem d3C:Ok0 12 c3P:=
 fo [] 135 0 QH a0 Tryz.func12
theorem d3D:Ok0 18 c3Q:=
 fo [] 51 4 H18 a0 Tryz.func18
theorem d3E:Ok0 74 c6k:=
 fo [] 5 0 H74 a0 Tryz.func74
theorem d3F:Ok0 75 c5j:=
 fo [] 5 0 H75 a0 Tryz.func75
theorem d3G:Ok0 34 c5k:=
 fo [] 19 0 QH (b1 d3E<|b1 d3F<|a0) Tryz.func34
theorem d3H:Ok0 43 c2D:=
 fo [] 13 0 H43 a0 Tryz.func43
theorem d3I:Ok0 19 b7C:=
 fo [] 29 2 H19 (b1 d3G<|b1 d3H<|a0) Tryz.func19
theorem d3J:Ok0 23 b9i:=
 fo [] 1735 16 H23 (b1 b7J<|b1 c6q<|b1 c8V<|a0) Tryz.func23
theorem d3K:Ok0 66 b7D:=
 fo [] 51 0 H66 (b1 c9a<|a0) Tryz.func66
theorem d3L:Ok0 27 b6j:=
 fo [] 19 12 QH (b1 d3K<|a0) Tryz.func27
theorem fs4:Ok0 4 a6N:=
 fo [] 22770719 32 H4 (b1 fs9<|b1 d3C<|b1 d3D<|b1 d3I<|b1 c6t<|b1 b7J<|b1 c0K<|b1 d3J<|b1 c6q<|b1 b7H<|b1 c8U<|b1 d3L<|a0) Tryz.func4
end Go.Ab
