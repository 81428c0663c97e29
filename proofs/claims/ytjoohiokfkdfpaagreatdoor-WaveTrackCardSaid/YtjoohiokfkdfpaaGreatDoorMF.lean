/- Part of the proof: S. Conditions: as each statement tells. -/
import Derived.KernelRfl
import Derived.Test.YtjoohiokfkdfpaaGreatDoorME
noncomputable section
set_option linter.unusedSimpArgs false
set_option linter.unusedVariables false
namespace Go.Ab
variable {n:Nat}{s:FSem}
open Go.Proofs
set_option maxRecDepth 100000
theorem b3m:Tryz.prog.follows .mixedOrders=true:=by kernel_rfl
theorem d8H:B0d Tryz.prog c2B=true:=by kernel_rfl
theorem d8I:B0b Tryz.prog c2K=true:=by kernel_rfl
theorem d8J:A0y Tryz.prog c2B c6Q=true:=by kernel_rfl
theorem laidOut:laidOutB Tryz.prog=true:=by kernel_rfl
@[reducible] def Ok0(n:Nat)(s:FSem):Prop:=i0y Tryz.prog G0 n s∧l0x Tryz.prog n
theorem cxo{a:List (Nat×FSem)}{b:List (Nat×Ty)}{c d:Nat}(h:∀p∈a,FOk Tryz.prog G0 p.1 p.2):CxOk Tryz.prog (b2I a b c d):=
 CxOk.of (CxTy.of (tab:=c2B) (l:=c6Q) (q:=c2K) (fun _=>rfl) (fun _=>rfl) (fun _=>rfl) d8H d8I d8J) (fun _=>rfl) h
theorem b1{l:List (Nat×FSem)}(h:Ok0 n s)(g:∀p∈l,FOk Tryz.prog G0 p.1 p.2):∀p∈(n,s)::l,FOk Tryz.prog G0 p.1 p.2:=a1 (a:=(n,s)) h g
theorem b2{l:List (Nat×FSem)}(h:A0f Tryz.prog G0 n s)(g:∀p∈l,FOk Tryz.prog G0 p.1 p.2):∀p∈(n,s)::l,FOk Tryz.prog G0 p.1 p.2:=B0g (a:=(n,s)) h g
theorem fo{a:List (Nat × FSem)}(b : List (Nat × Ty))(c d : Nat)(H : Hints){fn:Func}{e:Code}(h : ∀ p ∈ a, FOk Tryz.prog G0 p.1 p.2)(hf : Tryz.prog.funcs[n]? = some fn)(hb : fn.body = some e :=by rfl)(hk : A0m fn e H s = true :=by kernel_rfl)(hn : (fn.name == "runtime.NumGoroutine") = false :=by kernel_rfl)(hq : ∀ x, A0j (b2I a b c d) H fn s.ps s.rs x = s.F x :=by intro x; kernel_rfl): Ok0 n s :=
 ⟨i0y.of (cxo h) b3m hf hb hk hq,⟨_,_,hf,hb,hn⟩⟩
theorem d8K:Ok0 17 c8H:=
 fo [] 19 0 QH a0 Tryz.func17
theorem d8L:Ok0 25 c1J:=
 fo [] 51 0 H25 a0 Tryz.func25
theorem d2a:Ok0 104 c1K:=
 fo [] 5 0 QH a0 Tryz.func104
theorem b7B:Ok0 40 c1L:=
 fo [] 5 2 QH (b1 d2a<|a0) Tryz.func40
theorem d3X:Ok0 86 b8c:=
 fo [] 5 2 QH (b1 b7B<|a0) Tryz.func86
theorem d4Z:Ok0 178 c2L:=
 fo [] 5 0 d6Z a0 Tryz.func178
theorem d2b:Ok0 179 c1M:=
 fo [] 5 0 d7a a0 Tryz.func179
theorem b5T:Ok0 87 c1N:=
 fo [] 19 0 QH (b1 d4Z<|b1 d2b<|a0) Tryz.func87
theorem d2c:Ok0 180 c1O:=
 fo [] 1779 0 d7b (b1 b5T<|a0) Tryz.func180
theorem d8M:Ok0 88 b7s:=
 fo [] 371 0 H88 (b1 d2c<|a0) Tryz.func88
theorem c7d:Ok0 181 c1P:=
 fo [] 5 0 QH a0 Tryz.func181
theorem c7e:Ok0 91 c1Q:=
 fo [] 51 0 H91 (b1 c7d<|a0) Tryz.func91
theorem d8N:Ok0 89 c2M:=
 fo [] 51 0 H89 (b1 c7e<|a0) Tryz.func89
theorem d8O:Ok0 90 b5H:=
 fo [] 29 2 QH (b1 c7e<|a0) Tryz.func90
theorem d3Y:Ok0 31 c2N:=
 fo [] 4019 4 H31 (b1 d3X<|b1 b5T<|b1 d8M<|b1 d8N<|b1 d8O<|b1 c7e<|a0) Tryz.func31
theorem c7f:Ok0 122 c4U:=
 fo [] 5 0 QH a0 Tryz.func122
theorem c7g:Ok0 126 b5y:=
 fo [] 5 0 d7c a0 Tryz.func126
theorem d2d:Ok0 259 b5z:=
 fo [] 51 0 d7d (b1 c7g<|a0) Tryz.func259
theorem d5a:Ok0 182 b4s:=
 fo [] 243 0 d7e (b1 c7d<|b1 d2d<|a0) Tryz.func182
theorem d3Z:Ok0 92 c1R:=
 fo [] 5 0 QH (b1 c7f<|b1 d5a<|a0) Tryz.func92
theorem d8P:Ok0 93 b5I:=
 fo [] 41 0 H93 (b1 d3X<|b1 d3Z<|a0) Tryz.func93
theorem d5b:Ok0 183 b8d:=
 fo [] 2035 0 d7f (b1 b5T<|b1 d2b<|a0) Tryz.func183
theorem d8Q:Ok0 94 b7t:=
 fo [] 755 8 H94 (b1 d5b<|a0) Tryz.func94
theorem d4a:Ok0 32 c2O:=
 fo [] 9905938165922271457542438841 0 H32 (b1 d3Z<|b1 d8P<|b1 d8Q<|a0) Tryz.func32
theorem d8R:Ok0 29 c4V:=
 fo [] 109 0 QH (b1 d8L<|b1 d3Y<|b1 d4a<|a0) Tryz.func29
theorem d5c:Ok0 102 d0I:=
 fo [] 5 0 d7g a0 Tryz.func102
theorem d5d:Ok0 103 c8I:=
 fo [] 5 0 d7h a0 Tryz.func103
theorem d8S:Ok0 38 c8J:=
 fo [] 19 0 QH (b1 d5c<|b1 d5d<|a0) Tryz.func38
theorem d5e:Ok0 177 c4W:=
 fo [] 5 2 QH a0 Tryz.func177
theorem d8T:Ok0 85 c6R:=
 fo [] 199 8 H85 (b1 d8S<|b1 d5e<|a0) Tryz.func85
theorem d8U:Ok0 30 c4X:=
 fo [] 71 8 QH (b1 d8T<|a0) Tryz.func30
theorem d0K:Ok0 60 c1S:=
 fo [] 21 0 H60 a0 Tryz.func60
theorem d2e:Ok0 138 c1T:=
 fo [] 5 0 QH a0 Tryz.func138
theorem d4b:Ok0 61 c1U:=
 fo [] 371 0 H61 (b1 d2e<|a0) Tryz.func61
theorem d5f:Ok0 139 a1q:=
 ⟨i0y.of (cx:=a9W) (cxo a0) b3m Tryz.func139 rfl (by kernel_rfl) d4W,⟨_,_,Tryz.func139,rfl,by kernel_rfl⟩⟩
theorem d4c:Ok0 62 b8e:=
 fo [] 45 0 H62 (b1 d5f<|a0) Tryz.func62
theorem c7h:Ok0 199 c2R:=
 fo [] 83 0 d7i a0 Tryz.func199
theorem c7i:Ok0 200 c6T:=
 fo [] 83 8 d7j a0 Tryz.func200
theorem d2f:Ok0 268 c1V:=
 fo [] 5 2 QH a0 Tryz.func268
theorem c7j:Ok0 201 b6O:=
 fo [] 5 0 d7k (b1 d2f<|a0) Tryz.func201
theorem c7k:Ok0 129 c8L:=
 fo [] 4611688217584863559 16 d7l (b1 c7h<|b1 c7i<|b1 c7j<|a0) Tryz.func129
theorem b8o:Ok0 192 a1S:=
 ⟨i0y.of (cx:=d1Y) (cxo a0) b3m Tryz.func192 rfl (by kernel_rfl) d4X,⟨_,_,Tryz.func192,rfl,by kernel_rfl⟩⟩
theorem d4d:Ok0 192 a2x:=
 ⟨i0y.of (cx:=c8M) (cxo a0) b3m Tryz.func192 rfl (by kernel_rfl) d3R,⟨_,_,Tryz.func192,rfl,by kernel_rfl⟩⟩
theorem d4e:Ok0 204 a1n:=
 ⟨i0y.of (cx:=c8N) (cxo a0) b3m Tryz.func204 rfl (by kernel_rfl) d3S,⟨_,_,Tryz.func204,rfl,by kernel_rfl⟩⟩
theorem d2g:Ok0 134 c2S:=
 fo [] 43523 8 d7m (b1 d4d<|b1 d4e<|a0) Tryz.func134
theorem c7l:Ok0 130 c2T:=
 fo [] 70291 4 d7n a0 Tryz.func130
theorem d2h:Ok0 239 c2U:=
 fo [] 21 0 d7o a0 Tryz.func239
theorem d2i:Ok0 205 c2V:=
 fo [] 243 0 d7p (b1 d2h<|a0) Tryz.func205
theorem c7m:Ok0 243 c1W:=
 fo [] 5 0 QH a0 Tryz.func243
theorem c7n:Ok0 241 b7u:=
 fo [] 21 0 d7q (b1 c7m<|a0) Tryz.func241
theorem d2j:Ok0 242 b7v:=
 fo [] 1991 0 d7r a0 Tryz.func242
theorem d5g:Ok0 206 c1X:=
 fo [] 1991 0 d7s (b1 c7h<|b1 c7n<|b1 d2j<|b1 c7m<|a0) Tryz.func206
theorem c7o:Ok0 246 c4Y:=
 fo [] 5 0 QH a0 Tryz.func246
theorem c7p:Ok0 244 b9A:=
 fo [] 21 0 d7t (b1 c7o<|a0) Tryz.func244
theorem d2k:Ok0 245 b9B:=
 fo [] 7951 128 d7u a0 Tryz.func245
theorem c7q:Ok0 207 b6P:=
 fo [] 4039 32 d7v (b1 c7i<|b1 c7p<|b1 d2k<|b1 c7o<|a0) Tryz.func207
theorem c7r:Ok0 251 b5K:=
 fo [] 5 0 QH a0 Tryz.func251
theorem d2l:Ok0 247 b3l:=
 fo [] 21 0 d7w (b1 c7r<|a0) Tryz.func247
theorem d2m:Ok0 249 b6Q:=
 fo [(15,.pair QI Q12),(16,.pair QI Q12)] 13 2 d7x (b1 d2f<|a0) Tryz.func249
theorem d2n:Ok0 292 b8f:=
 fo [] 5 0 QH a0 Tryz.func292
theorem c7s:Ok0 250 a9X:=
 fo [] 61 0 d7y (b1 d2n<|a0) Tryz.func250
theorem d2o:Ok0 252 b1b:=
 fo [] 4202995 0 d7z (b1 c7s<|b1 d2n<|a0) Tryz.func252
theorem d5h:Ok0 208 c2W:=
 fo [] 15987 0 d7A (b1 b8o<|b1 c7j<|b1 d2l<|b1 d2m<|b1 c7s<|b1 c7r<|b1 d2o<|a0) Tryz.func208
theorem d5i:Ok0 135 c4Z:=
 fo [] 147573952727119562867 0 d7B (b1 c7l<|b1 b8o<|b1 d2i<|b1 d5g<|b1 c7q<|b1 d5h<|a0) Tryz.func135
theorem c7t:Ok0 202 c5a:=
 fo [] 19 0 QH a0 Tryz.func202
theorem b8p:Ok0 194 c1Y:=
 fo [] 455 0 d7C (b1 c7t<|a0) Tryz.func194
theorem d2p:Ok0 158 c5b:=
 fo [] 711 8 d7D (b1 b8p<|a0) Tryz.func158
theorem d2q:Ok0 209 c1Z:=
 fo [] 327 0 d7E (b1 c7t<|a0) Tryz.func209
theorem b4v:Ok0 111 b9C:=
 fo [] 45 0 d7F (b1 b5T<|a0) Tryz.func111
theorem d2r:Ok0 262 c5c:=
 fo [] 5 0 QH (b1 b4v<|a0) Tryz.func262
theorem c7u:Ok0 264 b7w:=
 fo [] 5 0 QH a0 Tryz.func264
theorem c7v:Ok0 265 c5d:=
 fo [] 5 0 QH a0 Tryz.func265
theorem d2s:Ok0 266 c5e:=
 fo [] 141 0 QH (b1 c7v<|a0) Tryz.func266
theorem d5j:Ok0 304 c5f:=
 fo [] 51 0 d7G (b1 c7u<|b1 c7v<|b1 d2s<|a0) Tryz.func304
theorem c7w:Ok0 263 c6U:=
 fo [] 179 0 d7H (b1 d5j<|a0) Tryz.func263
theorem d2t:Ok0 193 c2X:=
 fo [] 7951 16 d7I (b1 d2p<|b1 b8p<|b1 d2q<|b1 d2r<|b1 c7w<|a0) Tryz.func193
theorem d5k:Ok0 270 c5g:=
 fo [] 125 0 d7J (b1 c7w<|a0) Tryz.func270
theorem d5l:Ok0 210 b9D:=
 fo [] 13 0 QH (b1 d2r<|b1 c7w<|b1 d5k<|a0) Tryz.func210
theorem d5m:Ok0 136 c2Y:=
 fo [(14,.pair QI Q1),(40,.pair QI Q1)] 440847 0 d7K (b1 d2t<|b1 b8p<|b1 d2q<|b1 d5l<|a0) Tryz.func136
theorem d8V:Ok0 58 c6V:=
 fo [] 14727 32 H58 (b1 d0K<|b1 d4b<|b1 d4c<|b1 c7k<|b1 d2g<|b1 d5i<|b1 d5m<|a0) Tryz.func58
theorem c7x:Ok0 115 c2Z:=
 fo [] 5 0 QH a0 Tryz.func115
theorem d5n:Ok0 157 c5h:=
 fo [] 5 2 QH (b1 d2g<|a0) Tryz.func157
theorem d8W:Ok0 75 c3a:=
 fo [] 51 4 H75 (b1 d0K<|b1 c7x<|b1 c7k<|b1 c7l<|b1 d5n<|b1 d2p<|a0) Tryz.func75
theorem d5o:Ok0 290 b8g:=
 fo [] 11 0 QH a0 Tryz.func290
theorem d5p:Ok0 240 c2a:=
 fo [] 4296020275 0 QH (b1 d5o<|a0) Tryz.func240
theorem d5q:Ok0 159 c3b:=
 fo [] 3527 0 d7L (b1 d2h<|b1 d5p<|a0) Tryz.func159
theorem d5r:Ok0 160 c2b:=
 fo [] 14095 0 d7M (b1 c7h<|b1 c7n<|b1 d2j<|b1 c7m<|a0) Tryz.func160
theorem d5s:Ok0 161 c5i:=
 fo [] 4039 32 d7N (b1 c7i<|b1 c7p<|b1 d2k<|b1 c7o<|a0) Tryz.func161
theorem d5t:Ok0 162 b0D:=
 ⟨i0y.ofR (cx:=d1Z) (cxo (a1 b8o (a1 c7j (a1 d2l (a1 d2m (a1 c7s (a1 c7r (a1 d2o a0)))))))) b3m (r:=d3T) ⟨d2O,d2P⟩ Tryz.func162 rfl (by kernel_rfl) d4Y,⟨_,_,Tryz.func162,rfl,by kernel_rfl⟩⟩
theorem d5u:Ok0 163 c5j:=
 fo [] 371 0 d7P (b1 d2e<|a0) Tryz.func163
theorem d8X:Ok0 76 c6W:=
 fo [] 604462927822812893676787 4 H76 (b1 d5q<|b1 d5r<|b1 d5s<|b1 d5t<|b1 d5u<|a0) Tryz.func76
theorem d4f:Ok0 24 c8O:=
 fo [] 243 4 QH (b1 d8W<|b1 d8X<|a0) Tryz.func24
theorem d2u:Ok0 110 c8P:=
 fo [] 115 4 QH (b1 d4f<|a0) Tryz.func110
theorem c7y:Ok0 117 b6C:=
 fo [] 3 0 d7Q a0 Tryz.func117
theorem b8q:Ok0 112 b6D:=
 fo [] 199 0 d7R (b1 c7y<|a0) Tryz.func112
theorem d2v:Ok0 113 b8h:=
 fo [] 7 0 QH (b1 b8q<|a0) Tryz.func113
theorem d5v:Ok0 114 b9E:=
 fo [] 83 8 d7S (b1 b4v<|b1 b8q<|b1 d2v<|a0) Tryz.func114
theorem d5w:Ok0 267 b5A:=
 fo [] 19 0 d7T (b1 c7y<|a0) Tryz.func267
theorem d5x:Ok0 195 c6X:=
 fo [] 7495 0 d7U (b1 b8q<|b1 c7u<|b1 c7v<|b1 d2s<|b1 d5w<|a0) Tryz.func195
theorem d5y:Ok0 116 c5k:=
 fo [] 97311 64 d7V (b1 b4v<|b1 b8q<|b1 d2t<|b1 b8p<|b1 d5x<|a0) Tryz.func116
theorem d4g:Ok0 45 c8Q:=
 fo [] 11682311054023 16 H45 (b1 d2u<|b1 b4v<|b1 b8q<|b1 d2v<|b1 d5v<|b1 c7x<|b1 d5y<|a0) Tryz.func45
theorem d5z:Ok0 137 b6E:=
 fo [] 5 0 QH a0 Tryz.func137
theorem d8Y:Ok0 59 c6Y:=
 fo [(5,.pair (.list true QV) Q0)] 19 4 QH (b1 d4g<|b1 d5z<|a0) Tryz.func59
theorem d5A:Ok0 211 c2c:=
 fo [] 243 0 d7W a0 Tryz.func211
theorem d5B:Ok0 140 c3c:=
 fo [] 509 0 d7X (b1 d2i<|b1 d5A<|a0) Tryz.func140
theorem d2w:Ok0 273 b9F:=
 fo [] 5 0 QH a0 Tryz.func273
theorem d5C:Ok0 271 b8i:=
 fo [] 493 0 d7Y (b1 d2w<|a0) Tryz.func271
theorem d5D:Ok0 272 b5B:=
 fo [] 1991 0 d7Z a0 Tryz.func272
theorem d5E:Ok0 212 b7x:=
 fo [] 16371 0 d8a (b1 b8o<|b1 c7n<|b1 d5C<|b1 d5D<|b1 d2w<|a0) Tryz.func212
theorem d5F:Ok0 213 b9G:=
 fo [] 4077 0 d8b a0 Tryz.func213
theorem d5G:Ok0 214 b9H:=
 fo [] 28531 0 d8c (b1 b5T<|a0) Tryz.func214
theorem d2x:Ok0 142 c2d:=
 fo [] 4039 0 QH (b1 d5E<|b1 d5F<|b1 d5G<|a0) Tryz.func142
theorem d5H:Ok0 215 c5l:=
 fo [] 16327 0 d8d (b1 c7p<|a0) Tryz.func215
theorem d5I:Ok0 274 b5L:=
 fo [] 1 0 QH a0 Tryz.func274
theorem d5J:Ok0 216 c5m:=
 fo [] 47523 0 d3U (b1 c7q<|b1 d5I<|a0) Tryz.func216
theorem d5K:Ok0 143 c3e:=
 fo [] 953 0 QH (b1 d2x<|b1 c7q<|b1 d5H<|b1 d5J<|a0) Tryz.func143
theorem d5L:Ok0 141 b5M:=
 fo [] 463 0 QH (b1 d2x<|a0) Tryz.func141
theorem d8Z:Ok0 63 b7y:=
 fo [(5,.list true Q40)] 851 147573952589676412928 H63 (b1 d5B<|b1 d5L<|b1 d5K<|a0) Tryz.func63
theorem d9a:Ok0 19 c6Z:=
 fo [] 50915 0 H19 (b1 d8V<|b1 d8Y<|b1 d0K<|b1 d4b<|b1 d4c<|b1 d8Z<|a0) Tryz.func19
theorem d0L:Ok0 41 c5n:=
 fo [] 5 2 QH a0 Tryz.func41
theorem c3o:Ok0 39 c5o:=
 fo [] 85 2 H39 (b1 d0L<|b1 b5T<|b1 d2a<|a0) Tryz.func39
theorem d2y:Ok0 191 c5p:=
 fo [] 5 0 QH a0 Tryz.func191
theorem c7z:Ok0 106 b6S:=
 fo [] 85 0 d8e (b1 d2y<|a0) Tryz.func106
theorem c7A:Ok0 107 b8j:=
 fo [] 19 0 d8f a0 Tryz.func107
theorem d2z:Ok0 108 b5m:=
 fo [(15,.list true (.list true QI))] 45 0 d8g (b1 b8o<|a0) Tryz.func108
theorem d2A:Ok0 109 b5N:=
 fo [] 967 16 d8h (b1 d2y<|a0) Tryz.func109
theorem d4h:Ok0 43 c8R:=
 fo [] 115 0 H43 (b1 c7z<|b1 c7A<|b1 d2z<|b1 d2A<|a0) Tryz.func43
theorem d5M:Ok0 189 c2e:=
 fo [] 237 0 d8i (b1 c7z<|a0) Tryz.func189
theorem d5N:Ok0 190 c3f:=
 fo [] 135445 0 QH a0 Tryz.func190
theorem d5O:Ok0 105 c5q:=
 fo [] 509 0 d8j (b1 d4h<|b1 d5M<|b1 d5N<|a0) Tryz.func105
theorem d9b:Ok0 42 c5r:=
 fo [] 29 2 H42 (b1 c3o<|b1 d5O<|a0) Tryz.func42
theorem d9c:Ok0 12 c3g:=
 fo [(10,.pair QI Q54),(52,.pair QI Q52),(57,.pair QI Q52),(63,.pair QI Q52),(79,.pair QI Q52),(95,.pair QI Q52)] 88591 48 H12 (b1 d9a<|b1 c3o<|b1 b7B<|b1 d0L<|b1 d9b<|b1 d4h<|a0) Tryz.func12
theorem d4i:Ok0 72 c2f:=
 fo [] 5 2 QH (b1 b7B<|b1 c7A<|a0) Tryz.func72
theorem d9d:Ok0 73 b1G:=
 ⟨i0y.ofR (cx:=d3V) (cxo (a1 c7z (a1 c7A (a1 d2z (a1 d2A a0))))) b3m (r:=R73) ⟨d2Q,d2R⟩ Tryz.func73 rfl (by kernel_rfl) d8k,⟨_,_,Tryz.func73,rfl,by kernel_rfl⟩⟩
theorem d0M:Ok0 22 c2g:=
 fo [] 1945 2 H22 (b1 d4f<|b1 c3o<|b1 d4i<|b1 d9d<|a0) Tryz.func22
theorem d4j:Ok0 44 c5s:=
 fo [] 21 2 QH (b1 d0M<|a0) Tryz.func44
theorem d9e:Ok0 46 b5C:=
 fo [] 1 0 H46 (b1 c7y<|a0) Tryz.func46
theorem d9f:Ok0 47 b5D:=
 fo [] 5 0 QH a0 Tryz.func47
theorem d5P:Ok0 118 c5t:=
 fo [] 5 0 QH a0 Tryz.func118
theorem d2B:Ok0 119 c5u:=
 fo [] 45 0 d8l a0 Tryz.func119
theorem d2C:Ok0 120 c3h:=
 fo [] 109 0 d8m a0 Tryz.func120
theorem d9g:Ok0 48 b8k:=
 fo [] 307 4 H48 (b1 d5P<|b1 d2B<|b1 d2C<|a0) Tryz.func48
theorem d5Q:Ok0 121 b1a:=⟨d0C _,⟨_,_,Tryz.func121,rfl,by kernel_rfl⟩⟩
theorem d4k:Ok0 49 c5v:=
 fo [] 51 0 QH (b1 c7e<|b1 d5Q<|a0) Tryz.func49
theorem d4l:Ok0 50 b9K:=
 fo [] 109 0 H50 a0 Tryz.func50
theorem d4m:Ok0 13 c5w:=
 fo [(4,.pair (.list true QV) Q0)] 909 2 H13 (b1 d4j<|b1 d4g<|b1 d9e<|b1 d9f<|b1 d9g<|b1 d4k<|b1 d4l<|a0) Tryz.func13
theorem d9h:Ok0 95 c3i:=
 fo [(6,.pair QI Q5),(36,.list true (.list true QI)),(37,.pair QI Q5)] 931 8 H95 (b1 b7B<|b1 b5T<|a0) Tryz.func95
theorem d2D:Ok0 101 c2h:=
 fo [] 93 2 d8n (b1 c3o<|b1 d0L<|a0) Tryz.func101
theorem d5R:Ok0 184 c3j:=
 fo [] 13 2 d8o (b1 c3o<|b1 d2D<|b1 d2c<|a0) Tryz.func184
theorem d5S:Ok0 301 b6F:=
 fo [] 16371 0 QH a0 Tryz.func301
theorem d5T:A0f Tryz.prog G0 302 b6G:=d0D _
theorem d5U:Ok0 330 b6H:=
 fo [] 5 0 d3W a0 Tryz.func330
theorem d5V:Ok0 328 b2f:=
 fo [] 5 0 QH (b1 d5U<|a0) Tryz.func328
theorem d5W:Ok0 320 b6I:=
 fo [] 524231 0 d8p (b1 d5V<|a0) Tryz.func320
theorem d5X:Ok0 303 b6J:=
 fo [] 455 0 QH (b1 d5W<|a0) Tryz.func303
theorem c7B:Ok0 260 c5x:=
 fo [] 967 0 QH (b1 d5S<|b2 d5T<|b1 d5X<|a0) Tryz.func260
theorem d5Y:Ok0 261 c3k:=
 fo [] 29 0 d8q (b1 c7B<|a0) Tryz.func261
theorem d5Z:Ok0 185 c5y:=
 fo [] 199 0 d8r (b1 c7B<|b1 d5Y<|a0) Tryz.func185
theorem d6a:Ok0 186 c3l:=
 fo [] 45 0 d8s (b1 c7B<|a0) Tryz.func186
theorem d0N:Ok0 96 b9L:=
 fo [] 243 8 QH (b1 d5R<|b1 d5Z<|b1 d6a<|a0) Tryz.func96
theorem d2E:Ok0 100 c5z:=
 fo [] 6653 2 d8t (b1 d4m<|b1 d0M<|b1 b7B<|b1 d0N<|a0) Tryz.func100
theorem d2F:Ok0 187 b7z:=
 fo [] 109 0 d8u a0 Tryz.func187
theorem d9i:Ok0 97 c5A:=
 fo [] 5629 2 H97 (b1 d4k<|b1 d2E<|b1 d2B<|b1 d2F<|a0) Tryz.func97
theorem d9j:Ok0 33 b9M:=
 fo [(13,.pair Q10 Q69),(76,.pair Q10 Q68)] 1431311 16 H33 (b1 d9c<|b1 d4m<|b1 b7B<|b1 b5T<|b1 d9h<|b1 d0N<|b1 d9i<|a0) Tryz.func33
theorem d6b:Ok0 196 b9N:=
 fo [] 253 0 d8v a0 Tryz.func196
theorem d2G:Ok0 123 b5O:=
 fo [] 243 0 d8w (b1 d6b<|a0) Tryz.func123
theorem d2H:Ok0 125 b5P:=
 fo [] 5 0 QH a0 Tryz.func125
theorem d2I:Ok0 127 b6K:=
 fo [] 5 0 QH a0 Tryz.func127
theorem d6c:Ok0 188 b5Q:=
 fo [] 179 0 d8x (b1 c7d<|b1 d2d<|a0) Tryz.func188
theorem d9k:Ok0 98 b8l:=
 fo [(4,.pair Q10 Q19)] 745 0 H98 (b1 b7B<|b1 c7f<|b1 d2G<|b1 d2H<|b1 c7g<|b1 d2I<|b1 d2F<|b1 d6c<|a0) Tryz.func98
theorem d6d:Ok0 124 c5B:=
 fo [] 13 0 QH a0 Tryz.func124
theorem d9l:Ok0 51 b8m:=
 fo [(2,.pair QI Q53),(15,.pair QI Q52),(26,.pair QI Q52),(83,.pair QI Q52),(88,.pair QI Q52),(101,.pair QI Q52),(105,.pair QI Q52)] 4089 0 H51 (b1 d4i<|b1 d2C<|b1 c7f<|b1 d2G<|b1 d6d<|b1 d2H<|b1 c7g<|b1 d2I<|a0) Tryz.func51
theorem d9m:Ok0 52 c7a:=
 fo [] 5 0 QH a0 Tryz.func52
theorem b9P:Ok0 56 b6L:=
 fo [] 5 0 QH a0 Tryz.func56
theorem d4n:Ok0 54 b5R:=
 fo [] 5 0 H54 a0 Tryz.func54
theorem c7C:Ok0 133 b5S:=
 fo [] 19 0 QH a0 Tryz.func133
theorem b6t:Ok0 197 b6M:=
 fo [] 51 0 d8y (b1 d4n<|b1 c7C<|a0) Tryz.func197
theorem c2C:Ok0 131 b4u:=
 fo [] 51 0 d8z (b1 b6t<|a0) Tryz.func131
theorem d6e:Ok0 198 b9O:=
 fo [] 115 0 d8A (b1 b4v<|b1 c2C<|b1 b6t<|a0) Tryz.func198
theorem d6f:Ok0 128 c2i:=
 fo [(2,.pair QI Q37)] 178258169 0 d8B (b1 c2C<|b1 b6t<|b1 d6e<|a0) Tryz.func128
theorem d6g:Ok0 321 b5E:=
 fo [] 115 0 d8C (b1 c7C<|a0) Tryz.func321
theorem d6h:Ok0 322 c2j:=
 fo [] 77 0 QH a0 Tryz.func322
theorem d6i:Ok0 305 c7b:=
 fo [] 499 0 d8D (b1 b9P<|b1 b6t<|b1 d6g<|b1 d6h<|a0) Tryz.func305
theorem d6j:Ok0 269 c7c:=
 fo [] 1991 0 d8E (b1 b9P<|b1 c7u<|b1 d6i<|a0) Tryz.func269
theorem d6k:Ok0 203 c5C:=
 fo [] 4083 0 d8F (b1 b9P<|b1 b4v<|b1 c2C<|b1 b6t<|b1 d6j<|a0) Tryz.func203
theorem d6l:Ok0 132 c5D:=
 fo [(11,.pair QI Q1),(41,.pair QI Q1)] 251783 0 d8G (b1 b9P<|b1 b8p<|b1 b6t<|b1 c7t<|b1 d6k<|a0) Tryz.func132
theorem d9n:Ok0 53 c8S:=
 fo [(7,.pair QI (.pair QI (.pair QI (.pair QI (.pair QI (.pair QL (.pair (.arr 3 QI) (.pair (.list false Q3) Q21))))))))] 8035 0 H53 (b1 b9P<|b1 d2u<|b1 b4v<|b1 c7x<|b1 d6f<|b1 c7k<|b1 c7l<|b1 c2C<|b1 d6l<|a0) Tryz.func53
theorem d9o:Ok0 55 b5F:=
 fo [] 13 0 H55 (b1 c7C<|a0) Tryz.func55
theorem d9p:Ok0 15 c3m:=
 fo [(5,.pair QI Q54)] 6105 0 H15 (b1 d4j<|b1 d4l<|b1 d9l<|b1 d9m<|b1 d9n<|b1 d4n<|b1 d9o<|b1 b9P<|a0) Tryz.func15
theorem d9q:Ok0 99 b7A:=
 fo [] 110623 64 H99 (b1 d9p<|b1 d0M<|a0) Tryz.func99
theorem d9r:Ok0 34 c3n:=
 fo [(6,.pair Q10 Q69),(20,.pair Q10 Q68),(24,.pair Q10 Q68),(48,.pair Q10 Q68),(90,.pair Q10 Q68),(96,.pair Q10 Q68)] 5033 0 H34 (b1 d0N<|b1 d9k<|b1 d9q<|a0) Tryz.func34
theorem d9s:Ok0 35 b8n:=
 fo [] 253 2 H35 (b1 d2E<|b1 d2D<|a0) Tryz.func35
theorem fs8:Ok0 8 b0Q:=
 fo [] 4126479 16 QH (b1 d8K<|b1 d8R<|b1 d8U<|b1 d3Y<|b1 d4a<|b1 d9j<|b1 d9r<|b1 d9s<|a0) Tryz.func8
end Go.Ab
