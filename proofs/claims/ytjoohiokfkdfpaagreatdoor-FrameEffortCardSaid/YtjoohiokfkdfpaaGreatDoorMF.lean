/- Part of the proof: S. Conditions: as each statement tells. -/
import Derived.KernelRfl
import Derived.Test.YtjoohiokfkdfpaaGreatDoorME
noncomputable section
set_option linter.unusedSimpArgs false
set_option linter.unusedVariables false
namespace Go.Ab
variable {n:Nat}{s:FSem}
open Go.Proofs
set_option maxRecDepth 100000
theorem b0O:Tryz.prog.follows .mixedOrders=true:=by kernel_rfl
theorem c9z:B0d Tryz.prog b7X=true:=by kernel_rfl
theorem c9A:B0b Tryz.prog b8d=true:=by kernel_rfl
theorem c9B:A0y Tryz.prog b7X c1E=true:=by kernel_rfl
theorem laidOut:laidOutB Tryz.prog=true:=by kernel_rfl
@[reducible] def Ok0(n:Nat)(s:FSem):Prop:=i0y Tryz.prog G0 n s∧l0x Tryz.prog n
theorem cxo{a:List (Nat×FSem)}{b:List (Nat×Ty)}{c d:Nat}(h:∀p∈a,FOk Tryz.prog G0 p.1 p.2):CxOk Tryz.prog (b2S a b c d):=
 CxOk.of (CxTy.of (tab:=b7X) (l:=c1E) (q:=b8d) (fun _=>rfl) (fun _=>rfl) (fun _=>rfl) c9z c9A c9B) (fun _=>rfl) h
theorem b1{l:List (Nat×FSem)}(h:Ok0 n s)(g:∀p∈l,FOk Tryz.prog G0 p.1 p.2):∀p∈(n,s)::l,FOk Tryz.prog G0 p.1 p.2:=a1 (a:=(n,s)) h g
theorem b2{l:List (Nat×FSem)}(h:A0f Tryz.prog G0 n s)(g:∀p∈l,FOk Tryz.prog G0 p.1 p.2):∀p∈(n,s)::l,FOk Tryz.prog G0 p.1 p.2:=B0g (a:=(n,s)) h g
theorem fo{a:List (Nat × FSem)}(b : List (Nat × Ty))(c d : Nat)(H : Hints){fn:Func}{e:Code}(h : ∀ p ∈ a, FOk Tryz.prog G0 p.1 p.2)(hf : Tryz.prog.funcs[n]? = some fn)(hb : fn.body = some e :=by rfl)(hk : A0m fn e H s = true :=by kernel_rfl)(hn : (fn.name == "runtime.NumGoroutine") = false :=by kernel_rfl)(hq : ∀ x, A0j (b2S a b c d) H fn s.ps s.rs x = s.F x :=by intro x; kernel_rfl): Ok0 n s :=
 ⟨i0y.of (cxo h) b0O hf hb hk hq,⟨_,_,hf,hb,hn⟩⟩
theorem c4d:Ok0 60 b7h:=
 fo [] 21 0 H60 a0 Tryz.func60
theorem c4T:Ok0 138 b7i:=
 fo [] 5 0 QH a0 Tryz.func138
theorem c6a:Ok0 61 b7j:=
 fo [] 371 0 H61 (b1 c4T<|a0) Tryz.func61
theorem c6K:Ok0 139 a1g:=
 ⟨i0y.of (cx:=a7S) (cxo a0) b0O Tryz.func139 rfl (by kernel_rfl) c6H,⟨_,_,Tryz.func139,rfl,by kernel_rfl⟩⟩
theorem c6b:Ok0 62 b4D:=
 fo [] 45 0 H62 (b1 c6K<|a0) Tryz.func62
theorem c1R:Ok0 199 b8g:=
 fo [] 83 0 c8d a0 Tryz.func199
theorem c1S:Ok0 200 c1G:=
 fo [] 83 8 c8e a0 Tryz.func200
theorem c4U:Ok0 268 b7k:=
 fo [] 5 2 QH a0 Tryz.func268
theorem c1T:Ok0 201 b3H:=
 fo [] 5 0 c8f (b1 c4U<|a0) Tryz.func201
theorem c1U:Ok0 129 c2V:=
 fo [] 4611688217584863559 16 c8g (b1 c1R<|b1 c1S<|b1 c1T<|a0) Tryz.func129
theorem b4P:Ok0 192 a1y:=
 ⟨i0y.of (cx:=c4R) (cxo a0) b0O Tryz.func192 rfl (by kernel_rfl) c6I,⟨_,_,Tryz.func192,rfl,by kernel_rfl⟩⟩
theorem c6c:Ok0 192 a1Z:=
 ⟨i0y.of (cx:=c2W) (cxo a0) b0O Tryz.func192 rfl (by kernel_rfl) c5W,⟨_,_,Tryz.func192,rfl,by kernel_rfl⟩⟩
theorem c6d:Ok0 204 a1e:=
 ⟨i0y.of (cx:=c2X) (cxo a0) b0O Tryz.func204 rfl (by kernel_rfl) c5X,⟨_,_,Tryz.func204,rfl,by kernel_rfl⟩⟩
theorem c4V:Ok0 134 b8h:=
 fo [] 43523 8 c8h (b1 c6c<|b1 c6d<|a0) Tryz.func134
theorem c1V:Ok0 130 b8i:=
 fo [] 70291 4 c8i a0 Tryz.func130
theorem c4W:Ok0 239 b8j:=
 fo [] 21 0 c8j a0 Tryz.func239
theorem c4X:Ok0 205 b8k:=
 fo [] 243 0 c8k (b1 c4W<|a0) Tryz.func205
theorem c1W:Ok0 243 b7l:=
 fo [] 5 0 QH a0 Tryz.func243
theorem c1X:Ok0 241 b4d:=
 fo [] 21 0 c8l (b1 c1W<|a0) Tryz.func241
theorem c4Y:Ok0 242 b4e:=
 fo [] 1991 0 c8m a0 Tryz.func242
theorem c6L:Ok0 206 b7m:=
 fo [] 1991 0 c8n (b1 c1R<|b1 c1X<|b1 c4Y<|b1 c1W<|a0) Tryz.func206
theorem c1Y:Ok0 246 b9F:=
 fo [] 5 0 QH a0 Tryz.func246
theorem c1Z:Ok0 244 b5R:=
 fo [] 21 0 c8o (b1 c1Y<|a0) Tryz.func244
theorem c4Z:Ok0 245 b5S:=
 fo [] 7951 128 c8p a0 Tryz.func245
theorem c2a:Ok0 207 b9G:=
 fo [] 4039 32 c8q (b1 c1S<|b1 c1Z<|b1 c4Z<|b1 c1Y<|a0) Tryz.func207
theorem c2b:Ok0 251 b2U:=
 fo [] 5 0 QH a0 Tryz.func251
theorem c5a:Ok0 247 b0L:=
 fo [] 21 0 c8r (b1 c2b<|a0) Tryz.func247
theorem c5b:Ok0 249 b3I:=
 fo [(15,.pair QI Q9),(16,.pair QI Q9)] 13 2 c8s (b1 c4U<|a0) Tryz.func249
theorem c5c:Ok0 292 b4E:=
 fo [] 5 0 QH a0 Tryz.func292
theorem c2c:Ok0 250 a7T:=
 fo [] 61 0 c8t (b1 c5c<|a0) Tryz.func250
theorem c5d:Ok0 252 a8q:=
 fo [] 4202995 0 c8u (b1 c2c<|b1 c5c<|a0) Tryz.func252
theorem c6M:Ok0 208 b8l:=
 fo [] 15987 0 c8v (b1 b4P<|b1 c1T<|b1 c5a<|b1 c5b<|b1 c2c<|b1 c2b<|b1 c5d<|a0) Tryz.func208
theorem c6N:Ok0 135 b9H:=
 fo [] 147573952727119562867 0 c8w (b1 c1V<|b1 b4P<|b1 c4X<|b1 c6L<|b1 c2a<|b1 c6M<|a0) Tryz.func135
theorem c2d:Ok0 202 b9I:=
 fo [] 19 0 QH a0 Tryz.func202
theorem b4Q:Ok0 194 b7n:=
 fo [] 455 0 c8x (b1 c2d<|a0) Tryz.func194
theorem c5e:Ok0 158 b9J:=
 fo [] 711 8 c8y (b1 b4Q<|a0) Tryz.func158
theorem c5f:Ok0 209 b7o:=
 fo [] 327 0 c8z (b1 c2d<|a0) Tryz.func209
theorem c6O:Ok0 178 b8m:=
 fo [] 5 0 c8A a0 Tryz.func178
theorem c6P:Ok0 179 b7p:=
 fo [] 5 0 c8B a0 Tryz.func179
theorem c4e:Ok0 87 b7q:=
 fo [] 19 0 QH (b1 c6O<|b1 c6P<|a0) Tryz.func87
theorem b1O:Ok0 111 b5T:=
 fo [] 45 0 c8C (b1 c4e<|a0) Tryz.func111
theorem c5g:Ok0 262 b9K:=
 fo [] 5 0 QH (b1 b1O<|a0) Tryz.func262
theorem c2e:Ok0 264 b4f:=
 fo [] 5 0 QH a0 Tryz.func264
theorem c2f:Ok0 265 b9L:=
 fo [] 5 0 QH a0 Tryz.func265
theorem c5h:Ok0 266 b9M:=
 fo [] 141 0 QH (b1 c2f<|a0) Tryz.func266
theorem c6Q:Ok0 304 b9N:=
 fo [] 51 0 c8D (b1 c2e<|b1 c2f<|b1 c5h<|a0) Tryz.func304
theorem c2g:Ok0 263 c1H:=
 fo [] 179 0 c8E (b1 c6Q<|a0) Tryz.func263
theorem c5i:Ok0 193 b8n:=
 fo [] 7951 16 c8F (b1 c5e<|b1 b4Q<|b1 c5f<|b1 c5g<|b1 c2g<|a0) Tryz.func193
theorem c6R:Ok0 270 b9O:=
 fo [] 125 0 c8G (b1 c2g<|a0) Tryz.func270
theorem c6S:Ok0 210 b5U:=
 fo [] 13 0 QH (b1 c5g<|b1 c2g<|b1 c6R<|a0) Tryz.func210
theorem c6T:Ok0 136 b8o:=
 fo [(14,.pair QI Q1),(40,.pair QI Q1)] 440847 0 c8H (b1 c5i<|b1 b4Q<|b1 c5f<|b1 c6S<|a0) Tryz.func136
theorem c9C:Ok0 58 c1I:=
 fo [] 14727 32 H58 (b1 c4d<|b1 c6a<|b1 c6b<|b1 c1U<|b1 c4V<|b1 c6N<|b1 c6T<|a0) Tryz.func58
theorem c2h:Ok0 115 b8p:=
 fo [] 5 0 QH a0 Tryz.func115
theorem c6U:Ok0 157 b9P:=
 fo [] 5 2 QH (b1 c4V<|a0) Tryz.func157
theorem c9D:Ok0 75 b8q:=
 fo [] 51 4 H75 (b1 c4d<|b1 c2h<|b1 c1U<|b1 c1V<|b1 c6U<|b1 c5e<|a0) Tryz.func75
theorem c6V:Ok0 290 b4F:=
 fo [] 11 0 QH a0 Tryz.func290
theorem c6W:Ok0 240 b7r:=
 fo [] 4296020275 0 QH (b1 c6V<|a0) Tryz.func240
theorem c6X:Ok0 159 b8r:=
 fo [] 3527 0 c8I (b1 c4W<|b1 c6W<|a0) Tryz.func159
theorem c6Y:Ok0 160 b7s:=
 fo [] 14095 0 c8J (b1 c1R<|b1 c1X<|b1 c4Y<|b1 c1W<|a0) Tryz.func160
theorem c6Z:Ok0 161 b9Q:=
 fo [] 4039 32 c8K (b1 c1S<|b1 c1Z<|b1 c4Z<|b1 c1Y<|a0) Tryz.func161
theorem c7a:Ok0 162 a7Z:=
 ⟨i0y.ofR (cx:=c4S) (cxo (a1 b4P (a1 c1T (a1 c5a (a1 c5b (a1 c2c (a1 c2b (a1 c5d a0)))))))) b0O (r:=c5Y) ⟨c5s,c5t⟩ Tryz.func162 rfl (by kernel_rfl) c6J,⟨_,_,Tryz.func162,rfl,by kernel_rfl⟩⟩
theorem c7b:Ok0 163 b9R:=
 fo [] 371 0 c8M (b1 c4T<|a0) Tryz.func163
theorem c9E:Ok0 76 c1J:=
 fo [] 604462927822812893676787 4 H76 (b1 c6X<|b1 c6Y<|b1 c6Z<|b1 c7a<|b1 c7b<|a0) Tryz.func76
theorem c6e:Ok0 24 c2Y:=
 fo [] 243 4 QH (b1 c9D<|b1 c9E<|a0) Tryz.func24
theorem c5j:Ok0 110 c2Z:=
 fo [] 115 4 QH (b1 c6e<|a0) Tryz.func110
theorem c2i:Ok0 117 b3A:=
 fo [] 3 0 c8N a0 Tryz.func117
theorem b4R:Ok0 112 b3B:=
 fo [] 199 0 c8O (b1 c2i<|a0) Tryz.func112
theorem c5k:Ok0 113 b4G:=
 fo [] 7 0 QH (b1 b4R<|a0) Tryz.func113
theorem c7c:Ok0 114 b5V:=
 fo [] 83 8 c8P (b1 b1O<|b1 b4R<|b1 c5k<|a0) Tryz.func114
theorem c7d:Ok0 267 b2J:=
 fo [] 19 0 c8Q (b1 c2i<|a0) Tryz.func267
theorem c7e:Ok0 195 c1K:=
 fo [] 7495 0 c8R (b1 b4R<|b1 c2e<|b1 c2f<|b1 c5h<|b1 c7d<|a0) Tryz.func195
theorem c7f:Ok0 116 b9S:=
 fo [] 97311 64 c8S (b1 b1O<|b1 b4R<|b1 c5i<|b1 b4Q<|b1 c7e<|a0) Tryz.func116
theorem c6f:Ok0 45 c3a:=
 fo [] 11682311054023 16 H45 (b1 c5j<|b1 b1O<|b1 b4R<|b1 c5k<|b1 c7c<|b1 c2h<|b1 c7f<|a0) Tryz.func45
theorem c7g:Ok0 137 b3C:=
 fo [] 5 0 QH a0 Tryz.func137
theorem c9F:Ok0 59 c1L:=
 fo [(5,.pair (.list true QV) Q0)] 19 4 QH (b1 c6f<|b1 c7g<|a0) Tryz.func59
theorem c7h:Ok0 211 b7t:=
 fo [] 243 0 c8T a0 Tryz.func211
theorem c7i:Ok0 140 b8s:=
 fo [] 509 0 c8U (b1 c4X<|b1 c7h<|a0) Tryz.func140
theorem c5l:Ok0 273 b5W:=
 fo [] 5 0 QH a0 Tryz.func273
theorem c7j:Ok0 271 b4H:=
 fo [] 493 0 c8V (b1 c5l<|a0) Tryz.func271
theorem c7k:Ok0 272 b2K:=
 fo [] 1991 0 c8W a0 Tryz.func272
theorem c7l:Ok0 212 b4g:=
 fo [] 16371 0 c8X (b1 b4P<|b1 c1X<|b1 c7j<|b1 c7k<|b1 c5l<|a0) Tryz.func212
theorem c7m:Ok0 213 b5X:=
 fo [] 4077 0 c8Y a0 Tryz.func213
theorem c7n:Ok0 214 b5Y:=
 fo [] 28531 0 c8Z (b1 c4e<|a0) Tryz.func214
theorem c5m:Ok0 142 b7u:=
 fo [] 4039 0 QH (b1 c7l<|b1 c7m<|b1 c7n<|a0) Tryz.func142
theorem c7o:Ok0 215 b9T:=
 fo [] 16327 0 c9a (b1 c1Z<|a0) Tryz.func215
theorem c7p:Ok0 274 b8t:=
 fo [] 1 0 QH a0 Tryz.func274
theorem c7q:Ok0 216 b9U:=
 fo [] 47523 0 c9b (b1 c2a<|b1 c7p<|a0) Tryz.func216
theorem c7r:Ok0 143 b8u:=
 fo [] 953 0 QH (b1 c5m<|b1 c2a<|b1 c7o<|b1 c7q<|a0) Tryz.func143
theorem c7s:Ok0 141 b2W:=
 fo [] 463 0 QH (b1 c5m<|a0) Tryz.func141
theorem c9G:Ok0 63 b4h:=
 fo [(5,.list true Q31)] 851 147573952589676412928 H63 (b1 c7i<|b1 c7s<|b1 c7r<|a0) Tryz.func63
theorem c9H:Ok0 19 c1M:=
 fo [] 50915 0 H19 (b1 c9C<|b1 c9F<|b1 c4d<|b1 c6a<|b1 c6b<|b1 c9G<|a0) Tryz.func19
theorem c6g:Ok0 41 b9V:=
 fo [] 5 2 QH a0 Tryz.func41
theorem c5n:Ok0 104 b7v:=
 fo [] 5 0 QH a0 Tryz.func104
theorem c4f:Ok0 39 b9W:=
 fo [] 85 2 H39 (b1 c6g<|b1 c4e<|b1 c5n<|a0) Tryz.func39
theorem c6h:Ok0 40 b7w:=
 fo [] 5 2 QH (b1 c5n<|a0) Tryz.func40
theorem c5o:Ok0 191 b9X:=
 fo [] 5 0 QH a0 Tryz.func191
theorem c2j:Ok0 106 b3K:=
 fo [] 85 0 c9c (b1 c5o<|a0) Tryz.func106
theorem c2k:Ok0 107 b4I:=
 fo [] 19 0 c9d a0 Tryz.func107
theorem c5p:Ok0 108 b2y:=
 fo [(15,.list true (.list true QI))] 45 0 c9e (b1 b4P<|a0) Tryz.func108
theorem c5q:Ok0 109 b2X:=
 fo [] 967 16 c9f (b1 c5o<|a0) Tryz.func109
theorem c6i:Ok0 43 c3b:=
 fo [] 115 0 H43 (b1 c2j<|b1 c2k<|b1 c5p<|b1 c5q<|a0) Tryz.func43
theorem c7t:Ok0 189 b7x:=
 fo [] 237 0 c9g (b1 c2j<|a0) Tryz.func189
theorem c7u:Ok0 190 b8v:=
 fo [] 135445 0 QH a0 Tryz.func190
theorem c7v:Ok0 105 b9Y:=
 fo [] 509 0 c9h (b1 c6i<|b1 c7t<|b1 c7u<|a0) Tryz.func105
theorem c9I:Ok0 42 b9Z:=
 fo [] 29 2 H42 (b1 c4f<|b1 c7v<|a0) Tryz.func42
theorem c6j:Ok0 12 b8w:=
 fo [(10,.pair QI Q45),(52,.pair QI Q43),(57,.pair QI Q43),(63,.pair QI Q43),(79,.pair QI Q43),(95,.pair QI Q43)] 88591 48 H12 (b1 c9H<|b1 c4f<|b1 c6h<|b1 c6g<|b1 c9I<|b1 c6i<|a0) Tryz.func12
theorem c6k:Ok0 72 b7y:=
 fo [] 5 2 QH (b1 c6h<|b1 c2k<|a0) Tryz.func72
theorem c9J:Ok0 73 a8P:=
 ⟨i0y.ofR (cx:=c5Z) (cxo (a1 c2j (a1 c2k (a1 c5p (a1 c5q a0))))) b0O (r:=R73) ⟨c5u,c5v⟩ Tryz.func73 rfl (by kernel_rfl) c9i,⟨_,_,Tryz.func73,rfl,by kernel_rfl⟩⟩
theorem c4g:Ok0 22 b7z:=
 fo [] 1945 2 H22 (b1 c6e<|b1 c4f<|b1 c6k<|b1 c9J<|a0) Tryz.func22
theorem c6l:Ok0 44 c0A:=
 fo [] 21 2 QH (b1 c4g<|a0) Tryz.func44
theorem c9K:Ok0 46 b2L:=
 fo [] 1 0 H46 (b1 c2i<|a0) Tryz.func46
theorem c9L:Ok0 47 b2M:=
 fo [] 5 0 QH a0 Tryz.func47
theorem c7w:Ok0 118 c0B:=
 fo [] 5 0 QH a0 Tryz.func118
theorem c7x:Ok0 119 c0C:=
 fo [] 45 0 c9j a0 Tryz.func119
theorem c5r:Ok0 120 b8x:=
 fo [] 109 0 c9k a0 Tryz.func120
theorem c9M:Ok0 48 b4J:=
 fo [] 307 4 H48 (b1 c7w<|b1 c7x<|b1 c5r<|a0) Tryz.func48
theorem c7y:Ok0 181 b7A:=
 fo [] 5 0 QH a0 Tryz.func181
theorem c9N:Ok0 91 b7B:=
 fo [] 51 0 H91 (b1 c7y<|a0) Tryz.func91
theorem c7z:Ok0 121 a8p:=⟨c3W _,⟨_,_,Tryz.func121,rfl,by kernel_rfl⟩⟩
theorem c9O:Ok0 49 c0D:=
 fo [] 51 0 QH (b1 c9N<|b1 c7z<|a0) Tryz.func49
theorem c6m:Ok0 50 b6d:=
 fo [] 109 0 H50 a0 Tryz.func50
theorem c6n:Ok0 13 c0E:=
 fo [(4,.pair (.list true QV) Q0)] 909 2 H13 (b1 c6l<|b1 c6f<|b1 c9K<|b1 c9L<|b1 c9M<|b1 c9O<|b1 c6m<|a0) Tryz.func13
theorem c7A:Ok0 122 c0F:=
 fo [] 5 0 QH a0 Tryz.func122
theorem c7B:Ok0 196 b6e:=
 fo [] 253 0 c9l a0 Tryz.func196
theorem c7C:Ok0 123 b2Y:=
 fo [] 243 0 c9m (b1 c7B<|a0) Tryz.func123
theorem c7D:Ok0 124 c0G:=
 fo [] 13 0 QH a0 Tryz.func124
theorem c7E:Ok0 125 b2Z:=
 fo [] 5 0 QH a0 Tryz.func125
theorem c7F:Ok0 126 b2N:=
 fo [] 5 0 c9n a0 Tryz.func126
theorem c7G:Ok0 127 b3D:=
 fo [] 5 0 QH a0 Tryz.func127
theorem c6o:Ok0 51 b4K:=
 fo [(2,.pair QI Q44),(15,.pair QI Q43),(26,.pair QI Q43),(83,.pair QI Q43),(88,.pair QI Q43),(101,.pair QI Q43),(105,.pair QI Q43)] 4089 0 H51 (b1 c6k<|b1 c5r<|b1 c7A<|b1 c7C<|b1 c7D<|b1 c7E<|b1 c7F<|b1 c7G<|a0) Tryz.func51
theorem c9P:Ok0 52 c1N:=
 fo [] 5 0 QH a0 Tryz.func52
theorem b6j:Ok0 56 b3E:=
 fo [] 5 0 QH a0 Tryz.func56
theorem c6p:Ok0 54 b3a:=
 fo [] 5 0 H54 a0 Tryz.func54
theorem c2l:Ok0 133 b3b:=
 fo [] 19 0 QH a0 Tryz.func133
theorem b3s:Ok0 197 b3F:=
 fo [] 51 0 c9o (b1 c6p<|b1 c2l<|a0) Tryz.func197
theorem b7Y:Ok0 131 b1N:=
 fo [] 51 0 c9p (b1 b3s<|a0) Tryz.func131
theorem c7H:Ok0 198 b6f:=
 fo [] 115 0 c9q (b1 b1O<|b1 b7Y<|b1 b3s<|a0) Tryz.func198
theorem c7I:Ok0 128 b7C:=
 fo [(2,.pair QI Q28)] 178258169 0 c9r (b1 b7Y<|b1 b3s<|b1 c7H<|a0) Tryz.func128
theorem c7J:Ok0 321 b2O:=
 fo [] 115 0 c9s (b1 c2l<|a0) Tryz.func321
theorem c7K:Ok0 322 b7D:=
 fo [] 77 0 QH a0 Tryz.func322
theorem c7L:Ok0 305 c1O:=
 fo [] 499 0 c9t (b1 b6j<|b1 b3s<|b1 c7J<|b1 c7K<|a0) Tryz.func305
theorem c7M:Ok0 269 c1P:=
 fo [] 1991 0 c9u (b1 b6j<|b1 c2e<|b1 c7L<|a0) Tryz.func269
theorem c7N:Ok0 203 c0H:=
 fo [] 4083 0 c9v (b1 b6j<|b1 b1O<|b1 b7Y<|b1 b3s<|b1 c7M<|a0) Tryz.func203
theorem c7O:Ok0 132 c0I:=
 fo [(11,.pair QI Q1),(41,.pair QI Q1)] 251783 0 c9w (b1 b6j<|b1 b4Q<|b1 b3s<|b1 c2d<|b1 c7N<|a0) Tryz.func132
theorem c9Q:Ok0 53 c3c:=
 fo [(7,.pair QI (.pair QI (.pair QI (.pair QI (.pair QI (.pair QL (.pair (.arr 3 QI) (.pair (.list false Q3) Q14))))))))] 8035 0 H53 (b1 b6j<|b1 c5j<|b1 b1O<|b1 c2h<|b1 c7I<|b1 c1U<|b1 c1V<|b1 b7Y<|b1 c7O<|a0) Tryz.func53
theorem c9R:Ok0 55 b2P:=
 fo [] 13 0 H55 (b1 c2l<|a0) Tryz.func55
theorem c6q:Ok0 15 b8y:=
 fo [(5,.pair QI Q45)] 6105 0 H15 (b1 c6l<|b1 c6m<|b1 c6o<|b1 c9P<|b1 c9Q<|b1 c6p<|b1 c9R<|b1 b6j<|a0) Tryz.func15
theorem c4h:Ok0 25 b7E:=
 fo [] 51 0 H25 a0 Tryz.func25
theorem c9S:Ok0 70 b4i:=
 fo [] 51 0 H70 a0 Tryz.func70
theorem c9T:Ok0 71 b6g:=
 fo [] 19 12 QH (b1 c4h<|a0) Tryz.func71
theorem c9U:Ok0 21 b7F:=
 fo [] 19 12 QH (b1 c4h<|b1 c9S<|b1 c9T<|a0) Tryz.func21
theorem c9V:Ok0 57 b4L:=
 fo [] 51 0 H57 a0 Tryz.func57
theorem c9W:Ok0 16 b4M:=
 fo [] 51 12 H16 (b1 c9U<|b1 c9V<|a0) Tryz.func16
theorem c9X:Ok0 74 b6h:=
 fo [] 51 0 H74 (b1 c4h<|a0) Tryz.func74
theorem c6r:Ok0 23 b4N:=
 fo [] 19 12 QH (b1 c9X<|a0) Tryz.func23
theorem c9Y:Ok0 27 b8z:=
 fo [] 953 0 H27 (b1 c6o<|a0) Tryz.func27
theorem c9Z:Ok0 36 b8A:=
 fo [] 435 0 H36 (b1 c6q<|a0) Tryz.func36
theorem fs9:Ok0 9 c0J:=
 fo [] 60273 0 QH (b1 c6j<|b1 c6n<|b1 c6q<|b1 c9W<|b1 c4g<|b1 c6r<|b1 c9Y<|b1 c9Z<|a0) Tryz.func9
theorem d0A:Ok0 10 c1Q:=
 fo [] 51 4 H10 a0 Tryz.func10
theorem d0B:Ok0 37 c0K:=
 fo [] 13 0 H37 a0 Tryz.func37
theorem c7P:Ok0 102 c4c:=
 fo [] 5 0 c9x a0 Tryz.func102
theorem c7Q:Ok0 103 c3d:=
 fo [] 5 0 c9y a0 Tryz.func103
theorem d0C:Ok0 38 c3e:=
 fo [] 19 0 QH (b1 c7P<|b1 c7Q<|a0) Tryz.func38
theorem d0D:Ok0 11 b6i:=
 fo [] 29 2 H11 (b1 d0B<|b1 d0C<|a0) Tryz.func11
theorem fs5:Ok0 5 a7l:=
 fo [] 11987 4 H5 (b1 fs9<|b1 d0A<|b1 d0D<|b1 c6j<|b1 c6n<|b1 c4g<|b1 c6r<|a0) Tryz.func5
end Go.Ab
