/- Part of the proof: S. Conditions: as each statement tells. -/
import Derived.KernelRfl
import Derived.Test.YtbadoabamddpfaaGreatDoorME
noncomputable section
set_option linter.unusedSimpArgs false
set_option linter.unusedVariables false
namespace Go.Ab
open Go.Proofs
set_option maxRecDepth 100000
theorem b4f:Tryz.prog.follows .mixedOrders=true:=by kernel_rfl
theorem d6C:B0d Tryz.prog c2I=true:=by kernel_rfl
theorem d6D:B0b Tryz.prog c2R=true:=by kernel_rfl
theorem d6E:A0y Tryz.prog c2I c5y=true:=by kernel_rfl
theorem laidOut:laidOutB Tryz.prog=true:=by kernel_rfl
@[reducible] def Ok0(n:Nat)(s:FSem):Prop:=i0y Tryz.prog G0 n s∧l0x Tryz.prog n
theorem cxo{a:List (Nat×FSem)}{b:List (Nat×Ty)}{c d:List Nat}(h:∀p∈a,FOk Tryz.prog G0 p.1 p.2):CxOk Tryz.prog (b2t a b c d):=
 CxOk.of (CxTy.of (tab:=c2I) (l:=c5y) (q:=c2R) (fun _=>rfl) (fun _=>rfl) (fun _=>rfl) d6C d6D d6E) (fun _=>rfl) h
theorem fo (a : List (Nat × FSem)) (b : List (Nat × Ty)) (c d : List Nat) (H : Hints) {n : Nat} {fn : Func} {e : Code} {s : FSem} (h : ∀ p ∈ a, FOk Tryz.prog G0 p.1 p.2) (hf : Tryz.prog.funcs[n]? = some fn) (hb : fn.body = some e :=by rfl) (hk : A0m fn e H s = true :=by kernel_rfl) (hn : (fn.name == "runtime.NumGoroutine") = false :=by kernel_rfl) (hq : ∀ x, A0j (b2t a b c d) H fn s.ps s.rs x = s.F x :=by intro x; kernel_rfl) : Ok0 n s :=
 ⟨i0y.of (cxo h) b4f hf hb hk hq,⟨_,_,hf,hb,hn⟩⟩
theorem c5A:Ok0 22 a8Z:=
 fo [] [] [0,2] [1] QH a0 Tryz.func22
theorem d2M:Ok0 175 b6I:=
 fo [] [] [0,2] [] d4Q a0 Tryz.func175
theorem d2N:Ok0 176 b6p:=
 fo [] [] [0,2] [] d4R a0 Tryz.func176
theorem c1c:Ok0 95 a3N:=
 fo [(175,b6I),(176,b6p)] [] [0,1,4] [] QH (a1 d2M (a1 d2N a0)) Tryz.func95
theorem c9p:Ok0 111 b2v:=
 fo [] [] [0,2] [] QH a0 Tryz.func111
theorem c1d:Ok0 56 a5J:=
 fo [(22,a8Z),(95,a3N),(111,b2v)] [] [0,2,4,6] [1] H56 (a1 c5A (a1 c1c (a1 c9p a0))) Tryz.func56
theorem c1e:Ok0 57 a3O:=
 fo [(111,b2v)] [] [0,2] [1] QH (a1 c9p a0) Tryz.func57
theorem c5B:Ok0 114 b2N:=
 fo [] [] [0,1,4] [] d4S a0 Tryz.func114
theorem c9q:Ok0 105 b2w:=
 fo [(57,a3O),(114,b2N)] [] [0,2] [1] QH (a1 c1e (a1 c5B a0)) Tryz.func105
theorem c5C:Ok0 117 a9n:=
 fo [] [] [0,2,4] [] d4T a0 Tryz.func117
theorem c5D:Ok0 128 a9P:=
 fo [] [] [0,2] [] QH a0 Tryz.func128
theorem c5E:Ok0 211 a9Q:=
 fo [] [] [0,1,4,6] [] d4U a0 Tryz.func211
theorem c5F:Ok0 212 b2O:=
 fo [] [] [0,1,4,6] [3] d4V a0 Tryz.func212
theorem c9r:Ok0 271 b2x:=
 fo [] [] [0,2] [1] QH a0 Tryz.func271
theorem c5G:Ok0 213 b1A:=
 fo [(271,b2x)] [] [0,2] [] d4W (a1 c9r a0) Tryz.func213
theorem c5H:Ok0 150 b3X:=
 fo [(211,a9Q),(212,b2O),(213,b1A)] [] [0,1,2,6,8,11,27,41,62] [4] d4X (a1 c5E (a1 c5F (a1 c5G a0))) Tryz.func150
theorem c5I:Ok0 151 a9R:=
 fo [] [] [0,1,4,7,9,12,16] [2] d4Y a0 Tryz.func151
theorem b9s:Ok0 183 a1c:=
 ⟨i0y.of (cx:=c9m) (cxo a0) b4f Tryz.func183 rfl (by kernel_rfl) d2I,⟨_,_,Tryz.func183,rfl,by kernel_rfl⟩⟩
theorem c6X:Ok0 183 a1s:=
 ⟨i0y.of (cx:=c6U) (cxo a0) b4f Tryz.func183 rfl (by kernel_rfl) d1D,⟨_,_,Tryz.func183,rfl,by kernel_rfl⟩⟩
theorem d1K:Ok0 251 a1g:=
 ⟨i0y.of (cx:=c6V) (cxo a0) b4f Tryz.func251 rfl (by kernel_rfl) d1E,⟨_,_,Tryz.func251,rfl,by kernel_rfl⟩⟩
theorem c9s:Ok0 196 b3q:=
 fo [(183,a1s),(251,a1g)] [] [0,1,9,11,13,15] [3] d4Z (a1 c6X (a1 d1K a0)) Tryz.func196
theorem d2O:Ok0 235 b7J:=
 fo [(196,b3q)] [] [0,2] [1] QH (a1 c9s a0) Tryz.func235
theorem c5J:Ok0 214 b1C:=
 fo [] [] [0,1,4] [] QH a0 Tryz.func214
theorem b9t:Ok0 201 a5e:=
 fo [(214,b1C)] [] [0,1,2,6,7,8] [] d5a (a1 c5J a0) Tryz.func201
theorem c9t:Ok0 236 b4E:=
 fo [(201,a5e)] [] [0,1,2,6,7,9] [3] d5b (a1 b9t a0) Tryz.func236
theorem d2P:Ok0 184 b6J:=
 fo [(117,a9n),(128,a9P),(150,b3X),(151,a9R),(235,b7J),(236,b4E)] [] [0,1,4,5] [2] d5c (a1 c5C (a1 c5D (a1 c5H (a1 c5I (a1 d2O (a1 c9t a0)))))) Tryz.func184
theorem c9u:Ok0 288 b3r:=
 fo [] [] [0,2,4] [] d5d a0 Tryz.func288
theorem d2Q:Ok0 325 b3Z:=
 fo [] [] [0,1,3] [] QH a0 Tryz.func325
theorem d2R:Ok0 289 b6q:=
 fo [(325,b3Z)] [] [0,1,4,5,8,12,20,32] [] QH (a1 d2Q a0) Tryz.func289
theorem d2S:Ok0 237 b6K:=
 fo [(288,b3r),(289,b6q)] [] [0,1,2,6,7,8,10,11] [] d5e (a1 c9u (a1 d2R a0)) Tryz.func237
theorem c5K:Ok0 292 a9p:=
 fo [] [] [0,2] [] QH a0 Tryz.func292
theorem c5L:Ok0 290 a6D:=
 fo [(292,a9p)] [] [0,2,4] [] d5f (a1 c5K a0) Tryz.func290
theorem c9v:Ok0 291 a9C:=
 fo [] [] [0,1,2,6,7,8,9,10] [] d5g a0 Tryz.func291
theorem d2T:Ok0 238 b6r:=
 fo [(211,a9Q),(290,a6D),(291,a9C),(292,a9p)] [] [0,1,2,3,8,9,10,12,13] [] d5h (a1 c5E (a1 c5L (a1 c9v (a1 c5K a0)))) Tryz.func238
theorem c5M:Ok0 295 b1D:=
 fo [] [] [0,2] [] QH a0 Tryz.func295
theorem c5N:Ok0 293 a8m:=
 fo [(295,b1D)] [] [0,2,4] [] d5i (a1 c5M a0) Tryz.func293
theorem c9w:Ok0 294 b1f:=
 fo [] [] [0,1,2,3,8,9,10,11,12] [7] d5j a0 Tryz.func294
theorem d2U:Ok0 239 b7K:=
 fo [(212,b2O),(293,a8m),(294,b1f),(295,b1D)] [] [0,1,2,6,7,8,9,10,11] [5] d5k (a1 c5F (a1 c5N (a1 c9w (a1 c5M a0)))) Tryz.func239
theorem c5O:Ok0 300 a9U:=
 fo [] [] [0,2] [] QH a0 Tryz.func300
theorem c9x:Ok0 296 a9V:=
 fo [(300,a9U)] [] [0,2,4] [] d5l (a1 c5O a0) Tryz.func296
theorem c9y:Ok0 298 b4F:=
 fo [(271,b2x)] [(15,.pair QI Q14),(16,.pair QI Q14)] [0,2,3] [1] d5m (a1 c9r a0) Tryz.func298
theorem c9z:Ok0 327 a9W:=
 fo [] [] [0,2] [] QH a0 Tryz.func327
theorem c5P:Ok0 299 a4c:=
 fo [(327,a9W)] [] [0,2,3,4,5] [] d5n (a1 c9z a0) Tryz.func299
theorem c9A:Ok0 301 a7z:=
 fo [(299,a4c),(327,a9W)] [] [0,1,4,5,6,7,8,13,22] [] d5o (a1 c5P (a1 c9z a0)) Tryz.func301
theorem d2V:Ok0 240 a7P:=
 ⟨i0y.ofR (cx:=c9n) (cxo (a1 b9s (a1 c5G (a1 c9x (a1 c9y (a1 c5P (a1 c5O (a1 c9A a0)))))))) b4f (r:=d1F) ⟨d0D,d0E⟩ Tryz.func240 rfl (by kernel_rfl) d2J,⟨_,_,Tryz.func240,rfl,by kernel_rfl⟩⟩
theorem c9B:Ok0 190 b2y:=
 fo [] [] [0,2] [] QH a0 Tryz.func190
theorem d2W:Ok0 241 b7L:=
 fo [(190,b2y)] [] [0,1,4,5,6,8] [] d5q (a1 c9B a0) Tryz.func241
theorem d2X:Ok0 185 b9i:=
 fo [(237,b6K),(238,b6r),(239,b7K),(240,a7P),(241,b7L)] [] [0,1,4,5,6,7,10,24,28,40,54,79] [2] d5r (a1 d2S (a1 d2T (a1 d2U (a1 d2V (a1 d2W a0))))) Tryz.func185
theorem c9C:Ok0 106 b6L:=
 fo [(184,b6J),(185,b9i)] [] [0,1,4,5,6,7] [2] QH (a1 d2P (a1 d2X a0)) Tryz.func106
theorem c9D:Ok0 189 b4G:=
 fo [] [] [0,2] [] QH a0 Tryz.func189
theorem c5Q:Ok0 113 b1F:=
 fo [(189,b4G)] [] [0,2,4,6] [] d5s (a1 c9D a0) Tryz.func113
theorem c9E:Ok0 115 b2z:=
 fo [(183,a1c)] [(15,.list true (.list true QI))] [0,2,3,5] [] d5t (a1 b9s a0) Tryz.func115
theorem c9F:Ok0 116 b3s:=
 fo [(189,b4G)] [] [0,1,2,6,7,8,9] [4] d5u (a1 c9D a0) Tryz.func116
theorem d2Y:Ok0 107 a9e:=
 ⟨i0y.ofR (cx:=c9o) (cxo (a1 c5Q (a1 c5B (a1 c9E (a1 c9F a0))))) b4f (r:=d1G) ⟨d0F,d0G⟩ Tryz.func107 rfl (by kernel_rfl) d2K,⟨_,_,Tryz.func107,rfl,by kernel_rfl⟩⟩
theorem c8f:Ok0 50 a9q:=
 fo [(56,a5J),(105,b2w),(106,b6L),(107,a9e)] [] [0,3,4,7,8,9,10] [1] H50 (a1 c1d (a1 c9q (a1 c9C (a1 d2Y a0)))) Tryz.func50
theorem d1L:Ok0 61 b4H:=
 fo [(50,a9q)] [] [0,2,4] [1] QH (a1 c8f a0) Tryz.func61
theorem c9G:Ok0 123 b6M:=
 fo [(106,b6L)] [] [0,1,4,5,6] [2] QH (a1 c9C a0) Tryz.func123
theorem b5F:Ok0 124 a2B:=
 fo [(95,a3N)] [] [0,2,3,5] [] d5w (a1 c1c a0) Tryz.func124
theorem c5R:Ok0 130 a5S:=
 fo [] [] [0,1] [] d5x a0 Tryz.func130
theorem b9u:Ok0 125 a2P:=
 fo [(130,a5S)] [] [0,1,2,6,7] [] d5y (a1 c5R a0) Tryz.func125
theorem c9H:Ok0 126 a9Y:=
 fo [(125,a2P)] [] [0,1,2] [] QH (a1 b9u a0) Tryz.func126
theorem d2Z:Ok0 127 b5c:=
 fo [(124,a2B),(125,a2P),(126,a9Y)] [] [0,1,4,6] [3] d5z (a1 b5F (a1 b9u (a1 c9H a0))) Tryz.func127
theorem c9I:Ok0 254 b2A:=
 fo [(214,b1C)] [] [0,1,2,6,8] [] d5A (a1 c5J a0) Tryz.func254
theorem c9J:Ok0 256 b4I:=
 fo [(124,a2B)] [] [0,2] [] QH (a1 b5F a0) Tryz.func256
theorem c5S:Ok0 258 a6G:=
 fo [] [] [0,2] [] QH a0 Tryz.func258
theorem c5T:Ok0 259 b1H:=
 fo [] [] [0,2] [] QH a0 Tryz.func259
theorem c9K:Ok0 260 b4J:=
 fo [(259,b1H)] [] [0,2,3,7] [] QH (a1 c5T a0) Tryz.func260
theorem d3a:Ok0 307 b7M:=
 fo [(258,a6G),(259,b1H),(260,b4J)] [] [0,1,4,5] [] d5B (a1 c5S (a1 c5T (a1 c9K a0))) Tryz.func307
theorem c5U:Ok0 257 b2Q:=
 fo [(307,b7M)] [] [0,1,4,5,7] [] d5C (a1 d3a a0) Tryz.func257
theorem c9L:Ok0 200 b3u:=
 fo [(201,a5e),(236,b4E),(254,b2A),(256,b4I),(257,b2Q)] [] [0,1,2,3,8,9,10,11,12] [4] d5D (a1 b9t (a1 c9t (a1 c9I (a1 c9J (a1 c5U a0))))) Tryz.func200
theorem d3b:Ok0 261 b0Y:=
 fo [(130,a5S)] [] [0,1,4] [] d5E (a1 c5R a0) Tryz.func261
theorem d3c:Ok0 202 b9j:=
 fo [(125,a2P),(258,a6G),(259,b1H),(260,b4J),(261,b0Y)] [] [0,1,2,6,8,10,11,12] [] d5F (a1 b9u (a1 c5S (a1 c5T (a1 c9K (a1 d3b a0))))) Tryz.func202
theorem d3d:Ok0 129 b7N:=
 fo [(124,a2B),(125,a2P),(200,b3u),(201,a5e),(202,b9j)] [] [0,1,2,3,4,10,11,12,13,14,16] [6] d5G (a1 b5F (a1 b9u (a1 c9L (a1 b9t (a1 d3c a0))))) Tryz.func129
theorem d1M:Ok0 62 b6N:=
 fo [(123,b6M),(124,a2B),(125,a2P),(126,a9Y),(127,b5c),(128,a9P),(129,b7N)] [] [0,1,2,6,7,9,13,37,39,41,43] [4] H62 (a1 c9G (a1 b5F (a1 b9u (a1 c9H (a1 d2Z (a1 c5D (a1 d3d a0))))))) Tryz.func62
theorem d6F:Ok0 63 b0Z:=
 fo [(130,a5S)] [] [0] [] H63 (a1 c5R a0) Tryz.func63
theorem d6G:Ok0 64 b1a:=
 fo [] [] [0,2] [] QH a0 Tryz.func64
theorem d1N:Ok0 88 b4K:=
 fo [] [] [0,2,3,5] [] H88 a0 Tryz.func88
theorem d3e:Ok0 131 b7O:=
 fo [] [] [0,2] [] QH a0 Tryz.func131
theorem c9M:Ok0 132 b3v:=
 fo [] [] [0,2,3,5,6] [] d5H a0 Tryz.func132
theorem d6H:Ok0 65 b4a:=
 fo [(88,b4K),(131,b7O),(132,b3v)] [] [0,1,4,5,8] [2] H65 (a1 d1N (a1 d3e (a1 c9M a0))) Tryz.func65
theorem c9N:Ok0 203 b2B:=
 fo [] [] [0,2] [] QH a0 Tryz.func203
theorem d3f:Ok0 133 b6s:=
 fo [(203,b2B)] [] [0,1,4,5] [] d5I (a1 c9N a0) Tryz.func133
theorem d3g:Ok0 134 a5Q:=⟨c7Y _,⟨_,_,Tryz.func134,rfl,by kernel_rfl⟩⟩
theorem d1O:Ok0 66 b4L:=
 fo [(133,b6s),(134,a5Q)] [] [0,1,4,5] [] QH (a1 d3f (a1 d3g a0)) Tryz.func66
theorem d1P:Ok0 67 b1g:=
 fo [] [] [0,2,3,5,6] [] H67 a0 Tryz.func67
theorem d1Q:Ok0 19 b4M:=
 fo [(61,b4H),(62,b6N),(63,b0Z),(64,b1a),(65,b4a),(66,b4L),(67,b1g)] [(4,.pair (.list true QV) Q0)] [0,2,3,7,8,9] [1] H19 (a1 d1L (a1 d1M (a1 d6F (a1 d6G (a1 d6H (a1 d1O (a1 d1P a0))))))) Tryz.func19
theorem d3h:Ok0 179 b2F:=
 fo [] [] [0,1,4,5,6,7,8,9,10,11,12,13] [] QH a0 Tryz.func179
theorem d3i:A0f Tryz.prog G0 180 b2G:=c7Z _
theorem d3j:Ok0 324 b2I:=
 fo [] [] [0,2] [] d1H a0 Tryz.func324
theorem d3k:Ok0 287 a7e:=
 fo [(324,b2I)] [] [0,2] [] QH (a1 d3j a0) Tryz.func287
theorem d3l:Ok0 233 b2J:=
 fo [(287,a7e)] [] [0,1,2,6,7,8,9,10,11,12,13,14,15,16,17,18] [] d5J (a1 d3k a0) Tryz.func233
theorem d3m:Ok0 181 b2K:=
 fo [(233,b2J)] [] [0,1,2,6,7,8] [] QH (a1 d3l a0) Tryz.func181
theorem c5V:Ok0 101 b1K:=
 fo [(179,b2F),(180,b2G),(181,b2K)] [] [0,1,2,6,7,8,9] [] QH (a1 d3h (B0g d3i (a1 d3m a0))) Tryz.func101
theorem d1R:Ok0 42 b3w:=
 fo [(101,b1K)] [] [0,2,3,5] [] H42 (a1 c5V a0) Tryz.func42
theorem c8g:Ok0 86 a9s:=
 fo [(22,a8Z),(56,a5J)] [] [0,2,3,4,6] [1] H86 (a1 c5A (a1 c1d a0)) Tryz.func86
theorem d3n:Ok0 231 b6t:=
 fo [(95,a3N)] [] [0,1,4,5,6,7,9,10] [] d5K (a1 c1c a0) Tryz.func231
theorem d3o:Ok0 177 b6O:=
 fo [(56,a5J),(86,a9s),(231,b6t)] [] [0,2,3] [1] d5L (a1 c1d (a1 c8g (a1 d3n a0))) Tryz.func177
theorem d3p:Ok0 232 b6P:=
 fo [(101,b1K)] [] [0,2,3,4] [] d5M (a1 c5V a0) Tryz.func232
theorem d3q:Ok0 178 b7P:=
 fo [(101,b1K),(232,b6P)] [] [0,1,2,6,7] [] d5N (a1 c5V (a1 d3p a0)) Tryz.func178
theorem c8h:Ok0 97 a8u:=
 fo [(42,b3w),(177,b6O),(178,b7P)] [] [0,1,4,5,6,7] [3] QH (a1 d1R (a1 d3o (a1 d3q a0))) Tryz.func97
theorem d1S:Ok0 85 b4N:=
 fo [(19,b4M),(50,a9q),(57,a3O),(97,a8u)] [] [0,2,3,4,5,6,7,8,11,12] [1] H85 (a1 d1Q (a1 c8f (a1 c1e (a1 c8h a0)))) Tryz.func85
theorem d6I:Ok0 27 b4c:=
 fo [(85,b4N),(86,a9s)] [] [0,2,3,4,5,6,7] [1] H27 (a1 d1S (a1 c8g a0)) Tryz.func27
theorem d6J:Ok0 31 b6S:=
 fo [] [] [0,1,4,5,6] [2] H31 a0 Tryz.func31
theorem d1T:Ok0 35 b2C:=
 fo [] [] [0,1,4,5] [] H35 a0 Tryz.func35
theorem d1U:Ok0 59 b6T:=
 fo [(113,b1F),(114,b2N),(115,b2z),(116,b3s)] [] [0,1,4,5,6] [] H59 (a1 c5Q (a1 c5B (a1 c9E (a1 c9F a0)))) Tryz.func59
theorem d3r:Ok0 187 b6u:=
 fo [(113,b1F)] [] [0,2,3,5,6,7] [] d5O (a1 c5Q a0) Tryz.func187
theorem d3s:Ok0 188 b6U:=
 fo [] [] [0,2,4,8,12,17] [] QH a0 Tryz.func188
theorem d3t:Ok0 112 b7Q:=
 fo [(59,b6T),(187,b6u),(188,b6U)] [] [0,2,3,4,5,6,7,8] [] d5P (a1 d1U (a1 d3r (a1 d3s a0))) Tryz.func112
theorem d6K:Ok0 58 b7R:=
 fo [(56,a5J),(112,b7Q)] [] [0,2,3,4] [1] H58 (a1 c1d (a1 d3t a0)) Tryz.func58
theorem c9O:Ok0 118 b2D:=
 fo [(190,b2y)] [] [0,1,4,5,6,8] [] d5Q (a1 c9B a0) Tryz.func118
theorem d3u:Ok0 191 a1j:=
 ⟨i0y.of (cx:=b0G) (cxo a0) b4f Tryz.func191 rfl (by kernel_rfl) d2L,⟨_,_,Tryz.func191,rfl,by kernel_rfl⟩⟩
theorem c9P:Ok0 119 b0H:=
 fo [(191,a1j)] [] [0,2,3,5] [] d5R (a1 d3u a0) Tryz.func119
theorem c9Q:Ok0 243 b3y:=
 fo [(288,b3r)] [] [0,1,4,5,6,7] [] d5S (a1 c9u a0) Tryz.func243
theorem d3v:Ok0 244 b6v:=
 fo [] [] [0,1,4,5,6,7] [] d5T a0 Tryz.func244
theorem d3w:Ok0 192 b6W:=
 fo [(243,b3y),(244,b6v)] [] [0,2,3,4,5,6,7,8] [] d5U (a1 c9Q (a1 d3v a0)) Tryz.func192
theorem c9R:Ok0 304 b1h:=
 fo [] [] [0,2] [] QH a0 Tryz.func304
theorem d3x:Ok0 302 b4d:=
 fo [(304,b1h)] [] [0,2,3,5,6,7,8] [] d5V (a1 c9R a0) Tryz.func302
theorem d3y:Ok0 303 b1b:=
 fo [] [] [0,1,2,6,7,8,9,10] [] d5W a0 Tryz.func303
theorem d3z:Ok0 245 b3z:=
 fo [(183,a1c),(290,a6D),(302,b4d),(303,b1b),(304,b1h)] [] [0,1,4,5,6,7,8,9,10,11,12,13] [] d5X (a1 b9s (a1 c5L (a1 d3x (a1 d3y (a1 c9R a0))))) Tryz.func245
theorem d3A:Ok0 246 b5d:=
 fo [] [] [0,2,3,5,6,7,8,9,10,11] [] d5Y a0 Tryz.func246
theorem d3B:Ok0 247 b5e:=
 fo [(95,a3N)] [] [0,1,4,5,6,8,9,10,11,13,14] [] d5Z (a1 c1c a0) Tryz.func247
theorem c9S:Ok0 194 b2E:=
 fo [(245,b3z),(246,b5d),(247,b5e)] [] [0,1,2,6,7,8,9,10,11] [] QH (a1 d3z (a1 d3A (a1 d3B a0))) Tryz.func194
theorem d3C:Ok0 248 b7T:=
 fo [(293,a8m)] [] [0,1,2,6,7,8,9,10,11,12,13] [] d6a (a1 c5N a0) Tryz.func248
theorem c5W:Ok0 250 a9j:=
 fo [(212,b2O),(293,a8m),(294,b1f),(295,b1D)] [] [0,1,2,6,7,8,9,10,11] [5] d6b (a1 c5F (a1 c5N (a1 c9w (a1 c5M a0)))) Tryz.func250
theorem d3D:Ok0 305 b3A:=
 fo [] [] [0] [] QH a0 Tryz.func305
theorem d3E:Ok0 249 b7V:=
 fo [(250,a9j),(305,b3A)] [] [0,1,5,7,8,11,12,13,15] [] d1J (a1 c5W (a1 d3D a0)) Tryz.func249
theorem d3F:Ok0 195 b6X:=
 fo [(194,b2E),(248,b7T),(249,b7V),(250,a9j)] [] [0,3,4,5,7,8,9] [] QH (a1 c9S (a1 d3C (a1 d3E (a1 c5W a0)))) Tryz.func195
theorem d3G:Ok0 193 b2g:=
 fo [(194,b2E)] [] [0,1,2,3,6,7,8] [] QH (a1 c9S a0) Tryz.func193
theorem d3H:Ok0 120 b3B:=
 fo [(192,b6W),(193,b2g),(195,b6X)] [(5,.list true Q42)] [0,1,4,6,8,9] [67] d6c (a1 d3w (a1 d3G (a1 d3F a0))) Tryz.func120
theorem d3I:Ok0 252 b6w:=
 fo [(211,a9Q),(290,a6D),(291,a9C),(292,a9p)] [] [0,1,2,6,7,8,9,10] [] d6d (a1 c5E (a1 c5L (a1 c9v (a1 c5K a0)))) Tryz.func252
theorem d3J:Ok0 253 b6Y:=
 fo [(183,a1c),(213,b1A),(296,a9V),(298,b4F),(299,a4c),(300,a9U),(301,a7z)] [] [0,1,4,5,6,9,10,11,12,13] [] d6e (a1 b9s (a1 c5G (a1 c9x (a1 c9y (a1 c5P (a1 c5O (a1 c9A a0))))))) Tryz.func253
theorem d3K:Ok0 197 b7W:=
 fo [(151,a9R),(183,a1c),(243,b3y),(250,a9j),(252,b6w),(253,b6Y)] [] [0,1,4,5,6,11,22,37,67] [] d6f (a1 c5I (a1 b9s (a1 c9Q (a1 c5W (a1 d3I (a1 d3J a0)))))) Tryz.func197
theorem d3L:Ok0 306 b7X:=
 fo [(257,b2Q)] [] [0,2,3,4,5,6] [] d6g (a1 c5U a0) Tryz.func306
theorem d3M:Ok0 255 b5f:=
 fo [(256,b4I),(257,b2Q),(306,b7X)] [] [0,2,3] [] QH (a1 c9J (a1 c5U (a1 d3L a0))) Tryz.func255
theorem d3N:Ok0 198 b6Z:=
 fo [(200,b3u),(201,a5e),(254,b2A),(255,b5f)] [(14,.pair QI Q1),(40,.pair QI Q1)] [0,1,2,3,9,11,12,13,15,17,18] [] d6h (a1 c9L (a1 b9t (a1 c9I (a1 d3M a0)))) Tryz.func198
theorem d3O:Ok0 121 b9k:=
 fo [(117,a9n),(118,b2D),(119,b0H),(150,b3X),(196,b3q),(197,b7W),(198,b6Z)] [] [0,1,2,7,8,11,12,13] [5] d6i (a1 c5C (a1 c9O (a1 c9P (a1 c5H (a1 c9s (a1 d3K (a1 d3N a0))))))) Tryz.func121
theorem d3P:Ok0 199 b2L:=
 fo [] [] [0,2] [] QH a0 Tryz.func199
theorem d3Q:Ok0 122 b9l:=
 fo [(62,b6N),(199,b2L)] [(5,.pair (.list true QV) Q0)] [0,1,4] [2] QH (a1 d1M (a1 d3P a0)) Tryz.func122
theorem d6L:Ok0 60 b9m:=
 fo [(117,a9n),(118,b2D),(119,b0H),(120,b3B),(121,b9k),(122,b9l)] [] [0,1,5,6,7,9,10,14,15] [] H60 (a1 c5C (a1 c9O (a1 c9P (a1 d3H (a1 d3O (a1 d3Q a0)))))) Tryz.func60
theorem d6M:Ok0 18 b7a:=
 fo [(22,a8Z),(56,a5J),(57,a3O),(58,b7R),(59,b6T),(60,b9m)] [(10,.pair QI Q56),(52,.pair QI Q54),(57,.pair QI Q54),(63,.pair QI Q54),(79,.pair QI Q54),(95,.pair QI Q54)] [0,1,2,3,9,11,12,14,16] [4,5] H18 (a1 c5A (a1 c1d (a1 c1e (a1 d6K (a1 d1U (a1 d6L a0)))))) Tryz.func18
theorem d1V:Ok0 89 a9D:=
 fo [] [] [0,2,3,5,6] [] H89 a0 Tryz.func89
theorem d6N:Ok0 29 b7Y:=
 fo [(66,b4L),(85,b4N),(88,b4K),(89,a9D)] [] [0,2,3,4,5,6,7,8,10,12] [1] H29 (a1 d1O (a1 d1S (a1 d1N (a1 d1V a0)))) Tryz.func29
theorem d6O:Ok0 96 b7b:=
 fo [(57,a3O),(95,a3N)] [(6,.pair QI Q6),(36,.list true (.list true QI)),(37,.pair QI Q6)] [0,1,5,7,8,9] [3] H96 (a1 c1e (a1 c1c a0)) Tryz.func96
theorem d1W:Ok0 37 b1i:=
 fo [(18,b7a),(19,b4M),(29,b7Y),(57,a3O),(95,a3N),(96,b7b),(97,a8u)] [(13,.pair Q12 Q71),(76,.pair Q12 Q70)] [0,1,2,3,8,9,10,12,14,15,16,18,20] [4] H37 (a1 d6M (a1 d1Q (a1 d6N (a1 c1e (a1 c1c (a1 d6O (a1 c8h a0))))))) Tryz.func37
theorem c9T:Ok0 143 b4O:=
 fo [] [] [0,2] [] QH a0 Tryz.func143
theorem d3R:Ok0 208 b5g:=
 fo [] [] [0,2,3,4,5,6,7] [] d6j a0 Tryz.func208
theorem c9U:Ok0 144 a7U:=
 fo [(208,b5g)] [] [0,1,4,5,6,7] [] d6k (a1 d3R a0) Tryz.func144
theorem c9V:Ok0 146 a7V:=
 fo [] [] [0,2] [] QH a0 Tryz.func146
theorem c5X:Ok0 147 a4X:=
 fo [] [] [0,2] [] d6l a0 Tryz.func147
theorem c9W:Ok0 148 a8S:=
 fo [] [] [0,2] [] QH a0 Tryz.func148
theorem d3S:Ok0 234 b1c:=
 fo [(147,a4X)] [] [0,1,4,5] [] d6m (a1 c5X a0) Tryz.func234
theorem d3T:Ok0 182 b2h:=
 fo [(203,b2B),(234,b1c)] [] [0,1,4,5,7] [] d6n (a1 c9N (a1 d3S a0)) Tryz.func182
theorem c9X:Ok0 102 b0L:=
 fo [(57,a3O),(89,a9D),(143,b4O),(144,a7U),(146,a7V),(147,a4X),(148,a8S),(182,b2h)] [(4,.pair Q12 Q21)] [0,3,5,6,7,9] [] d6o (a1 c1e (a1 d1V (a1 c9T (a1 c9U (a1 c9V (a1 c5X (a1 c9W (a1 d3T a0)))))))) Tryz.func102
theorem d3U:Ok0 145 b7Z:=
 fo [] [] [0,2,3] [] QH a0 Tryz.func145
theorem d6P:Ok0 71 b4e:=
 fo [(105,b2w),(132,b3v),(143,b4O),(144,a7U),(145,b7Z),(146,a7V),(147,a4X),(148,a8S)] [(2,.pair QI Q55),(15,.pair QI Q54),(26,.pair QI Q54),(83,.pair QI Q54),(88,.pair QI Q54),(101,.pair QI Q54),(105,.pair QI Q54)] [0,3,4,5,6,7,8,9,10,11] [] H71 (a1 c9q (a1 c9M (a1 c9T (a1 c9U (a1 d3U (a1 c9V (a1 c5X (a1 c9W a0)))))))) Tryz.func71
theorem d6Q:Ok0 72 b9n:=
 fo [] [] [0,2] [] QH a0 Tryz.func72
theorem c1f:Ok0 76 a2i:=
 fo [] [] [0,2] [] QH a0 Tryz.func76
theorem d1X:Ok0 74 a7W:=
 fo [] [] [0,2] [] H74 a0 Tryz.func74
theorem c5Y:Ok0 154 a5D:=
 fo [] [] [0,1,4] [] QH a0 Tryz.func154
theorem b7A:Ok0 209 a2j:=
 fo [(74,a7W),(154,a5D)] [] [0,1,4,5] [] d6p (a1 d1X (a1 c5Y a0)) Tryz.func209
theorem c2J:Ok0 152 a2K:=
 fo [(209,a2j)] [] [0,1,4,5] [] d6q (a1 b7A a0) Tryz.func152
theorem d3V:Ok0 210 b5h:=
 fo [(124,a2B),(152,a2K),(209,a2j)] [] [0,1,4,5,6] [] d6r (a1 b5F (a1 c2J (a1 b7A a0))) Tryz.func210
theorem d3W:Ok0 149 b6x:=
 fo [(152,a2K),(209,a2j),(210,b5h)] [(2,.pair QI Q39)] [0,3,4,5,6,7,21,23,25,27] [] d6s (a1 c2J (a1 b7A (a1 d3V a0))) Tryz.func149
theorem d3X:Ok0 330 b1d:=
 fo [(154,a5D)] [] [0,1,4,5,6] [] d6t (a1 c5Y a0) Tryz.func330
theorem d3Y:Ok0 331 b6y:=
 fo [] [] [0,2,3,6] [] QH a0 Tryz.func331
theorem d3Z:Ok0 313 b9o:=
 fo [(76,a2i),(209,a2j),(330,b1d),(331,b6y)] [] [0,1,4,5,6,7,8] [] d6u (a1 c1f (a1 b7A (a1 d3X (a1 d3Y a0)))) Tryz.func313
theorem d4a:Ok0 272 b9p:=
 fo [(76,a2i),(258,a6G),(313,b9o)] [] [0,1,2,6,7,8,9,10] [] d6v (a1 c1f (a1 c5S (a1 d3Z a0))) Tryz.func272
theorem d4b:Ok0 215 b8a:=
 fo [(76,a2i),(124,a2B),(152,a2K),(209,a2j),(272,b9p)] [] [0,1,4,5,6,7,8,9,10,11] [] d6w (a1 c1f (a1 b5F (a1 c2J (a1 b7A (a1 d4a a0))))) Tryz.func215
theorem d4c:Ok0 153 b8b:=
 fo [(76,a2i),(201,a5e),(209,a2j),(214,b1C),(215,b8a)] [(11,.pair QI Q1),(41,.pair QI Q1)] [0,1,2,7,8,9,10,12,14,15,16,17] [] d6x (a1 c1f (a1 b9t (a1 b7A (a1 c5J (a1 d4b a0))))) Tryz.func153
theorem d6R:Ok0 73 c1B:=
 fo [(76,a2i),(123,b6M),(124,a2B),(128,a9P),(149,b6x),(150,b3X),(151,a9R),(152,a2K),(153,b8b)] [(7,.pair QI (.pair QI (.pair QI (.pair QI (.pair QI (.pair QL (.pair (.arr 3 QI) (.pair (.list false Q3) Q23))))))))] [0,1,5,6,8,9,10,11,12] [] H73 (a1 c1f (a1 c9G (a1 b5F (a1 c5D (a1 d3W (a1 c5H (a1 c5I (a1 c2J (a1 d4c a0))))))))) Tryz.func73
theorem d6S:Ok0 75 b1e:=
 fo [(154,a5D)] [] [0,2,3] [] H75 (a1 c5Y a0) Tryz.func75
theorem d6T:Ok0 21 b7c:=
 fo [(61,b4H),(67,b1g),(71,b4e),(72,b9n),(73,c1B),(74,a7W),(75,b1e),(76,a2i)] [(5,.pair QI Q56)] [0,3,4,6,7,8,9,10,12] [] H21 (a1 d1L (a1 d1P (a1 d6P (a1 d6Q (a1 d6R (a1 d1X (a1 d6S (a1 c1f a0)))))))) Tryz.func21
theorem c9Y:Ok0 103 a9E:=
 fo [(21,b7c),(50,a9q)] [] [0,1,2,3,4,12,13,15,16] [6] d6y (a1 d6T (a1 c8f a0)) Tryz.func103
theorem d4d:Ok0 104 b8c:=
 fo [(22,a8Z),(56,a5J),(183,a1s)] [(6,.pair QI Q7),(12,.pair QI Q5),(30,.pair QI Q5),(33,.pair QI Q5)] [0,1,5,8] [2,3] d6z (a1 c5A (a1 c1d (a1 c6X a0))) Tryz.func104
theorem d1Y:Ok0 43 b3C:=
 fo [(86,a9s),(102,b0L),(103,a9E),(104,b8c)] [] [0,1,4,5,7,8,9,10,11,12,13,14,15,18] [3] H43 (a1 c8g (a1 c9X (a1 c9Y (a1 d4d a0)))) Tryz.func43
theorem d1Z:Ok0 44 b3D:=
 fo [(97,a8u),(102,b0L),(103,a9E)] [(6,.pair Q12 Q71),(20,.pair Q12 Q70),(24,.pair Q12 Q70),(48,.pair Q12 Q70),(90,.pair Q12 Q70),(96,.pair Q12 Q70)] [0,3,5,7,8,9,12] [] H44 (a1 c8h (a1 c9X (a1 c9Y a0))) Tryz.func44
theorem d6U:Ok0 25 b8d:=
 fo [(27,b4c),(31,b6S),(35,b2C),(37,b1i),(42,b3w),(43,b3C),(44,b3D)] [] [0,2,3,5,6,7,8,9,10,11] [] H25 (a1 d6I (a1 d6J (a1 d1T (a1 d1W (a1 d1R (a1 d1Y (a1 d1Z a0))))))) Tryz.func25
theorem d4e:Ok0 109 c2V:=
 fo [] [] [0,2] [] d6A a0 Tryz.func109
theorem d4f:Ok0 110 c1C:=
 fo [] [] [0,2] [] d6B a0 Tryz.func110
theorem d6V:Ok0 55 c1D:=
 fo [(109,c2V),(110,c1C)] [] [0,1,4] [] QH (a1 d4e (a1 d4f a0)) Tryz.func55
theorem d6W:Ok0 77 b8e:=
 fo [] [] [0,2] [1] QH a0 Tryz.func77
theorem d6X:Ok0 39 b9q:=
 fo [(55,c1D),(77,b8e)] [] [0,1,2,6,7] [3] H39 (a1 d6V (a1 d6W a0)) Tryz.func39
theorem d6Y:Ok0 40 b9r:=
 fo [(37,b1i),(44,b3D)] [] [0,1,2,3,8,10,11,12,14] [4] H40 (a1 d1W (a1 d1Z a0)) Tryz.func40
theorem d6Z:Ok0 13 a8U:=
 fo [(25,b8d),(35,b2C),(39,b9q),(40,b9r),(43,b3C)] [] [0,1,2,3,4,10,11,13,14,15,16,17,18,19] [5] H13 (a1 d6U (a1 d1T (a1 d6X (a1 d6Y (a1 d1Y a0))))) Tryz.func13
end Go.Ab
