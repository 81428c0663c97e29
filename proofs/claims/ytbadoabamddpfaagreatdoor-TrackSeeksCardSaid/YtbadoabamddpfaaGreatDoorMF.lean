/- Part of the proof: S. Conditions: as each statement tells. -/
import Derived.KernelRfl
import Derived.Test.YtbadoabamddpfaaGreatDoorME
noncomputable section
set_option linter.unusedSimpArgs false
set_option linter.unusedVariables false
namespace Go.Ab
open Go.Proofs
set_option maxRecDepth 100000
theorem b4n:Tryz.prog.follows .mixedOrders=true:=by kernel_rfl
theorem d6J:B0d Tryz.prog c2M=true:=by kernel_rfl
theorem d6K:B0b Tryz.prog c2V=true:=by kernel_rfl
theorem d6L:A0y Tryz.prog c2M c5C=true:=by kernel_rfl
theorem laidOut:laidOutB Tryz.prog=true:=by kernel_rfl
@[reducible] def Ok0(n:Nat)(s:FSem):Prop:=i0y Tryz.prog G0 n s∧l0x Tryz.prog n
theorem cxo{a:List (Nat×FSem)}{b:List (Nat×Ty)}{c d:List Nat}(h:∀p∈a,FOk Tryz.prog G0 p.1 p.2):CxOk Tryz.prog (b3t a b c d):=
 CxOk.of (CxTy.of (tab:=c2M) (l:=c5C) (q:=c2V) (fun _=>rfl) (fun _=>rfl) (fun _=>rfl) d6J d6K d6L) (fun _=>rfl) h
theorem fo (a : List (Nat × FSem)) (b : List (Nat × Ty)) (c d : List Nat) (H : Hints) {n : Nat} {fn : Func} {e : Code} {s : FSem} (h : ∀ p ∈ a, FOk Tryz.prog G0 p.1 p.2) (hf : Tryz.prog.funcs[n]? = some fn) (hb : fn.body = some e :=by rfl) (hk : A0m fn e H s = true :=by kernel_rfl) (hn : (fn.name == "runtime.NumGoroutine") = false :=by kernel_rfl) (hq : ∀ x, A0j (b3t a b c d) H fn s.ps s.rs x = s.F x :=by intro x; kernel_rfl) : Ok0 n s :=
 ⟨i0y.of (cxo h) b4n hf hb hk hq,⟨_,_,hf,hb,hn⟩⟩
theorem c5E:Ok0 22 a9a:=
 fo [] [] [0,2] [1] QH a0 Tryz.func22
theorem d2T:Ok0 175 b6O:=
 fo [] [] [0,2] [] d4X a0 Tryz.func175
theorem d2U:Ok0 176 b6v:=
 fo [] [] [0,2] [] d4Y a0 Tryz.func176
theorem c1e:Ok0 95 a3O:=
 fo [(175,b6O),(176,b6v)] [] [0,1,4] [] QH (a1 d2T (a1 d2U a0)) Tryz.func95
theorem c9w:Ok0 111 b2y:=
 fo [] [] [0,2] [] QH a0 Tryz.func111
theorem c1f:Ok0 56 a5M:=
 fo [(22,a9a),(95,a3O),(111,b2y)] [] [0,2,4,6] [1] H56 (a1 c5E (a1 c1e (a1 c9w a0))) Tryz.func56
theorem c1g:Ok0 57 a3P:=
 fo [(111,b2y)] [] [0,2] [1] QH (a1 c9w a0) Tryz.func57
theorem c5F:Ok0 114 b2Q:=
 fo [] [] [0,1,4] [] d4Z a0 Tryz.func114
theorem c9x:Ok0 105 b2z:=
 fo [(57,a3P),(114,b2Q)] [] [0,2] [1] QH (a1 c1g (a1 c5F a0)) Tryz.func105
theorem c5G:Ok0 117 a9o:=
 fo [] [] [0,2,4] [] d5a a0 Tryz.func117
theorem c5H:Ok0 128 a9T:=
 fo [] [] [0,2] [] QH a0 Tryz.func128
theorem c5I:Ok0 211 a9U:=
 fo [] [] [0,1,4,6] [] d5b a0 Tryz.func211
theorem c5J:Ok0 212 b2R:=
 fo [] [] [0,1,4,6] [3] d5c a0 Tryz.func212
theorem c9y:Ok0 271 b2A:=
 fo [] [] [0,2] [1] QH a0 Tryz.func271
theorem c5K:Ok0 213 b1E:=
 fo [(271,b2A)] [] [0,2] [] d5d (a1 c9y a0) Tryz.func213
theorem c5L:Ok0 150 b4e:=
 fo [(211,a9U),(212,b2R),(213,b1E)] [] [0,1,2,6,8,11,27,41,62] [4] d5e (a1 c5I (a1 c5J (a1 c5K a0))) Tryz.func150
theorem c5M:Ok0 151 a9V:=
 fo [] [] [0,1,4,7,9,12,16] [2] d5f a0 Tryz.func151
theorem b9x:Ok0 183 a1c:=
 ⟨i0y.of (cx:=c9t) (cxo a0) b4n Tryz.func183 rfl (by kernel_rfl) d2P,⟨_,_,Tryz.func183,rfl,by kernel_rfl⟩⟩
theorem c7c:Ok0 183 a1s:=
 ⟨i0y.of (cx:=c6Z) (cxo a0) b4n Tryz.func183 rfl (by kernel_rfl) d1L,⟨_,_,Tryz.func183,rfl,by kernel_rfl⟩⟩
theorem d1S:Ok0 251 a1f:=
 ⟨i0y.of (cx:=c7a) (cxo a0) b4n Tryz.func251 rfl (by kernel_rfl) d1M,⟨_,_,Tryz.func251,rfl,by kernel_rfl⟩⟩
theorem c9z:Ok0 196 b3v:=
 fo [(183,a1s),(251,a1f)] [] [0,1,9,11,13,15] [3] d5g (a1 c7c (a1 d1S a0)) Tryz.func196
theorem d2V:Ok0 235 b7O:=
 fo [(196,b3v)] [] [0,2] [1] QH (a1 c9z a0) Tryz.func235
theorem c5N:Ok0 214 b1G:=
 fo [] [] [0,1,4] [] QH a0 Tryz.func214
theorem b9y:Ok0 201 a5g:=
 fo [(214,b1G)] [] [0,1,2,6,7,8] [] d5h (a1 c5N a0) Tryz.func201
theorem c9A:Ok0 236 b4M:=
 fo [(201,a5g)] [] [0,1,2,6,7,9] [3] d5i (a1 b9y a0) Tryz.func236
theorem d2W:Ok0 184 b6P:=
 fo [(117,a9o),(128,a9T),(150,b4e),(151,a9V),(235,b7O),(236,b4M)] [] [0,1,4,5] [2] d5j (a1 c5G (a1 c5H (a1 c5L (a1 c5M (a1 d2V (a1 c9A a0)))))) Tryz.func184
theorem c9B:Ok0 288 b3w:=
 fo [] [] [0,2,4] [] d5k a0 Tryz.func288
theorem d2X:Ok0 325 b4g:=
 fo [] [] [0,1,3] [] QH a0 Tryz.func325
theorem d2Y:Ok0 289 b6w:=
 fo [(325,b4g)] [] [0,1,4,5,8,12,20,32] [] QH (a1 d2X a0) Tryz.func289
theorem d2Z:Ok0 237 b6Q:=
 fo [(288,b3w),(289,b6w)] [] [0,1,2,6,7,8,10,11] [] d5l (a1 c9B (a1 d2Y a0)) Tryz.func237
theorem c5O:Ok0 292 a9q:=
 fo [] [] [0,2] [] QH a0 Tryz.func292
theorem c5P:Ok0 290 a6G:=
 fo [(292,a9q)] [] [0,2,4] [] d5m (a1 c5O a0) Tryz.func290
theorem c9C:Ok0 291 a9D:=
 fo [] [] [0,1,2,6,7,8,9,10] [] d5n a0 Tryz.func291
theorem d3a:Ok0 238 b6x:=
 fo [(211,a9U),(290,a6G),(291,a9D),(292,a9q)] [] [0,1,2,3,8,9,10,12,13] [] d5o (a1 c5I (a1 c5P (a1 c9C (a1 c5O a0)))) Tryz.func238
theorem c5Q:Ok0 295 b1H:=
 fo [] [] [0,2] [] QH a0 Tryz.func295
theorem c5R:Ok0 293 a8p:=
 fo [(295,b1H)] [] [0,2,4] [] d5p (a1 c5Q a0) Tryz.func293
theorem c9D:Ok0 294 b1k:=
 fo [] [] [0,1,2,3,8,9,10,11,12] [7] d5q a0 Tryz.func294
theorem d3b:Ok0 239 b7P:=
 fo [(212,b2R),(293,a8p),(294,b1k),(295,b1H)] [] [0,1,2,6,7,8,9,10,11] [5] d5r (a1 c5J (a1 c5R (a1 c9D (a1 c5Q a0)))) Tryz.func239
theorem c5S:Ok0 300 a9Y:=
 fo [] [] [0,2] [] QH a0 Tryz.func300
theorem c9E:Ok0 296 a9Z:=
 fo [(300,a9Y)] [] [0,2,4] [] d5s (a1 c5S a0) Tryz.func296
theorem c9F:Ok0 298 b4N:=
 fo [(271,b2A)] [(15,.pair QI Q14),(16,.pair QI Q14)] [0,2,3] [1] d5t (a1 c9y a0) Tryz.func298
theorem c9G:Ok0 327 b0A:=
 fo [] [] [0,2] [] QH a0 Tryz.func327
theorem c5T:Ok0 299 a4c:=
 fo [(327,b0A)] [] [0,2,3,4,5] [] d5u (a1 c9G a0) Tryz.func299
theorem c9H:Ok0 301 a7C:=
 fo [(299,a4c),(327,b0A)] [] [0,1,4,5,6,7,8,13,22] [] d5v (a1 c5T (a1 c9G a0)) Tryz.func301
theorem d3c:Ok0 240 a7S:=
 ⟨i0y.ofR (cx:=c9u) (cxo (a1 b9x (a1 c5K (a1 c9E (a1 c9F (a1 c5T (a1 c5S (a1 c9H a0)))))))) b4n (r:=d1N) ⟨d0K,d0L⟩ Tryz.func240 rfl (by kernel_rfl) d2Q,⟨_,_,Tryz.func240,rfl,by kernel_rfl⟩⟩
theorem c9I:Ok0 190 b2B:=
 fo [] [] [0,2] [] QH a0 Tryz.func190
theorem d3d:Ok0 241 b7Q:=
 fo [(190,b2B)] [] [0,1,4,5,6,8] [] d5x (a1 c9I a0) Tryz.func241
theorem d3e:Ok0 185 b9n:=
 fo [(237,b6Q),(238,b6x),(239,b7P),(240,a7S),(241,b7Q)] [] [0,1,4,5,6,7,10,24,28,40,54,79] [2] d5y (a1 d2Z (a1 d3a (a1 d3b (a1 d3c (a1 d3d a0))))) Tryz.func185
theorem c9J:Ok0 106 b6R:=
 fo [(184,b6P),(185,b9n)] [] [0,1,4,5,6,7] [2] QH (a1 d2W (a1 d3e a0)) Tryz.func106
theorem c9K:Ok0 189 b4O:=
 fo [] [] [0,2] [] QH a0 Tryz.func189
theorem c5U:Ok0 113 b1J:=
 fo [(189,b4O)] [] [0,2,4,6] [] d5z (a1 c9K a0) Tryz.func113
theorem c9L:Ok0 115 b2C:=
 fo [(183,a1c)] [(15,.list true (.list true QI))] [0,2,3,5] [] d5A (a1 b9x a0) Tryz.func115
theorem c9M:Ok0 116 b3x:=
 fo [(189,b4O)] [] [0,1,2,6,7,8,9] [4] d5B (a1 c9K a0) Tryz.func116
theorem d3f:Ok0 107 a9f:=
 ⟨i0y.ofR (cx:=c9v) (cxo (a1 c5U (a1 c5F (a1 c9L (a1 c9M a0))))) b4n (r:=d1O) ⟨d0M,d0N⟩ Tryz.func107 rfl (by kernel_rfl) d2R,⟨_,_,Tryz.func107,rfl,by kernel_rfl⟩⟩
theorem c8l:Ok0 50 a9r:=
 fo [(56,a5M),(105,b2z),(106,b6R),(107,a9f)] [] [0,3,4,7,8,9,10] [1] H50 (a1 c1f (a1 c9x (a1 c9J (a1 d3f a0)))) Tryz.func50
theorem d1T:Ok0 61 b4P:=
 fo [(50,a9r)] [] [0,2,4] [1] QH (a1 c8l a0) Tryz.func61
theorem c9N:Ok0 123 b6S:=
 fo [(106,b6R)] [] [0,1,4,5,6] [2] QH (a1 c9J a0) Tryz.func123
theorem b5L:Ok0 124 a2C:=
 fo [(95,a3O)] [] [0,2,3,5] [] d5D (a1 c1e a0) Tryz.func124
theorem c5V:Ok0 130 a5U:=
 fo [] [] [0,1] [] d5E a0 Tryz.func130
theorem b9z:Ok0 125 a2Q:=
 fo [(130,a5U)] [] [0,1,2,6,7] [] d5F (a1 c5V a0) Tryz.func125
theorem c9O:Ok0 126 b0C:=
 fo [(125,a2Q)] [] [0,1,2] [] QH (a1 b9z a0) Tryz.func126
theorem d3g:Ok0 127 b5j:=
 fo [(124,a2C),(125,a2Q),(126,b0C)] [] [0,1,4,6] [3] d5G (a1 b5L (a1 b9z (a1 c9O a0))) Tryz.func127
theorem c9P:Ok0 254 b2D:=
 fo [(214,b1G)] [] [0,1,2,6,8] [] d5H (a1 c5N a0) Tryz.func254
theorem c9Q:Ok0 256 b4Q:=
 fo [(124,a2C)] [] [0,2] [] QH (a1 b5L a0) Tryz.func256
theorem c5W:Ok0 258 a6J:=
 fo [] [] [0,2] [] QH a0 Tryz.func258
theorem c5X:Ok0 259 b1L:=
 fo [] [] [0,2] [] QH a0 Tryz.func259
theorem c9R:Ok0 260 b4R:=
 fo [(259,b1L)] [] [0,2,3,7] [] QH (a1 c5X a0) Tryz.func260
theorem d3h:Ok0 307 b7R:=
 fo [(258,a6J),(259,b1L),(260,b4R)] [] [0,1,4,5] [] d5I (a1 c5W (a1 c5X (a1 c9R a0))) Tryz.func307
theorem c5Y:Ok0 257 b2T:=
 fo [(307,b7R)] [] [0,1,4,5,7] [] d5J (a1 d3h a0) Tryz.func257
theorem c9S:Ok0 200 b3z:=
 fo [(201,a5g),(236,b4M),(254,b2D),(256,b4Q),(257,b2T)] [] [0,1,2,3,8,9,10,11,12] [4] d5K (a1 b9y (a1 c9A (a1 c9P (a1 c9Q (a1 c5Y a0))))) Tryz.func200
theorem d3i:Ok0 261 b1c:=
 fo [(130,a5U)] [] [0,1,4] [] d5L (a1 c5V a0) Tryz.func261
theorem d3j:Ok0 202 b9o:=
 fo [(125,a2Q),(258,a6J),(259,b1L),(260,b4R),(261,b1c)] [] [0,1,2,6,8,10,11,12] [] d5M (a1 b9z (a1 c5W (a1 c5X (a1 c9R (a1 d3i a0))))) Tryz.func202
theorem d3k:Ok0 129 b7S:=
 fo [(124,a2C),(125,a2Q),(200,b3z),(201,a5g),(202,b9o)] [] [0,1,2,3,4,10,11,12,13,14,16] [6] d5N (a1 b5L (a1 b9z (a1 c9S (a1 b9y (a1 d3j a0))))) Tryz.func129
theorem d1U:Ok0 62 b6T:=
 fo [(123,b6S),(124,a2C),(125,a2Q),(126,b0C),(127,b5j),(128,a9T),(129,b7S)] [] [0,1,2,6,7,9,13,37,39,41,43] [4] H62 (a1 c9N (a1 b5L (a1 b9z (a1 c9O (a1 d3g (a1 c5H (a1 d3k a0))))))) Tryz.func62
theorem d6M:Ok0 63 b1d:=
 fo [(130,a5U)] [] [0] [] H63 (a1 c5V a0) Tryz.func63
theorem d6N:Ok0 64 b1e:=
 fo [] [] [0,2] [] QH a0 Tryz.func64
theorem d1V:Ok0 88 b4S:=
 fo [] [] [0,2,3,5] [] H88 a0 Tryz.func88
theorem d3l:Ok0 131 b7T:=
 fo [] [] [0,2] [] QH a0 Tryz.func131
theorem c9T:Ok0 132 b3A:=
 fo [] [] [0,2,3,5,6] [] d5O a0 Tryz.func132
theorem d6O:Ok0 65 b4h:=
 fo [(88,b4S),(131,b7T),(132,b3A)] [] [0,1,4,5,8] [2] H65 (a1 d1V (a1 d3l (a1 c9T a0))) Tryz.func65
theorem c9U:Ok0 203 b2E:=
 fo [] [] [0,2] [] QH a0 Tryz.func203
theorem d3m:Ok0 133 b6y:=
 fo [(203,b2E)] [] [0,1,4,5] [] d5P (a1 c9U a0) Tryz.func133
theorem d3n:Ok0 134 a5S:=⟨c8e _,⟨_,_,Tryz.func134,rfl,by kernel_rfl⟩⟩
theorem d1W:Ok0 66 b4T:=
 fo [(133,b6y),(134,a5S)] [] [0,1,4,5] [] QH (a1 d3m (a1 d3n a0)) Tryz.func66
theorem d1X:Ok0 67 b1l:=
 fo [] [] [0,2,3,5,6] [] H67 a0 Tryz.func67
theorem c8m:Ok0 19 b1O:=
 fo [(61,b4P),(62,b6T),(63,b1d),(64,b1e),(65,b4h),(66,b4T),(67,b1l)] [(4,.pair (.list true QV) Q0)] [0,2,3,7,8,9] [1] H19 (a1 d1T (a1 d1U (a1 d6M (a1 d6N (a1 d6O (a1 d1W (a1 d1X a0))))))) Tryz.func19
theorem d3o:Ok0 179 b2I:=
 fo [] [] [0,1,4,5,6,7,8,9,10,11,12,13] [] QH a0 Tryz.func179
theorem d3p:A0f Tryz.prog G0 180 b2J:=c8f _
theorem d3q:Ok0 324 b2L:=
 fo [] [] [0,2] [] d1P a0 Tryz.func324
theorem d3r:Ok0 287 a7h:=
 fo [(324,b2L)] [] [0,2] [] QH (a1 d3q a0) Tryz.func287
theorem d3s:Ok0 233 b2M:=
 fo [(287,a7h)] [] [0,1,2,6,7,8,9,10,11,12,13,14,15,16,17,18] [] d5Q (a1 d3r a0) Tryz.func233
theorem d3t:Ok0 181 b2N:=
 fo [(233,b2M)] [] [0,1,2,6,7,8] [] QH (a1 d3s a0) Tryz.func181
theorem c5Z:Ok0 101 b1P:=
 fo [(179,b2I),(180,b2J),(181,b2N)] [] [0,1,2,6,7,8,9] [] QH (a1 d3o (B0g d3p (a1 d3t a0))) Tryz.func101
theorem d1Y:Ok0 42 b3B:=
 fo [(101,b1P)] [] [0,2,3,5] [] H42 (a1 c5Z a0) Tryz.func42
theorem c8n:Ok0 86 a9t:=
 fo [(22,a9a),(56,a5M)] [] [0,2,3,4,6] [1] H86 (a1 c5E (a1 c1f a0)) Tryz.func86
theorem d3u:Ok0 231 b6z:=
 fo [(95,a3O)] [] [0,1,4,5,6,7,9,10] [] d5R (a1 c1e a0) Tryz.func231
theorem d3v:Ok0 177 b6U:=
 fo [(56,a5M),(86,a9t),(231,b6z)] [] [0,2,3] [1] d5S (a1 c1f (a1 c8n (a1 d3u a0))) Tryz.func177
theorem d3w:Ok0 232 b6V:=
 fo [(101,b1P)] [] [0,2,3,4] [] d5T (a1 c5Z a0) Tryz.func232
theorem d3x:Ok0 178 b7U:=
 fo [(101,b1P),(232,b6V)] [] [0,1,2,6,7] [] d5U (a1 c5Z (a1 d3w a0)) Tryz.func178
theorem c8o:Ok0 97 a8x:=
 fo [(42,b3B),(177,b6U),(178,b7U)] [] [0,1,4,5,6,7] [3] QH (a1 d1Y (a1 d3v (a1 d3x a0))) Tryz.func97
theorem d1Z:Ok0 85 b4U:=
 fo [(19,b1O),(50,a9r),(57,a3P),(97,a8x)] [] [0,2,3,4,5,6,7,8,11,12] [1] H85 (a1 c8m (a1 c8l (a1 c1g (a1 c8o a0)))) Tryz.func85
theorem d6P:Ok0 27 b4j:=
 fo [(85,b4U),(86,a9t)] [] [0,2,3,4,5,6,7] [1] H27 (a1 d1Z (a1 c8n a0)) Tryz.func27
theorem d2a:Ok0 31 b3C:=
 fo [] [] [0,1,4,5,6] [2] H31 a0 Tryz.func31
theorem d2b:Ok0 35 b2F:=
 fo [] [] [0,1,4,5] [] H35 a0 Tryz.func35
theorem d2c:Ok0 59 b6X:=
 fo [(113,b1J),(114,b2Q),(115,b2C),(116,b3x)] [] [0,1,4,5,6] [] H59 (a1 c5U (a1 c5F (a1 c9L (a1 c9M a0)))) Tryz.func59
theorem d3y:Ok0 187 b6A:=
 fo [(113,b1J)] [] [0,2,3,5,6,7] [] d5V (a1 c5U a0) Tryz.func187
theorem d3z:Ok0 188 b6Y:=
 fo [] [] [0,2,4,8,12,17] [] QH a0 Tryz.func188
theorem d3A:Ok0 112 b7V:=
 fo [(59,b6X),(187,b6A),(188,b6Y)] [] [0,2,3,4,5,6,7,8] [] d5W (a1 d2c (a1 d3y (a1 d3z a0))) Tryz.func112
theorem d6Q:Ok0 58 b7W:=
 fo [(56,a5M),(112,b7V)] [] [0,2,3,4] [1] H58 (a1 c1f (a1 d3A a0)) Tryz.func58
theorem c9V:Ok0 118 b2G:=
 fo [(190,b2B)] [] [0,1,4,5,6,8] [] d5X (a1 c9I a0) Tryz.func118
theorem d3B:Ok0 191 a1j:=
 ⟨i0y.of (cx:=b0K) (cxo a0) b4n Tryz.func191 rfl (by kernel_rfl) d2S,⟨_,_,Tryz.func191,rfl,by kernel_rfl⟩⟩
theorem c9W:Ok0 119 b0L:=
 fo [(191,a1j)] [] [0,2,3,5] [] d5Y (a1 d3B a0) Tryz.func119
theorem c9X:Ok0 243 b3E:=
 fo [(288,b3w)] [] [0,1,4,5,6,7] [] d5Z (a1 c9B a0) Tryz.func243
theorem d3C:Ok0 244 b6B:=
 fo [] [] [0,1,4,5,6,7] [] d6a a0 Tryz.func244
theorem d3D:Ok0 192 b7a:=
 fo [(243,b3E),(244,b6B)] [] [0,2,3,4,5,6,7,8] [] d6b (a1 c9X (a1 d3C a0)) Tryz.func192
theorem c9Y:Ok0 304 b1m:=
 fo [] [] [0,2] [] QH a0 Tryz.func304
theorem d3E:Ok0 302 b4k:=
 fo [(304,b1m)] [] [0,2,3,5,6,7,8] [] d6c (a1 c9Y a0) Tryz.func302
theorem d3F:Ok0 303 b1f:=
 fo [] [] [0,1,2,6,7,8,9,10] [] d6d a0 Tryz.func303
theorem d3G:Ok0 245 b3F:=
 fo [(183,a1c),(290,a6G),(302,b4k),(303,b1f),(304,b1m)] [] [0,1,4,5,6,7,8,9,10,11,12,13] [] d6e (a1 b9x (a1 c5P (a1 d3E (a1 d3F (a1 c9Y a0))))) Tryz.func245
theorem d3H:Ok0 246 b5k:=
 fo [] [] [0,2,3,5,6,7,8,9,10,11] [] d6f a0 Tryz.func246
theorem d3I:Ok0 247 b5l:=
 fo [(95,a3O)] [] [0,1,4,5,6,8,9,10,11,13,14] [] d6g (a1 c1e a0) Tryz.func247
theorem c9Z:Ok0 194 b2H:=
 fo [(245,b3F),(246,b5k),(247,b5l)] [] [0,1,2,6,7,8,9,10,11] [] QH (a1 d3G (a1 d3H (a1 d3I a0))) Tryz.func194
theorem d3J:Ok0 248 b7Y:=
 fo [(293,a8p)] [] [0,1,2,6,7,8,9,10,11,12,13] [] d6h (a1 c5R a0) Tryz.func248
theorem c6a:Ok0 250 a9k:=
 fo [(212,b2R),(293,a8p),(294,b1k),(295,b1H)] [] [0,1,2,6,7,8,9,10,11] [5] d6i (a1 c5J (a1 c5R (a1 c9D (a1 c5Q a0)))) Tryz.func250
theorem d3K:Ok0 305 b3G:=
 fo [] [] [0] [] QH a0 Tryz.func305
theorem d3L:Ok0 249 b8a:=
 fo [(250,a9k),(305,b3G)] [] [0,1,5,7,8,11,12,13,15] [] d1R (a1 c6a (a1 d3K a0)) Tryz.func249
theorem d3M:Ok0 195 b7b:=
 fo [(194,b2H),(248,b7Y),(249,b8a),(250,a9k)] [] [0,3,4,5,7,8,9] [] QH (a1 c9Z (a1 d3J (a1 d3L (a1 c6a a0)))) Tryz.func195
theorem d3N:Ok0 193 b2l:=
 fo [(194,b2H)] [] [0,1,2,3,6,7,8] [] QH (a1 c9Z a0) Tryz.func193
theorem d3O:Ok0 120 b3H:=
 fo [(192,b7a),(193,b2l),(195,b7b)] [(5,.list true Q42)] [0,1,4,6,8,9] [67] d6j (a1 d3D (a1 d3N (a1 d3M a0))) Tryz.func120
theorem d3P:Ok0 252 b6C:=
 fo [(211,a9U),(290,a6G),(291,a9D),(292,a9q)] [] [0,1,2,6,7,8,9,10] [] d6k (a1 c5I (a1 c5P (a1 c9C (a1 c5O a0)))) Tryz.func252
theorem d3Q:Ok0 253 b7c:=
 fo [(183,a1c),(213,b1E),(296,a9Z),(298,b4N),(299,a4c),(300,a9Y),(301,a7C)] [] [0,1,4,5,6,9,10,11,12,13] [] d6l (a1 b9x (a1 c5K (a1 c9E (a1 c9F (a1 c5T (a1 c5S (a1 c9H a0))))))) Tryz.func253
theorem d3R:Ok0 197 b8b:=
 fo [(151,a9V),(183,a1c),(243,b3E),(250,a9k),(252,b6C),(253,b7c)] [] [0,1,4,5,6,11,22,37,67] [] d6m (a1 c5M (a1 b9x (a1 c9X (a1 c6a (a1 d3P (a1 d3Q a0)))))) Tryz.func197
theorem d3S:Ok0 306 b8c:=
 fo [(257,b2T)] [] [0,2,3,4,5,6] [] d6n (a1 c5Y a0) Tryz.func306
theorem d3T:Ok0 255 b5m:=
 fo [(256,b4Q),(257,b2T),(306,b8c)] [] [0,2,3] [] QH (a1 c9Q (a1 c5Y (a1 d3S a0))) Tryz.func255
theorem d3U:Ok0 198 b7d:=
 fo [(200,b3z),(201,a5g),(254,b2D),(255,b5m)] [(14,.pair QI Q1),(40,.pair QI Q1)] [0,1,2,3,9,11,12,13,15,17,18] [] d6o (a1 c9S (a1 b9y (a1 c9P (a1 d3T a0)))) Tryz.func198
theorem d3V:Ok0 121 b9p:=
 fo [(117,a9o),(118,b2G),(119,b0L),(150,b4e),(196,b3v),(197,b8b),(198,b7d)] [] [0,1,2,7,8,11,12,13] [5] d6p (a1 c5G (a1 c9V (a1 c9W (a1 c5L (a1 c9z (a1 d3R (a1 d3U a0))))))) Tryz.func121
theorem d3W:Ok0 199 b2O:=
 fo [] [] [0,2] [] QH a0 Tryz.func199
theorem d3X:Ok0 122 b9q:=
 fo [(62,b6T),(199,b2O)] [(5,.pair (.list true QV) Q0)] [0,1,4] [2] QH (a1 d1U (a1 d3W a0)) Tryz.func122
theorem d6R:Ok0 60 b9r:=
 fo [(117,a9o),(118,b2G),(119,b0L),(120,b3H),(121,b9p),(122,b9q)] [] [0,1,5,6,7,9,10,14,15] [] H60 (a1 c5G (a1 c9V (a1 c9W (a1 d3O (a1 d3V (a1 d3X a0)))))) Tryz.func60
theorem d6S:Ok0 18 b7e:=
 fo [(22,a9a),(56,a5M),(57,a3P),(58,b7W),(59,b6X),(60,b9r)] [(10,.pair QI Q56),(52,.pair QI Q54),(57,.pair QI Q54),(63,.pair QI Q54),(79,.pair QI Q54),(95,.pair QI Q54)] [0,1,2,3,9,11,12,14,16] [4,5] H18 (a1 c5E (a1 c1f (a1 c1g (a1 d6Q (a1 d2c (a1 d6R a0)))))) Tryz.func18
theorem d2d:Ok0 89 a9E:=
 fo [] [] [0,2,3,5,6] [] H89 a0 Tryz.func89
theorem d6T:Ok0 29 b8d:=
 fo [(66,b4T),(85,b4U),(88,b4S),(89,a9E)] [] [0,2,3,4,5,6,7,8,10,12] [1] H29 (a1 d1W (a1 d1Z (a1 d1V (a1 d2d a0)))) Tryz.func29
theorem d6U:Ok0 96 b7f:=
 fo [(57,a3P),(95,a3O)] [(6,.pair QI Q6),(36,.list true (.list true QI)),(37,.pair QI Q6)] [0,1,5,7,8,9] [3] H96 (a1 c1g (a1 c1e a0)) Tryz.func96
theorem d2e:Ok0 37 b1n:=
 fo [(18,b7e),(19,b1O),(29,b8d),(57,a3P),(95,a3O),(96,b7f),(97,a8x)] [(13,.pair Q12 Q71),(76,.pair Q12 Q70)] [0,1,2,3,8,9,10,12,14,15,16,18,20] [4] H37 (a1 d6S (a1 c8m (a1 d6T (a1 c1g (a1 c1e (a1 d6U (a1 c8o a0))))))) Tryz.func37
theorem d0A:Ok0 143 b4V:=
 fo [] [] [0,2] [] QH a0 Tryz.func143
theorem d3Y:Ok0 208 b5n:=
 fo [] [] [0,2,3,4,5,6,7] [] d6q a0 Tryz.func208
theorem d0B:Ok0 144 a7Y:=
 fo [(208,b5n)] [] [0,1,4,5,6,7] [] d6r (a1 d3Y a0) Tryz.func144
theorem d0C:Ok0 146 a7Z:=
 fo [] [] [0,2] [] QH a0 Tryz.func146
theorem c6b:Ok0 147 a4Y:=
 fo [] [] [0,2] [] d6s a0 Tryz.func147
theorem d0D:Ok0 148 a8V:=
 fo [] [] [0,2] [] QH a0 Tryz.func148
theorem d3Z:Ok0 234 b1g:=
 fo [(147,a4Y)] [] [0,1,4,5] [] d6t (a1 c6b a0) Tryz.func234
theorem d4a:Ok0 182 b2m:=
 fo [(203,b2E),(234,b1g)] [] [0,1,4,5,7] [] d6u (a1 c9U (a1 d3Z a0)) Tryz.func182
theorem d0E:Ok0 102 b0P:=
 fo [(57,a3P),(89,a9E),(143,b4V),(144,a7Y),(146,a7Z),(147,a4Y),(148,a8V),(182,b2m)] [(4,.pair Q12 Q21)] [0,3,5,6,7,9] [] d6v (a1 c1g (a1 d2d (a1 d0A (a1 d0B (a1 d0C (a1 c6b (a1 d0D (a1 d4a a0)))))))) Tryz.func102
theorem d4b:Ok0 145 b8e:=
 fo [] [] [0,2,3] [] QH a0 Tryz.func145
theorem d6V:Ok0 71 b4l:=
 fo [(105,b2z),(132,b3A),(143,b4V),(144,a7Y),(145,b8e),(146,a7Z),(147,a4Y),(148,a8V)] [(2,.pair QI Q55),(15,.pair QI Q54),(26,.pair QI Q54),(83,.pair QI Q54),(88,.pair QI Q54),(101,.pair QI Q54),(105,.pair QI Q54)] [0,3,4,5,6,7,8,9,10,11] [] H71 (a1 c9x (a1 c9T (a1 d0A (a1 d0B (a1 d4b (a1 d0C (a1 c6b (a1 d0D a0)))))))) Tryz.func71
theorem d6W:Ok0 72 b9s:=
 fo [] [] [0,2] [] QH a0 Tryz.func72
theorem c1h:Ok0 76 a2j:=
 fo [] [] [0,2] [] QH a0 Tryz.func76
theorem d2f:Ok0 74 a8a:=
 fo [] [] [0,2] [] H74 a0 Tryz.func74
theorem c6c:Ok0 154 a5G:=
 fo [] [] [0,1,4] [] QH a0 Tryz.func154
theorem b7F:Ok0 209 a2k:=
 fo [(74,a8a),(154,a5G)] [] [0,1,4,5] [] d6w (a1 d2f (a1 c6c a0)) Tryz.func209
theorem c2N:Ok0 152 a2N:=
 fo [(209,a2k)] [] [0,1,4,5] [] d6x (a1 b7F a0) Tryz.func152
theorem d4c:Ok0 210 b5o:=
 fo [(124,a2C),(152,a2N),(209,a2k)] [] [0,1,4,5,6] [] d6y (a1 b5L (a1 c2N (a1 b7F a0))) Tryz.func210
theorem d4d:Ok0 149 b6D:=
 fo [(152,a2N),(209,a2k),(210,b5o)] [(2,.pair QI Q39)] [0,3,4,5,6,7,21,23,25,27] [] d6z (a1 c2N (a1 b7F (a1 d4c a0))) Tryz.func149
theorem d4e:Ok0 330 b1h:=
 fo [(154,a5G)] [] [0,1,4,5,6] [] d6A (a1 c6c a0) Tryz.func330
theorem d4f:Ok0 331 b6E:=
 fo [] [] [0,2,3,6] [] QH a0 Tryz.func331
theorem d4g:Ok0 313 b9t:=
 fo [(76,a2j),(209,a2k),(330,b1h),(331,b6E)] [] [0,1,4,5,6,7,8] [] d6B (a1 c1h (a1 b7F (a1 d4e (a1 d4f a0)))) Tryz.func313
theorem d4h:Ok0 272 b9u:=
 fo [(76,a2j),(258,a6J),(313,b9t)] [] [0,1,2,6,7,8,9,10] [] d6C (a1 c1h (a1 c5W (a1 d4g a0))) Tryz.func272
theorem d4i:Ok0 215 b8f:=
 fo [(76,a2j),(124,a2C),(152,a2N),(209,a2k),(272,b9u)] [] [0,1,4,5,6,7,8,9,10,11] [] d6D (a1 c1h (a1 b5L (a1 c2N (a1 b7F (a1 d4h a0))))) Tryz.func215
theorem d4j:Ok0 153 b8g:=
 fo [(76,a2j),(201,a5g),(209,a2k),(214,b1G),(215,b8f)] [(11,.pair QI Q1),(41,.pair QI Q1)] [0,1,2,7,8,9,10,12,14,15,16,17] [] d6E (a1 c1h (a1 b9y (a1 b7F (a1 c5N (a1 d4i a0))))) Tryz.func153
theorem d6X:Ok0 73 c1D:=
 fo [(76,a2j),(123,b6S),(124,a2C),(128,a9T),(149,b6D),(150,b4e),(151,a9V),(152,a2N),(153,b8g)] [(7,.pair QI (.pair QI (.pair QI (.pair QI (.pair QI (.pair QL (.pair (.arr 3 QI) (.pair (.list false Q3) Q23))))))))] [0,1,5,6,8,9,10,11,12] [] H73 (a1 c1h (a1 c9N (a1 b5L (a1 c5H (a1 d4d (a1 c5L (a1 c5M (a1 c2N (a1 d4j a0))))))))) Tryz.func73
theorem d6Y:Ok0 75 b1i:=
 fo [(154,a5G)] [] [0,2,3] [] H75 (a1 c6c a0) Tryz.func75
theorem d6Z:Ok0 21 b7g:=
 fo [(61,b4P),(67,b1l),(71,b4l),(72,b9s),(73,c1D),(74,a8a),(75,b1i),(76,a2j)] [(5,.pair QI Q56)] [0,3,4,6,7,8,9,10,12] [] H21 (a1 d1T (a1 d1X (a1 d6V (a1 d6W (a1 d6X (a1 d2f (a1 d6Y (a1 c1h a0)))))))) Tryz.func21
theorem d0F:Ok0 103 a9F:=
 fo [(21,b7g),(50,a9r)] [] [0,1,2,3,4,12,13,15,16] [6] d6F (a1 d6Z (a1 c8l a0)) Tryz.func103
theorem d4k:Ok0 104 b8h:=
 fo [(22,a9a),(56,a5M),(183,a1s)] [(6,.pair QI Q7),(12,.pair QI Q5),(30,.pair QI Q5),(33,.pair QI Q5)] [0,1,5,8] [2,3] d6G (a1 c5E (a1 c1f (a1 c7c a0))) Tryz.func104
theorem d2g:Ok0 43 b3I:=
 fo [(86,a9t),(102,b0P),(103,a9F),(104,b8h)] [] [0,1,4,5,7,8,9,10,11,12,13,14,15,18] [3] H43 (a1 c8n (a1 d0E (a1 d0F (a1 d4k a0)))) Tryz.func43
theorem d2h:Ok0 44 b3J:=
 fo [(97,a8x),(102,b0P),(103,a9F)] [(6,.pair Q12 Q71),(20,.pair Q12 Q70),(24,.pair Q12 Q70),(48,.pair Q12 Q70),(90,.pair Q12 Q70),(96,.pair Q12 Q70)] [0,3,5,7,8,9,12] [] H44 (a1 c8o (a1 d0E (a1 d0F a0))) Tryz.func44
theorem d7a:Ok0 25 b8i:=
 fo [(27,b4j),(31,b3C),(35,b2F),(37,b1n),(42,b3B),(43,b3I),(44,b3J)] [] [0,2,3,5,6,7,8,9,10,11] [] H25 (a1 d6P (a1 d2a (a1 d2b (a1 d2e (a1 d1Y (a1 d2g (a1 d2h a0))))))) Tryz.func25
theorem d7b:Ok0 36 c1E:=
 fo [] [] [0,1,4] [] QH a0 Tryz.func36
theorem d4l:Ok0 109 c2Z:=
 fo [] [] [0,2] [] d6H a0 Tryz.func109
theorem d4m:Ok0 110 c1F:=
 fo [] [] [0,2] [] d6I a0 Tryz.func110
theorem d7c:Ok0 55 c1G:=
 fo [(109,c2Z),(110,c1F)] [] [0,1,4] [] QH (a1 d4l (a1 d4m a0)) Tryz.func55
theorem d7d:Ok0 77 b8j:=
 fo [] [] [0,2] [1] QH a0 Tryz.func77
theorem d7e:Ok0 39 b9v:=
 fo [(55,c1G),(77,b8j)] [] [0,1,2,6,7] [3] H39 (a1 d7c (a1 d7d a0)) Tryz.func39
theorem d7f:Ok0 40 b9w:=
 fo [(37,b1n),(44,b3J)] [] [0,1,2,3,8,10,11,12,14] [4] H40 (a1 d2e (a1 d2h a0)) Tryz.func40
theorem fs9:Ok0 9 a9H:=
 fo [(19,b1O),(25,b8i),(31,b3C),(35,b2F),(36,c1E),(39,b9v),(40,b9w),(43,b3I)] [] [0,1,2,3,4,5,12,13,15,16,17,18,19,20,21,22,23,24,25,26] [6] H9 (a1 c8m (a1 d7a (a1 d2a (a1 d2b (a1 d7b (a1 d7e (a1 d7f (a1 d2g a0)))))))) Tryz.func9
end Go.Ab
