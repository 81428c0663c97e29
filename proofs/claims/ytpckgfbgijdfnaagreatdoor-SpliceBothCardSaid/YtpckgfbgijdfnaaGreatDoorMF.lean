/- Part of the proof: S. Conditions: as each statement tells. -/
import Derived.KernelRfl
import Derived.Test.YtpckgfbgijdfnaaGreatDoorME
noncomputable section
set_option linter.unusedSimpArgs false
set_option linter.unusedVariables false
namespace Go.Ab
open Go.Proofs
set_option maxRecDepth 100000
theorem b4L:Tryz.prog.follows .mixedOrders=true:=by kernel_rfl
theorem d7f:B0d Tryz.prog c3D=true:=by kernel_rfl
theorem d7g:B0b Tryz.prog c3M=true:=by kernel_rfl
theorem d7h:A0y Tryz.prog c3D c6v=true:=by kernel_rfl
theorem laidOut:laidOutB Tryz.prog=true:=by kernel_rfl
@[reducible] def Ok0(n:Nat)(s:FSem):Prop:=i0y Tryz.prog G0 n s∧l0x Tryz.prog n
theorem cxo{a:List (Nat×FSem)}{b:List (Nat×Ty)}{c d:List Nat}(h:∀p∈a,FOk Tryz.prog G0 p.1 p.2):CxOk Tryz.prog (b0A a b c d):=
 CxOk.of (CxTy.of (tab:=c3D) (l:=c6v) (q:=c3M) (fun _=>rfl) (fun _=>rfl) (fun _=>rfl) d7f d7g d7h) (fun _=>rfl) h
theorem fo (a : List (Nat × FSem)) (b : List (Nat × Ty)) (c d : List Nat) (H : Hints) {n : Nat} {fn : Func} {e : Code} {s : FSem} (h : ∀ p ∈ a, FOk Tryz.prog G0 p.1 p.2) (hf : Tryz.prog.funcs[n]? = some fn) (hb : fn.body = some e :=by rfl) (hk : A0m fn e H s = true :=by kernel_rfl) (hn : (fn.name == "runtime.NumGoroutine") = false :=by kernel_rfl) (hq : ∀ x, A0j (b0A a b c d) H fn s.ps s.rs x = s.F x :=by intro x; kernel_rfl) : Ok0 n s :=
 ⟨i0y.of (cxo h) b4L hf hb hk hq,⟨_,_,hf,hb,hn⟩⟩
theorem d2H:Ok0 85 b2W:=
 fo [] [] [0,2] [] QH a0 Tryz.func85
theorem c1Q:Ok0 45 a3R:=
 fo [(85,b2W)] [] [0,2] [1] QH (a1 d2H a0) Tryz.func45
theorem d2I:Ok0 78 b5h:=
 fo [] [] [0,2] [] QH a0 Tryz.func78
theorem d3V:Ok0 127 b5F:=
 fo [] [] [0,2,3,4,5,6,7] [] d5O a0 Tryz.func127
theorem d2J:Ok0 79 a8l:=
 fo [(127,b5F)] [] [0,1,4,5,6,7] [] H79 (a1 d3V a0) Tryz.func79
theorem d2K:Ok0 80 a8m:=
 fo [] [] [0,2] [] QH a0 Tryz.func80
theorem c9i:Ok0 81 a5a:=
 fo [] [] [0,2] [] H81 a0 Tryz.func81
theorem d3W:Ok0 128 b1B:=
 fo [(81,a5a)] [] [0,1,4,5] [] d5P (a1 c9i a0) Tryz.func128
theorem d0Y:Ok0 129 b2X:=
 fo [] [] [0,2] [] QH a0 Tryz.func129
theorem d7i:Ok0 82 b2J:=
 fo [(128,b1B),(129,b2X)] [] [0,1,4,5,7] [] H82 (a1 d3W (a1 d0Y a0)) Tryz.func82
theorem d2L:Ok0 83 a9l:=
 fo [] [] [0,2] [] QH a0 Tryz.func83
theorem d2M:Ok0 84 b0B:=
 fo [] [] [0,2,3,5,6] [] H84 a0 Tryz.func84
theorem d7j:Ok0 37 b4E:=
 fo [(45,a3R),(78,b5h),(79,a8l),(80,a8m),(81,a5a),(82,b2J),(83,a9l),(84,b0B)] [(4,.pair Q12 Q21)] [0,3,5,6,7,9] [] H37 (a1 c1Q (a1 d2I (a1 d2J (a1 d2K (a1 c9i (a1 d7i (a1 d2L (a1 d2M a0)))))))) Tryz.func37
theorem c6x:Ok0 22 a7I:=
 fo [] [] [0,2] [1] QH a0 Tryz.func22
theorem d3X:Ok0 124 b7u:=
 fo [] [] [0,2] [] d5Q a0 Tryz.func124
theorem d3Y:Ok0 125 b6U:=
 fo [] [] [0,2] [] d5R a0 Tryz.func125
theorem c1R:Ok0 71 a3T:=
 fo [(124,b7u),(125,b6U)] [] [0,1,4] [] QH (a1 d3X (a1 d3Y a0)) Tryz.func71
theorem c1S:Ok0 44 a4t:=
 fo [(22,a7I),(71,a3T),(85,b2W)] [] [0,2,4,6] [1] H44 (a1 c6x (a1 c1R (a1 d2H a0))) Tryz.func44
theorem c9j:Ok0 88 b3q:=
 fo [] [] [0,1,4] [] H88 a0 Tryz.func88
theorem d2N:Ok0 62 b2Z:=
 fo [(45,a3R),(88,b3q)] [] [0,2] [1] QH (a1 c1Q (a1 c9j a0)) Tryz.func62
theorem c9k:Ok0 91 a9K:=
 fo [] [] [0,2,4] [] H91 a0 Tryz.func91
theorem c6y:Ok0 102 b0T:=
 fo [] [] [0,2] [] QH a0 Tryz.func102
theorem c6z:Ok0 148 b0U:=
 fo [] [] [0,1,4,6] [] d5S a0 Tryz.func148
theorem c6A:Ok0 149 b3r:=
 fo [] [] [0,1,4,6] [3] d5T a0 Tryz.func149
theorem d0Z:Ok0 181 b3a:=
 fo [] [] [0,2] [1] QH a0 Tryz.func181
theorem c6B:Ok0 150 b2e:=
 fo [(181,b3a)] [] [0,2] [] d5U (a1 d0Z a0) Tryz.func150
theorem c6C:Ok0 112 b4F:=
 fo [(148,b0U),(149,b3r),(150,b2e)] [] [0,1,2,6,8,11,27,41,62] [4] d5V (a1 c6z (a1 c6A (a1 c6B a0))) Tryz.func112
theorem c6D:Ok0 113 b0V:=
 fo [] [] [0,1,4,7,9,12,16] [2] d5W a0 Tryz.func113
theorem c3R:Ok0 65 a0Z:=
 ⟨i0y.of (cx:=d2z) (cxo a0) b4L Tryz.func65 rfl (by kernel_rfl) d5X,⟨_,_,Tryz.func65,rfl,by kernel_rfl⟩⟩
theorem d1a:Ok0 65 a1m:=
 ⟨i0y.of (cx:=d0W) (cxo a0) b4L Tryz.func65 rfl (by kernel_rfl) d3S,⟨_,_,Tryz.func65,rfl,by kernel_rfl⟩⟩
theorem d2O:Ok0 170 a1d:=
 ⟨i0y.of (cx:=c7Q) (cxo a0) b4L Tryz.func170 rfl (by kernel_rfl) d2A,⟨_,_,Tryz.func170,rfl,by kernel_rfl⟩⟩
theorem d1b:Ok0 139 b3V:=
 fo [(65,a1m),(170,a1d)] [] [0,1,9,11,13,15] [3] d5Y (a1 d1a (a1 d2O a0)) Tryz.func139
theorem d3Z:Ok0 153 b8v:=
 fo [(139,b3V)] [] [0,2] [1] QH (a1 d1b a0) Tryz.func153
theorem c6E:Ok0 151 b2g:=
 fo [] [] [0,1,4] [] QH a0 Tryz.func151
theorem c0G:Ok0 144 a5m:=
 fo [(151,b2g)] [] [0,1,2,6,7,8] [] d5Z (a1 c6E a0) Tryz.func144
theorem d1c:Ok0 154 b5i:=
 fo [(144,a5m)] [] [0,1,2,6,7,9] [3] d6a (a1 c0G a0) Tryz.func154
theorem d4a:Ok0 117 b7v:=
 fo [(91,a9K),(102,b0T),(112,b4F),(113,b0V),(153,b8v),(154,b5i)] [] [0,1,4,5] [2] d6b (a1 c9k (a1 c6y (a1 c6C (a1 c6D (a1 d3Z (a1 d1c a0)))))) Tryz.func117
theorem d1d:Ok0 183 b3W:=
 fo [] [] [0,2,4] [] d6c a0 Tryz.func183
theorem d4b:Ok0 205 b4H:=
 fo [] [] [0,1,3] [] QH a0 Tryz.func205
theorem d4c:Ok0 184 b6V:=
 fo [(205,b4H)] [] [0,1,4,5,8,12,20,32] [] QH (a1 d4b a0) Tryz.func184
theorem d4d:Ok0 155 b7w:=
 fo [(183,b3W),(184,b6V)] [] [0,1,2,6,7,8,10,11] [] d6d (a1 d1d (a1 d4c a0)) Tryz.func155
theorem c6F:Ok0 187 a9M:=
 fo [] [] [0,2] [] QH a0 Tryz.func187
theorem c6G:Ok0 185 a6S:=
 fo [(187,a9M)] [] [0,2,4] [] d6e (a1 c6F a0) Tryz.func185
theorem d1e:Ok0 186 b0C:=
 fo [] [] [0,1,2,6,7,8,9,10] [] d6f a0 Tryz.func186
theorem d4e:Ok0 156 b6W:=
 fo [(148,b0U),(185,a6S),(186,b0C),(187,a9M)] [] [0,1,2,3,8,9,10,12,13] [] d6g (a1 c6z (a1 c6G (a1 d1e (a1 c6F a0)))) Tryz.func156
theorem c6H:Ok0 190 b2h:=
 fo [] [] [0,2] [] QH a0 Tryz.func190
theorem c6I:Ok0 188 a8J:=
 fo [(190,b2h)] [] [0,2,4] [] d6h (a1 c6H a0) Tryz.func188
theorem d1f:Ok0 189 b1I:=
 fo [] [] [0,1,2,3,8,9,10,11,12] [7] d6i a0 Tryz.func189
theorem d4f:Ok0 157 b8w:=
 fo [(149,b3r),(188,a8J),(189,b1I),(190,b2h)] [] [0,1,2,6,7,8,9,10,11] [5] d6j (a1 c6A (a1 c6I (a1 d1f (a1 c6H a0)))) Tryz.func157
theorem c6J:Ok0 195 b0Y:=
 fo [] [] [0,2] [] QH a0 Tryz.func195
theorem d1g:Ok0 191 b0Z:=
 fo [(195,b0Y)] [] [0,2,4] [] d6k (a1 c6J a0) Tryz.func191
theorem d1h:Ok0 193 b5j:=
 fo [(181,b3a)] [(15,.pair QI Q14),(16,.pair QI Q14)] [0,2,3] [1] d6l (a1 d0Z a0) Tryz.func193
theorem d1i:Ok0 207 b1a:=
 fo [] [] [0,2] [] QH a0 Tryz.func207
theorem c6K:Ok0 194 a4e:=
 fo [(207,b1a)] [] [0,2,3,4,5] [] d6m (a1 d1i a0) Tryz.func194
theorem d1j:Ok0 196 a7W:=
 fo [(194,a4e),(207,b1a)] [] [0,1,4,5,6,7,8,13,22] [] d6n (a1 c6K (a1 d1i a0)) Tryz.func196
theorem d4g:Ok0 158 a8o:=
 ⟨i0y.ofR (cx:=d0X) (cxo (a1 c3R (a1 c6B (a1 d1g (a1 d1h (a1 c6K (a1 c6J (a1 d1j a0)))))))) b4L (r:=d2B) ⟨d1B,d1C⟩ Tryz.func158 rfl (by kernel_rfl) d3T,⟨_,_,Tryz.func158,rfl,by kernel_rfl⟩⟩
theorem d1k:Ok0 133 b3b:=
 fo [] [] [0,2] [] QH a0 Tryz.func133
theorem d4h:Ok0 159 b8x:=
 fo [(133,b3b)] [] [0,1,4,5,6,8] [] d6p (a1 d1k a0) Tryz.func159
theorem d4i:Ok0 118 b9U:=
 fo [(155,b7w),(156,b6W),(157,b8w),(158,a8o),(159,b8x)] [] [0,1,4,5,6,7,10,24,28,40,54,79] [2] d6q (a1 d4d (a1 d4e (a1 d4f (a1 d4g (a1 d4h a0))))) Tryz.func118
theorem d2P:Ok0 63 b7x:=
 fo [(117,b7v),(118,b9U)] [] [0,1,4,5,6,7] [2] QH (a1 d4a (a1 d4i a0)) Tryz.func63
theorem d1l:Ok0 132 b5k:=
 fo [] [] [0,2] [] QH a0 Tryz.func132
theorem c9l:Ok0 87 b2j:=
 fo [(132,b5k)] [] [0,2,4,6] [] H87 (a1 d1l a0) Tryz.func87
theorem d2Q:Ok0 89 b3c:=
 fo [(65,a0Z)] [(15,.list true (.list true QI))] [0,2,3,5] [] H89 (a1 c3R a0) Tryz.func89
theorem d2R:Ok0 90 b3X:=
 fo [(132,b5k)] [] [0,1,2,6,7,8,9] [4] H90 (a1 d1l a0) Tryz.func90
theorem d7k:Ok0 64 a9z:=
 ⟨i0y.ofR (cx:=d2C) (cxo (a1 c9l (a1 c9j (a1 d2Q (a1 d2R a0))))) b4L (r:=R64) ⟨d1D,d1E⟩ Tryz.func64 rfl (by kernel_rfl) d6r,⟨_,_,Tryz.func64,rfl,by kernel_rfl⟩⟩
theorem c3S:Ok0 25 a5p:=
 fo [(44,a4t),(62,b2Z),(63,b7x),(64,a9z)] [] [0,3,4,7,8,9,10] [1] H25 (a1 c1S (a1 d2N (a1 d2P (a1 d7k a0)))) Tryz.func25
theorem d2S:Ok0 49 b5l:=
 fo [(25,a5p)] [] [0,2,4] [1] QH (a1 c3S a0) Tryz.func49
theorem d2T:Ok0 55 b1J:=
 fo [] [] [0,2,3,5,6] [] H55 a0 Tryz.func55
theorem d1m:Ok0 107 b3Y:=
 fo [] [] [0,2,3,5,6] [] d6s a0 Tryz.func107
theorem d4j:Ok0 110 b8y:=
 fo [] [] [0,2,3] [] QH a0 Tryz.func110
theorem d7l:Ok0 56 b4I:=
 fo [(62,b2Z),(78,b5h),(79,a8l),(80,a8m),(81,a5a),(83,a9l),(107,b3Y),(110,b8y)] [(2,.pair QI Q55),(15,.pair QI Q54),(26,.pair QI Q54),(83,.pair QI Q54),(88,.pair QI Q54),(101,.pair QI Q54),(105,.pair QI Q54)] [0,3,4,5,6,7,8,9,10,11] [] H56 (a1 d2N (a1 d2I (a1 d2J (a1 d2K (a1 c9i (a1 d2L (a1 d1m (a1 d4j a0)))))))) Tryz.func56
theorem d7m:Ok0 57 b9V:=
 fo [] [] [0,2] [] QH a0 Tryz.func57
theorem c1T:Ok0 61 a2f:=
 fo [] [] [0,2] [] QH a0 Tryz.func61
theorem d2U:Ok0 97 b7y:=
 fo [(63,b7x)] [] [0,1,4,5,6] [2] QH (a1 d2P a0) Tryz.func97
theorem b9q:Ok0 98 a2G:=
 fo [(71,a3T)] [] [0,2,3,5] [] H98 (a1 c1R a0) Tryz.func98
theorem d2V:Ok0 59 a8r:=
 fo [] [] [0,2] [] H59 a0 Tryz.func59
theorem c6L:Ok0 116 a5D:=
 fo [] [] [0,1,4] [] QH a0 Tryz.func116
theorem b8l:Ok0 146 a2g:=
 fo [(59,a8r),(116,a5D)] [] [0,1,4,5] [] d6t (a1 d2V (a1 c6L a0)) Tryz.func146
theorem c3E:Ok0 114 a2O:=
 fo [(146,a2g)] [] [0,1,4,5] [] d6u (a1 b8l a0) Tryz.func114
theorem d4k:Ok0 147 b5G:=
 fo [(98,a2G),(114,a2O),(146,a2g)] [] [0,1,4,5,6] [] d6v (a1 b9q (a1 c3E (a1 b8l a0))) Tryz.func147
theorem d4l:Ok0 111 b6X:=
 fo [(114,a2O),(146,a2g),(147,b5G)] [(2,.pair QI Q39)] [0,3,4,5,6,7,21,23,25,27] [] d6w (a1 c3E (a1 b8l (a1 d4k a0))) Tryz.func111
theorem c6M:Ok0 177 a6W:=
 fo [] [] [0,2] [] QH a0 Tryz.func177
theorem d4m:Ok0 209 b1C:=
 fo [(116,a5D)] [] [0,1,4,5,6] [] d6x (a1 c6L a0) Tryz.func209
theorem d4n:Ok0 210 b6Y:=
 fo [] [] [0,2,3,6] [] QH a0 Tryz.func210
theorem d4o:Ok0 204 b9W:=
 fo [(61,a2f),(146,a2g),(209,b1C),(210,b6Y)] [] [0,1,4,5,6,7,8] [] d6y (a1 c1T (a1 b8l (a1 d4m (a1 d4n a0)))) Tryz.func204
theorem d4p:Ok0 182 b9X:=
 fo [(61,a2f),(177,a6W),(204,b9W)] [] [0,1,2,6,7,8,9,10] [] d6z (a1 c1T (a1 c6M (a1 d4o a0))) Tryz.func182
theorem d4q:Ok0 152 b8z:=
 fo [(61,a2f),(98,a2G),(114,a2O),(146,a2g),(182,b9X)] [] [0,1,4,5,6,7,8,9,10,11] [] d6A (a1 c1T (a1 b9q (a1 c3E (a1 b8l (a1 d4p a0))))) Tryz.func152
theorem d4r:Ok0 115 b8A:=
 fo [(61,a2f),(144,a5m),(146,a2g),(151,b2g),(152,b8z)] [(11,.pair QI Q1),(41,.pair QI Q1)] [0,1,2,7,8,9,10,12,14,15,16,17] [] d6B (a1 c1T (a1 c0G (a1 b8l (a1 c6E (a1 d4q a0))))) Tryz.func115
theorem d7n:Ok0 58 c2v:=
 fo [(61,a2f),(97,b7y),(98,a2G),(102,b0T),(111,b6X),(112,b4F),(113,b0V),(114,a2O),(115,b8A)] [(7,.pair QI (.pair QI (.pair QI (.pair QI (.pair QI (.pair QL (.pair (.arr 3 QI) (.pair (.list false Q3) Q23))))))))] [0,1,5,6,8,9,10,11,12] [] H58 (a1 c1T (a1 d2U (a1 b9q (a1 c6y (a1 d4l (a1 c6C (a1 c6D (a1 c3E (a1 d4r a0))))))))) Tryz.func58
theorem d7o:Ok0 60 b1D:=
 fo [(116,a5D)] [] [0,2,3] [] H60 (a1 c6L a0) Tryz.func60
theorem d7p:Ok0 24 b7z:=
 fo [(49,b5l),(55,b1J),(56,b4I),(57,b9V),(58,c2v),(59,a8r),(60,b1D),(61,a2f)] [(5,.pair QI Q56)] [0,3,4,6,7,8,9,10,12] [] H24 (a1 d2S (a1 d2T (a1 d7l (a1 d7m (a1 d7n (a1 d2V (a1 d7o (a1 c1T a0)))))))) Tryz.func24
theorem d7q:Ok0 38 b3Z:=
 fo [(24,b7z),(25,a5p)] [] [0,1,2,3,4,12,13,15,16] [6] H38 (a1 d7p (a1 c3S a0)) Tryz.func38
theorem d4s:Ok0 121 b3i:=
 fo [] [] [0,1,4,5,6,7,8,9,10,11,12,13] [] QH a0 Tryz.func121
theorem d4t:A0f Tryz.prog G0 122 b3j:=c8Z _
theorem d4u:Ok0 208 b3l:=
 fo [] [] [0,2] [] d2D a0 Tryz.func208
theorem d4v:Ok0 197 a7u:=
 fo [(208,b3l)] [] [0,2] [] QH (a1 d4u a0) Tryz.func197
theorem d4w:Ok0 161 b3m:=
 fo [(197,a7u)] [] [0,1,2,6,7,8,9,10,11,12,13,14,15,16,17,18] [] d6C (a1 d4v a0) Tryz.func161
theorem d4x:Ok0 123 b3n:=
 fo [(161,b3m)] [] [0,1,2,6,7,8] [] QH (a1 d4w a0) Tryz.func123
theorem c9m:Ok0 68 b2o:=
 fo [(121,b3i),(122,b3j),(123,b3n)] [] [0,1,2,6,7,8,9] [] QH (a1 d4s (B0g d4t (a1 d4x a0))) Tryz.func68
theorem d7r:Ok0 69 b7A:=
 fo [(68,b2o)] [] [0,2,3,4] [] H69 (a1 c9m a0) Tryz.func69
theorem c9n:Ok0 29 b2p:=
 fo [(68,b2o),(69,b7A)] [] [0,1,2,6,7] [] H29 (a1 c9m (a1 d7r a0)) Tryz.func29
theorem d2W:Ok0 41 b3d:=
 fo [(22,a7I),(44,a4t)] [] [0,2,3,4,6] [1] H41 (a1 c6x (a1 c1S a0)) Tryz.func41
theorem d4y:Ok0 126 b6Z:=
 fo [(71,a3T)] [] [0,1,4,5,6,7,9,10] [] d6D (a1 c1R a0) Tryz.func126
theorem d2X:Ok0 76 b4a:=
 fo [(41,b3d),(44,a4t),(126,b6Z)] [] [0,2,3] [1] H76 (a1 d2W (a1 c1S (a1 d4y a0))) Tryz.func76
theorem d2Y:Ok0 77 b4b:=
 fo [(68,b2o)] [] [0,2,3,5] [] H77 (a1 c9m a0) Tryz.func77
theorem c9o:Ok0 39 a8P:=
 fo [(29,b2p),(76,b4a),(77,b4b)] [] [0,1,4,5,6,7] [3] QH (a1 c9n (a1 d2X (a1 d2Y a0))) Tryz.func39
theorem b9r:Ok0 14 a2v:=
 fo [(37,b4E),(38,b3Z),(39,a8P)] [(6,.pair Q12 Q71),(20,.pair Q12 Q70),(24,.pair Q12 Q70),(48,.pair Q12 Q70),(90,.pair Q12 Q70),(96,.pair Q12 Q70)] [0,3,5,7,8,9,12] [] H14 (a1 d7j (a1 d7q (a1 c9o a0))) Tryz.func14
theorem d2Z:Ok0 47 b7B:=
 fo [(87,b2j),(88,b3q),(89,b3c),(90,b3X)] [] [0,1,4,5,6] [] H47 (a1 c9l (a1 c9j (a1 d2Q (a1 d2R a0)))) Tryz.func47
theorem d4z:Ok0 130 b7a:=
 fo [(87,b2j)] [] [0,2,3,5,6,7] [] d6E (a1 c9l a0) Tryz.func130
theorem d4A:Ok0 131 b7C:=
 fo [] [] [0,2,4,8,12,17] [] QH a0 Tryz.func131
theorem d7s:Ok0 86 b8B:=
 fo [(47,b7B),(130,b7a),(131,b7C)] [] [0,2,3,4,5,6,7,8] [] H86 (a1 d2Z (a1 d4z (a1 d4A a0))) Tryz.func86
theorem d7t:Ok0 46 b8C:=
 fo [(44,a4t),(86,b8B)] [] [0,2,3,4] [1] H46 (a1 c1S (a1 d7s a0)) Tryz.func46
theorem d3a:Ok0 92 b3e:=
 fo [(133,b3b)] [] [0,1,4,5,6,8] [] H92 (a1 d1k a0) Tryz.func92
theorem d4B:Ok0 134 a1g:=
 ⟨i0y.of (cx:=b1g) (cxo a0) b4L Tryz.func134 rfl (by kernel_rfl) d3U,⟨_,_,Tryz.func134,rfl,by kernel_rfl⟩⟩
theorem d3b:Ok0 93 b1h:=
 fo [(134,a1g)] [] [0,2,3,5] [] H93 (a1 d4B a0) Tryz.func93
theorem d1n:Ok0 162 b4d:=
 fo [(183,b3W)] [] [0,1,4,5,6,7] [] d6F (a1 d1d a0) Tryz.func162
theorem d4C:Ok0 163 b7b:=
 fo [] [] [0,1,4,5,6,7] [] d6G a0 Tryz.func163
theorem d4D:Ok0 135 b7E:=
 fo [(162,b4d),(163,b7b)] [] [0,2,3,4,5,6,7,8] [] d6H (a1 d1n (a1 d4C a0)) Tryz.func135
theorem d1o:Ok0 200 b1K:=
 fo [] [] [0,2] [] QH a0 Tryz.func200
theorem d4E:Ok0 198 b4J:=
 fo [(200,b1K)] [] [0,2,3,5,6,7,8] [] d6I (a1 d1o a0) Tryz.func198
theorem d4F:Ok0 199 b1E:=
 fo [] [] [0,1,2,6,7,8,9,10] [] d6J a0 Tryz.func199
theorem d4G:Ok0 164 b4e:=
 fo [(65,a0Z),(185,a6S),(198,b4J),(199,b1E),(200,b1K)] [] [0,1,4,5,6,7,8,9,10,11,12,13] [] d6K (a1 c3R (a1 c6G (a1 d4E (a1 d4F (a1 d1o a0))))) Tryz.func164
theorem d4H:Ok0 165 b5H:=
 fo [] [] [0,2,3,5,6,7,8,9,10,11] [] d6L a0 Tryz.func165
theorem d4I:Ok0 166 b5I:=
 fo [(71,a3T)] [] [0,1,4,5,6,8,9,10,11,13,14] [] d6M (a1 c1R a0) Tryz.func166
theorem d1p:Ok0 137 b3f:=
 fo [(164,b4e),(165,b5H),(166,b5I)] [] [0,1,2,6,7,8,9,10,11] [] QH (a1 d4G (a1 d4H (a1 d4I a0))) Tryz.func137
theorem d4J:Ok0 167 b8E:=
 fo [(188,a8J)] [] [0,1,2,6,7,8,9,10,11,12,13] [] d6N (a1 c6I a0) Tryz.func167
theorem c6N:Ok0 169 a9B:=
 fo [(149,b3r),(188,a8J),(189,b1I),(190,b2h)] [] [0,1,2,6,7,8,9,10,11] [5] d6O (a1 c6A (a1 c6I (a1 d1f (a1 c6H a0)))) Tryz.func169
theorem d4K:Ok0 201 b4f:=
 fo [] [] [0] [] QH a0 Tryz.func201
theorem d4L:Ok0 168 b8G:=
 fo [(169,a9B),(201,b4f)] [] [0,1,5,7,8,11,12,13,15] [] d2F (a1 c6N (a1 d4K a0)) Tryz.func168
theorem d4M:Ok0 138 b7F:=
 fo [(137,b3f),(167,b8E),(168,b8G),(169,a9B)] [] [0,3,4,5,7,8,9] [] QH (a1 d1p (a1 d4J (a1 d4L (a1 c6N a0)))) Tryz.func138
theorem d4N:Ok0 136 b2N:=
 fo [(137,b3f)] [] [0,1,2,3,6,7,8] [] QH (a1 d1p a0) Tryz.func136
theorem d7u:Ok0 94 b4g:=
 fo [(135,b7E),(136,b2N),(138,b7F)] [(5,.list true Q42)] [0,1,4,6,8,9] [67] H94 (a1 d4D (a1 d4N (a1 d4M a0))) Tryz.func94
theorem d4O:Ok0 171 b7c:=
 fo [(148,b0U),(185,a6S),(186,b0C),(187,a9M)] [] [0,1,2,6,7,8,9,10] [] d6P (a1 c6z (a1 c6G (a1 d1e (a1 c6F a0)))) Tryz.func171
theorem d4P:Ok0 172 b7G:=
 fo [(65,a0Z),(150,b2e),(191,b0Z),(193,b5j),(194,a4e),(195,b0Y),(196,a7W)] [] [0,1,4,5,6,9,10,11,12,13] [] d6Q (a1 c3R (a1 c6B (a1 d1g (a1 d1h (a1 c6K (a1 c6J (a1 d1j a0))))))) Tryz.func172
theorem d4Q:Ok0 140 b8H:=
 fo [(65,a0Z),(113,b0V),(162,b4d),(169,a9B),(171,b7c),(172,b7G)] [] [0,1,4,5,6,11,22,37,67] [] d6R (a1 c3R (a1 c6D (a1 d1n (a1 c6N (a1 d4O (a1 d4P a0)))))) Tryz.func140
theorem d1q:Ok0 173 b3g:=
 fo [(151,b2g)] [] [0,1,2,6,8] [] d6S (a1 c6E a0) Tryz.func173
theorem d1r:Ok0 175 b5m:=
 fo [(98,a2G)] [] [0,2] [] QH (a1 b9q a0) Tryz.func175
theorem c6O:Ok0 178 b2u:=
 fo [] [] [0,2] [] QH a0 Tryz.func178
theorem d1s:Ok0 179 b5n:=
 fo [(178,b2u)] [] [0,2,3,7] [] QH (a1 c6O a0) Tryz.func179
theorem d4R:Ok0 203 b8I:=
 fo [(177,a6W),(178,b2u),(179,b5n)] [] [0,1,4,5] [] d6T (a1 c6M (a1 c6O (a1 d1s a0))) Tryz.func203
theorem c6P:Ok0 176 b3w:=
 fo [(203,b8I)] [] [0,1,4,5,7] [] d6U (a1 d4R a0) Tryz.func176
theorem d1t:Ok0 143 b4i:=
 fo [(144,a5m),(154,b5i),(173,b3g),(175,b5m),(176,b3w)] [] [0,1,2,3,8,9,10,11,12] [4] d6V (a1 c0G (a1 d1c (a1 d1q (a1 d1r (a1 c6P a0))))) Tryz.func143
theorem d4S:Ok0 202 b8J:=
 fo [(176,b3w)] [] [0,2,3,4,5,6] [] d6W (a1 c6P a0) Tryz.func202
theorem d4T:Ok0 174 b5J:=
 fo [(175,b5m),(176,b3w),(202,b8J)] [] [0,2,3] [] QH (a1 d1r (a1 c6P (a1 d4S a0))) Tryz.func174
theorem d4U:Ok0 141 b7H:=
 fo [(143,b4i),(144,a5m),(173,b3g),(174,b5J)] [(14,.pair QI Q1),(40,.pair QI Q1)] [0,1,2,3,9,11,12,13,15,17,18] [] d6X (a1 d1t (a1 c0G (a1 d1q (a1 d4T a0)))) Tryz.func141
theorem d7v:Ok0 95 b9Y:=
 fo [(91,a9K),(92,b3e),(93,b1h),(112,b4F),(139,b3V),(140,b8H),(141,b7H)] [] [0,1,2,7,8,11,12,13] [5] H95 (a1 c9k (a1 d3a (a1 d3b (a1 c6C (a1 d1b (a1 d4Q (a1 d4U a0))))))) Tryz.func95
theorem c6Q:Ok0 104 a6j:=
 fo [] [] [0,1] [] d6Y a0 Tryz.func104
theorem c3T:Ok0 99 a2Y:=
 fo [(104,a6j)] [] [0,1,2,6,7] [] H99 (a1 c6Q a0) Tryz.func99
theorem d1u:Ok0 100 b1k:=
 fo [(99,a2Y)] [] [0,1,2] [] QH (a1 c3T a0) Tryz.func100
theorem d4V:Ok0 101 b5K:=
 fo [(98,a2G),(99,a2Y),(100,b1k)] [] [0,1,4,6] [3] d6Z (a1 b9q (a1 c3T (a1 d1u a0))) Tryz.func101
theorem d4W:Ok0 180 b1F:=
 fo [(104,a6j)] [] [0,1,4] [] d7a (a1 c6Q a0) Tryz.func180
theorem d4X:Ok0 145 b9Z:=
 fo [(99,a2Y),(177,a6W),(178,b2u),(179,b5n),(180,b1F)] [] [0,1,2,6,8,10,11,12] [] d7b (a1 c3T (a1 c6M (a1 c6O (a1 d1s (a1 d4W a0))))) Tryz.func145
theorem d4Y:Ok0 103 b8K:=
 fo [(98,a2G),(99,a2Y),(143,b4i),(144,a5m),(145,b9Z)] [] [0,1,2,3,4,10,11,12,13,14,16] [6] d7c (a1 b9q (a1 c3T (a1 d1t (a1 c0G (a1 d4X a0))))) Tryz.func103
theorem d3c:Ok0 50 b7I:=
 fo [(97,b7y),(98,a2G),(99,a2Y),(100,b1k),(101,b5K),(102,b0T),(103,b8K)] [] [0,1,2,6,7,9,13,37,39,41,43] [4] H50 (a1 d2U (a1 b9q (a1 c3T (a1 d1u (a1 d4V (a1 c6y (a1 d4Y a0))))))) Tryz.func50
theorem d4Z:Ok0 142 b3o:=
 fo [] [] [0,2] [] QH a0 Tryz.func142
theorem d7w:Ok0 96 c0A:=
 fo [(50,b7I),(142,b3o)] [(5,.pair (.list true QV) Q0)] [0,1,4] [2] QH (a1 d3c (a1 d4Z a0)) Tryz.func96
theorem d7x:Ok0 48 c0B:=
 fo [(91,a9K),(92,b3e),(93,b1h),(94,b4g),(95,b9Y),(96,c0A)] [] [0,1,5,6,7,9,10,14,15] [] H48 (a1 c9k (a1 d3a (a1 d3b (a1 d7u (a1 d7v (a1 d7w a0)))))) Tryz.func48
theorem d3d:Ok0 20 b4j:=
 fo [(22,a7I),(44,a4t),(45,a3R),(46,b8C),(47,b7B),(48,c0B)] [(10,.pair QI Q56),(52,.pair QI Q54),(57,.pair QI Q54),(63,.pair QI Q54),(79,.pair QI Q54),(95,.pair QI Q54)] [0,1,2,3,9,11,12,14,16] [4,5] H20 (a1 c6x (a1 c1S (a1 c1Q (a1 d7t (a1 d2Z (a1 d7x a0)))))) Tryz.func20
theorem d7y:Ok0 26 b8M:=
 fo [(22,a7I),(44,a4t),(65,a1m)] [(6,.pair QI Q7),(12,.pair QI Q5),(30,.pair QI Q5),(33,.pair QI Q5)] [0,1,5,8] [2,3] H26 (a1 c6x (a1 c1S (a1 d1a a0))) Tryz.func26
theorem d7z:Ok0 35 b1o:=
 fo [(20,b4j),(25,a5p),(26,b8M)] [] [0,1,2,7,9] [3,4] QH (a1 d3d (a1 c3S (a1 d7y a0))) Tryz.func35
theorem d7A:Ok0 51 b1G:=
 fo [(104,a6j)] [] [0] [] H51 (a1 c6Q a0) Tryz.func51
theorem d7B:Ok0 52 b1H:=
 fo [] [] [0,2] [] QH a0 Tryz.func52
theorem d5a:Ok0 105 b8N:=
 fo [] [] [0,2] [] QH a0 Tryz.func105
theorem d1v:Ok0 106 b5o:=
 fo [] [] [0,2,3,5] [] d7d a0 Tryz.func106
theorem d7C:Ok0 53 b4K:=
 fo [(105,b8N),(106,b5o),(107,b3Y)] [] [0,1,4,5,8] [2] H53 (a1 d5a (a1 d1v (a1 d1m a0))) Tryz.func53
theorem d5b:Ok0 108 b7d:=
 fo [(129,b2X)] [] [0,1,4,5] [] d7e (a1 d0Y a0) Tryz.func108
theorem d5c:Ok0 109 a6b:=⟨c8Y _,⟨_,_,Tryz.func109,rfl,by kernel_rfl⟩⟩
theorem d3e:Ok0 54 b5p:=
 fo [(108,b7d),(109,a6b)] [] [0,1,4,5] [] QH (a1 d5b (a1 d5c a0)) Tryz.func54
theorem c6R:Ok0 21 a9E:=
 fo [(49,b5l),(50,b7I),(51,b1G),(52,b1H),(53,b4K),(54,b5p),(55,b1J)] [(4,.pair (.list true QV) Q0)] [0,2,3,7,8,9] [1] H21 (a1 d2S (a1 d3c (a1 d7A (a1 d7B (a1 d7C (a1 d3e (a1 d2T a0))))))) Tryz.func21
theorem d3f:Ok0 40 b5q:=
 fo [(21,a9E),(25,a5p),(39,a8P),(45,a3R)] [] [0,2,3,4,5,6,7,8,11,12] [1] H40 (a1 c6R (a1 c3S (a1 c9o (a1 c1Q a0)))) Tryz.func40
theorem d3g:Ok0 73 b5r:=
 fo [(40,b5q),(54,b5p),(84,b0B),(106,b5o)] [] [0,2,3,4,5,6,7,8,10,12] [1] H73 (a1 d3f (a1 d3e (a1 d2M (a1 d1v a0)))) Tryz.func73
theorem d3h:Ok0 36 a6m:=
 fo [(21,a9E),(25,a5p),(29,b2p),(73,b5r),(76,b4a),(77,b4b)] [(6,.pair Q12 Q71),(15,.pair Q12 Q70)] [0,1,4,5,7,10,11,13] [2] H36 (a1 c6R (a1 c3S (a1 c9n (a1 d3g (a1 d2X (a1 d2Y a0)))))) Tryz.func36
theorem d7D:Ok0 13 b7K:=
 fo [(14,a2v),(35,b1o),(36,a6m)] [] [0,1,2,6,7,9,10,13,14] [4] H13 (a1 b9r (a1 d7z (a1 d3h a0))) Tryz.func13
theorem c9p:Ok0 15 a5O:=
 fo [(40,b5q),(41,b3d)] [] [0,2,3,4,5,6,7] [1] H15 (a1 d3f (a1 d2W a0)) Tryz.func15
theorem d3i:Ok0 16 b3h:=
 fo [] [] [0,1,4,5] [] H16 a0 Tryz.func16
theorem d7E:Ok0 42 a2Z:=
 fo [(14,a2v),(21,a9E)] [] [0,2,4,5,8,9] [] H42 (a1 b9r (a1 c6R a0)) Tryz.func42
theorem d3j:Ok0 17 a9S:=⟨c9h d7E.1,⟨_,_,Tryz.func17,rfl,by kernel_rfl⟩⟩
theorem d7F:Ok0 70 a4k:=
 fo [] [] [0,1,4,5] [] H70 a0 Tryz.func70
theorem d7G:Ok0 30 b7f:=
 fo [(14,a2v),(15,a5O),(70,a4k)] [] [0,1,4,6,8,9] [] H30 (a1 b9r (a1 c9p (a1 d7F a0))) Tryz.func30
theorem d7H:Ok0 72 b7L:=
 fo [(45,a3R),(71,a3T)] [(6,.pair QI Q6),(36,.list true (.list true QI)),(37,.pair QI Q6)] [0,1,5,7,8,9] [3] H72 (a1 c1Q (a1 c1R a0)) Tryz.func72
theorem d3k:Ok0 32 b1L:=
 fo [(20,b4j),(21,a9E),(39,a8P),(45,a3R),(71,a3T),(72,b7L),(73,b5r)] [(13,.pair Q12 Q71),(76,.pair Q12 Q70)] [0,1,2,3,8,9,10,12,14,15,16,18,20] [4] H32 (a1 d3d (a1 c6R (a1 c9o (a1 c1Q (a1 c1R (a1 d7H (a1 d3g a0))))))) Tryz.func32
theorem fs9:Ok0 9 b8O:=
 fo [(13,b7K),(14,a2v),(15,a5O),(16,b3h),(17,a9S),(30,b7f),(32,b1L)] [] [0,2,3,4,5,7,8,9] [] QH (a1 d7D (a1 b9r (a1 c9p (a1 d3i (a1 d3j (a1 d7G (a1 d3k a0))))))) Tryz.func9
theorem d7I:Ok0 33 b8P:=
 fo [] [] [0,2] [1] QH a0 Tryz.func33
theorem d7J:Ok0 74 c3Q:=
 fo [] [] [0,2] [] H74 a0 Tryz.func74
theorem d7K:Ok0 75 c2w:=
 fo [] [] [0,2] [] H75 a0 Tryz.func75
theorem d7L:Ok0 34 c2x:=
 fo [(74,c3Q),(75,c2w)] [] [0,1,4] [] QH (a1 d7J (a1 d7K a0)) Tryz.func34
theorem d7M:Ok0 10 c0D:=
 fo [(33,b8P),(34,c2x)] [] [0,1,2,6,7] [3] H10 (a1 d7I (a1 d7L a0)) Tryz.func10
theorem d7N:Ok0 11 c0E:=
 fo [(14,a2v),(32,b1L)] [] [0,1,2,3,8,10,11,12,14] [4] H11 (a1 b9r (a1 d3k a0)) Tryz.func11
theorem d5d:Ok0 120 a3C:=
 fo [] [] [0,1,4] [] QH a0 Tryz.func120
theorem d7O:Ok0 67 a3l:=
 fo [(120,a3C)] [] [0,2,3,5,6,8] [] H67 (a1 d5d a0) Tryz.func67
theorem d7P:Ok0 28 b7g:=
 fo [(14,a2v),(36,a6m),(67,a3l)] [] [0,1,4,5,7] [52] H28 (a1 b9r (a1 d3h (a1 d7O a0))) Tryz.func28
theorem fs5:Ok0 5 b0E:=
 fo [(9,b8O),(10,c0D),(11,c0E),(14,a2v),(15,a5O),(16,b3h),(17,a9S),(28,b7g),(29,b2p)] [] [0,1,2,3,4,5,12,13,15,16,18,19,20,22,23,24,25,26] [6] H5 (a1 fs9 (a1 d7M (a1 d7N (a1 b9r (a1 c9p (a1 d3i (a1 d3j (a1 d7P (a1 c9n a0))))))))) Tryz.func5
end Go.Ab
