/- The card of FlowBlocks: Blocks of the program draws the blocks the statement names. -/
/- Part 6 of the proof: a compiled form, its executor, what it computes. -/
import Derived.Test.YtabglcbliapijaaGreatDoorK5
import Derived.Test.YtabglcbliapijaaGreatDoorChecked
import Derived.KernelRfl
import Derived.Shelf.Strings.Builder1
import Derived.Shelf.Sort.Plain
import Derived.Shelf.Slices.CompactI
import Derived.Shelf.Slices.In.SortNone
import Derived.Test.YtabglcbliapijaaGreatDoorProg
import Derived.WalkKit
import Derived.Lib.Bytealg
import Derived.Laws.Externs
import Derived.ChangeSame
import Derived.ChangeVars
import Derived.RowKit
import Derived.RowKitTokens
import Derived.WideKeyArgs
import Derived.LaidLaws
import Derived.Lib.LaidTab
import Derived.Lib.LaidU8
import Derived.JoinedOf
import Derived.Test.YtabglcbliapijaaGreatDoorRows
import Derived.Test.YtabglcbliapijaaGreatDoorTie
import Derived.Test.YtabglcbliapijaaGreatDoorCards
import Derived.SevenTiedAt
import Derived.Handed
set_option linter.all false
set_option maxRecDepth 8000
set_option maxHeartbeats 8000000
/- The seat's functions: their code is that of the program. -/
namespace Go.Den
open IrD Go.Proofs
def glS : Nat → Bool := fun g => g == glBru || g == glSpace
theorem glS_z : ∀ g,glS g = true → (glZ g).isSome = true := fun g h => by
 have : g = glBru ∨ g = glSpace := by simpa [glS] using h
 rcases this with rfl | rfl <;> rfl
theorem glS_of : ∀ k z,glZ k = some z → glS k = true := fun k z h => by
 rcases glZ_cases h with ⟨rfl,_⟩ | ⟨rfl,_⟩ <;> rfl
theorem follows : Tryz.prog.follows .mixedOrders = true := by kernel_rfl
structure Fok (Fn : Func) (i : IFunc) : Prop where
 a : cFunc Tryz.prog Fn = some i
 b : i.body.ok glS i.ntmps = true
 c : (Fn.name == "runtime.NumGoroutine") = false
theorem Fok.x {k : FuncId} {Fn : Func} {i : IFunc} (h : Fok Fn i) (hf : Tryz.prog.funcs[k]? = some Fn) : ∃ Fn, Tryz.prog.funcs[k]? = some Fn ∧ (Fn.name == "runtime.NumGoroutine") = false ∧ cFunc Tryz.prog Fn = some i ∧ i.body.ok glS i.ntmps = true := ⟨_, hf, h.c, h.a, h.b⟩
theorem c14 : Fok Tryz.f14 ir14 := ⟨by kernel_rfl,by kernel_rfl,by kernel_rfl⟩
theorem c15 : Fok Tryz.f15 ir15 := ⟨by kernel_rfl,by kernel_rfl,by kernel_rfl⟩
theorem c27 : Fok Tryz.f27 ir27 := ⟨by kernel_rfl,by kernel_rfl,by kernel_rfl⟩
theorem c50 : Fok Tryz.f50 ir50 := ⟨by kernel_rfl,by kernel_rfl,by kernel_rfl⟩
theorem c67 : Fok Tryz.f67 ir67 := ⟨by kernel_rfl,by kernel_rfl,by kernel_rfl⟩
theorem c68 : Fok Tryz.f68 ir68 := ⟨by kernel_rfl,by kernel_rfl,by kernel_rfl⟩
theorem c69 : Fok Tryz.f69 ir69 := ⟨by kernel_rfl,by kernel_rfl,by kernel_rfl⟩
theorem c70 : Fok Tryz.f70 ir70 := ⟨by kernel_rfl,by kernel_rfl,by kernel_rfl⟩
theorem c81 : Fok Tryz.f81 ir81 := ⟨by kernel_rfl,by kernel_rfl,by kernel_rfl⟩
theorem c92 : Fok Tryz.f92 ir92 := ⟨by kernel_rfl,by kernel_rfl,by kernel_rfl⟩
theorem c125 : Fok Tryz.f125 ir125 := ⟨by kernel_rfl,by kernel_rfl,by kernel_rfl⟩
theorem c126 : Fok Tryz.f126 ir126 := ⟨by kernel_rfl,by kernel_rfl,by kernel_rfl⟩
theorem c132 : Fok Tryz.f132 ir132 := ⟨by kernel_rfl,by kernel_rfl,by kernel_rfl⟩
theorem c133 : Fok Tryz.f133 ir133 := ⟨by kernel_rfl,by kernel_rfl,by kernel_rfl⟩
theorem c134 : Fok Tryz.f134 ir134 := ⟨by kernel_rfl,by kernel_rfl,by kernel_rfl⟩
theorem c135 : Fok Tryz.f135 ir135 := ⟨by kernel_rfl,by kernel_rfl,by kernel_rfl⟩
theorem c145 : Fok Tryz.f145 ir145 := ⟨by kernel_rfl,by kernel_rfl,by kernel_rfl⟩
theorem c146 : Fok Tryz.f146 ir146 := ⟨by kernel_rfl,by kernel_rfl,by kernel_rfl⟩
theorem c147 : Fok Tryz.f147 ir147 := ⟨by kernel_rfl,by kernel_rfl,by kernel_rfl⟩
theorem c148 : Fok Tryz.f148 ir148 := ⟨by kernel_rfl,by kernel_rfl,by kernel_rfl⟩
theorem c149 : Fok Tryz.f149 ir149 := ⟨by kernel_rfl,by kernel_rfl,by kernel_rfl⟩
theorem c187 : Fok Tryz.f187 ir187 := ⟨by kernel_rfl,by kernel_rfl,by kernel_rfl⟩
theorem c188 : Fok Tryz.f188 ir188 := ⟨by kernel_rfl,by kernel_rfl,by kernel_rfl⟩
theorem c189 : Fok Tryz.f189 ir189 := ⟨by kernel_rfl,by kernel_rfl,by kernel_rfl⟩
theorem c190 : Fok Tryz.f190 ir190 := ⟨by kernel_rfl,by kernel_rfl,by kernel_rfl⟩
theorem c194 : Fok Tryz.f194 ir194 := ⟨by kernel_rfl,by kernel_rfl,by kernel_rfl⟩
theorem c195 : Fok Tryz.f195 ir195 := ⟨by kernel_rfl,by kernel_rfl,by kernel_rfl⟩
theorem c196 : Fok Tryz.f196 ir196 := ⟨by kernel_rfl,by kernel_rfl,by kernel_rfl⟩
theorem c197 : Fok Tryz.f197 ir197 := ⟨by kernel_rfl,by kernel_rfl,by kernel_rfl⟩
theorem c200 : Fok Tryz.f200 ir200 := ⟨by kernel_rfl,by kernel_rfl,by kernel_rfl⟩
theorem c201 : Fok Tryz.f201 ir201 := ⟨by kernel_rfl,by kernel_rfl,by kernel_rfl⟩
theorem c292 : Fok Tryz.f292 ir292 := ⟨by kernel_rfl,by kernel_rfl,by kernel_rfl⟩
theorem c364 : Fok Tryz.f364 ir364 := ⟨by kernel_rfl,by kernel_rfl,by kernel_rfl⟩
def FA : FuncId → Option IFunc
 | 14 => some ir14
 | 15 => some ir15
 | 27 => some ir27
 | 50 => some ir50
 | 67 => some ir67
 | 68 => some ir68
 | 69 => some ir69
 | 70 => some ir70
 | 81 => some ir81
 | 92 => some ir92
 | 125 => some ir125
 | 126 => some ir126
 | 132 => some ir132
 | 133 => some ir133
 | 134 => some ir134
 | 135 => some ir135
 | 145 => some ir145
 | 146 => some ir146
 | 147 => some ir147
 | 148 => some ir148
 | 149 => some ir149
 | 187 => some ir187
 | 188 => some ir188
 | 189 => some ir189
 | 190 => some ir190
 | 194 => some ir194
 | 195 => some ir195
 | 196 => some ir196
 | 197 => some ir197
 | 200 => some ir200
 | 201 => some ir201
 | 292 => some ir292
 | 364 => some ir364
 | _ => none
theorem ok_FA : FOk glS Tryz.prog FA := by
 intro f fn h
 unfold FA at h
 split at h
 ·cases h; exact c14.x Tryz.func14
 ·cases h; exact c15.x Tryz.func15
 ·cases h; exact c27.x Tryz.func27
 ·cases h; exact c50.x Tryz.func50
 ·cases h; exact c67.x Tryz.func67
 ·cases h; exact c68.x Tryz.func68
 ·cases h; exact c69.x Tryz.func69
 ·cases h; exact c70.x Tryz.func70
 ·cases h; exact c81.x Tryz.func81
 ·cases h; exact c92.x Tryz.func92
 ·cases h; exact c125.x Tryz.func125
 ·cases h; exact c126.x Tryz.func126
 ·cases h; exact c132.x Tryz.func132
 ·cases h; exact c133.x Tryz.func133
 ·cases h; exact c134.x Tryz.func134
 ·cases h; exact c135.x Tryz.func135
 ·cases h; exact c145.x Tryz.func145
 ·cases h; exact c146.x Tryz.func146
 ·cases h; exact c147.x Tryz.func147
 ·cases h; exact c148.x Tryz.func148
 ·cases h; exact c149.x Tryz.func149
 ·cases h; exact c187.x Tryz.func187
 ·cases h; exact c188.x Tryz.func188
 ·cases h; exact c189.x Tryz.func189
 ·cases h; exact c190.x Tryz.func190
 ·cases h; exact c194.x Tryz.func194
 ·cases h; exact c195.x Tryz.func195
 ·cases h; exact c196.x Tryz.func196
 ·cases h; exact c197.x Tryz.func197
 ·cases h; exact c200.x Tryz.func200
 ·cases h; exact c201.x Tryz.func201
 ·cases h; exact c292.x Tryz.func292
 ·cases h; exact c364.x Tryz.func364
 ·cases h
theorem c3 : Fok Tryz.f3 ir3 := ⟨by kernel_rfl,by kernel_rfl,by kernel_rfl⟩
theorem c13 : Fok Tryz.f13 ir13 := ⟨by kernel_rfl,by kernel_rfl,by kernel_rfl⟩
theorem c16 : Fok Tryz.f16 ir16 := ⟨by kernel_rfl,by kernel_rfl,by kernel_rfl⟩
theorem c17 : Fok Tryz.f17 ir17 := ⟨by kernel_rfl,by kernel_rfl,by kernel_rfl⟩
theorem c18 : Fok Tryz.f18 ir18 := ⟨by kernel_rfl,by kernel_rfl,by kernel_rfl⟩
theorem c19 : Fok Tryz.f19 ir19 := ⟨by kernel_rfl,by kernel_rfl,by kernel_rfl⟩
theorem c20 : Fok Tryz.f20 ir20 := ⟨by kernel_rfl,by kernel_rfl,by kernel_rfl⟩
theorem c21 : Fok Tryz.f21 ir21 := ⟨by kernel_rfl,by kernel_rfl,by kernel_rfl⟩
theorem c22 : Fok Tryz.f22 ir22 := ⟨by kernel_rfl,by kernel_rfl,by kernel_rfl⟩
theorem c71 : Fok Tryz.f71 ir71 := ⟨by kernel_rfl,by kernel_rfl,by kernel_rfl⟩
theorem c72 : Fok Tryz.f72 ir72 := ⟨by kernel_rfl,by kernel_rfl,by kernel_rfl⟩
theorem c73 : Fok Tryz.f73 ir73 := ⟨by kernel_rfl,by kernel_rfl,by kernel_rfl⟩
theorem c74 : Fok Tryz.f74 ir74 := ⟨by kernel_rfl,by kernel_rfl,by kernel_rfl⟩
theorem c75 : Fok Tryz.f75 ir75 := ⟨by kernel_rfl,by kernel_rfl,by kernel_rfl⟩
theorem c76 : Fok Tryz.f76 ir76 := ⟨by kernel_rfl,by kernel_rfl,by kernel_rfl⟩
theorem c78 : Fok Tryz.f78 ir78 := ⟨by kernel_rfl,by kernel_rfl,by kernel_rfl⟩
theorem c79 : Fok Tryz.f79 ir79 := ⟨by kernel_rfl,by kernel_rfl,by kernel_rfl⟩
theorem c80 : Fok Tryz.f80 ir80 := ⟨by kernel_rfl,by kernel_rfl,by kernel_rfl⟩
theorem c84 : Fok Tryz.f84 ir84 := ⟨by kernel_rfl,by kernel_rfl,by kernel_rfl⟩
theorem c85 : Fok Tryz.f85 ir85 := ⟨by kernel_rfl,by kernel_rfl,by kernel_rfl⟩
theorem c86 : Fok Tryz.f86 ir86 := ⟨by kernel_rfl,by kernel_rfl,by kernel_rfl⟩
theorem c87 : Fok Tryz.f87 ir87 := ⟨by kernel_rfl,by kernel_rfl,by kernel_rfl⟩
theorem c88 : Fok Tryz.f88 ir88 := ⟨by kernel_rfl,by kernel_rfl,by kernel_rfl⟩
theorem c136 : Fok Tryz.f136 ir136 := ⟨by kernel_rfl,by kernel_rfl,by kernel_rfl⟩
theorem c137 : Fok Tryz.f137 ir137 := ⟨by kernel_rfl,by kernel_rfl,by kernel_rfl⟩
theorem c139 : Fok Tryz.f139 ir139 := ⟨by kernel_rfl,by kernel_rfl,by kernel_rfl⟩
theorem c140 : Fok Tryz.f140 ir140 := ⟨by kernel_rfl,by kernel_rfl,by kernel_rfl⟩
theorem c141 : Fok Tryz.f141 ir141 := ⟨by kernel_rfl,by kernel_rfl,by kernel_rfl⟩
theorem c142 : Fok Tryz.f142 ir142 := ⟨by kernel_rfl,by kernel_rfl,by kernel_rfl⟩
theorem c143 : Fok Tryz.f143 ir143 := ⟨by kernel_rfl,by kernel_rfl,by kernel_rfl⟩
theorem c144 : Fok Tryz.f144 ir144 := ⟨by kernel_rfl,by kernel_rfl,by kernel_rfl⟩
theorem c152 : Fok Tryz.f152 ir152 := ⟨by kernel_rfl,by kernel_rfl,by kernel_rfl⟩
theorem c153 : Fok Tryz.f153 ir153 := ⟨by kernel_rfl,by kernel_rfl,by kernel_rfl⟩
theorem c192 : Fok Tryz.f192 ir192 := ⟨by kernel_rfl,by kernel_rfl,by kernel_rfl⟩
theorem c193 : Fok Tryz.f193 ir193 := ⟨by kernel_rfl,by kernel_rfl,by kernel_rfl⟩
theorem c198 : Fok Tryz.f198 ir198 := ⟨by kernel_rfl,by kernel_rfl,by kernel_rfl⟩
theorem c199 : Fok Tryz.f199 ir199 := ⟨by kernel_rfl,by kernel_rfl,by kernel_rfl⟩
theorem c202 : Fok Tryz.f202 ir202 := ⟨by kernel_rfl,by kernel_rfl,by kernel_rfl⟩
theorem c213 : Fok Tryz.f213 ir213 := ⟨by kernel_rfl,by kernel_rfl,by kernel_rfl⟩
theorem c214 : Fok Tryz.f214 ir214 := ⟨by kernel_rfl,by kernel_rfl,by kernel_rfl⟩
theorem c215 : Fok Tryz.f215 ir215 := ⟨by kernel_rfl,by kernel_rfl,by kernel_rfl⟩
theorem c216 : Fok Tryz.f216 ir216 := ⟨by kernel_rfl,by kernel_rfl,by kernel_rfl⟩
theorem c217 : Fok Tryz.f217 ir217 := ⟨by kernel_rfl,by kernel_rfl,by kernel_rfl⟩
theorem c218 : Fok Tryz.f218 ir218 := ⟨by kernel_rfl,by kernel_rfl,by kernel_rfl⟩
theorem c288 : Fok Tryz.f288 ir288 := ⟨by kernel_rfl,by kernel_rfl,by kernel_rfl⟩
theorem c293 : Fok Tryz.f293 ir293 := ⟨by kernel_rfl,by kernel_rfl,by kernel_rfl⟩
theorem c296 : Fok Tryz.f296 ir296 := ⟨by kernel_rfl,by kernel_rfl,by kernel_rfl⟩
theorem c302 : Fok Tryz.f302 ir302 := ⟨by kernel_rfl,by kernel_rfl,by kernel_rfl⟩
theorem c303 : Fok Tryz.f303 ir303 := ⟨by kernel_rfl,by kernel_rfl,by kernel_rfl⟩
theorem ok_FD : FOk glS Tryz.prog FD := by
 intro f fn h
 unfold FD at h
 split at h
 ·cases h; exact c3.x Tryz.func3
 ·cases h; exact c13.x Tryz.func13
 ·cases h; exact c15.x Tryz.func15
 ·cases h; exact c16.x Tryz.func16
 ·cases h; exact c17.x Tryz.func17
 ·cases h; exact c18.x Tryz.func18
 ·cases h; exact c19.x Tryz.func19
 ·cases h; exact c20.x Tryz.func20
 ·cases h; exact c21.x Tryz.func21
 ·cases h; exact c22.x Tryz.func22
 ·cases h; exact c27.x Tryz.func27
 ·cases h; exact c50.x Tryz.func50
 ·cases h; exact c67.x Tryz.func67
 ·cases h; exact c68.x Tryz.func68
 ·cases h; exact c69.x Tryz.func69
 ·cases h; exact c70.x Tryz.func70
 ·cases h; exact c71.x Tryz.func71
 ·cases h; exact c72.x Tryz.func72
 ·cases h; exact c73.x Tryz.func73
 ·cases h; exact c74.x Tryz.func74
 ·cases h; exact c75.x Tryz.func75
 ·cases h; exact c76.x Tryz.func76
 ·cases h; exact c78.x Tryz.func78
 ·cases h; exact c79.x Tryz.func79
 ·cases h; exact c80.x Tryz.func80
 ·cases h; exact c81.x Tryz.func81
 ·cases h; exact c84.x Tryz.func84
 ·cases h; exact c85.x Tryz.func85
 ·cases h; exact c86.x Tryz.func86
 ·cases h; exact c87.x Tryz.func87
 ·cases h; exact c88.x Tryz.func88
 ·cases h; exact c92.x Tryz.func92
 ·cases h; exact c125.x Tryz.func125
 ·cases h; exact c126.x Tryz.func126
 ·cases h; exact c132.x Tryz.func132
 ·cases h; exact c133.x Tryz.func133
 ·cases h; exact c134.x Tryz.func134
 ·cases h; exact c135.x Tryz.func135
 ·cases h; exact c136.x Tryz.func136
 ·cases h; exact c137.x Tryz.func137
 ·cases h; exact c139.x Tryz.func139
 ·cases h; exact c140.x Tryz.func140
 ·cases h; exact c141.x Tryz.func141
 ·cases h; exact c142.x Tryz.func142
 ·cases h; exact c143.x Tryz.func143
 ·cases h; exact c144.x Tryz.func144
 ·cases h; exact c145.x Tryz.func145
 ·cases h; exact c146.x Tryz.func146
 ·cases h; exact c147.x Tryz.func147
 ·cases h; exact c148.x Tryz.func148
 ·cases h; exact c149.x Tryz.func149
 ·cases h; exact c152.x Tryz.func152
 ·cases h; exact c153.x Tryz.func153
 ·cases h; exact c187.x Tryz.func187
 ·cases h; exact c188.x Tryz.func188
 ·cases h; exact c189.x Tryz.func189
 ·cases h; exact c190.x Tryz.func190
 ·cases h; exact c192.x Tryz.func192
 ·cases h; exact c193.x Tryz.func193
 ·cases h; exact c194.x Tryz.func194
 ·cases h; exact c195.x Tryz.func195
 ·cases h; exact c196.x Tryz.func196
 ·cases h; exact c197.x Tryz.func197
 ·cases h; exact c198.x Tryz.func198
 ·cases h; exact c199.x Tryz.func199
 ·cases h; exact c200.x Tryz.func200
 ·cases h; exact c201.x Tryz.func201
 ·cases h; exact c202.x Tryz.func202
 ·cases h; exact c213.x Tryz.func213
 ·cases h; exact c214.x Tryz.func214
 ·cases h; exact c215.x Tryz.func215
 ·cases h; exact c216.x Tryz.func216
 ·cases h; exact c217.x Tryz.func217
 ·cases h; exact c218.x Tryz.func218
 ·cases h; exact c288.x Tryz.func288
 ·cases h; exact c292.x Tryz.func292
 ·cases h; exact c293.x Tryz.func293
 ·cases h; exact c296.x Tryz.func296
 ·cases h; exact c302.x Tryz.func302
 ·cases h; exact c303.x Tryz.func303
 ·cases h; exact c364.x Tryz.func364
 ·cases h
end Go.Den
/-
 DERIVED: THE SHELF's CONTRACTS AT THIS DUMP,IN PLAIN WORDS (tools/lay-plain.mjs out of 'TzShelf.lean',which tools/lay-shelf.mjs wrote): THE SAME DECLARATIONS UNDER THE SAME NAMES: 'import','namespace','open','def','theorem' AND NOTHING ELSE: no command of the shelf's: FOR A HAND-IN. Each laying: the table of numbers ('.._ren') and one theorem,a field a fact of the dump's own or the kernel's comparison; each contract: ONE APPLICATION.
-/
namespace Go.Proofs
open Go.Shelf
def Tryz.lays169_ren : Go.Shelf.Ren := ⟨fun | 169 => 77 | n => n,fun | 70 => 138 | 9 => 9 | 0 => 0 | 72 => 141 | 37 => 139 | 127 => 243 | 3 => 3 | 5 => 5 | n => n,fun | n => n⟩
theorem Tryz.lays169 : Go.Proofs.Lays.n169 Tryz.prog Tryz.lays169_ren := {
 mixed := by kernel_rfl
 f169 := Tryz.func77.trans (congrArg some (by kernel_rfl))
 t0 := Tryz.underlying0
 a0 := Tryz.isAgg0
 z0 := Tryz.sizeOf0
 v0 := Tryz.zeroValue0
 t3 := Tryz.underlying3
 a3 := Tryz.isAgg3
 z3 := Tryz.sizeOf3
 v3 := Tryz.zeroValue3
 t9 := Tryz.underlying9
 a9 := Tryz.isAgg9
 z9 := Tryz.sizeOf9
 v9 := Tryz.zeroValue9
 t37 := Tryz.underlying139
 a37 := Tryz.isAgg139
 z37 := Tryz.sizeOf139
 v37 := Tryz.zeroValue139
 t70 := Tryz.underlying138
 a70 := Tryz.isAgg138
 z70 := Tryz.sizeOf138
 v70 := Tryz.zeroValue138
 t72 := Tryz.underlying141
 a72 := Tryz.isAgg141
 z72 := Tryz.sizeOf141
 v72 := Tryz.zeroValue141
 t127 := Tryz.underlying243
 a127 := Tryz.isAgg243
 z127 := Tryz.sizeOf243
 v127 := Tryz.zeroValue243 }
theorem Tryz.Builder_Extra_169 : Builder.Extra Tryz.prog Tryz.lays169_ren := {
 sizeBuilder := by kernel_rfl
 liesBuilder := by kernel_rfl
 t5 := Tryz.underlying5
 a5 := Tryz.isAgg5
 z5 := Tryz.sizeOf5
 v5 := Tryz.zeroValue5
 infoByte := by kernel_rfl
 cellsByte := by kernel_rfl
 sizeByte := by kernel_rfl
 neB5 := by decide }
def Tryz.lays189_ren : Go.Shelf.Ren := ⟨fun | 189 => 82 | 125 => 151 | 257 => 150 | 128 => 211 | 129 => 212 | 294 => 203 | 295 => 204 | 296 => 205 | 297 => 206 | 298 => 207 | 299 => 208 | 216 => 114 | 300 => 209 | 301 => 210 | 328 => 297 | 329 => 298 | 330 => 299 | 331 => 300 | 332 => 301 | 215 => 184 | 343 => 369 | n => n,fun | 28 => 41 | 3 => 3 | 46 => 252 | 0 => 0 | 51 => 313 | 53 => 221 | 4 => 4 | 183 => 307 | 182 => 306 | 131 => 104 | 5 => 5 | 9 => 9 | 218 => 346 | 222 => 350 | 228 => 411 | 229 => 302 | n => n,fun | n => n⟩
theorem Tryz.lays189 : Go.Proofs.Lays.n189 Tryz.prog Tryz.lays189_ren := {
 mixed := by kernel_rfl
 f125 := Tryz.func151.trans (congrArg some (by kernel_rfl))
 f128 := Tryz.func211.trans (congrArg some (by kernel_rfl))
 f129 := Tryz.func212.trans (congrArg some (by kernel_rfl))
 f189 := Tryz.func82.trans (congrArg some (by kernel_rfl))
 f215 := Tryz.func184.trans (congrArg some (by kernel_rfl))
 f216 := Tryz.func114.trans (congrArg some (by kernel_rfl))
 f257 := Tryz.func150.trans (congrArg some (by kernel_rfl))
 f294 := Tryz.func203.trans (congrArg some (by kernel_rfl))
 f295 := Tryz.func204.trans (congrArg some (by kernel_rfl))
 f296 := Tryz.func205.trans (congrArg some (by kernel_rfl))
 f297 := Tryz.func206.trans (congrArg some (by kernel_rfl))
 f298 := Tryz.func207.trans (congrArg some (by kernel_rfl))
 f299 := Tryz.func208.trans (congrArg some (by kernel_rfl))
 f300 := Tryz.func209.trans (congrArg some (by kernel_rfl))
 f301 := Tryz.func210.trans (congrArg some (by kernel_rfl))
 f328 := Tryz.func297.trans (congrArg some (by kernel_rfl))
 f329 := Tryz.func298.trans (congrArg some (by kernel_rfl))
 f330 := Tryz.func299.trans (congrArg some (by kernel_rfl))
 f331 := Tryz.func300.trans (congrArg some (by kernel_rfl))
 f332 := Tryz.func301.trans (congrArg some (by kernel_rfl))
 f343 := Tryz.func369.trans (congrArg some (by kernel_rfl))
 t0 := Tryz.underlying0
 a0 := Tryz.isAgg0
 z0 := Tryz.sizeOf0
 v0 := Tryz.zeroValue0
 t3 := Tryz.underlying3
 a3 := Tryz.isAgg3
 z3 := Tryz.sizeOf3
 v3 := Tryz.zeroValue3
 t4 := Tryz.underlying4
 a4 := Tryz.isAgg4
 z4 := Tryz.sizeOf4
 v4 := Tryz.zeroValue4
 t5 := Tryz.underlying5
 a5 := Tryz.isAgg5
 z5 := Tryz.sizeOf5
 v5 := Tryz.zeroValue5
 t9 := Tryz.underlying9
 a9 := Tryz.isAgg9
 z9 := Tryz.sizeOf9
 v9 := Tryz.zeroValue9
 t28 := Tryz.underlying41
 a28 := Tryz.isAgg41
 z28 := Tryz.sizeOf41
 v28 := Tryz.zeroValue41
 t46 := Tryz.underlying252
 a46 := Tryz.isAgg252
 z46 := Tryz.sizeOf252
 v46 := Tryz.zeroValue252
 t51 := Tryz.underlying313
 a51 := Tryz.isAgg313
 z51 := Tryz.sizeOf313
 v51 := Tryz.zeroValue313
 t53 := Tryz.underlying221
 a53 := Tryz.isAgg221
 z53 := Tryz.sizeOf221
 v53 := Tryz.zeroValue221
 t131 := Tryz.underlying104
 a131 := Tryz.isAgg104
 z131 := Tryz.sizeOf104
 v131 := Tryz.zeroValue104
 t182 := Tryz.underlying306
 a182 := Tryz.isAgg306
 z182 := Tryz.sizeOf306
 v182 := Tryz.zeroValue306
 t183 := Tryz.underlying307
 a183 := Tryz.isAgg307
 z183 := Tryz.sizeOf307
 v183 := Tryz.zeroValue307
 t218 := Tryz.underlying346
 a218 := Tryz.isAgg346
 z218 := Tryz.sizeOf346
 v218 := Tryz.zeroValue346
 t222 := Tryz.underlying350
 a222 := Tryz.isAgg350
 z222 := Tryz.sizeOf350
 v222 := Tryz.zeroValue350
 t228 := Tryz.underlying411
 a228 := Tryz.isAgg411
 z228 := Tryz.sizeOf411
 v228 := Tryz.zeroValue411
 t229 := Tryz.underlying302
 a229 := Tryz.isAgg302
 z229 := Tryz.sizeOf302
 v229 := Tryz.zeroValue302 }
open Go.Sort Go.RowKit in
theorem Tryz.slices_Sort_int (blk off cap : Nat) (zs : List Int) (w : World) (hH : Holds (Value.int .i64) w blk off zs.toArray) (hblk : blk < w.heap.size) (hsz : zs.length < 4611686018427387904) :
  Calls Tryz.prog 82 #[.slice (some ⟨blk,off,none⟩) zs.length cap] w fun e w' =>
   e = .returned (.tuple #[]) ∧ ∃ n os,w' = grow (putRow (Value.int .i64) (Sort.ahead w n) blk off (zs.mergeSort fun x y => decide (x ≤ y)).toArray) os := Any.slices_Sort_int Tryz.lays189 blk off cap zs w hH hblk hsz
theorem Tryz.slices_Sort_int_none (p : Option Addr) (cap : Nat) (w : World) :
  Calls Tryz.prog 82 #[.slice p 0 cap] w fun e w' => e = .returned (.tuple #[]) ∧ w' = w := Any.slices_Sort_int_none Tryz.lays189 p cap w
def Tryz.laysNm220_ren : Go.Shelf.Ren := ⟨fun | 20 => 83 | n => n,fun | 22 => 41 | 3 => 3 | 4 => 4 | 0 => 0 | n => n,fun | n => n⟩
theorem Tryz.laysNm220 : Go.Proofs.Lays2.n20 Tryz.prog Tryz.laysNm220_ren := {
 mixed := by kernel_rfl
 f20 := Tryz.func83.trans (congrArg some (by kernel_rfl))
 t0 := Tryz.underlying0
 a0 := Tryz.isAgg0
 z0 := Tryz.sizeOf0
 v0 := Tryz.zeroValue0
 t3 := Tryz.underlying3
 a3 := Tryz.isAgg3
 z3 := Tryz.sizeOf3
 v3 := Tryz.zeroValue3
 t4 := Tryz.underlying4
 a4 := Tryz.isAgg4
 z4 := Tryz.sizeOf4
 v4 := Tryz.zeroValue4
 t22 := Tryz.underlying41
 a22 := Tryz.isAgg41
 z22 := Tryz.sizeOf41
 v22 := Tryz.zeroValue41
 i3 := by kernel_rfl }
open Go.RowKit Go.Lib Go.Sort in
theorem Tryz.slices_Compact_int (blk off cap : Nat) (zs : List Int) (w : World) (hH : Holds (Value.int .i64) w blk off zs.toArray) (hsz : zs.length ≤ 9223372036854775807) (hcap : zs.length ≤ cap) :
  Calls Tryz.prog 83 #[.slice (some ⟨blk,off,none⟩) zs.length cap] w fun e w' => e = .returned (.slice (some ⟨blk,off,none⟩) (Lib.compact zs).length cap) ∧ ∃ q,w' = putRow (Value.int .i64) (Sort.ahead w q) blk off (Lib.compact zs ++ List.replicate (zs.length - (Lib.compact zs).length) 0).toArray := Any.slices_Compact_int Tryz.laysNm220 blk off cap zs w hH hsz hcap
open Go.RowKit Go.Lib Go.Sort in
theorem Tryz.slices_Compact_int_empty (a : Option Addr) (cap : Nat) (w : World) :
  Calls Tryz.prog 83 #[.slice a 0 cap] w fun e w' => e = .returned (.slice a 0 cap) ∧ w' = w := Any.slices_Compact_int_empty Tryz.laysNm220 a cap w
end Go.Proofs
/- (*strings.Builder).copyCheck, walked at this seat's program. -/
namespace Go.Proofs
open Go.RowKit
theorem Tryz.bldSize : (Tryz.prog.info? 141).map (·.size) = some 2 := by kernel_rfl
theorem Tryz.bldLies : liesAt Tryz.prog Tryz.prog.depth 141 (2 / Tryz.prog.cellsOf 141) 0 141 1 = true := by kernel_rfl
theorem Tryz.ptrBld : Tryz.prog.underlying 138 = some (.pointer 141) := by kernel_rfl
theorem Tryz.ptrUns : Tryz.prog.underlying 292 = some .unsafePointer := by kernel_rfl
set_option maxRecDepth 100000 in
theorem Tryz.check_used (b : Nat) (w : World) (h0 : w.cell? ⟨b,0,none⟩ = some (.pointer (some ⟨b,0,none⟩))) :
  Calls Tryz.prog 138 #[.pointer (some ⟨b,0,none⟩)] w fun e w' => e = .returned (.tuple #[]) ∧ w' = w := by
 obtain ⟨j,hj,_⟩ := Option.map_eq_some_iff.1 Tryz.bldSize
 go_enter Tryz.func138,Tryz.ntmps138
 go_wp2
 rw [Lib.run_neq_ptr_same w _ Tryz.ptrBld hj]
 go_wp2
 go_end0
 exact ⟨rfl,rfl⟩
set_option maxRecDepth 100000 in
theorem Tryz.check_fresh (b : Nat) (w : World) (h0 : w.cell? ⟨b,0,none⟩ = some (.pointer none)) (hsh : w.shape? b = some (141,2)) (hfz : w.frozen? ⟨b,0,none⟩ = false) :
  Calls Tryz.prog 138 #[.pointer (some ⟨b,0,none⟩)] w fun e w' => e = .returned (.tuple #[]) ∧ w' = w.setCell ⟨b,0,none⟩ (.pointer (some ⟨b,0,none⟩)) := by
 obtain ⟨j,hj,hjs⟩ := Option.map_eq_some_iff.1 Tryz.bldSize
 go_enter Tryz.func138,Tryz.ntmps138
 go_wp2
 rw [Lib.run_to_unsafe w ⟨b,0,none⟩ Tryz.ptrBld Tryz.ptrUns hj (by rw [hjs]; decide) hsh (Nat.zero_lt_succ 1)]
 simp only [Result.andThen]
 rw [Oper.upon_value]
 go_wp2
 rw [run_callFunc_extern Tryz.func191 (by kernel_rfl) (by kernel_rfl) (by kernel_rfl) (e := Extern.AbiNoEscape.same) (by kernel_rfl)]
 rw [Lib.run_noEscape]
 simp only [Result.andThen]
 rw [Oper.upon_value]
 go_wp2
 rw [Lib.run_from_unsafe w ⟨b,0,none⟩ Tryz.ptrUns Tryz.ptrBld hj hsh Tryz.bldLies]
 simp only [Result.andThen]
 rw [Oper.upon_value]
 go_wp2
 go_end0
 exact ⟨rfl,rfl⟩
end Go.Proofs
/- (*strings.Builder).String, walked: what it reads and what it freezes. -/
namespace Go.Proofs
open Go.Shelf Go.RowKit Go.Den
variable {P : Program} {ρ : Go.Shelf.Ren}
theorem loadBytesX : ∀ (vs : List Value) (w : World) (g o : Nat) (acc : ByteArray),vs.all isU8 = true → (∀ j v,vs[j]? = some v → w.cell? ⟨g,o + j,none⟩ = some v) →
  (loadBytes ⟨g,o,none⟩ acc vs.length).run P w = .ok ⟨acc.data ++ (vs.map byteV).toArray⟩ w
 | [],w,g,o,acc,_,_ => by simp [loadBytes]
 | x :: l,w,g,o,acc,hu,h => by
  have h0 : w.cell? ⟨g,o,none⟩ = some x := h 0 x rfl
  simp only [List.all_cons,Bool.and_eq_true] at hu
  obtain ⟨n,rfl⟩ : ∃ n,x = .int .u8 n := by
   cases x with
   | int k n => cases k <;> first | exact ⟨n,rfl⟩ | exact absurd hu.1 (by simp [isU8])
   | _ => exact absurd hu.1 (by simp [isU8])
  have ih := loadBytesX l w g (o + 1) (acc.push n.toNat.toUInt8) hu.2 (fun j y hy => by
   have := h (j + 1) y (by simpa using hy)
   rwa [show o + 1 + j = o + (j + 1) by omega])
  have ea : (⟨g,o,none⟩ : Addr).add 1 = ⟨g,o + 1,none⟩ := rfl
  simp only [List.length_cons,loadBytes,Sem.run_bind,run_load,h0,Result.andThen,ea]
  rw [ih]
  congr 1
  apply ByteArray.ext
  simp [ByteArray.push,byteV]
theorem lies_bytesX {e : TypeId} (hc : P.cellsOf e = 1) (count o n : Nat) (hn : o + n ≤ count) : liesAt P P.depth e count o e n = true := by
 have hd : P.depth = (2 * (P.types.size + Made.depth) + 1) + 1 := rfl
 rw [hd]
 simp only [liesAt,Bool.or_eq_true]
 left
 rw [hd]
 simp [rowAt,hc,hn,sameLayout,Nat.mod_one]
theorem usStringX (w : World) (pt it ty e : TypeId) (hp : P.underlying pt = some (.pointer e)) (hc : P.cellsOf e = 1) (g o cells : Nat) (hsh : w.shape? g = some (e,cells)) (vs : List Value) (h0 : vs ≠ []) (hn : o + vs.length ≤ cells) (h63 : vs.length ≤ 9223372036854775807)
  (hu : vs.all isU8 = true) (hcell : ∀ j v,vs[j]? = some v → w.cell? ⟨g,o + j,none⟩ = some v) :
  (Builtin.unsafeString_ #[pt,it] ty #[.pointer (some ⟨g,o,none⟩),.int .i64 vs.length]).run P w = .ok (.string ⟨(vs.map byteV).toArray⟩) (w.freeze ⟨g,o,none⟩ vs.length) := by
 have hl : vs.length ≠ 0 := by simpa using h0
 have hlb := loadBytesX (P := P) vs w g o .empty hu hcell
 have hlies := lies_bytesX (P := P) hc (cells / P.cellsOf e) o vs.length (by rw [hc]; simpa using hn)
 have h63' : ¬ (9223372036854775807 : Int) < (vs.length : Int) := by omega
 have hmax : IntKind.i64.max = 9223372036854775807 := rfl
 have hneg : ¬ (vs.length : Int) < 0 := by omega
 obtain ⟨x1,x2,x3,hdef⟩ : ∃ (x1 x2 : Sem PUnit) (x3 : Sem Value),Builtin.unsafeString_ #[pt,it] ty #[.pointer (some ⟨g,o,none⟩),.int .i64 vs.length] = (do
   let n ← asInt (.int .i64 vs.length)
   if n < 0 then x1
   if n > IntKind.i64.max then x2
   if n = 0 then pure (.string .empty)
   else if ← variablesAt ⟨g,o,none⟩ (← elemOf pt) n.toNat then do
    let s ← loadBytes ⟨g,o,none⟩ .empty n.toNat
    freeze ⟨g,o,none⟩ n.toNat
    pure (.string s)
   else x3) := ⟨_,_,_,rfl⟩
 rw [hdef]
 simp [asInt,asIntOf,hmax,h63',hneg,hl,variablesAt,hsh,elemOf,run_underlying hp,hlies,hlb]
set_option maxRecDepth 100000 in
theorem builder_str (L : Lays.n169 P ρ) (X : Builder.Extra P ρ) (b x g o cap : Nat) (vs : List Value) (cur : Array Value) (lh : Nat × Nat) (w : World) (hb : w.cell? ⟨b,x + 1,none⟩ = some (.slice (some ⟨g,o,none⟩) vs.length cap))
  (hg : w.heap[g]? = some (.cells cur (ρ.t 5) lh)) (h0 : vs ≠ []) (hnb : vs.length < 4611686018427387904) (hcap : vs.length ≤ cap) (hfit : o + vs.length ≤ cur.size) (hu : vs.all isU8 = true) (hcells : ∀ j v,vs[j]? = some v → cur[o + j]? = some v) :
  Calls P (ρ.f 169) #[.pointer (some ⟨b,x,none⟩)] w fun e w' => e = .returned (.string ⟨(vs.map byteV).toArray⟩) ∧ w'.os = w.os ∧ w'.output = w.output ∧ ∃ ob,w'.heap = w.heap.setIfInBounds g ob := by
 have hl0 : vs.length ≠ 0 := by simpa using h0
 have c1 : w.drew.cell? ⟨b,x + 1,none⟩ = some (.slice (some ⟨g,o,none⟩) vs.length cap) := hb
 have hSD : (Builtin.unsafeSliceData_ #[(ρ.t 37)] (ρ.t 127) #[.slice (some ⟨g,o,none⟩) vs.length cap]).run P w.drew = .ok (.pointer (some ⟨g,o,none⟩)) w.drew :=
  Lib.run_unsafeSliceData_row _ _ _ _ _ _ (by omega)
 have hg' : w.drew.heap[g]? = some (.cells cur (ρ.t 5) lh) := hg
 have hUS : (Builtin.unsafeString_ #[(ρ.t 127),(ρ.t 3)] (ρ.t 9) #[.pointer (some ⟨g,o,none⟩),.int .i64 vs.length]).run P w.drew = .ok (.string ⟨(vs.map byteV).toArray⟩) (w.drew.freeze ⟨g,o,none⟩ vs.length) :=
  usStringX w.drew (ρ.t 127) (ρ.t 3) (ρ.t 9) (ρ.t 5) L.t127 X.cellsByte g o cur.size (by simp [World.shape?,hg']) vs h0 hfit (by omega) hu (fun j v hj => by simp only [World.cell?,hg']; exact hcells j v hj)
 have hfr : (w.drew.freeze ⟨g,o,none⟩ vs.length).os = w.os ∧ (w.drew.freeze ⟨g,o,none⟩ vs.length).output = w.output ∧ ∃ ob,(w.drew.freeze ⟨g,o,none⟩ vs.length).heap = w.heap.setIfInBounds g ob := by
  unfold World.freeze
  rw [if_neg hl0]
  refine ⟨rfl,rfl,.cells cur (ρ.t 5) (if lh.1 == lh.2 then (o,o + vs.length) else (min lh.1 o,max lh.2 (o + vs.length))), ?_⟩
  have hlt : g < w.heap.size := (Array.getElem?_eq_some_iff.1 hg).1
  apply Array.ext_getElem?
  intro j
  show (w.heap.modify g _)[j]? = _
  rw [Array.getElem?_modify,Array.getElem?_setIfInBounds]
  by_cases e : g = j
  ·subst e
   rw [if_pos rfl,if_pos rfl,if_pos hlt,hg]; rfl
  ·rw [if_neg e,if_neg e]
 have mixed := L.mixed
 have t72 := L.t72; have a72 := L.a72; have z72 := L.z72; have v72 := L.v72; have u72 := run_underlying L.t72
 have t70 := L.t70; have a70 := L.a70; have z70 := L.z70; have v70 := L.v70; have u70 := run_underlying L.t70
 have t37 := L.t37; have a37 := L.a37; have z37 := L.z37; have v37 := L.v37; have u37 := run_underlying L.t37
 have t127 := L.t127; have a127 := L.a127; have z127 := L.z127; have v127 := L.v127; have u127 := run_underlying L.t127
 have t3 := L.t3; have a3 := L.a3; have z3 := L.z3; have v3 := L.v3; have u3 := run_underlying L.t3
 have t9 := L.t9; have a9 := L.a9; have z9 := L.z9; have v9 := L.v9; have u9 := run_underlying L.t9
 have t5 := X.t5; have a5 := X.a5; have z5 := X.z5; have v5 := X.v5; have u5 := run_underlying X.t5
 clear hb hg hg' hcells hu hfit hcap hnb h0 hl0
 go_enter L.f169,Body.n169_ntmps ρ
 go_wp2
 go_region_o
 all_goals (go_wp2; go_ret; exact ⟨rfl,hfr⟩)
set_option maxRecDepth 100000 in
theorem builder_str_nil (L : Lays.n169 P ρ) (X : Builder.Extra P ρ) (b x : Nat) (w : World) (hb : w.cell? ⟨b,x + 1,none⟩ = some (.slice none 0 0)) :
  Calls P (ρ.f 169) #[.pointer (some ⟨b,x,none⟩)] w fun e w' => e = .returned (.string .empty) ∧ w'.heap = w.heap ∧ w'.os = w.os ∧ w'.output = w.output := by
 have hUS := Any.unsafeString_none L X
 have c1 : w.drew.cell? ⟨b,x + 1,none⟩ = some (.slice none 0 0) := hb
 have hSD : (Builtin.unsafeSliceData_ #[(ρ.t 37)] (ρ.t 127) #[.slice none 0 0]).run P w.drew = .ok (.pointer none) w.drew := rfl
 have mixed := L.mixed
 have t72 := L.t72; have a72 := L.a72; have z72 := L.z72; have v72 := L.v72; have u72 := run_underlying L.t72
 have t70 := L.t70; have a70 := L.a70; have z70 := L.z70; have v70 := L.v70; have u70 := run_underlying L.t70
 have t37 := L.t37; have a37 := L.a37; have z37 := L.z37; have v37 := L.v37; have u37 := run_underlying L.t37
 have t127 := L.t127; have a127 := L.a127; have z127 := L.z127; have v127 := L.v127; have u127 := run_underlying L.t127
 have t3 := L.t3; have a3 := L.a3; have z3 := L.z3; have v3 := L.v3; have u3 := run_underlying L.t3
 have t9 := L.t9; have a9 := L.a9; have z9 := L.z9; have v9 := L.v9; have u9 := run_underlying L.t9
 have t5 := X.t5; have a5 := X.a5; have z5 := X.z5; have v5 := X.v5; have u5 := run_underlying X.t5
 clear hb
 go_enter L.f169,Body.n169_ntmps ρ
 go_wp2
 go_region_o
 all_goals (go_wp2; go_ret; exact ⟨rfl,rfl,rfl,rfl⟩)
end Go.Proofs
/- slices.Sort as a contract: it holds of the library's function. -/
namespace Go.Den
variable {gl : Nat → Bool} {P : Program} {σ : Ren} {H H' : AH}
theorem HR.more {hp hp' : Array Obj} (h : HR gl P σ H hp) (hs : hp.size ≤ hp'.size) (he : ∀ b,b < hp.size → hp'[b]? = hp[b]?) : HR gl P σ H hp' where
 lt := h.lt
 fam := h.fam
 sig := fun k p hk => ⟨(h.sig k p hk).1,Nat.lt_of_lt_of_le (h.sig k p hk).2 hs⟩
 obj := fun k p hk => by
  have h1 := h.obj k p hk
  have hb := he p.b (h.sig k p hk).2
  unfold ObjOk CellsOk ExOk at h1 ⊢
  rw [hb]; exact h1
 typ := h.typ
 dis := h.dis
theorem Fr.more {hp hp' : Array Obj} (hs : hp.size ≤ hp'.size) (he : ∀ b,b < hp.size → hp'[b]? = hp[b]?) : Fr σ H hp σ H hp' :=
 ⟨.refl σ,Nat.le_refl _,fun _ _ => rfl,hs,fun b hb h => ⟨he b hb,h⟩,fun b l hl => ⟨l,by rw [he b (Array.getElem?_eq_some_iff.1 hl).1]; exact hl⟩⟩
theorem VL.ints {zs : List Int} {vs : List Value} {cs : List Value} (h : VL σ vs cs) (hi : intsV vs = some zs) : cs = zs.map (.int .i64) ∧ vs = zs.map (.int .i64) := by
 induction h generalizing zs with
 | nil => simp [intsV] at hi; subst hi; exact ⟨rfl,rfl⟩
 | cons h1 h2 ih =>
  rename_i v c vs cs
  simp only [intsV] at hi
  split at hi
  ·rename_i n l hl; cases hi
   obtain ⟨e1,e2⟩ := ih hl
   rw [e1,e2,h1.int_inv]; exact ⟨rfl,rfl⟩
  ·cases hi
open Go.Sort in
theorem putCells_list {ccs : Array Value} {zs : List Int} {off : Nat} (h : off + zs.length ≤ ccs.size) : (putCells (Value.int .i64) off zs.toArray ccs).toList = ccs.toList.take off ++ zs.map (.int .i64) ++ ccs.toList.drop (off + zs.length) := by
 apply List.ext_getElem?
 intro j
 simp only [putCells,Array.toList_mapIdx,List.getElem?_mapIdx]
 by_cases h1 : j < off
 ·rw [List.append_assoc,List.getElem?_append_left (by simp; omega),List.getElem?_take,if_pos h1]
  cases ccs.toList[j]? with
  | none => rfl
  | some v => simp; omega
 ·by_cases h2 : j < off + zs.length
  ·rw [List.getElem?_append_left (by simp; omega),List.getElem?_append_right (by simp; omega)]
   have h3 : (ccs.toList.take off).length = off := by simp; omega
   have h4 : j < ccs.toList.length := by simp; omega
   rw [h3,List.getElem?_eq_getElem h4]
   simp only [Option.map_some,List.size_toArray]
   rw [if_pos ⟨by omega,h2⟩,List.getElem?_map,List.getElem?_eq_getElem (by omega)]
   simp [getElem!_pos,show j - off < zs.length by omega]
  ·rw [List.getElem?_append_right (by simp; omega)]
   have h3 : (ccs.toList.take off ++ zs.map (Value.int .i64)).length = off + zs.length := by simp; omega
   rw [h3,List.getElem?_drop,show off + zs.length + (j - (off + zs.length)) = j by omega]
   cases ccs.toList[j]? with
   | none => rfl
   | some v => simp; omega
open Go.Sort in
theorem sort_eok {f : FuncId}
  (hcalls : ∀ (blk off cap : Nat) (zs : List Int) (w : World),Go.Sort.Holds (Value.int .i64) w blk off zs.toArray → blk < w.heap.size → zs.length < 4611686018427387904 → Calls P f #[.slice (some ⟨blk,off,none⟩) zs.length cap] w fun e w' => e = .returned (.tuple #[]) ∧ ∃ n os,w' = grow (putRow (Value.int .i64) (Go.Sort.ahead w n) blk off (zs.mergeSort fun x y => decide (x ≤ y)).toArray) os)
  (hnone : ∀ (p : Option Addr) (cap : Nat) (w : World),Calls P f #[.slice p 0 cap] w fun e w' => e = .returned (.tuple #[]) ∧ w' = w)
  {args : List Value} {out : Out} {w : World} {cargs : Array Value} (hx : xSort args H = some (out,H')) (hr : HR gl P σ H w.heap) (ha : VL σ args cargs.toList) : Calls P f cargs w (EndP gl P σ H w out H') := by
 unfold xSort at hx
 split at hx
 case h_2 => cases hx
 rename_i a n c
 obtain ⟨cv,hcv,hv⟩ : ∃ cv,cargs = #[cv] ∧ VR σ (.slice a n c) cv := by
  obtain ⟨cl⟩ := cargs
  cases ha with
  | cons h1 h2 => cases h2; exact ⟨_,rfl,h1⟩
 subst hcv
 by_cases hn : n = 0
 ·rw [if_pos hn] at hx
  cases hx
  obtain ⟨p,cap,rfl⟩ : ∃ p cap,cv = .slice p 0 cap := by
   subst hn
   cases a with
   | none => exact ⟨none,0,hv.sliceNil_inv.2.2⟩
   | some ad =>
    rcases hv.slice_inv with ⟨k,o,pl,x,capc,_,_,h8,_⟩ | ⟨_,_,_,a9,h8⟩
    ·exact ⟨_,_,h8⟩
    ·exact ⟨_,_,h8⟩
  refine (hnone p cap w).mono ?_
  rintro e w' ⟨rfl,rfl⟩
  exact ⟨_,σ,rfl,VR.undef σ,hr,.refl _ _ _⟩
 rw [if_neg hn] at hx
 split at hx
 ·cases hx
 rename_i hbig
 cases a with
 | none => cases hx
 | some ad =>
  simp only at hx
  rcases hv.slice_inv with ⟨k,o,pl,x,capc,rfl,hk,rfl,hd1,hd2,hle⟩ | ⟨h8,_⟩
  case inr => exact absurd h8 hn
  have hxo : x = pl.base + o := hd1.resolve_right (fun h => by rcases hd2 with h2 | h2 <;> omega)
  subst hxo
  simp only [srC,Option.isSome_none,Bool.false_and,cond_false,Option.isNone_none,Bool.true_and] at hx
  cases hrow : H.row k with
  | none => rw [hrow] at hx; cases hx
  | some cs =>
   rw [hrow] at hx
   simp only at hx
   cases hb : Nat.ble (o + n * 1) cs.length with
   | false => rw [hb] at hx; cases hx
   | true =>
    rw [hb] at hx
    simp only [cond_true] at hx
    rw [Nat.ble_eq,Nat.mul_one] at hb
    split at hx
    case h_2 => cases hx
    rename_i zs hz
    split at hx
    case h_2 => cases hx
    rename_i H2 hst
    cases hx
    obtain ⟨t,ro,ex,root,thr,tip,hg,hlive,⟨ccs,t2,lo,hi,hc,hat⟩,_⟩ := hr.row hk hrow
    have hfit := hat.fits
    have hvl : VL σ ((cs.drop o).take (n * 1)) ((ccs.toList.drop (pl.base + o)).take n) := by
     have := (hat.vals.drop o).take n
     simp only [List.drop_take,List.take_take,List.drop_drop] at this
     rw [Nat.min_eq_left (by omega)] at this
     rw [Nat.mul_one]; exact this
    obtain ⟨hcz,hvz⟩ := hvl.ints hz
    have hzn : zs.length = n := by
     have h1 := congrArg List.length hcz
     simp at h1; omega
    subst hzn
    have hsv : (vcl (.agg ((sortI zs).map (.int .i64)).toArray)) = (sortI zs).map (.int .i64) := by simp [vcl]
    generalize hS : (sortI zs).map (Value.int .i64) = sv at *
    have hsl : sv.length = zs.length := by rw [← hS]; simp
    have hw : H.write k (splice cs o sv) = some H' := by
     unfold storeV at hst
     simp only [hrow,hsv,cond_eq_ite] at hst
     split at hst
     ·exact hst
     ·cases hst
    have hro : ro = false := by
     have h1 := hw
     unfold AH.write at h1
     rw [hg] at h1
     cases ro with
     | true => cases h1
     | false => rfl
    have hsplen : (splice cs o sv).length = cs.length := by unfold splice; simp; omega
    have hpl := putCells_list (ccs := ccs) (zs := sortI zs) (off := pl.base + o) (by rw [sortI_len]; omega)
    rw [hS,sortI_len] at hpl
    have hpsz : (putCells (Value.int .i64) (pl.base + o) (sortI zs).toArray ccs).size = ccs.size := by simp [putCells]
    have hat' : CellsAt σ pl (splice cs o sv) false (putCells (Value.int .i64) (pl.base + o) (sortI zs).toArray ccs) lo hi := by
     refine ⟨by rw [hpsz]; exact hat.room,by rw [hpsz,hsplen]; exact hfit, ?_,fun _ h => by rw [hpsz]; exact hat.free hro h⟩
     have hB := hat.vals
     have e : ((putCells (Value.int .i64) (pl.base + o) (sortI zs).toArray ccs).toList.drop pl.base).take (splice cs o sv).length = ((ccs.toList.drop pl.base).take cs.length).take o ++ sv ++ ((ccs.toList.drop pl.base).take cs.length).drop (o + sv.length) := by
      rw [hpl,hsplen,hsl]
      generalize hA : ccs.toList = A
      have hAl : pl.base + cs.length ≤ A.length := by rw [← hA]; simpa using hfit
      have h1 : (A.take (pl.base + o)).length = pl.base + o := by simp; omega
      have e1 : (A.take (pl.base + o) ++ sv ++ A.drop (pl.base + o + zs.length)).drop pl.base = (A.drop pl.base).take o ++ sv ++ A.drop (pl.base + o + zs.length) := by
       rw [List.append_assoc,List.drop_append_of_le_length (by omega),List.append_assoc]
       congr 1
       rw [List.drop_take]
       congr 1; omega
      have h2 : ((A.drop pl.base).take o ++ sv).length = o + zs.length := by simp; omega
      rw [e1,List.take_append,h2,List.take_of_length_le (by omega)]
      congr 1
      ·rw [List.take_take,Nat.min_eq_left (by omega)]
      ·rw [List.drop_take,List.drop_drop]
       congr 2; omega
     rw [e]
     unfold splice
     refine ((hB.take o).append ?_).append (hB.drop (o + sv.length))
     rw [← hS]
     generalize sortI zs = l
     induction l with
     | nil => exact .nil
     | cons a l ih => exact .cons (.int _ _) ih
    obtain ⟨hA,hF⟩ := hr.write hk hrow hw hc hsplen hat'
    have hcb : pl.b < w.heap.size := (Array.getElem?_eq_some_iff.1 hc).1
    have hhold : Go.Sort.Holds (Value.int .i64) w pl.b (pl.base + o) zs.toArray := by
     intro j hj
     have hj : j < zs.length := by simpa using hj
     have hjc : pl.base + o + j < ccs.size := by omega
     refine ⟨?_, ?_⟩
     ·have h1 := congrArg (fun l => l[j]?) hcz
      simp only [List.getElem?_take,List.getElem?_drop,if_pos hj] at h1
      unfold World.cell?
      simp only [hc]
      have h2 : ccs[pl.base + o + j]? = ccs.toList[pl.base + o + j]? := by simp
      rw [h2,h1]
      simp [getElem!_pos,hj]
     ·unfold World.frozen?
      simp only [hc]
      have := hat.free hro
      by_cases h : lo < hi
      ·have := this h; simp; omega
      ·simp; omega
    refine (hcalls pl.b (pl.base + o) capc zs w hhold hcb (by omega)).mono ?_
    rintro e w' ⟨rfl,m,os,rfl⟩
    have hheap : (grow (putRow (Value.int .i64) (Go.Sort.ahead w m) pl.b (pl.base + o) (zs.mergeSort fun x y => decide (x ≤ y)).toArray) os).heap = (w.heap.setIfInBounds pl.b (.cells (putCells (Value.int .i64) (pl.base + o) (sortI zs).toArray ccs) t2 (lo,hi))) ++ os := by
     show (w.heap.modify pl.b (onCells (putCells (Value.int .i64) (pl.base + o) (sortI zs).toArray))) ++ os = _
     congr 1
     apply Array.ext_getElem?
     intro j
     rw [Array.getElem?_modify,Array.getElem?_setIfInBounds]
     by_cases e : pl.b = j
     ·subst e
      rw [if_pos rfl,if_pos rfl,if_pos hcb,hc]; rfl
     ·rw [if_neg e,if_neg e]
    have hmore : ∀ b,b < (w.heap.setIfInBounds pl.b (.cells (putCells (Value.int .i64) (pl.base + o) (sortI zs).toArray ccs) t2 (lo,hi))).size → ((w.heap.setIfInBounds pl.b (.cells (putCells (Value.int .i64) (pl.base + o) (sortI zs).toArray ccs) t2 (lo,hi))) ++ os)[b]? = (w.heap.setIfInBounds pl.b (.cells (putCells (Value.int .i64) (pl.base + o) (sortI zs).toArray ccs) t2 (lo,hi)))[b]? := fun b hb => Array.getElem?_append_left hb
    refine ⟨_,σ,rfl,VR.undef σ, ?_, ?_⟩
    ·rw [hheap]; exact hA.more (by simp) hmore
    ·refine ⟨?_,rfl,rfl⟩
     rw [hheap]; exact hF.trans (.more (by simp) hmore)
theorem xSort_K {args : List Value} {out : Out} (hx : xSort args H = some (out,H')) : KWs H H' := by
 unfold xSort at hx
 repeat' (split at hx)
 all_goals first | cases hx | skip
 ·exact .refl _
 ·rename_i hst; exact storeV_K hst
end Go.Den
/- slices.Compact as a contract. -/
namespace Go.Den
variable {gl : Nat → Bool} {P : Program} {σ : Ren} {H H' : AH}
theorem compact_len (zs : List Int) : (Lib.compact zs).length ≤ zs.length := by
 unfold Lib.compact Lib.compactUpTo
 rw [List.length_map]
 exact Nat.le_trans (List.length_filter_le _ _) (by simp)
theorem compI_len {zs : List Int} : (compI zs).length = zs.length := by
 have := compact_len zs
 unfold compI; simp; omega
open Go.Sort in
theorem comp_eok {f : FuncId}
  (hcalls : ∀ (blk off cap : Nat) (zs : List Int) (w : World),Go.Sort.Holds (Value.int .i64) w blk off zs.toArray → zs.length ≤ 9223372036854775807 → zs.length ≤ cap → Calls P f #[.slice (some ⟨blk,off,none⟩) zs.length cap] w fun e w' => e = .returned (.slice (some ⟨blk,off,none⟩) (Lib.compact zs).length cap) ∧ ∃ n,w' = putRow (Value.int .i64) (Go.Sort.ahead w n) blk off (compI zs).toArray)
  (hnone : ∀ (p : Option Addr) (cap : Nat) (w : World),Calls P f #[.slice p 0 cap] w fun e w' => e = .returned (.slice p 0 cap) ∧ w' = w)
  {args : List Value} {out : Out} {w : World} {cargs : Array Value} (hx : xComp args H = some (out,H')) (hr : HR gl P σ H w.heap) (ha : VL σ args cargs.toList) : Calls P f cargs w (EndP gl P σ H w out H') := by
 unfold xComp at hx
 split at hx
 case h_2 => cases hx
 rename_i a n c
 obtain ⟨cv,hcv,hv⟩ : ∃ cv,cargs = #[cv] ∧ VR σ (.slice a n c) cv := by
  obtain ⟨cl⟩ := cargs
  cases ha with
  | cons h1 h2 => cases h2; exact ⟨_,rfl,h1⟩
 subst hcv
 by_cases hn : n = 0
 ·rw [if_pos hn] at hx
  cases hx
  obtain ⟨p,cap,rfl⟩ : ∃ p cap,cv = .slice p 0 cap := by
   subst hn
   cases a with
   | none => exact ⟨none,0,hv.sliceNil_inv.2.2⟩
   | some ad =>
    rcases hv.slice_inv with ⟨k,o,pl,x,capc,_,_,h8,_⟩ | ⟨_,_,_,a9,h8⟩
    ·exact ⟨_,_,h8⟩
    ·exact ⟨_,_,h8⟩
  refine (hnone p cap w).mono ?_
  rintro e w' ⟨rfl,rfl⟩
  subst hn
  exact ⟨_,σ,rfl,hv,hr,.refl _ _ _⟩
 rw [if_neg hn] at hx
 split at hx
 ·cases hx
 rename_i hbig
 cases a with
 | none => cases hx
 | some ad =>
  simp only at hx
  rcases hv.slice_inv with ⟨k,o,pl,x,capc,rfl,hk,rfl,hd1,hd2,hle⟩ | ⟨h8,_⟩
  case inr => exact absurd h8 hn
  have hxo : x = pl.base + o := hd1.resolve_right (fun h => by rcases hd2 with h2 | h2 <;> omega)
  subst hxo
  simp only [srC,Option.isSome_none,Bool.false_and,cond_false,Option.isNone_none,Bool.true_and] at hx
  cases hrow : H.row k with
  | none => rw [hrow] at hx; cases hx
  | some cs =>
   rw [hrow] at hx
   simp only at hx
   cases hb : Nat.ble (o + n * 1) cs.length with
   | false => rw [hb] at hx; cases hx
   | true =>
    rw [hb] at hx
    simp only [cond_true] at hx
    rw [Nat.ble_eq,Nat.mul_one] at hb
    split at hx
    case h_2 => cases hx
    rename_i zs hz
    split at hx
    case h_2 => cases hx
    rename_i H2 hst
    cases hx
    obtain ⟨t,ro,ex,root,thr,tip,hg,hlive,⟨ccs,t2,lo,hi,hc,hat⟩,_⟩ := hr.row hk hrow
    have hfit := hat.fits
    have hvl : VL σ ((cs.drop o).take (n * 1)) ((ccs.toList.drop (pl.base + o)).take n) := by
     have := (hat.vals.drop o).take n
     simp only [List.drop_take,List.take_take,List.drop_drop] at this
     rw [Nat.min_eq_left (by omega)] at this
     rw [Nat.mul_one]; exact this
    obtain ⟨hcz,hvz⟩ := hvl.ints hz
    have hzn : zs.length = n := by
     have h1 := congrArg List.length hcz
     simp at h1; omega
    subst hzn
    have hsv : (vcl (.agg ((compI zs).map (.int .i64)).toArray)) = (compI zs).map (.int .i64) := by simp [vcl]
    generalize hS : (compI zs).map (Value.int .i64) = sv at *
    have hsl : sv.length = zs.length := by rw [← hS,List.length_map,compI_len]
    have hw : H.write k (splice cs o sv) = some H' := by
     unfold storeV at hst
     simp only [hrow,hsv,cond_eq_ite] at hst
     split at hst
     ·exact hst
     ·cases hst
    have hro : ro = false := by
     have h1 := hw
     unfold AH.write at h1
     rw [hg] at h1
     cases ro with
     | true => cases h1
     | false => rfl
    have hsplen : (splice cs o sv).length = cs.length := by unfold splice; simp; omega
    have hpl := putCells_list (ccs := ccs) (zs := compI zs) (off := pl.base + o) (by rw [compI_len]; omega)
    rw [hS,compI_len] at hpl
    have hpsz : (putCells (Value.int .i64) (pl.base + o) (compI zs).toArray ccs).size = ccs.size := by simp [putCells]
    have hat' : CellsAt σ pl (splice cs o sv) false (putCells (Value.int .i64) (pl.base + o) (compI zs).toArray ccs) lo hi := by
     refine ⟨by rw [hpsz]; exact hat.room,by rw [hpsz,hsplen]; exact hfit, ?_,fun _ h => by rw [hpsz]; exact hat.free hro h⟩
     have hB := hat.vals
     have e : ((putCells (Value.int .i64) (pl.base + o) (compI zs).toArray ccs).toList.drop pl.base).take (splice cs o sv).length = ((ccs.toList.drop pl.base).take cs.length).take o ++ sv ++ ((ccs.toList.drop pl.base).take cs.length).drop (o + sv.length) := by
      rw [hpl,hsplen,hsl]
      generalize hA : ccs.toList = A
      have hAl : pl.base + cs.length ≤ A.length := by rw [← hA]; simpa using hfit
      have h1 : (A.take (pl.base + o)).length = pl.base + o := by simp; omega
      have e1 : (A.take (pl.base + o) ++ sv ++ A.drop (pl.base + o + zs.length)).drop pl.base = (A.drop pl.base).take o ++ sv ++ A.drop (pl.base + o + zs.length) := by
       rw [List.append_assoc,List.drop_append_of_le_length (by omega),List.append_assoc]
       congr 1
       rw [List.drop_take]
       congr 1; omega
      have h2 : ((A.drop pl.base).take o ++ sv).length = o + zs.length := by simp; omega
      rw [e1,List.take_append,h2,List.take_of_length_le (by omega)]
      congr 1
      ·rw [List.take_take,Nat.min_eq_left (by omega)]
      ·rw [List.drop_take,List.drop_drop]
       congr 2; omega
     rw [e]
     unfold splice
     refine ((hB.take o).append ?_).append (hB.drop (o + sv.length))
     rw [← hS]
     generalize compI zs = l
     induction l with
     | nil => exact .nil
     | cons a l ih => exact .cons (.int _ _) ih
    obtain ⟨hA,hF⟩ := hr.write hk hrow hw hc hsplen hat'
    have hcb : pl.b < w.heap.size := (Array.getElem?_eq_some_iff.1 hc).1
    have hhold : Go.Sort.Holds (Value.int .i64) w pl.b (pl.base + o) zs.toArray := by
     intro j hj
     have hj : j < zs.length := by simpa using hj
     have hjc : pl.base + o + j < ccs.size := by omega
     refine ⟨?_, ?_⟩
     ·have h1 := congrArg (fun l => l[j]?) hcz
      simp only [List.getElem?_take,List.getElem?_drop,if_pos hj] at h1
      unfold World.cell?
      simp only [hc]
      have h2 : ccs[pl.base + o + j]? = ccs.toList[pl.base + o + j]? := by simp
      rw [h2,h1]
      simp [getElem!_pos,hj]
     ·unfold World.frozen?
      simp only [hc]
      have := hat.free hro
      by_cases h : lo < hi
      ·have := this h; simp; omega
      ·simp; omega
    refine (hcalls pl.b (pl.base + o) capc zs w hhold (by omega) (by rcases hd2 with h | h <;> omega)).mono ?_
    rintro e w' ⟨rfl,m,rfl⟩
    have hheap : (putRow (Value.int .i64) (Go.Sort.ahead w m) pl.b (pl.base + o) (compI zs).toArray).heap = (w.heap.setIfInBounds pl.b (.cells (putCells (Value.int .i64) (pl.base + o) (compI zs).toArray ccs) t2 (lo,hi))) := by
     show (w.heap.modify pl.b (onCells (putCells (Value.int .i64) (pl.base + o) (compI zs).toArray))) = _
     apply Array.ext_getElem?
     intro j
     rw [Array.getElem?_modify,Array.getElem?_setIfInBounds]
     by_cases e : pl.b = j
     ·subst e
      rw [if_pos rfl,if_pos rfl,if_pos hcb,hc]; rfl
     ·rw [if_neg e,if_neg e]
    have hcl := compact_len zs
    refine ⟨_,σ,rfl,.slice hk (.inl rfl) hd2 (by omega), ?_, ?_⟩
    ·rw [hheap]; exact hA
    ·refine ⟨?_,rfl,rfl⟩
     rw [hheap]; exact hF
theorem xComp_K {args : List Value} {out : Out} (hx : xComp args H = some (out,H')) : KWs H H' := by
 unfold xComp at hx
 repeat' (split at hx)
 all_goals first | cases hx | skip
 ·exact .refl _
 ·rename_i hst; exact storeV_K hst
end Go.Den
/- Cls, part C: functions by contracts: the example, which is settled by running it, and the library's. -/
namespace Go.Den
variable {N : Nat} {P : Program} {gl : Nat → Bool}
theorem HR.still {σ : Ren} {H : AH} {hp hp' : Array Obj} (h : HR gl P σ H hp) (hs : hp.size ≤ hp'.size) (hb : ∀ b,b < hp.size → hp'[b]? = hp[b]?) : HR gl P σ H hp' := by
 refine ⟨h.lt,h.fam,fun k p hk => ⟨(h.sig k p hk).1,Nat.lt_of_lt_of_le (h.sig k p hk).2 hs⟩,fun k p hk => ?_,h.typ,h.dis⟩
 have h1 := h.obj k p hk
 have h2 := hb p.b (h.sig k p hk).2
 unfold ObjOk at *
 cases hg : H.get k with
 | none => trivial
 | some o =>
  rw [hg] at h1
  cases o with
  | cells cs t ro ex root thr tip =>
   intro ha
   obtain ⟨⟨ccs,t',lo,hi,h3,h4⟩,h5⟩ := h1 ha
   exact ⟨⟨ccs,t',lo,hi,h2.trans h3,h4⟩,h5.1,h5.2.1,fun a => (h5.2.2 a).mono h2⟩
  | map es c => obtain ⟨ces,h3,h4⟩ := h1; exact ⟨ces,h2.trans h3,h4⟩
  | iter s pos => exact ⟨h1.1,h2.trans h1.2⟩
  | loop e ps as1 bd st pend => obtain ⟨r,h3,h4⟩ := h1; exact ⟨r,h2.trans h3,h4⟩
  | gone => trivial
theorem FrW.of_still {σ : Ren} {H : AH} {W w' : World} (h : Still W w') : FrW σ H W σ H w' :=
 ⟨⟨.refl σ,Nat.le_refl _,fun _ _ => rfl,h.size,fun b hb hp => ⟨h.blk b hb,hp⟩,fun b l hl => ⟨l,(h.blk b (lt_of_some hl)).trans hl⟩⟩,h.os,h.out⟩
def glN : Nat := 2
theorem glZ_lt {k : Nat} {z : Zr} (h : glZ k = some z) : k < glN := by
 rcases glZ_cases h with ⟨rfl,_⟩ | ⟨rfl,_⟩ <;> decide
theorem glZ_atom {k : Nat} {z : Zr} (h : glZ k = some z) : z.cs.all atom = true := by
 rcases glZ_cases h with ⟨_,rfl⟩ | ⟨_,rfl⟩
 ·show bruCells.all atom = true
  kernel_rfl
 ·show spaceCells.all atom = true
  kernel_rfl
theorem glOk_mem {hp : Array Obj} (h : ∀ k z,glZ k = some z → ∃ ccs ct fr,hp[k]? = some (.cells ccs ct fr) ∧ z.cs.length ≤ ccs.size ∧ ccs.toList.take z.cs.length = z.cs) : GlOk hp glN :=
 fun k z hz => ⟨glZ_lt hz,(glZ_self hz).1,(glZ_self hz).2,glZ_atom hz,h k z hz⟩
theorem VL.atoms_eq {σ : Ren} {xs ys : List Value} (h : xs.all atom = true) (hv : VL σ xs ys) : ys = xs := by
 induction hv with
 | nil => rfl
 | cons h1 _ ih =>
  simp only [List.all_cons,Bool.and_eq_true] at h
  rw [h1.atom_eq h.1,ih h.2]
def saysTrue : Option (Out × AH) → Bool
 | some (.ret (.bool true),_) => true
 | _ => false
theorem saysTrue_some {x : Option (Out × AH)} (h : saysTrue x = true) : ∃ H',x = some (.ret (.bool true),H') := by
 unfold saysTrue at h
 split at h
 ·exact ⟨_,rfl⟩
 ·cases h
def XO : Ext := fun _ => none
theorem awake_calls {FA : FuncId → Option IFunc} (hm : P.follows .mixedOrders = true) (hF : FOk gl P FA) (hgl : ∀ g, gl g = true → (glZ g).isSome = true) {f : FuncId} {Fn : Func} (hf : P.funcs[f]? = some Fn) (hn : (Fn.name == "runtime.NumGoroutine") = false) (hb : Fn.body.isNone = false) {n : Nat}
  (hrun : saysTrue (den FA XO XO n (.func (.func f) #[] #[]) [] (heapW N [])) = true) {W : World} (hg : GlOk W.heap N) :
  Calls P f #[] W fun e w' => e = .returned (.bool true) ∧ Still W w' := by
 obtain ⟨H',hd⟩ := saysTrue_some hrun
 have hHR := HR.heapW (gl := gl) (P := P) (ws := []) hg (fun w hw => by simp at hw) List.Pairwise.nil
 refine (calls_of_inv (den_sound hm hF (fun f g h => by cases h) (fun f g h => by cases h) (fun f g h => by cases h) (fun f g h => by cases h) n) hf hn hb hd hHR (GlR.heapW hg hgl) (args := #[]) .nil).mono fun e w' he => ?_
 cases e with
 | returned c =>
  obtain ⟨d',σ',h1,h2,_,h4⟩ := he
  cases h1
  cases h2
  exact ⟨rfl,h4.still Prot.heapW⟩
 | panicked chain => obtain ⟨_,_,_,h1,_⟩ := he; cases h1
 | outgrown => exact he.elim
theorem awake_eok (hglS : ∀ k z,glZ k = some z → gl k = true) {f : FuncId}
  (h : ∀ {W : World},GlOk W.heap glN → Calls P f #[] W fun e w' => e = .returned (.bool true) ∧ Still W w')
  {args : List Value} {H H' : AH} {out : Out} {σ : Ren} {w : World} {cargs : Array Value} (hx : xAwake args H = some (out,H')) (hr : HR gl P σ H w.heap) (hgl : GlR gl σ) (ha : VL σ args cargs.toList) : Calls P f cargs w (EndP gl P σ H w out H') := by
 unfold xAwake at hx
 split at hx
 case h_2 => cases hx
 split at hx
 case isFalse => cases hx
 rename_i hs
 cases hx
 have hca : cargs = #[] := by
  have := ha.nil_left
  simpa using this
 subst hca
 have hG : GlOk w.heap glN := glOk_mem fun k z hz => by
  obtain ⟨p,hp1,hp2,hp3⟩ := hgl _ (hglS k z hz)
  obtain ⟨ro,thr,tip,hs1,hs2⟩ := hs k z hz
  have hob := hr.obj _ _ hp1
  unfold ObjOk at hob
  rw [hs1] at hob
  obtain ⟨⟨ccs,ct,lo,hi,h3,h4⟩,_⟩ := hob (AH.alive_iff.2 ⟨_,_,_,_,_,_,_,hs1,hs2⟩)
  rw [hp2] at h3
  have hv := h4.vals
  rw [hp3,List.drop_zero] at hv
  have hfit := h4.fits
  rw [hp3] at hfit
  exact ⟨_,_,_,h3,by omega,hv.atoms_eq (glZ_atom hz)⟩
 refine (h hG).mono fun e w' he => ?_
 obtain ⟨rfl,hst⟩ := he
 exact ⟨_,σ,rfl,.bool true,hr.still hst.size hst.blk,.of_still hst⟩
def HasCode (P : Program) (f : FuncId) : Prop := ∃ Fn, P.funcs[f]? = some Fn ∧ (Fn.name == "runtime.NumGoroutine") = false ∧ Fn.body.isNone = false
def ExtFor (gl : Nat → Bool) (P : Program) (f : FuncId) (g : List Value → AH → Option (Out × AH)) : Prop := HasCode P f ∧
 ∀ (args : List Value) (H : AH) (out : Out) (H' : AH) (σ : Ren) (w : World) (cargs : Array Value),g args H = some (out,H') → HR gl P σ H w.heap → GlR gl σ → VL σ args cargs.toList → Calls P f cargs w (EndP gl P σ H w out H')
theorem eok_all (h14 : ExtFor gl P 14 xAwake) (h82 : ExtFor gl P 82 xSort) (h83 : ExtFor gl P 83 xComp) (h138 : ExtFor gl P 138 (xCheck 141)) (h77 : ExtFor gl P 77 (xStr 5)) : EOk gl P XA := by
 intro f g hfg
 unfold XA at hfg
 split at hfg
 ·rename_i hf; subst hf; cases hfg; exact h14
 split at hfg
 ·rename_i hf; subst hf; cases hfg; exact h82
 split at hfg
 ·rename_i hf; subst hf; cases hfg; exact h83
 split at hfg
 ·rename_i hf; subst hf; cases hfg; exact h138
 split at hfg
 ·rename_i hf; subst hf; cases hfg; exact h77
 ·cases hfg
theorem extK_all : ExtK XA := by
 intro f g hfg args H out H' hx
 unfold XA at hfg
 split at hfg
 ·cases hfg
  unfold xAwake at hx
  split at hx
  case h_2 => cases hx
  split at hx
  case isFalse => cases hx
  cases hx
  exact .refl _
 split at hfg
 ·cases hfg; exact xSort_K hx
 split at hfg
 ·cases hfg; exact xComp_K hx
 split at hfg
 ·cases hfg; exact xCheck_K hx
 split at hfg
 ·cases hfg; exact xStr_K hx
 ·cases hfg
end Go.Den
/- The seat's example, run. -/
namespace Go.Den
open IrD Go.Proofs
theorem awake_run : saysTrue (den FA XO XO 300 (.func (.func 14) #[] #[]) [] (heapW glN [])) = true := by kernel_rfl
theorem hc14 : HasCode Tryz.prog 14 := ⟨_,Tryz.func14,c14.c,by kernel_rfl⟩
theorem hc82 : HasCode Tryz.prog 82 := ⟨_,Tryz.func82,by kernel_rfl,by kernel_rfl⟩
theorem hc83 : HasCode Tryz.prog 83 := ⟨_,Tryz.func83,by kernel_rfl,by kernel_rfl⟩
theorem hc138 : HasCode Tryz.prog 138 := ⟨_,Tryz.func138,by kernel_rfl,by kernel_rfl⟩
theorem hc77 : HasCode Tryz.prog 77 := ⟨_,Tryz.func77,by kernel_rfl,by kernel_rfl⟩
theorem eok : EOk glS Tryz.prog XA := eok_all
 ⟨hc14,fun _ _ _ _ _ _ _ hx hr hgl ha => awake_eok glS_of (fun hg => awake_calls (N := glN) (FA := FA) (n := 300) follows ok_FA glS_z Tryz.func14 c14.c (by kernel_rfl) awake_run hg) hx hr hgl ha⟩
 ⟨hc82,fun _ _ _ _ _ _ _ hx hr _ ha => sort_eok Tryz.slices_Sort_int Tryz.slices_Sort_int_none hx hr ha⟩
 ⟨hc83,fun _ _ _ _ _ _ _ hx hr _ ha => comp_eok Tryz.slices_Compact_int Tryz.slices_Compact_int_empty hx hr ha⟩
 ⟨hc138,fun _ _ _ _ _ _ _ hx hr _ ha => check_eok Tryz.check_used Tryz.check_fresh hx hr ha⟩
 ⟨hc77,fun _ _ _ _ _ _ _ hx hr _ ha => str_eok (builder_str_nil Tryz.lays169 Tryz.Builder_Extra_169) (builder_str Tryz.lays169 Tryz.Builder_Extra_169) hx hr ha⟩
theorem xok : XOk glS Tryz.prog XN := by
 intro f g hf args H out H' σ w cargs hg hr hgl ha
 unfold XN at hf
 split at hf
 case isFalse => cases hf
 rename_i hf1
 subst hf1
 cases hf
 unfold xCount at hg
 split at hg
 case h_2 => cases hg
 rename_i s c
 cases hg
 obtain ⟨x,y,hc,h1,h2⟩ : ∃ x y,cargs.toList = [x,y] ∧ VR σ (.string s) x ∧ VR σ (.int .u8 c) y := by
  generalize cargs.toList = l at ha
  cases ha with
  | cons h1 ht => cases ht with
   | cons h2 ht => cases ht; exact ⟨_,_,rfl,h1,h2⟩
 have hx : x = .string s := by cases h1; rfl
 have hy : y = .int .u8 c := by cases h2; rfl
 subst hx hy
 have hca : cargs = #[.string s,.int .u8 c] := by rw [← Array.toList_inj,hc]
 subst hca
 refine ⟨.int .i64 (Lib.countByte s.data.toList c.toNat.toUInt8),w, ?_, ?_⟩
 ·rw [run_callFunc_extern Tryz.func367 (by kernel_rfl) (by kernel_rfl) (by kernel_rfl) (e := Extern.BytealgCount.count) (by kernel_rfl),Lib.run_countString]
  rfl
 ·exact ⟨_,σ,rfl,.int ..,hr,.refl ..⟩
theorem extK_n : ExtK XN := by
 intro f g hf args H out H' hg
 unfold XN at hf
 split at hf
 case isFalse => cases hf
 cases hf
 unfold xCount at hg
 split at hg
 case h_2 => cases hg
 cases hg
 exact .refl _
#print axioms eok
end Go.Den
/- Cls, part E: a law's row, out of a call that is still. -/
namespace Go.Den
open Go.ChangeShapes Go.WideShapes Go.RowKit
variable {P : Program} {H : Type} {enc : TypeId × Value → H}
theorem Still.same {W w' : World} (h : Still W w') {p : MemPlace} (hp : p.block < W.heap.size) : W.sameAt w' p := by
 cases p with
 | cell b off =>
  show w'.cell? ⟨b,off,none⟩ = W.cell? ⟨b,off,none⟩
  unfold World.cell?
  rw [h.blk b hp]
 | map b => exact h.blk b hp
theorem trodAll_still (hl : laidOutB P = true) {W W' : World} (hs : Still W W') : ∀ {ts : List TypeId} {vs : List Value} {ds : List (DataW H)} {ps : List MemPlace},(∀ t ∈ ts,P.readableRec t = true ∧ t < P.types.size) →
  DataW.TrodAll enc P W 0 (fun _ => true) true ts vs ds ps → (∀ p ∈ ps,p.block < W.heap.size) → DataW.TrodAll enc P W' 0 (fun b => decide (b < W.heap.size)) true ts vs ds ps
 | [],[],[],_,_,h,_ => h
 | t :: ts,v :: vs,d :: ds,_,ht,⟨p,q,h1,h2,e⟩,hp => by
  subst e
  exact ⟨p,q,WideElems.Trod_stays hl (ht t (by simp)).1 (ht t (by simp)).2 h1 (fun x hx => hs.same (hp x (List.mem_append_left _ hx))) (fun x hx => by simpa using hp x (List.mem_append_left _ hx)),
   trodAll_still hl hs (fun t' ht' => ht t' (List.mem_cons_of_mem _ ht')) h2 (fun x hx => hp x (List.mem_append_right _ hx)),rfl⟩
theorem Still.kept {W W' : World} (hs : Still W W') (may : MemPlace → Prop) : W.keptBut W' may := by
 refine ⟨hs.os,hs.out,fun i hi => ?_⟩
 rw [hs.blk i hi]
 cases hw : W.heap[i]? with
 | none => rfl
 | some o =>
  cases o with
  | cells c t fr => exact ⟨rfl,rfl,rfl,fun _ _ => rfl⟩
  | map es clock => exact .inr ⟨rfl,rfl⟩
  | _ => rfl
theorem trodAll_len {W : World} {b : Nat} {sp : Nat → Bool} {held : Bool} : ∀ {ts : List TypeId} {vs : List Value} {ds : List (DataW H)} {ps : List MemPlace},DataW.TrodAll enc P W b sp held ts vs ds ps → ds.length = ts.length
 | [],[],[],_,_ => rfl
 | _ :: _,_ :: _,_ :: _,_,⟨_,_,_,h2,_⟩ => by simp [trodAll_len h2]
theorem post_law {f : Func} {s : ChangeSpec} {apart fresh : Bool} {tb : TypeId} (hvars : s.vars = []) (hres : f.resultTypes = #[tb]) (htb : P.underlying tb = some .bool) (hl : laidOutB P = true) (hrd : ∀ t ∈ f.params.toList,P.readableRec t = true ∧ t < P.types.size)
  (hfn : ∀ ds : List (DataW H),ds.length = f.params.size → s.fn H ds = { results := [.lit (.bool true)],args := ds }) {W W' : World} {args : Array Value} {ds gs : List (DataW H)} {before : List MemPlace}
  (hW : DataW.Whole enc P f.params.toList s.vars apart W args.toList ds gs before) (hst : Still W W') : s.post enc P f apart fresh false false W args (.bool true) W' := by
 have hlt := hW.lt
 have hW' := hW
 obtain ⟨p,q,hA,hV,rfl,_,_⟩ := hW
 rw [hvars] at hV
 obtain ⟨rfl,rfl⟩ := trodVars_none hV
 have hdl : ds.length = f.params.size := by have := trodAll_len hA; simpa using this
 have e1 : s.fn H (ds ++ []) = { results := [.lit (.bool true)],args := ds } := by rw [List.append_nil]; exact hfn ds hdl
 refine ⟨ds,[],p ++ [],[],p,[],hW', ?_, ?_, ?_,hst.kept _,fun h => by cases h⟩
 ·rw [e1,hres]
  exact trodAll_mk1 (shut_bool htb true)
 ·rw [e1]
  exact trodAll_still hl hst hrd hA fun x hx => hlt x (List.mem_append_left _ hx)
 ·rw [e1,hvars]; rfl
theorem map_of {α : Type} {g : α → List PV} : ∀ {pss : List (List PV)},(∀ i (h : i < pss.length),∃ x,pss[i] = g x) → ∃ xs : List α,pss = xs.map g
 | [],_ => ⟨[],rfl⟩
 | ps :: pss,h => by
  obtain ⟨x,hx⟩ := h 0 (by simp)
  obtain ⟨xs,hxs⟩ := map_of (pss := pss) (g := g) fun i hi => h (i + 1) (Nat.succ_lt_succ hi)
  exact ⟨x :: xs,by rw [List.map_cons,← hxs]; exact congrArg (· :: pss) hx⟩
theorem Shp.int_inv {t : TypeId} {k : IntKind} {pvs : List PV} (ht : P.underlying t = some (.int k)) (h : Shp P t pvs) : ∃ n : Int,pvs = [.v (.int k n)] ∧ (Lit.int k n).wf = true := by
 cases h with
 | int h1 h2 => rw [ht] at h1; cases h1; exact ⟨_,rfl,h2⟩
 | bool h1 => rw [ht] at h1; cases h1
 | string h1 => rw [ht] at h1; cases h1
 | slice h1 => rw [ht] at h1; cases h1
 | struct h1 => rw [ht] at h1; cases h1
theorem Shp.string_inv {t : TypeId} {pvs : List PV} (ht : P.underlying t = some .string) (h : Shp P t pvs) : ∃ s : ByteArray,pvs = [.v (.string s)] ∧ s.size ≤ reachBytes := by
 cases h with
 | int h1 => rw [ht] at h1; cases h1
 | bool h1 => rw [ht] at h1; cases h1
 | string h1 h2 => exact ⟨_,rfl,h2⟩
 | slice h1 => rw [ht] at h1; cases h1
 | struct h1 => rw [ht] at h1; cases h1
theorem Shp.slice_inv {t e : TypeId} {pvs : List PV} (ht : P.underlying t = some (.slice e)) (h : Shp P t pvs) : ∃ pss : List (List PV),pvs = [.fz e pss.length pss.flatten] ∧ pss.length ≤ reachBytes ∧ ∀ i (h : i < pss.length),Shp P e pss[i] := by
 cases h with
 | int h1 => rw [ht] at h1; cases h1
 | bool h1 => rw [ht] at h1; cases h1
 | string h1 => rw [ht] at h1; cases h1
 | slice h1 h2 h3 => rw [ht] at h1; cases h1; exact ⟨_,rfl,h2,h3⟩
 | struct h1 => rw [ht] at h1; cases h1
theorem Shp.struct_inv {t : TypeId} {fs : Array Field} {pvs : List PV} (ht : P.underlying t = some (.struct fs)) (h : Shp P t pvs) : ∃ pss : List (List PV),pvs = pss.flatten ∧ pss.length = fs.size ∧ ∀ i (h : i < pss.length) (h' : i < fs.size),Shp P fs[i].type pss[i] := by
 cases h with
 | int h1 => rw [ht] at h1; cases h1
 | bool h1 => rw [ht] at h1; cases h1
 | string h1 => rw [ht] at h1; cases h1
 | slice h1 => rw [ht] at h1; cases h1
 | struct h1 h2 h3 => rw [ht] at h1; cases h1; exact ⟨_,rfl,h2,h3⟩
theorem flatten_single {α : Type} (f : α → PV) (l : List α) : (l.map fun x => [f x]).flatten = l.map f := by
 induction l with
 | nil => rfl
 | cons a l ih => simp [ih]
def litOf : Value → DataW Unit
 | .int k n => .lit (.int k n)
 | _ => .nil
def numOf : Value → Int
 | .int _ n => n
 | _ => 0
theorem tabWorld {W : World} {laid : List (String × DataW Unit)} {name : String} {cells : List Value} {g0 n : Nat} (hm : laidMet P laid W) (hmem : (name,DataW.agg (cells.map litOf)) ∈ laid) (hg : P.globalNamed name = some g0) {t e : TypeId} (hgt : (P.globals[g0]?).map (·.type) = some t)
  (ht : P.underlying t = some (.array n e)) (he : P.underlying e = some (.int .u8)) (hce : P.cellsOf e = 1) (hct : P.cellsOf t = n) (hz : (DataW.agg (cells.map litOf) : DataW Unit) = Lib.tabData .u8 (cells.map numOf)) (hz2 : ((cells.map numOf).map fun z => Value.int .u8 z) = cells) :
  ∃ ct fr,W.heap[g0]? = some (.cells cells.toArray ct fr) := by
 obtain ⟨g,t',cs,fuel,p,h1,h2,h3,h4⟩ := Lib.laidMet.reads hm hmem
 rw [hg] at h1; cases h1
 rw [hgt] at h2; cases h2
 rw [hz] at h4
 have hcs := Lib.cells_of_tab ht he hce hct h4
 rw [hz2] at hcs
 unfold World.var? at h3
 rw [hg] at h3
 simp only [Option.bind_some] at h3
 split at h3
 ·rename_i c t fr hb
  cases h3
  exact ⟨t,fr,by rw [hb,← hcs]⟩
 ·cases h3
structure LaidAt (hp : Array Obj) : Prop where
 bru : ∃ ct fr,hp[glBru]? = some (.cells bruCells.toArray ct fr)
 space : ∃ ct fr,hp[glSpace]? = some (.cells spaceCells.toArray ct fr)
theorem LaidAt.at_ {hp : Array Obj} (h : LaidAt hp) {k : Nat} {z : Zr} (hz : glZ k = some z) : ∃ ct fr,hp[k]? = some (.cells z.cs.toArray ct fr) := by
 rcases glZ_cases hz with ⟨rfl,rfl⟩ | ⟨rfl,rfl⟩
 ·exact h.bru
 ·exact h.space
theorem GlOk.laid {hp : Array Obj} (h : LaidAt hp) : GlOk hp glN := glOk_mem fun k z hz => by
 obtain ⟨ct,fr,h1⟩ := h.at_ hz
 exact ⟨_,_,_,h1,by simp,by simp⟩
theorem glBytes {k : Nat} {z : Zr} (h : glZ k = some z) : z.cs.all kindU8 = true := by
 rcases glZ_cases h with ⟨_,rfl⟩ | ⟨_,rfl⟩
 ·show bruCells.all kindU8 = true
  kernel_rfl
 ·show spaceCells.all kindU8 = true
  kernel_rfl
theorem BytesAt.laid {hp : Array Obj} (h : LaidAt hp) : BytesAt hp := by
 intro b hb ccs ct' fr' hc c hm
 obtain ⟨z,hz⟩ := Option.isSome_iff_exists.1 hb
 obtain ⟨ct,fr,h1⟩ := h.at_ hz
 rw [h1] at hc
 cases hc
 exact List.all_eq_true.1 (glBytes hz) c hm
end Go.Den
/- The seat: what its rows have in common. -/
namespace Go.Proofs.YtabglcbliapijaaGreatDoor
open Go Go.Den Go.ChangeShapes Go.WideShapes Go.RowKit
theorem own : ownKnob Tryz.prog.godebug = none := by kernel_rfl
theorem laidOut : laidOutB Tryz.prog = true := by kernel_rfl
theorem gSpace : Tryz.prog.globalNamed "strings.asciiSpace" = some glSpace := by kernel_rfl
theorem gSpaceT : (Tryz.prog.globals[glSpace]?).map (·.type) = some 343 := by kernel_rfl
theorem gBru : Tryz.prog.globalNamed "math/bits.deBruijn64tab" = some glBru := by kernel_rfl
theorem gBruT : (Tryz.prog.globals[glBru]?).map (·.type) = some 336 := by kernel_rfl
theorem u145 : Tryz.prog.underlying 343 = some (.array 256 5) := by kernel_rfl
theorem u126 : Tryz.prog.underlying 336 = some (.array 64 5) := by kernel_rfl
theorem u5 : Tryz.prog.underlying 5 = some (.int .u8) := by kernel_rfl
theorem c5 : Tryz.prog.cellsOf 5 = 1 := by kernel_rfl
theorem c145 : Tryz.prog.cellsOf 343 = 256 := by kernel_rfl
theorem c126 : Tryz.prog.cellsOf 336 = 64 := by kernel_rfl
theorem spaceLaid : (Rows.laid_strings_asciiSpace : DataW Unit) = .agg (spaceCells.map litOf) := by kernel_rfl
theorem bruLaid : (Rows.laid_math_bits_deBruijn64tab : DataW Unit) = .agg (bruCells.map litOf) := by kernel_rfl
def laid : List (String × DataW Unit) := [("math/bits.deBruijn32tab", Rows.laid_math_bits_deBruijn32tab), ("math/bits.deBruijn64tab", Rows.laid_math_bits_deBruijn64tab), ("internal/strconv.uint64pow10", Rows.laid_internal_strconv_uint64pow10), ("unicode.White_Space", Rows.laid_unicode_White_Space), ("strings.asciiSpace", Rows.laid_strings_asciiSpace)]
theorem laid_at {W : World} (h : laidMetH Tryz.prog laid W) : LaidAt W.heap := by
 have h' : laidMet Tryz.prog laid W := h
 exact ⟨tabWorld h' (by rw [← bruLaid]; simp [laid]) gBru gBruT u126 u5 c5 c126 (by kernel_rfl) (by kernel_rfl),
  tabWorld h' (by rw [← spaceLaid]; simp [laid]) gSpace gSpaceT u145 u5 c5 c145 (by kernel_rfl) (by kernel_rfl)⟩
def bru32Tab : List Int := [0,1,28,2,29,14,24,3,30,22,20,15,25,17,4,8,31,27,13,23,21,19,16,7,26,12,18,6,11,5,10,9]
def pow10Tab : List Int := (List.range 20).map fun k => ((10 ^ k : Nat) : Int)
noncomputable def laidWorld (os : Os) : World :=
 let N := (World.settled Tryz.prog os).heap.size
 let w0 := World.holding Tryz.prog os ⟨#[.cells ([9,13,1,32,133,101,160,5760,5600,8192,8202,1,8232,8233,1,8239,8287,48,12288,12288,1].map fun z => Value.int .u16 z).toArray 436,.cells #[.slice (some ⟨N,0,none⟩) 7 7,.slice none 0 0,.int .i64 2] 433],#[],[]⟩
 let put (h : Array Obj) (g : Nat) (cs : Array Value) : Array Obj := h.modify g fun
  | .cells _ t frozen => .cells cs t frozen
  | o => o
 { w0 with heap := put (put (put (put (put w0.heap glBru bruCells.toArray) glSpace spaceCells.toArray) 2 (pow10Tab.map fun n => Value.int .u64 n).toArray) 5 (bru32Tab.map fun n => Value.int .u8 n).toArray) 3 #[.pointer (some ⟨N + 1,0,none⟩)] }
theorem laidWorld_met (os : Os) (args : Array Value) : laidMet Tryz.prog laid ((laidWorld os).forCall (fun _ _ => 0) ⟨#[],args,[]⟩).memory :=
 laidMet_of_run' 10 (by kernel_rfl) (by kernel_rfl)
end Go.Proofs.YtabglcbliapijaaGreatDoor
/- The seat: flow code as an argument. -/
namespace Go.Proofs.YtabglcbliapijaaGreatDoor
open Go Go.Den Go.ChangeShapes Go.WideShapes Go.RowKit
theorem u3 : Tryz.prog.underlying 3 = some (.int .i64) := by kernel_rfl
theorem u4 : Tryz.prog.underlying 4 = some .bool := by kernel_rfl
theorem u9 : Tryz.prog.underlying 9 = some .string := by kernel_rfl
theorem u24 : Tryz.prog.underlying 41 = some (.slice 3) := by kernel_rfl
theorem u51 : Tryz.prog.underlying 22 = some (.slice 61) := by kernel_rfl
theorem u63 : Tryz.prog.underlying 59 = some (.slice 65) := by kernel_rfl
def fld (n : String) (t o b : Nat) : Field := { name := n, type := t, offset := o, embedded := false, tag := "", pkgPath := "", byteOffset := b }
def codeFields : Array Field := #[fld "Globals" 3 0 0, fld "Bodies" 22 1 8]
def bodyFields : Array Field := #[fld "Name" 9 0 0, fld "Registers" 3 1 16, fld "Arguments" 3 2 24, fld "Code" 59 3 32]
def insFields : Array Field := #[fld "Op" 3 0 0, fld "A" 3 1 8, fld "B" 3 2 16, fld "C" 3 3 24, fld "D" 3 4 32, fld "Text" 9 5 40, fld "List" 41 6 56]
theorem u53 : Tryz.prog.underlying 24 = some (.struct codeFields) := by kernel_rfl
theorem u65 : Tryz.prog.underlying 61 = some (.struct bodyFields) := by kernel_rfl
theorem u62 : Tryz.prog.underlying 65 = some (.struct insFields) := by kernel_rfl
theorem plain53 : plainT Tryz.prog 8 24 = true := by kernel_rfl
theorem plain3 : plainT Tryz.prog 2 3 = true := by kernel_rfl
theorem shp_str {pvs : List PV} (h : Shp Tryz.prog 9 pvs) : ∃ l : List UInt8,pvs = [pstr l] ∧ l.length ≤ reachBytes := by
 obtain ⟨s,rfl,hs⟩ := h.string_inv u9
 refine ⟨s.data.toList, ?_, ?_⟩
 ·simp [bstr]
 ·exact hs
theorem shp_intsL {pvs : List PV} (h : Shp Tryz.prog 41 pvs) : ∃ l : List Int,pvs = [ints 3 l] ∧ l.length ≤ reachBytes := by
 obtain ⟨pss,rfl,hl,h2⟩ := h.slice_inv u24
 obtain ⟨l,rfl⟩ := map_of (g := fun n : Int => [pin n]) fun i hi => by
  obtain ⟨n,hn,_⟩ := (h2 i hi).int_inv u3
  exact ⟨n,hn⟩
 exact ⟨l,by rw [flatten_single]; simp [ints],by simpa using hl⟩
def GoodI (i : FIns) : Prop := i.list.length ≤ reachBytes ∧ i.text.length ≤ reachBytes
theorem shp_ins {pvs : List PV} (h : Shp Tryz.prog 65 pvs) : ∃ i : FIns,pvs = Go.Den.encI i ∧ GoodI i := by
 obtain ⟨pss,rfl,hl,hi⟩ := h.struct_inv u62
 have hl7 : pss.length = 7 := hl
 obtain ⟨p0,p1,p2,p3,p4,p5,p6,rfl⟩ : ∃ p0 p1 p2 p3 p4 p5 p6,pss = [p0,p1,p2,p3,p4,p5,p6] := by
  match pss,hl7 with
  | [p0,p1,p2,p3,p4,p5,p6],_ => exact ⟨p0,p1,p2,p3,p4,p5,p6,rfl⟩
 obtain ⟨a0,h0,_⟩ := (hi 0 (by simp) (by decide)).int_inv u3
 obtain ⟨a1,h1,_⟩ := (hi 1 (by simp) (by decide)).int_inv u3
 obtain ⟨a2,h2,_⟩ := (hi 2 (by simp) (by decide)).int_inv u3
 obtain ⟨a3,h3,_⟩ := (hi 3 (by simp) (by decide)).int_inv u3
 obtain ⟨a4,h4,_⟩ := (hi 4 (by simp) (by decide)).int_inv u3
 obtain ⟨s,h5,g5⟩ := shp_str (hi 5 (by simp) (by decide))
 obtain ⟨l,h6,g6⟩ := shp_intsL (hi 6 (by simp) (by decide))
 simp only [List.getElem_cons_zero,List.getElem_cons_succ] at h0 h1 h2 h3 h4 h5 h6
 subst h0 h1 h2 h3 h4 h5 h6
 exact ⟨⟨a0,a1,a2,a3,a4,s,l⟩,rfl,g6,g5⟩
def GoodB (b : FBody) : Prop := b.code.length ≤ reachBytes ∧ b.name.length ≤ reachBytes ∧ ∀ i ∈ b.code,GoodI i
theorem shp_body {pvs : List PV} (h : Shp Tryz.prog 61 pvs) : ∃ b : FBody,pvs = encBo b ∧ GoodB b := by
 obtain ⟨pss,rfl,hl,hi⟩ := h.struct_inv u65
 have hl4 : pss.length = 4 := hl
 obtain ⟨p0,p1,p2,p3,rfl⟩ : ∃ p0 p1 p2 p3,pss = [p0,p1,p2,p3] := by
  match pss,hl4 with
  | [p0,p1,p2,p3],_ => exact ⟨p0,p1,p2,p3,rfl⟩
 obtain ⟨s,h0,g0⟩ := shp_str (hi 0 (by simp) (by decide))
 obtain ⟨a1,h1,_⟩ := (hi 1 (by simp) (by decide)).int_inv u3
 obtain ⟨a2,h2,_⟩ := (hi 2 (by simp) (by decide)).int_inv u3
 obtain ⟨qss,h3,g3,k3⟩ := (hi 3 (by simp) (by decide)).slice_inv u63
 obtain ⟨l,rfl⟩ := map_of (g := fun x : {i : FIns // GoodI i} => Go.Den.encI x.1) fun i hi => by
  obtain ⟨x,hx,gx⟩ := shp_ins (k3 i hi)
  exact ⟨⟨x,gx⟩,hx⟩
 simp only [List.getElem_cons_zero,List.getElem_cons_succ] at h0 h1 h2 h3
 subst h0 h1 h2 h3
 refine ⟨⟨s,a1,a2,l.map (·.1)⟩, ?_, ?_,g0,fun i hi => ?_⟩
 ·simp [encBo,recs,List.flatMap_def]
 ·simpa using g3
 ·obtain ⟨x,_,rfl⟩ := List.mem_map.1 hi
  exact x.2
theorem shp_code {pvs : List PV} (h : Shp Tryz.prog 24 pvs) : ∃ c : FCode,pvs = encC c ∧ ∀ b ∈ c.bodies,GoodB b := by
 obtain ⟨pss,rfl,hl,hi⟩ := h.struct_inv u53
 have hl2 : pss.length = 2 := hl
 obtain ⟨p0,p1,rfl⟩ : ∃ p0 p1,pss = [p0,p1] := by
  match pss,hl2 with
  | [p0,p1],_ => exact ⟨p0,p1,rfl⟩
 obtain ⟨a0,h0,_⟩ := (hi 0 (by simp) (by decide)).int_inv u3
 obtain ⟨qss,h1,g1,k1⟩ := (hi 1 (by simp) (by decide)).slice_inv u51
 obtain ⟨l,rfl⟩ := map_of (g := fun x : {b : FBody // GoodB b} => encBo x.1) fun i hi => by
  obtain ⟨x,hx,gx⟩ := shp_body (k1 i hi)
  exact ⟨⟨x,gx⟩,hx⟩
 simp only [List.getElem_cons_zero,List.getElem_cons_succ] at h0 h1
 subst h0 h1
 refine ⟨⟨a0,l.map (·.1)⟩, ?_,fun b hb => ?_⟩
 ·simp [encC,recs,List.flatMap_def]
 ·obtain ⟨x,_,rfl⟩ := List.mem_map.1 hb
  exact x.2
theorem holds_good {c : FCode} (h : ∀ b ∈ c.bodies,GoodB b) : Holds c := by
 intro b hb
 obtain ⟨h1,h2,h3⟩ := h b hb
 have hm : reachBytes ≤ 4611686018427387904 := by decide
 exact ⟨by unfold big; omega,by unfold big; omega,fun i hi => ⟨by have := (h3 i hi).1; unfold big; omega,by have := (h3 i hi).2; unfold big; omega⟩⟩
theorem rd_agg {ws : List Win} {v : Value} {pvs : List PV} (h : RdL ws pvs v.cells.toList) (hl : pvs.length ≠ 1) : RdV ws (.agg pvs) v := by
 have hlen := h.length
 cases v with
 | agg cs => exact .agg (by simpa [Value.cells] using hlen) fun i h1 h2 => by have := F2.idx h i h1 (by simpa [Value.cells] using h2); simpa [Value.cells] using this
 | _ => exact absurd (by simpa [Value.cells] using hlen) hl
end Go.Proofs.YtabglcbliapijaaGreatDoor
/- FlowBlocks: the card. -/
namespace Go.Proofs.YtabglcbliapijaaGreatDoor
open Go Go.Den Go.ChangeShapes Go.WideShapes Go.RowKit
set_option maxRecDepth 100000 in
theorem flowBlocks_lifted (os : Os) (started : os.Started) (H : Type) (enc : TypeId × Value → H) :
  ReturnsInHanded {} Tryz.checked os 3 .any (fun w args => (Rows.flowBlocksSpec.pre enc Tryz.prog Tryz.f3 [] false w args ∧ laidMetH Tryz.prog laid w) ∧ sizedMet enc Tryz.prog Tryz.f3 (OpenSpec.ofChange Rows.flowBlocksSpec) false w args)
   (Rows.flowBlocksSpec.post enc Tryz.prog Tryz.f3 false true false false) := by
 refine returnsInHanded_of_change_and (C := Tryz.checked) (X := fun w _ => laidMetH Tryz.prog laid w) (fun _ _ _ hh h => h.of_heap hh) own started (by kernel_rfl) Tryz.func3
  (ChangeSpec.witness_shaped (enc := enc) (C := Tryz.checked) (os := os) (X := fun w _ => laidMetH Tryz.prog laid w) false (laidWorld os) #[.agg #[.int .i64 0,.slice none 0 0],.int .i64 0] 8 rfl (World.shaped_of_RefB (by kernel_rfl) (by kernel_rfl)) (by kernel_rfl) (by kernel_rfl) (by kernel_rfl) (laidWorld_met os _)) ?_
 intro W base args ds gs before hval hW _ hwt hL _
 have hLd := laid_at hL
 have hW' := hW
 obtain ⟨p,q,hA0,hV,_,_,_⟩ := hW
 have e5 : Tryz.f3.params.toList = [24,3] := by rw [Tryz.params3]
 have hA : DataW.TrodAll enc Tryz.prog W 0 (fun _ => true) true [24,3] args.toList ds p := by rw [← e5]; exact hA0
 obtain ⟨v,v',d,d',p1,p2,rfl,rfl,rfl,⟨fuel,hd⟩,⟨fuel',hd'⟩⟩ := trodAll_two hA
 have hwt' : ∀ n ∈ DataW.weightsEach Tryz.prog (Tryz.f3.params.toList ++ Rows.flowBlocksSpec.plain.varTypes Tryz.prog) ([d,d'] ++ gs),n ≤ reachBytes := fun n hn => by
  have := List.all_eq_true.1 hwt n hn
  simpa using this
 rw [e5] at hwt'
 obtain ⟨ws,pvs,g1,g2,g3,_⟩ := got_of_trod (BytesAt.laid hLd) 8 plain53 (fun n hn => hwt' n (DataW.weights_mem_each (j := 0) (t := 24) (d := d) rfl rfl n hn)) hd
 obtain ⟨ws',pvs',g1',g2',g3',_⟩ := got_of_trod (BytesAt.laid hLd) 2 plain3 (fun n hn => hwt' n (DataW.weights_mem_each (j := 1) (t := 3) (d := d') rfl rfl n hn)) hd'
 obtain ⟨c,rfl,hgood⟩ := shp_code g3
 obtain ⟨n,rfl,_⟩ := g3'.int_inv u3
 have hv := rd_agg g1 (by simp)
 have hv' : v'.cells.toList = [v'] := by
  cases v' with
  | agg cs =>
   have h0 : Value.okWide Tryz.prog W .any base 3 (.agg cs) := hval 1 3 _ (by rw [Tryz.params3]; rfl) rfl
   simp [Value.okWide,Cell.okWide,Cell.ok] at h0
  | _ => rfl
 rw [hv'] at g1'
 have hws : ∀ w ∈ ws ++ ws',WinOk Tryz.prog W.heap (ws ++ ws') w := fun w hw => by
  rcases List.mem_append.1 hw with hw | hw
  ·exact (g2 w hw).mono fun x hx => List.mem_append_left _ hx
  ·exact (g2' w hw).mono fun x hx => List.mem_append_right _ hx
 refine (cls_calls (gl := glS) follows ok_FD eok xok extK_all extK_n glS_z Tryz.func3 c3.c (by kernel_rfl) (flowBlocks_ok (c := c) (body := n) (holds_good hgood)) (GlOk.laid hLd) hws (args := #[v,v'])
  (.cons (hv.mono fun x hx => List.mem_append_left _ hx) (g1'.mono fun x hx => List.mem_append_right _ hx))).mono fun e w' he => ?_
 obtain ⟨r,rfl,⟨ρ,ζ,σ,d2,hvp,hvr⟩,hst⟩ := he
 obtain ⟨rfl,_⟩ := hvp.v_inv
 cases hvr
 exact ⟨_,rfl,post_law rfl (by kernel_rfl) u4 laidOut (fun t ht => by
  rw [e5] at ht
  simp only [List.mem_cons,List.not_mem_nil,or_false] at ht
  rcases ht with rfl | rfl
  ·exact ⟨by kernel_rfl,of_decide_eq_true (by kernel_rfl)⟩
  ·exact ⟨by kernel_rfl,of_decide_eq_true (by kernel_rfl)⟩) (fun ds hd => by
  match ds,hd with
  | [d,d'],_ => rfl) hW' hst⟩
end Go.Proofs.YtabglcbliapijaaGreatDoor
/- The row's closed facts, part by part. -/
namespace Go.Proofs.YtabglcbliapijaaGreatDoor
open Go
theorem and2 {a b : Bool} (ha : a = true) (hb : b = true) : (a && b) = true := by rw [ha,hb]; rfl
theorem jf0 : (Rows.flowBlocksRow.wf (OpenSpec.ofChange Rows.flowBlocksSpec)) = true := by kernel_rfl
theorem jf1 : (laidOutB Tryz.prog) = true := by kernel_rfl
theorem jf2 : (mapsRowed Tryz.prog) = true := by kernel_rfl
theorem jf3 : (Tryz.f3.params.all (Tryz.prog.readableRec ·)) = true := by kernel_rfl
theorem jf4 : (namedTie Tryz.prog Rows.flowBlocksRow.named Rows.flowBlocksSpec.vars) = true := by kernel_rfl
theorem jf5 : ((Rows.flowBlocksRow.stops == [])) = true := by kernel_rfl
theorem jf6 : ((Tryz.prog.stops == [])) = true := by kernel_rfl
theorem jf7 : ((Rows.flowBlocksRow.knobs == [])) = true := by kernel_rfl
theorem jf8 : ((Tryz.prog.stopKnobs == [])) = true := by kernel_rfl
theorem jf9 : ((Rows.flowBlocksRow.inPlace == Tryz.prog.inPlace 3)) = true := by kernel_rfl
theorem jf10 : ((Rows.flowBlocksRow.unfollowed == Tryz.prog.unfollowed 3)) = true := by kernel_rfl
theorem jf11 : ((Rows.flowBlocksRow.recurses == Tryz.prog.recurses 3)) = true := by kernel_rfl
theorem jf12 : ((Rows.flowBlocksRow.named == Tryz.prog.varsNamed 3)) = true := by kernel_rfl
theorem jf13 : ((Rows.flowBlocksRow.maps == (Tryz.f3.params.toList ++ Rows.flowBlocksSpec.plain.varTypes Tryz.prog).any (Tryz.prog.mapsRec ·))) = true := by kernel_rfl
theorem jf14 : ((Rows.flowBlocksRow.ifaces == (Tryz.f3.params.toList ++ Rows.flowBlocksSpec.plain.varTypes Tryz.prog).any (Tryz.prog.ifacesRec ·))) = true := by kernel_rfl
theorem jf15 : ((Rows.flowBlocksRow.mapsOut == Tryz.prog.mapsAmong Tryz.f3.resultTypes.toList)) = true := by kernel_rfl
theorem jf16 : ((Rows.flowBlocksRow.loops == (Tryz.f3.params.toList ++ Rows.flowBlocksSpec.plain.varTypes Tryz.prog).any (Tryz.prog.loopsFrom ·))) = true := by kernel_rfl
theorem jf17 : ((Rows.flowBlocksRow.wideKeys == (Tryz.f3.params.toList ++ Rows.flowBlocksSpec.plain.varTypes Tryz.prog ++ Tryz.f3.resultTypes.toList).any (Tryz.prog.wideKeysFrom ·))) = true := by kernel_rfl
theorem jf18 : (Rows.flowBlocksSpec.vars.all (Tryz.prog.varReadable ·)) = true := by kernel_rfl
theorem jf19 : (Tryz.f3.resultTypes.all (fun t => Tryz.prog.readableRec t && decide (t < Tryz.prog.types.size))) = true := by kernel_rfl
theorem jf20 : ((Rows.flowBlocksRow.ifacesOut == Tryz.f3.resultTypes.toList.any (Tryz.prog.ifacesRec ·))) = true := by kernel_rfl
theorem jf21 : ((Rows.flowBlocksRow.loopsOut == Tryz.f3.resultTypes.toList.any (Tryz.prog.loopsFrom ·))) = true := by kernel_rfl
theorem jf22 : ((Rows.flowBlocksRow.plainKeys == Tryz.prog.plainKeys)) = true := by kernel_rfl
theorem jf23 : (Rows.flowBlocksRow.shortTexts.isNone) = true := by kernel_rfl
theorem jf24 : (Tryz.prog.stopsHeard) = true := by kernel_rfl
theorem jf25 : (Tryz.prog.mayEnter) = true := by kernel_rfl
theorem jf26 : ((Rows.flowBlocksRow.lifted == Tryz.prog.liftsFinal)) = true := by kernel_rfl
theorem jf27 : ((Tryz.prog.make == some Rows.flowBlocksRow.make)) = true := by kernel_rfl
theorem jf28 : (Rows.flowBlocksRow.kinds == (if Rows.flowBlocksRow.domain.isEmpty then [] else Tryz.f3.params.toList.map fun t => match Tryz.prog.underlying t with | some (.int k) => some k | _ => none)) = true := by kernel_rfl
theorem jf29 : ((Rows.flowBlocksRow.pinned == Rows.flowBlocksRow.pinnedBy)) = true := by kernel_rfl
theorem jf30 : ((Rows.flowBlocksRow.veiled == (Tryz.f3.params.toList ++ Rows.flowBlocksSpec.plain.varTypes Tryz.prog ++ Tryz.f3.resultTypes.toList).any (Tryz.prog.veiledRec ·))) = true := by kernel_rfl
theorem jf31 : (Rows.flowBlocksRow.veiledFits Tryz.prog Tryz.f3.params.toList (Tryz.f3.params.toList ++ Rows.flowBlocksSpec.plain.varTypes Tryz.prog ++ Tryz.f3.resultTypes.toList)) = true := by kernel_rfl
end Go.Proofs.YtabglcbliapijaaGreatDoor
/- The row's closed facts, put together. -/
namespace Go.Proofs.YtabglcbliapijaaGreatDoor
open Go
set_option maxRecDepth 100000 in
theorem jf : joinedFacts Tryz.prog 3 Tryz.f3 Rows.flowBlocksSpec Rows.flowBlocksRow = true := (and2 (and2 (and2 (and2 (and2 (and2 (and2 (and2 (and2 (and2 (and2 (and2 (and2 (and2 (and2 (and2 (and2 (and2 (and2 (and2 (and2 (and2 (and2 (and2 (and2 (and2 (and2 (and2 (and2 (and2 (and2 jf0 jf1) jf2) jf3) jf4) jf5) jf6) jf7) jf8) jf9) jf10) jf11) jf12) jf13) jf14) jf15) jf16) jf17) jf18) jf19) jf20) jf21) jf22) jf23) jf24) jf25) jf26) jf27) jf28) jf29) jf30) jf31)
end Go.Proofs.YtabglcbliapijaaGreatDoor
/- FlowBlocks: the card. -/
namespace Go.Proofs.YtabglcbliapijaaGreatDoor
open Go Go.Den Go.ChangeShapes Go.WideShapes Go.RowKit
theorem flowBlocks_holds : Rows.FlowBlocksSaid :=
 OpenClaim.holds_of_wide 3 Tryz.f3 rfl rfl rfl rfl rfl rfl rfl ⟨rfl,rfl,rfl,rfl,rfl⟩ rfl rfl rfl rfl rfl (by kernel_rfl) Tryz.func3 jf
  (of_decide_eq_true (by kernel_rfl)) (by unfold Func.isWrapper; rw [if_neg (of_decide_eq_false (by kernel_rfl))]; exact ⟨rfl,rfl⟩)
  (fun os started H enc _ => flowBlocks_lifted os started H enc)
end Go.Proofs.YtabglcbliapijaaGreatDoor
/- The card's closed facts, part by part. -/
namespace Go.Proofs.YtabglcbliapijaaGreatDoor
open Go
theorem cd_wf : Rows.flowBlocksRow.wfByText (OpenSpec.ofChange Rows.flowBlocksSpec) = true := by kernel_rfl
theorem cd_main : Tryz.prog.mainIs = some (true, "c1df1920449b74e025b65a8df1b30f68928dbe30d0e05cd620540d9075080a90".toList) := by kernel_rfl
theorem cd_named : Tryz.prog.funcNamed "raddle/raddlelaw23.FlowBlocks" = some 3 := by kernel_rfl
theorem cd_looks : true = Tryz.prog.looks [] := by kernel_rfl
theorem cd_w24 : Tryz.prog.wantsStandIn 24 = false := by kernel_rfl
theorem cd_w3 : Tryz.prog.wantsStandIn 3 = false := by kernel_rfl
theorem cd_goes : false = Rows.flowBlocksRow.goesBy Tryz.prog := by kernel_rfl
end Go.Proofs.YtabglcbliapijaaGreatDoor
/- FlowBlocks: the card. -/
namespace Go.Proofs.YtabglcbliapijaaGreatDoor
open Go Go.Den Go.ChangeShapes Go.WideShapes Go.RowKit
theorem flowBlocks_card : Rows.FlowBlocksCardSaid :=
 Claim7.holds_tied_plain_at .later [] [.data, .data, .data, .listed, .data] true (true, "c1df1920449b74e025b65a8df1b30f68928dbe30d0e05cd620540d9075080a90") true
  flowBlocks_holds (fun _ h => by cases h) cd_wf (fun _ h => by cases h) flowBlocks_row_tie rfl ⟨rfl,rfl⟩ cd_main rfl
  (fun f fn hf hfn => by
   obtain rfl : f = 3 := Option.some.inj (cd_named.symm.trans hf) |>.symm
   obtain rfl : fn = Tryz.f3 := (Option.some.inj (Tryz.func3.symm.trans hfn)).symm
   exact ⟨cd_looks,fun j t ht => by
    rw [Tryz.params3] at ht
    have h3 : t = 24 ∨ t = 3 := by
     rcases j with _ | _ | j
     ·left; simpa using ht.symm
     ·right; simpa using ht.symm
     ·simp at ht
    rcases h3 with rfl | rfl
    ·exact cd_w24
    ·exact cd_w3⟩)
  cd_goes
#print axioms flowBlocks_card
end Go.Proofs.YtabglcbliapijaaGreatDoor
