/-
  DERIVED: THE SHELF's CONTRACTS AT THIS DUMP, IN PLAIN WORDS (tools/lay-plain.mjs out of 'TryzShelfP.lean', which tools/lay-shelf.mjs wrote): THE SAME DECLARATIONS UNDER THE SAME NAMES: 'import', 'namespace', 'open', 'def', 'theorem' AND NOTHING ELSE: no command of the shelf's: FOR A HAND-IN. Each laying: the table of numbers ('.._ren') and one theorem, a field a fact of the dump's own or the kernel's comparison; each contract: ONE APPLICATION.
-/
import Derived.Shelf.Strings.Builder1
import Derived.Shelf.Strings.Builder2
import Derived.Shelf.Strings.OnBuilder
import Derived.Shelf.Small.Strs
import Derived.Shelf.Strings.BuilderF
import Derived.Shelf.Strconv.Itoa0
import Derived.Shelf.Strconv.Itoa1
import Derived.Shelf.LaysM
import Derived.Shelf.Strconv.Itoa2
import Derived.Shelf.Strconv.Itoa3
import Derived.Shelf.Strconv.Itoa4
import Derived.Shelf.Strings.Search1
import Derived.Shelf.Strings.Search2
import Derived.Shelf.Strings.Search3
import Derived.Shelf.Strings.Count
import Derived.Shelf.Strings.Shaped
import Derived.Shelf.Strings.Prefix
import Derived.Shelf.Bits.Mul64
import Derived.Shelf.Strings.Repeat
import Derived.Shelf.Unicode.DecodeSlow
import Derived.Shelf.SlGeneric
import Derived.Shelf.Spec.SlicesGrow
import Derived.Test.YtncpkgjihijjhaaGreatDoorProg
namespace Go.Proofs
open Go.Shelf
def Tryz.lays156_ren : Go.Shelf.Ren := ⟨fun | 156 => 313 | 165 => 317 | 166 => 318 | 169 => 320 | 240 => 341 | 241 => 342 | 276 => 348 | 277 => 349 | n => n, fun | 31 => 26 | 9 => 9 | 3 => 3 | 4 => 4 | 0 => 0 | 20 => 20 | 72 => 435 | 76 => 271 | 70 => 433 | 37 => 43 | 75 => 270 | 127 => 445 | 164 => 461 | 5 => 5 | 80 => 183 | n => n, fun | n => n⟩
theorem Tryz.lays156 : Go.Proofs.Lays.n156 Tryz.prog Tryz.lays156_ren := {
  mixed := by kernel_rfl
  f156 := Tryz.func313.trans (congrArg some (by kernel_rfl))
  f165 := Tryz.func317.trans (congrArg some (by kernel_rfl))
  f166 := Tryz.func318.trans (congrArg some (by kernel_rfl))
  f169 := Tryz.func320.trans (congrArg some (by kernel_rfl))
  f240 := Tryz.func341.trans (congrArg some (by kernel_rfl))
  f241 := Tryz.func342.trans (congrArg some (by kernel_rfl))
  f276 := Tryz.func348.trans (congrArg some (by kernel_rfl))
  f277 := Tryz.func349.trans (congrArg some (by kernel_rfl))
  t0 := Tryz.underlying0
  a0 := Tryz.isAgg0
  z0 := Tryz.sizeOf0
  v0 := Tryz.zeroValue0
  t3 := Tryz.underlying3
  a3 := Tryz.isAgg3
  z3 := Tryz.sizeOf3
  v3 := Tryz.zeroValue3
  t4 := Tryz.underlying4
  a4 := Tryz.isAgg4
  z4 := Tryz.sizeOf4
  v4 := Tryz.zeroValue4
  t9 := Tryz.underlying9
  a9 := Tryz.isAgg9
  z9 := Tryz.sizeOf9
  v9 := Tryz.zeroValue9
  t20 := Tryz.underlying20
  a20 := Tryz.isAgg20
  z20 := Tryz.sizeOf20
  v20 := Tryz.zeroValue20
  t31 := Tryz.underlying26
  a31 := Tryz.isAgg26
  z31 := Tryz.sizeOf26
  v31 := Tryz.zeroValue26
  t37 := Tryz.underlying43
  a37 := Tryz.isAgg43
  z37 := Tryz.sizeOf43
  v37 := Tryz.zeroValue43
  t70 := Tryz.underlying433
  a70 := Tryz.isAgg433
  z70 := Tryz.sizeOf433
  v70 := Tryz.zeroValue433
  t72 := Tryz.underlying435
  a72 := Tryz.isAgg435
  z72 := Tryz.sizeOf435
  v72 := Tryz.zeroValue435
  t75 := Tryz.underlying270
  a75 := Tryz.isAgg270
  z75 := Tryz.sizeOf270
  v75 := Tryz.zeroValue270
  t76 := Tryz.underlying271
  a76 := Tryz.isAgg271
  z76 := Tryz.sizeOf271
  v76 := Tryz.zeroValue271
  t127 := Tryz.underlying445
  a127 := Tryz.isAgg445
  z127 := Tryz.sizeOf445
  v127 := Tryz.zeroValue445
  t164 := Tryz.underlying461
  a164 := Tryz.isAgg461
  z164 := Tryz.sizeOf461
  v164 := Tryz.zeroValue461 }
theorem Tryz.Builder_Extra_156 : Builder.Extra Tryz.prog Tryz.lays156_ren := {
  sizeBuilder := by kernel_rfl
  liesBuilder := by kernel_rfl
  t5 := Tryz.underlying5
  a5 := Tryz.isAgg5
  z5 := Tryz.sizeOf5
  v5 := Tryz.zeroValue5
  infoByte := by kernel_rfl
  cellsByte := by kernel_rfl
  sizeByte := by kernel_rfl
  neB5 := by decide }
open Go.RowKit in
/-- strings.Join: "Join concatenates the elements of its first argument to create a single string. The separator string sep is placed between elements in the resulting string.": HOWEVER MANY ELEMENTS. Below the heap's end the world is as it was. (LAID: no walk: one application.) -/
theorem Tryz.strings_Join (bk o c : Nat) (xs : List ByteArray) (sep : ByteArray) (w : World) (hcells : ∀ (j : Nat) x, xs[j]? = some x → w.cell? ⟨bk, o + j, none⟩ = some (.string x)) (hbk : bk < w.heap.size) (hN : xs.length ≤ 140737488355328) (hcap : xs.length ≤ c) (hlen : (Lib.join (xs.map (·.data.toList)) sep.data.toList).length ≤ 140737488355328) :
    Calls Tryz.prog 313 #[.slice (some ⟨bk, o, none⟩) xs.length c, .string sep] w fun e w' => e = .returned (.string ⟨(Lib.join (xs.map (·.data.toList)) sep.data.toList).toArray⟩) ∧ Below w.heap.size w w' := Any.strings_Join Tryz.lays156 Tryz.Builder_Extra_156 bk o c xs sep w hcells hbk hN hcap hlen
def Tryz.lays137_ren : Go.Shelf.Ren := ⟨fun | 137 => 312 | 217 => 329 | 266 => 344 | n => n, fun | 9 => 9 | 5 => 5 | 3 => 3 | n => n, fun | n => n⟩
theorem Tryz.lays137 : Go.Proofs.Lays.n137 Tryz.prog Tryz.lays137_ren := {
  mixed := by kernel_rfl
  f137 := Tryz.func312.trans (congrArg some (by kernel_rfl))
  f217 := Tryz.func329.trans (congrArg some (by kernel_rfl))
  f266 := Tryz.func344.trans (congrArg some (by kernel_rfl))
  t3 := Tryz.underlying3
  a3 := Tryz.isAgg3
  z3 := Tryz.sizeOf3
  v3 := Tryz.zeroValue3
  t5 := Tryz.underlying5
  a5 := Tryz.isAgg5
  z5 := Tryz.sizeOf5
  v5 := Tryz.zeroValue5
  t9 := Tryz.underlying9
  a9 := Tryz.isAgg9
  z9 := Tryz.sizeOf9
  v9 := Tryz.zeroValue9 }
open Go.RowKit in
/-- strings.IndexByte: "IndexByte returns the index of the first instance of c in s, or -1 if c is not present in s.": IT RETURNS 'Lib.indexByte s c'; the world is as it was. (LAID: no walk: one application.) -/
theorem Tryz.strings_IndexByte (s : ByteArray) (c : Int) (w : World) :
    Calls Tryz.prog 312 #[.string s, .int .u8 c] w fun e w' => e = .returned (.int .i64 (Lib.indexByte s.data.toList c.toNat.toUInt8)) ∧ w' = w := Any.strings_IndexByte Tryz.lays137 s c w
open Go.RowKit in
def Tryz.laysM284_ren : Go.Shelf.Ren := ⟨fun | 284 => 307 | 129 => 239 | 317 => 335 | 318 => 336 | n => n, fun | 53 => 290 | 3 => 3 | 212 => 450 | 0 => 0 | 4 => 4 | 46 => 124 | 5 => 5 | 9 => 9 | n => n, fun | 17 => 3 | n => n⟩
theorem Tryz.laysM284 : Go.Proofs.LaysM.n284 Tryz.prog Tryz.laysM284_ren := {
  mixed := by kernel_rfl
  f129 := Tryz.func239.trans (congrArg some (by kernel_rfl))
  f284 := Tryz.func307.trans (congrArg some (by kernel_rfl))
  f317 := Tryz.func335.trans (congrArg some (by kernel_rfl))
  f318 := Tryz.func336.trans (congrArg some (by kernel_rfl))
  t0 := Tryz.underlying0
  a0 := Tryz.isAgg0
  z0 := Tryz.sizeOf0
  v0 := Tryz.zeroValue0
  t3 := Tryz.underlying3
  a3 := Tryz.isAgg3
  z3 := Tryz.sizeOf3
  v3 := Tryz.zeroValue3
  t4 := Tryz.underlying4
  a4 := Tryz.isAgg4
  z4 := Tryz.sizeOf4
  v4 := Tryz.zeroValue4
  t5 := Tryz.underlying5
  a5 := Tryz.isAgg5
  z5 := Tryz.sizeOf5
  v5 := Tryz.zeroValue5
  t9 := Tryz.underlying9
  a9 := Tryz.isAgg9
  z9 := Tryz.sizeOf9
  v9 := Tryz.zeroValue9
  t46 := Tryz.underlying124
  a46 := Tryz.isAgg124
  z46 := Tryz.sizeOf124
  v46 := Tryz.zeroValue124
  t53 := Tryz.underlying290
  a53 := Tryz.isAgg290
  z53 := Tryz.sizeOf290
  v53 := Tryz.zeroValue290
  t212 := Tryz.underlying450
  a212 := Tryz.isAgg450
  z212 := Tryz.sizeOf450
  v212 := Tryz.zeroValue450
  g17 := by kernel_rfl
  i0 := by kernel_rfl
  i3 := by kernel_rfl
  i4 := by kernel_rfl
  i5 := by kernel_rfl
  i9 := by kernel_rfl
  i46 := by kernel_rfl
  i53 := by kernel_rfl
  i212 := by kernel_rfl
  m17 := by kernel_rfl }
open Go.Lib in
/-- internal/strconv.numDigits, at a d that is not 0: THE NUMBER OF d's DECIMAL DIGITS. The world is as it was. (LAID: no walk: one application.) -/
theorem Tryz.internal_strconv_numDigits (u : Nat) (h1 : 1 ≤ u) (h2 : u < 18446744073709551616) (w : World) (htab : Lib.TabIs Tryz.prog w "internal/strconv.uint64pow10" .u64 Lib.pow10Tab) :
    Calls Tryz.prog 307 #[.int .u64 u] w fun e w' => e = .returned (.int .i64 (Lib.nDigits u)) ∧ w' = w := Any.internal_strconv_numDigits Tryz.laysM284 u h1 h2 w htab
def Tryz.laysM246_ren : Go.Shelf.Ren := ⟨fun | 246 => 257 | 283 => 306 | 284 => 307 | 285 => 308 | 286 => 309 | 129 => 239 | 317 => 335 | 318 => 336 | 319 => 337 | 320 => 338 | 337 => 346 | 338 => 347 | n => n, fun | 2 => 2 | 3 => 3 | 9 => 9 | 4 => 4 | 171 => 423 | 0 => 0 | 53 => 290 | 37 => 43 | 5 => 5 | 173 => 425 | 212 => 450 | 51 => 38 | 20 => 20 | 213 => 451 | 46 => 124 | 232 => 464 | 233 => 412 | n => n, fun | 17 => 3 | 18 => 6 | 19 => 7 | n => n⟩
theorem Tryz.laysM246 : Go.Proofs.LaysM.n246 Tryz.prog Tryz.laysM246_ren := {
  mixed := by kernel_rfl
  f129 := Tryz.func239.trans (congrArg some (by kernel_rfl))
  f246 := Tryz.func257.trans (congrArg some (by kernel_rfl))
  f283 := Tryz.func306.trans (congrArg some (by kernel_rfl))
  f284 := Tryz.func307.trans (congrArg some (by kernel_rfl))
  f285 := Tryz.func308.trans (congrArg some (by kernel_rfl))
  f286 := Tryz.func309.trans (congrArg some (by kernel_rfl))
  f317 := Tryz.func335.trans (congrArg some (by kernel_rfl))
  f318 := Tryz.func336.trans (congrArg some (by kernel_rfl))
  f319 := Tryz.func337.trans (congrArg some (by kernel_rfl))
  f320 := Tryz.func338.trans (congrArg some (by kernel_rfl))
  f337 := Tryz.func346.trans (congrArg some (by kernel_rfl))
  f338 := Tryz.func347.trans (congrArg some (by kernel_rfl))
  t0 := Tryz.underlying0
  a0 := Tryz.isAgg0
  z0 := Tryz.sizeOf0
  v0 := Tryz.zeroValue0
  t2 := Tryz.underlying2
  a2 := Tryz.isAgg2
  z2 := Tryz.sizeOf2
  v2 := Tryz.zeroValue2
  t3 := Tryz.underlying3
  a3 := Tryz.isAgg3
  z3 := Tryz.sizeOf3
  v3 := Tryz.zeroValue3
  t4 := Tryz.underlying4
  a4 := Tryz.isAgg4
  z4 := Tryz.sizeOf4
  v4 := Tryz.zeroValue4
  t5 := Tryz.underlying5
  a5 := Tryz.isAgg5
  z5 := Tryz.sizeOf5
  v5 := Tryz.zeroValue5
  t9 := Tryz.underlying9
  a9 := Tryz.isAgg9
  z9 := Tryz.sizeOf9
  v9 := Tryz.zeroValue9
  t20 := Tryz.underlying20
  a20 := Tryz.isAgg20
  z20 := Tryz.sizeOf20
  v20 := Tryz.zeroValue20
  t37 := Tryz.underlying43
  a37 := Tryz.isAgg43
  z37 := Tryz.sizeOf43
  v37 := Tryz.zeroValue43
  t46 := Tryz.underlying124
  a46 := Tryz.isAgg124
  z46 := Tryz.sizeOf124
  v46 := Tryz.zeroValue124
  t51 := Tryz.underlying38
  a51 := Tryz.isAgg38
  z51 := Tryz.sizeOf38
  v51 := Tryz.zeroValue38
  t53 := Tryz.underlying290
  a53 := Tryz.isAgg290
  z53 := Tryz.sizeOf290
  v53 := Tryz.zeroValue290
  t171 := Tryz.underlying423
  a171 := Tryz.isAgg423
  z171 := Tryz.sizeOf423
  v171 := Tryz.zeroValue423
  t173 := Tryz.underlying425
  a173 := Tryz.isAgg425
  z173 := Tryz.sizeOf425
  v173 := Tryz.zeroValue425
  t212 := Tryz.underlying450
  a212 := Tryz.isAgg450
  z212 := Tryz.sizeOf450
  v212 := Tryz.zeroValue450
  t213 := Tryz.underlying451
  a213 := Tryz.isAgg451
  z213 := Tryz.sizeOf451
  t232 := Tryz.underlying464
  a232 := Tryz.isAgg464
  z232 := Tryz.sizeOf464
  v232 := Tryz.zeroValue464
  t233 := Tryz.underlying412
  a233 := Tryz.isAgg412
  z233 := Tryz.sizeOf412
  v233 := Tryz.zeroValue412
  g17 := by kernel_rfl
  g18 := by kernel_rfl
  g19 := by kernel_rfl
  i0 := by kernel_rfl
  i2 := by kernel_rfl
  i3 := by kernel_rfl
  i4 := by kernel_rfl
  i5 := by kernel_rfl
  i9 := by kernel_rfl
  i20 := by kernel_rfl
  i37 := by kernel_rfl
  i46 := by kernel_rfl
  i51 := by kernel_rfl
  i53 := by kernel_rfl
  i171 := by kernel_rfl
  i173 := by kernel_rfl
  i212 := by kernel_rfl
  i232 := by kernel_rfl
  i233 := by kernel_rfl
  m17 := by kernel_rfl
  m18 := by kernel_rfl
  m19 := by kernel_rfl }
open Go.RowKit Go.Sort Go.Lib in
/-- internal/strconv.FormatInt: "FormatInt returns the string representation of i in the given base": AT BASE 10: i's decimal numeral, for every int64. The world behind the call: the world before it, new blocks behind the heap, draws. (LAID: no walk: one application.) -/
theorem Tryz.internal_strconv_FormatInt_10 (n : Int) (h0 : -9223372036854775808 ≤ n) (h1 : n ≤ 9223372036854775807) (w : World) (htab : Lib.TabIs Tryz.prog w "internal/strconv.uint64pow10" .u64 Lib.pow10Tab) :
    Calls Tryz.prog 257 #[.int .i64 n, .int .i64 10] w fun e w' => e = .returned (.string ⟨(Lib.itoa n).toArray⟩) ∧ ∃ k os, w' = grow (w.drewN k) os := Any.internal_strconv_FormatInt_10 Tryz.laysM246 n h0 h1 w htab
def Tryz.lays105_ren : Go.Shelf.Ren := ⟨fun | 105 => 273 | 212 => 315 | 99 => 316 | 165 => 317 | 166 => 318 | 170 => 319 | 169 => 320 | 263 => 339 | 264 => 200 | 206 => 340 | 240 => 341 | 241 => 342 | 276 => 348 | 277 => 349 | n => n, fun | 9 => 9 | 3 => 3 | 4 => 4 | 20 => 20 | 0 => 0 | 46 => 124 | 109 => 430 | 5 => 5 | 72 => 435 | 76 => 271 | 51 => 38 | 146 => 452 | 53 => 290 | 148 => 327 | 70 => 433 | 37 => 43 | 75 => 270 | 127 => 445 | 164 => 461 | 80 => 183 | n => n, fun | n => n⟩
theorem Tryz.lays105 : Go.Proofs.Lays.n105 Tryz.prog Tryz.lays105_ren := {
  mixed := by kernel_rfl
  f99 := Tryz.func316.trans (congrArg some (by kernel_rfl))
  f105 := Tryz.func273.trans (congrArg some (by kernel_rfl))
  f165 := Tryz.func317.trans (congrArg some (by kernel_rfl))
  f166 := Tryz.func318.trans (congrArg some (by kernel_rfl))
  f169 := Tryz.func320.trans (congrArg some (by kernel_rfl))
  f170 := Tryz.func319.trans (congrArg some (by kernel_rfl))
  f206 := Tryz.func340.trans (congrArg some (by kernel_rfl))
  f212 := Tryz.func315.trans (congrArg some (by kernel_rfl))
  f240 := Tryz.func341.trans (congrArg some (by kernel_rfl))
  f241 := Tryz.func342.trans (congrArg some (by kernel_rfl))
  f263 := Tryz.func339.trans (congrArg some (by kernel_rfl))
  f264 := Tryz.func200.trans (congrArg some (by kernel_rfl))
  f276 := Tryz.func348.trans (congrArg some (by kernel_rfl))
  f277 := Tryz.func349.trans (congrArg some (by kernel_rfl))
  t0 := Tryz.underlying0
  a0 := Tryz.isAgg0
  z0 := Tryz.sizeOf0
  v0 := Tryz.zeroValue0
  t3 := Tryz.underlying3
  a3 := Tryz.isAgg3
  z3 := Tryz.sizeOf3
  v3 := Tryz.zeroValue3
  t4 := Tryz.underlying4
  a4 := Tryz.isAgg4
  z4 := Tryz.sizeOf4
  v4 := Tryz.zeroValue4
  t5 := Tryz.underlying5
  a5 := Tryz.isAgg5
  z5 := Tryz.sizeOf5
  v5 := Tryz.zeroValue5
  t9 := Tryz.underlying9
  a9 := Tryz.isAgg9
  z9 := Tryz.sizeOf9
  v9 := Tryz.zeroValue9
  t20 := Tryz.underlying20
  a20 := Tryz.isAgg20
  z20 := Tryz.sizeOf20
  v20 := Tryz.zeroValue20
  t37 := Tryz.underlying43
  a37 := Tryz.isAgg43
  z37 := Tryz.sizeOf43
  v37 := Tryz.zeroValue43
  t46 := Tryz.underlying124
  a46 := Tryz.isAgg124
  z46 := Tryz.sizeOf124
  v46 := Tryz.zeroValue124
  t51 := Tryz.underlying38
  a51 := Tryz.isAgg38
  z51 := Tryz.sizeOf38
  v51 := Tryz.zeroValue38
  t53 := Tryz.underlying290
  a53 := Tryz.isAgg290
  z53 := Tryz.sizeOf290
  v53 := Tryz.zeroValue290
  t70 := Tryz.underlying433
  a70 := Tryz.isAgg433
  z70 := Tryz.sizeOf433
  v70 := Tryz.zeroValue433
  t72 := Tryz.underlying435
  a72 := Tryz.isAgg435
  z72 := Tryz.sizeOf435
  v72 := Tryz.zeroValue435
  t75 := Tryz.underlying270
  a75 := Tryz.isAgg270
  z75 := Tryz.sizeOf270
  v75 := Tryz.zeroValue270
  t76 := Tryz.underlying271
  a76 := Tryz.isAgg271
  z76 := Tryz.sizeOf271
  v76 := Tryz.zeroValue271
  t109 := Tryz.underlying430
  a109 := Tryz.isAgg430
  z109 := Tryz.sizeOf430
  v109 := Tryz.zeroValue430
  t127 := Tryz.underlying445
  a127 := Tryz.isAgg445
  z127 := Tryz.sizeOf445
  v127 := Tryz.zeroValue445
  t146 := Tryz.underlying452
  a146 := Tryz.isAgg452
  z146 := Tryz.sizeOf452
  v146 := Tryz.zeroValue452
  t148 := Tryz.underlying327
  a148 := Tryz.isAgg327
  z148 := Tryz.sizeOf327
  v148 := Tryz.zeroValue327
  t164 := Tryz.underlying461
  a164 := Tryz.isAgg461
  z164 := Tryz.sizeOf461
  v164 := Tryz.zeroValue461 }
theorem Tryz.Builder_Extra_105 : Builder.Extra Tryz.prog Tryz.lays105_ren := {
  sizeBuilder := by kernel_rfl
  liesBuilder := by kernel_rfl
  t5 := Tryz.underlying5
  a5 := Tryz.isAgg5
  z5 := Tryz.sizeOf5
  v5 := Tryz.zeroValue5
  infoByte := by kernel_rfl
  cellsByte := by kernel_rfl
  sizeByte := by kernel_rfl
  neB5 := by decide }
open Go.RowKit Go.Lib in
/-- **strings.Repeat: count ≥ 0, the result within one allocation: count copies of s.** (LAID: no walk: one application.) -/
theorem Tryz.strings_Repeat (s : ByteArray) (c : Nat) (w : World) (hc : c ≤ 9223372036854775807) (hlen : s.size * c ≤ 140737488355328) :
    Calls Tryz.prog 273 #[.string s, .int .i64 c] w fun e w' => e = .returned (.string ⟨(Lib.repeatL s.data.toList c).toArray⟩) ∧ Below w.heap.size w w' := Any.strings_Repeat Tryz.lays105 Tryz.Builder_Extra_105 s c w hc hlen
def Tryz.growB_ren : Go.Shelf.Ren := ⟨fun | 4 => 314 | n => n, fun | 22 => 43 | 25 => 5 | 3 => 3 | 4 => 4 | 9 => 9 | 20 => 20 | 0 => 0 | n => n, fun | n => n⟩
theorem Tryz.growB : Go.Proofs.Lays8.n4 Tryz.prog Tryz.growB_ren := {
  mixed := by kernel_rfl
  f4 := ⟨Tryz.f314.name, by decide, Tryz.func314.trans (congrArg some (by kernel_rfl))⟩
  t0 := Tryz.underlying0
  a0 := Tryz.isAgg0
  z0 := Tryz.sizeOf0
  v0 := Tryz.zeroValue0
  t3 := Tryz.underlying3
  a3 := Tryz.isAgg3
  z3 := Tryz.sizeOf3
  v3 := Tryz.zeroValue3
  t4 := Tryz.underlying4
  a4 := Tryz.isAgg4
  z4 := Tryz.sizeOf4
  v4 := Tryz.zeroValue4
  t9 := Tryz.underlying9
  a9 := Tryz.isAgg9
  z9 := Tryz.sizeOf9
  v9 := Tryz.zeroValue9
  t20 := Tryz.underlying20
  a20 := Tryz.isAgg20
  z20 := Tryz.sizeOf20
  v20 := Tryz.zeroValue20
  t22 := Tryz.underlying43
  a22 := Tryz.isAgg43
  z22 := Tryz.sizeOf43
  v22 := Tryz.zeroValue43 }
end Go.Proofs
