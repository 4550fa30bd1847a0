/- CoreQueries: each terminal is asked what it counts when the switch begins, when its power is back, and at each so-manieth tick; true for every k and ticks. Part Sp of the proof. Condition: the listed package variables hold what the program's text lays. -/
import Derived.Test.YtncpkgjihijjhaaGreatDoorSc
import Derived.Below
import Derived.Test.YtncpkgjihijjhaaGreatDoorProg
import Derived.WalkKit
import Derived.Laws.IdiomRangeMap
import Derived.Maps.RangeRun
import Derived.KernelRfl
import Derived.RangeFuncGives
import Derived.RangeFuncLeaves
import Derived.OwnWalkIn
import Derived.TacticsInMore
import Derived.RegionIn
import Derived.LoopNIn
import Derived.LoopIn
import Derived.Test.YtncpkgjihijjhaaGreatDoorShelf
set_option linter.unusedVariables false
set_option linter.unusedSimpArgs false
noncomputable section
/- What the library's functions do: specifications (proved in the texts behind). -/
set_option linter.unusedVariables false
namespace Go.Sx
noncomputable section

/-- Decimal digits, the last one first; so many at most. -/
def digitsR : Nat → Nat → List Int
  | 0, _ => []
  | f + 1, n => cond (Nat.blt n 10) [Int.ofNat (Nat.add 48 n)] (Int.ofNat (Nat.add 48 (Nat.mod n 10)) :: digitsR f (Nat.div n 10))
def revA : List Int → List Int → List Int
  | [], a => a
  | x :: l, a => revA l (x :: a)
def decI : Int → List Int
  | .ofNat n => revA (digitsR 20 n) []
  | .negSucc n => 45 :: revA (digitsR 20 (n + 1)) []
/-- strconv's FormatInt at base 10. -/
def spFormat (E : Env) : Spec := fun R args h k => match args with
  | [.int .i64 n, .int .i64 (.ofNat 10)] => k (.str (decI n)) h []
  | _ => none
/-- How many digits. -/
def nDigF : Nat → Nat → Nat
  | 0, _ => 0
  | f + 1, u => cond (Nat.blt u 10) 1 (Nat.succ (nDigF f (Nat.div u 10)))
/-- strconv's numDigits. -/
def spNumDigits (E : Env) : Spec := fun R args h k => match args with
  | [.int .u64 (.ofNat u)] => cond (Nat.blt 0 u) (k (.int .i64 (Int.ofNat (nDigF 20 u))) h []) none
  | _ => none
def idxB (c : Int) : List Int → Nat → Option Nat
  | [], _ => none
  | x :: l, i => if x = c then some i else idxB c l (i + 1)
def cntB (c : Int) : List Int → Nat → Nat
  | [], n => n
  | x :: l, n => if x = c then cntB c l (n + 1) else cntB c l n
/-- strings.IndexByte. -/
def spIndexByte (E : Env) : Spec := fun R args h k => match args with
  | [.str l, .int .u8 c] => match idxB c l 0 with
    | some i => cond (Nat.ble i 9223372036854775807) (k (.int .i64 (i : Int)) h []) none
    | none => k (.int .i64 (-1)) h []
  | _ => none
/-- bytealg's CountString. -/
def spCount (E : Env) : Spec := fun R args h k => match args with
  | [.str l, .int .u8 c] => cond (Nat.ble (cntB c l 0) 9223372036854775807) (k (.int .i64 ((cntB c l 0 : Nat) : Int)) h []) none
  | _ => none
/-- maps' clone. -/
def spMapClone (E : Env) : Spec := fun R args h k => match args with
  | [.ifc t (.map (some r))] => match getB h r with
    | .mp a b l => k (.ifc t (.map (some h.length))) (h ++ [.mp a b l]) []
    | _ => none
  | _ => none
/-- Strings, one behind the other. -/
def joinB (sep : List Int) : List (List Int) → List Int
  | [] => []
  | [x] => x
  | x :: l => x ++ (sep ++ joinB sep l)
def subRows {α : Type} (l : List α) (row n : Nat) : List α := (l.drop row).take n
/-- strings.Join. -/
def spJoin (E : Env) : Spec := fun R args h k => match args with
  | [.slice (some p) n c, .str sep] => match srcRows h .str (.slice (some p) n c) with
    | some (ok, l) => cond (ok && (Nat.blt 0 l.length && (Nat.ble l.length 140737488355328 && Nat.ble (joinB sep l).length 140737488355328))) (k (.str (joinB sep l)) h []) none
    | none => none
  | _ => none
def repB (s : List Int) : Nat → List Int
  | 0 => []
  | n + 1 => s ++ repB s n
/-- strings.Repeat. -/
def spRepeat (E : Env) : Spec := fun R args h k => match args with
  | [.str s, .int .i64 (.ofNat n)] => cond (Nat.ble (Nat.mul s.length n) 140737488355328 && Nat.ble n 9223372036854775807) (k (.str (repB s n)) h []) none
  | _ => none
def catB (h : Heap) : List AVal → Option (List Int)
  | [] => some []
  | .fby xs :: l => (catB h l).map fun r => xs ++ r
  | .slice none _ _ :: l => catB h l
  | .slice (some q) n _ :: l => match getB h q.id, lenOf h (some q) n with
    | .rows _ (.int .u8) xs, some m => (catB h l).map fun r => subRows xs q.row m ++ r
    | _, _ => none
  | _ :: _ => none
/-- slices.Concat of byte slices. -/
def spConcat (E : Env) : Spec := fun R args h k => match args with
  | [.slice (some p) n _] => match getB h p.id with
    | .cells l => match catB h l with
      | some xs => k (.slice (some ⟨h.length, 1, 0, 0⟩) .all .opn) (h ++ [.rows false (.int .u8) xs]) []
      | none => none
    | _ => none
  | _ => none
def n4gt (a o : N4) : Bool := decide (a.a > o.a) || (a.a == o.a && (decide (a.b > o.b) || (a.b == o.b && (decide (a.c > o.c) || (a.c == o.c && decide (a.d > o.d))))))
def bestN (o : N4) : List N4 → N4
  | [] => o
  | a :: l => bestN (cond (n4gt a o) a o) l
/-- mix's best. -/
def spBest (E : Env) : Spec := fun R args h k => match args with
  | [.ptr (some p)] => match ld1 h { p with off := p.off + 14 } with
    | some (_, .map (some r)) => match getB h r with
      | .mp .notes .bool l => k (.agg (bestN N4.zero (l.map Prod.fst)).v) h []
      | _ => none
    | _ => none
  | _ => none
/-- The keys of an empty map, in order. -/
def spSorted0 (E : Env) : Spec := fun R args h k => match args with
  | [.fn _ _ [.map (some r)], _] => match getB h r with
    | .mp _ _ [] => k (.slice none (.n 0) (.exact 0)) h []
    | _ => none
  | [.fn _ _ [.ptr (some p)], _] => match ld1 h p with
    | some (_, .map (some r)) => match getB h r with
      | .mp _ _ [] => k (.slice none (.n 0) (.exact 0)) h []
      | _ => none
    | _ => none
  | _ => none
/-- bits.Add64, where nothing is carried in. -/
def spAdd64 (E : Env) : Spec := fun R args h k => match args with
  | [.int .u64 (.ofNat x), .int .u64 (.ofNat y), .int .u64 (.ofNat 0)] =>
    k (.tup [.int .u64 (Int.ofNat (Nat.mod (Nat.add x y) 18446744073709551616)), .int .u64 (Int.ofNat (Nat.div (Nat.add x y) 18446744073709551616))]) h []
  | _ => none
/-- slices.Grow of a nil slice of bytes. -/
def spGrow (E : Env) : Spec := fun R args h k => match args with
  | [.slice none (.n 0) _, .int .i64 (.ofNat n)] => cond (Nat.ble 1 n && Nat.ble n 140737488355328)
      (k (.slice (some ⟨h.length, 1, 0, 0⟩) (.n 0) .opn) (h ++ [.rows false (.int .u8) []]) []) none
  | _ => none
end
end Go.Sx

/- Calls that only add to memory. -/
set_option linter.unusedVariables false
namespace Go.Sx
open Go.RowKit
section
variable {P : Program} {B : Base} {ρ : Inj} {h : Heap} {w w' : World} {R : Type}

theorem Sim.below (S : Sim B ρ h w) (H : Below w.heap.size w w') : Sim B ρ h w' :=
  Stp.sim (i0 := h.length) (X := fun _ => False) ⟨.refl ρ, S.n, Nat.le_refl _, H.size, fun b hb _ => H.block b hb, fun _ h => h.elim,
    fun j bj hj hl hne => ⟨hj, rfl, fun _ _ h => h⟩, fun bi hbi hl => by simp at hbi, fun _ _ _ h => .inl h⟩ S
theorem Frm.below (H : Below w.heap.size w w') : Frm ρ h w ρ h w' :=
  ⟨Nat.le_refl _, ⟨fun _ _ => rfl, fun _ _ => rfl, fun _ _ _ h => h⟩, H.size, fun b hb _ => H.block b hb, fun i bi Li h1 h2 h3 => .inr ⟨i, bi, Li, h1, h2, h3, rfl⟩, H.tape, H.os, H.output⟩

/-- A call that changes nothing that there was, and hands back a value. -/
theorem CallOk.value {i : FuncId} {sp : Spec} {fn : Func} (hf : P.funcs[i]? = some fn) (hb' : fn.body.isSome = true) (hn : (fn.name == "runtime.NumGoroutine") = false)
    (H : ∀ (ρ : Inj) (h : Heap) (w : World) (args : List AVal) (vals : List Value) (R : Type) (k : AVal → Heap → List Nat → Option R) (r : R), Sim B ρ h w → VRs ρ args vals → sp R args h k = some r →
      ∃ v v', k v h [] = some r ∧ VR ρ v v' ∧ Calls P i vals.toArray w fun e w' => e = .returned v' ∧ Below w.heap.size w w') : CallOk P B i sp := by
  obtain ⟨c, hb⟩ := Option.isSome_iff_exists.1 hb'
  refine CallOk.of_calls hf hb hn fun ρ h w args vals R k r S hv he => ?_
  obtain ⟨v, v', h1, h2, h3⟩ := H ρ h w args vals R k r S hv he
  refine h3.mono fun e w' ⟨e1, e2⟩ => ⟨v', e1, ⟨v, h, [], ρ, h1, h2, S.below e2, Frm.below e2, fun _ _ _ => rfl⟩⟩
end
end Go.Sx

/- Library functions by the kit's contracts. -/
set_option linter.unusedVariables false
set_option maxRecDepth 100000
namespace Go.Sx
open Go.RowKit Go.Proofs
section
variable {B : Base} {ρ : Inj}

theorem idxB_eq (c : UInt8) : ∀ (l : List UInt8) (i : Nat), match idxB (c.toNat : Int) (l.map fun b => (b.toNat : Int)) i with
    | some j => 0 ≤ Lib.indexByte l c ∧ (j : Int) = i + Lib.indexByte l c
    | none => Lib.indexByte l c = -1
  | [], i => rfl
  | b :: l, i => by
    have ih := idxB_eq c l (i + 1)
    simp only [List.map_cons, idxB]
    by_cases hb : b = c
    · subst hb
      rw [if_pos rfl]
      simp [Lib.indexByte]
    · have h1 : ¬ ((b.toNat : Int) = (c.toNat : Int)) := fun h => hb (UInt8.toNat_inj.1 (by omega))
      have h2 : ¬ (b == c) = true := by simpa using hb
      rw [if_neg h1]
      have e : Lib.indexByte (b :: l) c = if Lib.indexByte l c == -1 then -1 else Lib.indexByte l c + 1 := by
        show (if (b == c) = true then _ else _) = _
        exact if_neg h2
      rw [e]
      cases hx : idxB (c.toNat : Int) (l.map fun b => (b.toNat : Int)) (i + 1) with
      | none =>
        rw [hx] at ih
        simp only at ih ⊢
        rw [ih]; rfl
      | some j =>
        rw [hx] at ih
        simp only at ih ⊢
        obtain ⟨g1, g2⟩ := ih
        have : ¬ (Lib.indexByte l c == -1) = true := by simp; omega
        rw [if_neg this]
        omega

theorem ok_IndexByte (E : Env) : CallOk Tryz.prog B 312 (spIndexByte E) := by
  refine CallOk.value (P := Tryz.prog) (i := 312) (fn := Tryz.f312) Tryz.func312 (by kernel_rfl) (by kernel_rfl) fun ρ h w args vals R k r S hv he => ?_
  unfold spIndexByte at he
  split at he <;> try contradiction
  rename_i l c
  cases hv with
  | cons v1 hv =>
    cases hv with
    | cons v2 hv =>
      cases hv
      obtain ⟨s, rfl, hs⟩ := v1.str_inv
      obtain ⟨rfl, hc⟩ := v2.int_inv
      subst hs
      have hc' : (((c.toNat.toUInt8).toNat : Nat) : Int) = c := by
        obtain ⟨h0, h1⟩ := hc
        simp only [IntKind.min, IntKind.max, IntKind.signed, IntKind.bits] at h0 h1
        have h2 : c.toNat < 256 := by simp at h1; omega
        simp at h0
        rw [show (c.toNat.toUInt8).toNat = c.toNat from by simp [Nat.toUInt8]; omega]
        omega
      have hq := idxB_eq (c.toNat.toUInt8) s.data.toList 0
      rw [hc'] at hq
      have hq' : match idxB c (bytesI s) 0 with
        | some j => 0 ≤ Lib.indexByte s.data.toList c.toNat.toUInt8 ∧ (j : Int) = ((0 : Nat) : Int) + Lib.indexByte s.data.toList c.toNat.toUInt8
        | none => Lib.indexByte s.data.toList c.toNat.toUInt8 = -1 := hq
      split at he
      · rename_i j hj
        rw [hj] at hq'
        obtain ⟨g1, g2⟩ := hq'
        have hcs := cond_some he
        obtain ⟨q1, q2⟩ := hcs
        have q1' := Nat.le_of_ble_eq_true q1
        refine ⟨_, _, q2, ?_, (Tryz.strings_IndexByte s c w).mono fun e w' ⟨e1, e2⟩ => ⟨e1, e2 ▸ Below.refl _ _⟩⟩
        rw [show Lib.indexByte s.data.toList c.toNat.toUInt8 = (j : Int) by omega]
        refine .int ⟨?_, ?_⟩ <;> simp only [IntKind.min, IntKind.max, IntKind.signed, IntKind.bits] <;> simp <;> omega
      · rename_i hj
        rw [hj] at hq'
        refine ⟨_, _, he, ?_, (Tryz.strings_IndexByte s c w).mono fun e w' ⟨e1, e2⟩ => ⟨e1, e2 ▸ Below.refl _ _⟩⟩
        rw [show Lib.indexByte s.data.toList c.toNat.toUInt8 = -1 from hq']
        exact .int ⟨by decide, by decide⟩
end
end Go.Sx

/- Numbers in words. -/
set_option linter.unusedVariables false
set_option maxRecDepth 100000
namespace Go.Sx
open Go.RowKit Go.Proofs
section
variable {B : Base} {ρ : Inj}

theorem digit_toNat {d : Nat} (h : d < 10) : (((UInt8.ofNat (48 + d)).toNat : Nat) : Int) = Int.ofNat (Nat.add 48 d) := by
  have : (UInt8.ofNat (48 + d)).toNat = 48 + d := by simp [UInt8.toNat_ofNat']; omega
  rw [this]; rfl
theorem digits_eq : ∀ (f u : Nat) (a : List Int), u < 10 ^ f → 0 < f → revA (digitsR f u) a = (Lib.decDigits u).map (fun b => ((b.toNat : Nat) : Int)) ++ a
  | 0, u, a, h, h0 => by omega
  | f + 1, u, a, h, _ => by
    unfold digitsR
    rw [Lib.decDigits]
    cases hb : Nat.blt u 10 with
    | true =>
      have hu : u < 10 := Nat.le_of_ble_eq_true hb
      rw [cond_true, dif_pos hu]
      simp only [revA, List.map_cons, List.map_nil, List.cons_append, List.nil_append]
      rw [digit_toNat hu]
    | false =>
      have hu : ¬ u < 10 := fun hlt => by
        have : Nat.blt u 10 = true := Nat.ble_eq_true_of_le hlt
        rw [this] at hb; cases hb
      rw [cond_false, dif_neg hu]
      have hf : 0 < f := by
        rcases Nat.eq_zero_or_pos f with rfl | hf
        · simp at h; omega
        · exact hf
      have hlt : u / 10 < 10 ^ f := by
        rw [Nat.pow_succ] at h
        exact Nat.div_lt_of_lt_mul (by omega)
      simp only [revA]
      rw [show Nat.div u 10 = u / 10 from rfl, digits_eq f (u / 10) _ hlt hf, List.map_append, List.append_assoc]
      simp only [List.map_cons, List.map_nil, List.cons_append, List.nil_append]
      rw [digit_toNat (Nat.mod_lt _ (by decide))]
      rfl
theorem decI_eq {n : Int} (h0 : -9223372036854775808 ≤ n) (h1 : n ≤ 9223372036854775807) : decI n = (Lib.itoa n).map fun b => ((b.toNat : Nat) : Int) := by
  unfold decI Lib.itoa
  cases n with
  | ofNat u =>
    have hu : ¬ (Int.ofNat u < 0) := by simp
    rw [if_neg hu]
    have : u < 10 ^ 20 := by
      have : (u : Int) ≤ 9223372036854775807 := h1
      omega
    simp only [digits_eq 20 u [] this (by decide), List.append_nil]
    rfl
  | negSucc u =>
    rw [if_pos (Int.negSucc_lt_zero u)]
    have : u + 1 < 10 ^ 20 := by omega
    simp only [digits_eq 20 (u + 1) [] this (by decide), List.append_nil, List.map_cons]
    rfl

/-- The powers of ten lie in the base. -/
def Pow10 (B : Base) : Prop := ∀ w : World, (∀ b, b < B.n → w.heap[b]? = B.w.heap[b]?) → Lib.TabIs Tryz.prog w "internal/strconv.uint64pow10" .u64 Lib.pow10Tab

theorem bytesI_mk (l : List UInt8) : bytesI ⟨l.toArray⟩ = l.map fun b => ((b.toNat : Nat) : Int) := by simp [bytesI]
theorem ok_Format (hB : Pow10 B) (E : Env) : CallOk Tryz.prog B 257 (spFormat E) := by
  refine CallOk.value (P := Tryz.prog) (i := 257) (fn := Tryz.f257) Tryz.func257 (by kernel_rfl) (by kernel_rfl) fun ρ h w args vals R k r S hv he => ?_
  unfold spFormat at he
  split at he <;> try contradiction
  rename_i n
  cases hv with
  | cons v1 hv =>
    cases hv with
    | cons v2 hv =>
      cases hv
      obtain ⟨rfl, hn⟩ := v1.int_inv
      obtain ⟨rfl, _⟩ := v2.int_inv
      obtain ⟨h0, h1⟩ := hn
      simp only [IntKind.min, IntKind.max, IntKind.signed, IntKind.bits] at h0 h1
      have h0' : -9223372036854775808 ≤ n := by simpa using h0
      have h1' : n ≤ 9223372036854775807 := by simpa using h1
      refine ⟨_, _, he, .str (s := ⟨(Lib.itoa n).toArray⟩) (by rw [bytesI_mk, decI_eq h0' h1']), (Tryz.internal_strconv_FormatInt_10 n h0' h1' w (hB w S.base)).mono fun e w' ⟨e1, k', os, e2⟩ => ⟨e1, ?_⟩⟩
      subst e2
      refine ⟨rfl, rfl, rfl, ?_, fun b hb => ?_⟩
      · show w.heap.size ≤ (w.heap ++ os).size
        simp
      · show (w.heap ++ os)[b]? = w.heap[b]?
        rw [Array.getElem?_append_left hb]

theorem nDig_eq : ∀ (f u : Nat), u < 10 ^ f → 0 < f → nDigF f u = Lib.nDigits u ∧ nDigF f u ≤ f
  | 0, u, h, h0 => by omega
  | f + 1, u, h, _ => by
    unfold nDigF
    rw [Lib.nDigits]
    cases hb : Nat.blt u 10 with
    | true =>
      have hu : u < 10 := Nat.le_of_ble_eq_true hb
      rw [cond_true, dif_pos hu]
      exact ⟨rfl, by omega⟩
    | false =>
      have hu : ¬ u < 10 := fun hlt => by
        have : Nat.blt u 10 = true := Nat.ble_eq_true_of_le hlt
        rw [this] at hb; cases hb
      rw [cond_false, dif_neg hu]
      have hf : 0 < f := by
        rcases Nat.eq_zero_or_pos f with rfl | hf
        · simp at h; omega
        · exact hf
      have hlt : u / 10 < 10 ^ f := by
        rw [Nat.pow_succ] at h
        exact Nat.div_lt_of_lt_mul (by omega)
      obtain ⟨h1, h2⟩ := nDig_eq f (u / 10) hlt hf
      rw [show Nat.div u 10 = u / 10 from rfl]
      exact ⟨by rw [h1], by omega⟩
theorem ok_NumDigits (hB : Pow10 B) (E : Env) : CallOk Tryz.prog B 307 (spNumDigits E) := by
  refine CallOk.value (P := Tryz.prog) (i := 307) (fn := Tryz.f307) Tryz.func307 (by kernel_rfl) (by kernel_rfl) fun ρ h w args vals R k r S hv he => ?_
  unfold spNumDigits at he
  split at he <;> try contradiction
  rename_i u
  cases hv with
  | cons v1 hv =>
    cases hv
    obtain ⟨rfl, hn⟩ := v1.int_inv
    obtain ⟨_, h1⟩ := hn
    simp only [IntKind.max, IntKind.signed, IntKind.bits] at h1
    have h1' : u < 18446744073709551616 := by
      have : (Int.ofNat u) ≤ 18446744073709551615 := by simpa using h1
      have e : (Int.ofNat u) = (u : Int) := rfl
      omega
    obtain ⟨q1, q2⟩ := cond_some he
    have h0 : 1 ≤ u := Nat.le_of_ble_eq_true q1
    obtain ⟨g1, g2⟩ := nDig_eq 20 u (by omega) (by decide)
    have hcall := (Tryz.internal_strconv_numDigits u h0 h1' w (hB w S.base)).mono (fun e w' ⟨e1, e2⟩ => (⟨e1, e2 ▸ Below.refl _ _⟩ : e = _ ∧ Below w.heap.size w w'))
    refine ⟨_, _, q2, ?_, hcall⟩
    rw [← g1]
    refine .int ⟨?_, ?_⟩ <;> simp only [IntKind.min, IntKind.max, IntKind.signed, IntKind.bits] <;> simp <;> omega
end
end Go.Sx

/- Calls that make a block; maps' clone, which has no text. -/
set_option linter.unusedVariables false
set_option maxRecDepth 100000
namespace Go.Sx
open Go.RowKit Go.Proofs
section
variable {P : Program} {B : Base} {ρ : Inj} {h : Heap} {w : World}

/-- What comes behind a call that makes one block at the end of memory, or with more behind it. -/
theorem CAft.block {R : Type} (S : Sim B ρ h w) {b : Blk} {w' : World} {L : Loc} (hL : L.blk = w.heap.size) (H : Below w.heap.size w w') {v : AVal} {v' : Value} {k : AVal → Heap → List Nat → Option R} {r : R} (hk : k v (h ++ [b]) [] = some r)
    (h8 : ∀ hi : h.length < (ρ.add b.count).n, VR ((ρ.add b.count).put h.length hi L) v v' ∧ BR ((ρ.add b.count).put h.length hi L) w' h.length b) : CAft B ρ h w k r v' w' := by
  have hid : h.length < (ρ.add b.count).n := by simp [Inj.add, S.n]
  have hno : (ρ.add b.count).loc h.length = none := ρ.dom _ (by rw [S.n]; exact Nat.le_refl _)
  obtain ⟨g1, g2⟩ := h8 hid
  have hb : (h ++ [b])[h.length]? = some b := by simp
  have hS := Sim.born (S.add b) hb hid hno hL H.size H.block g2
  have hF := Frm.born (S.frm_add b) hid (Nat.le_refl _) hL H.size H.block H.tape H.os H.output
  exact ⟨v, _, [], _, hk, g1, hS, hF, fun i hi _ => getB_app hi⟩

theorem callFunc_extern {i : FuncId} {fn : Func} (hf : P.funcs[i]? = some fn) (hb : fn.body.isNone = true) (hn : (fn.name == "runtime.NumGoroutine") = false) (h1 : (Extern.findNext fn).isNone = true) {e : Array Value → Sem Value} (h2 : Extern.find fn = some e)
    (args : Array Value) : (callFunc i args).run P w = ((e args).run P w).andThen fun v w' => .ok (.value v) w' := by
  have h1' : Extern.findNext fn = none := by simpa using h1
  have hn' : ¬ (fn.name = "runtime.NumGoroutine") := by simpa using hn
  have hb' : fn.body = none := by simpa using hb
  unfold callFunc
  simp [hf, hn', hb', h1', h2]

theorem MR.mono' {ρ' : Inj} (hx : ρ.ext ρ') {k v : RT} {l : List (k.T × v.T)} {el : List MapEntry} (h : MR ρ k v l el) : MR ρ' k v l el := by
  induction h with
  | nil => exact .nil
  | cons a1 a2 a3 a4 _ ih => exact .cons (a1.mono hx) (a2.mono hx) a3 a4 ih
theorem ok_MapClone (E : Env) : CallOk Tryz.prog B 168 (spMapClone E) := by
  intro ρ h w args vals R k r S hv he o a next Q hnext
  unfold spMapClone at he
  split at he <;> try contradiction
  rename_i t rr
  split at he <;> try contradiction
  rename_i kt vt l hb
  cases hv with
  | cons v1 hv =>
    cases hv
    cases v1 with
    | ifc v2 =>
      cases v2 with
      | map hL =>
        rename_i L
        obtain ⟨es, clock, q2, q3, q4⟩ := S.blk _ _ (getB_some hb rfl) _ hL
        have hrun : (Extern.MapsClone.clone #[.iface t (.map (some L.blk))]).run Tryz.prog w = .ok (.iface t (.map (some w.heap.size))) (w.alloc (.map es clock)) := by
          have hget : (getObj L.blk).run Tryz.prog w = .ok (.map es clock) w := by simp [getObj, Sem.run, q2]
          have e : Extern.MapsClone.clone #[.iface t (.map (some L.blk))] = (do
              match ← getObj L.blk with
              | .map entries clock => pure (.iface t (.map (some (← newObj (.map entries clock)))))
              | _ => stuck "maps.clone: a map expected") := rfl
          rw [e]
          simp [hget]
        rw [callFunc_extern (i := 168) (fn := Tryz.f168) Tryz.func168 (by kernel_rfl) (by kernel_rfl) (by kernel_rfl) (e := Extern.MapsClone.clone) (by kernel_rfl), hrun, Result.andThen_ok, Oper.upon_value]
        refine hnext _ _ (CAft.block S (L := ⟨w.heap.size, 0, 0⟩) rfl (Below.alloc (Below.refl _ _) (Nat.le_refl _) _) he fun hi => ⟨?_, ?_⟩)
        · exact .ifc (.map (L := ⟨w.heap.size, 0, 0⟩) (by simp [Inj.put]))
        · intro L' hL'
          have : L' = ⟨w.heap.size, 0, 0⟩ := by simpa [Inj.put] using hL'.symm
          subst this
          refine ⟨es, clock, by simp [-World.alloc_eq, World.alloc], ?_, q4⟩
          have hext : ρ.ext ((ρ.add (Blk.mp kt vt l).count).put h.length hi ⟨w.heap.size, 0, 0⟩) :=
            (ρ.add_ext _).trans (Inj.put_ext hi _ (ρ.dom _ (by rw [S.n]; exact Nat.le_refl _)))
          exact MR.mono' hext q3
end
end Go.Sx

/- bytealg's functions, which have no text. -/
set_option linter.unusedVariables false
set_option maxRecDepth 100000
namespace Go.Sx
open Go.RowKit Go.Proofs
section
variable {P : Program} {B : Base}

/-- A function without a text that changes nothing. -/
theorem CallOk.extern {i : FuncId} {sp : Spec} {fn : Func} (hf : P.funcs[i]? = some fn) (hb : fn.body.isNone = true) (hn : (fn.name == "runtime.NumGoroutine") = false) (h1 : (Extern.findNext fn).isNone = true) {e : Array Value → Sem Value} (h2 : Extern.find fn = some e)
    (H : ∀ (ρ : Inj) (h : Heap) (w : World) (args : List AVal) (vals : List Value) (R : Type) (k : AVal → Heap → List Nat → Option R) (r : R), Sim B ρ h w → VRs ρ args vals → sp R args h k = some r →
      ∃ v v', k v h [] = some r ∧ VR ρ v v' ∧ (e vals.toArray).run P w = .ok v' w) : CallOk P B i sp := by
  intro ρ h w args vals R k r S hv he o a next Q hnext
  obtain ⟨v, v', g1, g2, g3⟩ := H ρ h w args vals R k r S hv he
  rw [callFunc_extern hf hb hn h1 h2, g3, Result.andThen_ok, Oper.upon_value]
  exact hnext _ _ ⟨v, h, [], ρ, g1, g2, S, Frm.refl, fun _ _ _ => rfl⟩

theorem ok_IndexByteS (E : Env) : CallOk Tryz.prog B 344 (spIndexByte E) := by
  refine CallOk.extern (P := Tryz.prog) (i := 344) (fn := Tryz.f344) Tryz.func344 (by kernel_rfl) (by kernel_rfl) (by kernel_rfl) (e := Extern.BytealgIndexByte.indexByte) (by kernel_rfl) fun ρ h w args vals R k r S hv he => ?_
  unfold spIndexByte at he
  split at he <;> try contradiction
  rename_i l c
  cases hv with
  | cons v1 hv =>
    cases hv with
    | cons v2 hv =>
      cases hv
      obtain ⟨s, rfl, hs⟩ := v1.str_inv
      obtain ⟨rfl, hc⟩ := v2.int_inv
      subst hs
      have hc' : (((c.toNat.toUInt8).toNat : Nat) : Int) = c := by
        obtain ⟨h0, h1⟩ := hc
        simp only [IntKind.min, IntKind.max, IntKind.signed, IntKind.bits] at h0 h1
        have h2 : c.toNat < 256 := by simp at h1; omega
        simp at h0
        rw [show (c.toNat.toUInt8).toNat = c.toNat from by simp [Nat.toUInt8]; omega]
        omega
      have hq := idxB_eq (c.toNat.toUInt8) s.data.toList 0
      rw [hc'] at hq
      have hq' : match idxB c (bytesI s) 0 with
        | some j => 0 ≤ Lib.indexByte s.data.toList c.toNat.toUInt8 ∧ (j : Int) = ((0 : Nat) : Int) + Lib.indexByte s.data.toList c.toNat.toUInt8
        | none => Lib.indexByte s.data.toList c.toNat.toUInt8 = -1 := hq
      split at he
      · rename_i j hj
        rw [hj] at hq'
        obtain ⟨g1, g2⟩ := hq'
        obtain ⟨q1, q2⟩ := cond_some he
        have q1' := Nat.le_of_ble_eq_true q1
        refine ⟨_, _, q2, ?_, Lib.run_indexByteString s c w⟩
        rw [show Lib.indexByte s.data.toList c.toNat.toUInt8 = (j : Int) by omega]
        refine .int ⟨?_, ?_⟩ <;> simp only [IntKind.min, IntKind.max, IntKind.signed, IntKind.bits] <;> simp <;> omega
      · rename_i hj
        rw [hj] at hq'
        refine ⟨_, _, he, ?_, Lib.run_indexByteString s c w⟩
        rw [show Lib.indexByte s.data.toList c.toNat.toUInt8 = -1 from hq']
        exact .int ⟨by decide, by decide⟩

theorem cntB_eq (c : UInt8) : ∀ (l : List UInt8) (n : Nat), cntB (c.toNat : Int) (l.map fun b => (b.toNat : Int)) n = n + Lib.countByte l c
  | [], n => rfl
  | b :: l, n => by
    simp only [List.map_cons, cntB]
    unfold Lib.countByte
    rw [List.count_cons]
    by_cases hb : b = c
    · subst hb
      rw [if_pos rfl, cntB_eq b l (n + 1)]
      simp [Lib.countByte]; omega
    · have h1 : ¬ ((b.toNat : Int) = (c.toNat : Int)) := fun h => hb (UInt8.toNat_inj.1 (by omega))
      rw [if_neg h1, cntB_eq c l n]
      have h2 : ¬ (b == c) = true := by simpa using hb
      rw [if_neg h2]; rfl
theorem u8_back {c : Int} (hc : IntKind.u8.has c) : (((c.toNat.toUInt8).toNat : Nat) : Int) = c := by
  obtain ⟨h0, h1⟩ := hc
  simp only [IntKind.min, IntKind.max, IntKind.signed, IntKind.bits] at h0 h1
  have h2 : c.toNat < 256 := by simp at h1; omega
  simp at h0
  rw [show (c.toNat.toUInt8).toNat = c.toNat from by simp [Nat.toUInt8]; omega]
  omega
theorem ok_CountS (E : Env) : CallOk Tryz.prog B 301 (spCount E) := by
  refine CallOk.extern (P := Tryz.prog) (i := 301) (fn := Tryz.f301) Tryz.func301 (by kernel_rfl) (by kernel_rfl) (by kernel_rfl) (e := Extern.BytealgCount.count) (by kernel_rfl) fun ρ h w args vals R k r S hv he => ?_
  unfold spCount at he
  split at he <;> try contradiction
  rename_i l c
  cases hv with
  | cons v1 hv =>
    cases hv with
    | cons v2 hv =>
      cases hv
      obtain ⟨s, rfl, hs⟩ := v1.str_inv
      obtain ⟨rfl, hc⟩ := v2.int_inv
      subst hs
      obtain ⟨q1, q2⟩ := cond_some he
      have q1' := Nat.le_of_ble_eq_true q1
      have e : cntB c (bytesI s) 0 = Lib.countByte s.data.toList c.toNat.toUInt8 := by
        have := cntB_eq (c.toNat.toUInt8) s.data.toList 0
        rw [u8_back hc, Nat.zero_add] at this
        exact this
      refine ⟨_, _, q2, ?_, Lib.run_countString s c w⟩
      rw [← e]
      generalize cntB c (bytesI s) 0 = n at q1'
      refine .int ⟨?_, ?_⟩ <;> simp only [IntKind.min, IntKind.max, IntKind.signed, IntKind.bits] <;> simp <;> omega

def add64 : Array Value → Sem Value := fun args => do
    let (x, y, c) ← Extern.MathBitsCarry.three "Add64" args
    pure (Extern.MathBitsCarry.pair ((x + y + c) % Extern.MathBitsCarry.m64) ((x + y + c) / Extern.MathBitsCarry.m64))
theorem add64_run (x y : Nat) : add64 #[.int .u64 (Int.ofNat x), .int .u64 (Int.ofNat y), .int .u64 (Int.ofNat 0)] =
    pure (.tuple #[.int .u64 (Int.ofNat ((x + y) % 18446744073709551616)), .int .u64 (Int.ofNat ((x + y) / 18446744073709551616))]) := by kernel_rfl
theorem ok_Add64 (E : Env) : CallOk Tryz.prog B 248 (spAdd64 E) := by
  refine CallOk.extern (P := Tryz.prog) (i := 248) (fn := Tryz.f248) Tryz.func248 (by kernel_rfl) (by kernel_rfl) (by kernel_rfl) (e := add64) (by kernel_rfl) fun ρ h w args vals R k r S hv he => ?_
  unfold spAdd64 at he
  split at he <;> try contradiction
  rename_i x y
  cases hv with
  | cons v1 hv =>
    cases hv with
    | cons v2 hv =>
      cases hv with
      | cons v3 hv =>
        cases hv
        obtain ⟨rfl, hx⟩ := v1.int_inv
        obtain ⟨rfl, hy⟩ := v2.int_inv
        obtain ⟨rfl, _⟩ := v3.int_inv
        have bound : ∀ {n : Nat}, IntKind.u64.has (Int.ofNat n) → n < 18446744073709551616 := by
          intro n hn
          obtain ⟨_, h1⟩ := hn
          simp only [IntKind.max, IntKind.signed, IntKind.bits] at h1
          have : (Int.ofNat n) ≤ 18446744073709551615 := by simpa using h1
          have e : (Int.ofNat n) = (n : Int) := rfl
          omega
        have hx' := bound hx
        have hy' := bound hy
        have has : ∀ {n : Nat}, n < 18446744073709551616 → IntKind.u64.has (Int.ofNat n) := by
          intro n hn
          have e : (Int.ofNat n) = (n : Int) := rfl
          rw [e]
          refine ⟨?_, ?_⟩ <;> simp only [IntKind.min, IntKind.max, IntKind.signed, IntKind.bits] <;> simp <;> omega
        refine ⟨_, .tuple #[.int .u64 (Int.ofNat ((x + y) % 18446744073709551616)), .int .u64 (Int.ofNat ((x + y) / 18446744073709551616))], he, ?_, ?_⟩
        · refine .tup (l' := [_, _]) (.cons (.int (has ?_)) (.cons (.int (has ?_)) .nil))
          · exact Nat.mod_lt _ (by decide)
          · show (x + y) / 18446744073709551616 < _
            omega
        · have e := add64_run x y
          show (add64 #[.int .u64 (Int.ofNat x), .int .u64 (Int.ofNat y), .int .u64 (Int.ofNat 0)]).run Tryz.prog w = _
          rw [e]
          rfl
end
end Go.Sx

/- strings.Join, strings.Repeat by the kit's contracts. -/
set_option linter.unusedVariables false
set_option maxRecDepth 100000
namespace Go.Sx
open Go.RowKit Go.Proofs
section
variable {B : Base} {ρ : Inj}

theorem repB_eq (l : List UInt8) : ∀ n, (Lib.repeatL l n).map (fun b => ((b.toNat : Nat) : Int)) = repB (l.map fun b => ((b.toNat : Nat) : Int)) n
  | 0 => rfl
  | n + 1 => by simp only [Lib.repeatL, repB, List.map_append, repB_eq l n]
theorem bytesI_length (s : ByteArray) : (bytesI s).length = s.size := by unfold bytesI; rw [List.length_map, Array.length_toList]; rfl
theorem ok_Repeat (E : Env) : CallOk Tryz.prog B 273 (spRepeat E) := by
  refine CallOk.value (P := Tryz.prog) (i := 273) (fn := Tryz.f273) Tryz.func273 (by kernel_rfl) (by kernel_rfl) fun ρ h w args vals R k r S hv he => ?_
  unfold spRepeat at he
  split at he <;> try contradiction
  rename_i l n
  cases hv with
  | cons v1 hv =>
    cases hv with
    | cons v2 hv =>
      cases hv
      obtain ⟨s, rfl, hs⟩ := v1.str_inv
      obtain ⟨rfl, hc⟩ := v2.int_inv
      subst hs
      obtain ⟨q1, q2⟩ := cond_some he
      rw [Bool.and_eq_true] at q1
      have g1 : (bytesI s).length * n ≤ 140737488355328 := Nat.le_of_ble_eq_true q1.1
      have g2 : n ≤ 9223372036854775807 := Nat.le_of_ble_eq_true q1.2
      rw [bytesI_length] at g1
      refine ⟨_, _, q2, .str (s := ⟨(Lib.repeatL s.data.toList n).toArray⟩) ?_, Tryz.strings_Repeat s n w g2 g1⟩
      rw [bytesI_mk, repB_eq]; rfl

theorem strs_of : ∀ {xs : List (List Int)} {news : List Value}, CR ρ (encs .str xs) news → ∃ ss : List ByteArray, news = ss.map .string ∧ xs = ss.map bytesI
  | [], news, h => by
    have h' : CR ρ [] news := h
    cases h'
    exact ⟨[], rfl, rfl⟩
  | x :: xs, news, h => by
    have h' : CR ρ (.str x :: encs .str xs) news := h
    cases h' with
    | one h1 hs hw t =>
      obtain ⟨s, rfl, e⟩ := h1.str_inv
      obtain ⟨ss, rfl, e2⟩ := strs_of t
      exact ⟨s :: ss, rfl, by rw [List.map_cons, e, e2]⟩
theorem joinB_eq (sep : List UInt8) : ∀ xs : List (List UInt8), (Lib.join xs sep).map (fun b => ((b.toNat : Nat) : Int)) = joinB (sep.map fun b => ((b.toNat : Nat) : Int)) (xs.map fun x => x.map fun b => ((b.toNat : Nat) : Int))
  | [] => rfl
  | [x] => by simp [Lib.join, List.intercalate, joinB]
  | x :: y :: r => by
    have ih := joinB_eq sep (y :: r)
    have e : Lib.join (x :: y :: r) sep = x ++ (sep ++ Lib.join (y :: r) sep) := by simp [Lib.join, List.intercalate]
    rw [e, List.map_append, List.map_append, ih]
    rfl
theorem ok_Join (E : Env) : CallOk Tryz.prog B 313 (spJoin E) := by
  refine CallOk.value (P := Tryz.prog) (i := 313) (fn := Tryz.f313) Tryz.func313 (by kernel_rfl) (by kernel_rfl) fun ρ h w args vals R k r S hv he => ?_
  unfold spJoin at he
  split at he <;> try contradiction
  rename_i p n c sepL
  split at he <;> try contradiction
  rename_i ok l hsrc
  obtain ⟨q1, q2⟩ := cond_some he
  simp only [Bool.and_eq_true] at q1
  obtain ⟨rfl, q3, q4, q5⟩ := q1
  have g1 : 1 ≤ l.length := Nat.le_of_ble_eq_true q3
  have g2 : l.length ≤ 140737488355328 := Nat.le_of_ble_eq_true q4
  have g3 : (joinB sepL l).length ≤ 140737488355328 := Nat.le_of_ble_eq_true q5
  cases hv with
  | cons v1 hv =>
    cases hv with
    | cons v2 hv =>
      cases hv
      obtain ⟨sep, rfl, hs⟩ := v2.str_inv
      subst hs
      obtain ⟨news, n1, n2, n3, n4⟩ := srcRows_slice (P := Tryz.prog) S v1 hsrc (tx := 9) (.inr (by kernel_rfl))
      clear n2
      obtain ⟨ss, rfl, rfl⟩ := strs_of n1
      have hV := v1.slV
      cases hV with
      | nought ad hp hn hc' => omega
      | there hL hn hc' hr =>
        rename_i L cc
        have hlies := n4 L hL
        have hlen : ss.length = ρ.len p n := by rw [← n3, List.length_map]
        have hcells : ∀ (j : Nat) x, ss[j]? = some x → w.cell? ⟨L.blk, L.base + (p.row * p.rs + p.off) + j, none⟩ = some (.string x) := fun j x hx => hlies j (.string x) (by rw [List.getElem?_map, hx]; rfl)
        have hbk : L.blk < w.heap.size := by
          rw [List.length_map] at g1
          have := hcells 0 ss[0] (List.getElem?_eq_getElem (by omega))
          exact World.block_lt_of_cell? _ _ this
        have hj : (Lib.join (ss.map (·.data.toList)) sep.data.toList).map (fun b => ((b.toNat : Nat) : Int)) = joinB (bytesI sep) (ss.map bytesI) := by
          rw [joinB_eq, List.map_map]; rfl
        have hjl : (Lib.join (ss.map (·.data.toList)) sep.data.toList).length ≤ 140737488355328 := by
          rw [← hj, List.length_map] at g3; exact g3
        have g2' : ss.length ≤ 140737488355328 := by rw [List.length_map] at g2; exact g2
        have hcap : ss.length ≤ cc := by rw [hlen]; exact hn
        have hcall := Tryz.strings_Join L.blk (L.base + (p.row * p.rs + p.off)) cc ss sep w hcells hbk g2' hcap hjl
        rw [hlen] at hcall
        refine ⟨_, _, q2, .str (s := ⟨(Lib.join (ss.map (·.data.toList)) sep.data.toList).toArray⟩) ?_, hcall⟩
        rw [bytesI_mk, hj]
end
end Go.Sx

/- slices.Grow of a nil slice of bytes. -/
set_option linter.unusedVariables false
set_option maxRecDepth 100000
namespace Go.Sx
open Go.RowKit Go.Proofs
section
variable {B : Base} {ρ : Inj}

theorem zeroCells_size (z : Array Value) (n : Nat) : (Builtin.zeroCells z n).size = n * z.size := by simp [Builtin.zeroCells]
theorem info5 : ∃ i0, Tryz.prog.info? 5 = some i0 ∧ i0.zero = some (.int .u8 0) ∧ i0.size = 1 ∧ i0.bytes = 1 := by
  have h : (Tryz.prog.info? 5).map (fun i => (i.zero, i.size, i.bytes)) = some (some (.int .u8 0), 1, 1) := by kernel_rfl
  obtain ⟨i0, h1, h2⟩ := Option.map_eq_some_iff.1 h
  simp only [Prod.mk.injEq] at h2
  exact ⟨i0, h1, h2.1, h2.2.1, h2.2.2⟩
theorem ok_Grow (E : Env) : CallOk Tryz.prog B 314 (spGrow E) := by
  obtain ⟨c, hb⟩ := Option.isSome_iff_exists.1 (show Tryz.f314.body.isSome = true by kernel_rfl)
  refine CallOk.of_calls (P := Tryz.prog) (i := 314) (fn := Tryz.f314) Tryz.func314 hb (by kernel_rfl) fun ρ h w args vals R k r S hv he => ?_
  unfold spGrow at he
  split at he <;> try contradiction
  rename_i cp n
  cases hv with
  | cons v1 hv =>
    cases hv with
    | cons v2 hv =>
      cases hv
      cases v1 with
      | nils _ hfit =>
        obtain ⟨rfl, _⟩ := v2.int_inv
        obtain ⟨q1, q2⟩ := cond_some he
        rw [Bool.and_eq_true] at q1
        have g1 : 1 ≤ n := Nat.le_of_ble_eq_true q1.1
        have g2 : n ≤ 140737488355328 := Nat.le_of_ble_eq_true q1.2
        obtain ⟨i0, hi, hz, hs, hbt⟩ := info5
        have hcall := Any8.slices_Grow_grow Tryz.growB i0 (.int .u8 0) hi hz (by omega) none 0 0 n [] w (Nat.le_refl _) (by omega) (by rw [hbt]; omega) (by omega) (by simp) (fun _ => rfl) (fun a ha => by cases ha)
        refine hcall.mono fun e w' ⟨e1, e2⟩ => ⟨_, e1, ?_⟩
        subst e2
        have hge : n ≤ grownCap w (0 + n) 0 5 := by
          have := grownCap_ge w (0 + n) 0 5
          omega
        show CAft B ρ h w k r (.slice (some ⟨w.heap.size, 0, none⟩) 0 (grownCap w (0 + n) 0 5)) (w.drew.alloc (.cells (([] : List Value).toArray ++ Builtin.zeroCells (Value.int .u8 0).cells (0 + n - 0) ++ Builtin.zeroCells (Value.int .u8 0).cells (grownCap w (0 + n) 0 5 - (0 + n))) 5))
        generalize grownCap w (0 + n) 0 5 = G at hge
        have hcs : (([] : List Value).toArray ++ Builtin.zeroCells (Value.int .u8 0).cells (0 + n - 0) ++ Builtin.zeroCells (Value.int .u8 0).cells (G - (0 + n))).size = G := by
          have h1 : (Value.int .u8 0).cells.size = 1 := rfl
          rw [Array.size_append, Array.size_append, zeroCells_size, zeroCells_size, h1]
          simp; omega
        generalize (([] : List Value).toArray ++ Builtin.zeroCells (Value.int .u8 0).cells (0 + n - 0) ++ Builtin.zeroCells (Value.int .u8 0).cells (G - (0 + n))) = cs at hcs
        have hsz : w.drew.heap.size = w.heap.size := rfl
        refine CAft.block S (L := ⟨w.heap.size, 0, G⟩) rfl (Below.alloc (Below.drew (Below.refl _ _)) (Nat.le_refl _) _) q2 fun hi' => ⟨?_, ?_, fun L' hL' => ?_⟩
        · have := VR.slice (ρ := (ρ.add (Blk.rows false (.int .u8) []).count).put h.length hi' ⟨w.heap.size, 0, G⟩) (p := ⟨h.length, 1, 0, 0⟩) (n := .n 0) (c := .opn) (L := ⟨w.heap.size, 0, G⟩) (c' := G) (by simp [Inj.put]) (by simp [Inj.len]) (by simp [Cap.fits, Inj.len]) (fun _ => ⟨rfl, by simp⟩)
          simpa [Inj.len] using this
        · simp [Inj.put, Inj.add, S.n, Blk.count]
        · have hLe : L' = ⟨w.heap.size, 0, G⟩ := by simpa [Inj.put] using hL'.symm
          subst hLe
          refine ⟨fun i x hx => by simp at hx, by simp [-World.alloc_eq, World.alloc, hsz], fun _ => ⟨by simp, ?_⟩⟩
          have := alloc_free w.drew cs 5 (0, 0) (.inr rfl)
          rw [hcs] at this
          exact this
end
end Go.Sx

/- Walks of the model's own text: mix.best over a map of at most one entry; slices.AppendSeq of an empty map's keys. -/
set_option linter.unusedSimpArgs false
set_option linter.unusedVariables false
namespace Go.Proofs
open Go.RowKit
def zn4 : Obj := .cells #[.int .i64 0, .int .i64 0, .int .i64 0, .int .i64 0] 23
theorem leftOf_nil (seen : Array Nat) : (leftOf #[] seen).size = 0 := by simp [leftOf]
set_option maxRecDepth 1000000 in
/-- mix.best over a map that is empty. -/
theorem best0 (b o : Nat) (bm clock : Nat) (w : World) (hlt : b < w.heap.size) (hc : w.cell? ⟨b, o + 14, none⟩ = some (.map (some bm))) (hb : w.heap[bm]? = some (.map #[] clock)) :
    Calls Tryz.prog 208 #[.pointer (some ⟨b, o, none⟩)] w fun e w' => e = .returned (.agg #[.int .i64 0, .int .i64 0, .int .i64 0, .int .i64 0]) ∧ Below w.heap.size w w' := by
  obtain ⟨w2, hw2⟩ : ∃ w2, (w.alloc zn4).alloc zn4 = w2 := ⟨_, rfl⟩
  have hbl : bm < w.heap.size := (Array.getElem?_eq_some_iff.1 hb).1
  have hs2 : w2.heap.size = w.heap.size + 2 := by rw [← hw2]; simp
  have hbw : Below w.heap.size w w2 := by rw [← hw2]; exact ((Below.refl _ w).alloc (Nat.le_refl _) _).alloc (by simp) _
  have hc2 : w2.cell? ⟨b, o + 14, none⟩ = some (.map (some bm)) := (hbw.cell (p := ⟨b, o + 14, none⟩) hlt).trans hc
  have hb2 : w2.heap[bm]? = some (.map #[] clock) := (hbw.block bm hbl).trans hb
  have hrg := run_range_map (P := Tryz.prog) w2 337 _ _ bm #[] clock Tryz.underlying337 hb2
  have hnx : ∀ ty, (Instr.next (.pointer (some ⟨w2.heap.size, 0, none⟩)) false ty).run Tryz.prog (w2.alloc (.mapIter (some bm) clock #[] clock)) = .ok (.tuple #[.bool false]) (w2.alloc (.mapIter (some bm) clock #[] clock)) := by
    intro ty
    rcases run_next_map (P := Tryz.prog) w2 ty bm clock clock #[] #[] clock hb2 (fun x hx => by simp at hx) (Nat.le_refl _) with ⟨_, h⟩ | ⟨e, he, _⟩
    · exact h
    · simp [leftOf] at he
  simp only [hs2] at hnx
  have hc3 := hc2
  clear hc2 hb2 hbw
  subst hw2
  simp only [zn4] at hrg hnx hc3
  go_enter Tryz.func208, Tryz.ntmps208
  go_wp2
  refine wp_loop_rounds 1 ?_
  rw [rounds_succ]
  go_wp2

  have hsz : (((w.alloc (Obj.cells #[.int .i64 0, .int .i64 0, .int .i64 0, .int .i64 0] 23)).alloc (Obj.cells #[.int .i64 0, .int .i64 0, .int .i64 0, .int .i64 0] 23)).alloc (Obj.mapIter (some bm) clock #[] clock)).heap[w.heap.size]? = some (Obj.cells #[.int .i64 0, .int .i64 0, .int .i64 0, .int .i64 0] 23) := by
    rw [Below.heap_alloc _ _ _ (by simp; omega), Below.heap_alloc _ _ _ (by simp)]
    exact heap_alloc_new w _
  refine bodyPost_ret (results_cell_row (p := 2) (ty := 23) rfl _ _ w.heap.size 23 #[.int .i64 0, .int .i64 0, .int .i64 0, .int .i64 0] (0, 0) _ rfl hsz Tryz.underlying23 rfl (by kernel_rfl)) rfl ⟨rfl, ?_⟩
  exact (((Below.refl _ w).alloc (Nat.le_refl _) _).alloc (by simp) _).alloc (by simp; omega) _

theorem idx23_0 (a b c d : Int) (w : World) : (Instr.index 23 (.agg #[.int .i64 a, .int .i64 b, .int .i64 c, .int .i64 d]) (.int .i64 0)).run Tryz.prog w = .ok (.int .i64 a) w := by kernel_rfl
theorem idx23_1 (a b c d : Int) (w : World) : (Instr.index 23 (.agg #[.int .i64 a, .int .i64 b, .int .i64 c, .int .i64 d]) (.int .i64 1)).run Tryz.prog w = .ok (.int .i64 b) w := by kernel_rfl
theorem idx23_2 (a b c d : Int) (w : World) : (Instr.index 23 (.agg #[.int .i64 a, .int .i64 b, .int .i64 c, .int .i64 d]) (.int .i64 2)).run Tryz.prog w = .ok (.int .i64 c) w := by kernel_rfl
theorem idx23_3 (a b c d : Int) (w : World) : (Instr.index 23 (.agg #[.int .i64 a, .int .i64 b, .int .i64 c, .int .i64 d]) (.int .i64 3)).run Tryz.prog w = .ok (.int .i64 d) w := by kernel_rfl
set_option maxRecDepth 1000000 in
set_option maxHeartbeats 4000000 in
theorem more_ (a0 a1 a2 a3 b0 b1 b2 b3 : Int) (w : World) :
    Calls Tryz.prog 259 #[.agg #[.int .i64 a0, .int .i64 a1, .int .i64 a2, .int .i64 a3], .agg #[.int .i64 b0, .int .i64 b1, .int .i64 b2, .int .i64 b3]] w fun e w' =>
      e = .returned (.bool (decide (a0 > b0) || (a0 == b0 && (decide (a1 > b1) || (a1 == b1 && (decide (a2 > b2) || (a2 == b2 && decide (a3 > b3)))))))) ∧ w' = (w.alloc (.cells #[.int .i64 a0, .int .i64 a1, .int .i64 a2, .int .i64 a3] 23)).alloc (.cells #[.int .i64 b0, .int .i64 b1, .int .i64 b2, .int .i64 b3] 23) := by
  have h0 := idx23_0
  have h1 := idx23_1
  have h2 := idx23_2
  have h3 := idx23_3
  go_enter Tryz.func259, Tryz.ntmps259
  go_wp2
  refine wp_loop_rounds 5 ?_
  rw [rounds_succ]
  go_wp2
  · go_ret
    have hne : (a0 == b0) = false := by simp_all
    refine ⟨by simp [hne], rfl⟩
  rw [rounds_succ]
  go_wp2
  · go_ret
    have e0 : a0 = b0 := by simp_all
    have hne : (a1 == b1) = false := by simp_all
    refine ⟨by simp [hne, e0], rfl⟩
  rw [rounds_succ]
  go_wp2
  · go_ret
    have e0 : a0 = b0 := by simp_all
    have e1 : a1 = b1 := by simp_all
    have hne : (a2 == b2) = false := by simp_all
    refine ⟨by simp [hne, e0, e1], rfl⟩
  rw [rounds_succ]
  go_wp2
  · go_ret
    have e0 : a0 = b0 := by simp_all
    have e1 : a1 = b1 := by simp_all
    have e2 : a2 = b2 := by simp_all
    refine ⟨by simp [e0, e1, e2], rfl⟩
  rw [rounds_succ]
  go_wp2
  · go_ret
    have e0 : a0 = b0 := by simp_all
    have e1 : a1 = b1 := by simp_all
    have e2 : a2 = b2 := by simp_all
    have e3 : a3 = b3 := by simp_all
    refine ⟨by simp [e0, e1, e2, e3], rfl⟩

theorem next_one {P : Program} (W : World) (ty : TypeId) (bm clock : Nat) (e : MapEntry) (hb : W.heap[bm]? = some (.map #[e] clock)) (he : e.born < clock) :
    (Instr.next (.pointer (some ⟨W.heap.size, 0, none⟩)) false ty).run P (W.alloc (.mapIter (some bm) clock #[] clock)) = .ok (.tuple #[.bool true, e.key, e.val]) (W.alloc (.mapIter (some bm) clock #[e.born] clock)) := by
  have hlt : bm < W.heap.size := (Array.getElem?_eq_some_iff.1 hb).1
  have hb' : ∀ o, (W.alloc o).heap[bm]? = some (.map #[e] clock) := fun o => (Below.heap_alloc _ _ _ hlt).trans hb
  have hn : ¬ clock ≤ e.born := by omega
  have hp : ∀ (h : Array Obj) (x y : Obj), (h.push x).setIfInBounds h.size y = h.push y := by
    intro h x y
    apply Array.toList_inj.1
    simp
  simp only [Instr.next, getObj, Sem.run_bind, Sem.run, heap_alloc_new, hb', Result.andThen]
  simp [he, hn, choose, Sem.run, Question.forced, setObj, heap_alloc_new]
  obtain ⟨_, hg⟩ := Array.getElem?_eq_some_iff.1 (heap_alloc_new W (.mapIter (some bm) clock #[] clock))
  rw [hg]
  simp only [Result.andThen]
  show Result.ok _ ({ W with heap := (W.heap.push (Obj.mapIter (some bm) clock #[] clock)).setIfInBounds W.heap.size (Obj.mapIter (some bm) clock #[e.born] clock) } : World) = _
  rw [hp]
  rfl

theorem next_two {P : Program} (W : World) (ty : TypeId) (bm clock : Nat) (e : MapEntry) (hb : W.heap[bm]? = some (.map #[e] clock)) (he : e.born < clock) :
    (Instr.next (.pointer (some ⟨W.heap.size, 0, none⟩)) false ty).run P (W.alloc (.mapIter (some bm) clock #[e.born] clock)) = .ok (.tuple #[.bool false]) (W.alloc (.mapIter (some bm) clock #[e.born] clock)) := by
  rcases run_next_map (P := P) W ty bm clock clock #[e.born] #[e] clock hb (fun x hx => by simp at hx; subst hx; exact he) (Nat.le_refl _) with ⟨_, h⟩ | ⟨e', he', _⟩
  · exact h
  · simp [leftOf] at he'
theorem entry_one {P : Program} (W : World) (bm clock : Nat) (e : MapEntry) (hb : W.heap[bm]? = some (.map #[e] clock)) :
    (Instr.entry (.pointer (some ⟨W.heap.size, 0, none⟩))).run P (W.alloc (.mapIter (some bm) clock #[e.born] clock)) = .ok (.tuple #[e.key, e.val]) (W.alloc (.mapIter (some bm) clock #[e.born] clock)) :=
  run_entry_map (P := P) W bm clock #[] #[e] clock e hb (by simp) (by simp)
def n4gtI (a0 a1 a2 a3 b0 b1 b2 b3 : Int) : Bool := decide (a0 > b0) || (a0 == b0 && (decide (a1 > b1) || (a1 == b1 && (decide (a2 > b2) || (a2 == b2 && decide (a3 > b3))))))
theorem more_n (a0 a1 a2 a3 b0 b1 b2 b3 : Int) (bb : Bool) (h : n4gtI a0 a1 a2 a3 b0 b1 b2 b3 = bb) (w : World) :
    Calls Tryz.prog 259 #[.agg #[.int .i64 a0, .int .i64 a1, .int .i64 a2, .int .i64 a3], .agg #[.int .i64 b0, .int .i64 b1, .int .i64 b2, .int .i64 b3]] w fun e w' =>
      e = .returned (.bool bb) ∧ w' = (w.alloc (.cells #[.int .i64 a0, .int .i64 a1, .int .i64 a2, .int .i64 a3] 23)).alloc (.cells #[.int .i64 b0, .int .i64 b1, .int .i64 b2, .int .i64 b3] 23) := by
  subst h
  exact more_ a0 a1 a2 a3 b0 b1 b2 b3 w
theorem rounds_world {P : Program} {c : Code} {Q : Exit → Act → World → Prop} {n : Nat} {a : Act} {w : World} (h : ∀ w', w' = w → Code.rounds P c Q n a w') : Code.rounds P c Q n a w := h w rfl
theorem heap_push2 (w : World) (o : Obj) : (w.alloc o).heap = w.heap.push o := rfl

set_option maxRecDepth 1000000 in
set_option maxHeartbeats 4000000 in
theorem best1_true (b o : Nat) (bm clock : Nat) (e : MapEntry) (a0 a1 a2 a3 : Int) (hbb : n4gtI a0 a1 a2 a3 0 0 0 0 = true) (w : World) (hlt : b < w.heap.size) (hc : w.cell? ⟨b, o + 14, none⟩ = some (.map (some bm))) (hb : w.heap[bm]? = some (.map #[e] clock)) (he : e.born < clock)
    (hk : e.key = .agg #[.int .i64 a0, .int .i64 a1, .int .i64 a2, .int .i64 a3]) :
    Calls Tryz.prog 208 #[.pointer (some ⟨b, o, none⟩)] w fun en w' => en = .returned (.agg #[.int .i64 a0, .int .i64 a1, .int .i64 a2, .int .i64 a3]) ∧ Below w.heap.size w w' := by
  obtain ⟨w2, hw2⟩ : ∃ w2, (w.alloc zn4).alloc zn4 = w2 := ⟨_, rfl⟩
  have hbl : bm < w.heap.size := (Array.getElem?_eq_some_iff.1 hb).1
  have hs2 : w2.heap.size = w.heap.size + 2 := by rw [← hw2]; simp
  have hbw : Below w.heap.size w w2 := by rw [← hw2]; exact ((Below.refl _ w).alloc (Nat.le_refl _) _).alloc (by simp) _
  have hc2 : w2.cell? ⟨b, o + 14, none⟩ = some (.map (some bm)) := (hbw.cell (p := ⟨b, o + 14, none⟩) hlt).trans hc
  have hb2 : w2.heap[bm]? = some (.map #[e] clock) := (hbw.block bm hbl).trans hb
  have hrg := run_range_map (P := Tryz.prog) w2 337 _ _ bm #[e] clock Tryz.underlying337 hb2
  have hnx := fun ty => next_one (P := Tryz.prog) w2 ty bm clock e hb2 he
  have hen := entry_one (P := Tryz.prog) w2 bm clock e hb2
  rw [hk] at hen
  simp only [hk] at hnx
  simp only [hs2] at hnx hen
  have hmore := fun w => more_n a0 a1 a2 a3 0 0 0 0 true hbb w
  have hc3 := hc2
  clear hc2 hb2 hbw
  subst hw2
  simp only [zn4] at hrg hnx hc3 hen
  go_enter Tryz.func208, Tryz.ntmps208
  go_wp2
  refine wp_loop_rounds 2 ?_
  rw [rounds_succ]
  go_wp2_with (go_at_call 259; refine (hmore _).mono ?_; rintro e w' ⟨rfl, rfl⟩)
  refine rounds_world ?_
  intro W4 hW4
  have hr : W4.heap[w.heap.size + 1 + 1]? = some (.mapIter (some bm) clock #[e.born] clock) := by
    rw [hW4]
    simp only [heap_push2]
    repeat rw [Array.getElem?_push]
    simp
  have hbm : W4.heap[bm]? = some (.map #[e] clock) := by
    rw [hW4]
    simp only [heap_push2]
    repeat rw [Array.getElem?_push, if_neg (by first | omega | (simp; omega))]
    exact hb
  have hnx2 : ∀ ty, (Instr.next (.pointer (some ⟨w.heap.size + 1 + 1, 0, none⟩)) false ty).run Tryz.prog W4 = .ok (.tuple #[.bool false]) W4 := by
    intro ty
    rcases run_next_at (P := Tryz.prog) W4 ty (w.heap.size + 1 + 1) bm clock clock #[e.born] #[e] clock hr hbm (fun x hx => by simp at hx; subst hx; exact he) (Nat.le_refl _) with ⟨_, h⟩ | ⟨e', he', _⟩
    · exact h
    · simp [leftOf] at he'
  clear hr hbm hnx hen hrg hmore
  subst hW4
  rw [rounds_succ]
  go_wp2
  refine bodyPost_ret (results_cell_row (p := 2) (ty := 23) rfl _ _ w.heap.size 23 #[.int .i64 a0, .int .i64 a1, .int .i64 a2, .int .i64 a3] (0, 0) _ rfl (by simp only [heap_push2, Array.getElem?_push, Array.size_push, if_true]; (repeat' split) <;> first | rfl | omega) Tryz.underlying23 rfl (by kernel_rfl)) rfl ⟨rfl, ?_⟩
  refine ⟨rfl, rfl, rfl, by simp; omega, fun k hk => ?_⟩
  simp only [heap_push2]
  repeat rw [Array.getElem?_push, if_neg (by first | omega | (simp; omega))]

set_option maxRecDepth 1000000 in
set_option maxHeartbeats 4000000 in
theorem best1_false (b o : Nat) (bm clock : Nat) (e : MapEntry) (a0 a1 a2 a3 : Int) (hbb : n4gtI a0 a1 a2 a3 0 0 0 0 = false) (w : World) (hlt : b < w.heap.size) (hc : w.cell? ⟨b, o + 14, none⟩ = some (.map (some bm))) (hb : w.heap[bm]? = some (.map #[e] clock)) (he : e.born < clock)
    (hk : e.key = .agg #[.int .i64 a0, .int .i64 a1, .int .i64 a2, .int .i64 a3]) :
    Calls Tryz.prog 208 #[.pointer (some ⟨b, o, none⟩)] w fun en w' => en = .returned (.agg #[.int .i64 0, .int .i64 0, .int .i64 0, .int .i64 0]) ∧ Below w.heap.size w w' := by
  obtain ⟨w2, hw2⟩ : ∃ w2, (w.alloc zn4).alloc zn4 = w2 := ⟨_, rfl⟩
  have hbl : bm < w.heap.size := (Array.getElem?_eq_some_iff.1 hb).1
  have hs2 : w2.heap.size = w.heap.size + 2 := by rw [← hw2]; simp
  have hbw : Below w.heap.size w w2 := by rw [← hw2]; exact ((Below.refl _ w).alloc (Nat.le_refl _) _).alloc (by simp) _
  have hc2 : w2.cell? ⟨b, o + 14, none⟩ = some (.map (some bm)) := (hbw.cell (p := ⟨b, o + 14, none⟩) hlt).trans hc
  have hb2 : w2.heap[bm]? = some (.map #[e] clock) := (hbw.block bm hbl).trans hb
  have hrg := run_range_map (P := Tryz.prog) w2 337 _ _ bm #[e] clock Tryz.underlying337 hb2
  have hnx := fun ty => next_one (P := Tryz.prog) w2 ty bm clock e hb2 he
  have hen := entry_one (P := Tryz.prog) w2 bm clock e hb2
  rw [hk] at hen
  simp only [hk] at hnx
  simp only [hs2] at hnx hen
  have hmore := fun w => more_n a0 a1 a2 a3 0 0 0 0 false hbb w
  have hc3 := hc2
  clear hc2 hb2 hbw
  subst hw2
  simp only [zn4] at hrg hnx hc3 hen
  go_enter Tryz.func208, Tryz.ntmps208
  go_wp2
  refine wp_loop_rounds 2 ?_
  rw [rounds_succ]
  go_wp2_with (go_at_call 259; refine (hmore _).mono ?_; rintro e w' ⟨rfl, rfl⟩)
  refine rounds_world ?_
  intro W4 hW4
  have hr : W4.heap[w.heap.size + 1 + 1]? = some (.mapIter (some bm) clock #[e.born] clock) := by
    rw [hW4]
    simp only [heap_push2]
    repeat rw [Array.getElem?_push]
    simp
  have hbm : W4.heap[bm]? = some (.map #[e] clock) := by
    rw [hW4]
    simp only [heap_push2]
    repeat rw [Array.getElem?_push, if_neg (by first | omega | (simp; omega))]
    exact hb
  have hnx2 : ∀ ty, (Instr.next (.pointer (some ⟨w.heap.size + 1 + 1, 0, none⟩)) false ty).run Tryz.prog W4 = .ok (.tuple #[.bool false]) W4 := by
    intro ty
    rcases run_next_at (P := Tryz.prog) W4 ty (w.heap.size + 1 + 1) bm clock clock #[e.born] #[e] clock hr hbm (fun x hx => by simp at hx; subst hx; exact he) (Nat.le_refl _) with ⟨_, h⟩ | ⟨e', he', _⟩
    · exact h
    · simp [leftOf] at he'
  clear hr hbm hnx hen hrg hmore
  subst hW4
  rw [rounds_succ]
  go_wp2
  refine bodyPost_ret (results_cell_row (p := 2) (ty := 23) rfl _ _ w.heap.size 23 #[.int .i64 0, .int .i64 0, .int .i64 0, .int .i64 0] (0, 0) _ rfl (by simp only [heap_push2, Array.getElem?_push, Array.size_push, if_true]; (repeat' split) <;> first | rfl | omega) Tryz.underlying23 rfl (by kernel_rfl)) rfl ⟨rfl, ?_⟩
  refine ⟨rfl, rfl, rfl, by simp; omega, fun k hk => ?_⟩
  simp only [heap_push2]
  repeat rw [Array.getElem?_push, if_neg (by first | omega | (simp; omega))]
set_option maxRecDepth 100000 in
set_option maxHeartbeats 1000000 in
/-- The iterator of an empty map's keys never calls yield. -/
theorem keys1_none (F : Fence) (n : Nat) (h127 : F.fn 127) (hro : F.round = none) (l Bm o bm clock : Nat) (W : World) (hm : W.cell? ⟨Bm, o, none⟩ = some (.map (some bm))) (hb : W.heap[bm]? = some (.map #[] clock)) :
    CallsIn F n Tryz.prog 127 #[.func (.yield l) #[] #[], .pointer (some ⟨Bm, o, none⟩)] W fun e W' => (∃ v, e = .returned v) ∧ W' = W.alloc (.mapIter (some bm) clock #[] clock) := by
  have hrg := run_range_map (P := Tryz.prog) W 116 _ _ bm #[] clock Tryz.underlying116 hb
  have hnx : ∀ ty, (Instr.next (.pointer (some ⟨W.heap.size, 0, none⟩)) false ty).run Tryz.prog (W.alloc (.mapIter (some bm) clock #[] clock)) = .ok (.tuple #[.bool false]) (W.alloc (.mapIter (some bm) clock #[] clock)) := by
    intro ty
    rcases run_next_map (P := Tryz.prog) W ty bm clock clock #[] #[] clock hb (fun x hx => by simp at hx) (Nat.le_refl _) with ⟨_, h⟩ | ⟨e, he, _⟩
    · exact h
    · simp [leftOf] at he
  refine callsIn_of_wp Tryz.func127 rfl h127 ?_ hro
  simp only [Tryz.ntmps127, List.size_toArray, List.length_cons, List.length_nil, Nat.reduceAdd, Nat.reduceSub, Array.replicate_succ, Array.replicate_zero, List.push_toArray, List.append_toArray, List.nil_append, List.cons_append]
  gi_wp2
  refine wpIn_loop_rounds 1 ?_
  rw [roundsIn_succ]
  gi_wp2
  go_end0
  exact ⟨⟨_, rfl⟩, rfl⟩

theorem wpIn_rangeFunc_none {F : Fence} {n : Nat} {P : Program} {g : Operand} {ps : Array Tmp} {assign body : Code} {Q : Exit → Act → World → Prop} {a : Act} {w : World} (hro : F.round = none) (h1 : 1 ≤ n) {gf : Nat} {lb : Array Value}
    (hg : a.eval g = .func (.func gf) #[] lb) (hFg : F.fn gf) (eg : ∀ args w, (callFunc gf args).run P w = .ok (.enter gf args) w)
    (hit : ∀ l W1, Below w.heap.size w W1 → CallsIn F (n - 1) P gf (#[.func (.yield l) #[] #[]] ++ lb) W1 fun e W' => (∃ v, e = .returned v) ∧ ∃ o, W' = W1.alloc o)
    (hdone : ∀ D W, w.heap.size ≤ D → Below w.heap.size w W → W.heap[D]? = some (.deferred (some [])) → Q .normal { a with defers := { target := .collected D, args := #[] } :: a.defers } W) :
    (Code.rangeFunc g ps assign body).wpIn F n P Q a w := by
  refine wpIn_rangeFunc ?_
  intro fn hfn
  rw [hro]
  obtain ⟨rec, hrec⟩ : ∃ rec : LoopState → Option Code → Loop, rec = fun st pe => { state := st, pending := pe, fn, tmps := a.tmps, params := ps, assign, body, defers := w.heap.size } := ⟨_, rfl⟩
  obtain ⟨W1, hW1⟩ : ∃ W1, (w.alloc (.deferred (some []))).alloc (.loop (rec .ready none)) = W1 := ⟨_, rfl⟩
  have hL1 : W1.heap[w.heap.size + 1]? = some (.loop (rec .ready none)) := by
    rw [← hW1]; have := heap_alloc_new (w.alloc (.deferred (some []))) (.loop (rec .ready none)); rwa [World.size_alloc] at this
  have hK1 : W1.heap[w.heap.size]? = some (.deferred (some [])) := by
    rw [← hW1]; exact (Below.heap_alloc _ _ _ (by simp)).trans (heap_alloc_new w _)
  have hb1 : Below w.heap.size w W1 := by
    rw [← hW1]; exact ((Below.refl _ w).alloc (Nat.le_refl _) _).alloc (by simp) _
  have hs1 : W1.heap.size = w.heap.size + 2 := by rw [← hW1]; simp
  refine ⟨w.heap.size + 1, [{ target := .collected w.heap.size, args := #[] }], W1, { target := .fn (.func gf) lb, args := #[.func (.yield (w.heap.size + 1)) #[] #[]] }, W1, gf,
    #[.func (.yield (w.heap.size + 1)) #[] #[]] ++ lb, W1, ?_, ?_, ?_, ?_, fun _ => h1, ?_⟩
  · rw [← hW1, hrec]; exact run_enterLoop_outer _ _ _ _ _
  · simp only [resolve, hg]
    simp [go_sem]
  · intro f' hf'; simp [Target.leads] at hf'; subst hf'; exact hFg
  · simp [invoke, go_sem, eg]
  · refine (hit (w.heap.size + 1) W1 hb1).mono ?_
    rintro e W2 ⟨⟨v, rfl⟩, o, rfl⟩
    have hl : (W1.alloc o).heap[w.heap.size + 1]? = some (.loop (rec .ready none)) := (Below.heap_alloc _ _ _ (by omega)).trans hL1
    have hk : (W1.alloc o).heap[w.heap.size]? = some (.deferred (some [])) := (Below.heap_alloc _ _ _ (by omega)).trans hK1
    refine ⟨none, _, by have := run_endLoop (P := P) hl (by rw [hrec]; simp); rw [hrec] at this; exact this, hdone w.heap.size _ (Nat.le_refl _) ?_ ((World.putObj_heap_other (by omega)).trans hk)⟩
    have hb2 : Below w.heap.size w (W1.alloc o) := hb1.alloc hb1.size _
    exact hb2.trans ⟨rfl, rfl, rfl, by simp, fun k hk => World.putObj_heap_other (by omega)⟩
theorem enters127 (args : Array Value) (w : World) : (callFunc 127 args).run Tryz.prog w = .ok (.enter 127 args) w := by
  have hb : Tryz.f127.body.isSome = true := by kernel_rfl
  obtain ⟨c, hc⟩ := Option.isSome_iff_exists.1 hb
  have hn : ¬ Tryz.f127.name = "runtime.NumGoroutine" := by
    have : (Tryz.f127.name == "runtime.NumGoroutine") = false := by kernel_rfl
    simpa using this
  unfold callFunc
  simp [Sem.run_bind, Tryz.func127, hn, hc]
set_option maxRecDepth 100000 in
set_option maxHeartbeats 2000000 in
/-- slices.AppendSeq of nothing: nil. -/
theorem appendSeq_none (F : Fence) (n : Nat) (h185 : F.fn 185) (h127 : F.fn 127) (hro : F.round = none) (hn : 2 ≤ n) (Bm o bm clock : Nat) (w : World) (hlt : Bm < w.heap.size) (hm : w.cell? ⟨Bm, o, none⟩ = some (.map (some bm))) (hb : w.heap[bm]? = some (.map #[] clock)) :
    CallsIn F n Tryz.prog 185 #[.slice none 0 0, .func (.func 127) #[] #[.pointer (some ⟨Bm, o, none⟩)]] w fun e w' => e = .returned (.slice none 0 0) ∧ Below w.heap.size w w' := by
  have h1 : 1 ≤ n := by omega
  have hbl : bm < w.heap.size := (Array.getElem?_eq_some_iff.1 hb).1
  refine callsIn_of_wp_marks Tryz.func185 rfl h185 ?_ hro
  simp only [Tryz.ntmps185, List.size_toArray, List.length_cons, List.length_nil, Nat.reduceAdd, Nat.reduceSub, Array.replicate_succ, Array.replicate_zero, List.push_toArray, List.append_toArray, List.nil_append, List.cons_append]
  gi_wp2
  have hb0 : Below w.heap.size w (w.alloc (.cells #[.slice none 0 0] 151)) := (Below.refl _ w).alloc (Nat.le_refl _) _
  refine wpIn_rangeFunc_none hro h1 (gf := 127) (lb := #[.pointer (some ⟨Bm, o, none⟩)]) rfl h127 enters127 (fun l W1 hW1 => ?_) (fun D W hD hW hK => ?_)
  · have hW1' : Below w.heap.size w W1 := hb0.trans (hW1.mono (by simp))
    refine (keys1_none F (n - 1) h127 hro l Bm o bm clock W1 ((hW1'.cell (p := ⟨Bm, o, none⟩) hlt).trans hm) ((hW1'.block bm hbl).trans hb)).mono ?_
    rintro e W' ⟨h, rfl⟩
    exact ⟨h, _, rfl⟩
  · have hW' : Below w.heap.size w W := hb0.trans (hW.mono (by simp))
    have hv : W.heap[w.heap.size]? = some (.cells #[.slice none 0 0] 151 (0, 0)) := (hW.block w.heap.size (by simp)).trans (heap_alloc_new w _)
    have hc : W.cell? ⟨w.heap.size, 0, none⟩ = some (.slice none 0 0) := by simp [World.cell?, hv]
    gi_wp2
    refine ⟨by simp, .inl ⟨_, _, rfl, run_takeDeferred hK, ?_⟩⟩
    refine ⟨_, results_tmp rfl _ _ _, rfl, hW'.trans ⟨rfl, rfl, rfl, by simp, fun k hk => World.putObj_heap_other ?_⟩⟩
    simp at hD
    omega
/-- slices.AppendSeq of an empty map's keys. -/
theorem appendSeq_calls (Bm o bm clock : Nat) (w : World) (hlt : Bm < w.heap.size) (hm : w.cell? ⟨Bm, o, none⟩ = some (.map (some bm))) (hb : w.heap[bm]? = some (.map #[] clock)) :
    Calls Tryz.prog 185 #[.slice none 0 0, .func (.func 127) #[] #[.pointer (some ⟨Bm, o, none⟩)]] w fun e w' => e = .returned (.slice none 0 0) ∧ Below w.heap.size w w' :=
  (appendSeq_none { fn := fun _ => True } 2 trivial trivial rfl (Nat.le_refl _) Bm o bm clock w hlt hm hb).calls (fun k d hd => by cases hd)
end Go.Proofs

/- Specifications out of the walks: mix.best at no entry or one; slices.AppendSeq of an empty map's keys. -/
set_option linter.unusedVariables false
set_option maxRecDepth 100000
namespace Go.Sx
open Go.RowKit Go.Proofs
/-- mix.best, of one found at most. -/
def spBest1 (E : Env) : Spec := fun R args h k => match args with
  | [.ptr (some p)] => match ld1 h { p with off := p.off + 14 } with
    | some (true, .map (some r)) => match getB h r with
      | .mp .notes _ [] => k (.agg N4.zero.v) h []
      | .mp .notes _ [(x, _)] => k (.agg (cond (n4gtI x.a x.b x.c x.d 0 0 0 0) x N4.zero).v) h []
      | _ => none
    | _ => none
  | _ => none
/-- slices.AppendSeq of an empty map's keys. -/
def spApp0 (E : Env) : Spec := fun R args h k => match args with
  | [.slice none (.n 0) _, .fn (.func 127) [] [.ptr (some p)]] => match ld1 h p with
    | some (true, .map (some r)) => match getB h r with
      | .mp _ _ [] => k (.slice none (.n 0) (.exact 0)) h []
      | _ => none
    | _ => none
  | _ => none
section
variable {B : Base}
theorem ok_Best1 (E : Env) : CallOk Tryz.prog B 208 (spBest1 E) := by
  refine CallOk.value (P := Tryz.prog) (i := 208) (fn := Tryz.f208) Tryz.func208 (by kernel_rfl) (by kernel_rfl) fun ρ h w args vals R k r S hv he => ?_
  unfold spBest1 at he
  split at he <;> try contradiction
  rename_i p
  split at he <;> try contradiction
  rename_i rr hld
  cases hv with
  | cons v1 hv =>
    cases hv
    obtain ⟨a, rfl, ha⟩ := v1.ptr_inv
    obtain ⟨L, hL, hA⟩ := Option.map_eq_some_iff.1 ha
    have ha' : ρ.addr { p with off := p.off + 14 } = some ⟨L.blk, L.base + (p.row * p.rs + p.off) + 14, none⟩ := by
      unfold Inj.addr
      simp only [hL, Option.map_some, Option.some.injEq, Addr.mk.injEq, true_and, and_true]
      omega
    obtain ⟨v', hc, hvr, hoc⟩ := ld1_sound S ha' hld rfl
    cases hvr with
    | map hLr =>
      rename_i Lr
      have hlt : L.blk < w.heap.size := by
        unfold World.cell? at hc
        cases ho : w.heap[L.blk]? with
        | none => simp [ho] at hc
        | some o => exact (Array.getElem?_eq_some_iff.1 ho).1
      subst hA
      split at he <;> try contradiction
      · rename_i vt hb
        obtain ⟨es, clock, q2, q3, q4⟩ := S.blk _ _ (getB_some hb rfl) _ hLr
        have he0 : es = #[] := by
          generalize hl : es.toList = el at q3
          cases q3
          exact Array.toList_eq_nil_iff.1 hl
        subst he0
        refine ⟨_, _, he, ?_, best0 L.blk (L.base + (p.row * p.rs + p.off)) Lr.blk clock w hlt hc q2⟩
        exact .agg (l' := [_, _, _, _]) (.one (.int ⟨by decide, by decide⟩) rfl rfl (.one (.int ⟨by decide, by decide⟩) rfl rfl (.one (.int ⟨by decide, by decide⟩) rfl rfl (.one (.int ⟨by decide, by decide⟩) rfl rfl .nil))))
      · rename_i vt x y hb
        obtain ⟨es, clock, q2, q3, q4⟩ := S.blk _ _ (getB_some hb rfl) _ hLr
        obtain ⟨e, he0, hk, ha1⟩ : ∃ e, es = #[e] ∧ CR ρ (RT.enc .notes x) e.key.cells.toList ∧ Shp (RT.isA .notes) e.key := by
          generalize hl : es.toList = el at q3
          cases q3 with
          | cons hk hv ha1 hb1 t =>
            cases t
            refine ⟨_, ?_, hk, ha1⟩
            apply Array.toList_inj.1
            rw [hl]
        subst he0
        have hborn : e.born < clock := q4 e (by simp)
        have hkey : e.key = .agg #[.int .i64 x.a, .int .i64 x.b, .int .i64 x.c, .int .i64 x.d] ∧ IntKind.i64.has x.a ∧ IntKind.i64.has x.b ∧ IntKind.i64.has x.c ∧ IntKind.i64.has x.d := by
          obtain ⟨c, hc'⟩ := ha1.1 rfl
          rw [hc'] at hk ⊢
          have hk' : CR ρ [.int .i64 x.a, .int .i64 x.b, .int .i64 x.c, .int .i64 x.d] c.toList := hk
          generalize hcl : c.toList = cl at hk'
          cases hk' with
          | one g1 _ _ t1 =>
            cases t1 with
            | one g2 _ _ t2 =>
              cases t2 with
              | one g3 _ _ t3 =>
                cases t3 with
                | one g4 _ _ t4 =>
                  cases t4
                  obtain ⟨rfl, i1⟩ := g1.int_inv
                  obtain ⟨rfl, i2⟩ := g2.int_inv
                  obtain ⟨rfl, i3⟩ := g3.int_inv
                  obtain ⟨rfl, i4⟩ := g4.int_inv
                  refine ⟨?_, i1, i2, i3, i4⟩
                  congr 1
                  apply Array.toList_inj.1
                  rw [hcl]
        obtain ⟨hkey, i1, i2, i3, i4⟩ := hkey
        cases hn : n4gtI x.a x.b x.c x.d 0 0 0 0 with
        | true =>
          rw [hn] at he
          refine ⟨_, _, he, ?_, best1_true L.blk (L.base + (p.row * p.rs + p.off)) Lr.blk clock e x.a x.b x.c x.d hn w hlt hc q2 hborn hkey⟩
          exact .agg (l' := [_, _, _, _]) (.one (.int i1) rfl rfl (.one (.int i2) rfl rfl (.one (.int i3) rfl rfl (.one (.int i4) rfl rfl .nil))))
        | false =>
          rw [hn] at he
          refine ⟨_, _, he, ?_, best1_false L.blk (L.base + (p.row * p.rs + p.off)) Lr.blk clock e x.a x.b x.c x.d hn w hlt hc q2 hborn hkey⟩
          show VR ρ (.agg N4.zero.v) _
          exact .agg (l' := [_, _, _, _]) (.one (.int ⟨by decide, by decide⟩) rfl rfl (.one (.int ⟨by decide, by decide⟩) rfl rfl (.one (.int ⟨by decide, by decide⟩) rfl rfl (.one (.int ⟨by decide, by decide⟩) rfl rfl .nil))))
theorem ok_App0 (E : Env) : CallOk Tryz.prog B 185 (spApp0 E) := by
  refine CallOk.value (P := Tryz.prog) (i := 185) (fn := Tryz.f185) Tryz.func185 (by kernel_rfl) (by kernel_rfl) fun ρ h w args vals R k r S hv he => ?_
  unfold spApp0 at he
  split at he <;> try contradiction
  rename_i cp p
  split at he <;> try contradiction
  rename_i rr hld
  split at he <;> try contradiction
  rename_i kt vt hb
  cases hv with
  | cons v1 hv =>
    cases hv with
    | cons v2 hv =>
      cases hv
      cases v1 with
      | nils _ hfit =>
        cases v2 with
        | fn g1 g2 =>
          cases g1
          cases g2 with
          | cons g3 g4 =>
            cases g4
            obtain ⟨a, rfl, ha⟩ := g3.ptr_inv
            obtain ⟨v', hc, hvr, hoc⟩ := ld1_sound S ha hld rfl
            cases hvr with
            | map hLr =>
              rename_i Lr
              obtain ⟨L, hL, hA⟩ := Option.map_eq_some_iff.1 ha
              subst hA
              obtain ⟨es, clock, q2, q3, q4⟩ := S.blk _ _ (getB_some hb rfl) _ hLr
              have he0 : es = #[] := by
                generalize hl : es.toList = el at q3
                cases q3
                exact Array.toList_eq_nil_iff.1 hl
              subst he0
              refine ⟨_, _, he, .nils _ (by simp [Cap.fits]), ?_⟩
              have hlt : L.blk < w.heap.size := World.block_lt_of_cell? _ _ hc
              exact appendSeq_calls L.blk _ Lr.blk clock w hlt hc q2
end
end Go.Sx

/- Which types are rows of which kind. -/
namespace Go.Sx
def tt : TypeId → Option RT
  | 2 => some (.int .i64) | 3 => some (.int .i64) | 4 => some .bool | 5 => some (.int .u8) | 9 => some .str | 12 => some (.int .u64) | 21 => some (.int .i32) | 22 => some .notes | 23 => some .notes | 37 => some (.int .u16) | 38 => some (.int .u32) | 43 => some .fby | 47 => some .c4 | 57 => some .out | 63 => some .key | 67 => some .txn | 76 => some .rcd | 122 => some .terml | 138 => some .rterm | 166 => some .notes | 192 => some .item | 225 => some .fld | 262 => some .waiting | 344 => some .diff | 413 => some .sector | 455 => some .wr
  | _ => none
/-- No code stands for others. -/
def fr0 : Env → Nat → FSpec := fun _ _ _ _ _ => none
/-- What a table's entry owes. -/
def EntOk (P : Program) (B : Base) (tt : TypeId → Option RT) (fr : Env → Nat → FSpec) (i : Nat) : FE → Prop
  | .no => True
  | .fn f => FnOk P B tt fr i f
  | .sp s => ∀ E, EnvOk P B E → CallOk P B i (s E)
/-- Of all entries of a tree. -/
def Tab.All (φ : Nat → FE → Prop) : Tab → (Nat → Nat) → Prop
  | .leaf, _ => True
  | .node v l r, c => φ (c 0) v ∧ Tab.All φ l (fun m => c (2 * m + 1)) ∧ Tab.All φ r (fun m => c (2 * m + 2))
theorem Tab.All.get {φ : Nat → FE → Prop} (h0 : ∀ i, φ i .no) : ∀ (t : Tab) (c : Nat → Nat), Tab.All φ t c → ∀ n, φ (c n) (t.get n)
  | .leaf, c, _, n => h0 _
  | .node v l r, c, h, n => by
    obtain ⟨h1, h2, h3⟩ := h
    cases n with
    | zero => exact h1
    | succ n =>
      simp only [Tab.get]
      have hm := Nat.mod_two_eq_zero_or_one n
      have hd := Nat.div_add_mod n 2
      split
      · rename_i e
        have e : n % 2 = 0 := e
        have := Tab.All.get h0 l _ h2 (n / 2)
        rw [show 2 * (n / 2) + 1 = n + 1 by omega] at this
        exact this
      · rename_i e
        have e1 : n % 2 = 1 := by
          rcases hm with h | h
          · exact absurd h (fun h0 => (by simpa using e : ¬ n.mod 2 = 0) h0)
          · exact h
        have := Tab.All.get h0 r _ h3 (n / 2)
        rw [show 2 * (n / 2) + 2 = n + 1 by omega] at this
        exact this
theorem TabOk.of {P : Program} {B : Base} {tt : TypeId → Option RT} {fr : Env → Nat → FSpec} {tb : Tab} (h : Tab.All (EntOk P B tt fr) tb id) : TabOk P B tt fr tb where
  fn i f hg := by
    have := Tab.All.get (φ := EntOk P B tt fr) (fun _ => trivial) tb id h i
    rw [hg] at this
    exact this
  sp i s hg := by
    have := Tab.All.get (φ := EntOk P B tt fr) (fun _ => trivial) tb id h i
    rw [hg] at this
    exact this
end Go.Sx
