/- CoreQueries: each terminal is asked what it counts when the switch begins, when its power is back, and at each so-manieth tick; true for every k and ticks. Part Fo of the proof. Condition: the listed package variables hold what the program's text lays. -/
import Derived.Test.YtncpkgjihijjhaaGreatDoorFa
import Derived.Test.YtncpkgjihijjhaaGreatDoorFb
import Derived.Test.YtncpkgjihijjhaaGreatDoorCc
import Derived.Test.YtncpkgjihijjhaaGreatDoorSc
import Derived.KernelRfl
set_option linter.unusedVariables false
set_option linter.unusedSimpArgs false
noncomputable section
/- What journal.Open and its scans do on a new disk: specifications out of their runs. -/
set_option maxRecDepth 1000000
set_option linter.unusedVariables false
namespace Go.Sx
open Go.Proofs
theorem mixedT : Tryz.prog.follows .mixedOrders = true := by kernel_rfl
section
variable {B : Base}
theorem CallOk.ofRun {tb : Tab} {n : Nat} {i : FuncId} {f : AFunc} (hT : TabOk Tryz.prog B tt fr0 tb) (hf : FnOk Tryz.prog B tt fr0 i f) {sp : Spec} (H : ∀ (R : Type) (args : List AVal) (h : Heap) (k : AVal → Heap → List Nat → Option R) (r : R), sp R args h k = some r → exF (EV tb fr0 n) f args h k = some r) : CallOk Tryz.prog B i sp := by
  intro ρ h w args vals R k r S hv he
  obtain ⟨h1, E', h2, h3⟩ := EV_both mixedT hT n
  exact fn_sound mixedT hf h1 h2 h3 ρ h w args vals R k r S hv (H R args h k r he)
theorem allZ_eq : ∀ (l : List Int) (n : Nat), allZ l n = true → l = List.replicate n 0
  | [], 0, _ => rfl
  | [], n + 1, h => by simp [allZ] at h
  | .ofNat 0 :: l, n + 1, h => by
    simp only [allZ] at h
    rw [allZ_eq l n h]
    rfl
  | .ofNat (m + 1) :: l, n + 1, h => by
    have e : allZ (.ofNat (m + 1) :: l) (n + 1) = false := rfl
    rw [e] at h; cases h
  | .negSucc m :: l, n + 1, h => by simp [allZ] at h
  | x :: l, 0, h => by
    cases x with
    | ofNat m => cases m <;> simp [allZ] at h
    | negSucc m => simp [allZ] at h
theorem cond_both {c b : Bool} (h : cond c b false = true) : c = true ∧ b = true := by cases c <;> simp_all
theorem allZs_eq : ∀ (l : List (List Int)) (n : Nat), allZs l n = true → l = List.replicate n (List.replicate 64 0)
  | [], 0, _ => rfl
  | [], n + 1, h => by simp [allZs] at h
  | x :: l, n + 1, h => by
    simp only [allZs] at h
    obtain ⟨h1, h2⟩ := cond_both h
    rw [allZ_eq x 64 h1, allZs_eq l n h2]
    rfl
  | x :: l, 0, h => by simp [allZs] at h
/-- (*Log).scan on a new disk. -/
def spScan (E : Env) : Spec := fun R args h k => match args, h with
  | [.ptr (some ⟨9, 0, 0, 0⟩), .int .i64 (.ofNat 0)], [x0, x1, x2, x3, x4, .cells [.slice (some ⟨6, 64, 0, 0⟩) .all (.exact 1000), .slice (some ⟨7, 64, 0, 0⟩) .all (.exact 1000), .slice none (.n 0) (.exact 0), .int .i64 (.negSucc 0), .bool false], x6, .rows false .sector l, x8,
      .cells [.ptr (some ⟨5, 0, 0, 0⟩), .int .i64 (.ofNat 500), .int .i64 (.ofNat 0), .int .i64 (.ofNat 0), .int .u32 (.ofNat 0), .slice none (.n 0) (.exact 0)]] =>
    cond (allZs l 1000) (k (.tup [.agg [.int .u32 0, .int .i64 0, .slice none (.n 0) (.exact 0)], .int .i64 0]) (h ++ [.cells [.int .u32 0, .int .i64 0, .slice none (.n 0) (.exact 0)]]) [9]) none
  | [.ptr (some ⟨9, 0, 0, 0⟩), .int .i64 (.ofNat 500)], [x0, x1, x2, x3, x4, .cells [.slice (some ⟨6, 64, 0, 0⟩) .all (.exact 1000), .slice (some ⟨7, 64, 0, 0⟩) .all (.exact 1000), .slice none (.n 0) (.exact 0), .int .i64 (.negSucc 0), .bool false], x6, .rows false .sector l, x8,
      .cells [.ptr (some ⟨5, 0, 0, 0⟩), .int .i64 (.ofNat 500), .int .i64 (.ofNat 0), .int .i64 (.ofNat 0), .int .u32 (.ofNat 0), .slice none (.n 0) (.exact 0)], .cells [.int .u32 (.ofNat 0), .int .i64 (.ofNat 0), .slice none (.n 0) (.exact 0)]] =>
    cond (allZs l 1000) (k (.tup [.agg [.int .u32 0, .int .i64 0, .slice none (.n 0) (.exact 0)], .int .i64 0]) (h ++ [.cells [.int .u32 0, .int .i64 0, .slice none (.n 0) (.exact 0)]]) [9]) none
  | _, _ => none
theorem ok_Scan (E : Env) : CallOk Tryz.prog B 134 (spScan E) := by
  intro ρ h w args vals R k r S hv he
  unfold spScan at he
  split at he
  · rename_i x0 x1 x2 x3 x4 x6 l x8
    obtain ⟨q1, q2⟩ := cond_some he
    obtain rfl := allZs_eq l 1000 q1
    obtain ⟨h1, E', h2, h3⟩ := EV_both mixedT (tabOkO (B := B)) 30
    exact fn_sound mixedT (FnOk.cuts Tryz.func134 c134 _ _ : FnOk Tryz.prog B tt fr0 134 sca_f) h1 h2 h3 ρ _ w _ vals R k r S hv ((sca_run x0 x1 x2 x3 x4 x6 x8 R k).trans q2)
  · rename_i x0 x1 x2 x3 x4 x6 l x8
    obtain ⟨q1, q2⟩ := cond_some he
    obtain rfl := allZs_eq l 1000 q1
    obtain ⟨h1, E', h2, h3⟩ := EV_both mixedT (tabOkO (B := B)) 30
    exact fn_sound mixedT (FnOk.cuts Tryz.func134 c134 _ _ : FnOk Tryz.prog B tt fr0 134 scb_f) h1 h2 h3 ρ _ w _ vals R k r S hv ((scb_run x0 x1 x2 x3 x4 x6 x8 R k).trans q2)
  · cases he
def TBP : Tab := .node .no (.node .no (.node .no (.node .no (.node .no (.node .no (.node .no (.leaf) (.node (.fn a191) (.leaf) (.leaf))) (.leaf)) (.leaf)) (.node .no (.node .no (.node .no (.node (.fn a135) (.leaf) (.leaf)) (.leaf)) (.leaf)) (.leaf))) (.node .no (.leaf) (.node .no (.leaf) (.node (.fn a59) (.leaf) (.leaf))))) (.node .no (.node .no (.node .no (.node .no (.node .no (.leaf) (.node (.fn a193) (.leaf) (.leaf))) (.leaf)) (.node .no (.leaf) (.node .no (.leaf) (.node (.fn a241) (.leaf) (.leaf))))) (.node .no (.node .no (.node .no (.node (.fn a137) (.leaf) (.leaf)) (.leaf)) (.leaf)) (.leaf))) (.node .no (.node .no (.node .no (.node .no (.node (.fn a133) (.leaf) (.leaf)) (.leaf)) (.leaf)) (.leaf)) (.leaf)))) (.node .no (.node .no (.node .no (.node .no (.node .no (.node .no (.leaf) (.node (.fn a192) (.leaf) (.leaf))) (.leaf)) (.leaf)) (.node .no (.node .no (.leaf) (.node .no (.node (.sp spMapClone) (.leaf) (.leaf)) (.leaf))) (.leaf))) (.node .no (.node .no (.node .no (.node .no (.node (.fn a132) (.leaf) (.leaf)) (.leaf)) (.leaf)) (.leaf)) (.leaf))) (.node .no (.node .no (.node .no (.node .no (.node .no (.leaf) (.node (.fn a194) (.leaf) (.leaf))) (.leaf)) (.node .no (.leaf) (.node .no (.leaf) (.node (.fn a242) (.leaf) (.leaf))))) (.leaf)) (.node .no (.node .no (.node .no (.node (.fn a70) (.node (.sp spScan) (.leaf) (.leaf)) (.leaf)) (.leaf)) (.leaf)) (.leaf))))
theorem tabOkP : TabOk Tryz.prog B tt fr0 TBP := TabOk.of ⟨trivial, ⟨trivial, ⟨trivial, ⟨trivial, ⟨trivial, ⟨trivial, ⟨trivial, trivial, ⟨(FnOk.of Tryz.func191 c191), trivial, trivial⟩⟩, trivial⟩, trivial⟩, ⟨trivial, ⟨trivial, ⟨trivial, ⟨(FnOk.of Tryz.func135 c135), trivial, trivial⟩, trivial⟩, trivial⟩, trivial⟩⟩, ⟨trivial, trivial, ⟨trivial, trivial, ⟨(FnOk.of Tryz.func59 c59), trivial, trivial⟩⟩⟩⟩, ⟨trivial, ⟨trivial, ⟨trivial, ⟨trivial, ⟨trivial, trivial, ⟨(FnOk.of Tryz.func193 c193), trivial, trivial⟩⟩, trivial⟩, ⟨trivial, trivial, ⟨trivial, trivial, ⟨(FnOk.of Tryz.func241 c241), trivial, trivial⟩⟩⟩⟩, ⟨trivial, ⟨trivial, ⟨trivial, ⟨(FnOk.of Tryz.func137 c137), trivial, trivial⟩, trivial⟩, trivial⟩, trivial⟩⟩, ⟨trivial, ⟨trivial, ⟨trivial, ⟨trivial, ⟨(FnOk.of Tryz.func133 c133), trivial, trivial⟩, trivial⟩, trivial⟩, trivial⟩, trivial⟩⟩⟩, ⟨trivial, ⟨trivial, ⟨trivial, ⟨trivial, ⟨trivial, ⟨trivial, trivial, ⟨(FnOk.of Tryz.func192 c192), trivial, trivial⟩⟩, trivial⟩, trivial⟩, ⟨trivial, ⟨trivial, trivial, ⟨trivial, ⟨(fun E _ => ok_MapClone E), trivial, trivial⟩, trivial⟩⟩, trivial⟩⟩, ⟨trivial, ⟨trivial, ⟨trivial, ⟨trivial, ⟨(FnOk.of Tryz.func132 c132), trivial, trivial⟩, trivial⟩, trivial⟩, trivial⟩, trivial⟩⟩, ⟨trivial, ⟨trivial, ⟨trivial, ⟨trivial, ⟨trivial, trivial, ⟨(FnOk.of Tryz.func194 c194), trivial, trivial⟩⟩, trivial⟩, ⟨trivial, trivial, ⟨trivial, trivial, ⟨(FnOk.of Tryz.func242 c242), trivial, trivial⟩⟩⟩⟩, trivial⟩, ⟨trivial, ⟨trivial, ⟨trivial, ⟨(FnOk.of Tryz.func70 c70), ⟨(fun E _ => ok_Scan E), trivial, trivial⟩, trivial⟩, trivial⟩, trivial⟩, trivial⟩⟩⟩⟩
end
end Go.Sx

/- The states of a run in parts. -/
set_option maxRecDepth 1000000
set_option linter.unusedVariables false
namespace Go.Sx
noncomputable section
def opn_s0 (x0 x1 x2 x3 x4 x6 x8 : Blk) : St := startS 92 [(.ptr (some ⟨5, 0, 0, 0⟩))] [x0,
  x1,
  x2,
  x3,
  x4,
  .cells [(.slice (some ⟨6, 64, 0, 0⟩) .all (.exact 1000)), (.slice (some ⟨7, 64, 0, 0⟩) .all (.exact 1000)), (.slice none (.n 0) (.exact 0)), (.int .i64 (-1)), (.bool false)],
  x6,
  .rows false .sector (List.replicate 1000 (List.replicate 64 0)),
  x8]
def opn_s1 (x0 x1 x2 x3 x4 x6 x8 : Blk) : St := ⟨⟨(.nd (.ptr (some ⟨5, 0, 0, 0⟩)) (.nd .unk (.nd (.slice none (.n 0) (.exact 0)) .nil .nil) .nil) (.nd (.ptr none) (.nd (.int .i64 0) .nil .nil) .nil)), 92, 9⟩,
 [x0,
  x1,
  x2,
  x3,
  x4,
  .cells [(.slice (some ⟨6, 64, 0, 0⟩) .all (.exact 1000)), (.slice (some ⟨7, 64, 0, 0⟩) .all (.exact 1000)), (.slice none (.n 0) (.exact 0)), (.int .i64 (-1)), (.bool false)],
  x6,
  .rows false .sector (List.replicate 1000 (List.replicate 64 0)),
  x8],
 []⟩
def opn_s2 (x0 x1 x2 x3 x4 x6 x8 : Blk) : St := ⟨⟨(.nd (.ptr (some ⟨5, 0, 0, 0⟩)) (.nd .unk (.nd (.slice none (.n 0) (.exact 0)) .nil .nil) .nil) (.nd (.ptr none) (.nd (.int .i64 0) .nil .nil) .nil)), 92, 9⟩,
 [x0,
  x1,
  x2,
  x3,
  x4,
  .cells [(.slice (some ⟨6, 64, 0, 0⟩) .all (.exact 1000)), (.slice (some ⟨7, 64, 0, 0⟩) .all (.exact 1000)), (.slice none (.n 0) (.exact 0)), (.int .i64 (-1)), (.bool false)],
  x6,
  .rows false .sector (List.replicate 1000 (List.replicate 64 0)),
  x8],
 []⟩
def opn_s3 (x0 x1 x2 x3 x4 x6 x8 : Blk) : St := ⟨⟨(.nd .unk (.nd .unk (.nd (.slice none (.n 0) (.exact 0)) .nil .nil) (.nd (.ptr (some ⟨9, 0, 0, 0⟩)) .nil .nil)) (.nd (.ptr none) (.nd (.int .i64 0) .nil .nil) .nil)), 92, 9⟩,
 [x0,
  x1,
  x2,
  x3,
  x4,
  .cells [(.slice (some ⟨6, 64, 0, 0⟩) .all (.exact 1000)), (.slice (some ⟨7, 64, 0, 0⟩) .all (.exact 1000)), (.slice none (.n 0) (.exact 0)), (.int .i64 (-1)), (.bool false)],
  x6,
  .rows false .sector (List.replicate 1000 (List.replicate 64 0)),
  x8,
  .cells [(.ptr (some ⟨5, 0, 0, 0⟩)), (.int .i64 500), (.int .i64 0), (.int .i64 0), (.int .u32 0), (.slice none (.n 0) (.exact 0))]],
 []⟩
def opn_s4 (x0 x1 x2 x3 x4 x6 x8 : Blk) : St := ⟨⟨(.nd .unk (.nd .unk (.nd (.slice none (.n 0) (.exact 0)) (.nd (.int .i64 0) .nil .nil) .nil) (.nd (.ptr (some ⟨9, 0, 0, 0⟩)) .nil .nil)) (.nd (.ptr none) (.nd (.int .i64 0) .nil .nil) (.nd (.ptr (some ⟨10, 0, 0, 0⟩)) .nil .nil))), 92, 9⟩,
 [x0,
  x1,
  x2,
  x3,
  x4,
  .cells [(.slice (some ⟨6, 64, 0, 0⟩) .all (.exact 1000)), (.slice (some ⟨7, 64, 0, 0⟩) .all (.exact 1000)), (.slice none (.n 0) (.exact 0)), (.int .i64 (-1)), (.bool false)],
  x6,
  .rows false .sector (List.replicate 1000 (List.replicate 64 0)),
  x8,
  .cells [(.ptr (some ⟨5, 0, 0, 0⟩)), (.int .i64 500), (.int .i64 0), (.int .i64 0), (.int .u32 0), (.slice none (.n 0) (.exact 0))],
  .cells [(.int .u32 0), (.int .i64 0), (.slice none (.n 0) (.exact 0))]],
 []⟩
def opn_s5 (x0 x1 x2 x3 x4 x6 x8 : Blk) : St := ⟨⟨(.nd .unk (.nd .unk (.nd (.slice none (.n 0) (.exact 0)) (.nd (.int .i64 0) .nil .nil) .nil) (.nd (.ptr (some ⟨9, 0, 0, 0⟩)) .nil .nil)) (.nd (.ptr none) (.nd (.int .i64 0) .nil .nil) (.nd (.ptr (some ⟨10, 0, 0, 0⟩)) .nil .nil))), 92, 9⟩,
 [x0,
  x1,
  x2,
  x3,
  x4,
  .cells [(.slice (some ⟨6, 64, 0, 0⟩) .all (.exact 1000)), (.slice (some ⟨7, 64, 0, 0⟩) .all (.exact 1000)), (.slice none (.n 0) (.exact 0)), (.int .i64 (-1)), (.bool false)],
  x6,
  .rows false .sector (List.replicate 1000 (List.replicate 64 0)),
  x8,
  .cells [(.ptr (some ⟨5, 0, 0, 0⟩)), (.int .i64 500), (.int .i64 0), (.int .i64 0), (.int .u32 0), (.slice none (.n 0) (.exact 0))],
  .cells [(.int .u32 0), (.int .i64 0), (.slice none (.n 0) (.exact 0))]],
 []⟩
def opn_s6 (x0 x1 x2 x3 x4 x6 x8 : Blk) : St := ⟨⟨(.nd .unk (.nd .unk (.nd (.slice none (.n 0) (.exact 0)) (.nd (.int .i64 0) .nil .nil) .nil) (.nd (.ptr (some ⟨9, 0, 0, 0⟩)) .nil .nil)) (.nd (.ptr none) (.nd (.int .i64 0) (.nd (.ptr (some ⟨11, 0, 0, 0⟩)) .nil .nil) .nil) (.nd (.ptr (some ⟨10, 0, 0, 0⟩)) .nil .nil))), 92, 9⟩,
 [x0,
  x1,
  x2,
  x3,
  x4,
  .cells [(.slice (some ⟨6, 64, 0, 0⟩) .all (.exact 1000)), (.slice (some ⟨7, 64, 0, 0⟩) .all (.exact 1000)), (.slice none (.n 0) (.exact 0)), (.int .i64 (-1)), (.bool false)],
  x6,
  .rows false .sector (List.replicate 1000 (List.replicate 64 0)),
  x8,
  .cells [(.ptr (some ⟨5, 0, 0, 0⟩)), (.int .i64 500), (.int .i64 0), (.int .i64 0), (.int .u32 0), (.slice none (.n 0) (.exact 0))],
  .cells [(.int .u32 0), (.int .i64 0), (.slice none (.n 0) (.exact 0))],
  .cells [(.int .u32 0), (.int .i64 0), (.slice none (.n 0) (.exact 0))]],
 []⟩
def opn_s7 (x0 x1 x2 x3 x4 x6 x8 : Blk) : St := ⟨⟨(.nd .unk (.nd .unk (.nd (.slice none (.n 0) (.exact 0)) .nil .nil) (.nd (.ptr (some ⟨9, 0, 0, 0⟩)) .nil .nil)) (.nd (.ptr none) (.nd (.int .i64 0) (.nd (.ptr (some ⟨11, 0, 0, 0⟩)) .nil .nil) .nil) (.nd (.ptr (some ⟨10, 0, 0, 0⟩)) .nil .nil))), 92, 9⟩,
 [x0,
  x1,
  x2,
  x3,
  x4,
  .cells [(.slice (some ⟨6, 64, 0, 0⟩) .all (.exact 1000)), (.slice (some ⟨7, 64, 0, 0⟩) .all (.exact 1000)), (.slice none (.n 0) (.exact 0)), (.int .i64 (-1)), (.bool false)],
  x6,
  .rows false .sector (List.replicate 1000 (List.replicate 64 0)),
  x8,
  .cells [(.ptr (some ⟨5, 0, 0, 0⟩)), (.int .i64 500), (.int .i64 0), (.int .i64 0), (.int .u32 0), (.slice none (.n 0) (.exact 0))],
  .cells [(.int .u32 0), (.int .i64 0), (.slice none (.n 0) (.exact 0))],
  .cells [(.int .u32 0), (.int .i64 0), (.slice none (.n 0) (.exact 0))]],
 []⟩
def opn_s8 (x0 x1 x2 x3 x4 x6 x8 : Blk) : St := ⟨⟨(.nd .unk (.nd .unk (.nd (.slice none (.n 0) (.exact 0)) .nil .nil) (.nd (.ptr (some ⟨9, 0, 0, 0⟩)) .nil .nil)) (.nd (.ptr none) (.nd (.int .i64 0) .nil .nil) (.nd (.ptr (some ⟨10, 0, 0, 0⟩)) .nil .nil))), 92, 9⟩,
 [x0,
  x1,
  x2,
  x3,
  x4,
  .cells [(.slice (some ⟨6, 64, 0, 0⟩) .all (.exact 1000)), (.slice (some ⟨7, 64, 0, 0⟩) .all (.exact 1000)), (.slice none (.n 0) (.exact 0)), (.int .i64 (-1)), (.bool false)],
  x6,
  .rows false .sector (List.replicate 1000 (List.replicate 64 0)),
  x8,
  .cells [(.ptr (some ⟨5, 0, 0, 0⟩)), (.int .i64 500), (.int .i64 0), (.int .i64 0), (.int .u32 0), (.slice none (.n 0) (.exact 0))],
  .cells [(.int .u32 0), (.int .i64 0), (.slice none (.n 0) (.exact 0))]],
 []⟩
def opn_s9 (x0 x1 x2 x3 x4 x6 x8 : Blk) : St := ⟨⟨(.nd .unk (.nd .unk (.nd (.slice none (.n 0) (.exact 0)) .nil .nil) (.nd (.ptr (some ⟨9, 0, 0, 0⟩)) .nil .nil)) (.nd (.ptr none) (.nd (.int .i64 0) .nil .nil) (.nd (.ptr (some ⟨10, 0, 0, 0⟩)) .nil .nil))), 92, 9⟩,
 [x0,
  x1,
  x2,
  x3,
  x4,
  .cells [(.slice (some ⟨6, 64, 0, 0⟩) .all (.exact 1000)), (.slice (some ⟨7, 64, 0, 0⟩) .all (.exact 1000)), (.slice none (.n 0) (.exact 0)), (.int .i64 (-1)), (.bool false)],
  x6,
  .rows false .sector (List.replicate 1000 (List.replicate 64 0)),
  x8,
  .cells [(.ptr (some ⟨5, 0, 0, 0⟩)), (.int .i64 500), (.int .i64 0), (.int .i64 0), (.int .u32 0), (.slice none (.n 0) (.exact 0))],
  .cells [(.int .u32 0), (.int .i64 0), (.slice none (.n 0) (.exact 0))]],
 []⟩
def opn_s10 (x0 x1 x2 x3 x4 x6 x8 : Blk) : St := ⟨⟨(.nd .unk (.nd .unk (.nd (.slice none (.n 0) (.exact 0)) .nil .nil) (.nd (.ptr (some ⟨9, 0, 0, 0⟩)) .nil .nil)) (.nd (.ptr none) (.nd (.int .i64 0) .nil .nil) .nil)), 92, 9⟩,
 [x0,
  x1,
  x2,
  x3,
  x4,
  .cells [(.slice (some ⟨6, 64, 0, 0⟩) .all (.exact 1000)), (.slice (some ⟨7, 64, 0, 0⟩) .all (.exact 1000)), (.slice none (.n 0) (.exact 0)), (.int .i64 (-1)), (.bool false)],
  x6,
  .rows false .sector (List.replicate 1000 (List.replicate 64 0)),
  x8,
  .cells [(.ptr (some ⟨5, 0, 0, 0⟩)), (.int .i64 500), (.int .i64 0), (.int .i64 0), (.int .u32 0), (.slice none (.n 0) (.exact 0))]],
 []⟩
def opn_s11 (x0 x1 x2 x3 x4 x6 x8 : Blk) : St := ⟨⟨(.nd .unk (.nd .unk (.nd (.slice none (.n 0) (.exact 0)) .nil .nil) .nil) (.nd (.ptr (some ⟨9, 0, 0, 0⟩)) (.nd (.int .i64 0) .nil .nil) .nil)), 92, 9⟩,
 [x0,
  x1,
  x2,
  x3,
  x4,
  .cells [(.slice (some ⟨6, 64, 0, 0⟩) .all (.exact 1000)), (.slice (some ⟨7, 64, 0, 0⟩) .all (.exact 1000)), (.slice none (.n 0) (.exact 0)), (.int .i64 (-1)), (.bool false)],
  x6,
  .rows false .sector (List.replicate 1000 (List.replicate 64 0)),
  x8,
  .cells [(.ptr (some ⟨5, 0, 0, 0⟩)), (.int .i64 500), (.int .i64 0), (.int .i64 0), (.int .u32 0), (.slice none (.n 0) (.exact 0))]],
 []⟩
def opn_v (x0 x1 x2 x3 x4 x6 x8 : Blk) : AVal := (.tup [(.ptr (some ⟨9, 0, 0, 0⟩)), (.slice none (.n 0) (.exact 0)), (.int .i64 0)])
def opn_h (x0 x1 x2 x3 x4 x6 x8 : Blk) : Heap := [x0,
  x1,
  x2,
  x3,
  x4,
  .cells [(.slice (some ⟨6, 64, 0, 0⟩) .all (.exact 1000)), (.slice (some ⟨7, 64, 0, 0⟩) .all (.exact 1000)), (.slice none (.n 0) (.exact 0)), (.int .i64 (-1)), (.bool false)],
  x6,
  .rows false .sector (List.replicate 1000 (List.replicate 64 0)),
  x8,
  .cells [(.ptr (some ⟨5, 0, 0, 0⟩)), (.int .i64 500), (.int .i64 0), (.int .i64 0), (.int .u32 0), (.slice none (.n 0) (.exact 0))]]
end
end Go.Sx

/- A run in parts: proofs. -/
set_option maxRecDepth 1000000
set_option linter.unusedVariables false
namespace Go.Sx
noncomputable section
theorem opn_p0 (x0 x1 x2 x3 x4 x6 x8 : Blk) : Leads (EV TBP fr0 30) (.seq (partAt 0 a70.body) (.cut [0, 2, 3, 4])) (opn_s0 x0 x1 x2 x3 x4 x6 x8) (opn_s1 x0 x1 x2 x3 x4 x6 x8) := Leads.of fun R K => by kernel_rfl
theorem opn_p1 (x0 x1 x2 x3 x4 x6 x8 : Blk) : Leads (EV TBP fr0 30) (.seq (partAt 1 a70.body) (.cut [0, 2, 3, 4])) (opn_s1 x0 x1 x2 x3 x4 x6 x8) (opn_s2 x0 x1 x2 x3 x4 x6 x8) := Leads.of fun R K => by kernel_rfl
theorem opn_p2 (x0 x1 x2 x3 x4 x6 x8 : Blk) : Leads (EV TBP fr0 30) (.seq (partAt 2 a70.body) (.cut [2, 3, 4, 5])) (opn_s2 x0 x1 x2 x3 x4 x6 x8) (opn_s3 x0 x1 x2 x3 x4 x6 x8) := Leads.of fun R K => by kernel_rfl
theorem opn_p3 (x0 x1 x2 x3 x4 x6 x8 : Blk) : Leads (EV TBP fr0 30) (.seq (partAt 3 a70.body) (.cut [2, 3, 4, 5, 6, 7])) (opn_s3 x0 x1 x2 x3 x4 x6 x8) (opn_s4 x0 x1 x2 x3 x4 x6 x8) := Leads.of fun R K => by kernel_rfl
theorem opn_p4 (x0 x1 x2 x3 x4 x6 x8 : Blk) : Leads (EV TBP fr0 30) (.seq (partAt 4 a70.body) (.cut [2, 3, 4, 5, 6, 7])) (opn_s4 x0 x1 x2 x3 x4 x6 x8) (opn_s5 x0 x1 x2 x3 x4 x6 x8) := Leads.of fun R K => by kernel_rfl
theorem opn_p5 (x0 x1 x2 x3 x4 x6 x8 : Blk) : Leads (EV TBP fr0 30) (.seq (partAt 5 a70.body) (.cut [2, 3, 4, 5, 6, 7, 8])) (opn_s5 x0 x1 x2 x3 x4 x6 x8) (opn_s6 x0 x1 x2 x3 x4 x6 x8) := Leads.of fun R K => by kernel_rfl
theorem opn_p6 (x0 x1 x2 x3 x4 x6 x8 : Blk) : Leads (EV TBP fr0 30) (.seq (partAt 6 a70.body) (.cut [2, 3, 4, 5, 6, 8])) (opn_s6 x0 x1 x2 x3 x4 x6 x8) (opn_s7 x0 x1 x2 x3 x4 x6 x8) := Leads.of fun R K => by kernel_rfl
theorem opn_p7 (x0 x1 x2 x3 x4 x6 x8 : Blk) : Leads (EV TBP fr0 30) (.seq (partAt 7 a70.body) (.cut [2, 3, 4, 5, 6])) (opn_s7 x0 x1 x2 x3 x4 x6 x8) (opn_s8 x0 x1 x2 x3 x4 x6 x8) := Leads.of fun R K => by kernel_rfl
theorem opn_p8 (x0 x1 x2 x3 x4 x6 x8 : Blk) : Leads (EV TBP fr0 30) (.seq (partAt 8 a70.body) (.cut [2, 3, 4, 5, 6])) (opn_s8 x0 x1 x2 x3 x4 x6 x8) (opn_s9 x0 x1 x2 x3 x4 x6 x8) := Leads.of fun R K => by kernel_rfl
theorem opn_p9 (x0 x1 x2 x3 x4 x6 x8 : Blk) : Leads (EV TBP fr0 30) (.seq (partAt 9 a70.body) (.cut [2, 3, 4, 5])) (opn_s9 x0 x1 x2 x3 x4 x6 x8) (opn_s10 x0 x1 x2 x3 x4 x6 x8) := Leads.of fun R K => by kernel_rfl
theorem opn_p10 (x0 x1 x2 x3 x4 x6 x8 : Blk) : Leads (EV TBP fr0 30) (.seq (partAt 10 a70.body) (.cut [2, 3, 4])) (opn_s10 x0 x1 x2 x3 x4 x6 x8) (opn_s11 x0 x1 x2 x3 x4 x6 x8) := Leads.of fun R K => by kernel_rfl
theorem opn_end (x0 x1 x2 x3 x4 x6 x8 : Blk) : Ends (EV TBP fr0 30) (restAt 11 a70.body) (opn_s11 x0 x1 x2 x3 x4 x6 x8) [.tmp 2, .tmp 3, .tmp 4] (opn_v x0 x1 x2 x3 x4 x6 x8) (opn_h x0 x1 x2 x3 x4 x6 x8) [] := Ends.of fun R k => by kernel_rfl
end
end Go.Sx

/- A run in parts: the whole. -/
set_option maxRecDepth 1000000
set_option linter.unusedVariables false
namespace Go.Sx
noncomputable section

def opn_f : AFunc := a70.cuts none [[0, 2, 3, 4], [0, 2, 3, 4], [2, 3, 4, 5], [2, 3, 4, 5, 6, 7], [2, 3, 4, 5, 6, 7], [2, 3, 4, 5, 6, 7, 8], [2, 3, 4, 5, 6, 8], [2, 3, 4, 5, 6], [2, 3, 4, 5, 6], [2, 3, 4, 5], [2, 3, 4]]
theorem opn_code : opn_f.body = (.seq (.seq (partAt 0 a70.body) (.cut [0, 2, 3, 4])) (.seq (.seq (partAt 1 a70.body) (.cut [0, 2, 3, 4])) (.seq (.seq (partAt 2 a70.body) (.cut [2, 3, 4, 5])) (.seq (.seq (partAt 3 a70.body) (.cut [2, 3, 4, 5, 6, 7])) (.seq (.seq (partAt 4 a70.body) (.cut [2, 3, 4, 5, 6, 7])) (.seq (.seq (partAt 5 a70.body) (.cut [2, 3, 4, 5, 6, 7, 8])) (.seq (.seq (partAt 6 a70.body) (.cut [2, 3, 4, 5, 6, 8])) (.seq (.seq (partAt 7 a70.body) (.cut [2, 3, 4, 5, 6])) (.seq (.seq (partAt 8 a70.body) (.cut [2, 3, 4, 5, 6])) (.seq (.seq (partAt 9 a70.body) (.cut [2, 3, 4, 5])) (.seq (.seq (partAt 10 a70.body) (.cut [2, 3, 4])) (restAt 11 a70.body)))))))))))) := by kernel_rfl
theorem opn_run (x0 x1 x2 x3 x4 x6 x8 : Blk) (R : Type) (k : AVal → Heap → List Nat → Option R) : exF (EV TBP fr0 30) opn_f [(.ptr (some ⟨5, 0, 0, 0⟩))] [x0,
  x1,
  x2,
  x3,
  x4,
  .cells [(.slice (some ⟨6, 64, 0, 0⟩) .all (.exact 1000)), (.slice (some ⟨7, 64, 0, 0⟩) .all (.exact 1000)), (.slice none (.n 0) (.exact 0)), (.int .i64 (-1)), (.bool false)],
  x6,
  .rows false .sector (List.replicate 1000 (List.replicate 64 0)),
  x8] k = k (opn_v x0 x1 x2 x3 x4 x6 x8) (opn_h x0 x1 x2 x3 x4 x6 x8) [] :=
  Ends.run (f := opn_f) (Leads.ends (opn_p0 x0 x1 x2 x3 x4 x6 x8) (Leads.ends (opn_p1 x0 x1 x2 x3 x4 x6 x8) (Leads.ends (opn_p2 x0 x1 x2 x3 x4 x6 x8) (Leads.ends (opn_p3 x0 x1 x2 x3 x4 x6 x8) (Leads.ends (opn_p4 x0 x1 x2 x3 x4 x6 x8) (Leads.ends (opn_p5 x0 x1 x2 x3 x4 x6 x8) (Leads.ends (opn_p6 x0 x1 x2 x3 x4 x6 x8) (Leads.ends (opn_p7 x0 x1 x2 x3 x4 x6 x8) (Leads.ends (opn_p8 x0 x1 x2 x3 x4 x6 x8) (Leads.ends (opn_p9 x0 x1 x2 x3 x4 x6 x8) (Leads.ends (opn_p10 x0 x1 x2 x3 x4 x6 x8) (opn_end x0 x1 x2 x3 x4 x6 x8)))))))))))) opn_code R k

end
end Go.Sx

/- What journal.Open does on a new disk: a specification out of its run. -/
set_option maxRecDepth 1000000
set_option linter.unusedVariables false
namespace Go.Sx
open Go.Proofs
section
variable {B : Base}
theorem ok_Open (E : Env) : CallOk Tryz.prog B 70 (spOpen E) := by
  intro ρ h w args vals R k r S hv he
  unfold spOpen at he
  split at he
  · rename_i x0 x1 x2 x3 x4 x6 l x8
    obtain ⟨q1, q2⟩ := cond_some he
    obtain rfl := allZs_eq l 1000 q1
    obtain ⟨h1, E', h2, h3⟩ := EV_both mixedT (tabOkP (B := B)) 30
    exact fn_sound mixedT (FnOk.cuts Tryz.func70 c70 _ _ : FnOk Tryz.prog B tt fr0 70 opn_f) h1 h2 h3 ρ _ w _ vals R k r S hv ((opn_run x0 x1 x2 x3 x4 x6 x8 R k).trans q2)
  · cases he
end
end Go.Sx
