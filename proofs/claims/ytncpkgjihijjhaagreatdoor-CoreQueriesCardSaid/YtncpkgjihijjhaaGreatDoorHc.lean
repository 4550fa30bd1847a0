/- CoreQueries: each terminal is asked what it counts when the switch begins, when its power is back, and at each so-manieth tick; true for every k and ticks. Part Hc of the proof. Condition: the listed package variables hold what the program's text lays. -/
import Derived.Test.YtncpkgjihijjhaaGreatDoorGz
import Derived.Test.YtncpkgjihijjhaaGreatDoorRows
import Derived.Test.YtncpkgjihijjhaaGreatDoorTie
import Derived.Test.YtncpkgjihijjhaaGreatDoorCards
import Derived.WalkKit
import Derived.ProofKit
import Derived.OpenShut
import Derived.LaidMore
import Derived.Stop.LaidErr
import Derived.MakeChecks
import Derived.Stop.Joined
import Derived.SevenTiedAt
import Derived.Lib.LaidTab
import Derived.Test.YtncpkgjihijjhaaGreatDoorHa
import Derived.Test.YtncpkgjihijjhaaGreatDoorHb
set_option linter.unusedVariables false
set_option linter.unusedSimpArgs false
noncomputable section
set_option maxRecDepth 1000000
namespace Go.Proofs.YtncpkgjihijjhaaGreatDoor.coreQueries
open Go.ChangeShapes Go.WideShapes Go.ChangeAt Go.RowKit Go.Sx
set_option linter.unusedVariables false
theorem own : ownKnob Tryz.prog.godebug = none := by kernel_rfl

/-- What a law of numbers owes behind its call: nothing of its input lies in memory. -/
theorem post_plain {H : Type} {enc : TypeId × Value → H} {P : Program} {f : Func} {s : ChangeSpec} {apart fresh handsOn again : Bool} {W W' : World} {args : Array Value} {v : Value} {ds gs : List (DataW H)}
    (hW : DataW.Whole enc P f.params.toList s.vars apart W args.toList ds gs [])
    (hres : ∀ (b : Nat) (sp : Nat → Bool) (hd : Bool), DataW.TrodAll enc P W' b sp hd f.resultTypes.toList (v.resultList f.resultTypes.size) (s.fn H (ds ++ gs)).results [])
    (hargs : ∀ sp : Nat → Bool, DataW.TrodAll enc P W' 0 sp true f.params.toList args.toList (s.fn H (ds ++ gs)).args [])
    (hvars : ∀ sp : Nat → Bool, DataW.TrodVars enc P W' sp s.vars (s.fn H (ds ++ gs)).vars [])
    (hk : W.keptBut W' (· ∈ ([] : List MemPlace)))
    (hok : ∀ (j : Nat) (t : TypeId) (r : Value), f.resultTypes[j]? = some t → (v.resultList f.resultTypes.size)[j]? = some r → Value.okWide P W' .any 0 t r) :
    s.post enc P f apart fresh handsOn again W args v W' := by
  refine ⟨ds, gs, [], [], [], [], hW, hres _ _ _, hargs _, hvars _, World.keptBut_mono (fun p hp => (by cases hp)) hk, fun _ => ?_⟩
  exact ⟨hok, _, _, ([] ++ []) ++ [], ⟨[] ++ [], [], trodAll_append (hargs _) (hres _ _ _), hvars _, rfl, (fun b off hp => by cases hp), (fun _ => .nil)⟩, (fun p hp _ => by cases hp)⟩
/-- Nothing is held of the memory that the call began with. -/
def inj0 : Inj := ⟨0, fun _ => none, fun _ => 0, fun _ _ _ => False, fun _ _ => rfl⟩
theorem sim0 (w : World) : Sim ⟨w, w.heap.size⟩ inj0 [] w :=
  ⟨rfl, fun id b h => by simp at h, fun i j bi bj Li Lj h => by simp at h, fun b o l h => h.elim, fun _ _ => rfl, fun i bi Li h => by simp at h, Nat.le_refl _⟩
theorem u8_nat {a : Int} (h : (Lit.int .u8 a).wf = true) : ∃ k : Nat, k < 256 ∧ a = Int.ofNat k ∧ IntKind.u8.has a := by
  have h' : IntKind.u8.min ≤ a ∧ a ≤ IntKind.u8.max := by simpa [Lit.wf] using h
  obtain ⟨h0, h1⟩ := h'
  have e0 : (0 : Int) ≤ a := by simpa [IntKind.min, IntKind.signed] using h0
  have e1 : a ≤ 255 := by simpa [IntKind.max, IntKind.signed, IntKind.bits] using h1
  exact ⟨a.toNat, by omega, by simp only [Int.ofNat_eq_natCast]; omega, h0, h1⟩
theorem walk (a0 : Int) (a1 : Int) (w0 : (Lit.int .u8 a0).wf = true) (w1 : (Lit.int .u8 a1).wf = true) (w : World) (hB : Pow10 ⟨w, w.heap.size⟩) :
    Calls Tryz.prog 8 #[.int .u8 a0, .int .u8 a1] w fun e w' => e = .returned (.bool true) ∧ Below w.heap.size w w' := by
  obtain ⟨k, hk, rfl, k1⟩ := u8_nat w0
  obtain ⟨t, ht, rfl, t1⟩ := u8_nat w1
  obtain ⟨h1, E', h2, h3⟩ := EV_both mixedT (tabOkQ' hB) 60
  refine (fn_calls (B := ⟨w, w.heap.size⟩) mixedT (FnOk.cuts Tryz.func8 d8 _ _ : FnOk Tryz.prog ⟨w, w.heap.size⟩ tt fr0 8 cq_f) h1 h2 h3 inj0 [] w [.int .u8 (Int.ofNat k), .int .u8 (Int.ofNat t)] [.int .u8 (Int.ofNat k), .int .u8 (Int.ofNat t)]
    (fun v _ _ => match v with | .bool b => some b | _ => none) true (sim0 w) (.cons (.int k1) (.cons (.int t1) .nil)) (cq_run k t hk ht Bool _)).mono ?_
  rintro e w' ⟨v', rfl, v, h', d, ρ', e1, e2, S', F, _⟩
  split at e1 <;> try contradiction
  cases e1
  obtain rfl := e2.bool_inv
  exact ⟨rfl, ⟨F.os, F.tape, F.output, F.size, fun b hb => F.same b hb (fun i bi Li h => by simp at h)⟩⟩

/-- What the pinned table holds. -/
def firstCells : Array Value := match Go.Pinned.utf8First with
  | .agg l => (l.map fun d => match d with | .lit (.int k z) => Value.int k z | _ => .bool false).toArray
  | _ => #[]
theorem gFirst : (Tryz.prog.globalNamed "unicode/utf8.first").isSome = true := by kernel_rfl
noncomputable def laidW (os : Os) : World :=
  { World.doorLaid Tryz.prog 72 os with heap := (World.doorLaid Tryz.prog 72 os).heap.setIfInBounds ((Tryz.prog.globalNamed "unicode/utf8.first").getD 0) (.cells firstCells (((Tryz.prog.globals[(Tryz.prog.globalNamed "unicode/utf8.first").getD 0]?).map (·.type)).getD 0) (0, 0)) }
theorem door_met (os : Os) (args : Array Value) : laidMetH Tryz.prog Rows.coreQueriesRow.laid ((laidW os).forCall (fun _ _ => 0) ⟨#[], args, []⟩).memory :=
  laidMetH_of_parts3 (fuel := 8) (laidMet_of_run' 8 (by kernel_rfl) (by kernel_rfl)) (by kernel_rfl) (by kernel_rfl)
theorem plainList : (Rows.coreQueriesRow.laid.all fun x => x.2.handleName?.isNone) = true := by kernel_rfl
theorem gPow : Tryz.prog.globalNamed "internal/strconv.uint64pow10" = some 3 := by kernel_rfl
theorem pow10 {W : World} (h : laidMetH Tryz.prog Rows.coreQueriesRow.laid W) : Pow10 ⟨W, W.heap.size⟩ := by
  rw [MakeChecks.laidMetH_plain _ _ _ plainList] at h
  have h3 := h.tail.tail
  have hT : Lib.TabIs Tryz.prog W "internal/strconv.uint64pow10" .u64 Lib.pow10Tab := Lib.tabIs_of_head (t := 450) (e := 290) (n := 20) gPow (by kernel_rfl) (by kernel_rfl) (by kernel_rfl) (by kernel_rfl) (by kernel_rfl) h3
  intro w hw
  unfold Lib.TabIs World.var? at hT ⊢
  rw [gPow] at hT ⊢
  simp only [Option.bind_some] at hT ⊢
  have hlt : 3 < W.heap.size := by
    rcases Nat.lt_or_ge 3 W.heap.size with h | h
    · exact h
    · rw [Array.getElem?_eq_none h] at hT; simp at hT
  rw [hw 3 hlt]
  exact hT
theorem lifted (os : Os) (started : os.Started) (H : Type) (enc : TypeId × Value → H) :
    ReturnsInHanded {} Tryz.checked os 8 .any (fun w args => (Rows.coreQueriesSpec.pre enc Tryz.prog Tryz.f8 [] false w args ∧ laidMetH Tryz.prog Rows.coreQueriesRow.laid w) ∧ sizedMet enc Tryz.prog Tryz.f8 (OpenSpec.ofChange Rows.coreQueriesSpec) false w args)
      (Rows.coreQueriesSpec.post enc Tryz.prog Tryz.f8 false true false false) := by
  refine returnsInHanded_of_change_and (C := Tryz.checked) (X := fun w _ => laidMetH Tryz.prog Rows.coreQueriesRow.laid w) (fun _ _ _ hh h => h.of_heap hh) own started (by kernel_rfl) Tryz.func8
    (ChangeSpec.witness_shaped (enc := enc) (C := Tryz.checked) (os := os) (X := fun w _ => laidMetH Tryz.prog Rows.coreQueriesRow.laid w) false (laidW os) #[.int .u8 0, .int .u8 0] 8 rfl (World.shaped_of_RefB (by kernel_rfl) (by kernel_rfl)) (by kernel_rfl) (by kernel_rfl) (by kernel_rfl) (door_met os _)) ?_
  intro W base args ds gs before hval0 hW _ _ hL _
  have hval : ∀ (j : Nat) t v, Tryz.f8.params[j]? = some t → args[j]? = some v → Value.okWide Tryz.prog W .any base t v := hval0
  have hW' := hW
  obtain ⟨p, q, hA0, hV, rfl, hfz, hnd⟩ := hW
  have hA : DataW.TrodAll enc Tryz.prog W 0 (fun _ => true) true Tryz.f8.params.toList args.toList ds p := hA0
  rw [Tryz.params8] at hA hval
  obtain ⟨v0, vs0, d0, ds0, p0, q0, hargs, rfl, rfl, h0, r0⟩ := trodAll_cons hA
  obtain ⟨v1, vs1, d1, ds1, p1, q1, rfl, rfl, rfl, h1, r1⟩ := trodAll_cons r0
  obtain ⟨rfl, rfl, rfl⟩ := trodAll_nil r1
  obtain rfl : args = #[v0, v1] := by cases args; simp_all
  obtain ⟨rfl, rfl⟩ := trodVars_none hV
  obtain ⟨a0, rfl, rfl, rfl, w0⟩ := open_int Tryz.underlying5 (hval 0 5 v0 rfl rfl) h0
  obtain ⟨a1, rfl, rfl, rfl, w1⟩ := open_int Tryz.underlying5 (hval 1 5 v1 rfl rfl) h1
  clear hA0 hval0
  simp only [List.append_nil] at hW'
  refine (walk a0 a1 w0 w1 W (pow10 hL)).mono fun e W' ⟨he, hg⟩ => ?_
  subst he
  exact ⟨_, rfl, post_plain hW' (fun _ _ _ => (trodAll_cons_mk (shut_bool Tryz.underlying4 _) trodAll_mk0)) (fun sp => (trodAll_cons_mk (shut_int Tryz.underlying5 w0) (trodAll_cons_mk (shut_int Tryz.underlying5 w1) trodAll_mk0))) (fun _ => rfl)
    (hg.frame _) (ok_one (by kernel_rfl) rfl (okWide_bool_mk Tryz.underlying4 _))⟩

theorem over : Rows.coreQueriesRow.holds Tryz.pinned (OpenSpec.ofChange Rows.coreQueriesSpec) :=
  OpenClaim.holds_of_wide 8 Tryz.f8 rfl rfl rfl rfl rfl rfl rfl ⟨rfl, rfl, rfl, rfl, rfl⟩ rfl rfl rfl rfl rfl named8 Tryz.func8 closed8
    instance8 wrapper8
    (fun os started H enc _ => lifted os started H enc)
theorem said : Rows.CoreQueriesSaid := over
theorem proved : Rows.CoreQueriesCardSaid :=
  Claim7.holds_tied_plain_at .later [] [.data, .data, .data, .data, .sentinel, .sentinel, .pinned] true (true, "5b5e34ec174498402338a17ba591f67ae7b05fd02a0c5930ae9b4cd0a0ef4fd1") true
    said (fun _ h => by cases h) wf8 (fun _ h => by cases h) coreQueries_row_tie rfl ⟨rfl, rfl⟩ main8 rfl
    (fun f fn hf hfn => by
      obtain rfl : f = 8 := Option.some.inj (named8.symm.trans hf) |>.symm
      obtain rfl : fn = Tryz.f8 := (Option.some.inj (Tryz.func8.symm.trans hfn)).symm
      exact ⟨looks8, fun j t ht => by
        rw [Tryz.params8] at ht
        have hm : t ∈ [5, 5] := by simpa using Array.mem_of_getElem? ht
        exact (show Tryz.prog.wantsStandIn t = false by simpa using List.all_eq_true.1 stand8 t hm)⟩)
    goes8
#print axioms proved
end Go.Proofs.YtncpkgjihijjhaaGreatDoor.coreQueries
