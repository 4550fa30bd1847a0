/- CoreQueries: each terminal is asked what it counts when the switch begins, when its power is back, and at each so-manieth tick; true for every k and ticks. Part Sb of the proof. Condition: the listed package variables hold what the program's text lays. -/
import Derived.Test.YtncpkgjihijjhaaGreatDoorSa
import Derived.Laws.MakeOwn
import Derived.Laws.IdiomStrings
import Derived.Laws.AppendOwn
import Derived.Orders
import Derived.Deep.AppendSrc
set_option linter.unusedVariables false
set_option linter.unusedSimpArgs false
/- Whatever the evaluator says of an operation that changes nothing holds of the model. -/
set_option linter.unusedSimpArgs false
set_option linter.unusedVariables false
namespace Go.Sx
section
variable {P : Program} {w : World} {B : Base} {ρ : Inj} {h : Heap} {val : Operand → Value}

theorem VR.int_inv {k : IntKind} {n : Int} {v : Value} (h : VR ρ (.int k n) v) : v = .int k n ∧ k.has n := by cases h with | int h => exact ⟨rfl, h⟩
theorem VR.bool_inv {b : Bool} {v : Value} (h : VR ρ (.bool b) v) : v = .bool b := by cases h; rfl
theorem VR.str_inv {l : List Int} {v : Value} (h : VR ρ (.str l) v) : ∃ s, v = .string s ∧ bytesI s = l := by cases h with | str h => exact ⟨_, rfl, h⟩
theorem VR.ptr_inv {p : APtr} {v : Value} (h : VR ρ (.ptr (some p)) v) : ∃ a, v = .pointer (some a) ∧ ρ.addr p = some a := addr_of_VR h

theorem compOpds_VR {f : Opd → AVal} (hf : ∀ x ax, compOpd x = some ax → VR ρ (f ax) (val x)) : ∀ {l : List Operand} {m : List Opd}, compOpds l = some m → VRs ρ (m.map f) (l.map val)
  | [], m, h => by simp only [compOpds, Option.some.injEq] at h; subst h; exact .nil
  | x :: l, m, h => by
    simp only [compOpds] at h
    split at h
    · rename_i a b ha hb
      cases h
      exact .cons (hf x a ha) (compOpds_VR hf hb)
    · contradiction

theorem optInt_sound {f : Opd → AVal} (hf : ∀ x ax, compOpd x = some ax → VR ρ (f ax) (val x)) {lo : Option Operand} {alo : Option Opd} (hc : compOpt lo = some alo) {a : Option Int} (ha : optInt f alo = some a) : OptI val lo a := by
  cases lo with
  | none =>
    simp only [compOpt, Option.some.injEq] at hc
    subst hc
    simp only [optInt, Option.some.injEq] at ha
    subst ha
    trivial
  | some x =>
    simp only [compOpt] at hc
    obtain ⟨ax, hx, rfl⟩ := Option.map_eq_some_iff.1 hc
    simp only [optInt] at ha
    split at ha
    · rename_i k n hn
      cases ha
      have := hf x ax hx
      rw [hn] at this
      exact ⟨k, this.int_inv.1⟩
    · contradiction

theorem aval_nil {v : Value} (h : aval v = some .nilIfc) : v = .nilIface := by
  unfold aval at h
  split at h
  · obtain ⟨l, _, h2⟩ := Option.map_eq_some_iff.1 h; cases h2
  · unfold aval1 at h
    split at h <;> first | rfl | contradiction | (cases h; done) | (split at h <;> first | contradiction | (cases h; done))

theorem eqP_sound {o : Oper} {ng : Bool} {t e yt : TypeId} {x y : Operand} (ho : o.op = .binOp (eqlOp ng) t x y yt) (hu : P.underlying t = some (.pointer e)) {f : Opd → AVal} {fp : Opd → Bool → Opd → AVal}
    (hf : ∀ x ax, compOpd x = some ax → VR ρ (f ax) (val x)) {ax ay : Opd} (hx : compOpd x = some ax) (hy : compOpd y = some ay) {v : AVal} (he : exR (.eqP ng ax ay) f fp h = some (true, v)) : RGoal P w ρ val o v := by
  have v1 := hf _ _ hx
  have v2 := hf _ _ hy
  simp only [exR] at he
  split at he <;> try contradiction
  all_goals
    rename_i hpa hpb
    rw [hpa] at v1; rw [hpb] at v2
    cases he
  · generalize hvx : val x = vx at v1
    generalize hvy : val y = vy at v2
    cases v1; cases v2
    have := R_eqs_ptr (P := P) (w := w) (ρ := ρ) ho hvx hvy hu (.inl rfl)
    cases ng <;> simpa using this
  · obtain ⟨a, ha, _⟩ := v1.ptr_inv
    generalize hvy : val y = vy at v2
    cases v2
    have := R_eqs_ptr (P := P) (w := w) (ρ := ρ) ho ha hvy hu (.inr rfl)
    cases ng <;> simpa using this
  · obtain ⟨a, ha, _⟩ := v2.ptr_inv
    generalize hvx : val x = vx at v1
    cases v1
    have := R_eqs_ptr (P := P) (w := w) (ρ := ρ) ho hvx ha hu (.inl rfl)
    cases ng <;> simpa using this

theorem eqI_sound {o : Oper} {ng : Bool} {t yt : TypeId} {x y : Operand} (ho : o.op = .binOp (eqlOp ng) t x y yt) {f : Opd → AVal} {fp : Opd → Bool → Opd → AVal}
    (hf : ∀ x ax, compOpd x = some ax → VR ρ (f ax) (val x)) (hconst : ∀ v, val (.const v) = v) {ax : Opd} (hx : compOpd x = some ax) (hy : compOpd y = some (.c .nilIfc)) {ms : Array (String × TypeId)} (hu : P.underlying t = some (.interface ms))
    {v : AVal} (he : exR (.eqI ng ax) f fp h = some (true, v)) : RGoal P w ρ val o v := by
  have v1 := hf _ _ hx
  cases y <;> simp only [compOpd, reduceCtorEq, Option.some.injEq] at hy <;> try contradiction
  case const c =>
    obtain ⟨a, ha, ha'⟩ := Option.map_eq_some_iff.1 hy
    cases ha'
    have hcn := aval_nil ha
    simp only [exR] at he
    split at he <;> try contradiction
    all_goals
      rename_i hpa
      rw [hpa] at v1
      cases he
    · generalize hvx : val x = vx at v1
      cases v1
      have := R_eqs_ifc (P := P) (w := w) (ρ := ρ) ho (by rw [hconst]; exact hcn) (.inl hvx) hu
      rw [hvx] at this
      cases ng <;> simpa using this
    · generalize hvx : val x = vx at v1
      cases v1
      have := R_eqs_ifc (P := P) (w := w) (ρ := ρ) ho (by rw [hconst]; exact hcn) (.inr ⟨_, _, hvx⟩) hu
      rw [hvx] at this
      cases ng <;> simpa using this
  case func g => cases hy

theorem aval_nils {v : Value} (h : aval v = some (.slice none (.n 0) (.exact 0))) : v = .slice none 0 0 := by
  unfold aval at h
  split at h
  · obtain ⟨l, _, h2⟩ := Option.map_eq_some_iff.1 h; cases h2
  · unfold aval1 at h
    split at h <;> first | rfl | contradiction | (cases h; done) | (split at h <;> first | contradiction | (cases h; done))
theorem aval_nilm {v : Value} (h : aval v = some (.map none)) : v = .map none := by
  unfold aval at h
  split at h
  · obtain ⟨l, _, h2⟩ := Option.map_eq_some_iff.1 h; cases h2
  · unfold aval1 at h
    split at h <;> first | rfl | contradiction | (cases h; done) | (split at h <;> first | contradiction | (cases h; done))
theorem eqN_sound (S : Sim B ρ h w) {o : Oper} {ng : Bool} {t yt e : TypeId} {x y : Operand} (ho : o.op = .binOp (eqlOp ng) t x y yt) {f : Opd → AVal} {fp : Opd → Bool → Opd → AVal}
    (hf : ∀ x ax, compOpd x = some ax → VR ρ (f ax) (val x)) {ax : Opd} (hx : compOpd x = some ax)
    (hy : val y = .slice none 0 0) (hu : P.underlying t = some (.slice e))
    {v : AVal} (he : exR (.eqN ng ax) f fp h = some (true, v)) : RGoal P w ρ val o v := by
  have v1 := hf _ _ hx
  simp only [exR] at he
  split at he <;> try contradiction
  · rename_i n c hpa
    rw [hpa] at v1
    cases he
    generalize hvx : val x = vx at v1
    cases v1
    have := R_eqs_slice (P := P) (w := w) (ρ := ρ) ho hvx hy hu
    cases ng <;> simpa using this
  · rename_i p n c hpa
    rw [hpa] at v1
    split at he <;> try contradiction
    rename_i k hk
    cases he
    have hl := lenOf_sound S hk
    generalize hvx : val x = vx at v1
    cases v1 with
    | slice0 a hp hn hc => rw [hl] at hn; cases hn
    | slice h1 h2 h3 h4 =>
      have := R_eqs_slice (P := P) (w := w) (ρ := ρ) ho hvx hy hu
      cases ng <;> simpa using this
  · rename_i b bs hpa
    rw [hpa] at v1
    cases he
    generalize hvx : val x = vx at v1
    cases v1
    have := R_eqs_slice (P := P) (w := w) (ρ := ρ) ho hvx hy hu
    cases ng <;> simpa using this
theorem eqM_sound {o : Oper} {ng : Bool} {t yt k e : TypeId} {x y : Operand} (ho : o.op = .binOp (eqlOp ng) t x y yt) {f : Opd → AVal} {fp : Opd → Bool → Opd → AVal}
    (hf : ∀ x ax, compOpd x = some ax → VR ρ (f ax) (val x)) {ax : Opd} (hx : compOpd x = some ax)
    (hy : val y = .map none) (hu : P.underlying t = some (.map k e))
    {v : AVal} (he : exR (.eqM ng ax) f fp h = some (true, v)) : RGoal P w ρ val o v := by
  have v1 := hf _ _ hx
  simp only [exR] at he
  split at he <;> try contradiction
  · rename_i hpa
    rw [hpa] at v1
    cases he
    generalize hvx : val x = vx at v1
    cases v1
    have := R_eqs_map (P := P) (w := w) (ρ := ρ) ho hvx hy hu
    cases ng <;> simpa using this
  · rename_i r hpa
    rw [hpa] at v1
    cases he
    generalize hvx : val x = vx at v1
    cases v1
    have := R_eqs_map (P := P) (w := w) (ρ := ρ) ho hvx hy hu
    cases ng <;> simpa using this

theorem eqA_sound {o : Oper} {ng : Bool} {t yt : TypeId} {x y : Operand} (ho : o.op = .binOp (eqlOp ng) t x y yt) {d : TypeDesc} (hu : P.underlying t = some d) (hd : aggD d = true) {ks : List CK} (hk : flatT P 8 t = some ks) {f : Opd → AVal} {fp : Opd → Bool → Opd → AVal}
    (hf : ∀ x ax, compOpd x = some ax → VR ρ (f ax) (val x)) {ax ay : Opd} (hx : compOpd x = some ax) (hy : compOpd y = some ay) {v : AVal} (he : exR (.eqA ks ng ax ay) f fp h = some (true, v)) : RGoal P w ρ val o v := by
  have v1 := hf _ _ hx
  have v2 := hf _ _ hy
  simp only [exR] at he
  split at he <;> try contradiction
  rename_i a b hpa hpb
  rw [hpa] at v1; rw [hpb] at v2
  obtain ⟨r, hr, he'⟩ := Option.map_eq_some_iff.1 he
  cases he'
  exact R_eqs_agg ho v1 v2 hu hd hk hr

theorem eq1_sound {o : Oper} {ng : Bool} {t yt : TypeId} {x y : Operand} (ho : o.op = .binOp (eqlOp ng) t x y yt) {q : CK} (hq : q = .b ∨ q = .s) (hu : q = .b → P.underlying t = some .bool) {f : Opd → AVal} {fp : Opd → Bool → Opd → AVal}
    (hf : ∀ x ax, compOpd x = some ax → VR ρ (f ax) (val x)) {ax ay : Opd} (hx : compOpd x = some ax) (hy : compOpd y = some ay) {v : AVal} (he : exR (.eq1 q ng ax ay) f fp h = some (true, v)) : RGoal P w ρ val o v := by
  simp only [exR] at he
  obtain ⟨r, hr, he'⟩ := Option.map_eq_some_iff.1 he
  cases he'
  exact R_eqs_one ho (hf _ _ hx) (hf _ _ hy) hq hu hr

theorem exR_sound (S : Sim B ρ h w) {tt : TypeId → Option RT} {o : Oper} {r : ROp} (hc : compR P tt o.op = some r) {f : Opd → AVal} {fp : Opd → Bool → Opd → AVal}
    (hf : ∀ x ax, compOpd x = some ax → VR ρ (f ax) (val x)) (hconst : ∀ v, val (.const v) = v)
    (hfp : ∀ c x ac ax b, compOpd c = some ac → compOpd x = some ax → val c = .bool b → VR ρ (fp ac b ax) (val x)) {v : AVal} (he : exR r f fp h = some (true, v)) : RGoal P w ρ val o v := by
  cases hop : o.op <;> rw [hop] at hc <;> simp only [compR] at hc <;> try contradiction
  case move x =>
    obtain ⟨ax, hx, rfl⟩ := Option.map_eq_some_iff.1 hc
    simp only [exR, Option.some.injEq, Prod.mk.injEq, true_and] at he
    subst he
    exact ⟨val x, by simp [execOp, hop], hf x ax hx⟩
  case assign x =>
    obtain ⟨ax, hx, rfl⟩ := Option.map_eq_some_iff.1 hc
    simp only [exR, Option.some.injEq, Prod.mk.injEq, true_and] at he
    subst he
    exact ⟨val x, by simp [execOp, hop], hf x ax hx⟩
  case pick c a b =>
    split at hc <;> try contradiction
    rename_i ac aa ab h1 h2 h3
    cases hc
    simp only [exR] at he
    split at he <;> try contradiction
    rename_i x hx
    obtain ⟨u, hu, he'⟩ := Option.map_eq_some_iff.1 he
    cases he'
    have hcv := hf c ac h1
    rw [hx] at hcv
    have hcv' := hcv.bool_inv
    refine ⟨if x then val a else val b, ?_, ?_⟩
    · simp only [execOp, hop, Sem.run_bind, hcv', asBool, Sem.run_pure, Result.andThen_ok]
    · have main : ∀ y : Bool, x = y → VR ρ v (if y then val a else val b) := by
        intro y hy
        subst hy
        have hsel : VR ρ (fp ac x (if x then aa else ab)) (if x then val a else val b) := by
          cases x
          · exact hfp c b ac ab false h1 h3 hcv'
          · exact hfp c a ac aa true h1 h2 hcv'
        unfold comb at hu
        cases x
        · simp only [Bool.false_eq_true, if_false] at hsel ⊢
          split at hu <;> simp only [cond_false] at hu
          · rename_i p q hp hq; cases hu; rw [hq] at hsel; exact hsel
          · rename_i k p k' q hp hq
            split at hu <;> try contradiction
            rename_i hk; cases hu; rw [hq, ← hk] at hsel; exact hsel
          · rename_i p q hp hq; cases hu; rw [hq] at hsel; exact hsel
          · cases hu; exact hsel
        · simp only [if_true] at hsel ⊢
          split at hu <;> simp only [cond_true] at hu
          · rename_i p q hp hq; cases hu; rw [hp] at hsel; exact hsel
          · rename_i k p k' q hp hq
            split at hu <;> try contradiction
            cases hu; rw [hp] at hsel; exact hsel
          · rename_i p q hp hq; cases hu; rw [hp] at hsel; exact hsel
          · cases hu; exact hsel
      exact main x rfl
  case load t x =>
    split at hc <;> try contradiction
    all_goals
      rename_i h1 h2
      cases hc
      simp only [exR] at he
      split at he <;> try contradiction
      · rename_i p hp
        have := hf _ _ h2
        rw [hp] at this
        obtain ⟨a, ha, hA⟩ := this.ptr_inv
        exact R_load S hop ha hA h1 (by simpa using he)
      all_goals
        rename_i p hp
        have := hf _ _ h2
        rw [hp] at this
        cases he
        exact R_loadF S hop this h1
  case fieldAddr s x i =>
    split at hc <;> try contradiction
    rename_i fs ax hu hx
    split at hc <;> try contradiction
    rename_i fd hfd
    split at hc <;> try contradiction
    rename_i n hn
    cases hc
    simp only [exR] at he
    split at he <;> try contradiction
    rename_i p hp
    cases he
    have := hf _ _ hx
    rw [hp] at this
    obtain ⟨a, ha, hA⟩ := this.ptr_inv
    exact R_fld hop ha hA hu hfd hn
  case nilCheck x =>
    obtain ⟨ax, hx, rfl⟩ := Option.map_eq_some_iff.1 hc
    have hv := hf _ _ hx
    simp only [exR] at he
    split at he <;> try contradiction
    · rename_i p hp
      cases he
      rw [hp] at hv
      obtain ⟨a, ha, hA⟩ := hv.ptr_inv
      exact ⟨val x, by simp [execOp, hop, ha], by rw [ha]; exact .ptr hA⟩
    · rename_i g a b hp
      rw [hp] at hv
      cases he
      refine ⟨val x, ?_, hv⟩
      generalize hvx : val x = vx at hv
      cases hv with
      | fn h1 h2 => simp [execOp, hop, hvx]
  case binOp op t x y yt =>
    split at hc <;> try contradiction
    · rename_i k ax ay hu hx hy
      split at hc <;> try contradiction
      · rename_i A hA
        cases hc
        simp only [exR] at he
        split at he <;> try contradiction
        · rename_i k1 a k2 b hpa hpb
          have v1 := hf _ _ hx; rw [hpa] at v1
          have v2 := hf _ _ hy; rw [hpb] at v2
          obtain ⟨e1, b1⟩ := v1.int_inv
          obtain ⟨e2, b2⟩ := v2.int_inv
          split at he
          · simp only [Option.some.injEq, Prod.mk.injEq] at he
            obtain ⟨g1, rfl⟩ := he
            exact R_arith hop e1 e2 b1 b2 hA trivial g1
          · simp only [Option.some.injEq, Prod.mk.injEq] at he
            obtain ⟨g1, rfl⟩ := he
            exact R_arith hop e1 e2 b1 b2 hA trivial g1
          · rename_i hn1 hn2
            split at he <;> try contradiction
            rename_i hk
            simp only [Option.some.injEq, Prod.mk.injEq] at he
            obtain ⟨g1, rfl⟩ := he
            exact R_arith hop e1 e2 b1 b2 hA (by cases A <;> first | exact hk | trivial) g1
        · rename_i a b hpa hpb
          have v1 := hf _ _ hx; rw [hpa] at v1
          have v2 := hf _ _ hy; rw [hpb] at v2
          obtain ⟨s1, e1, b1⟩ := v1.str_inv
          obtain ⟨s2, e2, b2⟩ := v2.str_inv
          split at he <;> try contradiction
          simp only [Option.some.injEq, Prod.mk.injEq, decide_eq_true_eq] at he
          obtain ⟨g1, rfl⟩ := he
          have : op = .add := by cases op <;> simp_all [arithOf]
          subst this
          rw [← b1, ← b2] at g1 ⊢
          exact R_concat hop e1 e2 g1
      · rename_i C hC hA
        cases hc
        simp only [exR] at he
        split at he <;> try contradiction
        rename_i k1 a k2 b hpa hpb
        split at he <;> try contradiction
        rename_i hk; subst hk
        cases he
        have v1 := hf _ _ hx; rw [hpa] at v1
        have v2 := hf _ _ hy; rw [hpb] at v2
        have hA' : arithOf op = none := by
          cases hq : arithOf op with
          | none => rfl
          | some A => exact (hA A hq).elim
        exact R_cmp hop v1.int_inv.1 v2.int_inv.1 hA' hC
    · rename_i ax ay hu hx hy
      split at hc <;> try contradiction
      · cases hc
        simp only [exR] at he
        split at he <;> try contradiction
        · rename_i k1 a k2 b hpa hpb
          have v1 := hf _ _ hx; rw [hpa] at v1
          have v2 := hf _ _ hy; rw [hpb] at v2
          obtain ⟨e1, b1⟩ := v1.int_inv
          obtain ⟨e2, b2⟩ := v2.int_inv
          split at he <;> try contradiction
          rename_i hk
          simp only [Option.some.injEq, Prod.mk.injEq] at he
          obtain ⟨g1, rfl⟩ := he
          exact R_arith hop e1 e2 b1 b2 (A := .add) rfl hk g1
        · rename_i a b hpa hpb
          have v1 := hf _ _ hx; rw [hpa] at v1
          have v2 := hf _ _ hy; rw [hpb] at v2
          obtain ⟨s1, e1, b1⟩ := v1.str_inv
          obtain ⟨s2, e2, b2⟩ := v2.str_inv
          simp only [Option.some.injEq, Prod.mk.injEq, decide_eq_true_eq] at he
          obtain ⟨g1, rfl⟩ := he
          rw [← b1, ← b2] at g1 ⊢
          exact R_concat hop e1 e2 g1
      · cases hc
        exact eq1_sound (ng := false) hop (.inr rfl) (by simp) hf hx hy he
      · cases hc
        exact eq1_sound (ng := true) hop (.inr rfl) (by simp) hf hx hy he
    · rename_i ax ay hu hx hy
      split at hc <;> try contradiction
      · cases hc
        exact eq1_sound (ng := false) hop (.inl rfl) (fun _ => hu) hf hx hy he
      · cases hc
        exact eq1_sound (ng := true) hop (.inl rfl) (fun _ => hu) hf hx hy he
    · rename_i e ax ay hu hx hy
      split at hc <;> try contradiction
      · cases hc
        exact eqP_sound (ng := false) hop hu hf hx hy he
      · cases hc
        exact eqP_sound (ng := true) hop hu hf hx hy he
    · rename_i fs ax ay hu hx hy
      split at hc <;> try contradiction
      rename_i ks hks
      split at hc <;> try contradiction
      · cases hc
        exact eqA_sound (ng := false) hop hu rfl hks hf hx hy he
      · cases hc
        exact eqA_sound (ng := true) hop hu rfl hks hf hx hy he
    · rename_i n e ax ay hu hx hy
      split at hc <;> try contradiction
      rename_i ks hks
      split at hc <;> try contradiction
      · cases hc
        exact eqA_sound (ng := false) hop hu rfl hks hf hx hy he
      · cases hc
        exact eqA_sound (ng := true) hop hu rfl hks hf hx hy he
    · rename_i ms ax hu hx hy
      split at hc <;> try contradiction
      · cases hc
        exact eqI_sound (ng := false) hop hf hconst hx hy hu he
      · cases hc
        exact eqI_sound (ng := true) hop hf hconst hx hy hu he
    · rename_i e ax hu hx hy
      have hy' : val y = .slice none 0 0 := by
        cases y <;> simp only [compOpd, reduceCtorEq, Option.some.injEq] at hy <;> try contradiction
        · obtain ⟨a, ha, ha'⟩ := Option.map_eq_some_iff.1 hy
          cases ha'
          rw [hconst]; exact aval_nils ha
        · cases hy
      split at hc <;> try contradiction
      · cases hc
        exact eqN_sound (ng := false) S hop hf hx hy' hu he
      · cases hc
        exact eqN_sound (ng := true) S hop hf hx hy' hu he
    · rename_i k e ax hu hx hy
      have hy' : val y = .map none := by
        cases y <;> simp only [compOpd, reduceCtorEq, Option.some.injEq] at hy <;> try contradiction
        · obtain ⟨a, ha, ha'⟩ := Option.map_eq_some_iff.1 hy
          cases ha'
          rw [hconst]; exact aval_nilm ha
        · cases hy
      split at hc <;> try contradiction
      · cases hc
        exact eqM_sound (ng := false) hop hf hx hy' hu he
      · cases hc
        exact eqM_sound (ng := true) hop hf hx hy' hu he
  case unOp op t x =>
    split at hc <;> try contradiction
    all_goals
      rename_i ax hx
      cases hc
      simp only [exR] at he
      split at he <;> try contradiction
      rename_i hp
      cases he
      have := hf _ _ hx
      rw [hp] at this
    · exact R_neg hop this.int_inv.1
    · exact R_compl hop this.int_inv.1
    · exact R_not hop this.bool_inv
  case convert s d x =>
    split at hc <;> try contradiction
    · rename_i q k ax hs hd hx
      cases hc
      simp only [exR] at he
      split at he <;> try contradiction
      rename_i k' a hp
      cases he
      have := hf _ _ hx; rw [hp] at this
      exact R_toInt hop this.int_inv.1 hs hd
    · rename_i ax hs hd hx
      cases hc
      simp only [exR] at he
      split at he <;> try contradiction
      rename_i a hp
      cases he
      have := hf _ _ hx; rw [hp] at this
      obtain ⟨s', e1, e2⟩ := this.str_inv
      exact R_str hop e1 hs hd this
    · rename_i e ax hs hd hx
      split at hc <;> try contradiction
      rename_i hu8
      cases hc
      have hv := hf _ _ hx
      simp only [exR] at he
      split at he <;> try contradiction
      · rename_i l hp
        cases he
        rw [hp] at hv
        generalize hvx : val x = vx at hv
        cases hv with
        | fby0 a c => exact R_toStr hop hs hu8 hd hvx rfl (by simp) (by simp)
        | fby hi hi2 hl hcap =>
          rename_i b o l' i c
          obtain ⟨_, g2, g3, _⟩ := S.imm _ _ _ hi
          refine R_toStr hop hs hu8 hd hvx rfl (fun y hy => g2 y ?_) (fun _ => ⟨_, rfl, ?_⟩)
          · rw [hi2] at hy; exact List.mem_of_mem_drop (List.mem_of_mem_take hy)
          · intro j u hj
            rw [addr_add]
            have := g3.sub i l.length j u (by rw [← List.map_drop, ← List.map_take, ← hi2]; exact hj)
            exact this
      · rename_i c hp
        cases he
        rw [hp] at hv
        generalize hvx : val x = vx at hv
        cases hv with
        | nils c hcc => exact R_toStr hop hs hu8 hd hvx rfl (by simp) (by simp)
      · rename_i p n c hp
        rw [hp] at hv
        split at he <;> try contradiction
        rename_i ro t l hb
        split at he <;> try contradiction
        rename_i l
        split at he <;> try contradiction
        rename_i hro
        obtain ⟨hrs, hoff⟩ := hro
        obtain ⟨hlen, _⟩ := S.blk _ _ (getB_some hb rfl)
        have key : ∀ (q : List Int), p.row + ρ.len p n ≤ l.length → q = (l.drop p.row).take (ρ.len p n) → RGoal P w ρ val o (.str q) := by
          intro q hk hq
          obtain ⟨ad, c', g1, g2, g3, g4⟩ := bytes_of S hv hb hrs hoff hk
          rw [hq]
          exact R_toStr hop hs hu8 hd g1 g3 g2 g4
        split at he
        · rename_i hrow
          cases he
          refine key l ?_ ?_
          · simp [Inj.len, hrow, ← hlen]
          · simp [Inj.len, hrow, ← hlen]
        · rename_i hrow
          simp only [Option.some.injEq, Prod.mk.injEq, decide_eq_true_eq] at he
          obtain ⟨g1, rfl⟩ := he
          refine key _ ?_ ?_
          · simp only [Inj.len, ← hlen]; omega
          · simp only [Inj.len, ← hlen]; rw [List.take_of_length_le (by simp)]
        · rename_i k hrow
          simp only [Option.some.injEq, Prod.mk.injEq, decide_eq_true_eq] at he
          obtain ⟨g1, rfl⟩ := he
          refine key _ ?_ ?_
          · simp only [Inj.len, hrow]; omega
          · simp [Inj.len, hrow]
        · rename_i k hrow
          simp only [Option.some.injEq, Prod.mk.injEq, decide_eq_true_eq] at he
          obtain ⟨g1, rfl⟩ := he
          exact key _ (by simp only [Inj.len]; omega) rfl
  case makeInterface t x =>
    split at hc <;> try contradiction
    rename_i d ax hnd hu hx
    cases hc
    simp only [exR, Option.some.injEq, Prod.mk.injEq, true_and] at he
    subst he
    exact R_ifc hop hu (fun m e => hnd m e) (hf _ _ hx)
  case makeFunc g a b =>
    split at hc <;> try contradiction
    rename_i la lb ha hb
    cases hc
    simp only [exR, Option.some.injEq, Prod.mk.injEq, true_and] at he
    subst he
    exact R_mkfn hop (compOpds_VR hf ha) (compOpds_VR hf hb)
  case slice t x lo hi mx =>
    split at hc <;> try contradiction
    · rename_i n e ax alo ahi hu hx hlo hhi hmx
      split at hc <;> try contradiction
      rename_i z hz
      split at hc <;> try contradiction
      cases hc
      have hmxn : mx = none := by
        cases mx with
        | none => rfl
        | some m => simp only [compOpt] at hmx; obtain ⟨_, _, hh⟩ := Option.map_eq_some_iff.1 hmx; cases hh
      subst hmxn
      simp only [exR] at he
      split at he <;> try contradiction
      rename_i p a b hp ha hb
      simp only [Option.some.injEq, Prod.mk.injEq, Bool.and_eq_true, decide_eq_true_eq] at he
      obtain ⟨⟨g1, g2, g3⟩, rfl⟩ := he
      have hv := hf _ _ hx; rw [hp] at hv
      obtain ⟨ad, h1, h2⟩ := hv.ptr_inv
      exact R_slcA hop hu hz h1 h2 (optInt_sound hf hlo ha) (optInt_sound hf hhi hb) g1 g2 g3
    · rename_i e ax alo ahi amx hu hx hlo hhi hmx
      split at hc <;> try contradiction
      rename_i z hz
      split at hc <;> try contradiction
      cases hc
      simp only [exR] at he
      split at he <;> try contradiction
      · rename_i p n c a b m hp ha hb hm
        have hv := hf _ _ hx; rw [hp] at hv
        have o1 := optInt_sound hf hlo ha
        have o2 := optInt_sound hf hhi hb
        have o3 := optInt_sound hf hmx hm
        split at he
        · split at he <;> try contradiction
          cases he
          cases lo <;> simp only [OptI] at o1
          cases hi <;> simp only [OptI] at o2
          cases mx <;> simp only [OptI] at o3
          exact R_slcNil hop hu hz hv
        · split at he <;> try contradiction
          rename_i p len hlen
          split at he <;> try contradiction
          rename_i hrs
          exact R_slcS hop hu hz hv (lenOf_sound S hlen) hrs.1 o1 o2 o3 he
      · rename_i s a b hp ha hb hm
        have hv := hf _ _ hx; rw [hp] at hv
        have o1 := optInt_sound hf hlo ha
        have o2 := optInt_sound hf hhi hb
        have o3 := optInt_sound hf hmx hm
        cases mx <;> simp only [OptI] at o3
        split at he <;> try contradiction
        rename_i hz1
        subst hz1
        simp only [Option.some.injEq, Prod.mk.injEq, Bool.and_eq_true, decide_eq_true_eq] at he
        obtain ⟨⟨g1, g2, g3⟩, rfl⟩ := he
        exact R_slcF hop hu hz hv o1 o2 g1 g2 g3
    · rename_i ax alo ahi hu hx hlo hhi hmx
      cases hc
      have hmxn : mx = none := by
        cases mx with
        | none => rfl
        | some m => simp only [compOpt] at hmx; obtain ⟨_, _, hh⟩ := Option.map_eq_some_iff.1 hmx; cases hh
      subst hmxn
      simp only [exR] at he
      split at he <;> try contradiction
      rename_i s a b hp ha hb
      simp only [Option.some.injEq, Prod.mk.injEq, Bool.and_eq_true, decide_eq_true_eq] at he
      obtain ⟨⟨g1, g2, g3⟩, rfl⟩ := he
      have hv := hf _ _ hx; rw [hp] at hv
      obtain ⟨s', e1, e2⟩ := hv.str_inv
      subst e2
      exact R_slcStr hop hu e1 (optInt_sound hf hlo ha) (optInt_sound hf hhi hb) g1 g2 g3
  case field t x i =>
    split at hc <;> try contradiction
    rename_i fs ax hu hx
    split at hc <;> try contradiction
    rename_i fd hfd
    obtain ⟨⟨n, ag⟩, hty, rfl⟩ := Option.map_eq_some_iff.1 hc
    simp only [exR] at he
    split at he <;> try contradiction
    rename_i l hl
    obtain ⟨u, hu', he'⟩ := Option.map_eq_some_iff.1 he
    cases he'
    have := hf _ _ hx
    rw [hl] at this
    exact R_part hop hu hfd hty this (by cases ag <;> simpa using hu')
  case indexAddr t x i =>
    split at hc <;> try contradiction
    · rename_i n e ax ai hu hx hi
      split at hc <;> try contradiction
      rename_i z hz
      split at hc <;> try contradiction
      cases hc
      simp only [exR] at he
      split at he <;> try contradiction
      rename_i p k j hp hj
      simp only [Option.some.injEq, Prod.mk.injEq, Bool.and_eq_true, decide_eq_true_eq] at he
      obtain ⟨⟨g1, g2⟩, rfl⟩ := he
      have v1 := hf _ _ hx; rw [hp] at v1
      have v2 := hf _ _ hi; rw [hj] at v2
      obtain ⟨ad, h1, h2⟩ := v1.ptr_inv
      exact R_idxA hop hu hz h1 h2 v2.int_inv.1 g1 g2
    · rename_i e ax ai hu hx hi
      split at hc <;> try contradiction
      rename_i z hz
      split at hc <;> try contradiction
      cases hc
      simp only [exR] at he
      split at he <;> try contradiction
      · rename_i p n c k j hp hj
        split at he <;> try contradiction
        rename_i hrs
        obtain ⟨len, hlen, he'⟩ := Option.map_eq_some_iff.1 he
        simp only [Prod.mk.injEq, Bool.and_eq_true, decide_eq_true_eq] at he'
        obtain ⟨⟨g1, g2⟩, rfl⟩ := he'
        have v1 := hf _ _ hx; rw [hp] at v1
        have v2 := hf _ _ hi; rw [hj] at v2
        have hl := lenOf_sound S hlen
        generalize hvx : val x = vx at v1
        have v1' := v1.slV
        cases v1' with
        | nought a hp' hn hc' => omega
        | there hL hn hc' hr =>
          rename_i L c'
          exact R_idxS (p := p) (a := ⟨L.blk, L.base + (p.row * p.rs + p.off), none⟩) hop hu hz hvx (by simp [Inj.addr, hL]) hrs v2.int_inv.1 g1 (by rw [hl]; exact g2)
      · rename_i l k j hp hj
        split at he <;> try contradiction
        rename_i hz1
        subst hz1
        obtain ⟨y, hy, he'⟩ := Option.map_eq_some_iff.1 he
        simp only [Prod.mk.injEq, decide_eq_true_eq] at he'
        obtain ⟨g1, rfl⟩ := he'
        have v1 := hf _ _ hx; rw [hp] at v1
        have v2 := hf _ _ hi; rw [hj] at v2
        exact R_idxF hop hu hz v1 v2.int_inv.1 g1 hy
  case index t x i =>
    split at hc <;> try contradiction
    · rename_i n e ax ai hu hx hi
      obtain ⟨⟨z, ag⟩, hty, rfl⟩ := Option.map_eq_some_iff.1 hc
      simp only [exR] at he
      split at he <;> try contradiction
      · rename_i l k j hp hj
        obtain ⟨u, hu', he'⟩ := Option.map_eq_some_iff.1 he
        simp only [Prod.mk.injEq, Bool.and_eq_true, decide_eq_true_eq] at he'
        obtain ⟨⟨g1, g2⟩, rfl⟩ := he'
        have v1 := hf _ _ hx; rw [hp] at v1
        have v2 := hf _ _ hi; rw [hj] at v2
        exact R_at hop hu hty v1 v2.int_inv.1 g1 g2 (by cases ag <;> simpa using hu')
      · rename_i q m l k j hp hj
        split at he <;> try contradiction
        rename_i hcnd
        obtain ⟨c1, c2, c3⟩ := hcnd
        simp only [Option.some.injEq, Prod.mk.injEq, Bool.and_eq_true, decide_eq_true_eq] at he
        obtain ⟨⟨g1, g2⟩, rfl⟩ := he
        have v1 := hf _ _ hx; rw [hp] at v1
        have v2 := hf _ _ hi; rw [hj] at v2
        have : ag = false := by simpa using c1
        subst this
        subst c2; subst c3
        exact R_atW hop hu hty v1 v2.int_inv.1 g1 g2
    · rename_i ax ai hu hx hi
      cases hc
      simp only [exR] at he
      split at he <;> try contradiction
      rename_i s k j hp hj
      simp only [Option.some.injEq, Prod.mk.injEq, Bool.and_eq_true, decide_eq_true_eq] at he
      obtain ⟨⟨g1, g2⟩, rfl⟩ := he
      have v1 := hf _ _ hx; rw [hp] at v1
      have v2 := hf _ _ hi; rw [hj] at v2
      obtain ⟨s', e1, e2⟩ := v1.str_inv
      subst e2
      exact R_strAt hop hu e1 v2.int_inv.1 g1 g2
  case lookup t m x ok =>
    split at hc <;> try contradiction
    rename_i kt vt am ax hu hm hx
    split at hc <;> try contradiction
    rename_i k v hk hv
    split at hc <;> try contradiction
    rename_i hcnd
    obtain ⟨c1, c2, c3, c4⟩ := hcnd
    cases hc
    simp only [exR] at he
    split at he <;> try contradiction
    rename_i r hp
    split at he <;> try contradiction
    rename_i k' v' l hb
    split at he <;> try contradiction
    rename_i hkv
    obtain ⟨rfl, rfl⟩ := hkv
    split at he <;> try contradiction
    rename_i y hy
    simp only [Option.some.injEq, Prod.mk.injEq, true_and] at he
    subst he
    obtain ⟨ks, hks⟩ := Option.isSome_iff_exists.1 c2
    rw [hks] at c1
    have v1 := hf _ _ hm; rw [hp] at v1
    have v2 := hf _ _ hx
    have K : ∃ d, KeyT P kt k' ks d := by
      unfold flatT at c1
      split at c1 <;> try contradiction
      obtain ⟨d, hd, _⟩ := flat_agg c1
      unfold rtOk at c3
      split at c3 <;> try contradiction
      rename_i i d' hi hd'
      simp only [Bool.and_eq_true, beq_iff_eq] at c3
      exact ⟨d', c1, hks, hd', c3.2.2.1⟩
    obtain ⟨d, K⟩ := K
    exact R_look S hop hu K c4 v1 hb v2 hy
  case typeAssert x xt t ok =>
    cases ok <;> try contradiction
    simp only [compR] at hc
    split at hc <;> try contradiction
    rename_i d ax hnd hu hx
    cases hc
    simp only [exR] at he
    split at he <;> try contradiction
    rename_i t' v' hv'
    split at he <;> try contradiction
    rename_i et
    cases he
    have := hf _ _ hx
    rw [hv', ← et] at this
    exact R_asrt hop hu (fun m e => hnd m e) this
  case extract x i =>
    obtain ⟨ax, hx, rfl⟩ := Option.map_eq_some_iff.1 hc
    simp only [exR] at he
    split at he <;> try contradiction
    rename_i vs hvs
    obtain ⟨u, hu', he'⟩ := Option.map_eq_some_iff.1 he
    cases he'
    have := hf _ _ hx
    rw [hvs] at this
    exact R_ext hop this hu'
  case build t ps =>
    split at hc <;> try contradiction
    · rename_i fs zw hu hz
      split at hc <;> try contradiction
      rename_i hok
      obtain ⟨aps, hps, rfl⟩ := Option.map_eq_some_iff.1 hc
      simp only [exR] at he
      obtain ⟨r', hr, he'⟩ := Option.map_eq_some_iff.1 he
      cases he'
      refine R_build hop hf hok.1 hu (.inl ⟨fs, rfl, hps, fun fd hfd => ?_⟩) hr
      have := List.all_eq_true.1 hok.2 fd (Array.mem_toList_iff.2 hfd)
      exact Option.isSome_iff_exists.1 this
    · rename_i n e zw hu hz
      split at hc <;> try contradiction
      rename_i z hse
      split at hc <;> try contradiction
      rename_i hok
      obtain ⟨aps, hps, rfl⟩ := Option.map_eq_some_iff.1 hc
      simp only [exR] at he
      obtain ⟨r', hr, he'⟩ := Option.map_eq_some_iff.1 he
      cases he'
      exact R_build hop hf hok hu (.inr ⟨n, e, z, rfl, hse, hps⟩) hr
  case call c =>
    obtain ⟨callee, args, argTypes⟩ := c
    simp only at hc
    split at hc <;> try contradiction
    · split at hc <;> try contradiction
      rename_i x t hax hat
      have ha : args = #[x] := Array.ext' hax
      have ht : argTypes = #[t] := Array.ext' hat
      subst ha; subst ht
      have hin : ∀ k : Nat, k ≤ 9223372036854775807 → IntKind.i64.has (k : Int) := fun k hk => by
        constructor <;> simp only [IntKind.min, IntKind.max, IntKind.signed, IntKind.bits] <;> first | decide | omega
      split at hc <;> try contradiction
      · rename_i ax hu hx; cases hc
        have hv := hf _ _ hx
        simp only [exR] at he
        split at he <;> try contradiction
        rename_i s _ hp
        rw [hp] at hv
        simp only [lenI, Option.some.injEq, Prod.mk.injEq, decide_eq_true_eq] at he
        obtain ⟨g1, rfl⟩ := he
        obtain ⟨s', e1, e2⟩ := hv.str_inv
        have hsz : s'.size = s.length := by rw [← e2]; unfold bytesI; rw [List.length_map, Array.length_toList]; rfl
        exact R_len hop (by simp [Builtin.len_, run_underlying' hu, e1, hsz]) (hin _ g1)
      · rename_i e ax hu hx; cases hc
        have hv := hf _ _ hx
        simp only [exR] at he
        split at he <;> try contradiction
        · rename_i s _ hp
          rw [hp] at hv
          simp only [lenI, Option.some.injEq, Prod.mk.injEq, decide_eq_true_eq] at he
          obtain ⟨g1, rfl⟩ := he
          generalize hvx : val x = vx at hv
          cases hv with
          | fby0 a c => exact R_len hop (by simp [Builtin.len_, run_underlying' hu, hvx]) (hin _ g1)
          | fby hi hi2 hl hcap => exact R_len hop (by simp [Builtin.len_, run_underlying' hu, hvx]) (hin _ g1)
        · rename_i p n c _ hp
          rw [hp] at hv
          obtain ⟨k, hk, he⟩ := Option.map_eq_some_iff.1 he
          simp only [lenI, Prod.mk.injEq, decide_eq_true_eq] at he
          obtain ⟨g1, rfl⟩ := he
          cases p with
          | none =>
            generalize hvx : val x = vx at hv
            cases hv with
            | nils c hc =>
              simp only [lenOf, Option.some.injEq] at hk
              subst hk
              exact R_len hop (by simp [Builtin.len_, run_underlying' hu, hvx]) (hin _ g1)
          | some p =>
            have hl := lenOf_sound S hk
            have hv' := hv.slV
            generalize hvx : val x = vx at hv'
            cases hv' with
            | nought a hp' hn hc' =>
              have : k = 0 := by omega
              subst this
              exact R_len hop (by simp [Builtin.len_, run_underlying' hu, hvx]) (hin _ g1)
            | there hL hn hc' hr => exact R_len hop (by simp [Builtin.len_, run_underlying' hu, hvx, hl]) (hin _ g1)
      · rename_i k v' ax hu hx; cases hc
        have hv := hf _ _ hx
        simp only [exR] at he
        split at he <;> try contradiction
        rename_i r _ hp
        rw [hp] at hv
        split at he <;> try contradiction
        rename_i k q l hb
        simp only [lenI, Option.some.injEq, Prod.mk.injEq, decide_eq_true_eq] at he
        obtain ⟨g1, rfl⟩ := he
        generalize hvm : val x = vm at hv
        cases hv with
        | map hL =>
          rename_i L
          obtain ⟨es, clock, q2, q3, _⟩ := S.blk _ _ (getB_some hb rfl) _ hL
          have hsz : ∀ {l : List (k.T × q.T)} {es : List MapEntry}, MR ρ k q l es → es.length = l.length := by
            intro l es hm
            induction hm with
            | nil => rfl
            | cons _ _ _ _ _ ih => simp [ih]
          have hes : es.size = l.length := by rw [← hsz q3]; simp
          have hget : (getObj L.blk).run P w = .ok (.map es clock) w := by simp [getObj, Sem.run, q2]
          exact R_len hop (by simp [Builtin.len_, run_underlying' hu, hvm, hget, hes]) (hin _ g1)
      · rename_i n _ hu
        split at hc <;> try contradiction
        rename_i hn
        cases hc
        simp only [exR, Option.some.injEq, Prod.mk.injEq, true_and] at he
        have hr := hin _ hn
        have hcc : compOpd (.const (goInt n)) = some (.c (.int .i64 (n : Int))) := by
          simp only [compOpd, aval, aval1, goInt]
          rw [if_pos ⟨hr.1, hr.2⟩]
          rfl
        have hv := hf _ _ hcc
        rw [he, hconst] at hv
        refine ⟨goInt n, ?_, hv⟩
        simp [execOp, hop, resolve, invoke, builtin, Builtin.len_, run_underlying' hu, goInt]
    · split at hc <;> try contradiction
      rename_i x t hax hat
      have ha : args = #[x] := Array.ext' hax
      have ht : argTypes = #[t] := Array.ext' hat
      subst ha; subst ht
      split at hc <;> try contradiction
      rename_i e ax hu hx
      cases hc
      have hv := hf _ _ hx
      simp only [exR] at he
      split at he <;> try contradiction
      rename_i p n c hp
      rw [hp] at hv
      simp only [Option.some.injEq, Prod.mk.injEq] at he
      obtain ⟨g1, rfl⟩ := he
      have g1' := Nat.le_of_ble_eq_true g1
      generalize hvx : val x = vx at hv
      cases hv with
      | nils _ hc0 =>
        have : 0 = c := hc0
        subst this
        exact R_cap hop hu hvx g1'
      | slice0 a _ _ hc0 =>
        have : 0 = c := hc0
        subst this
        exact R_cap hop hu hvx g1'
      | slice hl hn hc0 hr =>
        rename_i L c'
        have : c' = c := hc0
        subst this
        exact R_cap hop hu hvx g1'
    · split at hc <;> try contradiction
      · rename_i x y hax
        have ha : args = #[x, y] := Array.ext' hax
        subst ha
        split at hc <;> try contradiction
        rename_i ax ay hx hy
        cases hc
        simp only [exR] at he
        split at he <;> try contradiction
        rename_i k a k' b hp hq
        split at he <;> try contradiction
        rename_i hk; subst hk
        cases he
        have v1 := hf _ _ hx; rw [hp] at v1
        have v2 := hf _ _ hy; rw [hq] at v2
        exact R_min (mx := false) hop v1.int_inv.1 v2.int_inv.1 v1.int_inv.2 v2.int_inv.2
      · rename_i x y z hax
        have ha : args = #[x, y, z] := Array.ext' hax
        subst ha
        split at hc <;> try contradiction
        rename_i ax ay az hx hy hz
        cases hc
        simp only [exR] at he
        split at he <;> try contradiction
        rename_i k a k' b k'' c hp hq hr
        split at he <;> try contradiction
        rename_i hk
        obtain ⟨hk, hk'⟩ := hk
        subst hk; subst hk'
        cases he
        have v1 := hf _ _ hx; rw [hp] at v1
        have v2 := hf _ _ hy; rw [hq] at v2
        have v3 := hf _ _ hz; rw [hr] at v3
        exact R_min3 (mx := false) hop v1.int_inv.1 v2.int_inv.1 v3.int_inv.1 v1.int_inv.2 v2.int_inv.2 v3.int_inv.2
    · split at hc <;> try contradiction
      · rename_i x y hax
        have ha : args = #[x, y] := Array.ext' hax
        subst ha
        split at hc <;> try contradiction
        rename_i ax ay hx hy
        cases hc
        simp only [exR] at he
        split at he <;> try contradiction
        rename_i k a k' b hp hq
        split at he <;> try contradiction
        rename_i hk; subst hk
        cases he
        have v1 := hf _ _ hx; rw [hp] at v1
        have v2 := hf _ _ hy; rw [hq] at v2
        exact R_min (mx := true) hop v1.int_inv.1 v2.int_inv.1 v1.int_inv.2 v2.int_inv.2
      · rename_i x y z hax
        have ha : args = #[x, y, z] := Array.ext' hax
        subst ha
        split at hc <;> try contradiction
        rename_i ax ay az hx hy hz
        cases hc
        simp only [exR] at he
        split at he <;> try contradiction
        rename_i k a k' b k'' c hp hq hr
        split at he <;> try contradiction
        rename_i hk
        obtain ⟨hk, hk'⟩ := hk
        subst hk; subst hk'
        cases he
        have v1 := hf _ _ hx; rw [hp] at v1
        have v2 := hf _ _ hy; rw [hq] at v2
        have v3 := hf _ _ hz; rw [hr] at v3
        exact R_min3 (mx := true) hop v1.int_inv.1 v2.int_inv.1 v3.int_inv.1 v1.int_inv.2 v2.int_inv.2 v3.int_inv.2

end
end Go.Sx

/- How a state stays true while the world changes. -/
set_option linter.unusedSimpArgs false
set_option linter.unusedVariables false
namespace Go.Sx

theorem Inj.ext.refl (ρ : Inj) : ρ.ext ρ := ⟨Nat.le_refl _, fun _ _ h => h, fun _ _ => rfl, fun _ _ _ h => h⟩
theorem Inj.ext.trans {ρ ρ' ρ'' : Inj} (h : ρ.ext ρ') (h' : ρ'.ext ρ'') : ρ.ext ρ'' :=
  ⟨Nat.le_trans h.n h'.n, fun i L hl => h'.loc i L (h.loc i L hl), fun i hi => by rw [h'.rows i (Nat.lt_of_lt_of_le hi h.n), h.rows i hi], fun b o l hi => h'.imm b o l (h.imm b o l hi)⟩
theorem Inj.le.ext {ρ ρ' : Inj} (h : ρ.le ρ' ρ.n) (hn : ρ.n ≤ ρ'.n) : ρ.ext ρ' :=
  ⟨hn, fun i L hl => by rw [h.loc i (ρ.lt hl)]; exact hl, h.rows, h.imm⟩

theorem Inj.ext.len {ρ ρ' : Inj} (h : ρ.ext ρ') {p : APtr} (hp : p.id < ρ.n) (n : SLen) : ρ'.len p n = ρ.len p n := by
  cases n with
  | n k => rfl
  | all => simp only [Inj.len, h.rows _ hp]
theorem Inj.ext.addr {ρ ρ' : Inj} (h : ρ.ext ρ') {p : APtr} {a : Addr} (ha : ρ.addr p = some a) : ρ'.addr p = some a := by
  unfold Inj.addr at *
  obtain ⟨L, hL, hA⟩ := Option.map_eq_some_iff.1 ha
  rw [h.loc _ _ hL]
  simpa using hA

section
variable {ρ ρ' : Inj}
theorem mono_all (h : ρ.ext ρ') : (∀ {v v'}, VR ρ v v' → VR ρ' v v') ∧ (∀ {l l'}, VRs ρ l l' → VRs ρ' l l') ∧ (∀ {l l'}, CR ρ l l' → CR ρ' l l') := by
  have slc : ∀ {p : APtr} {n : SLen} {c : Cap} {L : Loc} {c' : Nat}, ρ.loc p.id = some L → ρ.len p n ≤ c' → c.fits (ρ.len p n) c' → (c.tight = false → p.off = 0 ∧ L.base + (p.row + c') * p.rs ≤ L.size) →
      VR ρ' (.slice (some p) n c) (.slice (some ⟨L.blk, L.base + (p.row * p.rs + p.off), none⟩) (ρ.len p n) c') := by
    intro p n c L c' hl hn hc hr
    have e := h.len (ρ.lt hl) n
    have := VR.slice (ρ := ρ') (p := p) (n := n) (c := c) (h.loc _ _ hl) (by rw [e]; exact hn) (by rw [e]; exact hc) hr
    rwa [e] at this
  refine ⟨fun {v v'} hv => ?_, fun {l l'} hv => ?_, fun {l l'} hv => ?_⟩
  · exact @VR.rec ρ (fun v v' _ => VR ρ' v v') (fun l l' _ => VRs ρ' l l') (fun l l' _ => CR ρ' l l') .unk .bool .int .str .nilp (fun ha => .ptr (h.addr ha)) .nils
      (fun a hp hn hc => .slice0 a (Nat.lt_of_lt_of_le hp h.n) (by rw [h.len hp]; exact hn) hc) slc .fby0 (fun hi h1 h2 h3 => .fby (h.imm _ _ _ hi) h1 h2 h3) (fun hi h1 => .fp (h.imm _ _ _ hi) h1) .map0 (fun hl => .map (h.loc _ _ hl)) (fun _ _ a b => .fn a b) .nilFn (fun _ a => .ifc a) .err .nilIfc .ai
      (fun _ a => .agg a) (fun _ a => .tup a) .nil (fun _ _ a b => .cons a b) .nil (fun _ hs hw _ a b => .one a hs hw b) (fun hn hk _ a => .wide hn hk a) v v' hv
  · exact @VRs.rec ρ (fun v v' _ => VR ρ' v v') (fun l l' _ => VRs ρ' l l') (fun l l' _ => CR ρ' l l') .unk .bool .int .str .nilp (fun ha => .ptr (h.addr ha)) .nils
      (fun a hp hn hc => .slice0 a (Nat.lt_of_lt_of_le hp h.n) (by rw [h.len hp]; exact hn) hc) slc .fby0 (fun hi h1 h2 h3 => .fby (h.imm _ _ _ hi) h1 h2 h3) (fun hi h1 => .fp (h.imm _ _ _ hi) h1) .map0 (fun hl => .map (h.loc _ _ hl)) (fun _ _ a b => .fn a b) .nilFn (fun _ a => .ifc a) .err .nilIfc .ai
      (fun _ a => .agg a) (fun _ a => .tup a) .nil (fun _ _ a b => .cons a b) .nil (fun _ hs hw _ a b => .one a hs hw b) (fun hn hk _ a => .wide hn hk a) l l' hv
  · exact @CR.rec ρ (fun v v' _ => VR ρ' v v') (fun l l' _ => VRs ρ' l l') (fun l l' _ => CR ρ' l l') .unk .bool .int .str .nilp (fun ha => .ptr (h.addr ha)) .nils
      (fun a hp hn hc => .slice0 a (Nat.lt_of_lt_of_le hp h.n) (by rw [h.len hp]; exact hn) hc) slc .fby0 (fun hi h1 h2 h3 => .fby (h.imm _ _ _ hi) h1 h2 h3) (fun hi h1 => .fp (h.imm _ _ _ hi) h1) .map0 (fun hl => .map (h.loc _ _ hl)) (fun _ _ a b => .fn a b) .nilFn (fun _ a => .ifc a) .err .nilIfc .ai
      (fun _ a => .agg a) (fun _ a => .tup a) .nil (fun _ _ a b => .cons a b) .nil (fun _ hs hw _ a b => .one a hs hw b) (fun hn hk _ a => .wide hn hk a) l l' hv
theorem VR.mono {v : AVal} {v' : Value} (hv : VR ρ v v') (h : ρ.ext ρ') : VR ρ' v v' := (mono_all h).1 hv
theorem VRs.mono {v : List AVal} {v' : List Value} (hv : VRs ρ v v') (h : ρ.ext ρ') : VRs ρ' v v' := (mono_all h).2.1 hv
theorem CR.mono {v : List AVal} {v' : List Value} (hv : CR ρ v v') (h : ρ.ext ρ') : CR ρ' v v' := (mono_all h).2.2 hv
theorem MR.mono {k v : RT} {l : List (k.T × v.T)} {es : List MapEntry} (hm : MR ρ k v l es) (h : ρ.ext ρ') : MR ρ' k v l es := by
  induction hm with
  | nil => exact .nil
  | cons hk hv ha hb t ih => exact .cons (hk.mono h) (hv.mono h) ha hb ih

/-! ### Blocks -/
section
variable {w w' : World}
theorem cell_same {b o : Nat} (h : w'.heap[b]? = w.heap[b]?) : w'.cell? ⟨b, o, none⟩ = w.cell? ⟨b, o, none⟩ := by unfold World.cell?; simp only [h]
theorem frozen_same {b o : Nat} (h : w'.heap[b]? = w.heap[b]?) : w'.frozen? ⟨b, o, none⟩ = w.frozen? ⟨b, o, none⟩ := by unfold World.frozen?; simp only [h]
theorem Lies.same {b o : Nat} {l : List Value} (hl : Lies w b o l) (h : w'.heap[b]? = w.heap[b]?) : Lies w' b o l := fun i v hi => by rw [cell_same h]; exact hl i v hi
theorem Free.same {b n : Nat} (hl : Free w b n) (h : w'.heap[b]? = w.heap[b]?) : Free w' b n := fun o ho => by rw [cell_same h, frozen_same h]; exact hl o ho
theorem BR.blk_lt {id : Nat} {b : Blk} (h : BR ρ w id b) (hl : b.live = true) {L : Loc} (hL : ρ.loc id = some L) : L.blk < w.heap.size := by
  cases b with
  | dead => simp [Blk.live] at hl
  | cells c => obtain ⟨_, _, _, _, _, _, h⟩ := h L hL; exact h
  | rows ro t l => exact (h.2 L hL).2.1
  | mp k v l =>
    obtain ⟨es, clock, h, _⟩ := h L hL
    rcases Nat.lt_or_ge L.blk w.heap.size with h' | h'
    · exact h'
    · simp [h'] at h
theorem BR.mono {id : Nat} {b : Blk} (h : BR ρ w id b) (hx : ρ.ext ρ') (hid : id < ρ.n) (hloc : ρ'.loc id = ρ.loc id) (hs : ∀ L, ρ.loc id = some L → w'.heap[L.blk]? = w.heap[L.blk]?) (hsz : w.heap.size ≤ w'.heap.size) :
    BR ρ' w' id b := by
  cases b with
  | dead => trivial
  | cells c =>
    intro L hL
    rw [hloc] at hL
    obtain ⟨l', h1, h2, h3, h4, h5, h6⟩ := h L hL
    exact ⟨l', h1, h2.mono hx, h3.same (hs L hL), h4, h5.same (hs L hL), Nat.lt_of_lt_of_le h6 hsz⟩
  | rows ro t l =>
    obtain ⟨h0, h1⟩ := h
    refine ⟨by rw [hx.rows id hid]; exact h0, fun L hL => ?_⟩
    rw [hloc] at hL
    obtain ⟨h2, h3, h4⟩ := h1 L hL
    refine ⟨fun i x hx' => ?_, Nat.lt_of_lt_of_le h3 hsz, fun hro => ?_⟩
    · obtain ⟨l', g1, g2⟩ := h2 i x hx'
      exact ⟨l', g1.mono hx, g2.same (hs L hL)⟩
    · obtain ⟨g1, g2⟩ := h4 hro
      exact ⟨g1, g2.same (hs L hL)⟩
  | mp k v l =>
    intro L hL
    rw [hloc] at hL
    obtain ⟨es, clock, h1, h2, h3⟩ := h L hL
    exact ⟨es, clock, by rw [hs L hL]; exact h1, h2.mono hx, h3⟩
end

/-! ### Steps -/
section
variable {B : Base} {h h' : Heap} {w w' : World}
theorem Blk.live_of_rw {b : Blk} (h : b.rw = true) : b.live = true := by cases b <;> simp_all [Blk.rw, Blk.live]

/-- What a step changes: the concrete blocks X, all owned; the abstract block i0. -/
structure Stp (B : Base) (ρ : Inj) (h : Heap) (w : World) (ρ' : Inj) (h' : Heap) (w' : World) (i0 : Nat) (X : Nat → Prop) : Prop where
  ext : ρ.ext ρ'
  n : ρ'.n = h'.length
  len : h.length ≤ h'.length
  size : w.heap.size ≤ w'.heap.size
  same : ∀ b, b < w.heap.size → ¬ X b → w'.heap[b]? = w.heap[b]?
  own : ∀ b, X b → ∃ i bi Li, h[i]? = some bi ∧ bi.rw = true ∧ ρ.loc i = some Li ∧ Li.blk = b
  old : ∀ i bi, h'[i]? = some bi → bi.live = true → i ≠ i0 → h[i]? = some bi ∧ ρ'.loc i = ρ.loc i ∧ ∀ L, ρ.loc i = some L → ¬ X L.blk
  new : ∀ bi, h'[i0]? = some bi → bi.live = true → BR ρ' w' i0 bi ∧ ∀ L, ρ'.loc i0 = some L → X L.blk ∨ w.heap.size ≤ L.blk
  imm : ∀ b o l, ρ'.imm b o l → ρ.imm b o l ∨ (¬ X b ∧ b < w.heap.size ∧ (∀ x ∈ l, IntKind.u8.has x) ∧ Lies w b o (l.map fun x => Value.int .u8 x) ∧
    ∀ i bi Li, h'[i]? = some bi → i ≠ i0 → bi.rw = true → ρ.loc i = some Li → Li.blk ≠ b)

theorem Stp.sim {i0 : Nat} {X : Nat → Prop} (T : Stp B ρ h w ρ' h' w' i0 X) (S : Sim B ρ h w) : Sim B ρ' h' w' := by
  have oldblk : ∀ i bi L, h'[i]? = some bi → bi.live = true → i ≠ i0 → ρ'.loc i = some L → L.blk < w.heap.size ∧ ¬ X L.blk ∧ h[i]? = some bi ∧ ρ.loc i = some L := by
    intro i bi L hi hl hne hL
    obtain ⟨g1, g2, g3⟩ := T.old i bi hi hl hne
    rw [g2] at hL
    exact ⟨(S.blk i bi g1).blk_lt hl hL, g3 L hL, g1, hL⟩
  have immX : ∀ b o l, ρ.imm b o l → ¬ X b := by
    intro b o l hi hx
    obtain ⟨i, bi, Li, g1, g2, g3, g4⟩ := T.own b hx
    exact (S.imm b o l hi).2.2.2 i bi Li g1 g2 g3 g4
  refine ⟨T.n, ?_, ?_, ?_, ?_, ?_, ?_⟩
  · intro id b hb
    cases hl : b.live with
    | false => cases b <;> simp [Blk.live] at hl; trivial
    | true =>
      by_cases e : id = i0
      · subst e; exact (T.new b hb hl).1
      · obtain ⟨g1, g2, g3⟩ := T.old id b hb hl e
        have hid : id < ρ.n := by rw [S.n]; exact (List.getElem?_eq_some_iff.1 g1).1
        exact (S.blk id b g1).mono T.ext hid g2 (fun L hL => T.same _ ((S.blk id b g1).blk_lt hl hL) (g3 L hL)) T.size
  · intro i j bi bj Li Lj hi hj hne hli hlj hrw hLi hLj
    by_cases ei : i = i0
    · subst ei
      obtain ⟨h1, h2, _⟩ := oldblk j bj Lj hj hlj (Ne.symm hne) hLj
      rcases (T.new bi hi hli).2 Li hLi with hx | hx
      · intro e; rw [e] at hx; exact h2 hx
      · omega
    · obtain ⟨h1, h2, h3, h4⟩ := oldblk i bi Li hi hli ei hLi
      by_cases ej : j = i0
      · subst ej
        rcases (T.new bj hj hlj).2 Lj hLj with hx | hx
        · intro e; rw [← e] at hx; exact h2 hx
        · omega
      · obtain ⟨g1, g2, g3, g4⟩ := oldblk j bj Lj hj hlj ej hLj
        exact S.sep i j bi bj Li Lj h3 g3 hne hli hlj hrw h4 g4
  · intro b o l hi
    rcases T.imm b o l hi with hi' | ⟨g1, g2, g3, g4, g5⟩
    · obtain ⟨g1, g2, g3, g4⟩ := S.imm b o l hi'
      have hx := immX b o l hi'
      refine ⟨Nat.lt_of_lt_of_le g1 T.size, g2, g3.same (T.same b g1 hx), ?_⟩
      intro i bi Li hb hrw hL
      by_cases e : i = i0
      · subst e
        rcases (T.new bi hb (Blk.live_of_rw hrw)).2 Li hL with hx' | hx'
        · intro e; rw [e] at hx'; exact hx hx'
        · omega
      · obtain ⟨k1, k2, k3, k4⟩ := oldblk i bi Li hb (Blk.live_of_rw hrw) e hL
        exact g4 i bi Li k3 hrw k4
    · refine ⟨Nat.lt_of_lt_of_le g2 T.size, g3, g4.same (T.same b g2 g1), ?_⟩
      intro i bi Li hb hrw hL
      by_cases e : i = i0
      · subst e
        rcases (T.new bi hb (Blk.live_of_rw hrw)).2 Li hL with hx' | hx'
        · intro e; rw [e] at hx'; exact g1 hx'
        · omega
      · obtain ⟨k1, k2, k3, k4⟩ := oldblk i bi Li hb (Blk.live_of_rw hrw) e hL
        exact g5 i bi Li hb e hrw k4
  · intro b hb
    have hx : ¬ X b := by
      intro hx
      obtain ⟨i, bi, Li, g1, g2, g3, g4⟩ := T.own b hx
      have := S.above i bi Li g1 g2 g3
      omega
    rw [T.same b (Nat.lt_of_lt_of_le hb S.bsize) hx]
    exact S.base b hb
  · intro i bi Li hb hrw hL
    by_cases e : i = i0
    · subst e
      rcases (T.new bi hb (Blk.live_of_rw hrw)).2 Li hL with hx' | hx'
      · obtain ⟨i, bi, Li', g1, g2, g3, g4⟩ := T.own _ hx'
        have := S.above i bi Li' g1 g2 g3
        omega
      · exact Nat.le_trans S.bsize hx'
    · obtain ⟨k1, k2, k3, k4⟩ := oldblk i bi Li hb (Blk.live_of_rw hrw) e hL
      exact S.above i bi Li k3 hrw k4
  · exact Nat.le_trans S.bsize T.size

theorem Stp.frm {i0 : Nat} {X : Nat → Prop} (T : Stp B ρ h w ρ' h' w' i0 X) (S : Sim B ρ h w) (hloc : ∀ i, i < h.length → ρ'.loc i = ρ.loc i) (ht : w'.tape = w.tape) (ho : w'.os = w.os) (hu : w'.output = w.output) :
    Frm ρ h w ρ' h' w' where
  len := T.len
  le := ⟨hloc, fun i hi => T.ext.rows i (by rw [S.n]; exact hi), T.ext.imm⟩
  size := T.size
  same := fun b hb hno => T.same b hb fun hx => by
    obtain ⟨i, bi, Li, g1, g2, g3, g4⟩ := T.own b hx
    exact hno i bi Li g1 g2 g3 g4
  own := fun i bi Li hb hrw hL => by
    by_cases e : i = i0
    · subst e
      rcases (T.new bi hb (Blk.live_of_rw hrw)).2 Li hL with hx | hx
      · obtain ⟨j, bj, Lj, g1, g2, g3, g4⟩ := T.own _ hx
        exact .inr ⟨j, bj, Lj, g1, g2, g3, g4⟩
      · exact .inl hx
    · obtain ⟨g1, g2, g3⟩ := T.old i bi hb (Blk.live_of_rw hrw) e
      rw [g2] at hL
      exact .inr ⟨i, bi, Li, g1, hrw, hL, rfl⟩
  tape := ht
  os := ho
  output := hu

theorem Frm.refl : Frm ρ h w ρ h w := ⟨Nat.le_refl _, ⟨fun _ _ => rfl, fun _ _ => rfl, fun _ _ _ h => h⟩, Nat.le_refl _, fun _ _ _ => rfl, fun i bi Li h1 h2 h3 => .inr ⟨i, bi, Li, h1, h2, h3, rfl⟩, rfl, rfl, rfl⟩
theorem Frm.trans {ρ'' : Inj} {h'' : Heap} {w'' : World} (f : Frm ρ h w ρ' h' w') (g : Frm ρ' h' w' ρ'' h'' w'') : Frm ρ h w ρ'' h'' w'' where
  len := Nat.le_trans f.len g.len
  le := ⟨fun i hi => by rw [g.le.loc i (Nat.lt_of_lt_of_le hi f.len), f.le.loc i hi], fun i hi => by rw [g.le.rows i (Nat.lt_of_lt_of_le hi f.len), f.le.rows i hi], fun b o l hi => g.le.imm b o l (f.le.imm b o l hi)⟩
  size := Nat.le_trans f.size g.size
  same := fun b hb hno => by
    rw [g.same b (Nat.lt_of_lt_of_le hb f.size) ?_, f.same b hb hno]
    intro i bi Li h1 h2 h3 e
    rcases f.own i bi Li h1 h2 h3 with hx | ⟨j, bj, Lj, g1, g2, g3, g4⟩
    · omega
    · exact hno j bj Lj g1 g2 g3 (by rw [g4, e])
  own := fun i bi Li h1 h2 h3 => by
    rcases g.own i bi Li h1 h2 h3 with hx | ⟨j, bj, Lj, g1, g2, g3, g4⟩
    · exact .inl (Nat.le_trans f.size hx)
    · rw [← g4]; exact f.own j bj Lj g1 g2 g3
  tape := by rw [g.tape, f.tape]
  os := by rw [g.os, f.os]
  output := by rw [g.output, f.output]

/-! ### A block that is made: first in the abstract heap, then in memory -/
def Blk.count : Blk → Nat
  | .rows _ _ l => l.length
  | _ => 0
def Inj.add (ρ : Inj) (c : Nat) : Inj where
  n := ρ.n + 1
  loc := ρ.loc
  rows := fun i => if i = ρ.n then c else ρ.rows i
  imm := ρ.imm
  dom := fun i hi => ρ.dom i (by omega)
theorem Inj.add_ext (ρ : Inj) (c : Nat) : ρ.ext (ρ.add c) := ⟨Nat.le_succ _, fun _ _ h => h, fun i hi => by simp [Inj.add]; omega, fun _ _ _ h => h⟩
theorem Sim.add (S : Sim B ρ h w) (b : Blk) : Sim B (ρ.add b.count) (h ++ [b]) w := by
  have hn : ∀ i, h.length ≤ i → ρ.loc i = none := fun i hi => ρ.dom i (by rw [S.n]; exact hi)
  have lt : ∀ {i : Nat} {bi : Blk} {L : Loc}, (h ++ [b])[i]? = some bi → ρ.loc i = some L → h[i]? = some bi := by
    intro i bi L hi hL
    have : i < h.length := by have := ρ.lt hL; rw [S.n] at this; exact this
    rwa [List.getElem?_append_left this] at hi
  refine ⟨by simp [Inj.add, S.n], ?_, ?_, ?_, S.base, ?_, S.bsize⟩
  · intro id bi hb
    by_cases e : id < h.length
    · rw [List.getElem?_append_left e] at hb
      exact (S.blk id bi hb).mono (ρ.add_ext _) (by rw [S.n]; exact e) rfl (fun _ _ => rfl) (Nat.le_refl _)
    · rw [List.getElem?_append_right (by omega)] at hb
      have e0 : id - h.length = 0 := by
        rcases Nat.eq_zero_or_pos (id - h.length) with h0 | h0
        · exact h0
        · rw [List.getElem?_eq_none (by simp; omega)] at hb; cases hb
      rw [e0] at hb
      simp at hb
      subst hb
      have hid : id = ρ.n := by rw [S.n]; omega
      have hno : (ρ.add b.count).loc id = none := by rw [hid]; exact ρ.dom _ (Nat.le_refl _)
      cases b with
      | dead => trivial
      | cells c => intro L hL; rw [hno] at hL; cases hL
      | rows ro t l => exact ⟨by simp [Inj.add, hid, Blk.count], fun L hL => by rw [hno] at hL; cases hL⟩
      | mp k v l => intro L hL; rw [hno] at hL; cases hL
  · intro i j bi bj Li Lj hi hj hne hli hlj hrw hLi hLj
    exact S.sep i j bi bj Li Lj (lt hi hLi) (lt hj hLj) hne hli hlj hrw hLi hLj
  · intro b' o l hi
    obtain ⟨g1, g2, g3, g4⟩ := S.imm b' o l hi
    exact ⟨g1, g2, g3, fun i bi Li hb hrw hL => g4 i bi Li (lt hb hL) hrw hL⟩
  · intro i bi Li hb hrw hL
    exact S.above i bi Li (lt hb hL) hrw hL
theorem Sim.frm_add (S : Sim B ρ h w) (b : Blk) : Frm ρ h w (ρ.add b.count) (h ++ [b]) w where
  len := by simp
  le := ⟨fun _ _ => rfl, fun i hi => by have := S.n; simp [Inj.add]; omega, fun _ _ _ h => h⟩
  size := Nat.le_refl _
  same := fun _ _ _ => rfl
  own := fun i bi Li hb hrw hL => by
    have hL' : ρ.loc i = some Li := hL
    have : i < h.length := by have := ρ.lt hL'; rw [S.n] at this; exact this
    rw [List.getElem?_append_left this] at hb
    exact .inr ⟨i, bi, Li, hb, hrw, hL', rfl⟩
  tape := rfl
  os := rfl
  output := rfl

def Inj.put (ρ : Inj) (i : Nat) (hi : i < ρ.n) (L : Loc) : Inj where
  n := ρ.n
  loc := fun j => if j = i then some L else ρ.loc j
  rows := ρ.rows
  imm := ρ.imm
  dom := fun j hj => by rw [if_neg (by omega)]; exact ρ.dom j hj
theorem Inj.put_ext {i : Nat} (hi : i < ρ.n) (L : Loc) (hno : ρ.loc i = none) : ρ.ext (ρ.put i hi L) :=
  ⟨Nat.le_refl _, fun j L' h => by simp only [Inj.put]; rw [if_neg (fun e => by rw [e, hno] at h; cases h)]; exact h, fun _ _ => rfl, fun _ _ _ h => h⟩
/-- The block comes into memory, as a new object. -/
theorem Sim.born (S : Sim B ρ h w) {i : Nat} {b : Blk} (hb : h[i]? = some b) (hi : i < ρ.n) (hno : ρ.loc i = none) {L : Loc} (hL : L.blk = w.heap.size) (hsz : w.heap.size ≤ w'.heap.size)
    (hs : ∀ j, j < w.heap.size → w'.heap[j]? = w.heap[j]?) (hbr : BR (ρ.put i hi L) w' i b) : Sim B (ρ.put i hi L) h w' := by
  refine Stp.sim (i0 := i) (X := fun _ => False) ⟨Inj.put_ext hi L hno, by simp [Inj.put, S.n], Nat.le_refl _, hsz, fun b hb _ => hs b hb, fun _ h => h.elim, ?_, ?_, fun _ _ _ h => .inl h⟩ S
  · intro j bj hj hl hne
    exact ⟨hj, by simp [Inj.put, hne], fun _ _ h => h⟩
  · intro bi hbi hl
    rw [hb] at hbi; cases hbi
    exact ⟨hbr, fun L' hL' => by simp [Inj.put] at hL'; subst hL'; exact .inr (by omega)⟩
theorem Frm.born {ρ0 : Inj} {h0 : Heap} {w0 : World} (f : Frm ρ0 h0 w0 ρ h w) {i : Nat} (hi : i < ρ.n) (hi0 : h0.length ≤ i) {L : Loc} (hL : L.blk = w.heap.size) (hsz : w.heap.size ≤ w'.heap.size)
    (hs : ∀ j, j < w.heap.size → w'.heap[j]? = w.heap[j]?) (ht : w'.tape = w.tape) (ho : w'.os = w.os) (hu : w'.output = w.output) : Frm ρ0 h0 w0 (ρ.put i hi L) h w' where
  len := f.len
  le := ⟨fun j hj => by simp only [Inj.put]; rw [if_neg (by omega)]; exact f.le.loc j hj, f.le.rows, f.le.imm⟩
  size := Nat.le_trans f.size hsz
  same := fun b hb hno => by rw [hs b (Nat.lt_of_lt_of_le hb f.size)]; exact f.same b hb hno
  own := fun j bj Lj h1 h2 h3 => by
    simp only [Inj.put] at h3
    split at h3
    · cases h3; exact .inl (by rw [hL]; exact f.size)
    · exact f.own j bj Lj h1 h2 h3
  tape := by rw [ht, f.tape]
  os := by rw [ho, f.os]
  output := by rw [hu, f.output]

end
end
end Go.Sx

/- Operations that make a block. -/
set_option linter.unusedSimpArgs false
set_option linter.unusedVariables false
namespace Go.Sx

def sameOpd : Operand → Operand → Bool
  | .tmp a, .tmp b => a == b
  | .const (.int j a), .const (.int k b) => j == k && a == b
  | _, _ => false
def RT.hasFb : RT → Bool
  | .out | .lmsg | .fby => true
  | _ => false
/-- Parts in their order, from a place on. -/
def inOrder : Nat → List (Nat × Operand) → Option (List Operand)
  | _, [] => some []
  | k, (i, x) :: l => if i = k then (inOrder (k + 1) l).map (x :: ·) else none
/-- An operation that makes a block. -/
def compN (P : Program) (tt : TypeId → Option RT) (o : Op) : Option NOp :=
  match o with
  | .alloc e => match zeroW P 8 e with
    | some z => if zeroOk P e z then some (.zbox z) else none
    | none => none
  | .box _ x => (compOpd x).map .box
  | .makeSlice t l c => match P.underlying t, compOpd l with
    | some (.slice e), some al => match tt e with
      | some rt => if rtOk P e rt = true ∧ sameOpd l c = true then some (.mkslice rt al) else none
      | none => none
    | _, _ => none
  | .buildSlice t n ps => match P.underlying t, inOrder 0 ps.toList with
    | some (.slice e), some xs => match compOpds xs, sz? P e with
      | some axs, some z => if xs.length = n ∧ 1 ≤ z ∧ n * z ≤ 16777216 ∧ ((P.info? e).bind (·.zero)).isSome = true then
          match tt e with
          | some rt => if rt.hasFb then some (.bslice none z n axs) else if rtOk P e rt then some (.bslice (some rt) z n axs) else none
          | none => some (.bslice none z n axs)
        else none
      | _, _ => none
    | _, _ => none
  | .makeMap t none => match P.underlying t with
    | some (.map k v) => match tt k, tt v with
      | some kt, some vt => if kt.keys.isSome then some (.mkmap kt vt) else none
      | _, _ => none
    | _ => none
  | .convert s d x => match P.underlying s, P.underlying d, compOpd x with
    | some .string, some (.slice e), some x => match P.underlying e with
      | some (.int .u8) => some (.bytes x)
      | _ => none
    | _, _, _ => none
  | _ => none

section
variable {P : Program} {w : World} {B : Base} {ρ : Inj} {h : Heap} {val : Operand → Value}

/-- What an operation that makes a block comes to. -/
def NGoal (P : Program) (w : World) (ρ : Inj) (val : Operand → Value) (o : Oper) (id : Nat) (v : AVal) (b : Blk) : Prop :=
  ∃ v' w' L, (execOp val o).run P w = .ok (.value v') w' ∧ L.blk = w.heap.size ∧ w.heap.size ≤ w'.heap.size ∧ (∀ j, j < w.heap.size → w'.heap[j]? = w.heap[j]?) ∧
    w'.tape = w.tape ∧ w'.os = w.os ∧ w'.output = w.output ∧ ∀ hi : id < ρ.n, VR (ρ.put id hi L) v v' ∧ BR (ρ.put id hi L) w' id b

theorem alloc_keeps (w : World) (o : Obj) : w.heap.size ≤ (w.alloc o).heap.size ∧ (∀ j, j < w.heap.size → (w.alloc o).heap[j]? = w.heap[j]?) := by
  refine ⟨by simp [-World.alloc_eq, World.alloc], fun j hj => ?_⟩
  simp only [World.alloc]
  rw [Array.getElem?_push_lt hj, Array.getElem?_eq_getElem hj]
theorem alloc_at (w : World) (cs : Array Value) (e : TypeId) (fz : Nat × Nat) (o : Nat) : (w.alloc (.cells cs e fz)).cell? ⟨w.heap.size, o, none⟩ = cs[o]? := by
  simp [-World.alloc_eq, World.alloc, World.cell?]
theorem alloc_froz (w : World) (cs : Array Value) (e : TypeId) (fz : Nat × Nat) (o : Nat) : (w.alloc (.cells cs e fz)).frozen? ⟨w.heap.size, o, none⟩ = (decide (fz.1 ≤ o) && decide (o < fz.2)) := by
  simp [-World.alloc_eq, World.alloc, World.frozen?]
theorem alloc_free (w : World) (cs : Array Value) (e : TypeId) (fz : Nat × Nat) (hfz : cs.size ≤ fz.1 ∨ fz.2 = 0) : Free (w.alloc (.cells cs e fz)) w.heap.size cs.size := by
  intro o ho
  rw [alloc_at, alloc_froz]
  refine ⟨by simp [ho], ?_⟩
  simp
  omega
theorem alloc_lies (w : World) (cs : Array Value) (e : TypeId) (fz : Nat × Nat) (l : List Value) (k : Nat) (hl : ∀ (i : Nat) (v : Value), l[i]? = some v → cs[k + i]? = some v) : Lies (w.alloc (.cells cs e fz)) w.heap.size k l := by
  intro i v hi
  rw [alloc_at]
  exact hl i v hi

/-- A new block of cells. -/
theorem NGoal.cells {o : Oper} {id : Nat} {v : AVal} {c : List AVal} {v' : Value} {cs : Array Value} {e : TypeId} (hrun : (execOp val o).run P w = .ok (.value v') (w.alloc (.cells cs e)))
    (hc : CR ρ c cs.toList) (hno : ρ.loc id = none) (hv : ∀ ρ', ρ'.loc id = some ⟨w.heap.size, 0, cs.size⟩ → VR ρ' v v') : NGoal P w ρ val o id v (.cells c) := by
  refine ⟨v', _, ⟨w.heap.size, 0, cs.size⟩, hrun, rfl, (alloc_keeps w _).1, (alloc_keeps w _).2, rfl, rfl, rfl, fun hi => ?_⟩
  have hput : (ρ.put id hi ⟨w.heap.size, 0, cs.size⟩).loc id = some ⟨w.heap.size, 0, cs.size⟩ := by simp [Inj.put]
  refine ⟨hv _ hput, fun L hL => ?_⟩
  rw [hput] at hL
  cases hL
  refine ⟨cs.toList, rfl, hc.mono (Inj.put_ext hi _ hno), ?_, by simp, alloc_free w cs e _ (.inr rfl), by simp [-World.alloc_eq, World.alloc]⟩
  exact alloc_lies w cs e _ _ 0 fun i v hi => by simpa using hi

/-- Rows one behind the other. -/
theorem encs_rows {t : RT} : ∀ {l : List t.T} {l' : List Value}, CR ρ (encs t l) l' → ∀ i x, l[i]? = some x → ∃ r, CR ρ (t.enc x) r ∧ ∀ j v, r[j]? = some v → l'[i * t.sz + j]? = some v
  | [], _, _, i, x, hx => by simp at hx
  | y :: l, l', hc, i, x, hx => by
    have key : ∃ a b, l' = a ++ b ∧ CR ρ (t.enc y) a ∧ CR ρ (encs t l) b := by
      have hc' : CR ρ (t.enc y ++ encs t l) l' := by simpa [encs] using hc
      have split : ∀ (p q : List AVal) (l' : List Value), CR ρ (p ++ q) l' → ∃ a b, l' = a ++ b ∧ CR ρ p a ∧ CR ρ q b := by
        intro p
        induction p with
        | nil => intro q l' h; exact ⟨[], l', rfl, .nil, h⟩
        | cons v p ih =>
          intro q l' h
          rw [List.cons_append] at h
          cases h with
          | one hv hs hw t =>
            obtain ⟨a, b, rfl, h1, h2⟩ := ih q _ t
            exact ⟨_ :: a, b, rfl, .one hv hs hw h1, h2⟩
          | wide hn hk t =>
            obtain ⟨a, b, rfl, h1, h2⟩ := ih q _ t
            exact ⟨_ ++ a, b, by rw [List.append_assoc], .wide hn hk h1, h2⟩
      exact split _ _ _ hc'
    obtain ⟨a, b, rfl, ha, hb⟩ := key
    have hla : a.length = t.sz := by rw [ha.width, t.widths_enc]
    cases i with
    | zero =>
      simp at hx
      subst hx
      exact ⟨a, ha, fun j v hj => by
        rw [Nat.zero_mul, Nat.zero_add, List.getElem?_append_left ((List.getElem?_eq_some_iff.1 hj).1)]; exact hj⟩
    | succ i =>
      obtain ⟨r, h1, h2⟩ := encs_rows hb i x (by simpa using hx)
      refine ⟨r, h1, fun j v hj => ?_⟩
      rw [List.getElem?_append_right (by rw [hla, Nat.add_mul]; omega), hla]
      have := h2 j v hj
      rwa [show (i + 1) * t.sz + j - t.sz = i * t.sz + j by rw [Nat.add_mul]; omega]

/-- A new block of rows. -/
theorem NGoal.rows {o : Oper} {id : Nat} {t : RT} {l : List t.T} {cap : Cap} {c' : Nat} {w1 : World} (h1 : w1.heap = w.heap) (h2 : w1.tape = w.tape) (h3 : w1.os = w.os) (h4 : w1.output = w.output) {cs : Array Value} {e : TypeId} {fz : Nat × Nat}
    (hrun : (execOp val o).run P w = .ok (.value (.slice (some ⟨w.heap.size, 0, none⟩) l.length c')) (w1.alloc (.cells cs e fz))) (hfz : cs.size ≤ fz.1 ∨ fz.2 = 0)
    {l' : List Value} (hc : CR ρ (encs t l) l') (hl : ∀ (i : Nat) (v : Value), l'[i]? = some v → cs[i]? = some v) (hle : l.length ≤ c') (hfit : cap.fits l.length c') (hcs : c' * t.sz ≤ cs.size) (hno : ρ.loc id = none) (hrows : ρ.rows id = l.length) :
    NGoal P w ρ val o id (.slice (some ⟨id, t.sz, 0, 0⟩) .all cap) (.rows false t l) := by
  have hk := alloc_keeps w1 (.cells cs e fz)
  rw [h1] at hk
  refine ⟨_, _, ⟨w.heap.size, 0, cs.size⟩, hrun, rfl, hk.1, hk.2, h2, h3, h4, fun hi => ?_⟩
  have hput : (ρ.put id hi ⟨w.heap.size, 0, cs.size⟩).loc id = some ⟨w.heap.size, 0, cs.size⟩ := by simp [Inj.put]
  have hlen : (ρ.put id hi ⟨w.heap.size, 0, cs.size⟩).len ⟨id, t.sz, 0, 0⟩ .all = l.length := by simp [Inj.len, Inj.put, hrows]
  have hx := Inj.put_ext hi ⟨w.heap.size, 0, cs.size⟩ hno
  have hll : l'.length = l.length * t.sz := by rw [hc.width, encs_width]
  refine ⟨?_, ?_, fun L hL => ?_⟩
  · have := VR.slice (ρ := ρ.put id hi ⟨w.heap.size, 0, cs.size⟩) (p := ⟨id, t.sz, 0, 0⟩) (n := .all) (c := cap) (c' := c') hput (by rw [hlen]; exact hle) (by rw [hlen]; exact hfit)
      (fun _ => ⟨rfl, by simpa using hcs⟩)
    rw [hlen] at this
    simpa using this
  · simp [Inj.put, hrows]
  · rw [hput] at hL
    cases hL
    refine ⟨fun i x hx' => ?_, by simp [-World.alloc_eq, World.alloc, h1], fun _ => ⟨?_, ?_⟩⟩
    · obtain ⟨r, g1, g2⟩ := encs_rows hc i x hx'
      refine ⟨r, g1.mono hx, ?_⟩
      have := alloc_lies w1 cs e fz r (0 + i * t.sz) (fun j v hj => by rw [Nat.zero_add]; exact hl _ _ (g2 j v hj))
      rwa [h1] at this
    · have : l.length * t.sz ≤ c' * t.sz := Nat.mul_le_mul_right _ hle
      simpa using (by omega : l.length * t.sz ≤ cs.size)
    · have := alloc_free w1 cs e fz hfz
      rwa [h1] at this

/-! ### The operations -/
theorem zeroOk_val {e : TypeId} {z : List AVal} (hz : zeroOk P e z = true) : ∃ u, (zeroValue e).run P w = .ok u w ∧ CR ρ z u.cells.toList := by
  unfold zeroOk at hz
  split at hz
  · rename_i u hu
    obtain ⟨i, hi, hu'⟩ := Option.bind_eq_some_iff.1 hu
    exact ⟨u, by simp [zeroValue, typeInfo, hi, hu'], CRb_sound hz⟩
  · cases hz

theorem N_alloc {o : Oper} {e : TypeId} (ho : o.op = .alloc e) {z : List AVal} (hz : zeroOk P e z = true) {id : Nat} (hno : ρ.loc id = none) :
    NGoal P w ρ val o id (.ptr (some ⟨id, 0, 0, 0⟩)) (.cells z) := by
  obtain ⟨u, h1, h2⟩ := zeroOk_val (P := P) (w := w) (ρ := ρ) hz
  refine NGoal.cells (v' := .pointer (some ⟨w.heap.size, 0, none⟩)) (cs := u.cells) (e := e) ?_ h2 hno (fun ρ' hL => .ptr (by simp [Inj.addr, hL]))
  simp [execOp, ho, Instr.alloc, h1, newVar, newRow]

theorem N_box {o : Oper} {e : TypeId} {x : Operand} (ho : o.op = .box e x) {v : AVal} (hv : VR ρ v (val x)) (hu : v ≠ .unk) (ht : ∀ l, v ≠ .tup l) {id : Nat} (hno : ρ.loc id = none) :
    NGoal P w ρ val o id (.ptr (some ⟨id, 0, 0, 0⟩)) (.cells v.cs) := by
  refine NGoal.cells (v' := .pointer (some ⟨w.heap.size, 0, none⟩)) (cs := (val x).cells) (e := e) ?_ (hv.cs hu ht) hno (fun ρ' hL => .ptr (by simp [Inj.addr, hL]))
  simp [execOp, ho, Instr.box, newVar, newRow]

theorem N_map {o : Oper} {t : TypeId} (ho : o.op = .makeMap t none) {k v : RT} {id : Nat} : NGoal P w ρ val o id (.map (some id)) (.mp k v []) := by
  refine ⟨.map (some w.heap.size), w.alloc (.map #[] 0), ⟨w.heap.size, 0, 0⟩, ?_, rfl, (alloc_keeps w _).1, (alloc_keeps w _).2, rfl, rfl, rfl, fun hi => ?_⟩
  · simp [execOp, ho, Instr.makeMap]
  · have hput : (ρ.put id hi ⟨w.heap.size, 0, 0⟩).loc id = some ⟨w.heap.size, 0, 0⟩ := by simp [Inj.put]
    refine ⟨.map hput, fun L hL => ?_⟩
    rw [hput] at hL
    cases hL
    exact ⟨#[], 0, by simp [-World.alloc_eq, World.alloc], .nil, by simp⟩

theorem encs_dft {t : RT} {z : List Value} (hz : CR ρ (t.enc t.dft) z) : ∀ n, CR ρ (encs t (List.replicate n t.dft)) (List.replicate n z).flatten
  | 0 => .nil
  | n + 1 => by
    rw [List.replicate_succ, List.replicate_succ, List.flatten_cons]
    simp only [encs, List.flatMap_cons]
    exact hz.append (encs_dft hz n)

theorem made_flat (z : Array Value) (n i : Nat) (v : Value) (hi : ((List.replicate n z.toList).flatten)[i]? = some v) : (madeCells z (n * z.size))[i]? = some v := by
  have key : ∀ n i v, ((List.replicate n z.toList).flatten)[i]? = some v → i < n * z.size ∧ z[i % z.size]? = some v := by
    intro n
    induction n with
    | zero => intro i v h; simp at h
    | succ n ih =>
      intro i v h
      rw [List.replicate_succ, List.flatten_cons, List.getElem?_append] at h
      split at h
      · rename_i hlt
        simp at hlt
        refine ⟨by rw [Nat.add_mul]; omega, ?_⟩
        rw [Nat.mod_eq_of_lt hlt]
        simpa using h
      · rename_i hge
        simp at hge
        obtain ⟨g1, g2⟩ := ih _ _ h
        simp at g1 g2
        refine ⟨by rw [Nat.add_mul]; omega, ?_⟩
        rwa [← Nat.mod_eq_sub_mod (by omega)] at g2
  obtain ⟨h1, h2⟩ := key n i v hi
  unfold madeCells
  rw [Array.getElem?_map, Array.getElem?_range]
  simp only [h1, ite_true, Option.map_some]
  rw [getElem!_def, h2]

theorem N_make {o : Oper} {t e : TypeId} {l c : Operand} (ho : o.op = .makeSlice t l c) (hu : P.underlying t = some (.slice e)) {rt : RT} (hrt : rtOk P e rt = true) (hlc : val l = val c) {k : IntKind} {n : Int}
    (hl : val l = .int k n) (h0 : 0 ≤ n) (h1 : n ≤ lim) {id : Nat} (hno : ρ.loc id = none) (hrows : ρ.rows id = n.toNat) :
    NGoal P w ρ val o id (.slice (some ⟨id, rt.sz, 0, 0⟩) .all (.exact n.toNat)) (.rows false rt (List.replicate n.toNat rt.dft)) := by
  obtain ⟨i, d, hi, hd, hsz, hby, hz⟩ : ∃ i d, P.info? e = some i ∧ P.underlying e = some d ∧ i.size = rt.sz ∧ i.bytes ≤ 1024 ∧ zeroOk P e (rt.enc rt.dft) = true := by
    unfold rtOk at hrt
    split at hrt
    · rename_i i d hi hd
      simp only [Bool.and_eq_true, beq_iff_eq, decide_eq_true_eq] at hrt
      exact ⟨i, d, hi, hd, hrt.1, hrt.2.1, hrt.2.2.2.2⟩
    · cases hrt
  have hz' := hz
  unfold zeroOk at hz'
  rw [hi] at hz'
  simp only [Option.bind_some] at hz'
  cases hzv : i.zero with
  | none => rw [hzv] at hz'; cases hz'
  | some z =>
    rw [hzv] at hz'
    have hcr : CR ρ (rt.enc rt.dft) z.cells.toList := CRb_sound hz'
    have hzs : z.cells.size = rt.sz := by rw [← rt.widths_enc rt.dft, ← hcr.width]; simp
    have hrun := run_make (P := P) w t e i z hu hi hzv k k n n h0 (Int.le_refl _) (by
      have hb : (i.bytes : Int) ≤ 1024 := by omega
      have : (i.bytes : Int) * n ≤ 1024 * n := Int.mul_le_mul_of_nonneg_right hb h0
      simp only [lim] at h1
      omega) (by simp only [lim] at h1; omega)
    refine NGoal.rows (w1 := w) (c' := n.toNat) (cs := madeCells z.cells (n.toNat * i.size)) (e := e) (fz := (0, 0)) rfl rfl rfl rfl ?_ (.inr rfl) (encs_dft hcr n.toNat) ?_ (by simp) (by simp [Cap.fits]) (by simp [size_madeCells, hsz]) hno (by simp [hrows])
    · simp only [execOp, ho, Sem.run_bind, ← hlc, hl, hrun, Result.andThen_ok, Sem.run_pure, List.length_replicate]
    · intro j v hj
      rw [hsz, ← hzs]
      exact made_flat z.cells n.toNat j v hj

theorem N_bytes {o : Oper} {s d e : TypeId} {x : Operand} (ho : o.op = .convert s d x) (hs : P.underlying s = some .string) (hd : P.underlying d = some (.slice e)) (he : P.underlying e = some (.int .u8))
    {l : List Int} (hx : VR ρ (.str l) (val x)) {id : Nat} (hno : ρ.loc id = none) (hrows : ρ.rows id = l.length) :
    NGoal P w ρ val o id (.slice (some ⟨id, 1, 0, 0⟩) .all .opn) (.rows false (.int .u8) l) := by
  obtain ⟨b, e1, e2⟩ := hx.str_inv
  have hsz : b.size = l.length := by rw [← e2]; unfold bytesI; rw [List.length_map, Array.length_toList]; rfl
  have hrun := run_bytes_of_string (P := P) w s d e b hs hd he
  have hge := grownCap_ge w b.size 0 e
  have hrow : (bytesRow b (grownCap w b.size 0 e)).size = grownCap w b.size 0 e := by
    unfold bytesRow
    have : b.data.size = b.size := rfl
    simp [this]; omega
  refine NGoal.rows (t := .int .u8) (w1 := w.drew) (c' := grownCap w b.size 0 e) (cs := bytesRow b (grownCap w b.size 0 e)) (e := e) (fz := ((bytesRow b (grownCap w b.size 0 e)).size, (bytesRow b (grownCap w b.size 0 e)).size + 1)) rfl rfl rfl rfl ?_ (.inl (Nat.le_refl _)) (l' := l.map fun x => .int .u8 x) ?_ ?_ (by omega) (by simp only [Cap.fits]; omega) (by rw [hrow]; simp [RT.sz]) hno hrows
  · simp only [execOp, ho, Sem.run_bind, e1, hrun, Result.andThen_ok, Sem.run_pure, hsz]
  · have hk : ∀ x ∈ l, IntKind.u8.has x := by
      rw [← e2]
      intro x hx
      obtain ⟨y, _, rfl⟩ := List.mem_map.1 hx
      have := y.toNat_lt
      constructor <;> simp only [IntKind.min, IntKind.max, IntKind.signed, IntKind.bits] <;> first | omega | (simp; omega)
    clear hrows hsz e2 hx hrun hrow hge
    induction l with
    | nil => exact .nil
    | cons x l ih => exact .one (.int (hk x (by simp))) rfl rfl (ih (fun y hy => hk y (by simp [hy])))
  · intro i v hi
    rw [← e2] at hi
    unfold bytesI at hi
    simp at hi
    obtain ⟨u, hu, rfl⟩ := hi
    have hlt : i < b.data.size := by
      rcases Nat.lt_or_ge i b.data.size with h' | h'
      · exact h'
      · rw [Array.getElem?_eq_none h'] at hu; cases hu
    rw [bytesRow_at b _ i hlt]
    rw [Array.getElem?_eq_getElem hlt] at hu
    cases hu
    rfl

/-! ### A slice of given items -/
def cellsAll (val : Operand → Value) : List Operand → List Value
  | [] => []
  | x :: l => (val x).cells.toList ++ cellsAll val l
theorem fill_inOrder {sz : Nat} : ∀ (ps : List (Nat × Operand)) (xs : List Operand) (k : Nat) (A Z : List Value), inOrder k ps = some xs → A.length = k * sz → (∀ x ∈ xs, (val x).cells.size = sz) → xs.length * sz ≤ Z.length →
    Instr.fill (fun i => some (i * sz, sz)) (A ++ Z).toArray (ps.map fun (i, x) => (i, val x)) = some (A ++ (cellsAll val xs ++ Z.drop (xs.length * sz))).toArray
  | [], xs, k, A, Z, hi, hA, hs, hZ => by
    simp only [inOrder, Option.some.injEq] at hi
    subst hi
    simp [Instr.fill, cellsAll]
  | (i, x) :: ps, xs, k, A, Z, hi, hA, hs, hZ => by
    simp only [inOrder] at hi
    split at hi
    · rename_i e
      subst e
      obtain ⟨ys, hy, rfl⟩ := Option.map_eq_some_iff.1 hi
      have hx : (val x).cells.size = sz := hs x (by simp)
      simp only [List.length_cons, Nat.add_mul, Nat.one_mul] at hZ
      have hlen : (val x).cells.toList.length = sz := by simpa using hx
      simp only [List.map_cons, Instr.fill]
      rw [if_neg (by simp [hx, hA]; omega)]
      have hz := fold_put (i * sz) (val x).cells.toList 0 (A ++ Z) (by rw [hlen]; simp [hA]; omega)
      have e2 : (val x).cells.zipIdx.foldl (fun cs (x : Value × Nat) => cs.setIfInBounds (i * sz + x.2) x.1) (A ++ Z).toArray = ((A ++ (val x).cells.toList) ++ Z.drop sz).toArray := by
        rw [← Array.foldl_toList, Array.toList_zipIdx, hz]
        congr 1
        simp only [Nat.add_zero, hlen]
        rw [List.take_append_of_le_length (by omega), List.take_of_length_le (by omega), List.drop_append, hA, List.drop_eq_nil_of_le (by omega), List.append_assoc]
        rw [show i * sz + sz - i * sz = sz by omega]
        simp
      have ih := fill_inOrder ps ys (i + 1) (A ++ (val x).cells.toList) (Z.drop sz) hy (by simp [hA, hx, Nat.add_mul]) (fun y hy => hs y (by simp [hy])) (by simp; omega)
      refine (congrArg (fun z => Instr.fill (fun i => some (i * sz, sz)) z (ps.map fun (i, x) => (i, val x))) e2).trans ?_
      rw [ih]
      congr 2
      simp only [cellsAll, List.length_cons, Nat.add_mul, Nat.one_mul, List.append_assoc, List.drop_drop]
      rw [Nat.add_comm sz]
    · contradiction

theorem run_buildSlice {t e : TypeId} {n z : Nat} {ps : Array (Nat × Operand)} {xs : List Operand} (hu : P.underlying t = some (.slice e)) (hz : sz? P e = some z) (hps : inOrder 0 ps.toList = some xs) (hn : xs.length = n)
    (hsz : n * z ≤ 16777216) (hzero : ((P.info? e).bind (·.zero)).isSome = true) (hs : ∀ x ∈ xs, (val x).cells.size = z) :
    (Instr.buildSlice t n (ps.map fun (i, x) => (i, val x))).run P w = .ok (.slice (some ⟨w.heap.size, 0, none⟩) n n) (w.alloc (.cells (cellsAll val xs).toArray e)) := by
  obtain ⟨u, hu'⟩ := Option.isSome_iff_exists.1 hzero
  obtain ⟨i, hi, hiz⟩ := Option.bind_eq_some_iff.1 hu'
  have hzr : (zeroValue e).run P w = .ok u w := by simp [zeroValue, typeInfo, hi, hiz]
  have hlen : (cellsAll val xs).length = n * z := by
    rw [← hn]
    clear hps hn
    induction xs with
    | nil => simp [cellsAll]
    | cons x xs ih =>
      simp only [cellsAll, List.length_append, List.length_cons, Array.length_toList]
      rw [ih (fun y hy => hs y (by simp [hy])), hs x (by simp), Nat.add_mul]; omega
  have main : ∀ Z : Array Value, Z.size = n * z → Instr.fill (fun i => some (i * z, z)) Z (ps.map fun p => (p.1, val p.2)).toList = some (cellsAll val xs).toArray := by
    intro Z hZ
    have := fill_inOrder (val := val) (sz := z) ps.toList xs 0 [] Z.toList hps (by simp) hs (by rw [hn]; simp [hZ])
    simp only [List.nil_append] at this
    rw [Array.toList_map]
    rw [show Z.toList.toArray = Z from rfl] at this
    rw [this, hn, List.drop_eq_nil_of_le (by simp [hZ])]
    simp
  have hnot : ¬ (n * z > 2 ^ 24) := by omega
  unfold Instr.buildSlice
  simp only [Sem.run_bind, run_underlying' hu, Result.andThen_ok, run_sizeOf' (P := P) (w := w) hz, if_neg hnot]
  by_cases h0 : n * z = 0
  · simp only [h0, if_true, Sem.run_bind, Sem.run_pure, Result.andThen_ok]
    rw [main _ (by simp [h0])]
    simp [newRow]
  · simp only [h0, if_false, Sem.run_bind, hzr, Result.andThen_ok, Sem.run_pure]
    rw [main _ (by simp)]
    simp [newRow]

theorem compOpds_len : ∀ {l : List Operand} {m : List Opd}, compOpds l = some m → m.length = l.length
  | [], m, h => by cases h; rfl
  | x :: l, m, h => by
    simp only [compOpds] at h
    split at h
    · rename_i a b ha hb; cases h; simp [compOpds_len hb]
    · contradiction

theorem N_items {o : Oper} {t e : TypeId} {n z : Nat} {ps : Array (Nat × Operand)} {xs : List Operand} {axs : List Opd} (ho : o.op = .buildSlice t n ps) (hu : P.underlying t = some (.slice e)) (hz : sz? P e = some z)
    (hps : inOrder 0 ps.toList = some xs) (hx : compOpds xs = some axs) (hn : xs.length = n) (hsz : n * z ≤ 16777216) (hzero : ((P.info? e).bind (·.zero)).isSome = true) {f : Opd → AVal} (hf : ∀ x ax, compOpd x = some ax → VR ρ (f ax) (val x))
    (hok : sized f z axs = true) {id : Nat} (hno : ρ.loc id = none) :
    NGoal P w ρ val o id (.slice (some ⟨id, z, 0, 0⟩) (.n n) (.exact n)) (.cells (catV f axs)) := by
  have key : ∀ (xs : List Operand) (axs : List Opd), compOpds xs = some axs → sized f z axs = true → CR ρ (catV f axs) (cellsAll val xs) ∧ ∀ x ∈ xs, (val x).cells.size = z := by
    intro xs
    induction xs with
    | nil => intro axs hc hok; cases hc; exact ⟨.nil, by simp⟩
    | cons x xs ih =>
      intro axs hc hok
      simp only [compOpds] at hc
      split at hc <;> try contradiction
      rename_i a b ha hb
      cases hc
      simp only [sized] at hok
      split at hok <;> try contradiction
      rename_i hu' ht'
      simp only [Bool.and_eq_true, Nat.beq_eq] at hok
      obtain ⟨g1, g2⟩ := ih b hb hok.2
      have hcs := (hf x a ha).cs hu' ht'
      refine ⟨hcs.append g1, fun y hy => ?_⟩
      rcases List.mem_cons.1 hy with rfl | hy
      · have := hcs.width; rw [hok.1] at this; simpa using this
      · exact g2 y hy
  obtain ⟨k1, k2⟩ := key xs axs hx hok
  refine NGoal.cells (v' := .slice (some ⟨w.heap.size, 0, none⟩) n n) (cs := (cellsAll val xs).toArray) (e := e) ?_ (by simpa using k1) hno (fun ρ' hL => ?_)
  · simp only [execOp, ho, Sem.run_bind, run_buildSlice (P := P) (w := w) hu hz hps hn hsz hzero k2, Result.andThen_ok, Sem.run_pure]
  · have := VR.slice (ρ := ρ') (p := ⟨id, z, 0, 0⟩) (n := .n n) (c := .exact n) (c' := n) hL (Nat.le_refl _) rfl (by simp [Cap.tight])
    simpa [Inj.len] using this

theorem N_rows {o : Oper} {t e : TypeId} {n : Nat} {rt : RT} {ps : Array (Nat × Operand)} {xs : List Operand} {axs : List Opd} (ho : o.op = .buildSlice t n ps) (hu : P.underlying t = some (.slice e)) (hz : sz? P e = some rt.sz)
    (hps : inOrder 0 ps.toList = some xs) (hx : compOpds xs = some axs) (hn : xs.length = n) (hsz : n * rt.sz ≤ 16777216) (hzero : ((P.info? e).bind (·.zero)).isSome = true) {f : Opd → AVal} (hf : ∀ x ax, compOpd x = some ax → VR ρ (f ax) (val x))
    {l : List rt.T} (hok : decAll rt f axs = some l) {id : Nat} (hno : ρ.loc id = none) (hrows : ρ.rows id = l.length) :
    NGoal P w ρ val o id (.slice (some ⟨id, rt.sz, 0, 0⟩) .all (.exact n)) (.rows false rt l) := by
  have key : ∀ (xs : List Operand) (axs : List Opd) (l : List rt.T), compOpds xs = some axs → decAll rt f axs = some l → CR ρ (encs rt l) (cellsAll val xs) ∧ (∀ x ∈ xs, (val x).cells.size = rt.sz) ∧ l.length = xs.length := by
    intro xs
    induction xs with
    | nil => intro axs l hc hok; cases hc; simp only [decAll, Option.some.injEq] at hok; subst hok; exact ⟨.nil, by simp, rfl⟩
    | cons x xs ih =>
      intro axs l hc hok
      simp only [compOpds] at hc
      split at hc <;> try contradiction
      rename_i a b ha hb
      cases hc
      simp only [decAll] at hok
      split at hok <;> try contradiction
      rename_i hu' ht'
      split at hok <;> try contradiction
      rename_i y m hy hm
      cases hok
      obtain ⟨g1, g2, g3⟩ := ih b m hb hm
      have hcs := (hf x a ha).cs hu' ht'
      rw [← rt.enc_dec _ _ hy] at hcs
      refine ⟨by simpa [encs, cellsAll] using hcs.append g1, fun y hy => ?_, by simp [g3]⟩
      rcases List.mem_cons.1 hy with rfl | hy
      · have := hcs.width; rw [rt.widths_enc] at this; simpa using this
      · exact g2 y hy
  obtain ⟨k1, k2, k3⟩ := key xs axs l hx hok
  have hln : l.length = n := by omega
  refine NGoal.rows (w1 := w) (c' := n) (cs := (cellsAll val xs).toArray) (e := e) (fz := (0, 0)) rfl rfl rfl rfl ?_ (.inr rfl) k1 (by simp) (by omega) (by simp [Cap.fits]) ?_ hno hrows
  · simp only [execOp, ho, Sem.run_bind, run_buildSlice (P := P) (w := w) hu hz hps hn hsz hzero k2, Result.andThen_ok, Sem.run_pure, hln]
  · have := k1.width
    rw [encs_width, hln] at this
    simp [this]

theorem sameOpd_val {val : Operand → Value} (hconst : ∀ v, val (.const v) = v) {a b : Operand} (h : sameOpd a b = true) : val a = val b := by
  cases a <;> cases b <;> try (simp [sameOpd] at h; done)
  · simp [sameOpd] at h; rw [h]
  · rename_i u v
    cases u <;> cases v <;> try (simp [sameOpd] at h; done)
    simp [sameOpd] at h
    rw [hconst, hconst, h.1, h.2]

/-- Whatever the evaluator says of an operation that makes a block holds of the model. -/
theorem exN_sound {tt : TypeId → Option RT} {o : Oper} {r : NOp} (hc : compN P tt o.op = some r) {f : Opd → AVal} (hf : ∀ x ax, compOpd x = some ax → VR ρ (f ax) (val x)) (hconst : ∀ v, val (.const v) = v)
    {id : Nat} {v : AVal} {b : Blk} (he : exN r f id = some (true, (v, b))) (hno : ρ.loc id = none) (hrows : ρ.rows id = b.count) : NGoal P w ρ val o id v b := by
  cases hop : o.op <;> rw [hop] at hc <;> simp only [compN] at hc <;> try contradiction
  case alloc e =>
    split at hc <;> try contradiction
    rename_i z hz
    split at hc <;> try contradiction
    rename_i hzo
    cases hc
    simp only [exN, Option.some.injEq, Prod.mk.injEq, true_and] at he
    obtain ⟨rfl, rfl⟩ := he
    exact N_alloc hop hzo hno
  case box e x =>
    obtain ⟨ax, hx, rfl⟩ := Option.map_eq_some_iff.1 hc
    have hv := hf x ax hx
    simp only [exN] at he
    split at he <;> try contradiction
    rename_i hu ht
    simp only [Option.some.injEq, Prod.mk.injEq, true_and] at he
    obtain ⟨rfl, rfl⟩ := he
    exact N_box hop hv hu ht hno
  case buildSlice t n ps =>
    split at hc <;> try contradiction
    rename_i e xs hu hps
    split at hc <;> try contradiction
    rename_i axs z hx hz
    split at hc <;> try contradiction
    rename_i hcnd
    obtain ⟨c1, c2, c3, c4⟩ := hcnd
    have items : ∀ (he : exN (.bslice none z n axs) f id = some (true, (v, b))), NGoal P w ρ val o id v b := by
      intro he
      simp only [exN] at he
      split at he <;> try contradiction
      rename_i hok
      simp only [Option.some.injEq, Prod.mk.injEq, true_and] at he
      obtain ⟨rfl, rfl⟩ := he
      exact N_items hop hu hz hps hx c1 c3 c4 hf hok hno
    split at hc
    · rename_i rt hrt
      split at hc
      · cases hc; exact items he
      · split at hc <;> try contradiction
        rename_i hrto
        cases hc
        simp only [exN] at he
        obtain ⟨l, hl, he'⟩ := Option.map_eq_some_iff.1 he
        simp only [Prod.mk.injEq, true_and] at he'
        obtain ⟨rfl, rfl⟩ := he'
        have hsz : z = rt.sz := by
          unfold rtOk at hrto
          split at hrto
          · rename_i i d hi hd
            simp only [Bool.and_eq_true, beq_iff_eq] at hrto
            simp [sz?, hi] at hz
            omega
          · cases hrto
        subst hsz
        exact N_rows hop hu hz hps hx c1 c3 c4 hf hl hno hrows
    · cases hc; exact items he
  case convert s d x =>
    split at hc <;> try contradiction
    rename_i e ax hs hd hx
    split at hc <;> try contradiction
    rename_i he8
    cases hc
    have hv := hf x ax hx
    simp only [exN] at he
    split at he <;> try contradiction
    rename_i l hl
    rw [hl] at hv
    simp only [Option.some.injEq, Prod.mk.injEq, true_and] at he
    obtain ⟨rfl, rfl⟩ := he
    exact N_bytes hop hs hd he8 hv hno hrows
  case makeMap t n =>
    cases n <;> simp only [compN] at hc <;> try contradiction
    split at hc <;> try contradiction
    split at hc <;> try contradiction
    split at hc <;> try contradiction
    cases hc
    simp only [exN, Option.some.injEq, Prod.mk.injEq, true_and] at he
    obtain ⟨rfl, rfl⟩ := he
    exact N_map hop
  case makeSlice t l c =>
    split at hc <;> try contradiction
    rename_i e al hu hl
    split at hc <;> try contradiction
    rename_i rt hrt
    split at hc <;> try contradiction
    rename_i hcnd
    cases hc
    have hv := hf l al hl
    simp only [exN] at he
    split at he <;> try contradiction
    rename_i k n hn
    rw [hn] at hv
    simp only [Option.some.injEq, Prod.mk.injEq, Bool.and_eq_true, decide_eq_true_eq] at he
    obtain ⟨⟨g1, g2⟩, rfl, rfl⟩ := he
    exact N_make hop hu hcnd.1 (sameOpd_val hconst hcnd.2) hv.int_inv.1 g1 g2 hno (by simpa [Blk.count] using hrows)

end
end Go.Sx

/- Operations that change memory: stores. -/
set_option linter.unusedSimpArgs false
set_option linter.unusedVariables false
namespace Go.Sx

/-! ### Lists of blocks -/
theorem setB_length : ∀ (h : Heap) (i : Nat) (b : Blk), (setB h i b).length = h.length
  | [], _, _ => rfl
  | _ :: _, 0, _ => rfl
  | _ :: h, i + 1, b => by simp [setB, setB_length h i b]
theorem setB_get : ∀ (h : Heap) (i : Nat) (b : Blk) (j : Nat), (setB h i b)[j]? = if j = i then (h[j]?).map fun _ => b else h[j]?
  | [], _, _, _ => by simp [setB]
  | a :: h, 0, b, j => by cases j <;> simp [setB]
  | a :: h, i + 1, b, j => by
    cases j with
    | zero => simp [setB]
    | succ j => simp [setB, setB_get h i b j]
theorem kill_length : ∀ (l : List Nat) (h : Heap), (kill h l).length = h.length
  | [], _ => rfl
  | d :: l, h => by simp [kill, kill_length l, setB_length]
theorem kill_get : ∀ (l : List Nat) (h : Heap) (j : Nat), (kill h l)[j]? = if j ∈ l then (h[j]?).map fun _ => Blk.dead else h[j]?
  | [], h, j => by simp [kill]
  | d :: l, h, j => by
    simp only [kill]
    rw [kill_get l, setB_get]
    by_cases h1 : j ∈ l
    · by_cases h2 : j = d
      · subst h2; simp only [h1, if_true, List.mem_cons, true_or]; cases h[j]? <;> rfl
      · simp [h1, h2]
    · by_cases h2 : j = d
      · subst h2; simp [h1]
      · simp [h1, h2]
theorem getB_get : ∀ (h : Heap) (i : Nat), getB h i = (h[i]?).getD .dead
  | [], i => by simp [getB]
  | a :: h, 0 => by simp [getB]
  | a :: h, i + 1 => by simp [getB, getB_get h i]
theorem getB_setB_ne {h : Heap} {i j : Nat} {b : Blk} (hne : j ≠ i) : getB (setB h i b) j = getB h j := by
  rw [getB_get, getB_get, setB_get, if_neg hne]
theorem getB_app {h : Heap} {b : Blk} {j : Nat} (hj : j < h.length) : getB (h ++ [b]) j = getB h j := by
  rw [getB_get, getB_get, List.getElem?_append_left hj]
theorem getB_kill {h : Heap} {l : List Nat} {j : Nat} (hj : j ∉ l) : getB (kill h l) j = getB h j := by
  rw [getB_get, getB_get, kill_get, if_neg hj]

/-! ### Cells set one by one -/
section
variable (w : World)
theorem setCell_other (a : Addr) (v : Value) (j : Nat) (hj : j ≠ a.block) : (w.setCell a v).heap[j]? = w.heap[j]? := by
  simp only [World.setCell]
  rw [Array.getElem?_modify, if_neg (Ne.symm hj)]
theorem setCells_other (b : Nat) : ∀ (vs : List Value) (o : Nat) (w : World) (j : Nat), j ≠ b → (w.setCells b o vs).heap[j]? = w.heap[j]?
  | [], _, _, _, _ => rfl
  | v :: r, o, w, j, hj => by rw [World.setCells, setCells_other b r (o + 1) _ j hj, setCell_other w _ _ j hj]
theorem setCells_size (b : Nat) : ∀ (vs : List Value) (o : Nat) (w : World), (w.setCells b o vs).heap.size = w.heap.size
  | [], _, _ => rfl
  | v :: r, o, w => by rw [World.setCells, setCells_size b r, World.size_setCell]
theorem setCells_rest (b : Nat) : ∀ (vs : List Value) (o : Nat) (w : World), (w.setCells b o vs).tape = w.tape ∧ (w.setCells b o vs).os = w.os ∧ (w.setCells b o vs).output = w.output
  | [], _, _ => ⟨rfl, rfl, rfl⟩
  | v :: r, o, w => by rw [World.setCells]; obtain ⟨h1, h2, h3⟩ := setCells_rest b r (o + 1) (w.setCell ⟨b, o, none⟩ v); exact ⟨h1, h2, h3⟩
end
section
variable {w : World}
theorem Free.set {b n o : Nat} {vs : List Value} (h : Free w b n) (hle : o + vs.length ≤ n) : Free (w.setCells b o vs) b n := by
  intro k hk
  obtain ⟨h1, h2⟩ := h k hk
  refine ⟨?_, by rw [World.frozen?_setCells]; exact h2⟩
  by_cases hin : o ≤ k ∧ k < o + vs.length
  · have := World.cell?_setCells_in b vs o w (fun j hj => (h (o + j) (by omega)).1) (k - o) (by omega)
    rw [show o + (k - o) = k by omega] at this
    simp [this]
  · rw [World.cell?_setCells_out b vs o w _ (fun _ _ => by simp; omega)]
    exact h1
theorem Lies.apart {b k o : Nat} {m vs : List Value} (h : Lies w b k m) (hd : k + m.length ≤ o ∨ o + vs.length ≤ k) : Lies (w.setCells b o vs) b k m := by
  intro i v hi
  have hlt := (List.getElem?_eq_some_iff.1 hi).1
  rw [World.cell?_setCells_out b vs o w _ (fun _ _ => by simp; omega)]
  exact h i v hi
theorem Lies.set {b k i n : Nat} {m vs : List Value} (h : Lies w b k m) (hf : Free w b n) (hn : k + m.length ≤ n) (hi : i + vs.length ≤ m.length) : Lies (w.setCells b (k + i) vs) b k (m.take i ++ (vs ++ m.drop (i + vs.length))) := by
  intro j v hj
  rw [List.getElem?_append, List.getElem?_append] at hj
  simp only [List.length_take] at hj
  have hmin : min i m.length = i := by omega
  rw [hmin] at hj
  split at hj
  · rename_i hlt
    rw [World.cell?_setCells_out b vs (k + i) w _ (fun _ _ => by simp; omega)]
    refine h j v ?_
    rw [List.getElem?_take, if_pos hlt] at hj
    exact hj
  · rename_i hge
    split at hj
    · rename_i hlt
      have := World.cell?_setCells_in b vs (k + i) w (fun q hq => (hf (k + i + q) (by omega)).1) (j - i) hlt
      rw [show k + i + (j - i) = k + j by omega] at this
      rw [this]
      rw [List.getElem?_eq_getElem hlt] at hj
      exact hj
    · rename_i hge2
      rw [World.cell?_setCells_out b vs (k + i) w _ (fun _ _ => by simp; omega)]
      refine h j v ?_
      rw [List.getElem?_drop] at hj
      rwa [show i + vs.length + (j - i - vs.length) = j by omega] at hj
end

/-! ### What an effect comes to -/
section
variable {P : Program} {B : Base} {ρ : Inj} {w : World} {val : Operand → Value} {R : Type}

theorem undef_VR : VR ρ (.tup []) undef := by
  have : undef = .tuple #[] := rfl
  rw [this]
  exact .tup .nil

/-- What a state has changed. -/
def Keeps (s s' : St) : Prop := s'.tm = s.tm ∧ ∃ d, s'.dt = d ++ s.dt ∧ ∀ i, i < s.hp.length → i ∉ d → getB s'.hp i = getB s.hp i
/-- A state behind an operation. -/
structure Aft (B : Base) (ρ : Inj) (s : St) (w : World) (k : AVal → St → Option R) (r : R) (v' : Value) (w' : World) : Prop where
  ex : ∃ v s' ρ', k v s' = some r ∧ VR ρ' v v' ∧ Sim B ρ' s'.hp w' ∧ Frm ρ s.hp w ρ' s'.hp w' ∧ Keeps s s'

def EGoal (P : Program) (B : Base) (ρ : Inj) (s : St) (w : World) (val : Operand → Value) (o : Oper) (k : AVal → St → Option R) (r : R) : Prop :=
  ∀ (a : Act) (next : Act → World → Prop) (Q : Exit → Act → World → Prop), a.eval = val →
    (∀ v' w', Aft B ρ s w k r v' w' → next (a.put o.dst v') w') → o.wp P a w next Q

theorem EGoal.value {s : St} {o : Oper} {k : AVal → St → Option R} {r : R} {v' : Value} {w' : World} (hrun : (execOp val o).run P w = .ok (.value v') w') (h : Aft B ρ s w k r v' w') : EGoal P B ρ s w val o k r := by
  intro a next Q he hn
  unfold Oper.wp
  rw [he, hrun]
  exact hn v' w' h
theorem EGoal.skip {s : St} {o : Oper} {k : AVal → St → Option R} {r : R} {w' : World} (hrun : (execOp val o).run P w = .ok .skip w') (h : Aft B ρ s w k r undef w') : EGoal P B ρ s w val o k r := by
  intro a next Q he hn
  unfold Oper.wp
  rw [he, hrun]
  exact hn undef w' h

/-- A block that is written in its place. -/
theorem Sim.write {h : Heap} (S : Sim B ρ h w) {id : Nat} {b0 b : Blk} {L : Loc} (hb : h[id]? = some b0) (hrw : b0.rw = true) (hL : ρ.loc id = some L) {w' : World} (hs : w'.heap.size = w.heap.size)
    (ho : ∀ j, j ≠ L.blk → w'.heap[j]? = w.heap[j]?) (hbr : BR ρ w' id b) (ht : w'.tape = w.tape) (hos : w'.os = w.os) (hout : w'.output = w.output) :
    Sim B ρ (setB h id b) w' ∧ Frm ρ h w ρ (setB h id b) w' := by
  have T : Stp B ρ h w ρ (setB h id b) w' id (fun x => x = L.blk) := by
    refine ⟨.refl ρ, by rw [setB_length]; exact S.n, by rw [setB_length]; exact Nat.le_refl _, by omega, fun j _ hj => ho j hj, fun j hj => ⟨id, b0, L, hb, hrw, hL, hj.symm⟩, ?_, ?_, fun _ _ _ h => .inl h⟩
    · intro i bi hi hl hne
      rw [setB_get, if_neg hne] at hi
      refine ⟨hi, rfl, fun L' hL' e => ?_⟩
      exact S.sep id i b0 bi L L' hb hi (Ne.symm hne) (Blk.live_of_rw hrw) hl hrw hL hL' e.symm
    · intro bi hi hl
      rw [setB_get, if_pos rfl, hb] at hi
      simp at hi
      subst hi
      exact ⟨hbr, fun L' hL' => by rw [hL] at hL'; cases hL'; exact .inl rfl⟩
  exact ⟨T.sim S, T.frm S (fun _ _ => rfl) ht hos hout⟩

/-! ### Stores -/
theorem store_run {o : Oper} {t : TypeId} {x v : Operand} (ho : o.op = .store t x v) {n : Nat} (hz : sz? P t = some n) {b off : Nat} (hx : val x = .pointer (some ⟨b, off, none⟩)) {vs : List Value} (hv : (val v).cells.toList = vs) (hn : vs.length = n)
    (h1 : ∀ u ∈ vs, u.oneCell' = true) {m : Nat} (hf : Free w b m) (hm : off + n ≤ m) : (execOp val o).run P w = .ok .skip (w.setCells b off vs) := by
  have hst := run_storeCells_cells (P := P) b off vs 0 w (fun j hj => (hf _ (by omega)).1) (fun j hj => (hf _ (by omega)).2) h1
  have hsz : (val v).cells.size = n := by rw [← hn, ← hv]; simp
  simp only [Nat.add_zero] at hst
  simp only [execOp, ho, Sem.run_bind, Instr.storeAt, hx, Instr.sureAddr, Sem.run_pure, Result.andThen_ok, storeVar, run_sizeOf' (P := P) (w := w) hz, hsz, ne_eq, not_true_eq_false, if_false, hv, hst]

theorem store_sound (s : St) (S : Sim B ρ s.hp w) {o : Oper} {t : TypeId} {x v : Operand} (ho : o.op = .store t x v) {n : Nat} (hz : sz? P t = some n) {p : APtr} {ad : Addr} (hx : val x = .pointer (some ad)) (ha : ρ.addr p = some ad)
    {vs : List AVal} (hv : CR ρ vs (val v).cells.toList) (hn : widths vs = n) {k : AVal → St → Option R} {r : R} (he : store s p vs k = some r) : EGoal P B ρ s w val o k r := by
  unfold Inj.addr at ha
  obtain ⟨L, hL, rfl⟩ := Option.map_eq_some_iff.1 ha
  have hlen := hv.width
  rw [hn] at hlen
  unfold store at he
  split at he <;> try contradiction
  · rename_i c hb
    split at he <;> try contradiction
    rename_i c' hp
    obtain ⟨l', g1, g2, g3, g4, g5, g6⟩ := S.blk _ _ (getB_some hb rfl) L hL
    obtain ⟨q1, q2⟩ := putW_CR g2 hv hp
    have hrun := store_run (w := w) ho hz hx rfl hlen hv.scalars (m := L.size) g5 (by rw [g1]; omega)
    rw [g1] at hrun
    simp only [Nat.zero_add] at hrun
    have hW := Sim.write S (getB_some hb rfl) rfl hL (w' := w.setCells L.blk (p.row * p.rs + p.off) (val v).cells.toList) (setCells_size _ _ _ _) (fun j hj => setCells_other _ _ _ _ j hj) (b := .cells c') (fun L' hL' => by
        rw [hL] at hL'; cases hL'
        refine ⟨_, g1, q2, ?_, ?_, g5.set (by omega), by rw [setCells_size]; exact g6⟩
        · have := Lies.set (k := 0) (i := p.row * p.rs + p.off) (vs := (val v).cells.toList) g3 g5 (by omega) q1
          simpa using this
        · simp only [List.length_append, List.length_take, List.length_drop]; omega) (setCells_rest _ _ _ _).1 (setCells_rest _ _ _ _).2.1 (setCells_rest _ _ _ _).2.2
    exact EGoal.skip hrun ⟨⟨_, _, ρ, he, undef_VR, hW.1, hW.2, rfl, [p.id], rfl, fun i hi hni => getB_setB_ne (by simpa using hni)⟩⟩
  · rename_i t' l hb
    split at he <;> try contradiction
    rename_i hrs
    split at he <;> try contradiction
    rename_i y hy
    obtain ⟨rr, hp, hdec⟩ := Option.bind_eq_some_iff.1 hy
    have hlt : p.row < l.length := by
      cases hd : decide (p.row < l.length) with
      | true => simpa using hd
      | false => rw [hd] at he; cases he
    rw [decide_eq_true hlt] at he
    simp only [cond_true] at he
    obtain ⟨g0, g1⟩ := S.blk _ _ (getB_some hb rfl)
    obtain ⟨g2, g3, g4⟩ := g1 L hL
    obtain ⟨g4, g5⟩ := g4 rfl
    obtain ⟨l', c1, c2⟩ := g2 p.row l[p.row] (by simp [hlt])
    have hg : l.getD p.row t'.dft = l[p.row] := by simp [hlt]
    rw [hg] at hp
    obtain ⟨q1, q2⟩ := putW_CR c1 hv hp
    have hw' : l'.length = t'.sz := by rw [c1.width, t'.widths_enc]
    have hmul : p.row * t'.sz + t'.sz ≤ l.length * t'.sz := by
      have : (p.row + 1) * t'.sz ≤ l.length * t'.sz := Nat.mul_le_mul_right _ hlt
      rw [Nat.add_mul] at this; omega
    have hrun := store_run (w := w) ho hz hx rfl hlen hv.scalars (m := L.size) g5 (by rw [hrs]; omega)
    have hW := Sim.write S (getB_some hb rfl) rfl hL (w' := w.setCells L.blk (L.base + (p.row * p.rs + p.off)) (val v).cells.toList) (setCells_size _ _ _ _) (fun j hj => setCells_other _ _ _ _ j hj) (b := .rows false t' (l.set p.row y)) ⟨by simpa using g0, fun L' hL' => by
        rw [hL] at hL'; cases hL'
        refine ⟨fun i z hz' => ?_, by rw [setCells_size]; exact g3, fun _ => ⟨by simpa using g4, g5.set (by rw [hrs]; omega)⟩⟩
        by_cases hi : i = p.row
        · subst hi
          have : z = y := by simpa [hlt] using hz'.symm
          subst this
          refine ⟨_, by rw [t'.enc_dec _ _ hdec]; exact q2, ?_⟩
          have := Lies.set (k := L.base + p.row * t'.sz) (i := p.off) (vs := (val v).cells.toList) c2 g5 (by omega) q1
          rw [Nat.add_assoc, ← hrs] at this
          rw [← hrs]
          exact this
        · rw [List.getElem?_set_ne (Ne.symm hi)] at hz'
          obtain ⟨m, d1, d2⟩ := g2 i z hz'
          have hm : m.length = t'.sz := by rw [d1.width, t'.widths_enc]
          refine ⟨m, d1, d2.apart ?_⟩
          rw [hm, hrs]
          rcases Nat.lt_or_gt_of_ne hi with hlt' | hgt'
          · left
            have : (i + 1) * t'.sz ≤ p.row * t'.sz := Nat.mul_le_mul_right _ hlt'
            rw [Nat.add_mul] at this; omega
          · right
            have : (p.row + 1) * t'.sz ≤ i * t'.sz := Nat.mul_le_mul_right _ hgt'
            rw [Nat.add_mul] at this; omega⟩ (setCells_rest _ _ _ _).1 (setCells_rest _ _ _ _).2.1 (setCells_rest _ _ _ _).2.2
    exact EGoal.skip hrun ⟨⟨_, _, ρ, he, undef_VR, hW.1, hW.2, rfl, [p.id], rfl, fun i hi hni => getB_setB_ne (by simpa using hni)⟩⟩
end
end Go.Sx

/- What is appended or copied: where it lies. -/
set_option linter.unusedSimpArgs false
set_option linter.unusedVariables false
namespace Go.Sx
section
variable {P : Program} {B : Base} {ρ : Inj} {h : Heap} {w : World} {val : Operand → Value}

def SrcT (P : Program) (tx : TypeId) : Prop := (∃ e', P.underlying tx = some (.slice e')) ∨ P.underlying tx = some .string

theorem src_mk {t : RT} {tx : TypeId} (hk : SrcT P tx) {m : Nat} {news : List Value} {cs : List AVal} {ad : Option Addr} {c : Nat} (hc : CR ρ cs news) (hw : widths cs = m * t.sz)
    (hm : news ≠ [] → ∃ a, ad = some a ∧ ∀ j u, news[j]? = some u → w.cell? (a.add j) = some u) : Src P t.sz tx (.slice ad m c) m news w := by
  have hl : news.length = m * t.sz := by rw [hc.width, hw]
  cases ad with
  | none =>
    have hn : news = [] := by
      cases news with
      | nil => rfl
      | cons a l => obtain ⟨a, h, _⟩ := hm (by simp); cases h
    subst hn
    exact ⟨hk, fun _ => rfl, run_firstCells_none w _ _ _ _, run_firstCells_none w.drew _ _ _ _, hl, by simp⟩
  | some a =>
    have hcell : ∀ j u, news[j]? = some u → w.cell? (a.add j) = some u := by
      cases news with
      | nil => intro j u h; simp at h
      | cons x l => obtain ⟨a', h, h'⟩ := hm (by simp); cases h; exact h'
    exact ⟨hk, fun _ => rfl, run_firstCells_some w _ _ a _ _ news hl hcell, run_firstCells_some w.drew _ _ a _ _ news hl (by simpa using hcell), hl, hc.scalars⟩

theorem enc_int_mk {k : IntKind} : ∀ {l : List Int}, (∀ x ∈ l, k.has x) → CR ρ (encs (.int k) l) (l.map fun x => Value.int k x)
  | [], _ => .nil
  | x :: l, hl => by
    have ih := enc_int_mk (l := l) (fun y hy => hl y (List.mem_cons_of_mem _ hy))
    simp only [encs, List.flatMap_cons, RT.enc, encInt, List.singleton_append, List.map_cons]
    exact .one (.int (hl x (by simp))) rfl rfl ih

/-- The first of a wide cell's numbers lie there. -/
theorem wideAt_sound {c : List AVal} {l' : List Value} (hc : CR ρ c l') {o : Nat} {k : IntKind} {n : SLen} {xs : List Int} (hw : wideAt c o k n = some (true, xs)) :
    ∃ j, n = .n (j + 1) ∧ xs.length = j + 1 ∧ (∀ x ∈ xs, k.has x) ∧ ∀ i u, (xs.map fun x => Value.int k x)[i]? = some u → l'[o + i]? = some u := by
  unfold wideAt at hw
  split at hw <;> try contradiction
  rename_i k' m ys rest j hd
  split at hw <;> try contradiction
  rename_i hk
  subst hk
  obtain ⟨h1, h2⟩ := dropW_CR hc hd
  have h2' : ∃ l2, l'.drop o = ys.map (fun x => Value.int k' x) ++ l2 ∧ ys.length = m ∧ ∀ x ∈ ys, k'.has x := by
    generalize l'.drop o = dr at h2
    cases h2 with
    | one hv hs hw1 t => cases hv; simp [Value.oneCell'] at hs
    | wide hn hk t => exact ⟨_, rfl, hn, hk⟩
  obtain ⟨l2, hdr, hn, hk⟩ := h2'
  simp only [Option.some.injEq, Prod.mk.injEq, decide_eq_true_eq] at hw
  obtain ⟨hj, rfl⟩ := hw
  have hx : (if j + 1 = m then ys else ys.take (j + 1)) = ys.take (j + 1) := by
    split
    · rw [List.take_of_length_le (by omega)]
    · rfl
  rw [hx]
  refine ⟨j, rfl, by simp; omega, fun x hx => hk x (List.mem_of_mem_take hx), fun i u hi => ?_⟩
  have : (l'.drop o)[i]? = some u := by
    rw [hdr]
    rw [List.map_take, List.getElem?_take] at hi
    split at hi
    · rename_i hlt
      rw [List.getElem?_append_left (by simp; omega)]; exact hi
    · contradiction
  rw [List.getElem?_drop] at this
  exact this

theorem wideAt_pos {c : List AVal} {o : Nat} {k : IntKind} {n : SLen} {r : Bool × List Int} (hw : wideAt c o k n = some r) : ∃ j, n = .n (j + 1) := by
  unfold wideAt at hw
  split at hw <;> try contradiction
  exact ⟨_, rfl⟩

theorem srcRows_at (S : Sim B ρ h w) {t : RT} {p : APtr} {n : SLen} {cp : Cap} {v' : Value} (hV : SlV ρ p n cp v') {xs : List t.T} (hs : srcRows h t (.slice (some p) n cp) = some (true, xs)) :
    ∃ news, CR ρ (encs t xs) news ∧ xs.length = ρ.len p n ∧ ∀ L, ρ.loc p.id = some L → Lies w L.blk (L.base + (p.row * p.rs + p.off)) news := by
  unfold srcRows at hs
  simp only at hs
  split at hs <;> try contradiction
  · rename_i ro t' l hb
    split at hs
    · rename_i e
      subst e
      split at hs <;> try contradiction
      rename_i hro
      obtain ⟨hrs, hoff⟩ := hro
      have hrow := S.blk _ _ (getB_some hb rfl)
      have key : ∀ (hxs : xs = (l.drop p.row).take (ρ.len p n)) (hle : p.row + ρ.len p n ≤ l.length),
          ∃ news, CR ρ (encs t' xs) news ∧ xs.length = ρ.len p n ∧ ∀ L, ρ.loc p.id = some L → Lies w L.blk (L.base + (p.row * p.rs + p.off)) news := by
        intro hxs hle
        have hlen : xs.length = ρ.len p n := by rw [hxs]; simp; omega
        cases hL : ρ.loc p.id with
        | none =>
          cases hV with
          | nought a hp hn hc' =>
            rw [hn] at hlen
            have hx : xs = [] := List.eq_nil_of_length_eq_zero hlen
            rw [hx, hn]
            exact ⟨[], .nil, rfl, fun L hL' => by cases hL'⟩
          | there hL' hn hc' hr => rw [hL] at hL'; cases hL'
        | some L =>
          obtain ⟨news, g1, g2⟩ := rows_part S hb hL p.row (ρ.len p n)
          rw [← hxs] at g1
          refine ⟨news, g1, hlen, fun L' hL' => ?_⟩
          cases hL'
          rw [hrs, hoff]
          exact g2
      have hrows := hrow.1
      cases hn : n with
      | n k =>
        rw [← hn]
        cases hr : p.row with
        | zero =>
          simp only [hn, hr, Option.some.injEq, Prod.mk.injEq, decide_eq_true_eq] at hs
          obtain ⟨h1, h2⟩ := hs
          rw [← hr]
          exact key (by simp [hn, hr, Inj.len, ← h2]) (by simp [hn, hr, Inj.len]; exact h1)
        | succ r =>
          simp only [hn, hr, Option.some.injEq, Prod.mk.injEq, decide_eq_true_eq] at hs
          obtain ⟨h1, h2⟩ := hs
          rw [← hr]
          exact key (by simp [hn, hr, Inj.len, ← h2]) (by simp [hn, hr, Inj.len]; exact h1)
      | all =>
        rw [← hn]
        have hlen : ρ.len p n = l.length - p.row := by simp [hn, Inj.len, hrows]
        cases hr : p.row with
        | zero =>
          simp only [hn, hr, Option.some.injEq, Prod.mk.injEq, true_and] at hs
          rw [← hr]
          exact key (by rw [hlen, hr, ← hs]; simp) (by rw [hlen]; omega)
        | succ r =>
          simp only [hn, hr, Option.some.injEq, Prod.mk.injEq, decide_eq_true_eq] at hs
          obtain ⟨h1, h2⟩ := hs
          rw [← hr]
          exact key (by rw [hlen, hr, ← h2, List.take_of_length_le (by simp)]) (by rw [hlen]; omega)
    · split at hs <;> try contradiction
      split at hs <;> try contradiction
      rename_i k hne hrs
      obtain ⟨⟨b, ys⟩, hw, he⟩ := Option.map_eq_some_iff.1 hs
      simp only [Prod.mk.injEq, Bool.and_eq_true, decide_eq_true_eq] at he
      obtain ⟨⟨hlt, rfl⟩, rfl⟩ := he
      obtain ⟨h1, h2⟩ := S.blk _ _ (getB_some hb rfl)
      have hg : l.getD p.row t'.dft = l[p.row] := by simp [hlt]
      rw [hg] at hw
      cases hL : ρ.loc p.id with
      | none =>
        cases hV with
        | nought a hp hn hc' =>
          obtain ⟨j, rfl⟩ := wideAt_pos hw
          cases hn
        | there hL' hn hc' hr => rw [hL] at hL'; cases hL'
      | some L =>
        obtain ⟨h3, _⟩ := h2 L hL
        obtain ⟨l', g1, g2⟩ := h3 p.row l[p.row] (by simp [hlt])
        obtain ⟨j, e1, e2, e3, e4⟩ := wideAt_sound g1 hw
        refine ⟨_, enc_int_mk e3, by rw [e1]; exact e2, fun L' hL' i u hi => ?_⟩
        cases hL'
        have := g2 _ _ (e4 i u hi)
        rw [hrs]
        rwa [← Nat.add_assoc, Nat.add_assoc L.base] at this
  · rename_i c hb
    split at hs <;> try contradiction
    rename_i k
    cases hL : ρ.loc p.id with
    | none =>
      cases hV with
      | nought a hp hn hc' =>
        obtain ⟨j, rfl⟩ := wideAt_pos hs
        cases hn
      | there hL' hn hc' hr => rw [hL] at hL'; cases hL'
    | some L =>
      obtain ⟨l', g0, g1, g2, _⟩ := S.blk _ _ (getB_some hb rfl) L hL
      obtain ⟨j, e1, e2, e3, e4⟩ := wideAt_sound g1 hs
      refine ⟨_, enc_int_mk e3, by rw [e1]; exact e2, fun L' hL' i u hi => ?_⟩
      cases hL'
      have := g2 _ _ (e4 i u hi)
      rw [g0, Nat.zero_add]
      rwa [Nat.zero_add] at this

theorem srcRows_slice (S : Sim B ρ h w) {t : RT} {p : APtr} {n : SLen} {cp : Cap} {v' : Value} (hv : VR ρ (.slice (some p) n cp) v') {xs : List t.T} (hs : srcRows h t (.slice (some p) n cp) = some (true, xs)) {tx : TypeId} (hk : SrcT P tx) :
    ∃ news, CR ρ (encs t xs) news ∧ Src P t.sz tx v' xs.length news w ∧ xs.length = ρ.len p n ∧ ∀ L, ρ.loc p.id = some L → Lies w L.blk (L.base + (p.row * p.rs + p.off)) news := by
  obtain ⟨news, g1, g2, g3⟩ := srcRows_at S hv.slV hs
  refine ⟨news, g1, ?_, g2, g3⟩
  have hV := hv.slV
  cases hV with
  | nought a hp hn hc' =>
    rw [hn] at g2
    have hx : xs = [] := List.eq_nil_of_length_eq_zero g2
    subst hx
    have hn' : news = [] := by cases g1; rfl
    subst hn'
    exact src_mk (ρ := ρ) (cs := []) hk .nil (by simp [widths]) (by simp)
  | there hL hn hc' hr =>
    rw [← g2]
    refine src_mk (cs := encs t xs) hk g1 (by rw [encs_width]) (fun _ => ⟨_, rfl, fun j u hj => ?_⟩)
    rw [addr_add]
    exact g3 _ hL j u hj

theorem srcRows_sound (S : Sim B ρ h w) {t : RT} {x : AVal} {v' : Value} (hv : VR ρ x v') {xs : List t.T} (hs : srcRows h t x = some (true, xs)) {tx : TypeId} (hk : SrcT P tx) :
    ∃ news, CR ρ (encs t xs) news ∧ Src P t.sz tx v' xs.length news w := by
  cases hx : x with
  | slice p0 n cp =>
    cases p0 with
    | some p =>
      rw [hx] at hs hv
      obtain ⟨news, g1, g2, _, _⟩ := srcRows_slice S hv hs hk
      exact ⟨news, g1, g2⟩
    | none =>
      rw [hx] at hs hv
      unfold srcRows at hs
      split at hs <;> try contradiction
      simp only [Option.some.injEq, Prod.mk.injEq, true_and] at hs
      subst hs
      cases hv
      exact ⟨[], .nil, src_mk (ρ := ρ) (cs := []) hk .nil (by simp [widths]) (by simp)⟩
      all_goals (rename_i e; first | (cases e; done) | contradiction)
  | fby l =>
    rw [hx] at hs hv
    unfold srcRows at hs
    simp only at hs
    split at hs <;> try contradiction
    simp only [Option.some.injEq, Prod.mk.injEq, true_and] at hs
    subst hs
    cases hv with
    | fby0 a c => exact ⟨[], .nil, src_mk (ρ := ρ) (t := .int .u8) (cs := []) hk .nil (by simp [widths]) (by simp)⟩
    | fby hi h1 h2 h3 =>
      rename_i b o l0 i c
      obtain ⟨g1, g2, g3, _⟩ := S.imm _ _ _ hi
      have hmem : ∀ x ∈ l, IntKind.u8.has x := by
        intro x hx
        rw [h1] at hx
        exact g2 x (List.mem_of_mem_drop (List.mem_of_mem_take hx))
      refine ⟨_, enc_int_mk hmem, src_mk (ρ := ρ) (t := .int .u8) (cs := encs (.int .u8) l) hk (enc_int_mk hmem) (by rw [encs_width]) (fun _ => ⟨_, rfl, fun j u hj => ?_⟩)⟩
      rw [addr_add, Nat.add_assoc]
      refine g3 (i + j) u ?_
      rw [List.getElem?_map] at hj ⊢
      rw [h1, List.getElem?_take] at hj
      split at hj
      · rwa [List.getElem?_drop] at hj
      · simp at hj
  | str l =>
    rw [hx] at hs hv
    unfold srcRows at hs
    simp only at hs
    split at hs <;> try contradiction
    simp only [Option.some.injEq, Prod.mk.injEq, true_and] at hs
    subst hs
    obtain ⟨s, rfl, hs'⟩ := hv.str_inv
    have hb : byteCells s = l.map fun x => Value.int .u8 x := by
      rw [← hs']; simp [byteCells, bytesI]
    have hlen : s.size = l.length := by rw [← hs']; unfold bytesI; rw [List.length_map, Array.length_toList]; rfl
    have hmem : ∀ x ∈ l, IntKind.u8.has x := by
      intro x hx
      rw [← hs'] at hx
      obtain ⟨b, _, rfl⟩ := List.mem_map.1 hx
      have := b.toNat_lt
      constructor <;> simp [IntKind.min, IntKind.max, IntKind.signed, IntKind.bits]; omega
    refine ⟨byteCells s, by rw [hb]; exact enc_int_mk hmem, ?_⟩
    rw [← hlen]
    exact ⟨hk, fun _ => rfl, firstCells_string s w, firstCells_string s w.drew, by rw [byteCells_length]; exact (Nat.mul_one _).symm, fun u hu => by
      obtain ⟨_, _, rfl⟩ := List.mem_map.1 hu
      rfl⟩
  | _ => rw [hx] at hs; simp [srcRows] at hs

end
end Go.Sx

/- Appending. -/
set_option linter.unusedSimpArgs false
set_option linter.unusedVariables false
namespace Go.Sx
section
variable {P : Program} {B : Base} {ρ : Inj} {h : Heap} {w : World} {val : Operand → Value} {R : Type}

/-- Bytes in blocks that nobody may see any more. -/
def Frz (ρ : Inj) (w : World) (ds : List Nat) (b o : Nat) (l : List Int) : Prop :=
  (∃ d ∈ ds, ∃ L, ρ.loc d = some L ∧ L.blk = b) ∧ b < w.heap.size ∧ (∀ x ∈ l, IntKind.u8.has x) ∧ Lies w b o (l.map fun x => Value.int .u8 x)
def Inj.frz (ρ : Inj) (w : World) (ds : List Nat) : Inj := { ρ with imm := fun b o l => ρ.imm b o l ∨ Frz ρ w ds b o l }
theorem Inj.frz_ext (ρ : Inj) (w : World) (ds : List Nat) : ρ.ext (ρ.frz w ds) := ⟨Nat.le_refl _, fun _ _ h => h, fun _ _ => rfl, fun _ _ _ h => .inl h⟩
theorem Inj.frz_mono (ρ : Inj) (w : World) {ds ds' : List Nat} (hs : ∀ d ∈ ds, d ∈ ds') : (ρ.frz w ds).ext (ρ.frz w ds') :=
  ⟨Nat.le_refl _, fun _ _ h => h, fun _ _ => rfl, fun b o l h => h.imp id fun ⟨⟨d, h1, h2⟩, h3⟩ => ⟨⟨d, hs d h1, h2⟩, h3⟩⟩

/-- Blocks that are used up. -/
def Used (h : Heap) (ds : List Nat) : Prop := ∀ d ∈ ds, ∃ b, h[d]? = some b ∧ b.rw = true

theorem freeze_sound (S : Sim B ρ h w) : ∀ {l m : List AVal} {ds : List Nat} {l' : List Value}, CR ρ l l' → freeze h l = some (true, (m, ds)) → CR (ρ.frz w ds) m l' ∧ Used h ds := by
  intro l
  induction l with
  | nil =>
    intro m ds l' hc hf
    simp only [freeze, Option.some.injEq, Prod.mk.injEq, true_and] at hf
    obtain ⟨rfl, rfl⟩ := hf
    cases hc
    exact ⟨.nil, fun d hd => by cases hd⟩
  | cons v l ih =>
    intro m ds l' hc hf
    simp only [freeze] at hf
    split at hf <;> try contradiction
    rename_i c l2 d2 hf2
    have keep : ∀ (hk : some (c, (v :: l2, d2)) = some (true, (m, ds))), CR (ρ.frz w ds) m l' ∧ Used h ds := by
      intro hk
      simp only [Option.some.injEq, Prod.mk.injEq] at hk
      obtain ⟨rfl, rfl, rfl⟩ := hk
      cases hc with
      | one hv hs hw t =>
        obtain ⟨g1, g2⟩ := ih t hf2
        exact ⟨.one (hv.mono (ρ.frz_ext w _)) hs hw g1, g2⟩
      | wide hn hk t =>
        obtain ⟨g1, g2⟩ := ih t hf2
        exact ⟨.wide hn hk g1, g2⟩
    split at hf
    · rename_i cp
      simp only [Option.some.injEq, Prod.mk.injEq] at hf
      obtain ⟨rfl, rfl, rfl⟩ := hf
      cases hc with
      | one hv hs hw t =>
        obtain ⟨g1, g2⟩ := ih t hf2
        cases hv
        exact ⟨.one (.fby0 _ _) rfl rfl g1, g2⟩
    · rename_i p n cp
      split at hf <;> try contradiction
      rename_i c' xs t' l0 hsrc hb
      simp only [Option.some.injEq, Prod.mk.injEq, Bool.and_eq_true] at hf
      obtain ⟨⟨rfl, rfl⟩, rfl, rfl⟩ := hf
      cases hc with
      | one hv hs hw t =>
        rename_i v' l3
        obtain ⟨g1, g2⟩ := ih t hf2
        have hu : Used h (p.id :: d2) := by
          intro d hd
          rcases List.mem_cons.1 hd with rfl | hd
          · exact ⟨_, getB_some hb rfl, rfl⟩
          · exact g2 d hd
        refine ⟨.one ?_ hs rfl (g1.mono (ρ.frz_mono w (fun d hd => by simp [hd]))), hu⟩
        obtain ⟨news, n1, hlen, n2⟩ := srcRows_at S hv.slV hsrc
        obtain ⟨e1, e2⟩ := enc_int_CR n1
        have hV := hv.slV
        cases hV with
        | nought a hp hn hc' =>
          have : xs = [] := List.eq_nil_of_length_eq_zero (by rw [hlen, hn])
          subst this
          exact .fby0 _ _
        | there hL hn hc' hr =>
          rename_i L c2
          rw [← hlen]
          have hlies := n2 L hL
          refine .fby (o := L.base + (p.row * p.rs + p.off)) (i := 0) (l := xs) (.inr ⟨⟨p.id, by simp, L, hL, rfl⟩, (S.blk _ _ (getB_some hb rfl)).blk_lt rfl hL, e2, ?_⟩) (by simp) (by simp) (by rw [hlen]; exact hn)
          rw [← e1]; exact hlies
    · exact keep hf

theorem Used.append {h : Heap} {a b : List Nat} (ha : Used h a) (hb : Used h b) : Used h (a ++ b) := fun d hd => (List.mem_append.1 hd).elim (ha d) (hb d)
theorem rowsOf_sound (S : Sim B ρ h w) {t : RT} : ∀ {n : Nat} {l : List AVal} {xs : List t.T} {ds : List Nat} {l' : List Value}, CR ρ l l' → rowsOf h t n l = some (true, (xs, ds)) →
    CR (ρ.frz w ds) (encs t xs) (l'.take (n * t.sz)) ∧ Used h ds ∧ xs.length = n ∧ n * t.sz ≤ l'.length
  | 0, l, xs, ds, l', hc, hr => by
    simp only [rowsOf, Option.some.injEq, Prod.mk.injEq, true_and] at hr
    obtain ⟨rfl, rfl⟩ := hr
    simp only [Nat.zero_mul, List.take_zero]
    exact ⟨.nil, (fun d hd => by cases hd), rfl, Nat.zero_le _⟩
  | n + 1, l, xs, ds, l', hc, hr => by
    simp only [rowsOf] at hr
    split at hr <;> try contradiction
    rename_i a b ha hb
    split at hr <;> try contradiction
    rename_i c a' d c' xs' d' hf hro
    obtain ⟨x, hx, he⟩ := Option.map_eq_some_iff.1 hr
    simp only [Prod.mk.injEq, Bool.and_eq_true] at he
    obtain ⟨⟨rfl, rfl⟩, rfl, rfl⟩ := he
    obtain ⟨t1, t2⟩ := takeW_CR hc ha
    obtain ⟨t3, t4⟩ := dropW_CR hc hb
    obtain ⟨g1, g2⟩ := freeze_sound S t2 hf
    obtain ⟨r1, r2, r3, r4⟩ := rowsOf_sound S t4 hro
    rw [← t.enc_dec _ _ hx] at g1
    have e : (n + 1) * t.sz = t.sz + n * t.sz := by rw [Nat.add_mul]; omega
    refine ⟨?_, g2.append r2, by simp [r3], ?_⟩
    · rw [e, List.take_add]
      have : encs t (x :: xs') = t.enc x ++ encs t xs' := by simp [encs]
      rw [this]
      exact (g1.mono (ρ.frz_mono w (fun d hd => by simp [hd]))).append (r1.mono (ρ.frz_mono w (fun d hd => by simp [hd])))
    · rw [e]; simp at r4; omega

theorem appRows_sound (S : Sim B ρ h w) {t : RT} {x : AVal} {v' : Value} (hv : VR ρ x v') {xs : List t.T} {used : List Nat} (hs : appRows h t x = some (true, (xs, used))) {tx : TypeId} (hk : SrcT P tx) :
    ∃ news, CR (ρ.frz w used) (encs t xs) news ∧ Src P t.sz tx v' xs.length news w ∧ Used h used := by
  have plain : ∀ (hs : (srcRows h t x).map (fun r => (r.1, (r.2, ([] : List Nat)))) = some (true, (xs, used))), ∃ news, CR (ρ.frz w used) (encs t xs) news ∧ Src P t.sz tx v' xs.length news w ∧ Used h used := by
    intro hs
    obtain ⟨⟨c, ys⟩, h1, h2⟩ := Option.map_eq_some_iff.1 hs
    simp only [Prod.mk.injEq] at h2
    obtain ⟨rfl, rfl, rfl⟩ := h2
    obtain ⟨news, g1, g2⟩ := srcRows_sound S hv h1 hk
    exact ⟨news, g1.mono (ρ.frz_ext w _), g2, fun d hd => by cases hd⟩
  unfold appRows at hs
  split at hs
  · rename_i p n c
    split at hs
    · rename_i l hb
      have rws : ∀ (t : RT) (xs : List t.T) (hs : (match p.row, p.off with | 0, 0 => rowsOf h t n l | _, _ => none) = some (true, (xs, used))),
          ∃ news, CR (ρ.frz w used) (encs t xs) news ∧ Src P t.sz tx v' xs.length news w ∧ Used h used := by
        intro t xs hs
        split at hs <;> try contradiction
        rename_i hrow hoff
        have hV := hv.slV
        cases hV with
        | nought a hp hn hc' =>
          simp only [Inj.len] at hn
          subst hn
          simp only [rowsOf, Option.some.injEq, Prod.mk.injEq, true_and] at hs
          obtain ⟨rfl, rfl⟩ := hs
          exact ⟨[], .nil, src_mk (ρ := ρ) (cs := []) hk .nil (by simp [widths]) (by simp), fun d hd => by cases hd⟩
        | there hL hn hc' hr =>
          rename_i L c2
          obtain ⟨l', g0, g1, g2, _⟩ := S.blk _ _ (getB_some hb rfl) L hL
          obtain ⟨r1, r2, r3, r4⟩ := rowsOf_sound S g1 hs
          refine ⟨_, r1, ?_, r2⟩
          have hlen : ρ.len p (.n n) = xs.length := by simp [Inj.len, r3]
          rw [hlen]
          refine src_mk hk r1 (by rw [encs_width]) (fun _ => ⟨_, rfl, fun j u hj => ?_⟩)
          rw [addr_add, g0, hrow, hoff]
          have := g2 j u (by rw [List.getElem?_take] at hj; split at hj; exact hj; contradiction)
          simpa using this
      split at hs
      · exact plain hs
      · exact rws _ _ hs
    · exact plain hs
  · exact plain hs

def Inj.grow (ρ : Inj) (w : World) (ds : List Nat) (c : Nat) (L : Option Loc) : Inj where
  n := ρ.n + 1
  loc := fun i => if i = ρ.n then L else ρ.loc i
  rows := fun i => if i = ρ.n then c else ρ.rows i
  imm := fun b o l => ρ.imm b o l ∨ Frz ρ w ds b o l
  dom := fun i hi => by rw [if_neg (by omega)]; exact ρ.dom i (by omega)
theorem Inj.grow_ext (ρ : Inj) (w : World) (ds : List Nat) (c : Nat) (L : Option Loc) : (ρ.frz w ds).ext (ρ.grow w ds c L) :=
  ⟨Nat.le_succ _, fun i L' h => by
    have : i < ρ.n := ρ.lt h
    simp only [Inj.grow]; rw [if_neg (by omega)]; exact h, fun i hi => by
    have : i < ρ.n := hi
    simp only [Inj.grow]; rw [if_neg (by omega)]; rfl, fun _ _ _ h => h⟩

theorem grow_stp (S : Sim B ρ h w) {used old : List Nat} (hu : Used h used) (hsub : ∀ d ∈ used, d ∈ old) {t : RT} {l : List t.T} {L : Option Loc} {w' : World} {X : Nat → Prop}
    (hsz : w.heap.size ≤ w'.heap.size) (hsame : ∀ b, b < w.heap.size → ¬ X b → w'.heap[b]? = w.heap[b]?)
    (hown : ∀ b, X b → ∃ i bi Li, i ∈ old ∧ i ∉ used ∧ h[i]? = some bi ∧ bi.rw = true ∧ ρ.loc i = some Li ∧ Li.blk = b)
    (hnew : ∀ L', L = some L' → X L'.blk ∨ w.heap.size ≤ L'.blk) (hbr : BR (ρ.grow w used l.length L) w' ρ.n (.rows false t l))
    (ht : w'.tape = w.tape) (ho : w'.os = w.os) (hout : w'.output = w.output) :
    Sim B (ρ.grow w used l.length L) (kill h old ++ [.rows false t l]) w' ∧ Frm ρ h w (ρ.grow w used l.length L) (kill h old ++ [.rows false t l]) w' := by
  have hn := S.n
  have hk : (kill h old).length = h.length := kill_length _ _
  have lt : ∀ {i : Nat} {bi : Blk}, (kill h old ++ [.rows false t l])[i]? = some bi → i ≠ h.length → i < h.length ∧ (kill h old)[i]? = some bi := by
    intro i bi hi hne
    by_cases e : i < h.length
    · rw [List.getElem?_append_left (by omega)] at hi; exact ⟨e, hi⟩
    · rw [List.getElem?_eq_none (by simp; omega)] at hi; cases hi
  have oldb : ∀ {i : Nat} {bi : Blk}, (kill h old ++ [.rows false t l])[i]? = some bi → bi.live = true → i ≠ h.length → i < h.length ∧ h[i]? = some bi ∧ i ∉ old := by
    intro i bi hi hl hne
    obtain ⟨h1, h2⟩ := lt hi hne
    rw [kill_get] at h2
    split at h2
    · cases hq : h[i]? with
      | none => rw [hq] at h2; cases h2
      | some q => rw [hq] at h2; cases h2; simp [Blk.live] at hl
    · rename_i hno
      exact ⟨h1, h2, hno⟩
  have T : Stp B ρ h w (ρ.grow w used l.length L) (kill h old ++ [.rows false t l]) w' h.length X := by
    refine ⟨(ρ.frz_ext w used).trans (ρ.grow_ext w used _ L), by simp [Inj.grow, hn, hk], by simp [hk], hsz, hsame, fun b hx => ?_, ?_, ?_, ?_⟩
    · obtain ⟨i, bi, Li, _, _, g1, g2, g3, g4⟩ := hown b hx
      exact ⟨i, bi, Li, g1, g2, g3, g4⟩
    · intro i bi hi hl hne
      obtain ⟨h1, h2, h3⟩ := oldb hi hl hne
      refine ⟨h2, by simp only [Inj.grow]; rw [if_neg (by omega)], fun L' hL' hx => ?_⟩
      obtain ⟨j, bj, Lj, g0, _, g1, g2, g3, g4⟩ := hown _ hx
      exact S.sep j i bj bi Lj L' g1 h2 (fun e => h3 (e ▸ g0)) (Blk.live_of_rw g2) hl g2 g3 hL' g4
    · intro bi hi hl
      rw [List.getElem?_append_right (by omega), hk, Nat.sub_self] at hi
      simp at hi
      subst hi
      rw [← hn]
      refine ⟨hbr, fun L' hL' => ?_⟩
      simp [Inj.grow] at hL'
      exact hnew L' hL'
    · intro b o m hi
      rcases hi with hi | ⟨⟨d, hd, Ld, g1, g2⟩, g3, g4, g5⟩
      · exact .inl hi
      · right
        obtain ⟨bd, k1, k2⟩ := hu d hd
        refine ⟨fun hx => ?_, g3, g4, g5, fun i bi Li hi hne hrw hLi => ?_⟩
        · obtain ⟨j, bj, Lj, q0, q1, q2, q3, q4, q5⟩ := hown _ hx
          exact S.sep d j bd bj Ld Lj k1 q2 (fun e => q1 (e ▸ hd)) (Blk.live_of_rw k2) (Blk.live_of_rw q3) k2 g1 q4 (by rw [g2, q5])
        · obtain ⟨h1, h2, h3⟩ := oldb hi (Blk.live_of_rw hrw) hne
          intro e
          exact S.sep d i bd bi Ld Li k1 h2 (fun e => h3 (e ▸ hsub d hd)) (Blk.live_of_rw k2) (Blk.live_of_rw hrw) k2 g1 hLi (by rw [g2, e])
  exact ⟨T.sim S, T.frm S (fun i hi => by simp only [Inj.grow]; rw [if_neg (by omega)]) ht ho hout⟩

end
end Go.Sx

/- Appending, as an operation. -/
set_option linter.unusedSimpArgs false
set_option linter.unusedVariables false
namespace Go.Sx
section
variable {P : Program} {B : Base} {ρ : Inj} {h : Heap} {w : World} {val : Operand → Value} {R : Type}

theorem BR_rows {ρ : Inj} {w : World} {id b o n : Nat} {t : RT} {l : List t.T} {vs : List Value} (hc : CR ρ (encs t l) vs) (hl : Lies w b o vs) (hb : b < w.heap.size) (hn : o + l.length * t.sz ≤ n) (hf : Free w b n)
    (hr : ρ.rows id = l.length) (hloc : ρ.loc id = some ⟨b, o, n⟩) : BR ρ w id (.rows false t l) := by
  refine ⟨hr.symm, fun L hL => ?_⟩
  rw [hloc] at hL
  cases hL
  refine ⟨fun i x hx => ?_, hb, fun _ => ⟨hn, hf⟩⟩
  obtain ⟨r, h1, h2⟩ := encs_rows hc i x hx
  refine ⟨r, h1, fun j v hj => ?_⟩
  have := hl _ v (h2 j v hj)
  rwa [← Nat.add_assoc] at this

theorem encs_app (t : RT) (a b : List t.T) : encs t (a ++ b) = encs t a ++ encs t b := by simp [encs]

theorem run_appendOp {o : Oper} {x y : Operand} {t tx : TypeId} (ho : o.op = .call { callee := .builtin .append, args := #[x, y], argTypes := #[t, tx] }) {v' : Value} {w' : World}
    (h : (Builtin.append_ #[t, tx] o.type #[val x, val y]).run P w = .ok v' w') : (execOp val o).run P w = .ok (.value v') w' := by
  unfold execOp
  simp only [ho, resolve, invoke, builtin, Sem.run_bind, Sem.run_pure, Result.andThen_ok, List.map_toArray, List.map_cons, List.map_nil, h]

structure RtI (P : Program) (e : TypeId) (rt : RT) (i : TypeInfo) (z : Value) : Prop where
  info : P.info? e = some i
  zero : i.zero = some z
  size : i.size = rt.sz
  bytes : i.bytes ≤ 1024
  zsize : z.cells.size = rt.sz
theorem rtOk_info {e : TypeId} {rt : RT} (h : rtOk P e rt = true) : ∃ i z, RtI P e rt i z := by
  unfold rtOk at h
  split at h <;> try contradiction
  rename_i i d hi hd
  simp only [Bool.and_eq_true, beq_iff_eq, decide_eq_true_eq] at h
  obtain ⟨h1, h2, h3, h4, h5⟩ := h
  unfold zeroOk at h5
  rw [hi] at h5
  simp only [Option.bind_some] at h5
  cases hz : i.zero with
  | none => rw [hz] at h5; cases h5
  | some z =>
    rw [hz] at h5
    have hc := CRb_sound (ρ := ⟨0, fun _ => none, fun _ => 0, fun _ _ _ => False, fun _ _ => rfl⟩) h5
    have := hc.width
    rw [rt.widths_enc] at this
    exact ⟨i, z, hi, hz, h1, h2, by simpa using this⟩

/-- What the slice is that is appended to. -/
structure Dst (P : Program) (ρ : Inj) (hp : Heap) (w : World) (rt : RT) (t : TypeId) (l : List rt.T) (n : Nat) (used old : List Nat) (v : Value) (base : Option Addr) (cap : Nat) (olds : List Value) : Prop where
  val : v = .slice base l.length cap
  cr : CR ρ (encs rt l) olds
  src : Src P rt.sz t v l.length olds w
  le : l.length ≤ cap
  way : cap < l.length + n ∨ cap = 0 ∨ ∃ id bi L off, id ∈ old ∧ id ∉ used ∧ hp[id]? = some bi ∧ bi.rw = true ∧ ρ.loc id = some L ∧ base = some ⟨L.blk, off, none⟩ ∧ off + cap * rt.sz ≤ L.size ∧
    Free w L.blk L.size ∧ Lies w L.blk off olds ∧ L.blk < w.heap.size

theorem grow_sound (s : St) (S : Sim B ρ s.hp w) {o : Oper} {x y : Operand} {t tx e : TypeId} (ho : o.op = .call { callee := .builtin .append, args := #[x, y], argTypes := #[t, tx] })
    (hu : P.underlying t = some (.slice e)) {rt : RT} {i : TypeInfo} {z : Value} (I : RtI P e rt i z) {l xs : List rt.T} {used old : List Nat} {base : Option Addr} {cap : Nat} {olds news : List Value}
    (D : Dst P ρ s.hp w rt t l xs.length used old (val x) base cap olds) (hus : Used s.hp used) (hsub : ∀ d ∈ used, d ∈ old) (hold : ∀ d ∈ old, d < s.hp.length) (hc : CR (ρ.frz w used) (encs rt xs) news) (hs : Src P rt.sz tx (val y) xs.length news w)
    {k : AVal → St → Option R} {r : R} (he : grow s rt old (l ++ xs) k = some r) : EGoal P B ρ s w val o k r := by
  have hlim : (l ++ xs).length ≤ lim := by
    unfold grow at he
    cases hd : decide ((l ++ xs).length ≤ lim) with
    | true => simpa using hd
    | false => rw [hd] at he; cases he
  unfold grow at he
  rw [decide_eq_true hlim, cond_true] at he
  simp only [List.length_append] at hlim
  have hsz := I.size
  have hnl := hs.newsLen
  have hol := D.src.newsLen
  have hcr : ∀ (c : Nat) (L : Option Loc), CR (ρ.grow w used c L) (encs rt (l ++ xs)) (olds ++ news) := fun c L => by
    rw [encs_app]
    exact (D.cr.mono ((ρ.frz_ext w used).trans (ρ.grow_ext w used c L))).append (hc.mono (ρ.grow_ext w used c L))
  have hkeep : Keeps s { s with hp := kill s.hp old ++ [.rows false rt (l ++ xs)], dt := old ++ s.dt } := ⟨rfl, old, rfl, fun j hj hno => by
    rw [getB_app (by rw [kill_length]; exact hj), getB_kill hno]⟩
  have fin : ∀ (L : Option Loc) (v' : Value) (w' : World) (X : Nat → Prop), (Builtin.append_ #[t, tx] o.type #[val x, val y]).run P w = .ok v' w' →
      w.heap.size ≤ w'.heap.size → (∀ b, b < w.heap.size → ¬ X b → w'.heap[b]? = w.heap[b]?) →
      (∀ b, X b → ∃ i bi Li, i ∈ old ∧ i ∉ used ∧ s.hp[i]? = some bi ∧ bi.rw = true ∧ ρ.loc i = some Li ∧ Li.blk = b) →
      (∀ L', L = some L' → X L'.blk ∨ w.heap.size ≤ L'.blk) → BR (ρ.grow w used (l ++ xs).length L) w' ρ.n (.rows false rt (l ++ xs)) →
      w'.tape = w.tape → w'.os = w.os → w'.output = w.output →
      VR (ρ.grow w used (l ++ xs).length L) (.slice (some ⟨s.hp.length, rt.sz, 0, 0⟩) .all .opn) v' → EGoal P B ρ s w val o k r := by
    intro L v' w' X hrun h1 h2 h3 h4 h5 h6 h7 h8 h9
    have hG := grow_stp S hus hsub h1 h2 h3 h4 h5 h6 h7 h8
    exact EGoal.value (run_appendOp ho hrun) ⟨⟨_, _, _, he, h9, hG.1, hG.2, hkeep⟩⟩
  have hrows : ∀ (c : Nat) (L : Option Loc), (ρ.grow w used c L).rows s.hp.length = c := fun c L => by simp [Inj.grow, S.n]
  have hlen : ∀ (c : Nat) (L : Option Loc), (ρ.grow w used c L).len ⟨s.hp.length, rt.sz, 0, 0⟩ .all = c := fun c L => by simp [Inj.len, hrows]
  have hloc : ∀ (c : Nat) (L : Option Loc), (ρ.grow w used c L).loc s.hp.length = L := fun c L => by simp [Inj.grow, S.n]
  -- a new row
  have anew : cap < l.length + xs.length → EGoal P B ρ s w val o k r := by
    intro hg
    have hb2 : (l.length + xs.length) * i.bytes ≤ 140737488355328 := by
      have h1 : (l.length + xs.length) * i.bytes ≤ lim * 1024 := Nat.mul_le_mul hlim I.bytes
      unfold lim at h1; omega
    have hold' : (Builtin.firstCells i.size l.length (.slice base l.length cap)).run P w.drew = .ok olds.toArray w.drew := by
      have := D.src.cellsD; rw [D.val] at this; rw [hsz]; exact this
    have hs' : Src P i.size tx (val y) xs.length news w := by rw [hsz]; exact hs
    have hrun := run_append_grow_src (P := P) w t tx o.type e i z hu I.info I.zero base l.length cap olds hold' (val y) xs.length news hs' hg (by unfold lim at hlim; omega) (growslice_fits hg hb2)
    rw [← D.val] at hrun
    generalize hgc : grownCap w (l.length + xs.length) cap e = gc at hrun
    have hge : l.length + xs.length ≤ gc := by rw [← hgc]; exact grownCap_ge w _ _ e
    have hcs : ((olds ++ news).toArray ++ Builtin.zeroCells z.cells (gc - (l.length + xs.length))).size = gc * rt.sz := by
      simp only [Array.size_append, List.size_toArray, List.length_append, size_zeroCells, I.zsize, hol, hnl, ← Nat.add_mul]
      congr 1; omega
    generalize hcc : (olds ++ news).toArray ++ Builtin.zeroCells z.cells (gc - (l.length + xs.length)) = cc at hrun hcs
    refine fin (some ⟨w.heap.size, 0, gc * rt.sz⟩) _ _ (fun _ => False) hrun (alloc_keeps w.drew _).1 (fun b hb _ => (alloc_keeps w.drew _).2 b hb) (fun _ hx => hx.elim) (fun L' hL' => by cases hL'; exact .inr (Nat.le_refl _)) ?_ rfl rfl rfl ?_
    · refine BR_rows (hcr _ _) (alloc_lies w.drew cc e (0, 0) _ 0 (fun j v hj => ?_)) (by have := (alloc_keeps w.drew (.cells cc e)).1; simp [-World.alloc_eq, World.alloc]) (by rw [Nat.zero_add, List.length_append]; exact Nat.mul_le_mul_right _ hge)
        (by have := alloc_free w.drew cc e (0, 0) (.inr rfl); rw [hcs] at this; exact this) (by rw [S.n]; exact hrows _ _) (by rw [S.n]; exact hloc _ _)
      rw [Nat.zero_add, ← hcc]
      have hlt := (List.getElem?_eq_some_iff.1 hj).1
      rw [Array.getElem?_append_left (by simpa using hlt)]
      simpa using hj
    · have hV := VR.slice (ρ := ρ.grow w used (l ++ xs).length (some ⟨w.heap.size, 0, gc * rt.sz⟩)) (p := ⟨s.hp.length, rt.sz, 0, 0⟩) (n := .all) (c := .opn) (c' := gc) (hloc _ _) (by rw [hlen]; simpa using hge) (by rw [hlen]; simpa [Cap.fits] using hge) (fun _ => ⟨rfl, by simp⟩)
      rw [hlen] at hV
      simpa using hV
  rcases D.way with hg | hg | ⟨id, bi, L, off, q1, q2, q3, q4, q5, q6, q7, q8, q9, q10⟩
  · exact anew hg
  · -- nothing, appended to nothing
    by_cases hx0 : l.length + xs.length = 0
    · have hl0 : l = [] := List.eq_nil_of_length_eq_zero (by omega)
      have hx0' : xs = [] := List.eq_nil_of_length_eq_zero (by omega)
      subst hl0; subst hx0'
      have hn0 : news = [] := List.eq_nil_of_length_eq_zero (by simpa using hnl)
      subst hn0
      have hrun : (Builtin.append_ #[t, tx] o.type #[val x, val y]).run P w = .ok (.slice base 0 0) w := by
        rw [D.val, hg]
        have hs' := hs
        rw [← hsz] at hs'
        have hc0 : (Builtin.firstCells i.size 0 (val y)).run P w = .ok #[] w := hs'.cells
        have hl0 : ∀ w', (Builtin.lenOf (val y)).run P w' = .ok 0 w' := hs'.len
        rcases hs.kind with ⟨e', hk⟩ | hk <;> cases base <;> simp [Builtin.append_, run_underlying hu, run_underlying hk, sizeOf, typeInfo, I.info, hl0, hc0, storeCells]
      refine fin none _ _ (fun _ => False) hrun (Nat.le_refl _) (fun _ _ _ => rfl) (fun _ hx => hx.elim) (fun L' hL' => by cases hL') ⟨?_, fun L' hL' => ?_⟩ rfl rfl rfl ?_
      · rw [S.n, hrows]
      · rw [S.n, hloc] at hL'; cases hL'
      · exact .slice0 base (by simp [Inj.grow, S.n]) (by rw [hlen]; rfl) (by simp [Cap.fits])
    · exact anew (by omega)
  · by_cases hroom : l.length + xs.length ≤ cap
    · have hin : off + l.length * rt.sz + news.length ≤ L.size := by
        have : (l.length + xs.length) * rt.sz ≤ cap * rt.sz := Nat.mul_le_mul_right _ hroom
        rw [Nat.add_mul] at this; omega
      have hs' : Src P i.size tx (val y) xs.length news w := by rw [hsz]; exact hs
      have hrun := run_append_room_src (P := P) w t tx o.type e i hu I.info L.blk off l.length cap (val y) xs.length news hs' hroom
        (fun j hj => (q8 _ (by rw [hsz]; omega)).1) (fun j hj => (q8 _ (by rw [hsz]; omega)).2)
      rw [← q6, ← D.val, hsz] at hrun
      have hL' := Lies.append (w := w.setCells L.blk (off + l.length * rt.sz) news) (b := L.blk) (o := off) (l := olds) (m := news)
        (q9.apart (.inl (by omega))) (by
          rw [hol]
          intro j v hj
          have hlt := (List.getElem?_eq_some_iff.1 hj).1
          rw [World.cell?_setCells_in L.blk news (off + l.length * rt.sz) w (fun q hq => (q8 _ (by omega)).1) j hlt]
          rw [List.getElem?_eq_getElem hlt] at hj
          exact hj)
      refine fin (some ⟨L.blk, off, L.size⟩) _ _ (fun b => b = L.blk) hrun (by rw [setCells_size]; exact Nat.le_refl _) (fun b _ hb => setCells_other _ _ _ _ b hb) (fun b hb => ⟨id, bi, L, q1, q2, q3, q4, q5, hb.symm⟩)
        (fun L' hL' => by cases hL'; exact .inl rfl) ?_ (setCells_rest _ _ _ _).1 (setCells_rest _ _ _ _).2.1 (setCells_rest _ _ _ _).2.2 ?_
      · exact BR_rows (hcr _ _) hL' (by rw [setCells_size]; exact q10) (by rw [List.length_append]; have : (l.length + xs.length) * rt.sz ≤ cap * rt.sz := Nat.mul_le_mul_right _ hroom; omega)
          (q8.set hin) (by rw [S.n]; exact hrows _ _) (by rw [S.n]; exact hloc _ _)
      · have hV := VR.slice (ρ := ρ.grow w used (l ++ xs).length (some ⟨L.blk, off, L.size⟩)) (p := ⟨s.hp.length, rt.sz, 0, 0⟩) (n := .all) (c := .opn) (c' := cap) (hloc _ _) (by rw [hlen]; simpa using hroom) (by rw [hlen]; simpa [Cap.fits] using hroom)
          (fun _ => ⟨rfl, by simpa using q7⟩)
        rw [hlen] at hV
        rw [q6]
        simpa using hV
    · exact anew (by omega)

theorem cond_some {c : Bool} {a : Option R} {r : R} (h : cond c a none = some r) : c = true ∧ a = some r := by
  cases c
  · cases h
  · exact ⟨rfl, h⟩

/-- Rows laid over others in their place. -/
theorem over_BR (S : Sim B ρ h w) {id : Nat} {t : RT} {full xs : List t.T} (hb : getB h id = .rows false t full) {L : Loc} (hL : ρ.loc id = some L) {ρ' : Inj} (hx : ρ.ext ρ') (hr : ρ'.rows id = ρ.rows id) (hl : ρ'.loc id = some L)
    {news : List Value} (hc : CR ρ' (encs t xs) news) {j : Nat} (hj : j + xs.length ≤ full.length) : BR ρ' (w.setCells L.blk (L.base + j * t.sz) news) id (.rows false t (over full j xs)) := by
  obtain ⟨g0, g1⟩ := S.blk _ _ (getB_some hb rfl)
  obtain ⟨_, g3, g4⟩ := g1 L hL
  obtain ⟨g5, g6⟩ := g4 rfl
  have hnl : news.length = xs.length * t.sz := by rw [hc.width, encs_width]
  obtain ⟨a, a1, a2⟩ := rows_part S hb hL 0 j
  obtain ⟨c, c1, c2⟩ := rows_part S hb hL (j + xs.length) full.length
  rw [List.drop_zero] at a1
  rw [List.take_of_length_le (by simp)] at c1
  simp only [Nat.zero_mul, Nat.add_zero] at a2
  have hal : a.length = j * t.sz := by rw [a1.width, encs_width, List.length_take]; congr 1; omega
  have hcl : c.length = (full.length - (j + xs.length)) * t.sz := by rw [c1.width, encs_width, List.length_drop]
  have e1 : (j + xs.length) * t.sz = j * t.sz + xs.length * t.sz := Nat.add_mul _ _ _
  have e2 : full.length * t.sz = (j + xs.length) * t.sz + (full.length - (j + xs.length)) * t.sz := by rw [← Nat.add_mul]; congr 1; omega
  have hlen : (over full j xs).length = full.length := by simp [over]; omega
  have L1 : Lies (w.setCells L.blk (L.base + j * t.sz) news) L.blk L.base a := a2.apart (.inl (by omega))
  have L3 : Lies (w.setCells L.blk (L.base + j * t.sz) news) L.blk (L.base + (j + xs.length) * t.sz) c := c2.apart (.inr (by omega))
  have L2 : Lies (w.setCells L.blk (L.base + j * t.sz) news) L.blk (L.base + j * t.sz) news := by
    intro i v hi
    have hlt := (List.getElem?_eq_some_iff.1 hi).1
    rw [World.cell?_setCells_in L.blk news (L.base + j * t.sz) w (fun q hq => (g6 _ (by omega)).1) i hlt]
    rw [List.getElem?_eq_getElem hlt] at hi
    exact hi
  refine BR_rows (vs := a ++ (news ++ c)) ?_ (L1.append ?_) (by rw [setCells_size]; exact g3) (by rw [hlen]; exact g5) (g6.set (by omega)) (by rw [hr, ← g0, hlen]) hl
  · unfold over
    rw [encs_app, encs_app]
    exact (a1.mono hx).append (hc.append (c1.mono hx))
  · rw [hal]
    refine L2.append ?_
    rw [hnl, Nat.add_assoc, ← e1]
    exact L3

/-- A block is written in its place; others are used up. -/
theorem frz_write (S : Sim B ρ h w) {used : List Nat} (hu : Used h used) {id : Nat} {b0 b : Blk} (hid : id ∉ used) {L : Loc} (hb : h[id]? = some b0) (hrw : b0.rw = true) (hL : ρ.loc id = some L) {w' : World} (hs : w'.heap.size = w.heap.size)
    (ho : ∀ j, j ≠ L.blk → w'.heap[j]? = w.heap[j]?) (hbr : BR (ρ.frz w used) w' id b) (ht : w'.tape = w.tape) (hos : w'.os = w.os) (hout : w'.output = w.output) :
    Sim B (ρ.frz w used) (setB (kill h used) id b) w' ∧ Frm ρ h w (ρ.frz w used) (setB (kill h used) id b) w' := by
  have oldb : ∀ {i : Nat} {bi : Blk}, (setB (kill h used) id b)[i]? = some bi → bi.live = true → i ≠ id → h[i]? = some bi ∧ i ∉ used := by
    intro i bi hi hl hne
    rw [setB_get, if_neg hne, kill_get] at hi
    split at hi
    · cases hq : h[i]? with
      | none => rw [hq] at hi; cases hi
      | some q => rw [hq] at hi; cases hi; simp [Blk.live] at hl
    · rename_i hno
      exact ⟨hi, hno⟩
  have T : Stp B ρ h w (ρ.frz w used) (setB (kill h used) id b) w' id (fun x => x = L.blk) := by
    refine ⟨ρ.frz_ext w used, by rw [setB_length, kill_length]; exact S.n, by rw [setB_length, kill_length]; exact Nat.le_refl _, by omega, fun j _ hj => ho j hj, fun j hj => ⟨id, b0, L, hb, hrw, hL, hj.symm⟩, ?_, ?_, ?_⟩
    · intro i bi hi hl hne
      obtain ⟨h1, h2⟩ := oldb hi hl hne
      refine ⟨h1, rfl, fun L' hL' e => ?_⟩
      exact S.sep id i b0 bi L L' hb h1 (Ne.symm hne) (Blk.live_of_rw hrw) hl hrw hL hL' e.symm
    · intro bi hi hl
      rw [setB_get, if_pos rfl, kill_get, if_neg hid, hb] at hi
      simp at hi
      subst hi
      exact ⟨hbr, fun L' hL' => by
        have hL2 : ρ.loc id = some L' := hL'
        rw [hL] at hL2; cases hL2; exact .inl rfl⟩
    · intro c o m hi
      rcases hi with hi | ⟨⟨d, hd, Ld, g1, g2⟩, g3, g4, g5⟩
      · exact .inl hi
      · right
        obtain ⟨bd, k1, k2⟩ := hu d hd
        refine ⟨fun hx => ?_, g3, g4, g5, fun i bi Li hi hne hrw' hLi e => ?_⟩
        · exact S.sep d id bd b0 Ld L k1 hb (fun e => hid (e ▸ hd)) (Blk.live_of_rw k2) (Blk.live_of_rw hrw) k2 g1 hL (by rw [g2, hx])
        · obtain ⟨h2, h3⟩ := oldb hi (Blk.live_of_rw hrw') hne
          exact S.sep d i bd bi Ld Li k1 h2 (fun e => h3 (e ▸ hd)) (Blk.live_of_rw k2) (Blk.live_of_rw hrw') k2 g1 hLi (by rw [g2, e])
  exact ⟨T.sim S, T.frm S (fun _ _ => rfl) ht hos hout⟩

theorem Used.lt {hp : Heap} {u : List Nat} (hu : Used hp u) : ∀ d ∈ u, d < hp.length := fun d hd => by
  obtain ⟨b, h1, _⟩ := hu d hd
  exact (List.getElem?_eq_some_iff.1 h1).1

theorem append_sound (s : St) (S : Sim B ρ s.hp w) {o : Oper} {x y : Operand} {t tx e : TypeId} (ho : o.op = .call { callee := .builtin .append, args := #[x, y], argTypes := #[t, tx] })
    (hu : P.underlying t = some (.slice e)) {rt : RT} (hrt : rtOk P e rt = true) (hk : SrcT P tx) {d a : AVal} (hx : VR ρ d (val x)) (hy : VR ρ a (val y)) {k : AVal → St → Option R} {r : R} (he : append s rt d a k = some r) : EGoal P B ρ s w val o k r := by
  obtain ⟨i, z, I⟩ := rtOk_info hrt
  have hk' : SrcT P t := .inl ⟨e, hu⟩
  unfold append at he
  split at he <;> try contradiction
  rename_i c xs used happ
  have hcs := cond_some he
  clear he
  obtain ⟨rfl, he⟩ := hcs
  obtain ⟨news, n1, n2, n3⟩ := appRows_sound S hy happ hk
  cases d with
  | slice p0 n cp =>
    cases p0 with
    | none =>
      cases n with
      | all => cases he
      | n m =>
        cases m with
        | succ m => cases he
        | zero =>
          have hv : val x = .slice none 0 0 := by generalize val x = vx at hx; cases hx; rfl
          refine grow_sound s S ho hu I (l := []) (olds := []) (base := none) (cap := 0) ⟨by simpa using hv, .nil, ?_, Nat.le_refl _, .inr (.inl rfl)⟩ n3 (fun _ h => h) n3.lt n1 n2 (by simpa using he)
          rw [hv]
          exact src_mk (ρ := ρ) (cs := []) hk' .nil (by simp [widths]) (by simp)
    | some p =>
      simp only at he
      split at he <;> try contradiction
      rename_i c' l ro t' full hsrc hb
      have hbk := getB_some hb rfl
      -- what is there, once c' is true
      have dst : ∀ (hc' : c' = true) (old : List Nat) (way : ∀ (L : Loc) (cc : Nat), ρ.loc p.id = some L → cp.fits l.length cc → (cp.tight = false → p.off = 0 ∧ L.base + (p.row + cc) * p.rs ≤ L.size) → l.length ≤ cc →
            ∀ olds, Lies w L.blk (L.base + (p.row * p.rs + p.off)) olds → (cc < l.length + xs.length ∨ cc = 0 ∨ ∃ id bi L' off, id ∈ old ∧ id ∉ used ∧ s.hp[id]? = some bi ∧ bi.rw = true ∧ ρ.loc id = some L' ∧ (some (⟨L.blk, L.base + (p.row * p.rs + p.off), none⟩ : Addr)) = some ⟨L'.blk, off, none⟩ ∧ off + cc * rt.sz ≤ L'.size ∧
              Free w L'.blk L'.size ∧ Lies w L'.blk off olds ∧ L'.blk < w.heap.size)),
          ∃ base cap olds, Dst P ρ s.hp w rt t l xs.length used old (val x) base cap olds := by
        intro hc' old way
        subst hc'
        obtain ⟨olds, p1, p2, o2, o3⟩ := srcRows_slice S hx hsrc hk'
        have hV := hx.slV
        generalize hvx : val x = vx at hV p2
        cases hV with
        | nought ad hp hn hc' =>
          exact ⟨ad, 0, olds, ⟨by rw [o2, hn], p1, p2, by rw [o2, hn]; exact Nat.le_refl _, .inr (.inl rfl)⟩⟩
        | there hL hn hc' hr =>
          rename_i L cc
          rw [← o2] at hn hc'
          exact ⟨_, cc, olds, ⟨by rw [o2], p1, p2, hn, way L cc hL hc' hr hn olds (o3 L hL)⟩⟩
      -- the block itself may be grown in its place
      have mine : ∀ (hro : ro = false) (hrs : p.rs = rt.sz) (hnu : p.id ∉ used) (htg : cp.tight = false) (L : Loc) (cc : Nat), ρ.loc p.id = some L → cp.fits l.length cc → (cp.tight = false → p.off = 0 ∧ L.base + (p.row + cc) * p.rs ≤ L.size) → l.length ≤ cc →
            ∀ olds, Lies w L.blk (L.base + (p.row * p.rs + p.off)) olds → (cc < l.length + xs.length ∨ cc = 0 ∨ ∃ id bi L' off, id ∈ (p.id :: used) ∧ id ∉ used ∧ s.hp[id]? = some bi ∧ bi.rw = true ∧ ρ.loc id = some L' ∧ (some (⟨L.blk, L.base + (p.row * p.rs + p.off), none⟩ : Addr)) = some ⟨L'.blk, off, none⟩ ∧ off + cc * rt.sz ≤ L'.size ∧
              Free w L'.blk L'.size ∧ Lies w L'.blk off olds ∧ L'.blk < w.heap.size) := by
        intro hro hrs hnu htg L cc hL hfit hr hle olds hlies
        subst hro
        obtain ⟨_, g1⟩ := S.blk _ _ hbk
        obtain ⟨_, g3, g4⟩ := g1 L hL
        obtain ⟨g5, g6⟩ := g4 rfl
        obtain ⟨r1, r2⟩ := hr htg
        refine .inr (.inr ⟨p.id, _, L, _, by simp, hnu, hbk, rfl, hL, rfl, ?_, g6, hlies, g3⟩)
        rw [Nat.add_mul] at r2
        rw [← hrs, r1]; omega
      cases cp with
      | exact m =>
        cases m with
        | zero =>
          simp only at he
          have hcs := cond_some he
          clear he
          obtain ⟨hc', he⟩ := hcs
          obtain ⟨base, cap, olds, D⟩ := dst hc' used (fun L cc hL hfit hr hle olds hlies => .inr (.inl hfit))
          exact grow_sound s S ho hu I D n3 (fun _ h => h) n3.lt n1 n2 he
        | succ m =>
          simp only at he
          have hcs := cond_some he
          clear he
          obtain ⟨hc', he⟩ := hcs
          cases hd : decide (l.length + xs.length ≤ m + 1) with
          | true => rw [hd] at he; cases he
          | false =>
            rw [hd] at he
            have hd' : ¬ (l.length + xs.length ≤ m + 1) := by simpa using hd
            obtain ⟨base, cap, olds, D⟩ := dst hc' used (fun L cc hL hfit hr hle olds hlies => .inl (by have : cc = m + 1 := hfit; omega))
            exact grow_sound s S ho hu I D n3 (fun _ h => h) n3.lt n1 n2 he
      | opn =>
        simp only at he
        split at he <;> try contradiction
        rename_i hro
        have hcs := cond_some he
        clear he
        obtain ⟨hc', he⟩ := hcs
        simp only [Bool.and_eq_true, Nat.beq_eq_true_eq, Bool.not_eq_true', List.any_eq_false, beq_iff_eq] at hc'
        obtain ⟨hc', hrs, hnu⟩ := hc'
        have hnu' : p.id ∉ used := fun hm => hnu _ hm rfl
        have hrs := Nat.eq_of_beq_eq_true hrs
        obtain ⟨base, cap, olds, D⟩ := dst hc' (p.id :: used) (mine (by simpa using hro) hrs hnu' rfl)
        refine grow_sound s S ho hu I D n3 (fun _ h => by simp [h]) (fun d hd => ?_) n1 n2 he
        rcases List.mem_cons.1 hd with rfl | hd
        · exact (List.getElem?_eq_some_iff.1 hbk).1
        · exact n3.lt d hd
      | atLeast m =>
        simp only at he
        split at he <;> try contradiction
        rename_i hro
        have hro' : ro = false := by simpa using hro
        subst hro'
        split at he <;> try contradiction
        rename_i e'
        subst e'
        have hcs := cond_some he
        clear he
        obtain ⟨hc', he⟩ := hcs
        simp only [Bool.and_eq_true, Nat.beq_eq_true_eq, Bool.not_eq_true', List.any_eq_false, beq_iff_eq] at hc'
        obtain ⟨hc', hrs, hm0, hnu⟩ := hc'
        have hm1 : 0 < m := by simpa using hm0
        have hnu' : p.id ∉ used := fun hm => hnu _ hm rfl
        have hrs := Nat.eq_of_beq_eq_true hrs
        cases hd : decide (l.length + xs.length ≤ m) with
        | false =>
          rw [hd] at he
          obtain ⟨base, cap, olds, D⟩ := dst hc' (p.id :: used) (mine rfl hrs hnu' rfl)
          refine grow_sound s S ho hu I D n3 (fun _ h => by simp [h]) (fun d hd => ?_) n1 n2 he
          rcases List.mem_cons.1 hd with rfl | hd
          · exact (List.getElem?_eq_some_iff.1 hbk).1
          · exact n3.lt d hd
        | true =>
          rw [hd, cond_true] at he
          have hcs := cond_some he
          clear he
          obtain ⟨hfl, he⟩ := hcs
          have hfl' : p.row + l.length + xs.length ≤ full.length := by simpa using hfl
          have hm : l.length + xs.length ≤ m := by simpa using hd
          subst hc'
          obtain ⟨olds, p1, p2, o2, o3⟩ := srcRows_slice S hx hsrc hk'
          have hV := hx.slV
          generalize hvx : val x = vx at hV p2
          cases hV with
          | nought ad hp hn hc' =>
            have hc2 : m ≤ 0 := hc'
            omega
          | there hL hn hc' hr =>
            rename_i L cc
            have hmc : m ≤ cc := hc'
            obtain ⟨_, g1⟩ := S.blk _ _ hbk
            obtain ⟨_, g3, g4⟩ := g1 L hL
            obtain ⟨g5, g6⟩ := g4 rfl
            obtain ⟨r1, r2⟩ := hr rfl
            have hs' : Src P i.size tx (val y) xs.length news w := by rw [I.size]; exact n2
            have hnl := n2.newsLen
            have hin : (L.base + (p.row * p.rs + p.off)) + l.length * t'.sz + news.length ≤ L.size := by
              have h1 : (p.row + (l.length + xs.length)) * p.rs ≤ (p.row + cc) * p.rs := Nat.mul_le_mul_right _ (by omega)
              rw [Nat.add_mul, Nat.add_mul l.length] at h1
              rw [r1, hnl, ← hrs]
              omega
            have hrun := run_append_room_src (P := P) w t tx o.type e i hu I.info L.blk (L.base + (p.row * p.rs + p.off)) l.length cc (val y) xs.length news hs' (by omega)
              (fun j hj => (g6 _ (by rw [I.size]; omega)).1) (fun j hj => (g6 _ (by rw [I.size]; omega)).2)
            rw [o2, ← hvx, ← o2, I.size] at hrun
            have hoff : L.base + (p.row * p.rs + p.off) + l.length * t'.sz = L.base + (p.row + l.length) * t'.sz := by rw [r1, hrs, Nat.add_mul]; omega
            rw [hoff] at hrun
            have hW := frz_write S n3 hnu' hbk rfl hL (w' := w.setCells L.blk (L.base + (p.row + l.length) * t'.sz) news) (setCells_size _ _ _ _) (fun j hj => setCells_other _ _ _ _ j hj)
              (over_BR S hb hL (ρ.frz_ext w used) rfl hL n1 hfl') (setCells_rest _ _ _ _).1 (setCells_rest _ _ _ _).2.1 (setCells_rest _ _ _ _).2.2
            refine EGoal.value (run_appendOp ho hrun) ⟨⟨_, _, _, he, ?_, hW.1, hW.2, rfl, p.id :: used, rfl, fun j hj hno => ?_⟩⟩
            · have := VR.slice (ρ := ρ.frz w used) (p := p) (n := .n (l.length + xs.length)) (c := .atLeast m) (c' := cc) hL (by simp only [Inj.len]; omega) (by exact hmc) hr
              simpa [Inj.len] using this
            · simp only [List.mem_cons, not_or] at hno
              rw [getB_setB_ne hno.1, getB_kill hno.2]
  | _ => cases he
end
end Go.Sx

/- Operations that change maps. -/
set_option linter.unusedSimpArgs false
set_option linter.unusedVariables false
namespace Go.Sx
section
variable {P : Program} {B : Base} {ρ : Inj} {h : Heap} {w : World} {val : Operand → Value} {R : Type}

theorem eqV_eq {q : CK} {a b : AVal} (h : eqV q a b = some true) : a = b := by
  unfold eqV at h
  split at h <;> try contradiction
  · split at h
    · rename_i e; obtain ⟨rfl, rfl⟩ := e
      simp only [Option.some.injEq, beq_iff_eq] at h; rw [h]
    · contradiction
  · simp only [Option.some.injEq, beq_iff_eq] at h; rw [h]
  · simp only [Option.some.injEq, beq_iff_eq] at h; rw [h]
theorem eqCells_eq : ∀ {ks : List CK} {l m : List AVal}, eqCells ks l m = some true → l = m
  | [], [], [], _ => rfl
  | q :: ks, a :: l, b :: m, h => by
    simp only [eqCells] at h
    split at h <;> try contradiction
    rename_i x y hx hy
    simp only [Option.some.injEq, Bool.and_eq_true] at h
    obtain ⟨rfl, rfl⟩ := h
    rw [eqV_eq hx, eqCells_eq hy]
  | [], [], _ :: _, h | [], _ :: _, [], h | [], _ :: _, _ :: _, h | _ :: _, [], [], h | _ :: _, [], _ :: _, h | _ :: _, _ :: _, [], h => by simp [eqCells] at h
theorem same_enc {t : RT} {x y : t.T} (h : t.same x y = true) : t.enc x = t.enc y := by
  unfold RT.same at h
  split at h
  · rename_i ks hk
    cases he : eqCells ks (t.enc x) (t.enc y) with
    | none => rw [he] at h; cases h
    | some b => rw [he] at h; cases b; cases h; exact eqCells_eq he
  · cases h

theorem MR_set {k v : RT} {x : k.T} {y : v.T} {f : MapEntry → MapEntry} (hf : ∀ e, (f e).born = e.born ∧ CR ρ (v.enc y) (f e).val.cells.toList ∧ Shp v.isA (f e).val)
    (hk : ∀ e x', k.same x x' = true → CR ρ (k.enc x') e.key.cells.toList → Shp k.isA e.key → CR ρ (k.enc x) (f e).key.cells.toList ∧ Shp k.isA (f e).key) :
    ∀ {l : List (k.T × v.T)} {es : List MapEntry} {i j : Nat}, MR ρ k v l es → posOf x l i = some (i + j) → MR ρ k v (mset l x y) (es.modify j f)
  | _, _, i, j, .nil, h => by simp [posOf] at h
  | _, _, i, j, .cons (x := x') (y := y') (l := l) (l' := l') (e := e) h1 h2 h3 h4 t, h => by
    simp only [posOf] at h
    simp only [mset]
    split at h
    · rename_i hs
      simp only [Option.some.injEq] at h
      have : j = 0 := by omega
      subst this
      rw [if_pos hs]
      simp only [List.modify_zero_cons]
      obtain ⟨g1, g2⟩ := hk e x' hs h1 h3
      exact .cons g1 (hf e).2.1 g2 (hf e).2.2 t
    · rename_i hs
      rw [if_neg hs]
      have hle := posOf_le h
      obtain ⟨j', rfl⟩ : ∃ j', j = j' + 1 := ⟨j - 1, by omega⟩
      rw [List.modify_succ_cons]
      exact .cons h1 h2 h3 h4 (MR_set hf hk t (i := i + 1) (by rw [h]; congr 1; omega))
theorem MR_push {k v : RT} {x : k.T} {y : v.T} {e' : MapEntry} (h1 : CR ρ (k.enc x) e'.key.cells.toList) (h2 : CR ρ (v.enc y) e'.val.cells.toList) (h3 : Shp k.isA e'.key) (h4 : Shp v.isA e'.val) :
    ∀ {l : List (k.T × v.T)} {es : List MapEntry} {i : Nat}, MR ρ k v l es → posOf x l i = none → MR ρ k v (mset l x y) (es ++ [e'])
  | _, _, i, .nil, h => .cons h1 h2 h3 h4 .nil
  | _, _, i, .cons (x := x') (y := y') (l := l) (l' := l') (e := e) g1 g2 g3 g4 t, h => by
    simp only [posOf] at h
    simp only [mset]
    split at h
    · cases h
    · rename_i hs
      rw [if_neg hs]
      exact .cons g1 g2 g3 g4 (MR_push h1 h2 h3 h4 t h)
theorem MR_del {k v : RT} {x : k.T} : ∀ {l : List (k.T × v.T)} {es : List MapEntry} {i j : Nat}, MR ρ k v l es → posOf x l i = some (i + j) → MR ρ k v (mdel l x) (es.eraseIdx j)
  | _, _, i, j, .nil, h => by simp [posOf] at h
  | _, _, i, j, .cons (x := x') (y := y') (l := l) (l' := l') (e := e) h1 h2 h3 h4 t, h => by
    simp only [posOf] at h
    simp only [mdel]
    split at h
    · rename_i hs
      simp only [Option.some.injEq] at h
      have : j = 0 := by omega
      subst this
      rw [if_pos hs]
      exact t
    · rename_i hs
      rw [if_neg hs]
      have hle := posOf_le h
      obtain ⟨j', rfl⟩ : ∃ j', j = j' + 1 := ⟨j - 1, by omega⟩
      rw [List.eraseIdx_cons_succ]
      exact .cons h1 h2 h3 h4 (MR_del t (i := i + 1) (by rw [h]; congr 1; omega))
theorem mdel_none {k v : RT} {x : k.T} : ∀ {l : List (k.T × v.T)} {i : Nat}, posOf x l i = none → mdel l x = l
  | [], _, _ => rfl
  | e :: l, i, h => by
    simp only [posOf] at h
    simp only [mdel]
    split at h
    · cases h
    · rename_i hs
      rw [if_neg hs, mdel_none h]

theorem stays (old new : Value) (w : World) : ∃ kv w2, (Instr.keyThatStays old new).run P w = .ok kv w2 ∧ (kv = new ∨ kv = old) ∧ w2.heap = w.heap ∧ w2.tape = w.tape ∧ w2.os = w.os ∧ w2.output = w.output := by
  unfold Instr.keyThatStays
  split
  · exact ⟨new, w, rfl, .inl rfl, rfl, rfl, rfl, rfl⟩
  · simp only [Sem.run_bind, run_choose]
    split
    · simp only [Result.andThen_ok, Sem.run_pure, if_true]
      exact ⟨_, w, rfl, .inl rfl, rfl, rfl, rfl, rfl⟩
    · simp only [Result.andThen_ok, Sem.run_pure]
      refine ⟨_, _, rfl, ?_, rfl, rfl, rfl, rfl⟩
      split <;> simp

theorem run_getObj {r : Nat} {es : Array MapEntry} {c : Nat} (h : w.heap[r]? = some (.map es c)) : (getObj r).run P w = .ok (.map es c) w := by simp [getObj, Sem.run, h]
theorem run_setObj {r : Nat} {es : Array MapEntry} {c : Nat} (h : w.heap[r]? = some (.map es c)) (o : Obj) : (setObj r o).run P w = .ok () { w with heap := w.heap.setIfInBounds r o } := by simp [setObj, Sem.run, h]

/-- A map is written. -/
theorem map_write (S : Sim B ρ h w) {r : Nat} {k v : RT} {l l2 : List (k.T × v.T)} (hb : getB h r = .mp k v l) {L : Loc} (hL : ρ.loc r = some L) {w1 : World} (h1 : w1.heap = w.heap) (ht : w1.tape = w.tape) (hos : w1.os = w.os) (hout : w1.output = w.output)
    {es : Array MapEntry} {c : Nat} (hm : MR ρ k v l2 es.toList) (hc : ∀ e ∈ es.toList, e.born < c) :
    Sim B ρ (setB h r (.mp k v l2)) { w1 with heap := w1.heap.setIfInBounds L.blk (.map es c) } ∧ Frm ρ h w ρ (setB h r (.mp k v l2)) { w1 with heap := w1.heap.setIfInBounds L.blk (.map es c) } := by
  have hlt := (S.blk _ _ (getB_some hb rfl)).blk_lt rfl hL
  refine Sim.write S (getB_some hb rfl) rfl hL (by simp [h1]) (fun j hj => by simp only [h1]; rw [Array.getElem?_setIfInBounds_ne (Ne.symm hj)]) (fun L' hL' => ?_) ht hos hout
  rw [hL] at hL'; cases hL'
  exact ⟨es, c, by simp [h1, hlt], hm, hc⟩

theorem upd_sound (s : St) (S : Sim B ρ s.hp w) {o : Oper} {t kt vt : TypeId} {m x y : Operand} (ho : o.op = .mapUpdate t m x y) (hu : P.underlying t = some (.map kt vt)) {k v : RT} {ks : List CK} {d : TypeDesc} (K : KeyT P kt k ks d)
    {r : Nat} {l : List (k.T × v.T)} (hb : getB s.hp r = .mp k v l) (hm : VR ρ (.map (some r)) (val m)) {ax ay : AVal} (hx : VR ρ ax (val x)) (hy : VR ρ ay (val y)) {a : k.T} {b : v.T} (ha : k.decV ax = some a) (hbv : v.decV ay = some b)
    {kk : AVal → St → Option R} {r' : R} (he : kk (.tup []) { s with hp := setB s.hp r (.mp k v (mset l a b)), dt := r :: s.dt } = some r') : EGoal P B ρ s w val o kk r' := by
  generalize hvm : val m = vm at hm
  cases hm with
  | map hL =>
    rename_i L
    obtain ⟨es, clock, g2, g3, g4⟩ := S.blk _ _ (getB_some hb rfl) _ hL
    obtain ⟨c1, s1⟩ := decV_sound ha hx
    obtain ⟨c2, s2⟩ := decV_sound hbv hy
    have hchk := K.check (w := w) false c1 s1
    have hfnd := K.find (w := w) c1 s1 g3
    have hget := run_getObj (P := P) g2
    have keep : Keeps s { s with hp := setB s.hp r (.mp k v (mset l a b)), dt := r :: s.dt } := ⟨rfl, [r], rfl, fun i hi hni => getB_setB_ne (by simpa using hni)⟩
    rcases pos_find (x := a) g3 0 with ⟨p1, p2⟩ | ⟨j, y', e, p1, p2, p3, p4, p5, _, x', p6, p7, p8⟩
    · have hrun : (execOp val o).run P w = .ok .skip { w with heap := w.heap.setIfInBounds L.blk (.map (es.push { key := val x, val := val y, born := clock }) (clock + 1)) } := by
        simp only [execOp, ho, hvm, Instr.mapUpdate, run_underlying' hu, Sem.run_bind, Result.andThen_ok, hget, hchk, hfnd, p1, foundAt, Option.bind_none, run_setObj g2, Sem.run_pure]
      have hW := map_write S hb hL rfl rfl rfl rfl (es := es.push { key := val x, val := val y, born := clock }) (c := clock + 1) (l2 := mset l a b)
        (by rw [Array.toList_push]; exact MR_push c1 c2 s1 s2 g3 p1) (by
          intro e he
          rw [Array.toList_push] at he
          rcases List.mem_append.1 he with he | he
          · have := g4 e he; omega
          · simp at he; subst he; exact Nat.lt_succ_self _)
      exact EGoal.skip hrun ⟨⟨_, _, ρ, he, undef_VR, hW.1, hW.2, keep⟩⟩
    · simp only [Nat.zero_add] at p1
      have hes : es[j]? = some e := by rw [← p3]; simp
      obtain ⟨kv, w2, q1, q2, q3, q4, q5, q6⟩ := stays (P := P) e.key (val x) w
      have hrun : (execOp val o).run P w = .ok .skip { w2 with heap := w2.heap.setIfInBounds L.blk (.map (es.modify j fun e => { e with key := kv, val := val y }) clock) } := by
        simp only [execOp, ho, hvm, Instr.mapUpdate, run_underlying' hu, Sem.run_bind, Result.andThen_ok, hget, hchk, hfnd, p1, foundAt, Option.bind_some, Nat.sub_zero, p3, Option.map_some, hes, Option.getD_some, q1,
          run_setObj (show w2.heap[L.blk]? = _ by rw [q3]; exact g2), Sem.run_pure]
      have hkv : CR ρ (k.enc a) kv.cells.toList ∧ Shp k.isA kv := by
        rcases q2 with rfl | rfl
        · exact ⟨c1, s1⟩
        · rw [same_enc p7]
          exact ⟨p8, by assumption⟩
      have hW := map_write S hb hL q3 q4 q5 q6 (es := es.modify j fun e => { e with key := kv, val := val y }) (c := clock) (l2 := mset l a b)
        (by rw [Array.toList_modify]; exact MR_set (f := fun e => { e with key := kv, val := val y }) (i := 0) (fun e => ⟨rfl, c2, s2⟩) (fun e x' _ _ _ => hkv) g3 (by rw [p1, Nat.zero_add])) (by
          intro e he
          rw [Array.toList_modify] at he
          obtain ⟨i, hi, he'⟩ := List.mem_iff_getElem.1 he
          rw [List.getElem_modify] at he'
          have hi' : i < es.toList.length := by simpa using hi
          have := g4 _ (List.getElem_mem hi')
          split at he' <;> (subst he'; exact this))
      exact EGoal.skip hrun ⟨⟨_, _, ρ, he, undef_VR, hW.1, hW.2, keep⟩⟩

theorem run_builtin2 {o : Oper} {b : Builtin} {x y : Operand} {ts : Array TypeId} (ho : o.op = .call { callee := .builtin b, args := #[x, y], argTypes := ts }) {v' : Value} {w' : World}
    (h : ∀ cs, (builtin b ts o.type cs #[val x, val y]).run P w = .ok (.value v') w') : (execOp val o).run P w = .ok (.value v') w' := by
  unfold execOp
  simp only [ho, resolve, invoke, Sem.run_bind, Sem.run_pure, Result.andThen_ok, List.map_toArray, List.map_cons, List.map_nil, h]
theorem run_builtin1 {o : Oper} {b : Builtin} {x : Operand} {ts : Array TypeId} (ho : o.op = .call { callee := .builtin b, args := #[x], argTypes := ts }) {v' : Value} {w' : World}
    (h : ∀ cs, (builtin b ts o.type cs #[val x]).run P w = .ok (.value v') w') : (execOp val o).run P w = .ok (.value v') w' := by
  unfold execOp
  simp only [ho, resolve, invoke, Sem.run_bind, Sem.run_pure, Result.andThen_ok, List.map_toArray, List.map_cons, List.map_nil, h]

theorem del_sound (s : St) (S : Sim B ρ s.hp w) {o : Oper} {t kt vt tk : TypeId} {m x : Operand} (ho : o.op = .call { callee := .builtin .delete, args := #[m, x], argTypes := #[t, tk] }) (hu : P.underlying t = some (.map kt vt)) {k v : RT} {ks : List CK} {d : TypeDesc} (K : KeyT P kt k ks d)
    {r : Nat} {l : List (k.T × v.T)} (hb : getB s.hp r = .mp k v l) (hm : VR ρ (.map (some r)) (val m)) {ax : AVal} (hx : VR ρ ax (val x)) {a : k.T} (ha : k.decV ax = some a)
    {kk : AVal → St → Option R} {r' : R} (he : kk (.tup []) { s with hp := setB s.hp r (.mp k v (mdel l a)), dt := r :: s.dt } = some r') : EGoal P B ρ s w val o kk r' := by
  generalize hvm : val m = vm at hm
  cases hm with
  | map hL =>
    rename_i L
    obtain ⟨es, clock, g2, g3, g4⟩ := S.blk _ _ (getB_some hb rfl) _ hL
    obtain ⟨c1, s1⟩ := decV_sound ha hx
    have hchk := K.check (w := w) es.isEmpty c1 s1
    have hfnd := K.find (w := w) c1 s1 g3
    have hget := run_getObj (P := P) g2
    have keep : Keeps s { s with hp := setB s.hp r (.mp k v (mdel l a)), dt := r :: s.dt } := ⟨rfl, [r], rfl, fun i hi hni => getB_setB_ne (by simpa using hni)⟩
    rcases pos_find (x := a) g3 0 with ⟨p1, p2⟩ | ⟨j, y', e, p1, p2, p3, p4, p5, _, x', p6, p7, p8⟩
    · have hrun : (execOp val o).run P w = .ok (.value (.tuple #[])) { w with heap := w.heap.setIfInBounds L.blk (.map es clock) } := by
        refine run_builtin2 ho fun cs => ?_
        simp [builtin, Builtin.delete_, hvm, run_underlying' hu, Sem.run_bind, Result.andThen_ok, hget, hchk, hfnd, p1, foundAt, run_setObj g2]
      have hW := map_write S hb hL rfl rfl rfl rfl (es := es) (c := clock) (l2 := mdel l a) (by rw [mdel_none p1]; exact g3) g4
      exact EGoal.value hrun ⟨⟨_, _, ρ, he, undef_VR, hW.1, hW.2, keep⟩⟩
    · simp only [Nat.zero_add] at p1
      have hes : es[j]? = some e := by rw [← p3]; simp
      have hrun : (execOp val o).run P w = .ok (.value (.tuple #[])) { w with heap := w.heap.setIfInBounds L.blk (.map (es.eraseIdxIfInBounds j) clock) } := by
        refine run_builtin2 ho fun cs => ?_
        simp [builtin, Builtin.delete_, hvm, run_underlying' hu, Sem.run_bind, Result.andThen_ok, hget, hchk, hfnd, p1, foundAt, hes, p3, run_setObj g2]
      have htl : (es.eraseIdxIfInBounds j).toList = es.toList.eraseIdx j := by
        have hj : j < es.size := (Array.getElem?_eq_some_iff.1 hes).1
        simp [Array.eraseIdxIfInBounds, hj]
      have hW := map_write S hb hL rfl rfl rfl rfl (es := es.eraseIdxIfInBounds j) (c := clock) (l2 := mdel l a) (by rw [htl]; exact MR_del (i := 0) g3 (by rw [p1, Nat.zero_add])) (by
        intro e he
        rw [htl] at he
        exact g4 e (List.mem_of_mem_eraseIdx he))
      exact EGoal.value hrun ⟨⟨_, _, ρ, he, undef_VR, hW.1, hW.2, keep⟩⟩

theorem clrm_sound (s : St) (S : Sim B ρ s.hp w) {o : Oper} {t kt vt : TypeId} {m : Operand} (ho : o.op = .call { callee := .builtin .clear, args := #[m], argTypes := #[t] }) (hu : P.underlying t = some (.map kt vt)) {k v : RT}
    {r : Nat} {l : List (k.T × v.T)} (hb : getB s.hp r = .mp k v l) (hm : VR ρ (.map (some r)) (val m))
    {kk : AVal → St → Option R} {r' : R} (he : kk (.tup []) { s with hp := setB s.hp r (.mp k v []), dt := r :: s.dt } = some r') : EGoal P B ρ s w val o kk r' := by
  generalize hvm : val m = vm at hm
  cases hm with
  | map hL =>
    rename_i L
    obtain ⟨es, clock, g2, g3, g4⟩ := S.blk _ _ (getB_some hb rfl) _ hL
    have hget := run_getObj (P := P) g2
    have keep : Keeps s { s with hp := setB s.hp r (.mp k v []), dt := r :: s.dt } := ⟨rfl, [r], rfl, fun i hi hni => getB_setB_ne (by simpa using hni)⟩
    have hrun : (execOp val o).run P w = .ok (.value (.tuple #[])) { w with heap := w.heap.setIfInBounds L.blk (.map #[] clock) } := by
      refine run_builtin1 ho fun cs => ?_
      simp [builtin, Builtin.clear_, hvm, run_underlying' hu, Sem.run_bind, Result.andThen_ok, hget, run_setObj g2]
    have hW := map_write S hb hL rfl rfl rfl rfl (es := #[]) (c := clock) (l2 := []) .nil (by simp)
    exact EGoal.value hrun ⟨⟨_, _, ρ, he, undef_VR, hW.1, hW.2, keep⟩⟩

end
end Go.Sx

/- Copying; clearing a slice. -/
set_option linter.unusedSimpArgs false
set_option linter.unusedVariables false
namespace Go.Sx
section
variable {P : Program} {B : Base} {ρ : Inj} {h : Heap} {w : World} {val : Operand → Value} {R : Type}

theorem CR_split : ∀ (p q : List AVal) (l' : List Value), CR ρ (p ++ q) l' → ∃ a b, l' = a ++ b ∧ CR ρ p a ∧ CR ρ q b
  | [], q, l', h => ⟨[], l', rfl, .nil, h⟩
  | v :: p, q, l', h => by
    cases h with
    | one hv hs hw t =>
      obtain ⟨a, b, rfl, h1, h2⟩ := CR_split p q _ t
      exact ⟨_ :: a, b, rfl, .one hv hs hw h1, h2⟩
    | wide hn hk t =>
      obtain ⟨a, b, rfl, h1, h2⟩ := CR_split p q _ t
      exact ⟨_ ++ a, b, by simp, .wide hn hk h1, h2⟩

theorem srcFirst (S : Sim B ρ h w) {t : RT} {x : AVal} {v' : Value} (hv : VR ρ x v') {xs : List t.T} (hs : srcRows h t x = some (true, xs)) {m : Nat} (hm : m ≤ xs.length) :
    (Builtin.lenOf v').run P w = .ok xs.length w ∧ ∃ news, CR ρ (encs t (xs.take m)) news ∧ (Builtin.firstCells t.sz m v').run P w = .ok news.toArray w := by
  have part : ∀ news, CR ρ (encs t xs) news → ∃ a b, news = a ++ b ∧ CR ρ (encs t (xs.take m)) a ∧ a.length = m * t.sz := by
    intro news hc
    rw [← List.take_append_drop m xs, encs_app] at hc
    obtain ⟨a, b, e, h1, h2⟩ := CR_split _ _ _ hc
    refine ⟨a, b, e, h1, ?_⟩
    rw [h1.width, encs_width, List.length_take]
    congr 1; omega
  have some_ : ∀ (news : List Value) (ad : Addr) (c : Nat), CR ρ (encs t xs) news → (∀ j u, news[j]? = some u → w.cell? (ad.add j) = some u) →
      ∃ news, CR ρ (encs t (xs.take m)) news ∧ (Builtin.firstCells t.sz m (.slice (some ad) xs.length c)).run P w = .ok news.toArray w := by
    intro news ad c hc hl
    obtain ⟨a, b, rfl, h1, h2⟩ := part news hc
    refine ⟨a, h1, run_firstCells_some w t.sz m ad xs.length c a h2 (fun j u hj => hl j u ?_)⟩
    rw [List.getElem?_append_left (List.getElem?_eq_some_iff.1 hj).1]; exact hj
  cases x with
  | slice p0 n cp =>
    cases p0 with
    | some p =>
      obtain ⟨news, g1, g2, g3⟩ := srcRows_at S hv.slV hs
      have hV := hv.slV
      cases hV with
      | nought a hp hn hc' =>
        rw [hn] at g2
        have hx : xs = [] := List.eq_nil_of_length_eq_zero g2
        subst hx
        have hm0 : m = 0 := by simpa using hm
        subst hm0
        refine ⟨rfl, [], .nil, ?_⟩
        cases a with
        | none => exact run_firstCells_none w _ _ _ _
        | some a => exact run_firstCells_some w t.sz 0 a 0 0 [] (by simp) (by simp)
      | there hL hn hc' hr =>
        rw [← g2]
        exact ⟨rfl, some_ news _ _ g1 (fun j u hj => by rw [addr_add]; exact g3 _ hL j u hj)⟩
    | none =>
      unfold srcRows at hs
      split at hs <;> try contradiction
      · simp only [Option.some.injEq, Prod.mk.injEq, true_and] at hs
        subst hs
        cases hv
        have hm0 : m = 0 := by simpa using hm
        subst hm0
        exact ⟨rfl, [], .nil, run_firstCells_none w _ _ _ _⟩
      all_goals (rename_i e; first | (cases e; done) | contradiction)
  | fby l =>
    unfold srcRows at hs
    simp only at hs
    split at hs <;> try contradiction
    simp only [Option.some.injEq, Prod.mk.injEq, true_and] at hs
    subst hs
    cases hv with
    | fby0 a c =>
      have hm0 : m = 0 := by simpa using hm
      subst hm0
      refine ⟨rfl, [], .nil, ?_⟩
      cases a with
      | none => exact run_firstCells_none w _ _ _ _
      | some a => exact run_firstCells_some w 1 0 a 0 c [] (by simp) (by simp)
    | fby hi h1 h2 h3 =>
      rename_i b o l0 i c
      obtain ⟨g1, g2, g3, _⟩ := S.imm _ _ _ hi
      have hmem : ∀ x ∈ l, IntKind.u8.has x := by
        intro x hx
        rw [h1] at hx
        exact g2 x (List.mem_of_mem_drop (List.mem_of_mem_take hx))
      refine ⟨rfl, some_ _ _ _ (enc_int_mk hmem) (fun j u hj => ?_)⟩
      rw [addr_add, Nat.add_assoc]
      refine g3 (i + j) u ?_
      rw [List.getElem?_map] at hj ⊢
      rw [h1, List.getElem?_take] at hj
      split at hj
      · rwa [List.getElem?_drop] at hj
      · simp at hj
  | str l =>
    unfold srcRows at hs
    simp only at hs
    split at hs <;> try contradiction
    simp only [Option.some.injEq, Prod.mk.injEq, true_and] at hs
    subst hs
    obtain ⟨s, rfl, hs'⟩ := hv.str_inv
    have hlen : s.size = l.length := by rw [← hs']; unfold bytesI; rw [List.length_map, Array.length_toList]; rfl
    have hmem : ∀ x ∈ l, IntKind.u8.has x := by
      intro x hx
      rw [← hs'] at hx
      obtain ⟨b, _, rfl⟩ := List.mem_map.1 hx
      have := b.toNat_lt
      constructor <;> simp [IntKind.min, IntKind.max, IntKind.signed, IntKind.bits]; omega
    refine ⟨by rw [← hlen]; rfl, (l.take m).map (fun x => Value.int .u8 x), enc_int_mk (fun x hx => hmem x (List.mem_of_mem_take hx)), ?_⟩
    simp only [Builtin.firstCells, Sem.run_pure]
    congr 1
    rw [← hs']
    apply Array.ext'
    simp [bytesI, List.map_take]
    rfl
  | _ => simp [srcRows] at hs

theorem run_copyOp {o : Oper} {x y : Operand} {t tx e : TypeId} (ho : o.op = .call { callee := .builtin .copy, args := #[x, y], argTypes := #[t, tx] }) (hu : P.underlying t = some (.slice e)) {n : Nat} (hz : sz? P e = some n)
    {b off dl dc sl m : Nat} (hx : val x = .slice (some ⟨b, off, none⟩) dl dc) (hl : (Builtin.lenOf (val y)).run P w = .ok sl w) (hm : m = min sl dl) {news : List Value} (hf : (Builtin.firstCells n m (val y)).run P w = .ok news.toArray w)
    (h1 : ∀ u ∈ news, u.oneCell' = true) {k : Nat} (hfr : Free w b k) (hk : off + news.length ≤ k) :
    (execOp val o).run P w = .ok (.value (.int .i64 (m : Int))) (w.setCells b off news) := by
  have hst := run_storeCells_cells (P := P) b off news 0 w (fun j hj => (hfr _ (by omega)).1) (fun j hj => (hfr _ (by omega)).2) h1
  simp only [Nat.add_zero] at hst
  have hm' : m = Nat.min sl dl := hm
  refine run_builtin2 ho fun cs => ?_
  simp only [builtin, Builtin.copy_, Sem.run_bind, List.getElem?_toArray]
  simp [run_underlying' hu, Sem.run_bind, hx, hl, run_sizeOf' (P := P) (w := w) hz, ← hm', hf, hst, goInt]

/-- A wide cell's numbers, others laid over the first ones. -/
theorem over_wide {c : List AVal} {l' : List Value} (hc : CR ρ c l') {o : Nat} {k : IntKind} {m : Nat} {ys xs : List Int} {rest : List AVal} (hd : dropW c o = some (.ai k m ys :: rest)) (hx : xs.length ≤ m) (hxs : ∀ x ∈ xs, k.has x)
    {r : List AVal} (hp : putW c o [.ai k m (over ys 0 xs)] = some r) : o + m ≤ l'.length ∧ CR ρ r (l'.take o ++ (xs.map (fun x => Value.int k x) ++ l'.drop (o + xs.length))) := by
  obtain ⟨h1, h2⟩ := dropW_CR hc hd
  have h2' : ∃ l2, l'.drop o = ys.map (fun x => Value.int k x) ++ l2 ∧ ys.length = m ∧ ∀ x ∈ ys, k.has x := by
    generalize l'.drop o = dr at h2
    cases h2 with
    | one hv hs hw1 t => cases hv; simp [Value.oneCell'] at hs
    | wide hn hk t => exact ⟨_, rfl, hn, hk⟩
  obtain ⟨l2, hdr, hn, hk⟩ := h2'
  have hol : (over ys 0 xs).length = m := by simp [over]; omega
  have hok : ∀ x ∈ over ys 0 xs, k.has x := by
    intro x hx'
    simp only [over, List.take_zero, List.nil_append, Nat.zero_add, List.mem_append] at hx'
    rcases hx' with hx' | hx'
    · exact hxs x hx'
    · exact hk x (List.mem_of_mem_drop hx')
  have hcw := CR.wide (ρ := ρ) hol hok .nil
  rw [List.append_nil] at hcw
  obtain ⟨q1, q2⟩ := putW_CR hc hcw hp
  simp only [List.length_map, hol] at q1 q2
  refine ⟨q1, ?_⟩
  have e : l'.take o ++ (xs.map (fun x => Value.int k x) ++ l'.drop (o + xs.length)) = l'.take o ++ ((over ys 0 xs).map (fun x => Value.int k x) ++ l'.drop (o + m)) := by
    congr 1
    have e1 : l'.drop (o + xs.length) = (l'.drop o).drop xs.length := by rw [List.drop_drop]
    have e2 : l'.drop (o + m) = (l'.drop o).drop m := by rw [List.drop_drop]
    rw [e1, e2, hdr]
    simp only [over, List.take_zero, List.nil_append, Nat.zero_add, List.map_append, List.append_assoc]
    congr 1
    rw [List.drop_append, List.drop_append, List.length_map, hn, List.map_drop]
    rw [show xs.length - m = 0 by omega, Nat.sub_self]
    have e3 : (List.map (fun x => Value.int k x) ys).drop m = [] := List.drop_eq_nil_of_le (by simp; omega)
    rw [e3]
    simp
  rw [e]
  exact q2

/-- A block said otherwise, memory as it is. -/
theorem Sim.swap (S : Sim B ρ h w) {id : Nat} {b0 b : Blk} (hb : h[id]? = some b0) (hrw : b0.rw = true) (hbr : BR ρ w id b) : Sim B ρ (setB h id b) w ∧ Frm ρ h w ρ (setB h id b) w := by
  have T : Stp B ρ h w ρ (setB h id b) w id (fun x => ∃ L, ρ.loc id = some L ∧ L.blk = x) := by
    refine ⟨.refl ρ, by rw [setB_length]; exact S.n, by rw [setB_length]; exact Nat.le_refl _, Nat.le_refl _, fun j _ _ => rfl, fun j ⟨L, hL, hj⟩ => ⟨id, b0, L, hb, hrw, hL, hj⟩, ?_, ?_, fun _ _ _ h => .inl h⟩
    · intro i bi hi hl hne
      rw [setB_get, if_neg hne] at hi
      refine ⟨hi, rfl, fun L' hL' ⟨L, hL, e⟩ => ?_⟩
      exact S.sep id i b0 bi L L' hb hi (Ne.symm hne) (Blk.live_of_rw hrw) hl hrw hL hL' e
    · intro bi hi hl
      rw [setB_get, if_pos rfl, hb] at hi
      simp at hi
      subst hi
      exact ⟨hbr, fun L' hL' => .inl ⟨L', hL', rfl⟩⟩
  exact ⟨T.sim S, T.frm S (fun _ _ => rfl) rfl rfl rfl⟩

theorem copy_sound (s : St) (S : Sim B ρ s.hp w) {o : Oper} {x y : Operand} {t tx e : TypeId} (ho : o.op = .call { callee := .builtin .copy, args := #[x, y], argTypes := #[t, tx] })
    (hu : P.underlying t = some (.slice e)) {rt : RT} (hrt : rtOk P e rt = true) {d a : AVal} (hx : VR ρ d (val x)) (hy : VR ρ a (val y)) {k : AVal → St → Option R} {r : R} (he : copyTo s rt d a k = some r) : EGoal P B ρ s w val o k r := by
  obtain ⟨i, z, I⟩ := rtOk_info hrt
  have hz : sz? P e = some rt.sz := by simp [sz?, I.info, I.size]
  unfold copyTo at he
  split at he <;> try contradiction
  rename_i p n cp c xs hsrc
  split at he <;> try contradiction
  rename_i ln hlen
  have hcs := cond_some he
  clear he
  obtain ⟨hcc, he⟩ := hcs
  simp only [Bool.and_eq_true, decide_eq_true_eq] at hcc
  obtain ⟨rfl, hlim⟩ := hcc
  obtain ⟨f1, news, f2, f3⟩ := srcFirst (P := P) S hy hsrc (m := min xs.length ln) (Nat.min_le_left _ _)
  have hte : xs.take (min xs.length ln) = xs.take ln := by
    rcases Nat.le_total xs.length ln with h' | h'
    · rw [Nat.min_eq_left h', List.take_of_length_le (Nat.le_refl _), List.take_of_length_le h']
    · rw [Nat.min_eq_right h']
  rw [hte] at f2
  have hnl : news.length = min xs.length ln * rt.sz := by rw [f2.width, encs_width, List.length_take, Nat.min_comm]
  have hln := lenOf_sound S hlen
  have hV := hx.slV
  have hint : ∀ ρ', VR ρ' (.int .i64 (min xs.length ln : Nat)) (.int .i64 ((min xs.length ln : Nat) : Int)) := fun ρ' => .int (by
    have : min xs.length ln ≤ lim := Nat.le_trans (Nat.min_le_right _ _) hlim
    unfold lim at this
    constructor <;> simp [IntKind.min, IntKind.max, IntKind.signed, IntKind.bits] <;> omega)
  -- nothing is copied
  have nought : ln = 0 → ∀ ad, val x = .slice ad 0 0 → (execOp val o).run P w = .ok (.value (.int .i64 ((min xs.length ln : Nat) : Int))) w := by
    intro h0 ad hvx
    subst h0
    have hn0 : news = [] := List.eq_nil_of_length_eq_zero (by rw [hnl]; simp)
    subst hn0
    refine run_builtin2 ho fun cs => ?_
    have hm0 : Nat.min xs.length 0 = 0 := Nat.min_zero _
    rw [Nat.min_zero] at f3
    cases ad <;> simp [builtin, Builtin.copy_, run_underlying' hu, Sem.run_bind, hvx, f1, run_sizeOf' (P := P) (w := w) hz, hm0, f3, goInt, storeCells]
  split at he <;> try contradiction
  · rename_i t' l hb
    have hbk := getB_some hb rfl
    obtain ⟨g0, g1⟩ := S.blk _ _ hbk
    split at he
    · rename_i e'
      subst e'
      split at he <;> try contradiction
      rename_i hrs
      obtain ⟨hrs, hoff⟩ := hrs
      have hcs := cond_some he
      clear he
      obtain ⟨hfit, he⟩ := hcs
      have hfit' : p.row + ln ≤ l.length := by simpa using hfit
      generalize hvx : val x = vx at hV
      cases hV with
      | nought ad hp hn hc' =>
        have h0 : ln = 0 := by rw [← hln]; exact hn
        have hrun := nought h0 ad hvx
        have hov : over l p.row (xs.take ln) = l := by simp [over, h0]
        rw [hov] at he
        have hsame : setB s.hp p.id (.rows false t' l) = s.hp := by
          apply List.ext_getElem?
          intro j
          rw [setB_get]
          split
          · rename_i hj; subst hj; rw [hbk]; rfl
          · rfl
        rw [hsame] at he
        exact EGoal.value hrun ⟨⟨_, _, ρ, he, hint ρ, S, Frm.refl, rfl, [p.id], rfl, fun _ _ _ => rfl⟩⟩
      | there hL hn hc' hr =>
        rename_i L cc
        obtain ⟨_, g3, g4⟩ := g1 L hL
        obtain ⟨g5, g6⟩ := g4 rfl
        have hin : L.base + (p.row * p.rs + p.off) + news.length ≤ L.size := by
          have h1 : (p.row + min xs.length ln) * t'.sz ≤ l.length * t'.sz := Nat.mul_le_mul_right _ (by omega)
          rw [Nat.add_mul] at h1
          rw [hoff, hrs, hnl]; omega
        have hrun := run_copyOp ho hu hz (w := w) (m := min xs.length ln) hvx f1 (by rw [hln]) f3 f2.scalars g6 hin
        have hpos : L.base + (p.row * p.rs + p.off) = L.base + p.row * t'.sz := by rw [hoff, hrs, Nat.add_zero]
        rw [hpos] at hrun
        have hW := Sim.write S hbk rfl hL (w' := w.setCells L.blk (L.base + p.row * t'.sz) news) (setCells_size _ _ _ _) (fun j hj => setCells_other _ _ _ _ j hj)
          (over_BR S hb hL (.refl ρ) rfl hL f2 (by simp; omega)) (setCells_rest _ _ _ _).1 (setCells_rest _ _ _ _).2.1 (setCells_rest _ _ _ _).2.2
        exact EGoal.value hrun ⟨⟨_, _, ρ, he, hint ρ, hW.1, hW.2, rfl, [p.id], rfl, fun j hj hno => getB_setB_ne (by simpa using hno)⟩⟩
    · split at he <;> try contradiction
      rename_i kk xs hne _
      split at he <;> try contradiction
      rename_i k' wd ys rest hdw
      split at he <;> try contradiction
      rename_i hkk
      obtain ⟨rfl, hrs⟩ := hkk
      split at he <;> try contradiction
      rename_i y hy'
      have hcs := cond_some he
      clear he
      obtain ⟨hfit, he⟩ := hcs
      simp only [Bool.and_eq_true, decide_eq_true_eq] at hfit
      obtain ⟨hlt, hwd⟩ := hfit
      obtain ⟨rr, hp, hdec⟩ := Option.bind_eq_some_iff.1 hy'
      have hg : l.getD p.row t'.dft = l[p.row] := by simp [hlt]
      rw [hg] at hdw hp
      generalize hvx : val x = vx at hV
      cases hV with
      | nought ad hp' hn hc' =>
        have h0 : ln = 0 := by rw [← hln]; exact hn
        have hrun := nought h0 ad hvx
        have hW := Sim.swap S hbk rfl (b := .rows false t' (l.set p.row y)) ⟨by simpa using g0, fun L hL => by
          obtain ⟨g2, g3, g4⟩ := g1 L hL
          refine ⟨fun i z hz' => ?_, g3, by simpa using g4⟩
          by_cases hi : i = p.row
          · subst hi
            have : z = y := by simpa [hlt] using hz'.symm
            subst this
            obtain ⟨l', c1, c2⟩ := g2 p.row l[p.row] (by simp [hlt])
            obtain ⟨e1, e2⟩ := enc_int_CR f2
            obtain ⟨q1, q2⟩ := over_wide c1 hdw (xs := xs.take ln) (by simp; omega) e2 hp
            rw [h0] at q2
            simp only [List.take_zero, List.map_nil, List.length_nil, Nat.add_zero, List.nil_append, List.take_append_drop] at q2
            exact ⟨l', by rw [t'.enc_dec _ _ hdec]; exact q2, c2⟩
          · rw [List.getElem?_set_ne (Ne.symm hi)] at hz'
            exact g2 i z hz'⟩
        exact EGoal.value hrun ⟨⟨_, _, ρ, he, hint ρ, hW.1, hW.2, rfl, [p.id], rfl, fun j hj hno => getB_setB_ne (by simpa using hno)⟩⟩
      | there hL hn hc' hr =>
        rename_i L cc
        obtain ⟨g2, g3, g4⟩ := g1 L hL
        obtain ⟨g5, g6⟩ := g4 rfl
        obtain ⟨l', c1, c2⟩ := g2 p.row l[p.row] (by simp [hlt])
        obtain ⟨e1, e2⟩ := enc_int_CR f2
        obtain ⟨q1, q2⟩ := over_wide c1 hdw (xs := xs.take ln) (by simp; omega) e2 hp
        have hw' : l'.length = t'.sz := by rw [c1.width, t'.widths_enc]
        have hmul : p.row * t'.sz + t'.sz ≤ l.length * t'.sz := by
          have : (p.row + 1) * t'.sz ≤ l.length * t'.sz := Nat.mul_le_mul_right _ hlt
          rw [Nat.add_mul] at this; omega
        have hnl' : news.length ≤ wd := by rw [e1]; simp; omega
        have hin : L.base + (p.row * p.rs + p.off) + news.length ≤ L.size := by rw [hrs]; omega
        have hrun := run_copyOp ho hu hz (w := w) (m := min xs.length ln) hvx f1 (by rw [hln]) f3 f2.scalars g6 hin
        have hnl2 : news.length = (xs.take ln).length := by rw [e1]; simp
        have hW := Sim.write S hbk rfl hL (w' := w.setCells L.blk (L.base + (p.row * p.rs + p.off)) news) (setCells_size _ _ _ _) (fun j hj => setCells_other _ _ _ _ j hj) (b := .rows false t' (l.set p.row y)) ⟨by simpa using g0, fun L' hL' => by
          rw [hL] at hL'; cases hL'
          refine ⟨fun i z hz' => ?_, by rw [setCells_size]; exact g3, fun _ => ⟨by simpa using g5, g6.set hin⟩⟩
          by_cases hi : i = p.row
          · subst hi
            have : z = y := by simpa [hlt] using hz'.symm
            subst this
            refine ⟨_, by rw [t'.enc_dec _ _ hdec]; exact q2, ?_⟩
            rw [← e1, ← hnl2]
            have := Lies.set (k := L.base + p.row * t'.sz) (i := p.off) (vs := news) c2 g6 (by omega) (by omega)
            rw [Nat.add_assoc, ← hrs] at this
            rw [← hrs]
            exact this
          · rw [List.getElem?_set_ne (Ne.symm hi)] at hz'
            obtain ⟨m, d1, d2⟩ := g2 i z hz'
            have hm : m.length = t'.sz := by rw [d1.width, t'.widths_enc]
            refine ⟨m, d1, d2.apart ?_⟩
            rw [hm, hrs]
            rcases Nat.lt_or_gt_of_ne hi with hlt' | hgt'
            · left
              have : (i + 1) * t'.sz ≤ p.row * t'.sz := Nat.mul_le_mul_right _ hlt'
              rw [Nat.add_mul] at this; omega
            · right
              have : (p.row + 1) * t'.sz ≤ i * t'.sz := Nat.mul_le_mul_right _ hgt'
              rw [Nat.add_mul] at this; omega⟩ (setCells_rest _ _ _ _).1 (setCells_rest _ _ _ _).2.1 (setCells_rest _ _ _ _).2.2
        exact EGoal.value hrun ⟨⟨_, _, ρ, he, hint ρ, hW.1, hW.2, rfl, [p.id], rfl, fun j hj hno => getB_setB_ne (by simpa using hno)⟩⟩
  · rename_i cs hb
    have hbk := getB_some hb rfl
    split at he <;> try contradiction
    rename_i kk xs _
    split at he <;> try contradiction
    rename_i k' wd ys rest hdw
    split at he <;> try contradiction
    rename_i hkk
    subst hkk
    split at he <;> try contradiction
    rename_i cs' hp
    have hcs := cond_some he
    clear he
    obtain ⟨hwd, he⟩ := hcs
    have hwd : ln ≤ wd := by simpa using hwd
    generalize hvx : val x = vx at hV
    cases hV with
    | nought ad hp' hn hc' =>
      have h0 : ln = 0 := by rw [← hln]; exact hn
      have hrun := nought h0 ad hvx
      have hW := Sim.swap S hbk rfl (b := .cells cs') (fun L hL => by
        obtain ⟨l', b0, c1, c2, c3, g6, g3⟩ := S.blk _ _ hbk L hL
        obtain ⟨e1, e2⟩ := enc_int_CR f2
        obtain ⟨q1, q2⟩ := over_wide c1 hdw (xs := xs.take ln) (by simp; omega) e2 hp
        rw [h0] at q2
        simp only [List.take_zero, List.map_nil, List.length_nil, Nat.add_zero, List.nil_append, List.take_append_drop] at q2
        exact ⟨l', b0, q2, c2, c3, g6, g3⟩)
      exact EGoal.value hrun ⟨⟨_, _, ρ, he, hint ρ, hW.1, hW.2, rfl, [p.id], rfl, fun j hj hno => getB_setB_ne (by simpa using hno)⟩⟩
    | there hL hn hc' hr =>
      rename_i L cc
      obtain ⟨l', b0, c1, c2, c3, g6, g3⟩ := S.blk _ _ hbk L hL
      obtain ⟨e1, e2⟩ := enc_int_CR f2
      obtain ⟨q1, q2⟩ := over_wide c1 hdw (xs := xs.take ln) (by simp; omega) e2 hp
      have hnl' : news.length ≤ wd := by rw [e1]; simp; omega
      have hin : L.base + (p.row * p.rs + p.off) + news.length ≤ L.size := by rw [b0]; omega
      have hrun := run_copyOp ho hu hz (w := w) (m := min xs.length ln) hvx f1 (by rw [hln]) f3 f2.scalars g6 hin
      have hnl2 : news.length = (xs.take ln).length := by rw [e1]; simp
      rw [b0, Nat.zero_add] at hrun
      have hW := Sim.write S hbk rfl hL (w' := w.setCells L.blk (p.row * p.rs + p.off) news) (setCells_size _ _ _ _) (fun j hj => setCells_other _ _ _ _ j hj) (b := .cells cs') (fun L' hL' => by
          rw [hL] at hL'; cases hL'
          refine ⟨_, b0, q2, ?_, ?_, g6.set (by omega), by rw [setCells_size]; exact g3⟩
          · rw [← e1, ← hnl2]
            have := Lies.set (k := 0) (i := p.row * p.rs + p.off) (vs := news) c2 g6 (by omega) (by omega)
            simpa using this
          · simp only [List.length_append, List.length_take, List.length_drop, List.length_map]; omega) (setCells_rest _ _ _ _).1 (setCells_rest _ _ _ _).2.1 (setCells_rest _ _ _ _).2.2
      exact EGoal.value hrun ⟨⟨_, _, ρ, he, hint ρ, hW.1, hW.2, rfl, [p.id], rfl, fun j hj hno => getB_setB_ne (by simpa using hno)⟩⟩

end
end Go.Sx
