/- CoreQueries: each terminal is asked what it counts when the switch begins, when its power is back, and at each so-manieth tick; true for every k and ticks. Part Fm of the proof. Condition: the listed package variables hold what the program's text lays. -/
import Derived.Test.YtncpkgjihijjhaaGreatDoorFk
import Derived.Test.YtncpkgjihijjhaaGreatDoorFl
import Derived.Test.YtncpkgjihijjhaaGreatDoorFo
set_option linter.unusedVariables false
set_option linter.unusedSimpArgs false
noncomputable section
/- A run in parts: proofs. -/
set_option maxRecDepth 1000000
set_option linter.unusedVariables false
namespace Go.Sx
noncomputable section
theorem knw_p7  : Leads (EV TBK fr0 60) (.seq (partAt 7 b11.body) (.cut [0, 1, 3, 4, 5])) (knw_s7 ) (knw_s8 ) := Leads.of fun R K => by kernel_rfl
theorem knw_p8  : Leads (EV TBK fr0 60) (.seq (partAt 8 b11.body) (.cut [0, 1, 3, 5, 6, 7])) (knw_s8 ) (knw_s9 ) := Leads.of fun R K => by kernel_rfl
theorem knw_p9  : Leads (EV TBK fr0 60) (.seq (partAt 9 b11.body) (.cut [0])) (knw_s9 ) (knw_s10 ) := Leads.of fun R K => by kernel_rfl
theorem knw_end  : Ends (EV TBK fr0 60) (restAt 10 b11.body) (knw_s10 ) [.tmp 0] (knw_v ) (knw_h ) [] := Ends.of fun R k => by kernel_rfl
end
end Go.Sx

/- A run in parts: the whole. -/
set_option maxRecDepth 1000000
set_option linter.unusedVariables false
namespace Go.Sx
noncomputable section

def knw_f : AFunc := b11.cuts none [[0], [0, 1], [0, 1], [0, 1], [0, 1, 3], [0, 1, 3, 4], [0, 1, 3, 4], [0, 1, 3, 4, 5], [0, 1, 3, 5, 6, 7], [0]]
theorem knw_code : knw_f.body = (.seq (.seq (partAt 0 b11.body) (.cut [0])) (.seq (.seq (partAt 1 b11.body) (.cut [0, 1])) (.seq (.seq (partAt 2 b11.body) (.cut [0, 1])) (.seq (.seq (partAt 3 b11.body) (.cut [0, 1])) (.seq (.seq (partAt 4 b11.body) (.cut [0, 1, 3])) (.seq (.seq (partAt 5 b11.body) (.cut [0, 1, 3, 4])) (.seq (.seq (partAt 6 b11.body) (.cut [0, 1, 3, 4])) (.seq (.seq (partAt 7 b11.body) (.cut [0, 1, 3, 4, 5])) (.seq (.seq (partAt 8 b11.body) (.cut [0, 1, 3, 5, 6, 7])) (.seq (.seq (partAt 9 b11.body) (.cut [0])) (restAt 10 b11.body))))))))))) := by kernel_rfl
theorem knw_run  (R : Type) (k : AVal → Heap → List Nat → Option R) : exF (EV TBK fr0 60) knw_f [] [] k = k (knw_v ) (knw_h ) [] :=
  Ends.run (f := knw_f) (Leads.ends (knw_p0 ) (Leads.ends (knw_p1 ) (Leads.ends (knw_p2 ) (Leads.ends (knw_p3 ) (Leads.ends (knw_p4 ) (Leads.ends (knw_p5 ) (Leads.ends (knw_p6 ) (Leads.ends (knw_p7 ) (Leads.ends (knw_p8 ) (Leads.ends (knw_p9 ) (knw_end ))))))))))) knw_code R k

end
end Go.Sx

/- known(): a specification out of its run. -/
set_option maxRecDepth 1000000
set_option linter.unusedVariables false
namespace Go.Sx
open Go.Proofs
section
variable {B : Base}
theorem ok_Known (hB : Pow10 B) (E : Env) : CallOk Tryz.prog B 11 (spKnown E) := by
  intro ρ h w args vals R k r S hv he
  unfold spKnown at he
  split at he
  · obtain ⟨h1, E', h2, h3⟩ := EV_both mixedT (tabOkK hB (fun E _ => ok_Open E)) 60
    exact fn_sound mixedT (FnOk.cuts Tryz.func11 d11 _ _ : FnOk Tryz.prog B tt fr0 11 knw_f) h1 h2 h3 ρ _ w _ vals R k r S hv ((knw_run R k).trans he)
  · cases he
theorem tabOkQ' (hB : Pow10 B) : TabOk Tryz.prog B tt fr0 TBQ := tabOkQ hB (fun E _ => ok_Open E) (fun E _ => ok_Known hB E)
end
end Go.Sx
