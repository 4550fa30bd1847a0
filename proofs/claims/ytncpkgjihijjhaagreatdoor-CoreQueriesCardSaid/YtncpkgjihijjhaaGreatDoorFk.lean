/- CoreQueries: each terminal is asked what it counts when the switch begins, when its power is back, and at each so-manieth tick; true for every k and ticks. Part Fk of the proof. Condition: the listed package variables hold what the program's text lays. -/
import Derived.Test.YtncpkgjihijjhaaGreatDoorCc
import Derived.Test.YtncpkgjihijjhaaGreatDoorSc
import Derived.KernelRfl
set_option linter.unusedVariables false
set_option linter.unusedSimpArgs false
noncomputable section
/- The states of a run in parts. -/
set_option maxRecDepth 1000000
set_option linter.unusedVariables false
namespace Go.Sx
noncomputable section
def knw_s0  : St := startS 61 [] []
def knw_s1  : St := ⟨⟨(.nd (.bool false) .nil .nil), 61, 0⟩,
 [],
 []⟩
def knw_s2  : St := ⟨⟨(.nd (.bool false) (.nd (.ptr (some ⟨0, 0, 0, 0⟩)) .nil .nil) .nil), 61, 0⟩,
 [.cells [(.slice (some ⟨1, 16, 0, 0⟩) .all .opn), (.slice (some ⟨2, 1, 0, 0⟩) .all .opn), (.slice (some ⟨3, 1, 0, 0⟩) .all .opn), (.int .i64 500), (.int .i64 100000), (.ptr (some ⟨4, 0, 0, 0⟩)), (.slice none (.n 0) (.exact 0)), (.ptr (some ⟨8, 0, 0, 0⟩)), (.ptr (some ⟨12, 0, 0, 0⟩)), (.int .i64 0), (.map (some 13)), (.slice (some ⟨14, 2, 0, 0⟩) .all .opn), (.bool false), (.int .i64 0)],
  .rows false .c4 [⟨⟨1000, 9, 0, 0⟩, ⟨2000, 9, 0, 0⟩, ⟨5000, 100, 0, 0⟩, ⟨10000, 9, 0, 0⟩⟩],
  .rows false .str [[52, 48, 48, 48, 49, 50, 51, 52, 49, 50, 51, 52, 49, 50, 51, 52], [53, 49], [57], [54, 48, 49, 49, 48, 48, 48, 57, 57, 48, 49, 51, 57, 52, 50, 52]],
  .rows false (.int .i64) [0, 20000, 40000, 60000],
  .cells [(.ptr (some ⟨5, 0, 0, 0⟩)), (.int .i64 500), (.int .i64 0), (.int .i64 0), (.int .u32 0), (.slice none (.n 0) (.exact 0))],
  .cells [(.slice (some ⟨6, 64, 0, 0⟩) .all (.exact 1000)), (.slice (some ⟨7, 64, 0, 0⟩) .all (.exact 1000)), (.slice none (.n 0) (.exact 0)), (.int .i64 (-1)), (.bool false)],
  .rows false .sector (List.replicate 1000 (List.replicate 64 0)),
  .rows false .sector (List.replicate 1000 (List.replicate 64 0)),
  .cells [(.slice (some ⟨9, 18, 0, 0⟩) .all .opn), (.slice (some ⟨10, 18, 0, 0⟩) .all .opn), (.map (some 11))],
  .rows false .terml [⟨⟨⟨1000, 9, 0, 0⟩, ⟨2000, 9, 0, 0⟩, ⟨5000, 100, 0, 0⟩, ⟨10000, 9, 0, 0⟩⟩, false, 0⟩],
  .rows false .terml [⟨⟨⟨1000, 9, 0, 0⟩, ⟨2000, 9, 0, 0⟩, ⟨5000, 100, 0, 0⟩, ⟨10000, 9, 0, 0⟩⟩, false, 0⟩],
  .mp .key .txn [],
  .cells [(.slice none (.n 0) (.exact 0)), (.int .i64 0)],
  .mp .key (.int .i64) [],
  .rows false .out [⟨0, [51, 50, 28, 48, 28, 48]⟩]],
 []⟩
def knw_s3  : St := ⟨⟨(.nd (.bool false) (.nd (.ptr (some ⟨0, 0, 0, 0⟩)) .nil .nil) .nil), 61, 0⟩,
 [.cells [(.slice (some ⟨1, 16, 0, 0⟩) .all .opn), (.slice (some ⟨2, 1, 0, 0⟩) .all .opn), (.slice (some ⟨3, 1, 0, 0⟩) .all .opn), (.int .i64 500), (.int .i64 100000), (.ptr (some ⟨4, 0, 0, 0⟩)), (.slice none (.n 0) (.exact 0)), (.ptr (some ⟨8, 0, 0, 0⟩)), (.ptr (some ⟨12, 0, 0, 0⟩)), (.int .i64 0), (.map (some 13)), (.slice (some ⟨14, 2, 0, 0⟩) .all .opn), (.bool false), (.int .i64 0)],
  .rows false .c4 [⟨⟨1000, 9, 0, 0⟩, ⟨2000, 9, 0, 0⟩, ⟨5000, 100, 0, 0⟩, ⟨10000, 9, 0, 0⟩⟩],
  .rows false .str [[52, 48, 48, 48, 49, 50, 51, 52, 49, 50, 51, 52, 49, 50, 51, 52], [53, 49], [57], [54, 48, 49, 49, 48, 48, 48, 57, 57, 48, 49, 51, 57, 52, 50, 52]],
  .rows false (.int .i64) [0, 20000, 40000, 60000],
  .cells [(.ptr (some ⟨5, 0, 0, 0⟩)), (.int .i64 500), (.int .i64 0), (.int .i64 0), (.int .u32 0), (.slice none (.n 0) (.exact 0))],
  .cells [(.slice (some ⟨6, 64, 0, 0⟩) .all (.exact 1000)), (.slice (some ⟨7, 64, 0, 0⟩) .all (.exact 1000)), (.slice none (.n 0) (.exact 0)), (.int .i64 (-1)), (.bool false)],
  .rows false .sector (List.replicate 1000 (List.replicate 64 0)),
  .rows false .sector (List.replicate 1000 (List.replicate 64 0)),
  .cells [(.slice (some ⟨9, 18, 0, 0⟩) .all .opn), (.slice (some ⟨10, 18, 0, 0⟩) .all .opn), (.map (some 11))],
  .rows false .terml [⟨⟨⟨1000, 9, 0, 0⟩, ⟨2000, 9, 0, 0⟩, ⟨5000, 100, 0, 0⟩, ⟨10000, 9, 0, 0⟩⟩, false, 0⟩],
  .rows false .terml [⟨⟨⟨1000, 9, 0, 0⟩, ⟨2000, 9, 0, 0⟩, ⟨5000, 100, 0, 0⟩, ⟨10000, 9, 0, 0⟩⟩, false, 0⟩],
  .mp .key .txn [],
  .cells [(.slice none (.n 0) (.exact 0)), (.int .i64 0)],
  .mp .key (.int .i64) [],
  .rows false .out [⟨0, [51, 50, 28, 48, 28, 48]⟩]],
 []⟩
def knw_s4  : St := ⟨⟨(.nd (.bool false) (.nd (.ptr (some ⟨0, 0, 0, 0⟩)) .nil .nil) .nil), 61, 0⟩,
 [.cells [(.slice (some ⟨1, 16, 0, 0⟩) .all .opn), (.slice (some ⟨2, 1, 0, 0⟩) .all .opn), (.slice (some ⟨3, 1, 0, 0⟩) .all .opn), (.int .i64 500), (.int .i64 100000), (.ptr (some ⟨4, 0, 0, 0⟩)), (.slice none (.n 0) (.exact 0)), (.ptr (some ⟨8, 0, 0, 0⟩)), (.ptr (some ⟨12, 0, 0, 0⟩)), (.int .i64 0), (.map (some 13)), (.slice none (.n 0) (.exact 0)), (.bool false), (.int .i64 0)],
  .rows false .c4 [⟨⟨1000, 9, 0, 0⟩, ⟨2000, 9, 0, 0⟩, ⟨5000, 100, 0, 0⟩, ⟨10000, 9, 0, 0⟩⟩],
  .rows false .str [[52, 48, 48, 48, 49, 50, 51, 52, 49, 50, 51, 52, 49, 50, 51, 52], [53, 49], [57], [54, 48, 49, 49, 48, 48, 48, 57, 57, 48, 49, 51, 57, 52, 50, 52]],
  .rows false (.int .i64) [0, 20000, 40000, 60000],
  .cells [(.ptr (some ⟨5, 0, 0, 0⟩)), (.int .i64 500), (.int .i64 0), (.int .i64 0), (.int .u32 0), (.slice none (.n 0) (.exact 0))],
  .cells [(.slice (some ⟨6, 64, 0, 0⟩) .all (.exact 1000)), (.slice (some ⟨7, 64, 0, 0⟩) .all (.exact 1000)), (.slice none (.n 0) (.exact 0)), (.int .i64 (-1)), (.bool false)],
  .rows false .sector (List.replicate 1000 (List.replicate 64 0)),
  .rows false .sector (List.replicate 1000 (List.replicate 64 0)),
  .cells [(.slice (some ⟨9, 18, 0, 0⟩) .all .opn), (.slice (some ⟨10, 18, 0, 0⟩) .all .opn), (.map (some 11))],
  .rows false .terml [⟨⟨⟨1000, 9, 0, 0⟩, ⟨2000, 9, 0, 0⟩, ⟨5000, 100, 0, 0⟩, ⟨10000, 9, 0, 0⟩⟩, false, 0⟩],
  .rows false .terml [⟨⟨⟨1000, 9, 0, 0⟩, ⟨2000, 9, 0, 0⟩, ⟨5000, 100, 0, 0⟩, ⟨10000, 9, 0, 0⟩⟩, false, 0⟩],
  .mp .key .txn [],
  .cells [(.slice none (.n 0) (.exact 0)), (.int .i64 0)],
  .mp .key (.int .i64) []],
 []⟩
def knw_s5  : St := ⟨⟨(.nd (.bool false) (.nd (.ptr (some ⟨0, 0, 0, 0⟩)) (.nd (.slice (some ⟨16, 2, 0, 0⟩) .all .opn) .nil .nil) .nil) .nil), 61, 0⟩,
 [.cells [(.slice (some ⟨1, 16, 0, 0⟩) .all .opn), (.slice (some ⟨2, 1, 0, 0⟩) .all .opn), (.slice (some ⟨3, 1, 0, 0⟩) .all .opn), (.int .i64 500), (.int .i64 100000), (.ptr (some ⟨4, 0, 0, 0⟩)), (.slice (some ⟨9, 17, 0, 0⟩) .all .opn), (.ptr (some ⟨10, 0, 0, 0⟩)), (.ptr (some ⟨14, 0, 0, 0⟩)), (.int .i64 0), (.map (some 15)), (.slice none (.n 0) (.exact 0)), (.bool false), (.int .i64 0)],
  .rows false .c4 [⟨⟨1000, 9, 0, 0⟩, ⟨2000, 9, 0, 0⟩, ⟨5000, 100, 0, 0⟩, ⟨10000, 9, 0, 0⟩⟩],
  .rows false .str [[52, 48, 48, 48, 49, 50, 51, 52, 49, 50, 51, 52, 49, 50, 51, 52], [53, 49], [57], [54, 48, 49, 49, 48, 48, 48, 57, 57, 48, 49, 51, 57, 52, 50, 52]],
  .rows false (.int .i64) [0, 20000, 40000, 60000],
  .cells [(.ptr (some ⟨5, 0, 0, 0⟩)), (.int .i64 500), (.int .i64 0), (.int .i64 1), (.int .u32 1), (.slice (some ⟨8, 17, 0, 0⟩) .all .opn)],
  .cells [(.slice (some ⟨6, 64, 0, 0⟩) .all (.exact 1000)), (.slice (some ⟨7, 64, 0, 0⟩) .all (.exact 1000)), (.slice none (.n 0) (.exact 0)), (.int .i64 (-1)), (.bool false)],
  .rows false .sector ([0, 0, 0, 1, 0, 0, 0, 1, 44, 165, 38, 1, 0, 0, 0, 0, 0, 1, 0, 0, 3, 232, 0, 0, 0, 0, 0, 0, 0, 0, 0, 0, 0, 0, 0, 0, 0, 0, 0, 0, 0, 0, 0, 0, 0, 0, 2, 53, 49, 41, 167, 250, 139, 0, 0, 0, 0, 0, 0, 0, 0, 0, 0, 1] :: (List.replicate 999 (List.replicate 64 0))),
  .rows false .sector ([0, 0, 0, 1, 0, 0, 0, 1, 44, 165, 38, 1, 0, 0, 0, 0, 0, 1, 0, 0, 3, 232, 0, 0, 0, 0, 0, 0, 0, 0, 0, 0, 0, 0, 0, 0, 0, 0, 0, 0, 0, 0, 0, 0, 0, 0, 2, 53, 49, 41, 167, 250, 139, 0, 0, 0, 0, 0, 0, 0, 0, 0, 0, 1] :: (List.replicate 999 (List.replicate 64 0))),
  .rows false .rcd [⟨1, ⟨0, 1⟩, [53, 49], 1000, ⟨0, 0, 0, 0⟩, ⟨0, 0, 0, 0⟩, ⟨0, 0, 0, 0⟩⟩],
  .rows false .rcd [⟨1, ⟨0, 1⟩, [53, 49], 1000, ⟨0, 0, 0, 0⟩, ⟨0, 0, 0, 0⟩, ⟨0, 0, 0, 0⟩⟩],
  .cells [(.slice (some ⟨11, 18, 0, 0⟩) .all .opn), (.slice (some ⟨12, 18, 0, 0⟩) .all .opn), (.map (some 13))],
  .rows false .terml [⟨⟨⟨1000, 9, 0, 0⟩, ⟨2000, 9, 0, 0⟩, ⟨5000, 100, 0, 0⟩, ⟨10000, 9, 0, 0⟩⟩, false, 0⟩],
  .rows false .terml [⟨⟨⟨1000, 9, 0, 0⟩, ⟨2000, 9, 0, 0⟩, ⟨5000, 100, 0, 0⟩, ⟨10000, 9, 0, 0⟩⟩, false, 0⟩],
  .mp .key .txn [(⟨0, 1⟩, ⟨⟨0, 1⟩, [53, 49], 1000, 1, ⟨0, 0, 0, 0⟩, 0, 0⟩)],
  .cells [(.slice none (.n 0) (.exact 0)), (.int .i64 0)],
  .mp .key (.int .i64) [(⟨0, 1⟩, 0)],
  .rows false .out [⟨(-1), [2, 0, 112, 32, 0, 0, 0, 128, 0, 0, 2, 81, 1, 0, 0, 0, 0, 0, 0, 16, 0, 0, 0, 1, 84, 48, 48, 48, 48, 48, 48, 48]⟩]],
 []⟩
def knw_s6  : St := ⟨⟨(.nd (.bool false) (.nd (.ptr (some ⟨0, 0, 0, 0⟩)) (.nd (.slice (some ⟨16, 2, 0, 0⟩) .all .opn) .nil .nil) .nil) (.nd .unk (.nd (.ptr (some ⟨17, 0, 0, 0⟩)) .nil .nil) .nil)), 61, 0⟩,
 [.cells [(.slice (some ⟨1, 16, 0, 0⟩) .all .opn), (.slice (some ⟨2, 1, 0, 0⟩) .all .opn), (.slice (some ⟨3, 1, 0, 0⟩) .all .opn), (.int .i64 500), (.int .i64 100000), (.ptr (some ⟨4, 0, 0, 0⟩)), (.slice (some ⟨9, 17, 0, 0⟩) .all .opn), (.ptr (some ⟨10, 0, 0, 0⟩)), (.ptr (some ⟨14, 0, 0, 0⟩)), (.int .i64 0), (.map (some 15)), (.slice none (.n 0) (.exact 0)), (.bool false), (.int .i64 0)],
  .rows false .c4 [⟨⟨1000, 9, 0, 0⟩, ⟨2000, 9, 0, 0⟩, ⟨5000, 100, 0, 0⟩, ⟨10000, 9, 0, 0⟩⟩],
  .rows false .str [[52, 48, 48, 48, 49, 50, 51, 52, 49, 50, 51, 52, 49, 50, 51, 52], [53, 49], [57], [54, 48, 49, 49, 48, 48, 48, 57, 57, 48, 49, 51, 57, 52, 50, 52]],
  .rows false (.int .i64) [0, 20000, 40000, 60000],
  .cells [(.ptr (some ⟨5, 0, 0, 0⟩)), (.int .i64 500), (.int .i64 0), (.int .i64 1), (.int .u32 1), (.slice (some ⟨8, 17, 0, 0⟩) .all .opn)],
  .cells [(.slice (some ⟨6, 64, 0, 0⟩) .all (.exact 1000)), (.slice (some ⟨7, 64, 0, 0⟩) .all (.exact 1000)), (.slice none (.n 0) (.exact 0)), (.int .i64 (-1)), (.bool false)],
  .rows false .sector ([0, 0, 0, 1, 0, 0, 0, 1, 44, 165, 38, 1, 0, 0, 0, 0, 0, 1, 0, 0, 3, 232, 0, 0, 0, 0, 0, 0, 0, 0, 0, 0, 0, 0, 0, 0, 0, 0, 0, 0, 0, 0, 0, 0, 0, 0, 2, 53, 49, 41, 167, 250, 139, 0, 0, 0, 0, 0, 0, 0, 0, 0, 0, 1] :: (List.replicate 999 (List.replicate 64 0))),
  .rows false .sector ([0, 0, 0, 1, 0, 0, 0, 1, 44, 165, 38, 1, 0, 0, 0, 0, 0, 1, 0, 0, 3, 232, 0, 0, 0, 0, 0, 0, 0, 0, 0, 0, 0, 0, 0, 0, 0, 0, 0, 0, 0, 0, 0, 0, 0, 0, 2, 53, 49, 41, 167, 250, 139, 0, 0, 0, 0, 0, 0, 0, 0, 0, 0, 1] :: (List.replicate 999 (List.replicate 64 0))),
  .rows false .rcd [⟨1, ⟨0, 1⟩, [53, 49], 1000, ⟨0, 0, 0, 0⟩, ⟨0, 0, 0, 0⟩, ⟨0, 0, 0, 0⟩⟩],
  .rows false .rcd [⟨1, ⟨0, 1⟩, [53, 49], 1000, ⟨0, 0, 0, 0⟩, ⟨0, 0, 0, 0⟩, ⟨0, 0, 0, 0⟩⟩],
  .cells [(.slice (some ⟨11, 18, 0, 0⟩) .all .opn), (.slice (some ⟨12, 18, 0, 0⟩) .all .opn), (.map (some 13))],
  .rows false .terml [⟨⟨⟨1000, 9, 0, 0⟩, ⟨2000, 9, 0, 0⟩, ⟨5000, 100, 0, 0⟩, ⟨10000, 9, 0, 0⟩⟩, false, 0⟩],
  .rows false .terml [⟨⟨⟨1000, 9, 0, 0⟩, ⟨2000, 9, 0, 0⟩, ⟨5000, 100, 0, 0⟩, ⟨10000, 9, 0, 0⟩⟩, false, 0⟩],
  .mp .key .txn [(⟨0, 1⟩, ⟨⟨0, 1⟩, [53, 49], 1000, 1, ⟨0, 0, 0, 0⟩, 0, 0⟩)],
  .cells [(.slice none (.n 0) (.exact 0)), (.int .i64 0)],
  .mp .key (.int .i64) [(⟨0, 1⟩, 0)],
  .rows false .out [⟨(-1), [2, 0, 112, 32, 0, 0, 0, 128, 0, 0, 2, 81, 1, 0, 0, 0, 0, 0, 0, 16, 0, 0, 0, 1, 84, 48, 48, 48, 48, 48, 48, 48]⟩],
  .cells [(.int .u16 0), (.int .u32 1)]],
 []⟩
def knw_s7  : St := ⟨⟨(.nd (.bool false) (.nd (.ptr (some ⟨0, 0, 0, 0⟩)) (.nd (.slice (some ⟨17, 2, 0, 0⟩) .all .opn) .nil .nil) .nil) (.nd .unk (.nd (.ptr (some ⟨18, 0, 0, 0⟩)) .nil .nil) .nil)), 61, 0⟩,
 [.cells [(.slice (some ⟨1, 16, 0, 0⟩) .all .opn), (.slice (some ⟨2, 1, 0, 0⟩) .all .opn), (.slice (some ⟨3, 1, 0, 0⟩) .all .opn), (.int .i64 500), (.int .i64 100000), (.ptr (some ⟨4, 0, 0, 0⟩)), (.slice (some ⟨9, 17, 0, 0⟩) .all .opn), (.ptr (some ⟨10, 0, 0, 0⟩)), (.ptr (some ⟨14, 0, 0, 0⟩)), (.int .i64 0), (.map (some 15)), (.slice (some ⟨16, 2, 0, 0⟩) .all .opn), (.bool false), (.int .i64 0)],
  .rows false .c4 [⟨⟨1000, 9, 0, 0⟩, ⟨2000, 9, 0, 0⟩, ⟨5000, 100, 0, 0⟩, ⟨10000, 9, 0, 0⟩⟩],
  .rows false .str [[52, 48, 48, 48, 49, 50, 51, 52, 49, 50, 51, 52, 49, 50, 51, 52], [53, 49], [57], [54, 48, 49, 49, 48, 48, 48, 57, 57, 48, 49, 51, 57, 52, 50, 52]],
  .rows false (.int .i64) [0, 20000, 40000, 60000],
  .cells [(.ptr (some ⟨5, 0, 0, 0⟩)), (.int .i64 500), (.int .i64 0), (.int .i64 3), (.int .u32 2), (.slice (some ⟨8, 17, 0, 0⟩) .all .opn)],
  .cells [(.slice (some ⟨6, 64, 0, 0⟩) .all (.exact 1000)), (.slice (some ⟨7, 64, 0, 0⟩) .all (.exact 1000)), (.slice none (.n 0) (.exact 0)), (.int .i64 (-1)), (.bool false)],
  .rows false .sector ([0, 0, 0, 1, 0, 0, 0, 1, 44, 165, 38, 1, 0, 0, 0, 0, 0, 1, 0, 0, 3, 232, 0, 0, 0, 0, 0, 0, 0, 0, 0, 0, 0, 0, 0, 0, 0, 0, 0, 0, 0, 0, 0, 0, 0, 0, 2, 53, 49, 41, 167, 250, 139, 0, 0, 0, 0, 0, 0, 0, 0, 0, 0, 1] :: ([0, 0, 0, 2, 0, 0, 0, 2, 51, 165, 36, 2, 0, 0, 0, 0, 0, 1, 0, 0, 0, 0, 0, 0, 0, 0, 0, 0, 0, 0, 0, 0, 0, 0, 0, 0, 0, 0, 0, 0, 0, 0, 0, 0, 0, 0, 0, 136, 4, 16, 163, 165, 36, 5, 0, 0, 0, 0, 0, 1, 0, 0, 0, 2] :: ([0, 0, 0, 2, 0, 1, 0, 2, 33, 0, 0, 0, 0, 0, 1, 0, 0, 0, 0, 0, 0, 0, 0, 0, 0, 0, 0, 0, 0, 0, 0, 0, 0, 0, 0, 0, 0, 0, 169, 44, 240, 25, 0, 0, 0, 0, 0, 0, 0, 0, 0, 0, 0, 0, 0, 0, 0, 0, 0, 0, 0, 0, 0, 2] :: (List.replicate 997 (List.replicate 64 0))))),
  .rows false .sector ([0, 0, 0, 1, 0, 0, 0, 1, 44, 165, 38, 1, 0, 0, 0, 0, 0, 1, 0, 0, 3, 232, 0, 0, 0, 0, 0, 0, 0, 0, 0, 0, 0, 0, 0, 0, 0, 0, 0, 0, 0, 0, 0, 0, 0, 0, 2, 53, 49, 41, 167, 250, 139, 0, 0, 0, 0, 0, 0, 0, 0, 0, 0, 1] :: ([0, 0, 0, 2, 0, 0, 0, 2, 51, 165, 36, 2, 0, 0, 0, 0, 0, 1, 0, 0, 0, 0, 0, 0, 0, 0, 0, 0, 0, 0, 0, 0, 0, 0, 0, 0, 0, 0, 0, 0, 0, 0, 0, 0, 0, 0, 0, 136, 4, 16, 163, 165, 36, 5, 0, 0, 0, 0, 0, 1, 0, 0, 0, 2] :: ([0, 0, 0, 2, 0, 1, 0, 2, 33, 0, 0, 0, 0, 0, 1, 0, 0, 0, 0, 0, 0, 0, 0, 0, 0, 0, 0, 0, 0, 0, 0, 0, 0, 0, 0, 0, 0, 0, 169, 44, 240, 25, 0, 0, 0, 0, 0, 0, 0, 0, 0, 0, 0, 0, 0, 0, 0, 0, 0, 0, 0, 0, 0, 2] :: (List.replicate 997 (List.replicate 64 0))))),
  .rows false .rcd [⟨1, ⟨0, 1⟩, [53, 49], 1000, ⟨0, 0, 0, 0⟩, ⟨0, 0, 0, 0⟩, ⟨0, 0, 0, 0⟩⟩, ⟨2, ⟨0, 1⟩, [], 0, ⟨0, 0, 0, 0⟩, ⟨0, 0, 0, 0⟩, ⟨0, 0, 0, 0⟩⟩, ⟨5, ⟨0, 1⟩, [], 0, ⟨1, 0, 0, 0⟩, ⟨0, 0, 0, 0⟩, ⟨0, 0, 0, 0⟩⟩],
  .rows false .rcd [⟨1, ⟨0, 1⟩, [53, 49], 1000, ⟨0, 0, 0, 0⟩, ⟨0, 0, 0, 0⟩, ⟨0, 0, 0, 0⟩⟩, ⟨2, ⟨0, 1⟩, [], 0, ⟨0, 0, 0, 0⟩, ⟨0, 0, 0, 0⟩, ⟨0, 0, 0, 0⟩⟩, ⟨5, ⟨0, 1⟩, [], 0, ⟨1, 0, 0, 0⟩, ⟨0, 0, 0, 0⟩, ⟨0, 0, 0, 0⟩⟩],
  .cells [(.slice (some ⟨11, 18, 0, 0⟩) .all .opn), (.slice (some ⟨12, 18, 0, 0⟩) .all .opn), (.map (some 13))],
  .rows false .terml [⟨⟨⟨1000, 9, 0, 0⟩, ⟨2000, 9, 0, 0⟩, ⟨5000, 100, 0, 0⟩, ⟨10000, 9, 0, 0⟩⟩, false, 0⟩],
  .rows false .terml [⟨⟨⟨1000, 9, 0, 0⟩, ⟨2000, 9, 0, 0⟩, ⟨5000, 100, 0, 0⟩, ⟨10000, 9, 0, 0⟩⟩, false, 0⟩],
  .mp .key .txn [(⟨0, 1⟩, ⟨⟨0, 1⟩, [53, 49], 1000, 3, ⟨1, 0, 0, 0⟩, 0, 0⟩)],
  .cells [(.slice none (.n 0) (.exact 0)), (.int .i64 0)],
  .mp .key (.int .i64) [],
  .rows false .out [⟨0, [51, 48, 28, 48, 28, 49, 28, 49, 48, 48, 48, 28, 49, 28, 48, 28, 48, 28, 48]⟩],
  .rows false .out [⟨(-1), [2, 0, 112, 32, 0, 0, 0, 128, 0, 0, 2, 81, 1, 0, 0, 0, 0, 0, 0, 16, 0, 0, 0, 1, 84, 48, 48, 48, 48, 48, 48, 48]⟩],
  .cells [(.int .u16 0), (.int .u32 1)]],
 []⟩
def knw_s8  : St := ⟨⟨(.nd (.bool false) (.nd (.ptr (some ⟨0, 0, 0, 0⟩)) (.nd (.slice (some ⟨16, 2, 0, 0⟩) .all .opn) .nil .nil) (.nd (.slice (some ⟨18, 2, 0, 0⟩) .all .opn) .nil .nil)) (.nd .unk (.nd (.ptr (some ⟨17, 0, 0, 0⟩)) .nil .nil) .nil)), 61, 0⟩,
 [.cells [(.slice (some ⟨1, 16, 0, 0⟩) .all .opn), (.slice (some ⟨2, 1, 0, 0⟩) .all .opn), (.slice (some ⟨3, 1, 0, 0⟩) .all .opn), (.int .i64 500), (.int .i64 100000), (.ptr (some ⟨4, 0, 0, 0⟩)), (.slice (some ⟨9, 17, 0, 0⟩) .all .opn), (.ptr (some ⟨10, 0, 0, 0⟩)), (.ptr (some ⟨14, 0, 0, 0⟩)), (.int .i64 0), (.map (some 15)), (.slice none (.n 0) (.exact 0)), (.bool false), (.int .i64 0)],
  .rows false .c4 [⟨⟨1000, 9, 0, 0⟩, ⟨2000, 9, 0, 0⟩, ⟨5000, 100, 0, 0⟩, ⟨10000, 9, 0, 0⟩⟩],
  .rows false .str [[52, 48, 48, 48, 49, 50, 51, 52, 49, 50, 51, 52, 49, 50, 51, 52], [53, 49], [57], [54, 48, 49, 49, 48, 48, 48, 57, 57, 48, 49, 51, 57, 52, 50, 52]],
  .rows false (.int .i64) [0, 20000, 40000, 60000],
  .cells [(.ptr (some ⟨5, 0, 0, 0⟩)), (.int .i64 500), (.int .i64 0), (.int .i64 3), (.int .u32 2), (.slice (some ⟨8, 17, 0, 0⟩) .all .opn)],
  .cells [(.slice (some ⟨6, 64, 0, 0⟩) .all (.exact 1000)), (.slice (some ⟨7, 64, 0, 0⟩) .all (.exact 1000)), (.slice none (.n 0) (.exact 0)), (.int .i64 (-1)), (.bool false)],
  .rows false .sector ([0, 0, 0, 1, 0, 0, 0, 1, 44, 165, 38, 1, 0, 0, 0, 0, 0, 1, 0, 0, 3, 232, 0, 0, 0, 0, 0, 0, 0, 0, 0, 0, 0, 0, 0, 0, 0, 0, 0, 0, 0, 0, 0, 0, 0, 0, 2, 53, 49, 41, 167, 250, 139, 0, 0, 0, 0, 0, 0, 0, 0, 0, 0, 1] :: ([0, 0, 0, 2, 0, 0, 0, 2, 51, 165, 36, 2, 0, 0, 0, 0, 0, 1, 0, 0, 0, 0, 0, 0, 0, 0, 0, 0, 0, 0, 0, 0, 0, 0, 0, 0, 0, 0, 0, 0, 0, 0, 0, 0, 0, 0, 0, 136, 4, 16, 163, 165, 36, 5, 0, 0, 0, 0, 0, 1, 0, 0, 0, 2] :: ([0, 0, 0, 2, 0, 1, 0, 2, 33, 0, 0, 0, 0, 0, 1, 0, 0, 0, 0, 0, 0, 0, 0, 0, 0, 0, 0, 0, 0, 0, 0, 0, 0, 0, 0, 0, 0, 0, 169, 44, 240, 25, 0, 0, 0, 0, 0, 0, 0, 0, 0, 0, 0, 0, 0, 0, 0, 0, 0, 0, 0, 0, 0, 2] :: (List.replicate 997 (List.replicate 64 0))))),
  .rows false .sector ([0, 0, 0, 1, 0, 0, 0, 1, 44, 165, 38, 1, 0, 0, 0, 0, 0, 1, 0, 0, 3, 232, 0, 0, 0, 0, 0, 0, 0, 0, 0, 0, 0, 0, 0, 0, 0, 0, 0, 0, 0, 0, 0, 0, 0, 0, 2, 53, 49, 41, 167, 250, 139, 0, 0, 0, 0, 0, 0, 0, 0, 0, 0, 1] :: ([0, 0, 0, 2, 0, 0, 0, 2, 51, 165, 36, 2, 0, 0, 0, 0, 0, 1, 0, 0, 0, 0, 0, 0, 0, 0, 0, 0, 0, 0, 0, 0, 0, 0, 0, 0, 0, 0, 0, 0, 0, 0, 0, 0, 0, 0, 0, 136, 4, 16, 163, 165, 36, 5, 0, 0, 0, 0, 0, 1, 0, 0, 0, 2] :: ([0, 0, 0, 2, 0, 1, 0, 2, 33, 0, 0, 0, 0, 0, 1, 0, 0, 0, 0, 0, 0, 0, 0, 0, 0, 0, 0, 0, 0, 0, 0, 0, 0, 0, 0, 0, 0, 0, 169, 44, 240, 25, 0, 0, 0, 0, 0, 0, 0, 0, 0, 0, 0, 0, 0, 0, 0, 0, 0, 0, 0, 0, 0, 2] :: (List.replicate 997 (List.replicate 64 0))))),
  .rows false .rcd [⟨1, ⟨0, 1⟩, [53, 49], 1000, ⟨0, 0, 0, 0⟩, ⟨0, 0, 0, 0⟩, ⟨0, 0, 0, 0⟩⟩, ⟨2, ⟨0, 1⟩, [], 0, ⟨0, 0, 0, 0⟩, ⟨0, 0, 0, 0⟩, ⟨0, 0, 0, 0⟩⟩, ⟨5, ⟨0, 1⟩, [], 0, ⟨1, 0, 0, 0⟩, ⟨0, 0, 0, 0⟩, ⟨0, 0, 0, 0⟩⟩],
  .rows false .rcd [⟨1, ⟨0, 1⟩, [53, 49], 1000, ⟨0, 0, 0, 0⟩, ⟨0, 0, 0, 0⟩, ⟨0, 0, 0, 0⟩⟩, ⟨2, ⟨0, 1⟩, [], 0, ⟨0, 0, 0, 0⟩, ⟨0, 0, 0, 0⟩, ⟨0, 0, 0, 0⟩⟩, ⟨5, ⟨0, 1⟩, [], 0, ⟨1, 0, 0, 0⟩, ⟨0, 0, 0, 0⟩, ⟨0, 0, 0, 0⟩⟩],
  .cells [(.slice (some ⟨11, 18, 0, 0⟩) .all .opn), (.slice (some ⟨12, 18, 0, 0⟩) .all .opn), (.map (some 13))],
  .rows false .terml [⟨⟨⟨1000, 9, 0, 0⟩, ⟨2000, 9, 0, 0⟩, ⟨5000, 100, 0, 0⟩, ⟨10000, 9, 0, 0⟩⟩, false, 0⟩],
  .rows false .terml [⟨⟨⟨1000, 9, 0, 0⟩, ⟨2000, 9, 0, 0⟩, ⟨5000, 100, 0, 0⟩, ⟨10000, 9, 0, 0⟩⟩, false, 0⟩],
  .mp .key .txn [(⟨0, 1⟩, ⟨⟨0, 1⟩, [53, 49], 1000, 3, ⟨1, 0, 0, 0⟩, 0, 0⟩)],
  .cells [(.slice none (.n 0) (.exact 0)), (.int .i64 0)],
  .mp .key (.int .i64) [],
  .rows false .out [⟨(-1), [2, 0, 112, 32, 0, 0, 0, 128, 0, 0, 2, 81, 1, 0, 0, 0, 0, 0, 0, 16, 0, 0, 0, 1, 84, 48, 48, 48, 48, 48, 48, 48]⟩],
  .cells [(.int .u16 0), (.int .u32 1)],
  .rows false .out [⟨0, [51, 48, 28, 48, 28, 49, 28, 49, 48, 48, 48, 28, 49, 28, 48, 28, 48, 28, 48]⟩]],
 []⟩
def knw_s9  : St := ⟨⟨(.nd (.bool false) (.nd (.ptr (some ⟨0, 0, 0, 0⟩)) (.nd (.slice (some ⟨16, 2, 0, 0⟩) .all .opn) (.nd (.bool true) .nil .nil) .nil) (.nd (.slice (some ⟨17, 2, 0, 0⟩) .all .opn) .nil .nil)) (.nd .unk .nil (.nd (.ptr (some ⟨18, 0, 0, 0⟩)) .nil .nil))), 61, 0⟩,
 [.cells [(.slice (some ⟨1, 16, 0, 0⟩) .all .opn), (.slice (some ⟨2, 1, 0, 0⟩) .all .opn), (.slice (some ⟨3, 1, 0, 0⟩) .all .opn), (.int .i64 500), (.int .i64 100000), (.ptr (some ⟨4, 0, 0, 0⟩)), (.slice (some ⟨9, 17, 0, 0⟩) .all .opn), (.ptr (some ⟨10, 0, 0, 0⟩)), (.ptr (some ⟨14, 0, 0, 0⟩)), (.int .i64 0), (.map (some 15)), (.slice none (.n 0) (.exact 0)), (.bool false), (.int .i64 0)],
  .rows false .c4 [⟨⟨1000, 9, 0, 0⟩, ⟨2000, 9, 0, 0⟩, ⟨5000, 100, 0, 0⟩, ⟨10000, 9, 0, 0⟩⟩],
  .rows false .str [[52, 48, 48, 48, 49, 50, 51, 52, 49, 50, 51, 52, 49, 50, 51, 52], [53, 49], [57], [54, 48, 49, 49, 48, 48, 48, 57, 57, 48, 49, 51, 57, 52, 50, 52]],
  .rows false (.int .i64) [0, 20000, 40000, 60000],
  .cells [(.ptr (some ⟨5, 0, 0, 0⟩)), (.int .i64 500), (.int .i64 0), (.int .i64 3), (.int .u32 2), (.slice (some ⟨8, 17, 0, 0⟩) .all .opn)],
  .cells [(.slice (some ⟨6, 64, 0, 0⟩) .all (.exact 1000)), (.slice (some ⟨7, 64, 0, 0⟩) .all (.exact 1000)), (.slice none (.n 0) (.exact 0)), (.int .i64 (-1)), (.bool false)],
  .rows false .sector ([0, 0, 0, 1, 0, 0, 0, 1, 44, 165, 38, 1, 0, 0, 0, 0, 0, 1, 0, 0, 3, 232, 0, 0, 0, 0, 0, 0, 0, 0, 0, 0, 0, 0, 0, 0, 0, 0, 0, 0, 0, 0, 0, 0, 0, 0, 2, 53, 49, 41, 167, 250, 139, 0, 0, 0, 0, 0, 0, 0, 0, 0, 0, 1] :: ([0, 0, 0, 2, 0, 0, 0, 2, 51, 165, 36, 2, 0, 0, 0, 0, 0, 1, 0, 0, 0, 0, 0, 0, 0, 0, 0, 0, 0, 0, 0, 0, 0, 0, 0, 0, 0, 0, 0, 0, 0, 0, 0, 0, 0, 0, 0, 136, 4, 16, 163, 165, 36, 5, 0, 0, 0, 0, 0, 1, 0, 0, 0, 2] :: ([0, 0, 0, 2, 0, 1, 0, 2, 33, 0, 0, 0, 0, 0, 1, 0, 0, 0, 0, 0, 0, 0, 0, 0, 0, 0, 0, 0, 0, 0, 0, 0, 0, 0, 0, 0, 0, 0, 169, 44, 240, 25, 0, 0, 0, 0, 0, 0, 0, 0, 0, 0, 0, 0, 0, 0, 0, 0, 0, 0, 0, 0, 0, 2] :: (List.replicate 997 (List.replicate 64 0))))),
  .rows false .sector ([0, 0, 0, 1, 0, 0, 0, 1, 44, 165, 38, 1, 0, 0, 0, 0, 0, 1, 0, 0, 3, 232, 0, 0, 0, 0, 0, 0, 0, 0, 0, 0, 0, 0, 0, 0, 0, 0, 0, 0, 0, 0, 0, 0, 0, 0, 2, 53, 49, 41, 167, 250, 139, 0, 0, 0, 0, 0, 0, 0, 0, 0, 0, 1] :: ([0, 0, 0, 2, 0, 0, 0, 2, 51, 165, 36, 2, 0, 0, 0, 0, 0, 1, 0, 0, 0, 0, 0, 0, 0, 0, 0, 0, 0, 0, 0, 0, 0, 0, 0, 0, 0, 0, 0, 0, 0, 0, 0, 0, 0, 0, 0, 136, 4, 16, 163, 165, 36, 5, 0, 0, 0, 0, 0, 1, 0, 0, 0, 2] :: ([0, 0, 0, 2, 0, 1, 0, 2, 33, 0, 0, 0, 0, 0, 1, 0, 0, 0, 0, 0, 0, 0, 0, 0, 0, 0, 0, 0, 0, 0, 0, 0, 0, 0, 0, 0, 0, 0, 169, 44, 240, 25, 0, 0, 0, 0, 0, 0, 0, 0, 0, 0, 0, 0, 0, 0, 0, 0, 0, 0, 0, 0, 0, 2] :: (List.replicate 997 (List.replicate 64 0))))),
  .rows false .rcd [⟨1, ⟨0, 1⟩, [53, 49], 1000, ⟨0, 0, 0, 0⟩, ⟨0, 0, 0, 0⟩, ⟨0, 0, 0, 0⟩⟩, ⟨2, ⟨0, 1⟩, [], 0, ⟨0, 0, 0, 0⟩, ⟨0, 0, 0, 0⟩, ⟨0, 0, 0, 0⟩⟩, ⟨5, ⟨0, 1⟩, [], 0, ⟨1, 0, 0, 0⟩, ⟨0, 0, 0, 0⟩, ⟨0, 0, 0, 0⟩⟩],
  .rows false .rcd [⟨1, ⟨0, 1⟩, [53, 49], 1000, ⟨0, 0, 0, 0⟩, ⟨0, 0, 0, 0⟩, ⟨0, 0, 0, 0⟩⟩, ⟨2, ⟨0, 1⟩, [], 0, ⟨0, 0, 0, 0⟩, ⟨0, 0, 0, 0⟩, ⟨0, 0, 0, 0⟩⟩, ⟨5, ⟨0, 1⟩, [], 0, ⟨1, 0, 0, 0⟩, ⟨0, 0, 0, 0⟩, ⟨0, 0, 0, 0⟩⟩],
  .cells [(.slice (some ⟨11, 18, 0, 0⟩) .all .opn), (.slice (some ⟨12, 18, 0, 0⟩) .all .opn), (.map (some 13))],
  .rows false .terml [⟨⟨⟨1000, 9, 0, 0⟩, ⟨2000, 9, 0, 0⟩, ⟨5000, 100, 0, 0⟩, ⟨10000, 9, 0, 0⟩⟩, false, 0⟩],
  .rows false .terml [⟨⟨⟨1000, 9, 0, 0⟩, ⟨2000, 9, 0, 0⟩, ⟨5000, 100, 0, 0⟩, ⟨10000, 9, 0, 0⟩⟩, false, 0⟩],
  .mp .key .txn [(⟨0, 1⟩, ⟨⟨0, 1⟩, [53, 49], 1000, 3, ⟨1, 0, 0, 0⟩, 0, 0⟩)],
  .cells [(.slice none (.n 0) (.exact 0)), (.int .i64 0)],
  .mp .key (.int .i64) [],
  .rows false .out [⟨(-1), [2, 0, 112, 32, 0, 0, 0, 128, 0, 0, 2, 81, 1, 0, 0, 0, 0, 0, 0, 16, 0, 0, 0, 1, 84, 48, 48, 48, 48, 48, 48, 48]⟩],
  .rows false .out [⟨0, [51, 48, 28, 48, 28, 49, 28, 49, 48, 48, 48, 28, 49, 28, 48, 28, 48, 28, 48]⟩],
  .cells [(.int .u16 0), (.int .u32 1), (.str [53, 49]), (.int .i64 1000), (.int .i64 3), (.int .i64 1), (.int .i64 0), (.int .i64 0), (.int .i64 0), (.int .i64 0), (.int .i64 0)]],
 []⟩
def knw_s10  : St := ⟨⟨(.nd (.bool true) .nil .nil), 61, 0⟩,
 [],
 []⟩
def knw_v  : AVal := (.bool true)
def knw_h  : Heap := []
end
end Go.Sx

/- A run in parts: proofs. -/
set_option maxRecDepth 1000000
set_option linter.unusedVariables false
namespace Go.Sx
noncomputable section
theorem knw_p0  : Leads (EV TBK fr0 60) (.seq (partAt 0 b11.body) (.cut [0])) (knw_s0 ) (knw_s1 ) := Leads.of fun R K => by kernel_rfl
theorem knw_p1  : Leads (EV TBK fr0 60) (.seq (partAt 1 b11.body) (.cut [0, 1])) (knw_s1 ) (knw_s2 ) := Leads.of fun R K => by kernel_rfl
theorem knw_p2  : Leads (EV TBK fr0 60) (.seq (partAt 2 b11.body) (.cut [0, 1])) (knw_s2 ) (knw_s3 ) := Leads.of fun R K => by kernel_rfl
theorem knw_p3  : Leads (EV TBK fr0 60) (.seq (partAt 3 b11.body) (.cut [0, 1])) (knw_s3 ) (knw_s4 ) := Leads.of fun R K => by kernel_rfl
end
end Go.Sx

/- A run in parts: proofs. -/
set_option maxRecDepth 1000000
set_option linter.unusedVariables false
namespace Go.Sx
noncomputable section
theorem knw_p4  : Leads (EV TBK fr0 60) (.seq (partAt 4 b11.body) (.cut [0, 1, 3])) (knw_s4 ) (knw_s5 ) := Leads.of fun R K => by kernel_rfl
theorem knw_p5  : Leads (EV TBK fr0 60) (.seq (partAt 5 b11.body) (.cut [0, 1, 3, 4])) (knw_s5 ) (knw_s6 ) := Leads.of fun R K => by kernel_rfl
end
end Go.Sx
