/- CoreQueries: each terminal is asked what it counts when the switch begins, when its power is back, and at each so-manieth tick; true for every k and ticks. Part Fb of the proof. Condition: the listed package variables hold what the program's text lays. -/
import Derived.Test.YtncpkgjihijjhaaGreatDoorCa
import Derived.Test.YtncpkgjihijjhaaGreatDoorSc
import Derived.KernelRfl
set_option linter.unusedVariables false
set_option linter.unusedSimpArgs false
noncomputable section
/- The states of a run in parts. -/
set_option maxRecDepth 1000000
set_option linter.unusedVariables false
namespace Go.Sx
noncomputable section
def scb_s0 (x0 x1 x2 x3 x4 x6 x8 : Blk) : St := startS 129 [(.ptr (some ⟨9, 0, 0, 0⟩)), (.int .i64 500)] [x0,
  x1,
  x2,
  x3,
  x4,
  .cells [(.slice (some ⟨6, 64, 0, 0⟩) .all (.exact 1000)), (.slice (some ⟨7, 64, 0, 0⟩) .all (.exact 1000)), (.slice none (.n 0) (.exact 0)), (.int .i64 (-1)), (.bool false)],
  x6,
  .rows false .sector (List.replicate 1000 (List.replicate 64 0)),
  x8,
  .cells [(.ptr (some ⟨5, 0, 0, 0⟩)), (.int .i64 500), (.int .i64 0), (.int .i64 0), (.int .u32 0), (.slice none (.n 0) (.exact 0))],
  .cells [(.int .u32 0), (.int .i64 0), (.slice none (.n 0) (.exact 0))]]
def scb_s1 (x0 x1 x2 x3 x4 x6 x8 : Blk) : St := ⟨⟨(.nd (.ptr (some ⟨9, 0, 0, 0⟩)) (.nd (.int .i64 500) .nil (.nd (.int .i64 0) .nil .nil)) (.nd .unk (.nd (.ptr (some ⟨11, 0, 0, 0⟩)) .nil .nil) .nil)), 129, 11⟩,
 [x0,
  x1,
  x2,
  x3,
  x4,
  .cells [(.slice (some ⟨6, 64, 0, 0⟩) .all (.exact 1000)), (.slice (some ⟨7, 64, 0, 0⟩) .all (.exact 1000)), (.slice none (.n 0) (.exact 0)), (.int .i64 (-1)), (.bool false)],
  x6,
  .rows false .sector (List.replicate 1000 (List.replicate 64 0)),
  x8,
  .cells [(.ptr (some ⟨5, 0, 0, 0⟩)), (.int .i64 500), (.int .i64 0), (.int .i64 0), (.int .u32 0), (.slice none (.n 0) (.exact 0))],
  .cells [(.int .u32 0), (.int .i64 0), (.slice none (.n 0) (.exact 0))],
  .cells [(.int .u32 0), (.int .i64 0), (.slice none (.n 0) (.exact 0))]],
 []⟩
def scb_s2 (x0 x1 x2 x3 x4 x6 x8 : Blk) : St := ⟨⟨(.nd (.ptr (some ⟨9, 0, 0, 0⟩)) (.nd (.int .i64 500) .nil (.nd (.int .i64 0) .nil .nil)) (.nd .unk (.nd (.ptr (some ⟨11, 0, 0, 0⟩)) .nil .nil) (.nd (.ptr (some ⟨12, 0, 0, 0⟩)) .nil .nil))), 129, 11⟩,
 [x0,
  x1,
  x2,
  x3,
  x4,
  .cells [(.slice (some ⟨6, 64, 0, 0⟩) .all (.exact 1000)), (.slice (some ⟨7, 64, 0, 0⟩) .all (.exact 1000)), (.slice none (.n 0) (.exact 0)), (.int .i64 (-1)), (.bool false)],
  x6,
  .rows false .sector (List.replicate 1000 (List.replicate 64 0)),
  x8,
  .cells [(.ptr (some ⟨5, 0, 0, 0⟩)), (.int .i64 500), (.int .i64 0), (.int .i64 0), (.int .u32 0), (.slice none (.n 0) (.exact 0))],
  .cells [(.int .u32 0), (.int .i64 0), (.slice none (.n 0) (.exact 0))],
  .cells [(.int .u32 0), (.int .i64 0), (.slice none (.n 0) (.exact 0))],
  .cells [(.int .u32 0), (.int .i64 0), (.slice none (.n 0) (.exact 0))]],
 []⟩
def scb_s3 (x0 x1 x2 x3 x4 x6 x8 : Blk) : St := ⟨⟨(.nd (.ptr (some ⟨9, 0, 0, 0⟩)) (.nd (.int .i64 500) (.nd .unk (.nd (.slice none (.n 0) (.exact 0)) .nil .nil) .nil) (.nd (.int .i64 0) .nil .nil)) (.nd .unk (.nd (.ptr (some ⟨11, 0, 0, 0⟩)) .nil .nil) (.nd (.ptr (some ⟨12, 0, 0, 0⟩)) .nil .nil))), 129, 11⟩,
 [x0,
  x1,
  x2,
  x3,
  x4,
  .cells [(.slice (some ⟨6, 64, 0, 0⟩) .all (.exact 1000)), (.slice (some ⟨7, 64, 0, 0⟩) .all (.exact 1000)), (.slice none (.n 0) (.exact 0)), (.int .i64 (-1)), (.bool false)],
  x6,
  .rows false .sector (List.replicate 1000 (List.replicate 64 0)),
  x8,
  .cells [(.ptr (some ⟨5, 0, 0, 0⟩)), (.int .i64 500), (.int .i64 0), (.int .i64 0), (.int .u32 0), (.slice none (.n 0) (.exact 0))],
  .cells [(.int .u32 0), (.int .i64 0), (.slice none (.n 0) (.exact 0))],
  .cells [(.int .u32 0), (.int .i64 0), (.slice none (.n 0) (.exact 0))],
  .cells [(.int .u32 0), (.int .i64 0), (.slice none (.n 0) (.exact 0))]],
 []⟩
def scb_s4 (x0 x1 x2 x3 x4 x6 x8 : Blk) : St := ⟨⟨(.nd (.ptr (some ⟨9, 0, 0, 0⟩)) (.nd (.int .i64 500) (.nd .unk (.nd (.slice none (.n 0) (.exact 0)) .nil .nil) .nil) (.nd (.int .i64 0) .nil .nil)) (.nd .unk (.nd (.ptr (some ⟨11, 0, 0, 0⟩)) (.nd (.ptr (some ⟨13, 0, 0, 0⟩)) .nil .nil) .nil) (.nd (.ptr (some ⟨12, 0, 0, 0⟩)) .nil .nil))), 129, 11⟩,
 [x0,
  x1,
  x2,
  x3,
  x4,
  .cells [(.slice (some ⟨6, 64, 0, 0⟩) .all (.exact 1000)), (.slice (some ⟨7, 64, 0, 0⟩) .all (.exact 1000)), (.slice none (.n 0) (.exact 0)), (.int .i64 (-1)), (.bool false)],
  x6,
  .rows false .sector (List.replicate 1000 (List.replicate 64 0)),
  x8,
  .cells [(.ptr (some ⟨5, 0, 0, 0⟩)), (.int .i64 500), (.int .i64 0), (.int .i64 0), (.int .u32 0), (.slice none (.n 0) (.exact 0))],
  .cells [(.int .u32 0), (.int .i64 0), (.slice none (.n 0) (.exact 0))],
  .cells [(.int .u32 0), (.int .i64 0), (.slice none (.n 0) (.exact 0))],
  .cells [(.int .u32 0), (.int .i64 0), (.slice none (.n 0) (.exact 0))],
  .cells [(.int .u32 0), (.int .i64 0), (.int .i64 0), (.slice none (.n 0) (.exact 0))]],
 []⟩
def scb_s5 (x0 x1 x2 x3 x4 x6 x8 : Blk) : St := ⟨⟨(.nd (.ptr (some ⟨9, 0, 0, 0⟩)) (.nd (.int .i64 500) (.nd .unk (.nd (.slice none (.n 0) (.exact 0)) .nil .nil) .nil) (.nd (.int .i64 0) (.nd (.bool false) .nil .nil) .nil)) (.nd .unk (.nd (.ptr (some ⟨11, 0, 0, 0⟩)) (.nd (.ptr (some ⟨13, 0, 0, 0⟩)) .nil .nil) .nil) (.nd (.ptr (some ⟨12, 0, 0, 0⟩)) .nil .nil))), 129, 11⟩,
 [x0,
  x1,
  x2,
  x3,
  x4,
  .cells [(.slice (some ⟨6, 64, 0, 0⟩) .all (.exact 1000)), (.slice (some ⟨7, 64, 0, 0⟩) .all (.exact 1000)), (.slice none (.n 0) (.exact 0)), (.int .i64 (-1)), (.bool false)],
  x6,
  .rows false .sector (List.replicate 1000 (List.replicate 64 0)),
  x8,
  .cells [(.ptr (some ⟨5, 0, 0, 0⟩)), (.int .i64 500), (.int .i64 0), (.int .i64 0), (.int .u32 0), (.slice none (.n 0) (.exact 0))],
  .cells [(.int .u32 0), (.int .i64 0), (.slice none (.n 0) (.exact 0))],
  .cells [(.int .u32 0), (.int .i64 0), (.slice none (.n 0) (.exact 0))],
  .cells [(.int .u32 0), (.int .i64 0), (.slice none (.n 0) (.exact 0))],
  .cells [(.int .u32 0), (.int .i64 0), (.int .i64 0), (.slice none (.n 0) (.exact 0))]],
 []⟩
def scb_pre (x0 x1 x2 x3 x4 x6 x8 : Blk) : St := ⟨⟨(.nd (.ptr (some ⟨9, 0, 0, 0⟩)) (.nd (.int .i64 500) (.nd .unk (.nd (.slice none (.n 0) (.exact 0)) .nil .nil) (.nd .unk (.nd (.ptr (some ⟨9, 0, 0, 1⟩)) .nil .nil) .nil)) (.nd (.int .i64 0) (.nd (.bool false) (.nd (.ptr (some ⟨9, 0, 0, 0⟩)) .nil .nil) .nil) (.nd .unk (.nd (.int .i64 0) .nil .nil) .nil))) (.nd .unk (.nd (.ptr (some ⟨11, 0, 0, 0⟩)) (.nd (.ptr (some ⟨13, 0, 0, 0⟩)) .nil .nil) (.nd .unk (.nd (.int .i64 500) .nil .nil) .nil)) (.nd (.ptr (some ⟨12, 0, 0, 0⟩)) (.nd .unk (.nd (.ptr (some ⟨9, 0, 0, 0⟩)) .nil .nil) .nil) .nil))), 129, 11⟩,
 [x0,
  x1,
  x2,
  x3,
  x4,
  .cells [(.slice (some ⟨6, 64, 0, 0⟩) .all (.exact 1000)), (.slice (some ⟨7, 64, 0, 0⟩) .all (.exact 1000)), (.slice none (.n 0) (.exact 0)), (.int .i64 (-1)), (.bool false)],
  x6,
  .rows false .sector (List.replicate 1000 (List.replicate 64 0)),
  x8,
  .cells [(.ptr (some ⟨5, 0, 0, 0⟩)), (.int .i64 500), (.int .i64 0), (.int .i64 0), (.int .u32 0), (.slice none (.n 0) (.exact 0))],
  .cells [(.int .u32 0), (.int .i64 0), (.slice none (.n 0) (.exact 0))],
  .cells [(.int .u32 0), (.int .i64 0), (.slice none (.n 0) (.exact 0))],
  .cells [(.int .u32 0), (.int .i64 0), (.slice none (.n 0) (.exact 0))],
  .cells [(.int .u32 0), (.int .i64 0), (.int .i64 0), (.slice none (.n 0) (.exact 0))]],
 []⟩
def scb_r1 (x0 x1 x2 x3 x4 x6 x8 : Blk) : St := ⟨⟨(.nd (.ptr (some ⟨9, 0, 0, 0⟩)) (.nd (.int .i64 500) (.nd .unk (.nd (.slice none (.n 0) (.exact 0)) .nil .nil) .nil) (.nd (.int .i64 0) (.nd (.bool true) .nil .nil) (.nd .unk (.nd (.int .i64 50) .nil .nil) .nil))) (.nd .unk (.nd (.ptr (some ⟨11, 0, 0, 0⟩)) (.nd (.ptr (some ⟨13, 0, 0, 0⟩)) .nil .nil) (.nd .unk (.nd (.int .i64 500) .nil .nil) .nil)) (.nd (.ptr (some ⟨12, 0, 0, 0⟩)) .nil .nil))), 129, 11⟩,
 [x0,
  x1,
  x2,
  x3,
  x4,
  .cells [(.slice (some ⟨6, 64, 0, 0⟩) .all (.exact 1000)), (.slice (some ⟨7, 64, 0, 0⟩) .all (.exact 1000)), (.slice none (.n 0) (.exact 0)), (.int .i64 (-1)), (.bool false)],
  x6,
  .rows false .sector (List.replicate 1000 (List.replicate 64 0)),
  x8,
  .cells [(.ptr (some ⟨5, 0, 0, 0⟩)), (.int .i64 500), (.int .i64 0), (.int .i64 0), (.int .u32 0), (.slice none (.n 0) (.exact 0))],
  .cells [(.int .u32 0), (.int .i64 0), (.slice none (.n 0) (.exact 0))],
  .cells [(.int .u32 0), (.int .i64 0), (.slice none (.n 0) (.exact 0))],
  .cells [(.int .u32 0), (.int .i64 0), (.slice none (.n 0) (.exact 0))],
  .cells [(.int .u32 0), (.int .i64 0), (.int .i64 0), (.slice none (.n 0) (.exact 0))]],
 [9]⟩
def scb_r2 (x0 x1 x2 x3 x4 x6 x8 : Blk) : St := ⟨⟨(.nd (.ptr (some ⟨9, 0, 0, 0⟩)) (.nd (.int .i64 500) (.nd .unk (.nd (.slice none (.n 0) (.exact 0)) .nil .nil) .nil) (.nd (.int .i64 0) (.nd (.bool true) .nil .nil) (.nd .unk (.nd (.int .i64 100) .nil .nil) .nil))) (.nd .unk (.nd (.ptr (some ⟨11, 0, 0, 0⟩)) (.nd (.ptr (some ⟨13, 0, 0, 0⟩)) .nil .nil) (.nd .unk (.nd (.int .i64 500) .nil .nil) .nil)) (.nd (.ptr (some ⟨12, 0, 0, 0⟩)) .nil .nil))), 129, 11⟩,
 [x0,
  x1,
  x2,
  x3,
  x4,
  .cells [(.slice (some ⟨6, 64, 0, 0⟩) .all (.exact 1000)), (.slice (some ⟨7, 64, 0, 0⟩) .all (.exact 1000)), (.slice none (.n 0) (.exact 0)), (.int .i64 (-1)), (.bool false)],
  x6,
  .rows false .sector (List.replicate 1000 (List.replicate 64 0)),
  x8,
  .cells [(.ptr (some ⟨5, 0, 0, 0⟩)), (.int .i64 500), (.int .i64 0), (.int .i64 0), (.int .u32 0), (.slice none (.n 0) (.exact 0))],
  .cells [(.int .u32 0), (.int .i64 0), (.slice none (.n 0) (.exact 0))],
  .cells [(.int .u32 0), (.int .i64 0), (.slice none (.n 0) (.exact 0))],
  .cells [(.int .u32 0), (.int .i64 0), (.slice none (.n 0) (.exact 0))],
  .cells [(.int .u32 0), (.int .i64 0), (.int .i64 0), (.slice none (.n 0) (.exact 0))]],
 [9]⟩
def scb_r3 (x0 x1 x2 x3 x4 x6 x8 : Blk) : St := ⟨⟨(.nd (.ptr (some ⟨9, 0, 0, 0⟩)) (.nd (.int .i64 500) (.nd .unk (.nd (.slice none (.n 0) (.exact 0)) .nil .nil) .nil) (.nd (.int .i64 0) (.nd (.bool true) .nil .nil) (.nd .unk (.nd (.int .i64 150) .nil .nil) .nil))) (.nd .unk (.nd (.ptr (some ⟨11, 0, 0, 0⟩)) (.nd (.ptr (some ⟨13, 0, 0, 0⟩)) .nil .nil) (.nd .unk (.nd (.int .i64 500) .nil .nil) .nil)) (.nd (.ptr (some ⟨12, 0, 0, 0⟩)) .nil .nil))), 129, 11⟩,
 [x0,
  x1,
  x2,
  x3,
  x4,
  .cells [(.slice (some ⟨6, 64, 0, 0⟩) .all (.exact 1000)), (.slice (some ⟨7, 64, 0, 0⟩) .all (.exact 1000)), (.slice none (.n 0) (.exact 0)), (.int .i64 (-1)), (.bool false)],
  x6,
  .rows false .sector (List.replicate 1000 (List.replicate 64 0)),
  x8,
  .cells [(.ptr (some ⟨5, 0, 0, 0⟩)), (.int .i64 500), (.int .i64 0), (.int .i64 0), (.int .u32 0), (.slice none (.n 0) (.exact 0))],
  .cells [(.int .u32 0), (.int .i64 0), (.slice none (.n 0) (.exact 0))],
  .cells [(.int .u32 0), (.int .i64 0), (.slice none (.n 0) (.exact 0))],
  .cells [(.int .u32 0), (.int .i64 0), (.slice none (.n 0) (.exact 0))],
  .cells [(.int .u32 0), (.int .i64 0), (.int .i64 0), (.slice none (.n 0) (.exact 0))]],
 [9]⟩
def scb_r4 (x0 x1 x2 x3 x4 x6 x8 : Blk) : St := ⟨⟨(.nd (.ptr (some ⟨9, 0, 0, 0⟩)) (.nd (.int .i64 500) (.nd .unk (.nd (.slice none (.n 0) (.exact 0)) .nil .nil) .nil) (.nd (.int .i64 0) (.nd (.bool true) .nil .nil) (.nd .unk (.nd (.int .i64 200) .nil .nil) .nil))) (.nd .unk (.nd (.ptr (some ⟨11, 0, 0, 0⟩)) (.nd (.ptr (some ⟨13, 0, 0, 0⟩)) .nil .nil) (.nd .unk (.nd (.int .i64 500) .nil .nil) .nil)) (.nd (.ptr (some ⟨12, 0, 0, 0⟩)) .nil .nil))), 129, 11⟩,
 [x0,
  x1,
  x2,
  x3,
  x4,
  .cells [(.slice (some ⟨6, 64, 0, 0⟩) .all (.exact 1000)), (.slice (some ⟨7, 64, 0, 0⟩) .all (.exact 1000)), (.slice none (.n 0) (.exact 0)), (.int .i64 (-1)), (.bool false)],
  x6,
  .rows false .sector (List.replicate 1000 (List.replicate 64 0)),
  x8,
  .cells [(.ptr (some ⟨5, 0, 0, 0⟩)), (.int .i64 500), (.int .i64 0), (.int .i64 0), (.int .u32 0), (.slice none (.n 0) (.exact 0))],
  .cells [(.int .u32 0), (.int .i64 0), (.slice none (.n 0) (.exact 0))],
  .cells [(.int .u32 0), (.int .i64 0), (.slice none (.n 0) (.exact 0))],
  .cells [(.int .u32 0), (.int .i64 0), (.slice none (.n 0) (.exact 0))],
  .cells [(.int .u32 0), (.int .i64 0), (.int .i64 0), (.slice none (.n 0) (.exact 0))]],
 [9]⟩
def scb_r5 (x0 x1 x2 x3 x4 x6 x8 : Blk) : St := ⟨⟨(.nd (.ptr (some ⟨9, 0, 0, 0⟩)) (.nd (.int .i64 500) (.nd .unk (.nd (.slice none (.n 0) (.exact 0)) .nil .nil) .nil) (.nd (.int .i64 0) (.nd (.bool true) .nil .nil) (.nd .unk (.nd (.int .i64 250) .nil .nil) .nil))) (.nd .unk (.nd (.ptr (some ⟨11, 0, 0, 0⟩)) (.nd (.ptr (some ⟨13, 0, 0, 0⟩)) .nil .nil) (.nd .unk (.nd (.int .i64 500) .nil .nil) .nil)) (.nd (.ptr (some ⟨12, 0, 0, 0⟩)) .nil .nil))), 129, 11⟩,
 [x0,
  x1,
  x2,
  x3,
  x4,
  .cells [(.slice (some ⟨6, 64, 0, 0⟩) .all (.exact 1000)), (.slice (some ⟨7, 64, 0, 0⟩) .all (.exact 1000)), (.slice none (.n 0) (.exact 0)), (.int .i64 (-1)), (.bool false)],
  x6,
  .rows false .sector (List.replicate 1000 (List.replicate 64 0)),
  x8,
  .cells [(.ptr (some ⟨5, 0, 0, 0⟩)), (.int .i64 500), (.int .i64 0), (.int .i64 0), (.int .u32 0), (.slice none (.n 0) (.exact 0))],
  .cells [(.int .u32 0), (.int .i64 0), (.slice none (.n 0) (.exact 0))],
  .cells [(.int .u32 0), (.int .i64 0), (.slice none (.n 0) (.exact 0))],
  .cells [(.int .u32 0), (.int .i64 0), (.slice none (.n 0) (.exact 0))],
  .cells [(.int .u32 0), (.int .i64 0), (.int .i64 0), (.slice none (.n 0) (.exact 0))]],
 [9]⟩
def scb_r6 (x0 x1 x2 x3 x4 x6 x8 : Blk) : St := ⟨⟨(.nd (.ptr (some ⟨9, 0, 0, 0⟩)) (.nd (.int .i64 500) (.nd .unk (.nd (.slice none (.n 0) (.exact 0)) .nil .nil) .nil) (.nd (.int .i64 0) (.nd (.bool true) .nil .nil) (.nd .unk (.nd (.int .i64 300) .nil .nil) .nil))) (.nd .unk (.nd (.ptr (some ⟨11, 0, 0, 0⟩)) (.nd (.ptr (some ⟨13, 0, 0, 0⟩)) .nil .nil) (.nd .unk (.nd (.int .i64 500) .nil .nil) .nil)) (.nd (.ptr (some ⟨12, 0, 0, 0⟩)) .nil .nil))), 129, 11⟩,
 [x0,
  x1,
  x2,
  x3,
  x4,
  .cells [(.slice (some ⟨6, 64, 0, 0⟩) .all (.exact 1000)), (.slice (some ⟨7, 64, 0, 0⟩) .all (.exact 1000)), (.slice none (.n 0) (.exact 0)), (.int .i64 (-1)), (.bool false)],
  x6,
  .rows false .sector (List.replicate 1000 (List.replicate 64 0)),
  x8,
  .cells [(.ptr (some ⟨5, 0, 0, 0⟩)), (.int .i64 500), (.int .i64 0), (.int .i64 0), (.int .u32 0), (.slice none (.n 0) (.exact 0))],
  .cells [(.int .u32 0), (.int .i64 0), (.slice none (.n 0) (.exact 0))],
  .cells [(.int .u32 0), (.int .i64 0), (.slice none (.n 0) (.exact 0))],
  .cells [(.int .u32 0), (.int .i64 0), (.slice none (.n 0) (.exact 0))],
  .cells [(.int .u32 0), (.int .i64 0), (.int .i64 0), (.slice none (.n 0) (.exact 0))]],
 [9]⟩
def scb_r7 (x0 x1 x2 x3 x4 x6 x8 : Blk) : St := ⟨⟨(.nd (.ptr (some ⟨9, 0, 0, 0⟩)) (.nd (.int .i64 500) (.nd .unk (.nd (.slice none (.n 0) (.exact 0)) .nil .nil) .nil) (.nd (.int .i64 0) (.nd (.bool true) .nil .nil) (.nd .unk (.nd (.int .i64 350) .nil .nil) .nil))) (.nd .unk (.nd (.ptr (some ⟨11, 0, 0, 0⟩)) (.nd (.ptr (some ⟨13, 0, 0, 0⟩)) .nil .nil) (.nd .unk (.nd (.int .i64 500) .nil .nil) .nil)) (.nd (.ptr (some ⟨12, 0, 0, 0⟩)) .nil .nil))), 129, 11⟩,
 [x0,
  x1,
  x2,
  x3,
  x4,
  .cells [(.slice (some ⟨6, 64, 0, 0⟩) .all (.exact 1000)), (.slice (some ⟨7, 64, 0, 0⟩) .all (.exact 1000)), (.slice none (.n 0) (.exact 0)), (.int .i64 (-1)), (.bool false)],
  x6,
  .rows false .sector (List.replicate 1000 (List.replicate 64 0)),
  x8,
  .cells [(.ptr (some ⟨5, 0, 0, 0⟩)), (.int .i64 500), (.int .i64 0), (.int .i64 0), (.int .u32 0), (.slice none (.n 0) (.exact 0))],
  .cells [(.int .u32 0), (.int .i64 0), (.slice none (.n 0) (.exact 0))],
  .cells [(.int .u32 0), (.int .i64 0), (.slice none (.n 0) (.exact 0))],
  .cells [(.int .u32 0), (.int .i64 0), (.slice none (.n 0) (.exact 0))],
  .cells [(.int .u32 0), (.int .i64 0), (.int .i64 0), (.slice none (.n 0) (.exact 0))]],
 [9]⟩
def scb_r8 (x0 x1 x2 x3 x4 x6 x8 : Blk) : St := ⟨⟨(.nd (.ptr (some ⟨9, 0, 0, 0⟩)) (.nd (.int .i64 500) (.nd .unk (.nd (.slice none (.n 0) (.exact 0)) .nil .nil) .nil) (.nd (.int .i64 0) (.nd (.bool true) .nil .nil) (.nd .unk (.nd (.int .i64 400) .nil .nil) .nil))) (.nd .unk (.nd (.ptr (some ⟨11, 0, 0, 0⟩)) (.nd (.ptr (some ⟨13, 0, 0, 0⟩)) .nil .nil) (.nd .unk (.nd (.int .i64 500) .nil .nil) .nil)) (.nd (.ptr (some ⟨12, 0, 0, 0⟩)) .nil .nil))), 129, 11⟩,
 [x0,
  x1,
  x2,
  x3,
  x4,
  .cells [(.slice (some ⟨6, 64, 0, 0⟩) .all (.exact 1000)), (.slice (some ⟨7, 64, 0, 0⟩) .all (.exact 1000)), (.slice none (.n 0) (.exact 0)), (.int .i64 (-1)), (.bool false)],
  x6,
  .rows false .sector (List.replicate 1000 (List.replicate 64 0)),
  x8,
  .cells [(.ptr (some ⟨5, 0, 0, 0⟩)), (.int .i64 500), (.int .i64 0), (.int .i64 0), (.int .u32 0), (.slice none (.n 0) (.exact 0))],
  .cells [(.int .u32 0), (.int .i64 0), (.slice none (.n 0) (.exact 0))],
  .cells [(.int .u32 0), (.int .i64 0), (.slice none (.n 0) (.exact 0))],
  .cells [(.int .u32 0), (.int .i64 0), (.slice none (.n 0) (.exact 0))],
  .cells [(.int .u32 0), (.int .i64 0), (.int .i64 0), (.slice none (.n 0) (.exact 0))]],
 [9]⟩
def scb_r9 (x0 x1 x2 x3 x4 x6 x8 : Blk) : St := ⟨⟨(.nd (.ptr (some ⟨9, 0, 0, 0⟩)) (.nd (.int .i64 500) (.nd .unk (.nd (.slice none (.n 0) (.exact 0)) .nil .nil) .nil) (.nd (.int .i64 0) (.nd (.bool true) .nil .nil) (.nd .unk (.nd (.int .i64 450) .nil .nil) .nil))) (.nd .unk (.nd (.ptr (some ⟨11, 0, 0, 0⟩)) (.nd (.ptr (some ⟨13, 0, 0, 0⟩)) .nil .nil) (.nd .unk (.nd (.int .i64 500) .nil .nil) .nil)) (.nd (.ptr (some ⟨12, 0, 0, 0⟩)) .nil .nil))), 129, 11⟩,
 [x0,
  x1,
  x2,
  x3,
  x4,
  .cells [(.slice (some ⟨6, 64, 0, 0⟩) .all (.exact 1000)), (.slice (some ⟨7, 64, 0, 0⟩) .all (.exact 1000)), (.slice none (.n 0) (.exact 0)), (.int .i64 (-1)), (.bool false)],
  x6,
  .rows false .sector (List.replicate 1000 (List.replicate 64 0)),
  x8,
  .cells [(.ptr (some ⟨5, 0, 0, 0⟩)), (.int .i64 500), (.int .i64 0), (.int .i64 0), (.int .u32 0), (.slice none (.n 0) (.exact 0))],
  .cells [(.int .u32 0), (.int .i64 0), (.slice none (.n 0) (.exact 0))],
  .cells [(.int .u32 0), (.int .i64 0), (.slice none (.n 0) (.exact 0))],
  .cells [(.int .u32 0), (.int .i64 0), (.slice none (.n 0) (.exact 0))],
  .cells [(.int .u32 0), (.int .i64 0), (.int .i64 0), (.slice none (.n 0) (.exact 0))]],
 [9]⟩
def scb_r10 (x0 x1 x2 x3 x4 x6 x8 : Blk) : St := ⟨⟨(.nd (.ptr (some ⟨9, 0, 0, 0⟩)) (.nd (.int .i64 500) (.nd .unk (.nd (.slice none (.n 0) (.exact 0)) .nil .nil) .nil) (.nd (.int .i64 0) (.nd (.bool true) .nil .nil) (.nd .unk (.nd (.int .i64 500) .nil .nil) .nil))) (.nd .unk (.nd (.ptr (some ⟨11, 0, 0, 0⟩)) (.nd (.ptr (some ⟨13, 0, 0, 0⟩)) .nil .nil) (.nd .unk (.nd (.int .i64 500) .nil .nil) .nil)) (.nd (.ptr (some ⟨12, 0, 0, 0⟩)) .nil .nil))), 129, 11⟩,
 [x0,
  x1,
  x2,
  x3,
  x4,
  .cells [(.slice (some ⟨6, 64, 0, 0⟩) .all (.exact 1000)), (.slice (some ⟨7, 64, 0, 0⟩) .all (.exact 1000)), (.slice none (.n 0) (.exact 0)), (.int .i64 (-1)), (.bool false)],
  x6,
  .rows false .sector (List.replicate 1000 (List.replicate 64 0)),
  x8,
  .cells [(.ptr (some ⟨5, 0, 0, 0⟩)), (.int .i64 500), (.int .i64 0), (.int .i64 0), (.int .u32 0), (.slice none (.n 0) (.exact 0))],
  .cells [(.int .u32 0), (.int .i64 0), (.slice none (.n 0) (.exact 0))],
  .cells [(.int .u32 0), (.int .i64 0), (.slice none (.n 0) (.exact 0))],
  .cells [(.int .u32 0), (.int .i64 0), (.slice none (.n 0) (.exact 0))],
  .cells [(.int .u32 0), (.int .i64 0), (.int .i64 0), (.slice none (.n 0) (.exact 0))]],
 [9]⟩
def scb_s6 (x0 x1 x2 x3 x4 x6 x8 : Blk) : St := ⟨⟨(.nd .unk (.nd .unk .nil (.nd (.int .i64 0) .nil .nil)) (.nd .unk (.nd (.ptr (some ⟨11, 0, 0, 0⟩)) .nil .nil) (.nd (.ptr (some ⟨12, 0, 0, 0⟩)) .nil .nil))), 129, 11⟩,
 [x0,
  x1,
  x2,
  x3,
  x4,
  .cells [(.slice (some ⟨6, 64, 0, 0⟩) .all (.exact 1000)), (.slice (some ⟨7, 64, 0, 0⟩) .all (.exact 1000)), (.slice none (.n 0) (.exact 0)), (.int .i64 (-1)), (.bool false)],
  x6,
  .rows false .sector (List.replicate 1000 (List.replicate 64 0)),
  x8,
  .cells [(.ptr (some ⟨5, 0, 0, 0⟩)), (.int .i64 500), (.int .i64 0), (.int .i64 0), (.int .u32 0), (.slice none (.n 0) (.exact 0))],
  .cells [(.int .u32 0), (.int .i64 0), (.slice none (.n 0) (.exact 0))],
  .cells [(.int .u32 0), (.int .i64 0), (.slice none (.n 0) (.exact 0))],
  .cells [(.int .u32 0), (.int .i64 0), (.slice none (.n 0) (.exact 0))]],
 [9]⟩
def scb_s7 (x0 x1 x2 x3 x4 x6 x8 : Blk) : St := ⟨⟨(.nd .unk (.nd .unk .nil (.nd (.int .i64 0) .nil .nil)) (.nd .unk (.nd (.ptr (some ⟨11, 0, 0, 0⟩)) .nil .nil) .nil)), 129, 11⟩,
 [x0,
  x1,
  x2,
  x3,
  x4,
  .cells [(.slice (some ⟨6, 64, 0, 0⟩) .all (.exact 1000)), (.slice (some ⟨7, 64, 0, 0⟩) .all (.exact 1000)), (.slice none (.n 0) (.exact 0)), (.int .i64 (-1)), (.bool false)],
  x6,
  .rows false .sector (List.replicate 1000 (List.replicate 64 0)),
  x8,
  .cells [(.ptr (some ⟨5, 0, 0, 0⟩)), (.int .i64 500), (.int .i64 0), (.int .i64 0), (.int .u32 0), (.slice none (.n 0) (.exact 0))],
  .cells [(.int .u32 0), (.int .i64 0), (.slice none (.n 0) (.exact 0))],
  .cells [(.int .u32 0), (.int .i64 0), (.slice none (.n 0) (.exact 0))]],
 [9]⟩
def scb_v (x0 x1 x2 x3 x4 x6 x8 : Blk) : AVal := (.tup [(.agg [(.int .u32 0), (.int .i64 0), (.slice none (.n 0) (.exact 0))]), (.int .i64 0)])
def scb_h (x0 x1 x2 x3 x4 x6 x8 : Blk) : Heap := [x0,
  x1,
  x2,
  x3,
  x4,
  .cells [(.slice (some ⟨6, 64, 0, 0⟩) .all (.exact 1000)), (.slice (some ⟨7, 64, 0, 0⟩) .all (.exact 1000)), (.slice none (.n 0) (.exact 0)), (.int .i64 (-1)), (.bool false)],
  x6,
  .rows false .sector (List.replicate 1000 (List.replicate 64 0)),
  x8,
  .cells [(.ptr (some ⟨5, 0, 0, 0⟩)), (.int .i64 500), (.int .i64 0), (.int .i64 0), (.int .u32 0), (.slice none (.n 0) (.exact 0))],
  .cells [(.int .u32 0), (.int .i64 0), (.slice none (.n 0) (.exact 0))],
  .cells [(.int .u32 0), (.int .i64 0), (.slice none (.n 0) (.exact 0))]]
end
end Go.Sx

/- A run in parts: proofs. -/
set_option maxRecDepth 1000000
set_option linter.unusedVariables false
namespace Go.Sx
noncomputable section
theorem scb_p0 (x0 x1 x2 x3 x4 x6 x8 : Blk) : Leads (EV TBO fr0 30) (.seq (partAt 0 a134.body) (.cut [0, 1, 4, 5])) (scb_s0 x0 x1 x2 x3 x4 x6 x8) (scb_s1 x0 x1 x2 x3 x4 x6 x8) := Leads.of fun R K => by kernel_rfl
theorem scb_p1 (x0 x1 x2 x3 x4 x6 x8 : Blk) : Leads (EV TBO fr0 30) (.seq (partAt 1 a134.body) (.cut [0, 1, 4, 5, 6])) (scb_s1 x0 x1 x2 x3 x4 x6 x8) (scb_s2 x0 x1 x2 x3 x4 x6 x8) := Leads.of fun R K => by kernel_rfl
theorem scb_p2 (x0 x1 x2 x3 x4 x6 x8 : Blk) : Leads (EV TBO fr0 30) (.seq (partAt 2 a134.body) (.cut [0, 1, 4, 5, 6, 7])) (scb_s2 x0 x1 x2 x3 x4 x6 x8) (scb_s3 x0 x1 x2 x3 x4 x6 x8) := Leads.of fun R K => by kernel_rfl
theorem scb_p3 (x0 x1 x2 x3 x4 x6 x8 : Blk) : Leads (EV TBO fr0 30) (.seq (partAt 3 a134.body) (.cut [0, 1, 4, 5, 6, 7, 8])) (scb_s3 x0 x1 x2 x3 x4 x6 x8) (scb_s4 x0 x1 x2 x3 x4 x6 x8) := Leads.of fun R K => by kernel_rfl
theorem scb_p4 (x0 x1 x2 x3 x4 x6 x8 : Blk) : Leads (EV TBO fr0 30) (.seq (partAt 4 a134.body) (.cut [0, 1, 4, 5, 6, 7, 8, 9])) (scb_s4 x0 x1 x2 x3 x4 x6 x8) (scb_s5 x0 x1 x2 x3 x4 x6 x8) := Leads.of fun R K => by kernel_rfl
theorem scb_pre_ok (x0 x1 x2 x3 x4 x6 x8 : Blk) : Leads (EV TBO fr0 30) (preAt (partAt 5 a134.body)) (scb_s5 x0 x1 x2 x3 x4 x6 x8) (scb_pre x0 x1 x2 x3 x4 x6 x8) := Leads.of fun R K => by kernel_rfl
theorem scb_rd1 (x0 x1 x2 x3 x4 x6 x8 : Blk) : Rounds (EV TBO fr0 30) (.seq (loopAt (partAt 5 a134.body)) (.cut [0, 1, 4, 5, 6, 7, 8, 9, 20, 21])) 50 (scb_pre x0 x1 x2 x3 x4 x6 x8) (scb_r1 x0 x1 x2 x3 x4 x6 x8) := Rounds.of fun R m K => by kernel_rfl
theorem scb_rd2 (x0 x1 x2 x3 x4 x6 x8 : Blk) : Rounds (EV TBO fr0 30) (.seq (loopAt (partAt 5 a134.body)) (.cut [0, 1, 4, 5, 6, 7, 8, 9, 20, 21])) 50 (scb_r1 x0 x1 x2 x3 x4 x6 x8) (scb_r2 x0 x1 x2 x3 x4 x6 x8) := Rounds.of fun R m K => by kernel_rfl
theorem scb_rd3 (x0 x1 x2 x3 x4 x6 x8 : Blk) : Rounds (EV TBO fr0 30) (.seq (loopAt (partAt 5 a134.body)) (.cut [0, 1, 4, 5, 6, 7, 8, 9, 20, 21])) 50 (scb_r2 x0 x1 x2 x3 x4 x6 x8) (scb_r3 x0 x1 x2 x3 x4 x6 x8) := Rounds.of fun R m K => by kernel_rfl
theorem scb_rd4 (x0 x1 x2 x3 x4 x6 x8 : Blk) : Rounds (EV TBO fr0 30) (.seq (loopAt (partAt 5 a134.body)) (.cut [0, 1, 4, 5, 6, 7, 8, 9, 20, 21])) 50 (scb_r3 x0 x1 x2 x3 x4 x6 x8) (scb_r4 x0 x1 x2 x3 x4 x6 x8) := Rounds.of fun R m K => by kernel_rfl
theorem scb_rd5 (x0 x1 x2 x3 x4 x6 x8 : Blk) : Rounds (EV TBO fr0 30) (.seq (loopAt (partAt 5 a134.body)) (.cut [0, 1, 4, 5, 6, 7, 8, 9, 20, 21])) 50 (scb_r4 x0 x1 x2 x3 x4 x6 x8) (scb_r5 x0 x1 x2 x3 x4 x6 x8) := Rounds.of fun R m K => by kernel_rfl
end
end Go.Sx

/- A run in parts: proofs. -/
set_option maxRecDepth 1000000
set_option linter.unusedVariables false
namespace Go.Sx
noncomputable section
theorem scb_rd6 (x0 x1 x2 x3 x4 x6 x8 : Blk) : Rounds (EV TBO fr0 30) (.seq (loopAt (partAt 5 a134.body)) (.cut [0, 1, 4, 5, 6, 7, 8, 9, 20, 21])) 50 (scb_r5 x0 x1 x2 x3 x4 x6 x8) (scb_r6 x0 x1 x2 x3 x4 x6 x8) := Rounds.of fun R m K => by kernel_rfl
theorem scb_rd7 (x0 x1 x2 x3 x4 x6 x8 : Blk) : Rounds (EV TBO fr0 30) (.seq (loopAt (partAt 5 a134.body)) (.cut [0, 1, 4, 5, 6, 7, 8, 9, 20, 21])) 50 (scb_r6 x0 x1 x2 x3 x4 x6 x8) (scb_r7 x0 x1 x2 x3 x4 x6 x8) := Rounds.of fun R m K => by kernel_rfl
theorem scb_rd8 (x0 x1 x2 x3 x4 x6 x8 : Blk) : Rounds (EV TBO fr0 30) (.seq (loopAt (partAt 5 a134.body)) (.cut [0, 1, 4, 5, 6, 7, 8, 9, 20, 21])) 50 (scb_r7 x0 x1 x2 x3 x4 x6 x8) (scb_r8 x0 x1 x2 x3 x4 x6 x8) := Rounds.of fun R m K => by kernel_rfl
theorem scb_rd9 (x0 x1 x2 x3 x4 x6 x8 : Blk) : Rounds (EV TBO fr0 30) (.seq (loopAt (partAt 5 a134.body)) (.cut [0, 1, 4, 5, 6, 7, 8, 9, 20, 21])) 50 (scb_r8 x0 x1 x2 x3 x4 x6 x8) (scb_r9 x0 x1 x2 x3 x4 x6 x8) := Rounds.of fun R m K => by kernel_rfl
theorem scb_rd10 (x0 x1 x2 x3 x4 x6 x8 : Blk) : Rounds (EV TBO fr0 30) (.seq (loopAt (partAt 5 a134.body)) (.cut [0, 1, 4, 5, 6, 7, 8, 9, 20, 21])) 50 (scb_r9 x0 x1 x2 x3 x4 x6 x8) (scb_r10 x0 x1 x2 x3 x4 x6 x8) := Rounds.of fun R m K => by kernel_rfl
theorem scb_p6 (x0 x1 x2 x3 x4 x6 x8 : Blk) : Leads (EV TBO fr0 30) (.seq (partAt 6 a134.body) (.cut [4, 5])) (scb_s6 x0 x1 x2 x3 x4 x6 x8) (scb_s7 x0 x1 x2 x3 x4 x6 x8) := Leads.of fun R K => by kernel_rfl
theorem scb_end (x0 x1 x2 x3 x4 x6 x8 : Blk) : Ends (EV TBO fr0 30) (restAt 7 a134.body) (scb_s7 x0 x1 x2 x3 x4 x6 x8) [.cellN 4 3, .tmp 5] (scb_v x0 x1 x2 x3 x4 x6 x8) (scb_h x0 x1 x2 x3 x4 x6 x8) [9] := Ends.of fun R k => by kernel_rfl
end
end Go.Sx

/- A run in parts: the whole. -/
set_option maxRecDepth 1000000
set_option linter.unusedVariables false
namespace Go.Sx
noncomputable section
theorem scb_p5 (x0 x1 x2 x3 x4 x6 x8 : Blk) : Leads (EV TBO fr0 30) (.seq (.seq (preAt (partAt 5 a134.body)) (.block 0 (.loop [] (.seq (loopAt (partAt 5 a134.body)) (.cut [0, 1, 4, 5, 6, 7, 8, 9, 20, 21]))))) (.cut [4, 5, 6])) (scb_s5 x0 x1 x2 x3 x4 x6 x8) (scb_s6 x0 x1 x2 x3 x4 x6 x8) := Rounds.whole (scb_pre_ok x0 x1 x2 x3 x4 x6 x8) ((((((((((scb_rd1 x0 x1 x2 x3 x4 x6 x8).trans (scb_rd2 x0 x1 x2 x3 x4 x6 x8)).trans (scb_rd3 x0 x1 x2 x3 x4 x6 x8)).trans (scb_rd4 x0 x1 x2 x3 x4 x6 x8)).trans (scb_rd5 x0 x1 x2 x3 x4 x6 x8)).trans (scb_rd6 x0 x1 x2 x3 x4 x6 x8)).trans (scb_rd7 x0 x1 x2 x3 x4 x6 x8)).trans (scb_rd8 x0 x1 x2 x3 x4 x6 x8)).trans (scb_rd9 x0 x1 x2 x3 x4 x6 x8)).trans (scb_rd10 x0 x1 x2 x3 x4 x6 x8)) (by decide) (Leaves.cut fun R K K2 => by kernel_rfl)
def scb_f : AFunc := a134.cuts (some [0, 1, 4, 5, 6, 7, 8, 9, 20, 21]) [[0, 1, 4, 5], [0, 1, 4, 5, 6], [0, 1, 4, 5, 6, 7], [0, 1, 4, 5, 6, 7, 8], [0, 1, 4, 5, 6, 7, 8, 9], [4, 5, 6], [4, 5]]
theorem scb_code : scb_f.body = (.seq (.seq (partAt 0 a134.body) (.cut [0, 1, 4, 5])) (.seq (.seq (partAt 1 a134.body) (.cut [0, 1, 4, 5, 6])) (.seq (.seq (partAt 2 a134.body) (.cut [0, 1, 4, 5, 6, 7])) (.seq (.seq (partAt 3 a134.body) (.cut [0, 1, 4, 5, 6, 7, 8])) (.seq (.seq (partAt 4 a134.body) (.cut [0, 1, 4, 5, 6, 7, 8, 9])) (.seq (.seq (.seq (preAt (partAt 5 a134.body)) (.block 0 (.loop [] (.seq (loopAt (partAt 5 a134.body)) (.cut [0, 1, 4, 5, 6, 7, 8, 9, 20, 21]))))) (.cut [4, 5, 6])) (.seq (.seq (partAt 6 a134.body) (.cut [4, 5])) (restAt 7 a134.body)))))))) := by kernel_rfl
theorem scb_run (x0 x1 x2 x3 x4 x6 x8 : Blk) (R : Type) (k : AVal → Heap → List Nat → Option R) : exF (EV TBO fr0 30) scb_f [(.ptr (some ⟨9, 0, 0, 0⟩)), (.int .i64 500)] [x0,
  x1,
  x2,
  x3,
  x4,
  .cells [(.slice (some ⟨6, 64, 0, 0⟩) .all (.exact 1000)), (.slice (some ⟨7, 64, 0, 0⟩) .all (.exact 1000)), (.slice none (.n 0) (.exact 0)), (.int .i64 (-1)), (.bool false)],
  x6,
  .rows false .sector (List.replicate 1000 (List.replicate 64 0)),
  x8,
  .cells [(.ptr (some ⟨5, 0, 0, 0⟩)), (.int .i64 500), (.int .i64 0), (.int .i64 0), (.int .u32 0), (.slice none (.n 0) (.exact 0))],
  .cells [(.int .u32 0), (.int .i64 0), (.slice none (.n 0) (.exact 0))]] k = k (scb_v x0 x1 x2 x3 x4 x6 x8) (scb_h x0 x1 x2 x3 x4 x6 x8) [9] :=
  Ends.run (f := scb_f) (Leads.ends (scb_p0 x0 x1 x2 x3 x4 x6 x8) (Leads.ends (scb_p1 x0 x1 x2 x3 x4 x6 x8) (Leads.ends (scb_p2 x0 x1 x2 x3 x4 x6 x8) (Leads.ends (scb_p3 x0 x1 x2 x3 x4 x6 x8) (Leads.ends (scb_p4 x0 x1 x2 x3 x4 x6 x8) (Leads.ends (scb_p5 x0 x1 x2 x3 x4 x6 x8) (Leads.ends (scb_p6 x0 x1 x2 x3 x4 x6 x8) (scb_end x0 x1 x2 x3 x4 x6 x8)))))))) scb_code R k

end
end Go.Sx
