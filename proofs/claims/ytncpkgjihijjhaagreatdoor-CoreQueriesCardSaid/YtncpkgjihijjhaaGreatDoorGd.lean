/- CoreQueries: each terminal is asked what it counts when the switch begins, when its power is back, and at each so-manieth tick; true for every k and ticks. Part Gd of the proof. Condition: the listed package variables hold what the program's text lays. -/
import Derived.Test.YtncpkgjihijjhaaGreatDoorCc
import Derived.Test.YtncpkgjihijjhaaGreatDoorSc
import Derived.KernelRfl
set_option linter.unusedVariables false
set_option linter.unusedSimpArgs false
noncomputable section
/- CoreQueries: its states. -/
set_option maxRecDepth 1000000
set_option linter.unusedVariables false
namespace Go.Sx
noncomputable section
def cq_s0 (k t : Int) : St := startS 70 [.int .u8 k, .int .u8 t] []

def cq_s1 (k t : Int) : St := ⟨⟨(.nd (.int .u8 k) (.nd (.int .u8 t) .nil .nil) (.nd .unk (.nd (.bool false) .nil .nil) .nil)), 70, 0⟩,
 [],
 []⟩

def cq_s2 (k t : Int) : St := ⟨⟨(.nd (.int .u8 k) (.nd (.int .u8 t) .nil .nil) (.nd .unk (.nd (.bool false) .nil .nil) .nil)), 70, 0⟩,
 [],
 []⟩

def cq_s3 (t0 t1 : C4) (x2 x3 : Blk) (t : Int) : St := ⟨⟨(.nd .unk (.nd (.int .u8 t) .nil (.nd (.ptr (some ⟨0, 0, 0, 0⟩)) .nil .nil)) (.nd .unk (.nd (.bool false) .nil .nil) .nil)), 70, 0⟩,
 [.cells [(.slice (some ⟨1, 16, 0, 0⟩) .all .opn), (.slice (some ⟨2, 1, 0, 0⟩) .all .opn), (.slice (some ⟨3, 1, 0, 0⟩) .all .opn), (.int .i64 500), (.int .i64 100000), (.ptr (some ⟨4, 0, 0, 0⟩)), (.slice none (.n 0) (.exact 0)), (.ptr (some ⟨8, 0, 0, 0⟩)), (.ptr (some ⟨12, 0, 0, 0⟩)), (.int .i64 0), (.map (some 13)), (.slice (some ⟨14, 2, 0, 0⟩) .all .opn), (.bool false), (.int .i64 0)],
  .rows false .c4 [t0, t1],
  x2,
  x3,
  .cells [(.ptr (some ⟨5, 0, 0, 0⟩)), (.int .i64 500), (.int .i64 0), (.int .i64 0), (.int .u32 0), (.slice none (.n 0) (.exact 0))],
  .cells [(.slice (some ⟨6, 64, 0, 0⟩) .all (.exact 1000)), (.slice (some ⟨7, 64, 0, 0⟩) .all (.exact 1000)), (.slice none (.n 0) (.exact 0)), (.int .i64 (-1)), (.bool false)],
  .rows false .sector (List.replicate 1000 (List.replicate 64 0)),
  .rows false .sector (List.replicate 1000 (List.replicate 64 0)),
  .cells [(.slice (some ⟨9, 18, 0, 0⟩) .all .opn), (.slice (some ⟨10, 18, 0, 0⟩) .all .opn), (.map (some 11))],
  .rows false .terml [⟨t0, false, 0⟩, ⟨t1, false, 0⟩],
  .rows false .terml [⟨t0, false, 0⟩, ⟨t1, false, 0⟩],
  .mp .key .txn [],
  .cells [(.slice none (.n 0) (.exact 0)), (.int .i64 0)],
  .mp .key (.int .i64) [],
  .rows false .out [⟨0, [51, 50, 28, 48, 28, 48]⟩, ⟨1, [51, 50, 28, 49, 28, 48]⟩]],
 []⟩

def cq_s4 (t0 t1 : C4) (x2 x3 : Blk) (t : Int) : St := ⟨⟨(.nd .unk (.nd (.int .u8 t) .nil (.nd (.ptr (some ⟨0, 0, 0, 0⟩)) .nil .nil)) (.nd .unk (.nd (.bool false) .nil .nil) .nil)), 70, 0⟩,
 [.cells [(.slice (some ⟨1, 16, 0, 0⟩) .all .opn), (.slice (some ⟨2, 1, 0, 0⟩) .all .opn), (.slice (some ⟨3, 1, 0, 0⟩) .all .opn), (.int .i64 500), (.int .i64 100000), (.ptr (some ⟨4, 0, 0, 0⟩)), (.slice none (.n 0) (.exact 0)), (.ptr (some ⟨8, 0, 0, 0⟩)), (.ptr (some ⟨12, 0, 0, 0⟩)), (.int .i64 0), (.map (some 13)), (.slice none (.n 0) (.exact 0)), (.bool false), (.int .i64 0)],
  .rows false .c4 [t0, t1],
  x2,
  x3,
  .cells [(.ptr (some ⟨5, 0, 0, 0⟩)), (.int .i64 500), (.int .i64 0), (.int .i64 0), (.int .u32 0), (.slice none (.n 0) (.exact 0))],
  .cells [(.slice (some ⟨6, 64, 0, 0⟩) .all (.exact 1000)), (.slice (some ⟨7, 64, 0, 0⟩) .all (.exact 1000)), (.slice none (.n 0) (.exact 0)), (.int .i64 (-1)), (.bool false)],
  .rows false .sector (List.replicate 1000 (List.replicate 64 0)),
  .rows false .sector (List.replicate 1000 (List.replicate 64 0)),
  .cells [(.slice (some ⟨9, 18, 0, 0⟩) .all .opn), (.slice (some ⟨10, 18, 0, 0⟩) .all .opn), (.map (some 11))],
  .rows false .terml [⟨t0, false, 0⟩, ⟨t1, false, 0⟩],
  .rows false .terml [⟨t0, false, 0⟩, ⟨t1, false, 0⟩],
  .mp .key .txn [],
  .cells [(.slice none (.n 0) (.exact 0)), (.int .i64 0)],
  .mp .key (.int .i64) []],
 []⟩

def cq_s5 (t0 t1 : C4) (x2 x3 : Blk) (t : Int) : St := ⟨⟨(.nd .unk (.nd (.int .u8 t) .nil (.nd (.ptr (some ⟨0, 0, 0, 0⟩)) .nil .nil)) (.nd .unk (.nd (.bool false) .nil .nil) .nil)), 70, 0⟩,
 [.cells [(.slice (some ⟨1, 16, 0, 0⟩) .all .opn), (.slice (some ⟨2, 1, 0, 0⟩) .all .opn), (.slice (some ⟨3, 1, 0, 0⟩) .all .opn), (.int .i64 500), (.int .i64 100000), (.ptr (some ⟨4, 0, 0, 0⟩)), (.slice none (.n 0) (.exact 0)), (.ptr (some ⟨8, 0, 0, 0⟩)), (.ptr (some ⟨12, 0, 0, 0⟩)), (.int .i64 0), (.map (some 13)), (.slice (some ⟨14, 2, 0, 0⟩) .all .opn), (.bool false), (.int .i64 0)],
  .rows false .c4 [t0, t1],
  x2,
  x3,
  .cells [(.ptr (some ⟨5, 0, 0, 0⟩)), (.int .i64 500), (.int .i64 0), (.int .i64 0), (.int .u32 0), (.slice none (.n 0) (.exact 0))],
  .cells [(.slice (some ⟨6, 64, 0, 0⟩) .all (.exact 1000)), (.slice (some ⟨7, 64, 0, 0⟩) .all (.exact 1000)), (.slice none (.n 0) (.exact 0)), (.int .i64 (-1)), (.bool false)],
  .rows false .sector (List.replicate 1000 (List.replicate 64 0)),
  .rows false .sector (List.replicate 1000 (List.replicate 64 0)),
  .cells [(.slice (some ⟨9, 18, 0, 0⟩) .all .opn), (.slice (some ⟨10, 18, 0, 0⟩) .all .opn), (.map (some 11))],
  .rows false .terml [⟨t0, false, 0⟩, ⟨t1, false, 0⟩],
  .rows false .terml [⟨t0, false, 0⟩, ⟨t1, false, 0⟩],
  .mp .key .txn [],
  .cells [(.slice none (.n 0) (.exact 0)), (.int .i64 0)],
  .mp .key (.int .i64) [],
  .rows false .out [⟨1, [51, 50, 28, 49, 28, 48]⟩]],
 []⟩

def cq_s6 (t0 t1 : C4) (x2 x3 : Blk) (t : Int) : St := ⟨⟨(.nd .unk (.nd (.int .u8 t) (.nd .unk (.nd (.slice (some ⟨14, 2, 0, 0⟩) .all .opn) .nil .nil) .nil) (.nd (.ptr (some ⟨0, 0, 0, 0⟩)) .nil .nil)) (.nd .unk (.nd (.bool false) .nil .nil) .nil)), 70, 0⟩,
 [.cells [(.slice (some ⟨1, 16, 0, 0⟩) .all .opn), (.slice (some ⟨2, 1, 0, 0⟩) .all .opn), (.slice (some ⟨3, 1, 0, 0⟩) .all .opn), (.int .i64 500), (.int .i64 100000), (.ptr (some ⟨4, 0, 0, 0⟩)), (.slice none (.n 0) (.exact 0)), (.ptr (some ⟨8, 0, 0, 0⟩)), (.ptr (some ⟨12, 0, 0, 0⟩)), (.int .i64 0), (.map (some 13)), (.slice none (.n 0) (.exact 0)), (.bool false), (.int .i64 0)],
  .rows false .c4 [t0, t1],
  x2,
  x3,
  .cells [(.ptr (some ⟨5, 0, 0, 0⟩)), (.int .i64 500), (.int .i64 0), (.int .i64 0), (.int .u32 0), (.slice none (.n 0) (.exact 0))],
  .cells [(.slice (some ⟨6, 64, 0, 0⟩) .all (.exact 1000)), (.slice (some ⟨7, 64, 0, 0⟩) .all (.exact 1000)), (.slice none (.n 0) (.exact 0)), (.int .i64 (-1)), (.bool false)],
  .rows false .sector (List.replicate 1000 (List.replicate 64 0)),
  .rows false .sector (List.replicate 1000 (List.replicate 64 0)),
  .cells [(.slice (some ⟨9, 18, 0, 0⟩) .all .opn), (.slice (some ⟨10, 18, 0, 0⟩) .all .opn), (.map (some 11))],
  .rows false .terml [⟨t0, false, 0⟩, ⟨t1, false, 0⟩],
  .rows false .terml [⟨t0, false, 0⟩, ⟨t1, false, 0⟩],
  .mp .key .txn [],
  .cells [(.slice none (.n 0) (.exact 0)), (.int .i64 0)],
  .mp .key (.int .i64) [],
  .rows false .out [⟨1, [51, 50, 28, 49, 28, 48]⟩]],
 []⟩

def cq_s7 (t0 t1 : C4) (x2 x3 : Blk) (t : Int) : St := ⟨⟨(.nd .unk (.nd (.int .u8 t) (.nd .unk (.nd (.slice (some ⟨14, 2, 0, 0⟩) .all .opn) .nil .nil) .nil) (.nd (.ptr (some ⟨0, 0, 0, 0⟩)) .nil .nil)) (.nd .unk (.nd (.bool false) .nil .nil) .nil)), 70, 0⟩,
 [.cells [(.slice (some ⟨1, 16, 0, 0⟩) .all .opn), (.slice (some ⟨2, 1, 0, 0⟩) .all .opn), (.slice (some ⟨3, 1, 0, 0⟩) .all .opn), (.int .i64 500), (.int .i64 100000), (.ptr (some ⟨4, 0, 0, 0⟩)), (.slice none (.n 0) (.exact 0)), (.ptr (some ⟨8, 0, 0, 0⟩)), (.ptr (some ⟨12, 0, 0, 0⟩)), (.int .i64 0), (.map (some 13)), (.slice none (.n 0) (.exact 0)), (.bool false), (.int .i64 0)],
  .rows false .c4 [t0, t1],
  x2,
  x3,
  .cells [(.ptr (some ⟨5, 0, 0, 0⟩)), (.int .i64 500), (.int .i64 0), (.int .i64 0), (.int .u32 0), (.slice none (.n 0) (.exact 0))],
  .cells [(.slice (some ⟨6, 64, 0, 0⟩) .all (.exact 1000)), (.slice (some ⟨7, 64, 0, 0⟩) .all (.exact 1000)), (.slice none (.n 0) (.exact 0)), (.int .i64 (-1)), (.bool false)],
  .rows false .sector (List.replicate 1000 (List.replicate 64 0)),
  .rows false .sector (List.replicate 1000 (List.replicate 64 0)),
  .cells [(.slice (some ⟨9, 18, 0, 0⟩) .all .opn), (.slice (some ⟨10, 18, 0, 0⟩) .all .opn), (.map (some 11))],
  .rows false .terml [⟨t0, false, 0⟩, ⟨t1, false, 0⟩],
  .rows false .terml [⟨t0, false, 0⟩, ⟨t1, false, 0⟩],
  .mp .key .txn [],
  .cells [(.slice none (.n 0) (.exact 0)), (.int .i64 0)],
  .mp .key (.int .i64) [],
  .rows false .out [⟨1, [51, 50, 28, 49, 28, 48]⟩]],
 []⟩

def cq_s8 (t0 t1 : C4) (x2 x3 : Blk) (x : Int) : St := ⟨⟨(.nd .unk (.nd .unk (.nd .unk (.nd (.slice (some ⟨14, 2, 0, 0⟩) .all .opn) .nil .nil) .nil) (.nd (.ptr (some ⟨0, 0, 0, 0⟩)) .nil .nil)) (.nd .unk (.nd (.bool false) (.nd (.int .i64 x) .nil .nil) .nil) .nil)), 70, 0⟩,
 [.cells [(.slice (some ⟨1, 16, 0, 0⟩) .all .opn), (.slice (some ⟨2, 1, 0, 0⟩) .all .opn), (.slice (some ⟨3, 1, 0, 0⟩) .all .opn), (.int .i64 500), (.int .i64 100000), (.ptr (some ⟨4, 0, 0, 0⟩)), (.slice none (.n 0) (.exact 0)), (.ptr (some ⟨8, 0, 0, 0⟩)), (.ptr (some ⟨12, 0, 0, 0⟩)), (.int .i64 0), (.map (some 13)), (.slice none (.n 0) (.exact 0)), (.bool false), (.int .i64 0)],
  .rows false .c4 [t0, t1],
  x2,
  x3,
  .cells [(.ptr (some ⟨5, 0, 0, 0⟩)), (.int .i64 500), (.int .i64 0), (.int .i64 0), (.int .u32 0), (.slice none (.n 0) (.exact 0))],
  .cells [(.slice (some ⟨6, 64, 0, 0⟩) .all (.exact 1000)), (.slice (some ⟨7, 64, 0, 0⟩) .all (.exact 1000)), (.slice none (.n 0) (.exact 0)), (.int .i64 (-1)), (.bool false)],
  .rows false .sector (List.replicate 1000 (List.replicate 64 0)),
  .rows false .sector (List.replicate 1000 (List.replicate 64 0)),
  .cells [(.slice (some ⟨9, 18, 0, 0⟩) .all .opn), (.slice (some ⟨10, 18, 0, 0⟩) .all .opn), (.map (some 11))],
  .rows false .terml [⟨t0, false, 0⟩, ⟨t1, false, 0⟩],
  .rows false .terml [⟨t0, false, 0⟩, ⟨t1, false, 0⟩],
  .mp .key .txn [],
  .cells [(.slice none (.n 0) (.exact 0)), (.int .i64 0)],
  .mp .key (.int .i64) [],
  .rows false .out [⟨1, [51, 50, 28, 49, 28, 48]⟩]],
 []⟩

def ca0 : C4 := ⟨⟨1000, 9, 0, 0⟩, ⟨2000, 9, 0, 0⟩, ⟨5000, 100, 0, 0⟩, ⟨10000, 9, 0, 0⟩⟩
def ca1 : C4 := ⟨⟨2000, 9, 0, 0⟩, ⟨5000, 9, 0, 0⟩, ⟨1, 100, 0, 0⟩, ⟨1, 9, 0, 0⟩⟩
def ca2 : C4 := ⟨⟨500, 9, 0, 0⟩, ⟨500, 9, 0, 0⟩, ⟨700, 100, 0, 0⟩, ⟨1100, 9, 0, 0⟩⟩
def ca3 : C4 := ⟨⟨300, 9, 0, 0⟩, ⟨1000, 9, 0, 0⟩, ⟨1000, 100, 0, 0⟩, ⟨2500, 9, 0, 0⟩⟩
def ca4 : C4 := ⟨⟨1000, 9, 0, 0⟩, ⟨2000, 9, 0, 0⟩, ⟨5000, 10000, 0, 0⟩, ⟨10000, 9, 0, 0⟩⟩
def ca5 : C4 := ⟨⟨2000, 9, 0, 0⟩, ⟨5000, 9, 0, 0⟩, ⟨1, 10000, 0, 0⟩, ⟨1, 9, 0, 0⟩⟩
def ca6 : C4 := ⟨⟨500, 9, 0, 0⟩, ⟨500, 9, 0, 0⟩, ⟨700, 10000, 0, 0⟩, ⟨1100, 9, 0, 0⟩⟩
def ca7 : C4 := ⟨⟨300, 9, 0, 0⟩, ⟨1000, 9, 0, 0⟩, ⟨1000, 10000, 0, 0⟩, ⟨2500, 9, 0, 0⟩⟩
def ca8 : C4 := ⟨⟨1000, 9, 0, 0⟩, ⟨2000, 30, 0, 0⟩, ⟨5000, 9, 0, 0⟩, ⟨10000, 9, 0, 0⟩⟩
def ca9 : C4 := ⟨⟨2000, 9, 0, 0⟩, ⟨5000, 30, 0, 0⟩, ⟨1, 9, 0, 0⟩, ⟨1, 9, 0, 0⟩⟩
def ca10 : C4 := ⟨⟨500, 9, 0, 0⟩, ⟨500, 30, 0, 0⟩, ⟨700, 9, 0, 0⟩, ⟨1100, 9, 0, 0⟩⟩
def ca11 : C4 := ⟨⟨300, 9, 0, 0⟩, ⟨1000, 30, 0, 0⟩, ⟨1000, 9, 0, 0⟩, ⟨2500, 9, 0, 0⟩⟩
def ca12 : C4 := ⟨⟨1000, 9, 0, 0⟩, ⟨2000, 100, 0, 0⟩, ⟨5000, 9, 0, 0⟩, ⟨10000, 9, 0, 0⟩⟩
def ca13 : C4 := ⟨⟨2000, 9, 0, 0⟩, ⟨5000, 100, 0, 0⟩, ⟨1, 9, 0, 0⟩, ⟨1, 9, 0, 0⟩⟩
def ca14 : C4 := ⟨⟨500, 9, 0, 0⟩, ⟨500, 100, 0, 0⟩, ⟨700, 9, 0, 0⟩, ⟨1100, 9, 0, 0⟩⟩
def ca15 : C4 := ⟨⟨300, 9, 0, 0⟩, ⟨1000, 100, 0, 0⟩, ⟨1000, 9, 0, 0⟩, ⟨2500, 9, 0, 0⟩⟩
def ca16 : C4 := ⟨⟨1000, 9, 0, 0⟩, ⟨2000, 10000, 0, 0⟩, ⟨5000, 9, 0, 0⟩, ⟨10000, 30, 0, 0⟩⟩
def ca17 : C4 := ⟨⟨2000, 9, 0, 0⟩, ⟨5000, 10000, 0, 0⟩, ⟨1, 9, 0, 0⟩, ⟨1, 30, 0, 0⟩⟩
def ca18 : C4 := ⟨⟨500, 9, 0, 0⟩, ⟨500, 10000, 0, 0⟩, ⟨700, 9, 0, 0⟩, ⟨1100, 30, 0, 0⟩⟩
def ca19 : C4 := ⟨⟨300, 9, 0, 0⟩, ⟨1000, 10000, 0, 0⟩, ⟨1000, 9, 0, 0⟩, ⟨2500, 30, 0, 0⟩⟩
def ca20 : C4 := ⟨⟨1000, 30, 0, 0⟩, ⟨2000, 9, 0, 0⟩, ⟨5000, 9, 0, 0⟩, ⟨10000, 100, 0, 0⟩⟩
def ca21 : C4 := ⟨⟨2000, 30, 0, 0⟩, ⟨5000, 9, 0, 0⟩, ⟨1, 9, 0, 0⟩, ⟨1, 100, 0, 0⟩⟩
def ca22 : C4 := ⟨⟨500, 30, 0, 0⟩, ⟨500, 9, 0, 0⟩, ⟨700, 9, 0, 0⟩, ⟨1100, 100, 0, 0⟩⟩
def ca23 : C4 := ⟨⟨300, 30, 0, 0⟩, ⟨1000, 9, 0, 0⟩, ⟨1000, 9, 0, 0⟩, ⟨2500, 100, 0, 0⟩⟩
def ca24 : C4 := ⟨⟨1000, 100, 0, 0⟩, ⟨2000, 9, 0, 0⟩, ⟨5000, 9, 0, 0⟩, ⟨10000, 10000, 0, 0⟩⟩
def ca25 : C4 := ⟨⟨2000, 100, 0, 0⟩, ⟨5000, 9, 0, 0⟩, ⟨1, 9, 0, 0⟩, ⟨1, 10000, 0, 0⟩⟩
def ca26 : C4 := ⟨⟨500, 100, 0, 0⟩, ⟨500, 9, 0, 0⟩, ⟨700, 9, 0, 0⟩, ⟨1100, 10000, 0, 0⟩⟩
def ca27 : C4 := ⟨⟨300, 100, 0, 0⟩, ⟨1000, 9, 0, 0⟩, ⟨1000, 9, 0, 0⟩, ⟨2500, 10000, 0, 0⟩⟩
def ca28 : C4 := ⟨⟨1000, 10000, 0, 0⟩, ⟨2000, 9, 0, 0⟩, ⟨5000, 30, 0, 0⟩, ⟨10000, 9, 0, 0⟩⟩
def ca29 : C4 := ⟨⟨2000, 10000, 0, 0⟩, ⟨5000, 9, 0, 0⟩, ⟨1, 30, 0, 0⟩, ⟨1, 9, 0, 0⟩⟩
def ca30 : C4 := ⟨⟨500, 10000, 0, 0⟩, ⟨500, 9, 0, 0⟩, ⟨700, 30, 0, 0⟩, ⟨1100, 9, 0, 0⟩⟩
def ca31 : C4 := ⟨⟨300, 10000, 0, 0⟩, ⟨1000, 9, 0, 0⟩, ⟨1000, 30, 0, 0⟩, ⟨2500, 9, 0, 0⟩⟩
def pansB : Blk := .rows false .str [[52, 48, 48, 48, 49, 50, 51, 52, 49, 50, 51, 52, 49, 50, 51, 52], [53, 49], [57], [54, 48, 49, 49, 48, 48, 48, 57, 57, 48, 49, 51, 57, 52, 50, 52]]
def fundsB (k : Int) : Blk := .rows false (.int .i64) [0 + k * 100, 20000 + k * 100, 40000 + k * 100, 60000 + k * 100]
/-- Bank(1, k) and the switch on it. -/
def CqA (k : Int) (t0 t1 : C4) : Prop := ∀ t : Int, Leads (EV TBQ fr0 60) (.seq (partAt 2 b8.body) (.cut [1, 4, 5])) (cq_s2 k t) (cq_s3 t0 t1 pansB (fundsB k) t)
theorem CqA.of {k : Int} {t0 t1 : C4} (h : ∀ (t : Int) (R : Type) (K : AExit → St → Option R), qC (qV TBQ fr0 60) (.seq (partAt 2 b8.body) (.cut [1, 4, 5])) (cq_s2 k t) K = K .norm (cq_s3 t0 t1 pansB (fundsB k) t)) : CqA k t0 t1 := fun t => Leads.of (h t)
/-- So many ticks, and what was said since. -/
def CqN (n : Nat) : Prop := ∀ (t0 t1 : C4) (x2 x3 : Blk), Ends (EV TBQ fr0 60) (restAt 8 b8.body) (cq_s8 t0 t1 x2 x3 n) [.tmp 4] (.bool true) [] []
theorem CqN.of {n : Nat} (h : ∀ (t0 t1 : C4) (x2 x3 : Blk) (R : Type) (k : AVal → Heap → List Nat → Option R), qC (qV TBQ fr0 60) (restAt 8 b8.body) (cq_s8 t0 t1 x2 x3 n) (kontF [.tmp 4] k) = k (.bool true) [] []) : CqN n := fun t0 t1 x2 x3 => Ends.of (h t0 t1 x2 x3)

end
end Go.Sx

/- CoreQueries: its parts but for two. -/
set_option maxRecDepth 1000000
set_option linter.unusedVariables false
namespace Go.Sx
noncomputable section
theorem cq_p0 (k t : Int) : Leads (EV TBQ fr0 60) (.seq (partAt 0 b8.body) (.cut [0, 1, 4])) (cq_s0 k t) (cq_s1 k t) := Leads.of fun R K => by kernel_rfl

theorem cq_p1 (k t : Int) : Leads (EV TBQ fr0 60) (.seq (partAt 1 b8.body) (.cut [0, 1, 4])) (cq_s1 k t) (cq_s2 k t) := Leads.of fun R K => by kernel_rfl

theorem cq_p3 (t0 t1 : C4) (ps : List (List Int)) (fl : List Int) (t : Int) : Leads (EV TBQ fr0 60) (.seq (partAt 3 b8.body) (.cut [1, 4, 5])) (cq_s3 t0 t1 (.rows false .str ps) (.rows false (.int .i64) fl) t) (cq_s4 t0 t1 (.rows false .str ps) (.rows false (.int .i64) fl) t) := Leads.of fun R K => by kernel_rfl

theorem cq_p4 (t0 t1 : C4) (ps : List (List Int)) (fl : List Int) (t : Int) : Leads (EV TBQ fr0 60) (.seq (partAt 4 b8.body) (.cut [1, 4, 5])) (cq_s4 t0 t1 (.rows false .str ps) (.rows false (.int .i64) fl) t) (cq_s5 t0 t1 (.rows false .str ps) (.rows false (.int .i64) fl) t) := Leads.of fun R K => by kernel_rfl

theorem cq_p5 (t0 t1 : C4) (ps : List (List Int)) (fl : List Int) (t : Int) : Leads (EV TBQ fr0 60) (.seq (partAt 5 b8.body) (.cut [1, 4, 5, 7])) (cq_s5 t0 t1 (.rows false .str ps) (.rows false (.int .i64) fl) t) (cq_s6 t0 t1 (.rows false .str ps) (.rows false (.int .i64) fl) t) := Leads.of fun R K => by kernel_rfl

theorem cq_p6 (t0 t1 : C4) (ps : List (List Int)) (fl : List Int) (t : Int) : Leads (EV TBQ fr0 60) (.seq (partAt 6 b8.body) (.cut [1, 4, 5, 7])) (cq_s6 t0 t1 (.rows false .str ps) (.rows false (.int .i64) fl) t) (cq_s7 t0 t1 (.rows false .str ps) (.rows false (.int .i64) fl) t) := Leads.of fun R K => by kernel_rfl

theorem cq_p7 (t0 t1 : C4) (ps : List (List Int)) (fl : List Int) (t : Int) : Leads (EV TBQ fr0 60) (.seq (partAt 7 b8.body) (.cut [4, 5, 7, 8])) (cq_s7 t0 t1 (.rows false .str ps) (.rows false (.int .i64) fl) t) (cq_s8 t0 t1 (.rows false .str ps) (.rows false (.int .i64) fl) (wrapF .i64 (Int.tmod t 40))) := Leads.of fun R K => by kernel_rfl

end
end Go.Sx

/- CoreQueries: the ticks' loop: states. -/
set_option maxRecDepth 1000000
set_option linter.unusedVariables false
namespace Go.Sx
noncomputable section
def cq_L0 (t0 t1 : C4) (x2 x3 : Blk) (x : Int) : St := ⟨⟨(.nd .unk (.nd .unk (.nd .unk (.nd (.slice (some ⟨14, 2, 0, 0⟩) .all .opn) .nil .nil) .nil) (.nd (.ptr (some ⟨0, 0, 0, 0⟩)) (.nd (.int .i64 0) .nil .nil) .nil)) (.nd .unk (.nd (.bool false) (.nd (.int .i64 x) .nil .nil) .nil) .nil)), 70, 0⟩,
 [.cells [(.slice (some ⟨1, 16, 0, 0⟩) .all .opn), (.slice (some ⟨2, 1, 0, 0⟩) .all .opn), (.slice (some ⟨3, 1, 0, 0⟩) .all .opn), (.int .i64 500), (.int .i64 100000), (.ptr (some ⟨4, 0, 0, 0⟩)), (.slice none (.n 0) (.exact 0)), (.ptr (some ⟨8, 0, 0, 0⟩)), (.ptr (some ⟨12, 0, 0, 0⟩)), (.int .i64 0), (.map (some 13)), (.slice none (.n 0) (.exact 0)), (.bool false), (.int .i64 0)],
  .rows false .c4 [t0, t1],
  x2,
  x3,
  .cells [(.ptr (some ⟨5, 0, 0, 0⟩)), (.int .i64 500), (.int .i64 0), (.int .i64 0), (.int .u32 0), (.slice none (.n 0) (.exact 0))],
  .cells [(.slice (some ⟨6, 64, 0, 0⟩) .all (.exact 1000)), (.slice (some ⟨7, 64, 0, 0⟩) .all (.exact 1000)), (.slice none (.n 0) (.exact 0)), (.int .i64 (-1)), (.bool false)],
  .rows false .sector (List.replicate 1000 (List.replicate 64 0)),
  .rows false .sector (List.replicate 1000 (List.replicate 64 0)),
  .cells [(.slice (some ⟨9, 18, 0, 0⟩) .all .opn), (.slice (some ⟨10, 18, 0, 0⟩) .all .opn), (.map (some 11))],
  .rows false .terml [⟨t0, false, 0⟩, ⟨t1, false, 0⟩],
  .rows false .terml [⟨t0, false, 0⟩, ⟨t1, false, 0⟩],
  .mp .key .txn [],
  .cells [(.slice none (.n 0) (.exact 0)), (.int .i64 0)],
  .mp .key (.int .i64) [],
  .rows false .out [⟨1, [51, 50, 28, 49, 28, 48]⟩]],
 []⟩

def cq_L4 (t0 t1 : C4) (x2 x3 : Blk) (x : Int) : St := ⟨⟨(.nd .unk (.nd .unk (.nd .unk (.nd (.slice (some ⟨15, 2, 0, 0⟩) .all .opn) .nil .nil) .nil) (.nd (.ptr (some ⟨0, 0, 0, 0⟩)) (.nd (.int .i64 4) .nil .nil) .nil)) (.nd .unk (.nd (.bool false) (.nd (.int .i64 x) .nil .nil) .nil) .nil)), 70, 0⟩,
 [.cells [(.slice (some ⟨1, 16, 0, 0⟩) .all .opn), (.slice (some ⟨2, 1, 0, 0⟩) .all .opn), (.slice (some ⟨3, 1, 0, 0⟩) .all .opn), (.int .i64 500), (.int .i64 100000), (.ptr (some ⟨4, 0, 0, 0⟩)), (.slice none (.n 0) (.exact 0)), (.ptr (some ⟨8, 0, 0, 0⟩)), (.ptr (some ⟨12, 0, 0, 0⟩)), (.int .i64 4), (.map (some 13)), (.slice (some ⟨14, 2, 0, 0⟩) .all .opn), (.bool false), (.int .i64 0)],
  .rows false .c4 [t0, t1],
  x2,
  x3,
  .cells [(.ptr (some ⟨5, 0, 0, 0⟩)), (.int .i64 500), (.int .i64 0), (.int .i64 0), (.int .u32 0), (.slice none (.n 0) (.exact 0))],
  .cells [(.slice (some ⟨6, 64, 0, 0⟩) .all (.exact 1000)), (.slice (some ⟨7, 64, 0, 0⟩) .all (.exact 1000)), (.slice none (.n 0) (.exact 0)), (.int .i64 (-1)), (.bool false)],
  .rows false .sector (List.replicate 1000 (List.replicate 64 0)),
  .rows false .sector (List.replicate 1000 (List.replicate 64 0)),
  .cells [(.slice (some ⟨9, 18, 0, 0⟩) .all .opn), (.slice (some ⟨10, 18, 0, 0⟩) .all .opn), (.map (some 11))],
  .rows false .terml [⟨t0, false, 0⟩, ⟨t1, false, 0⟩],
  .rows false .terml [⟨t0, false, 0⟩, ⟨t1, false, 0⟩],
  .mp .key .txn [],
  .cells [(.slice none (.n 0) (.exact 0)), (.int .i64 0)],
  .mp .key (.int .i64) [],
  .rows false .out [⟨0, [51, 50, 28, 48, 28, 48]⟩, ⟨1, [51, 50, 28, 49, 28, 48]⟩],
  .rows false .out [⟨1, [51, 50, 28, 49, 28, 48]⟩]],
 []⟩

def cq_L8 (t0 t1 : C4) (x2 x3 : Blk) (x : Int) : St := ⟨⟨(.nd .unk (.nd .unk (.nd .unk (.nd (.slice (some ⟨15, 2, 0, 0⟩) .all .opn) .nil .nil) .nil) (.nd (.ptr (some ⟨0, 0, 0, 0⟩)) (.nd (.int .i64 8) .nil .nil) .nil)) (.nd .unk (.nd (.bool false) (.nd (.int .i64 x) .nil .nil) .nil) .nil)), 70, 0⟩,
 [.cells [(.slice (some ⟨1, 16, 0, 0⟩) .all .opn), (.slice (some ⟨2, 1, 0, 0⟩) .all .opn), (.slice (some ⟨3, 1, 0, 0⟩) .all .opn), (.int .i64 500), (.int .i64 100000), (.ptr (some ⟨4, 0, 0, 0⟩)), (.slice none (.n 0) (.exact 0)), (.ptr (some ⟨8, 0, 0, 0⟩)), (.ptr (some ⟨12, 0, 0, 0⟩)), (.int .i64 8), (.map (some 13)), (.slice (some ⟨14, 2, 0, 0⟩) .all .opn), (.bool false), (.int .i64 0)],
  .rows false .c4 [t0, t1],
  x2,
  x3,
  .cells [(.ptr (some ⟨5, 0, 0, 0⟩)), (.int .i64 500), (.int .i64 0), (.int .i64 0), (.int .u32 0), (.slice none (.n 0) (.exact 0))],
  .cells [(.slice (some ⟨6, 64, 0, 0⟩) .all (.exact 1000)), (.slice (some ⟨7, 64, 0, 0⟩) .all (.exact 1000)), (.slice none (.n 0) (.exact 0)), (.int .i64 (-1)), (.bool false)],
  .rows false .sector (List.replicate 1000 (List.replicate 64 0)),
  .rows false .sector (List.replicate 1000 (List.replicate 64 0)),
  .cells [(.slice (some ⟨9, 18, 0, 0⟩) .all .opn), (.slice (some ⟨10, 18, 0, 0⟩) .all .opn), (.map (some 11))],
  .rows false .terml [⟨t0, false, 0⟩, ⟨t1, false, 0⟩],
  .rows false .terml [⟨t0, false, 0⟩, ⟨t1, false, 0⟩],
  .mp .key .txn [],
  .cells [(.slice none (.n 0) (.exact 0)), (.int .i64 0)],
  .mp .key (.int .i64) [],
  .rows false .out [⟨0, [51, 50, 28, 48, 28, 48]⟩, ⟨1, [51, 50, 28, 49, 28, 48]⟩, ⟨0, [51, 50, 28, 48, 28, 48]⟩, ⟨1, [51, 50, 28, 49, 28, 48]⟩],
  .rows false .out [⟨1, [51, 50, 28, 49, 28, 48]⟩]],
 []⟩

def cq_L12 (t0 t1 : C4) (x2 x3 : Blk) (x : Int) : St := ⟨⟨(.nd .unk (.nd .unk (.nd .unk (.nd (.slice (some ⟨15, 2, 0, 0⟩) .all .opn) .nil .nil) .nil) (.nd (.ptr (some ⟨0, 0, 0, 0⟩)) (.nd (.int .i64 12) .nil .nil) .nil)) (.nd .unk (.nd (.bool false) (.nd (.int .i64 x) .nil .nil) .nil) .nil)), 70, 0⟩,
 [.cells [(.slice (some ⟨1, 16, 0, 0⟩) .all .opn), (.slice (some ⟨2, 1, 0, 0⟩) .all .opn), (.slice (some ⟨3, 1, 0, 0⟩) .all .opn), (.int .i64 500), (.int .i64 100000), (.ptr (some ⟨4, 0, 0, 0⟩)), (.slice none (.n 0) (.exact 0)), (.ptr (some ⟨8, 0, 0, 0⟩)), (.ptr (some ⟨12, 0, 0, 0⟩)), (.int .i64 12), (.map (some 13)), (.slice (some ⟨14, 2, 0, 0⟩) .all .opn), (.bool false), (.int .i64 0)],
  .rows false .c4 [t0, t1],
  x2,
  x3,
  .cells [(.ptr (some ⟨5, 0, 0, 0⟩)), (.int .i64 500), (.int .i64 0), (.int .i64 0), (.int .u32 0), (.slice none (.n 0) (.exact 0))],
  .cells [(.slice (some ⟨6, 64, 0, 0⟩) .all (.exact 1000)), (.slice (some ⟨7, 64, 0, 0⟩) .all (.exact 1000)), (.slice none (.n 0) (.exact 0)), (.int .i64 (-1)), (.bool false)],
  .rows false .sector (List.replicate 1000 (List.replicate 64 0)),
  .rows false .sector (List.replicate 1000 (List.replicate 64 0)),
  .cells [(.slice (some ⟨9, 18, 0, 0⟩) .all .opn), (.slice (some ⟨10, 18, 0, 0⟩) .all .opn), (.map (some 11))],
  .rows false .terml [⟨t0, false, 0⟩, ⟨t1, false, 0⟩],
  .rows false .terml [⟨t0, false, 0⟩, ⟨t1, false, 0⟩],
  .mp .key .txn [],
  .cells [(.slice none (.n 0) (.exact 0)), (.int .i64 0)],
  .mp .key (.int .i64) [],
  .rows false .out [⟨0, [51, 50, 28, 48, 28, 48]⟩, ⟨1, [51, 50, 28, 49, 28, 48]⟩, ⟨0, [51, 50, 28, 48, 28, 48]⟩, ⟨1, [51, 50, 28, 49, 28, 48]⟩, ⟨0, [51, 50, 28, 48, 28, 48]⟩, ⟨1, [51, 50, 28, 49, 28, 48]⟩],
  .rows false .out [⟨1, [51, 50, 28, 49, 28, 48]⟩]],
 []⟩

def cq_L16 (t0 t1 : C4) (x2 x3 : Blk) (x : Int) : St := ⟨⟨(.nd .unk (.nd .unk (.nd .unk (.nd (.slice (some ⟨15, 2, 0, 0⟩) .all .opn) .nil .nil) .nil) (.nd (.ptr (some ⟨0, 0, 0, 0⟩)) (.nd (.int .i64 16) .nil .nil) .nil)) (.nd .unk (.nd (.bool false) (.nd (.int .i64 x) .nil .nil) .nil) .nil)), 70, 0⟩,
 [.cells [(.slice (some ⟨1, 16, 0, 0⟩) .all .opn), (.slice (some ⟨2, 1, 0, 0⟩) .all .opn), (.slice (some ⟨3, 1, 0, 0⟩) .all .opn), (.int .i64 500), (.int .i64 100000), (.ptr (some ⟨4, 0, 0, 0⟩)), (.slice none (.n 0) (.exact 0)), (.ptr (some ⟨8, 0, 0, 0⟩)), (.ptr (some ⟨12, 0, 0, 0⟩)), (.int .i64 16), (.map (some 13)), (.slice (some ⟨14, 2, 0, 0⟩) .all .opn), (.bool false), (.int .i64 0)],
  .rows false .c4 [t0, t1],
  x2,
  x3,
  .cells [(.ptr (some ⟨5, 0, 0, 0⟩)), (.int .i64 500), (.int .i64 0), (.int .i64 0), (.int .u32 0), (.slice none (.n 0) (.exact 0))],
  .cells [(.slice (some ⟨6, 64, 0, 0⟩) .all (.exact 1000)), (.slice (some ⟨7, 64, 0, 0⟩) .all (.exact 1000)), (.slice none (.n 0) (.exact 0)), (.int .i64 (-1)), (.bool false)],
  .rows false .sector (List.replicate 1000 (List.replicate 64 0)),
  .rows false .sector (List.replicate 1000 (List.replicate 64 0)),
  .cells [(.slice (some ⟨9, 18, 0, 0⟩) .all .opn), (.slice (some ⟨10, 18, 0, 0⟩) .all .opn), (.map (some 11))],
  .rows false .terml [⟨t0, false, 0⟩, ⟨t1, false, 0⟩],
  .rows false .terml [⟨t0, false, 0⟩, ⟨t1, false, 0⟩],
  .mp .key .txn [],
  .cells [(.slice none (.n 0) (.exact 0)), (.int .i64 0)],
  .mp .key (.int .i64) [],
  .rows false .out [⟨0, [51, 50, 28, 48, 28, 48]⟩, ⟨1, [51, 50, 28, 49, 28, 48]⟩, ⟨0, [51, 50, 28, 48, 28, 48]⟩, ⟨1, [51, 50, 28, 49, 28, 48]⟩, ⟨0, [51, 50, 28, 48, 28, 48]⟩, ⟨1, [51, 50, 28, 49, 28, 48]⟩, ⟨0, [51, 50, 28, 48, 28, 48]⟩, ⟨1, [51, 50, 28, 49, 28, 48]⟩],
  .rows false .out [⟨1, [51, 50, 28, 49, 28, 48]⟩]],
 []⟩

def cq_L20 (t0 t1 : C4) (x2 x3 : Blk) (x : Int) : St := ⟨⟨(.nd .unk (.nd .unk (.nd .unk (.nd (.slice (some ⟨15, 2, 0, 0⟩) .all .opn) .nil .nil) .nil) (.nd (.ptr (some ⟨0, 0, 0, 0⟩)) (.nd (.int .i64 20) .nil .nil) .nil)) (.nd .unk (.nd (.bool false) (.nd (.int .i64 x) .nil .nil) .nil) .nil)), 70, 0⟩,
 [.cells [(.slice (some ⟨1, 16, 0, 0⟩) .all .opn), (.slice (some ⟨2, 1, 0, 0⟩) .all .opn), (.slice (some ⟨3, 1, 0, 0⟩) .all .opn), (.int .i64 500), (.int .i64 100000), (.ptr (some ⟨4, 0, 0, 0⟩)), (.slice none (.n 0) (.exact 0)), (.ptr (some ⟨8, 0, 0, 0⟩)), (.ptr (some ⟨12, 0, 0, 0⟩)), (.int .i64 20), (.map (some 13)), (.slice (some ⟨14, 2, 0, 0⟩) .all .opn), (.bool false), (.int .i64 0)],
  .rows false .c4 [t0, t1],
  x2,
  x3,
  .cells [(.ptr (some ⟨5, 0, 0, 0⟩)), (.int .i64 500), (.int .i64 0), (.int .i64 0), (.int .u32 0), (.slice none (.n 0) (.exact 0))],
  .cells [(.slice (some ⟨6, 64, 0, 0⟩) .all (.exact 1000)), (.slice (some ⟨7, 64, 0, 0⟩) .all (.exact 1000)), (.slice none (.n 0) (.exact 0)), (.int .i64 (-1)), (.bool false)],
  .rows false .sector (List.replicate 1000 (List.replicate 64 0)),
  .rows false .sector (List.replicate 1000 (List.replicate 64 0)),
  .cells [(.slice (some ⟨9, 18, 0, 0⟩) .all .opn), (.slice (some ⟨10, 18, 0, 0⟩) .all .opn), (.map (some 11))],
  .rows false .terml [⟨t0, false, 0⟩, ⟨t1, false, 0⟩],
  .rows false .terml [⟨t0, false, 0⟩, ⟨t1, false, 0⟩],
  .mp .key .txn [],
  .cells [(.slice none (.n 0) (.exact 0)), (.int .i64 0)],
  .mp .key (.int .i64) [],
  .rows false .out [⟨0, [51, 50, 28, 48, 28, 48]⟩, ⟨1, [51, 50, 28, 49, 28, 48]⟩, ⟨0, [51, 50, 28, 48, 28, 48]⟩, ⟨1, [51, 50, 28, 49, 28, 48]⟩, ⟨0, [51, 50, 28, 48, 28, 48]⟩, ⟨1, [51, 50, 28, 49, 28, 48]⟩, ⟨0, [51, 50, 28, 48, 28, 48]⟩, ⟨1, [51, 50, 28, 49, 28, 48]⟩, ⟨0, [51, 50, 28, 48, 28, 48]⟩, ⟨1, [51, 50, 28, 49, 28, 48]⟩],
  .rows false .out [⟨1, [51, 50, 28, 49, 28, 48]⟩]],
 []⟩

def cq_L24 (t0 t1 : C4) (x2 x3 : Blk) (x : Int) : St := ⟨⟨(.nd .unk (.nd .unk (.nd .unk (.nd (.slice (some ⟨15, 2, 0, 0⟩) .all .opn) .nil .nil) .nil) (.nd (.ptr (some ⟨0, 0, 0, 0⟩)) (.nd (.int .i64 24) .nil .nil) .nil)) (.nd .unk (.nd (.bool false) (.nd (.int .i64 x) .nil .nil) .nil) .nil)), 70, 0⟩,
 [.cells [(.slice (some ⟨1, 16, 0, 0⟩) .all .opn), (.slice (some ⟨2, 1, 0, 0⟩) .all .opn), (.slice (some ⟨3, 1, 0, 0⟩) .all .opn), (.int .i64 500), (.int .i64 100000), (.ptr (some ⟨4, 0, 0, 0⟩)), (.slice none (.n 0) (.exact 0)), (.ptr (some ⟨8, 0, 0, 0⟩)), (.ptr (some ⟨12, 0, 0, 0⟩)), (.int .i64 24), (.map (some 13)), (.slice (some ⟨14, 2, 0, 0⟩) .all .opn), (.bool false), (.int .i64 0)],
  .rows false .c4 [t0, t1],
  x2,
  x3,
  .cells [(.ptr (some ⟨5, 0, 0, 0⟩)), (.int .i64 500), (.int .i64 0), (.int .i64 0), (.int .u32 0), (.slice none (.n 0) (.exact 0))],
  .cells [(.slice (some ⟨6, 64, 0, 0⟩) .all (.exact 1000)), (.slice (some ⟨7, 64, 0, 0⟩) .all (.exact 1000)), (.slice none (.n 0) (.exact 0)), (.int .i64 (-1)), (.bool false)],
  .rows false .sector (List.replicate 1000 (List.replicate 64 0)),
  .rows false .sector (List.replicate 1000 (List.replicate 64 0)),
  .cells [(.slice (some ⟨9, 18, 0, 0⟩) .all .opn), (.slice (some ⟨10, 18, 0, 0⟩) .all .opn), (.map (some 11))],
  .rows false .terml [⟨t0, false, 0⟩, ⟨t1, false, 0⟩],
  .rows false .terml [⟨t0, false, 0⟩, ⟨t1, false, 0⟩],
  .mp .key .txn [],
  .cells [(.slice none (.n 0) (.exact 0)), (.int .i64 0)],
  .mp .key (.int .i64) [],
  .rows false .out [⟨0, [51, 50, 28, 48, 28, 48]⟩, ⟨1, [51, 50, 28, 49, 28, 48]⟩, ⟨0, [51, 50, 28, 48, 28, 48]⟩, ⟨1, [51, 50, 28, 49, 28, 48]⟩, ⟨0, [51, 50, 28, 48, 28, 48]⟩, ⟨1, [51, 50, 28, 49, 28, 48]⟩, ⟨0, [51, 50, 28, 48, 28, 48]⟩, ⟨1, [51, 50, 28, 49, 28, 48]⟩, ⟨0, [51, 50, 28, 48, 28, 48]⟩, ⟨1, [51, 50, 28, 49, 28, 48]⟩, ⟨0, [51, 50, 28, 48, 28, 48]⟩, ⟨1, [51, 50, 28, 49, 28, 48]⟩],
  .rows false .out [⟨1, [51, 50, 28, 49, 28, 48]⟩]],
 []⟩

def cq_L28 (t0 t1 : C4) (x2 x3 : Blk) (x : Int) : St := ⟨⟨(.nd .unk (.nd .unk (.nd .unk (.nd (.slice (some ⟨15, 2, 0, 0⟩) .all .opn) .nil .nil) .nil) (.nd (.ptr (some ⟨0, 0, 0, 0⟩)) (.nd (.int .i64 28) .nil .nil) .nil)) (.nd .unk (.nd (.bool false) (.nd (.int .i64 x) .nil .nil) .nil) .nil)), 70, 0⟩,
 [.cells [(.slice (some ⟨1, 16, 0, 0⟩) .all .opn), (.slice (some ⟨2, 1, 0, 0⟩) .all .opn), (.slice (some ⟨3, 1, 0, 0⟩) .all .opn), (.int .i64 500), (.int .i64 100000), (.ptr (some ⟨4, 0, 0, 0⟩)), (.slice none (.n 0) (.exact 0)), (.ptr (some ⟨8, 0, 0, 0⟩)), (.ptr (some ⟨12, 0, 0, 0⟩)), (.int .i64 28), (.map (some 13)), (.slice (some ⟨14, 2, 0, 0⟩) .all .opn), (.bool false), (.int .i64 0)],
  .rows false .c4 [t0, t1],
  x2,
  x3,
  .cells [(.ptr (some ⟨5, 0, 0, 0⟩)), (.int .i64 500), (.int .i64 0), (.int .i64 0), (.int .u32 0), (.slice none (.n 0) (.exact 0))],
  .cells [(.slice (some ⟨6, 64, 0, 0⟩) .all (.exact 1000)), (.slice (some ⟨7, 64, 0, 0⟩) .all (.exact 1000)), (.slice none (.n 0) (.exact 0)), (.int .i64 (-1)), (.bool false)],
  .rows false .sector (List.replicate 1000 (List.replicate 64 0)),
  .rows false .sector (List.replicate 1000 (List.replicate 64 0)),
  .cells [(.slice (some ⟨9, 18, 0, 0⟩) .all .opn), (.slice (some ⟨10, 18, 0, 0⟩) .all .opn), (.map (some 11))],
  .rows false .terml [⟨t0, false, 0⟩, ⟨t1, false, 0⟩],
  .rows false .terml [⟨t0, false, 0⟩, ⟨t1, false, 0⟩],
  .mp .key .txn [],
  .cells [(.slice none (.n 0) (.exact 0)), (.int .i64 0)],
  .mp .key (.int .i64) [],
  .rows false .out [⟨0, [51, 50, 28, 48, 28, 48]⟩, ⟨1, [51, 50, 28, 49, 28, 48]⟩, ⟨0, [51, 50, 28, 48, 28, 48]⟩, ⟨1, [51, 50, 28, 49, 28, 48]⟩, ⟨0, [51, 50, 28, 48, 28, 48]⟩, ⟨1, [51, 50, 28, 49, 28, 48]⟩, ⟨0, [51, 50, 28, 48, 28, 48]⟩, ⟨1, [51, 50, 28, 49, 28, 48]⟩, ⟨0, [51, 50, 28, 48, 28, 48]⟩, ⟨1, [51, 50, 28, 49, 28, 48]⟩, ⟨0, [51, 50, 28, 48, 28, 48]⟩, ⟨1, [51, 50, 28, 49, 28, 48]⟩, ⟨0, [51, 50, 28, 48, 28, 48]⟩, ⟨1, [51, 50, 28, 49, 28, 48]⟩],
  .rows false .out [⟨1, [51, 50, 28, 49, 28, 48]⟩]],
 []⟩

def cq_L32 (t0 t1 : C4) (x2 x3 : Blk) (x : Int) : St := ⟨⟨(.nd .unk (.nd .unk (.nd .unk (.nd (.slice (some ⟨15, 2, 0, 0⟩) .all .opn) .nil .nil) .nil) (.nd (.ptr (some ⟨0, 0, 0, 0⟩)) (.nd (.int .i64 32) .nil .nil) .nil)) (.nd .unk (.nd (.bool false) (.nd (.int .i64 x) .nil .nil) .nil) .nil)), 70, 0⟩,
 [.cells [(.slice (some ⟨1, 16, 0, 0⟩) .all .opn), (.slice (some ⟨2, 1, 0, 0⟩) .all .opn), (.slice (some ⟨3, 1, 0, 0⟩) .all .opn), (.int .i64 500), (.int .i64 100000), (.ptr (some ⟨4, 0, 0, 0⟩)), (.slice none (.n 0) (.exact 0)), (.ptr (some ⟨8, 0, 0, 0⟩)), (.ptr (some ⟨12, 0, 0, 0⟩)), (.int .i64 32), (.map (some 13)), (.slice (some ⟨14, 2, 0, 0⟩) .all .opn), (.bool false), (.int .i64 0)],
  .rows false .c4 [t0, t1],
  x2,
  x3,
  .cells [(.ptr (some ⟨5, 0, 0, 0⟩)), (.int .i64 500), (.int .i64 0), (.int .i64 0), (.int .u32 0), (.slice none (.n 0) (.exact 0))],
  .cells [(.slice (some ⟨6, 64, 0, 0⟩) .all (.exact 1000)), (.slice (some ⟨7, 64, 0, 0⟩) .all (.exact 1000)), (.slice none (.n 0) (.exact 0)), (.int .i64 (-1)), (.bool false)],
  .rows false .sector (List.replicate 1000 (List.replicate 64 0)),
  .rows false .sector (List.replicate 1000 (List.replicate 64 0)),
  .cells [(.slice (some ⟨9, 18, 0, 0⟩) .all .opn), (.slice (some ⟨10, 18, 0, 0⟩) .all .opn), (.map (some 11))],
  .rows false .terml [⟨t0, false, 0⟩, ⟨t1, false, 0⟩],
  .rows false .terml [⟨t0, false, 0⟩, ⟨t1, false, 0⟩],
  .mp .key .txn [],
  .cells [(.slice none (.n 0) (.exact 0)), (.int .i64 0)],
  .mp .key (.int .i64) [],
  .rows false .out [⟨0, [51, 50, 28, 48, 28, 48]⟩, ⟨1, [51, 50, 28, 49, 28, 48]⟩, ⟨0, [51, 50, 28, 48, 28, 48]⟩, ⟨1, [51, 50, 28, 49, 28, 48]⟩, ⟨0, [51, 50, 28, 48, 28, 48]⟩, ⟨1, [51, 50, 28, 49, 28, 48]⟩, ⟨0, [51, 50, 28, 48, 28, 48]⟩, ⟨1, [51, 50, 28, 49, 28, 48]⟩, ⟨0, [51, 50, 28, 48, 28, 48]⟩, ⟨1, [51, 50, 28, 49, 28, 48]⟩, ⟨0, [51, 50, 28, 48, 28, 48]⟩, ⟨1, [51, 50, 28, 49, 28, 48]⟩, ⟨0, [51, 50, 28, 48, 28, 48]⟩, ⟨1, [51, 50, 28, 49, 28, 48]⟩, ⟨0, [51, 50, 28, 48, 28, 48]⟩, ⟨1, [51, 50, 28, 49, 28, 48]⟩],
  .rows false .out [⟨1, [51, 50, 28, 49, 28, 48]⟩]],
 []⟩

def cq_L36 (t0 t1 : C4) (x2 x3 : Blk) (x : Int) : St := ⟨⟨(.nd .unk (.nd .unk (.nd .unk (.nd (.slice (some ⟨15, 2, 0, 0⟩) .all .opn) .nil .nil) .nil) (.nd (.ptr (some ⟨0, 0, 0, 0⟩)) (.nd (.int .i64 36) .nil .nil) .nil)) (.nd .unk (.nd (.bool false) (.nd (.int .i64 x) .nil .nil) .nil) .nil)), 70, 0⟩,
 [.cells [(.slice (some ⟨1, 16, 0, 0⟩) .all .opn), (.slice (some ⟨2, 1, 0, 0⟩) .all .opn), (.slice (some ⟨3, 1, 0, 0⟩) .all .opn), (.int .i64 500), (.int .i64 100000), (.ptr (some ⟨4, 0, 0, 0⟩)), (.slice none (.n 0) (.exact 0)), (.ptr (some ⟨8, 0, 0, 0⟩)), (.ptr (some ⟨12, 0, 0, 0⟩)), (.int .i64 36), (.map (some 13)), (.slice (some ⟨14, 2, 0, 0⟩) .all .opn), (.bool false), (.int .i64 0)],
  .rows false .c4 [t0, t1],
  x2,
  x3,
  .cells [(.ptr (some ⟨5, 0, 0, 0⟩)), (.int .i64 500), (.int .i64 0), (.int .i64 0), (.int .u32 0), (.slice none (.n 0) (.exact 0))],
  .cells [(.slice (some ⟨6, 64, 0, 0⟩) .all (.exact 1000)), (.slice (some ⟨7, 64, 0, 0⟩) .all (.exact 1000)), (.slice none (.n 0) (.exact 0)), (.int .i64 (-1)), (.bool false)],
  .rows false .sector (List.replicate 1000 (List.replicate 64 0)),
  .rows false .sector (List.replicate 1000 (List.replicate 64 0)),
  .cells [(.slice (some ⟨9, 18, 0, 0⟩) .all .opn), (.slice (some ⟨10, 18, 0, 0⟩) .all .opn), (.map (some 11))],
  .rows false .terml [⟨t0, false, 0⟩, ⟨t1, false, 0⟩],
  .rows false .terml [⟨t0, false, 0⟩, ⟨t1, false, 0⟩],
  .mp .key .txn [],
  .cells [(.slice none (.n 0) (.exact 0)), (.int .i64 0)],
  .mp .key (.int .i64) [],
  .rows false .out [⟨0, [51, 50, 28, 48, 28, 48]⟩, ⟨1, [51, 50, 28, 49, 28, 48]⟩, ⟨0, [51, 50, 28, 48, 28, 48]⟩, ⟨1, [51, 50, 28, 49, 28, 48]⟩, ⟨0, [51, 50, 28, 48, 28, 48]⟩, ⟨1, [51, 50, 28, 49, 28, 48]⟩, ⟨0, [51, 50, 28, 48, 28, 48]⟩, ⟨1, [51, 50, 28, 49, 28, 48]⟩, ⟨0, [51, 50, 28, 48, 28, 48]⟩, ⟨1, [51, 50, 28, 49, 28, 48]⟩, ⟨0, [51, 50, 28, 48, 28, 48]⟩, ⟨1, [51, 50, 28, 49, 28, 48]⟩, ⟨0, [51, 50, 28, 48, 28, 48]⟩, ⟨1, [51, 50, 28, 49, 28, 48]⟩, ⟨0, [51, 50, 28, 48, 28, 48]⟩, ⟨1, [51, 50, 28, 49, 28, 48]⟩, ⟨0, [51, 50, 28, 48, 28, 48]⟩, ⟨1, [51, 50, 28, 49, 28, 48]⟩],
  .rows false .out [⟨1, [51, 50, 28, 49, 28, 48]⟩]],
 []⟩

/-- A round of the ticks' loop. -/
def cqBody : ACode := (.seq (loopAt (partAt 8 b8.body)) (.cut [4, 5, 7, 8, 9]))
/-- Four rounds. -/
def CqR (c : Nat) (s s' : C4 → C4 → Blk → Blk → Int → St) : Prop := ∀ (t0 t1 : C4) (ps : List (List Int)) (fl : List Int) (m n : Nat), n = m + (c + 4) → Rounds (EV TBQ fr0 60) cqBody 4 (s t0 t1 (.rows false .str ps) (.rows false (.int .i64) fl) (Int.ofNat n)) (s' t0 t1 (.rows false .str ps) (.rows false (.int .i64) fl) (Int.ofNat n))
theorem CqR.of {c : Nat} {s s' : C4 → C4 → Blk → Blk → Int → St} (h : ∀ (t0 t1 : C4) (ps : List (List Int)) (fl : List Int) (m : Nat) (R : Type) (q : Nat) (K : AExit → St → Option R), qIter (fun s k => qC (qV TBQ fr0 60) cqBody (canonI [] s) k) (q + 4) (s t0 t1 (.rows false .str ps) (.rows false (.int .i64) fl) (Int.ofNat (m + (c + 4)))) K = qIter (fun s k => qC (qV TBQ fr0 60) cqBody (canonI [] s) k) q (s' t0 t1 (.rows false .str ps) (.rows false (.int .i64) fl) (Int.ofNat (m + (c + 4)))) K) : CqR c s s' := by
  intro t0 t1 ps fl m n hn
  subst hn
  exact Rounds.of (h t0 t1 ps fl m)
/-- The last rounds, and what was said. -/
def CqE (r n : Nat) (s : C4 → C4 → Blk → Blk → Int → St) : Prop := ∀ (t0 t1 : C4) (ps : List (List Int)) (fl : List Int), LastR (EV TBQ fr0 60) 0 cqBody (restAt 9 b8.body) r (s t0 t1 (.rows false .str ps) (.rows false (.int .i64) fl) (Int.ofNat n)) [.tmp 4] (.bool true) [] []
theorem CqE.of {r n : Nat} {s : C4 → C4 → Blk → Blk → Int → St} (H : ∀ (t0 t1 : C4) (ps : List (List Int)) (fl : List Int) (R : Type) (m : Nat) (k : AVal → Heap → List Nat → Option R), qIter (fun s k => qC (qV TBQ fr0 60) cqBody (canonI [] s) k) (m + r) (s t0 t1 (.rows false .str ps) (.rows false (.int .i64) fl) (Int.ofNat n)) (fun e t => AExit.rec (motive := fun _ => Option R) (qC (qV TBQ fr0 60) (restAt 9 b8.body) t (kontF [.tmp 4] k)) (fun i => cond (Nat.beq i 0) (qC (qV TBQ fr0 60) (restAt 9 b8.body) t (kontF [.tmp 4] k)) (kontF [.tmp 4] k (.exit i) t)) (kontF [.tmp 4] k .ret t) e) = k (.bool true) [] []) : CqE r n s := fun t0 t1 ps fl => LastR.of (H t0 t1 ps fl)

end
end Go.Sx
