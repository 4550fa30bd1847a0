/- CoreQueries: each terminal is asked what it counts when the switch begins, when its power is back, and at each so-manieth tick; true for every k and ticks. Part Sa of the proof. Condition: the listed package variables hold what the program's text lays. -/
import GoSem.Step
import GoSem.Claims
import Derived.Laws.World
import Derived.Laws.Sem
import Derived.Laws.Cells
import Derived.Laws.IdiomCopy
import Derived.Laws.Rows
import Derived.ChangeKeysEq
import Derived.Laws.StructEq
import Derived.Laws.BytesString
set_option linter.unusedVariables false
set_option linter.unusedSimpArgs false
/- Abstract values of the symbolic evaluator, and the rows of slices as plain Lean data. -/
set_option linter.unusedSimpArgs false
namespace Go.Sx

/-- A pointer into an abstract block: its number, the size of a row, the row, the offset in it. -/
structure APtr where
  id : Nat
  rs : Nat
  row : Nat
  off : Nat

/-- A slice's length: a number, or all rows from its first one on. -/
inductive SLen where
  | n (k : Nat)
  | all

/-- What is known of a slice's capacity: 'opn': at least its length. -/
inductive Cap where
  | exact (c : Nat)
  | atLeast (c : Nat)
  | opn

inductive AVal where
  | unk
  | bool (b : Bool)
  | int (k : IntKind) (n : Int)
  | str (s : List Int)
  | ptr (p : Option APtr)
  | slice (p : Option APtr) (n : SLen) (c : Cap)
  | fby (l : List Int)
  | fp (x : Int)
  | map (r : Option Nat)
  | fn (f : Fn) (first captured : List AVal)
  | nilFn
  | ifc (t : TypeId) (v : AVal)
  | err
  | nilIfc
  | ai (k : IntKind) (n : Nat) (l : List Int)
  | agg (cs : List AVal)
  | tup (vs : List AVal)
  deriving Inhabited

/-! ### Rows -/
structure N4 where
  (a b c d : Int)
  deriving DecidableEq, Inhabited
def N4.zero : N4 := ⟨0, 0, 0, 0⟩
def N4.v (n : N4) : List AVal := [.int .i64 n.a, .int .i64 n.b, .int .i64 n.c, .int .i64 n.d]
structure Key where
  (term stan : Int)
  deriving DecidableEq, Inhabited
def Key.v (k : Key) : List AVal := [.int .u16 k.term, .int .u32 k.stan]
structure Cass where
  (denom loaded given rejected : Int)
  deriving DecidableEq, Inhabited
structure C4 where
  (a b c d : Cass)
  deriving DecidableEq, Inhabited
def C4.v (x : C4) : List AVal :=
  [.int .i64 x.a.denom, .int .i64 x.a.loaded, .int .i64 x.a.given, .int .i64 x.a.rejected,
   .int .i64 x.b.denom, .int .i64 x.b.loaded, .int .i64 x.b.given, .int .i64 x.b.rejected,
   .int .i64 x.c.denom, .int .i64 x.c.loaded, .int .i64 x.c.given, .int .i64 x.c.rejected,
   .int .i64 x.d.denom, .int .i64 x.d.loaded, .int .i64 x.d.given, .int .i64 x.d.rejected]
structure Rec where
  (kind : Int) (key : Key) (pan : List Int) (amount : Int) (notes rej loaded : N4)
  deriving DecidableEq, Inhabited
def Rec.v (r : Rec) : List AVal :=
  [.int .i64 r.kind, .int .u16 r.key.term, .int .u32 r.key.stan, .str r.pan, .int .i64 r.amount,
   .int .i64 r.notes.a, .int .i64 r.notes.b, .int .i64 r.notes.c, .int .i64 r.notes.d,
   .int .i64 r.rej.a, .int .i64 r.rej.b, .int .i64 r.rej.c, .int .i64 r.rej.d,
   .int .i64 r.loaded.a, .int .i64 r.loaded.b, .int .i64 r.loaded.c, .int .i64 r.loaded.d]
structure Txn where
  (key : Key) (pan : List Int) (amount state : Int) (notes : N4) (given owed : Int)
  deriving DecidableEq, Inhabited
def Txn.v (t : Txn) : List AVal :=
  [.int .u16 t.key.term, .int .u32 t.key.stan, .str t.pan, .int .i64 t.amount, .int .i64 t.state,
   .int .i64 t.notes.a, .int .i64 t.notes.b, .int .i64 t.notes.c, .int .i64 t.notes.d, .int .i64 t.given, .int .i64 t.owed]
structure Fld where
  (n : Int) (v : List Int)
  deriving DecidableEq, Inhabited
structure OutM where
  (to : Int) (b : List Int)
  deriving DecidableEq, Inhabited
structure LMsg where
  (src dst : Int) (b : List Int)
  deriving DecidableEq, Inhabited
structure Item where
  (key : Key) (given : Int)
  deriving DecidableEq, Inhabited
structure Waiting where
  (item : Item) (now : Bool)
  deriving DecidableEq, Inhabited
structure Terml where
  (set : C4) (out : Bool) (loads : Int)
  deriving DecidableEq, Inhabited
structure RTerml where
  (set : Option Nat) (out : Bool) (loads : Int)
  deriving DecidableEq, Inhabited
structure Wr where
  (n : Int) (b : List Int)
  deriving DecidableEq, Inhabited
structure DiffM where
  (cassette given rejected : Int)
  deriving DecidableEq, Inhabited

def encN4 (x : N4) : List AVal := x.v
def encKey (x : Key) : List AVal := x.v
def encC4 (x : C4) : List AVal := x.v
def encRec (x : Rec) : List AVal := x.v
def encTxn (x : Txn) : List AVal := x.v
def encFld (x : Fld) : List AVal := [.int .i64 x.n, .str x.v]
def encOut (x : OutM) : List AVal := [.int .i64 x.to, .fby x.b]
def encLmsg (x : LMsg) : List AVal := [.int .i64 x.src, .int .i64 x.dst, .fby x.b]
def encItem (x : Item) : List AVal := [.int .u16 x.key.term, .int .u32 x.key.stan, .int .i64 x.given]
def encWaiting (x : Waiting) : List AVal := [.int .u16 x.item.key.term, .int .u32 x.item.key.stan, .int .i64 x.item.given, .bool x.now]
def encTerml (x : Terml) : List AVal :=
  [.int .i64 x.set.a.denom, .int .i64 x.set.a.loaded, .int .i64 x.set.a.given, .int .i64 x.set.a.rejected,
   .int .i64 x.set.b.denom, .int .i64 x.set.b.loaded, .int .i64 x.set.b.given, .int .i64 x.set.b.rejected,
   .int .i64 x.set.c.denom, .int .i64 x.set.c.loaded, .int .i64 x.set.c.given, .int .i64 x.set.c.rejected,
   .int .i64 x.set.d.denom, .int .i64 x.set.d.loaded, .int .i64 x.set.d.given, .int .i64 x.set.d.rejected, .bool x.out, .int .i64 x.loads]
def encRterm (x : RTerml) : List AVal := [.ptr (x.set.map fun i => ⟨i, 0, 0, 0⟩), .bool x.out, .int .i64 x.loads]
def encSector (x : List Int) : List AVal := [.ai .u8 64 x]
def encWr (x : Wr) : List AVal := [.int .i64 x.n, .ai .u8 64 x.b]
def encDiff (x : DiffM) : List AVal := [.int .i64 x.cassette, .int .i64 x.given, .int .i64 x.rejected]
def encB (x : Bool) : List AVal := [.bool x]
def encS (x : List Int) : List AVal := [.str x]
def encFb (x : List Int) : List AVal := [.fby x]
def decN4 : List AVal → Option N4
  | [.int .i64 n1, .int .i64 n2, .int .i64 n3, .int .i64 n4] => some ⟨n1, n2, n3, n4⟩
  | _ => none
theorem decN4_ok {l : List AVal} {x : N4} (h : decN4 l = some x) : encN4 x = l := by
  unfold decN4 at h
  split at h
  · cases h; rfl
  · contradiction
def decKey : List AVal → Option Key
  | [.int .u16 a, .int .u32 b] => some ⟨a, b⟩
  | _ => none
theorem decKey_ok {l : List AVal} {x : Key} (h : decKey l = some x) : encKey x = l := by
  unfold decKey at h
  split at h
  · cases h; rfl
  · contradiction
def decC4 : List AVal → Option C4
  | [.int .i64 a1, .int .i64 a2, .int .i64 a3, .int .i64 a4, .int .i64 b1, .int .i64 b2, .int .i64 b3, .int .i64 b4, .int .i64 c1, .int .i64 c2, .int .i64 c3, .int .i64 c4, .int .i64 d1, .int .i64 d2, .int .i64 d3, .int .i64 d4] => some ⟨⟨a1, a2, a3, a4⟩, ⟨b1, b2, b3, b4⟩, ⟨c1, c2, c3, c4⟩, ⟨d1, d2, d3, d4⟩⟩
  | _ => none
theorem decC4_ok {l : List AVal} {x : C4} (h : decC4 l = some x) : encC4 x = l := by
  unfold decC4 at h
  split at h
  · cases h; rfl
  · contradiction
def decRec : List AVal → Option Rec
  | [.int .i64 k, .int .u16 t, .int .u32 s, .str p, .int .i64 a, .int .i64 n1, .int .i64 n2, .int .i64 n3, .int .i64 n4, .int .i64 r1, .int .i64 r2, .int .i64 r3, .int .i64 r4, .int .i64 l1, .int .i64 l2, .int .i64 l3, .int .i64 l4] => some ⟨k, ⟨t, s⟩, p, a, ⟨n1, n2, n3, n4⟩, ⟨r1, r2, r3, r4⟩, ⟨l1, l2, l3, l4⟩⟩
  | _ => none
theorem decRec_ok {l : List AVal} {x : Rec} (h : decRec l = some x) : encRec x = l := by
  unfold decRec at h
  split at h
  · cases h; rfl
  · contradiction
def decTxn : List AVal → Option Txn
  | [.int .u16 t, .int .u32 s, .str p, .int .i64 a, .int .i64 q, .int .i64 n1, .int .i64 n2, .int .i64 n3, .int .i64 n4, .int .i64 g, .int .i64 o] => some ⟨⟨t, s⟩, p, a, q, ⟨n1, n2, n3, n4⟩, g, o⟩
  | _ => none
theorem decTxn_ok {l : List AVal} {x : Txn} (h : decTxn l = some x) : encTxn x = l := by
  unfold decTxn at h
  split at h
  · cases h; rfl
  · contradiction
def decFld : List AVal → Option Fld
  | [.int .i64 n, .str v] => some ⟨n, v⟩
  | _ => none
theorem decFld_ok {l : List AVal} {x : Fld} (h : decFld l = some x) : encFld x = l := by
  unfold decFld at h
  split at h
  · cases h; rfl
  · contradiction
def decOut : List AVal → Option OutM
  | [.int .i64 n, .fby v] => some ⟨n, v⟩
  | _ => none
theorem decOut_ok {l : List AVal} {x : OutM} (h : decOut l = some x) : encOut x = l := by
  unfold decOut at h
  split at h
  · cases h; rfl
  · contradiction
def decLmsg : List AVal → Option LMsg
  | [.int .i64 a, .int .i64 b, .fby v] => some ⟨a, b, v⟩
  | _ => none
theorem decLmsg_ok {l : List AVal} {x : LMsg} (h : decLmsg l = some x) : encLmsg x = l := by
  unfold decLmsg at h
  split at h
  · cases h; rfl
  · contradiction
def decItem : List AVal → Option Item
  | [.int .u16 a, .int .u32 b, .int .i64 g] => some ⟨⟨a, b⟩, g⟩
  | _ => none
theorem decItem_ok {l : List AVal} {x : Item} (h : decItem l = some x) : encItem x = l := by
  unfold decItem at h
  split at h
  · cases h; rfl
  · contradiction
def decWaiting : List AVal → Option Waiting
  | [.int .u16 a, .int .u32 b, .int .i64 g, .bool n] => some ⟨⟨⟨a, b⟩, g⟩, n⟩
  | _ => none
theorem decWaiting_ok {l : List AVal} {x : Waiting} (h : decWaiting l = some x) : encWaiting x = l := by
  unfold decWaiting at h
  split at h
  · cases h; rfl
  · contradiction
def decTerml : List AVal → Option Terml
  | [.int .i64 a1, .int .i64 a2, .int .i64 a3, .int .i64 a4, .int .i64 b1, .int .i64 b2, .int .i64 b3, .int .i64 b4, .int .i64 c1, .int .i64 c2, .int .i64 c3, .int .i64 c4, .int .i64 d1, .int .i64 d2, .int .i64 d3, .int .i64 d4, .bool o, .int .i64 n] => some ⟨⟨⟨a1, a2, a3, a4⟩, ⟨b1, b2, b3, b4⟩, ⟨c1, c2, c3, c4⟩, ⟨d1, d2, d3, d4⟩⟩, o, n⟩
  | _ => none
theorem decTerml_ok {l : List AVal} {x : Terml} (h : decTerml l = some x) : encTerml x = l := by
  unfold decTerml at h
  split at h
  · cases h; rfl
  · contradiction
def decRterm : List AVal → Option RTerml
  | [.ptr none, .bool o, .int .i64 n] => some ⟨none, o, n⟩
  | [.ptr (some ⟨i, 0, 0, 0⟩), .bool o, .int .i64 n] => some ⟨some i, o, n⟩
  | _ => none
theorem decRterm_ok {l : List AVal} {x : RTerml} (h : decRterm l = some x) : encRterm x = l := by
  unfold decRterm at h
  split at h
  · cases h; rfl
  · cases h; rfl
  · contradiction
def decSector : List AVal → Option (List Int)
  | [.ai .u8 64 x] => some x
  | _ => none
theorem decSector_ok {l : List AVal} {x : (List Int)} (h : decSector l = some x) : encSector x = l := by
  unfold decSector at h
  split at h
  · cases h; rfl
  · contradiction
def decWr : List AVal → Option Wr
  | [.int .i64 n, .ai .u8 64 x] => some ⟨n, x⟩
  | _ => none
theorem decWr_ok {l : List AVal} {x : Wr} (h : decWr l = some x) : encWr x = l := by
  unfold decWr at h
  split at h
  · cases h; rfl
  · contradiction
def decDiff : List AVal → Option DiffM
  | [.int .i64 a, .int .i64 b, .int .i64 c] => some ⟨a, b, c⟩
  | _ => none
theorem decDiff_ok {l : List AVal} {x : DiffM} (h : decDiff l = some x) : encDiff x = l := by
  unfold decDiff at h
  split at h
  · cases h; rfl
  · contradiction
def decB : List AVal → Option Bool
  | [.bool x] => some x
  | _ => none
theorem decB_ok {l : List AVal} {x : Bool} (h : decB l = some x) : encB x = l := by
  unfold decB at h
  split at h
  · cases h; rfl
  · contradiction
def decS : List AVal → Option (List Int)
  | [.str x] => some x
  | _ => none
theorem decS_ok {l : List AVal} {x : (List Int)} (h : decS l = some x) : encS x = l := by
  unfold decS at h
  split at h
  · cases h; rfl
  · contradiction
def decFb : List AVal → Option (List Int)
  | [.fby x] => some x
  | _ => none
theorem decFb_ok {l : List AVal} {x : (List Int)} (h : decFb l = some x) : encFb x = l := by
  unfold decFb at h
  split at h
  · cases h; rfl
  · contradiction

def encInt (k : IntKind) (x : Int) : List AVal := [.int k x]
def decInt (k : IntKind) : List AVal → Option Int
  | [.int k' x] => if k' = k then some x else none
  | _ => none
theorem decInt_ok {k : IntKind} {l : List AVal} {x : Int} (h : decInt k l = some x) : encInt k x = l := by
  unfold decInt at h
  split at h
  · split at h
    · cases h; subst_vars; rfl
    · contradiction
  · contradiction

/-- The kinds of rows that slices have here. -/
inductive RT where
  | int (k : IntKind)
  | notes | key | c4 | rcd | txn | fld | out | lmsg | item | waiting | terml | rterm | sector | wr | diff | bool | str | fby
  deriving DecidableEq, Inhabited

abbrev RT.T : RT → Type
  | .int _ => Int
  | .notes => N4
  | .key => Key
  | .c4 => C4
  | .rcd => Rec
  | .txn => Txn
  | .fld => Fld
  | .out => OutM
  | .lmsg => LMsg
  | .item => Item
  | .waiting => Waiting
  | .terml => Terml
  | .rterm => RTerml
  | .sector => (List Int)
  | .wr => Wr
  | .diff => DiffM
  | .bool => Bool
  | .str => (List Int)
  | .fby => (List Int)

def RT.sz : RT → Nat
  | .int _ => 1
  | .notes => 4
  | .key => 2
  | .c4 => 16
  | .rcd => 17
  | .txn => 11
  | .fld => 2
  | .out => 2
  | .lmsg => 3
  | .item => 3
  | .waiting => 4
  | .terml => 18
  | .rterm => 3
  | .sector => 64
  | .wr => 65
  | .diff => 3
  | .bool => 1
  | .str => 1
  | .fby => 1

def z4 : N4 := ⟨0, 0, 0, 0⟩
def zc4 : C4 := ⟨⟨0, 0, 0, 0⟩, ⟨0, 0, 0, 0⟩, ⟨0, 0, 0, 0⟩, ⟨0, 0, 0, 0⟩⟩
/-- A row of noughts. -/
def RT.dft : (t : RT) → t.T
  | .int _ => (0 : Int)
  | .notes => z4
  | .key => ⟨0, 0⟩
  | .c4 => zc4
  | .rcd => ⟨0, ⟨0, 0⟩, [], 0, z4, z4, z4⟩
  | .txn => ⟨⟨0, 0⟩, [], 0, 0, z4, 0, 0⟩
  | .fld => ⟨0, []⟩
  | .out => ⟨0, []⟩
  | .lmsg => ⟨0, 0, []⟩
  | .item => ⟨⟨0, 0⟩, 0⟩
  | .waiting => ⟨⟨⟨0, 0⟩, 0⟩, false⟩
  | .terml => ⟨zc4, false, 0⟩
  | .rterm => ⟨none, false, 0⟩
  | .sector => List.replicate 64 (0 : Int)
  | .wr => ⟨0, List.replicate 64 0⟩
  | .diff => ⟨0, 0, 0⟩
  | .bool => false
  | .str => ([] : List Int)
  | .fby => ([] : List Int)

/-- A row's cells. -/
def RT.enc : (t : RT) → t.T → List AVal
  | .int k => encInt k
  | .notes => encN4
  | .key => encKey
  | .c4 => encC4
  | .rcd => encRec
  | .txn => encTxn
  | .fld => encFld
  | .out => encOut
  | .lmsg => encLmsg
  | .item => encItem
  | .waiting => encWaiting
  | .terml => encTerml
  | .rterm => encRterm
  | .sector => encSector
  | .wr => encWr
  | .diff => encDiff
  | .bool => encB
  | .str => encS
  | .fby => encFb

/-- The row that cells are; none: they are no such row. -/
def RT.dec : (t : RT) → List AVal → Option t.T
  | .int k => decInt k
  | .notes => decN4
  | .key => decKey
  | .c4 => decC4
  | .rcd => decRec
  | .txn => decTxn
  | .fld => decFld
  | .out => decOut
  | .lmsg => decLmsg
  | .item => decItem
  | .waiting => decWaiting
  | .terml => decTerml
  | .rterm => decRterm
  | .sector => decSector
  | .wr => decWr
  | .diff => decDiff
  | .bool => decB
  | .str => decS
  | .fby => decFb

/-- How many cells a value of a list of cells takes. -/
def AVal.w : AVal → Nat
  | .ai _ n _ => n
  | _ => 1
def widths : List AVal → Nat
  | [] => 0
  | v :: l => v.w + widths l

theorem wN4 x : widths (encN4 x) = RT.sz .notes := by simp [widths, AVal.w, encN4, N4.v, C4.v, Key.v, Rec.v, Txn.v, RT.sz]
theorem wKey x : widths (encKey x) = RT.sz .key := by simp [widths, AVal.w, encKey, N4.v, C4.v, Key.v, Rec.v, Txn.v, RT.sz]
theorem wC4 x : widths (encC4 x) = RT.sz .c4 := by simp [widths, AVal.w, encC4, N4.v, C4.v, Key.v, Rec.v, Txn.v, RT.sz]
theorem wRec x : widths (encRec x) = RT.sz .rcd := by simp [widths, AVal.w, encRec, N4.v, C4.v, Key.v, Rec.v, Txn.v, RT.sz]
theorem wTxn x : widths (encTxn x) = RT.sz .txn := by simp [widths, AVal.w, encTxn, N4.v, C4.v, Key.v, Rec.v, Txn.v, RT.sz]
theorem wFld x : widths (encFld x) = RT.sz .fld := by simp [widths, AVal.w, encFld, N4.v, C4.v, Key.v, Rec.v, Txn.v, RT.sz]
theorem wOut x : widths (encOut x) = RT.sz .out := by simp [widths, AVal.w, encOut, N4.v, C4.v, Key.v, Rec.v, Txn.v, RT.sz]
theorem wLmsg x : widths (encLmsg x) = RT.sz .lmsg := by simp [widths, AVal.w, encLmsg, N4.v, C4.v, Key.v, Rec.v, Txn.v, RT.sz]
theorem wItem x : widths (encItem x) = RT.sz .item := by simp [widths, AVal.w, encItem, N4.v, C4.v, Key.v, Rec.v, Txn.v, RT.sz]
theorem wWaiting x : widths (encWaiting x) = RT.sz .waiting := by simp [widths, AVal.w, encWaiting, N4.v, C4.v, Key.v, Rec.v, Txn.v, RT.sz]
theorem wTerml x : widths (encTerml x) = RT.sz .terml := by simp [widths, AVal.w, encTerml, N4.v, C4.v, Key.v, Rec.v, Txn.v, RT.sz]
theorem wRterm x : widths (encRterm x) = RT.sz .rterm := by simp [widths, AVal.w, encRterm, RT.sz]
theorem wSector x : widths (encSector x) = RT.sz .sector := by simp [widths, AVal.w, encSector, N4.v, C4.v, Key.v, Rec.v, Txn.v, RT.sz]
theorem wWr x : widths (encWr x) = RT.sz .wr := by simp [widths, AVal.w, encWr, N4.v, C4.v, Key.v, Rec.v, Txn.v, RT.sz]
theorem wDiff x : widths (encDiff x) = RT.sz .diff := by simp [widths, AVal.w, encDiff, N4.v, C4.v, Key.v, Rec.v, Txn.v, RT.sz]
theorem wB x : widths (encB x) = RT.sz .bool := by simp [widths, AVal.w, encB, N4.v, C4.v, Key.v, Rec.v, Txn.v, RT.sz]
theorem wS x : widths (encS x) = RT.sz .str := by simp [widths, AVal.w, encS, N4.v, C4.v, Key.v, Rec.v, Txn.v, RT.sz]
theorem wFb x : widths (encFb x) = RT.sz .fby := by simp [widths, AVal.w, encFb, N4.v, C4.v, Key.v, Rec.v, Txn.v, RT.sz]
theorem RT.widths_enc (t : RT) (x : t.T) : widths (t.enc x) = t.sz :=
  match t, x with
  | .int _, _ => rfl
  | .notes, x => wN4 x
  | .key, x => wKey x
  | .c4, x => wC4 x
  | .rcd, x => wRec x
  | .txn, x => wTxn x
  | .fld, x => wFld x
  | .out, x => wOut x
  | .lmsg, x => wLmsg x
  | .item, x => wItem x
  | .waiting, x => wWaiting x
  | .terml, x => wTerml x
  | .rterm, x => wRterm x
  | .sector, x => wSector x
  | .wr, x => wWr x
  | .diff, x => wDiff x
  | .bool, x => wB x
  | .str, x => wS x
  | .fby, x => wFb x

theorem RT.enc_dec (t : RT) (cs : List AVal) (x : t.T) (h : t.dec cs = some x) : t.enc x = cs :=
  match t, x, h with
  | .int _, _, h => decInt_ok h
  | .notes, _, h => decN4_ok h
  | .key, _, h => decKey_ok h
  | .c4, _, h => decC4_ok h
  | .rcd, _, h => decRec_ok h
  | .txn, _, h => decTxn_ok h
  | .fld, _, h => decFld_ok h
  | .out, _, h => decOut_ok h
  | .lmsg, _, h => decLmsg_ok h
  | .item, _, h => decItem_ok h
  | .waiting, _, h => decWaiting_ok h
  | .terml, _, h => decTerml_ok h
  | .rterm, _, h => decRterm_ok h
  | .sector, _, h => decSector_ok h
  | .wr, _, h => decWr_ok h
  | .diff, _, h => decDiff_ok h
  | .bool, _, h => decB_ok h
  | .str, _, h => decS_ok h
  | .fby, _, h => decFb_ok h

end Go.Sx

/- The abstract heap, the code that the symbolic evaluator runs, and the evaluator. -/
set_option linter.unusedSimpArgs false
namespace Go.Sx

/-! ### Lists of cells: a cell may be wide -/
/-- The cell at an offset. -/
def cellAt : List AVal → Nat → Option AVal
  | [], _ => none
  | v :: l, o =>
    match v with
    | .ai k n xs => if o < n then some (.int k (xs.getD o 0)) else cellAt l (o - n)
    | v => match o with
      | 0 => some v
      | o + 1 => cellAt l o
/-- So many cells from the front on. -/
def takeW : List AVal → Nat → Option (List AVal)
  | _, 0 => some []
  | [], _ + 1 => none
  | v :: l, n + 1 => if v.w ≤ n + 1 then (takeW l (n + 1 - v.w)).map (v :: ·) else none
/-- What lies behind so many cells. -/
def dropW : List AVal → Nat → Option (List AVal)
  | l, 0 => some l
  | [], _ + 1 => none
  | v :: l, n + 1 => if v.w ≤ n + 1 then dropW l (n + 1 - v.w) else none
/-- Other cells put over those at an offset. -/
def putW (l : List AVal) (o : Nat) (vs : List AVal) : Option (List AVal) :=
  match takeW l o, dropW l o with
  | some a, some b => (dropW b (widths vs)).map fun c => a ++ (vs ++ c)
  | _, _ => none
/-- A value's cells. -/
def AVal.cs : AVal → List AVal
  | .agg l => l
  | v => [v]
/-- The value of cells: one wide cell is a value by itself. -/
def aggOf : List AVal → AVal
  | [.ai k n l] => .ai k n l
  | l => .agg l

/-! ### Blocks -/
/-- 'ro': others may see this block, too; it isn't written. -/
inductive Blk where
  | dead
  | cells (c : List AVal)
  | rows (ro : Bool) (t : RT) (l : List t.T)
  | mp (k v : RT) (l : List (k.T × v.T))

abbrev Heap := List Blk

def getB : Heap → Nat → Blk
  | [], _ => .dead
  | b :: _, 0 => b
  | _ :: h, n + 1 => getB h n
def setB : Heap → Nat → Blk → Heap
  | [], _, _ => []
  | _ :: h, 0, b => b :: h
  | a :: h, n + 1, b => a :: setB h n b

/-- Is a row a struct or an array? -/
def RT.isA : RT → Bool
  | .int _ | .bool | .str | .fby => false
  | _ => true
/-- The row that a value is. -/
def RT.decV (t : RT) (v : AVal) : Option t.T :=
  match t.isA, v with
  | true, .agg l => t.dec l
  | true, .ai k n l => t.dec [.ai k n l]
  | true, _ => none
  | false, .agg _ => none
  | false, .unk => none
  | false, .tup _ => none
  | false, .ai _ _ _ => none
  | false, v => t.dec [v]
/-- A scalar's kind. -/
inductive CK where
  | i (k : IntKind) | b | s
  deriving DecidableEq
/-- Whether scalars are the same, cell by cell. -/
def eqV : CK → AVal → AVal → Option Bool
  | .i q, .int k a, .int k' b => if k = q ∧ k' = q then some (a == b) else none
  | .b, .bool a, .bool b => some (a == b)
  | .s, .str a, .str b => some (a == b)
  | _, _, _ => none
def eqCells : List CK → List AVal → List AVal → Option Bool
  | [], [], [] => some true
  | q :: ks, a :: l, b :: m => match eqV q a b, eqCells ks l m with
    | some x, some y => some (x && y)
    | _, _ => none
  | _, _, _ => none
/-- Rows that may be a map's keys: their cells' kinds. -/
def RT.keys : RT → Option (List CK)
  | .int k => some [.i k]
  | .bool => some [.b]
  | .str => some [.s]
  | .notes => some [.i .i64, .i .i64, .i .i64, .i .i64]
  | .key => some [.i .u16, .i .u32]
  | _ => none
def RT.same (t : RT) (x y : t.T) : Bool :=
  match t.keys with
  | some ks => (eqCells ks (t.enc x) (t.enc y)).getD false
  | none => false

def mfind {k v : RT} (l : List (k.T × v.T)) (x : k.T) : Option v.T := (l.find? fun e => k.same x e.1).map (·.2)
def mset {k v : RT} : List (k.T × v.T) → k.T → v.T → List (k.T × v.T)
  | [], x, y => [(x, y)]
  | e :: l, x, y => if k.same x e.1 then (x, y) :: l else e :: mset l x y
def mdel {k v : RT} : List (k.T × v.T) → k.T → List (k.T × v.T)
  | [], _ => []
  | e :: l, x => if k.same x e.1 then l else e :: mdel l x

/-- A value out of a row's cells. -/
def ofRow (t : RT) (x : t.T) : AVal := if t.isA then aggOf (t.enc x) else (t.enc x).headD .unk

/-! ### Code -/
inductive Opd where
  | t (n : Nat)
  | c (v : AVal)
  deriving Inhabited

inductive Arith where
  | add | sub | mul | quo | rem | and | or | xor | andNot | shl | shr
inductive Cmp where
  | eql | neq | lss | leq | gtr | geq

/-- Operations that change no memory. -/
inductive ROp where
  | mov (x : Opd)
  | pick (c a b : Opd)
  | load1 (x : Opd)
  | loadN (n : Nat) (x : Opd)
  | fld (off : Nat) (x : Opd)
  | nilchk (x : Opd)
  | arith (op : Arith) (x y : Opd)
  | cmp (op : Cmp) (x y : Opd)
  | eqA (ks : List CK) (neg : Bool) (x y : Opd)
  | eq1 (q : CK) (neg : Bool) (x y : Opd)
  | eqP (neg : Bool) (x y : Opd)
  | eqI (neg : Bool) (x : Opd)
  | eqN (neg : Bool) (x : Opd)
  | eqM (neg : Bool) (x : Opd)
  | capS (x : Opd)
  | neg (x : Opd)
  | compl (x : Opd)
  | not (x : Opd)
  | toInt (k : IntKind) (x : Opd)
  | toStr (x : Opd)
  | strStr (x : Opd)
  | ifc (t : TypeId) (x : Opd)
  | asrt (t : TypeId) (x : Opd)
  | len (kd : Nat) (x : Opd)
  | minmax (isMax : Bool) (x y : Opd)
  | mm3 (isMax : Bool) (x y z : Opd)
  | ext (x : Opd) (i : Nat)
  | part (off n : Nat) (scalar : Bool) (x : Opd)
  | build (zero : List AVal) (parts : List (Nat × (Nat × Opd)))
  | mkfn (f : Fn) (first captured : List Opd)
  | idxA (n sz : Nat) (x i : Opd)
  | idxS (sz : Nat) (x i : Opd)
  | at (n sz : Nat) (scalar : Bool) (x i : Opd)
  | strAt (x i : Opd)
  | slcA (n sz : Nat) (x : Opd) (lo hi : Option Opd)
  | slcS (sz : Nat) (x : Opd) (lo hi mx : Option Opd)
  | slcStr (x : Opd) (lo hi : Option Opd)
  | look (k v : RT) (ok : Bool) (m x : Opd)

/-- Operations that make a new block, and change none. -/
inductive NOp where
  | zbox (c : List AVal)
  | box (x : Opd)
  | mkslice (t : RT) (n : Opd)
  | bslice (t : Option RT) (sz n : Nat) (parts : List Opd)
  | mkmap (k v : RT)
  | bytes (x : Opd)

/-- Operations that change memory. -/
inductive EOp where
  | store1 (x v : Opd)
  | storeN (n : Nat) (x v : Opd)
  | append (t : RT) (s x : Opd)
  | copy (t : RT) (d x : Opd)
  | upd (k v : RT) (m x y : Opd)
  | del (k v : RT) (m x : Opd)
  | clr (t : Option RT) (m : Opd)
  | call (f : Opd) (args : List Opd)
  | never

inductive AOp where
  | r (o : ROp)
  | n (o : NOp)
  | e (o : EOp)

structure AOper where
  dst : Option Nat
  op : AOp
  guard : Option (Nat × Bool)

/-- In a region that draws its order: the operation's place in the region; whether it waits for all that the draw may hold back (a change, or a store into a variable); which of those ahead of it, by place, surely are done by then. -/
structure DOper where
  idx : Nat
  o : AOper
  eff : Bool
  forced : List Nat

inductive ACode where
  | skip
  | reg (ops : List AOper)
  | dreg (ops : List DOper)
  | seq (a b : ACode)
  | cond (c : Opd) (a b : ACode)
  | block (id : Nat) (c : ACode)
  | loop (lv : List Nat) (c : ACode)
  | cut (lv : List Nat)
  | frag (id : Nat)
  | stuck
  | exit (id : Nat)
  | ret

/-! ### States -/
/-- Values by numbers: a tree by binary digits. Its functions are written by the recursor, for the kernel's sake. -/
inductive Tr where
  | nil
  | nd (v : AVal) (l r : Tr)
def Tr.one : Nat → Nat → AVal → Tr
  | 0, _, _ => .nil
  | f + 1, n, v => match n with
    | 0 => .nd v .nil .nil
    | n + 1 => cond (Nat.beq (Nat.mod n 2) 0) (.nd .unk (Tr.one f (Nat.div n 2) v) .nil) (.nd .unk .nil (Tr.one f (Nat.div n 2) v))
noncomputable def Tr.get (t : Tr) : Nat → AVal :=
  Tr.rec (fun _ => .unk) (fun v _ _ il ir n => Nat.rec v (fun m _ => cond (Nat.beq (Nat.mod m 2) 0) (il (Nat.div m 2)) (ir (Nat.div m 2))) n) t
noncomputable def Tr.set (t : Tr) : Nat → AVal → Tr :=
  Tr.rec (fun n x => Tr.one (n + 1) n x) (fun v l r il ir n x => Nat.rec (.nd x l r) (fun m _ => cond (Nat.beq (Nat.mod m 2) 0) (.nd v (il (Nat.div m 2) x) r) (.nd v l (ir (Nat.div m 2) x))) n) t
/-- Temporaries; how many blocks there were at the function's beginning. -/
structure Tm where
  t : Tr
  length : Nat
  bs : Nat
structure St where
  tm : Tm
  hp : Heap
  dt : List Nat

noncomputable section
def tget (l : Tm) (n : Nat) : AVal := l.t.get n
def tset (l : Tm) (n : Nat) (v : AVal) : Tm := ⟨l.t.set n v, l.length, l.bs⟩
def argT : Nat → List AVal → Tr → Tr
  | _, [], t => t
  | i, v :: l, t => argT (i + 1) l (t.set i v)
def St.put (s : St) (d : Option Nat) (v : AVal) : St :=
  match d with
  | none => s
  | some d => { s with tm := tset s.tm d v }
def ev (s : St) : Opd → AVal
  | .t n => tget s.tm n
  | .c v => v

/-- Guarded values: a temporary, its guard, what the guard must be, its value then. -/
structure GV where
  n : Nat
  g : Nat
  w : Bool
  v : AVal
def gfind : List GV → Nat → Option GV
  | [], _ => none
  | x :: l, n => if x.n = n then some x else gfind l n
def sameG (g : Option (Nat × Bool)) (x : GV) : Bool :=
  match g with
  | some (t, w) => x.g == t && (x.w == w)
  | none => false
/-- An operand's value under a guard. -/
def evG (gs : List GV) (g : Option (Nat × Bool)) (s : St) : Opd → AVal
  | .t n => match gfind gs n with
    | some x => if sameG g x then x.v else .unk
    | none => tget s.tm n
  | .c v => v
/-- An arm of a pick: its guard may be the pick's test. -/
def evP (gs : List GV) (g : Option (Nat × Bool)) (s : St) (c : Opd) (w : Bool) : Opd → AVal
  | .t n => match gfind gs n with
    | some x => if sameG g x then x.v else match c with
      | .t m => if sameG (some (m, w)) x then x.v else .unk
      | .c _ => .unk
    | none => tget s.tm n
  | .c v => v
/-- Does a guard hold? -/
def guardB (gs : List GV) (s : St) : Nat → Nat → Bool → Option Bool
  | 0, _, _ => none
  | d + 1, g, w => match gfind gs g with
    | none => match tget s.tm g with
      | .bool b => some (b == w)
      | .tup [] => some false
      | _ => none
    | some x => match x.v, guardB gs s d x.g x.w with
      | .bool b, some y => some (y && (b == w))
      | _, _ => none

/-! ### Operations that change nothing -/
def comb (x : Bool) (a b : AVal) : Option AVal :=
  match a, b with
  | .bool p, .bool q => some (.bool (cond x p q))
  | .int k p, .int k' q => if k = k' then some (.int k (cond x p q)) else none
  | .str p, .str q => some (.str (cond x p q))
  | a, b => cond x (some a) (some b)

def ibits (op : Arith) (k : IntKind) (x y : Int) : Int :=
  let a := BitVec.ofInt k.bits x
  let b := BitVec.ofInt k.bits y
  match op with
  | .and => k.wrap (a &&& b).toNat
  | .or => k.wrap (a ||| b).toNat
  | .xor => k.wrap (a ^^^ b).toNat
  | _ => k.wrap (a &&& ~~~b).toNat

def arith (op : Arith) (k : IntKind) (x y : Int) : Bool × Int :=
  match op with
  | .add => (true, k.wrap (x + y))
  | .sub => (true, k.wrap (x - y))
  | .mul => (true, k.wrap (x * y))
  | .quo => (y != 0, k.wrap (x.tdiv y))
  | .rem => (y != 0, x.tmod y)
  | .shl => (decide (0 ≤ y), k.wrap (x * 2 ^ (min y.toNat k.bits)))
  | .shr => (decide (0 ≤ y), x.fdiv (2 ^ (min y.toNat k.bits)))
  | op => (true, ibits op k x y)

def cmpI (op : Cmp) (x y : Int) : Bool :=
  match op with
  | .eql => x == y
  | .neq => x != y
  | .lss => decide (x < y)
  | .leq => decide (x ≤ y)
  | .gtr => decide (y < x)
  | .geq => decide (y ≤ x)

/-- A slice's length; none: the block is gone. -/
def lenOf (h : Heap) (p : Option APtr) : SLen → Option Nat
  | .n k => some k
  | .all => match p with
    | some p => match getB h p.id with
      | .rows _ _ l => match p.row with
        | 0 => some l.length
        | r + 1 => some (l.length - (r + 1))
      | _ => none
    | none => none

def ld1 (h : Heap) (p : APtr) : Option (Bool × AVal) :=
  match getB h p.id with
  | .cells c => (cellAt c (p.row * p.rs + p.off)).map fun v => (true, v)
  | .rows _ t l =>
    if p.rs = t.sz then (cellAt (t.enc (l.getD p.row t.dft)) p.off).map fun v => (decide (p.row < l.length), v) else none
  | _ => none
def ldN (h : Heap) (p : APtr) (n : Nat) : Option (Bool × AVal) :=
  match getB h p.id with
  | .cells c => ((dropW c (p.row * p.rs + p.off)).bind fun d => takeW d n).map fun v => (true, aggOf v)
  | .rows _ t l =>
    if p.rs = t.sz then ((dropW (t.enc (l.getD p.row t.dft)) p.off).bind fun d => takeW d n).map fun v => (decide (p.row < l.length), aggOf v)
    else none
  | _ => none

def optInt (f : Opd → AVal) : Option Opd → Option (Option Int)
  | none => some none
  | some x => match f x with
    | .int _ n => some (some n)
    | _ => none

def addRow (p : APtr) : Option Int → APtr
  | none => p
  | some a => { p with row := p.row + a.toNat }
def Cap.sub (c : Cap) (a : Nat) : Cap :=
  match c with
  | .exact c => .exact (c - a)
  | .atLeast c => .atLeast (c - a)
  | .opn => .opn
/-- What a slice's capacity is at least. -/
def Cap.least (c : Cap) (n : Nat) : Nat :=
  match c with
  | .exact c => c
  | .atLeast c => c
  | .opn => n
def SLen.sub (n : SLen) (a : Nat) : SLen :=
  match n with
  | .all => .all
  | .n k => .n (k - a)
/-- A slice's capacity that ends ahead of the slice's own end. -/
def Cap.cut (c : Cap) (len a : Nat) : Cap :=
  match c with
  | .exact c => .exact (c - a)
  | .atLeast c => .atLeast (c - a)
  | .opn => .atLeast (len - a)
def addOff (p : APtr) (z : Nat) : Option Int → APtr
  | none => p
  | some a => { p with off := p.off + a.toNat * z }
def slcS (p : APtr) (n : SLen) (len : Nat) (c : Cap) (lo hi mx : Option Int) : Option (Bool × AVal) :=
  let a := lo.getD 0
  match mx with
  | some m => match hi with
    | some b => some (decide (0 ≤ a) && (decide (a ≤ b) && (decide (b ≤ m) && decide (m ≤ (len : Int)))), .slice (some (addRow p lo)) (.n (b.toNat - a.toNat)) (.exact (m.toNat - a.toNat)))
    | none => none
  | none =>
    match hi with
    | none => match lo with
      | none => some (true, .slice (some p) n c)
      | some a => some (decide (0 ≤ a) && decide (a ≤ (len : Int)), .slice (some (addRow p lo)) (n.sub a.toNat) (c.sub a.toNat))
    | some b =>
      some (decide (0 ≤ a) && (decide (a ≤ b) && decide (b ≤ (c.least len : Nat))),
        .slice (some (addRow p lo)) (.n (b.toNat - a.toNat)) (c.cut len a.toNat))

def cutStr (s : List Int) : Option Int → Option Int → List Int
  | none, none => s
  | some a, none => s.drop a.toNat
  | none, some b => s.take b.toNat
  | some a, some b => (s.drop a.toNat).take (b.toNat - a.toNat)
/-- Parts laid into cells. -/
def fillW (f : Opd → AVal) : List AVal → List (Nat × (Nat × Opd)) → Option (List AVal)
  | l, [] => some l
  | l, (o, (n, x)) :: ps => match f x with
    | .unk => none
    | .tup _ => none
    | v => if widths v.cs = n then (putW l o v.cs).bind fun l => fillW f l ps else none

/-- A length as a number. -/
def lenI (n : Nat) : Bool × AVal := (decide (n ≤ 9223372036854775807), .int .i64 (n : Int))
/-- What an operation that changes nothing gives: whether it goes well, and its value. -/
def mm (mx : Bool) (a b : Int) : Int := cond mx (if b > a then b else a) (if b < a then b else a)
def exR (o : ROp) (f : Opd → AVal) (fp : Opd → Bool → Opd → AVal) (h : Heap) : Option (Bool × AVal) :=
  match o with
  | .mov x => some (true, f x)
  | .pick c a b => match f c with
    | .bool x => (comb x (fp c true a) (fp c false b)).map fun v => (true, v)
    | _ => none
  | .load1 x => match f x with
    | .ptr (some p) => ld1 h p
    | .fp x => some (true, .int .u8 x)
    | _ => none
  | .loadN n x => match f x with
    | .ptr (some p) => ldN h p n
    | _ => none
  | .fld off x => match f x with
    | .ptr (some p) => some (true, .ptr (some { p with off := p.off + off }))
    | _ => none
  | .nilchk x => match f x with
    | .ptr (some p) => some (true, .ptr (some p))
    | .fn (.func i) a b => some (true, .fn (.func i) a b)
    | _ => none
  | .arith op x y => match f x, f y with
    | .int k a, .int k' b => match op with
      | .shl | .shr => some ((arith op k a b).1, .int k (arith op k a b).2)
      | _ => if k = k' then some ((arith op k a b).1, .int k (arith op k a b).2) else none
    | .str a, .str b => match op with
      | .add => some (decide (a.length + b.length ≤ 9223372036854775807), .str (a ++ b))
      | _ => none
    | _, _ => none
  | .cmp op x y => match f x, f y with
    | .int k a, .int k' b => if k = k' then some (true, .bool (cmpI op a b)) else none
    | _, _ => none
  | .eqA ks ng x y => match f x, f y with
    | .agg a, .agg b => (eqCells ks a b).map fun r => (true, .bool (cond ng (!r) r))
    | _, _ => none
  | .eq1 q ng x y => (eqV q (f x) (f y)).map fun r => (true, .bool (cond ng (!r) r))
  | .eqP ng x y => match f x, f y with
    | .ptr none, .ptr none => some (true, .bool (!ng))
    | .ptr (some _), .ptr none | .ptr none, .ptr (some _) => some (true, .bool ng)
    | _, _ => none
  | .eqI ng x => match f x with
    | .nilIfc => some (true, .bool (!ng))
    | .err => some (true, .bool ng)
    | _ => none
  | .eqN ng x => match f x with
    | .slice none _ _ => some (true, .bool (!ng))
    | .slice (some p) n _ => match lenOf h (some p) n with
      | some (_ + 1) => some (true, .bool ng)
      | _ => none
    | .fby (_ :: _) => some (true, .bool ng)
    | _ => none
  | .capS x => match f x with
    | .slice _ _ (.exact c) => some (Nat.ble c 9223372036854775807, .int .i64 (c : Int))
    | _ => none
  | .eqM ng x => match f x with
    | .map none => some (true, .bool (!ng))
    | .map (some _) => some (true, .bool ng)
    | _ => none
  | .neg x => match f x with
    | .int k a => some (true, .int k (k.wrap (0 - a)))
    | _ => none
  | .compl x => match f x with
    | .int k a => some (true, .int k (ibits .xor k (if k.signed then -1 else k.max) a))
    | _ => none
  | .not x => match f x with
    | .bool a => some (true, .bool (!a))
    | _ => none
  | .toInt k x => match f x with
    | .int _ a => some (true, .int k (k.wrap a))
    | _ => none
  | .strStr x => match f x with
    | .str s => some (true, .str s)
    | _ => none
  | .toStr x => match f x with
    | .fby l => some (true, .str l)
    | .slice none (.n 0) _ => some (true, .str [])
    | .slice (some p) n _ => match getB h p.id with
      | .rows _ t l => match t, l with
        | .int .u8, l =>
          if p.rs = 1 ∧ p.off = 0 then
            match n, p.row with
            | .all, 0 => some (true, .str l)
            | .all, r => some (decide (r ≤ l.length), .str (l.drop r))
            | .n k, 0 => some (decide (k ≤ l.length), .str (l.take k))
            | .n k, r => some (decide (r + k ≤ l.length), .str ((l.drop r).take k))
          else none
        | _, _ => none
      | _ => none
    | _ => none
  | .ifc t x => some (true, .ifc t (f x))
  | .asrt t x => match f x with
    | .ifc t' v => if t = t' then some (true, v) else none
    | _ => none
  | .len kd x => match kd, f x with
    | 0, .str s => some (lenI s.length)
    | 1, .fby s => some (lenI s.length)
    | 1, .slice p n _ => (lenOf h p n).map lenI
    | 2, .map (some r) => match getB h r with
      | .mp _ _ l => some (lenI l.length)
      | _ => none
    | _, _ => none
  | .minmax mx x y => match f x, f y with
    | .int k a, .int k' b => if k = k' then some (true, .int k (cond mx (if b > a then b else a) (if b < a then b else a))) else none
    | _, _ => none
  | .mm3 mx x y z => match f x, f y, f z with
    | .int k a, .int k' b, .int k'' c => if k = k' ∧ k = k'' then some (true, .int k (mm mx (mm mx a b) c)) else none
    | _, _, _ => none
  | .ext x i => match f x with
    | .tup vs => (vs[i]?).map fun v => (true, v)
    | _ => none
  | .part off n sc x => match f x with
    | .agg l => (if sc then cellAt l off else ((dropW l off).bind fun d => takeW d n).map aggOf).map fun v => (true, v)
    | _ => none
  | .build zero parts => (fillW f zero parts).map fun l => (true, aggOf l)
  | .mkfn g a b => some (true, .fn g (a.map f) (b.map f))
  | .idxA n sz x i => match f x, f i with
    | .ptr (some p), .int _ j => some (decide (0 ≤ j) && decide (j < n), .ptr (some { p with off := p.off + j.toNat * sz }))
    | _, _ => none
  | .idxS sz x i => match f x, f i with
    | .slice (some p) n _, .int _ j =>
      if p.rs = sz then (lenOf h (some p) n).map fun (k : Nat) => (decide (0 ≤ j) && decide (j < (k : Int)), .ptr (some { p with row := p.row + j.toNat })) else none
    | .fby l, .int _ j => if sz = 1 then (l[j.toNat]?).map fun x => (decide (0 ≤ j), .fp x) else none
    | _, _ => none
  | .at n sz sc x i => match f x, f i with
    | .agg l, .int _ j => (if sc then cellAt l (j.toNat * sz) else ((dropW l (j.toNat * sz)).bind fun d => takeW d sz).map aggOf).map fun v => (decide (0 ≤ j) && decide (j < n), v)
    | .ai k m l, .int _ j => if sc ∧ sz = 1 ∧ m = n then some (decide (0 ≤ j) && decide (j < n), .int k (l.getD j.toNat 0)) else none
    | _, _ => none
  | .strAt x i => match f x, f i with
    | .str s, .int _ j => some (decide (0 ≤ j) && decide (j < s.length), .int .u8 (s.getD j.toNat 0))
    | _, _ => none
  | .slcA n sz x lo hi => match f x, optInt f lo, optInt f hi with
    | .ptr (some p), some a, some b =>
      some (decide (0 ≤ a.getD 0) && (decide (a.getD 0 ≤ b.getD n) && decide (b.getD n ≤ (n : Int))),
        .slice (some (addOff p sz a)) (.n ((b.getD n).toNat - (a.getD 0).toNat)) (.exact (n - (a.getD 0).toNat)))
    | _, _, _ => none
  | .slcS sz x lo hi mx => match f x, optInt f lo, optInt f hi, optInt f mx with
    | .slice p n c, some a, some b, some m => match p with
      | none => match a, b, m with
        | none, none, none => some (true, .slice none n c)
        | _, _, _ => none
      | some p => match lenOf h (some p) n with
        | some k => if p.rs = sz ∧ p.off = 0 then slcS p n k c a b m else none
        | none => none
    | .fby s, some a, some b, some none => if sz = 1 then some (decide (0 ≤ a.getD 0) && (decide (a.getD 0 ≤ b.getD s.length) && decide (b.getD s.length ≤ s.length)), .fby (cutStr s a b)) else none
    | _, _, _, _ => none
  | .slcStr x lo hi => match f x, optInt f lo, optInt f hi with
    | .str s, some a, some b =>
      some (decide (0 ≤ a.getD 0) && (decide (a.getD 0 ≤ b.getD s.length) && decide (b.getD s.length ≤ s.length)),
        .str (cutStr s a b))
    | _, _, _ => none
  | .look k v ok m x => match f m with
    | .map (some r) => match getB h r with
      | .mp k' v' l =>
        if k' = k ∧ v' = v then
          match k'.decV (f x) with
          | some x => some (true, if ok then .tup [ofRow v' ((mfind l x).getD v'.dft), .bool (mfind l x).isSome] else ofRow v' ((mfind l x).getD v'.dft))
          | none => none
        else none
      | _ => none
    | _ => none

/-- The blocks that an operation that changes nothing reads. -/
def rdS (v : AVal) : List Nat :=
  match v with
  | .slice (some p) .all _ => [p.id]
  | _ => []
def rdR (o : ROp) (f : Opd → AVal) : List Nat :=
  match o with
  | .load1 x | .loadN _ x => match f x with
    | .ptr (some p) => [p.id]
    | _ => []
  | .toStr x => match f x with
    | .slice (some p) _ _ => [p.id]
    | _ => []
  | .len _ x => match f x with
    | .map (some r) => [r]
    | v => rdS v
  | .idxS _ x _ => rdS (f x)
  | .eqN _ x => rdS (f x)
  | .slcS _ x _ _ _ => rdS (f x)
  | .look _ _ _ m _ => match f m with
    | .map (some r) => [r]
    | _ => []
  | _ => []

/-! ### Operations that make a block -/
def lim : Nat := 137438953472

/-- Are values of so many cells? -/
def sized (f : Opd → AVal) (sz : Nat) : List Opd → Bool
  | [] => true
  | x :: l => match f x with
    | .unk => false
    | .tup _ => false
    | v => Nat.beq (widths v.cs) sz && sized f sz l
def decAll (t : RT) (f : Opd → AVal) : List Opd → Option (List t.T)
  | [] => some []
  | x :: l => match f x with
    | .unk => none
    | .tup _ => none
    | v => match t.dec v.cs, decAll t f l with
      | some a, some m => some (a :: m)
      | _, _ => none
def catV (f : Opd → AVal) : List Opd → List AVal
  | [] => []
  | x :: l => (f x).cs ++ catV f l
def exN (o : NOp) (f : Opd → AVal) (id : Nat) : Option (Bool × (AVal × Blk)) :=
  match o with
  | .zbox c => some (true, (.ptr (some ⟨id, 0, 0, 0⟩), .cells c))
  | .box x => match f x with
    | .unk => none
    | .tup _ => none
    | v => some (true, (.ptr (some ⟨id, 0, 0, 0⟩), .cells v.cs))
  | .mkslice t n => match f n with
    | .int _ n => some (decide (0 ≤ n) && decide (n ≤ lim), (.slice (some ⟨id, t.sz, 0, 0⟩) .all (.exact n.toNat), .rows false t (List.replicate n.toNat t.dft)))
    | _ => none
  | .bslice t sz n parts => match t with
    | some t => (decAll t f parts).map fun l => (true, (.slice (some ⟨id, t.sz, 0, 0⟩) .all (.exact n), .rows false t l))
    | none => if sized f sz parts then some (true, (.slice (some ⟨id, sz, 0, 0⟩) (.n n) (.exact n), .cells (catV f parts))) else none
  | .mkmap k v => some (true, (.map (some id), .mp k v []))
  | .bytes x => match f x with
    | .str s => some (true, (.slice (some ⟨id, 1, 0, 0⟩) .all .opn, .rows false (.int .u8) s))
    | _ => none

/-! ### Operations that change memory -/
abbrev Spec := (R : Type) → List AVal → Heap → (AVal → Heap → List Nat → Option R) → Option R
inductive AExit where
  | norm
  | exit (id : Nat)
  | ret
abbrev FSpec := (R : Type) → St → (AExit → St → Option R) → Option R
structure Env where
  call : FuncId → Spec
  frag : Nat → FSpec

/-- The first of a wide cell's numbers. -/
def wideAt (c : List AVal) (o : Nat) (k : IntKind) (n : SLen) : Option (Bool × List Int) :=
  match dropW c o, n with
  | some (.ai k' m xs :: _), .n (j + 1) => if k' = k then some (decide (j + 1 ≤ m), if j + 1 = m then xs else xs.take (j + 1)) else none
  | _, _ => none
/-- The rows of a slice's source: whether they are there. -/
def srcRows (h : Heap) (t : RT) (x : AVal) : Option (Bool × List t.T) :=
  match x with
  | .slice none (.n 0) _ => some (true, [])
  | .slice (some p) n _ => match getB h p.id with
    | .rows _ t' l =>
      if e : t' = t then
        if p.rs = t.sz ∧ p.off = 0 then
          some (match n, p.row with
            | .all, 0 => (true, e ▸ l)
            | .n k, 0 => (decide (k ≤ l.length), (e ▸ l).take k)
            | .all, r => (decide (r ≤ l.length), (e ▸ l).drop r)
            | .n k, r => (decide (r + k ≤ l.length), ((e ▸ l).drop r).take k))
        else none
      else match t with
        | .int k => if p.rs = t'.sz then (wideAt (t'.enc (l.getD p.row t'.dft)) p.off k n).map fun r => (decide (p.row < l.length) && r.1, r.2) else none
        | _ => none
    | .cells c => match t with
      | .int k => wideAt c (p.row * p.rs + p.off) k n
      | _ => none
    | _ => none
  | .fby l => match t with
    | .int .u8 => some (true, l)
    | _ => none
  | .str l => match t with
    | .int .u8 => some (true, l)
    | _ => none
  | _ => none

/-- Cells in which a slice of bytes has become immutable bytes; the blocks that nobody may see any more. -/
def freeze (h : Heap) : List AVal → Option (Bool × (List AVal × List Nat))
  | [] => some (true, ([], []))
  | v :: l => match freeze h l with
    | none => none
    | some (c, (l, d)) => match v with
      | .slice none (.n 0) _ => some (c, (.fby [] :: l, d))
      | .slice (some p) n cp => match srcRows h (.int .u8) (.slice (some p) n cp), getB h p.id with
        | some (c', xs), .rows false _ _ => some (c && c', (.fby xs :: l, p.id :: d))
        | _, _ => none
      | v => some (c, (v :: l, d))
def kill (h : Heap) : List Nat → Heap
  | [] => h
  | d :: l => kill (setB h d .dead) l
/-- Rows of a block of cells. -/
def rowsOf (h : Heap) (t : RT) : Nat → List AVal → Option (Bool × (List t.T × List Nat))
  | 0, _ => some (true, ([], []))
  | n + 1, l => match takeW l t.sz, dropW l t.sz with
    | some a, some b => match freeze h a, rowsOf h t n b with
      | some (c, (a, d)), some (c', (xs, d')) => (t.dec a).map fun x => (c && c', (x :: xs, d ++ d'))
      | _, _ => none
    | _, _ => none
/-- What is appended: whether it is there, its rows, the blocks that are used up. -/
def appRows (h : Heap) (t : RT) (x : AVal) : Option (Bool × (List t.T × List Nat)) :=
  match x with
  | .slice (some p) (.n n) c => match getB h p.id with
    | .cells l => match t with
      | .int kk => (srcRows h (.int kk) (.slice (some p) (.n n) c)).map fun r => (r.1, (r.2, []))
      | t => match p.row, p.off with
        | 0, 0 => rowsOf h t n l
        | _, _ => none
    | _ => (srcRows h t x).map fun r => (r.1, (r.2, []))
  | _ => (srcRows h t x).map fun r => (r.1, (r.2, []))

section
variable {R : Type}
def store (s : St) (p : APtr) (vs : List AVal) (k : AVal → St → Option R) : Option R :=
  match getB s.hp p.id with
  | .cells c => match putW c (p.row * p.rs + p.off) vs with
    | some c => k (.tup []) { s with hp := setB s.hp p.id (.cells c), dt := p.id :: s.dt }
    | none => none
  | .rows false t l =>
    if p.rs = t.sz then
      match (putW (t.enc (l.getD p.row t.dft)) p.off vs).bind t.dec with
      | some x => cond (decide (p.row < l.length)) (k (.tup []) { s with hp := setB s.hp p.id (.rows false t (l.set p.row x)), dt := p.id :: s.dt }) none
      | none => none
    else none
  | _ => none

def scalarB : AVal → Bool
  | .unk | .agg _ | .tup _ | .ai _ _ _ => false
  | _ => true

/-- A slice with rows behind it, in new memory or where the old ones are. -/
def grow (s : St) (t : RT) (old : List Nat) (l : List t.T) (k : AVal → St → Option R) : Option R :=
  cond (decide (l.length ≤ lim)) (k (.slice (some ⟨s.hp.length, t.sz, 0, 0⟩) .all .opn) { s with hp := kill s.hp old ++ [.rows false t l], dt := old ++ s.dt }) none

/-- Rows laid over those from a place on. -/
def over {α : Type} (l : List α) (o : Nat) (xs : List α) : List α := l.take o ++ (xs ++ l.drop (o + xs.length))

def append (s : St) (t : RT) (d x : AVal) (k : AVal → St → Option R) : Option R :=
  match appRows s.hp t x with
  | none => none
  | some (c, (xs, used)) =>
    cond c (match d with
      | .slice none (.n 0) _ => grow s t used xs k
      | .slice (some p) n cp => match srcRows s.hp t d, getB s.hp p.id with
        | some (c', l), .rows ro t' full => match cp with
          | .exact 0 => cond c' (grow s t used (l ++ xs) k) none
          | .opn => if ro then none else cond (c' && (Nat.beq p.rs t.sz && !used.any (· == p.id))) (grow s t (p.id :: used) (l ++ xs) k) none
          | .exact (m + 1) => cond c' (cond (decide (l.length + xs.length ≤ m + 1)) none (grow s t used (l ++ xs) k)) none
          | .atLeast m => if ro then none else
            if e : t' = t then
              cond (c' && (Nat.beq p.rs t.sz && (Nat.blt 0 m && !used.any (· == p.id)))) (cond (decide (l.length + xs.length ≤ m))
                (cond (decide (p.row + l.length + xs.length ≤ full.length))
                  (k (.slice (some p) (.n (l.length + xs.length)) (.atLeast m))
                    { s with hp := setB (kill s.hp used) p.id (.rows false t (over (e ▸ full) (p.row + l.length) xs)), dt := p.id :: (used ++ s.dt) }) none)
                (grow s t (p.id :: used) (l ++ xs) k)) none
            else none
        | _, _ => none
      | _ => none) none

def copyTo (s : St) (t : RT) (d x : AVal) (k : AVal → St → Option R) : Option R :=
  match d, srcRows s.hp t x with
  | .slice (some p) n _, some (c, xs) => match lenOf s.hp (some p) n with
    | none => none
    | some ln =>
    cond (c && decide (ln ≤ lim)) (match getB s.hp p.id with
      | .rows false t' l =>
        if e : t' = t then
          if p.rs = t.sz ∧ p.off = 0 then
            cond (decide (p.row + ln ≤ l.length))
              (k (.int .i64 (min xs.length ln : Nat)) { s with hp := setB s.hp p.id (.rows false t (over (e ▸ l) p.row (xs.take ln))), dt := p.id :: s.dt }) none
          else none
        else match t, xs with
          | .int kk, xs => match dropW (t'.enc (l.getD p.row t'.dft)) p.off with
            | some (.ai k' w ys :: _) =>
              if k' = kk ∧ p.rs = t'.sz then
                match (putW (t'.enc (l.getD p.row t'.dft)) p.off [.ai k' w (over ys 0 (xs.take ln))]).bind t'.dec with
                | some x => cond (decide (p.row < l.length) && decide (ln ≤ w))
                    (k (.int .i64 (min xs.length ln : Nat)) { s with hp := setB s.hp p.id (.rows false t' (l.set p.row x)), dt := p.id :: s.dt }) none
                | none => none
              else none
            | _ => none
          | _, _ => none
      | .cells cs => match t, xs with
        | .int kk, xs => match dropW cs (p.row * p.rs + p.off) with
          | some (.ai k' w ys :: _) =>
            if k' = kk then
              match putW cs (p.row * p.rs + p.off) [.ai k' w (over ys 0 (xs.take ln))] with
              | some cs => cond (decide (ln ≤ w)) (k (.int .i64 (min xs.length ln : Nat)) { s with hp := setB s.hp p.id (.cells cs), dt := p.id :: s.dt }) none
              | none => none
            else none
          | _ => none
        | _, _ => none
      | _ => none) none
  | _, _ => none

def exE (E : Env) (o : EOp) (f : Opd → AVal) (s : St) (k : AVal → St → Option R) : Option R :=
  match o with
  | .never => none
  | .store1 x v => match f x with
    | .ptr (some p) => cond (scalarB (f v)) (store s p [f v] k) none
    | _ => none
  | .storeN n x v => match f x, f v with
    | .ptr (some p), .agg l => if widths l = n then store s p l k else none
    | .ptr (some p), .ai kk m l => if m = n then store s p [.ai kk m l] k else none
    | _, _ => none
  | .append t d x => append s t (f d) (f x) k
  | .copy t d x => copyTo s t (f d) (f x) k
  | .upd kt vt m x y => match f m with
    | .map (some r) => match getB s.hp r with
      | .mp k' v' l => match k'.decV (f x), v'.decV (f y) with
        | some a, some b => if k' = kt ∧ v' = vt then k (.tup []) { s with hp := setB s.hp r (.mp k' v' (mset l a b)), dt := r :: s.dt } else none
        | _, _ => none
      | _ => none
    | _ => none
  | .del kt vt m x => match f m with
    | .map (some r) => match getB s.hp r with
      | .mp k' v' l => match k'.decV (f x) with
        | some a => if k' = kt ∧ v' = vt then k (.tup []) { s with hp := setB s.hp r (.mp k' v' (mdel l a)), dt := r :: s.dt } else none
        | _ => none
      | _ => none
    | _ => none
  | .clr rt m => match rt, f m with
    | none, .map (some r) => match getB s.hp r with
      | .mp k' v' _ => k (.tup []) { s with hp := setB s.hp r (.mp k' v' []), dt := r :: s.dt }
      | _ => none
    | some t', .slice (some p) n _ => match getB s.hp p.id, lenOf s.hp (some p) n with
      | .rows false t l, some ln =>
        if t' = t ∧ p.rs = t.sz ∧ p.off = 0 then
          cond (decide (p.row + ln ≤ l.length))
            (k (.tup []) { s with hp := setB s.hp p.id (.rows false t (over l p.row (List.replicate ln t.dft))), dt := p.id :: s.dt }) none
        else none
      | _, _ => none
    | _, _ => none
  | .call g args => match f g with
    | .fn (.func i) a b => E.call i R (a ++ (args.map f ++ b)) s.hp fun v h d => k v { s with hp := h, dt := d ++ s.dt }
    | _ => none

/-! ### Regions -/
def gdel (gs : List GV) (n : Nat) : List GV := gs.filter fun x => !(x.n == n)
def setT (s : St) (n : Nat) (b : Bool) : St := { s with tm := tset s.tm n (.bool b) }
def setO (s : St) (c : Opd) (b : Bool) : St :=
  match c with
  | .t n => setT s n b
  | .c _ => s

/-- The ways of a guard. -/
def split (gs : List GV) (s : St) : Nat → Nat → Bool → (List GV → St → Option R) → (List GV → St → Option R) → Option R
  | 0, _, _, _, _ => none
  | d + 1, g, w, yes, no => match gfind gs g with
    | none => match tget s.tm g with
      | .bool b => cond b (cond w (yes gs (setT s g true)) (no gs (setT s g true))) (cond w (no gs (setT s g false)) (yes gs (setT s g false)))
      | .tup [] => no gs s
      | _ => none
    | some x => split gs s d x.g x.w
        (fun gs s => match x.v with
          | .bool b => cond b (cond w (yes (gdel gs g) (setT s g true)) (no (gdel gs g) (setT s g true))) (cond w (no (gdel gs g) (setT s g false)) (yes (gdel gs g) (setT s g false)))
          | _ => none)
        (fun gs s => no (gdel gs g) { s with tm := tset s.tm g (.tup []) })

/-- An operation that makes or changes memory. -/
def exNE (E : Env) (o : AOp) (f : Opd → AVal) (s : St) (k : AVal → St → Option R) : Option R :=
  match o with
  | .n o => match exN o f s.hp.length with
    | some (c, (v, b)) => cond c (k v { s with hp := s.hp ++ [b] }) none
    | none => none
  | .e o => exE E o f s k
  | .r _ => none

/-- May a temporary be written: it is there, and no guard hangs on it. -/
def freshT (gs : List GV) (s : St) (g : Option (Nat × Bool)) : Option Nat → Bool
  | none => true
  | some d => Nat.blt d s.tm.length && (gs.all (fun x => !(x.n == d) && !(x.g == d)) && match g with | some (t, _) => !(t == d) | none => true)

/-- Under a guard that may not hold a value may be lacking. -/
def exRg (g : Option (Nat × Bool)) (o : ROp) (f : Opd → AVal) (fp : Opd → Bool → Opd → AVal) (h : Heap) : Option (Bool × AVal) :=
  match exR o f fp h with
  | some p => some p
  | none => match g with
    | none => none
    | some _ => some (false, .unk)
/-- One operation, its guard heeded. -/
def exOper (o : AOper) (run : List GV → St → (AVal → St → Option R) → Option R) (gs : List GV) (s : St) (k : List GV → St → Option R) : Option R :=
  match freshT gs s o.guard o.dst with
  | false => none
  | true => match o.op with
    | .r op => match exRg o.guard op (evG gs o.guard s) (evP gs o.guard s) s.hp with
      | none => none
      | some (c, v) => match o.guard with
        | none => cond c (k gs (s.put o.dst v)) none
        | some (g, w) => match guardB gs s 4 g w, o.dst with
          | some y, some d => cond (c || !y) (k (⟨d, g, w, v⟩ :: gs) (s.put o.dst .unk)) none
          | _, _ => none
    | _ => match o.guard with
      | none => run gs s fun v s => k gs (s.put o.dst v)
      | some (g, w) => split gs s 4 g w (fun gs s => run gs s fun v s => k gs (s.put o.dst v)) (fun gs s => k gs (s.put o.dst (.tup [])))

def exOps (E : Env) : List AOper → List GV → St → (List GV → St → Option R) → Option R
  | [], gs, s, k => k gs s
  | o :: os, gs, s, k => exOper o (fun gs s k => exNE E o.op (evG gs o.guard s) s k) gs s fun gs s => exOps E os gs s k

/-- Do no blocks that were read by what may still be held back lie among those that were changed? -/
def lateOk (ns : List (Nat × List Nat)) (forced dt : List Nat) : Bool :=
  ns.all fun x => forced.any (· == x.1) || x.2.all fun i => dt.all fun j => !(i == j)

def exD (E : Env) : List DOper → List (Nat × List Nat) → List GV → St → (List GV → St → Option R) → Option R
  | [], _, gs, s, k => k gs s
  | o :: os, ns, gs, s, k =>
    exOper o.o (fun gs s k => match o.o.op with
        | .e op => exE E op (evG gs o.o.guard s) { s with dt := [] } fun v s' => cond (lateOk ns o.forced s'.dt) (k v { s' with dt := s'.dt ++ s.dt }) none
        | op => exNE E op (evG gs o.o.guard s) s k) gs s fun gs' s' =>
      exD E os ((o.idx, match o.o.op with
        | .r op => rdR op (evG gs o.o.guard s)
        | .n _ => [s.hp.length]
        | .e _ => []) :: ns) gs' s' k

/-! ### Code -/
/-- Behind a region guarded values are of no more use. -/
def wipe : List GV → St → St
  | [], s => s
  | x :: l, s => wipe l { s with tm := tset s.tm x.n .unk }
/-! ### Blocks by other numbers; what nobody sees any more is left behind -/
def posN : List Nat → Nat → Nat → Option Nat
  | [], _, _ => none
  | x :: l, i, j => cond (Nat.beq x i) (some j) (posN l i (j + 1))
def renId (m : Nat) (ids : List Nat) (i : Nat) : Option Nat := cond (Nat.blt i m) (some i) (posN ids i m)
mutual
def renV (π : Nat → Option Nat) : AVal → AVal
  | .ptr (some p) => match π p.id with
    | some j => .ptr (some { p with id := j })
    | none => .unk
  | .slice (some p) n c => match π p.id with
    | some j => .slice (some { p with id := j }) n c
    | none => .unk
  | .map (some r) => match π r with
    | some j => .map (some j)
    | none => .unk
  | .fn f a b => .fn f (renVs π a) (renVs π b)
  | .ifc t v => .ifc t (renV π v)
  | .agg l => .agg (renVs π l)
  | .tup l => .tup (renVs π l)
  | v => v
def renVs (π : Nat → Option Nat) : List AVal → List AVal
  | [] => []
  | v :: l => renV π v :: renVs π l
end
/-- Rows that bear no pointers. -/
def RT.flat : RT → Bool
  | .rterm => false
  | _ => true
def renRow (π : Nat → Option Nat) (x : RTerml) : Option RTerml :=
  match x.set with
  | none => some x
  | some i => match π i with
    | some j => some { x with set := some j }
    | none => none
def renRows (π : Nat → Option Nat) : List RTerml → Option (List RTerml)
  | [] => some []
  | x :: l => match renRow π x, renRows π l with
    | some y, some m => some (y :: m)
    | _, _ => none
def renB (π : Nat → Option Nat) : Blk → Blk
  | .dead => .dead
  | .cells c => .cells (renVs π c)
  | .rows ro t l => match t, l with
    | .rterm, l => match renRows π l with
      | some l => .rows ro .rterm l
      | none => .dead
    | t, l => .rows ro t l
  | .mp k v l => cond (k.flat && v.flat) (.mp k v l) .dead
/-! Which blocks a value names. -/
mutual
def idsV : AVal → List Nat
  | .ptr (some p) => [p.id]
  | .slice (some p) _ _ => [p.id]
  | .map (some r) => [r]
  | .fn _ a b => idsVs a ++ idsVs b
  | .ifc _ v => idsV v
  | .agg l => idsVs l
  | .tup l => idsVs l
  | _ => []
def idsVs : List AVal → List Nat
  | [] => []
  | v :: l => idsV v ++ idsVs l
end
def idsRt : List RTerml → List Nat
  | [] => []
  | x :: l => match x.set with
    | some i => i :: idsRt l
    | none => idsRt l
def idsB : Blk → List Nat
  | .cells c => idsVs c
  | .rows _ t l => match t, l with
    | .rterm, l => idsRt l
    | _, _ => []
  | _ => []
def memN (i : Nat) : List Nat → Bool
  | [] => false
  | x :: l => cond (Nat.beq x i) true (memN i l)
/-- All blocks from a number on that are reached. -/
def reach (m : Nat) (h : Heap) : Nat → List Nat → List Nat → List Nat
  | 0, _, acc => acc
  | _, [], acc => acc
  | f + 1, i :: todo, acc => cond (Nat.blt i m || (memN i acc || !Nat.blt i h.length)) (reach m h f todo acc) (reach m h f (idsB (getB h i) ++ todo) (acc ++ [i]))
/-- Changed blocks of those that were there. -/
def chgd (m : Nat) : List Nat → List Nat → List Nat
  | [], acc => acc
  | i :: l, acc => cond (Nat.blt i m && !memN i acc) (chgd m l (acc ++ [i])) (chgd m l acc)
def idsBs (h : Heap) : List Nat → List Nat
  | [] => []
  | i :: l => idsB (getB h i) ++ idsBs h l
def idsT (tm : Tm) : List Nat → List Nat
  | [] => []
  | t :: l => idsV (tget tm t) ++ idsT tm l
def renT (π : Nat → Option Nat) (tm : Tm) : List Nat → Tr → Tr
  | [], r => r
  | t :: l, r => renT π tm l (r.set t (renV π (tget tm t)))
def renFirst (π : Nat → Option Nat) (m : Nat) (dt : List Nat) : Nat → Heap → Heap
  | _, [] => []
  | i, b :: h => cond (Nat.blt i m) (cond (memN i dt) (renB π b) b :: renFirst π m dt (i + 1) h) []
def renNew (π : Nat → Option Nat) (h : Heap) : List Nat → Heap
  | [] => []
  | i :: l => renB π (getB h i) :: renNew π h l
/-- The state with live temporaries alone, and with the blocks that they reach, in their order. -/
def canon (lv : List Nat) (s : St) : St :=
  (fun dt => (fun ids => ⟨⟨renT (renId s.tm.bs ids) s.tm lv .nil, s.tm.length, s.tm.bs⟩,
      renFirst (renId s.tm.bs ids) s.tm.bs dt 0 s.hp ++ renNew (renId s.tm.bs ids) s.hp ids, dt⟩)
    (reach s.tm.bs s.hp 100000 (idsT s.tm lv ++ idsBs s.hp dt) [])) (chgd s.tm.bs s.dt [])
/-- Only where something is named. -/
def canonI (lv : List Nat) (s : St) : St := match lv with
  | [] => s
  | x :: l => canon (x :: l) s
/-- Rounds, so many at most. -/
def iter (f : St → (AExit → St → Option R) → Option R) : Nat → St → (AExit → St → Option R) → Option R
  | 0, _, _ => none
  | n + 1, s, k => f s fun e s => match e with
    | .norm => iter f n s k
    | e => k e s
def exC (E : Env) : ACode → St → (AExit → St → Option R) → Option R
  | .skip, s, k => k .norm s
  | .reg ops, s, k => exOps E ops [] s fun gs s => k .norm (wipe gs s)
  | .dreg ops, s, k => exD E ops [] [] s fun gs s => k .norm (wipe gs s)
  | .seq a b, s, k => exC E a s fun e s => match e with
    | .norm => exC E b s k
    | e => k e s
  | .cond c a b, s, k => match ev s c with
    | .bool x => cond x (exC E a (setO s c true) k) (exC E b (setO s c false) k)
    | _ => none
  | .block id c, s, k => exC E c s fun e s => match e with
    | .exit i => cond (Nat.beq i id) (k .norm s) (k (.exit i) s)
    | e => k e s
  | .loop lv c, s, k => iter (fun s k => exC E c (canonI lv s) k) 1000000 s k
  | .cut lv, s, k => k .norm (canon lv s)
  | .frag id, s, k => E.frag id R s k
  | .exit id, s, k => k (.exit id) s
  | .ret, s, k => k .ret s
  | .stuck, _, _ => none

inductive ARes where
  | tmp (t : Nat)
  | cell1 (t : Nat)
  | cellN (t n : Nat)
def resV (s : St) : ARes → Option AVal
  | .tmp t => some (tget s.tm t)
  | .cell1 t => match tget s.tm t with
    | .ptr (some p) => match ld1 s.hp p with
      | some (true, v) => some v
      | _ => none
    | _ => none
  | .cellN t n => match tget s.tm t with
    | .ptr (some p) => match ldN s.hp p n with
      | some (true, v) => some v
      | _ => none
    | _ => none
def resVs (s : St) : List ARes → Option (List AVal)
  | [] => some []
  | r :: l => match resV s r, resVs s l with
    | some v, some vs => some (v :: vs)
    | _, _ => none
def one : List AVal → AVal
  | [v] => v
  | l => .tup l

def resTs : List ARes → List Nat
  | [] => []
  | .tmp t :: l => t :: resTs l
  | .cell1 t :: l => t :: resTs l
  | .cellN t _ :: l => t :: resTs l

structure AFunc where
  ntmps : Nat
  res : List ARes
  body : ACode

def exF (E : Env) (f : AFunc) (args : List AVal) (h : Heap) (k : AVal → Heap → List Nat → Option R) : Option R :=
  exC E f.body ⟨⟨argT 0 args .nil, args.length + (f.ntmps - args.length), h.length⟩, h, []⟩ fun e s => match e with
    | .exit _ => none
    | _ => (fun s => match resVs s f.res with
      | some vs => k (one vs) s.hp s.dt
      | none => none) (canon (resTs f.res) s)
end

end
end Go.Sx

/- How abstract values and heaps stand for the model's values and worlds. -/
set_option linter.unusedSimpArgs false
set_option linter.unusedVariables false
namespace Go.Sx

/-- Where an abstract block lies: the block, from where on, how many cells of it are its own. -/
structure Loc where
  blk : Nat
  base : Nat
  size : Nat
/-- Where the blocks lie (none: not yet in memory), how many rows they have, which bytes never change. -/
structure Inj where
  n : Nat
  loc : Nat → Option Loc
  rows : Nat → Nat
  imm : Nat → Nat → List Int → Prop
  dom : ∀ i, n ≤ i → loc i = none

def APtr.at (p : APtr) : Nat := p.row * p.rs + p.off
def Inj.addr (ρ : Inj) (p : APtr) : Option Addr := (ρ.loc p.id).map fun L => ⟨L.blk, L.base + (p.row * p.rs + p.off), none⟩
def Inj.len (ρ : Inj) (p : APtr) : SLen → Nat
  | .n k => k
  | .all => ρ.rows p.id - p.row
/-- May a slice of so many rows have such a capacity? -/
def Cap.fits (c : Cap) (n c' : Nat) : Prop :=
  match c with
  | .exact c => c' = c
  | .atLeast c => c ≤ c'
  | .opn => n ≤ c'
def Cap.tight : Cap → Bool
  | .exact _ => true
  | _ => false

def bytesI (s : ByteArray) : List Int := s.data.toList.map fun b => (b.toNat : Int)

mutual
inductive VR (ρ : Inj) : AVal → Value → Prop
  | unk (v : Value) : VR ρ .unk v
  | bool (b : Bool) : VR ρ (.bool b) (.bool b)
  | int {k : IntKind} {n : Int} (h : k.has n) : VR ρ (.int k n) (.int k n)
  | str {l : List Int} {s : ByteArray} (h : bytesI s = l) : VR ρ (.str l) (.string s)
  | nilp : VR ρ (.ptr none) (.pointer none)
  | ptr {p : APtr} {a : Addr} (h : ρ.addr p = some a) : VR ρ (.ptr (some p)) (.pointer (some a))
  | nils (c : Cap) (h : c.fits 0 0) : VR ρ (.slice none (.n 0) c) (.slice none 0 0)
  | slice0 {p : APtr} {n : SLen} {c : Cap} (a : Option Addr) (hp : p.id < ρ.n) (hn : ρ.len p n = 0) (hc : c.fits 0 0) : VR ρ (.slice (some p) n c) (.slice a 0 0)
  | slice {p : APtr} {n : SLen} {c : Cap} {L : Loc} {c' : Nat} (hl : ρ.loc p.id = some L) (hn : ρ.len p n ≤ c') (hc : c.fits (ρ.len p n) c')
      (hr : c.tight = false → p.off = 0 ∧ L.base + (p.row + c') * p.rs ≤ L.size) :
      VR ρ (.slice (some p) n c) (.slice (some ⟨L.blk, L.base + (p.row * p.rs + p.off), none⟩) (ρ.len p n) c')
  | fby0 (a : Option Addr) (c : Nat) : VR ρ (.fby []) (.slice a 0 c)
  | fby {b o : Nat} {l xs : List Int} {i c : Nat} (h : ρ.imm b o l) (hi : xs = (l.drop i).take xs.length) (hl : i + xs.length ≤ l.length) (hc : xs.length ≤ c) :
      VR ρ (.fby xs) (.slice (some ⟨b, o + i, none⟩) xs.length c)
  | fp {b o i : Nat} {l : List Int} {x : Int} (h : ρ.imm b o l) (hi : l[i]? = some x) : VR ρ (.fp x) (.pointer (some ⟨b, o + i, none⟩))
  | map0 : VR ρ (.map none) (.map none)
  | map {r : Nat} {L : Loc} (h : ρ.loc r = some L) : VR ρ (.map (some r)) (.map (some L.blk))
  | fn {f : Fn} {a b : List AVal} {a' b' : List Value} (h : VRs ρ a a') (h' : VRs ρ b b') : VR ρ (.fn f a b) (.func f a'.toArray b'.toArray)
  | nilFn : VR ρ .nilFn .nilFunc
  | ifc {t : TypeId} {v : AVal} {v' : Value} (h : VR ρ v v') : VR ρ (.ifc t v) (.iface t v')
  | err (t : TypeId) (v : Value) : VR ρ .err (.iface t v)
  | nilIfc : VR ρ .nilIfc .nilIface
  | ai {k : IntKind} {n : Nat} {l : List Int} (h : l.length = n) (hk : ∀ x ∈ l, k.has x) : VR ρ (.ai k n l) (.agg (l.map fun x => Value.int k x).toArray)
  | agg {l : List AVal} {l' : List Value} (h : CR ρ l l') : VR ρ (.agg l) (.agg l'.toArray)
  | tup {l : List AVal} {l' : List Value} (h : VRs ρ l l') : VR ρ (.tup l) (.tuple l'.toArray)
inductive VRs (ρ : Inj) : List AVal → List Value → Prop
  | nil : VRs ρ [] []
  | cons {v : AVal} {v' : Value} {l : List AVal} {l' : List Value} (h : VR ρ v v') (t : VRs ρ l l') : VRs ρ (v :: l) (v' :: l')
/-- Cells: a wide cell stands for several. -/
inductive CR (ρ : Inj) : List AVal → List Value → Prop
  | nil : CR ρ [] []
  | one {v : AVal} {v' : Value} {l : List AVal} {l' : List Value} (h : VR ρ v v') (hs : v'.oneCell' = true) (hw : v.w = 1) (t : CR ρ l l') : CR ρ (v :: l) (v' :: l')
  | wide {k : IntKind} {n : Nat} {xs : List Int} {l : List AVal} {l' : List Value} (h : xs.length = n) (hk : ∀ x ∈ xs, k.has x) (t : CR ρ l l') :
      CR ρ (.ai k n xs :: l) (xs.map (fun x => Value.int k x) ++ l')
end

/-- A growing injection: more blocks, or blocks that come into memory. -/
structure Inj.ext (ρ ρ' : Inj) : Prop where
  n : ρ.n ≤ ρ'.n
  loc : ∀ i L, ρ.loc i = some L → ρ'.loc i = some L
  rows : ∀ i, i < ρ.n → ρ'.rows i = ρ.rows i
  imm : ∀ b o l, ρ.imm b o l → ρ'.imm b o l
/-- One that says just the same of the blocks that were there. -/
structure Inj.le (ρ ρ' : Inj) (n : Nat) : Prop where
  loc : ∀ i, i < n → ρ'.loc i = ρ.loc i
  rows : ∀ i, i < n → ρ'.rows i = ρ.rows i
  imm : ∀ b o l, ρ.imm b o l → ρ'.imm b o l

/-- Do cells lie in memory? -/
def Lies (w : World) (b o : Nat) (l : List Value) : Prop := ∀ i v, l[i]? = some v → w.cell? ⟨b, o + i, none⟩ = some v
/-- Cells that may be written. -/
def Free (w : World) (b n : Nat) : Prop := ∀ o, o < n → (w.cell? ⟨b, o, none⟩).isSome ∧ w.frozen? ⟨b, o, none⟩ = false

def Blk.live : Blk → Bool
  | .dead => false
  | _ => true
def Blk.rw : Blk → Bool
  | .dead => false
  | .rows ro _ _ => !ro
  | _ => true

/-- A value's form: a struct or array, or of one cell. -/
def Shp (a : Bool) (v : Value) : Prop := (a = true → ∃ c, v = .agg c) ∧ (a = false → v.oneCell' = true)
inductive MR (ρ : Inj) (k v : RT) : List (k.T × v.T) → List MapEntry → Prop
  | nil : MR ρ k v [] []
  | cons {x : k.T} {y : v.T} {l : List (k.T × v.T)} {l' : List MapEntry} {e : MapEntry} (hk : CR ρ (k.enc x) e.key.cells.toList) (hv : CR ρ (v.enc y) e.val.cells.toList)
      (ha : Shp k.isA e.key) (hb : Shp v.isA e.val) (t : MR ρ k v l l') : MR ρ k v ((x, y) :: l) (e :: l')

/-- How a block stands in memory. -/
def BR (ρ : Inj) (w : World) (id : Nat) : Blk → Prop
  | .dead => True
  | .cells c => ∀ L, ρ.loc id = some L → ∃ l', L.base = 0 ∧ CR ρ c l' ∧ Lies w L.blk 0 l' ∧ l'.length ≤ L.size ∧ Free w L.blk L.size ∧ L.blk < w.heap.size
  | .rows ro t l => l.length = ρ.rows id ∧ ∀ L, ρ.loc id = some L →
      (∀ i x, l[i]? = some x → ∃ l', CR ρ (t.enc x) l' ∧ Lies w L.blk (L.base + i * t.sz) l') ∧ L.blk < w.heap.size ∧
      (ro = false → L.base + l.length * t.sz ≤ L.size ∧ Free w L.blk L.size)
  | .mp k v l => ∀ L, ρ.loc id = some L → ∃ es clock, w.heap[L.blk]? = some (.map es clock) ∧ MR ρ k v l es.toList ∧ ∀ e ∈ es.toList, e.born < clock

/-- The memory that the program began with, and what of it is held. -/
structure Base where
  w : World
  n : Nat

structure Sim (B : Base) (ρ : Inj) (h : Heap) (w : World) : Prop where
  n : ρ.n = h.length
  blk : ∀ id b, h[id]? = some b → BR ρ w id b
  sep : ∀ i j bi bj Li Lj, h[i]? = some bi → h[j]? = some bj → i ≠ j → bi.live = true → bj.live = true → bi.rw = true → ρ.loc i = some Li → ρ.loc j = some Lj → Li.blk ≠ Lj.blk
  imm : ∀ b o l, ρ.imm b o l → b < w.heap.size ∧ (∀ x ∈ l, IntKind.u8.has x) ∧ Lies w b o (l.map fun x => Value.int .u8 x) ∧
    ∀ i bi Li, h[i]? = some bi → bi.rw = true → ρ.loc i = some Li → Li.blk ≠ b
  base : ∀ b, b < B.n → w.heap[b]? = B.w.heap[b]?
  above : ∀ i bi Li, h[i]? = some bi → bi.rw = true → ρ.loc i = some Li → B.n ≤ Li.blk
  bsize : B.n ≤ w.heap.size

/-- What a run may do to the world: to what its blocks own, and to new memory. -/
structure Frm (ρ : Inj) (h : Heap) (w : World) (ρ' : Inj) (h' : Heap) (w' : World) : Prop where
  len : h.length ≤ h'.length
  le : ρ.le ρ' h.length
  size : w.heap.size ≤ w'.heap.size
  same : ∀ b, b < w.heap.size → (∀ i bi Li, h[i]? = some bi → bi.rw = true → ρ.loc i = some Li → Li.blk ≠ b) → w'.heap[b]? = w.heap[b]?
  own : ∀ i bi Li, h'[i]? = some bi → bi.rw = true → ρ'.loc i = some Li → w.heap.size ≤ Li.blk ∨ ∃ j bj Lj, h[j]? = some bj ∧ bj.rw = true ∧ ρ.loc j = some Lj ∧ Lj.blk = Li.blk
  tape : w'.tape = w.tape
  os : w'.os = w.os
  output : w'.output = w.output

end Go.Sx

/- Cells and what is read of them. -/
set_option linter.unusedSimpArgs false
set_option linter.unusedVariables false
namespace Go.Sx

theorem addr_add (b o i : Nat) : (⟨b, o, none⟩ : Addr).add i = ⟨b, o + i, none⟩ := by
  unfold Addr.add; split <;> simp_all

theorem VR.cells_scalar {v : Value} (h : v.oneCell' = true) : v.cells = #[v] := by
  cases v <;> simp_all [Value.cells, Value.oneCell']

section
variable {ρ : Inj}

theorem CR.width {l : List AVal} : ∀ {l' : List Value}, CR ρ l l' → l'.length = widths l := by
  induction l with
  | nil => intro l' h; cases h; rfl
  | cons v l ih =>
    intro l' h
    cases h with
    | one h hs hw t => simp [widths, hw, ih t]; omega
    | wide h hk t => simp [widths, AVal.w, ih t, h]

theorem CR.scalars {l : List AVal} : ∀ {l' : List Value}, CR ρ l l' → ∀ v ∈ l', v.oneCell' = true := by
  induction l with
  | nil => intro l' h; cases h; simp
  | cons v l ih =>
    intro l' h
    cases h with
    | one h hs hw t =>
      intro u hu
      rcases List.mem_cons.1 hu with rfl | hu
      · exact hs
      · exact ih t u hu
    | wide h hk t =>
      intro u hu
      rcases List.mem_append.1 hu with hu | hu
      · obtain ⟨x, _, rfl⟩ := List.mem_map.1 hu; rfl
      · exact ih t u hu

theorem CR.append {a b : List AVal} : ∀ {a' b' : List Value}, CR ρ a a' → CR ρ b b' → CR ρ (a ++ b) (a' ++ b') := by
  induction a with
  | nil => intro a' b' h h'; cases h; simpa using h'
  | cons v l ih =>
    intro a' b' h h'
    cases h with
    | one h hs hw t => exact .one h hs hw (ih t h')
    | wide h hk t =>
      have := CR.wide (ρ := ρ) h hk (ih t h')
      simpa [List.append_assoc] using this

theorem ai_w1 {v : AVal} (h : v.w = 1) (hn : ∀ k n l, v ≠ .ai k n l) : True := trivial

theorem cellAt_CR {l : List AVal} : ∀ {l' : List Value} {o : Nat} {v : AVal}, CR ρ l l' → cellAt l o = some v → ∃ v', l'[o]? = some v' ∧ VR ρ v v' ∧ v'.oneCell' = true := by
  induction l with
  | nil => intro l' o v h hc; simp [cellAt] at hc
  | cons u l ih =>
    intro l' o v h hc
    cases h with
    | wide hn hk t =>
      rename_i k n xs l'
      simp only [cellAt] at hc
      split at hc
      · rename_i hlt
        cases hc
        have hlt' : o < xs.length := by omega
        refine ⟨.int k xs[o], ?_, ?_, rfl⟩
        · rw [List.getElem?_append_left (by simpa using hlt')]; simp [hlt']
        · have : xs.getD o 0 = xs[o] := by simp [hlt']
          rw [this]
          exact .int (hk _ (List.getElem_mem hlt'))
      · rename_i hge
        obtain ⟨v', h1, h2, h3⟩ := ih t hc
        refine ⟨v', ?_, h2, h3⟩
        rw [List.getElem?_append_right (by simp; omega)]
        simpa [hn] using h1
    | one hv hs hw t =>
      rename_i u' l'
      unfold cellAt at hc
      split at hc
      · rename_i k n xs
        cases hv
        simp [Value.oneCell'] at hs
      · split at hc
        · cases hc; exact ⟨u', rfl, hv, hs⟩
        · obtain ⟨v', h1, h2, h3⟩ := ih t hc
          exact ⟨v', by simpa using h1, h2, h3⟩

theorem dropW_CR {l : List AVal} : ∀ {l' : List Value} {o : Nat} {d : List AVal}, CR ρ l l' → dropW l o = some d → o ≤ l'.length ∧ CR ρ d (l'.drop o) := by
  induction l with
  | nil =>
    intro l' o d h hd
    cases h
    cases o with
    | zero => simp [dropW] at hd; subst hd; exact ⟨Nat.le_refl _, .nil⟩
    | succ o => simp [dropW] at hd
  | cons u l ih =>
    intro l' o d h hd
    cases o with
    | zero => simp [dropW] at hd; subst hd; exact ⟨Nat.zero_le _, by simpa using h⟩
    | succ o =>
      simp only [dropW] at hd
      split at hd
      · rename_i hw
        cases h with
        | one hv hs hw1 t =>
          rw [hw1] at hd
          obtain ⟨h1, h2⟩ := ih t hd
          exact ⟨by simp; omega, by simpa using h2⟩
        | wide hn hk t =>
          rename_i k n xs l'
          simp only [AVal.w] at hd hw
          obtain ⟨h1, h2⟩ := ih t hd
          refine ⟨by simp; omega, ?_⟩
          rw [List.drop_append]
          simp only [List.length_map, hn]
          rw [List.drop_eq_nil_of_le (by simp; omega)]
          simpa using h2
      · contradiction

theorem takeW_CR {l : List AVal} : ∀ {l' : List Value} {n : Nat} {d : List AVal}, CR ρ l l' → takeW l n = some d → n ≤ l'.length ∧ CR ρ d (l'.take n) := by
  induction l with
  | nil =>
    intro l' n d h hd
    cases h
    cases n with
    | zero => simp [takeW] at hd; subst hd; exact ⟨Nat.le_refl _, .nil⟩
    | succ o => simp [takeW] at hd
  | cons u l ih =>
    intro l' n d h hd
    cases n with
    | zero => simp [takeW] at hd; subst hd; exact ⟨Nat.zero_le _, by simpa using CR.nil⟩
    | succ n =>
      simp only [takeW] at hd
      split at hd
      · rename_i hw
        obtain ⟨d', hd', rfl⟩ := Option.map_eq_some_iff.1 hd
        cases h with
        | one hv hs hw1 t =>
          rw [hw1] at hd'
          obtain ⟨h1, h2⟩ := ih t hd'
          exact ⟨by simp; omega, by simpa using CR.one hv hs hw1 h2⟩
        | wide hn hk t =>
          rename_i k m xs l'
          simp only [AVal.w] at hd' hw
          obtain ⟨h1, h2⟩ := ih t hd'
          refine ⟨by simp; omega, ?_⟩
          rw [List.take_append]
          simp only [List.length_map, hn]
          rw [List.take_of_length_le (by simp; omega)]
          exact .wide hn hk h2
      · contradiction

theorem aggOf_VR {l : List AVal} {l' : List Value} (h : CR ρ l l') : VR ρ (aggOf l) (.agg l'.toArray) := by
  unfold aggOf
  split
  · cases h with
    | one hv hs hw t => cases hv; simp [Value.oneCell'] at hs
    | wide hn hk t =>
      cases t
      simpa using VR.ai hn hk
  · exact .agg h

/-- A value's cells. -/
theorem VR.cs {v : AVal} {v' : Value} (h : VR ρ v v') (hu : v ≠ .unk) (ht : ∀ l, v ≠ .tup l) : CR ρ v.cs v'.cells.toList := by
  cases h with
  | unk => exact (hu rfl).elim
  | tup => exact (ht _ rfl).elim
  | agg h => simpa [AVal.cs, Value.cells] using h
  | ai h hk => simpa [AVal.cs, Value.cells] using CR.wide (ρ := ρ) h hk .nil
  | bool b => exact .one (.bool b) rfl rfl .nil
  | int h => exact .one (.int h) rfl rfl .nil
  | str h => exact .one (.str h) rfl rfl .nil
  | nilp => exact .one .nilp rfl rfl .nil
  | ptr h => exact .one (.ptr h) rfl rfl .nil
  | nils c h => exact .one (.nils c h) rfl rfl .nil
  | slice0 a hp hn hc => exact .one (.slice0 a hp hn hc) rfl rfl .nil
  | slice hl hn hc hr => exact .one (.slice hl hn hc hr) rfl rfl .nil
  | fby0 a c => exact .one (.fby0 a c) rfl rfl .nil
  | fby h hi hl hc => exact .one (.fby h hi hl hc) rfl rfl .nil
  | fp h hi => exact .one (.fp h hi) rfl rfl .nil
  | map0 => exact .one .map0 rfl rfl .nil
  | map h => exact .one (.map h) rfl rfl .nil
  | fn h h' => exact .one (.fn h h') rfl rfl .nil
  | nilFn => exact .one .nilFn rfl rfl .nil
  | ifc h => exact .one (.ifc h) rfl rfl .nil
  | err t v => exact .one (.err t v) rfl rfl .nil
  | nilIfc => exact .one .nilIfc rfl rfl .nil

theorem putW_CR {l vs r : List AVal} {l' vs' : List Value} {o : Nat} (h : CR ρ l l') (hv : CR ρ vs vs') (hp : putW l o vs = some r) :
    o + vs'.length ≤ l'.length ∧ CR ρ r (l'.take o ++ (vs' ++ l'.drop (o + vs'.length))) := by
  unfold putW at hp
  split at hp
  · rename_i a b ha hb
    obtain ⟨c, hc, rfl⟩ := Option.map_eq_some_iff.1 hp
    obtain ⟨h1, h2⟩ := takeW_CR h ha
    obtain ⟨h3, h4⟩ := dropW_CR h hb
    obtain ⟨h5, h6⟩ := dropW_CR h4 hc
    rw [← hv.width] at h5 h6
    simp at h5
    refine ⟨by omega, ?_⟩
    rw [List.drop_drop] at h6
    exact h2.append (hv.append h6)
  · contradiction

theorem VRs.length {l : List AVal} : ∀ {l' : List Value}, VRs ρ l l' → l'.length = l.length := by
  induction l with
  | nil => intro l' h; cases h; rfl
  | cons v l ih => intro l' h; cases h with | cons h t => simp [ih t]

theorem VRs.get {l : List AVal} : ∀ {l' : List Value} {i : Nat} {v : AVal}, VRs ρ l l' → l[i]? = some v → ∃ v', l'[i]? = some v' ∧ VR ρ v v' := by
  induction l with
  | nil => intro l' i v h hi; simp at hi
  | cons u l ih =>
    intro l' i v h hi
    cases h with
    | cons h t =>
      cases i with
      | zero => simp at hi; subst hi; exact ⟨_, rfl, h⟩
      | succ i =>
        obtain ⟨v', h1, h2⟩ := ih (i := i) t (by simpa using hi)
        exact ⟨v', by simpa using h1, h2⟩

theorem VRs.append {a b : List AVal} : ∀ {a' b' : List Value}, VRs ρ a a' → VRs ρ b b' → VRs ρ (a ++ b) (a' ++ b') := by
  induction a with
  | nil => intro a' b' h h'; cases h; simpa using h'
  | cons v l ih => intro a' b' h h'; cases h with | cons h t => exact .cons h (ih t h')

end

/-! ### Reading -/
theorem getB_some {h : Heap} : ∀ {id : Nat} {b : Blk}, getB h id = b → b.live = true → h[id]? = some b := by
  induction h with
  | nil => intro id b hb hl; simp [getB] at hb; subst hb; simp [Blk.live] at hl
  | cons x h ih =>
    intro id b hb hl
    cases id with
    | zero => simp [getB] at hb; simp [hb]
    | succ id => simpa using ih (by simpa [getB] using hb) hl

section
variable {B : Base} {ρ : Inj} {h : Heap} {w : World}

theorem Lies.sub {b o : Nat} {l : List Value} (hl : Lies w b o l) (k n : Nat) : Lies w b (o + k) ((l.drop k).take n) := by
  intro i v hi
  have : l[k + i]? = some v := by
    rw [List.getElem?_take] at hi
    split at hi
    · simpa using hi
    · contradiction
  have := hl (k + i) v this
  rwa [← Nat.add_assoc] at this

theorem ld1_sound (S : Sim B ρ h w) {p : APtr} {a : Addr} (ha : ρ.addr p = some a) {c : Bool} {v : AVal} (hl : ld1 h p = some (c, v)) (hc : c = true) :
    ∃ v', w.cell? a = some v' ∧ VR ρ v v' ∧ v'.oneCell' = true := by
  unfold ld1 at hl
  unfold Inj.addr at ha
  obtain ⟨L, hL, rfl⟩ := Option.map_eq_some_iff.1 ha
  split at hl
  · rename_i cs hb
    obtain ⟨x, hx, he⟩ := Option.map_eq_some_iff.1 hl
    cases he
    obtain ⟨l', h2, h3, h4, _⟩ := S.blk _ _ (getB_some hb rfl) L hL
    obtain ⟨v', h5, h6, h7⟩ := cellAt_CR h3 hx
    refine ⟨v', ?_, h6, h7⟩
    have := h4 _ _ h5
    simpa [h2] using this
  · rename_i ro t l hb
    split at hl
    · rename_i hrs
      obtain ⟨x, hx, he⟩ := Option.map_eq_some_iff.1 hl
      cases he
      have hlt : p.row < l.length := by simpa using hc
      obtain ⟨h1, h2⟩ := S.blk _ _ (getB_some hb rfl)
      obtain ⟨h3, _⟩ := h2 L hL
      obtain ⟨l', h4, h5⟩ := h3 p.row l[p.row] (by simp [hlt])
      have hg : l.getD p.row t.dft = l[p.row] := by simp [hlt]
      rw [hg] at hx
      obtain ⟨v', h6, h7, h8⟩ := cellAt_CR h4 hx
      refine ⟨v', ?_, h7, h8⟩
      have := h5 _ _ h6
      rw [hrs]
      rwa [Nat.add_assoc] at this
    · contradiction
  · contradiction

theorem ldN_sound (S : Sim B ρ h w) {p : APtr} {a : Addr} (ha : ρ.addr p = some a) {c : Bool} {v : AVal} {n : Nat} (hl : ldN h p n = some (c, v)) (hc : c = true) :
    ∃ l' : List Value, l'.length = n ∧ (∀ i u, l'[i]? = some u → w.cell? (a.add i) = some u) ∧ VR ρ v (.agg l'.toArray) := by
  have hadd : ∀ (b o i : Nat), (⟨b, o, none⟩ : Addr).add i = ⟨b, o + i, none⟩ := by
    intro b o i; unfold Addr.add; split <;> simp_all
  unfold ldN at hl
  unfold Inj.addr at ha
  obtain ⟨L, hL, rfl⟩ := Option.map_eq_some_iff.1 ha
  split at hl
  · rename_i cs hb
    obtain ⟨x, hx, he⟩ := Option.map_eq_some_iff.1 hl
    cases he
    obtain ⟨d, hd, ht⟩ := Option.bind_eq_some_iff.1 hx
    obtain ⟨l', h2, h3, h4, _⟩ := S.blk _ _ (getB_some hb rfl) L hL
    obtain ⟨g1, g2⟩ := dropW_CR h3 hd
    obtain ⟨g3, g4⟩ := takeW_CR g2 ht
    refine ⟨_, by simp at g3 ⊢; omega, ?_, aggOf_VR g4⟩
    intro i u hi
    rw [hadd, h2]
    have := h4.sub (p.row * p.rs + p.off) n i u hi
    simpa using this
  · rename_i ro t l hb
    split at hl
    · rename_i hrs
      obtain ⟨x, hx, he⟩ := Option.map_eq_some_iff.1 hl
      cases he
      obtain ⟨d, hd, ht⟩ := Option.bind_eq_some_iff.1 hx
      have hlt : p.row < l.length := by simpa using hc
      obtain ⟨h1, h2⟩ := S.blk _ _ (getB_some hb rfl)
      obtain ⟨h3, _⟩ := h2 L hL
      obtain ⟨l', h4, h5⟩ := h3 p.row l[p.row] (by simp [hlt])
      have hg : l.getD p.row t.dft = l[p.row] := by simp [hlt]
      rw [hg] at hd
      obtain ⟨g1, g2⟩ := dropW_CR h4 hd
      obtain ⟨g3, g4⟩ := takeW_CR g2 ht
      refine ⟨_, by simp at g3 ⊢; omega, ?_, aggOf_VR g4⟩
      intro i u hi
      rw [hadd, hrs]
      have := h5.sub p.off n i u hi
      rwa [Nat.add_assoc L.base] at this
    · contradiction
  · contradiction

end
end Go.Sx

/- From the model's operations to the evaluator's. -/
set_option linter.unusedSimpArgs false
set_option linter.unusedVariables false
namespace Go.Sx

/-- A constant of one cell. -/
def aval1 : Value → Option AVal
  | .bool b => some (.bool b)
  | .int k n => if k.min ≤ n ∧ n ≤ k.max then some (.int k n) else none
  | .string s => some (.str (bytesI s))
  | .pointer none => some (.ptr none)
  | .slice none 0 0 => some (.slice none (.n 0) (.exact 0))
  | .map none => some (.map none)
  | .nilFunc => some .nilFn
  | .nilIface => some .nilIfc
  | .func f a b => if a.size = 0 ∧ b.size = 0 then some (.fn f [] []) else none
  | _ => none
def aval1s : List Value → Option (List AVal)
  | [] => some []
  | v :: l => match aval1 v, aval1s l with
    | some a, some b => some (a :: b)
    | _, _ => none
def aval : Value → Option AVal
  | .agg cs => (aval1s cs.toList).map .agg
  | v => aval1 v

theorem aval1_VR {ρ : Inj} {v : Value} {a : AVal} (h : aval1 v = some a) : VR ρ a v ∧ v.oneCell' = true ∧ a.w = 1 := by
  unfold aval1 at h
  split at h <;> first
    | (cases h; exact ⟨by first | exact .bool _ | exact .str rfl | exact .nilp | exact .nils _ rfl | exact .map0 | exact .nilFn | exact .nilIfc, rfl, rfl⟩)
    | (split at h
       · rename_i hh; cases h
         first
           | exact ⟨.int hh, rfl, rfl⟩
           | (obtain ⟨h1, h2⟩ := hh
              rename_i f a b
              have ha : a = [].toArray := Array.eq_empty_of_size_eq_zero h1
              have hb : b = [].toArray := Array.eq_empty_of_size_eq_zero h2
              subst ha; subst hb
              exact ⟨.fn .nil .nil, rfl, rfl⟩)
       · contradiction)
    | contradiction
theorem aval1s_CR {ρ : Inj} : ∀ {l : List Value} {a : List AVal}, aval1s l = some a → CR ρ a l
  | [], a, h => by cases h; exact .nil
  | v :: l, a, h => by
    unfold aval1s at h
    split at h
    · rename_i x y hx hy
      cases h
      obtain ⟨h1, h2, h3⟩ := aval1_VR (ρ := ρ) hx
      exact .one h1 h2 h3 (aval1s_CR hy)
    · contradiction
theorem aval_VR {ρ : Inj} {v : Value} {a : AVal} (h : aval v = some a) : VR ρ a v := by
  unfold aval at h
  split at h
  · rename_i cs
    obtain ⟨l, hl, rfl⟩ := Option.map_eq_some_iff.1 h
    have := VR.agg (aval1s_CR (ρ := ρ) hl)
    simpa using this
  · exact (aval1_VR h).1

def compOpd : Operand → Option Opd
  | .tmp t => some (.t t)
  | .const v => (aval v).map .c
  | .func f => some (.c (.fn (.func f) [] []))
  | .global _ => none
def compOpds : List Operand → Option (List Opd)
  | [] => some []
  | x :: l => match compOpd x, compOpds l with
    | some a, some b => some (a :: b)
    | _, _ => none
def compOpt : Option Operand → Option (Option Opd)
  | none => some none
  | some x => (compOpd x).map some

def aggD : TypeDesc → Bool
  | .struct _ | .array _ _ => true
  | _ => false
/-- A type's size in cells, whether it is a struct or an array. -/
def ty (P : Program) (t : TypeId) : Option (Nat × Bool) :=
  match P.info? t, P.underlying t with
  | some i, some d => some (i.size, aggD d)
  | _, _ => none
def sz? (P : Program) (t : TypeId) : Option Nat := (P.info? t).map (·.size)

/-- Fields one behind the other: the kinds of their cells. -/
def flatFs (P : Program) (g : TypeId → Option (List CK)) : Nat → List Field → Option (List CK)
  | _, [] => some []
  | acc, f :: fs => match g f.type with
    | some z => if f.name ≠ "_" ∧ f.offset = acc ∧ sz? P f.type = some z.length then (flatFs P g (acc + z.length) fs).map (z ++ ·) else none
    | none => none
/-- The kinds of the cells of a type whose parts are all numbers, bools, strings. -/
def flatKs (P : Program) : Nat → TypeId → Option (List CK)
  | 0, _ => none
  | d + 1, t => match P.underlying t with
    | some (.int k) => some [.i k]
    | some .bool => some [.b]
    | some .string => some [.s]
    | some (.struct fs) => if P.stoodInHeld t then none else flatFs P (flatKs P d) 0 fs.toList
    | some (.array n e) => match flatKs P d e with
      | some z => if sz? P e = some z.length then some (List.replicate n z).flatten else none
      | none => none
    | _ => none
/-- May values of a type be held against one another? -/
def flatT (P : Program) (d : Nat) (t : TypeId) : Option (List CK) := if P.eqGuardType P.depth t then none else flatKs P d t

def arithOf : BinOp → Option Arith
  | .add => some .add | .sub => some .sub | .mul => some .mul | .quo => some .quo | .rem => some .rem
  | .and => some .and | .or => some .or | .xor => some .xor | .andNot => some .andNot | .shl => some .shl | .shr => some .shr
  | _ => none
def cmpOf : BinOp → Option Cmp
  | .eql => some .eql | .neq => some .neq | .lss => some .lss | .leq => some .leq | .gtr => some .gtr | .geq => some .geq
  | _ => none

/-- Where parts of a struct or an array lie, and their sizes. -/
def compParts (P : Program) (place : Nat → Option (Nat × Nat)) : List (Nat × Operand) → Option (List (Nat × (Nat × Opd)))
  | [] => some []
  | (i, x) :: l => match place i, compOpd x, compParts P place l with
    | some (o, n), some x, some ps => some ((o, (n, x)) :: ps)
    | _, _, _ => none
/-- The cells of a type's zero value; great arrays of numbers are one wide cell. -/
def zeroW (P : Program) : Nat → TypeId → Option (List AVal)
  | 0, _ => none
  | d + 1, t => match P.underlying t with
    | some (.struct fs) => fs.toList.foldl (fun acc f => match acc, zeroW P d f.type with | some a, some b => some (a ++ b) | _, _ => none) (some [])
    | some (.array n e) => match P.underlying e with
      | some (.int k) => if 16 ≤ n then some [.ai k n (List.replicate n 0)] else some (List.replicate n (.int k 0))
      | _ => (zeroW P d e).map fun c => (List.replicate n c).flatten
    | _ => match (P.info? t).bind (·.zero) with
      | some v => (aval1 v).map ([·])
      | none => none
/-- Does a cell stand for a value? (As far as a zero value asks.) -/
def cellb : AVal → Value → Bool
  | .int k x, .int k' y => k == k' && (x == y && x == 0)
  | .bool x, .bool y => x == y
  | .str x, .string y => x == bytesI y
  | .ptr none, .pointer none => true
  | .slice none (.n 0) (.exact 0), .slice none 0 0 => true
  | .fby [], .slice none 0 0 => true
  | .map none, .map none => true
  | .nilFn, .nilFunc => true
  | .nilIfc, .nilIface => true
  | _, _ => false
def zeroInt (k : IntKind) : Value → Bool
  | .int k' x => k == k' && x == 0
  | _ => false
def CRb : List AVal → List Value → Bool
  | [], [] => true
  | [], _ :: _ => false
  | v :: l, m => match v with
    | .ai k n xs => xs.length == n && (xs.all (· == 0) && ((m.take n).all (zeroInt k) && ((m.take n).length == n && CRb l (m.drop n))))
    | v => match m with
      | u :: m => cellb v u && CRb l m
      | [] => false
/-- A type's zero value, as cells, held against the program's. -/
def zeroOk (P : Program) (t : TypeId) (c : List AVal) : Bool :=
  match (P.info? t).bind (·.zero) with
  | some z => CRb c z.cells.toList
  | none => false
/-- Is a value a struct or an array, or of one cell? -/
def shpb (a : Bool) : Value → Bool
  | .agg _ => a
  | v => !a && v.oneCell'
def zeroShp (P : Program) (t : TypeId) (a : Bool) : Bool :=
  match (P.info? t).bind (·.zero) with
  | some z => shpb a z
  | none => false
/-- Is a row's kind that of a type? -/
def rtOk (P : Program) (e : TypeId) (t : RT) : Bool :=
  match P.info? e, P.underlying e with
  | some i, some d => i.size == t.sz && (decide (i.bytes ≤ 1024) && (aggD d == t.isA && (zeroShp P e t.isA && zeroOk P e (t.enc t.dft))))
  | _, _ => false

/-- An operation that changes nothing. -/
def compR (P : Program) (tt : TypeId → Option RT) (o : Op) : Option ROp :=
  match o with
  | .move x | .assign x => (compOpd x).map .mov
  | .pick c a b => match compOpd c, compOpd a, compOpd b with
    | some c, some a, some b => some (.pick c a b)
    | _, _, _ => none
  | .load t x => match ty P t, compOpd x with
    | some (n, true), some x => some (.loadN n x)
    | some (_, false), some x => some (.load1 x)
    | _, _ => none
  | .fieldAddr s x i => match P.underlying s, compOpd x with
    | some (.struct fs), some x => match fs[i]? with
      | some f => match sz? P f.type with
        | some (_ + 1) => some (.fld f.offset x)
        | _ => none
      | none => none
    | _, _ => none
  | .nilCheck x => (compOpd x).map .nilchk
  | .binOp op t x y _ => match P.underlying t, compOpd x, compOpd y with
    | some (.int _), some x, some y => match arithOf op, cmpOf op with
      | some o, _ => some (.arith o x y)
      | _, some o => some (.cmp o x y)
      | _, _ => none
    | some .string, some x, some y => match op with
      | .add => some (.arith .add x y)
      | .eql => some (.eq1 .s false x y)
      | .neq => some (.eq1 .s true x y)
      | _ => none
    | some .bool, some x, some y => match op with
      | .eql => some (.eq1 .b false x y)
      | .neq => some (.eq1 .b true x y)
      | _ => none
    | some (.pointer _), some x, some y => match op with
      | .eql => some (.eqP false x y)
      | .neq => some (.eqP true x y)
      | _ => none
    | some (.struct _), some x, some y | some (.array _ _), some x, some y => match flatT P 8 t with
      | some ks => match op with
        | .eql => some (.eqA ks false x y)
        | .neq => some (.eqA ks true x y)
        | _ => none
      | none => none
    | some (.interface _), some x, some (.c .nilIfc) => match op with
      | .eql => some (.eqI false x)
      | .neq => some (.eqI true x)
      | _ => none
    | some (.slice _), some x, some (.c (.slice none (.n 0) (.exact 0))) => match op with
      | .eql => some (.eqN false x)
      | .neq => some (.eqN true x)
      | _ => none
    | some (.map _ _), some x, some (.c (.map none)) => match op with
      | .eql => some (.eqM false x)
      | .neq => some (.eqM true x)
      | _ => none
    | _, _, _ => none
  | .unOp op _ x => match op, compOpd x with
    | .neg, some x => some (.neg x)
    | .xor, some x => some (.compl x)
    | .not, some x => some (.not x)
    | _, _ => none
  | .convert s d x => match P.underlying s, P.underlying d, compOpd x with
    | some (.int _), some (.int k), some x => some (.toInt k x)
    | some .string, some .string, some x => some (.strStr x)
    | some (.slice e), some .string, some x => match P.underlying e with
      | some (.int .u8) => some (.toStr x)
      | _ => none
    | _, _, _ => none
  | .makeInterface t x => match P.underlying t, compOpd x with
    | some (.interface _), _ => none
    | some _, some x => some (.ifc t x)
    | _, _ => none
  | .typeAssert x _ t false => match P.underlying t, compOpd x with
    | some (.interface _), _ => none
    | some _, some x => some (.asrt t x)
    | _, _ => none
  | .extract x i => (compOpd x).map fun x => .ext x i
  | .field t x i => match P.underlying t, compOpd x with
    | some (.struct fs), some x => match fs[i]? with
      | some f => (ty P f.type).map fun r => .part f.offset r.1 (!r.2) x
      | none => none
    | _, _ => none
  | .build t ps => match P.underlying t, zeroW P 8 t with
    | some (.struct fs), some z => if zeroOk P t z = true ∧ (fs.toList.all fun f => (sz? P f.type).isSome) = true then
        (compParts P (fun i => (fs[i]?).bind fun f => (sz? P f.type).map fun n => (f.offset, n)) ps.toList).map (.build z) else none
    | some (.array _ e), some z => match sz? P e with
      | some n => if zeroOk P t z then (compParts P (fun i => some (i * n, n)) ps.toList).map (.build z) else none
      | none => none
    | _, _ => none
  | .makeFunc f a b => match compOpds a.toList, compOpds b.toList with
    | some a, some b => some (.mkfn f a b)
    | _, _ => none
  | .indexAddr t x i => match P.underlying t, compOpd x, compOpd i with
    | some (.array n e), some x, some i => match sz? P e with
      | some z => if 2 ≤ n ∧ 1 ≤ z then some (.idxA n z x i) else none
      | none => none
    | some (.slice e), some x, some i => match sz? P e with
      | some z => if 1 ≤ z then some (.idxS z x i) else none
      | none => none
    | _, _, _ => none
  | .index t x i => match P.underlying t, compOpd x, compOpd i with
    | some (.array n e), some x, some i => (ty P e).map fun r => .at n r.1 (!r.2) x i
    | some .string, some x, some i => some (.strAt x i)
    | _, _, _ => none
  | .slice t x lo hi mx => match P.underlying t, compOpd x, compOpt lo, compOpt hi, compOpt mx with
    | some (.array n e), some x, some lo, some hi, some none => match sz? P e with
      | some z => if 1 ≤ z then some (.slcA n z x lo hi) else none
      | none => none
    | some (.slice e), some x, some lo, some hi, some mx => match sz? P e with
      | some z => if 1 ≤ z then some (.slcS z x lo hi mx) else none
      | none => none
    | some .string, some x, some lo, some hi, some none => some (.slcStr x lo hi)
    | _, _, _, _, _ => none
  | .lookup t m x ok => match P.underlying t, compOpd m, compOpd x with
    | some (.map k v), some m, some x => match tt k, tt v with
      | some kt, some vt => if flatT P 8 k = kt.keys ∧ kt.keys.isSome = true ∧ rtOk P k kt = true ∧ rtOk P v vt = true then some (.look kt vt ok m x) else none
      | _, _ => none
    | _, _, _ => none
  | .call c => match c.callee with
    | .builtin .len => match c.args.toList, c.argTypes.toList with
      | [x], [t] => match P.underlying t, compOpd x with
        | some .string, some x => some (.len 0 x)
        | some (.slice _), some x => some (.len 1 x)
        | some (.map _ _), some x => some (.len 2 x)
        | some (.array n _), _ => if n ≤ 9223372036854775807 then some (.mov (.c (.int .i64 (n : Int)))) else none
        | _, _ => none
      | _, _ => none
    | .builtin .cap => match c.args.toList, c.argTypes.toList with
      | [x], [t] => match P.underlying t, compOpd x with
        | some (.slice _), some x => some (.capS x)
        | _, _ => none
      | _, _ => none
    | .builtin .min => match c.args.toList with
      | [x, y] => match compOpd x, compOpd y with
        | some x, some y => some (.minmax false x y)
        | _, _ => none
      | [x, y, z] => match compOpd x, compOpd y, compOpd z with
        | some x, some y, some z => some (.mm3 false x y z)
        | _, _, _ => none
      | _ => none
    | .builtin .max => match c.args.toList with
      | [x, y] => match compOpd x, compOpd y with
        | some x, some y => some (.minmax true x y)
        | _, _ => none
      | [x, y, z] => match compOpd x, compOpd y, compOpd z with
        | some x, some y, some z => some (.mm3 true x y z)
        | _, _, _ => none
      | _ => none
    | _ => none
  | _ => none

end Go.Sx

/- Operations that change nothing: what the evaluator says holds of the model. -/
set_option linter.unusedSimpArgs false
set_option linter.unusedVariables false
namespace Go.Sx

/-- An operation gives a value that stands so, and leaves the world. -/
def RGoal (P : Program) (w : World) (ρ : Inj) (val : Operand → Value) (o : Oper) (v : AVal) : Prop :=
  ∃ v', (execOp val o).run P w = .ok (.value v') w ∧ VR ρ v v'

theorem IntKind.has_wrap (k : IntKind) (n : Int) : k.has (k.wrap n) := by
  cases k <;> simp [IntKind.has, IntKind.wrap, IntKind.min, IntKind.max, IntKind.bits, IntKind.signed] <;> (try split) <;> omega

section
variable {P : Program} {w : World} {B : Base} {ρ : Inj} {h : Heap} {val : Operand → Value} {f : Opd → AVal}

theorem run_underlying' {t : TypeId} {d : TypeDesc} (hu : P.underlying t = some d) : (underlying t).run P w = .ok d w := run_underlying hu w
theorem run_typeInfo' {t : TypeId} {i : TypeInfo} (hi : P.info? t = some i) : (typeInfo t).run P w = .ok i w := by simp [typeInfo, hi]
theorem run_sizeOf' {t : TypeId} {n : Nat} (hi : (P.info? t).map (·.size) = some n) : (sizeOf t).run P w = .ok n w := by
  obtain ⟨i, hi', rfl⟩ := Option.map_eq_some_iff.1 hi
  simp [sizeOf, typeInfo, hi']
theorem run_isAgg' {t : TypeId} {d : TypeDesc} (hu : P.underlying t = some d) : (isAgg t).run P w = .ok (aggD d) w := by
  simp only [isAgg, Sem.run_bind, run_underlying' hu, Result.andThen_ok]
  cases d <;> rfl

theorem addr_of_VR {p : APtr} {v' : Value} (hv : VR ρ (.ptr (some p)) v') : ∃ a, v' = .pointer (some a) ∧ ρ.addr p = some a := by
  cases hv with
  | ptr h => exact ⟨_, rfl, h⟩

theorem R_load (S : Sim B ρ h w) {o : Oper} {t : TypeId} {x : Operand} (ho : o.op = .load t x) {p : APtr} {a : Addr} (hv : val x = .pointer (some a)) (ha : ρ.addr p = some a)
    {n : Nat} {ag : Bool} (ht : ty P t = some (n, ag)) {v : AVal} (hl : (if ag then ldN h p n else ld1 h p) = some (true, v)) : RGoal P w ρ val o v := by
  unfold ty at ht
  split at ht
  · rename_i i d hi hu
    simp only [Option.some.injEq, Prod.mk.injEq] at ht
    obtain ⟨hn, hag⟩ := ht
    unfold RGoal
    simp only [execOp, ho, Instr.loadAt, hv, Instr.sureAddr, loadVar, Sem.run_bind, Sem.run_pure, Result.andThen_ok, run_isAgg' hu, hag]
    cases ag with
    | true =>
      simp only [if_true] at hl ⊢
      obtain ⟨l', h1, h2, h3⟩ := ldN_sound S ha hl rfl
      refine ⟨_, ?_, h3⟩
      have := run_loadCells_list (P := P) w a l' h2
      rw [h1] at this
      simp [run_sizeOf' (P := P) (w := w) (t := t) (n := n) (by simp [hi, hn]), this]
    | false =>
      simp only [Bool.false_eq_true, if_false] at hl ⊢
      obtain ⟨v', h1, h2, _⟩ := ld1_sound S ha hl rfl
      exact ⟨v', by simp [h1], h2⟩
  · contradiction

theorem addr_off {p : APtr} {a : Addr} (ha : ρ.addr p = some a) (k : Nat) : ρ.addr { p with off := p.off + k } = some (a.add k) := by
  unfold Inj.addr at *
  obtain ⟨L, hL, rfl⟩ := Option.map_eq_some_iff.1 ha
  simp only [hL, Option.map_some]
  unfold Addr.add
  split
  · subst_vars; rfl
  · simp; omega
theorem addr_row {p : APtr} {a : Addr} (ha : ρ.addr p = some a) (k : Nat) : ρ.addr { p with row := p.row + k } = some (a.add (k * p.rs)) := by
  unfold Inj.addr at *
  obtain ⟨L, hL, rfl⟩ := Option.map_eq_some_iff.1 ha
  simp only [hL, Option.map_some, Nat.add_mul]
  unfold Addr.add
  split
  · simp; omega
  · simp; omega

theorem R_fld {o : Oper} {s : TypeId} {x : Operand} {i : Nat} (ho : o.op = .fieldAddr s x i) {p : APtr} {a : Addr} (hv : val x = .pointer (some a)) (ha : ρ.addr p = some a)
    {fs : Array Field} {fd : Field} {n : Nat} (hu : P.underlying s = some (.struct fs)) (hf : fs[i]? = some fd) (hs : sz? P fd.type = some (n + 1)) :
    RGoal P w ρ val o (.ptr (some { p with off := p.off + fd.offset })) := by
  refine ⟨.pointer (some (a.add fd.offset)), ?_, .ptr (addr_off ha _)⟩
  simp [execOp, ho, Instr.fieldAt, hv, Instr.sureAddr, run_underlying' hu, hf, fieldPlace, run_sizeOf' (P := P) (w := w) hs]

/-! ### Numbers -/
theorem R_arith {o : Oper} {op : BinOp} {t yt : TypeId} {x y : Operand} (ho : o.op = .binOp op t x y yt) {k k' : IntKind} {a b : Int}
    (hx : val x = .int k a) (hy : val y = .int k' b) (hxk : k.has a) (hyk : k'.has b) {A : Arith} (hA : arithOf op = some A)
    (hk : (match A with | .shl | .shr => True | _ => k = k')) (hc : (arith A k a b).1 = true) : RGoal P w ρ val o (.int k (arith A k a b).2) := by
  refine ⟨_, ?_, .int ?_⟩
  · simp only [execOp, ho, hx, hy, Sem.run_bind]
    have hg : (eqGuard op t x y (.int k a) (.int k' b)).run P w = .ok () w := by
      unfold eqGuard; split <;> rfl
    simp only [hg, Result.andThen_ok]
    cases op <;> simp only [arithOf, Option.some.injEq, reduceCtorEq] at hA <;> subst hA
    case shl => have h0 : ¬ b < 0 := by simpa [arith] using hc
                simp [binOp, Op.shift, arith, h0]
    case shr => have h0 : ¬ b < 0 := by simpa [arith] using hc
                simp [binOp, Op.shift, arith, h0]
    all_goals
      simp only at hk
      subst hk
      simp only [binOp, ne_eq, not_true, if_false, if_true]
      first
        | (simp [Op.intArith, arith]; done)
        | (have h0 : b ≠ 0 := by simpa [arith] using hc
           simp [Op.intDiv, arith, h0]; done)
        | (simp [Op.intBits, arith, ibits]; done)
  · cases A <;> simp only [arith, ibits] <;> first
      | exact IntKind.has_wrap _ _
      | skip
    · simp only at hk
      subst hk
      have h0 : b ≠ 0 := by simpa [arith] using hc
      have h1 : (a.tmod b).natAbs ≤ a.natAbs := by
        rw [Int.natAbs_tmod]; exact Nat.mod_le _ _
      have h2 : 0 ≤ a → 0 ≤ a.tmod b := fun h => Int.tmod_nonneg b h
      have h3 : a ≤ 0 → a.tmod b ≤ 0 := fun h => by
        have := Int.tmod_nonneg b (show 0 ≤ -a by omega)
        rw [Int.neg_tmod] at this; omega
      obtain ⟨g1, g2⟩ := hxk
      have gm : k.min ≤ 0 ∧ 0 ≤ k.max := by cases k <;> decide
      constructor <;> omega
    · have h0 : 0 ≤ b := by simpa [arith] using hc
      obtain ⟨g1, g2⟩ := hxk
      have gm : k.min ≤ 0 ∧ 0 ≤ k.max := by cases k <;> decide
      have hp : (0 : Int) < 2 ^ (min b.toNat k.bits) := Int.pow_pos (by omega)
      have e : a.fdiv (2 ^ (min b.toNat k.bits)) = a / 2 ^ (min b.toNat k.bits) := Int.fdiv_eq_ediv_of_nonneg _ (by omega)
      rw [e]
      generalize (2 : Int) ^ (min b.toNat k.bits) = m at hp
      constructor
      · rcases Int.le_total 0 a with ha | ha
        · have := Int.ediv_nonneg ha (by omega : 0 ≤ m); omega
        · have : a ≤ a / m := by
            apply Int.le_ediv_of_mul_le hp
            have h5 := Int.mul_nonneg (show 0 ≤ -a by omega) (show 0 ≤ m - 1 by omega)
            rw [Int.neg_mul, Int.mul_sub, Int.mul_one] at h5
            omega
          omega
      · rcases Int.le_total 0 a with ha | ha
        · have := Int.ediv_le_self m ha; omega
        · have : a / m ≤ 0 := Int.ediv_nonpos_of_nonpos_of_neg ha (by omega)
          omega

theorem R_cmp {o : Oper} {op : BinOp} {t yt : TypeId} {x y : Operand} (ho : o.op = .binOp op t x y yt) {k : IntKind} {a b : Int}
    (hx : val x = .int k a) (hy : val y = .int k b) {C : Cmp} (hA : arithOf op = none) (hC : cmpOf op = some C) : RGoal P w ρ val o (.bool (cmpI C a b)) := by
  refine ⟨_, ?_, .bool _⟩
  simp only [execOp, ho, hx, hy, Sem.run_bind]
  have hg : (eqGuard op t x y (.int k a) (.int k b)).run P w = .ok () w := by
    unfold eqGuard; split <;> rfl
  simp only [hg, Result.andThen_ok]
  cases op <;> simp only [cmpOf, Option.some.injEq, reduceCtorEq] at hC <;> subst hC <;> simp [binOp, Op.intCmp, cmpI]

/-! ### The same or not -/
theorem bytesI_inj {a b : ByteArray} (h : bytesI a = bytesI b) : a = b := by
  unfold bytesI at h
  have h4 := (List.map_inj_right (f := fun b : UInt8 => (b.toNat : Int)) (fun x y hxy => by
    have : x.toNat = y.toNat := by omega
    exact UInt8.toNat_inj.1 this)).1 h
  exact ByteArray.ext (Array.ext' h4)
theorem beq_bytes (a b : ByteArray) : (a == b) = (bytesI a == bytesI b) := by
  have h : (a == b) = (a.data == b.data) := by cases a; cases b; rfl
  rw [h, Bool.eq_iff_iff, beq_iff_eq, beq_iff_eq]
  exact ⟨fun e => by unfold bytesI; rw [e], fun e => by rw [bytesI_inj e]⟩
theorem beq_lists (a b : ByteArray) : (a.toList == b.toList) = (bytesI a == bytesI b) := by
  rw [ByteArray.toList_eq, ByteArray.toList_eq, Bool.eq_iff_iff, beq_iff_eq, beq_iff_eq]
  exact ⟨fun e => by unfold bytesI; rw [e], fun e => by rw [bytesI_inj e]⟩

theorem eqV_sound {q : CK} {v u : AVal} {v' u' : Value} {r : Bool} (hv : VR ρ v v') (hu : VR ρ u u') (he : eqV q v u = some r) :
    (∃ k a b, q = .i k ∧ v' = .int k a ∧ u' = .int k b ∧ r = (a == b)) ∨ (∃ a b, q = .b ∧ v' = .bool a ∧ u' = .bool b ∧ r = (a == b)) ∨
    (∃ a b, q = .s ∧ v' = .string a ∧ u' = .string b ∧ r = (a == b)) := by
  unfold eqV at he
  split at he
  · split at he
    · rename_i e; obtain ⟨e1, e2⟩ := e; subst e1; subst e2; cases he; cases hv; cases hu; exact .inl ⟨_, _, _, rfl, rfl, rfl, rfl⟩
    · contradiction
  · cases he; cases hv; cases hu; exact .inr (.inl ⟨_, _, rfl, rfl, rfl, rfl⟩)
  · cases he
    cases hv with
    | str h1 =>
    cases hu with
    | str h2 => exact .inr (.inr ⟨_, _, rfl, rfl, rfl, by rw [beq_bytes, h1, h2]⟩)
  · contradiction

/-- Cells held against cells, one by one. -/
inductive EqC : List CK → List Value → List Value → Bool → Prop
  | nil : EqC [] [] [] true
  | int {k : IntKind} {a b : Int} {ks : List CK} {l m : List Value} {r : Bool} (t : EqC ks l m r) : EqC (.i k :: ks) (.int k a :: l) (.int k b :: m) ((a == b) && r)
  | bool {a b : Bool} {ks : List CK} {l m : List Value} {r : Bool} (t : EqC ks l m r) : EqC (.b :: ks) (.bool a :: l) (.bool b :: m) ((a == b) && r)
  | str {a b : ByteArray} {ks : List CK} {l m : List Value} {r : Bool} (t : EqC ks l m r) : EqC (.s :: ks) (.string a :: l) (.string b :: m) ((a == b) && r)

theorem eqCells_sound : ∀ {ks : List CK} {l m : List AVal} {l' m' : List Value} {r : Bool}, CR ρ l l' → CR ρ m m' → eqCells ks l m = some r → EqC ks l' m' r
  | [], [], [], l', m', r, h1, h2, he => by cases h1; cases h2; cases he; exact .nil
  | q :: ks, a :: l, b :: m, l', m', r, h1, h2, he => by
    simp only [eqCells] at he
    split at he
    · rename_i x y hx hy
      cases he
      cases h1 with
      | wide _ _ _ => simp [eqV] at hx
      | one ha hsa hwa ta =>
      cases h2 with
      | wide _ _ _ => unfold eqV at hx; split at hx <;> contradiction
      | one hb hsb hwb tb =>
      have ih := eqCells_sound ta tb hy
      rcases eqV_sound ha hb hx with ⟨k, p, q, rfl, rfl, rfl, rfl⟩ | ⟨p, q, rfl, rfl, rfl, rfl⟩ | ⟨p, q, rfl, rfl, rfl, rfl⟩
      · exact .int ih
      · exact .bool ih
      · exact .str ih
    · contradiction
  | [], [], _ :: _, _, _, _, _, _, he => by simp [eqCells] at he
  | [], _ :: _, _, _, _, _, _, _, he => by simp [eqCells] at he
  | _ :: _, [], _, _, _, _, _, _, he => by simp [eqCells] at he
  | _ :: _, _ :: _, [], _, _, _, _, _, he => by simp [eqCells] at he

theorem EqC.len {ks : List CK} {l m : List Value} {r : Bool} (h : EqC ks l m r) : l.length = ks.length ∧ m.length = ks.length := by
  induction h <;> simp_all
theorem EqC.split {ks : List CK} {l m : List Value} {r : Bool} (h : EqC ks l m r) : ∀ (k1 k2 : List CK), ks = k1 ++ k2 →
    ∃ a b, EqC k1 (l.take k1.length) (m.take k1.length) a ∧ EqC k2 (l.drop k1.length) (m.drop k1.length) b ∧ r = (a && b) := by
  induction h with
  | nil => intro k1 k2 e; simp at e; obtain ⟨rfl, rfl⟩ := e; exact ⟨true, true, .nil, .nil, rfl⟩
  | int t ih =>
    rename_i k a b ks l m r
    intro k1 k2 e
    cases k1 with
    | nil => simp at e; subst e; exact ⟨true, _, by simpa using EqC.nil, .int t, by simp⟩
    | cons q k1 => simp at e; obtain ⟨rfl, rfl⟩ := e; obtain ⟨x, y, h1, h2, h3⟩ := ih k1 k2 rfl; exact ⟨(a == b) && x, y, by simpa using EqC.int h1, by simpa using h2, by rw [h3, Bool.and_assoc]⟩
  | bool t ih =>
    rename_i a b ks l m r
    intro k1 k2 e
    cases k1 with
    | nil => simp at e; subst e; exact ⟨true, _, by simpa using EqC.nil, .bool t, by simp⟩
    | cons q k1 => simp at e; obtain ⟨rfl, rfl⟩ := e; obtain ⟨x, y, h1, h2, h3⟩ := ih k1 k2 rfl; exact ⟨(a == b) && x, y, by simpa using EqC.bool h1, by simpa using h2, by rw [h3, Bool.and_assoc]⟩
  | str t ih =>
    rename_i a b ks l m r
    intro k1 k2 e
    cases k1 with
    | nil => simp at e; subst e; exact ⟨true, _, by simpa using EqC.nil, .str t, by simp⟩
    | cons q k1 => simp at e; obtain ⟨rfl, rfl⟩ := e; obtain ⟨x, y, h1, h2, h3⟩ := ih k1 k2 rfl; exact ⟨(a == b) && x, y, by simpa using EqC.str h1, by simpa using h2, by rw [h3, Bool.and_assoc]⟩

/-- A value of a type out of its cells. -/
def ofCells (P : Program) (t : TypeId) (l : List Value) : Value :=
  match P.underlying t, l with
  | some (.struct _), l => .agg l.toArray
  | some (.array _ _), l => .agg l.toArray
  | _, [v] => v
  | _, _ => undef

theorem run_part' {t : TypeId} {n off : Nat} {d : TypeDesc} (hu : P.underlying t = some d) (hs : sz? P t = some n) (hn : aggD d = false → n = 1) (xs : List Value) (hl : off + n ≤ xs.length) :
    (part t xs.toArray off).run P w = .ok (ofCells P t ((xs.drop off).take n)) w := by
  simp only [part, Sem.run_bind, run_isAgg' hu, Result.andThen_ok]
  cases hd : aggD d with
  | true =>
    simp only [if_true, Sem.run_bind, run_sizeOf' (P := P) (w := w) hs, Result.andThen_ok, Sem.run_pure]
    have : ofCells P t ((xs.drop off).take n) = .agg ((xs.drop off).take n).toArray := by
      unfold ofCells; rw [hu]; cases d <;> simp_all [aggD]
    rw [this]
    congr 2
    simp [List.extract_toArray, List.extract_eq_take_drop]
  | false =>
    have := hn hd; subst this
    simp only [Bool.false_eq_true, if_false]
    have hlt : off < xs.length := by omega
    have h1 : (xs.drop off).take 1 = [xs[off]] := by
      rw [List.drop_eq_getElem_cons hlt]; rfl
    have : ofCells P t ((xs.drop off).take 1) = xs[off] := by
      rw [h1]; unfold ofCells; rw [hu]; cases d <;> simp_all [aggD]
    simp [hlt, this]

theorem flat_agg {d : Nat} {t : TypeId} {ks : List CK} (h : flatKs P d t = some ks) : ∃ D, P.underlying t = some D ∧ (aggD D = false → ks.length = 1) := by
  cases d with
  | zero => simp [flatKs] at h
  | succ d =>
    unfold flatKs at h
    split at h <;> first
      | contradiction
      | (rename_i hu; exact ⟨_, hu, fun _ => by simp [← Option.some.inj h]⟩)
      | (rename_i hu; exact ⟨_, hu, fun hh => by simp [aggD] at hh⟩)

theorem flat_fields {d : Nat} {D : Nat} (ih : ∀ (t : TypeId) (ks : List CK), flatKs P d t = some ks → ∀ (xs ys : List Value) (r : Bool), EqC ks xs ys r →
    (Op.equalIn D t (ofCells P t xs) (ofCells P t ys)).run P w = .ok r w) (xs ys : List Value) : ∀ (fs : List Field) (acc : Nat) (ks : List CK) (r : Bool),
    flatFs P (flatKs P d) acc fs = some ks → acc + ks.length ≤ xs.length → acc + ks.length ≤ ys.length → EqC ks ((xs.drop acc).take ks.length) ((ys.drop acc).take ks.length) r →
    (Op.eqFields D xs.toArray ys.toArray fs).run P w = .ok r w
  | [], acc, ks, r, h, hx, hy, he => by
    simp only [flatFs, Option.some.injEq] at h
    subst h
    cases he with
    | nil => simp [Op.eqFields]
  | f :: fs, acc, ks, r, h, hx, hy, he => by
    simp only [flatFs] at h
    split at h
    · rename_i z hz
      split at h
      · rename_i hc
        obtain ⟨h1, h2, h3⟩ := hc
        obtain ⟨ks', h4, rfl⟩ := Option.map_eq_some_iff.1 h
        simp only [List.length_append] at hx hy
        obtain ⟨a, b, e1, e2, rfl⟩ := he.split z ks' rfl
        obtain ⟨dd, g1, g2⟩ := flat_agg hz
        have tx : ((xs.drop acc).take (z ++ ks').length).take z.length = (xs.drop acc).take z.length := by rw [List.take_take]; congr 1; simp
        have ty : ((ys.drop acc).take (z ++ ks').length).take z.length = (ys.drop acc).take z.length := by rw [List.take_take]; congr 1; simp
        have dx : ((xs.drop acc).take (z ++ ks').length).drop z.length = (xs.drop (acc + z.length)).take ks'.length := by rw [List.drop_take, List.drop_drop]; simp
        have dy : ((ys.drop acc).take (z ++ ks').length).drop z.length = (ys.drop (acc + z.length)).take ks'.length := by rw [List.drop_take, List.drop_drop]; simp
        rw [tx, ty] at e1
        rw [dx, dy] at e2
        have p1 := run_part' (w := w) g1 h3 g2 xs (off := acc) (by omega)
        have p2 := run_part' (w := w) g1 h3 g2 ys (off := acc) (by omega)
        have q := ih f.type z hz _ _ a e1
        simp only [Op.eqFields, h1, ne_eq, not_false_eq_true, if_true, Sem.run_bind, h2, p1, p2, q, Result.andThen_ok]
        cases a with
        | false => simp
        | true =>
          simp only [Bool.not_true, Bool.false_eq_true, if_false, Bool.true_and]
          exact flat_fields ih xs ys fs _ ks' b h4 (by omega) (by omega) e2
      · contradiction
    · contradiction

theorem flat_items {d : Nat} {D : Nat} {e : TypeId} {z : List CK} (hz : flatKs P d e = some z) (hs : sz? P e = some z.length)
    (ih : ∀ (xs ys : List Value) (r : Bool), EqC z xs ys r → (Op.equalIn D e (ofCells P e xs) (ofCells P e ys)).run P w = .ok r w) (xs ys : List Value) :
    ∀ (n i : Nat) (r : Bool), (i + n) * z.length ≤ xs.length → (i + n) * z.length ≤ ys.length →
      EqC (List.replicate n z).flatten ((xs.drop (i * z.length)).take (n * z.length)) ((ys.drop (i * z.length)).take (n * z.length)) r →
      (Op.eqItems D e z.length xs.toArray ys.toArray (List.range' i n)).run P w = .ok r w
  | 0, i, r, hx, hy, he => by
    simp at he
    cases he with
    | nil => simp [Op.eqItems]
  | n + 1, i, r, hx, hy, he => by
    have hm : (n + 1) * z.length = z.length + n * z.length := by rw [Nat.add_mul]; omega
    have hm2 : (i + (n + 1)) * z.length = i * z.length + z.length + n * z.length := by rw [Nat.add_mul, hm]; omega
    have hm3 : (i + 1) * z.length = i * z.length + z.length := by rw [Nat.add_mul]; omega
    rw [List.replicate_succ, List.flatten_cons] at he
    obtain ⟨a, b, e1, e2, rfl⟩ := he.split z _ rfl
    obtain ⟨dd, g1, g2⟩ := flat_agg hz
    have tx : ∀ l : List Value, ((l.drop (i * z.length)).take ((n + 1) * z.length)).take z.length = (l.drop (i * z.length)).take z.length := fun l => by
      rw [List.take_take]; congr 1; omega
    have dx : ∀ l : List Value, ((l.drop (i * z.length)).take ((n + 1) * z.length)).drop z.length = (l.drop ((i + 1) * z.length)).take (n * z.length) := fun l => by
      rw [List.drop_take, List.drop_drop, hm3]; congr 1; omega
    rw [tx, tx] at e1
    rw [dx, dx] at e2
    have p1 := run_part' (w := w) g1 hs g2 xs (off := i * z.length) (by omega)
    have p2 := run_part' (w := w) g1 hs g2 ys (off := i * z.length) (by omega)
    have q := ih _ _ a e1
    rw [List.range'_succ]
    simp only [Op.eqItems, Sem.run_bind, p1, p2, q, Result.andThen_ok]
    cases a with
    | false => simp
    | true =>
      simp only [Bool.not_true, Bool.false_eq_true, if_false, Bool.true_and]
      refine flat_items hz hs ih xs ys n (i + 1) b ?_ ?_ e2
      · rw [show i + 1 + n = i + (n + 1) by omega]; omega
      · rw [show i + 1 + n = i + (n + 1) by omega]; omega

theorem flat_equal : ∀ (d : Nat) (t : TypeId) (ks : List CK), flatKs P d t = some ks → ∀ (D : Nat) (xs ys : List Value) (r : Bool), EqC ks xs ys r →
    (Op.equalIn (D + d) t (ofCells P t xs) (ofCells P t ys)).run P w = .ok r w := by
  intro d
  induction d with
  | zero => intro t n h; simp [flatKs] at h
  | succ d ih =>
    intro t ks h D xs ys r he
    unfold flatKs at h
    split at h
    · rename_i hu
      cases h
      cases he with
      | int t' => cases t'; simp [ofCells, hu, Op.equalIn, run_underlying' hu, ← Nat.add_assoc]
    · rename_i hu
      cases h
      cases he with
      | bool t' => cases t'; simp [ofCells, hu, Op.equalIn, run_underlying' hu, ← Nat.add_assoc]
    · rename_i hu
      cases h
      cases he with
      | str t' => cases t'; simp [ofCells, hu, Op.equalIn, run_underlying' hu, ← Nat.add_assoc]
    · rename_i fs hu
      split at h
      · contradiction
      · rename_i hst
        have hst' : P.stoodInHeld t = false := by simpa using hst
        obtain ⟨l1, l2⟩ := he.len
        have hx : ∀ l : List Value, ofCells P t l = .agg l.toArray := fun l => by unfold ofCells; rw [hu]
        rw [hx, hx, ← Nat.add_assoc, run_equalIn_struct w (D + d) t _ _ (by rw [Program.fieldsOf, hu]) hst', Program.fieldsOf, hu]
        exact flat_fields (fun t ks h xs ys r he => ih t ks h D xs ys r he) xs ys fs.toList 0 ks r h (by omega) (by omega) (by
          rw [List.drop_zero, List.drop_zero, List.take_of_length_le (by omega), List.take_of_length_le (by omega)]; exact he)
    · rename_i n e hu
      split at h
      · rename_i z hz
        split at h
        · rename_i hs
          cases h
          obtain ⟨l1, l2⟩ := he.len
          have hL : (List.replicate n z).flatten.length = n * z.length := by simp
          rw [hL] at l1 l2
          have hx : ∀ l : List Value, ofCells P t l = .agg l.toArray := fun l => by unfold ofCells; rw [hu]
          obtain ⟨i, hi, hi2⟩ := Option.map_eq_some_iff.1 hs
          have hc : P.cellsOf e = z.length := by unfold Program.cellsOf; rw [hi]; simpa using hi2
          rw [hx, hx, ← Nat.add_assoc, run_equalIn_array w (D + d) _ _ hu hi, List.range_eq_range', hc]
          exact flat_items hz hs (fun xs ys r he => ih e z hz D xs ys r he) xs ys n 0 r (by rw [Nat.zero_add]; omega) (by rw [Nat.zero_add]; omega) (by
            rw [Nat.zero_mul, List.drop_zero, List.drop_zero, List.take_of_length_le (by omega), List.take_of_length_le (by omega)]; exact he)
        · contradiction
      · contradiction
    · contradiction

/-! ### Each operation -/
theorem guard_none {op : BinOp} {t : TypeId} {x y : Operand} {a b : Value} (h1 : a ≠ .nilIface ∨ b ≠ .nilIface) (h2 : (∀ c, a ≠ .agg c) ∨ (∀ c, b ≠ .agg c)) :
    (eqGuard op t x y a b).run P w = .ok () w := by
  unfold eqGuard
  split
  all_goals
    simp only [Bool.not_true, Bool.not_false, Bool.false_eq_true, if_false, if_true]
    first
      | rfl
      | (split
         · simp at h1
         · simp at h2
         · rfl)

theorem ofCells_one {t : TypeId} {d : TypeDesc} (hu : P.underlying t = some d) (ha : aggD d = false) (v : Value) : ofCells P t [v] = v := by
  unfold ofCells; rw [hu]; cases d <;> simp_all [aggD]

theorem eqIn_bool (d : Nat) {t : TypeId} (a b : Bool) (hu : P.underlying t = some .bool) : (Op.equalIn (d + 1) t (.bool a) (.bool b)).run P w = .ok (a == b) w := by
  simp [Op.equalIn, run_underlying' hu]
theorem eqIn_ptr (d : Nat) {t e : TypeId} (p q : Option Addr) (hn : p = none ∨ q = none) (hu : P.underlying t = some (.pointer e)) :
    (Op.equalIn (d + 1) t (.pointer p) (.pointer q)).run P w = .ok (p.isNone && q.isNone) w := by
  rcases hn with rfl | rfl
  · simp [Op.equalIn, run_underlying' hu]
  · cases p <;> simp [Op.equalIn, run_underlying' hu]
theorem eqIn_nils (d : Nat) {t : TypeId} {ms : Array (String × TypeId)} (hu : P.underlying t = some (.interface ms)) :
    (Op.equalIn (d + 1) t .nilIface .nilIface).run P w = .ok true w := by
  simp [Op.equalIn, run_underlying' hu]
theorem eqIn_ifc (d : Nat) {t t' : TypeId} {v : Value} {ms : Array (String × TypeId)} (hu : P.underlying t = some (.interface ms)) :
    (Op.equalIn (d + 1) t (.iface t' v) .nilIface).run P w = .ok false w := by
  simp [Op.equalIn, run_underlying' hu]
theorem eqIn_slice (d : Nat) {t e : TypeId} (a : Option Addr) (n c : Nat) (hu : P.underlying t = some (.slice e)) :
    (Op.equalIn (d + 1) t (.slice a n c) (.slice none 0 0)).run P w = .ok a.isNone w := by
  cases a <;> simp [Op.equalIn, run_underlying' hu]
theorem eqIn_map (d : Nat) {t k e : TypeId} (a : Option Nat) (hu : P.underlying t = some (.map k e)) :
    (Op.equalIn (d + 1) t (.map a) (.map none)).run P w = .ok a.isNone w := by
  cases a <;> simp [Op.equalIn, run_underlying' hu]
theorem equal_of {t : TypeId} {a b : Value} {r : Bool} (h : (Op.equalIn (9999 + 1) t a b).run P w = .ok r w) : (Op.equal t a b).run P w = .ok r w := h

def eqlOp (ng : Bool) : BinOp := if ng then .neq else .eql
theorem run_eqlOp {ng : Bool} {t : TypeId} {a b : Value} {r : Bool} (he : (Op.equal t a b).run P w = .ok r w)
    (hE : binOp .eql t a b = (do let r ← Op.equal t a b; pure (.bool r))) (hN : binOp .neq t a b = (do let r ← Op.equal t a b; pure (.bool (!r)))) :
    (binOp (eqlOp ng) t a b).run P w = .ok (.bool (cond ng (!r) r)) w := by
  cases ng
  · simp only [eqlOp, Bool.false_eq_true, if_false, hE, Sem.run_bind, he, Result.andThen_ok, Sem.run_pure, cond_false]
  · simp only [eqlOp, if_true, hN, Sem.run_bind, he, Result.andThen_ok, Sem.run_pure, cond_true]

theorem R_eqs_agg {o : Oper} {ng : Bool} {t yt : TypeId} {x y : Operand} (ho : o.op = .binOp (eqlOp ng) t x y yt) {l m : List AVal} {ks : List CK} {r : Bool}
    (hx : VR ρ (.agg l) (val x)) (hy : VR ρ (.agg m) (val y)) {d : TypeDesc} (hu : P.underlying t = some d) (hd : aggD d = true) (hk : flatT P 8 t = some ks) (he : eqCells ks l m = some r) :
    RGoal P w ρ val o (.bool (cond ng (!r) r)) := by
  unfold flatT at hk
  split at hk
  · contradiction
  · rename_i hg
    have hg' : P.eqGuardType P.depth t = false := by simpa using hg
    generalize hvx : val x = vx at hx
    generalize hvy : val y = vy at hy
    cases hx with
    | agg cx =>
    cases hy with
    | agg cy =>
    have hE := eqCells_sound cx cy he
    have hq := flat_equal (w := w) 8 t ks hk 9992 _ _ r hE
    have hoc : ∀ l : List Value, ofCells P t l = .agg l.toArray := fun l => by
      unfold ofCells; rw [hu]; cases d <;> simp_all [aggD]
    rw [hoc, hoc] at hq
    refine ⟨_, ?_, .bool _⟩
    simp only [execOp, ho, hvx, hvy, Sem.run_bind, run_eqGuard_agg w _ t x y _ _ hg', Result.andThen_ok]
    cases ng <;> simp only [eqlOp, if_true, Bool.false_eq_true, if_false]
    · rw [run_eql_struct, hq]; rfl
    · rw [run_neq_struct, hq]; rfl

theorem R_eqs_one {o : Oper} {ng : Bool} {t yt : TypeId} {x y : Operand} (ho : o.op = .binOp (eqlOp ng) t x y yt) {a b : AVal} {q : CK} {r : Bool}
    (hx : VR ρ a (val x)) (hy : VR ρ b (val y)) (hq : q = .b ∨ q = .s) (hu : q = .b → P.underlying t = some .bool) (he : eqV q a b = some r) :
    RGoal P w ρ val o (.bool (cond ng (!r) r)) := by
  refine ⟨_, ?_, .bool _⟩
  rcases eqV_sound hx hy he with ⟨k, p, q', hk, _, _, _⟩ | ⟨p, q', rfl, e1, e2, rfl⟩ | ⟨p, q', rfl, e1, e2, rfl⟩
  · subst hk; rcases hq with h | h <;> cases h
  · have hg := guard_none (P := P) (w := w) (op := eqlOp ng) (t := t) (x := x) (y := y) (a := .bool p) (b := .bool q') (.inl (by simp)) (.inl (by simp))
    simp only [execOp, ho, e1, e2, Sem.run_bind, hg, Result.andThen_ok]
    rw [run_eqlOp (equal_of (eqIn_bool (P := P) (w := w) 9999 p q' (hu rfl))) rfl rfl]; rfl
  · have hg := guard_none (P := P) (w := w) (op := eqlOp ng) (t := t) (x := x) (y := y) (a := .string p) (b := .string q') (.inl (by simp)) (.inl (by simp))
    simp only [execOp, ho, e1, e2, Sem.run_bind, hg, Result.andThen_ok]
    cases ng <;> simp [eqlOp, binOp, Op.stringOp, beq_toListBytes]

theorem R_eqs_ptr {o : Oper} {ng : Bool} {t e yt : TypeId} {x y : Operand} (ho : o.op = .binOp (eqlOp ng) t x y yt) {p q : Option Addr}
    (hx : val x = .pointer p) (hy : val y = .pointer q) (hu : P.underlying t = some (.pointer e)) (hn : p = none ∨ q = none) :
    RGoal P w ρ val o (.bool (cond ng (!(p.isNone && q.isNone)) (p.isNone && q.isNone))) := by
  refine ⟨_, ?_, .bool _⟩
  have hg := guard_none (P := P) (w := w) (op := eqlOp ng) (t := t) (x := x) (y := y) (a := .pointer p) (b := .pointer q) (.inl (by simp)) (.inl (by simp))
  simp only [execOp, ho, hx, hy, Sem.run_bind, hg, Result.andThen_ok]
  rw [run_eqlOp (equal_of (eqIn_ptr (P := P) (w := w) 9999 p q hn hu)) rfl rfl]; rfl

theorem R_eqs_slice {o : Oper} {ng : Bool} {t e yt : TypeId} {x y : Operand} (ho : o.op = .binOp (eqlOp ng) t x y yt) {a : Option Addr} {n c : Nat}
    (hx : val x = .slice a n c) (hy : val y = .slice none 0 0) (hu : P.underlying t = some (.slice e)) :
    RGoal P w ρ val o (.bool (cond ng (!a.isNone) a.isNone)) := by
  refine ⟨_, ?_, .bool _⟩
  have hg := guard_none (P := P) (w := w) (op := eqlOp ng) (t := t) (x := x) (y := y) (a := .slice a n c) (b := .slice none 0 0) (.inl (by simp)) (.inl (by simp))
  simp only [execOp, ho, hx, hy, Sem.run_bind, hg, Result.andThen_ok]
  rw [run_eqlOp (equal_of (eqIn_slice (P := P) (w := w) 9999 a n c hu)) rfl rfl]; rfl
theorem R_eqs_map {o : Oper} {ng : Bool} {t k e yt : TypeId} {x y : Operand} (ho : o.op = .binOp (eqlOp ng) t x y yt) {a : Option Nat}
    (hx : val x = .map a) (hy : val y = .map none) (hu : P.underlying t = some (.map k e)) :
    RGoal P w ρ val o (.bool (cond ng (!a.isNone) a.isNone)) := by
  refine ⟨_, ?_, .bool _⟩
  have hg := guard_none (P := P) (w := w) (op := eqlOp ng) (t := t) (x := x) (y := y) (a := .map a) (b := .map none) (.inl (by simp)) (.inl (by simp))
  simp only [execOp, ho, hx, hy, Sem.run_bind, hg, Result.andThen_ok]
  rw [run_eqlOp (equal_of (eqIn_map (P := P) (w := w) 9999 a hu)) rfl rfl]; rfl

theorem R_eqs_ifc {o : Oper} {ng : Bool} {t yt : TypeId} {x : Operand} {c : Value} (ho : o.op = .binOp (eqlOp ng) t x (.const c) yt) {ms : Array (String × TypeId)}
    (hc : val (.const c) = .nilIface) (hx : val x = .nilIface ∨ ∃ t v, val x = .iface t v) (hu : P.underlying t = some (.interface ms)) :
    RGoal P w ρ val o (.bool (cond ng (!(val x matches .nilIface)) (val x matches .nilIface))) := by
  refine ⟨_, ?_, .bool _⟩
  simp only [execOp, ho, hc, Sem.run_bind]
  rcases hx with h | ⟨t', v, h⟩
  · have hg : (eqGuard (eqlOp ng) t x (.const c) .nilIface .nilIface).run P w = .ok () w := by
      unfold eqGuard
      cases ng <;> simp [eqlOp]
    simp only [h, hg, Result.andThen_ok]
    rw [run_eqlOp (equal_of (eqIn_nils (P := P) (w := w) 9999 hu)) rfl rfl]; rfl
  · have hg := guard_none (P := P) (w := w) (op := eqlOp ng) (t := t) (x := x) (y := .const c) (a := .iface t' v) (b := .nilIface) (.inl (by simp)) (.inl (by simp))
    simp only [h, hg, Result.andThen_ok]
    rw [run_eqlOp (equal_of (eqIn_ifc (P := P) (w := w) 9999 (t' := t') (v := v) hu)) rfl rfl]; rfl

end
end Go.Sx

/- Operations that change nothing, continued. -/
set_option linter.unusedSimpArgs false
set_option linter.unusedVariables false
namespace Go.Sx
section
variable {P : Program} {w : World} {B : Base} {ρ : Inj} {h : Heap} {val : Operand → Value}

theorem R_neg {o : Oper} {t : TypeId} {x : Operand} (ho : o.op = .unOp .neg t x) {k : IntKind} {a : Int} (hx : val x = .int k a) : RGoal P w ρ val o (.int k (k.wrap (0 - a))) :=
  ⟨_, by simp [execOp, ho, hx, Op.unary, Op.intArith], .int (IntKind.has_wrap _ _)⟩
theorem R_compl {o : Oper} {t : TypeId} {x : Operand} (ho : o.op = .unOp .xor t x) {k : IntKind} {a : Int} (hx : val x = .int k a) :
    RGoal P w ρ val o (.int k (ibits .xor k (if k.signed then -1 else k.max) a)) :=
  ⟨_, by simp [execOp, ho, hx, Op.unary, Op.intBits, ibits], .int (IntKind.has_wrap _ _)⟩
theorem R_not {o : Oper} {t : TypeId} {x : Operand} (ho : o.op = .unOp .not t x) {a : Bool} (hx : val x = .bool a) : RGoal P w ρ val o (.bool (!a)) :=
  ⟨_, by simp [execOp, ho, hx, Op.unary], .bool _⟩
theorem R_toInt {o : Oper} {s d : TypeId} {x : Operand} (ho : o.op = .convert s d x) {k k' q : IntKind} {a : Int} (hx : val x = .int k' a) (hs : P.underlying s = some (.int q)) (hd : P.underlying d = some (.int k)) :
    RGoal P w ρ val o (.int k (k.wrap a)) :=
  ⟨_, by simp [execOp, ho, hx, convert, run_underlying' hs, run_underlying' hd, Conv.intToInt], .int (IntKind.has_wrap _ _)⟩
theorem R_str {o : Oper} {s d : TypeId} {x : Operand} (ho : o.op = .convert s d x) {v : ByteArray} (hx : val x = .string v) (hs : P.underlying s = some .string) (hd : P.underlying d = some .string) {a : AVal} (ha : VR ρ a (val x)) :
    RGoal P w ρ val o a :=
  ⟨_, by simp [execOp, ho, hx, convert, run_underlying' hs, run_underlying' hd]; rfl, by rw [hx] at ha; exact ha⟩
theorem R_ifc {o : Oper} {t : TypeId} {x : Operand} (ho : o.op = .makeInterface t x) {d : TypeDesc} (hu : P.underlying t = some d) (hd : ∀ m, d ≠ .interface m) {a : AVal} (ha : VR ρ a (val x)) :
    RGoal P w ρ val o (.ifc t a) := by
  refine ⟨_, ?_, .ifc ha⟩
  simp only [execOp, ho, Instr.makeInterface, Sem.run_bind, run_underlying' hu, Result.andThen_ok]
  cases d <;> first | rfl | exact absurd rfl (hd _)
theorem R_asrt {o : Oper} {t xt : TypeId} {x : Operand} (ho : o.op = .typeAssert x xt t false) {d : TypeDesc} (hu : P.underlying t = some d) (hd : ∀ m, d ≠ .interface m) {a : AVal} (ha : VR ρ (.ifc t a) (val x)) :
    RGoal P w ρ val o a := by
  generalize hv : val x = v at ha
  cases ha with
  | ifc ha =>
    refine ⟨_, ?_, ha⟩
    simp only [execOp, ho, hv, Instr.typeAssert, Sem.run_bind, run_underlying' hu, Result.andThen_ok]
    cases d <;> first | exact absurd rfl (hd _) | simp
theorem R_ext {o : Oper} {x : Operand} {i : Nat} (ho : o.op = .extract x i) {vs : List AVal} (hx : VR ρ (.tup vs) (val x)) {v : AVal} (hi : vs[i]? = some v) : RGoal P w ρ val o v := by
  generalize hv : val x = u at hx
  cases hx with
  | tup h =>
    obtain ⟨v', h1, h2⟩ := h.get hi
    exact ⟨v', by simp [execOp, ho, hv, Instr.extract, h1], h2⟩

theorem R_part {o : Oper} {t : TypeId} {x : Operand} {i : Nat} (ho : o.op = .field t x i) {fs : Array Field} {fd : Field} (hu : P.underlying t = some (.struct fs)) (hf : fs[i]? = some fd)
    {n : Nat} {ag : Bool} (ht : ty P fd.type = some (n, ag)) {l : List AVal} (hx : VR ρ (.agg l) (val x)) {v : AVal}
    (hv : (if ag then ((dropW l fd.offset).bind fun d => takeW d n).map aggOf else cellAt l fd.offset) = some v) : RGoal P w ρ val o v := by
  unfold ty at ht
  split at ht
  · rename_i i' d hi hd
    simp only [Option.some.injEq, Prod.mk.injEq] at ht
    obtain ⟨hn, hag⟩ := ht
    generalize hvx : val x = u at hx
    cases hx with
    | agg hc =>
      rename_i l'
      unfold RGoal
      simp only [execOp, ho, hvx, Instr.field, Sem.run_bind, run_underlying' hu, Result.andThen_ok, hf, asAgg, Sem.run_pure, part, run_isAgg' hd, hag]
      cases ag with
      | true =>
        simp only [if_true] at hv ⊢
        obtain ⟨t', ht', rfl⟩ := Option.map_eq_some_iff.1 hv
        obtain ⟨dd, hd1, hd2⟩ := Option.bind_eq_some_iff.1 ht'
        obtain ⟨g1, g2⟩ := dropW_CR hc hd1
        obtain ⟨g3, g4⟩ := takeW_CR g2 hd2
        refine ⟨.agg ((l'.drop fd.offset).take n).toArray, ?_, aggOf_VR g4⟩
        simp [run_sizeOf' (P := P) (w := w) (t := fd.type) (n := n) (by simp [hi, hn]), List.extract_toArray, List.extract_eq_take_drop]
      | false =>
        simp only [Bool.false_eq_true, if_false] at hv ⊢
        obtain ⟨v', h1, h2, _⟩ := cellAt_CR hc hv
        exact ⟨v', by simp [h1], h2⟩
  · contradiction

theorem R_min {o : Oper} {x y : Operand} {at_ : Array TypeId} {mx : Bool} (ho : o.op = .call { callee := .builtin (if mx then .max else .min), args := #[x, y], argTypes := at_ })
    {k : IntKind} {a b : Int} (hx : val x = .int k a) (hy : val y = .int k b) (ha : k.has a) (hb : k.has b) :
    RGoal P w ρ val o (.int k (cond mx (if b > a then b else a) (if b < a then b else a))) := by
  refine ⟨_, ?_, .int ?_⟩
  · cases mx
    · simp [execOp, ho, resolve, invoke, builtin, Builtin.min_, Builtin.min2, hx, hy]
    · simp [execOp, ho, resolve, invoke, builtin, Builtin.max_, Builtin.max2, hx, hy]
  · cases mx <;> simp only [cond] <;> split <;> assumption

theorem mm_has {k : IntKind} {a b : Int} (mx : Bool) (ha : k.has a) (hb : k.has b) : k.has (mm mx a b) := by
  unfold mm; cases mx <;> simp only [cond] <;> split <;> assumption
theorem R_min3 {o : Oper} {x y z : Operand} {at_ : Array TypeId} {mx : Bool} (ho : o.op = .call { callee := .builtin (if mx then .max else .min), args := #[x, y, z], argTypes := at_ })
    {k : IntKind} {a b c : Int} (hx : val x = .int k a) (hy : val y = .int k b) (hz : val z = .int k c) (ha : k.has a) (hb : k.has b) (hc : k.has c) :
    RGoal P w ρ val o (.int k (mm mx (mm mx a b) c)) := by
  refine ⟨_, ?_, .int (mm_has mx (mm_has mx ha hb) hc)⟩
  cases mx
  · simp [execOp, ho, resolve, invoke, builtin, Builtin.min_, Builtin.min2, hx, hy, hz, mm]
  · simp [execOp, ho, resolve, invoke, builtin, Builtin.max_, Builtin.max2, hx, hy, hz, mm]
theorem R_len {o : Oper} {x : Operand} {t : TypeId} (ho : o.op = .call { callee := .builtin .len, args := #[x], argTypes := #[t] }) {n : Int}
    (hl : (Builtin.len_ #[t] o.type #[val x]).run P w = .ok (goInt n) w) (hn : IntKind.i64.has n) : RGoal P w ρ val o (.int .i64 n) := by
  refine ⟨_, ?_, .int hn⟩
  simp [execOp, ho, resolve, invoke, builtin, hl, goInt]

theorem R_cap {o : Oper} {x : Operand} {t e : TypeId} (ho : o.op = .call { callee := .builtin .cap, args := #[x], argTypes := #[t] }) (hu : P.underlying t = some (.slice e)) {a : Option Addr} {n c : Nat}
    (hx : val x = .slice a n c) (hc : c ≤ 9223372036854775807) : RGoal P w ρ val o (.int .i64 (c : Int)) := by
  refine ⟨.int .i64 (c : Int), ?_, .int ⟨?_, ?_⟩⟩
  · simp [execOp, ho, resolve, invoke, builtin, Builtin.cap_, run_underlying' hu, hx, goInt]
  · simp only [IntKind.min, IntKind.signed, IntKind.bits]; omega
  · simp only [IntKind.max, IntKind.signed, IntKind.bits]; simp; omega
theorem R_mkfn {o : Oper} {f : Fn} {a b : Array Operand} (ho : o.op = .makeFunc f a b) {l m : List AVal} (hl : VRs ρ l (a.toList.map val)) (hm : VRs ρ m (b.toList.map val)) :
    RGoal P w ρ val o (.fn f l m) := by
  refine ⟨_, ?_, .fn hl hm⟩
  simp only [execOp, ho, Instr.makeFunc, Sem.run_bind, Sem.run_pure, Result.andThen_ok]
  congr 3
  · exact Array.ext' (by simp)
  · exact Array.ext' (by simp)

theorem R_idxA {o : Oper} {t e : TypeId} {x i : Operand} (ho : o.op = .indexAddr t x i) {n z : Nat} (hu : P.underlying t = some (.array n e)) (hz : sz? P e = some z) {p : APtr} {a : Addr}
    (hx : val x = .pointer (some a)) (ha : ρ.addr p = some a) {k : IntKind} {j : Int} (hi : val i = .int k j) (h0 : 0 ≤ j) (h1 : j < n) :
    RGoal P w ρ val o (.ptr (some { p with off := p.off + j.toNat * z })) := by
  refine ⟨.pointer (some (a.add (j.toNat * z))), ?_, .ptr (addr_off ha _)⟩
  simp [execOp, ho, Instr.indexAt, hx, hi, asIntOf, run_underlying' hu, Instr.sureAddr, h0, h1, run_sizeOf' (P := P) (w := w) hz]

theorem R_idxS {o : Oper} {t e : TypeId} {x i : Operand} (ho : o.op = .indexAddr t x i) {z : Nat} (hu : P.underlying t = some (.slice e)) (hz : sz? P e = some z) {p : APtr} {a : Addr} {n c : Nat}
    (hx : val x = .slice (some a) n c) (ha : ρ.addr p = some a) (hrs : p.rs = z) {k : IntKind} {j : Int} (hi : val i = .int k j) (h0 : 0 ≤ j) (h1 : j < n) :
    RGoal P w ρ val o (.ptr (some { p with row := p.row + j.toNat })) := by
  refine ⟨.pointer (some (a.add (j.toNat * z))), ?_, .ptr (by rw [← hrs]; exact addr_row ha _)⟩
  simp [execOp, ho, Instr.indexAt, hx, hi, asIntOf, run_underlying' hu, h0, h1, run_sizeOf' (P := P) (w := w) hz]

theorem R_at {o : Oper} {t e : TypeId} {x i : Operand} (ho : o.op = .index t x i) {n : Nat} (hu : P.underlying t = some (.array n e)) {z : Nat} {ag : Bool} (ht : ty P e = some (z, ag))
    {l : List AVal} (hx : VR ρ (.agg l) (val x)) {k : IntKind} {j : Int} (hi : val i = .int k j) (h0 : 0 ≤ j) (h1 : j < n) {v : AVal}
    (hv : (if ag then ((dropW l (j.toNat * z)).bind fun d => takeW d z).map aggOf else cellAt l (j.toNat * z)) = some v) : RGoal P w ρ val o v := by
  unfold ty at ht
  split at ht
  · rename_i i' d hi' hd
    simp only [Option.some.injEq, Prod.mk.injEq] at ht
    obtain ⟨hn, hag⟩ := ht
    generalize hvx : val x = u at hx
    cases hx with
    | agg hc =>
      rename_i l'
      have hz := run_sizeOf' (P := P) (w := w) (t := e) (n := z) (by simp [hi', hn])
      unfold RGoal
      simp only [execOp, ho, hvx, hi, Instr.index, asIntOf, Sem.run_bind, Sem.run_pure, run_underlying' hu, Result.andThen_ok, h0, h1, and_self, if_true, hz, part, run_isAgg' hd, hag]
      cases ag with
      | true =>
        simp only [if_true] at hv ⊢
        obtain ⟨t', ht', rfl⟩ := Option.map_eq_some_iff.1 hv
        obtain ⟨dd, hd1, hd2⟩ := Option.bind_eq_some_iff.1 ht'
        obtain ⟨g1, g2⟩ := dropW_CR hc hd1
        obtain ⟨g3, g4⟩ := takeW_CR g2 hd2
        refine ⟨.agg ((l'.drop (j.toNat * z)).take z).toArray, ?_, aggOf_VR g4⟩
        simp [hz, List.extract_toArray, List.extract_eq_take_drop]
      | false =>
        simp only [Bool.false_eq_true, if_false] at hv ⊢
        obtain ⟨v', h1, h2, _⟩ := cellAt_CR hc hv
        exact ⟨v', by simp [h1], h2⟩
  · contradiction

theorem R_atW {o : Oper} {t e : TypeId} {x i : Operand} (ho : o.op = .index t x i) {n : Nat} (hu : P.underlying t = some (.array n e)) (ht : ty P e = some (1, false))
    {q : IntKind} {l : List Int} (hx : VR ρ (.ai q n l) (val x)) {k : IntKind} {j : Int} (hi : val i = .int k j) (h0 : 0 ≤ j) (h1 : j < n) :
    RGoal P w ρ val o (.int q (l.getD j.toNat 0)) := by
  unfold ty at ht
  split at ht
  · rename_i i' d hi' hd
    simp only [Option.some.injEq, Prod.mk.injEq] at ht
    obtain ⟨hn, hag⟩ := ht
    generalize hvx : val x = u at hx
    cases hx with
    | ai hl hk =>
      have hz := run_sizeOf' (P := P) (w := w) (t := e) (n := 1) (by simp [hi', hn])
      have hlt : j.toNat < l.length := by omega
      refine ⟨.int q l[j.toNat], ?_, ?_⟩
      · simp only [execOp, ho, hvx, hi, Instr.index, asIntOf, Sem.run_bind, Sem.run_pure, run_underlying' hu, Result.andThen_ok, h0, h1, and_self, if_true, hz, part, run_isAgg' hd, hag]
        simp [hlt]
      · have : l.getD j.toNat 0 = l[j.toNat] := by simp [hlt]
        rw [this]; exact .int (hk _ (List.getElem_mem hlt))
  · contradiction

theorem bytesI_get {s : ByteArray} {i : Nat} (hi : i < (bytesI s).length) : ∃ b, s[i]? = some b ∧ (bytesI s)[i] = (b.toNat : Int) := by
  unfold bytesI at hi
  simp at hi
  refine ⟨s.data[i], ?_, by simp [bytesI]⟩
  show s[i]? = _
  have : i < s.size := hi
  rw [getElem?_pos s i this]; rfl
theorem u8_has (b : UInt8) : IntKind.u8.has (b.toNat : Int) := by
  have := b.toNat_lt
  constructor
  · show (IntKind.u8.min) ≤ _; rw [show IntKind.u8.min = 0 by decide]; omega
  · rw [show IntKind.u8.max = 255 by decide]; omega
theorem bytesI_len (s : ByteArray) : (bytesI s).length = s.size := by simp [bytesI]

theorem R_strAt {o : Oper} {t : TypeId} {x i : Operand} (ho : o.op = .index t x i) (hu : P.underlying t = some .string) {s : ByteArray} (hx : val x = .string s) {k : IntKind} {j : Int} (hi : val i = .int k j)
    (h0 : 0 ≤ j) (h1 : j < (bytesI s).length) : RGoal P w ρ val o (.int .u8 ((bytesI s).getD j.toNat 0)) := by
  have hlt : j.toNat < (bytesI s).length := by omega
  obtain ⟨b, hb, hb2⟩ := bytesI_get hlt
  refine ⟨.int .u8 b.toNat, ?_, ?_⟩
  · simp [execOp, ho, hx, hi, Instr.index, asIntOf, run_underlying' hu, h0, hb]
  · have : (bytesI s).getD j.toNat 0 = b.toNat := by simp [hlt, hb2]
    rw [this]; exact .int (u8_has b)

theorem bytesI_append (a b : ByteArray) : bytesI (a ++ b) = bytesI a ++ bytesI b := by
  unfold bytesI
  rw [show (a ++ b).data = a.data ++ b.data from ByteArray.data_append]
  simp
theorem bytesI_extract (s : ByteArray) (a b : Nat) : bytesI (s.extract a b) = ((bytesI s).drop a).take (b - a) := by
  unfold bytesI
  rw [ByteArray.data_extract]
  simp [List.extract_eq_take_drop, List.map_take, List.map_drop]

theorem R_concat {o : Oper} {t yt : TypeId} {x y : Operand} (ho : o.op = .binOp .add t x y yt) {a b : ByteArray} (hx : val x = .string a) (hy : val y = .string b)
    (hl : (bytesI a).length + (bytesI b).length ≤ 9223372036854775807) : RGoal P w ρ val o (.str (bytesI a ++ bytesI b)) := by
  refine ⟨.string (a ++ b), ?_, .str (bytesI_append a b)⟩
  rw [bytesI_len, bytesI_len] at hl
  have hm : IntKind.i64.max = 9223372036854775807 := by decide
  have hg : (eqGuard .add t x y (.string a) (.string b)).run P w = .ok () w := guard_none (.inl (by simp)) (.inl (by simp))
  simp only [execOp, ho, hx, hy, Sem.run_bind, hg, Result.andThen_ok, binOp, Op.stringOp, hm]
  rw [if_neg (by omega)]
  rfl

/-- A bound that may be left out. -/
def OptI (val : Operand → Value) (lo : Option Operand) (a : Option Int) : Prop :=
  match lo, a with
  | none, none => True
  | some l, some a => ∃ k, val l = .int k a
  | _, _ => False

theorem run_sliceBound {v : Value} {k : IntKind} {i : Int} {y : Nat} {c : BoundsCode} (hv : v = .int k i) (h0 : 0 ≤ i) (h1 : i ≤ y) : (Instr.sliceBound v y c).run P w = .ok i.toNat w := by
  subst hv
  simp [Instr.sliceBound, asIntOf, h0, h1]

theorem R_slcStr {o : Oper} {t : TypeId} {x : Operand} {lo hi : Option Operand} (ho : o.op = .slice t x lo hi none) (hu : P.underlying t = some .string) {s : ByteArray} (hx : val x = .string s) {a b : Option Int}
    (hlo : OptI val lo a) (hhi : OptI val hi b)
    (h0 : 0 ≤ a.getD 0) (h1 : a.getD 0 ≤ b.getD (bytesI s).length) (h2 : b.getD (bytesI s).length ≤ (bytesI s).length) :
    RGoal P w ρ val o (.str (cutStr (bytesI s) a b)) := by
  rw [bytesI_len] at h1 h2
  refine ⟨.string (s.extract (a.getD 0).toNat (b.getD s.size).toNat), ?_, .str ?_⟩
  · cases lo <;> cases a <;> simp [OptI] at hlo <;> cases hi <;> cases b <;> simp [OptI] at hhi
    all_goals
      simp only [Option.getD_none, Option.getD_some] at h0 h1 h2
      simp only [execOp, ho, hx, Instr.sliceAt, run_underlying' hu, Sem.run_bind, Result.andThen_ok, Instr.slice, Option.map_none, Option.map_some, Option.isSome_none, Bool.false_eq_true, if_false, Instr.sliceBounds, Sem.run_pure]
    · simp
    · obtain ⟨k, hk⟩ := hhi
      rw [run_sliceBound hk h1 h2]; simp
    · obtain ⟨k, hk⟩ := hlo
      rw [run_sliceBound hk h0 h1]; simp
    · obtain ⟨k, hk⟩ := hlo
      obtain ⟨k', hk'⟩ := hhi
      rw [run_sliceBound hk' (by omega) h2]
      simp only [Result.andThen_ok]
      rw [run_sliceBound hk h0 (by omega)]; simp
  · rw [bytesI_extract]
    cases a <;> cases b <;> simp [cutStr]
    · rw [List.take_of_length_le (by rw [bytesI_len]; exact Nat.le_refl _)]
    · rw [List.take_of_length_le (by simp [bytesI_len])]

end
end Go.Sx

/- Slices, lengths, conversions, look-ups, literals. -/
set_option linter.unusedSimpArgs false
set_option linter.unusedVariables false
namespace Go.Sx
section
variable {P : Program} {w : World} {B : Base} {ρ : Inj} {h : Heap} {val : Operand → Value}

theorem lenOf_sound (S : Sim B ρ h w) {p : APtr} {n : SLen} {k : Nat} (hl : lenOf h (some p) n = some k) : ρ.len p n = k := by
  cases n with
  | n j => simpa [lenOf, Inj.len] using hl
  | all =>
    simp only [lenOf] at hl
    split at hl
    · rename_i ro t l hb
      obtain ⟨h1, _⟩ := S.blk _ _ (getB_some hb rfl)
      split at hl
      · rename_i hr
        simp only [Option.some.injEq] at hl
        simp [Inj.len, hr, ← h1, hl]
      · rename_i r hr
        simp only [Option.some.injEq] at hl
        simp [Inj.len, hr, ← h1, hl]
    · contradiction

/-- A slice that lies somewhere. -/
inductive SlV (ρ : Inj) (p : APtr) (n : SLen) (c : Cap) : Value → Prop
  | nought (a : Option Addr) (hp : p.id < ρ.n) (hn : ρ.len p n = 0) (hc : c.fits 0 0) : SlV ρ p n c (.slice a 0 0)
  | there {L : Loc} {c' : Nat} (hl : ρ.loc p.id = some L) (hn : ρ.len p n ≤ c') (hc : c.fits (ρ.len p n) c')
      (hr : c.tight = false → p.off = 0 ∧ L.base + (p.row + c') * p.rs ≤ L.size) :
      SlV ρ p n c (.slice (some ⟨L.blk, L.base + (p.row * p.rs + p.off), none⟩) (ρ.len p n) c')
theorem VR.slV {p : APtr} {n : SLen} {c : Cap} {v : Value} (h : VR ρ (.slice (some p) n c) v) : SlV ρ p n c v := by
  cases h with
  | slice0 a hp hn hc => exact .nought a hp hn hc
  | slice hl hn hc hr => exact .there hl hn hc hr
theorem Inj.lt (ρ : Inj) {i : Nat} {L : Loc} (h : ρ.loc i = some L) : i < ρ.n := by
  rcases Nat.lt_or_ge i ρ.n with h' | h'
  · exact h'
  · rw [ρ.dom i h'] at h; cases h
theorem SlV.lt {p : APtr} {n : SLen} {c : Cap} {v : Value} (h : SlV ρ p n c v) : p.id < ρ.n := by
  cases h with
  | nought a hp hn hc => exact hp
  | there hl hn hc hr => exact ρ.lt hl
theorem SlV.vr {p : APtr} {n : SLen} {c : Cap} {v : Value} (h : SlV ρ p n c v) : VR ρ (.slice (some p) n c) v := by
  cases h with
  | nought a hp hn hc => exact .slice0 a hp hn hc
  | there hl hn hc hr => exact .slice hl hn hc hr

theorem run_bounds {sl : Bool} {len cap : Nat} {lo hi mx : Option Operand} {a b m : Option Int} (hlo : OptI val lo a) (hhi : OptI val hi b) (hmx : OptI val mx m)
    (hm : m ≠ none → b ≠ none) (h0 : 0 ≤ a.getD 0) (h1 : a.getD 0 ≤ b.getD len) (h2 : b.getD len ≤ m.getD cap) (h3 : m.getD cap ≤ cap) :
    (Instr.sliceBounds sl len cap (lo.map val) (hi.map val) (mx.map val)).run P w = .ok ((a.getD 0).toNat, (b.getD len).toNat, (m.getD cap).toNat) w := by
  unfold OptI at hlo hhi hmx
  cases mx <;> cases m <;> simp only at hmx
  · cases hi <;> cases b <;> simp only at hhi
    · cases lo <;> cases a <;> simp only at hlo
      · simp [Instr.sliceBounds]
      · obtain ⟨k, hk⟩ := hlo
        simp only [Option.getD_none, Option.getD_some] at h0 h1 h2 h3
        simp only [Instr.sliceBounds, Option.map_none, Option.map_some, Sem.run_bind, Sem.run_pure, Result.andThen_ok, Option.isSome_none, Bool.false_eq_true, if_false]
        rw [run_sliceBound hk h0 h1]; simp
    · obtain ⟨k', hk'⟩ := hhi
      simp only [Option.getD_none, Option.getD_some] at h0 h1 h2 h3
      cases lo <;> cases a <;> simp only at hlo
      · simp only [Option.getD_none, Option.getD_some] at h0 h1
        simp only [Instr.sliceBounds, Option.map_none, Option.map_some, Sem.run_bind, Sem.run_pure, Result.andThen_ok, Option.isSome_none, Bool.false_eq_true, if_false]
        rw [run_sliceBound hk' h1 h2]; simp
      · obtain ⟨k, hk⟩ := hlo
        simp only [Option.getD_none, Option.getD_some] at h0 h1
        simp only [Instr.sliceBounds, Option.map_none, Option.map_some, Sem.run_bind, Sem.run_pure, Result.andThen_ok, Option.isSome_none, Bool.false_eq_true, if_false]
        rw [run_sliceBound hk' (by omega) h2]
        simp only [Result.andThen_ok]
        rw [run_sliceBound hk h0 (by omega)]; simp
  · obtain ⟨k2, hk2⟩ := hmx
    cases hi <;> cases b <;> simp only at hhi
    · exact absurd rfl (hm (by simp))
    · obtain ⟨k', hk'⟩ := hhi
      simp only [Option.getD_none, Option.getD_some] at h0 h1 h2 h3
      cases lo <;> cases a <;> simp only at hlo
      · simp only [Option.getD_none, Option.getD_some] at h0 h1
        simp only [Instr.sliceBounds, Option.map_none, Option.map_some, Sem.run_bind, Sem.run_pure, Result.andThen_ok, Option.isSome_some, if_true]
        rw [run_sliceBound hk2 (by omega) h3]
        simp only [Result.andThen_ok]
        rw [run_sliceBound hk' h1 (by omega)]; simp
      · obtain ⟨k, hk⟩ := hlo
        simp only [Option.getD_none, Option.getD_some] at h0 h1
        simp only [Instr.sliceBounds, Option.map_none, Option.map_some, Sem.run_bind, Sem.run_pure, Result.andThen_ok, Option.isSome_some, if_true]
        rw [run_sliceBound hk2 (by omega) h3]
        simp only [Result.andThen_ok]
        rw [run_sliceBound hk' (by omega) (by omega)]
        simp only [Result.andThen_ok]
        rw [run_sliceBound hk h0 (by omega)]; simp

theorem addRow_none (p : APtr) : addRow p none = p := rfl
theorem addRow_row (p : APtr) (a : Option Int) : (addRow p a).row = p.row + (a.getD 0).toNat := by cases a <;> simp [addRow]
theorem addRow_id (p : APtr) (a : Option Int) : (addRow p a).id = p.id := by cases a <;> rfl
theorem addRow_rs (p : APtr) (a : Option Int) : (addRow p a).rs = p.rs := by cases a <;> rfl
theorem addRow_off (p : APtr) (a : Option Int) : (addRow p a).off = p.off := by cases a <;> rfl

/-- What slicing makes of a slice. -/
theorem SlV.cut {p : APtr} {n n' : SLen} {c c' : Cap} {a : Option Int} {lo hi cap : Nat} {ad : Option Addr} {len : Nat} (h : SlV ρ p n c (.slice ad len cap)) (hlo : lo = (a.getD 0).toNat)
    {m : Nat} (h1 : lo ≤ hi) (h2 : hi ≤ m) (h3 : m ≤ cap) (hn : ρ.len (addRow p a) n' = hi - lo) (hc : c'.fits (hi - lo) (m - lo)) (ht : c'.tight = false → c.tight = false) :
    SlV ρ (addRow p a) n' c' (.slice (if m = lo then ad else ad.map (·.add (lo * p.rs))) (hi - lo) (m - lo)) := by
  have hz : m = lo → SlV ρ (addRow p a) n' c' (.slice (if m = lo then ad else ad.map (·.add (lo * p.rs))) (hi - lo) (m - lo)) := by
    intro e
    have e1 : hi - lo = 0 := by omega
    have e2 : m - lo = 0 := by omega
    rw [if_pos e, e1, e2]
    rw [e1, e2] at hc
    exact .nought _ (by rw [addRow_id]; exact h.lt) (by rw [hn, e1]) hc
  by_cases e : m = lo
  · exact hz e
  · rw [if_neg e]
    cases h with
    | nought a' hp' hn' hc' => omega
    | there hl hn' hc' hr =>
      rename_i L
      have := SlV.there (ρ := ρ) (p := addRow p a) (n := n') (c := c') (L := L) (c' := m - lo) (by rw [addRow_id]; exact hl) (by rw [hn]; omega) (by rw [hn]; exact hc) (fun ht' => by
        obtain ⟨g1, g2⟩ := hr (ht ht')
        refine ⟨by rw [addRow_off]; exact g1, ?_⟩
        rw [addRow_row, addRow_rs, ← hlo]
        have : (p.row + lo + (m - lo)) * p.rs ≤ (p.row + cap) * p.rs := Nat.mul_le_mul_right _ (by omega)
        omega)
      rw [hn, addRow_row, addRow_rs, addRow_off, ← hlo] at this
      have ea : (Option.map (fun x : Addr => x.add (lo * p.rs)) (some ⟨L.blk, L.base + (p.row * p.rs + p.off), none⟩)) = some ⟨L.blk, L.base + ((p.row + lo) * p.rs + p.off), none⟩ := by
        simp only [Option.map_some, Addr.add]
        split
        · rename_i hh; rw [Nat.add_mul, hh]; rfl
        · rw [Nat.add_mul]; simp only [Option.some.injEq, Addr.mk.injEq, true_and, and_true]; omega
      rw [ea]
      exact this

theorem slcS_sound {p : APtr} {n : SLen} {len : Nat} {c : Cap} {a b m : Option Int} {v : AVal} (hs : slcS p n len c a b m = some (true, v)) {ad : Option Addr} {cap : Nat}
    (hv : SlV ρ p n c (.slice ad len cap)) (hlen : ρ.len p n = len) :
    (m ≠ none → b ≠ none) ∧ 0 ≤ a.getD 0 ∧ a.getD 0 ≤ b.getD len ∧ b.getD len ≤ m.getD cap ∧ m.getD cap ≤ cap ∧
      VR ρ v (.slice (if (m.getD cap).toNat = (a.getD 0).toNat then ad else ad.map (·.add ((a.getD 0).toNat * p.rs))) ((b.getD len).toNat - (a.getD 0).toNat) ((m.getD cap).toNat - (a.getD 0).toNat)) := by
  have hlc : len ≤ cap ∧ c.fits len cap := by
    cases hv with
    | nought _ _ h1 h2 => exact ⟨Nat.le_refl _, h2⟩
    | there hl hn hc hr => exact ⟨by omega, hc⟩
  obtain ⟨hlc, hfit⟩ := hlc
  unfold slcS at hs
  cases m with
  | some m =>
    cases b with
    | none => simp at hs
    | some b =>
      simp only [Option.some.injEq, Prod.mk.injEq, Bool.and_eq_true, decide_eq_true_eq] at hs
      obtain ⟨⟨h0, h1, h2, h3⟩, rfl⟩ := hs
      simp only [Option.getD_some]
      refine ⟨by simp, h0, h1, h2, by omega, ?_⟩
      exact (hv.cut (n' := .n (b.toNat - (a.getD 0).toNat)) (c' := .exact (m.toNat - (a.getD 0).toNat)) (lo := (a.getD 0).toNat) (hi := b.toNat) (m := m.toNat) rfl (by omega) (by omega) (by omega) rfl rfl (by simp [Cap.tight])).vr
  | none =>
    cases b with
    | none =>
      cases a with
      | none =>
        simp only [Option.some.injEq, Prod.mk.injEq, true_and] at hs
        subst hs
        refine ⟨by simp, by simp, by simp, by simpa using hlc, by simp, ?_⟩
        have := hv.cut (n' := n) (c' := c) (a := none) (lo := 0) (hi := len) (m := cap) rfl (by omega) hlc (Nat.le_refl _) (by simpa [addRow] using hlen) (by simpa using hfit) id
        simpa [addRow] using this.vr
      | some a =>
        simp only [Option.some.injEq, Prod.mk.injEq, Bool.and_eq_true, decide_eq_true_eq, Option.getD_some] at hs
        obtain ⟨⟨h0, h1⟩, rfl⟩ := hs
        simp only [Option.getD_some, Option.getD_none]
        refine ⟨by simp, h0, h1, by omega, by omega, ?_⟩
        have := hv.cut (n' := n.sub a.toNat) (c' := c.sub a.toNat) (a := some a) (lo := a.toNat) (hi := len) (m := cap) rfl (by omega) hlc (Nat.le_refl _)
          (by
            cases n with
            | n k => simp [Inj.len, SLen.sub] at hlen ⊢; omega
            | all => simp [Inj.len, addRow, SLen.sub] at hlen ⊢; omega)
          (by cases c <;> simp [Cap.sub, Cap.fits] at hfit ⊢ <;> omega) (by cases c <;> simp [Cap.sub, Cap.tight])
        simpa using this.vr
    | some b =>
      simp only [Option.some.injEq, Prod.mk.injEq, Bool.and_eq_true, decide_eq_true_eq] at hs
      obtain ⟨⟨h0, h1, h2⟩, rfl⟩ := hs
      have hle : c.least len ≤ cap := by cases c <;> simp [Cap.least, Cap.fits] at hfit ⊢ <;> omega
      simp only [Option.getD_some, Option.getD_none]
      refine ⟨by simp, h0, h1, by omega, by omega, ?_⟩
      have := hv.cut (n' := .n (b.toNat - (a.getD 0).toNat)) (c' := c.cut len (a.getD 0).toNat) (a := a) (lo := (a.getD 0).toNat)
        (hi := b.toNat) (m := cap) rfl (by omega) (by omega) (Nat.le_refl _) rfl
        (by cases c <;> simp [Cap.least, Cap.fits, Cap.cut] at hfit hle ⊢ <;> omega) (by cases c <;> simp [Cap.tight, Cap.cut])
      simpa using this.vr

theorem R_slcS {o : Oper} {t e : TypeId} {x : Operand} {lo hi mx : Option Operand} (ho : o.op = .slice t x lo hi mx) {z : Nat} (hu : P.underlying t = some (.slice e)) (hz : sz? P e = some z)
    {p : APtr} {n : SLen} {c : Cap} (hx : VR ρ (.slice (some p) n c) (val x)) {len : Nat} (hlen : ρ.len p n = len) (hrs : p.rs = z) {a b m : Option Int}
    (hlo : OptI val lo a) (hhi : OptI val hi b) (hmx : OptI val mx m) {v : AVal} (hs : slcS p n len c a b m = some (true, v)) : RGoal P w ρ val o v := by
  have hv := hx.slV
  generalize hvx : val x = vx at hv
  have hsl : ∃ ad cap, vx = .slice ad len cap := by
    cases hv with
    | nought a' _ h1 h2 => rw [← hlen, h1]; exact ⟨_, _, rfl⟩
    | there _ _ _ _ => rw [← hlen]; exact ⟨_, _, rfl⟩
  obtain ⟨ad, cap, rfl⟩ := hsl
  obtain ⟨g1, g2, g3, g4, g5, g6⟩ := slcS_sound hs hv hlen
  refine ⟨_, ?_, g6⟩
  simp only [execOp, ho, hvx, Instr.sliceAt, run_underlying' hu, Sem.run_bind, Result.andThen_ok, Instr.slice, run_bounds (P := P) (w := w) hlo hhi hmx g1 g2 g3 g4 g5, run_sizeOf' (P := P) (w := w) hz, Sem.run_pure, hrs]

theorem cutStr_eq (s : List Int) (a b : Option Int) : cutStr s a b = (s.drop (a.getD 0).toNat).take ((b.getD s.length).toNat - (a.getD 0).toNat) := by
  cases a <;> cases b <;> simp [cutStr]
  rw [List.take_of_length_le (by simp)]
theorem R_slcF {o : Oper} {t e : TypeId} {x : Operand} {lo hi : Option Operand} (ho : o.op = .slice t x lo hi none) (hu : P.underlying t = some (.slice e)) (hz : sz? P e = some 1)
    {xs : List Int} (hx : VR ρ (.fby xs) (val x)) {a b : Option Int} (hlo : OptI val lo a) (hhi : OptI val hi b)
    (h0 : 0 ≤ a.getD 0) (h1 : a.getD 0 ≤ b.getD xs.length) (h2 : b.getD xs.length ≤ xs.length) : RGoal P w ρ val o (.fby (cutStr xs a b)) := by
  generalize hvx : val x = vx at hx
  have hsl : ∃ ad cap, vx = .slice ad xs.length cap ∧ xs.length ≤ cap := by
    cases hx with
    | fby0 a c => exact ⟨_, _, rfl, Nat.zero_le _⟩
    | fby _ _ _ hc => exact ⟨_, _, rfl, hc⟩
  obtain ⟨ad, cap, rfl, hlc⟩ := hsl
  have hb := run_bounds (P := P) (w := w) (sl := true) (len := xs.length) (cap := cap) hlo hhi (show OptI val none none from trivial) (by simp) h0 h1 (by simp only [Option.getD_none]; omega) (by simp)
  refine ⟨_, by
    simp only [execOp, ho, hvx, Instr.sliceAt, run_underlying' hu, Sem.run_bind, Result.andThen_ok, Instr.slice, hb, run_sizeOf' (P := P) (w := w) hz, Sem.run_pure]
    exact rfl, ?_⟩
  rw [cutStr_eq]
  have hlen : ((xs.drop (a.getD 0).toNat).take ((b.getD xs.length).toNat - (a.getD 0).toNat)).length = (b.getD xs.length).toNat - (a.getD 0).toNat := by
    rw [List.length_take, List.length_drop]; omega
  simp only [Option.getD_none, Int.toNat_natCast, Nat.mul_one]
  cases hx with
  | fby0 a' c =>
    have e1 : (b.getD ((([] : List Int).length : Nat) : Int)).toNat - (a.getD 0).toNat = 0 := by simp only [List.length_nil] at h1 h2 ⊢; omega
    rw [e1]
    simp only [List.drop_nil, List.take_nil]
    exact .fby0 _ _
  | fby hi hxs hl hc =>
    rename_i bk off l i
    by_cases hz0 : (b.getD xs.length).toNat - (a.getD 0).toNat = 0
    · rw [hz0, List.take_zero]
      exact .fby0 _ _
    · rw [if_neg (by omega)]
      simp only [Option.map_some, Addr.add]
      have := VR.fby (ρ := ρ) (b := bk) (o := off) (l := l) (xs := (xs.drop (a.getD 0).toNat).take ((b.getD xs.length).toNat - (a.getD 0).toNat)) (i := i + (a.getD 0).toNat) (c := cap - (a.getD 0).toNat) hi
        (by
          rw [hlen]
          generalize (b.getD xs.length).toNat - (a.getD 0).toNat = m at hlen
          rw [hxs, List.drop_take, List.take_take, List.drop_drop]
          congr 1
          rw [List.length_take, List.length_drop] at hlen
          omega)
        (by rw [hlen]; omega) (by rw [hlen]; omega)
      rw [hlen] at this
      rw [show off + i + (a.getD 0).toNat = off + (i + (a.getD 0).toNat) by omega]
      have e : (if (a.getD 0).toNat = 0 then (⟨bk, off + i, none⟩ : Addr) else ⟨bk, off + (i + (a.getD 0).toNat), none⟩) = ⟨bk, off + (i + (a.getD 0).toNat), none⟩ := by
        split
        · rename_i h; rw [h]; rfl
        · rfl
      rw [e]
      exact this
theorem R_idxF {o : Oper} {t e : TypeId} {x i : Operand} (ho : o.op = .indexAddr t x i) (hu : P.underlying t = some (.slice e)) (hz : sz? P e = some 1)
    {xs : List Int} (hx : VR ρ (.fby xs) (val x)) {k : IntKind} {j : Int} (hi : val i = .int k j) (h0 : 0 ≤ j) {y : Int} (hy : xs[j.toNat]? = some y) :
    RGoal P w ρ val o (.fp y) := by
  generalize hvx : val x = vx at hx
  have hlt := (List.getElem?_eq_some_iff.1 hy).1
  cases hx with
  | fby0 a c => simp at hy
  | fby him hxs hl hc =>
    rename_i bk off l i0 cap
    refine ⟨.pointer (some ⟨bk, off + (i0 + j.toNat), none⟩), ?_, .fp him ?_⟩
    · have h1 : j < (xs.length : Int) := by omega
      simp [execOp, ho, Instr.indexAt, hvx, hi, asIntOf, run_underlying' hu, h0, h1, run_sizeOf' (P := P) (w := w) hz, Addr.add, Nat.add_assoc]
    · rw [hxs, List.getElem?_take, List.getElem?_drop] at hy
      by_cases hc2 : j.toNat < xs.length
      · rw [if_pos hc2] at hy; exact hy
      · rw [if_neg hc2] at hy; contradiction
theorem R_loadF {h : Heap} (S : Sim B ρ h w) {o : Oper} {t : TypeId} {x : Operand} (ho : o.op = .load t x) {y : Int} (hx : VR ρ (.fp y) (val x)) {n : Nat} (ht : ty P t = some (n, false)) :
    RGoal P w ρ val o (.int .u8 y) := by
  generalize hvx : val x = vx at hx
  cases hx with
  | fp him hy =>
    rename_i bk off i l
    obtain ⟨_, h2, h3, _⟩ := S.imm _ _ _ him
    have hcell := h3 i (.int .u8 y) (by rw [List.getElem?_map, hy]; rfl)
    refine ⟨.int .u8 y, ?_, .int (h2 y (List.mem_of_getElem? hy))⟩
    unfold ty at ht
    split at ht <;> try contradiction
    rename_i i' d hi hu
    simp only [Option.some.injEq, Prod.mk.injEq] at ht
    obtain ⟨hn, hag⟩ := ht
    simp only [execOp, ho, Instr.loadAt, hvx, Instr.sureAddr, loadVar, Sem.run_bind, Sem.run_pure, Result.andThen_ok, run_isAgg' hu, hag]
    simp [hcell]
theorem R_slcNil {o : Oper} {t e : TypeId} {x : Operand} (ho : o.op = .slice t x none none none) {z : Nat} (hu : P.underlying t = some (.slice e)) (hz : sz? P e = some z)
    {n : SLen} {c : Cap} (hx : VR ρ (.slice none n c) (val x)) : RGoal P w ρ val o (.slice none n c) := by
  generalize hvx : val x = vx at hx
  cases hx with
  | nils c hc =>
    refine ⟨_, ?_, .nils c hc⟩
    simp [execOp, ho, hvx, Instr.sliceAt, run_underlying' hu, Instr.slice, Instr.sliceBounds, run_sizeOf' (P := P) (w := w) hz]

theorem R_slcA {o : Oper} {t e : TypeId} {x : Operand} {lo hi : Option Operand} (ho : o.op = .slice t x lo hi none) {n z : Nat} (hu : P.underlying t = some (.array n e)) (hz : sz? P e = some z)
    {p : APtr} {ad : Addr} (hx : val x = .pointer (some ad)) (ha : ρ.addr p = some ad) {a b : Option Int} (hlo : OptI val lo a) (hhi : OptI val hi b)
    (h0 : 0 ≤ a.getD 0) (h1 : a.getD 0 ≤ b.getD n) (h2 : b.getD n ≤ (n : Int)) :
    RGoal P w ρ val o (.slice (some (addOff p z a)) (.n ((b.getD n).toNat - (a.getD 0).toNat)) (.exact (n - (a.getD 0).toNat))) := by
  have hb := run_bounds (P := P) (w := w) (sl := false) (len := n) (cap := n) hlo hhi (show OptI val none none from trivial) (by simp) h0 h1 (by simpa using h2) (by simp)
  refine ⟨.slice (some (if n = (a.getD 0).toNat then ad else ad.add ((a.getD 0).toNat * z))) ((b.getD n).toNat - (a.getD 0).toNat) (n - (a.getD 0).toNat), ?_, ?_⟩
  · have : ((Option.none.getD (n : Int)).toNat) = n := by simp
    simp only [execOp, ho, hx, Instr.sliceAt, run_underlying' hu, Sem.run_bind, Result.andThen_ok, Instr.sureAddr, Sem.run_pure, Option.map_none] at hb ⊢
    rw [hb]
    simp [run_sizeOf' (P := P) (w := w) hz]
  · by_cases e : n = (a.getD 0).toNat
    · rw [if_pos e]
      have e1 : (b.getD n).toNat - (a.getD 0).toNat = 0 := by omega
      have e2 : n - (a.getD 0).toNat = 0 := by omega
      rw [e1, e2]
      have hid : (addOff p z a).id < ρ.n := by
        have hid : (addOff p z a).id = p.id := by cases a <;> rfl
        rw [hid]
        unfold Inj.addr at ha
        obtain ⟨L, hL, _⟩ := Option.map_eq_some_iff.1 ha
        exact ρ.lt hL
      exact .slice0 _ hid rfl rfl
    · rw [if_neg e]
      have ha' : ρ.addr (addOff p z a) = some (ad.add ((a.getD 0).toNat * z)) := by
        cases a with
        | none => simp [Addr.add]; exact ha
        | some a => exact addr_off ha _
      generalize addOff p z a = q at ha' ⊢
      unfold Inj.addr at ha'
      obtain ⟨L, hL, hA⟩ := Option.map_eq_some_iff.1 ha'
      rw [← hA]
      have := VR.slice (ρ := ρ) (p := q) (n := .n ((b.getD n).toNat - (a.getD 0).toNat)) (c := .exact (n - (a.getD 0).toNat)) hL (c' := n - (a.getD 0).toNat) (by simp only [Inj.len]; omega) rfl (by simp [Cap.tight])
      exact this

end
end Go.Sx

/- Conversions of bytes, look-ups, literals; all operations that change nothing. -/
set_option linter.unusedSimpArgs false
set_option linter.unusedVariables false
namespace Go.Sx
section
variable {P : Program} {w : World} {B : Base} {ρ : Inj} {h : Heap} {val : Operand → Value}

/-! ### Rows in memory -/
/-- Cells of rows, one behind the other. -/
def encs (t : RT) (l : List t.T) : List AVal := l.flatMap t.enc

theorem Lies.append {b o : Nat} {l m : List Value} (h1 : Lies w b o l) (h2 : Lies w b (o + l.length) m) : Lies w b o (l ++ m) := by
  intro i v hi
  rw [List.getElem?_append] at hi
  split at hi
  · exact h1 i v hi
  · have := h2 _ v hi
    rwa [Nat.add_assoc, Nat.add_sub_cancel' (by omega)] at this

theorem rows_lie {t : RT} {b : Nat} : ∀ {l : List t.T} {o : Nat}, (∀ i x, l[i]? = some x → ∃ l', CR ρ (t.enc x) l' ∧ Lies w b (o + i * t.sz) l') → ∃ l', CR ρ (encs t l) l' ∧ Lies w b o l'
  | [], o, _ => ⟨[], .nil, by intro i v hi; simp at hi⟩
  | x :: l, o, H => by
    obtain ⟨a, h1, h2⟩ := H 0 x rfl
    obtain ⟨m, h3, h4⟩ := rows_lie (l := l) (o := o + t.sz) (fun i y hy => by
      obtain ⟨l', g1, g2⟩ := H (i + 1) y (by simpa using hy)
      refine ⟨l', g1, ?_⟩
      rw [Nat.add_mul, Nat.one_mul] at g2
      rwa [show o + t.sz + i * t.sz = o + (i * t.sz + t.sz) by omega])
    have hw : a.length = t.sz := by rw [h1.width, RT.widths_enc]
    refine ⟨a ++ m, ?_, ?_⟩
    · simp only [encs, List.flatMap_cons]; exact h1.append h3
    · rw [Nat.zero_mul, Nat.add_zero] at h2
      exact h2.append (by rw [hw]; exact h4)

theorem encs_width (t : RT) (l : List t.T) : widths (encs t l) = l.length * t.sz := by
  induction l with
  | nil => simp [encs, widths]
  | cons x l ih =>
    have : ∀ a b : List AVal, widths (a ++ b) = widths a + widths b := by
      intro a b; induction a with
      | nil => simp [widths]
      | cons v a ih => simp [widths, ih]; omega
    simp only [encs, List.flatMap_cons] at ih ⊢
    rw [this, RT.widths_enc, ih, List.length_cons, Nat.add_mul]; omega

/-- Rows of a block, from one on. -/
theorem rows_part (S : Sim B ρ h w) {id : Nat} {ro : Bool} {t : RT} {l : List t.T} (hb : getB h id = .rows ro t l) {L : Loc} (hL : ρ.loc id = some L) (r k : Nat) :
    ∃ l', CR ρ (encs t ((l.drop r).take k)) l' ∧ Lies w L.blk (L.base + r * t.sz) l' := by
  obtain ⟨_, h2⟩ := S.blk _ _ (getB_some hb rfl)
  obtain ⟨h3, _⟩ := h2 L hL
  refine rows_lie fun i x hx => ?_
  have : l[r + i]? = some x := by
    rw [List.getElem?_take] at hx
    split at hx
    · simpa using hx
    · contradiction
  obtain ⟨l', g1, g2⟩ := h3 _ _ this
  exact ⟨l', g1, by rwa [Nat.add_mul, ← Nat.add_assoc] at g2⟩

theorem enc_int_CR {k : IntKind} : ∀ {l : List Int} {l' : List Value}, CR ρ (encs (.int k) l) l' → l' = l.map (fun x => Value.int k x) ∧ ∀ x ∈ l, k.has x
  | [], l', h => by cases h; simp
  | x :: l, l', h => by
    simp only [encs, List.flatMap_cons, RT.enc, encInt, List.singleton_append] at h
    cases h with
    | one hv hs hw t =>
      cases hv with
      | int hk =>
        obtain ⟨h1, h2⟩ := enc_int_CR t
        refine ⟨by rw [h1]; rfl, ?_⟩
        intro y hy
        rcases List.mem_cons.1 hy with rfl | hy
        · exact hk
        · exact h2 y hy

/-! ### Bytes as a string -/
theorem bytes_back {l : List Int} (hl : ∀ x ∈ l, IntKind.u8.has x) : ∀ acc : ByteArray, bytesI (l.foldl (fun r n => r.push (UInt8.ofNat n.toNat)) acc) = bytesI acc ++ l := by
  induction l with
  | nil => intro acc; simp
  | cons x l ih =>
    intro acc
    rw [List.foldl_cons, ih (fun y hy => hl y (by simp [hy]))]
    have hx : bytesI (acc.push (UInt8.ofNat x.toNat)) = bytesI acc ++ [x] := by
      obtain ⟨h1, h2⟩ := hl x (by simp)
      rw [show IntKind.u8.min = 0 by decide] at h1
      rw [show IntKind.u8.max = 255 by decide] at h2
      unfold bytesI
      show (acc.data.push _).toList.map _ = _
      simp only [Array.toList_push, List.map_append, List.map_cons, List.map_nil, UInt8.toNat_ofNat']
      congr 2
      omega
    rw [hx]; simp

theorem R_toStr {o : Oper} {s d e : TypeId} {x : Operand} (ho : o.op = .convert s d x) (hs : P.underlying s = some (.slice e)) (he : P.underlying e = some (.int .u8)) (hd : P.underlying d = some .string)
    {ad : Option Addr} {n c : Nat} (hx : val x = .slice ad n c) {l : List Int} (hn : l.length = n) (hl : ∀ x ∈ l, IntKind.u8.has x)
    (hm : l ≠ [] → ∃ a, ad = some a ∧ ∀ i u, (l.map fun x => Value.int .u8 x)[i]? = some u → w.cell? (a.add i) = some u) : RGoal P w ρ val o (.str l) := by
  unfold RGoal
  simp only [execOp, ho, hx, Sem.run_bind, run_convert_bytes_string w s d e ad n c hs he hd]
  cases l with
  | nil =>
    simp at hn; subst hn
    cases ad with
    | none => exact ⟨.string .empty, by simp [Conv.bytesToString], .str rfl⟩
    | some a =>
      rw [run_bytesToString w a 0 c [] (by simpa using run_loadCells_list (P := P) w a [] (by simp))]
      exact ⟨_, rfl, .str rfl⟩
  | cons y l =>
    obtain ⟨a, rfl, hm'⟩ := hm (by simp)
    have h1 := run_loadCells_list (P := P) w a ((y :: l).map fun x => Value.int .u8 x) hm'
    rw [List.length_map, hn] at h1
    rw [run_bytesToString w a n c (y :: l) h1]
    refine ⟨_, rfl, .str ?_⟩
    rw [bytes_back hl]; rfl

/-- The bytes that a slice shows. -/
theorem bytes_of (S : Sim B ρ h w) {p : APtr} {n : SLen} {c : Cap} {v : Value} (hv : VR ρ (.slice (some p) n c) v) {ro : Bool} {l : List Int} (hb : getB h p.id = .rows ro (.int .u8) l)
    (hrs : p.rs = 1) (hoff : p.off = 0) (hk : p.row + ρ.len p n ≤ l.length) :
    ∃ ad c', v = .slice ad (ρ.len p n) c' ∧ (∀ x ∈ (l.drop p.row).take (ρ.len p n), IntKind.u8.has x) ∧ ((l.drop p.row).take (ρ.len p n)).length = ρ.len p n ∧
      ((l.drop p.row).take (ρ.len p n) ≠ [] → ∃ a, ad = some a ∧ ∀ i u, (((l.drop p.row).take (ρ.len p n)).map fun x => Value.int .u8 x)[i]? = some u → w.cell? (a.add i) = some u) := by
  have hlen : ((l.drop p.row).take (ρ.len p n)).length = ρ.len p n := by simp; omega
  cases hv.slV with
  | nought a hp hn hc =>
    rw [hn] at hlen ⊢
    refine ⟨a, 0, rfl, by simp, by simp, by simp⟩
  | there hl hn hc hr =>
    rename_i L c'
    obtain ⟨l', g1, g2⟩ := rows_part S (t := .int .u8) (l := l) hb hl p.row (ρ.len p n)
    obtain ⟨g3, g4⟩ := enc_int_CR g1
    refine ⟨_, _, rfl, g4, hlen, fun _ => ⟨_, rfl, ?_⟩⟩
    intro i u hi
    have e : (l.drop p.row).take (ρ.len p n) = @List.take Int (ρ.len p n) (@List.drop Int p.row l) := rfl
    have := g2 i u (by rw [g3]; exact hi)
    have hadd : ∀ (b o i : Nat), (⟨b, o, none⟩ : Addr).add i = ⟨b, o + i, none⟩ := by
      intro b o i; unfold Addr.add; split <;> simp_all
    rw [hadd, hrs, hoff]
    simpa [RT.sz] using this

/-! ### Literals -/
theorem has_zero (k : IntKind) : k.has 0 := by cases k <;> (constructor <;> decide)
theorem cellb_sound {v : AVal} {u : Value} (h : cellb v u = true) : VR ρ v u ∧ u.oneCell' = true ∧ v.w = 1 := by
  unfold cellb at h
  split at h <;> first
    | contradiction
    | (simp only [Bool.and_eq_true, beq_iff_eq] at h; obtain ⟨rfl, rfl, rfl⟩ := h; exact ⟨.int (has_zero _), rfl, rfl⟩)
    | (simp only [beq_iff_eq] at h; subst h; exact ⟨by first | exact .bool _ | exact .str rfl, rfl, rfl⟩)
    | exact ⟨by first | exact .nilp | exact .nils _ rfl | exact .fby0 _ _ | exact .map0 | exact .nilFn | exact .nilIfc, rfl, rfl⟩
theorem CRb_sound : ∀ {l : List AVal} {m : List Value}, CRb l m = true → CR ρ l m
  | [], [], _ => .nil
  | [], _ :: _, h => by simp [CRb] at h
  | v :: l, m, h => by
    unfold CRb at h
    split at h
    · rename_i k n xs
      simp only [Bool.and_eq_true, beq_iff_eq] at h
      obtain ⟨h1, h2, h3, h4, h5⟩ := h
      have ht := CRb_sound h5
      have hz : ∀ x ∈ xs, x = 0 := by simpa using h2
      have hv : m.take n = xs.map fun x => Value.int k x := by
        have e1 : xs = List.replicate n 0 := List.eq_replicate_iff.2 ⟨h1, hz⟩
        rw [e1, List.map_replicate]
        refine List.eq_replicate_iff.2 ⟨h4, fun v hv => ?_⟩
        have := List.all_eq_true.1 h3 v hv
        unfold zeroInt at this
        split at this
        · simp at this; obtain ⟨rfl, rfl⟩ := this; rfl
        · contradiction
      have hk : ∀ x ∈ xs, k.has x := fun x hx => by rw [hz x hx]; exact has_zero k
      have := CR.wide (ρ := ρ) h1 hk ht
      rw [← hv, List.take_append_drop] at this
      exact this
    · split at h
      · rename_i u m
        simp only [Bool.and_eq_true] at h
        obtain ⟨h1, h2, h3⟩ := cellb_sound (ρ := ρ) h.1
        exact .one h1 h2 h3 (CRb_sound h.2)
      · contradiction

theorem fold_put (off : Nat) : ∀ (vs : List Value) (k : Nat) (l : List Value), off + k + vs.length ≤ l.length →
    (vs.zipIdx k).foldl (fun (cs : Array Value) (x : Value × Nat) => cs.setIfInBounds (off + x.2) x.1) l.toArray = (l.take (off + k) ++ (vs ++ l.drop (off + k + vs.length))).toArray
  | [], k, l, _ => by simp
  | v :: vs, k, l, h => by
    simp only [List.length_cons] at h
    rw [List.zipIdx_cons, List.foldl_cons]
    have e : l.toArray.setIfInBounds (off + k) v = (l.set (off + k) v).toArray := by simp
    rw [e, fold_put off vs (k + 1) (l.set (off + k) v) (by simp; omega)]
    congr 1
    rw [show off + (k + 1) = off + k + 1 by omega, List.drop_set_of_lt (by omega), List.take_succ_eq_append_getElem (by simp; omega)]
    simp only [List.getElem_set_self, List.append_assoc, List.singleton_append, List.cons_append, List.nil_append, List.length_cons]
    rw [List.take_set_of_le (by omega), show off + k + 1 + vs.length = off + k + (vs.length + 1) by omega]

theorem fill_sound {fo : Opd → AVal} {val : Operand → Value} (hf : ∀ x ax, compOpd x = some ax → VR ρ (fo ax) (val x)) {place : Nat → Option (Nat × Nat)} :
    ∀ (ps : List (Nat × Operand)) (aps : List (Nat × (Nat × Opd))) (l r : List AVal) (l' : List Value), compParts P place ps = some aps → CR ρ l l' → fillW fo l aps = some r →
      ∃ r', Instr.fill place l'.toArray (ps.map fun (i, x) => (i, val x)) = some r'.toArray ∧ CR ρ r r'
  | [], aps, l, r, l', hc, hl, hr => by
    simp only [compParts, Option.some.injEq] at hc
    subst hc
    simp only [fillW, Option.some.injEq] at hr
    subst hr
    exact ⟨l', rfl, hl⟩
  | (i, x) :: ps, aps, l, r, l', hc, hl, hr => by
    simp only [compParts] at hc
    split at hc
    · rename_i o n ax rest hp hx hrest
      simp only [Option.some.injEq] at hc
      subst hc
      have hv := hf x ax hx
      unfold fillW at hr
      split at hr
      · contradiction
      · contradiction
      · rename_i hu ht
        split at hr
        · rename_i hw
          obtain ⟨l2, h1, h2⟩ := Option.bind_eq_some_iff.1 hr
          have hcs := hv.cs (fun e => hu e) (fun m e => ht m e)
          obtain ⟨g1, g2⟩ := putW_CR hl hcs h1
          have hsz : (val x).cells.size = n := by
            have := hcs.width; simpa [hw] using this
          obtain ⟨r', g3, g4⟩ := fill_sound hf ps rest l2 r _ hrest g2 h2
          refine ⟨r', ?_, g4⟩
          rw [← g3]
          simp only [List.map_cons, Instr.fill, hp]
          rw [if_neg (by simp only [Array.length_toList] at g1; simp [hsz] at g1 ⊢; omega)]
          have hz := fold_put o (val x).cells.toList 0 l' (by simpa using g1)
          have e2 : (val x).cells.zipIdx.foldl (fun cs (x : Value × Nat) => cs.setIfInBounds (o + x.2) x.1) l'.toArray = (l'.take o ++ ((val x).cells.toList ++ l'.drop (o + (val x).cells.toList.length))).toArray := by
            rw [← Array.foldl_toList, Array.toList_zipIdx]
            simpa using hz
          exact congrArg (fun z => Instr.fill place z (ps.map fun (i, x) => (i, val x))) e2
        · contradiction
    · contradiction

end
end Go.Sx

/- Look-ups in maps. -/
set_option linter.unusedSimpArgs false
set_option linter.unusedVariables false
namespace Go.Sx
section
variable {P : Program} {w : World} {B : Base} {ρ : Inj} {h : Heap} {val : Operand → Value}

theorem check_fields {d D : Nat} {em : Bool} (ih : ∀ (t : TypeId) (ks : List CK), flatKs P d t = some ks → ∀ (xs ys : List Value) (r : Bool), EqC ks xs ys r →
    (Instr.checkKey em D t (ofCells P t xs)).run P w = .ok () w) (xs ys : List Value) (f : Field → PUnit → Sem (ForInStep PUnit))
    (hfn : ∀ fd, fd.name ≠ "_" → f fd ⟨⟩ = (do Instr.checkKey em D fd.type (← part fd.type xs.toArray fd.offset); pure (ForInStep.yield ⟨⟩))) : ∀ (fs : List Field) (acc : Nat) (ks : List CK) (r : Bool),
    flatFs P (flatKs P d) acc fs = some ks → acc + ks.length ≤ xs.length → EqC ks ((xs.drop acc).take ks.length) ((ys.drop acc).take ks.length) r →
    (forIn fs PUnit.unit f).run P w = .ok ⟨⟩ w
  | [], acc, ks, r, h, hx, he => by simp
  | fd :: fs, acc, ks, r, h, hx, he => by
    simp only [flatFs] at h
    split at h
    · rename_i z hz
      split at h
      · rename_i hc
        obtain ⟨h1, h2, h3⟩ := hc
        obtain ⟨ks', h4, rfl⟩ := Option.map_eq_some_iff.1 h
        simp only [List.length_append] at hx
        obtain ⟨a, b, e1, e2, rfl⟩ := he.split z ks' rfl
        obtain ⟨dd, g1, g2⟩ := flat_agg hz
        have tx : ∀ l : List Value, ((l.drop acc).take (z ++ ks').length).take z.length = (l.drop acc).take z.length := fun l => by rw [List.take_take]; congr 1; simp
        have dx : ∀ l : List Value, ((l.drop acc).take (z ++ ks').length).drop z.length = (l.drop (acc + z.length)).take ks'.length := fun l => by rw [List.drop_take, List.drop_drop]; simp
        rw [tx, tx] at e1
        rw [dx, dx] at e2
        have p1 := run_part' (w := w) g1 h3 g2 xs (off := acc) (by omega)
        have q := ih fd.type z hz _ _ a e1
        simp only [List.forIn_cons, Sem.run_bind, hfn fd h1, h2, p1, q, Result.andThen_ok, Sem.run_pure]
        exact check_fields ih xs ys f hfn fs _ ks' b h4 (by omega) e2
      · contradiction
    · contradiction

theorem check_items {d D : Nat} {em : Bool} {e : TypeId} {z : List CK} (hz : flatKs P d e = some z) (hs : sz? P e = some z.length)
    (ih : ∀ (xs ys : List Value) (r : Bool), EqC z xs ys r → (Instr.checkKey em D e (ofCells P e xs)).run P w = .ok () w) (xs ys : List Value) (f : Nat → PUnit → Sem (ForInStep PUnit))
    (hfn : ∀ i, (f i ⟨⟩).run P w = ((do Instr.checkKey em D e (← part e xs.toArray (i * z.length)); pure (ForInStep.yield PUnit.unit)) : Sem (ForInStep PUnit)).run P w) :
    ∀ (n i : Nat) (r : Bool), (i + n) * z.length ≤ xs.length →
      EqC (List.replicate n z).flatten ((xs.drop (i * z.length)).take (n * z.length)) ((ys.drop (i * z.length)).take (n * z.length)) r →
      (forIn (List.range' i n) PUnit.unit f).run P w = .ok ⟨⟩ w
  | 0, i, r, hx, he => by simp
  | n + 1, i, r, hx, he => by
    have hm : (n + 1) * z.length = z.length + n * z.length := by rw [Nat.add_mul]; omega
    have hm2 : (i + (n + 1)) * z.length = i * z.length + z.length + n * z.length := by rw [Nat.add_mul, hm]; omega
    have hm3 : (i + 1) * z.length = i * z.length + z.length := by rw [Nat.add_mul]; omega
    rw [List.replicate_succ, List.flatten_cons] at he
    obtain ⟨a, b, e1, e2, rfl⟩ := he.split z _ rfl
    obtain ⟨dd, g1, g2⟩ := flat_agg hz
    have tx : ∀ l : List Value, ((l.drop (i * z.length)).take ((n + 1) * z.length)).take z.length = (l.drop (i * z.length)).take z.length := fun l => by
      rw [List.take_take]; congr 1; omega
    have dx : ∀ l : List Value, ((l.drop (i * z.length)).take ((n + 1) * z.length)).drop z.length = (l.drop ((i + 1) * z.length)).take (n * z.length) := fun l => by
      rw [List.drop_take, List.drop_drop, hm3]; congr 1; omega
    rw [tx, tx] at e1
    rw [dx, dx] at e2
    have p1 := run_part' (w := w) g1 hs g2 xs (off := i * z.length) (by omega)
    have q := ih _ _ a e1
    rw [List.range'_succ]
    simp only [List.forIn_cons, Sem.run_bind, hfn, p1, q, Result.andThen_ok, Sem.run_pure]
    refine check_items hz hs ih xs ys f hfn n (i + 1) b ?_ e2
    rw [show i + 1 + n = i + (n + 1) by omega]; omega

theorem flat_check (em : Bool) : ∀ (d : Nat) (t : TypeId) (ks : List CK), flatKs P d t = some ks → ∀ (D : Nat) (xs ys : List Value) (r : Bool), EqC ks xs ys r →
    (Instr.checkKey em (D + d) t (ofCells P t xs)).run P w = .ok () w := by
  intro d
  induction d with
  | zero => intro t n h; simp [flatKs] at h
  | succ d ih =>
    intro t ks h D xs ys r he
    unfold flatKs at h
    split at h
    · rename_i hu
      cases h
      cases he with
      | int t' => cases t'; simp [ofCells, hu, Instr.checkKey, run_underlying' hu, ← Nat.add_assoc]
    · rename_i hu
      cases h
      cases he with
      | bool t' => cases t'; simp [ofCells, hu, Instr.checkKey, run_underlying' hu, ← Nat.add_assoc]
    · rename_i hu
      cases h
      cases he with
      | str t' => cases t'; simp [ofCells, hu, Instr.checkKey, run_underlying' hu, ← Nat.add_assoc]
    · rename_i fs hu
      split at h
      · contradiction
      · obtain ⟨l1, l2⟩ := he.len
        have hx : ∀ l : List Value, ofCells P t l = .agg l.toArray := fun l => by unfold ofCells; rw [hu]
        rw [hx, ← Nat.add_assoc, Instr.checkKey]
        simp only [Sem.run_bind, run_underlying' hu, Result.andThen_ok]
        rw [← Array.forIn_toList]
        rw [check_fields (D := D + d) (em := em) (fun t ks h xs ys r he => ih t ks h D xs ys r he) xs ys _ (fun fd hn => by simp only [ne_eq, hn, not_false_eq_true, if_true]) fs.toList 0 ks r h (by omega) (by
          rw [List.drop_zero, List.drop_zero, List.take_of_length_le (by omega), List.take_of_length_le (by omega)]; exact he)]
        rfl
    · rename_i n e hu
      split at h
      · rename_i z hz
        split at h
        · rename_i hs
          cases h
          obtain ⟨l1, l2⟩ := he.len
          have hL : (List.replicate n z).flatten.length = n * z.length := by simp
          rw [hL] at l1 l2
          have hx : ∀ l : List Value, ofCells P t l = .agg l.toArray := fun l => by unfold ofCells; rw [hu]
          rw [hx, ← Nat.add_assoc, Instr.checkKey]
          simp only [Sem.run_bind, run_underlying' hu, Result.andThen_ok]
          simp only [Std.Legacy.Range.forIn_eq_forIn_range', Std.Legacy.Range.size, Nat.sub_zero, Nat.add_one_sub_one, Nat.div_one]
          rw [check_items (D := D + d) (em := em) hz hs (fun xs ys r he => ih e z hz D xs ys r he) xs ys _ (fun i => by simp [run_sizeOf' (P := P) (w := w) hs]) n 0 r (by rw [Nat.zero_add]; omega) (by
            rw [Nat.zero_mul, List.drop_zero, List.drop_zero, List.take_of_length_le (by omega), List.take_of_length_le (by omega)]; exact he)]
          rfl
        · contradiction
      · contradiction
    · contradiction

theorem keys_some {t : RT} {ks : List CK} (hk : t.keys = some ks) (x y : t.T) : ∃ r, eqCells ks (t.enc x) (t.enc y) = some r := by
  cases t <;> simp only [RT.keys, Option.some.injEq, reduceCtorEq] at hk <;> subst hk
  case int k => exact ⟨_, by simp [RT.enc, encInt, eqCells, eqV]; rfl⟩
  case notes => exact ⟨_, by simp [RT.enc, encN4, N4.v, eqCells, eqV]; rfl⟩
  case key => exact ⟨_, by simp [RT.enc, encKey, Key.v, eqCells, eqV]; rfl⟩
  case bool => exact ⟨_, by simp [RT.enc, encB, eqCells, eqV]; rfl⟩
  case str => exact ⟨_, by simp [RT.enc, encS, eqCells, eqV]; rfl⟩

theorem same_eq {t : RT} {ks : List CK} (hk : t.keys = some ks) (x y : t.T) {r : Bool} (h : eqCells ks (t.enc x) (t.enc y) = some r) : t.same x y = r := by
  simp [RT.same, hk, h]

theorem shp_ofCells {t : TypeId} {d : TypeDesc} (hu : P.underlying t = some d) {v : Value} (hs : Shp (aggD d) v) : ofCells P t v.cells.toList = v := by
  unfold ofCells
  rw [hu]
  cases hd : aggD d with
  | true =>
    obtain ⟨c, rfl⟩ := hs.1 hd
    cases d <;> simp_all [aggD, Value.cells]
  | false =>
    have h1 := hs.2 hd
    rw [VR.cells_scalar h1]
    cases d <;> simp_all [aggD]

/-- What is known of a map's key type. -/
structure KeyT (P : Program) (t : TypeId) (k : RT) (ks : List CK) (d : TypeDesc) : Prop where
  flat : flatKs P 8 t = some ks
  keys : k.keys = some ks
  under : P.underlying t = some d
  agg : aggD d = k.isA

theorem KeyT.eqc {t : TypeId} {k : RT} {ks : List CK} {d : TypeDesc} (K : KeyT P t k ks d) {x y : k.T} {a b : Value} (ha : CR ρ (k.enc x) a.cells.toList) (hb : CR ρ (k.enc y) b.cells.toList) :
    EqC ks a.cells.toList b.cells.toList (k.same x y) := by
  obtain ⟨r, hr⟩ := keys_some K.keys x y
  rw [same_eq K.keys x y hr]
  exact eqCells_sound ha hb hr

theorem KeyT.equal {t : TypeId} {k : RT} {ks : List CK} {d : TypeDesc} (K : KeyT P t k ks d) {x y : k.T} {a b : Value} (ha : CR ρ (k.enc x) a.cells.toList) (hb : CR ρ (k.enc y) b.cells.toList)
    (sa : Shp k.isA a) (sb : Shp k.isA b) : (Op.equal t a b).run P w = .ok (k.same x y) w := by
  have h1 := flat_equal (w := w) 8 t ks K.flat 9992 _ _ _ (K.eqc ha hb)
  rw [shp_ofCells K.under (by rw [K.agg]; exact sa), shp_ofCells K.under (by rw [K.agg]; exact sb)] at h1
  exact h1

theorem KeyT.check {t : TypeId} {k : RT} {ks : List CK} {d : TypeDesc} (K : KeyT P t k ks d) (em : Bool) {x : k.T} {a : Value} (ha : CR ρ (k.enc x) a.cells.toList) (sa : Shp k.isA a) :
    (Instr.checkKey em 10000 t a).run P w = .ok () w := by
  have h1 := flat_check (w := w) em 8 t ks K.flat 9992 _ _ _ (K.eqc ha ha)
  rw [shp_ofCells K.under (by rw [K.agg]; exact sa)] at h1
  exact h1

/-- Where a key stands among entries. -/
def posOf {k v : RT} (x : k.T) : List (k.T × v.T) → Nat → Option Nat
  | [], _ => none
  | e :: l, i => if k.same x e.1 then some i else posOf x l (i + 1)

theorem posOf_le {k v : RT} {x : k.T} : ∀ {l : List (k.T × v.T)} {n j : Nat}, posOf x l n = some j → n ≤ j
  | [], n, j, h => by simp [posOf] at h
  | e :: l, n, j, h => by
    simp only [posOf] at h
    split at h
    · cases h; exact Nat.le_refl _
    · have := posOf_le h; omega
def foundAt (es : List MapEntry) (i : Nat) (p : Option Nat) : Option (Nat × Value) := p.bind fun j => (es[j - i]?).map fun e => (j, e.val)
theorem foundAt_cons {k v : RT} {x : k.T} {l : List (k.T × v.T)} (e : MapEntry) (es : List MapEntry) (i : Nat) : foundAt (e :: es) i (posOf x l (i + 1)) = foundAt es (i + 1) (posOf x l (i + 1)) := by
  unfold foundAt
  cases hp : posOf x l (i + 1) with
  | none => rfl
  | some j =>
    have hle := posOf_le hp
    simp only [Option.bind_some]
    rw [show j - i = (j - (i + 1)) + 1 by omega, List.getElem?_cons_succ]

theorem KeyT.asking {t : TypeId} {k v : RT} {ks : List CK} {d : TypeDesc} (K : KeyT P t k ks d) {x : k.T} {a : Value} (ha : CR ρ (k.enc x) a.cells.toList) (sa : Shp k.isA a) :
    ∀ {l : List (k.T × v.T)} {es : List MapEntry} (i : Nat), MR ρ k v l es → (Instr.findAsking t a es i).run P w = .ok (foundAt es i (posOf x l i)) w := by
  intro l es i hm
  induction hm generalizing i with
  | nil => simp [Instr.findAsking, posOf, foundAt]
  | cons hk hv h1 h2 t' ih =>
    rename_i x' y' l l' e
    simp only [Instr.findAsking, Sem.run_bind, K.equal ha hk sa h1, Result.andThen_ok, posOf]
    cases hs : k.same x x' with
    | true => simp [foundAt]
    | false =>
      simp only [Bool.false_eq_true, if_false]
      rw [ih (i + 1), foundAt_cons]

theorem KeyT.now {t : TypeId} {k v : RT} {ks : List CK} {d : TypeDesc} (K : KeyT P t k ks d) (hd : aggD d = false) {x : k.T} {a : Value} (ha : CR ρ (k.enc x) a.cells.toList) (sa : Shp k.isA a) :
    ∀ {l : List (k.T × v.T)} {es : List MapEntry} (i : Nat), MR ρ k v l es → Instr.findNow d a es i = some (foundAt es i (posOf x l i)) := by
  have h1 := K.flat
  have step : ∀ (y : k.T) (b : Value), CR ρ (k.enc y) b.cells.toList → Shp k.isA b → Instr.sameNow d a b = some (k.same x y) := by
    intro y b hb sb
    have he := K.eqc ha hb
    have sa1 := sa.2 (by rw [← K.agg]; exact hd)
    have sb1 := sb.2 (by rw [← K.agg]; exact hd)
    rw [VR.cells_scalar sa1, VR.cells_scalar sb1] at he
    generalize k.same x y = r at he
    unfold flatKs at h1
    rw [K.under] at h1
    cases d <;> simp only [reduceCtorEq, Option.some.injEq] at h1 <;> (try (simp [aggD] at hd; done))
    · subst h1
      cases he with
      | bool t' => cases t'; simp [Instr.sameNow]
    · subst h1
      cases he with
      | int t' => cases t'; simp [Instr.sameNow]
    · subst h1
      cases he with
      | str t' => cases t'; simp [Instr.sameNow]
  intro l es i hm
  induction hm generalizing i with
  | nil => simp [Instr.findNow, posOf, foundAt]
  | cons hk hv h2 h3 t' ih =>
    rename_i x' y' l l' e
    simp only [Instr.findNow, step x' e.key hk h2, posOf]
    cases hs : k.same x x' with
    | true => simp [foundAt]
    | false =>
      simp only [Bool.false_eq_true, if_false]
      rw [ih (i + 1), foundAt_cons]

theorem KeyT.find {t : TypeId} {k v : RT} {ks : List CK} {d : TypeDesc} (K : KeyT P t k ks d) {x : k.T} {a : Value} (ha : CR ρ (k.enc x) a.cells.toList) (sa : Shp k.isA a)
    {l : List (k.T × v.T)} {es : List MapEntry} (hm : MR ρ k v l es) : (Instr.findKey t a es).run P w = .ok (foundAt es 0 (posOf x l 0)) w := by
  unfold Instr.findKey
  simp only [Sem.run_bind, run_underlying' K.under, Result.andThen_ok]
  cases hd : aggD d with
  | false => rw [K.now hd ha sa 0 hm]; rfl
  | true =>
    have h2 := K.asking (w := w) ha sa 0 hm
    cases es with
    | nil =>
      simp only [Instr.findNow]
      cases hm
      simp [posOf, foundAt]
    | cons e es =>
      have : Instr.findNow d a (e :: es) 0 = none := by
        cases d <;> simp [aggD] at hd <;> simp [Instr.findNow, Instr.sameNow]
      rw [this]
      exact h2

/-- What stands there: the look-up's own answer. -/
theorem pos_find {k v : RT} {x : k.T} : ∀ {l : List (k.T × v.T)} {es : List MapEntry}, MR ρ k v l es → ∀ i,
    (posOf x l i = none ∧ mfind l x = none) ∨ ∃ j y e, posOf x l i = some (i + j) ∧ mfind l x = some y ∧ es[j]? = some e ∧ CR ρ (v.enc y) e.val.cells.toList ∧ Shp v.isA e.val ∧ Shp k.isA e.key ∧ (∃ x', l[j]? = some (x', y) ∧ k.same x x' = true ∧ CR ρ (k.enc x') e.key.cells.toList) := by
  intro l es hm
  induction hm with
  | nil => intro i; exact .inl ⟨rfl, rfl⟩
  | cons hk hv h1 h2 t ih =>
    rename_i x' y' l l' e
    intro i
    simp only [posOf, mfind, List.find?_cons]
    cases hs : k.same x x' with
    | true => exact .inr ⟨0, y', e, by simp, by simp, rfl, hv, h2, h1, x', rfl, hs, hk⟩
    | false =>
      simp only [Bool.false_eq_true, if_false]
      rcases ih (i + 1) with ⟨g1, g2⟩ | ⟨j, y, e', g1, g2, g3, g4, g5, g6, x2, g7, g8⟩
      · exact .inl ⟨g1, g2⟩
      · exact .inr ⟨j + 1, y, e', by rw [g1]; congr 1; omega, g2, by simpa using g3, g4, g5, g6, x2, by simpa using g7, g8⟩

theorem decV_sound {t : RT} {v : AVal} {v' : Value} {x : t.T} (h : t.decV v = some x) (hv : VR ρ v v') : CR ρ (t.enc x) v'.cells.toList ∧ Shp t.isA v' := by
  cases hA : t.isA
  · have hd : t.dec [v] = some x ∧ v ≠ .unk ∧ (∀ l, v ≠ .tup l) ∧ (∀ l, v ≠ .agg l) ∧ (∀ k n l, v ≠ .ai k n l) := by
      cases v <;> simp [RT.decV, hA] at h ⊢ <;> exact h
    obtain ⟨hd, h1, h2, h3, h4⟩ := hd
    have hcs : v.cs = [v] := by cases v <;> simp_all [AVal.cs]
    have hc := hv.cs h1 h2
    rw [hcs, ← t.enc_dec _ _ hd] at hc
    refine ⟨hc, by simp, fun _ => ?_⟩
    cases hv <;> first | rfl | simp_all
  · unfold RT.decV at h
    simp only [hA] at h
    split at h <;> first | contradiction | skip
    · cases hv with
      | agg hc => exact ⟨by rw [t.enc_dec _ _ h]; simpa [Value.cells] using hc, fun _ => ⟨_, rfl⟩, by simp⟩
    · cases hv with
      | ai h1 h2 => exact ⟨by rw [t.enc_dec _ _ h]; simpa [Value.cells] using CR.wide (ρ := ρ) h1 h2 .nil, fun _ => ⟨_, rfl⟩, by simp⟩

theorem ofRow_VR {t : RT} {x : t.T} {u : Value} (hc : CR ρ (t.enc x) u.cells.toList) (hs : Shp t.isA u) : VR ρ (ofRow t x) u := by
  unfold ofRow
  cases hA : t.isA
  · have h1 := hs.2 hA
    rw [VR.cells_scalar h1] at hc
    simp only [Bool.false_eq_true, if_false]
    have key : ∀ v : AVal, (∀ k n l, v ≠ .ai k n l) → CR ρ [v] [u] → VR ρ v u := by
      intro v hn hc
      generalize hm : [u] = m at hc
      cases hc with
      | one hv _ _ t' => cases hm; exact hv
      | wide _ _ _ => exact absurd rfl (hn _ _ _)
    cases t <;> simp [RT.isA] at hA <;> exact key _ (by simp [RT.enc, encInt, encB, encS, encFb]) hc
  · obtain ⟨c, rfl⟩ := hs.1 hA
    simp only [if_true]
    have := aggOf_VR hc
    simpa [Value.cells] using this

end
end Go.Sx

/- All operations that change nothing. -/
set_option linter.unusedSimpArgs false
set_option linter.unusedVariables false
namespace Go.Sx
section
variable {P : Program} {w : World} {B : Base} {ρ : Inj} {h : Heap} {val : Operand → Value}

theorem shpb_sound {a : Bool} {v : Value} (h : shpb a v = true) : Shp a v := by
  unfold shpb at h
  split at h
  · exact ⟨fun _ => ⟨_, rfl⟩, fun e => by simp [e] at h⟩
  · simp only [Bool.and_eq_true, Bool.not_eq_true'] at h
    exact ⟨fun e => by simp [h.1] at e, fun _ => h.2⟩
theorem rt_zero {vt : TypeId} {v : RT} (hvt : rtOk P vt v = true) : ∃ z, (zeroValue vt).run P w = .ok z w ∧ CR ρ (v.enc v.dft) z.cells.toList ∧ Shp v.isA z := by
  unfold rtOk at hvt
  split at hvt
  · rename_i i dd hi hd
    simp only [Bool.and_eq_true, beq_iff_eq] at hvt
    obtain ⟨q1, q2, q3, q4, q5⟩ := hvt
    unfold zeroOk at q5
    unfold zeroShp at q4
    rw [hi] at q4 q5
    simp only [Option.bind_some] at q4 q5
    cases hz : i.zero with
    | none => rw [hz] at q5; simp at q5
    | some z =>
      rw [hz] at q4 q5
      exact ⟨z, by simp [zeroValue, typeInfo, hi, hz], CRb_sound q5, shpb_sound q4⟩
  · contradiction

theorem R_look (S : Sim B ρ h w) {o : Oper} {t kt vt : TypeId} {m x : Operand} {ok : Bool} (ho : o.op = .lookup t m x ok) (hu : P.underlying t = some (.map kt vt)) {k v : RT} {ks : List CK} {d : TypeDesc}
    (K : KeyT P kt k ks d) (hvt : rtOk P vt v = true) {r : Nat} (hm : VR ρ (.map (some r)) (val m)) {l : List (k.T × v.T)} (hb : getB h r = .mp k v l) {ax : AVal} {y : k.T} (hx : VR ρ ax (val x)) (hy : k.decV ax = some y) :
    RGoal P w ρ val o (if ok then .tup [ofRow v ((mfind l y).getD v.dft), .bool (mfind l y).isSome] else ofRow v ((mfind l y).getD v.dft)) := by
  generalize hvm : val m = vm at hm
  cases hm with
  | map hL =>
    rename_i L
    obtain ⟨es, clock, g2, g3, _⟩ := S.blk _ _ (getB_some hb rfl) _ hL
    obtain ⟨hc, hs⟩ := decV_sound hy hx
    have hchk := K.check (w := w) (es.isEmpty) hc hs
    have hfnd := K.find (w := w) hc hs g3
    have hget : (getObj L.blk).run P w = .ok (.map es clock) w := by simp [getObj, Sem.run, g2]
    have fin : ∀ u : Value, VR ρ (ofRow v ((mfind l y).getD v.dft)) u →
        VR ρ (if ok then .tup [ofRow v ((mfind l y).getD v.dft), .bool (mfind l y).isSome] else ofRow v ((mfind l y).getD v.dft)) (if ok then .tuple #[u, .bool (mfind l y).isSome] else u) := by
      intro u hu'
      cases ok
      · simpa using hu'
      · simp only [if_true]
        have := VR.tup (.cons hu' (.cons (.bool (mfind l y).isSome) .nil))
        simpa using this
    unfold RGoal
    simp only [execOp, ho, hvm, Instr.lookup, run_underlying' hu, Sem.run_bind, Result.andThen_ok, hget, Sem.run_pure, hchk, hfnd]
    rcases pos_find (x := y) g3 0 with ⟨p1, p2⟩ | ⟨j, y', e, p1, p2, p3, p4, p5, _⟩
    · rw [p1]
      simp only [foundAt, Option.bind_none]
      have hz := rt_zero (P := P) (w := w) (ρ := ρ) hvt
      obtain ⟨z, z1, z2, z3⟩ := hz
      refine ⟨if ok then .tuple #[z, .bool (mfind l y).isSome] else z, ?_, ?_⟩
      · simp only [Sem.run_bind, z1, Result.andThen_ok, Sem.run_pure]
        rw [p2]; cases ok <;> rfl
      · exact fin z (by rw [p2]; exact ofRow_VR z2 z3)
    · rw [p1]
      simp only [foundAt, Option.bind_some, Nat.zero_add, Nat.sub_zero, p3, Option.map_some]
      refine ⟨if ok then .tuple #[e.val, .bool (mfind l y).isSome] else e.val, ?_, ?_⟩
      · rw [p2]; cases ok <;> rfl
      · exact fin _ (by rw [p2]; exact ofRow_VR p4 p5)

theorem R_build {o : Oper} {t : TypeId} {ps : Array (Nat × Operand)} (ho : o.op = .build t ps) {f : Opd → AVal} (hf : ∀ x ax, compOpd x = some ax → VR ρ (f ax) (val x)) {zw : List AVal} (hz : zeroOk P t zw = true)
    {d : TypeDesc} (hu : P.underlying t = some d) {aps : List (Nat × (Nat × Opd))}
    (hd : (∃ fs, d = .struct fs ∧ compParts P (fun i => (fs[i]?).bind fun f => (sz? P f.type).map fun n => (f.offset, n)) ps.toList = some aps ∧ ∀ f ∈ fs, ∃ n, sz? P f.type = some n) ∨
      (∃ n e z, d = .array n e ∧ sz? P e = some z ∧ compParts P (fun i => some (i * z, z)) ps.toList = some aps))
    {r : List AVal} (hr : fillW f zw aps = some r) : RGoal P w ρ val o (aggOf r) := by
  unfold zeroOk at hz
  cases hi : P.info? t with
  | none => rw [hi] at hz; simp at hz
  | some i =>
  cases hzz : i.zero with
  | none => rw [hi] at hz; simp [hzz] at hz
  | some z =>
  rw [hi] at hz
  simp only [Option.bind_some, hzz] at hz
  have hc0 := CRb_sound (ρ := ρ) hz
  have hzv : (zeroValue t).run P w = .ok z w := by simp [zeroValue, typeInfo, hi, hzz]
  have hparts : (ps.map fun (i, x) => (i, val x)).toList = ps.toList.map fun (i, x) => (i, val x) := by simp
  unfold RGoal
  simp only [execOp, ho, Instr.build, Sem.run_bind, hzv, Result.andThen_ok, run_underlying' hu]
  rcases hd with ⟨fs, rfl, hp, hall⟩ | ⟨n, e, sz, rfl, hse, hp⟩
  · obtain ⟨r', g1, g2⟩ := fill_sound hf ps.toList aps zw r _ hp hc0 hr
    have hl : ∀ (L : List Field), (∀ f ∈ L, ∃ n, sz? P f.type = some n) →
        (L.mapM fun (f : Field) => (do pure (f.offset, ← sizeOf f.type) : Sem (Nat × Nat))).run P w = .ok (L.map fun (f : Field) => (f.offset, (sz? P f.type).getD 0)) w := by
      intro L
      induction L with
      | nil => intro _; simp
      | cons f L ih =>
        intro hL
        obtain ⟨n, hn⟩ := hL f (by simp)
        simp only [List.mapM_cons, Sem.run_bind, run_sizeOf' (P := P) (w := w) hn, Result.andThen_ok, Sem.run_pure, ih (fun g hg => hL g (by simp [hg])), List.map_cons, hn, Option.getD_some]
    have hmap : (fs.mapM fun (f : Field) => (do pure (f.offset, ← sizeOf f.type) : Sem (Nat × Nat))).run P w = .ok (fs.map fun (f : Field) => (f.offset, (sz? P f.type).getD 0)) w := by
      rw [Array.mapM_eq_mapM_toList, Sem.run_map, hl fs.toList (fun f hf => hall f (Array.mem_toList_iff.1 hf))]
      simp only [Result.andThen_ok]
      congr 1
      apply Array.ext'; simp
    have hplace : (fun (i : Nat) => (fs.map fun (f : Field) => (f.offset, (sz? P f.type).getD 0))[i]?) = (fun (i : Nat) => (fs[i]?).bind fun (f : Field) => (sz? P f.type).map fun n => (f.offset, n)) := by
      funext i
      rw [Array.getElem?_map]
      cases hfi : fs[i]? with
      | none => rfl
      | some f =>
        obtain ⟨n, hn⟩ := hall f (Array.mem_of_getElem? hfi)
        simp [hn]
    simp only [Sem.run_bind, hmap, Result.andThen_ok, hparts]
    have : z.cells.toList.toArray = z.cells := by simp
    rw [this, ← hplace] at g1
    rw [g1]
    exact ⟨.agg r'.toArray, rfl, aggOf_VR g2⟩
  · obtain ⟨r', g1, g2⟩ := fill_sound hf ps.toList aps zw r _ hp hc0 hr
    simp only [Sem.run_bind, run_sizeOf' (P := P) (w := w) hse, Result.andThen_ok, hparts]
    have : z.cells.toList.toArray = z.cells := by simp
    rw [this] at g1
    rw [g1]
    exact ⟨.agg r'.toArray, rfl, aggOf_VR g2⟩

end
end Go.Sx
