/-
  NARROWER THAN 'FOR EVERY INPUT', by the rows' own cells (each row's printed sentence says how): RobotRuns: laid · WorldSees: laid · WorldDelays: laid · WorldBad: laid · WorldBins: laid · WorldTwice: laid.
  DERIVED. THE GIVEN ROWS OF THIS SEAT. 6 by the template 'for every input the law returns true; each argument reads behind the call as it read before'; 0 by the template 'total and deterministic' (their statements: YtmbibkifbehgnaaGreatDoorTotals.lean).
  GIVEN WITH THE SEED: the statements are not yours to turn. If you find one false, say at which input.
  Laid BY PROGRAM, IN A SANDBOX (cutbox-rows.mjs): the forced cells as the released guide's own fill.sh prints them over the translation 8afbb78af568617f… (all of the seat's roots in one cut). By AI agents, Wed Nov 11 2026. No macro, syntax, notation, axiom, sorry.
-/
import Derived.Test.YtmbibkifbehgnaaGreatDoorChecked
import GoSem.Claim
import GoSem.ClaimJoined
import GoSem.ClaimMapViews
import Derived.JoinedTies
import Derived.KernelRfl
namespace Go.Proofs.YtmbibkifbehgnaaGreatDoor
/- THE CELL 'sum', in the pinned program and in every row, IS THE sha256 OF THE DUMP (.gsa) THAT YtmbibkifbehgnaaGreatDoorProg.lean LOADS. Nothing in Lean hashes anything: it is a label: what it is worth is what the hold of that sum in a sandbox is worth. -/
noncomputable def Tryz.pinned : Pinned := { name := "ytmbibkifbehgnaagreatdoor", sum := "8afbb78af568617f3f809fcdab0f02b3f873495911d44575a1f67069c34a9e84", checked := Tryz.checked }
namespace Rows
def none {H : Type} : Left H := { results := [], args := [] }

/- WHAT THE LISTED PACKAGE-LEVEL VARIABLES READ AS WHEN THE CALL BEGINS. Each datum BY PROGRAM (the guide's laid-datum.mjs) off the statement by which the dump's own 'gosem.cut.vars' lays the variable. In a bare row this is a premise. The card (YtmbibkifbehgnaaGreatDoorCards.lean) ties it to the program's text. -/
def laid_skep_grid_steps {H : Type} : DataW H := .agg [.agg [.lit (.int .i64 0), .lit (.int .i64 (-1))], .agg [.lit (.int .i64 1), .lit (.int .i64 0)], .agg [.lit (.int .i64 0), .lit (.int .i64 1)], .agg [.lit (.int .i64 (-1)), .lit (.int .i64 0)]]

/-- 'skeplaw18.RobotRuns': WHATEVER THE INPUT: true; the input reads as it did. -/
def robotRunsSpec : ChangeSpec := { name := "robotRuns", fn := fun _ => fun
  | [d1, d2, d3] => { results := [.lit (.bool true)], args := [d1, d2, d3] }
  | _ => none }
def robotRunsRow : OpenClaim := { program := "ytmbibkifbehgnaagreatdoor", sum := "8afbb78af568617f3f809fcdab0f02b3f873495911d44575a1f67069c34a9e84", func := "skep/skeplaw18.RobotRuns", spec := "robotRuns", inPlace := ["sync/atomic.LoadUint32", "(*internal/sync.Mutex).Lock", "internal/race.Disable", "sync/atomic.CompareAndSwapInt32", "internal/race.Enable", "internal/race.Acquire", "(*internal/sync.Mutex).lockSlow", "internal/sync.runtime_canSpin", "internal/sync.runtime_doSpin", "internal/sync.throw", "internal/sync.runtime_nanotime", "internal/sync.runtime_SemacquireMutex", "sync/atomic.AddInt32", "(*internal/sync.Mutex).Unlock", "internal/race.ReleaseMerge", "(*internal/sync.Mutex).unlockSlow", "internal/sync.fatal", "internal/sync.runtime_Semrelease", "sync/atomic.StoreUint32"], unfollowed := true, recurses := true, named := ["skep/grid.steps"], apart := false, laid := [("skep/grid.steps", laid_skep_grid_steps)] }
def RobotRunsSaid : Prop := robotRunsRow.holds Tryz.pinned (OpenSpec.ofChange robotRunsSpec)

/-- ITS FALSE NEIGHBOUR: 'it returns false'. Refute it at one input. -/
def robotRunsWrong : ChangeSpec := { name := "robotRuns", fn := fun _ => fun
  | [d1, d2, d3] => { results := [.lit (.bool false)], args := [d1, d2, d3] }
  | _ => none }
def RobotRunsWrongFalsely : Prop := robotRunsRow.holds Tryz.pinned (OpenSpec.ofChange robotRunsWrong)

/-- 'skeplaw19.WorldSees': WHATEVER THE INPUT: true; the input reads as it did. -/
def worldSeesSpec : ChangeSpec := { name := "worldSees", fn := fun _ => fun
  | [d1, d2] => { results := [.lit (.bool true)], args := [d1, d2] }
  | _ => none }
def worldSeesRow : OpenClaim := { program := "ytmbibkifbehgnaagreatdoor", sum := "8afbb78af568617f3f809fcdab0f02b3f873495911d44575a1f67069c34a9e84", func := "skep/skeplaw19.WorldSees", spec := "worldSees", inPlace := ["sync/atomic.LoadUint32", "(*internal/sync.Mutex).Lock", "internal/race.Disable", "sync/atomic.CompareAndSwapInt32", "internal/race.Enable", "internal/race.Acquire", "(*internal/sync.Mutex).lockSlow", "internal/sync.runtime_canSpin", "internal/sync.runtime_doSpin", "internal/sync.throw", "internal/sync.runtime_nanotime", "internal/sync.runtime_SemacquireMutex", "sync/atomic.AddInt32", "(*internal/sync.Mutex).Unlock", "internal/race.ReleaseMerge", "(*internal/sync.Mutex).unlockSlow", "internal/sync.fatal", "internal/sync.runtime_Semrelease", "sync/atomic.StoreUint32"], unfollowed := true, recurses := true, named := ["skep/grid.steps"], apart := false, laid := [("skep/grid.steps", laid_skep_grid_steps)] }
def WorldSeesSaid : Prop := worldSeesRow.holds Tryz.pinned (OpenSpec.ofChange worldSeesSpec)

/-- ITS FALSE NEIGHBOUR: 'it returns false'. Refute it at one input. -/
def worldSeesWrong : ChangeSpec := { name := "worldSees", fn := fun _ => fun
  | [d1, d2] => { results := [.lit (.bool false)], args := [d1, d2] }
  | _ => none }
def WorldSeesWrongFalsely : Prop := worldSeesRow.holds Tryz.pinned (OpenSpec.ofChange worldSeesWrong)

/-- 'skeplaw19.WorldDelays': WHATEVER THE INPUT: true; the input reads as it did. -/
def worldDelaysSpec : ChangeSpec := { name := "worldDelays", fn := fun _ => fun
  | [d1, d2, d3] => { results := [.lit (.bool true)], args := [d1, d2, d3] }
  | _ => none }
def worldDelaysRow : OpenClaim := { program := "ytmbibkifbehgnaagreatdoor", sum := "8afbb78af568617f3f809fcdab0f02b3f873495911d44575a1f67069c34a9e84", func := "skep/skeplaw19.WorldDelays", spec := "worldDelays", inPlace := ["sync/atomic.LoadUint32", "(*internal/sync.Mutex).Lock", "internal/race.Disable", "sync/atomic.CompareAndSwapInt32", "internal/race.Enable", "internal/race.Acquire", "(*internal/sync.Mutex).lockSlow", "internal/sync.runtime_canSpin", "internal/sync.runtime_doSpin", "internal/sync.throw", "internal/sync.runtime_nanotime", "internal/sync.runtime_SemacquireMutex", "sync/atomic.AddInt32", "(*internal/sync.Mutex).Unlock", "internal/race.ReleaseMerge", "(*internal/sync.Mutex).unlockSlow", "internal/sync.fatal", "internal/sync.runtime_Semrelease", "sync/atomic.StoreUint32"], unfollowed := true, recurses := true, named := ["skep/grid.steps"], apart := false, laid := [("skep/grid.steps", laid_skep_grid_steps)] }
def WorldDelaysSaid : Prop := worldDelaysRow.holds Tryz.pinned (OpenSpec.ofChange worldDelaysSpec)

/-- ITS FALSE NEIGHBOUR: 'it returns false'. Refute it at one input. -/
def worldDelaysWrong : ChangeSpec := { name := "worldDelays", fn := fun _ => fun
  | [d1, d2, d3] => { results := [.lit (.bool false)], args := [d1, d2, d3] }
  | _ => none }
def WorldDelaysWrongFalsely : Prop := worldDelaysRow.holds Tryz.pinned (OpenSpec.ofChange worldDelaysWrong)

/-- 'skeplaw19.WorldBad': WHATEVER THE INPUT: true; the input reads as it did. -/
def worldBadSpec : ChangeSpec := { name := "worldBad", fn := fun _ => fun
  | [d1, d2] => { results := [.lit (.bool true)], args := [d1, d2] }
  | _ => none }
def worldBadRow : OpenClaim := { program := "ytmbibkifbehgnaagreatdoor", sum := "8afbb78af568617f3f809fcdab0f02b3f873495911d44575a1f67069c34a9e84", func := "skep/skeplaw19.WorldBad", spec := "worldBad", inPlace := ["sync/atomic.LoadUint32", "(*internal/sync.Mutex).Lock", "internal/race.Disable", "sync/atomic.CompareAndSwapInt32", "internal/race.Enable", "internal/race.Acquire", "(*internal/sync.Mutex).lockSlow", "internal/sync.runtime_canSpin", "internal/sync.runtime_doSpin", "internal/sync.throw", "internal/sync.runtime_nanotime", "internal/sync.runtime_SemacquireMutex", "sync/atomic.AddInt32", "(*internal/sync.Mutex).Unlock", "internal/race.ReleaseMerge", "(*internal/sync.Mutex).unlockSlow", "internal/sync.fatal", "internal/sync.runtime_Semrelease", "sync/atomic.StoreUint32"], unfollowed := true, recurses := true, named := ["skep/grid.steps"], apart := false, laid := [("skep/grid.steps", laid_skep_grid_steps)] }
def WorldBadSaid : Prop := worldBadRow.holds Tryz.pinned (OpenSpec.ofChange worldBadSpec)

/-- ITS FALSE NEIGHBOUR: 'it returns false'. Refute it at one input. -/
def worldBadWrong : ChangeSpec := { name := "worldBad", fn := fun _ => fun
  | [d1, d2] => { results := [.lit (.bool false)], args := [d1, d2] }
  | _ => none }
def WorldBadWrongFalsely : Prop := worldBadRow.holds Tryz.pinned (OpenSpec.ofChange worldBadWrong)

/-- 'skeplaw19.WorldBins': WHATEVER THE INPUT: true; the input reads as it did. -/
def worldBinsSpec : ChangeSpec := { name := "worldBins", fn := fun _ => fun
  | [d1, d2] => { results := [.lit (.bool true)], args := [d1, d2] }
  | _ => none }
def worldBinsRow : OpenClaim := { program := "ytmbibkifbehgnaagreatdoor", sum := "8afbb78af568617f3f809fcdab0f02b3f873495911d44575a1f67069c34a9e84", func := "skep/skeplaw19.WorldBins", spec := "worldBins", inPlace := ["sync/atomic.LoadUint32", "(*internal/sync.Mutex).Lock", "internal/race.Disable", "sync/atomic.CompareAndSwapInt32", "internal/race.Enable", "internal/race.Acquire", "(*internal/sync.Mutex).lockSlow", "internal/sync.runtime_canSpin", "internal/sync.runtime_doSpin", "internal/sync.throw", "internal/sync.runtime_nanotime", "internal/sync.runtime_SemacquireMutex", "sync/atomic.AddInt32", "(*internal/sync.Mutex).Unlock", "internal/race.ReleaseMerge", "(*internal/sync.Mutex).unlockSlow", "internal/sync.fatal", "internal/sync.runtime_Semrelease", "sync/atomic.StoreUint32"], unfollowed := true, recurses := true, named := ["skep/grid.steps"], apart := false, laid := [("skep/grid.steps", laid_skep_grid_steps)] }
def WorldBinsSaid : Prop := worldBinsRow.holds Tryz.pinned (OpenSpec.ofChange worldBinsSpec)

/-- ITS FALSE NEIGHBOUR: 'it returns false'. Refute it at one input. -/
def worldBinsWrong : ChangeSpec := { name := "worldBins", fn := fun _ => fun
  | [d1, d2] => { results := [.lit (.bool false)], args := [d1, d2] }
  | _ => none }
def WorldBinsWrongFalsely : Prop := worldBinsRow.holds Tryz.pinned (OpenSpec.ofChange worldBinsWrong)

/-- 'skeplaw19.WorldTwice': WHATEVER THE INPUT: true; the input reads as it did. -/
def worldTwiceSpec : ChangeSpec := { name := "worldTwice", fn := fun _ => fun
  | [d1, d2, d3] => { results := [.lit (.bool true)], args := [d1, d2, d3] }
  | _ => none }
def worldTwiceRow : OpenClaim := { program := "ytmbibkifbehgnaagreatdoor", sum := "8afbb78af568617f3f809fcdab0f02b3f873495911d44575a1f67069c34a9e84", func := "skep/skeplaw19.WorldTwice", spec := "worldTwice", inPlace := ["sync/atomic.LoadUint32", "(*internal/sync.Mutex).Lock", "internal/race.Disable", "sync/atomic.CompareAndSwapInt32", "internal/race.Enable", "internal/race.Acquire", "(*internal/sync.Mutex).lockSlow", "internal/sync.runtime_canSpin", "internal/sync.runtime_doSpin", "internal/sync.throw", "internal/sync.runtime_nanotime", "internal/sync.runtime_SemacquireMutex", "sync/atomic.AddInt32", "(*internal/sync.Mutex).Unlock", "internal/race.ReleaseMerge", "(*internal/sync.Mutex).unlockSlow", "internal/sync.fatal", "internal/sync.runtime_Semrelease", "sync/atomic.StoreUint32"], unfollowed := true, recurses := true, named := ["skep/grid.steps"], apart := false, laid := [("skep/grid.steps", laid_skep_grid_steps)] }
def WorldTwiceSaid : Prop := worldTwiceRow.holds Tryz.pinned (OpenSpec.ofChange worldTwiceSpec)

/-- ITS FALSE NEIGHBOUR: 'it returns false'. Refute it at one input. -/
def worldTwiceWrong : ChangeSpec := { name := "worldTwice", fn := fun _ => fun
  | [d1, d2, d3] => { results := [.lit (.bool false)], args := [d1, d2, d3] }
  | _ => none }
def WorldTwiceWrongFalsely : Prop := worldTwiceRow.holds Tryz.pinned (OpenSpec.ofChange worldTwiceWrong)

/- THE SECOND FORM. 'bulk': how many values and letters a reading holds, each counted each time it is reached (what is shared counts as often as it is met; a slice's spare places count too). A statement '..UptoSaid' is the law's where the arguments, and the package variables that the reading takes, are together of bulk at most 1048576: NARROWER than '..Said'. Prove '..Said' where nothing that the law and all that it calls make is longer than what came in: it says more and counts as full. Else prove '..UptoSaid'. A law counts once. -/
mutual
def uptoBulk {H : Type} : DataW H → Nat
  | .lit (.string bytes) => bytes.length + 1
  | .lit _ => 1
  | .nil => 1
  | .ptr d => uptoBulk d + 1
  | .slice elems spare => uptoBulkAll elems + uptoBulkAll spare + 1
  | .agg parts => uptoBulkAll parts + 1
  | .iface _ d => uptoBulk d + 1
  | .map entries => uptoBulkEntries entries + 1
  | .held _ => 1
def uptoBulkAll {H : Type} : List (DataW H) → Nat
  | [] => 0
  | d :: r => uptoBulk d + uptoBulkAll r
def uptoBulkEntries {H : Type} : List (Lit × DataW H) → Nat
  | [] => 0
  | x :: r => uptoBulkEntry x + uptoBulkEntries r
def uptoBulkEntry {H : Type} : Lit × DataW H → Nat
  | (.string bytes, d) => bytes.length + uptoBulk d + 1
  | (_, d) => uptoBulk d + 1
 end
def uptoSmall : (H : Type) → List (DataW H) → Bool := fun _ ds => decide (uptoBulkAll ds ≤ 1048576)
def OpenSpec.upto (s : _root_.Go.ChangeSpec) : _root_.Go.OpenSpec := { _root_.Go.OpenSpec.ofChange s with cond := some uptoSmall }

/-- 'skeplaw18.RobotRuns', WHERE WHAT IT READS IS OF BULK AT MOST 1048576: true; the input reads as it did. -/
def robotRunsUptoRow : OpenClaim := { program := "ytmbibkifbehgnaagreatdoor", sum := "8afbb78af568617f3f809fcdab0f02b3f873495911d44575a1f67069c34a9e84", func := "skep/skeplaw18.RobotRuns", spec := "robotRuns", inPlace := ["sync/atomic.LoadUint32", "(*internal/sync.Mutex).Lock", "internal/race.Disable", "sync/atomic.CompareAndSwapInt32", "internal/race.Enable", "internal/race.Acquire", "(*internal/sync.Mutex).lockSlow", "internal/sync.runtime_canSpin", "internal/sync.runtime_doSpin", "internal/sync.throw", "internal/sync.runtime_nanotime", "internal/sync.runtime_SemacquireMutex", "sync/atomic.AddInt32", "(*internal/sync.Mutex).Unlock", "internal/race.ReleaseMerge", "(*internal/sync.Mutex).unlockSlow", "internal/sync.fatal", "internal/sync.runtime_Semrelease", "sync/atomic.StoreUint32"], unfollowed := true, recurses := true, named := ["skep/grid.steps"], apart := false, laid := [("skep/grid.steps", laid_skep_grid_steps)], narrowed := true }
def RobotRunsUptoSaid : Prop := robotRunsUptoRow.holds Tryz.pinned (OpenSpec.upto robotRunsSpec)

/-- 'skeplaw19.WorldSees', WHERE WHAT IT READS IS OF BULK AT MOST 1048576: true; the input reads as it did. -/
def worldSeesUptoRow : OpenClaim := { program := "ytmbibkifbehgnaagreatdoor", sum := "8afbb78af568617f3f809fcdab0f02b3f873495911d44575a1f67069c34a9e84", func := "skep/skeplaw19.WorldSees", spec := "worldSees", inPlace := ["sync/atomic.LoadUint32", "(*internal/sync.Mutex).Lock", "internal/race.Disable", "sync/atomic.CompareAndSwapInt32", "internal/race.Enable", "internal/race.Acquire", "(*internal/sync.Mutex).lockSlow", "internal/sync.runtime_canSpin", "internal/sync.runtime_doSpin", "internal/sync.throw", "internal/sync.runtime_nanotime", "internal/sync.runtime_SemacquireMutex", "sync/atomic.AddInt32", "(*internal/sync.Mutex).Unlock", "internal/race.ReleaseMerge", "(*internal/sync.Mutex).unlockSlow", "internal/sync.fatal", "internal/sync.runtime_Semrelease", "sync/atomic.StoreUint32"], unfollowed := true, recurses := true, named := ["skep/grid.steps"], apart := false, laid := [("skep/grid.steps", laid_skep_grid_steps)], narrowed := true }
def WorldSeesUptoSaid : Prop := worldSeesUptoRow.holds Tryz.pinned (OpenSpec.upto worldSeesSpec)

/-- 'skeplaw19.WorldDelays', WHERE WHAT IT READS IS OF BULK AT MOST 1048576: true; the input reads as it did. -/
def worldDelaysUptoRow : OpenClaim := { program := "ytmbibkifbehgnaagreatdoor", sum := "8afbb78af568617f3f809fcdab0f02b3f873495911d44575a1f67069c34a9e84", func := "skep/skeplaw19.WorldDelays", spec := "worldDelays", inPlace := ["sync/atomic.LoadUint32", "(*internal/sync.Mutex).Lock", "internal/race.Disable", "sync/atomic.CompareAndSwapInt32", "internal/race.Enable", "internal/race.Acquire", "(*internal/sync.Mutex).lockSlow", "internal/sync.runtime_canSpin", "internal/sync.runtime_doSpin", "internal/sync.throw", "internal/sync.runtime_nanotime", "internal/sync.runtime_SemacquireMutex", "sync/atomic.AddInt32", "(*internal/sync.Mutex).Unlock", "internal/race.ReleaseMerge", "(*internal/sync.Mutex).unlockSlow", "internal/sync.fatal", "internal/sync.runtime_Semrelease", "sync/atomic.StoreUint32"], unfollowed := true, recurses := true, named := ["skep/grid.steps"], apart := false, laid := [("skep/grid.steps", laid_skep_grid_steps)], narrowed := true }
def WorldDelaysUptoSaid : Prop := worldDelaysUptoRow.holds Tryz.pinned (OpenSpec.upto worldDelaysSpec)

/-- 'skeplaw19.WorldBad', WHERE WHAT IT READS IS OF BULK AT MOST 1048576: true; the input reads as it did. -/
def worldBadUptoRow : OpenClaim := { program := "ytmbibkifbehgnaagreatdoor", sum := "8afbb78af568617f3f809fcdab0f02b3f873495911d44575a1f67069c34a9e84", func := "skep/skeplaw19.WorldBad", spec := "worldBad", inPlace := ["sync/atomic.LoadUint32", "(*internal/sync.Mutex).Lock", "internal/race.Disable", "sync/atomic.CompareAndSwapInt32", "internal/race.Enable", "internal/race.Acquire", "(*internal/sync.Mutex).lockSlow", "internal/sync.runtime_canSpin", "internal/sync.runtime_doSpin", "internal/sync.throw", "internal/sync.runtime_nanotime", "internal/sync.runtime_SemacquireMutex", "sync/atomic.AddInt32", "(*internal/sync.Mutex).Unlock", "internal/race.ReleaseMerge", "(*internal/sync.Mutex).unlockSlow", "internal/sync.fatal", "internal/sync.runtime_Semrelease", "sync/atomic.StoreUint32"], unfollowed := true, recurses := true, named := ["skep/grid.steps"], apart := false, laid := [("skep/grid.steps", laid_skep_grid_steps)], narrowed := true }
def WorldBadUptoSaid : Prop := worldBadUptoRow.holds Tryz.pinned (OpenSpec.upto worldBadSpec)

/-- 'skeplaw19.WorldBins', WHERE WHAT IT READS IS OF BULK AT MOST 1048576: true; the input reads as it did. -/
def worldBinsUptoRow : OpenClaim := { program := "ytmbibkifbehgnaagreatdoor", sum := "8afbb78af568617f3f809fcdab0f02b3f873495911d44575a1f67069c34a9e84", func := "skep/skeplaw19.WorldBins", spec := "worldBins", inPlace := ["sync/atomic.LoadUint32", "(*internal/sync.Mutex).Lock", "internal/race.Disable", "sync/atomic.CompareAndSwapInt32", "internal/race.Enable", "internal/race.Acquire", "(*internal/sync.Mutex).lockSlow", "internal/sync.runtime_canSpin", "internal/sync.runtime_doSpin", "internal/sync.throw", "internal/sync.runtime_nanotime", "internal/sync.runtime_SemacquireMutex", "sync/atomic.AddInt32", "(*internal/sync.Mutex).Unlock", "internal/race.ReleaseMerge", "(*internal/sync.Mutex).unlockSlow", "internal/sync.fatal", "internal/sync.runtime_Semrelease", "sync/atomic.StoreUint32"], unfollowed := true, recurses := true, named := ["skep/grid.steps"], apart := false, laid := [("skep/grid.steps", laid_skep_grid_steps)], narrowed := true }
def WorldBinsUptoSaid : Prop := worldBinsUptoRow.holds Tryz.pinned (OpenSpec.upto worldBinsSpec)

/-- 'skeplaw19.WorldTwice', WHERE WHAT IT READS IS OF BULK AT MOST 1048576: true; the input reads as it did. -/
def worldTwiceUptoRow : OpenClaim := { program := "ytmbibkifbehgnaagreatdoor", sum := "8afbb78af568617f3f809fcdab0f02b3f873495911d44575a1f67069c34a9e84", func := "skep/skeplaw19.WorldTwice", spec := "worldTwice", inPlace := ["sync/atomic.LoadUint32", "(*internal/sync.Mutex).Lock", "internal/race.Disable", "sync/atomic.CompareAndSwapInt32", "internal/race.Enable", "internal/race.Acquire", "(*internal/sync.Mutex).lockSlow", "internal/sync.runtime_canSpin", "internal/sync.runtime_doSpin", "internal/sync.throw", "internal/sync.runtime_nanotime", "internal/sync.runtime_SemacquireMutex", "sync/atomic.AddInt32", "(*internal/sync.Mutex).Unlock", "internal/race.ReleaseMerge", "(*internal/sync.Mutex).unlockSlow", "internal/sync.fatal", "internal/sync.runtime_Semrelease", "sync/atomic.StoreUint32"], unfollowed := true, recurses := true, named := ["skep/grid.steps"], apart := false, laid := [("skep/grid.steps", laid_skep_grid_steps)], narrowed := true }
def WorldTwiceUptoSaid : Prop := worldTwiceUptoRow.holds Tryz.pinned (OpenSpec.upto worldTwiceSpec)

end Rows
end Go.Proofs.YtmbibkifbehgnaaGreatDoor
