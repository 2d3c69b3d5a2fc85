/-
  NARROWER THAN 'FOR EVERY INPUT', by the rows' own cells (each row's printed sentence says how): SessionsHandle: laid · SessionsServe: laid · SessionsResume: laid · SessionsGuard: laid · SessionsCommit: laid.
  DERIVED. THE GIVEN ROWS OF THIS SEAT. 5 by the template 'for every input the law returns true; each argument reads behind the call as it read before'; 0 by the template 'total and deterministic' (their statements: YtjhgombngbgjbaaGreatDoorTotals.lean).
  GIVEN WITH THE SEED: the statements are not yours to turn. If you find one false, say at which input.
  Laid BY PROGRAM, IN A SANDBOX (cutbox-rows.mjs): the forced cells as the released guide's own fill.sh prints them over the translation e981171f0bfca59e… (all of the seat's roots in one cut). By AI agents, Wed Nov 11 2026. No macro, syntax, notation, axiom, sorry.
-/
import Derived.Test.YtjhgombngbgjbaaGreatDoorChecked
import GoSem.Claim
import GoSem.ClaimJoined
import GoSem.ClaimMapViews
import Derived.JoinedTies
import Derived.KernelRfl
namespace Go.Proofs.YtjhgombngbgjbaaGreatDoor
/- THE CELL 'sum', in the pinned program and in every row, IS THE sha256 OF THE DUMP (.gsa) THAT YtjhgombngbgjbaaGreatDoorProg.lean LOADS. Nothing in Lean hashes anything: it is a label: what it is worth is what the hold of that sum in a sandbox is worth. -/
noncomputable def Tryz.pinned : Pinned := { name := "ytjhgombngbgjbaagreatdoor", sum := "e981171f0bfca59e746633bfff7ba3a58ddc02a8cbbe244826d8aa9384bd2ab9", checked := Tryz.checked }
namespace Rows
def none {H : Type} : Left H := { results := [], args := [] }

/- WHAT THE LISTED PACKAGE-LEVEL VARIABLES READ AS WHEN THE CALL BEGINS. Each datum BY PROGRAM (the guide's laid-datum.mjs) off the statement by which the dump's own 'gosem.cut.vars' lays the variable. In a bare row this is a premise. The card (YtjhgombngbgjbaaGreatDoorCards.lean) ties it to the program's text. -/
def laid_bytes_ErrTooLarge {H : Type} : DataW H := .iface "*errors.errorString" (.ptr (.agg [.lit (.string [98, 121, 116, 101, 115, 46, 66, 117, 102, 102, 101, 114, 58, 32, 116, 111, 111, 32, 108, 97, 114, 103, 101])]))

/-- 'weightedlaw43.SessionsHandle': WHATEVER THE INPUT: true; the input reads as it did. -/
def sessionsHandleSpec : ChangeSpec := { name := "sessionsHandle", fn := fun _ => fun
  | [d1, d2] => { results := [.lit (.bool true)], args := [d1, d2] }
  | _ => none }
def sessionsHandleRow : OpenClaim := { program := "ytjhgombngbgjbaagreatdoor", sum := "e981171f0bfca59e746633bfff7ba3a58ddc02a8cbbe244826d8aa9384bd2ab9", func := "weighted/weightedlaw43.SessionsHandle", spec := "sessionsHandle", inPlace := ["slices.overlaps[weighted/api.Session]"], unfollowed := true, recurses := true, named := ["bytes.ErrTooLarge"], apart := false, laid := [("bytes.ErrTooLarge", laid_bytes_ErrTooLarge)] }
def SessionsHandleSaid : Prop := sessionsHandleRow.holds Tryz.pinned (OpenSpec.ofChange sessionsHandleSpec)

/-- ITS FALSE NEIGHBOUR: 'it returns false'. Refute it at one input. -/
def sessionsHandleWrong : ChangeSpec := { name := "sessionsHandle", fn := fun _ => fun
  | [d1, d2] => { results := [.lit (.bool false)], args := [d1, d2] }
  | _ => none }
def SessionsHandleWrongFalsely : Prop := sessionsHandleRow.holds Tryz.pinned (OpenSpec.ofChange sessionsHandleWrong)

/-- 'weightedlaw43.SessionsServe': WHATEVER THE INPUT: true; the input reads as it did. -/
def sessionsServeSpec : ChangeSpec := { name := "sessionsServe", fn := fun _ => fun
  | [d1, d2] => { results := [.lit (.bool true)], args := [d1, d2] }
  | _ => none }
def sessionsServeRow : OpenClaim := { program := "ytjhgombngbgjbaagreatdoor", sum := "e981171f0bfca59e746633bfff7ba3a58ddc02a8cbbe244826d8aa9384bd2ab9", func := "weighted/weightedlaw43.SessionsServe", spec := "sessionsServe", inPlace := ["slices.overlaps[weighted/api.Session]"], unfollowed := true, recurses := true, named := ["bytes.ErrTooLarge"], apart := false, laid := [("bytes.ErrTooLarge", laid_bytes_ErrTooLarge)] }
def SessionsServeSaid : Prop := sessionsServeRow.holds Tryz.pinned (OpenSpec.ofChange sessionsServeSpec)

/-- ITS FALSE NEIGHBOUR: 'it returns false'. Refute it at one input. -/
def sessionsServeWrong : ChangeSpec := { name := "sessionsServe", fn := fun _ => fun
  | [d1, d2] => { results := [.lit (.bool false)], args := [d1, d2] }
  | _ => none }
def SessionsServeWrongFalsely : Prop := sessionsServeRow.holds Tryz.pinned (OpenSpec.ofChange sessionsServeWrong)

/-- 'weightedlaw43.SessionsResume': WHATEVER THE INPUT: true; the input reads as it did. -/
def sessionsResumeSpec : ChangeSpec := { name := "sessionsResume", fn := fun _ => fun
  | [d1, d2, d3, d4] => { results := [.lit (.bool true)], args := [d1, d2, d3, d4] }
  | _ => none }
def sessionsResumeRow : OpenClaim := { program := "ytjhgombngbgjbaagreatdoor", sum := "e981171f0bfca59e746633bfff7ba3a58ddc02a8cbbe244826d8aa9384bd2ab9", func := "weighted/weightedlaw43.SessionsResume", spec := "sessionsResume", inPlace := ["slices.overlaps[weighted/api.Session]"], unfollowed := true, recurses := true, named := ["bytes.ErrTooLarge"], apart := false, laid := [("bytes.ErrTooLarge", laid_bytes_ErrTooLarge)] }
def SessionsResumeSaid : Prop := sessionsResumeRow.holds Tryz.pinned (OpenSpec.ofChange sessionsResumeSpec)

/-- ITS FALSE NEIGHBOUR: 'it returns false'. Refute it at one input. -/
def sessionsResumeWrong : ChangeSpec := { name := "sessionsResume", fn := fun _ => fun
  | [d1, d2, d3, d4] => { results := [.lit (.bool false)], args := [d1, d2, d3, d4] }
  | _ => none }
def SessionsResumeWrongFalsely : Prop := sessionsResumeRow.holds Tryz.pinned (OpenSpec.ofChange sessionsResumeWrong)

/-- 'weightedlaw43.SessionsGuard': WHATEVER THE INPUT: true; the input reads as it did. -/
def sessionsGuardSpec : ChangeSpec := { name := "sessionsGuard", fn := fun _ => fun
  | [d1, d2, d3, d4, d5] => { results := [.lit (.bool true)], args := [d1, d2, d3, d4, d5] }
  | _ => none }
def sessionsGuardRow : OpenClaim := { program := "ytjhgombngbgjbaagreatdoor", sum := "e981171f0bfca59e746633bfff7ba3a58ddc02a8cbbe244826d8aa9384bd2ab9", func := "weighted/weightedlaw43.SessionsGuard", spec := "sessionsGuard", inPlace := ["slices.overlaps[weighted/api.Session]"], unfollowed := true, recurses := true, named := ["bytes.ErrTooLarge"], apart := false, laid := [("bytes.ErrTooLarge", laid_bytes_ErrTooLarge)] }
def SessionsGuardSaid : Prop := sessionsGuardRow.holds Tryz.pinned (OpenSpec.ofChange sessionsGuardSpec)

/-- ITS FALSE NEIGHBOUR: 'it returns false'. Refute it at one input. -/
def sessionsGuardWrong : ChangeSpec := { name := "sessionsGuard", fn := fun _ => fun
  | [d1, d2, d3, d4, d5] => { results := [.lit (.bool false)], args := [d1, d2, d3, d4, d5] }
  | _ => none }
def SessionsGuardWrongFalsely : Prop := sessionsGuardRow.holds Tryz.pinned (OpenSpec.ofChange sessionsGuardWrong)

/-- 'weightedlaw43.SessionsCommit': WHATEVER THE INPUT: true; the input reads as it did. -/
def sessionsCommitSpec : ChangeSpec := { name := "sessionsCommit", fn := fun _ => fun
  | [d1, d2] => { results := [.lit (.bool true)], args := [d1, d2] }
  | _ => none }
def sessionsCommitRow : OpenClaim := { program := "ytjhgombngbgjbaagreatdoor", sum := "e981171f0bfca59e746633bfff7ba3a58ddc02a8cbbe244826d8aa9384bd2ab9", func := "weighted/weightedlaw43.SessionsCommit", spec := "sessionsCommit", inPlace := ["slices.overlaps[weighted/api.Session]"], unfollowed := true, recurses := true, named := ["bytes.ErrTooLarge"], apart := false, laid := [("bytes.ErrTooLarge", laid_bytes_ErrTooLarge)] }
def SessionsCommitSaid : Prop := sessionsCommitRow.holds Tryz.pinned (OpenSpec.ofChange sessionsCommitSpec)

/-- ITS FALSE NEIGHBOUR: 'it returns false'. Refute it at one input. -/
def sessionsCommitWrong : ChangeSpec := { name := "sessionsCommit", fn := fun _ => fun
  | [d1, d2] => { results := [.lit (.bool false)], args := [d1, d2] }
  | _ => none }
def SessionsCommitWrongFalsely : Prop := sessionsCommitRow.holds Tryz.pinned (OpenSpec.ofChange sessionsCommitWrong)

/- THE SECOND FORM. 'bulk': how many values and letters a reading holds, each counted each time it is reached (what is shared counts as often as it is met; a slice's spare places count too). A statement '..UptoSaid' is the law's where the arguments, and the package variables that the reading takes, are together of bulk at most 1048576: NARROWER than '..Said'. Prove '..Said' where nothing that the law and all that it calls make is longer than what came in: it says more and counts as full. Else prove '..UptoSaid'. A law counts once. -/
mutual
def uptoBulk {H : Type} : DataW H → Nat
  | .lit (.string bytes) => bytes.length + 1
  | .lit _ => 1
  | .nil => 1
  | .ptr d => uptoBulk d + 1
  | .slice elems spare => uptoBulkAll elems + uptoBulkAll spare + 1
  | .agg parts => uptoBulkAll parts + 1
  | .iface _ d => uptoBulk d + 1
  | .map entries => uptoBulkEntries entries + 1
  | .held _ => 1
def uptoBulkAll {H : Type} : List (DataW H) → Nat
  | [] => 0
  | d :: r => uptoBulk d + uptoBulkAll r
def uptoBulkEntries {H : Type} : List (Lit × DataW H) → Nat
  | [] => 0
  | x :: r => uptoBulkEntry x + uptoBulkEntries r
def uptoBulkEntry {H : Type} : Lit × DataW H → Nat
  | (.string bytes, d) => bytes.length + uptoBulk d + 1
  | (_, d) => uptoBulk d + 1
 end
def uptoSmall : (H : Type) → List (DataW H) → Bool := fun _ ds => decide (uptoBulkAll ds ≤ 1048576)
def OpenSpec.upto (s : _root_.Go.ChangeSpec) : _root_.Go.OpenSpec := { _root_.Go.OpenSpec.ofChange s with cond := some uptoSmall }

/-- 'weightedlaw43.SessionsHandle', WHERE WHAT IT READS IS OF BULK AT MOST 1048576: true; the input reads as it did. -/
def sessionsHandleUptoRow : OpenClaim := { program := "ytjhgombngbgjbaagreatdoor", sum := "e981171f0bfca59e746633bfff7ba3a58ddc02a8cbbe244826d8aa9384bd2ab9", func := "weighted/weightedlaw43.SessionsHandle", spec := "sessionsHandle", inPlace := ["slices.overlaps[weighted/api.Session]"], unfollowed := true, recurses := true, named := ["bytes.ErrTooLarge"], apart := false, laid := [("bytes.ErrTooLarge", laid_bytes_ErrTooLarge)], narrowed := true }
def SessionsHandleUptoSaid : Prop := sessionsHandleUptoRow.holds Tryz.pinned (OpenSpec.upto sessionsHandleSpec)

/-- 'weightedlaw43.SessionsServe', WHERE WHAT IT READS IS OF BULK AT MOST 1048576: true; the input reads as it did. -/
def sessionsServeUptoRow : OpenClaim := { program := "ytjhgombngbgjbaagreatdoor", sum := "e981171f0bfca59e746633bfff7ba3a58ddc02a8cbbe244826d8aa9384bd2ab9", func := "weighted/weightedlaw43.SessionsServe", spec := "sessionsServe", inPlace := ["slices.overlaps[weighted/api.Session]"], unfollowed := true, recurses := true, named := ["bytes.ErrTooLarge"], apart := false, laid := [("bytes.ErrTooLarge", laid_bytes_ErrTooLarge)], narrowed := true }
def SessionsServeUptoSaid : Prop := sessionsServeUptoRow.holds Tryz.pinned (OpenSpec.upto sessionsServeSpec)

/-- 'weightedlaw43.SessionsResume', WHERE WHAT IT READS IS OF BULK AT MOST 1048576: true; the input reads as it did. -/
def sessionsResumeUptoRow : OpenClaim := { program := "ytjhgombngbgjbaagreatdoor", sum := "e981171f0bfca59e746633bfff7ba3a58ddc02a8cbbe244826d8aa9384bd2ab9", func := "weighted/weightedlaw43.SessionsResume", spec := "sessionsResume", inPlace := ["slices.overlaps[weighted/api.Session]"], unfollowed := true, recurses := true, named := ["bytes.ErrTooLarge"], apart := false, laid := [("bytes.ErrTooLarge", laid_bytes_ErrTooLarge)], narrowed := true }
def SessionsResumeUptoSaid : Prop := sessionsResumeUptoRow.holds Tryz.pinned (OpenSpec.upto sessionsResumeSpec)

/-- 'weightedlaw43.SessionsGuard', WHERE WHAT IT READS IS OF BULK AT MOST 1048576: true; the input reads as it did. -/
def sessionsGuardUptoRow : OpenClaim := { program := "ytjhgombngbgjbaagreatdoor", sum := "e981171f0bfca59e746633bfff7ba3a58ddc02a8cbbe244826d8aa9384bd2ab9", func := "weighted/weightedlaw43.SessionsGuard", spec := "sessionsGuard", inPlace := ["slices.overlaps[weighted/api.Session]"], unfollowed := true, recurses := true, named := ["bytes.ErrTooLarge"], apart := false, laid := [("bytes.ErrTooLarge", laid_bytes_ErrTooLarge)], narrowed := true }
def SessionsGuardUptoSaid : Prop := sessionsGuardUptoRow.holds Tryz.pinned (OpenSpec.upto sessionsGuardSpec)

/-- 'weightedlaw43.SessionsCommit', WHERE WHAT IT READS IS OF BULK AT MOST 1048576: true; the input reads as it did. -/
def sessionsCommitUptoRow : OpenClaim := { program := "ytjhgombngbgjbaagreatdoor", sum := "e981171f0bfca59e746633bfff7ba3a58ddc02a8cbbe244826d8aa9384bd2ab9", func := "weighted/weightedlaw43.SessionsCommit", spec := "sessionsCommit", inPlace := ["slices.overlaps[weighted/api.Session]"], unfollowed := true, recurses := true, named := ["bytes.ErrTooLarge"], apart := false, laid := [("bytes.ErrTooLarge", laid_bytes_ErrTooLarge)], narrowed := true }
def SessionsCommitUptoSaid : Prop := sessionsCommitUptoRow.holds Tryz.pinned (OpenSpec.upto sessionsCommitSpec)

end Rows
end Go.Proofs.YtjhgombngbgjbaaGreatDoor
