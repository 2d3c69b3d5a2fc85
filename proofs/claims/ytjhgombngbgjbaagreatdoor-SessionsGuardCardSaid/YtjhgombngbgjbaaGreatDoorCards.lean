/-
  DERIVED. GIVEN WITH THE SEED: THE CARDS: each row of YtjhgombngbgjbaaGreatDoorRows.lean that lists a variable, with what it lists TIED to the program's text (the seventh form; the later family's looks); each row that meets fmt, with fmt's text TOLD by the authors' own Lean function (tested against real Go, not proved from fmt's source: count such statements apart). THE CARD IS WHAT COUNTS. Prove the row's statement (the work); the ties are given (YtjhgombngbgjbaaGreatDoorTie.lean); close each card by the builder's one call (the guide's Derived/Test/ToyasCard.lean, 'card_holds'). Laid BY PROGRAM, IN A SANDBOX (cutbox-door.mjs). By AI agents, Wed Nov 11 2026. No macro, syntax, notation, axiom, sorry.
-/
import Derived.Test.YtjhgombngbgjbaaGreatDoorRows
import GoSem.ClaimSeven
namespace Go.Proofs.YtjhgombngbgjbaaGreatDoor
namespace Rows

/-- THE TIED CARD OF 'weightedlaw43.SessionsHandle'. -/
def sessionsHandleCard : Claim7 := { stood := { row := sessionsHandleRow, standIns := [], harness := (true, "1db7b3a05fce2a6396da7466358be361de3aacd8fd58349b9b599d45d132a1a4"), looks := false }, kinds := [], alts := [], laidByText := true, laidKinds := [.sentinel], laidTests := true, laidLooks := .later }
def SessionsHandleCardSaid : Prop := Claim7.holds Tryz.pinned (.plain (OpenSpec.ofChange sessionsHandleSpec)) sessionsHandleCard

/-- THE TIED CARD OF 'weightedlaw43.SessionsServe'. -/
def sessionsServeCard : Claim7 := { stood := { row := sessionsServeRow, standIns := [], harness := (true, "1db7b3a05fce2a6396da7466358be361de3aacd8fd58349b9b599d45d132a1a4"), looks := false }, kinds := [], alts := [], laidByText := true, laidKinds := [.sentinel], laidTests := true, laidLooks := .later }
def SessionsServeCardSaid : Prop := Claim7.holds Tryz.pinned (.plain (OpenSpec.ofChange sessionsServeSpec)) sessionsServeCard

/-- THE TIED CARD OF 'weightedlaw43.SessionsResume'. -/
def sessionsResumeCard : Claim7 := { stood := { row := sessionsResumeRow, standIns := [], harness := (true, "1db7b3a05fce2a6396da7466358be361de3aacd8fd58349b9b599d45d132a1a4"), looks := false }, kinds := [], alts := [], laidByText := true, laidKinds := [.sentinel], laidTests := true, laidLooks := .later }
def SessionsResumeCardSaid : Prop := Claim7.holds Tryz.pinned (.plain (OpenSpec.ofChange sessionsResumeSpec)) sessionsResumeCard

/-- THE TIED CARD OF 'weightedlaw43.SessionsGuard'. -/
def sessionsGuardCard : Claim7 := { stood := { row := sessionsGuardRow, standIns := [], harness := (true, "1db7b3a05fce2a6396da7466358be361de3aacd8fd58349b9b599d45d132a1a4"), looks := false }, kinds := [], alts := [], laidByText := true, laidKinds := [.sentinel], laidTests := true, laidLooks := .later }
def SessionsGuardCardSaid : Prop := Claim7.holds Tryz.pinned (.plain (OpenSpec.ofChange sessionsGuardSpec)) sessionsGuardCard

/-- THE TIED CARD OF 'weightedlaw43.SessionsCommit'. -/
def sessionsCommitCard : Claim7 := { stood := { row := sessionsCommitRow, standIns := [], harness := (true, "1db7b3a05fce2a6396da7466358be361de3aacd8fd58349b9b599d45d132a1a4"), looks := false }, kinds := [], alts := [], laidByText := true, laidKinds := [.sentinel], laidTests := true, laidLooks := .later }
def SessionsCommitCardSaid : Prop := Claim7.holds Tryz.pinned (.plain (OpenSpec.ofChange sessionsCommitSpec)) sessionsCommitCard

/-- THE SECOND FORM's CARD OF 'weightedlaw43.SessionsHandle'. -/
def sessionsHandleUptoCard : Claim7 := { stood := { row := sessionsHandleUptoRow, standIns := [], harness := (true, "1db7b3a05fce2a6396da7466358be361de3aacd8fd58349b9b599d45d132a1a4"), looks := false }, kinds := [], alts := [], laidByText := true, laidKinds := [.sentinel], laidTests := true, laidLooks := .later }
def SessionsHandleUptoCardSaid : Prop := Claim7.holds Tryz.pinned (.plain (OpenSpec.upto sessionsHandleSpec)) sessionsHandleUptoCard

/-- THE SECOND FORM's CARD OF 'weightedlaw43.SessionsServe'. -/
def sessionsServeUptoCard : Claim7 := { stood := { row := sessionsServeUptoRow, standIns := [], harness := (true, "1db7b3a05fce2a6396da7466358be361de3aacd8fd58349b9b599d45d132a1a4"), looks := false }, kinds := [], alts := [], laidByText := true, laidKinds := [.sentinel], laidTests := true, laidLooks := .later }
def SessionsServeUptoCardSaid : Prop := Claim7.holds Tryz.pinned (.plain (OpenSpec.upto sessionsServeSpec)) sessionsServeUptoCard

/-- THE SECOND FORM's CARD OF 'weightedlaw43.SessionsResume'. -/
def sessionsResumeUptoCard : Claim7 := { stood := { row := sessionsResumeUptoRow, standIns := [], harness := (true, "1db7b3a05fce2a6396da7466358be361de3aacd8fd58349b9b599d45d132a1a4"), looks := false }, kinds := [], alts := [], laidByText := true, laidKinds := [.sentinel], laidTests := true, laidLooks := .later }
def SessionsResumeUptoCardSaid : Prop := Claim7.holds Tryz.pinned (.plain (OpenSpec.upto sessionsResumeSpec)) sessionsResumeUptoCard

/-- THE SECOND FORM's CARD OF 'weightedlaw43.SessionsGuard'. -/
def sessionsGuardUptoCard : Claim7 := { stood := { row := sessionsGuardUptoRow, standIns := [], harness := (true, "1db7b3a05fce2a6396da7466358be361de3aacd8fd58349b9b599d45d132a1a4"), looks := false }, kinds := [], alts := [], laidByText := true, laidKinds := [.sentinel], laidTests := true, laidLooks := .later }
def SessionsGuardUptoCardSaid : Prop := Claim7.holds Tryz.pinned (.plain (OpenSpec.upto sessionsGuardSpec)) sessionsGuardUptoCard

/-- THE SECOND FORM's CARD OF 'weightedlaw43.SessionsCommit'. -/
def sessionsCommitUptoCard : Claim7 := { stood := { row := sessionsCommitUptoRow, standIns := [], harness := (true, "1db7b3a05fce2a6396da7466358be361de3aacd8fd58349b9b599d45d132a1a4"), looks := false }, kinds := [], alts := [], laidByText := true, laidKinds := [.sentinel], laidTests := true, laidLooks := .later }
def SessionsCommitUptoCardSaid : Prop := Claim7.holds Tryz.pinned (.plain (OpenSpec.upto sessionsCommitSpec)) sessionsCommitUptoCard
end Rows
end Go.Proofs.YtjhgombngbgjbaaGreatDoor
