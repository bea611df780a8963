/-
  DERIVED. GIVEN WITH THE SEED: THE CARDS: each row of YtjkacllmilafoaaGreatDoorRows.lean that lists a variable, with what it lists TIED to the program's text (the seventh form; the later family's looks); each row that meets fmt, with fmt's text TOLD by the authors' own Lean function (tested against real Go, not proved from fmt's source: count such statements apart). THE CARD IS WHAT COUNTS. Prove the row's statement (the work); the ties are given (YtjkacllmilafoaaGreatDoorTie.lean); close each card by the builder's one call (the guide's Derived/Test/ToyasCard.lean, 'card_holds'). Laid BY PROGRAM, IN A SANDBOX (cutbox-door.mjs). By AI agents, Wed Nov 11 2026. No macro, syntax, notation, axiom, sorry.
-/
import Derived.Test.YtjkacllmilafoaaGreatDoorRows
import GoSem.ClaimSeven
namespace Go.Proofs.YtjkacllmilafoaaGreatDoor
namespace Rows

/-- THE TIED CARD OF 'souffleurlaw08.TokenBack'. -/
def tokenBackCard : Claim7 := { stood := { row := tokenBackRow, standIns := [], harness := (true, "f86487806e02c675690c908327e6bdddef86320820f7f0ff51c0fdf8428e3888"), looks := true }, kinds := [], alts := [], laidByText := true, laidKinds := [.data, .data, .data, .data, .sentinel, .sentinel, .pinned], laidTests := true, laidLooks := .later }
def TokenBackCardSaid : Prop := Claim7.holds Tryz.pinned (.plain (OpenSpec.ofChange tokenBackSpec)) tokenBackCard

/-- THE TIED CARD OF 'souffleurlaw08.TokenAny'. -/
def tokenAnyCard : Claim7 := { stood := { row := tokenAnyRow, standIns := [], harness := (true, "f86487806e02c675690c908327e6bdddef86320820f7f0ff51c0fdf8428e3888"), looks := true }, kinds := [], alts := [], laidByText := true, laidKinds := [.data, .data, .data, .data, .sentinel, .sentinel, .pinned], laidTests := true, laidLooks := .later }
def TokenAnyCardSaid : Prop := Claim7.holds Tryz.pinned (.plain (OpenSpec.ofChange tokenAnySpec)) tokenAnyCard

/-- THE TIED CARD OF 'souffleurlaw08.TokenLong'. -/
def tokenLongCard : Claim7 := { stood := { row := tokenLongRow, standIns := [], harness := (true, "f86487806e02c675690c908327e6bdddef86320820f7f0ff51c0fdf8428e3888"), looks := true }, kinds := [], alts := [], laidByText := true, laidKinds := [.data, .data, .data, .data, .sentinel, .sentinel, .pinned], laidTests := true, laidLooks := .later }
def TokenLongCardSaid : Prop := Claim7.holds Tryz.pinned (.plain (OpenSpec.ofChange tokenLongSpec)) tokenLongCard

/-- THE TIED CARD OF 'souffleurlaw13.PeerBack'. -/
def peerBackCard : Claim7 := { stood := { row := peerBackRow, standIns := [], harness := (true, "f86487806e02c675690c908327e6bdddef86320820f7f0ff51c0fdf8428e3888"), looks := true }, kinds := [], alts := [], laidByText := true, laidKinds := [.data, .data, .data, .data, .sentinel, .sentinel, .pinned], laidTests := true, laidLooks := .later }
def PeerBackCardSaid : Prop := Claim7.holds Tryz.pinned (.plain (OpenSpec.ofChange peerBackSpec)) peerBackCard

/-- THE TIED CARD OF 'souffleurlaw13.PeerAny'. -/
def peerAnyCard : Claim7 := { stood := { row := peerAnyRow, standIns := [], harness := (true, "f86487806e02c675690c908327e6bdddef86320820f7f0ff51c0fdf8428e3888"), looks := true }, kinds := [], alts := [], laidByText := true, laidKinds := [.data, .data, .data, .data, .sentinel, .sentinel, .pinned], laidTests := true, laidLooks := .later }
def PeerAnyCardSaid : Prop := Claim7.holds Tryz.pinned (.plain (OpenSpec.ofChange peerAnySpec)) peerAnyCard

/-- THE TIED CARD OF 'souffleurlaw13.PeerSames'. -/
def peerSamesCard : Claim7 := { stood := { row := peerSamesRow, standIns := [], harness := (true, "f86487806e02c675690c908327e6bdddef86320820f7f0ff51c0fdf8428e3888"), looks := true }, kinds := [], alts := [], laidByText := true, laidKinds := [.data, .data, .data, .data, .sentinel, .sentinel, .pinned], laidTests := true, laidLooks := .later }
def PeerSamesCardSaid : Prop := Claim7.holds Tryz.pinned (.plain (OpenSpec.ofChange peerSamesSpec)) peerSamesCard

/-- THE TIED CARD OF 'souffleurlaw11.SenseTexts'. -/
def senseTextsCard : Claim7 := { stood := { row := senseTextsRow, standIns := [], harness := (true, "f86487806e02c675690c908327e6bdddef86320820f7f0ff51c0fdf8428e3888"), looks := true }, kinds := [], alts := [], laidByText := true, laidKinds := [.data, .data, .data, .sentinel, .sentinel], laidTests := true, laidLooks := .later }
def SenseTextsCardSaid : Prop := Claim7.holds Tryz.pinned (.plain (OpenSpec.ofChange senseTextsSpec)) senseTextsCard

/-- THE TIED CARD OF 'souffleurlaw10.ScriptAny'. -/
def scriptAnyCard : Claim7 := { stood := { row := scriptAnyRow, standIns := [], harness := (true, "f86487806e02c675690c908327e6bdddef86320820f7f0ff51c0fdf8428e3888"), looks := true }, kinds := [], alts := [], laidByText := true, laidKinds := [.data, .data, .data, .data, .sentinel, .sentinel, .pinned], laidTests := true, laidLooks := .later }
def ScriptAnyCardSaid : Prop := Claim7.holds Tryz.pinned (.plain (OpenSpec.ofChange scriptAnySpec)) scriptAnyCard

/-- THE TIED CARD OF 'souffleurlaw10.ScriptSames'. -/
def scriptSamesCard : Claim7 := { stood := { row := scriptSamesRow, standIns := [], harness := (true, "f86487806e02c675690c908327e6bdddef86320820f7f0ff51c0fdf8428e3888"), looks := true }, kinds := [], alts := [], laidByText := true, laidKinds := [.data, .data, .data, .data, .sentinel, .sentinel, .pinned], laidTests := true, laidLooks := .later }
def ScriptSamesCardSaid : Prop := Claim7.holds Tryz.pinned (.plain (OpenSpec.ofChange scriptSamesSpec)) scriptSamesCard

/-- THE SECOND FORM's CARD OF 'souffleurlaw08.TokenBack'. -/
def tokenBackUptoCard : Claim7 := { stood := { row := tokenBackUptoRow, standIns := [], harness := (true, "f86487806e02c675690c908327e6bdddef86320820f7f0ff51c0fdf8428e3888"), looks := true }, kinds := [], alts := [], laidByText := true, laidKinds := [.data, .data, .data, .data, .sentinel, .sentinel, .pinned], laidTests := true, laidLooks := .later }
def TokenBackUptoCardSaid : Prop := Claim7.holds Tryz.pinned (.plain (OpenSpec.upto tokenBackSpec)) tokenBackUptoCard

/-- THE SECOND FORM's CARD OF 'souffleurlaw08.TokenAny'. -/
def tokenAnyUptoCard : Claim7 := { stood := { row := tokenAnyUptoRow, standIns := [], harness := (true, "f86487806e02c675690c908327e6bdddef86320820f7f0ff51c0fdf8428e3888"), looks := true }, kinds := [], alts := [], laidByText := true, laidKinds := [.data, .data, .data, .data, .sentinel, .sentinel, .pinned], laidTests := true, laidLooks := .later }
def TokenAnyUptoCardSaid : Prop := Claim7.holds Tryz.pinned (.plain (OpenSpec.upto tokenAnySpec)) tokenAnyUptoCard

/-- THE SECOND FORM's CARD OF 'souffleurlaw08.TokenLong'. -/
def tokenLongUptoCard : Claim7 := { stood := { row := tokenLongUptoRow, standIns := [], harness := (true, "f86487806e02c675690c908327e6bdddef86320820f7f0ff51c0fdf8428e3888"), looks := true }, kinds := [], alts := [], laidByText := true, laidKinds := [.data, .data, .data, .data, .sentinel, .sentinel, .pinned], laidTests := true, laidLooks := .later }
def TokenLongUptoCardSaid : Prop := Claim7.holds Tryz.pinned (.plain (OpenSpec.upto tokenLongSpec)) tokenLongUptoCard

/-- THE SECOND FORM's CARD OF 'souffleurlaw13.PeerBack'. -/
def peerBackUptoCard : Claim7 := { stood := { row := peerBackUptoRow, standIns := [], harness := (true, "f86487806e02c675690c908327e6bdddef86320820f7f0ff51c0fdf8428e3888"), looks := true }, kinds := [], alts := [], laidByText := true, laidKinds := [.data, .data, .data, .data, .sentinel, .sentinel, .pinned], laidTests := true, laidLooks := .later }
def PeerBackUptoCardSaid : Prop := Claim7.holds Tryz.pinned (.plain (OpenSpec.upto peerBackSpec)) peerBackUptoCard

/-- THE SECOND FORM's CARD OF 'souffleurlaw13.PeerAny'. -/
def peerAnyUptoCard : Claim7 := { stood := { row := peerAnyUptoRow, standIns := [], harness := (true, "f86487806e02c675690c908327e6bdddef86320820f7f0ff51c0fdf8428e3888"), looks := true }, kinds := [], alts := [], laidByText := true, laidKinds := [.data, .data, .data, .data, .sentinel, .sentinel, .pinned], laidTests := true, laidLooks := .later }
def PeerAnyUptoCardSaid : Prop := Claim7.holds Tryz.pinned (.plain (OpenSpec.upto peerAnySpec)) peerAnyUptoCard

/-- THE SECOND FORM's CARD OF 'souffleurlaw13.PeerSames'. -/
def peerSamesUptoCard : Claim7 := { stood := { row := peerSamesUptoRow, standIns := [], harness := (true, "f86487806e02c675690c908327e6bdddef86320820f7f0ff51c0fdf8428e3888"), looks := true }, kinds := [], alts := [], laidByText := true, laidKinds := [.data, .data, .data, .data, .sentinel, .sentinel, .pinned], laidTests := true, laidLooks := .later }
def PeerSamesUptoCardSaid : Prop := Claim7.holds Tryz.pinned (.plain (OpenSpec.upto peerSamesSpec)) peerSamesUptoCard

/-- THE SECOND FORM's CARD OF 'souffleurlaw11.SenseTexts'. -/
def senseTextsUptoCard : Claim7 := { stood := { row := senseTextsUptoRow, standIns := [], harness := (true, "f86487806e02c675690c908327e6bdddef86320820f7f0ff51c0fdf8428e3888"), looks := true }, kinds := [], alts := [], laidByText := true, laidKinds := [.data, .data, .data, .sentinel, .sentinel], laidTests := true, laidLooks := .later }
def SenseTextsUptoCardSaid : Prop := Claim7.holds Tryz.pinned (.plain (OpenSpec.upto senseTextsSpec)) senseTextsUptoCard

/-- THE SECOND FORM's CARD OF 'souffleurlaw10.ScriptAny'. -/
def scriptAnyUptoCard : Claim7 := { stood := { row := scriptAnyUptoRow, standIns := [], harness := (true, "f86487806e02c675690c908327e6bdddef86320820f7f0ff51c0fdf8428e3888"), looks := true }, kinds := [], alts := [], laidByText := true, laidKinds := [.data, .data, .data, .data, .sentinel, .sentinel, .pinned], laidTests := true, laidLooks := .later }
def ScriptAnyUptoCardSaid : Prop := Claim7.holds Tryz.pinned (.plain (OpenSpec.upto scriptAnySpec)) scriptAnyUptoCard

/-- THE SECOND FORM's CARD OF 'souffleurlaw10.ScriptSames'. -/
def scriptSamesUptoCard : Claim7 := { stood := { row := scriptSamesUptoRow, standIns := [], harness := (true, "f86487806e02c675690c908327e6bdddef86320820f7f0ff51c0fdf8428e3888"), looks := true }, kinds := [], alts := [], laidByText := true, laidKinds := [.data, .data, .data, .data, .sentinel, .sentinel, .pinned], laidTests := true, laidLooks := .later }
def ScriptSamesUptoCardSaid : Prop := Claim7.holds Tryz.pinned (.plain (OpenSpec.upto scriptSamesSpec)) scriptSamesUptoCard
end Rows
end Go.Proofs.YtjkacllmilafoaaGreatDoor
