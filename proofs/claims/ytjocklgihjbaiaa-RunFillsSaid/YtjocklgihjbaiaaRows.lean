/-
  No cell of these rows narrows 'for every input' (looked for: loops, veiled, ifaces, maps, wideKeys, modest, calm, conditions, laid).
  DERIVED. THE GIVEN ROWS OF THIS SEAT. 3 by the template 'for every input the law returns true; each argument reads behind the call as it read before'; 0 by the template 'total and deterministic' (their statements: YtjocklgihjbaiaaTotals.lean).
  GIVEN WITH THE SEED: the statements are not yours to turn. If you find one false, say at which input.
  Laid BY PROGRAM, IN A SANDBOX (cutbox-rows.mjs): the forced cells as the released guide's own fill.sh prints them over the translation 17bc235598bfaa09… (all of the seat's roots in one cut). By AI agents, Wed Nov 11 2026. No macro, syntax, notation, axiom, sorry.
-/
import Derived.Test.YtjocklgihjbaiaaChecked
import GoSem.Claim
import GoSem.ClaimJoined
import GoSem.ClaimMapViews
import Derived.JoinedTies
import Derived.KernelRfl
namespace Go.Proofs.Ytjocklgihjbaiaa
/- THE CELL 'sum', in the pinned program and in every row, IS THE sha256 OF THE DUMP (.gsa) THAT YtjocklgihjbaiaaProg.lean LOADS. Nothing in Lean hashes anything: it is a label: what it is worth is what the hold of that sum in a sandbox is worth. -/
noncomputable def Try.pinned : Pinned := { name := "ytjocklgihjbaiaa", sum := "17bc235598bfaa094cce33719e497aaf0c8e97960abc4d9f2242df1d65448140", checked := Try.checked }
namespace Rows
def none {H : Type} : Left H := { results := [], args := [] }

/-- 'caucuslaw19.RunSame': WHATEVER THE INPUT: true; the input reads as it did. -/
def runSameSpec : ChangeSpec := { name := "runSame", fn := fun _ => fun
  | [d1, d2, d3, d4] => { results := [.lit (.bool true)], args := [d1, d2, d3, d4] }
  | _ => none }
def runSameRow : OpenClaim := { program := "ytjocklgihjbaiaa", sum := "17bc235598bfaa094cce33719e497aaf0c8e97960abc4d9f2242df1d65448140", func := "caucus/caucuslaw19.RunSame", spec := "runSame", unfollowed := true, recurses := true, plainKeys := false, apart := false }
def RunSameSaid : Prop := runSameRow.holds Try.pinned (OpenSpec.ofChange runSameSpec)

/-- ITS FALSE NEIGHBOUR: 'it returns false'. Refute it at one input. -/
def runSameWrong : ChangeSpec := { name := "runSame", fn := fun _ => fun
  | [d1, d2, d3, d4] => { results := [.lit (.bool false)], args := [d1, d2, d3, d4] }
  | _ => none }
def RunSameWrongFalsely : Prop := runSameRow.holds Try.pinned (OpenSpec.ofChange runSameWrong)

/-- 'caucuslaw19.RunFills': WHATEVER THE INPUT: true; the input reads as it did. -/
def runFillsSpec : ChangeSpec := { name := "runFills", fn := fun _ => fun
  | [d1, d2] => { results := [.lit (.bool true)], args := [d1, d2] }
  | _ => none }
def runFillsRow : OpenClaim := { program := "ytjocklgihjbaiaa", sum := "17bc235598bfaa094cce33719e497aaf0c8e97960abc4d9f2242df1d65448140", func := "caucus/caucuslaw19.RunFills", spec := "runFills", unfollowed := true, recurses := true, plainKeys := false, apart := false }
def RunFillsSaid : Prop := runFillsRow.holds Try.pinned (OpenSpec.ofChange runFillsSpec)

/-- ITS FALSE NEIGHBOUR: 'it returns false'. Refute it at one input. -/
def runFillsWrong : ChangeSpec := { name := "runFills", fn := fun _ => fun
  | [d1, d2] => { results := [.lit (.bool false)], args := [d1, d2] }
  | _ => none }
def RunFillsWrongFalsely : Prop := runFillsRow.holds Try.pinned (OpenSpec.ofChange runFillsWrong)

/-- 'caucuslaw19.RunDoes': WHATEVER THE INPUT: true; the input reads as it did. -/
def runDoesSpec : ChangeSpec := { name := "runDoes", fn := fun _ => fun
  | [d1, d2] => { results := [.lit (.bool true)], args := [d1, d2] }
  | _ => none }
def runDoesRow : OpenClaim := { program := "ytjocklgihjbaiaa", sum := "17bc235598bfaa094cce33719e497aaf0c8e97960abc4d9f2242df1d65448140", func := "caucus/caucuslaw19.RunDoes", spec := "runDoes", unfollowed := true, recurses := true, plainKeys := false, apart := false }
def RunDoesSaid : Prop := runDoesRow.holds Try.pinned (OpenSpec.ofChange runDoesSpec)

/-- ITS FALSE NEIGHBOUR: 'it returns false'. Refute it at one input. -/
def runDoesWrong : ChangeSpec := { name := "runDoes", fn := fun _ => fun
  | [d1, d2] => { results := [.lit (.bool false)], args := [d1, d2] }
  | _ => none }
def RunDoesWrongFalsely : Prop := runDoesRow.holds Try.pinned (OpenSpec.ofChange runDoesWrong)

/- THE SECOND FORM. 'bulk': how many values and letters a reading holds, each counted each time it is reached (what is shared counts as often as it is met; a slice's spare places count too). A statement '..UptoSaid' is the law's where the arguments, and the package variables that the reading takes, are together of bulk at most 1048576: NARROWER than '..Said'. Prove '..Said' where nothing that the law and all that it calls make is longer than what came in: it says more and counts as full. Else prove '..UptoSaid'. A law counts once. -/
mutual
def uptoBulk {H : Type} : DataW H → Nat
  | .lit (.string bytes) => bytes.length + 1
  | .lit _ => 1
  | .nil => 1
  | .ptr d => uptoBulk d + 1
  | .slice elems spare => uptoBulkAll elems + uptoBulkAll spare + 1
  | .agg parts => uptoBulkAll parts + 1
  | .iface _ d => uptoBulk d + 1
  | .map entries => uptoBulkEntries entries + 1
  | .held _ => 1
def uptoBulkAll {H : Type} : List (DataW H) → Nat
  | [] => 0
  | d :: r => uptoBulk d + uptoBulkAll r
def uptoBulkEntries {H : Type} : List (Lit × DataW H) → Nat
  | [] => 0
  | x :: r => uptoBulkEntry x + uptoBulkEntries r
def uptoBulkEntry {H : Type} : Lit × DataW H → Nat
  | (.string bytes, d) => bytes.length + uptoBulk d + 1
  | (_, d) => uptoBulk d + 1
 end
def uptoSmall : (H : Type) → List (DataW H) → Bool := fun _ ds => decide (uptoBulkAll ds ≤ 1048576)
def OpenSpec.upto (s : _root_.Go.ChangeSpec) : _root_.Go.OpenSpec := { _root_.Go.OpenSpec.ofChange s with cond := some uptoSmall }

/-- 'caucuslaw19.RunSame', WHERE WHAT IT READS IS OF BULK AT MOST 1048576: true; the input reads as it did. -/
def runSameUptoRow : OpenClaim := { program := "ytjocklgihjbaiaa", sum := "17bc235598bfaa094cce33719e497aaf0c8e97960abc4d9f2242df1d65448140", func := "caucus/caucuslaw19.RunSame", spec := "runSame", unfollowed := true, recurses := true, plainKeys := false, apart := false, narrowed := true }
def RunSameUptoSaid : Prop := runSameUptoRow.holds Try.pinned (OpenSpec.upto runSameSpec)

/-- 'caucuslaw19.RunFills', WHERE WHAT IT READS IS OF BULK AT MOST 1048576: true; the input reads as it did. -/
def runFillsUptoRow : OpenClaim := { program := "ytjocklgihjbaiaa", sum := "17bc235598bfaa094cce33719e497aaf0c8e97960abc4d9f2242df1d65448140", func := "caucus/caucuslaw19.RunFills", spec := "runFills", unfollowed := true, recurses := true, plainKeys := false, apart := false, narrowed := true }
def RunFillsUptoSaid : Prop := runFillsUptoRow.holds Try.pinned (OpenSpec.upto runFillsSpec)

/-- 'caucuslaw19.RunDoes', WHERE WHAT IT READS IS OF BULK AT MOST 1048576: true; the input reads as it did. -/
def runDoesUptoRow : OpenClaim := { program := "ytjocklgihjbaiaa", sum := "17bc235598bfaa094cce33719e497aaf0c8e97960abc4d9f2242df1d65448140", func := "caucus/caucuslaw19.RunDoes", spec := "runDoes", unfollowed := true, recurses := true, plainKeys := false, apart := false, narrowed := true }
def RunDoesUptoSaid : Prop := runDoesUptoRow.holds Try.pinned (OpenSpec.upto runDoesSpec)

end Rows
end Go.Proofs.Ytjocklgihjbaiaa
