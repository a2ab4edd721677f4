/-
  No cell of these rows narrows 'for every input' (looked for: loops, veiled, ifaces, maps, wideKeys, modest, calm, conditions, laid).
  DERIVED. THE GIVEN ROWS OF THIS SEAT. 10 by the template 'for every input the law returns true; each argument reads behind the call as it read before'; 0 by the template 'total and deterministic' (their statements: YtkmmihadcbfkoaaTotals.lean).
  GIVEN WITH THE SEED: the statements are not yours to turn. If you find one false, say at which input.
  Laid BY PROGRAM, IN A SANDBOX (cutbox-rows.mjs): the forced cells as the released guide's own fill.sh prints them over the translation dcce64ceacd2ea67… (all of the seat's roots in one cut). By AI agents, Wed Nov 11 2026. No macro, syntax, notation, axiom, sorry.
-/
import Derived.Test.YtkmmihadcbfkoaaChecked
import GoSem.Claim
import GoSem.ClaimJoined
import GoSem.ClaimMapViews
import Derived.JoinedTies
import Derived.KernelRfl
namespace Go.Proofs.Ytkmmihadcbfkoaa
/- THE CELL 'sum', in the pinned program and in every row, IS THE sha256 OF THE DUMP (.gsa) THAT YtkmmihadcbfkoaaProg.lean LOADS. Nothing in Lean hashes anything: it is a label: what it is worth is what the hold of that sum in a sandbox is worth. -/
noncomputable def Try.pinned : Pinned := { name := "ytkmmihadcbfkoaa", sum := "dcce64ceacd2ea671cefb48815826f02dfaf98d2cdfc005deeef97c115e3b068", checked := Try.checked }
namespace Rows
def none {H : Type} : Left H := { results := [], args := [] }

/-- 'laganlaw04.MatchAll': WHATEVER THE INPUT: true; the input reads as it did. -/
def matchAllSpec : ChangeSpec := { name := "matchAll", fn := fun _ => fun
  | [d1, d2] => { results := [.lit (.bool true)], args := [d1, d2] }
  | _ => none }
def matchAllRow : OpenClaim := { program := "ytkmmihadcbfkoaa", sum := "dcce64ceacd2ea671cefb48815826f02dfaf98d2cdfc005deeef97c115e3b068", func := "lagan/laganlaw04.MatchAll", spec := "matchAll", unfollowed := true, recurses := true, plainKeys := false, apart := false }
def MatchAllSaid : Prop := matchAllRow.holds Try.pinned (OpenSpec.ofChange matchAllSpec)

/-- ITS FALSE NEIGHBOUR: 'it returns false'. Refute it at one input. -/
def matchAllWrong : ChangeSpec := { name := "matchAll", fn := fun _ => fun
  | [d1, d2] => { results := [.lit (.bool false)], args := [d1, d2] }
  | _ => none }
def MatchAllWrongFalsely : Prop := matchAllRow.holds Try.pinned (OpenSpec.ofChange matchAllWrong)

/-- 'laganlaw04.MatchMemory': WHATEVER THE INPUT: true; the input reads as it did. -/
def matchMemorySpec : ChangeSpec := { name := "matchMemory", fn := fun _ => fun
  | [d1, d2, d3] => { results := [.lit (.bool true)], args := [d1, d2, d3] }
  | _ => none }
def matchMemoryRow : OpenClaim := { program := "ytkmmihadcbfkoaa", sum := "dcce64ceacd2ea671cefb48815826f02dfaf98d2cdfc005deeef97c115e3b068", func := "lagan/laganlaw04.MatchMemory", spec := "matchMemory", unfollowed := true, recurses := true, plainKeys := false, apart := false }
def MatchMemorySaid : Prop := matchMemoryRow.holds Try.pinned (OpenSpec.ofChange matchMemorySpec)

/-- ITS FALSE NEIGHBOUR: 'it returns false'. Refute it at one input. -/
def matchMemoryWrong : ChangeSpec := { name := "matchMemory", fn := fun _ => fun
  | [d1, d2, d3] => { results := [.lit (.bool false)], args := [d1, d2, d3] }
  | _ => none }
def MatchMemoryWrongFalsely : Prop := matchMemoryRow.holds Try.pinned (OpenSpec.ofChange matchMemoryWrong)

/-- 'laganlaw04.MatchMay': WHATEVER THE INPUT: true; the input reads as it did. -/
def matchMaySpec : ChangeSpec := { name := "matchMay", fn := fun _ => fun
  | [d1, d2, d3, d4] => { results := [.lit (.bool true)], args := [d1, d2, d3, d4] }
  | _ => none }
def matchMayRow : OpenClaim := { program := "ytkmmihadcbfkoaa", sum := "dcce64ceacd2ea671cefb48815826f02dfaf98d2cdfc005deeef97c115e3b068", func := "lagan/laganlaw04.MatchMay", spec := "matchMay", unfollowed := true, recurses := true, plainKeys := false, apart := false }
def MatchMaySaid : Prop := matchMayRow.holds Try.pinned (OpenSpec.ofChange matchMaySpec)

/-- ITS FALSE NEIGHBOUR: 'it returns false'. Refute it at one input. -/
def matchMayWrong : ChangeSpec := { name := "matchMay", fn := fun _ => fun
  | [d1, d2, d3, d4] => { results := [.lit (.bool false)], args := [d1, d2, d3, d4] }
  | _ => none }
def MatchMayWrongFalsely : Prop := matchMayRow.holds Try.pinned (OpenSpec.ofChange matchMayWrong)

/-- 'laganlaw04.MatchLoads': WHATEVER THE INPUT: true; the input reads as it did. -/
def matchLoadsSpec : ChangeSpec := { name := "matchLoads", fn := fun _ => fun
  | [d1, d2, d3] => { results := [.lit (.bool true)], args := [d1, d2, d3] }
  | _ => none }
def matchLoadsRow : OpenClaim := { program := "ytkmmihadcbfkoaa", sum := "dcce64ceacd2ea671cefb48815826f02dfaf98d2cdfc005deeef97c115e3b068", func := "lagan/laganlaw04.MatchLoads", spec := "matchLoads", unfollowed := true, recurses := true, plainKeys := false, apart := false }
def MatchLoadsSaid : Prop := matchLoadsRow.holds Try.pinned (OpenSpec.ofChange matchLoadsSpec)

/-- ITS FALSE NEIGHBOUR: 'it returns false'. Refute it at one input. -/
def matchLoadsWrong : ChangeSpec := { name := "matchLoads", fn := fun _ => fun
  | [d1, d2, d3] => { results := [.lit (.bool false)], args := [d1, d2, d3] }
  | _ => none }
def MatchLoadsWrongFalsely : Prop := matchLoadsRow.holds Try.pinned (OpenSpec.ofChange matchLoadsWrong)

/-- 'laganlaw04.MatchEither': WHATEVER THE INPUT: true; the input reads as it did. -/
def matchEitherSpec : ChangeSpec := { name := "matchEither", fn := fun _ => fun
  | [d1, d2, d3] => { results := [.lit (.bool true)], args := [d1, d2, d3] }
  | _ => none }
def matchEitherRow : OpenClaim := { program := "ytkmmihadcbfkoaa", sum := "dcce64ceacd2ea671cefb48815826f02dfaf98d2cdfc005deeef97c115e3b068", func := "lagan/laganlaw04.MatchEither", spec := "matchEither", unfollowed := true, recurses := true, plainKeys := false, apart := false }
def MatchEitherSaid : Prop := matchEitherRow.holds Try.pinned (OpenSpec.ofChange matchEitherSpec)

/-- ITS FALSE NEIGHBOUR: 'it returns false'. Refute it at one input. -/
def matchEitherWrong : ChangeSpec := { name := "matchEither", fn := fun _ => fun
  | [d1, d2, d3] => { results := [.lit (.bool false)], args := [d1, d2, d3] }
  | _ => none }
def MatchEitherWrongFalsely : Prop := matchEitherRow.holds Try.pinned (OpenSpec.ofChange matchEitherWrong)

/-- 'laganlaw04.MatchEvery': WHATEVER THE INPUT: true; the input reads as it did. -/
def matchEverySpec : ChangeSpec := { name := "matchEvery", fn := fun _ => fun
  | [d1, d2, d3, d4] => { results := [.lit (.bool true)], args := [d1, d2, d3, d4] }
  | _ => none }
def matchEveryRow : OpenClaim := { program := "ytkmmihadcbfkoaa", sum := "dcce64ceacd2ea671cefb48815826f02dfaf98d2cdfc005deeef97c115e3b068", func := "lagan/laganlaw04.MatchEvery", spec := "matchEvery", unfollowed := true, recurses := true, plainKeys := false, apart := false }
def MatchEverySaid : Prop := matchEveryRow.holds Try.pinned (OpenSpec.ofChange matchEverySpec)

/-- ITS FALSE NEIGHBOUR: 'it returns false'. Refute it at one input. -/
def matchEveryWrong : ChangeSpec := { name := "matchEvery", fn := fun _ => fun
  | [d1, d2, d3, d4] => { results := [.lit (.bool false)], args := [d1, d2, d3, d4] }
  | _ => none }
def MatchEveryWrongFalsely : Prop := matchEveryRow.holds Try.pinned (OpenSpec.ofChange matchEveryWrong)

/-- 'laganlaw04.MatchOthers': WHATEVER THE INPUT: true; the input reads as it did. -/
def matchOthersSpec : ChangeSpec := { name := "matchOthers", fn := fun _ => fun
  | [d1, d2, d3] => { results := [.lit (.bool true)], args := [d1, d2, d3] }
  | _ => none }
def matchOthersRow : OpenClaim := { program := "ytkmmihadcbfkoaa", sum := "dcce64ceacd2ea671cefb48815826f02dfaf98d2cdfc005deeef97c115e3b068", func := "lagan/laganlaw04.MatchOthers", spec := "matchOthers", unfollowed := true, recurses := true, plainKeys := false, apart := false }
def MatchOthersSaid : Prop := matchOthersRow.holds Try.pinned (OpenSpec.ofChange matchOthersSpec)

/-- ITS FALSE NEIGHBOUR: 'it returns false'. Refute it at one input. -/
def matchOthersWrong : ChangeSpec := { name := "matchOthers", fn := fun _ => fun
  | [d1, d2, d3] => { results := [.lit (.bool false)], args := [d1, d2, d3] }
  | _ => none }
def MatchOthersWrongFalsely : Prop := matchOthersRow.holds Try.pinned (OpenSpec.ofChange matchOthersWrong)

/-- 'laganlaw04.MatchShown': WHATEVER THE INPUT: true; the input reads as it did. -/
def matchShownSpec : ChangeSpec := { name := "matchShown", fn := fun _ => fun
  | [d1, d2, d3, d4, d5] => { results := [.lit (.bool true)], args := [d1, d2, d3, d4, d5] }
  | _ => none }
def matchShownRow : OpenClaim := { program := "ytkmmihadcbfkoaa", sum := "dcce64ceacd2ea671cefb48815826f02dfaf98d2cdfc005deeef97c115e3b068", func := "lagan/laganlaw04.MatchShown", spec := "matchShown", unfollowed := true, recurses := true, plainKeys := false, apart := false }
def MatchShownSaid : Prop := matchShownRow.holds Try.pinned (OpenSpec.ofChange matchShownSpec)

/-- ITS FALSE NEIGHBOUR: 'it returns false'. Refute it at one input. -/
def matchShownWrong : ChangeSpec := { name := "matchShown", fn := fun _ => fun
  | [d1, d2, d3, d4, d5] => { results := [.lit (.bool false)], args := [d1, d2, d3, d4, d5] }
  | _ => none }
def MatchShownWrongFalsely : Prop := matchShownRow.holds Try.pinned (OpenSpec.ofChange matchShownWrong)

/-- 'laganlaw04.MatchChecks': WHATEVER THE INPUT: true; the input reads as it did. -/
def matchChecksSpec : ChangeSpec := { name := "matchChecks", fn := fun _ => fun
  | [d1, d2, d3, d4, d5] => { results := [.lit (.bool true)], args := [d1, d2, d3, d4, d5] }
  | _ => none }
def matchChecksRow : OpenClaim := { program := "ytkmmihadcbfkoaa", sum := "dcce64ceacd2ea671cefb48815826f02dfaf98d2cdfc005deeef97c115e3b068", func := "lagan/laganlaw04.MatchChecks", spec := "matchChecks", unfollowed := true, recurses := true, plainKeys := false, apart := false }
def MatchChecksSaid : Prop := matchChecksRow.holds Try.pinned (OpenSpec.ofChange matchChecksSpec)

/-- ITS FALSE NEIGHBOUR: 'it returns false'. Refute it at one input. -/
def matchChecksWrong : ChangeSpec := { name := "matchChecks", fn := fun _ => fun
  | [d1, d2, d3, d4, d5] => { results := [.lit (.bool false)], args := [d1, d2, d3, d4, d5] }
  | _ => none }
def MatchChecksWrongFalsely : Prop := matchChecksRow.holds Try.pinned (OpenSpec.ofChange matchChecksWrong)

/-- 'laganlaw04.MatchBoards': WHATEVER THE INPUT: true; the input reads as it did. -/
def matchBoardsSpec : ChangeSpec := { name := "matchBoards", fn := fun _ => fun
  | [d1, d2, d3] => { results := [.lit (.bool true)], args := [d1, d2, d3] }
  | _ => none }
def matchBoardsRow : OpenClaim := { program := "ytkmmihadcbfkoaa", sum := "dcce64ceacd2ea671cefb48815826f02dfaf98d2cdfc005deeef97c115e3b068", func := "lagan/laganlaw04.MatchBoards", spec := "matchBoards", unfollowed := true, recurses := true, plainKeys := false, apart := false }
def MatchBoardsSaid : Prop := matchBoardsRow.holds Try.pinned (OpenSpec.ofChange matchBoardsSpec)

/-- ITS FALSE NEIGHBOUR: 'it returns false'. Refute it at one input. -/
def matchBoardsWrong : ChangeSpec := { name := "matchBoards", fn := fun _ => fun
  | [d1, d2, d3] => { results := [.lit (.bool false)], args := [d1, d2, d3] }
  | _ => none }
def MatchBoardsWrongFalsely : Prop := matchBoardsRow.holds Try.pinned (OpenSpec.ofChange matchBoardsWrong)

/- THE SECOND FORM. 'bulk': how many values and letters a reading holds, each counted each time it is reached (what is shared counts as often as it is met; a slice's spare places count too). A statement '..UptoSaid' is the law's where the arguments, and the package variables that the reading takes, are together of bulk at most 1048576: NARROWER than '..Said'. Prove '..Said' where nothing that the law and all that it calls make is longer than what came in: it says more and counts as full. Else prove '..UptoSaid'. A law counts once. -/
mutual
def uptoBulk {H : Type} : DataW H → Nat
  | .lit (.string bytes) => bytes.length + 1
  | .lit _ => 1
  | .nil => 1
  | .ptr d => uptoBulk d + 1
  | .slice elems spare => uptoBulkAll elems + uptoBulkAll spare + 1
  | .agg parts => uptoBulkAll parts + 1
  | .iface _ d => uptoBulk d + 1
  | .map entries => uptoBulkEntries entries + 1
  | .held _ => 1
def uptoBulkAll {H : Type} : List (DataW H) → Nat
  | [] => 0
  | d :: r => uptoBulk d + uptoBulkAll r
def uptoBulkEntries {H : Type} : List (Lit × DataW H) → Nat
  | [] => 0
  | x :: r => uptoBulkEntry x + uptoBulkEntries r
def uptoBulkEntry {H : Type} : Lit × DataW H → Nat
  | (.string bytes, d) => bytes.length + uptoBulk d + 1
  | (_, d) => uptoBulk d + 1
 end
def uptoSmall : (H : Type) → List (DataW H) → Bool := fun _ ds => decide (uptoBulkAll ds ≤ 1048576)
def OpenSpec.upto (s : _root_.Go.ChangeSpec) : _root_.Go.OpenSpec := { _root_.Go.OpenSpec.ofChange s with cond := some uptoSmall }

/-- 'laganlaw04.MatchAll', WHERE WHAT IT READS IS OF BULK AT MOST 1048576: true; the input reads as it did. -/
def matchAllUptoRow : OpenClaim := { program := "ytkmmihadcbfkoaa", sum := "dcce64ceacd2ea671cefb48815826f02dfaf98d2cdfc005deeef97c115e3b068", func := "lagan/laganlaw04.MatchAll", spec := "matchAll", unfollowed := true, recurses := true, plainKeys := false, apart := false, narrowed := true }
def MatchAllUptoSaid : Prop := matchAllUptoRow.holds Try.pinned (OpenSpec.upto matchAllSpec)

/-- 'laganlaw04.MatchMemory', WHERE WHAT IT READS IS OF BULK AT MOST 1048576: true; the input reads as it did. -/
def matchMemoryUptoRow : OpenClaim := { program := "ytkmmihadcbfkoaa", sum := "dcce64ceacd2ea671cefb48815826f02dfaf98d2cdfc005deeef97c115e3b068", func := "lagan/laganlaw04.MatchMemory", spec := "matchMemory", unfollowed := true, recurses := true, plainKeys := false, apart := false, narrowed := true }
def MatchMemoryUptoSaid : Prop := matchMemoryUptoRow.holds Try.pinned (OpenSpec.upto matchMemorySpec)

/-- 'laganlaw04.MatchMay', WHERE WHAT IT READS IS OF BULK AT MOST 1048576: true; the input reads as it did. -/
def matchMayUptoRow : OpenClaim := { program := "ytkmmihadcbfkoaa", sum := "dcce64ceacd2ea671cefb48815826f02dfaf98d2cdfc005deeef97c115e3b068", func := "lagan/laganlaw04.MatchMay", spec := "matchMay", unfollowed := true, recurses := true, plainKeys := false, apart := false, narrowed := true }
def MatchMayUptoSaid : Prop := matchMayUptoRow.holds Try.pinned (OpenSpec.upto matchMaySpec)

/-- 'laganlaw04.MatchLoads', WHERE WHAT IT READS IS OF BULK AT MOST 1048576: true; the input reads as it did. -/
def matchLoadsUptoRow : OpenClaim := { program := "ytkmmihadcbfkoaa", sum := "dcce64ceacd2ea671cefb48815826f02dfaf98d2cdfc005deeef97c115e3b068", func := "lagan/laganlaw04.MatchLoads", spec := "matchLoads", unfollowed := true, recurses := true, plainKeys := false, apart := false, narrowed := true }
def MatchLoadsUptoSaid : Prop := matchLoadsUptoRow.holds Try.pinned (OpenSpec.upto matchLoadsSpec)

/-- 'laganlaw04.MatchEither', WHERE WHAT IT READS IS OF BULK AT MOST 1048576: true; the input reads as it did. -/
def matchEitherUptoRow : OpenClaim := { program := "ytkmmihadcbfkoaa", sum := "dcce64ceacd2ea671cefb48815826f02dfaf98d2cdfc005deeef97c115e3b068", func := "lagan/laganlaw04.MatchEither", spec := "matchEither", unfollowed := true, recurses := true, plainKeys := false, apart := false, narrowed := true }
def MatchEitherUptoSaid : Prop := matchEitherUptoRow.holds Try.pinned (OpenSpec.upto matchEitherSpec)

/-- 'laganlaw04.MatchEvery', WHERE WHAT IT READS IS OF BULK AT MOST 1048576: true; the input reads as it did. -/
def matchEveryUptoRow : OpenClaim := { program := "ytkmmihadcbfkoaa", sum := "dcce64ceacd2ea671cefb48815826f02dfaf98d2cdfc005deeef97c115e3b068", func := "lagan/laganlaw04.MatchEvery", spec := "matchEvery", unfollowed := true, recurses := true, plainKeys := false, apart := false, narrowed := true }
def MatchEveryUptoSaid : Prop := matchEveryUptoRow.holds Try.pinned (OpenSpec.upto matchEverySpec)

/-- 'laganlaw04.MatchOthers', WHERE WHAT IT READS IS OF BULK AT MOST 1048576: true; the input reads as it did. -/
def matchOthersUptoRow : OpenClaim := { program := "ytkmmihadcbfkoaa", sum := "dcce64ceacd2ea671cefb48815826f02dfaf98d2cdfc005deeef97c115e3b068", func := "lagan/laganlaw04.MatchOthers", spec := "matchOthers", unfollowed := true, recurses := true, plainKeys := false, apart := false, narrowed := true }
def MatchOthersUptoSaid : Prop := matchOthersUptoRow.holds Try.pinned (OpenSpec.upto matchOthersSpec)

/-- 'laganlaw04.MatchShown', WHERE WHAT IT READS IS OF BULK AT MOST 1048576: true; the input reads as it did. -/
def matchShownUptoRow : OpenClaim := { program := "ytkmmihadcbfkoaa", sum := "dcce64ceacd2ea671cefb48815826f02dfaf98d2cdfc005deeef97c115e3b068", func := "lagan/laganlaw04.MatchShown", spec := "matchShown", unfollowed := true, recurses := true, plainKeys := false, apart := false, narrowed := true }
def MatchShownUptoSaid : Prop := matchShownUptoRow.holds Try.pinned (OpenSpec.upto matchShownSpec)

/-- 'laganlaw04.MatchChecks', WHERE WHAT IT READS IS OF BULK AT MOST 1048576: true; the input reads as it did. -/
def matchChecksUptoRow : OpenClaim := { program := "ytkmmihadcbfkoaa", sum := "dcce64ceacd2ea671cefb48815826f02dfaf98d2cdfc005deeef97c115e3b068", func := "lagan/laganlaw04.MatchChecks", spec := "matchChecks", unfollowed := true, recurses := true, plainKeys := false, apart := false, narrowed := true }
def MatchChecksUptoSaid : Prop := matchChecksUptoRow.holds Try.pinned (OpenSpec.upto matchChecksSpec)

/-- 'laganlaw04.MatchBoards', WHERE WHAT IT READS IS OF BULK AT MOST 1048576: true; the input reads as it did. -/
def matchBoardsUptoRow : OpenClaim := { program := "ytkmmihadcbfkoaa", sum := "dcce64ceacd2ea671cefb48815826f02dfaf98d2cdfc005deeef97c115e3b068", func := "lagan/laganlaw04.MatchBoards", spec := "matchBoards", unfollowed := true, recurses := true, plainKeys := false, apart := false, narrowed := true }
def MatchBoardsUptoSaid : Prop := matchBoardsUptoRow.holds Try.pinned (OpenSpec.upto matchBoardsSpec)

end Rows
end Go.Proofs.Ytkmmihadcbfkoaa
