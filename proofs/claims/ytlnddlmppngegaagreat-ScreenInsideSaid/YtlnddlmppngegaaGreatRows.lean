/-
  No cell of these rows narrows 'for every input' (looked for: loops, veiled, ifaces, maps, wideKeys, modest, calm, conditions, laid).
  DERIVED. THE GIVEN ROWS OF THIS SEAT. 6 by the template 'for every input the law returns true; each argument reads behind the call as it read before'; 0 by the template 'total and deterministic' (their statements: YtlnddlmppngegaaGreatTotals.lean).
  GIVEN WITH THE SEED: the statements are not yours to turn. If you find one false, say at which input.
  Laid BY PROGRAM, IN A SANDBOX (cutbox-rows.mjs): the forced cells as the released guide's own fill.sh prints them over the translation f0ea500335ece3cb… (all of the seat's roots in one cut). By AI agents, Wed Nov 11 2026. No macro, syntax, notation, axiom, sorry.
-/
import Derived.Test.YtlnddlmppngegaaGreatChecked
import GoSem.Claim
import GoSem.ClaimJoined
import GoSem.ClaimMapViews
import Derived.JoinedTies
import Derived.KernelRfl
namespace Go.Proofs.YtlnddlmppngegaaGreat
/- THE CELL 'sum', in the pinned program and in every row, IS THE sha256 OF THE DUMP (.gsa) THAT YtlnddlmppngegaaGreatProg.lean LOADS. Nothing in Lean hashes anything: it is a label: what it is worth is what the hold of that sum in a sandbox is worth. -/
noncomputable def Tryz.pinned : Pinned := { name := "ytlnddlmppngegaagreat", sum := "f0ea500335ece3cb7d1d95a5f1aa7c68b40873426eebf09bda7c67c48b6464a9", checked := Tryz.checked }
namespace Rows
def none {H : Type} : Left H := { results := [], args := [] }

/-- 'gridmarketlaw30.ScreenExtremes': WHATEVER THE INPUT: true; the input reads as it did. -/
def screenExtremesSpec : ChangeSpec := { name := "screenExtremes", fn := fun _ => fun
  | [d1, d2, d3, d4, d5] => { results := [.lit (.bool true)], args := [d1, d2, d3, d4, d5] }
  | _ => none }
def screenExtremesRow : OpenClaim := { program := "ytlnddlmppngegaagreat", sum := "f0ea500335ece3cb7d1d95a5f1aa7c68b40873426eebf09bda7c67c48b6464a9", func := "gridmarket/gridmarketlaw30.ScreenExtremes", spec := "screenExtremes", unfollowed := true, recurses := true, apart := false }
def ScreenExtremesSaid : Prop := screenExtremesRow.holds Tryz.pinned (OpenSpec.ofChange screenExtremesSpec)

/-- ITS FALSE NEIGHBOUR: 'it returns false'. Refute it at one input. -/
def screenExtremesWrong : ChangeSpec := { name := "screenExtremes", fn := fun _ => fun
  | [d1, d2, d3, d4, d5] => { results := [.lit (.bool false)], args := [d1, d2, d3, d4, d5] }
  | _ => none }
def ScreenExtremesWrongFalsely : Prop := screenExtremesRow.holds Tryz.pinned (OpenSpec.ofChange screenExtremesWrong)

/-- 'gridmarketlaw30.ScreenInside': WHATEVER THE INPUT: true; the input reads as it did. -/
def screenInsideSpec : ChangeSpec := { name := "screenInside", fn := fun _ => fun
  | [d1, d2, d3, d4, d5] => { results := [.lit (.bool true)], args := [d1, d2, d3, d4, d5] }
  | _ => none }
def screenInsideRow : OpenClaim := { program := "ytlnddlmppngegaagreat", sum := "f0ea500335ece3cb7d1d95a5f1aa7c68b40873426eebf09bda7c67c48b6464a9", func := "gridmarket/gridmarketlaw30.ScreenInside", spec := "screenInside", unfollowed := true, recurses := true, apart := false }
def ScreenInsideSaid : Prop := screenInsideRow.holds Tryz.pinned (OpenSpec.ofChange screenInsideSpec)

/-- ITS FALSE NEIGHBOUR: 'it returns false'. Refute it at one input. -/
def screenInsideWrong : ChangeSpec := { name := "screenInside", fn := fun _ => fun
  | [d1, d2, d3, d4, d5] => { results := [.lit (.bool false)], args := [d1, d2, d3, d4, d5] }
  | _ => none }
def ScreenInsideWrongFalsely : Prop := screenInsideRow.holds Tryz.pinned (OpenSpec.ofChange screenInsideWrong)

/-- 'gridmarketlaw40.SettlementApportions': WHATEVER THE INPUT: true; the input reads as it did. -/
def settlementApportionsSpec : ChangeSpec := { name := "settlementApportions", fn := fun _ => fun
  | [d1, d2] => { results := [.lit (.bool true)], args := [d1, d2] }
  | _ => none }
def settlementApportionsRow : OpenClaim := { program := "ytlnddlmppngegaagreat", sum := "f0ea500335ece3cb7d1d95a5f1aa7c68b40873426eebf09bda7c67c48b6464a9", func := "gridmarket/gridmarketlaw40.SettlementApportions", spec := "settlementApportions", inPlace := ["internal/reflectlite.ValueOf", "internal/reflectlite.Swapper", "(internal/reflectlite.Value).Len"], unfollowed := true, recurses := true, apart := false }
def SettlementApportionsSaid : Prop := settlementApportionsRow.holds Tryz.pinned (OpenSpec.ofChange settlementApportionsSpec)

/-- ITS FALSE NEIGHBOUR: 'it returns false'. Refute it at one input. -/
def settlementApportionsWrong : ChangeSpec := { name := "settlementApportions", fn := fun _ => fun
  | [d1, d2] => { results := [.lit (.bool false)], args := [d1, d2] }
  | _ => none }
def SettlementApportionsWrongFalsely : Prop := settlementApportionsRow.holds Tryz.pinned (OpenSpec.ofChange settlementApportionsWrong)

/-- 'gridmarketlaw40.SettlementFair': WHATEVER THE INPUT: true; the input reads as it did. -/
def settlementFairSpec : ChangeSpec := { name := "settlementFair", fn := fun _ => fun
  | [d1, d2] => { results := [.lit (.bool true)], args := [d1, d2] }
  | _ => none }
def settlementFairRow : OpenClaim := { program := "ytlnddlmppngegaagreat", sum := "f0ea500335ece3cb7d1d95a5f1aa7c68b40873426eebf09bda7c67c48b6464a9", func := "gridmarket/gridmarketlaw40.SettlementFair", spec := "settlementFair", inPlace := ["internal/reflectlite.ValueOf", "internal/reflectlite.Swapper", "(internal/reflectlite.Value).Len"], unfollowed := true, recurses := true, apart := false }
def SettlementFairSaid : Prop := settlementFairRow.holds Tryz.pinned (OpenSpec.ofChange settlementFairSpec)

/-- ITS FALSE NEIGHBOUR: 'it returns false'. Refute it at one input. -/
def settlementFairWrong : ChangeSpec := { name := "settlementFair", fn := fun _ => fun
  | [d1, d2] => { results := [.lit (.bool false)], args := [d1, d2] }
  | _ => none }
def SettlementFairWrongFalsely : Prop := settlementFairRow.holds Tryz.pinned (OpenSpec.ofChange settlementFairWrong)

/-- 'gridmarketlaw41.UpliftShares': WHATEVER THE INPUT: true; the input reads as it did. -/
def upliftSharesSpec : ChangeSpec := { name := "upliftShares", fn := fun _ => fun
  | [d1, d2, d3] => { results := [.lit (.bool true)], args := [d1, d2, d3] }
  | _ => none }
def upliftSharesRow : OpenClaim := { program := "ytlnddlmppngegaagreat", sum := "f0ea500335ece3cb7d1d95a5f1aa7c68b40873426eebf09bda7c67c48b6464a9", func := "gridmarket/gridmarketlaw41.UpliftShares", spec := "upliftShares", inPlace := ["internal/reflectlite.ValueOf", "internal/reflectlite.Swapper", "(internal/reflectlite.Value).Len"], unfollowed := true, recurses := true, apart := false }
def UpliftSharesSaid : Prop := upliftSharesRow.holds Tryz.pinned (OpenSpec.ofChange upliftSharesSpec)

/-- ITS FALSE NEIGHBOUR: 'it returns false'. Refute it at one input. -/
def upliftSharesWrong : ChangeSpec := { name := "upliftShares", fn := fun _ => fun
  | [d1, d2, d3] => { results := [.lit (.bool false)], args := [d1, d2, d3] }
  | _ => none }
def UpliftSharesWrongFalsely : Prop := upliftSharesRow.holds Tryz.pinned (OpenSpec.ofChange upliftSharesWrong)

/-- 'gridmarketlaw41.UpliftEven': WHATEVER THE INPUT: true; the input reads as it did. -/
def upliftEvenSpec : ChangeSpec := { name := "upliftEven", fn := fun _ => fun
  | [d1, d2] => { results := [.lit (.bool true)], args := [d1, d2] }
  | _ => none }
def upliftEvenRow : OpenClaim := { program := "ytlnddlmppngegaagreat", sum := "f0ea500335ece3cb7d1d95a5f1aa7c68b40873426eebf09bda7c67c48b6464a9", func := "gridmarket/gridmarketlaw41.UpliftEven", spec := "upliftEven", inPlace := ["internal/reflectlite.ValueOf", "internal/reflectlite.Swapper", "(internal/reflectlite.Value).Len"], unfollowed := true, recurses := true, apart := false }
def UpliftEvenSaid : Prop := upliftEvenRow.holds Tryz.pinned (OpenSpec.ofChange upliftEvenSpec)

/-- ITS FALSE NEIGHBOUR: 'it returns false'. Refute it at one input. -/
def upliftEvenWrong : ChangeSpec := { name := "upliftEven", fn := fun _ => fun
  | [d1, d2] => { results := [.lit (.bool false)], args := [d1, d2] }
  | _ => none }
def UpliftEvenWrongFalsely : Prop := upliftEvenRow.holds Tryz.pinned (OpenSpec.ofChange upliftEvenWrong)

/- THE SECOND FORM. 'bulk': how many values and letters a reading holds, each counted each time it is reached (what is shared counts as often as it is met; a slice's spare places count too). A statement '..UptoSaid' is the law's where the arguments, and the package variables that the reading takes, are together of bulk at most 1048576: NARROWER than '..Said'. Prove '..Said' where nothing that the law and all that it calls make is longer than what came in: it says more and counts as full. Else prove '..UptoSaid'. A law counts once. -/
mutual
def uptoBulk {H : Type} : DataW H → Nat
  | .lit (.string bytes) => bytes.length + 1
  | .lit _ => 1
  | .nil => 1
  | .ptr d => uptoBulk d + 1
  | .slice elems spare => uptoBulkAll elems + uptoBulkAll spare + 1
  | .agg parts => uptoBulkAll parts + 1
  | .iface _ d => uptoBulk d + 1
  | .map entries => uptoBulkEntries entries + 1
  | .held _ => 1
def uptoBulkAll {H : Type} : List (DataW H) → Nat
  | [] => 0
  | d :: r => uptoBulk d + uptoBulkAll r
def uptoBulkEntries {H : Type} : List (Lit × DataW H) → Nat
  | [] => 0
  | x :: r => uptoBulkEntry x + uptoBulkEntries r
def uptoBulkEntry {H : Type} : Lit × DataW H → Nat
  | (.string bytes, d) => bytes.length + uptoBulk d + 1
  | (_, d) => uptoBulk d + 1
 end
def uptoSmall : (H : Type) → List (DataW H) → Bool := fun _ ds => decide (uptoBulkAll ds ≤ 1048576)
def OpenSpec.upto (s : _root_.Go.ChangeSpec) : _root_.Go.OpenSpec := { _root_.Go.OpenSpec.ofChange s with cond := some uptoSmall }

/-- 'gridmarketlaw30.ScreenExtremes', WHERE WHAT IT READS IS OF BULK AT MOST 1048576: true; the input reads as it did. -/
def screenExtremesUptoRow : OpenClaim := { program := "ytlnddlmppngegaagreat", sum := "f0ea500335ece3cb7d1d95a5f1aa7c68b40873426eebf09bda7c67c48b6464a9", func := "gridmarket/gridmarketlaw30.ScreenExtremes", spec := "screenExtremes", unfollowed := true, recurses := true, apart := false, narrowed := true }
def ScreenExtremesUptoSaid : Prop := screenExtremesUptoRow.holds Tryz.pinned (OpenSpec.upto screenExtremesSpec)

/-- 'gridmarketlaw30.ScreenInside', WHERE WHAT IT READS IS OF BULK AT MOST 1048576: true; the input reads as it did. -/
def screenInsideUptoRow : OpenClaim := { program := "ytlnddlmppngegaagreat", sum := "f0ea500335ece3cb7d1d95a5f1aa7c68b40873426eebf09bda7c67c48b6464a9", func := "gridmarket/gridmarketlaw30.ScreenInside", spec := "screenInside", unfollowed := true, recurses := true, apart := false, narrowed := true }
def ScreenInsideUptoSaid : Prop := screenInsideUptoRow.holds Tryz.pinned (OpenSpec.upto screenInsideSpec)

/-- 'gridmarketlaw40.SettlementApportions', WHERE WHAT IT READS IS OF BULK AT MOST 1048576: true; the input reads as it did. -/
def settlementApportionsUptoRow : OpenClaim := { program := "ytlnddlmppngegaagreat", sum := "f0ea500335ece3cb7d1d95a5f1aa7c68b40873426eebf09bda7c67c48b6464a9", func := "gridmarket/gridmarketlaw40.SettlementApportions", spec := "settlementApportions", inPlace := ["internal/reflectlite.ValueOf", "internal/reflectlite.Swapper", "(internal/reflectlite.Value).Len"], unfollowed := true, recurses := true, apart := false, narrowed := true }
def SettlementApportionsUptoSaid : Prop := settlementApportionsUptoRow.holds Tryz.pinned (OpenSpec.upto settlementApportionsSpec)

/-- 'gridmarketlaw40.SettlementFair', WHERE WHAT IT READS IS OF BULK AT MOST 1048576: true; the input reads as it did. -/
def settlementFairUptoRow : OpenClaim := { program := "ytlnddlmppngegaagreat", sum := "f0ea500335ece3cb7d1d95a5f1aa7c68b40873426eebf09bda7c67c48b6464a9", func := "gridmarket/gridmarketlaw40.SettlementFair", spec := "settlementFair", inPlace := ["internal/reflectlite.ValueOf", "internal/reflectlite.Swapper", "(internal/reflectlite.Value).Len"], unfollowed := true, recurses := true, apart := false, narrowed := true }
def SettlementFairUptoSaid : Prop := settlementFairUptoRow.holds Tryz.pinned (OpenSpec.upto settlementFairSpec)

/-- 'gridmarketlaw41.UpliftShares', WHERE WHAT IT READS IS OF BULK AT MOST 1048576: true; the input reads as it did. -/
def upliftSharesUptoRow : OpenClaim := { program := "ytlnddlmppngegaagreat", sum := "f0ea500335ece3cb7d1d95a5f1aa7c68b40873426eebf09bda7c67c48b6464a9", func := "gridmarket/gridmarketlaw41.UpliftShares", spec := "upliftShares", inPlace := ["internal/reflectlite.ValueOf", "internal/reflectlite.Swapper", "(internal/reflectlite.Value).Len"], unfollowed := true, recurses := true, apart := false, narrowed := true }
def UpliftSharesUptoSaid : Prop := upliftSharesUptoRow.holds Tryz.pinned (OpenSpec.upto upliftSharesSpec)

/-- 'gridmarketlaw41.UpliftEven', WHERE WHAT IT READS IS OF BULK AT MOST 1048576: true; the input reads as it did. -/
def upliftEvenUptoRow : OpenClaim := { program := "ytlnddlmppngegaagreat", sum := "f0ea500335ece3cb7d1d95a5f1aa7c68b40873426eebf09bda7c67c48b6464a9", func := "gridmarket/gridmarketlaw41.UpliftEven", spec := "upliftEven", inPlace := ["internal/reflectlite.ValueOf", "internal/reflectlite.Swapper", "(internal/reflectlite.Value).Len"], unfollowed := true, recurses := true, apart := false, narrowed := true }
def UpliftEvenUptoSaid : Prop := upliftEvenUptoRow.holds Tryz.pinned (OpenSpec.upto upliftEvenSpec)

end Rows
end Go.Proofs.YtlnddlmppngegaaGreat
