/-
  No cell of these rows narrows 'for every input' (looked for: loops, veiled, ifaces, maps, wideKeys, modest, calm, conditions, laid).
  DERIVED. THE GIVEN ROWS OF THIS SEAT. 21 by the template 'for every input the law returns true; each argument reads behind the call as it read before'; 0 by the template 'total and deterministic' (their statements: YthilemcdhkfhlaaTotals.lean).
  GIVEN WITH THE SEED: the statements are not yours to turn. If you find one false, say at which input.
  Laid BY PROGRAM, IN A SANDBOX (cutbox-rows.mjs): the forced cells as the released guide's own fill.sh prints them over the translation c71126da9395fd15… (all of the seat's roots in one cut). By AI agents, Wed Nov 11 2026. No macro, syntax, notation, axiom, sorry.
-/
import Derived.Test.YthilemcdhkfhlaaChecked
import GoSem.Claim
import GoSem.ClaimJoined
import GoSem.ClaimMapViews
import Derived.JoinedTies
import Derived.KernelRfl
namespace Go.Proofs.Ythilemcdhkfhlaa
/- THE CELL 'sum', in the pinned program and in every row, IS THE sha256 OF THE DUMP (.gsa) THAT YthilemcdhkfhlaaProg.lean LOADS. Nothing in Lean hashes anything: it is a label: what it is worth is what the hold of that sum in a sandbox is worth. -/
noncomputable def Try.pinned : Pinned := { name := "ythilemcdhkfhlaa", sum := "c71126da9395fd15d3fb349bab47350cc77dd8f221bb63487aaba1e78a8070f7", checked := Try.checked }
namespace Rows
def none {H : Type} : Left H := { results := [], args := [] }

/-- 'topiaristlaw24.ChartMore': WHATEVER THE INPUT: true; the input reads as it did. -/
def chartMoreSpec : ChangeSpec := { name := "chartMore", fn := fun _ => fun
  | [d1, d2, d3] => { results := [.lit (.bool true)], args := [d1, d2, d3] }
  | _ => none }
def chartMoreRow : OpenClaim := { program := "ythilemcdhkfhlaa", sum := "c71126da9395fd15d3fb349bab47350cc77dd8f221bb63487aaba1e78a8070f7", func := "topiarist/topiaristlaw24.ChartMore", spec := "chartMore", unfollowed := true, recurses := true, plainKeys := false, apart := false }
def ChartMoreSaid : Prop := chartMoreRow.holds Try.pinned (OpenSpec.ofChange chartMoreSpec)

/-- ITS FALSE NEIGHBOUR: 'it returns false'. Refute it at one input. -/
def chartMoreWrong : ChangeSpec := { name := "chartMore", fn := fun _ => fun
  | [d1, d2, d3] => { results := [.lit (.bool false)], args := [d1, d2, d3] }
  | _ => none }
def ChartMoreWrongFalsely : Prop := chartMoreRow.holds Try.pinned (OpenSpec.ofChange chartMoreWrong)

/-- 'topiaristlaw24.ChartRows': WHATEVER THE INPUT: true; the input reads as it did. -/
def chartRowsSpec : ChangeSpec := { name := "chartRows", fn := fun _ => fun
  | [d1, d2] => { results := [.lit (.bool true)], args := [d1, d2] }
  | _ => none }
def chartRowsRow : OpenClaim := { program := "ythilemcdhkfhlaa", sum := "c71126da9395fd15d3fb349bab47350cc77dd8f221bb63487aaba1e78a8070f7", func := "topiarist/topiaristlaw24.ChartRows", spec := "chartRows", unfollowed := true, recurses := true, plainKeys := false, apart := false }
def ChartRowsSaid : Prop := chartRowsRow.holds Try.pinned (OpenSpec.ofChange chartRowsSpec)

/-- ITS FALSE NEIGHBOUR: 'it returns false'. Refute it at one input. -/
def chartRowsWrong : ChangeSpec := { name := "chartRows", fn := fun _ => fun
  | [d1, d2] => { results := [.lit (.bool false)], args := [d1, d2] }
  | _ => none }
def ChartRowsWrongFalsely : Prop := chartRowsRow.holds Try.pinned (OpenSpec.ofChange chartRowsWrong)

/-- 'topiaristlaw24.ChartHolds': WHATEVER THE INPUT: true; the input reads as it did. -/
def chartHoldsSpec : ChangeSpec := { name := "chartHolds", fn := fun _ => fun
  | [d1, d2, d3] => { results := [.lit (.bool true)], args := [d1, d2, d3] }
  | _ => none }
def chartHoldsRow : OpenClaim := { program := "ythilemcdhkfhlaa", sum := "c71126da9395fd15d3fb349bab47350cc77dd8f221bb63487aaba1e78a8070f7", func := "topiarist/topiaristlaw24.ChartHolds", spec := "chartHolds", unfollowed := true, recurses := true, plainKeys := false, apart := false }
def ChartHoldsSaid : Prop := chartHoldsRow.holds Try.pinned (OpenSpec.ofChange chartHoldsSpec)

/-- ITS FALSE NEIGHBOUR: 'it returns false'. Refute it at one input. -/
def chartHoldsWrong : ChangeSpec := { name := "chartHolds", fn := fun _ => fun
  | [d1, d2, d3] => { results := [.lit (.bool false)], args := [d1, d2, d3] }
  | _ => none }
def ChartHoldsWrongFalsely : Prop := chartHoldsRow.holds Try.pinned (OpenSpec.ofChange chartHoldsWrong)

/-- 'topiaristlaw24.ChartEmpty': WHATEVER THE INPUT: true; the input reads as it did. -/
def chartEmptySpec : ChangeSpec := { name := "chartEmpty", fn := fun _ => fun
  | [d1, d2] => { results := [.lit (.bool true)], args := [d1, d2] }
  | _ => none }
def chartEmptyRow : OpenClaim := { program := "ythilemcdhkfhlaa", sum := "c71126da9395fd15d3fb349bab47350cc77dd8f221bb63487aaba1e78a8070f7", func := "topiarist/topiaristlaw24.ChartEmpty", spec := "chartEmpty", unfollowed := true, recurses := true, plainKeys := false, apart := false }
def ChartEmptySaid : Prop := chartEmptyRow.holds Try.pinned (OpenSpec.ofChange chartEmptySpec)

/-- ITS FALSE NEIGHBOUR: 'it returns false'. Refute it at one input. -/
def chartEmptyWrong : ChangeSpec := { name := "chartEmpty", fn := fun _ => fun
  | [d1, d2] => { results := [.lit (.bool false)], args := [d1, d2] }
  | _ => none }
def ChartEmptyWrongFalsely : Prop := chartEmptyRow.holds Try.pinned (OpenSpec.ofChange chartEmptyWrong)

/-- 'topiaristlaw25.ForestTells': WHATEVER THE INPUT: true; the input reads as it did. -/
def forestTellsSpec : ChangeSpec := { name := "forestTells", fn := fun _ => fun
  | [d1, d2, d3] => { results := [.lit (.bool true)], args := [d1, d2, d3] }
  | _ => none }
def forestTellsRow : OpenClaim := { program := "ythilemcdhkfhlaa", sum := "c71126da9395fd15d3fb349bab47350cc77dd8f221bb63487aaba1e78a8070f7", func := "topiarist/topiaristlaw25.ForestTells", spec := "forestTells", unfollowed := true, recurses := true, plainKeys := false, apart := false }
def ForestTellsSaid : Prop := forestTellsRow.holds Try.pinned (OpenSpec.ofChange forestTellsSpec)

/-- ITS FALSE NEIGHBOUR: 'it returns false'. Refute it at one input. -/
def forestTellsWrong : ChangeSpec := { name := "forestTells", fn := fun _ => fun
  | [d1, d2, d3] => { results := [.lit (.bool false)], args := [d1, d2, d3] }
  | _ => none }
def ForestTellsWrongFalsely : Prop := forestTellsRow.holds Try.pinned (OpenSpec.ofChange forestTellsWrong)

/-- 'topiaristlaw25.ForestHolds': WHATEVER THE INPUT: true; the input reads as it did. -/
def forestHoldsSpec : ChangeSpec := { name := "forestHolds", fn := fun _ => fun
  | [d1, d2] => { results := [.lit (.bool true)], args := [d1, d2] }
  | _ => none }
def forestHoldsRow : OpenClaim := { program := "ythilemcdhkfhlaa", sum := "c71126da9395fd15d3fb349bab47350cc77dd8f221bb63487aaba1e78a8070f7", func := "topiarist/topiaristlaw25.ForestHolds", spec := "forestHolds", unfollowed := true, recurses := true, plainKeys := false, apart := false }
def ForestHoldsSaid : Prop := forestHoldsRow.holds Try.pinned (OpenSpec.ofChange forestHoldsSpec)

/-- ITS FALSE NEIGHBOUR: 'it returns false'. Refute it at one input. -/
def forestHoldsWrong : ChangeSpec := { name := "forestHolds", fn := fun _ => fun
  | [d1, d2] => { results := [.lit (.bool false)], args := [d1, d2] }
  | _ => none }
def ForestHoldsWrongFalsely : Prop := forestHoldsRow.holds Try.pinned (OpenSpec.ofChange forestHoldsWrong)

/-- 'topiaristlaw25.ForestCaps': WHATEVER THE INPUT: true; the input reads as it did. -/
def forestCapsSpec : ChangeSpec := { name := "forestCaps", fn := fun _ => fun
  | [d1, d2, d3] => { results := [.lit (.bool true)], args := [d1, d2, d3] }
  | _ => none }
def forestCapsRow : OpenClaim := { program := "ythilemcdhkfhlaa", sum := "c71126da9395fd15d3fb349bab47350cc77dd8f221bb63487aaba1e78a8070f7", func := "topiarist/topiaristlaw25.ForestCaps", spec := "forestCaps", unfollowed := true, recurses := true, plainKeys := false, apart := false }
def ForestCapsSaid : Prop := forestCapsRow.holds Try.pinned (OpenSpec.ofChange forestCapsSpec)

/-- ITS FALSE NEIGHBOUR: 'it returns false'. Refute it at one input. -/
def forestCapsWrong : ChangeSpec := { name := "forestCaps", fn := fun _ => fun
  | [d1, d2, d3] => { results := [.lit (.bool false)], args := [d1, d2, d3] }
  | _ => none }
def ForestCapsWrongFalsely : Prop := forestCapsRow.holds Try.pinned (OpenSpec.ofChange forestCapsWrong)

/-- 'topiaristlaw25.ForestGoods': WHATEVER THE INPUT: true; the input reads as it did. -/
def forestGoodsSpec : ChangeSpec := { name := "forestGoods", fn := fun _ => fun
  | [d1, d2, d3] => { results := [.lit (.bool true)], args := [d1, d2, d3] }
  | _ => none }
def forestGoodsRow : OpenClaim := { program := "ythilemcdhkfhlaa", sum := "c71126da9395fd15d3fb349bab47350cc77dd8f221bb63487aaba1e78a8070f7", func := "topiarist/topiaristlaw25.ForestGoods", spec := "forestGoods", unfollowed := true, recurses := true, plainKeys := false, apart := false }
def ForestGoodsSaid : Prop := forestGoodsRow.holds Try.pinned (OpenSpec.ofChange forestGoodsSpec)

/-- ITS FALSE NEIGHBOUR: 'it returns false'. Refute it at one input. -/
def forestGoodsWrong : ChangeSpec := { name := "forestGoods", fn := fun _ => fun
  | [d1, d2, d3] => { results := [.lit (.bool false)], args := [d1, d2, d3] }
  | _ => none }
def ForestGoodsWrongFalsely : Prop := forestGoodsRow.holds Try.pinned (OpenSpec.ofChange forestGoodsWrong)

/-- 'topiaristlaw25.ForestFinds': WHATEVER THE INPUT: true; the input reads as it did. -/
def forestFindsSpec : ChangeSpec := { name := "forestFinds", fn := fun _ => fun
  | [d1, d2] => { results := [.lit (.bool true)], args := [d1, d2] }
  | _ => none }
def forestFindsRow : OpenClaim := { program := "ythilemcdhkfhlaa", sum := "c71126da9395fd15d3fb349bab47350cc77dd8f221bb63487aaba1e78a8070f7", func := "topiarist/topiaristlaw25.ForestFinds", spec := "forestFinds", unfollowed := true, recurses := true, plainKeys := false, apart := false }
def ForestFindsSaid : Prop := forestFindsRow.holds Try.pinned (OpenSpec.ofChange forestFindsSpec)

/-- ITS FALSE NEIGHBOUR: 'it returns false'. Refute it at one input. -/
def forestFindsWrong : ChangeSpec := { name := "forestFinds", fn := fun _ => fun
  | [d1, d2] => { results := [.lit (.bool false)], args := [d1, d2] }
  | _ => none }
def ForestFindsWrongFalsely : Prop := forestFindsRow.holds Try.pinned (OpenSpec.ofChange forestFindsWrong)

/-- 'topiaristlaw25.ForestRoot': WHATEVER THE INPUT: true; the input reads as it did. -/
def forestRootSpec : ChangeSpec := { name := "forestRoot", fn := fun _ => fun
  | [d1, d2] => { results := [.lit (.bool true)], args := [d1, d2] }
  | _ => none }
def forestRootRow : OpenClaim := { program := "ythilemcdhkfhlaa", sum := "c71126da9395fd15d3fb349bab47350cc77dd8f221bb63487aaba1e78a8070f7", func := "topiarist/topiaristlaw25.ForestRoot", spec := "forestRoot", unfollowed := true, recurses := true, plainKeys := false, apart := false }
def ForestRootSaid : Prop := forestRootRow.holds Try.pinned (OpenSpec.ofChange forestRootSpec)

/-- ITS FALSE NEIGHBOUR: 'it returns false'. Refute it at one input. -/
def forestRootWrong : ChangeSpec := { name := "forestRoot", fn := fun _ => fun
  | [d1, d2] => { results := [.lit (.bool false)], args := [d1, d2] }
  | _ => none }
def ForestRootWrongFalsely : Prop := forestRootRow.holds Try.pinned (OpenSpec.ofChange forestRootWrong)

/-- 'topiaristlaw26.CycleTells': WHATEVER THE INPUT: true; the input reads as it did. -/
def cycleTellsSpec : ChangeSpec := { name := "cycleTells", fn := fun _ => fun
  | [d] => { results := [.lit (.bool true)], args := [d] }
  | _ => none }
def cycleTellsRow : OpenClaim := { program := "ythilemcdhkfhlaa", sum := "c71126da9395fd15d3fb349bab47350cc77dd8f221bb63487aaba1e78a8070f7", func := "topiarist/topiaristlaw26.CycleTells", spec := "cycleTells", unfollowed := true, recurses := true, plainKeys := false, apart := false }
def CycleTellsSaid : Prop := cycleTellsRow.holds Try.pinned (OpenSpec.ofChange cycleTellsSpec)

/-- ITS FALSE NEIGHBOUR: 'it returns false'. Refute it at one input. -/
def cycleTellsWrong : ChangeSpec := { name := "cycleTells", fn := fun _ => fun
  | [d] => { results := [.lit (.bool false)], args := [d] }
  | _ => none }
def CycleTellsWrongFalsely : Prop := cycleTellsRow.holds Try.pinned (OpenSpec.ofChange cycleTellsWrong)

/-- 'topiaristlaw26.CycleOrder': WHATEVER THE INPUT: true; the input reads as it did. -/
def cycleOrderSpec : ChangeSpec := { name := "cycleOrder", fn := fun _ => fun
  | [d] => { results := [.lit (.bool true)], args := [d] }
  | _ => none }
def cycleOrderRow : OpenClaim := { program := "ythilemcdhkfhlaa", sum := "c71126da9395fd15d3fb349bab47350cc77dd8f221bb63487aaba1e78a8070f7", func := "topiarist/topiaristlaw26.CycleOrder", spec := "cycleOrder", unfollowed := true, recurses := true, plainKeys := false, apart := false }
def CycleOrderSaid : Prop := cycleOrderRow.holds Try.pinned (OpenSpec.ofChange cycleOrderSpec)

/-- ITS FALSE NEIGHBOUR: 'it returns false'. Refute it at one input. -/
def cycleOrderWrong : ChangeSpec := { name := "cycleOrder", fn := fun _ => fun
  | [d] => { results := [.lit (.bool false)], args := [d] }
  | _ => none }
def CycleOrderWrongFalsely : Prop := cycleOrderRow.holds Try.pinned (OpenSpec.ofChange cycleOrderWrong)

/-- 'topiaristlaw26.CycleWords': WHATEVER THE INPUT: true; the input reads as it did. -/
def cycleWordsSpec : ChangeSpec := { name := "cycleWords", fn := fun _ => fun
  | [d1, d2] => { results := [.lit (.bool true)], args := [d1, d2] }
  | _ => none }
def cycleWordsRow : OpenClaim := { program := "ythilemcdhkfhlaa", sum := "c71126da9395fd15d3fb349bab47350cc77dd8f221bb63487aaba1e78a8070f7", func := "topiarist/topiaristlaw26.CycleWords", spec := "cycleWords", unfollowed := true, recurses := true, plainKeys := false, apart := false }
def CycleWordsSaid : Prop := cycleWordsRow.holds Try.pinned (OpenSpec.ofChange cycleWordsSpec)

/-- ITS FALSE NEIGHBOUR: 'it returns false'. Refute it at one input. -/
def cycleWordsWrong : ChangeSpec := { name := "cycleWords", fn := fun _ => fun
  | [d1, d2] => { results := [.lit (.bool false)], args := [d1, d2] }
  | _ => none }
def CycleWordsWrongFalsely : Prop := cycleWordsRow.holds Try.pinned (OpenSpec.ofChange cycleWordsWrong)

/-- 'topiaristlaw26.CycleRings': WHATEVER THE INPUT: true; the input reads as it did. -/
def cycleRingsSpec : ChangeSpec := { name := "cycleRings", fn := fun _ => fun
  | [d1, d2] => { results := [.lit (.bool true)], args := [d1, d2] }
  | _ => none }
def cycleRingsRow : OpenClaim := { program := "ythilemcdhkfhlaa", sum := "c71126da9395fd15d3fb349bab47350cc77dd8f221bb63487aaba1e78a8070f7", func := "topiarist/topiaristlaw26.CycleRings", spec := "cycleRings", unfollowed := true, recurses := true, plainKeys := false, apart := false }
def CycleRingsSaid : Prop := cycleRingsRow.holds Try.pinned (OpenSpec.ofChange cycleRingsSpec)

/-- ITS FALSE NEIGHBOUR: 'it returns false'. Refute it at one input. -/
def cycleRingsWrong : ChangeSpec := { name := "cycleRings", fn := fun _ => fun
  | [d1, d2] => { results := [.lit (.bool false)], args := [d1, d2] }
  | _ => none }
def CycleRingsWrongFalsely : Prop := cycleRingsRow.holds Try.pinned (OpenSpec.ofChange cycleRingsWrong)

/-- 'topiaristlaw26.CycleLess': WHATEVER THE INPUT: true; the input reads as it did. -/
def cycleLessSpec : ChangeSpec := { name := "cycleLess", fn := fun _ => fun
  | [d1, d2] => { results := [.lit (.bool true)], args := [d1, d2] }
  | _ => none }
def cycleLessRow : OpenClaim := { program := "ythilemcdhkfhlaa", sum := "c71126da9395fd15d3fb349bab47350cc77dd8f221bb63487aaba1e78a8070f7", func := "topiarist/topiaristlaw26.CycleLess", spec := "cycleLess", unfollowed := true, recurses := true, plainKeys := false, apart := false }
def CycleLessSaid : Prop := cycleLessRow.holds Try.pinned (OpenSpec.ofChange cycleLessSpec)

/-- ITS FALSE NEIGHBOUR: 'it returns false'. Refute it at one input. -/
def cycleLessWrong : ChangeSpec := { name := "cycleLess", fn := fun _ => fun
  | [d1, d2] => { results := [.lit (.bool false)], args := [d1, d2] }
  | _ => none }
def CycleLessWrongFalsely : Prop := cycleLessRow.holds Try.pinned (OpenSpec.ofChange cycleLessWrong)

/-- 'topiaristlaw09.FollowTells': WHATEVER THE INPUT: true; the input reads as it did. -/
def followTellsSpec : ChangeSpec := { name := "followTells", fn := fun _ => fun
  | [d1, d2] => { results := [.lit (.bool true)], args := [d1, d2] }
  | _ => none }
def followTellsRow : OpenClaim := { program := "ythilemcdhkfhlaa", sum := "c71126da9395fd15d3fb349bab47350cc77dd8f221bb63487aaba1e78a8070f7", func := "topiarist/topiaristlaw09.FollowTells", spec := "followTells", inPlace := ["slices.overlaps[int]"], unfollowed := true, recurses := true, plainKeys := false, apart := false }
def FollowTellsSaid : Prop := followTellsRow.holds Try.pinned (OpenSpec.ofChange followTellsSpec)

/-- ITS FALSE NEIGHBOUR: 'it returns false'. Refute it at one input. -/
def followTellsWrong : ChangeSpec := { name := "followTells", fn := fun _ => fun
  | [d1, d2] => { results := [.lit (.bool false)], args := [d1, d2] }
  | _ => none }
def FollowTellsWrongFalsely : Prop := followTellsRow.holds Try.pinned (OpenSpec.ofChange followTellsWrong)

/-- 'topiaristlaw09.FollowHolds': WHATEVER THE INPUT: true; the input reads as it did. -/
def followHoldsSpec : ChangeSpec := { name := "followHolds", fn := fun _ => fun
  | [d] => { results := [.lit (.bool true)], args := [d] }
  | _ => none }
def followHoldsRow : OpenClaim := { program := "ythilemcdhkfhlaa", sum := "c71126da9395fd15d3fb349bab47350cc77dd8f221bb63487aaba1e78a8070f7", func := "topiarist/topiaristlaw09.FollowHolds", spec := "followHolds", inPlace := ["slices.overlaps[int]"], unfollowed := true, recurses := true, plainKeys := false, apart := false }
def FollowHoldsSaid : Prop := followHoldsRow.holds Try.pinned (OpenSpec.ofChange followHoldsSpec)

/-- ITS FALSE NEIGHBOUR: 'it returns false'. Refute it at one input. -/
def followHoldsWrong : ChangeSpec := { name := "followHolds", fn := fun _ => fun
  | [d] => { results := [.lit (.bool false)], args := [d] }
  | _ => none }
def FollowHoldsWrongFalsely : Prop := followHoldsRow.holds Try.pinned (OpenSpec.ofChange followHoldsWrong)

/-- 'topiaristlaw09.FollowMore': WHATEVER THE INPUT: true; the input reads as it did. -/
def followMoreSpec : ChangeSpec := { name := "followMore", fn := fun _ => fun
  | [d1, d2, d3] => { results := [.lit (.bool true)], args := [d1, d2, d3] }
  | _ => none }
def followMoreRow : OpenClaim := { program := "ythilemcdhkfhlaa", sum := "c71126da9395fd15d3fb349bab47350cc77dd8f221bb63487aaba1e78a8070f7", func := "topiarist/topiaristlaw09.FollowMore", spec := "followMore", inPlace := ["slices.overlaps[int]"], unfollowed := true, recurses := true, plainKeys := false, apart := false }
def FollowMoreSaid : Prop := followMoreRow.holds Try.pinned (OpenSpec.ofChange followMoreSpec)

/-- ITS FALSE NEIGHBOUR: 'it returns false'. Refute it at one input. -/
def followMoreWrong : ChangeSpec := { name := "followMore", fn := fun _ => fun
  | [d1, d2, d3] => { results := [.lit (.bool false)], args := [d1, d2, d3] }
  | _ => none }
def FollowMoreWrongFalsely : Prop := followMoreRow.holds Try.pinned (OpenSpec.ofChange followMoreWrong)

/-- 'topiaristlaw09.FollowLast': WHATEVER THE INPUT: true; the input reads as it did. -/
def followLastSpec : ChangeSpec := { name := "followLast", fn := fun _ => fun
  | [d] => { results := [.lit (.bool true)], args := [d] }
  | _ => none }
def followLastRow : OpenClaim := { program := "ythilemcdhkfhlaa", sum := "c71126da9395fd15d3fb349bab47350cc77dd8f221bb63487aaba1e78a8070f7", func := "topiarist/topiaristlaw09.FollowLast", spec := "followLast", inPlace := ["slices.overlaps[int]"], unfollowed := true, recurses := true, plainKeys := false, apart := false }
def FollowLastSaid : Prop := followLastRow.holds Try.pinned (OpenSpec.ofChange followLastSpec)

/-- ITS FALSE NEIGHBOUR: 'it returns false'. Refute it at one input. -/
def followLastWrong : ChangeSpec := { name := "followLast", fn := fun _ => fun
  | [d] => { results := [.lit (.bool false)], args := [d] }
  | _ => none }
def FollowLastWrongFalsely : Prop := followLastRow.holds Try.pinned (OpenSpec.ofChange followLastWrong)

/-- 'topiaristlaw28.TreesMost': WHATEVER THE INPUT: true; the input reads as it did. -/
def treesMostSpec : ChangeSpec := { name := "treesMost", fn := fun _ => fun
  | [d1, d2, d3] => { results := [.lit (.bool true)], args := [d1, d2, d3] }
  | _ => none }
def treesMostRow : OpenClaim := { program := "ythilemcdhkfhlaa", sum := "c71126da9395fd15d3fb349bab47350cc77dd8f221bb63487aaba1e78a8070f7", func := "topiarist/topiaristlaw28.TreesMost", spec := "treesMost", unfollowed := true, recurses := true, plainKeys := false, apart := false }
def TreesMostSaid : Prop := treesMostRow.holds Try.pinned (OpenSpec.ofChange treesMostSpec)

/-- ITS FALSE NEIGHBOUR: 'it returns false'. Refute it at one input. -/
def treesMostWrong : ChangeSpec := { name := "treesMost", fn := fun _ => fun
  | [d1, d2, d3] => { results := [.lit (.bool false)], args := [d1, d2, d3] }
  | _ => none }
def TreesMostWrongFalsely : Prop := treesMostRow.holds Try.pinned (OpenSpec.ofChange treesMostWrong)

/-- 'topiaristlaw28.TreesForms': WHATEVER THE INPUT: true; the input reads as it did. -/
def treesFormsSpec : ChangeSpec := { name := "treesForms", fn := fun _ => fun
  | [d1, d2, d3] => { results := [.lit (.bool true)], args := [d1, d2, d3] }
  | _ => none }
def treesFormsRow : OpenClaim := { program := "ythilemcdhkfhlaa", sum := "c71126da9395fd15d3fb349bab47350cc77dd8f221bb63487aaba1e78a8070f7", func := "topiarist/topiaristlaw28.TreesForms", spec := "treesForms", unfollowed := true, recurses := true, plainKeys := false, apart := false }
def TreesFormsSaid : Prop := treesFormsRow.holds Try.pinned (OpenSpec.ofChange treesFormsSpec)

/-- ITS FALSE NEIGHBOUR: 'it returns false'. Refute it at one input. -/
def treesFormsWrong : ChangeSpec := { name := "treesForms", fn := fun _ => fun
  | [d1, d2, d3] => { results := [.lit (.bool false)], args := [d1, d2, d3] }
  | _ => none }
def TreesFormsWrongFalsely : Prop := treesFormsRow.holds Try.pinned (OpenSpec.ofChange treesFormsWrong)

/- THE SECOND FORM. 'bulk': how many values and letters a reading holds, each counted each time it is reached (what is shared counts as often as it is met; a slice's spare places count too). A statement '..UptoSaid' is the law's where the arguments, and the package variables that the reading takes, are together of bulk at most 1048576: NARROWER than '..Said'. Prove '..Said' where nothing that the law and all that it calls make is longer than what came in: it says more and counts as full. Else prove '..UptoSaid'. A law counts once. -/
mutual
def uptoBulk {H : Type} : DataW H → Nat
  | .lit (.string bytes) => bytes.length + 1
  | .lit _ => 1
  | .nil => 1
  | .ptr d => uptoBulk d + 1
  | .slice elems spare => uptoBulkAll elems + uptoBulkAll spare + 1
  | .agg parts => uptoBulkAll parts + 1
  | .iface _ d => uptoBulk d + 1
  | .map entries => uptoBulkEntries entries + 1
  | .held _ => 1
def uptoBulkAll {H : Type} : List (DataW H) → Nat
  | [] => 0
  | d :: r => uptoBulk d + uptoBulkAll r
def uptoBulkEntries {H : Type} : List (Lit × DataW H) → Nat
  | [] => 0
  | x :: r => uptoBulkEntry x + uptoBulkEntries r
def uptoBulkEntry {H : Type} : Lit × DataW H → Nat
  | (.string bytes, d) => bytes.length + uptoBulk d + 1
  | (_, d) => uptoBulk d + 1
 end
def uptoSmall : (H : Type) → List (DataW H) → Bool := fun _ ds => decide (uptoBulkAll ds ≤ 1048576)
def OpenSpec.upto (s : _root_.Go.ChangeSpec) : _root_.Go.OpenSpec := { _root_.Go.OpenSpec.ofChange s with cond := some uptoSmall }

/-- 'topiaristlaw24.ChartMore', WHERE WHAT IT READS IS OF BULK AT MOST 1048576: true; the input reads as it did. -/
def chartMoreUptoRow : OpenClaim := { program := "ythilemcdhkfhlaa", sum := "c71126da9395fd15d3fb349bab47350cc77dd8f221bb63487aaba1e78a8070f7", func := "topiarist/topiaristlaw24.ChartMore", spec := "chartMore", unfollowed := true, recurses := true, plainKeys := false, apart := false, narrowed := true }
def ChartMoreUptoSaid : Prop := chartMoreUptoRow.holds Try.pinned (OpenSpec.upto chartMoreSpec)

/-- 'topiaristlaw24.ChartRows', WHERE WHAT IT READS IS OF BULK AT MOST 1048576: true; the input reads as it did. -/
def chartRowsUptoRow : OpenClaim := { program := "ythilemcdhkfhlaa", sum := "c71126da9395fd15d3fb349bab47350cc77dd8f221bb63487aaba1e78a8070f7", func := "topiarist/topiaristlaw24.ChartRows", spec := "chartRows", unfollowed := true, recurses := true, plainKeys := false, apart := false, narrowed := true }
def ChartRowsUptoSaid : Prop := chartRowsUptoRow.holds Try.pinned (OpenSpec.upto chartRowsSpec)

/-- 'topiaristlaw24.ChartHolds', WHERE WHAT IT READS IS OF BULK AT MOST 1048576: true; the input reads as it did. -/
def chartHoldsUptoRow : OpenClaim := { program := "ythilemcdhkfhlaa", sum := "c71126da9395fd15d3fb349bab47350cc77dd8f221bb63487aaba1e78a8070f7", func := "topiarist/topiaristlaw24.ChartHolds", spec := "chartHolds", unfollowed := true, recurses := true, plainKeys := false, apart := false, narrowed := true }
def ChartHoldsUptoSaid : Prop := chartHoldsUptoRow.holds Try.pinned (OpenSpec.upto chartHoldsSpec)

/-- 'topiaristlaw24.ChartEmpty', WHERE WHAT IT READS IS OF BULK AT MOST 1048576: true; the input reads as it did. -/
def chartEmptyUptoRow : OpenClaim := { program := "ythilemcdhkfhlaa", sum := "c71126da9395fd15d3fb349bab47350cc77dd8f221bb63487aaba1e78a8070f7", func := "topiarist/topiaristlaw24.ChartEmpty", spec := "chartEmpty", unfollowed := true, recurses := true, plainKeys := false, apart := false, narrowed := true }
def ChartEmptyUptoSaid : Prop := chartEmptyUptoRow.holds Try.pinned (OpenSpec.upto chartEmptySpec)

/-- 'topiaristlaw25.ForestTells', WHERE WHAT IT READS IS OF BULK AT MOST 1048576: true; the input reads as it did. -/
def forestTellsUptoRow : OpenClaim := { program := "ythilemcdhkfhlaa", sum := "c71126da9395fd15d3fb349bab47350cc77dd8f221bb63487aaba1e78a8070f7", func := "topiarist/topiaristlaw25.ForestTells", spec := "forestTells", unfollowed := true, recurses := true, plainKeys := false, apart := false, narrowed := true }
def ForestTellsUptoSaid : Prop := forestTellsUptoRow.holds Try.pinned (OpenSpec.upto forestTellsSpec)

/-- 'topiaristlaw25.ForestHolds', WHERE WHAT IT READS IS OF BULK AT MOST 1048576: true; the input reads as it did. -/
def forestHoldsUptoRow : OpenClaim := { program := "ythilemcdhkfhlaa", sum := "c71126da9395fd15d3fb349bab47350cc77dd8f221bb63487aaba1e78a8070f7", func := "topiarist/topiaristlaw25.ForestHolds", spec := "forestHolds", unfollowed := true, recurses := true, plainKeys := false, apart := false, narrowed := true }
def ForestHoldsUptoSaid : Prop := forestHoldsUptoRow.holds Try.pinned (OpenSpec.upto forestHoldsSpec)

/-- 'topiaristlaw25.ForestCaps', WHERE WHAT IT READS IS OF BULK AT MOST 1048576: true; the input reads as it did. -/
def forestCapsUptoRow : OpenClaim := { program := "ythilemcdhkfhlaa", sum := "c71126da9395fd15d3fb349bab47350cc77dd8f221bb63487aaba1e78a8070f7", func := "topiarist/topiaristlaw25.ForestCaps", spec := "forestCaps", unfollowed := true, recurses := true, plainKeys := false, apart := false, narrowed := true }
def ForestCapsUptoSaid : Prop := forestCapsUptoRow.holds Try.pinned (OpenSpec.upto forestCapsSpec)

/-- 'topiaristlaw25.ForestGoods', WHERE WHAT IT READS IS OF BULK AT MOST 1048576: true; the input reads as it did. -/
def forestGoodsUptoRow : OpenClaim := { program := "ythilemcdhkfhlaa", sum := "c71126da9395fd15d3fb349bab47350cc77dd8f221bb63487aaba1e78a8070f7", func := "topiarist/topiaristlaw25.ForestGoods", spec := "forestGoods", unfollowed := true, recurses := true, plainKeys := false, apart := false, narrowed := true }
def ForestGoodsUptoSaid : Prop := forestGoodsUptoRow.holds Try.pinned (OpenSpec.upto forestGoodsSpec)

/-- 'topiaristlaw25.ForestFinds', WHERE WHAT IT READS IS OF BULK AT MOST 1048576: true; the input reads as it did. -/
def forestFindsUptoRow : OpenClaim := { program := "ythilemcdhkfhlaa", sum := "c71126da9395fd15d3fb349bab47350cc77dd8f221bb63487aaba1e78a8070f7", func := "topiarist/topiaristlaw25.ForestFinds", spec := "forestFinds", unfollowed := true, recurses := true, plainKeys := false, apart := false, narrowed := true }
def ForestFindsUptoSaid : Prop := forestFindsUptoRow.holds Try.pinned (OpenSpec.upto forestFindsSpec)

/-- 'topiaristlaw25.ForestRoot', WHERE WHAT IT READS IS OF BULK AT MOST 1048576: true; the input reads as it did. -/
def forestRootUptoRow : OpenClaim := { program := "ythilemcdhkfhlaa", sum := "c71126da9395fd15d3fb349bab47350cc77dd8f221bb63487aaba1e78a8070f7", func := "topiarist/topiaristlaw25.ForestRoot", spec := "forestRoot", unfollowed := true, recurses := true, plainKeys := false, apart := false, narrowed := true }
def ForestRootUptoSaid : Prop := forestRootUptoRow.holds Try.pinned (OpenSpec.upto forestRootSpec)

/-- 'topiaristlaw26.CycleTells', WHERE WHAT IT READS IS OF BULK AT MOST 1048576: true; the input reads as it did. -/
def cycleTellsUptoRow : OpenClaim := { program := "ythilemcdhkfhlaa", sum := "c71126da9395fd15d3fb349bab47350cc77dd8f221bb63487aaba1e78a8070f7", func := "topiarist/topiaristlaw26.CycleTells", spec := "cycleTells", unfollowed := true, recurses := true, plainKeys := false, apart := false, narrowed := true }
def CycleTellsUptoSaid : Prop := cycleTellsUptoRow.holds Try.pinned (OpenSpec.upto cycleTellsSpec)

/-- 'topiaristlaw26.CycleOrder', WHERE WHAT IT READS IS OF BULK AT MOST 1048576: true; the input reads as it did. -/
def cycleOrderUptoRow : OpenClaim := { program := "ythilemcdhkfhlaa", sum := "c71126da9395fd15d3fb349bab47350cc77dd8f221bb63487aaba1e78a8070f7", func := "topiarist/topiaristlaw26.CycleOrder", spec := "cycleOrder", unfollowed := true, recurses := true, plainKeys := false, apart := false, narrowed := true }
def CycleOrderUptoSaid : Prop := cycleOrderUptoRow.holds Try.pinned (OpenSpec.upto cycleOrderSpec)

/-- 'topiaristlaw26.CycleWords', WHERE WHAT IT READS IS OF BULK AT MOST 1048576: true; the input reads as it did. -/
def cycleWordsUptoRow : OpenClaim := { program := "ythilemcdhkfhlaa", sum := "c71126da9395fd15d3fb349bab47350cc77dd8f221bb63487aaba1e78a8070f7", func := "topiarist/topiaristlaw26.CycleWords", spec := "cycleWords", unfollowed := true, recurses := true, plainKeys := false, apart := false, narrowed := true }
def CycleWordsUptoSaid : Prop := cycleWordsUptoRow.holds Try.pinned (OpenSpec.upto cycleWordsSpec)

/-- 'topiaristlaw26.CycleRings', WHERE WHAT IT READS IS OF BULK AT MOST 1048576: true; the input reads as it did. -/
def cycleRingsUptoRow : OpenClaim := { program := "ythilemcdhkfhlaa", sum := "c71126da9395fd15d3fb349bab47350cc77dd8f221bb63487aaba1e78a8070f7", func := "topiarist/topiaristlaw26.CycleRings", spec := "cycleRings", unfollowed := true, recurses := true, plainKeys := false, apart := false, narrowed := true }
def CycleRingsUptoSaid : Prop := cycleRingsUptoRow.holds Try.pinned (OpenSpec.upto cycleRingsSpec)

/-- 'topiaristlaw26.CycleLess', WHERE WHAT IT READS IS OF BULK AT MOST 1048576: true; the input reads as it did. -/
def cycleLessUptoRow : OpenClaim := { program := "ythilemcdhkfhlaa", sum := "c71126da9395fd15d3fb349bab47350cc77dd8f221bb63487aaba1e78a8070f7", func := "topiarist/topiaristlaw26.CycleLess", spec := "cycleLess", unfollowed := true, recurses := true, plainKeys := false, apart := false, narrowed := true }
def CycleLessUptoSaid : Prop := cycleLessUptoRow.holds Try.pinned (OpenSpec.upto cycleLessSpec)

/-- 'topiaristlaw09.FollowTells', WHERE WHAT IT READS IS OF BULK AT MOST 1048576: true; the input reads as it did. -/
def followTellsUptoRow : OpenClaim := { program := "ythilemcdhkfhlaa", sum := "c71126da9395fd15d3fb349bab47350cc77dd8f221bb63487aaba1e78a8070f7", func := "topiarist/topiaristlaw09.FollowTells", spec := "followTells", inPlace := ["slices.overlaps[int]"], unfollowed := true, recurses := true, plainKeys := false, apart := false, narrowed := true }
def FollowTellsUptoSaid : Prop := followTellsUptoRow.holds Try.pinned (OpenSpec.upto followTellsSpec)

/-- 'topiaristlaw09.FollowHolds', WHERE WHAT IT READS IS OF BULK AT MOST 1048576: true; the input reads as it did. -/
def followHoldsUptoRow : OpenClaim := { program := "ythilemcdhkfhlaa", sum := "c71126da9395fd15d3fb349bab47350cc77dd8f221bb63487aaba1e78a8070f7", func := "topiarist/topiaristlaw09.FollowHolds", spec := "followHolds", inPlace := ["slices.overlaps[int]"], unfollowed := true, recurses := true, plainKeys := false, apart := false, narrowed := true }
def FollowHoldsUptoSaid : Prop := followHoldsUptoRow.holds Try.pinned (OpenSpec.upto followHoldsSpec)

/-- 'topiaristlaw09.FollowMore', WHERE WHAT IT READS IS OF BULK AT MOST 1048576: true; the input reads as it did. -/
def followMoreUptoRow : OpenClaim := { program := "ythilemcdhkfhlaa", sum := "c71126da9395fd15d3fb349bab47350cc77dd8f221bb63487aaba1e78a8070f7", func := "topiarist/topiaristlaw09.FollowMore", spec := "followMore", inPlace := ["slices.overlaps[int]"], unfollowed := true, recurses := true, plainKeys := false, apart := false, narrowed := true }
def FollowMoreUptoSaid : Prop := followMoreUptoRow.holds Try.pinned (OpenSpec.upto followMoreSpec)

/-- 'topiaristlaw09.FollowLast', WHERE WHAT IT READS IS OF BULK AT MOST 1048576: true; the input reads as it did. -/
def followLastUptoRow : OpenClaim := { program := "ythilemcdhkfhlaa", sum := "c71126da9395fd15d3fb349bab47350cc77dd8f221bb63487aaba1e78a8070f7", func := "topiarist/topiaristlaw09.FollowLast", spec := "followLast", inPlace := ["slices.overlaps[int]"], unfollowed := true, recurses := true, plainKeys := false, apart := false, narrowed := true }
def FollowLastUptoSaid : Prop := followLastUptoRow.holds Try.pinned (OpenSpec.upto followLastSpec)

/-- 'topiaristlaw28.TreesMost', WHERE WHAT IT READS IS OF BULK AT MOST 1048576: true; the input reads as it did. -/
def treesMostUptoRow : OpenClaim := { program := "ythilemcdhkfhlaa", sum := "c71126da9395fd15d3fb349bab47350cc77dd8f221bb63487aaba1e78a8070f7", func := "topiarist/topiaristlaw28.TreesMost", spec := "treesMost", unfollowed := true, recurses := true, plainKeys := false, apart := false, narrowed := true }
def TreesMostUptoSaid : Prop := treesMostUptoRow.holds Try.pinned (OpenSpec.upto treesMostSpec)

/-- 'topiaristlaw28.TreesForms', WHERE WHAT IT READS IS OF BULK AT MOST 1048576: true; the input reads as it did. -/
def treesFormsUptoRow : OpenClaim := { program := "ythilemcdhkfhlaa", sum := "c71126da9395fd15d3fb349bab47350cc77dd8f221bb63487aaba1e78a8070f7", func := "topiarist/topiaristlaw28.TreesForms", spec := "treesForms", unfollowed := true, recurses := true, plainKeys := false, apart := false, narrowed := true }
def TreesFormsUptoSaid : Prop := treesFormsUptoRow.holds Try.pinned (OpenSpec.upto treesFormsSpec)

end Rows
end Go.Proofs.Ythilemcdhkfhlaa
