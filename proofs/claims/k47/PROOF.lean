import PyProof.Rows.All
import Wide.All
import OpenK.AllK
import Wide.FinOn
import KE.KStateDown
import HandS.ForMost
import HandS.Head0
import HandS.Head1
import HandS.Head2
import HandS.HeadEnd
import HandS.HeadHook1
import HandS.HeadHook2
import HandS.Walk
import HandS.Wide
import HandS.TupAny
import HandS.TupMul
import HandS.IsInst
import HandS.Zip
import KE.GoesEnum
import PyProof.WalksMore
import HandS.NoneIn
import HandS.TupLe
import PySem.Challenge.RW_surecount_k47_ballots_compared
/-! text L2z -/
set_option Elab.async false
set_option linter.all false
set_option maxRecDepth 100000
set_option maxHeartbeats 0
/-! L2z: the head: what stands behind the top, by a Hook over the addresses; the top's run in the kernel, once for each part. -/
namespace L3
open PySem L2
/-- the text by places -/
def top (i : Nat) : Stmt := PySem.Challenge.pw_surecount_k47_ballots_compared.main.body.getD i (.Pass ⟨0, 0, 0, 0⟩)
abbrev hR : PySem.W.OpenRow := PySem.W.OpenLaw.row PySem.Challenge.rw_surecount_k47_ballots_compared
abbrev hq : Program := PySem.W.view hR.prog [89]
def hLoose : List PySem.Str := (["_wall", "__name__", "SureError", "NoFraction", "NoOutcome", "NoNumber", "Ended", "NoMargin", "NoBallot", "in_common", "lowest", "plus", "minus", "times", "over", "total", "below", "NOUGHT_games", "ONE_games", "Game", "NOUGHT_ways", "ONE_ways", "TWO", "Way", "Looking", "Comparing", "LACKS", "way_of"] : List PySem.Str) ++ (["is_mark", "Sheet", "Audit", "NOUGHT_claims", "HALF", "ONE_claims", "Claim", "Beats", "Over", "Under", "Contest", "Most", "Portion", "NOUGHT_rules", "Rule", "Fixed", "_law_whole", "_law_at", "_law_mix", "_law_names", "_law_lowest", "_law_plus", "_law_times", "_law_over", "_law_greatest", "_law_value", "_law_all", "_law_is_so"] : List PySem.Str) ++ (["_law_scale", "_law_compared", "_law_contest", "_law_counts", "_law_outcome", "_law_claims", "_law_contest_made", "_law_guess", "_law_game", "_law_price", "_law_play", "_law_reached", "_law_limit", "_law_plan", "_law_ballot", "_law_record", "_law_games", "_law_beside", "_law_sure", "_law_verdict", "_law_stands", "_law_audit", "_law_told", "_law_tops", "_law_drawn_beside"] : List PySem.Str)
def hAs : List Nat := ([3, 2, 244, 243, 282, 281, 341, 340, 391, 390, 444, 443, 536, 535, 576, 575, 616, 615, 661, 660, 692, 691, 723, 722, 771, 770, 494, 493] : List Nat) ++ ([743, 742, 113, 112, 120, 119, 127, 126, 134, 133, 141, 140, 148, 147, 155, 154, 162, 161, 348, 347, 355, 354, 780, 779, 787, 786, 794, 793] : List Nat) ++ ([799, 798, 806, 805, 813, 812, 820, 819, 827, 826, 834, 833, 841, 840, 848, 847, 855, 854, 862, 861, 869, 868, 876, 875, 881, 880, 886, 885] : List Nat) ++ ([891, 890, 898, 897, 910, 909, 917, 916, 924, 923, 931, 930, 938, 937, 945, 944, 952, 951, 959, 958, 964, 963, 976, 975, 983, 982, 988, 987] : List Nat) ++ ([993, 992, 998, 997, 1003, 1002, 1010, 1009, 1015, 1014, 178, 177, 185, 184, 192, 191, 199, 198, 206, 205, 213, 212, 220, 219, 241, 240, 265, 264] : List Nat) ++ ([324, 323, 331, 330, 338, 337, 369, 368, 376, 375, 381, 380, 388, 387, 407, 406, 412, 411, 417, 416, 424, 423, 431, 430, 436, 435, 441, 440] : List Nat) ++ ([512, 511, 519, 518, 526, 525, 465, 464, 484, 483, 552, 551, 559, 558, 566, 565, 592, 591, 599, 598, 606, 605, 632, 631, 679, 678, 689, 688] : List Nat) ++ ([639, 638, 708, 707, 720, 719, 761, 760, 768, 767, 163, 164, 250, 251, 449, 450, 451] : List Nat)
def hFa : List He.Fa := ([.free "len", .free "sum", .free "sorted", .free "abs", .free "all", .free "isinstance", .free "max", .free "min", .free "tuple", .free "list", .free "int", .free "bool", .free "str", .free "range", .free "zip", .free "enumerate", .glo "Game", .glo "Way", .glo "Comparing", .glo "Sheet", .glo "Audit", .glo "Beats", .glo "Over", .glo "Under", .glo "Contest", .glo "Most", .glo "Portion", .glo "Fixed"] : List He.Fa) ++ ([.glo "NOUGHT_games", .glo "ONE_games", .glo "ONE_ways", .glo "TWO", .glo "NOUGHT_claims", .glo "HALF", .glo "ONE_claims", .glo "in_common", .glo "lowest", .glo "plus", .glo "minus", .glo "times", .glo "over", .glo "total", .glo "below", .glo "way_of", .glo "is_mark", .glo "_law_whole", .glo "_law_at", .glo "_law_mix", .glo "_law_names", .glo "_law_lowest", .glo "_law_plus", .glo "_law_times", .glo "_law_over", .glo "_law_greatest", .glo "_law_value", .glo "_law_all"] : List He.Fa) ++ ([.glo "_law_is_so", .glo "_law_scale", .glo "_law_compared", .glo "_law_contest", .glo "_law_counts", .glo "_law_outcome", .glo "_law_claims", .glo "_law_contest_made", .glo "_law_game", .glo "_law_price", .glo "_law_play", .glo "_law_reached", .glo "_law_limit", .glo "_law_plan", .glo "_law_ballot", .glo "_law_record", .glo "_law_games", .glo "_law_sure", .glo "_law_verdict", .glo "_law_stands", .glo "_law_audit", .glo "_law_told", .glo "_law_tops", .glo "_law_drawn_beside", .glo "law", .cls "Game", .noat "Game" "many", .noat "Game" "again"] : List He.Fa) ++ ([.noat "Game" "highest", .noat "Game" "rule", .noat "Game" "drawn_values", .noat "Game" "sum_so_far", .noat "Game" "now", .noat "Game" "most", .noat "Game" "certain", .cls "Way", .noat "Way" "claim", .cls "Comparing", .noat "Comparing" "claim", .noat "Comparing" "told", .noat "Comparing" "scale", .cls "Sheet", .noat "Sheet" "names", .noat "Sheet" "limit", .noat "Sheet" "ways", .noat "Sheet" "games", .cls "Audit", .noat "Audit" "sheets", .noat "Audit" "many", .noat "Audit" "again", .noat "Audit" "most", .noat "Audit" "numbers", .cls "Beats", .noat "Beats" "one", .noat "Beats" "other", .cls "Over"] : List He.Fa) ++ ([.noat "Over" "name", .noat "Over" "share", .cls "Under", .noat "Under" "name", .noat "Under" "share", .cls "Contest", .noat "Contest" "names", .cls "Most", .noat "Most" "names", .noat "Most" "seats", .cls "Portion", .noat "Portion" "names", .noat "Portion" "share", .cls "Fixed", .noat "Fixed" "part", .mkr "Game", .mkr "Sheet", .mkr "Audit", .mkr "Comparing", .mkr "Beats", .mkr "Over", .mkr "Under", .mkr "Most", .mkr "Portion", .mkr "Fixed", .meth "Game" "__init__", .meth "Game" "twin", .meth "Game" "ended"] : List He.Fa) ++ ([.meth "Game" "price", .meth "Game" "worth_behind", .meth "Game" "play", .meth "Game" "worth", .meth "Game" "reached", .meth "Way" "__init__", .meth "Comparing" "__init__", .meth "Comparing" "value", .meth "Comparing" "top", .meth "Sheet" "__init__", .meth "Sheet" "add", .meth "Sheet" "is_sure", .meth "Sheet" "played", .meth "Audit" "__init__", .meth "Audit" "sure_of", .meth "Audit" "worths", .meth "Audit" "verdict", .meth "Audit" "is_number", .meth "Audit" "is_ballot", .meth "Audit" "draw", .meth "Beats" "__init__", .meth "Beats" "value_of", .meth "Beats" "greatest", .meth "Beats" "value", .meth "Beats" "holds", .meth "Over" "__init__", .meth "Over" "value_of", .meth "Over" "greatest"] : List He.Fa) ++ ([.meth "Over" "value", .meth "Over" "holds", .meth "Under" "__init__", .meth "Under" "value_of", .meth "Under" "greatest", .meth "Under" "value", .meth "Under" "holds", .meth "Contest" "__init__", .meth "Most" "__init__", .meth "Most" "claims", .meth "Most" "named", .meth "Portion" "__init__", .meth "Portion" "claims", .meth "Portion" "named", .meth "Fixed" "__init__", .meth "Fixed" "stake", .str "LACKS" "?"] : List He.Fa)
def hFn : List He.DefD := ([⟨("in_common", none), "in_common", "in_common", defArgs (top 10), defBody (top 10), defScope (top 10), [], []⟩, ⟨("lowest", none), "lowest", "lowest", defArgs (top 11), defBody (top 11), defScope (top 11), [], []⟩, ⟨("plus", none), "plus", "plus", defArgs (top 12), defBody (top 12), defScope (top 12), [], []⟩, ⟨("minus", none), "minus", "minus", defArgs (top 13), defBody (top 13), defScope (top 13), [], []⟩, ⟨("times", none), "times", "times", defArgs (top 14), defBody (top 14), defScope (top 14), [], []⟩, ⟨("over", none), "over", "over", defArgs (top 15), defBody (top 15), defScope (top 15), [], []⟩, ⟨("total", none), "total", "total", defArgs (top 16), defBody (top 16), defScope (top 16), [], []⟩, ⟨("below", none), "below", "below", defArgs (top 17), defBody (top 17), defScope (top 17), [], []⟩, ⟨("way_of", none), "way_of", "way_of", defArgs (top 31), defBody (top 31), defScope (top 31), [], []⟩, ⟨("is_mark", none), "is_mark", "is_mark", defArgs (top 32), defBody (top 32), defScope (top 32), [], []⟩] : List He.DefD) ++ ([⟨("_law_whole", none), "_law_whole", "_law_whole", defArgs (top 52), defBody (top 52), defScope (top 52), [], []⟩, ⟨("_law_at", none), "_law_at", "_law_at", defArgs (top 53), defBody (top 53), defScope (top 53), [], []⟩, ⟨("_law_mix", none), "_law_mix", "_law_mix", defArgs (top 54), defBody (top 54), defScope (top 54), [], []⟩, ⟨("_law_names", none), "_law_names", "_law_names", defArgs (top 55), defBody (top 55), defScope (top 55), [], []⟩, ⟨("_law_lowest", none), "_law_lowest", "_law_lowest", defArgs (top 56), defBody (top 56), defScope (top 56), [], []⟩, ⟨("_law_plus", none), "_law_plus", "_law_plus", defArgs (top 57), defBody (top 57), defScope (top 57), [], []⟩, ⟨("_law_times", none), "_law_times", "_law_times", defArgs (top 58), defBody (top 58), defScope (top 58), [], []⟩, ⟨("_law_over", none), "_law_over", "_law_over", defArgs (top 59), defBody (top 59), defScope (top 59), [], []⟩, ⟨("_law_greatest", none), "_law_greatest", "_law_greatest", defArgs (top 60), defBody (top 60), defScope (top 60), [], []⟩, ⟨("_law_value", none), "_law_value", "_law_value", defArgs (top 61), defBody (top 61), defScope (top 61), [], []⟩] : List He.DefD) ++ ([⟨("_law_all", none), "_law_all", "_law_all", defArgs (top 62), defBody (top 62), defScope (top 62), [], []⟩, ⟨("_law_is_so", none), "_law_is_so", "_law_is_so", defArgs (top 63), defBody (top 63), defScope (top 63), [], []⟩, ⟨("_law_scale", none), "_law_scale", "_law_scale", defArgs (top 64), defBody (top 64), defScope (top 64), [], []⟩, ⟨("_law_compared", none), "_law_compared", "_law_compared", defArgs (top 65), defBody (top 65), defScope (top 65), [], []⟩, ⟨("_law_contest", none), "_law_contest", "_law_contest", defArgs (top 66), defBody (top 66), defScope (top 66), [], []⟩, ⟨("_law_counts", none), "_law_counts", "_law_counts", defArgs (top 67), defBody (top 67), defScope (top 67), [], []⟩, ⟨("_law_outcome", none), "_law_outcome", "_law_outcome", defArgs (top 68), defBody (top 68), defScope (top 68), [], []⟩, ⟨("_law_claims", none), "_law_claims", "_law_claims", defArgs (top 69), defBody (top 69), defScope (top 69), [], []⟩, ⟨("_law_contest_made", none), "_law_contest_made", "_law_contest_made", defArgs (top 70), defBody (top 70), defScope (top 70), [], []⟩, ⟨("_law_game", none), "_law_game", "_law_game", defArgs (top 72), defBody (top 72), defScope (top 72), [], []⟩] : List He.DefD) ++ ([⟨("_law_price", none), "_law_price", "_law_price", defArgs (top 73), defBody (top 73), defScope (top 73), [], []⟩, ⟨("_law_play", none), "_law_play", "_law_play", defArgs (top 74), defBody (top 74), defScope (top 74), [], []⟩, ⟨("_law_reached", none), "_law_reached", "_law_reached", defArgs (top 75), defBody (top 75), defScope (top 75), [], []⟩, ⟨("_law_limit", none), "_law_limit", "_law_limit", defArgs (top 76), defBody (top 76), defScope (top 76), [], []⟩, ⟨("_law_plan", none), "_law_plan", "_law_plan", defArgs (top 77), defBody (top 77), defScope (top 77), [], []⟩, ⟨("_law_ballot", none), "_law_ballot", "_law_ballot", defArgs (top 78), defBody (top 78), defScope (top 78), [], []⟩, ⟨("_law_record", none), "_law_record", "_law_record", defArgs (top 79), defBody (top 79), defScope (top 79), [], []⟩, ⟨("_law_games", none), "_law_games", "_law_games", defArgs (top 80), defBody (top 80), defScope (top 80), [], []⟩, ⟨("_law_sure", none), "_law_sure", "_law_sure", defArgs (top 82), defBody (top 82), defScope (top 82), [], []⟩, ⟨("_law_verdict", none), "_law_verdict", "_law_verdict", defArgs (top 83), defBody (top 83), defScope (top 83), [], []⟩] : List He.DefD) ++ ([⟨("_law_stands", none), "_law_stands", "_law_stands", defArgs (top 84), defBody (top 84), defScope (top 84), [], []⟩, ⟨("_law_audit", none), "_law_audit", "_law_audit", defArgs (top 85), defBody (top 85), defScope (top 85), [], []⟩, ⟨("_law_told", none), "_law_told", "_law_told", defArgs (top 86), defBody (top 86), defScope (top 86), [], []⟩, ⟨("_law_tops", none), "_law_tops", "_law_tops", defArgs (top 87), defBody (top 87), defScope (top 87), [], []⟩, ⟨("_law_drawn_beside", none), "_law_drawn_beside", "_law_drawn_beside", defArgs (top 88), defBody (top 88), defScope (top 88), [], []⟩, ⟨("law", none), "law", "law", defArgs (top 89), defBody (top 89), defScope (top 89), [], []⟩, ⟨("Game", some "__init__"), "__init__", "Game.__init__", defArgs (inClass (top 21) 0), defBody (inClass (top 21) 0), defScope (inClass (top 21) 0), [], []⟩, ⟨("Game", some "twin"), "twin", "Game.twin", defArgs (inClass (top 21) 1), defBody (inClass (top 21) 1), defScope (inClass (top 21) 1), [], []⟩, ⟨("Game", some "ended"), "ended", "Game.ended", defArgs (inClass (top 21) 2), defBody (inClass (top 21) 2), defScope (inClass (top 21) 2), [], []⟩, ⟨("Game", some "price"), "price", "Game.price", defArgs (inClass (top 21) 3), defBody (inClass (top 21) 3), defScope (inClass (top 21) 3), [], []⟩] : List He.DefD) ++ ([⟨("Game", some "worth_behind"), "worth_behind", "Game.worth_behind", defArgs (inClass (top 21) 4), defBody (inClass (top 21) 4), defScope (inClass (top 21) 4), [], []⟩, ⟨("Game", some "play"), "play", "Game.play", defArgs (inClass (top 21) 5), defBody (inClass (top 21) 5), defScope (inClass (top 21) 5), [], []⟩, ⟨("Game", some "worth"), "worth", "Game.worth", defArgs (inClass (top 21) 6), defBody (inClass (top 21) 6), defScope (inClass (top 21) 6), [], []⟩, ⟨("Game", some "reached"), "reached", "Game.reached", defArgs (inClass (top 21) 9), defBody (inClass (top 21) 9), defScope (inClass (top 21) 9), [], []⟩, ⟨("Way", some "__init__"), "__init__", "Way.__init__", defArgs (inClass (top 26) 0), defBody (inClass (top 26) 0), defScope (inClass (top 26) 0), [], []⟩, ⟨("Comparing", some "__init__"), "__init__", "Comparing.__init__", defArgs (inClass (top 28) 0), defBody (inClass (top 28) 0), defScope (inClass (top 28) 0), [], []⟩, ⟨("Comparing", some "value"), "value", "Comparing.value", defArgs (inClass (top 28) 1), defBody (inClass (top 28) 1), defScope (inClass (top 28) 1), [], []⟩, ⟨("Comparing", some "top"), "top", "Comparing.top", defArgs (inClass (top 28) 2), defBody (inClass (top 28) 2), defScope (inClass (top 28) 2), [], []⟩, ⟨("Sheet", some "__init__"), "__init__", "Sheet.__init__", defArgs (inClass (top 33) 0), defBody (inClass (top 33) 0), defScope (inClass (top 33) 0), [], []⟩, ⟨("Sheet", some "add"), "add", "Sheet.add", defArgs (inClass (top 33) 1), defBody (inClass (top 33) 1), defScope (inClass (top 33) 1), [], []⟩] : List He.DefD) ++ ([⟨("Sheet", some "is_sure"), "is_sure", "Sheet.is_sure", defArgs (inClass (top 33) 2), defBody (inClass (top 33) 2), defScope (inClass (top 33) 2), [], []⟩, ⟨("Sheet", some "played"), "played", "Sheet.played", defArgs (inClass (top 33) 3), defBody (inClass (top 33) 3), defScope (inClass (top 33) 3), [], []⟩, ⟨("Audit", some "__init__"), "__init__", "Audit.__init__", defArgs (inClass (top 34) 0), defBody (inClass (top 34) 0), defScope (inClass (top 34) 0), [], []⟩, ⟨("Audit", some "sure_of"), "sure_of", "Audit.sure_of", defArgs (inClass (top 34) 1), defBody (inClass (top 34) 1), defScope (inClass (top 34) 1), [], []⟩, ⟨("Audit", some "worths"), "worths", "Audit.worths", defArgs (inClass (top 34) 2), defBody (inClass (top 34) 2), defScope (inClass (top 34) 2), [], []⟩, ⟨("Audit", some "verdict"), "verdict", "Audit.verdict", defArgs (inClass (top 34) 3), defBody (inClass (top 34) 3), defScope (inClass (top 34) 3), [], []⟩, ⟨("Audit", some "is_number"), "is_number", "Audit.is_number", defArgs (inClass (top 34) 4), defBody (inClass (top 34) 4), defScope (inClass (top 34) 4), [], []⟩, ⟨("Audit", some "is_ballot"), "is_ballot", "Audit.is_ballot", defArgs (inClass (top 34) 5), defBody (inClass (top 34) 5), defScope (inClass (top 34) 5), [], []⟩, ⟨("Audit", some "draw"), "draw", "Audit.draw", defArgs (inClass (top 34) 6), defBody (inClass (top 34) 6), defScope (inClass (top 34) 6), [], []⟩, ⟨("Beats", some "__init__"), "__init__", "Beats.__init__", defArgs (inClass (top 40) 0), defBody (inClass (top 40) 0), defScope (inClass (top 40) 0), [], []⟩] : List He.DefD) ++ ([⟨("Beats", some "value_of"), "value_of", "Beats.value_of", defArgs (inClass (top 40) 1), defBody (inClass (top 40) 1), defScope (inClass (top 40) 1), [], []⟩, ⟨("Beats", some "greatest"), "greatest", "Beats.greatest", defArgs (inClass (top 40) 2), defBody (inClass (top 40) 2), defScope (inClass (top 40) 2), [], []⟩, ⟨("Beats", some "value"), "value", "Claim.value", defArgs (inClass (top 39) 0), defBody (inClass (top 39) 0), defScope (inClass (top 39) 0), [], []⟩, ⟨("Beats", some "holds"), "holds", "Claim.holds", defArgs (inClass (top 39) 3), defBody (inClass (top 39) 3), defScope (inClass (top 39) 3), [], []⟩, ⟨("Over", some "__init__"), "__init__", "Over.__init__", defArgs (inClass (top 41) 0), defBody (inClass (top 41) 0), defScope (inClass (top 41) 0), [], []⟩, ⟨("Over", some "value_of"), "value_of", "Over.value_of", defArgs (inClass (top 41) 1), defBody (inClass (top 41) 1), defScope (inClass (top 41) 1), [], []⟩, ⟨("Over", some "greatest"), "greatest", "Over.greatest", defArgs (inClass (top 41) 2), defBody (inClass (top 41) 2), defScope (inClass (top 41) 2), [], []⟩, ⟨("Over", some "value"), "value", "Claim.value", defArgs (inClass (top 39) 0), defBody (inClass (top 39) 0), defScope (inClass (top 39) 0), [], []⟩, ⟨("Over", some "holds"), "holds", "Claim.holds", defArgs (inClass (top 39) 3), defBody (inClass (top 39) 3), defScope (inClass (top 39) 3), [], []⟩, ⟨("Under", some "__init__"), "__init__", "Under.__init__", defArgs (inClass (top 42) 0), defBody (inClass (top 42) 0), defScope (inClass (top 42) 0), [], []⟩] : List He.DefD) ++ ([⟨("Under", some "value_of"), "value_of", "Under.value_of", defArgs (inClass (top 42) 1), defBody (inClass (top 42) 1), defScope (inClass (top 42) 1), [], []⟩, ⟨("Under", some "greatest"), "greatest", "Under.greatest", defArgs (inClass (top 42) 2), defBody (inClass (top 42) 2), defScope (inClass (top 42) 2), [], []⟩, ⟨("Under", some "value"), "value", "Claim.value", defArgs (inClass (top 39) 0), defBody (inClass (top 39) 0), defScope (inClass (top 39) 0), [], []⟩, ⟨("Under", some "holds"), "holds", "Claim.holds", defArgs (inClass (top 39) 3), defBody (inClass (top 39) 3), defScope (inClass (top 39) 3), [], []⟩, ⟨("Contest", some "__init__"), "__init__", "Contest.__init__", defArgs (inClass (top 44) 0), defBody (inClass (top 44) 0), defScope (inClass (top 44) 0), [], []⟩, ⟨("Most", some "__init__"), "__init__", "Most.__init__", defArgs (inClass (top 45) 0), defBody (inClass (top 45) 0), defScope (inClass (top 45) 0), [], []⟩, ⟨("Most", some "claims"), "claims", "Most.claims", defArgs (inClass (top 45) 2), defBody (inClass (top 45) 2), defScope (inClass (top 45) 2), [], []⟩, ⟨("Most", some "named"), "named", "Contest.named", defArgs (inClass (top 44) 1), defBody (inClass (top 44) 1), defScope (inClass (top 44) 1), [], []⟩, ⟨("Portion", some "__init__"), "__init__", "Portion.__init__", defArgs (inClass (top 46) 0), defBody (inClass (top 46) 0), defScope (inClass (top 46) 0), [], []⟩, ⟨("Portion", some "claims"), "claims", "Portion.claims", defArgs (inClass (top 46) 2), defBody (inClass (top 46) 2), defScope (inClass (top 46) 2), [], []⟩] : List He.DefD) ++ ([⟨("Portion", some "named"), "named", "Contest.named", defArgs (inClass (top 44) 1), defBody (inClass (top 44) 1), defScope (inClass (top 44) 1), [], []⟩, ⟨("Fixed", some "__init__"), "__init__", "Fixed.__init__", defArgs (inClass (top 50) 0), defBody (inClass (top 50) 0), defScope (inClass (top 50) 0), [], []⟩, ⟨("Fixed", some "stake"), "stake", "Fixed.stake", defArgs (inClass (top 50) 1), defBody (inClass (top 50) 1), defScope (inClass (top 50) 1), [], []⟩] : List He.DefD)
def tupsB (K : PySem.W.Frag) : Bool := He.tupB K "NOUGHT_games" [.int 0, .int 1] && (He.tupB K "ONE_games" [.int 1, .int 1] && (He.tupB K "ONE_ways" [.int 1, .int 1] && (He.tupB K "TWO" [.int 2, .int 1] && (He.tupB K "NOUGHT_claims" [.int 0, .int 1] && (He.tupB K "HALF" [.int 1, .int 2] && (He.tupB K "ONE_claims" [.int 1, .int 1]))))))
/-- a class's own def, called by the class -/
def cfnB (K : PySem.W.Frag) (x : Str) : Bool := PySem.W.readsIn K (He.ga K x) (.type "type") && (He.eqO (PySem.W.specialIn K (.ref (He.ga K x)) "__getattribute__") (some (some (.builtin "type.__getattribute__"))) &&
  ((match PySem.W.findCls K (.ref (He.ga K x)) (.type "type") "__init__" with
    | some (.val (.ref b)) => decide (b = He.ma K (He.ga K x) "__init__")
    | _ => false) && PySem.W.keepIn K (.ref (He.ma K (He.ga K x) "__init__"))))
def hFacts (g : Addr → Option Obj) : Bool := let K := He.frG g hAs; hFa.all (fun f => f.ok K) && (tupsB K && (cfnB K "Way" && cfnB K "Contest"))
def hDefs (g : Addr → Option Obj) : He.AlD := He.obsD [] hFn (He.frG g hAs)
structure HGood (K : PySem.W.Frag) : Prop where
  f : hFa.all (fun f => f.ok K) = true
  t : tupsB K = true
  c : (cfnB K "Way" && cfnB K "Contest") = true
  d : He.SaysD [] hFn K
def hHook : PySem.W.Hook where
  α := Bool × He.AlD
  obs := fun s => (hFacts s.heap.get?, hDefs s.heap.get?)
  val := fun _ => (true, He.valD hFn)
  says := fun _ h => ∃ K : PySem.W.Frag, K.In h ∧ HGood K
  of := fun _ _ e => by
    have e1 : hFacts _ = true := congrArg (fun z : Bool × He.AlD => z.1) e
    have e2 : hDefs _ = He.valD hFn := congrArg (fun z : Bool × He.AlD => z.2) e
    obtain ⟨h1, h⟩ := He.ba (show (_ && _) = true from e1)
    obtain ⟨h2, h3⟩ := He.ba h
    exact ⟨_, He.frG_in, h1, h2, h3, e2⟩
  keeps := fun _ _ _ ⟨K, hK, c⟩ k => ⟨K, PySem.W.Frag.In.keeps hK k, c⟩
def hOb (s : PySem.W.SharedT) : Bool × He.AlD := (hFacts (HandSHeadRun.getT s), hDefs (HandSHeadRun.getT s))
theorem hOb_eq (s : PySem.W.SharedT) : hOb s = hHook.obs s.abs := by
  have e : HandSHeadRun.getT s = s.abs.heap.get? := funext (HandSHeadRun.getT_eq s)
  show (hFacts (HandSHeadRun.getT s), hDefs (HandSHeadRun.getT s)) = (hFacts s.abs.heap.get?, hDefs s.abs.heap.get?)
  rw [e]
noncomputable abbrev hEnd (w : World) (os : OsState) : Option PySem.W.SharedT := HandSHeadRun.endF (HandSHeadRun.stepQ (HandSHeadRun.denQ HandSHeadRun.tabQ) hR.prog w) 9000 hR.prog w os
theorem run_a (w : World) (os : OsState) : (hEnd w os).map (fun s => (HandSHeadRun.looksF hR.prog (PySem.W.boot_heap w.params) s.abs, HandSHeadRun.seenQ hq hLoose (importedModules hR.prog.main.body) (fun s => PySem.W.xlAt hq [] s && PySem.W.recOk hR.toRowW.records s) s.abs)) = some (true, PySem.W.openGood hq hLoose) := by
  kernel_rfl
theorem run_b (w : World) (os : OsState) : (hEnd w os).map (fun s => hFacts (HandSHeadRun.getT s)) = some true := by
  kernel_rfl
theorem run_c (w : World) (os : OsState) : (hEnd w os).map (fun s => hDefs (HandSHeadRun.getT s)) = some (He.valD hFn) := by
  kernel_rfl
theorem hRun (w : World) : HandSHeadRun.RunEq hR hq hHook hOb 9000 hLoose w := by
  intro os
  have a := run_a w os
  have b := run_b w os
  have c := run_c w os
  show (hEnd w os).map _ = _
  cases e : hEnd w os with
  | none =>
    rw [e] at a
    cases a
  | some s =>
    rw [e] at a b c
    have a := Option.some.inj (show some _ = some _ from a)
    have b : hFacts (HandSHeadRun.getT s) = true := Option.some.inj (show some _ = some _ from b)
    have c : hDefs (HandSHeadRun.getT s) = He.valD hFn := Option.some.inj (show some _ = some _ from c)
    obtain ⟨a1, a2⟩ := Prod.mk.inj a
    show some (_, _, (hFacts (HandSHeadRun.getT s), hDefs (HandSHeadRun.getT s))) = some (true, PySem.W.openGood hq hLoose, (true, He.valD hFn))
    rw [a1, a2, b, c]
end L3
open PySem PySem.W PySem.Calls PyProof.Rows in
theorem L3.hHead (walk : PySem.W.WalkO L3.hq L3.hLoose (PySem.W.XL L3.hq []) L3.hHook.says L3.hR.toRowW (HandSHeadRun.topDef L3.hR.prog 89) [] fun f vs => PySem.call f vs) : PySem.Challenge.rw_surecount_k47_ballots_compared.Holds := by
  w_on; o_law
  refine HandSHeadRun.head_any (r := OpenLaw.row PySem.Challenge.rw_surecount_k47_ballots_compared) (q := L3.hq) (H := L3.hHook) (ob := L3.hOb) (M := 9000) (loose := L3.hLoose) (d := HandSHeadRun.topDef (OpenLaw.row PySem.Challenge.rw_surecount_k47_ballots_compared).prog 89) (kwd := []) L3.hOb_eq
    (by kernel_rfl) (fun s => by kernel_rfl) L3.hRun (by kernel_rfl) (by kernel_rfl) (by kernel_rfl) (by rfl) (by first | assumption | decide +kernel) (by decide +kernel) ⟨rfl, rfl, rfl, rfl, rfl, by decide +kernel⟩ ?hw ?hc
  case hw => w_witness2
  case hc => exact walk

/-! text L3a -/
set_option Elab.async false
set_option linter.all false
set_option maxRecDepth 100000
set_option maxHeartbeats 4000000
/-! L3a: plain data D, what stands for it in a stable heap, memory of mutable objects, steps, the readings Sim. -/
namespace L3
open PySem L2

/-- plain data; ptr: a mutable object by its address; obj: an instance that stands still, its attributes' names and data -/
inductive D where
  | non | bl (b : Bool) | int (i : Int) | str (s : Str)
  | tup (ds : List D) | lst (ds : List D)
  | obj (C : Addr) (ns : List Str) (ds : List D)
  | ptr (a : Addr)
  | ty (n : String)

mutual
/-- the value v stands for the data, by the stable heap S -/
def Rep (K : PySem.W.Frag) (S : Hp) : D → V → Prop
  | .non, v => v = .non
  | .bl b, v => v = .bl b
  | .int i, v => v = .int i
  | .str s, v => v = .str s
  | .ptr a, v => v = .ref a
  | .ty n, v => v = .ty n
  | .tup ds, v => ∃ p xs, v = .ref p ∧ SqT K S p xs ∧ Reps K S ds xs
  | .lst ds, v => ∃ p xs, v = .ref p ∧ SqL K S p xs ∧ Reps K S ds xs
  | .obj C ns ds, v => ∃ p dx ys, v = .ref p ∧ S p = some (.ins C dx ys) ∧ ys.map (·.1) = ns ∧ Reps K S ds (ys.map (·.2))
def Reps (K : PySem.W.Frag) (S : Hp) : List D → List V → Prop
  | [], xs => xs = []
  | d :: ds, xs => ∃ x r, xs = x :: r ∧ Rep K S d x ∧ Reps K S ds r
end

section
variable {K : PySem.W.Frag} {S S' : Hp}
theorem sqT_mono {a : Addr} {xs : List V} (e : Same S S') (h : SqT K S a xs) : SqT K S' a xs := by
  rcases h with (h | ⟨o, h⟩) | h
  · exact .inl (.inl (e _ _ h))
  · exact .inl (.inr ⟨o, e _ _ h⟩)
  · exact .inr h
mutual
theorem Rep.mono (e : Same S S') : ∀ {d : D} {v : V}, Rep K S d v → Rep K S' d v
  | .non, _, h => h
  | .bl _, _, h => h
  | .int _, _, h => h
  | .str _, _, h => h
  | .ptr _, _, h => h
  | .ty _, _, h => h
  | .tup ds, v, h => by
    obtain ⟨p, xs, rfl, hs, hr⟩ := h
    exact ⟨p, xs, rfl, sqT_mono e hs, Reps.mono e hr⟩
  | .lst ds, v, h => by
    obtain ⟨p, xs, rfl, hs, hr⟩ := h
    exact ⟨p, xs, rfl, e.seq hs, Reps.mono e hr⟩
  | .obj C ns ds, v, h => by
    obtain ⟨p, dx, ys, rfl, hs, hn, hr⟩ := h
    exact ⟨p, dx, ys, rfl, e _ _ hs, hn, Reps.mono e hr⟩
theorem Reps.mono (e : Same S S') : ∀ {ds : List D} {xs : List V}, Reps K S ds xs → Reps K S' ds xs
  | [], _, h => h
  | d :: ds, xs, h => by
    obtain ⟨x, r, rfl, h1, h2⟩ := h
    exact ⟨x, r, rfl, Rep.mono e h1, Reps.mono e h2⟩
end
theorem Reps.len : ∀ {ds : List D} {xs : List V}, Reps K S ds xs → ds.length = xs.length
  | [], _, h => by
    have e : _ = [] := h
    subst e
    rfl
  | d :: ds, xs, h => by
    obtain ⟨x, r, rfl, h1, h2⟩ := h
    simp [Reps.len h2]
theorem Reps.nil : Reps K S [] [] := rfl
theorem Reps.cons {d : D} {x : V} {ds : List D} {xs : List V} (h1 : Rep K S d x) (h2 : Reps K S ds xs) : Reps K S (d :: ds) (x :: xs) := ⟨x, xs, rfl, h1, h2⟩
theorem Reps.get : ∀ {ds : List D} {xs : List V} {i : Nat} {d : D}, Reps K S ds xs → ds[i]? = some d → ∃ x, xs[i]? = some x ∧ Rep K S d x
  | [], _, i, d, h, e => by simp at e
  | c :: ds, xs, 0, d, h, e => by
    obtain ⟨x, r, rfl, h1, h2⟩ := h
    have e' : c = d := by simpa using e
    subst e'
    exact ⟨x, rfl, h1⟩
  | c :: ds, xs, i + 1, d, h, e => by
    obtain ⟨x, r, rfl, h1, h2⟩ := h
    exact Reps.get (i := i) (d := d) h2 (by simpa using e)
theorem Reps.append : ∀ {ds es : List D} {xs ys : List V}, Reps K S ds xs → Reps K S es ys → Reps K S (ds ++ es) (xs ++ ys)
  | [], es, xs, ys, h, g => by
    have e : xs = [] := h
    subst e
    exact g
  | d :: ds, es, xs, ys, h, g => by
    obtain ⟨x, r, rfl, h1, h2⟩ := h
    exact ⟨x, r ++ ys, rfl, h1, Reps.append h2 g⟩
theorem Reps.one {d : D} {x : V} (h : Rep K S d x) : Reps K S [d] [x] := .cons h .nil
theorem Reps.take : ∀ {ds : List D} {xs : List V} (n : Nat), Reps K S ds xs → Reps K S (ds.take n) (xs.take n)
  | ds, xs, 0, _ => by simp; exact Reps.nil
  | [], xs, n + 1, h => by
    have e : xs = [] := h
    subst e
    exact Reps.nil
  | d :: ds, xs, n + 1, h => by
    obtain ⟨x, r, rfl, h1, h2⟩ := h
    exact ⟨x, r.take n, rfl, h1, Reps.take n h2⟩
theorem Reps.drop : ∀ {ds : List D} {xs : List V} (n : Nat), Reps K S ds xs → Reps K S (ds.drop n) (xs.drop n)
  | ds, xs, 0, h => h
  | [], xs, n + 1, h => by
    have e : xs = [] := h
    subst e
    exact Reps.nil
  | d :: ds, xs, n + 1, h => by
    obtain ⟨x, r, rfl, h1, h2⟩ := h
    exact Reps.drop n h2
theorem Reps.set {d : D} {x : V} (hd : Rep K S d x) : ∀ {ds : List D} {xs : List V} (i : Nat), Reps K S ds xs → Reps K S (ds.set i d) (xs.set i x)
  | [], xs, i, h => by
    have e : xs = [] := h
    subst e
    exact Reps.nil
  | c :: ds, xs, 0, h => by
    obtain ⟨y, r, rfl, h1, h2⟩ := h
    exact ⟨x, r, rfl, hd, h2⟩
  | c :: ds, xs, i + 1, h => by
    obtain ⟨y, r, rfl, h1, h2⟩ := h
    exact ⟨y, r.set i x, rfl, h1, Reps.set hd i h2⟩
theorem Reps.rep {d : D} {x : V} (hd : Rep K S d x) : ∀ n : Nat, Reps K S (List.replicate n d) (List.replicate n x)
  | 0 => Reps.nil
  | n + 1 => by
    rw [List.replicate_succ, List.replicate_succ]
    exact .cons hd (Reps.rep hd n)
theorem Reps.ints : ∀ {ns : List Int}, Reps K S (ns.map D.int) (ns.map V.int)
  | [] => Reps.nil
  | n :: ns => .cons rfl Reps.ints
theorem Reps.of_ints : ∀ {ns : List Int} {xs : List V}, Reps K S (ns.map D.int) xs → xs = ns.map V.int
  | [], xs, h => h
  | n :: ns, xs, h => by
    obtain ⟨y, r, rfl, h1, h2⟩ := h
    have e : y = .int n := h1
    rw [e, Reps.of_ints h2]
    rfl
theorem Reps.of_bls : ∀ {ns : List Bool} {xs : List V}, Reps K S (ns.map D.bl) xs → xs = ns.map V.bl
  | [], xs, h => h
  | n :: ns, xs, h => by
    obtain ⟨y, r, rfl, h1, h2⟩ := h
    have e : y = .bl n := h1
    rw [e, Reps.of_bls h2]
    rfl
theorem Reps.of_strs : ∀ {ns : List Str} {xs : List V}, Reps K S (ns.map D.str) xs → xs = ns.map V.str
  | [], xs, h => h
  | n :: ns, xs, h => by
    obtain ⟨y, r, rfl, h1, h2⟩ := h
    have e : y = .str n := h1
    rw [e, Reps.of_strs h2]
    rfl
end

/-! ### attributes, entries: names (keys) and data beside names and values -/
inductive FRep (K : PySem.W.Frag) (S : Hp) {κ : Type} : List (κ × D) → List (κ × V) → Prop
  | nil : FRep K S [] []
  | cons {k : κ} {d : D} {v : V} {fs : List (κ × D)} {ys : List (κ × V)} : Rep K S d v → FRep K S fs ys → FRep K S ((k, d) :: fs) ((k, v) :: ys)
section
variable {K : PySem.W.Frag} {S S' : Hp} {κ : Type}
theorem FRep.mono {fs : List (κ × D)} {ys : List (κ × V)} (e : Same S S') (h : FRep K S fs ys) : FRep K S' fs ys := by
  induction h with
  | nil => exact .nil
  | cons h1 _ ih => exact .cons (h1.mono e) ih
theorem FRep.len {fs : List (κ × D)} {ys : List (κ × V)} (h : FRep K S fs ys) : fs.length = ys.length := by
  induction h with
  | nil => rfl
  | cons h1 _ ih => simp [ih]
theorem FRep.lookup [BEq κ] {fs : List (κ × D)} {ys : List (κ × V)} (h : FRep K S fs ys) {f : κ} {d : D} (e : fs.lookup f = some d) : ∃ v, ys.lookup f = some v ∧ Rep K S d v := by
  induction h with
  | nil => simp at e
  | @cons k d' v fs ys h1 h2 ih =>
    by_cases q : (f == k) = true
    · rw [List.lookup_cons, q] at e ⊢
      have e' : d' = d := by simpa using e
      subst e'
      exact ⟨v, rfl, h1⟩
    · have q' : (f == k) = false := by simpa using q
      rw [List.lookup_cons, q'] at e ⊢
      exact ih e
theorem FRep.lookup_none [BEq κ] {fs : List (κ × D)} {ys : List (κ × V)} (h : FRep K S fs ys) {f : κ} (e : fs.lookup f = none) : ys.lookup f = none := by
  induction h with
  | nil => rfl
  | @cons k d' v fs ys h1 h2 ih =>
    by_cases q : (f == k) = true
    · rw [List.lookup_cons, q] at e
      simp at e
    · have q' : (f == k) = false := by simpa using q
      rw [List.lookup_cons, q'] at e ⊢
      exact ih e
theorem FRep.names {fs : List (κ × D)} {ys : List (κ × V)} (h : FRep K S fs ys) : ys.map (·.1) = fs.map (·.1) := by
  induction h with
  | nil => rfl
  | cons _ _ ih => simp [ih]
theorem FRep.vals {fs : List (κ × D)} {ys : List (κ × V)} (h : FRep K S fs ys) : Reps K S (fs.map (·.2)) (ys.map (·.2)) := by
  induction h with
  | nil => exact Reps.nil
  | cons h1 _ ih => exact .cons h1 ih
theorem FRep.of : ∀ {ns : List κ} {ds : List D} {ys : List (κ × V)}, ys.map (·.1) = ns → Reps K S ds (ys.map (·.2)) → FRep K S (ns.zip ds) ys
  | ns, [], [], h1, h2 => by
    simp at h1
    subst h1
    exact .nil
  | ns, d :: ds, [], h1, h2 => by
    obtain ⟨x, r, e, _, _⟩ := h2
    simp at e
  | ns, [], y :: ys, h1, h2 => by
    have e : List.map (·.2) (y :: ys) = [] := h2
    simp at e
  | ns, d :: ds, (k, v) :: ys, h1, h2 => by
    obtain ⟨x, r, e, h3, h4⟩ := h2
    simp at e
    obtain ⟨rfl, rfl⟩ := e
    subst h1
    have ih : FRep K S ((ys.map (·.1)).zip ds) ys := FRep.of rfl h4
    exact .cons h3 ih
/-- putF over data -/
def putD : Str → D → List (Str × D) → List (Str × D)
  | f, y, [] => [(f, y)]
  | f, y, (g, z) :: r => if g = f then (g, y) :: r else (g, z) :: putD f y r
end
section
variable {K : PySem.W.Frag} {S S' : Hp}
theorem FRep.put {f : Str} {d : D} {v : V} (hd : Rep K S d v) {fs : List (Str × D)} {ys : List (Str × V)} (h : FRep K S fs ys) : FRep K S (putD f d fs) (putF f v ys) := by
  induction h with
  | nil => exact .cons hd .nil
  | @cons k d' v' fs ys h1 h2 ih =>
    show FRep K S (if k = f then (k, d) :: fs else (k, d') :: putD f d fs) (if k = f then (k, v) :: ys else (k, v') :: putF f v ys)
    by_cases q : k = f
    · rw [if_pos q, if_pos q]
      exact .cons hd h2
    · rw [if_neg q, if_neg q]
      exact .cons h1 ih
theorem putD_len {f : Str} {d : D} : ∀ {fs : List (Str × D)}, (putD f d fs).length ≤ fs.length + 1
  | [] => Nat.le_refl _
  | (g, z) :: r => by
    show (if g = f then (g, d) :: r else (g, z) :: putD f d r).length ≤ _
    split
    · simp
    · have := putD_len (f := f) (d := d) (fs := r)
      simp
      omega
/-- an entry stored, over data -/
def putKD (kvs : List (Key × D)) (k : Key) (d : D) : List (Key × D) :=
  if (kvs.any fun kv => decide (kv.1 = k)) = true then kvs.map (fun kv => if kv.1 = k then (kv.1, d) else kv) else kvs ++ [(k, d)]
def getKD (kvs : List (Key × D)) (k : Key) : Option D := (kvs.find? fun kv => decide (kv.1 = k)).map (·.2)
theorem FRep.append {κ : Type} {fs gs : List (κ × D)} {ys zs : List (κ × V)} (h : FRep K S fs ys) (g : FRep K S gs zs) : FRep K S (fs ++ gs) (ys ++ zs) := by
  induction h with
  | nil => exact g
  | cons h1 _ ih => exact .cons h1 ih
theorem FRep.any {κ : Type} {fs : List (κ × D)} {ys : List (κ × V)} (h : FRep K S fs ys) (p : κ → Bool) : (fs.any fun kv => p kv.1) = ys.any fun kv => p kv.1 := by
  induction h with
  | nil => rfl
  | cons h1 _ ih => simp [ih]
theorem FRep.mapK {k : Key} {d : D} {v : V} (hd : Rep K S d v) {fs : List (Key × D)} {ys : List (Key × V)} (h : FRep K S fs ys) :
    FRep K S (fs.map fun kv => if kv.1 = k then (kv.1, d) else kv) (ys.map fun kv => if kv.1 = k then (kv.1, v) else kv) := by
  induction h with
  | nil => exact .nil
  | @cons k' d' v' fs ys h1 _ ih =>
    by_cases q : k' = k
    · simp only [List.map_cons, if_pos q]
      exact .cons hd ih
    · simp only [List.map_cons, if_neg q]
      exact .cons h1 ih
theorem FRep.putK {k : Key} {d : D} {v : V} (hd : Rep K S d v) {fs : List (Key × D)} {ys : List (Key × V)} (h : FRep K S fs ys) : FRep K S (putKD fs k d) (L2.putK ys k v) := by
  unfold putKD L2.putK
  rw [h.any fun z => decide (z = k)]
  by_cases q : (ys.any fun kv => decide (kv.1 = k)) = true
  · rw [if_pos q, if_pos q]
    exact h.mapK hd
  · rw [if_neg q, if_neg q]
    exact h.append (.cons hd .nil)
theorem FRep.getK {k : Key} {fs : List (Key × D)} {ys : List (Key × V)} (h : FRep K S fs ys) : (∀ d, getKD fs k = some d → ∃ v, valV ys k = some v ∧ Rep K S d v) ∧ (getKD fs k = none → valV ys k = none) := by
  induction h with
  | nil => exact ⟨fun d e => (by cases e), fun _ => rfl⟩
  | @cons k' d' v' fs ys h1 _ ih =>
    by_cases q : k' = k
    · have e1 : getKD ((k', d') :: fs) k = some d' := by simp [getKD, List.find?_cons, q]
      have e2 : valV ((k', v') :: ys) k = some v' := valV_pos q
      refine ⟨fun d e => ?_, fun e => ?_⟩
      · rw [e1] at e
        cases e
        exact ⟨v', e2, h1⟩
      · rw [e1] at e
        cases e
    · have e1 : getKD ((k', d') :: fs) k = getKD fs k := by simp [getKD, List.find?_cons, q]
      have e2 : valV ((k', v') :: ys) k = valV ys k := valV_neg q
      rw [e1, e2]
      exact ih
end

/-! ### the memory: mutable objects by their addresses -/
inductive MO where
  | lst (ds : List D)
  | ins (C : Addr) (fs : List (Str × D))
  | dk (kvs : List (Key × D))
abbrev Mem := Addr → Option MO
def mupd (m : Mem) (a : Addr) (o : MO) : Mem := fun b => if b = a then some o else m b
def mdel (m : Mem) (a : Addr) : Mem := fun b => if b = a then none else m b
theorem mupd_same {m : Mem} {a : Addr} {o : MO} : mupd m a o a = some o := if_pos rfl
theorem mupd_ne {m : Mem} {a b : Addr} {o : MO} (h : b ≠ a) : mupd m a o b = m b := if_neg h
theorem mupd_upd {m : Mem} {a : Addr} {o u : MO} : mupd (mupd m a o) a u = mupd m a u := by
  funext b
  unfold mupd
  split <;> rfl
theorem mdel_upd {m : Mem} {a : Addr} {o : MO} (h : m a = none) : mdel (mupd m a o) a = m := by
  funext b
  unfold mdel mupd
  by_cases e : b = a
  · rw [if_pos e, e, h]
  · rw [if_neg e, if_neg e]
theorem mdel_updC {m : Mem} {a c : Addr} {o : MO} (h : c ≠ a) : mdel (mupd m a o) c = mupd (mdel m c) a o := by
  funext b
  show (if b = c then none else if b = a then some o else m b) = if b = a then some o else if b = c then none else m b
  by_cases e : b = c
  · have e2 : ¬ b = a := fun q => h (e.symm.trans q)
    rw [if_pos e, if_neg e2, if_pos e]
  · rw [if_neg e, if_neg e]
theorem mupd_comm {m : Mem} {a b : Addr} {o u : MO} (h : a ≠ b) : mupd (mupd m a o) b u = mupd (mupd m b u) a o := by
  funext c
  unfold mupd
  by_cases e : c = b
  · rw [if_pos e]
    by_cases e2 : c = a
    · exact absurd (e2.symm.trans e) h
    · rw [if_neg e2, if_pos e]
  · rw [if_neg e, if_neg e]

def MObj (K : PySem.W.Frag) (S : Hp) (ho : Option HO) : MO → Prop
  | .lst ds => ∃ xs, ho = some (.lst xs) ∧ Reps K S ds xs
  | .ins C fs => ∃ dx ys, ho = some (.ins C dx ys) ∧ FRep K S fs ys
  | .dk kvs => ∃ ys, ho = some (.dK ys) ∧ FRep K S kvs ys
def MRep (K : PySem.W.Frag) (S H : Hp) (m : Mem) : Prop := ∀ a o, m a = some o → S a = none ∧ MObj K S (H a) o

section
variable {K : PySem.W.Frag} {S S' S1 S2 H H' H1 H2 : Hp} {m m' m1 m2 : Mem}
theorem MObj.mono {ho : Option HO} {o : MO} (e : Same S S') (h : MObj K S ho o) : MObj K S' ho o := by
  cases o with
  | lst ds =>
    obtain ⟨xs, h1, h2⟩ := h
    exact ⟨xs, h1, h2.mono e⟩
  | ins C fs =>
    obtain ⟨dx, ys, h1, h2⟩ := h
    exact ⟨dx, ys, h1, h2.mono e⟩
  | dk kvs =>
    obtain ⟨ys, h1, h2⟩ := h
    exact ⟨ys, h1, h2.mono e⟩
theorem MObj.some {ho : Option HO} {o : MO} (h : MObj K S ho o) : ∃ u, ho = some u := by
  cases o with
  | lst ds => exact ⟨_, h.choose_spec.1⟩
  | ins C fs => exact ⟨_, h.choose_spec.choose_spec.1⟩
  | dk kvs => exact ⟨_, h.choose_spec.1⟩
theorem MRep.here (h : MRep K S H m) {a : Addr} {o : MO} (e : m a = some o) : ∃ u, H a = some u := (h a o e).2.some
theorem MRep.free (h : MRep K S H m) {a : Addr} (e : H a = none) : m a = none := by
  cases q : m a with
  | none => rfl
  | some o =>
    obtain ⟨u, hu⟩ := h.here q
    rw [e] at hu
    cases hu

/-- what a run changes: S grows, all that is not in the memory stays, what is new is new -/
structure Step (K : PySem.W.Frag) (S H : Hp) (m : Mem) (S' H' : Hp) (m' : Mem) : Prop where
  ss : Same S S'
  sh : Same S' H'
  fr : ∀ b o, H b = some o → m b = none → H' b = some o
  gr : ∀ b, H' b = none → H b = none
  nw : ∀ b o, S' b = some o → S b = some o ∨ H b = none ∨ m b ≠ none
  mr : MRep K S' H' m'
  dm : ∀ b, m' b ≠ none → m b ≠ none ∨ H b = none
theorem Step.refl (e : Same S H) (h : MRep K S H m) : Step K S H m S H m :=
  ⟨Same.refl S, e, fun _ _ q _ => q, fun _ q => q, fun _ _ q => .inl q, h, fun _ q => .inl q⟩
theorem Step.trans (a : Step K S H m S1 H1 m1) (b : Step K S1 H1 m1 S2 H2 m2) : Step K S H m S2 H2 m2 where
  ss := a.ss.trans b.ss
  sh := b.sh
  fr := fun c o q n => by
    refine b.fr c o (a.fr c o q n) ?_
    cases z : m1 c with
    | none => rfl
    | some u =>
      rcases a.dm c (by rw [z]; exact fun w => nomatch w) with w | w
      · exact absurd n w
      · rw [q] at w
        cases w
  gr := fun c q => a.gr c (b.gr c q)
  nw := fun c o q => by
    rcases b.nw c o q with w | w | w
    · exact a.nw c o w
    · exact .inr (.inl (a.gr c w))
    · rcases a.dm c w with z | z
      · exact .inr (.inr z)
      · exact .inr (.inl z)
  mr := b.mr
  dm := fun c q => by
    rcases b.dm c q with w | w
    · exact a.dm c w
    · exact .inr (a.gr c w)
/-- a new object that stands still -/
theorem Step.still {p : Addr} {o : HO} (e : Same S H) (h : MRep K S H m) (hp : H p = none) : Step K S H m (upd S p o) (upd H p o) m where
  ss := fun b u q => by
    have hb : b ≠ p := fun z => by
      rw [z] at q
      rw [e p u q] at hp
      cases hp
    rw [upd_ne hb]
    exact q
  sh := fun b u q => by
    by_cases hb : b = p
    · rw [hb, upd_same] at q ⊢
      exact q
    · rw [upd_ne hb] at q ⊢
      exact e b u q
  fr := fun b u q _ => by
    rw [upd_ne (ne_of_none q hp)]
    exact q
  gr := fun b q => by
    by_cases hb : b = p
    · rw [hb]
      exact hp
    · rw [upd_ne hb] at q
      exact q
  nw := fun b u q => by
    by_cases hb : b = p
    · rw [hb]
      exact .inr (.inl hp)
    · rw [upd_ne hb] at q
      exact .inl q
  mr := fun a u q => by
    obtain ⟨h1, h2⟩ := h a u q
    obtain ⟨w, hw⟩ := h2.some
    have ha : a ≠ p := ne_of_none hw hp
    rw [upd_ne ha, upd_ne ha]
    refine ⟨h1, h2.mono fun b u q => ?_⟩
    have hb : b ≠ p := fun z => by
      rw [z] at q
      rw [e p u q] at hp
      cases hp
    rw [upd_ne hb]
    exact q
  dm := fun b q => .inl q
/-- a new mutable object -/
theorem Step.mut {p : Addr} {o : HO} {u : MO} (e : Same S H) (h : MRep K S H m) (hp : H p = none) (ho : MObj K S (some o) u) : Step K S H m S (upd H p o) (mupd m p u) where
  ss := Same.refl S
  sh := fun b u q => by
    have hb : b ≠ p := ne_of_none (e b u q) hp
    rw [upd_ne hb]
    exact e b u q
  fr := fun b u q _ => by
    rw [upd_ne (ne_of_none q hp)]
    exact q
  gr := fun b q => by
    by_cases hb : b = p
    · rw [hb]
      exact hp
    · rw [upd_ne hb] at q
      exact q
  nw := fun b u q => .inl q
  mr := fun a w q => by
    by_cases ha : a = p
    · rw [ha, mupd_same] at q
      cases q
      rw [ha, upd_same]
      refine ⟨?_, ho⟩
      cases z : S p with
      | none => rfl
      | some x =>
        rw [e p x z] at hp
        cases hp
    · rw [mupd_ne ha] at q
      rw [upd_ne ha]
      exact h a w q
  dm := fun b q => by
    by_cases hb : b = p
    · rw [hb]
      exact .inr hp
    · rw [mupd_ne hb] at q
      exact .inl q
/-- a mutable object written -/
theorem Step.write {p : Addr} {o : HO} {u v : MO} (e : Same S H) (h : MRep K S H m) (hp : m p = some v) (ho : MObj K S (some o) u) : Step K S H m S (upd H p o) (mupd m p u) where
  ss := Same.refl S
  sh := fun b w q => by
    have hb : b ≠ p := fun z => by
      rw [z, (h p v hp).1] at q
      cases q
    rw [upd_ne hb]
    exact e b w q
  fr := fun b w q n => by
    have hb : b ≠ p := fun z => by
      rw [z, hp] at n
      cases n
    rw [upd_ne hb]
    exact q
  gr := fun b q => by
    by_cases hb : b = p
    · rw [hb, upd_same] at q
      cases q
    · rw [upd_ne hb] at q
      exact q
  nw := fun b w q => .inl q
  mr := fun a w q => by
    by_cases ha : a = p
    · rw [ha, mupd_same] at q
      cases q
      rw [ha, upd_same]
      exact ⟨(h p v hp).1, ho⟩
    · rw [mupd_ne ha] at q
      rw [upd_ne ha]
      exact h a w q
  dm := fun b q => by
    by_cases hb : b = p
    · rw [hb, hp]
      exact .inl (fun z => nomatch z)
    · rw [mupd_ne hb] at q
      exact .inl q
/-- a mutable object stands still from now on -/
theorem Step.freeze {p : Addr} {o : HO} {v : MO} (e : Same S H) (h : MRep K S H m) (hp : m p = some v) (ho : H p = some o) : Step K S H m (upd S p o) H (mdel m p) where
  ss := fun b u q => by
    have hb : b ≠ p := fun z => by
      rw [z, (h p v hp).1] at q
      cases q
    rw [upd_ne hb]
    exact q
  sh := fun b u q => by
    by_cases hb : b = p
    · rw [hb, upd_same] at q
      rw [hb, ho]
      exact q
    · rw [upd_ne hb] at q
      exact e b u q
  fr := fun b u q _ => q
  gr := fun b q => q
  nw := fun b u q => by
    by_cases hb : b = p
    · rw [hb, hp]
      exact .inr (.inr fun z => nomatch z)
    · rw [upd_ne hb] at q
      exact .inl q
  mr := fun a u q => by
    by_cases ha : a = p
    · have z : mdel m p a = none := if_pos ha
      rw [z] at q
      cases q
    · have z : mdel m p a = m a := if_neg ha
      rw [z] at q
      obtain ⟨h1, h2⟩ := h a u q
      rw [upd_ne ha]
      refine ⟨h1, h2.mono fun b u q => ?_⟩
      have hb : b ≠ p := fun z => by
        rw [z, (h p v hp).1] at q
        cases q
      rw [upd_ne hb]
      exact q
  dm := fun b q => by
    by_cases hb : b = p
    · have z : mdel m p b = none := if_pos hb
      exact absurd z q
    · have z : mdel m p b = m b := if_neg hb
      rw [z] at q
      exact .inl q
end
end L3

/-! text L3b -/
set_option Elab.async false
set_option linter.all false
set_option maxRecDepth 100000
set_option maxHeartbeats 4000000
/-! L3b: the readings Sim over data: expressions, operators, tests, calls. -/
namespace L3
open PySem L2

abbrev DEnv := List (Option D)
def REnv (K : PySem.W.Frag) (S : Hp) (σ : L2.St) (ρ : DEnv) : Prop := σ.length = ρ.length ∧ ∀ (i : Nat) (d : D), ρ[i]? = some (some d) → ∃ v, σ[i]? = some (some v) ∧ Rep K S d v
theorem REnv.mono {K : PySem.W.Frag} {S S' : Hp} {σ : L2.St} {ρ : DEnv} (e : Same S S') (h : REnv K S σ ρ) : REnv K S' σ ρ :=
  ⟨h.1, fun i d q => let ⟨v, h1, h2⟩ := h.2 i d q; ⟨v, h1, h2.mono e⟩⟩
theorem REnv.set {K : PySem.W.Frag} {S : Hp} {σ : L2.St} {ρ : DEnv} {i : Nat} {d : D} {v : V} (h : REnv K S σ ρ) (hd : Rep K S d v) : REnv K S (σ.set i (some v)) (ρ.set i (some d)) := by
  refine ⟨by simp [h.1], fun j c q => ?_⟩
  by_cases e : i = j
  · subst e
    by_cases hi : i < ρ.length
    · rw [List.getElem?_set_self hi] at q
      cases q
      exact ⟨v, List.getElem?_set_self (by rw [h.1]; exact hi), hd⟩
    · rw [List.getElem?_eq_none (by simpa using hi)] at q
      cases q
  · rw [List.getElem?_set_ne e] at q ⊢
    exact h.2 j c q
/-- a slot forgotten -/
theorem REnv.drop {K : PySem.W.Frag} {S : Hp} {σ : L2.St} {ρ : DEnv} {i : Nat} (h : REnv K S σ ρ) : REnv K S (σ.set i none) (ρ.set i none) := by
  refine ⟨by simp [h.1], fun j c q => ?_⟩
  by_cases e : i = j
  · subst e
    by_cases hi : i < ρ.length
    · rw [List.getElem?_set_self hi] at q
      cases q
    · rw [List.getElem?_eq_none (by simpa using hi)] at q
      cases q
  · rw [List.getElem?_set_ne e] at q ⊢
    exact h.2 j c q

abbrev Post := D → Mem → Prop
def Sim (K : PySem.W.Frag) (t : TE) (ρ : DEnv) (m : Mem) (P : Post) : Prop :=
  ∀ (S H : Hp) (σ : L2.St), Same S H → MRep K S H m → REnv K S σ ρ → ∀ Q : VK, (∀ d m' v S' H', P d m' → Step K S H m S' H' m' → Rep K S' d v → Q v H') → t σ H Q
def SimT (K : PySem.W.Frag) (t : TT) (ρ : DEnv) (m : Mem) (P : Bool → Mem → Prop) : Prop :=
  ∀ (S H : Hp) (σ : L2.St), Same S H → MRep K S H m → REnv K S σ ρ → ∀ Q : Bool → Hp → Prop, (∀ b m' S' H', P b m' → Step K S H m S' H' m' → Q b H') → t σ H Q
def SimA (K : PySem.W.Frag) (t : TA) (ρ : DEnv) (m : Mem) (P : List D → Mem → Prop) : Prop :=
  ∀ (S H : Hp) (σ : L2.St), Same S H → MRep K S H m → REnv K S σ ρ → ∀ Q : List V → Hp → Prop, (∀ ds m' vs S' H', P ds m' → Step K S H m S' H' m' → Reps K S' ds vs → Q vs H') → t σ H Q
def SimO (K : PySem.W.Frag) (t : TO) (ρ : DEnv) (m : Mem) (P : Option Int → Mem → Prop) : Prop :=
  ∀ (S H : Hp) (σ : L2.St), Same S H → MRep K S H m → REnv K S σ ρ → ∀ Q : Option Int → Hp → Prop, (∀ o m' S' H', P o m' → Step K S H m S' H' m' → Q o H') → t σ H Q
/-- a two-place operation on data -/
def OpS (K : PySem.W.Frag) (r : R2) (x y : D) (m : Mem) (P : Post) : Prop :=
  ∀ (S H : Hp) (vx vy : V), Same S H → MRep K S H m → Rep K S x vx → Rep K S y vy → ∀ Q : VK, (∀ d m' v S' H', P d m' → Step K S H m S' H' m' → Rep K S' d v → Q v H') → r vx vy H Q
def UnS (K : PySem.W.Frag) (r : V → Hp → VK → Prop) (x : D) (m : Mem) (P : Post) : Prop :=
  ∀ (S H : Hp) (vx : V), Same S H → MRep K S H m → Rep K S x vx → ∀ Q : VK, (∀ d m' v S' H', P d m' → Step K S H m S' H' m' → Rep K S' d v → Q v H') → r vx H Q
def CallS (K : PySem.W.Frag) (r : List V → Hp → VK → Prop) (xs : List D) (m : Mem) (P : Post) : Prop :=
  ∀ (S H : Hp) (vs : List V), Same S H → MRep K S H m → Reps K S xs vs → ∀ Q : VK, (∀ d m' v S' H', P d m' → Step K S H m S' H' m' → Rep K S' d v → Q v H') → r vs H Q
def SlS (K : PySem.W.Frag) (r : V → Option Int → Option Int → Hp → VK → Prop) (x : D) (lo hi : Option Int) (m : Mem) (P : Post) : Prop :=
  ∀ (S H : Hp) (vx : V), Same S H → MRep K S H m → Rep K S x vx → ∀ Q : VK, (∀ d m' v S' H', P d m' → Step K S H m S' H' m' → Rep K S' d v → Q v H') → r vx lo hi H Q

section
variable {K : PySem.W.Frag} {ρ : DEnv} {m : Mem} {P : Post} {t ta tb tc : TE} {r r' : R2} {d x y : D}

theorem Sim.imp {P' : Post} (h : Sim K t ρ m P) (k : ∀ d m', P d m' → P' d m') : Sim K t ρ m P' := fun S H σ e M R Q hQ =>
  h S H σ e M R Q fun d m' v S' H' p st rd => hQ d m' v S' H' (k d m' p) st rd
theorem sim_var {i : Nat} (h : ρ[i]? = some (some d)) (p : P d m) : Sim K (tVar i) ρ m P := fun S H σ e M R Q hQ => by
  obtain ⟨v, hv, hr⟩ := R.2 i d h
  exact ⟨v, hv, hQ d m v S H p (Step.refl e M) hr⟩
theorem sim_int {n : Int} (p : P (.int n) m) : Sim K (tC (.int n)) ρ m P := fun S H σ e M R Q hQ => hQ _ m _ S H p (Step.refl e M) rfl
theorem sim_bl {b : Bool} (p : P (.bl b) m) : Sim K (tC (.bl b)) ρ m P := fun S H σ e M R Q hQ => hQ _ m _ S H p (Step.refl e M) rfl
theorem sim_str {s : Str} (p : P (.str s) m) : Sim K (tC (.str s)) ρ m P := fun S H σ e M R Q hQ => hQ _ m _ S H p (Step.refl e M) rfl
theorem sim_non (p : P .non m) : Sim K (tC .non) ρ m P := fun S H σ e M R Q hQ => hQ _ m _ S H p (Step.refl e M) rfl
/-- a constant of the module -/
theorem sim_c {v : V} (h : ∀ S, Rep K S d v) (p : P d m) : Sim K (tC v) ρ m P := fun S H σ e M R Q hQ => hQ d m v S H p (Step.refl e M) (h S)
theorem sim_op (h : Sim K ta ρ m fun x m1 => Sim K tb ρ m1 fun y m2 => OpS K r x y m2 P) : Sim K (tOp r ta tb) ρ m P := fun S H σ e M R Q hQ => by
  refine h S H σ e M R _ fun x m1 vx S1 H1 p1 st1 r1 => ?_
  refine p1 S1 H1 σ st1.sh st1.mr (R.mono st1.ss) _ fun y m2 vy S2 H2 p2 st2 r2 => ?_
  exact p2 S2 H2 vx vy st2.sh st2.mr (r1.mono st2.ss) r2 Q fun d m' v S' H' p st rd => hQ d m' v S' H' p ((st1.trans st2).trans st) rd
theorem sim_un {r : V → Hp → VK → Prop} (h : Sim K ta ρ m fun x m1 => UnS K r x m1 P) : Sim K (tUn r ta) ρ m P := fun S H σ e M R Q hQ => by
  refine h S H σ e M R _ fun x m1 vx S1 H1 p1 st1 r1 => ?_
  exact p1 S1 H1 vx st1.sh st1.mr r1 Q fun d m' v S' H' p st rd => hQ d m' v S' H' p (st1.trans st) rd
end
section
variable {K : PySem.W.Frag} {ρ : DEnv} {m : Mem} {P : Post} {PB : Bool → Mem → Prop} {t ta tb tc : TE} {u u1 u2 : TT} {r r' : R2} {d x y : D}
theorem simT_test (h : Sim K t ρ m fun x m1 => ∃ b, x = .bl b ∧ PB b m1) : SimT K (tTest t) ρ m PB := fun S H σ e M R Q hQ => by
  refine h S H σ e M R _ fun x m1 v S1 H1 p1 st1 r1 => ?_
  obtain ⟨b, rfl, pb⟩ := p1
  exact ⟨b, r1, hQ b m1 S1 H1 pb st1⟩
theorem simT_B (h : Sim K t ρ m fun x m1 => ∃ b, x = .bl b ∧ PB b m1) : SimT K (tB t) ρ m PB := simT_test h
theorem simT_not (h : SimT K u ρ m fun b m1 => PB (!b) m1) : SimT K (tNot u) ρ m PB := fun S H σ e M R Q hQ => by
  refine h S H σ e M R _ fun b m1 S1 H1 p1 st1 => ?_
  exact hQ _ m1 S1 H1 p1 st1
theorem simT_and (h : SimT K u1 ρ m fun b m1 => if b = true then SimT K u2 ρ m1 PB else PB false m1) : SimT K (tAnd u1 u2) ρ m PB := fun S H σ e M R Q hQ => by
  refine h S H σ e M R _ fun b m1 S1 H1 p1 st1 => ?_
  cases b with
  | true =>
    show (if true = true then u2 σ H1 Q else Q false H1)
    rw [if_pos rfl]
    exact p1 S1 H1 σ st1.sh st1.mr (R.mono st1.ss) Q fun b m' S' H' p st => hQ b m' S' H' p (st1.trans st)
  | false =>
    show (if false = true then u2 σ H1 Q else Q false H1)
    rw [if_neg Bool.false_ne_true]
    exact hQ false m1 S1 H1 p1 st1
theorem simT_or (h : SimT K u1 ρ m fun b m1 => if b = true then PB true m1 else SimT K u2 ρ m1 PB) : SimT K (tOr u1 u2) ρ m PB := fun S H σ e M R Q hQ => by
  refine h S H σ e M R _ fun b m1 S1 H1 p1 st1 => ?_
  cases b with
  | true =>
    show (if true = true then Q true H1 else u2 σ H1 Q)
    rw [if_pos rfl]
    exact hQ true m1 S1 H1 p1 st1
  | false =>
    show (if false = true then Q true H1 else u2 σ H1 Q)
    rw [if_neg Bool.false_ne_true]
    exact p1 S1 H1 σ st1.sh st1.mr (R.mono st1.ss) Q fun b m' S' H' p st => hQ b m' S' H' p (st1.trans st)
theorem sim_andV (h : Sim K ta ρ m fun x m1 => ∃ b, x = .bl b ∧ if b = true then Sim K tb ρ m1 P else P (.bl false) m1) : Sim K (tAndV ta tb) ρ m P := fun S H σ e M R Q hQ => by
  refine h S H σ e M R _ fun x m1 v S1 H1 p1 st1 r1 => ?_
  obtain ⟨b, rfl, pb⟩ := p1
  refine ⟨b, r1, ?_⟩
  cases b with
  | true =>
    rw [if_pos rfl] at pb ⊢
    exact pb S1 H1 σ st1.sh st1.mr (R.mono st1.ss) Q fun d m' v S' H' p st rd => hQ d m' v S' H' p (st1.trans st) rd
  | false =>
    rw [if_neg Bool.false_ne_true] at pb ⊢
    exact hQ _ m1 _ S1 H1 pb st1 rfl
theorem sim_orV (h : Sim K ta ρ m fun x m1 => ∃ b, x = .bl b ∧ if b = true then P (.bl true) m1 else Sim K tb ρ m1 P) : Sim K (tOrV ta tb) ρ m P := fun S H σ e M R Q hQ => by
  refine h S H σ e M R _ fun x m1 v S1 H1 p1 st1 r1 => ?_
  obtain ⟨b, rfl, pb⟩ := p1
  refine ⟨b, r1, ?_⟩
  cases b with
  | true =>
    rw [if_pos rfl] at pb ⊢
    exact hQ _ m1 _ S1 H1 pb st1 rfl
  | false =>
    rw [if_neg Bool.false_ne_true] at pb ⊢
    exact pb S1 H1 σ st1.sh st1.mr (R.mono st1.ss) Q fun d m' v S' H' p st rd => hQ d m' v S' H' p (st1.trans st) rd
theorem sim_notV (h : Sim K ta ρ m fun x m1 => ∃ b, x = .bl b ∧ P (.bl (!b)) m1) : Sim K (tNotV ta) ρ m P := fun S H σ e M R Q hQ => by
  refine h S H σ e M R _ fun x m1 v S1 H1 p1 st1 r1 => ?_
  obtain ⟨b, rfl, pb⟩ := p1
  exact ⟨b, r1, hQ _ m1 _ S1 H1 pb st1 rfl⟩
theorem sim_chain (h : Sim K ta ρ m fun x m1 => Sim K tb ρ m1 fun y m2 => OpS K r x y m2 fun z m3 => ∃ b, z = .bl b ∧ if b = true then Sim K tc ρ m3 fun w m4 => OpS K r' y w m4 P else P (.bl false) m3) : Sim K (tChain r r' ta tb tc) ρ m P := fun S H σ e M R Q hQ => by
  refine h S H σ e M R _ fun x m1 vx S1 H1 p1 st1 r1 => ?_
  refine p1 S1 H1 σ st1.sh st1.mr (R.mono st1.ss) _ fun y m2 vy S2 H2 p2 st2 r2 => ?_
  refine p2 S2 H2 vx vy st2.sh st2.mr (r1.mono st2.ss) r2 _ fun z m3 vz S3 H3 p3 st3 r3 => ?_
  obtain ⟨b, rfl, pb⟩ := p3
  refine ⟨b, r3, ?_⟩
  have st13 := (st1.trans st2).trans st3
  cases b with
  | true =>
    rw [if_pos rfl] at pb ⊢
    refine pb S3 H3 σ st3.sh st3.mr (R.mono st13.ss) _ fun w m4 vw S4 H4 p4 st4 r4 => ?_
    exact p4 S4 H4 vy vw st4.sh st4.mr (r2.mono (st3.ss.trans st4.ss)) r4 Q fun d m' v S' H' p st rd => hQ d m' v S' H' p ((st13.trans st4).trans st) rd
  | false =>
    rw [if_neg Bool.false_ne_true] at pb ⊢
    exact hQ _ m3 _ S3 H3 pb st13 rfl

/-! ### operators -/
theorem ops_or_l {r1 r2 : R2} (h : OpS K r1 x y m P) : OpS K (fun x y H Q => r1 x y H Q ∨ r2 x y H Q) x y m P := fun S H vx vy e M hx hy Q hQ => .inl (h S H vx vy e M hx hy Q hQ)
theorem ops_or_r {r1 r2 : R2} (h : OpS K r2 x y m P) : OpS K (fun x y H Q => r1 x y H Q ∨ r2 x y H Q) x y m P := fun S H vx vy e M hx hy Q hQ => .inr (h S H vx vy e M hx hy Q hQ)
theorem ops_I0 {g : Int → Int → Int} {i j : Int} (p : P (.int (g i j)) m) : OpS K (rI0 fun i j => .int (g i j)) (.int i) (.int j) m P := fun S H vx vy e M hx hy Q hQ => by
  cases hx
  cases hy
  exact ⟨i, j, rfl, rfl, hQ _ m _ S H p (Step.refl e M) rfl⟩
theorem ops_B0 {g : Int → Int → Bool} {i j : Int} (p : P (.bl (g i j)) m) : OpS K (rI0 fun i j => .bl (g i j)) (.int i) (.int j) m P := fun S H vx vy e M hx hy Q hQ => by
  cases hx
  cases hy
  exact ⟨i, j, rfl, rfl, hQ _ m _ S H p (Step.refl e M) rfl⟩
theorem ops_I {C : Int → Int → Prop} {g : Int → Int → Int} {i j : Int} (hc : C i j) (p : P (.int (g i j)) m) : OpS K (rI C fun i j => .int (g i j)) (.int i) (.int j) m P := fun S H vx vy e M hx hy Q hQ => by
  cases hx
  cases hy
  exact ⟨i, j, rfl, rfl, hc, hQ _ m _ S H p (Step.refl e M) rfl⟩
theorem uns_I {g : Int → Int} {i : Int} (p : P (.int (g i)) m) : UnS K (rU fun i => .int (g i)) (.int i) m P := fun S H vx e M hx Q hQ => by
  cases hx
  exact ⟨i, rfl, hQ _ m _ S H p (Step.refl e M) rfl⟩
abbrev rAddS : R2 := fun x y H Q => ∃ i j, x = .str i ∧ y = .str j ∧ i.length + j.length ≤ sizeLine ∧ Q (.str (i ++ j)) H
theorem ops_addS {i j : Str} (hl : i.length + j.length ≤ sizeLine) (p : P (.str (i ++ j)) m) : OpS K rAddS (.str i) (.str j) m P := fun S H vx vy e M hx hy Q hQ => by
  cases hx
  cases hy
  exact ⟨i, j, rfl, rfl, hl, hQ _ m _ S H p (Step.refl e M) rfl⟩
/-- scalars: none, a truth, an int, a text -/
def scV : D → Option V
  | .non => some .non
  | .bl b => some (.bl b)
  | .int i => some (.int i)
  | .str s => some (.str s)
  | _ => none
theorem rep_sc {S : Hp} {d : D} {v w : V} (h : scV d = some v) (r : Rep K S d w) : w = v := by
  cases d with
  | non =>
    cases h
    exact r
  | bl b =>
    cases h
    exact r
  | int i =>
    cases h
    exact r
  | str s =>
    cases h
    exact r
  | _ => cases h
theorem ops_eqS {vx vy : V} (hx : scV x = some vx) (hy : scV y = some vy) (hs : scal vx vy = true) (p : P (.bl (decide (vx = vy))) m) : OpS K rEq x y m P := fun S H wx wy e M rx ry Q hQ => by
  have e1 := rep_sc hx rx
  have e2 := rep_sc hy ry
  subst e1 e2
  exact ⟨hs, hQ _ m _ S H p (Step.refl e M) rfl⟩
theorem ops_neS {vx vy : V} (hx : scV x = some vx) (hy : scV y = some vy) (hs : scal vx vy = true) (p : P (.bl (!decide (vx = vy))) m) : OpS K rNe x y m P := fun S H wx wy e M rx ry Q hQ => by
  have e1 := rep_sc hx rx
  have e2 := rep_sc hy ry
  subst e1 e2
  exact ⟨hs, hQ _ m _ S H p (Step.refl e M) rfl⟩
/-- is None, of anything -/
def isNonD : D → Bool
  | .non => true
  | _ => false
theorem rep_non {S : Hp} {d : D} {v : V} (r : Rep K S d v) : decide (v = .non) = isNonD d := by
  cases d with
  | non =>
    cases r
    rfl
  | bl b =>
    cases r
    rfl
  | int i =>
    cases r
    rfl
  | str s =>
    cases r
    rfl
  | ptr a =>
    cases r
    rfl
  | ty n =>
    cases r
    rfl
  | tup ds =>
    obtain ⟨p, xs, rfl, _⟩ := r
    rfl
  | lst ds =>
    obtain ⟨p, xs, rfl, _⟩ := r
    rfl
  | obj C ns ds =>
    obtain ⟨p, dx, ys, rfl, _⟩ := r
    rfl
abbrev rIsN : R2 := fun x y H Q => y = .non ∧ Q (.bl (decide (x = .non))) H
abbrev rNotN : R2 := fun x y H Q => y = .non ∧ Q (.bl (!decide (x = .non))) H
theorem ops_isN (p : P (.bl (isNonD x)) m) : OpS K rIsN x .non m P := fun S H wx wy e M rx ry Q hQ => by
  cases ry
  refine ⟨rfl, ?_⟩
  rw [rep_non rx]
  exact hQ _ m _ S H p (Step.refl e M) rfl
theorem ops_notN (p : P (.bl (!isNonD x)) m) : OpS K rNotN x .non m P := fun S H wx wy e M rx ry Q hQ => by
  cases ry
  refine ⟨rfl, ?_⟩
  rw [rep_non rx]
  exact hQ _ m _ S H p (Step.refl e M) rfl

/-! ### lists and tuples of data -/
/-- a list: plain data, or a mutable one of the memory -/
def LstAt (m : Mem) (d : D) (ds : List D) : Prop := d = .lst ds ∨ ∃ a, d = .ptr a ∧ m a = some (.lst ds)
theorem LstAt.val {ds : List D} : LstAt m (.lst ds) ds := .inl rfl
theorem LstAt.mut {a : Addr} {ds : List D} (h : m a = some (.lst ds)) : LstAt m (.ptr a) ds := .inr ⟨a, rfl, h⟩
theorem LstAt.rep {S H : Hp} {ds : List D} {v : V} (h : LstAt m d ds) (e : Same S H) (M : MRep K S H m) (r : Rep K S d v) : ∃ p xs, v = .ref p ∧ SqL K H p xs ∧ Reps K S ds xs := by
  rcases h with rfl | ⟨a, rfl, h⟩
  · obtain ⟨p, xs, rfl, h1, h2⟩ := r
    exact ⟨p, xs, rfl, e.seq h1, h2⟩
  · obtain ⟨h1, xs, h2, h3⟩ := M a _ h
    have r' : v = .ref a := r
    exact ⟨a, xs, r', SqL.of h2, h3⟩
theorem tup_rep {S H : Hp} {ds : List D} {v : V} (e : Same S H) (r : Rep K S (.tup ds) v) : ∃ p xs, v = .ref p ∧ SqT K H p xs ∧ Reps K S ds xs := by
  obtain ⟨p, xs, rfl, h1, h2⟩ := r
  exact ⟨p, xs, rfl, sqT_mono e h1, h2⟩
/-- a list or a tuple -/
def SeqD (m : Mem) (d : D) (ds : List D) : Prop := LstAt m d ds ∨ d = .tup ds
theorem SeqD.rep {S H : Hp} {ds : List D} {v : V} (h : SeqD m d ds) (e : Same S H) (M : MRep K S H m) (r : Rep K S d v) : ∃ p xs, v = .ref p ∧ (SqL K H p xs ∨ SqT K H p xs) ∧ Reps K S ds xs := by
  rcases h with h | rfl
  · obtain ⟨p, xs, e1, h1, h2⟩ := h.rep e M r
    exact ⟨p, xs, e1, .inl h1, h2⟩
  · obtain ⟨p, xs, e1, h1, h2⟩ := tup_rep e r
    exact ⟨p, xs, e1, .inr h1, h2⟩
theorem Reps.atI {S : Hp} {ds : List D} {xs : List V} {i : Int} (h : Reps K S ds xs) (e : atI ds i = some d) : ∃ v, L2.atI xs i = some v ∧ Rep K S d v := by
  unfold L2.atI at e ⊢
  rw [← h.len]
  cases q : ixN ds.length i with
  | none =>
    rw [q] at e
    cases e
  | some j =>
    rw [q] at e
    exact h.get e
theorem ops_ixL {ds : List D} {i : Int} (hl : LstAt m x ds) (hi : atI ds i = some d) (p : P d m) : OpS K (rIxL K) x (.int i) m P := fun S H vx vy e M hx hy Q hQ => by
  cases hy
  obtain ⟨p', xs, rfl, h1, h2⟩ := hl.rep e M hx
  obtain ⟨v, h3, h4⟩ := h2.atI hi
  exact ⟨p', xs, i, v, rfl, rfl, h1, h3, hQ d m v S H p (Step.refl e M) h4⟩
theorem ops_ixT {ds : List D} {i : Int} (hi : atI ds i = some d) (p : P d m) : OpS K (rIxT K) (.tup ds) (.int i) m P := fun S H vx vy e M hx hy Q hQ => by
  cases hy
  obtain ⟨p', xs, rfl, h1, h2⟩ := tup_rep e hx
  obtain ⟨v, h3, h4⟩ := h2.atI hi
  exact ⟨p', xs, i, v, rfl, rfl, h1, h3, hQ d m v S H p (Step.refl e M) h4⟩
theorem ops_ixS {z : Str} {i : Int} {c : Nat} (hz : z.length ≤ sizeLine) (hi : atI z.cps.toList i = some c) (p : P (.str ⟨#[c]⟩) m) : OpS K rIxS (.str z) (.int i) m P := fun S H vx vy e M hx hy Q hQ => by
  cases hx
  cases hy
  exact ⟨z, i, c, rfl, rfl, hz, hi, hQ _ m _ S H p (Step.refl e M) rfl⟩
theorem ops_ixL' {ds : List D} {i : Int} (hl : LstAt m x ds) (hi : atI ds i = some d) (p : P d m) : OpS K (rIx K) x (.int i) m P := ops_or_l (ops_ixL hl hi p)
theorem ops_ixT' {ds : List D} {i : Int} (hi : atI ds i = some d) (p : P d m) : OpS K (rIx K) (.tup ds) (.int i) m P := ops_or_r (ops_or_l (ops_ixT hi p))
theorem ops_ixS' {z : Str} {i : Int} {c : Nat} (hz : z.length ≤ sizeLine) (hi : atI z.cps.toList i = some c) (p : P (.str ⟨#[c]⟩) m) : OpS K (rIx K) (.str z) (.int i) m P := ops_or_r (ops_or_r (ops_ixS hz hi p))
end
end L3

/-! text L3c -/
set_option Elab.async false
set_option linter.all false
set_option maxRecDepth 100000
set_option maxHeartbeats 4000000
/-! L3c: arguments, displays, fields, calls of defs and methods, makes, slices, statements, loops, comprehensions. -/
namespace L3
open PySem L2

/-- a def's contract: arguments, memory, what is wanted behind -/
abbrev Ctr := List D → Mem → Post → Prop
/-- the promise of the layer below -/
def spOf (K : PySem.W.Frag) (C : Ctr) : Sp := fun vs H Q _ => ∃ S m ds P, Same S H ∧ MRep K S H m ∧ Reps K S ds vs ∧ C ds m P ∧ ∀ d m' v S' H', P d m' → Step K S H m S' H' m' → Rep K S' d v → Q v H'

section
variable {K : PySem.W.Frag} {ρ : DEnv} {m : Mem} {P : Post} {PB : Bool → Mem → Prop} {t ta tb te : TE} {tr : TA} {d x y : D} {C : Addr} {f : Str}

/-! ### arguments, displays -/
theorem simA_nil {PA : List D → Mem → Prop} (p : PA [] m) : SimA K tNil ρ m PA := fun S H σ e M R Q hQ => hQ [] m [] S H p (Step.refl e M) Reps.nil
theorem simA_cons {PA : List D → Mem → Prop} (h : Sim K ta ρ m fun x m1 => SimA K tr ρ m1 fun xs m2 => PA (x :: xs) m2) : SimA K (tCons ta tr) ρ m PA := fun S H σ e M R Q hQ => by
  refine h S H σ e M R _ fun x m1 v S1 H1 p1 st1 r1 => ?_
  refine p1 S1 H1 σ st1.sh st1.mr (R.mono st1.ss) _ fun xs m2 vs S2 H2 p2 st2 r2 => ?_
  exact hQ _ m2 _ S2 H2 p2 (st1.trans st2) (.cons (r1.mono st2.ss) r2)
theorem sz_of {n : Nat} (h : n ≤ 100000) : n ≤ sizeLine := Nat.le_trans h (by decide)
theorem sim_tup (h : SimA K tr ρ m fun ds m1 => ds.length ≤ 100000 ∧ P (.tup ds) m1) : Sim K (tTup tr) ρ m P := fun S H σ e M R Q hQ => by
  refine h S H σ e M R _ fun ds m1 vs S1 H1 p1 st1 r1 => ?_
  refine ⟨by rw [← r1.len]; exact sz_of p1.1, fun p hp => ?_⟩
  have st2 := Step.still (o := .tup vs) st1.sh st1.mr hp
  exact hQ _ m1 _ _ _ p1.2 (st1.trans st2) ⟨p, vs, rfl, .inl (.inl upd_same), r1.mono st2.ss⟩
theorem sim_lst (h : SimA K tr ρ m fun ds m1 => ds.length ≤ 100000 ∧ P (.lst ds) m1) : Sim K (tLst tr) ρ m P := fun S H σ e M R Q hQ => by
  refine h S H σ e M R _ fun ds m1 vs S1 H1 p1 st1 r1 => ?_
  refine ⟨by rw [← r1.len]; exact sz_of p1.1, fun p hp => ?_⟩
  have st2 := Step.still (o := .lst vs) st1.sh st1.mr hp
  exact hQ _ m1 _ _ _ p1.2 (st1.trans st2) ⟨p, vs, rfl, .inl (.inl upd_same), r1.mono st2.ss⟩
/-- a list that will change -/
theorem sim_lstM (h : SimA K tr ρ m fun ds m1 => ds.length ≤ 100000 ∧ ∀ a, m1 a = none → P (.ptr a) (mupd m1 a (.lst ds))) : Sim K (tLst tr) ρ m P := fun S H σ e M R Q hQ => by
  refine h S H σ e M R _ fun ds m1 vs S1 H1 p1 st1 r1 => ?_
  refine ⟨by rw [← r1.len]; exact sz_of p1.1, fun p hp => ?_⟩
  have st2 := Step.mut (o := .lst vs) (u := .lst ds) st1.sh st1.mr hp ⟨vs, rfl, r1⟩
  exact hQ _ _ _ _ _ (p1.2 p (st1.mr.free hp)) (st1.trans st2) rfl

/-! ### attributes -/
theorem sim_fld (h : Sim K ta ρ m fun x m1 => ∃ a C fs d, x = .ptr a ∧ m1 a = some (.ins C fs) ∧ Cls K C ∧ NoAttr K C f ∧ fs.lookup f = some d ∧ P d m1) : Sim K (tFld K ta f) ρ m P := fun S H σ e M R Q hQ => by
  refine h S H σ e M R _ fun x m1 v S1 H1 p1 st1 r1 => ?_
  obtain ⟨a, C, fs, d, rfl, hm, hc, hn, hl, hp⟩ := p1
  obtain ⟨_, dx, ys, h1, h2⟩ := st1.mr a _ hm
  obtain ⟨w, hw, rw'⟩ := h2.lookup hl
  exact ⟨a, C, dx, ys, w, r1, h1, hc, hn, hw, hQ d m1 w S1 H1 hp st1 rw'⟩
theorem sim_fldO (h : Sim K ta ρ m fun x m1 => ∃ C ns ds d, x = .obj C ns ds ∧ Cls K C ∧ NoAttr K C f ∧ (ns.zip ds).lookup f = some d ∧ P d m1) : Sim K (tFld K ta f) ρ m P := fun S H σ e M R Q hQ => by
  refine h S H σ e M R _ fun x m1 v S1 H1 p1 st1 r1 => ?_
  obtain ⟨C, ns, ds, d, rfl, hc, hn, hl, hp⟩ := p1
  obtain ⟨a, dx, ys, rfl, h1, h2, h3⟩ := r1
  obtain ⟨w, hw, rw'⟩ := (FRep.of h2 h3).lookup hl
  exact ⟨a, C, dx, ys, w, rfl, st1.sh _ _ h1, hc, hn, hw, hQ d m1 w S1 H1 hp st1 rw'⟩

/-! ### calls -/
theorem sim_call {c : Ctr} {E : XK} (h : SimA K tr ρ m fun ds m1 => c ds m1 P) : Sim K (tCall (spOf K c) [] E tr) ρ m P := fun S H σ e M R Q hQ => by
  refine h S H σ e M R _ fun ds m1 vs S1 H1 p1 st1 r1 => ?_
  rw [List.append_nil]
  exact ⟨S1, m1, ds, P, st1.sh, st1.mr, r1, p1, fun d m' v S' H' p st rd => hQ d m' v S' H' p (st1.trans st) rd⟩
theorem sim_callB {r : List V → Hp → VK → Prop} (h : SimA K tr ρ m fun ds m1 => CallS K r ds m1 P) : Sim K (tCB r tr) ρ m P := fun S H σ e M R Q hQ => by
  refine h S H σ e M R _ fun ds m1 vs S1 H1 p1 st1 r1 => ?_
  exact p1 S1 H1 vs st1.sh st1.mr r1 Q fun d m' v S' H' p st rd => hQ d m' v S' H' p (st1.trans st) rd
/-- o.m(..), o a mutable instance -/
theorem sim_meth {mn : Str} {c : Ctr} {E : XK} (h : Sim K ta ρ m fun x m1 => ∃ a fs, x = .ptr a ∧ m1 a = some (.ins C fs) ∧ fs.lookup mn = none ∧ SimA K tr ρ m1 fun ds m2 => c (x :: ds) m2 P) : Sim K (tMeth C mn (spOf K c) [] E ta tr) ρ m P := fun S H σ e M R Q hQ => by
  refine h S H σ e M R _ fun x m1 v S1 H1 p1 st1 r1 => ?_
  obtain ⟨a, fs, rfl, hm, hn, hp⟩ := p1
  obtain ⟨_, dx, ys, h1, h2⟩ := st1.mr a _ hm
  refine ⟨a, dx, ys, r1, h1, h2.lookup_none hn, ?_⟩
  refine hp S1 H1 σ st1.sh st1.mr (R.mono st1.ss) _ fun ds m2 vs S2 H2 p2 st2 r2 => ?_
  rw [List.append_nil]
  exact ⟨S2, m2, _, P, st2.sh, st2.mr, .cons (r1.mono st2.ss) r2, p2, fun d m' v S' H' p st rd => hQ d m' v S' H' p ((st1.trans st2).trans st) rd⟩
/-- .. o an instance that stands still -/
theorem sim_methO {mn : Str} {c : Ctr} {E : XK} (h : Sim K ta ρ m fun x m1 => ∃ ns dd, x = .obj C ns dd ∧ (ns.zip dd).lookup mn = none ∧ SimA K tr ρ m1 fun ds m2 => c (x :: ds) m2 P) : Sim K (tMeth C mn (spOf K c) [] E ta tr) ρ m P := fun S H σ e M R Q hQ => by
  refine h S H σ e M R _ fun x m1 v S1 H1 p1 st1 r1 => ?_
  obtain ⟨ns, dd, rfl, hn, hp⟩ := p1
  have r1' := r1
  obtain ⟨a, dx, ys, rfl, h1, h2, h3⟩ := r1
  refine ⟨a, dx, ys, rfl, st1.sh _ _ h1, (FRep.of h2 h3).lookup_none hn, ?_⟩
  refine hp S1 H1 σ st1.sh st1.mr (R.mono st1.ss) _ fun ds m2 vs S2 H2 p2 st2 r2 => ?_
  rw [List.append_nil]
  exact ⟨S2, m2, _, P, st2.sh, st2.mr, .cons (r1'.mono st2.ss) r2, p2, fun d m' v S' H' p st rd => hQ d m' v S' H' p ((st1.trans st2).trans st) rd⟩
/-- two new objects laid: an instance and its dict -/
theorem Step.inst {S H : Hp} {x dx : Addr} (e : Same S H) (M : MRep K S H m) (hx : H x = none) (hd : H dx = none) (ne : dx ≠ x) :
    Step K S H m S (upd (upd H dx (.own x)) x (.ins C dx [])) (mupd m x (.ins C [])) where
  ss := Same.refl S
  sh := fun b u q => by
    rw [upd_ne (ne_of_none (e b u q) hx), upd_ne (ne_of_none (e b u q) hd)]
    exact e b u q
  fr := fun b u q _ => by
    rw [upd_ne (ne_of_none q hx), upd_ne (ne_of_none q hd)]
    exact q
  gr := fun b q => by
    by_cases hb : b = x
    · rw [hb]
      exact hx
    · rw [upd_ne hb] at q
      by_cases hb2 : b = dx
      · rw [hb2]
        exact hd
      · rw [upd_ne hb2] at q
        exact q
  nw := fun b u q => .inl q
  mr := fun a w q => by
    by_cases ha : a = x
    · rw [ha, mupd_same] at q
      cases q
      rw [ha, upd_same]
      refine ⟨?_, dx, [], rfl, .nil⟩
      cases z : S x with
      | none => rfl
      | some u =>
        rw [e x u z] at hx
        cases hx
    · rw [mupd_ne ha] at q
      obtain ⟨u, hu⟩ := M.here q
      rw [upd_ne ha, upd_ne (ne_of_none hu hd)]
      exact M a w q
  dm := fun b q => by
    by_cases hb : b = x
    · rw [hb]
      exact .inr hx
    · rw [mupd_ne hb] at q
      exact .inl q
theorem sim_make {c : Ctr} {E : XK} (h : SimA K tr ρ m fun ds m1 => ∀ a, m1 a = none → c (.ptr a :: ds) (mupd m1 a (.ins C [])) fun d m2 => d = .non ∧ P (.ptr a) m2) : Sim K (tMake C (spOf K c) [] E tr) ρ m P := fun S H σ e M R Q hQ => by
  refine h S H σ e M R _ fun ds m1 vs S1 H1 p1 st1 r1 => ?_
  intro x dx hx hd ne
  have st2 := Step.inst (C := C) st1.sh st1.mr hx hd ne
  rw [List.append_nil]
  refine ⟨S1, _, _, _, st2.sh, st2.mr, Reps.cons (show Rep K S1 (.ptr x) (.ref x) from rfl) r1, p1 x (st1.mr.free hx), fun d m' v S' H' p st rd => ?_⟩
  obtain ⟨rfl, p⟩ := p
  exact ⟨rd, hQ _ m' _ S' H' p ((st1.trans st2).trans st) rfl⟩
/-- a mutable object of the result stands still from here on -/
theorem sim_frzI (h : Sim K t ρ m fun d m1 => ∃ a C fs, d = .ptr a ∧ m1 a = some (.ins C fs) ∧ P (.obj C (fs.map (·.1)) (fs.map (·.2))) (mdel m1 a)) : Sim K t ρ m P := fun S H σ e M R Q hQ => by
  refine h S H σ e M R _ fun d m1 v S1 H1 p1 st1 r1 => ?_
  obtain ⟨a, C, fs, rfl, hm, hp⟩ := p1
  obtain ⟨_, dx, ys, h1, h2⟩ := st1.mr a _ hm
  have st2 := Step.freeze st1.sh st1.mr hm h1
  exact hQ _ _ _ _ _ hp (st1.trans st2) ⟨a, dx, ys, r1, upd_same, h2.names, h2.vals.mono st2.ss⟩
theorem sim_frzL (h : Sim K t ρ m fun d m1 => ∃ a ds, d = .ptr a ∧ m1 a = some (.lst ds) ∧ P (.lst ds) (mdel m1 a)) : Sim K t ρ m P := fun S H σ e M R Q hQ => by
  refine h S H σ e M R _ fun d m1 v S1 H1 p1 st1 r1 => ?_
  obtain ⟨a, ds, rfl, hm, hp⟩ := p1
  obtain ⟨_, xs, h1, h2⟩ := st1.mr a _ hm
  have st2 := Step.freeze st1.sh st1.mr hm h1
  exact hQ _ _ _ _ _ hp (st1.trans st2) ⟨a, xs, r1, .inl (.inl upd_same), h2.mono st2.ss⟩

/-! ### slices -/
theorem simO_none {PO : Option Int → Mem → Prop} (p : PO none m) : SimO K tNoPart ρ m PO := fun S H σ e M R Q hQ => hQ none m S H p (Step.refl e M)
theorem simO_some {PO : Option Int → Mem → Prop} (h : Sim K t ρ m fun x m1 => ∃ i, x = .int i ∧ PO (some i) m1) : SimO K (tPart t) ρ m PO := fun S H σ e M R Q hQ => by
  refine h S H σ e M R _ fun x m1 v S1 H1 p1 st1 r1 => ?_
  obtain ⟨i, rfl, hp⟩ := p1
  exact ⟨i, r1, hQ _ m1 S1 H1 hp st1⟩
theorem sim_sl {r : V → Option Int → Option Int → Hp → VK → Prop} {tl th : TO} (h : Sim K te ρ m fun x m1 => SimO K tl ρ m1 fun lo m2 => SimO K th ρ m2 fun hi m3 => SlS K r x lo hi m3 P) : Sim K (tSl r te tl th) ρ m P := fun S H σ e M R Q hQ => by
  refine h S H σ e M R _ fun x m1 v S1 H1 p1 st1 r1 => ?_
  refine p1 S1 H1 σ st1.sh st1.mr (R.mono st1.ss) _ fun lo m2 S2 H2 p2 st2 => ?_
  refine p2 S2 H2 σ st2.sh st2.mr (R.mono (st1.ss.trans st2.ss)) _ fun hi m3 S3 H3 p3 st3 => ?_
  exact p3 S3 H3 v st3.sh st3.mr (r1.mono (st2.ss.trans st3.ss)) Q fun d m' v S' H' p st rd => hQ d m' v S' H' p (((st1.trans st2).trans st3).trans st) rd
theorem sls_str {z : Str} {lo hi : Option Int} (hz : z.length ≤ sizeLine) (p : P (.str (cutS z lo hi)) m) : SlS K rSlS (.str z) lo hi m P := fun S H vx e M hx Q hQ => by
  cases hx
  exact ⟨z, rfl, hz, hQ _ m _ S H p (Step.refl e M) rfl⟩
def cutD (ds : List D) (lo hi : Option Int) : List D := (ds.drop (HT.sIx ds.length 0 lo)).take (HT.sIx ds.length ds.length hi - HT.sIx ds.length 0 lo)
theorem Reps.cut {S : Hp} {ds : List D} {xs : List V} (h : Reps K S ds xs) (lo hi : Option Int) : Reps K S (cutD ds lo hi) (cutV xs lo hi) := by
  unfold cutD cutV
  rw [h.len]
  exact (h.drop _).take _
theorem sls_lst {ds : List D} {lo hi : Option Int} (hl : LstAt m x ds) (p : P (.lst (cutD ds lo hi)) m) : SlS K (rSlL K) x lo hi m P := fun S H vx e M hx Q hQ => by
  obtain ⟨a, xs, rfl, h1, h2⟩ := hl.rep e M hx
  refine ⟨a, xs, rfl, h1, fun p' hp => ?_⟩
  have st2 := Step.still (o := .lst (cutV xs lo hi)) e M hp
  exact hQ _ m _ _ _ p st2 ⟨p', _, rfl, .inl (.inl upd_same), (h2.cut lo hi).mono st2.ss⟩
theorem cut_all {ds : List D} {lo hi : Option Int} (h1 : HT.sIx ds.length 0 lo = 0) (h2 : HT.sIx ds.length ds.length hi = ds.length) : cutD ds lo hi = ds := by
  unfold cutD
  rw [h1, h2]
  simp
theorem sls_tup {ds : List D} {lo hi : Option Int} (p : P (.tup (cutD ds lo hi)) m) : SlS K (rSlA K) (.tup ds) lo hi m P := fun S H vx e M hx Q hQ => by
  have hx' := hx
  obtain ⟨a, xs, rfl, h1, h2⟩ := tup_rep e hx
  refine ⟨a, xs, rfl, h1, fun hw => ?_, fun hw p' hp => ?_⟩
  · rw [← h2.len] at hw
    rw [cut_all hw.1 hw.2] at p
    exact hQ _ m _ S H p (Step.refl e M) hx'
  · have st2 := Step.still (o := .tup (cutV xs lo hi)) e M hp
    exact hQ _ m _ _ _ p st2 ⟨p', _, rfl, .inl (.inl upd_same), (h2.cut lo hi).mono st2.ss⟩
end

/-! ### statements -/
structure AEnds where
  nx : DEnv → Mem → Prop
  rt : Post
  bk : DEnv → Mem → Prop := fun _ _ => False
  ct : DEnv → Mem → Prop := fun _ _ => False
/-- what the ends below are to do for the abstract ends -/
structure MeetsA (K : PySem.W.Frag) (S H : Hp) (m : Mem) (A : AEnds) (D : Ends) : Prop where
  nx : ∀ ρ' m' S' H' σ', A.nx ρ' m' → Step K S H m S' H' m' → REnv K S' σ' ρ' → D.nx σ' H'
  rt : ∀ d m' v S' H', A.rt d m' → Step K S H m S' H' m' → Rep K S' d v → D.rt v H'
  bk : ∀ ρ' m' S' H' σ', A.bk ρ' m' → Step K S H m S' H' m' → REnv K S' σ' ρ' → D.bk σ' H'
  ct : ∀ ρ' m' S' H' σ', A.ct ρ' m' → Step K S H m S' H' m' → REnv K S' σ' ρ' → D.ct σ' H'
theorem MeetsA.step {K : PySem.W.Frag} {S H S1 H1 : Hp} {m m1 : Mem} {A : AEnds} {D : Ends} (h : MeetsA K S H m A D) (st : Step K S H m S1 H1 m1) : MeetsA K S1 H1 m1 A D :=
  ⟨fun ρ' m' S' H' σ' p st' R => h.nx ρ' m' S' H' σ' p (st.trans st') R, fun d m' v S' H' p st' r => h.rt d m' v S' H' p (st.trans st') r,
    fun ρ' m' S' H' σ' p st' R => h.bk ρ' m' S' H' σ' p (st.trans st') R, fun ρ' m' S' H' σ' p st' R => h.ct ρ' m' S' H' σ' p (st.trans st') R⟩
def SimS (K : PySem.W.Frag) (t : TS) (ρ : DEnv) (m : Mem) (A : AEnds) : Prop :=
  ∀ (S H : Hp) (σ : L2.St), Same S H → MRep K S H m → REnv K S σ ρ → ∀ D : Ends, MeetsA K S H m A D → t D σ H
section
variable {K : PySem.W.Frag} {ρ : DEnv} {m : Mem} {A : AEnds} {ta tb te : TE} {tt : TT} {t u : TS} {tr : TA} {C : Addr} {f : Str}
theorem simS_next (p : A.nx ρ m) : SimS K tNext ρ m A := fun S H σ e M R D hD => hD.nx ρ m S H σ p (Step.refl e M) R
theorem simS_seq (h : SimS K t ρ m { A with nx := fun ρ1 m1 => SimS K u ρ1 m1 A }) : SimS K (tSeq t u) ρ m A := fun S H σ e M R D hD => by
  refine h S H σ e M R { D with nx := u D } ⟨fun ρ' m' S' H' σ' p st R' => ?_, hD.rt, hD.bk, hD.ct⟩
  exact p S' H' σ' st.sh st.mr R' D (hD.step st)
theorem simS_ret (h : Sim K te ρ m A.rt) : SimS K (tRet te) ρ m A := fun S H σ e M R D hD => h S H σ e M R _ fun d m' v S' H' p st r => hD.rt d m' v S' H' p st r
theorem simS_retN (h : A.rt .non m) : SimS K tRetN ρ m A := fun S H σ e M R D hD => hD.rt .non m .non S H h (Step.refl e M) rfl
theorem simS_if (h : SimT K tt ρ m fun b m1 => if b = true then SimS K t ρ m1 A else SimS K u ρ m1 A) : SimS K (tIfS tt t u) ρ m A := fun S H σ e M R D hD => by
  refine h S H σ e M R _ fun b m1 S1 H1 p1 st1 => ?_
  cases b with
  | true =>
    rw [if_pos rfl] at p1 ⊢
    exact p1 S1 H1 σ st1.sh st1.mr (R.mono st1.ss) D (hD.step st1)
  | false =>
    rw [if_neg Bool.false_ne_true] at p1 ⊢
    exact p1 S1 H1 σ st1.sh st1.mr (R.mono st1.ss) D (hD.step st1)
theorem simS_set {i : Nat} (h : Sim K te ρ m fun d m1 => A.nx (ρ.set i (some d)) m1) : SimS K (tAsg te (gName i)) ρ m A := fun S H σ e M R D hD => by
  refine h S H σ e M R _ fun d m1 v S1 H1 p1 st1 r1 => ?_
  exact hD.nx _ m1 S1 H1 _ p1 st1 ((R.mono st1.ss).set r1)
theorem simS_drop (h : Sim K te ρ m fun _ m1 => A.nx ρ m1) : SimS K (tDrop te) ρ m A := fun S H σ e M R D hD => by
  refine h S H σ e M R _ fun d m1 v S1 H1 p1 st1 r1 => ?_
  exact hD.nx _ m1 S1 H1 _ p1 st1 (R.mono st1.ss)
theorem simS_never (h : False) : SimS K tNever ρ m A := h.elim
theorem simS_cont (h : A.ct ρ m) : SimS K tCont ρ m A := fun S H σ e M R D hD => hD.ct ρ m S H σ h (Step.refl e M) R
/-- o.f = e -/
theorem simS_fld {tv : TE} (h : Sim K tv ρ m fun d m1 => Sim K ta ρ m1 fun x m2 => ∃ a C fs, x = .ptr a ∧ m2 a = some (.ins C fs) ∧ Cls K C ∧ NoAttr K C f ∧ fs.length < 1000 ∧ A.nx ρ (mupd m2 a (.ins C (putD f d fs)))) : SimS K (sFld K ta tv f) ρ m A := fun S H σ e M R D hD => by
  refine h S H σ e M R _ fun d m1 v S1 H1 p1 st1 r1 => ?_
  refine p1 S1 H1 σ st1.sh st1.mr (R.mono st1.ss) _ fun x m2 w S2 H2 p2 st2 r2 => ?_
  obtain ⟨a, C, fs, rfl, hm, hc, hn, hl, hp⟩ := p2
  obtain ⟨_, dx, ys, h1, h2⟩ := st2.mr a _ hm
  have st3 : Step K S2 H2 m2 S2 (upd H2 a (.ins C dx (putF f v ys))) (mupd m2 a (.ins C (putD f d fs))) := Step.write st2.sh st2.mr hm ⟨dx, _, rfl, h2.put (r1.mono st2.ss)⟩
  exact ⟨a, C, dx, ys, r2, h1, hc, hn, by rw [← h2.len]; exact hl, hD.nx _ _ S2 _ σ hp ((st1.trans st2).trans st3) (R.mono ((st1.ss.trans st2.ss).trans st3.ss))⟩
/-- d[k] = e, d a mutable dict -/
def keyOf : D → Option Key
  | .int i => some (.inl i)
  | .str s => some (.inr s)
  | _ => none
theorem rep_key {S : Hp} {d : D} {k : Key} {v : V} (h : keyOf d = some k) (r : Rep K S d v) : v = kV k := by
  cases d with
  | int i =>
    cases h
    exact r
  | str s =>
    cases h
    exact r
  | _ => cases h
theorem simS_dput {td ty tv : TE} (h : Sim K tv ρ m fun d m1 => Sim K td ρ m1 fun x m2 => Sim K ty ρ m2 fun y m3 => ∃ a kvs k, x = .ptr a ∧ keyOf y = some k ∧ m3 a = some (.dk kvs) ∧ kvs.length < 1000 ∧ A.nx ρ (mupd m3 a (.dk (putKD kvs k d)))) :
    SimS K (sDPut td ty tv) ρ m A := fun S H σ e M R D hD => by
  refine h S H σ e M R _ fun d m1 v S1 H1 p1 st1 r1 => ?_
  refine p1 S1 H1 σ st1.sh st1.mr (R.mono st1.ss) _ fun x m2 w S2 H2 p2 st2 r2 => ?_
  refine p2 S2 H2 σ st2.sh st2.mr (R.mono (st1.ss.trans st2.ss)) _ fun y m3 z S3 H3 p3 st3 r3 => ?_
  obtain ⟨a, kvs, k, rfl, hk, hm, hl, hp⟩ := p3
  obtain ⟨_, ys, h1, h2⟩ := st3.mr a _ hm
  have ez := rep_key hk r3
  subst ez
  have st4 : Step K S3 H3 m3 S3 (upd H3 a (.dK (putK ys k v))) (mupd m3 a (.dk (putKD kvs k d))) := Step.write st3.sh st3.mr hm ⟨_, rfl, h2.putK (r1.mono (st2.ss.trans st3.ss))⟩
  have hly : ys.length < sizeLine := by
    rw [← h2.len]
    exact Nat.lt_of_lt_of_le hl (by decide)
  exact ⟨a, _, r2, DPut.k h1 hly, hD.nx _ _ S3 _ σ hp (((st1.trans st2).trans st3).trans st4) (R.mono (((st1.ss.trans st2.ss).trans st3.ss).trans st4.ss))⟩
/-- d[k] -/
theorem sim_dget {td ty : TE} {P : Post} (h : Sim K td ρ m fun x m1 => Sim K ty ρ m1 fun y m2 => ∃ a kvs k d, x = .ptr a ∧ keyOf y = some k ∧ m2 a = some (.dk kvs) ∧ getKD kvs k = some d ∧ P d m2) : Sim K (tDGet td ty) ρ m P := fun S H σ e M R Q hQ => by
  refine h S H σ e M R _ fun x m1 v S1 H1 p1 st1 r1 => ?_
  refine p1 S1 H1 σ st1.sh st1.mr (R.mono st1.ss) _ fun y m2 w S2 H2 p2 st2 r2 => ?_
  obtain ⟨a, kvs, k, d, rfl, hk, hm, hg, hp⟩ := p2
  obtain ⟨_, ys, h1, h2⟩ := st2.mr a _ hm
  have ez := rep_key hk r2
  subst ez
  obtain ⟨u, hu, ru⟩ := h2.getK.1 d hg
  exact ⟨a, u, r1, hu ▸ DGet.k h1, hQ d m2 u S2 H2 hp (st1.trans st2) ru⟩
end
end L3

/-! text L3d -/
set_option Elab.async false
set_option linter.all false
set_option maxRecDepth 100000
set_option maxHeartbeats 4000000
/-! L3d: what is walked; for loops, list comprehensions. -/
namespace L3
open PySem L2

/-! ### targets -/
/-- a target takes x; ts: the slots it stores -/
def SimG (K : PySem.W.Frag) (g : TG) (ts : List Nat) (x : D) (ρ : DEnv) (m : Mem) (PG : DEnv → Mem → Prop) : Prop :=
  ∀ (S H : Hp) (σ : L2.St) (v : V), Same S H → MRep K S H m → REnv K S σ ρ → Rep K S x v → ∀ Q : L2.St → Hp → Prop,
    (∀ ρ' m' σ' S' H', PG ρ' m' → Step K S H m S' H' m' → REnv K S' σ' ρ' → (∀ vs : List Nat, (∀ i ∈ ts, i ∈ vs) → wipe σ' vs = wipe σ vs) → Q σ' H') → g v σ H Q
theorem wipe_get (σ : L2.St) (j : Nat) : ∀ vs : List Nat, (wipe σ vs)[j]? = if j ∈ vs then σ[j]?.map (fun _ => none) else σ[j]?
  | [] => by simp [wipe]
  | v :: vs => by
    unfold wipe
    by_cases h : v = j
    · subst h
      by_cases hv : v < σ.length
      · rw [List.getElem?_set_self (by rw [wipe_length]; exact hv)]
        simp [List.getElem?_eq_getElem hv]
      · rw [List.getElem?_eq_none (by rw [List.length_set, wipe_length]; omega), List.getElem?_eq_none (by omega)]
        simp
    · rw [List.getElem?_set_ne h, wipe_get σ j vs]
      have e : (j ∈ v :: vs) ↔ j ∈ vs := by
        constructor
        · intro q
          rcases List.mem_cons.mp q with q | q
          · exact absurd q.symm h
          · exact q
        · exact List.mem_cons_of_mem _
      by_cases q : j ∈ vs
      · rw [if_pos q, if_pos (e.mpr q)]
      · rw [if_neg q, if_neg (fun z => q (e.mp z))]
theorem wipe_set {σ : L2.St} {i : Nat} {o : Option V} {vs : List Nat} (h : i ∈ vs) : wipe (σ.set i o) vs = wipe σ vs := by
  apply List.ext_getElem?
  intro j
  rw [wipe_get, wipe_get]
  by_cases e : i = j
  · subst e
    rw [if_pos h, if_pos h]
    by_cases hi : i < σ.length
    · rw [List.getElem?_set_self hi, List.getElem?_eq_getElem hi]
      rfl
    · rw [List.getElem?_eq_none (by rw [List.length_set]; omega), List.getElem?_eq_none (by omega)]
  · rw [List.getElem?_set_ne e]
theorem wipe_wipe {σ : L2.St} {vs : List Nat} : wipe (wipe σ vs) vs = wipe σ vs := by
  apply List.ext_getElem?
  intro j
  rw [wipe_get, wipe_get]
  by_cases e : j ∈ vs
  · rw [if_pos e, if_pos e]
    cases σ[j]? <;> rfl
  · rw [if_neg e, if_neg e]
def wipeD (ρ : DEnv) : List Nat → DEnv
  | [] => ρ
  | v :: vs => (wipeD ρ vs).set v none
section
variable {K : PySem.W.Frag} {ρ : DEnv} {m : Mem} {x y : D}
theorem REnv.wipe {S : Hp} {σ : L2.St} (h : REnv K S σ ρ) : ∀ vs : List Nat, REnv K S (L2.wipe σ vs) (wipeD ρ vs)
  | [] => h
  | v :: vs => (REnv.wipe h vs).drop
theorem simG_name {i : Nat} {PG : DEnv → Mem → Prop} (p : PG (ρ.set i (some x)) m) : SimG K (gName i) [i] x ρ m PG := fun S H σ v e M R r Q hQ =>
  hQ _ m _ S H p (Step.refl e M) (R.set r) fun vs hv => wipe_set (hv i (by simp))
/-- a, b of a pair -/
theorem simG_pair {i j : Nat} {PG : DEnv → Mem → Prop} (p : PG ((ρ.set i (some x)).set j (some y)) m) : SimG K (gTup K 2 (gCons (gName i) (gCons (gName j) gNil))) [i, j] (.tup [x, y]) ρ m PG := fun S H σ v e M R r Q hQ => by
  obtain ⟨a, xs, rfl, h1, h2⟩ := tup_rep e r
  obtain ⟨v1, r1, rfl, q1, v2, r2, rfl, q2, q3⟩ := h2
  have q3 : r2 = [] := q3
  subst q3
  refine ⟨a, _, rfl, h1, rfl, v1, _, rfl, v2, _, rfl, rfl, ?_⟩
  exact hQ _ m _ S H p (Step.refl e M) ((R.set q1).set q2) fun vs hv => by rw [wipe_set (hv j (by simp)), wipe_set (hv i (by simp))]
/-- a, b, c of a triple -/
theorem simG_triple {i j k : Nat} {z : D} {PG : DEnv → Mem → Prop} (p : PG (((ρ.set i (some x)).set j (some y)).set k (some z)) m) : SimG K (gTup K 3 (gCons (gName i) (gCons (gName j) (gCons (gName k) gNil)))) [i, j, k] (.tup [x, y, z]) ρ m PG := fun S H σ v e M R r Q hQ => by
  obtain ⟨a, xs, rfl, h1, h2⟩ := tup_rep e r
  obtain ⟨v1, r1, rfl, q1, v2, r2, rfl, q2, v3, r3, rfl, q3, q4⟩ := h2
  have q4 : r3 = [] := q4
  subst q4
  refine ⟨a, _, rfl, h1, rfl, v1, _, rfl, v2, _, rfl, v3, _, rfl, rfl, ?_⟩
  exact hQ _ m _ S H p (Step.refl e M) (((R.set q1).set q2).set q3) fun vs hv => by rw [wipe_set (hv k (by simp)), wipe_set (hv j (by simp)), wipe_set (hv i (by simp))]
theorem simS_asg {te : TE} {g : TG} {ts : List Nat} {A : AEnds} (h : Sim K te ρ m fun x m1 => SimG K g ts x ρ m1 A.nx) : SimS K (tAsg te g) ρ m A := fun S H σ e M R D hD => by
  refine h S H σ e M R _ fun x m1 v S1 H1 p1 st1 r1 => ?_
  refine p1 S1 H1 σ v st1.sh st1.mr (R.mono st1.ss) r1 _ fun ρ' m' σ' S' H' p st R' _ => ?_
  exact hD.nx ρ' m' S' H' σ' p (st1.trans st) R'
/-- xs[i] = e, xs a mutable list -/
theorem simG_sub {to ti : TE} {PG : DEnv → Mem → Prop} (h : Sim K to ρ m fun o m1 => Sim K ti ρ m1 fun i m2 => ∃ (a : Addr) (ds : List D) (n : Int) (j : Nat), o = .ptr a ∧ i = .int n ∧ m2 a = some (.lst ds) ∧ ixN ds.length n = some j ∧ PG ρ (mupd m2 a (.lst (ds.set j x)))) : SimG K (gSub to ti rSetL) [] x ρ m PG := fun S H σ v e M R r Q hQ => by
  refine h S H σ e M R _ fun o m1 vo S1 H1 p1 st1 r1 => ?_
  refine p1 S1 H1 σ st1.sh st1.mr (R.mono st1.ss) _ fun i m2 vi S2 H2 p2 st2 r2 => ?_
  obtain ⟨a, ds, n, j, rfl, rfl, hm, hj, hp⟩ := p2
  obtain ⟨_, xs, h1, h2⟩ := st2.mr a _ hm
  have st3 : Step K S2 H2 m2 S2 (upd H2 a (.lst (xs.set j v))) (mupd m2 a (.lst (ds.set j x))) := Step.write st2.sh st2.mr hm ⟨_, rfl, h2.set (r.mono (st1.ss.trans st2.ss)) j⟩
  refine ⟨a, xs, n, j, r1, r2, h1, by rw [← h2.len]; exact hj, ?_⟩
  exact hQ _ _ σ S2 _ hp ((st1.trans st2).trans st3) (R.mono ((st1.ss.trans st2.ss).trans st3.ss)) fun _ _ => rfl

/-! ### what is walked -/
/-- the iterator J gives ds, while I holds of the memory -/
def ItS (K : PySem.W.Frag) (S0 : Hp) (J : It) (I : Mem → Prop) (ds : List D) : Prop :=
  ∀ (S H : Hp) (m : Mem), Same S0 S → Same S H → MRep K S H m → I m → (∀ i, i < ds.length → J.go i H) ∧ J.stop ds.length H ∧
    ∀ (i : Nat) (x : V) (H' : Hp), i < ds.length → J.yld i H x H' → ∃ d S', ds[i]? = some d ∧ Step K S H m S' H' m ∧ Rep K S' d x
theorem ItS.mono {S0 S1 : Hp} {J : It} {I : Mem → Prop} {ds : List D} (e : Same S0 S1) (h : ItS K S0 J I ds) : ItS K S1 J I ds := fun S H m a b c d => h S H m (e.trans a) b c d
def SimI (K : PySem.W.Frag) (wi : TI) (ρ : DEnv) (m : Mem) (PI : List D → (Mem → Prop) → Mem → Prop) : Prop :=
  ∀ (S H : Hp) (σ : L2.St), Same S H → MRep K S H m → REnv K S σ ρ → ∀ R : It → Hp → Prop,
    (∀ ds I m' S' H' J, PI ds I m' → Step K S H m S' H' m' → ItS K S' J I ds → R J H') → wi σ H R
theorem itS_list {S0 : Hp} {a : Addr} {ds : List D} {I : Mem → Prop} (h : ∀ S H m, Same S0 S → Same S H → MRep K S H m → I m → ∃ xs, SqL K H a xs ∧ Reps K S ds xs) : ItS K S0 (Itl K a) I ds := fun S H m e0 e M hI => by
  obtain ⟨xs, h1, h2⟩ := h S H m e0 e M hI
  refine ⟨fun i hi => ?_, ⟨xs, h1, by rw [h2.len]; exact Nat.le_refl _⟩, fun i x H' hi y => ?_⟩
  · have hi' : i < xs.length := by rw [← h2.len]; exact hi
    exact ⟨xs, xs[i], h1, List.getElem?_eq_getElem hi'⟩
  · obtain ⟨rfl, hy⟩ := y
    have q := hy xs h1
    obtain ⟨v, hv, rv⟩ := h2.get (List.getElem?_eq_getElem hi)
    rw [q] at hv
    cases hv
    exact ⟨_, S, List.getElem?_eq_getElem hi, Step.refl e M, rv⟩
theorem itS_tup {S0 : Hp} {a : Addr} {ds : List D} {I : Mem → Prop} (h : ∀ S H m, Same S0 S → Same S H → MRep K S H m → I m → ∃ xs, SqT K H a xs ∧ Reps K S ds xs) : ItS K S0 (Itt K a) I ds := fun S H m e0 e M hI => by
  obtain ⟨xs, h1, h2⟩ := h S H m e0 e M hI
  refine ⟨fun i hi => ?_, ⟨xs, h1, by rw [h2.len]; exact Nat.le_refl _⟩, fun i x H' hi y => ?_⟩
  · have hi' : i < xs.length := by rw [← h2.len]; exact hi
    exact ⟨xs, xs[i], h1, List.getElem?_eq_getElem hi'⟩
  · obtain ⟨rfl, hy⟩ := y
    have q := hy xs h1
    obtain ⟨v, hv, rv⟩ := h2.get (List.getElem?_eq_getElem hi)
    rw [q] at hv
    cases hv
    exact ⟨_, S, List.getElem?_eq_getElem hi, Step.refl e M, rv⟩
theorem itS_range {S0 : Hp} {lo : Int} {n : Nat} : ItS K S0 (Itr lo n) (fun _ => True) ((List.range n).map fun i : Nat => D.int (lo + (i : Int))) := fun S H m e0 e M _ => by
  refine ⟨fun i hi => ?_, ?_, fun i x H' hi y => ?_⟩
  · show i < n
    simpa using hi
  · show n ≤ _
    simp
  · obtain ⟨rfl, rfl⟩ := y
    have hi' : i < n := by simpa using hi
    refine ⟨.int (lo + (i : Int)), S, ?_, Step.refl e M, rfl⟩
    simp [hi']
/-- how a list's or a tuple's iterator is had for data -/
theorem LstAt.keeps {S0 : Hp} {ds : List D} {v : V} (h : LstAt m x ds) (r : Rep K S0 x v) : ∃ a, v = .ref a ∧ ∀ S H m', Same S0 S → Same S H → MRep K S H m' → LstAt m' x ds → ∃ xs, SqL K H a xs ∧ Reps K S ds xs := by
  rcases h with rfl | ⟨a, rfl, _⟩
  · obtain ⟨a, xs, rfl, h1, h2⟩ := r
    exact ⟨a, rfl, fun S H m' e0 e M _ => ⟨xs, (e0.trans e).seq h1, h2.mono e0⟩⟩
  · have r' : v = .ref a := r
    refine ⟨a, r', fun S H m' e0 e M h' => ?_⟩
    rcases h' with z | ⟨b, z, hm⟩
    · cases z
    · cases z
      obtain ⟨_, xs, h1, h2⟩ := M a _ hm
      exact ⟨xs, SqL.of h1, h2⟩
theorem simI_list {tl : TE} {PI : List D → (Mem → Prop) → Mem → Prop} (h : Sim K tl ρ m fun x m1 => ∃ ds, LstAt m1 x ds ∧ PI ds (fun m' => LstAt m' x ds) m1) : SimI K (iList K tl) ρ m PI := fun S H σ e M R Q hQ => by
  refine h S H σ e M R _ fun x m1 v S1 H1 p1 st1 r1 => ?_
  obtain ⟨ds, hl, hp⟩ := p1
  obtain ⟨a, rfl, hk⟩ := hl.keeps r1
  refine ⟨a, rfl, ?_, hQ _ _ _ _ _ _ hp st1 (itS_list hk)⟩
  obtain ⟨xs, h1, _⟩ := hk S1 H1 m1 (Same.refl S1) st1.sh st1.mr hl
  exact ⟨xs, h1⟩
theorem simI_tup {tl : TE} {PI : List D → (Mem → Prop) → Mem → Prop} (h : Sim K tl ρ m fun x m1 => ∃ ds, x = .tup ds ∧ PI ds (fun _ => True) m1) : SimI K (iTup K tl) ρ m PI := fun S H σ e M R Q hQ => by
  refine h S H σ e M R _ fun x m1 v S1 H1 p1 st1 r1 => ?_
  obtain ⟨ds, rfl, hp⟩ := p1
  obtain ⟨a, xs, rfl, h1, h2⟩ := r1
  exact ⟨a, rfl, ⟨xs, sqT_mono st1.sh h1⟩, hQ _ _ _ _ _ _ hp st1 (itS_tup fun S H m' e0 e M _ => ⟨xs, sqT_mono (e0.trans e) h1, h2.mono e0⟩)⟩
theorem simI_rng1 {ta : TA} {PI : List D → (Mem → Prop) → Mem → Prop} (h : SimA K ta ρ m fun xs m1 => ∃ n : Nat, xs = [.int n] ∧ n ≤ 100000 ∧ PI ((List.range n).map fun i : Nat => D.int (i : Int)) (fun _ => True) m1) : SimI K (iRng1 ta) ρ m PI := fun S H σ e M R Q hQ => by
  refine h S H σ e M R _ fun xs m1 vs S1 H1 p1 st1 r1 => ?_
  obtain ⟨n, rfl, hn, hp⟩ := p1
  obtain ⟨v, r, rfl, q1, q2⟩ := r1
  have q2 : r = [] := q2
  subst q2
  have q1 : v = .int n := q1
  subst q1
  refine ⟨n, rfl, by omega, by omega, ?_⟩
  have it := itS_range (K := K) (S0 := S1) (lo := 0) (n := n)
  have e1 : ((List.range n).map fun i : Nat => D.int (0 + (i : Int))) = (List.range n).map fun i : Nat => D.int (i : Int) := by
    apply List.map_congr_left
    intro i _
    rw [Int.zero_add]
  rw [e1] at it
  exact hQ _ _ _ _ _ _ hp st1 it
theorem simI_rng2 {ta : TA} {PI : List D → (Mem → Prop) → Mem → Prop} (h : SimA K ta ρ m fun xs m1 => ∃ a b : Nat, xs = [.int a, .int b] ∧ a ≤ 100000 ∧ b ≤ 100000 ∧ PI ((List.range (b - a)).map fun i : Nat => D.int ((a : Int) + (i : Int))) (fun _ => True) m1) : SimI K (iRng2 ta) ρ m PI := fun S H σ e M R Q hQ => by
  refine h S H σ e M R _ fun xs m1 vs S1 H1 p1 st1 r1 => ?_
  obtain ⟨a, b, rfl, ha, hb, hp⟩ := p1
  obtain ⟨v, r, rfl, q1, w, r', rfl, q2, q3⟩ := r1
  have q3 : r' = [] := q3
  subst q3
  have q1 : v = .int a := q1
  have q2 : w = .int b := q2
  subst q1 q2
  refine ⟨a, b, rfl, ⟨by omega, by omega, by omega, by omega⟩, ?_⟩
  have it := itS_range (K := K) (S0 := S1) (lo := (a : Int)) (n := ((b : Int) - (a : Int)).toNat)
  have en : ((b : Int) - (a : Int)).toNat = b - a := by omega
  rw [en] at it ⊢
  exact hQ _ _ _ _ _ _ hp st1 it

/-! ### for -/
theorem simS_for {wi : TI} {g : TG} {ts : List Nat} {tb : TS} {A : AEnds} (h : SimI K wi ρ m fun ds I m1 => ∃ W : Nat → DEnv → Mem → Prop, W 0 ρ m1 ∧ (∀ i ρ' m', i ≤ ds.length → W i ρ' m' → I m') ∧
      (∀ i d ρ' m', ds[i]? = some d → W i ρ' m' → SimG K g ts d ρ' m' fun ρ2 m2 => SimS K tb ρ2 m2 { A with nx := W (i + 1), ct := W (i + 1), bk := A.nx }) ∧ ∀ ρ' m', W ds.length ρ' m' → A.nx ρ' m') :
    SimS K (tFor wi g tb) ρ m A := fun S H σ e M R D hD => by
  refine h S H σ e M R _ fun ds I m1 S1 H1 J p1 st1 it => ?_
  obtain ⟨W, w0, hI, hs, hd⟩ := p1
  refine ⟨fun i n σ' H' => n = ds.length - i ∧ i ≤ ds.length ∧ ∃ ρ' m' S', W i ρ' m' ∧ Step K S H m S' H' m' ∧ Same S1 S' ∧ REnv K S' σ' ρ', ⟨_, rfl, Nat.zero_le _, ρ, m1, S1, w0, st1, Same.refl S1, R.mono st1.ss⟩, ?_⟩
  rintro i n σ' H' ⟨rfl, hi, ρ', m', S', w, st, e1, R'⟩
  obtain ⟨goes, stops, yields⟩ := it S' H' m' e1 st.sh st.mr (hI i ρ' m' hi w)
  by_cases hlt : i < ds.length
  · refine .inr ⟨goes i hlt, fun σ2 H2 => i + 1 ≤ ds.length ∧ ∃ ρ2 m2 S2, W (i + 1) ρ2 m2 ∧ Step K S H m S2 H2 m2 ∧ Same S1 S2 ∧ REnv K S2 σ2 ρ2, fun σ2 H2 q => ⟨ds.length - (i + 1), by omega, rfl, q.1, q.2⟩, fun x H2 y => ?_⟩
    obtain ⟨d, S2, hd', st2, rx⟩ := yields i x H2 hlt y
    refine hs i d ρ' m' hd' w S2 H2 σ' x st2.sh st2.mr (R'.mono st2.ss) rx _ fun ρ3 m3 σ3 S3 H3 p3 st3 R3 _ => ?_
    have st03 := (st.trans st2).trans st3
    refine p3 S3 H3 σ3 st3.sh st3.mr R3 _ ⟨fun ρ4 m4 S4 H4 σ4 p4 st4 R4 => ?_, fun d4 m4 v4 S4 H4 p4 st4 r4 => ?_, fun ρ4 m4 S4 H4 σ4 p4 st4 R4 => ?_, fun ρ4 m4 S4 H4 σ4 p4 st4 R4 => ?_⟩
    · exact ⟨hlt, ρ4, m4, S4, p4, st03.trans st4, ((e1.trans st2.ss).trans st3.ss).trans st4.ss, R4⟩
    · exact hD.rt d4 m4 v4 S4 H4 p4 (st03.trans st4) r4
    · exact hD.nx ρ4 m4 S4 H4 σ4 p4 (st03.trans st4) R4
    · exact ⟨hlt, ρ4, m4, S4, p4, st03.trans st4, ((e1.trans st2.ss).trans st3.ss).trans st4.ss, R4⟩
  · have ei : i = ds.length := by omega
    subst ei
    exact .inl ⟨stops, hD.nx ρ' m' S' H' σ' (hd ρ' m' w) st R'⟩

/-! ### comprehensions -/
/-- the heap without the list that is being made -/
def hole (H : Hp) (L : Addr) : Hp := fun b => if b = L then none else H b
theorem hole_at {H : Hp} {L : Addr} : hole H L L = none := if_pos rfl
theorem hole_ne {H : Hp} {L b : Addr} (h : b ≠ L) : hole H L b = H b := if_neg h
theorem hole_upd {H : Hp} {L : Addr} {o : HO} : hole (upd H L o) L = hole H L := by
  funext b
  by_cases h : b = L
  · rw [h, hole_at, hole_at]
  · rw [hole_ne h, hole_ne h, upd_ne h]
theorem hole_none {H : Hp} {L : Addr} (h : H L = none) : hole H L = H := by
  funext b
  by_cases q : b = L
  · rw [q, hole_at, h]
  · rw [hole_ne q]
theorem upd_hole {H : Hp} {L : Addr} {o : HO} (h : H L = some o) : upd (hole H L) L o = H := by
  funext b
  by_cases q : b = L
  · rw [q, upd_same, h]
  · rw [upd_ne q, hole_ne q]
theorem same_hole {S H : Hp} {L : Addr} (e : Same S (hole H L)) : Same S H := fun b o q => by
  have z := e b o q
  by_cases hb : b = L
  · rw [hb, hole_at] at z
    cases z
  · rw [hole_ne hb] at z
    exact z
theorem mrep_hole {S H : Hp} {L : Addr} (M : MRep K S (hole H L) m) : MRep K S H m := fun a o q => by
  obtain ⟨u, hu⟩ := M.here q
  have ha : a ≠ L := fun z => by
    rw [z, hole_at] at hu
    cases hu
  have w := M a o q
  rw [hole_ne ha] at w
  exact w
/-- a step beside the list that is being made -/
theorem Step.beside {S H S' H' : Hp} {m' : Mem} {L : Addr} {o : HO} (e : Same S (hole H L)) (M : MRep K S (hole H L) m) (hL : H L = some o) (st : Step K S H m S' H' m') : H' L = some o ∧ Step K S (hole H L) m S' (hole H' L) m' := by
  have mL : m L = none := M.free hole_at
  have SL : S L = none := by
    cases z : S L with
    | none => rfl
    | some o =>
      have q := e L o z
      rw [hole_at] at q
      cases q
  have hL' := st.fr L _ hL mL
  refine ⟨hL', st.ss, fun b o q => ?_, fun b o q n => ?_, fun b q => ?_, fun b o q => ?_, fun a o q => ?_, fun b q => ?_⟩
  · have hb : b ≠ L := fun z => by
      subst z
      rcases st.nw b o q with w | w | w
      · rw [SL] at w
        cases w
      · rw [hL] at w
        cases w
      · exact w mL
    rw [hole_ne hb]
    exact st.sh b o q
  · have hb : b ≠ L := fun z => by
      rw [z, hole_at] at q
      cases q
    rw [hole_ne hb] at q ⊢
    exact st.fr b o q n
  · by_cases hb : b = L
    · rw [hb, hole_at]
    · rw [hole_ne hb] at q ⊢
      exact st.gr b q
  · rcases st.nw b o q with w | w | w
    · exact .inl w
    · by_cases hb : b = L
      · rw [hb, hole_at]
        exact .inr (.inl rfl)
      · rw [hole_ne hb]
        exact .inr (.inl w)
    · exact .inr (.inr w)
  · have ha : a ≠ L := fun z => by
      subst z
      rcases st.dm a (by rw [q]; exact fun w => nomatch w) with w | w
      · exact w mL
      · rw [hL] at w
        cases w
    rw [hole_ne ha]
    exact st.mr a o q
  · rcases st.dm b q with w | w
    · exact .inl w
    · by_cases hb : b = L
      · rw [hb, hole_at]
        exact .inr rfl
      · rw [hole_ne hb]
        exact .inr w
/-- [elt for target in iter if test]: W by the turn, the list so far, the memory -/
theorem sim_lc {wi : TI} {g : TG} {ts vs : List Nat} {tt : TT} {te : TE} {P : Post} (hts : ∀ i ∈ ts, i ∈ vs) (h : SimI K wi ρ m fun ds I m1 => ds.length ≤ 100000 ∧ ∃ W : Nat → List D → Mem → Prop, W 0 [] m1 ∧ (∀ i acc m', i ≤ ds.length → W i acc m' → I m') ∧
      (∀ i d acc m', ds[i]? = some d → W i acc m' → SimG K g ts d (wipeD ρ vs) m' fun ρ2 m2 => SimT K tt ρ2 m2 fun b m3 => if b = true then Sim K te ρ2 m3 fun y m4 => W (i + 1) (acc ++ [y]) m4 else W (i + 1) acc m3) ∧ ∀ acc m', W ds.length acc m' → P (.lst acc) m') :
    Sim K (tLc wi g tt te vs) ρ m P := fun S H σ e M R Q hQ => by
  refine h S H σ e M R _ fun ds I m1 S1 H1 J p1 st1 it => ?_
  obtain ⟨hlen, W, w0, hI, hs, hd⟩ := p1
  intro L hL
  refine ⟨fun i n H' => n = ds.length - i ∧ i ≤ ds.length ∧ ∃ acc xs m' S', W i acc m' ∧ acc.length ≤ i ∧ H' L = some (.lst xs) ∧ Reps K S' acc xs ∧ Step K S1 H1 m1 S' (hole H' L) m',
    ⟨_, rfl, Nat.zero_le _, [], [], m1, S1, w0, Nat.le_refl _, upd_same, Reps.nil, by rw [hole_upd, hole_none hL]; exact Step.refl st1.sh st1.mr⟩, ?_⟩
  rintro i n H' ⟨rfl, hi, acc, xs, m', S', w, hal, hHL, rxs, st⟩
  have e' := same_hole st.sh
  have M' := mrep_hole st.mr
  obtain ⟨goes, stops, yields⟩ := it S' H' m' st.ss e' M' (hI i acc m' hi w)
  by_cases hlt : i < ds.length
  · refine .inr ⟨goes i hlt, fun H2 => i + 1 ≤ ds.length ∧ ∃ acc xs m' S', W (i + 1) acc m' ∧ acc.length ≤ i + 1 ∧ H2 L = some (.lst xs) ∧ Reps K S' acc xs ∧ Step K S1 H1 m1 S' (hole H2 L) m',
      fun H2 q => ⟨ds.length - (i + 1), by omega, rfl, q.1, q.2⟩, fun x H2 y => ?_⟩
    obtain ⟨d, S2, hd', st2, rx⟩ := yields i x H2 hlt y
    obtain ⟨hL2, b2⟩ := Step.beside st.sh st.mr hHL st2
    have R2 : REnv K S2 (wipe σ vs) (wipeD ρ vs) := (R.mono ((st1.ss.trans st.ss).trans st2.ss)).wipe vs
    refine hs i d acc m' hd' w S2 H2 _ x st2.sh st2.mr R2 rx _ fun ρ3 m3 σ3 S3 H3 p3 st3 R3 hw3 => ?_
    obtain ⟨hL3, b3⟩ := Step.beside b2.sh b2.mr hL2 st3
    refine ⟨by rw [hw3 vs hts, wipe_wipe], ?_⟩
    refine p3 S3 H3 σ3 st3.sh st3.mr R3 _ fun b m4 S4 H4 p4 st4 => ?_
    obtain ⟨hL4, b4⟩ := Step.beside b3.sh b3.mr hL3 st4
    have b14 := ((st.trans b2).trans b3).trans b4
    have r4 : Reps K S4 acc xs := rxs.mono ((st2.ss.trans st3.ss).trans st4.ss)
    cases b with
    | true =>
      rw [if_pos rfl] at p4 ⊢
      refine p4 S4 H4 σ3 st4.sh st4.mr (R3.mono st4.ss) _ fun yd m5 v5 S5 H5 p5 st5 r5 => ?_
      obtain ⟨hL5, b5⟩ := Step.beside b4.sh b4.mr hL4 st5
      have hxl : xs.length < sizeLine := by
        rw [← rxs.len]
        exact Nat.lt_of_lt_of_le (show acc.length < 100001 by omega) (by decide)
      refine ⟨xs, hL5, hxl, hlt, acc ++ [yd], xs ++ [v5], m5, S5, p5, by simp; omega, upd_same, (r4.mono st5.ss).append (.one r5), ?_⟩
      rw [hole_upd]
      exact b14.trans b5
    | false =>
      rw [if_neg Bool.false_ne_true] at p4 ⊢
      exact ⟨hlt, acc, xs, m4, S4, p4, by omega, hL4, r4, b14⟩
  · have ei : i = ds.length := by omega
    subst ei
    refine .inl ⟨stops, ?_⟩
    have st9 := Step.still (o := .lst xs) st.sh st.mr hole_at
    rw [upd_hole hHL] at st9
    exact hQ _ _ _ _ _ (hd acc m' w) ((st1.trans st).trans st9) ⟨L, xs, rfl, .inl (.inl upd_same), rxs.mono st9.ss⟩
/-- .. where the memory stays: each item gives what f says, or nothing -/
theorem sim_lcP {wi : TI} {g : TG} {ts vs : List Nat} {tt : TT} {te : TE} {P : Post} (hts : ∀ i ∈ ts, i ∈ vs) (h : SimI K wi ρ m fun ds I m1 => ds.length ≤ 100000 ∧ I m1 ∧ ∃ f : Nat → Option D,
      (∀ i d, ds[i]? = some d → SimG K g ts d (wipeD ρ vs) m1 fun ρ2 m2 => m2 = m1 ∧ SimT K tt ρ2 m1 fun b m3 => m3 = m1 ∧ if b = true then Sim K te ρ2 m1 fun y m4 => m4 = m1 ∧ f i = some y else f i = none) ∧ P (.lst ((List.range ds.length).filterMap f)) m1) :
    Sim K (tLc wi g tt te vs) ρ m P := by
  refine sim_lc hts fun S H σ e M R Q hQ => h S H σ e M R Q fun ds I m1 S' H' J p st it => hQ ds I m1 S' H' J ?_ st it
  obtain ⟨hl, hI, f, hs, hp⟩ := p
  refine ⟨hl, fun i acc m' => m' = m1 ∧ acc = (List.range i).filterMap f, ⟨rfl, rfl⟩, fun i acc m' _ w => w.1 ▸ hI, ?_, ?_⟩
  · rintro i d acc m' hd ⟨rfl, rfl⟩
    refine fun S H σ v e M R r Q hQ => hs i d hd S H σ v e M R r Q fun ρ2 m2 σ2 S2 H2 p2 st2 R2 hw => hQ ρ2 m2 σ2 S2 H2 ?_ st2 R2 hw
    obtain ⟨rfl, p2⟩ := p2
    refine fun S H σ e M R Q hQ => p2 S H σ e M R Q fun b m3 S3 H3 p3 st3 => hQ b m3 S3 H3 ?_ st3
    obtain ⟨rfl, p3⟩ := p3
    cases b with
    | true =>
      rw [if_pos rfl] at p3 ⊢
      refine p3.imp fun y m4 q => ?_
      obtain ⟨rfl, q⟩ := q
      refine ⟨rfl, ?_⟩
      rw [List.range_succ, List.filterMap_append]
      simp [q]
    | false =>
      rw [if_neg Bool.false_ne_true] at p3 ⊢
      refine ⟨rfl, ?_⟩
      rw [List.range_succ, List.filterMap_append]
      simp [p3]
  · rintro acc m' ⟨rfl, rfl⟩
    exact hp
end
end L3

/-! text L3e -/
set_option Elab.async false
set_option linter.all false
set_option maxRecDepth 100000
set_option maxHeartbeats 4000000
/-! L3e: the rule for a def; defs, methods, classes by their names. -/
namespace L3
open PySem L2

def startD (N : List Str) (ds : List D) : DEnv := ds.map some ++ List.replicate (N.length - ds.length) none
theorem REnv.begin0 {K : PySem.W.Frag} {S : Hp} {N : List Str} {ds : List D} {vs : List V} (h : Reps K S ds vs) : REnv K S (L2.start N vs) (startD N ds) := by
  have hl := h.len
  refine ⟨by unfold L2.start startD; simp [hl], fun i d e => ?_⟩
  unfold startD at e
  by_cases hi : i < ds.length
  · rw [List.getElem?_append_left (by simpa using hi), List.getElem?_map] at e
    have hd : ds[i]? = some d := by
      cases q : ds[i]? with
      | none =>
        rw [q] at e
        cases e
      | some c =>
        rw [q] at e
        cases e
        rfl
    obtain ⟨v, hv, r⟩ := h.get hd
    refine ⟨v, ?_, r⟩
    unfold L2.start
    rw [List.getElem?_append_left (by rw [List.length_map, ← hl]; exact hi), List.getElem?_map, hv]
    rfl
  · rw [List.getElem?_append_right (by simpa using hi), List.getElem?_replicate] at e
    split at e <;> cases e

section
variable {P : Program} {w : World} {K : PySem.W.Frag} {mg : Str → Option Value} {base : Heap}
/-- the context of a def's body -/
abbrev bodyX (P : Program) (w : World) (K : PySem.W.Frag) (mg : Str → Option Value) (base : Heap) (N : List Str) (qual : Str) (st : Stmt) (f : Addr) (cdv : Value) (A : Around) (outer : List Env) (s : Shared) (H : Hp) (E : XK) : Cx :=
  (cxOf CX0 P w K mg base N qual (defScope st) f cdv A outer s H E).nox
theorem def_ok {x qual : Str} {st : Stmt} {f : Addr} {fd : FuncData} {N ps : List Str} {k : Nat} {C : Ctr} (F : Fun K x qual st f fd) (S : FnScope N ps (defScope st)) (hl : ∀ ds m PP, C ds m PP → ds.length = ps.length)
    (hb : ∀ (cdv : Value) (A : Around) (outer : List Env) (s : Shared) (H : Hp) (E : XK), Room k (bodyX P w K mg base N qual st f cdv A outer s H E).A → ∀ ds m PP, C ds m PP →
      ∃ t, PSs (bodyX P w K mg base N qual st f cdv A outer s H E) (defBody st) t ∧ SimS K t (startD N ds) m { nx := fun _ m' => PP .non m', rt := PP }) : FnOk P w K mg base CX0 (k + 1) f fd ps (spOf K C) := by
  refine F.ok S (fun vs H Q E h => ?_) (fun cdv A outer s H vs Q E hr h => ?_)
  · obtain ⟨S, m, ds, PP, _, _, r, c, _⟩ := h
    rw [← r.len]
    exact hl ds m PP c
  · obtain ⟨S, m, ds, PP, e, M, r, c, hQ⟩ := h
    obtain ⟨t, ht, hs⟩ := hb cdv A outer s H E hr ds m PP c
    refine ⟨t, ht, hs S H _ e M (REnv.begin0 r) _ ⟨fun ρ' m' S' H' σ' p st R => ?_, fun d m' v S' H' p st r => hQ d m' v S' H' p st r, fun _ _ _ _ _ p => p.elim, fun _ _ _ _ _ p => p.elim⟩⟩
    exact hQ .non m' .non S' H' p st rfl

/-- a def of the module, by its name and contract -/
structure CalC (P : Program) (w : World) (K : PySem.W.Frag) (mg : Str → Option Value) (base : Heap) (k : Nat) (x : Str) (C : Ctr) : Prop where
  ex : ∃ (f : Addr) (fd : FuncData) (ps : List Str), FnOk P w K mg base CX0 k f fd ps (spOf K C) ∧ mg x = some (.ref f) ∧ PySem.W.keepIn K (.ref f) = true ∧ Binds K fd ps []
/-- a method of the class at Cl -/
structure MetC (P : Program) (w : World) (K : PySem.W.Frag) (mg : Str → Option Value) (base : Heap) (k : Nat) (Cl : Addr) (mn : Str) (C : Ctr) : Prop where
  ex : ∃ (f : Addr) (fd : FuncData) (ps : List Str), Cls K Cl ∧ Meth K Cl mn f ∧ FnOk P w K mg base CX0 k f fd ps (spOf K C) ∧ Binds K fd ps []
/-- a class, by its name and its __init__'s contract -/
structure MakC (P : Program) (w : World) (K : PySem.W.Frag) (mg : Str → Option Value) (base : Heap) (k : Nat) (x : Str) (Cl : Addr) (C : Ctr) : Prop where
  ex : ∃ (f : Addr) (fd : FuncData) (ps : List Str), Mk K Cl f ∧ FnOk P w K mg base CX0 k f fd ps (spOf K C) ∧ mg x = some (.ref Cl) ∧ Binds K fd ps []
end
section
variable {X : Cx} {k j : Nat} {Cl : Addr} {x mn : Str} {C : Ctr} {p pos apos : Pos} {e o : Expr} {es : List Expr} {ta : TE} {t : TA}
theorem pe_cal (c : CalC X.prog X.w X.K X.mg X.base k x C) (hr : Room j X.A) (hk : k ≤ j) (hg : Gl X x) (ha : PA X (e :: es) t)
    (hdb : (x == ("__debug__" : Str)) = false := by decide) (he : starEach (e :: es) X.env = (false, eval e X.env) :: starEach es X.env := by rfl) (hpl : (backTo pos (starEach es X.env)).any (·.1) = false := by rfl) :
    PE X (.Call (.Name x p) (e :: es) [] pos) (tCall (spOf X.K C) [] E0 t) := by
  obtain ⟨f, fd, ps, F, hm, kp, b⟩ := c.ex
  exact pe_call F (hr.mono hk) hg hm kp b .nil pass0 ha hdb he hpl
theorem pe_mak (c : MakC X.prog X.w X.K X.mg X.base k x Cl C) (hr : Room j X.A) (hk : k + 1 ≤ j) (hg : Gl X x) (ha : PA X (e :: es) t)
    (hdb : (x == ("__debug__" : Str)) = false := by decide) (he : starEach (e :: es) X.env = (false, eval e X.env) :: starEach es X.env := by rfl) (hpl : (backTo pos (starEach es X.env)).any (·.1) = false := by rfl) :
    PE X (.Call (.Name x p) (e :: es) [] pos) (tMake Cl (spOf X.K C) [] E0 t) := by
  obtain ⟨f, fd, ps, M, F, hm, b⟩ := c.ex
  exact pe_make M F (hr.mono hk) hg hm b .nil pass0 ha hdb he hpl
theorem pe_met {pl : Sem Bool} (c : MetC X.prog X.w X.K X.mg X.base k Cl mn C) (hr : Room j X.A) (hk : k ≤ j) (he : PE X o ta) (ha : PA X (e :: es) t)
    (hst : starEach (e :: es) X.env = (false, eval e X.env) :: starEach es X.env := by rfl) (hpl : (backTo pos (starEach es X.env)).any (·.1) = false := by rfl)
    (ht : eval (.Call (.Attribute o mn apos) (e :: es) [] pos) X.env = (do
      let ov ← eval o X.env
      standAt apos.atName
      let (f, first) ← holding [ov] (getMethod ov mn pl)
      callWith pos f first (backTo pos (starEach (e :: es) X.env)) (backToKw pos (keywordEach [] X.env))) := by rfl) :
    PE X (.Call (.Attribute o mn apos) (e :: es) [] pos) (tMeth Cl mn (spOf X.K C) [] E0 ta t) := by
  obtain ⟨f, fd, ps, hc, hm, F, b⟩ := c.ex
  exact pe_meth (pl := pl) he hc hm F (hr.mono hk) b .nil pass0 ha hst hpl ht
theorem pe_met0 {pl : Sem Bool} (c : MetC X.prog X.w X.K X.mg X.base k Cl mn C) (hr : Room j X.A) (hk : k ≤ j) (he : PE X o ta)
    (ht : eval (.Call (.Attribute o mn apos) [] [] pos) X.env = (do
      let ov ← eval o X.env
      standAt apos.atName
      let (f, first) ← holding [ov] (getMethod ov mn pl)
      callWith pos f first (backTo pos (starEach [] X.env)) (backToKw pos (keywordEach [] X.env))) := by rfl) :
    PE X (.Call (.Attribute o mn apos) [] [] pos) (tMeth Cl mn (spOf X.K C) [] E0 ta tNil) := by
  obtain ⟨f, fd, ps, hc, hm, F, b⟩ := c.ex
  exact pe_meth0 (pl := pl) he hc hm F (hr.mono hk) b .nil pass0 ht
end

end L3

/-! text L3f -/
set_option Elab.async false
set_option linter.all false
set_option maxRecDepth 100000
set_option maxHeartbeats 4000000
/-! L3f: rules of the layer below that the hand layer lacks: list + list where one is locked, all(tuple), tuple * 1, zip of a list and a tuple, enumerate(tuple), d.get(None, x), C.m(..) of a def read off its class, list == []. -/
namespace L3
open PySem PySem.Spec PyProof.Rows L2

section
variable {X : Cx}
/-! ### list + list, any two -/
def rCatL (K : PySem.W.Frag) : R2 := fun x y H Q => ∃ l b xs zs, x = .ref l ∧ y = .ref b ∧ SqL K H l xs ∧ SqL K H b zs ∧ xs.length + zs.length ≤ sizeLine ∧ ∀ p, H p = none → Q (.ref p) (upd H p (.lst (xs ++ zs)))
theorem op_catL : OpR X (binaryOp .Add) (rCatL X.K) := by
  intro pins s σ H x y v u Q I rx ry h
  obtain ⟨l, b, xs, zs, rfl, rfl, hH, hB, hz, q⟩ := h
  cases rx
  cases ry
  obtain ⟨its, r, hl, _⟩ := I.list hH
  obtain ⟨its2, r2, hb, _⟩ := I.list hB
  obtain ⟨⟨cls, dd, data, sl⟩, ho, hc, n, hd⟩ := hl.isList
  obtain ⟨⟨cls2, dd2, data2, sl2⟩, ho2, hc2, n2, hd2⟩ := hb.isList
  simp only at hc hd hc2 hd2
  subst hc hd hc2 hd2
  have l1 := r.length
  have l2 := r2.length
  have e : its.toArray ++ its2.toArray = (its ++ its2).toArray := by simp
  refine concat_meets ⟨_, ho, rfl⟩ ⟨_, ho2, rfl⟩ noFill_list_add seq_list_add PySem.F.slot_list_add PySem.F.entry_list_add (PySem.F.args_list_add_2 _ _) (list_addW l b its.toArray its2.toArray n n2 dd dd2 sl sl2 (by rw [List.size_toArray, List.size_toArray]; omega)) ⟨ho, ho2, ?_⟩
  rw [e]
  exact ⟨.ref _, _, I.lnew (t' := s.toks) (r.append r2) (by rw [List.length_append]; exact hz), rfl, q _ I.fresh⟩

/-! ### all(tuple of truths) -/
theorem iter_anyT {prog : Program} {w : World} {A : Around} {E : Value → Shared → Prop} {s : Shared} {l : Addr} {items : Array Value} {Q : Value → Shared → Prop} (hl : s.heap.IsTuple l items)
    (h : ∀ s2 : Shared, s2 = { s with heap := s.heap.push { cls := .type "tuple_iterator", data := .fields #[.ref l, .int 0 0] } } →
      (s2.heap.IsTupleIter s.heap.objs.size l 0 ∧ s2.heap.IsTuple l items) → l ≠ s.heap.objs.size → Q (.ref s.heap.objs.size) s2) : wpAny (model prog w) A (pyIter (.ref l)) Q E s := by
  have hlt : l < s.heap.objs.size := by obtain ⟨_, e, _⟩ := hl; exact Heap.lt_size e
  exact wpAny_pyIter_tuple hl (h _ rfl ⟨⟨_, Heap.get?_push_size _ rfl, rfl, rfl⟩, hl.push _⟩ (Nat.ne_of_lt hlt))
def rAllT (K : PySem.W.Frag) : List V → Hp → VK → Prop := fun vs H Q => ∃ (a : Addr) (bs : List Bool), vs = [V.ref a] ∧ SqT K H a (bs.map V.bl) ∧ Q (.bl (bs.all id)) H
theorem cr_allT (hc : X.calm = true) : CallR X (.builtin "all") (rAllT X.K) := by
  intro pins s σ H vs us Q I r h
  obtain ⟨a, bs, rfl, hs, q⟩ := h
  obtain ⟨its, rv, hl, _⟩ := I.tuple hs
  rw [Vals.ref1 r]
  have hb := rv.bls
  refine call_all_walk (iter_anyT hl fun s2 e2 st hne => ?_)
  subst e2
  refine ⟨_, _, _, _, _, _, _, rfl, Walks.tuple (A := X.A.in1) (I.ok.hd hc) _ a hne its.toArray, st, truth_bools hb, fun h' tk hk => ?_⟩
  refine ⟨.bl _, H, I.kept fun b o eo => hk b o (fun hmem => ?_) (Heap.get?_push_of_some _ eo), ?_, q⟩
  · rcases List.mem_cons.mp hmem with e1 | hmem
    · exact absurd (e1 ▸ Heap.lt_size eo) (Nat.lt_irrefl _)
    · cases hmem
  · show Value.bool _ = Value.bool _
    rw [← L2.all_range, hb, List.size_toArray, List.length_map]

/-! ### C.m(e, ..), m a def of the class -/
structure CFn (K : PySem.W.Frag) (C : Addr) (mc : Value) (mn : Str) (f : Addr) : Prop where
  rd : PySem.W.readsIn K C mc = true
  ga : PySem.W.specialIn K (.ref C) "__getattribute__" = some (some (.builtin "type.__getattribute__"))
  at_ : PySem.W.findCls K (.ref C) mc mn = some (.val (.ref f))
  kp : PySem.W.keepIn K (.ref f) = true
def tCFn (C : Addr) (sp : Sp) (E : XK) (ta : TE) (t : TA) : TE := fun σ H Q => ta σ H fun x H1 => x = .ref C ∧ t σ H1 fun vs H2 => sp vs H2 Q E
theorem pe_cfn {k : Nat} {C f : Addr} {mc : Value} {fd : FuncData} {ps : List Str} {sp : Sp} {o e : Expr} {es : List Expr} {mn : Str} {pos apos : Pos} {ta : TE} {t : TA} {pl : Sem Bool} (he : PE X o ta) (c : CFn X.K C mc mn f) (F : FnOk X.prog X.w X.K X.mg X.base CX0 k f fd ps sp) (hr : Room k X.A) (hb : Binds X.K fd ps []) (ha : PA X (e :: es) t)
    (hst : starEach (e :: es) X.env = (false, eval e X.env) :: starEach es X.env := by rfl) (hpl : (backTo pos (starEach es X.env)).any (·.1) = false := by rfl)
    (ht : eval (.Call (.Attribute o mn apos) (e :: es) [] pos) X.env = (do
      let ov ← eval o X.env
      standAt apos.atName
      let (f, first) ← holding [ov] (getMethod ov mn pl)
      callWith pos f first (backTo pos (starEach (e :: es) X.env)) (backToKw pos (keywordEach [] X.env))) := by rfl) :
    PE X (.Call (.Attribute o mn apos) (e :: es) [] pos) (tCFn C sp E0 ta t) := by
  refine ⟨fun pins s σ H Q I h => ?_⟩
  refine PySem.W.methodCall_KW (pl := pl) (thn (he.run pins s σ H _ I h) fun u s1 ⟨x, H1, I1, rx, ex, q⟩ => ?_) ht
  subst ex
  obtain rfl : u = Value.ref C := rx
  refine PySem.W.method_cls I1.kIn c.ga (PySem.W.cls_value I1.kIn c.rd c.at_ rfl ?_)
  have I2 := I1.tok (s1.toks + 1)
  refine PySem.W.callWith_K (h₀ := X.base) I2.ok.mod.kin c.kp (thn (ha.run pos pins _ σ H1 _ I2 q) fun us s3 ⟨vs, H2, I3, rv, q2⟩ => ⟨I3.kIn, ?_⟩) hst hpl
  exact run_fn F hr hb .nil pass0 I3 rv (by rw [List.append_nil]; exact q2)

/-! ### list == list of another length, or both empty -/
def rEqE (K : PySem.W.Frag) : R2 := fun x y H Q => ∃ a b xs, x = .ref a ∧ y = .ref b ∧ SqL K H a xs ∧ SqL K H b [] ∧ Q (.bl xs.isEmpty) H
theorem op_eqE (hu : X.A.units < cLine) : OpR X (compareOp .Eq) (rEqE X.K) := by
  intro pins s σ H x y v u Q I rx ry h
  obtain ⟨a, b, xs, rfl, rfl, ha, hb, q⟩ := h
  cases rx
  cases ry
  obtain ⟨its, r1, p1, _⟩ := I.list ha
  obtain ⟨its2, r2, p2, _⟩ := I.list hb
  cases r2
  cases r1 with
  | nil => exact SeqAt.eq_listAt (e := fun _ => true) p1.isList p2.isList rfl hu (fun j h1 _ => absurd h1 (by simp)) ⟨.bl true, H, I, rfl, q⟩
  | cons r t => exact SeqAt.eq_list_lengthsAt p1.isList p2.isList (by simp) hu ⟨.bl false, H, I, rfl, q⟩

/-! ### d.get(y, x), y None, an int or a text -/
def DGetN (H : Hp) (a : Addr) (y : V) (r : Option V) : Prop := DGet H a y r ∨ (y = .non ∧ (∃ kvs, Rd H a (.dK kvs)) ∧ r = none)
def tDGetN (td ty tx : TE) : TE := fun σ H Q => td σ H fun x H1 => ∃ a, x = .ref a ∧ IsD H1 a ∧ ty σ H1 fun y H2 => tx σ H2 fun z H3 => ∃ o, DGetN H3 a y o ∧ Q (o.getD z) H3
theorem pe_dgetN {o e f : Expr} {apos cpos : Pos} {td ty tx : TE} (hu : X.A.units + 1 < cLine) (ho : PE X o td) (he : PE X e ty) (hf : PE X f tx) (m : M2 X o "get" apos e f cpos) : PE X (.Call (.Attribute o "get" apos) [e, f] [] cpos) (tDGetN td ty tx) := by
  refine ⟨fun pins s σ H Q I h => ?_⟩
  refine wpAny_Call_method m.base m.few m.line PySem.F.plainAttrs_dict PySem.F.slot_dict_get PySem.F.type_dict_get (thn (ho.run pins s σ H _ I h) fun u s1 ⟨x, H1, I1, rx, a, ex, d, q1⟩ => ?_)
  subst ex
  obtain rfl : u = Value.ref a := rx
  obtain ⟨t1, t2, _⟩ := isD_at I1 d
  refine ⟨t1, t2, ?_⟩
  rw [m.trees]
  refine Calls.callWith_builtin rfl (Calls.evalArgs_plain (Calls.spliced_cons (thn (he.run pins s1 σ H1 _ I1 q1) fun iv s2 ⟨y, H2, I2, ry, q2⟩ =>
    Calls.spliced_cons (thn (hf.run pins s2 σ H2 _ I2 q2) fun fv s3 ⟨z, H3, I3, rz, ov, g, q3⟩ => Calls.spliced_nil ?_))))
  rcases g with g | ⟨rfl, ⟨kvs, g⟩, rfl⟩
  · exact d_get2 hu I3 g ry rz fun w' s4 I4 rw' => ⟨_, H3, I4, rw', q3⟩
  · cases ry
    obtain ⟨_, hd, vs, rel, dd⟩ := dk_rd I3.hok g
    obtain ⟨fm, hm, hn⟩ := none_map dd
    refine call_meetsIn PySem.F.slot_dict_get dd.typeIs PySem.F.entry_dict_get (PySem.F.args_dict_get_3 _ _ _) (meets_dict_get_default (noneKind X.prog X.w) a (k := none) rfl hd fv) ⟨_, hm, ?_⟩
    rw [hn]
    exact ⟨z, H3, I3.tok _, rz, q3⟩
end
end L3

/-! text L3g -/
set_option Elab.async false
set_option linter.all false
set_option maxRecDepth 100000
set_option maxHeartbeats 4000000
/-! L3g: zip of any two of lists and tuples; enumerate of a tuple; tuple * 1. -/
namespace L3
open PySem PySem.Spec PyProof.Rows L2

/-- a list's or a tuple's own words -/
structure SeqKd where
  Sq : PySem.W.Frag → Hp → Addr → List V → Prop
  It_ : Heap → Addr → Addr → Nat → Prop
  Is_ : Heap → Addr → Array Value → Prop
  ob : Addr → Obj
  read : ∀ {X : Cx} {pins : List (Addr × Obj)} {σ : L2.St} {H : Hp} {s : Shared} {a : Addr} {xs : List V}, Inv X pins σ H s → Sq X.K H a xs → ∃ its : List Value, Vals xs its ∧ Is_ s.heap a its.toArray
  inj : ∀ {X : Cx} {pins : List (Addr × Obj)} {σ : L2.St} {H : Hp} {s : Shared} {a : Addr} {xs ys : List V}, Inv X pins σ H s → Sq X.K H a xs → Sq X.K H a ys → xs = ys
  draws : ∀ (prog : Program) (w : World) (A : Around), A.handled = none → ∀ (it l : Addr), l ≠ it → ∀ items : Array Value, Draws prog w A it [it, l] items.size (fun i v => items[i]? = some v) (fun i h => It_ h it l i ∧ Is_ h l items)
  begins : ∀ (l : Addr) (items : Array Value), Begins (.ref l) (ob l) fun h => Is_ h l items
  start : ∀ (h : Heap) (it l : Addr), h.get? it = some (ob l) → It_ h it l 0
  cell : ∀ (h : Heap) (it l : Addr) (i : Nat), It_ h it l i → ∃ o, h.get? it = some o ∧ ∀ v, o.data ≠ .cell v
  at_ : ∀ (h h' : Heap) (it l : Addr) (i : Nat), It_ h it l i → (∀ o, h.get? it = some o → h'.get? it = some o) → It_ h' it l i
  lt : ∀ (h : Heap) (l : Addr) (items : Array Value), Is_ h l items → l < h.objs.size
def kdL : SeqKd where
  Sq := SqL
  It_ := fun h it l i => h.IsListIter it l i
  Is_ := fun h l items => h.IsList l items
  ob := fun l => { cls := .type "list_iterator", data := .fields #[.ref l, .int 0 0] }
  read := fun I h => let ⟨its, r, p, _⟩ := I.list h; ⟨its, r, p.isList⟩
  inj := fun I h h' => I.list_inj h h'
  draws := fun _ _ _ hh it l hne items => Draws.list hh it l hne items
  begins := begins_list
  start := fun _ _ _ e => ⟨_, e, rfl, rfl⟩
  cell := fun h it l i st => let ⟨o, ho, _, hd⟩ := st; ⟨o, ho, fun v q => by rw [hd] at q; cases q⟩
  at_ := fun _ _ _ _ _ st k => st.at k
  lt := fun _ _ _ h => let ⟨_, e, _⟩ := h; Heap.lt_size e
def kdT : SeqKd where
  Sq := SqT
  It_ := fun h it l i => h.IsTupleIter it l i
  Is_ := fun h l items => h.IsTuple l items
  ob := fun l => { cls := .type "tuple_iterator", data := .fields #[.ref l, .int 0 0] }
  read := fun I h => let ⟨its, r, p, _⟩ := I.tuple h; ⟨its, r, p⟩
  inj := fun I h h' => I.tuple_inj h h'
  draws := fun _ _ _ hh it l hne items => Draws.tuple hh it l hne items
  begins := begins_tuple
  start := fun _ _ _ e => ⟨_, e, rfl, rfl⟩
  cell := fun h it l i st => let ⟨o, ho, _, hd⟩ := st; ⟨o, ho, fun v q => by rw [hd] at q; cases q⟩
  at_ := fun _ _ _ _ _ st k => st.at k
  lt := fun _ _ _ h => let ⟨_, e, _⟩ := h; Heap.lt_size e

/-! ### zip -/
def ItzG (k1 k2 : SeqKd) (K : PySem.W.Frag) (a b : Addr) : It :=
  ⟨fun i H => ∃ (xs ys : List V) (x y : V), k1.Sq K H a xs ∧ k2.Sq K H b ys ∧ xs[i]? = some x ∧ ys[i]? = some y,
    fun i H v H' => ∃ T x y, v = .ref T ∧ H T = none ∧ H' = upd H T (.tup [x, y]) ∧ (∀ xs, k1.Sq K H a xs → xs[i]? = some x) ∧ ∀ ys, k2.Sq K H b ys → ys[i]? = some y,
    fun i H => ∃ xs ys : List V, k1.Sq K H a xs ∧ k2.Sq K H b ys ∧ i ≤ xs.length ∧ i ≤ ys.length ∧ (xs.length = i ∨ ys.length = i)⟩
theorem turn_zipG {P : Program} {w : World} {K : PySem.W.Frag} {elts : List Expr} {kk : Nat} {tpos : Pos} {k1 k2 : SeqKd} {a b z TI TO i1 i2 : Addr} (Sp : ZipSep2 z TI TO i1 i2 [i1, a] [i2, b]) (ha : a ≠ i1) (hb : b ≠ i2) :
    Turn P w K (.Tuple elts kk tpos) (ItzG k1 k2 K a b) [z, TI, TO, i1, i2] z (fun i h => IsZip h z TI TO .none ∧ IsTupOf2 h TI (.ref i1) (.ref i2) ∧ (∃ x y, IsTupOf2 h TO x y) ∧ k1.It_ h i1 a i ∧ k2.It_ h i2 b i) where
  mem := by simp
  obj := fun i h st c hc => by
    obtain ⟨hz, hTI, ⟨x, y, hTO⟩, h1, h2⟩ := st
    have e' : c = z ∨ c = TI ∨ c = TO ∨ c = i1 ∨ c = i2 := by simpa using hc
    rcases e' with q | q | q | q | q
    · rw [q]; exact ⟨_, hz, fun v q => nomatch q⟩
    · rw [q]; exact ⟨_, hTI, fun v q => nomatch q⟩
    · rw [q]; exact ⟨_, hTO, fun v q => nomatch q⟩
    · rw [q]; exact k1.cell _ _ _ _ h1
    · rw [q]; exact k2.cell _ _ _ _ h2
  keep := fun i h h' st k => by
    obtain ⟨hz, hTI, ⟨x, y, hTO⟩, h1, h2⟩ := st
    exact ⟨k z (by simp) _ hz, k TI (by simp) _ hTI, ⟨x, y, k TO (by simp) _ hTO⟩, k1.at_ _ _ _ _ _ h1 fun o q => k i1 (by simp) o q, k2.at_ _ _ _ _ _ h2 fun o q => k i2 (by simp) o q⟩
  item := by
    intro X hP hw hK hc i pins s σ H E I hf st hg
    subst hP hw hK
    obtain ⟨hz, hTI, ⟨x0, y0, hTO⟩, h1, h2⟩ := st
    obtain ⟨xs, ys, x, y, hqx, hqy, hx, hy⟩ := hg
    obtain ⟨its, rv, p⟩ := k1.read I hqx
    obtain ⟨its2, rv2, p2⟩ := k2.read I hqy
    obtain ⟨u, hu, ru⟩ := rv.get hx
    obtain ⟨u2, hu2, ru2⟩ := rv2.get hy
    have hzl : z < s.heap.objs.size := Heap.lt_size hz
    have hh : X.A.in1.handled = none := I.ok.hd hc
    have l1 : i < its.toArray.size := by
      have q := (List.getElem?_eq_some_iff.mp hu).1
      simpa using q
    have l2 : i < its2.toArray.size := by
      have q := (List.getElem?_eq_some_iff.mp hu2).1
      simpa using q
    refine wpAny_pyNext_zipD2_item Sp (k1.draws _ _ _ hh i1 a ha its.toArray) (k2.draws _ _ _ hh i2 b hb its2.toArray) hz hTI hTO ⟨h1, p⟩ ⟨h2, p2⟩ l1 l2 fun v1 v2 h' tk q1 q2 h1' h2' s1 s2 hT hsz hk => ?_
    have e1 : v1 = u := by
      have q1' : its[i]? = some v1 := by simpa using q1
      rw [hu] at q1'
      exact (Option.some.inj q1').symm
    have e2 : v2 = u2 := by
      have q2' : its2[i]? = some v2 := by simpa using q2
      rw [hu2] at q2'
      exact (Option.some.inj q2').symm
    subst e1 e2
    refine ⟨_, rfl, wpAny_letOwnedTupleGo_zip (s := { s with heap := h', toks := tk }) h1' fun h'' z'' sb => ?_⟩
    have hT2 : h''.get? s.heap.objs.size = some { cls := .type "tuple", data := .seq #[v1, v2] } := (sb.2 _ (Nat.ne_of_gt hzl)).trans hT
    have new : ObjOk X.prog X.w (upd H s.heap.objs.size (.tup [x, y])) h'' s.heap.objs.size (.tup [x, y]) :=
      ⟨by show 2 ≤ sizeLine; decide, [v1, v2], .cons ru (.cons ru2 .nil), ⟨_, hT2, rfl, _, rfl⟩⟩
    have I1 : Inv X pins σ (upd H s.heap.objs.size (.tup [x, y])) { s with heap := h'', toks := tk } :=
      I.turnedNew (t' := tk) (ch := [z, TI, TO, i1, i2]) (fun c o hb q => (sb.2 c (fun q' => hb (by simp [q']))).trans (hk c o (fun q' => hb (by simp [q'])) (fun q' => hb (by simp [q'])) (fun q' => hb (by simp [q'])) (fun q' => hb (by simp [q'])) q)) hf (Nat.le_refl _) new
    refine ⟨.ref s.heap.objs.size, _, I1, rfl, ⟨_, x, y, rfl, I.hok.fresh (Nat.le_refl _), rfl, fun l hl => by rw [k1.inj I hl hqx]; exact hx, fun l hl => by rw [k2.inj I hl hqy]; exact hy⟩, ⟨z'', ?_, ⟨v1, v2, ?_⟩, ?_, ?_⟩, fun c hcm => ?_⟩
    · exact (sb.2 _ Sp.TIz).trans (hk _ _ Sp.TIz Sp.TITO Sp.TIi1 Sp.TIi2 hTI)
    · exact (sb.2 _ Sp.TOz).trans h2'
    · exact k1.at_ _ _ _ _ _ s1.1 fun o q => (sb.2 _ Sp.zi1.symm).trans q
    · exact k2.at_ _ _ _ _ _ s2.1 fun o q => (sb.2 _ Sp.zi2.symm).trans q
    · have hlt : c < s.heap.objs.size := by
        have e' : c = z ∨ c = TI ∨ c = TO ∨ c = i1 ∨ c = i2 := by simpa using hcm
        rcases e' with q | q | q | q | q
        · rw [q]; exact hzl
        · rw [q]; exact Heap.lt_size hTI
        · rw [q]; exact Heap.lt_size hTO
        · rw [q]; obtain ⟨_, e1, _⟩ := k1.cell _ _ _ _ h1; exact Heap.lt_size e1
        · rw [q]; obtain ⟨_, e2, _⟩ := k2.cell _ _ _ _ h2; exact Heap.lt_size e2
      rw [upd_ne (Nat.ne_of_lt hlt)]
      exact (hf c hcm).1
  done := by
    intro X hP hw hK hc i pins s σ H E I hf st hg
    subst hP hw hK
    obtain ⟨hz, hTI, ⟨x0, y0, hTO⟩, h1, h2⟩ := st
    obtain ⟨xs, ys, hqx, hqy, le1, le2, hend⟩ := hg
    obtain ⟨its, rv, p⟩ := k1.read I hqx
    obtain ⟨its2, rv2, p2⟩ := k2.read I hqy
    have l1 := rv.length
    have l2 := rv2.length
    have hh : X.A.in1.handled = none := I.ok.hd hc
    exact wpAny_pyNext_zipD2_end Sp (k1.draws _ _ _ hh i1 a ha its.toArray) (k2.draws _ _ _ hh i2 b hb its2.toArray) hz hTI hTO ⟨h1, p⟩ ⟨h2, p2⟩ (by simp; omega) (by simp; omega) (by simp; omega) fun h' tk hk => ⟨rfl, I.turnedL (t' := tk) (ch := [z, TI, TO, i1, i2]) (fun c o hb q =>
      hk c o (fun q' => hb (by simp [q'])) (fun q' => hb (by simp [q'])) (fun q' => hb (by simp [q'])) (fun q' => hb (by simp [q'])) q) hf⟩
  self := fun A i s Q E st h => wpAny_pyIter_zip st.1 h
def iZipG (K : PySem.W.Frag) (ta : TA) : TI := fun σ H R => ta σ H fun vs H1 => ∃ (k1 k2 : SeqKd) (a b : Addr) (xs ys : List V), vs = [.ref a, .ref b] ∧ k1.Sq K H1 a xs ∧ k2.Sq K H1 b ys ∧ R (ItzG k1 k2 K a b) H1
theorem pi_zipG {X : Cx} {e e2 : Expr} {ta : TA} {p pos tpos : Pos} {elts : List Expr} {kk : Nat} (hg : Gl X "zip") (hm : X.mg "zip" = none) (ha : PA X [e, e2] ta)
    (hs : starEach [e, e2] X.env = (false, eval e X.env) :: starEach [e2] X.env := by rfl) (hpl : (backTo pos (starEach [e2] X.env)).any (·.1) = false := by rfl) :
    PI X (.Tuple elts kk tpos) (.Call (.Name "zip" p) [e, e2] [] pos) (iZipG X.K ta) := by
  refine ⟨fun pins s σ H R I h => ?_⟩
  refine Call_ (ld_blt I hg hm PyProof.Rows.boot_zip (PyProof.Rows.callWith_type1 (thn (ha.run pos pins s σ H _ I h) fun us s1 ⟨vs, H1, I1, r1, q1⟩ => ?_) hs hpl))
  obtain ⟨k1, k2, a, b, xs, ys, ex, hqx, hqy, q⟩ := q1
  subst ex
  cases r1 with
  | cons r rr =>
    cases rr with
    | cons r' rr =>
      cases rr
      cases r
      cases r'
      have fresh5 : ∀ c, c ∈ [s1.heap.objs.size + 4, s1.heap.objs.size + 2, s1.heap.objs.size + 3, s1.heap.objs.size, s1.heap.objs.size + 1] → FpOk X pins H1 c := fun c hcm => by
        have e' : c = s1.heap.objs.size + 4 ∨ c = s1.heap.objs.size + 2 ∨ c = s1.heap.objs.size + 3 ∨ c = s1.heap.objs.size ∨ c = s1.heap.objs.size + 1 := by simpa using hcm
        have hle : s1.heap.objs.size ≤ c := by
          rcases e' with z | z | z | z | z
          · rw [z]; exact Nat.le_add_right _ _
          · rw [z]; exact Nat.le_add_right _ _
          · rw [z]; exact Nat.le_add_right _ _
          · rw [z]; exact Nat.le_refl _
          · rw [z]; exact Nat.le_add_right _ _
        exact I1.fpOk hle (I1.hok.fresh hle)
      obtain ⟨its, rv, p1⟩ := k1.read I1 hqx
      obtain ⟨its2, rv2, p2⟩ := k2.read I1 hqy
      have la := k1.lt _ _ _ p1
      have lb := k2.lt _ _ _ p2
      refine zip_begins2 (k1.begins a its.toArray) (k2.begins b its2.toArray) p1 p2 fun h' hz hTI hTO h1 h2 hsz hk => wpAny_pyIter_zip hz ?_
      have I2 : Inv X pins σ H1 { s1 with heap := h' } := I1.kept (t' := s1.toks) hk
      have hsep : ZipSep2 (s1.heap.objs.size + 4) (s1.heap.objs.size + 2) (s1.heap.objs.size + 3) s1.heap.objs.size (s1.heap.objs.size + 1) [s1.heap.objs.size, a] [s1.heap.objs.size + 1, b] :=
        zip_sep2 (fp1 := [a]) (fp2 := [b]) (fun c hcm => by rw [List.mem_singleton.mp hcm]; exact la) (fun c hcm => by rw [List.mem_singleton.mp hcm]; exact lb)
      exact ⟨s1.heap.objs.size + 4, [s1.heap.objs.size + 4, s1.heap.objs.size + 2, s1.heap.objs.size + 3, s1.heap.objs.size, s1.heap.objs.size + 1], _, _, H1, rfl, I2,
        turn_zipG hsep (Nat.ne_of_lt la) (Nat.ne_of_lt (Nat.lt_succ_of_lt lb)), ⟨hz, hTI, ⟨_, _, hTO⟩, k1.start _ _ _ h1, k2.start _ _ _ h2⟩, fresh5, q⟩

/-! ### enumerate -/
set_option maxHeartbeats 1000000 in
theorem meets_enumerate_newG {v : Value} {o : Obj} {H : Heap → Prop} (B : Begins v o H) :
    Meets (Builtin.«enumerate.__new__» ⟨[.type "enumerate", v], []⟩) (fun _ R s => H s.heap ∧
      R (.ok (.ret (.ref (s.heap.push o).objs.size))) { s with heap := (s.heap.push o).push { cls := .type "enumerate", data := .fields #[.none, .bool false, .ref s.heap.objs.size, rawInt 0, .none, .none] } }) :=
  .of_wp fun prog w A R s h => by
    obtain ⟨hp, g, d, tk, os⟩ := s; obtain ⟨h1, h⟩ := h
    have hsub := sub_enumerate
    have q1 : ∀ {A' : Around} {E : Value → Shared → Prop} {Q : Value → Shared → Prop}, Q (.ref hp.objs.size) ⟨hp.push o, g, d, tk, os⟩ → wpAny (model prog w) A' (pyIter v) Q E ⟨hp, g, d, tk, os⟩ :=
      fun q => B.iter prog w _ _ ⟨hp, g, d, tk, os⟩ _ h1 q
    wp_walk using q1
    refine wpAny_stack_any fun st => wpAny_pure ?_
    split
    · rename_i c _ _ _ _ _
      cases (c == Value.type "enumerate")
      · wp_walk using q1
        exact ⟨_, rfl, h⟩
      · wp_walk using q1
        exact ⟨_, rfl, h⟩
    · wp_walk using q1
      exact ⟨_, rfl, h⟩
theorem call_enumerateG {prog : Program} {w : World} {A : Around} {E : Value → Shared → Prop} {s : Shared} {v : Value} {o : Obj} {H : Heap → Prop} {Q : Value → Shared → Prop} (B : Begins v o H) (h1 : H s.heap)
    (h : ∀ h', IsEnum h' (s.heap.objs.size + 1) s.heap.objs.size 0 .none → h'.get? s.heap.objs.size = some o → h'.objs.size = s.heap.objs.size + 2 →
      (∀ b o, s.heap.get? b = some o → h'.get? b = some o) → Q (.ref (s.heap.objs.size + 1)) { s with heap := h' }) :
    wpAny (model prog w) A (call (.type "enumerate") [v]) Q E s := by
  refine callType_new F.called_enumerate (by decide) (F.typeCall_enumerate_1 _) (F.newCall_enumerate_1 _) (fun obj => F.args_object_init_2 obj _) F.entry_enumerate_new
    (meets_enumerate_newG B) ⟨h1, ?_⟩
  have hz : (s.heap.push o).objs.size = s.heap.objs.size + 1 := Heap.size_push ..
  show _ ∧ _
  rw [hz]
  have he : IsEnum ((s.heap.push o).push { cls := .type "enumerate", data := .fields #[.none, .bool false, .ref s.heap.objs.size, rawInt 0, .none, .none] }) (s.heap.objs.size + 1) s.heap.objs.size 0 .none := by
    have := Heap.get?_push_size (s.heap.push o) (o := { cls := .type "enumerate", data := .fields #[.none, .bool false, .ref s.heap.objs.size, rawInt 0, .none, .none] }) rfl
    rw [hz] at this
    exact this
  exact ⟨⟨_, he, rfl⟩, h _ he (Heap.get?_push_of_some _ (Heap.get?_push_size _ B.free)) (by rw [Heap.size_push, hz]) fun b o x => Heap.get?_push_of_some _ (Heap.get?_push_of_some _ x)⟩
def IteT (K : PySem.W.Frag) (a : Addr) : It :=
  ⟨fun i H => ∃ (xs : List V) (x : V), SqT K H a xs ∧ xs[i]? = some x, fun i H v H' => ∃ T x, v = .ref T ∧ H T = none ∧ H' = upd H T (.tup [.int (i : Nat), x]) ∧ ∀ xs, SqT K H a xs → xs[i]? = some x, fun i H => ∃ xs : List V, SqT K H a xs ∧ xs.length = i⟩
theorem turn_enumT {P : Program} {w : World} {K : PySem.W.Frag} {elts : List Expr} {kk : Nat} {tpos : Pos} {a e it : Addr} (hne : e ≠ it) (hea : e ≠ a) (hai : a ≠ it) :
    Turn P w K (.Tuple elts kk tpos) (IteT K a) [e, it] e (fun i h => (∃ old, IsEnum h e it ((i : Nat) : Int) old) ∧ h.IsTupleIter it a i) where
  mem := by simp
  obj := fun i h st b hb => by
    obtain ⟨⟨old, he⟩, ⟨o, ho, hc, hd⟩⟩ := st
    have e' : b = e ∨ b = it := by simpa using hb
    rcases e' with z | z
    · rw [z]; exact ⟨_, he, fun v q => nomatch q⟩
    · rw [z]; exact ⟨o, ho, fun v q => by rw [hd] at q; cases q⟩
  keep := fun i h h' st k => let ⟨⟨old, he⟩, hi⟩ := st; ⟨⟨old, k e (by simp) _ he⟩, hi.at fun o q => k it (by simp) o q⟩
  item := by
    intro X hP hw hK hc i pins s σ H E I hf st hg
    subst hP hw hK
    obtain ⟨⟨old, he⟩, hit⟩ := st
    obtain ⟨xs, x, hq, hx⟩ := hg
    obtain ⟨its, rv, p, hz⟩ := I.tuple hq
    obtain ⟨u, hu, ru⟩ := rv.get hx
    have hel : e < s.heap.objs.size := Heap.lt_size he
    have hil : it < s.heap.objs.size := by obtain ⟨_, q, _⟩ := hit; exact Heap.lt_size q
    have l1 : i < its.toArray.size := by
      have q := (List.getElem?_eq_some_iff.mp hu).1
      simpa using q
    refine wpAny_pyNext_enum_itemC (Draws.tuple (A := X.A.in1) (I.ok.hd hc) it a hai its.toArray) he ⟨hit, p⟩ l1 hne (by simp [hne, hea]) fun v h' tk hv ho hit' hT hsz hk => ?_
    have e1 : v = u := by
      have q1' : its[i]? = some v := by simpa using hv
      rw [hu] at q1'
      exact (Option.some.inj q1').symm
    subst e1
    refine ⟨_, rfl, wpAny_letOwnedTupleGo_enum (s := { s with heap := h', toks := tk + 1 }) ho fun h'' he' sb => ?_⟩
    have hT2 : h''.get? s.heap.objs.size = some { cls := .type "tuple", data := .seq #[.int i tk, v] } := (sb.2 _ (Nat.ne_of_gt hel)).trans hT
    have new : ObjOk X.prog X.w (upd H s.heap.objs.size (.tup [.int (i : Nat), x])) h'' s.heap.objs.size (.tup [.int (i : Nat), x]) :=
      ⟨by show 2 ≤ sizeLine; decide, [.int i tk, v], .cons ⟨_, rfl⟩ (.cons ru .nil), ⟨_, hT2, rfl, _, rfl⟩⟩
    have I1 : Inv X pins σ (upd H s.heap.objs.size (.tup [.int (i : Nat), x])) { s with heap := h'', toks := tk + 1 } :=
      I.turnedNew (ch := [e, it]) (fun b ob hb q => (sb.2 b (fun z => hb (by simp [z]))).trans (hk b ob (fun z => hb (by simp [z])) (fun z => hb (by simp [z])) q)) hf (Nat.le_refl _) new
    refine ⟨.ref s.heap.objs.size, _, I1, rfl, ⟨_, x, rfl, I.hok.fresh (Nat.le_refl _), rfl, fun ys hy => by rw [I.tuple_inj hy hq]; exact hx⟩, ⟨⟨v, ?_⟩, hit'.1.at fun o q => (sb.2 it (Ne.symm hne)).trans q⟩, fun b hb => ?_⟩
    · have e1 : ((i + 1 : Nat) : Int) = (i : Int) + 1 := by omega
      rw [e1]; exact he'
    · have hb' : b < s.heap.objs.size := by
        have e' : b = e ∨ b = it := by simpa using hb
        rcases e' with z | z
        · rw [z]; exact hel
        · rw [z]; exact hil
      rw [upd_ne (Nat.ne_of_lt hb')]
      exact (hf b hb).1
  done := by
    intro X hP hw hK hc i pins s σ H E I hf st hg
    subst hP hw hK
    obtain ⟨⟨old, he⟩, hit⟩ := st
    obtain ⟨xs, hq, hx⟩ := hg
    obtain ⟨its, rv, p, hz⟩ := I.tuple hq
    obtain ⟨f0, f1, f2, f3, f4, f5⟩ := hf it (by simp)
    have hl := rv.length
    have ei : i = its.toArray.size := by simp; omega
    have he2 := he
    have st2 : s.heap.IsTupleIter it a its.toArray.size ∧ s.heap.IsTuple a its.toArray := by
      rw [← ei]
      exact ⟨hit, p⟩
    exact wpAny_pyNext_enum_endD (Draws.tuple (A := X.A.in1) (I.ok.hd hc) it a hai its.toArray) he st2 fun h' eb => ⟨rfl, I.turned (t' := s.toks) (fun b o hb q => eb b o hb q) f0 f1 f3 f4 f5⟩
  self := fun A i s Q E st h => let ⟨⟨_, he⟩, _⟩ := st; wpAny_pyIter_enum he h
def iEnumT (K : PySem.W.Frag) (ta : TA) : TI := fun σ H R => ta σ H fun vs H1 => ∃ a xs, vs = [.ref a] ∧ SqT K H1 a xs ∧ R (IteT K a) H1
theorem pi_enumT {X : Cx} {e : Expr} {ta : TA} {p pos tpos : Pos} {elts : List Expr} {kk : Nat} (hg : Gl X "enumerate") (hm : X.mg "enumerate" = none) (ha : PA X [e] ta) (hs : starEach [e] X.env = [(false, eval e X.env)] := by rfl) :
    PI X (.Tuple elts kk tpos) (.Call (.Name "enumerate" p) [e] [] pos) (iEnumT X.K ta) := by
  refine ⟨fun pins s σ H R I h => ?_⟩
  refine Call_ (ld_blt I hg hm boot_enumerate (PyProof.Rows.callWith_type1 (thn (ha.run pos pins s σ H _ I h) fun us s1 ⟨vs, H1, I1, r1, q1⟩ => ?_) hs rfl))
  obtain ⟨a, xs, ex, hq, q⟩ := q1
  subst ex
  cases r1 with
  | cons r rr =>
    cases rr
    cases r
    obtain ⟨its, rv, p', hz⟩ := I1.tuple hq
    have la := p'.lt
    refine call_enumerateG (begins_tuple a its.toArray) (show s1.heap.IsTuple a its.toArray from p') fun h' he hit hsz hk => wpAny_pyIter_enum he ?_
    have I2 : Inv X pins σ H1 { s1 with heap := h' } := I1.kept (t' := s1.toks) hk
    refine ⟨s1.heap.objs.size + 1, [s1.heap.objs.size + 1, s1.heap.objs.size], _, _, H1, rfl, I2, turn_enumT (Nat.succ_ne_self _) (Nat.ne_of_gt (Nat.lt_succ_of_lt la)) (Nat.ne_of_lt la), ⟨⟨.none, he⟩, kdT.start _ _ _ hit⟩, fun b hb => ?_, q⟩
    have e' : b = s1.heap.objs.size + 1 ∨ b = s1.heap.objs.size := by simpa using hb
    have hle : s1.heap.objs.size ≤ b := by
      rcases e' with z | z
      · rw [z]; exact Nat.le_add_right _ _
      · rw [z]; exact Nat.le_refl _
    exact I1.fpOk hle (I1.hok.fresh hle)

/-! ### tuple * 1 -/
theorem tuple_mul1 (l : Addr) (items : Array Value) (n : Nat) (dd : Option Addr) (sl : Array (Option Value)) (u : Tok) (c1 : (items.isEmpty || (1 : Int) == 1) = true) :
    Meets (Builtin.«tuple.__mul__» ⟨[.ref l, .int 1 u], []⟩) (fun _ R s => s.heap.get? l = some { cls := .type "tuple", dict := dd, data := .seq items n, slots := sl } ∧ R (.ok (.ret (.ref l))) s) :=
  .of_wp fun prog w A R s h => by
    obtain ⟨hp, g, d, tk, os⟩ := s
    obtain ⟨hl, h⟩ := h
    have f1 := AutoSeq1.idx_int
    wp_walk using wpAny_loadPart' hl
    first
      | exact ⟨_, rfl, h⟩
      | (refine wpAny_ite_true c1 ?_; wp_walk using wpAny_loadPart' hl; exact ⟨_, rfl, h⟩)
def rRep1 (K : PySem.W.Frag) : R2 := fun x y H Q => ∃ l xs, x = .ref l ∧ y = .int 1 ∧ SqT K H l xs ∧ Q (.ref l) H
theorem op_rep1 {X : Cx} : OpR X (binaryOp .Mult) (rRep1 X.K) := by
  intro pins s σ H x y v u Q I rx ry h
  obtain ⟨l, xs, rfl, rfl, hT, q⟩ := h
  cases rx
  obtain ⟨t, rfl⟩ := ry
  obtain ⟨its, r, ⟨⟨cls, dd, data, sl⟩, ho, hc, n, hd⟩, hs⟩ := I.tuple hT
  simp only at hc hd
  subst hc hd
  exact wpAny_binaryOp_repeat_ref (T := "tuple") (U := "int") (by decide) ⟨_, ho, rfl⟩ (fun s' => typeIs_int s' 1 t) noFill_tuple_mul F.fills_int_mul F.slot_int_rmul repeat_tuple F.slot_int_index.lookup
    (call_meets F.slot_int_rmul (typeIs_int s 1 t) F.entry_int_rmul (F.args_int_rmul_2 _ _) (int_rmul_tuple 1 t l its.toArray n dd sl)
      ⟨ho, rfl, ⟨_, ho, rfl⟩, call_meets F.slot_tuple_mul ⟨_, ho, rfl⟩ F.entry_tuple_mul (F.args_tuple_mul_2 _ _) (tuple_mul1 l its.toArray n dd sl t (by simp)) ⟨ho, ⟨.ref l, H, I, rfl, q⟩⟩⟩)
end L3

/-! text L3h -/
set_option Elab.async false
set_option linter.all false
set_option maxRecDepth 100000
set_option maxHeartbeats 4000000
/-! L3h: readings over data of built-ins: len, sum, all, sorted, abs, max, isinstance, tuple, list, append, join, in, ==, +, *, dicts, zip, enumerate. -/
namespace L3
open PySem L2

section
variable {K : PySem.W.Frag} {ρ : DEnv} {m : Mem} {P : Post} {t ta tb te : TE} {tr : TA} {d x y : D}
/-! ### calls -/
abbrev rLenQ (K : PySem.W.Frag) : List V → Hp → VK → Prop := fun xs H Q => ∃ p ys, xs = [.ref p] ∧ (SqL K H p ys ∨ SqT K H p ys) ∧ Q (.int ys.length) H
theorem cs_len {ds : List D} (h : SeqD m x ds) (p : P (.int (ds.length : Nat)) m) : CallS K (rLenQ K) [x] m P := fun S H vs e M r Q hQ => by
  obtain ⟨v, r', rfl, q1, q2⟩ := r
  have q2 : r' = [] := q2
  subst q2
  obtain ⟨a, xs, rfl, h1, h2⟩ := h.rep e M q1
  refine ⟨a, xs, rfl, h1, ?_⟩
  rw [← h2.len]
  exact hQ _ m _ S H p (Step.refl e M) rfl
theorem rep1 {S : Hp} {vs : List V} (r : Reps K S [x] vs) : ∃ v, vs = [v] ∧ Rep K S x v := by
  obtain ⟨v, r', rfl, q1, q2⟩ := r
  have q2 : r' = [] := q2
  subst q2
  exact ⟨v, rfl, q1⟩
theorem rep2 {S : Hp} {vs : List V} (r : Reps K S [x, y] vs) : ∃ v w, vs = [v, w] ∧ Rep K S x v ∧ Rep K S y w := by
  obtain ⟨v, r', rfl, q1, r2⟩ := r
  obtain ⟨w, rfl, q2⟩ := rep1 r2
  exact ⟨v, w, rfl, q1, q2⟩
theorem cs_sum {ns : List Int} (h : LstAt m x (ns.map D.int)) (p : P (.int ns.sum) m) : CallS K (rSum K) [x] m P := fun S H vs e M r Q hQ => by
  obtain ⟨v, rfl, q1⟩ := rep1 r
  obtain ⟨a, xs, rfl, h1, h2⟩ := h.rep e M q1
  have h3 := Reps.of_ints h2
  subst h3
  exact ⟨a, ns, rfl, h1, hQ _ m _ S H p (Step.refl e M) rfl⟩
abbrev rAllU (K : PySem.W.Frag) : List V → Hp → VK → Prop := fun xs H Q => rAll K xs H Q ∨ rAllT K xs H Q
theorem cr_allU {X : Cx} (hc : X.calm = true) : CallR X (.builtin "all") (rAllU X.K) := (cr_all hc).or (cr_allT hc)
theorem cs_all {bs : List Bool} (h : SeqD m x (bs.map D.bl)) (p : P (.bl (bs.all id)) m) : CallS K (rAllU K) [x] m P := fun S H vs e M r Q hQ => by
  obtain ⟨v, rfl, q1⟩ := rep1 r
  obtain ⟨a, xs, rfl, h1, h2⟩ := h.rep e M q1
  have h3 := Reps.of_bls h2
  subst h3
  rcases h1 with h1 | h1
  · exact .inl ⟨a, bs, rfl, h1, hQ _ m _ S H p (Step.refl e M) rfl⟩
  · exact .inr ⟨a, bs, rfl, h1, hQ _ m _ S H p (Step.refl e M) rfl⟩
theorem cs_sorted {ns : List Int} (h : LstAt m x (ns.map D.int)) (hl : ns.length < 64) (p : ∀ ns' : List Int, ns'.Perm ns → ns'.Pairwise (· ≤ ·) → P (.lst (ns'.map D.int)) m) : CallS K (rSorted K) [x] m P := fun S H vs e M r Q hQ => by
  obtain ⟨v, rfl, q1⟩ := rep1 r
  obtain ⟨a, xs, rfl, h1, h2⟩ := h.rep e M q1
  have h3 := Reps.of_ints h2
  subst h3
  refine ⟨a, ns, rfl, h1, hl, fun ns' q hp hs hq => ?_⟩
  have st2 := Step.still (o := .lst (ns'.map V.int)) e M hq
  exact hQ _ m _ _ _ (p ns' hp hs) st2 ⟨q, _, rfl, .inl (.inl upd_same), Reps.ints⟩
abbrev rAbs : List V → Hp → VK → Prop := fun xs H Q => ∃ i, xs = [.int i] ∧ Q (.int (if i < 0 then -i else i)) H
theorem cs_abs {i : Int} (p : P (.int (if i < 0 then -i else i)) m) : CallS K rAbs [.int i] m P := fun S H vs e M r Q hQ => by
  obtain ⟨v, rfl, q1⟩ := rep1 r
  have q1 : v = .int i := q1
  subst q1
  exact ⟨i, rfl, hQ _ m _ S H p (Step.refl e M) rfl⟩
abbrev rMax2 : List V → Hp → VK → Prop := fun xs H Q => ∃ i j, xs = [.int i, .int j] ∧ Q (.int (if j > i then j else i)) H
abbrev rMin2 : List V → Hp → VK → Prop := fun xs H Q => ∃ i j, xs = [.int i, .int j] ∧ Q (.int (if j < i then j else i)) H
theorem cs_max2 {i j : Int} (p : P (.int (if j > i then j else i)) m) : CallS K rMax2 [.int i, .int j] m P := fun S H vs e M r Q hQ => by
  obtain ⟨v, w, rfl, q1, q2⟩ := rep2 r
  have q1 : v = .int i := q1
  have q2 : w = .int j := q2
  subst q1 q2
  exact ⟨i, j, rfl, hQ _ m _ S H p (Step.refl e M) rfl⟩
theorem cs_min2 {i j : Int} (p : P (.int (if j < i then j else i)) m) : CallS K rMin2 [.int i, .int j] m P := fun S H vs e M r Q hQ => by
  obtain ⟨v, w, rfl, q1, q2⟩ := rep2 r
  have q1 : v = .int i := q1
  have q2 : w = .int j := q2
  subst q1 q2
  exact ⟨i, j, rfl, hQ _ m _ S H p (Step.refl e M) rfl⟩
abbrev rListOf (K : PySem.W.Frag) : List V → Hp → VK → Prop := fun xs H Q => ∃ p ys, xs = [.ref p] ∧ (SqL K H p ys ∨ SqT K H p ys) ∧ ∀ l, H l = none → Q (.ref l) (upd H l (.lst ys))
/-- list(xs), plain -/
theorem cs_list {ds : List D} (h : SeqD m x ds) (p : P (.lst ds) m) : CallS K (rListOf K) [x] m P := fun S H vs e M r Q hQ => by
  obtain ⟨v, rfl, q1⟩ := rep1 r
  obtain ⟨a, xs, rfl, h1, h2⟩ := h.rep e M q1
  refine ⟨a, xs, rfl, h1, fun l hl => ?_⟩
  have st2 := Step.still (o := .lst xs) e M hl
  exact hQ _ m _ _ _ p st2 ⟨l, _, rfl, .inl (.inl upd_same), h2.mono st2.ss⟩
/-- list(xs), that will change -/
theorem cs_listM {ds : List D} (h : SeqD m x ds) (p : ∀ a, m a = none → P (.ptr a) (mupd m a (.lst ds))) : CallS K (rListOf K) [x] m P := fun S H vs e M r Q hQ => by
  obtain ⟨v, rfl, q1⟩ := rep1 r
  obtain ⟨a, xs, rfl, h1, h2⟩ := h.rep e M q1
  refine ⟨a, xs, rfl, h1, fun l hl => ?_⟩
  have st2 := Step.mut (o := .lst xs) (u := .lst ds) e M hl ⟨xs, rfl, h2⟩
  exact hQ _ _ _ _ _ (p l (M.free hl)) st2 rfl
abbrev rTupleOf (K : PySem.W.Frag) : List V → Hp → VK → Prop := fun xs H Q => ∃ p ys, xs = [.ref p] ∧ ((SqL K H p ys ∧ ∀ l, H l = none → Q (.ref l) (upd H l (.tup ys))) ∨ (SqT K H p ys ∧ Q (.ref p) H))
theorem cs_tuple {ds : List D} (h : SeqD m x ds) (p : P (.tup ds) m) : CallS K (rTupleOf K) [x] m P := fun S H vs e M r Q hQ => by
  obtain ⟨v, rfl, q1⟩ := rep1 r
  rcases h with h | rfl
  · obtain ⟨a, xs, rfl, h1, h2⟩ := h.rep e M q1
    refine ⟨a, xs, rfl, .inl ⟨h1, fun l hl => ?_⟩⟩
    have st2 := Step.still (o := .tup xs) e M hl
    exact hQ _ m _ _ _ p st2 ⟨l, _, rfl, .inl (.inl upd_same), h2.mono st2.ss⟩
  · have q1' := q1
    obtain ⟨a, xs, rfl, h1, h2⟩ := tup_rep e q1
    exact ⟨a, xs, rfl, .inr ⟨h1, hQ _ m _ S H p (Step.refl e M) q1'⟩⟩
/-- built-in classes of data -/
def tyD : D → String
  | .non => "NoneType"
  | .bl _ => "bool"
  | .int _ => "int"
  | .str _ => "str"
  | .tup _ => "tuple"
  | .lst _ => "list"
  | _ => ""
theorem tyX_of {S H : Hp} {v : V} (e : Same S H) (r : Rep K S d v) (h : tyD d ≠ "") : TyX K H v (.type (tyD d)) := by
  cases d with
  | non =>
    cases r
    exact .base .non
  | bl b =>
    cases r
    exact .base (.bl b)
  | int i =>
    cases r
    exact .base (.int i)
  | str s =>
    cases r
    exact .base (.str s)
  | tup ds =>
    obtain ⟨p, xs, rfl, h1, _⟩ := tup_rep e r
    rcases h1 with (h1 | ⟨o, h1⟩) | ⟨o, its, n, k1, k2, _⟩
    · exact .base (.tup h1)
    · exact .fTuple h1
    · exact .kTuple k1 k2
  | lst ds =>
    obtain ⟨p, xs, rfl, h1, _⟩ := r
    rcases h1 with (h1 | ⟨o, h1⟩) | ⟨o, its, n, k1, k2, _⟩
    · exact .base (.lst (e _ _ h1))
    · exact .base (.frz (e _ _ h1))
    · exact .kList k1 k2
  | ptr a => exact absurd rfl h
  | obj C ns ds => exact absurd rfl h
  | ty n => exact absurd rfl h
theorem cs_isi {T : String} {b : Bool} (h : tyD x ≠ "") (k : kitB (tyD x) T = some b) (p : P (.bl b) m) : CallS K (rIsi K) [x, .ty T] m P := fun S H vs e M r Q hQ => by
  obtain ⟨v, w, rfl, q1, q2⟩ := rep2 r
  have q2 : w = .ty T := q2
  subst q2
  exact ⟨v, _, _, _, b, rfl, .ty T, tyX_of e q1 h, kit_ty k, hQ _ m _ S H p (Step.refl e M) rfl⟩
theorem sim_ty {n : String} (p : P (.ty n) m) : Sim K (tC (.ty n)) ρ m P := fun S H σ e M R Q hQ => hQ _ m _ S H p (Step.refl e M) rfl
theorem sim_ref {a : Addr} (p : P (.ptr a) m) : Sim K (tC (.ref a)) ρ m P := fun S H σ e M R Q hQ => hQ _ m _ S H p (Step.refl e M) rfl

/-! ### methods of built-ins -/
theorem sim_append {to : TE} (h : Sim K to ρ m fun x m1 => ∃ a ds, x = .ptr a ∧ m1 a = some (.lst ds) ∧ Sim K te ρ m1 fun y m2 => ∃ ds2, m2 a = some (.lst ds2) ∧ ds2.length < 100000 ∧ P .non (mupd m2 a (.lst (ds2 ++ [y])))) :
    Sim K (tBM K "list" rAppend to (tCons te tNil)) ρ m P := fun S H σ e M R Q hQ => by
  refine h S H σ e M R _ fun x m1 v S1 H1 p1 st1 r1 => ?_
  obtain ⟨a, ds, rfl, hm, hp⟩ := p1
  have r1 : v = .ref a := r1
  subst r1
  obtain ⟨_, xs, h1, h2⟩ := st1.mr a _ hm
  refine ⟨Or.inl ⟨rfl, xs, SqL.of h1⟩, ?_⟩
  refine hp S1 H1 σ st1.sh st1.mr (R.mono st1.ss) _ fun y m2 w S2 H2 p2 st2 r2 => ?_
  obtain ⟨ds2, hm2, hl, hp2⟩ := p2
  obtain ⟨_, xs2, h3, h4⟩ := st2.mr a _ hm2
  have st3 : Step K S2 H2 m2 S2 (upd H2 a (.lst (xs2 ++ [w]))) (mupd m2 a (.lst (ds2 ++ [y]))) := Step.write st2.sh st2.mr hm2 ⟨_, rfl, h4.append (.one r2)⟩
  exact ⟨a, xs2, w, rfl, rfl, h3, by rw [← h4.len]; exact Nat.lt_of_lt_of_le hl (by decide), hQ _ _ _ _ _ hp2 ((st1.trans st2).trans st3) rfl⟩
abbrev rJoin (K : PySem.W.Frag) : V → List V → Hp → VK → Prop := fun x xs H Q => ∃ a p, ∃ ys : List Str, x = .str a ∧ xs = [.ref p] ∧ (SqL K H p (ys.map V.str) ∨ SqT K H p (ys.map V.str)) ∧ (ys.map (·.length)).sum + ys.length * a.length ≤ 16777216 ∧ Q (.str (Txt.join a ys)) H
theorem sim_join {to : TE} (h : Sim K to ρ m fun x m1 => ∃ a, x = .str a ∧ Sim K te ρ m1 fun y m2 => ∃ ys : List Str, SeqD m2 y (ys.map D.str) ∧ (ys.map (·.length)).sum + ys.length * a.length ≤ 16777216 ∧ P (.str (Txt.join a ys)) m2) :
    Sim K (tM1 (rJoin K) to te) ρ m P := fun S H σ e M R Q hQ => by
  refine h S H σ e M R _ fun x m1 v S1 H1 p1 st1 r1 => ?_
  obtain ⟨a, rfl, hp⟩ := p1
  refine ⟨⟨a, r1⟩, ?_⟩
  refine hp S1 H1 σ st1.sh st1.mr (R.mono st1.ss) _ fun y m2 w S2 H2 p2 st2 r2 => ?_
  obtain ⟨ys, hs, hl, hp2⟩ := p2
  obtain ⟨p', xs, rfl, h1, h2⟩ := hs.rep st2.sh st2.mr r2
  have h3 := Reps.of_strs h2
  subst h3
  exact ⟨a, p', ys, r1, rfl, h1, hl, hQ _ _ _ _ _ hp2 (st1.trans st2) rfl⟩

/-! ### == of data -/
mutual
def toPy : D → Option PyData
  | .non => some .none
  | .bl b => some (.bool b)
  | .int i => some (.int i)
  | .str s => some (.str s)
  | .tup ds => match toPys ds with
    | some ps => some (.tuple ps)
    | none => none
  | .lst ds => match toPys ds with
    | some ps => some (.list ps)
    | none => none
  | .obj _ _ _ => none
  | .ptr _ => none
  | .ty _ => none
def toPys : List D → Option (List PyData)
  | [] => some []
  | d :: ds => match toPy d, toPys ds with
    | some p, some ps => some (p :: ps)
    | _, _ => none
end
mutual
theorem dp_of {S : Hp} : ∀ {d : D} {v : V} {p : PyData}, Rep K S d v → toPy d = some p → Dp K S v p
  | .non, v, p, r, h => by
    cases h
    cases r
    exact .non
  | .bl b, v, p, r, h => by
    cases h
    cases r
    exact .bl b
  | .int i, v, p, r, h => by
    cases h
    cases r
    exact .int i
  | .str s, v, p, r, h => by
    cases h
    cases r
    exact .str s
  | .tup ds, v, p, r, h => by
    obtain ⟨a, xs, rfl, h1, h2⟩ := r
    unfold toPy at h
    cases q : toPys ds with
    | none =>
      rw [q] at h
      cases h
    | some ps =>
      rw [q] at h
      cases h
      exact .tup h1 (dps_of h2 q)
  | .lst ds, v, p, r, h => by
    obtain ⟨a, xs, rfl, h1, h2⟩ := r
    unfold toPy at h
    cases q : toPys ds with
    | none =>
      rw [q] at h
      cases h
    | some ps =>
      rw [q] at h
      cases h
      exact .lst h1 (dps_of h2 q)
  | .obj _ _ _, v, p, r, h => by cases h
  | .ptr _, v, p, r, h => by cases h
  | .ty _, v, p, r, h => by cases h
theorem dps_of {S : Hp} : ∀ {ds : List D} {xs : List V} {ps : List PyData}, Reps K S ds xs → toPys ds = some ps → DpAll K S xs ps
  | [], xs, ps, r, h => by
    have e : xs = [] := r
    subst e
    cases h
    exact .nil
  | d :: ds, xs, ps, r, h => by
    obtain ⟨x, r', rfl, h1, h2⟩ := r
    unfold toPys at h
    cases q1 : toPy d with
    | none =>
      rw [q1] at h
      cases h
    | some p1 =>
      cases q2 : toPys ds with
      | none =>
        rw [q1, q2] at h
        cases h
      | some p2 =>
        rw [q1, q2] at h
        cases h
        exact .cons (dp_of h1 q1) (dps_of h2 q2)
end
theorem ops_eqD {p q : PyData} (hx : toPy x = some p) (hy : toPy y = some q) (sp : SeqAt.shaped p = true) (sq : SeqAt.shaped q = true) (h : P (.bl (PyData.eqv p q)) m) : OpS K (rEqD K) x y m P := fun S H vx vy e M rx ry Q hQ =>
  ⟨p, q, dp_of (rx.mono e) hx, dp_of (ry.mono e) hy, sp, sq, hQ _ m _ S H h (Step.refl e M) rfl⟩
theorem ops_neD {p q : PyData} (hx : toPy x = some p) (hy : toPy y = some q) (sp : SeqAt.shaped p = true) (sq : SeqAt.shaped q = true) (h : P (.bl (!PyData.eqv p q)) m) : OpS K (rNeD K) x y m P := fun S H vx vy e M rx ry Q hQ =>
  ⟨p, q, dp_of (rx.mono e) hx, dp_of (ry.mono e) hy, sp, sq, hQ _ m _ S H h (Step.refl e M) rfl⟩
/-- == [] of a list of anything -/
theorem ops_eqE {ds : List D} (hx : LstAt m x ds) (hy : LstAt m y []) (h : P (.bl ds.isEmpty) m) : OpS K (rEqE K) x y m P := fun S H vx vy e M rx ry Q hQ => by
  obtain ⟨a, xs, rfl, h1, h2⟩ := hx.rep e M rx
  obtain ⟨b, ys, rfl, h3, h4⟩ := hy.rep e M ry
  have h4 : ys = [] := h4
  subst h4
  refine ⟨a, b, xs, rfl, rfl, h1, h3, ?_⟩
  have hl := h2.len
  have e1 : xs.isEmpty = ds.isEmpty := by
    cases xs <;> cases ds <;> simp at hl ⊢
  rw [e1]
  exact hQ _ m _ S H h (Step.refl e M) rfl

/-! ### in -/
theorem inV_strs {s : Str} {ss : List Str} : inV (.str s) (ss.map V.str) = decide (s ∈ ss) := by
  induction ss with
  | nil => rfl
  | cons a r ih =>
    unfold inV at ih ⊢
    rw [List.map_cons, List.any_cons, ih]
    show ((a == s) || decide (s ∈ r)) = decide (s ∈ a :: r)
    by_cases e : a = s
    · subst e
      simp
    · have e2 : ¬ s = a := fun z => e z.symm
      simp [e, e2]
theorem inV_ints {s : Int} {ss : List Int} : inV (.int s) (ss.map V.int) = decide (s ∈ ss) := by
  induction ss with
  | nil => rfl
  | cons a r ih =>
    unfold inV at ih ⊢
    rw [List.map_cons, List.any_cons, ih]
    show ((a == s) || decide (s ∈ r)) = decide (s ∈ a :: r)
    by_cases e : a = s
    · subst e
      simp
    · have e2 : ¬ s = a := fun z => e z.symm
      simp [e, e2]
theorem inV_bls {s : Bool} {ss : List Bool} : inV (.bl s) (ss.map V.bl) = decide (s ∈ ss) := by
  induction ss with
  | nil => rfl
  | cons a r ih =>
    unfold inV at ih ⊢
    rw [List.map_cons, List.any_cons, ih]
    show ((a == s) || decide (s ∈ r)) = decide (s ∈ a :: r)
    by_cases e : a = s
    · subst e
      simp
    · have e2 : ¬ s = a := fun z => e z.symm
      simp [e, e2]
theorem flat_strs {ss : List Str} : (ss.map V.str).all flatV = true := by simp [flatV]
theorem flat_ints {ss : List Int} : (ss.map V.int).all flatV = true := by simp [flatV]
theorem flat_bls {ss : List Bool} : (ss.map V.bl).all flatV = true := by simp [flatV]
theorem ops_in_strs {neg : Bool} {s : Str} {ss : List Str} (hy : SeqD m y (ss.map D.str)) (h : P (.bl (if neg then !decide (s ∈ ss) else decide (s ∈ ss))) m) : OpS K (rIn K neg) (.str s) y m P := fun S H vx vy e M rx ry Q hQ => by
  cases rx
  obtain ⟨b, ys, rfl, h3, h4⟩ := hy.rep e M ry
  have h5 := Reps.of_strs h4
  subst h5
  refine ⟨b, _, rfl, h3, rfl, flat_strs, ?_⟩
  rw [inV_strs]
  exact hQ _ m _ S H h (Step.refl e M) rfl
theorem ops_in_ints {neg : Bool} {s : Int} {ss : List Int} (hy : SeqD m y (ss.map D.int)) (h : P (.bl (if neg then !decide (s ∈ ss) else decide (s ∈ ss))) m) : OpS K (rIn K neg) (.int s) y m P := fun S H vx vy e M rx ry Q hQ => by
  cases rx
  obtain ⟨b, ys, rfl, h3, h4⟩ := hy.rep e M ry
  have h5 := Reps.of_ints h4
  subst h5
  refine ⟨b, _, rfl, h3, rfl, flat_ints, ?_⟩
  rw [inV_ints]
  exact hQ _ m _ S H h (Step.refl e M) rfl
theorem ops_in_bls {neg : Bool} {s : Bool} {ss : List Bool} (hy : SeqD m y (ss.map D.bl)) (h : P (.bl (if neg then !decide (s ∈ ss) else decide (s ∈ ss))) m) : OpS K (rIn K neg) (.bl s) y m P := fun S H vx vy e M rx ry Q hQ => by
  cases rx
  obtain ⟨b, ys, rfl, h3, h4⟩ := hy.rep e M ry
  have h5 := Reps.of_bls h4
  subst h5
  refine ⟨b, _, rfl, h3, rfl, flat_bls, ?_⟩
  rw [inV_bls]
  exact hQ _ m _ S H h (Step.refl e M) rfl

/-! ### + and * of lists, tuples -/
theorem ops_catL {ds es : List D} (hx : LstAt m x ds) (hy : LstAt m y es) (hl : ds.length + es.length ≤ 100000) (h : P (.lst (ds ++ es)) m) : OpS K (rCatL K) x y m P := fun S H vx vy e M rx ry Q hQ => by
  obtain ⟨a, xs, rfl, h1, h2⟩ := hx.rep e M rx
  obtain ⟨b, ys, rfl, h3, h4⟩ := hy.rep e M ry
  refine ⟨a, b, xs, ys, rfl, rfl, h1, h3, by rw [← h2.len, ← h4.len]; exact sz_of hl, fun p hp => ?_⟩
  have st2 := Step.still (o := .lst (xs ++ ys)) e M hp
  exact hQ _ m _ _ _ h st2 ⟨p, _, rfl, .inl (.inl upd_same), (h2.append h4).mono st2.ss⟩
theorem ops_catT {ds es : List D} (hl : ds.length + es.length ≤ 100000) (h : P (.tup (ds ++ es)) m) : OpS K (rCatA K) (.tup ds) (.tup es) m P := fun S H vx vy e M rx ry Q hQ => by
  have rx' := rx
  have ry' := ry
  obtain ⟨a, xs, rfl, h1, h2⟩ := tup_rep e rx
  obtain ⟨b, ys, rfl, h3, h4⟩ := tup_rep e ry
  refine ⟨a, b, xs, ys, rfl, rfl, h1, h3, by rw [← h2.len, ← h4.len]; exact sz_of hl, fun z => ?_, fun _ z => ?_, fun _ _ p hp => ?_⟩
  · subst z
    have e1 : ds = [] := List.length_eq_zero_iff.mp h2.len
    subst e1
    exact hQ _ m _ S H h (Step.refl e M) ry'
  · subst z
    have e1 : es = [] := List.length_eq_zero_iff.mp h4.len
    subst e1
    rw [List.append_nil] at h
    exact hQ _ m _ S H h (Step.refl e M) rx'
  · have st2 := Step.still (o := .tup (xs ++ ys)) e M hp
    exact hQ _ m _ _ _ h st2 ⟨p, _, rfl, .inl (.inl upd_same), (h2.append h4).mono st2.ss⟩
/-- (d,) * n -/
abbrev rRepU (K : PySem.W.Frag) : R2 := fun x y H Q => rRepT K x y H Q ∨ rRep1 K x y H Q
theorem op_repU {X : Cx} : OpR X (binaryOp .Mult) (rRepU X.K) := op_repT.or op_rep1
theorem flat_rep {α : Type} (a : α) : ∀ n : Nat, (List.replicate n [a]).flatten = List.replicate n a
  | 0 => rfl
  | n + 1 => by
    rw [List.replicate_succ, List.flatten_cons, flat_rep a n, List.replicate_succ]
    rfl
theorem ops_rep {n : Nat} (h1 : 1 ≤ n) (h2 : n ≤ 1000) (h : P (.tup (List.replicate n d)) m) : OpS K (rRepU K) (.tup [d]) (.int n) m P := fun S H vx vy e M rx ry Q hQ => by
  cases ry
  have rx' := rx
  obtain ⟨a, xs, rfl, h3, h4⟩ := tup_rep e rx
  obtain ⟨v, rfl, h5⟩ := rep1 h4
  by_cases hn : n = 1
  · subst hn
    exact .inr ⟨a, _, rfl, rfl, h3, hQ _ m _ S H h (Step.refl e M) rx'⟩
  · refine .inl ⟨a, n, [v], rfl, rfl, h3, by simp, by omega, by omega, by simp, fun p hp => ?_⟩
    rw [Int.toNat_natCast, flat_rep]
    have st2 := Step.still (o := .tup (List.replicate n v)) e M hp
    exact hQ _ m _ _ _ h st2 ⟨p, _, rfl, .inl (.inl upd_same), Reps.rep (h5.mono st2.ss) n⟩

/-! ### dicts -/
def SimPs (K : PySem.W.Frag) (trs : List (TE × TE)) (ρ : DEnv) (m : Mem) (PP : List (Key × D) → Mem → Prop) : Prop :=
  ∀ (S H : Hp) (σ : L2.St), Same S H → MRep K S H m → REnv K S σ ρ → ∀ Q : List (V × V) → Hp → Prop, (∀ kvs m' ys S' H', PP kvs m' → Step K S H m S' H' m' → FRep K S' kvs ys → Q (ys.map fun kv => (kV kv.1, kv.2)) H') → tPairs trs σ H Q
theorem simPs_nil {PP : List (Key × D) → Mem → Prop} (p : PP [] m) : SimPs K [] ρ m PP := fun S H σ e M R Q hQ => hQ [] m [] S H p (Step.refl e M) .nil
theorem simPs_cons {tk tv : TE} {trs : List (TE × TE)} {PP : List (Key × D) → Mem → Prop} (h : Sim K tk ρ m fun y m1 => ∃ k, keyOf y = some k ∧ Sim K tv ρ m1 fun d m2 => SimPs K trs ρ m2 fun kvs m3 => PP ((k, d) :: kvs) m3) : SimPs K ((tk, tv) :: trs) ρ m PP := fun S H σ e M R Q hQ => by
  refine h S H σ e M R _ fun y m1 v S1 H1 p1 st1 r1 => ?_
  obtain ⟨k, hk, p1⟩ := p1
  refine p1 S1 H1 σ st1.sh st1.mr (R.mono st1.ss) _ fun d m2 w S2 H2 p2 st2 r2 => ?_
  refine p2 S2 H2 σ st2.sh st2.mr (R.mono (st1.ss.trans st2.ss)) _ fun kvs m3 ys S3 H3 p3 st3 r3 => ?_
  have ev := rep_key hk r1
  subst ev
  exact hQ _ m3 ((k, w) :: ys) S3 H3 p3 ((st1.trans st2).trans st3) (.cons (r2.mono st3.ss) r3)
def mergeD (kvs : List (Key × D)) : List (Key × D) := kvs.foldl (fun acc kv => putKD acc kv.1 kv.2) []
theorem FRep.merge {S : Hp} {fs : List (Key × D)} {ys : List (Key × V)} (h : FRep K S fs ys) : ∀ {acc : List (Key × D)} {bcc : List (Key × V)}, FRep K S acc bcc → FRep K S (fs.foldl (fun acc kv => putKD acc kv.1 kv.2) acc) (ys.foldl (fun acc kv => L2.putK acc kv.1 kv.2) bcc) := by
  induction h with
  | nil => exact fun h => h
  | cons h1 _ ih => exact fun h => ih (h.putK h1)
theorem sim_disp {trs : List (TE × TE)} (h : SimPs K trs ρ m fun kvs m1 => kvs.length ≤ 15 ∧ ∀ a, m1 a = none → P (.ptr a) (mupd m1 a (.dk (mergeD kvs)))) : Sim K (tDisp trs) ρ m P := fun S H σ e M R Q hQ => by
  intro p hp
  have e0 : Same S (upd H p (.dK [])) := fun b u q => by
    rw [upd_ne (ne_of_none (e b u q) hp)]
    exact e b u q
  have hh : hole (upd H p (.dK [])) p = H := by rw [hole_upd, hole_none hp]
  have M0 : MRep K S (upd H p (.dK [])) m := mrep_hole (L := p) (by rw [hh]; exact M)
  refine h S _ σ e0 M0 R _ fun kvs m1 ys S1 H1 p1 st1 r1 => ?_
  obtain ⟨hl1, b1⟩ := Step.beside (L := p) (o := .dK []) (by rw [hh]; exact e) (by rw [hh]; exact M) upd_same st1
  rw [hh] at b1
  refine ⟨hl1, ys, rfl, by rw [← r1.len]; exact p1.1, ?_⟩
  have st2 := Step.mut (o := .dK (mergeK [] ys)) (u := .dk (mergeD kvs)) b1.sh b1.mr hole_at ⟨_, rfl, FRep.merge r1 .nil⟩
  have e2 : upd (hole H1 p) p (.dK (mergeK [] ys)) = upd H1 p (.dK (mergeK [] ys)) := by
    funext b
    by_cases q : b = p
    · rw [q, upd_same, upd_same]
    · rw [upd_ne q, upd_ne q, hole_ne q]
  rw [e2] at st2
  exact hQ _ _ _ _ _ (p1.2 p (b1.mr.free hole_at)) (b1.trans st2) rfl
/-- d.get(y, x) -/
theorem sim_dgetN {td ty tx : TE} (h : Sim K td ρ m fun x m1 => ∃ a kvs, x = .ptr a ∧ m1 a = some (.dk kvs) ∧ Sim K ty ρ m1 fun y m2 => Sim K tx ρ m2 fun z m3 => ∃ kvs3, m3 a = some (.dk kvs3) ∧ ((∃ k, keyOf y = some k ∧ P ((getKD kvs3 k).getD z) m3) ∨ (y = .non ∧ P z m3))) :
    Sim K (tDGetN td ty tx) ρ m P := fun S H σ e M R Q hQ => by
  refine h S H σ e M R _ fun x m1 v S1 H1 p1 st1 r1 => ?_
  obtain ⟨a, kvs, rfl, hm, hp⟩ := p1
  obtain ⟨_, ys1, h1, _⟩ := st1.mr a _ hm
  refine ⟨a, r1, .inl ⟨ys1, .inl h1⟩, ?_⟩
  refine hp S1 H1 σ st1.sh st1.mr (R.mono st1.ss) _ fun y m2 w S2 H2 p2 st2 r2 => ?_
  refine p2 S2 H2 σ st2.sh st2.mr (R.mono (st1.ss.trans st2.ss)) _ fun z m3 u S3 H3 p3 st3 r3 => ?_
  obtain ⟨kvs3, hm3, hp3⟩ := p3
  obtain ⟨_, ys3, h3, h4⟩ := st3.mr a _ hm3
  have st := (st1.trans st2).trans st3
  rcases hp3 with ⟨k, hk, hp3⟩ | ⟨rfl, hp3⟩
  · have ew := rep_key hk r2
    subst ew
    refine ⟨valV ys3 k, .inl (DGet.k h3), ?_⟩
    cases q : getKD kvs3 k with
    | none =>
      rw [h4.getK.2 q]
      rw [q] at hp3
      exact hQ _ _ _ _ _ hp3 st r3
    | some dd =>
      obtain ⟨vv, e1, e2⟩ := h4.getK.1 dd q
      rw [e1]
      rw [q] at hp3
      exact hQ _ _ _ _ _ hp3 st e2
  · have r2 : w = .non := r2
    exact ⟨none, .inr ⟨r2, ⟨ys3, .inl h3⟩, rfl⟩, hQ _ _ _ _ _ hp3 st r3⟩
/-- an object of the memory is let go -/
theorem Step.drop {S H : Hp} {a : Addr} (e : Same S H) (M : MRep K S H m) : Step K S H m S H (mdel m a) where
  ss := Same.refl S
  sh := e
  fr := fun _ _ q _ => q
  gr := fun _ q => q
  nw := fun _ _ q => .inl q
  mr := fun b o q => by
    by_cases hb : b = a
    · have z : mdel m a b = none := if_pos hb
      rw [z] at q
      cases q
    · have z : mdel m a b = m b := if_neg hb
      rw [z] at q
      exact M b o q
  dm := fun b q => by
    by_cases hb : b = a
    · have z : mdel m a b = none := if_pos hb
      exact absurd z q
    · have z : mdel m a b = m b := if_neg hb
      rw [z] at q
      exact .inl q
theorem sim_drop (h : Sim K t ρ m fun d m1 => ∃ a, P d (mdel m1 a)) : Sim K t ρ m P := fun S H σ e M R Q hQ => by
  refine h S H σ e M R _ fun d m1 v S1 H1 p1 st1 r1 => ?_
  obtain ⟨a, hp⟩ := p1
  exact hQ _ _ _ _ _ hp (st1.trans (Step.drop st1.sh st1.mr)) r1

/-! ### zip, enumerate -/
def zipD (ds es : List D) : List D := (ds.zip es).map fun p => .tup [p.1, p.2]
def enumD (ds : List D) : List D := ds.zipIdx.map fun p => .tup [.int (p.2 : Nat), p.1]
theorem SeqD.keeps {S0 : Hp} {ds : List D} {v : V} (h : SeqD m x ds) (r : Rep K S0 x v) : ∃ (k : SeqKd) (a : Addr), v = .ref a ∧ ∀ S H m', Same S0 S → Same S H → MRep K S H m' → SeqD m' x ds → ∃ xs, k.Sq K H a xs ∧ Reps K S ds xs := by
  rcases h with h | rfl
  · obtain ⟨a, rfl, hk⟩ := h.keeps r
    refine ⟨kdL, a, rfl, fun S H m' e0 e M h' => ?_⟩
    rcases h' with h' | rfl
    · exact hk S H m' e0 e M h'
    · rcases h with z | ⟨b, z, _⟩ <;> cases z
  · obtain ⟨a, xs, rfl, h1, h2⟩ := r
    exact ⟨kdT, a, rfl, fun S H m' e0 e M _ => ⟨xs, sqT_mono (e0.trans e) h1, h2.mono e0⟩⟩
theorem simI_zip {ta : TA} {PI : List D → (Mem → Prop) → Mem → Prop} (h : SimA K ta ρ m fun xs m1 => ∃ x y ds es, xs = [x, y] ∧ SeqD m1 x ds ∧ SeqD m1 y es ∧ PI (zipD ds es) (fun m' => SeqD m' x ds ∧ SeqD m' y es) m1) : SimI K (iZipG K ta) ρ m PI := fun S H σ e M R Q hQ => by
  refine h S H σ e M R _ fun xs m1 vs S1 H1 p1 st1 r1 => ?_
  obtain ⟨x, y, ds, es, rfl, hx, hy, hp⟩ := p1
  obtain ⟨v, w, rfl, q1, q2⟩ := rep2 r1
  obtain ⟨k1, a, rfl, f1⟩ := hx.keeps q1
  obtain ⟨k2, b, rfl, f2⟩ := hy.keeps q2
  obtain ⟨xs, g1, _⟩ := f1 S1 H1 m1 (Same.refl S1) st1.sh st1.mr hx
  obtain ⟨ys, g2, _⟩ := f2 S1 H1 m1 (Same.refl S1) st1.sh st1.mr hy
  refine ⟨k1, k2, a, b, xs, ys, rfl, g1, g2, hQ _ _ _ _ _ _ hp st1 fun S H m e0 e M hI => ?_⟩
  obtain ⟨xs, g1, c1⟩ := f1 S H m e0 e M hI.1
  obtain ⟨ys, g2, c2⟩ := f2 S H m e0 e M hI.2
  have hlen : (zipD ds es).length = min xs.length ys.length := by
    unfold zipD
    rw [List.length_map, List.length_zip, c1.len, c2.len]
  refine ⟨fun i hi => ?_, ?_, fun i v H' hi yl => ?_⟩
  · rw [hlen] at hi
    exact ⟨xs, ys, xs[i]'(by omega), ys[i]'(by omega), g1, g2, List.getElem?_eq_getElem (by omega), List.getElem?_eq_getElem (by omega)⟩
  · rw [hlen]
    exact ⟨xs, ys, g1, g2, by omega, by omega, by omega⟩
  · rw [hlen] at hi
    obtain ⟨T, x', y', rfl, hT, rfl, n1, n2⟩ := yl
    have i1 : i < ds.length := by rw [c1.len]; omega
    have i2 : i < es.length := by rw [c2.len]; omega
    obtain ⟨v1, hv1, rv1⟩ := c1.get (List.getElem?_eq_getElem i1)
    obtain ⟨v2, hv2, rv2⟩ := c2.get (List.getElem?_eq_getElem i2)
    rw [n1 xs g1] at hv1
    rw [n2 ys g2] at hv2
    cases hv1
    cases hv2
    have st2 := Step.still (o := .tup [x', y']) e M hT
    refine ⟨.tup [ds[i], es[i]], _, ?_, st2, ⟨T, _, rfl, .inl (.inl upd_same), .cons (rv1.mono st2.ss) (.one (rv2.mono st2.ss))⟩⟩
    unfold zipD
    rw [List.getElem?_map, (List.getElem?_zip_eq_some (z := (ds[i], es[i]))).mpr ⟨List.getElem?_eq_getElem i1, List.getElem?_eq_getElem i2⟩]
    rfl
theorem simI_enumT {ta : TA} {PI : List D → (Mem → Prop) → Mem → Prop} (h : SimA K ta ρ m fun xs m1 => ∃ ds, xs = [.tup ds] ∧ PI (enumD ds) (fun _ => True) m1) : SimI K (iEnumT K ta) ρ m PI := fun S H σ e M R Q hQ => by
  refine h S H σ e M R _ fun xs m1 vs S1 H1 p1 st1 r1 => ?_
  obtain ⟨ds, rfl, hp⟩ := p1
  obtain ⟨v, rfl, q1⟩ := rep1 r1
  obtain ⟨a, xs, rfl, h1, h2⟩ := q1
  refine ⟨a, xs, rfl, sqT_mono st1.sh h1, hQ _ _ _ _ _ _ hp st1 fun S H m e0 e M _ => ?_⟩
  have g1 : SqT K H a xs := sqT_mono (e0.trans e) h1
  have c1 := h2.mono e0
  have hlen : (enumD ds).length = xs.length := by
    unfold enumD
    rw [List.length_map, List.length_zipIdx, c1.len]
  refine ⟨fun i hi => ?_, ?_, fun i v H' hi yl => ?_⟩
  · rw [hlen] at hi
    exact ⟨xs, xs[i], g1, List.getElem?_eq_getElem hi⟩
  · exact ⟨xs, g1, hlen.symm⟩
  · rw [hlen] at hi
    obtain ⟨T, x', rfl, hT, rfl, n1⟩ := yl
    have i1 : i < ds.length := by rw [c1.len]; omega
    obtain ⟨v1, hv1, rv1⟩ := c1.get (List.getElem?_eq_getElem i1)
    rw [n1 xs g1] at hv1
    cases hv1
    have st2 := Step.still (o := .tup [.int (i : Nat), x']) e M hT
    refine ⟨.tup [.int (i : Nat), ds[i]], _, ?_, st2, ⟨T, _, rfl, .inl (.inl upd_same), .cons rfl (.one (rv1.mono st2.ss))⟩⟩
    unfold enumD
    rw [List.getElem?_map, List.getElem?_zipIdx, List.getElem?_eq_getElem i1]
    simp
end
end L3

/-! text L3i -/
set_option Elab.async false
set_option linter.all false
set_option maxRecDepth 100000
set_option maxHeartbeats 4000000
/-! L3i: operators whatever the data are; constants of the module; the walk by itself. -/
namespace L3
open PySem PySem.Spec PyProof.Rows L2

section
variable {X : Cx}
/-! ### operators -/
abbrev rAddU (K : PySem.W.Frag) : R2 := fun x y H Q => rI0 (fun i j => V.int (i + j)) x y H Q ∨ (fun x y H Q => rAddS x y H Q ∨ (fun x y H Q => rCatL K x y H Q ∨ rCatA K x y H Q) x y H Q) x y H Q
theorem op_addU : OpR X (binaryOp .Add) (rAddU X.K) := op_add.or (op_add_str.or (op_catL.or op_catA))
abbrev rMulU (K : PySem.W.Frag) : R2 := fun x y H Q => rI CMulW (fun i j => V.int (i * j)) x y H Q ∨ rRepU K x y H Q
theorem op_mulU : OpR X (binaryOp .Mult) (rMulU X.K) := op_mulW.or op_repU
abbrev rEqU (K : PySem.W.Frag) : R2 := fun x y H Q => rEq x y H Q ∨ (fun x y H Q => rEqD K x y H Q ∨ rEqE K x y H Q) x y H Q
theorem op_eqU (hu : X.A.units + 64 < cLine) : OpR X (compareOp .Eq) (rEqU X.K) := op_eq.or ((op_eqD hu).or (op_eqE (by omega)))
abbrev rNeU (K : PySem.W.Frag) : R2 := fun x y H Q => rNe x y H Q ∨ rNeD K x y H Q
theorem op_neU (hu : X.A.units + 64 < cLine) : OpR X (compareOp .NotEq) (rNeU X.K) := op_ne.or (op_neD hu)
abbrev rSlU (K : PySem.W.Frag) : V → Option Int → Option Int → Hp → VK → Prop := fun x lo hi H Q => rSlL K x lo hi H Q ∨ (fun x lo hi H Q => rSlA K x lo hi H Q ∨ rSlS x lo hi H Q) x lo hi H Q
theorem sl_U : SlR X (rSlU X.K) := sl_list.or (sl_tupA.or sl_str)
/-- a name of the module, by its value -/
theorem pe_const {x : Str} {pos : Pos} {v : V} (hg : Gl X x) (h : ∃ u, X.mg x = some u ∧ RelV v u) (hd : (x == ("__debug__" : Str)) = false := by decide) : PE X (.Name x pos) (tC v) := by
  obtain ⟨u, hm, r⟩ := h
  exact pe_glob hg hm r hd

/-! ### a list or a tuple walked -/
def iSeq (K : PySem.W.Frag) (tl : TE) : TI := fun σ H R => tl σ H fun x H1 => ∃ a, x = .ref a ∧ (((∃ xs, SqL K H1 a xs) ∧ R (Itl K a) H1) ∨ ((∃ xs, SqT K H1 a xs) ∧ R (Itt K a) H1))
theorem pi_seq {tg l : Expr} {tl : TE} (hl : PE X l tl) : PI X tg l (iSeq X.K tl) := by
  refine ⟨fun pins s σ H R I h => ?_⟩
  refine thn (hl.run pins s σ H _ I h) fun v s1 ⟨x, H1, I1, r1, q1⟩ => ?_
  obtain ⟨a, e, q1⟩ := q1
  subst e
  cases r1
  rcases q1 with ⟨⟨xs, hq⟩, q⟩ | ⟨⟨xs, hq⟩, q⟩
  · obtain ⟨its, rv, p, hz⟩ := I1.list hq
    refine wpAny_pyIter_list p.isList ?_
    refine ⟨s1.heap.objs.size, [s1.heap.objs.size], _, _, H1, rfl, I1.kept (t' := s1.toks) fun b o e => Heap.get?_push_of_some _ e, turn_list a _, ⟨_, Heap.get?_push_size _ rfl, rfl, rfl⟩, fun b hb => ?_, q⟩
    have e : b = s1.heap.objs.size := by simpa using hb
    subst e
    exact I1.fpOk (Nat.le_refl _) (I1.hok.fresh (Nat.le_refl _))
  · obtain ⟨its, rv, p, hz⟩ := I1.tuple hq
    refine wpAny_pyIter_tuple (show s1.heap.IsTuple a its.toArray from p) ?_
    refine ⟨s1.heap.objs.size, [s1.heap.objs.size], _, _, H1, rfl, I1.kept (t' := s1.toks) fun b o e => Heap.get?_push_of_some _ e, turn_tuple a _, ⟨_, Heap.get?_push_size _ rfl, rfl, rfl⟩, fun b hb => ?_, q⟩
    have e : b = s1.heap.objs.size := by simpa using hb
    subst e
    exact I1.fpOk (Nat.le_refl _) (I1.hok.fresh (Nat.le_refl _))
end
section
variable {K : PySem.W.Frag} {ρ : DEnv} {m : Mem} {P : Post} {d x y : D}
theorem simI_seq {tl : TE} {PI : List D → (Mem → Prop) → Mem → Prop} (h : Sim K tl ρ m fun x m1 => ∃ ds, SeqD m1 x ds ∧ PI ds (fun m' => SeqD m' x ds) m1) : SimI K (iSeq K tl) ρ m PI := fun S H σ e M R Q hQ => by
  refine h S H σ e M R _ fun x m1 v S1 H1 p1 st1 r1 => ?_
  obtain ⟨ds, hl, hp⟩ := p1
  rcases hl with hl | rfl
  · have hl0 := hl
    obtain ⟨a, rfl, hk⟩ := hl.keeps r1
    refine ⟨a, rfl, .inl ⟨?_, hQ _ _ _ _ _ _ hp st1 (itS_list fun S H m' e0 e M hI => ?_)⟩⟩
    · obtain ⟨xs, h1, _⟩ := hk S1 H1 m1 (Same.refl S1) st1.sh st1.mr hl
      exact ⟨xs, h1⟩
    · rcases hI with hI | rfl
      · exact hk S H m' e0 e M hI
      · rcases hl0 with z | ⟨b, z, _⟩ <;> cases z
  · obtain ⟨a, xs, rfl, h1, h2⟩ := r1
    exact ⟨a, rfl, .inr ⟨⟨xs, sqT_mono st1.sh h1⟩, hQ _ _ _ _ _ _ hp st1 (itS_tup fun S H m e0 e M _ => ⟨xs, sqT_mono (e0.trans e) h1, h2.mono e0⟩)⟩⟩
theorem ops_addI {i j : Int} (p : P (.int (i + j)) m) : OpS K (rAddU K) (.int i) (.int j) m P := ops_or_l (ops_I0 p)
theorem ops_addSt {i j : Str} (hl : i.length + j.length ≤ 100000) (p : P (.str (i ++ j)) m) : OpS K (rAddU K) (.str i) (.str j) m P := ops_or_r (ops_or_l (ops_addS (sz_of hl) p))
theorem ops_addL {ds es : List D} (hx : LstAt m x ds) (hy : LstAt m y es) (hl : ds.length + es.length ≤ 100000) (h : P (.lst (ds ++ es)) m) : OpS K (rAddU K) x y m P := ops_or_r (ops_or_r (ops_or_l (ops_catL hx hy hl h)))
theorem ops_addT {ds es : List D} (hl : ds.length + es.length ≤ 100000) (h : P (.tup (ds ++ es)) m) : OpS K (rAddU K) (.tup ds) (.tup es) m P := ops_or_r (ops_or_r (ops_or_r (ops_catT hl h)))
theorem ops_subI {i j : Int} (p : P (.int (i - j)) m) : OpS K (rI0 fun i j => V.int (i - j)) (.int i) (.int j) m P := ops_I0 p
theorem ops_mulI {i j : Int} (hc : CMulW i j) (p : P (.int (i * j)) m) : OpS K (rMulU K) (.int i) (.int j) m P := ops_or_l (ops_I hc p)
theorem ops_mulT {n : Nat} (h1 : 1 ≤ n) (h2 : n ≤ 1000) (h : P (.tup (List.replicate n d)) m) : OpS K (rMulU K) (.tup [d]) (.int n) m P := ops_or_r (ops_rep h1 h2 h)
theorem ops_divI {i j : Int} (hc : CDivW i j) (p : P (.int (i / j)) m) : OpS K (rI CDivW fun i j => V.int (i / j)) (.int i) (.int j) m P := ops_I hc p
theorem ops_modI {i j : Int} (hc : 0 < j) (p : P (.int (i % j)) m) : OpS K (rI (fun _ j => 0 < j) fun i j => V.int (i % j)) (.int i) (.int j) m P := ops_I hc p
theorem ops_lt {i j : Int} (p : P (.bl (decide (i < j))) m) : OpS K (rI0 fun i j => V.bl (decide (i < j))) (.int i) (.int j) m P := ops_B0 (g := fun i j => decide (i < j)) p
theorem ops_le {i j : Int} (p : P (.bl (decide (i ≤ j))) m) : OpS K (rI0 fun i j => V.bl (decide (i ≤ j))) (.int i) (.int j) m P := ops_B0 (g := fun i j => decide (i ≤ j)) p
theorem ops_gt {i j : Int} (p : P (.bl (decide (j < i))) m) : OpS K (rI0 fun i j => V.bl (decide (j < i))) (.int i) (.int j) m P := ops_B0 (g := fun i j => decide (j < i)) p
theorem ops_ge {i j : Int} (p : P (.bl (decide (j ≤ i))) m) : OpS K (rI0 fun i j => V.bl (decide (j ≤ i))) (.int i) (.int j) m P := ops_B0 (g := fun i j => decide (j ≤ i)) p
theorem ops_eqI {i j : Int} (p : P (.bl (decide (i = j))) m) : OpS K (rEqU K) (.int i) (.int j) m P := ops_or_l (ops_eqS rfl rfl rfl (by
  have e : decide ((V.int i) = V.int j) = decide (i = j) := by
    by_cases h : i = j
    · rw [h]; simp
    · simp [h]
  rw [e]
  exact p))
theorem ops_eqSt {i j : Str} (p : P (.bl (decide (i = j))) m) : OpS K (rEqU K) (.str i) (.str j) m P := ops_or_l (ops_eqS rfl rfl rfl (by
  have e : decide ((V.str i) = V.str j) = decide (i = j) := by
    by_cases h : i = j
    · rw [h]; simp
    · simp [h]
  rw [e]
  exact p))
theorem ops_eqNS {j : Str} (p : P (.bl false) m) : OpS K (rEqU K) .non (.str j) m P := ops_or_l (ops_eqS rfl rfl rfl (by
  have e : decide (V.non = V.str j) = false := by simp
  rw [e]
  exact p))
theorem ops_neSt {i j : Str} (p : P (.bl (!decide (i = j))) m) : OpS K (rNeU K) (.str i) (.str j) m P := ops_or_l (ops_neS rfl rfl rfl (by
  have e : decide ((V.str i) = V.str j) = decide (i = j) := by
    by_cases h : i = j
    · rw [h]; simp
    · simp [h]
  rw [e]
  exact p))
theorem ops_neI {i j : Int} (p : P (.bl (!decide (i = j))) m) : OpS K (rNeU K) (.int i) (.int j) m P := ops_or_l (ops_neS rfl rfl rfl (by
  have e : decide ((V.int i) = V.int j) = decide (i = j) := by
    by_cases h : i = j
    · rw [h]; simp
    · simp [h]
  rw [e]
  exact p))
theorem ops_eqDat {p q : PyData} (hx : toPy x = some p) (hy : toPy y = some q) (sp : SeqAt.shaped p = true) (sq : SeqAt.shaped q = true) (h : P (.bl (PyData.eqv p q)) m) : OpS K (rEqU K) x y m P := ops_or_r (ops_or_l (ops_eqD hx hy sp sq h))
theorem ops_neDat {p q : PyData} (hx : toPy x = some p) (hy : toPy y = some q) (sp : SeqAt.shaped p = true) (sq : SeqAt.shaped q = true) (h : P (.bl (!PyData.eqv p q)) m) : OpS K (rNeU K) x y m P := ops_or_r (ops_neD hx hy sp sq h)
theorem ops_eqEmp {ds : List D} (hx : LstAt m x ds) (hy : LstAt m y []) (h : P (.bl ds.isEmpty) m) : OpS K (rEqU K) x y m P := ops_or_r (ops_or_r (ops_eqE hx hy h))
theorem sls_or_l {r1 r2 : V → Option Int → Option Int → Hp → VK → Prop} {lo hi : Option Int} (h : SlS K r1 x lo hi m P) : SlS K (fun x lo hi H Q => r1 x lo hi H Q ∨ r2 x lo hi H Q) x lo hi m P := fun S H vx e M hx Q hQ => .inl (h S H vx e M hx Q hQ)
theorem sls_or_r {r1 r2 : V → Option Int → Option Int → Hp → VK → Prop} {lo hi : Option Int} (h : SlS K r2 x lo hi m P) : SlS K (fun x lo hi H Q => r1 x lo hi H Q ∨ r2 x lo hi H Q) x lo hi m P := fun S H vx e M hx Q hQ => .inr (h S H vx e M hx Q hQ)
theorem sls_L {ds : List D} {lo hi : Option Int} (hl : LstAt m x ds) (p : P (.lst (cutD ds lo hi)) m) : SlS K (rSlU K) x lo hi m P := sls_or_l (sls_lst hl p)
theorem sls_T {ds : List D} {lo hi : Option Int} (p : P (.tup (cutD ds lo hi)) m) : SlS K (rSlU K) (.tup ds) lo hi m P := sls_or_r (sls_or_l (sls_tup p))
theorem sls_S {z : Str} {lo hi : Option Int} (hz : z.length ≤ 100000) (p : P (.str (cutS z lo hi)) m) : SlS K (rSlU K) (.str z) lo hi m P := sls_or_r (sls_or_r (sls_str (sz_of hz) p))
/-- the module's constants -/
theorem sim_constT {a : Addr} {ds : List D} (h : ∀ S, Rep K S (.tup ds) (.ref a)) (p : P (.tup ds) m) : Sim K (tC (.ref a)) ρ m P := sim_c h p
theorem ite_T {A B : Prop} (h : A) : if true = true then A else B := iteT h
theorem ite_F {A B : Prop} (h : B) : if false = true then A else B := iteF h
theorem ite_d {c A B : Prop} [Decidable c] (h1 : c → A) (h2 : ¬ c → B) : if decide c = true then A else B := by
  by_cases h : c
  · rw [if_pos (decide_eq_true h)]
    exact h1 h
  · rw [if_neg (fun z => h (of_decide_eq_true z))]
    exact h2 h
theorem ite_dn {c A B : Prop} [Decidable c] (h1 : ¬ c → A) (h2 : c → B) : if (!decide c) = true then A else B := by
  by_cases h : c
  · rw [decide_eq_true h]
    exact iteF (h2 h)
  · rw [decide_eq_false h]
    exact iteT (h1 h)
theorem ite_y {c A B : Prop} [Decidable c] (h : c) (h1 : A) : if decide c = true then A else B := ite_d (fun _ => h1) (fun z => absurd h z)
theorem ite_n {c A B : Prop} [Decidable c] (h : ¬ c) (h1 : B) : if decide c = true then A else B := ite_d (fun z => absurd z h) (fun _ => h1)
theorem ite_ny {c A B : Prop} [Decidable c] (h : ¬ c) (h1 : A) : if (!decide c) = true then A else B := ite_dn (fun _ => h1) (fun z => absurd z h)
theorem ite_nn {c A B : Prop} [Decidable c] (h : c) (h1 : B) : if (!decide c) = true then A else B := ite_dn (fun z => absurd h z) (fun _ => h1)
end
end L3

/-! text L3j -/
set_option Elab.async false
set_option linter.all false
set_option maxRecDepth 100000
set_option maxHeartbeats 4000000
/-! L3j: what the top has made, by names. -/
namespace L3
open PySem L2
structure Adr where
  Game : Addr
  Way : Addr
  Comparing : Addr
  Sheet : Addr
  Audit : Addr
  Beats : Addr
  Over : Addr
  Under : Addr
  Contest : Addr
  Most : Addr
  Portion : Addr
  Fixed : Addr
  NOUGHT_games : Addr
  ONE_games : Addr
  ONE_ways : Addr
  TWO : Addr
  NOUGHT_claims : Addr
  HALF : Addr
  ONE_claims : Addr
structure Txt (K : PySem.W.Frag) (mg : Str → Option Value) (a : Adr) : Prop where
  b_len : mg "len" = none
  b_sum : mg "sum" = none
  b_sorted : mg "sorted" = none
  b_abs : mg "abs" = none
  b_all : mg "all" = none
  b_isinstance : mg "isinstance" = none
  b_max : mg "max" = none
  b_min : mg "min" = none
  b_tuple : mg "tuple" = none
  b_list : mg "list" = none
  b_int : mg "int" = none
  b_bool : mg "bool" = none
  b_str : mg "str" = none
  b_range : mg "range" = none
  b_zip : mg "zip" = none
  b_enumerate : mg "enumerate" = none
  g_Game : ∃ u, mg "Game" = some u ∧ RelV (.ref a.Game) u
  k_Game : Cls K a.Game
  n_Game_many : NoAttr K a.Game "many"
  n_Game_again : NoAttr K a.Game "again"
  n_Game_highest : NoAttr K a.Game "highest"
  n_Game_rule : NoAttr K a.Game "rule"
  n_Game_drawn_values : NoAttr K a.Game "drawn_values"
  n_Game_sum_so_far : NoAttr K a.Game "sum_so_far"
  n_Game_now : NoAttr K a.Game "now"
  n_Game_most : NoAttr K a.Game "most"
  n_Game_certain : NoAttr K a.Game "certain"
  g_Way : ∃ u, mg "Way" = some u ∧ RelV (.ref a.Way) u
  k_Way : Cls K a.Way
  n_Way_claim : NoAttr K a.Way "claim"
  g_Comparing : ∃ u, mg "Comparing" = some u ∧ RelV (.ref a.Comparing) u
  k_Comparing : Cls K a.Comparing
  n_Comparing_claim : NoAttr K a.Comparing "claim"
  n_Comparing_told : NoAttr K a.Comparing "told"
  n_Comparing_scale : NoAttr K a.Comparing "scale"
  g_Sheet : ∃ u, mg "Sheet" = some u ∧ RelV (.ref a.Sheet) u
  k_Sheet : Cls K a.Sheet
  n_Sheet_names : NoAttr K a.Sheet "names"
  n_Sheet_limit : NoAttr K a.Sheet "limit"
  n_Sheet_ways : NoAttr K a.Sheet "ways"
  n_Sheet_games : NoAttr K a.Sheet "games"
  g_Audit : ∃ u, mg "Audit" = some u ∧ RelV (.ref a.Audit) u
  k_Audit : Cls K a.Audit
  n_Audit_sheets : NoAttr K a.Audit "sheets"
  n_Audit_many : NoAttr K a.Audit "many"
  n_Audit_again : NoAttr K a.Audit "again"
  n_Audit_most : NoAttr K a.Audit "most"
  n_Audit_numbers : NoAttr K a.Audit "numbers"
  g_Beats : ∃ u, mg "Beats" = some u ∧ RelV (.ref a.Beats) u
  k_Beats : Cls K a.Beats
  n_Beats_one : NoAttr K a.Beats "one"
  n_Beats_other : NoAttr K a.Beats "other"
  g_Over : ∃ u, mg "Over" = some u ∧ RelV (.ref a.Over) u
  k_Over : Cls K a.Over
  n_Over_name : NoAttr K a.Over "name"
  n_Over_share : NoAttr K a.Over "share"
  g_Under : ∃ u, mg "Under" = some u ∧ RelV (.ref a.Under) u
  k_Under : Cls K a.Under
  n_Under_name : NoAttr K a.Under "name"
  n_Under_share : NoAttr K a.Under "share"
  g_Contest : ∃ u, mg "Contest" = some u ∧ RelV (.ref a.Contest) u
  k_Contest : Cls K a.Contest
  n_Contest_names : NoAttr K a.Contest "names"
  g_Most : ∃ u, mg "Most" = some u ∧ RelV (.ref a.Most) u
  k_Most : Cls K a.Most
  n_Most_names : NoAttr K a.Most "names"
  n_Most_seats : NoAttr K a.Most "seats"
  g_Portion : ∃ u, mg "Portion" = some u ∧ RelV (.ref a.Portion) u
  k_Portion : Cls K a.Portion
  n_Portion_names : NoAttr K a.Portion "names"
  n_Portion_share : NoAttr K a.Portion "share"
  g_Fixed : ∃ u, mg "Fixed" = some u ∧ RelV (.ref a.Fixed) u
  k_Fixed : Cls K a.Fixed
  n_Fixed_part : NoAttr K a.Fixed "part"
  g_NOUGHT_games : ∃ u, mg "NOUGHT_games" = some u ∧ RelV (.ref a.NOUGHT_games) u
  t_NOUGHT_games : ∀ S, Rep K S (.tup [.int 0, .int 1]) (.ref a.NOUGHT_games)
  g_ONE_games : ∃ u, mg "ONE_games" = some u ∧ RelV (.ref a.ONE_games) u
  t_ONE_games : ∀ S, Rep K S (.tup [.int 1, .int 1]) (.ref a.ONE_games)
  g_ONE_ways : ∃ u, mg "ONE_ways" = some u ∧ RelV (.ref a.ONE_ways) u
  t_ONE_ways : ∀ S, Rep K S (.tup [.int 1, .int 1]) (.ref a.ONE_ways)
  g_TWO : ∃ u, mg "TWO" = some u ∧ RelV (.ref a.TWO) u
  t_TWO : ∀ S, Rep K S (.tup [.int 2, .int 1]) (.ref a.TWO)
  g_NOUGHT_claims : ∃ u, mg "NOUGHT_claims" = some u ∧ RelV (.ref a.NOUGHT_claims) u
  t_NOUGHT_claims : ∀ S, Rep K S (.tup [.int 0, .int 1]) (.ref a.NOUGHT_claims)
  g_HALF : ∃ u, mg "HALF" = some u ∧ RelV (.ref a.HALF) u
  t_HALF : ∀ S, Rep K S (.tup [.int 1, .int 2]) (.ref a.HALF)
  g_ONE_claims : ∃ u, mg "ONE_claims" = some u ∧ RelV (.ref a.ONE_claims) u
  t_ONE_claims : ∀ S, Rep K S (.tup [.int 1, .int 1]) (.ref a.ONE_claims)
  g_LACKS : ∃ u, mg "LACKS" = some u ∧ RelV (.str "?") u
end L3

/-! text L3k -/
set_option Elab.async false
set_option linter.all false
set_option maxRecDepth 100000
set_option maxHeartbeats 4000000
/-! L3k: rules with the fragment by name, so that a comprehension's element may use them. -/
namespace L3
open PySem L2
section
variable {P : Program} {w : World} {K : PySem.W.Frag} {mg : Str → Option Value} {base : Heap} {a : Adr} {B : Around}
variable {X : Cx} {k j : Nat} {Cl : Addr} {x mn : Str} {C : Ctr} {p pos apos : Pos} {e o : Expr} {es : List Expr} {ta : TE} {t : TA}
/-- the context stands over these -/
def Ov (X : Cx) (P : Program) (w : World) (K : PySem.W.Frag) (mg : Str → Option Value) (base : Heap) (B : Around) : Prop := X.prog = P ∧ X.w = w ∧ X.K = K ∧ X.mg = mg ∧ X.base = base ∧ X.A = B
theorem pk_cal (c : CalC P w K mg base k x C) (hr : Room j B) (hk : k ≤ j) (ha : PA X (e :: es) t) (ov : Ov X P w K mg base B := by exact ⟨rfl, rfl, rfl, rfl, rfl, rfl⟩) (hg : Gl X x := by rfl)
    (hdb : (x == ("__debug__" : Str)) = false := by decide) (he : starEach (e :: es) X.env = (false, eval e X.env) :: starEach es X.env := by rfl) (hpl : (backTo pos (starEach es X.env)).any (·.1) = false := by rfl) :
    PE X (.Call (.Name x p) (e :: es) [] pos) (tCall (spOf K C) [] E0 t) := by
  obtain ⟨rfl, rfl, rfl, rfl, rfl, rfl⟩ := ov
  exact pe_cal c hr hk hg ha hdb he hpl
theorem pk_mak (c : MakC P w K mg base k x Cl C) (hr : Room j B) (hk : k + 1 ≤ j) (ha : PA X (e :: es) t) (ov : Ov X P w K mg base B := by exact ⟨rfl, rfl, rfl, rfl, rfl, rfl⟩) (hg : Gl X x := by rfl)
    (hdb : (x == ("__debug__" : Str)) = false := by decide) (he : starEach (e :: es) X.env = (false, eval e X.env) :: starEach es X.env := by rfl) (hpl : (backTo pos (starEach es X.env)).any (·.1) = false := by rfl) :
    PE X (.Call (.Name x p) (e :: es) [] pos) (tMake Cl (spOf K C) [] E0 t) := by
  obtain ⟨rfl, rfl, rfl, rfl, rfl, rfl⟩ := ov
  exact pe_mak c hr hk hg ha hdb he hpl
theorem pk_met {pl : Sem Bool} (c : MetC P w K mg base k Cl mn C) (hr : Room j B) (hk : k ≤ j) (he : PE X o ta) (ha : PA X (e :: es) t) (ov : Ov X P w K mg base B := by exact ⟨rfl, rfl, rfl, rfl, rfl, rfl⟩)
    (hst : starEach (e :: es) X.env = (false, eval e X.env) :: starEach es X.env := by rfl) (hpl : (backTo pos (starEach es X.env)).any (·.1) = false := by rfl)
    (ht : eval (.Call (.Attribute o mn apos) (e :: es) [] pos) X.env = (do
      let ov ← eval o X.env
      standAt apos.atName
      let (f, first) ← holding [ov] (getMethod ov mn pl)
      callWith pos f first (backTo pos (starEach (e :: es) X.env)) (backToKw pos (keywordEach [] X.env))) := by rfl) :
    PE X (.Call (.Attribute o mn apos) (e :: es) [] pos) (tMeth Cl mn (spOf K C) [] E0 ta t) := by
  obtain ⟨rfl, rfl, rfl, rfl, rfl, rfl⟩ := ov
  exact pe_met (pl := pl) c hr hk he ha hst hpl ht
theorem pk_met0 {pl : Sem Bool} (c : MetC P w K mg base k Cl mn C) (hr : Room j B) (hk : k ≤ j) (he : PE X o ta) (ov : Ov X P w K mg base B := by exact ⟨rfl, rfl, rfl, rfl, rfl, rfl⟩)
    (ht : eval (.Call (.Attribute o mn apos) [] [] pos) X.env = (do
      let ov ← eval o X.env
      standAt apos.atName
      let (f, first) ← holding [ov] (getMethod ov mn pl)
      callWith pos f first (backTo pos (starEach [] X.env)) (backToKw pos (keywordEach [] X.env))) := by rfl) :
    PE X (.Call (.Attribute o mn apos) [] [] pos) (tMeth Cl mn (spOf K C) [] E0 ta tNil) := by
  obtain ⟨rfl, rfl, rfl, rfl, rfl, rfl⟩ := ov
  exact pe_met0 (pl := pl) c hr hk he ht
theorem pk_in (T : Txt K mg a) (hK : X.K = K := by rfl) : OpR X (compareOp .In) (rIn K false) := by
  subst hK
  exact op_in_seq
theorem pk_notIn (T : Txt K mg a) (hK : X.K = K := by rfl) : OpR X (compareOp .NotIn) (rIn K true) := by
  subst hK
  exact op_notIn_seq
theorem pk_eq (T : Txt K mg a) (hu : B.units + 64 < cLine) (hK : X.K = K ∧ X.A = B := by exact ⟨rfl, rfl⟩) : OpR X (compareOp .Eq) (rEqU K) := by
  obtain ⟨rfl, rfl⟩ := hK
  exact op_eqU hu
theorem pk_ne (T : Txt K mg a) (hu : B.units + 64 < cLine) (hK : X.K = K ∧ X.A = B := by exact ⟨rfl, rfl⟩) : OpR X (compareOp .NotEq) (rNeU K) := by
  obtain ⟨rfl, rfl⟩ := hK
  exact op_neU hu
theorem pk_ix (T : Txt K mg a) (hK : X.K = K := by rfl) : IxR X (rIx K) := by
  subst hK
  exact ix_seq
abbrev rLenK (K : PySem.W.Frag) : List V → Hp → VK → Prop := fun xs H Q => ∃ p ys, xs = [V.ref p] ∧ (SqL K H p ys ∨ SqT K H p ys) ∧ Q (V.int ys.length) H
theorem pk_len (T : Txt K mg a) (hK : X.K = K := by rfl) : CallR X (.builtin "len") (rLenK K) := by
  subst hK
  exact call_len_seq
theorem pk_sum (T : Txt K mg a) (hK : X.K = K ∧ X.calm = true := by exact ⟨rfl, rfl⟩) : CallR X (.builtin "sum") (rSum K) := by
  obtain ⟨rfl, h⟩ := hK
  exact cr_sum h
theorem pk_all (T : Txt K mg a) (hK : X.K = K ∧ X.calm = true := by exact ⟨rfl, rfl⟩) : CallR X (.builtin "all") (rAllU K) := by
  obtain ⟨rfl, h⟩ := hK
  exact cr_allU h
theorem pk_sorted (T : Txt K mg a) (hK : X.K = K := by rfl) : CallR X (.builtin "sorted") (rSorted K) := by
  subst hK
  exact cr_sorted
theorem pk_isi (T : Txt K mg a) (hK : X.K = K := by rfl) : CallR X (.builtin "isinstance") (rIsi K) := by
  subst hK
  exact call_isi
abbrev rTupK (K : PySem.W.Frag) : List V → Hp → VK → Prop := fun xs H Q => ∃ p ys, xs = [V.ref p] ∧ ((SqL K H p ys ∧ ∀ l : Addr, H l = none → Q (V.ref l) (upd H l (HO.tup ys))) ∨ SqT K H p ys ∧ Q (V.ref p) H)
theorem pk_tuple (T : Txt K mg a) (hK : X.K = K := by rfl) : CallR X (.type "tuple") (rTupK K) := by
  subst hK
  exact call_tuple_of
abbrev rLstK (K : PySem.W.Frag) : List V → Hp → VK → Prop := fun xs H Q => ∃ p ys, xs = [V.ref p] ∧ (SqL K H p ys ∨ SqT K H p ys) ∧ ∀ l : Addr, H l = none → Q (V.ref l) (upd H l (HO.lst ys))
theorem pk_list (T : Txt K mg a) (hK : X.K = K := by rfl) : CallR X (.type "list") (rLstK K) := by
  subst hK
  exact call_list_of
theorem pk_seq {tg l : Expr} {tl : TE} (T : Txt K mg a) (h : PE X l tl) (hK : X.K = K := by rfl) : PI X tg l (iSeq K tl) := by
  subst hK
  exact pi_seq h
theorem pk_sl (T : Txt K mg a) (hK : X.K = K := by rfl) : SlR X (rSlU K) := by
  subst hK
  exact sl_U
theorem pk_add (T : Txt K mg a) (hK : X.K = K := by rfl) : OpR X (binaryOp Operator.Add) (rAddU K) := by
  subst hK
  exact op_addU
theorem pk_mul (T : Txt K mg a) (hK : X.K = K := by rfl) : OpR X (binaryOp Operator.Mult) (rMulU K) := by
  subst hK
  exact op_mulU
theorem pk_fld {e : Expr} {f : Str} {pos : Pos} {ta : TE} (T : Txt K mg a) (h : PE X e ta) (hb : attributeBase e f X.env (eval e X.env) = eval e X.env) (hK : X.K = K := by rfl) : PE X (.Attribute e f pos) (tFld K ta f) := by
  subst hK
  exact pe_fld h hb
theorem pk_zip {e e2 : Expr} {ta : TA} {p pos tpos : Pos} {elts : List Expr} {kk : Nat} (T : Txt K mg a) (hg : Gl X "zip") (hm : X.mg "zip" = none) (ha : PA X [e, e2] ta) (hK : X.K = K := by rfl)
    (h1 : starEach [e, e2] X.env = (false, eval e X.env) :: starEach [e2] X.env := by rfl) (h2 : ((backTo pos (starEach [e2] X.env)).any fun x => x.fst) = false := by rfl) :
    PI X (.Tuple elts kk tpos) (.Call (.Name "zip" p) [e, e2] [] pos) (iZipG K ta) := by
  subst hK
  exact pi_zipG hg hm ha h1 h2
theorem pk_enum {e : Expr} {ta : TA} {p pos tpos : Pos} {elts : List Expr} {kk : Nat} (T : Txt K mg a) (hg : Gl X "enumerate") (hm : X.mg "enumerate" = none) (ha : PA X [e] ta) (hK : X.K = K := by rfl)
    (h1 : starEach [e] X.env = [(false, eval e X.env)] := by rfl) :
    PI X (.Tuple elts kk tpos) (.Call (.Name "enumerate" p) [e] [] pos) (iEnumT K ta) := by
  subst hK
  exact pi_enumT hg hm ha h1
end
end L3

/-! text L3l -/
set_option Elab.async false
set_option linter.all false
set_option maxRecDepth 100000
set_option maxHeartbeats 4000000
/-! L3l: rules for a pair assigned at once, while, Class.__init__(self, ..), a field's list that stands still from here on. -/
namespace L3
open PySem L2

section
variable {K : PySem.W.Frag} {ρ : DEnv} {m : Mem} {A : AEnds} {P : Post} {ta tb te : TE} {tt : TT} {t u : TS} {tr : TA} {C : Addr} {f : Str}
/-- x, y = a, b -/
theorem simS_par {i j : Nat} (h : SimA K tr ρ m fun ds m1 => ∃ x y, ds = [x, y] ∧ A.nx ((ρ.set i (some x)).set j (some y)) m1) : SimS K (tPar i j tr) ρ m A := fun S H σ e M R D hD => by
  refine h S H σ e M R _ fun ds m1 vs S1 H1 p1 st1 r1 => ?_
  obtain ⟨x, y, rfl, hp⟩ := p1
  obtain ⟨v, w, rfl, q1, q2⟩ := rep2 r1
  exact ⟨v, w, rfl, hD.nx _ m1 S1 H1 _ hp st1 (((R.mono st1.ss).set q1).set q2)⟩
/-- while, the memory may change; W by a measure -/
theorem simS_while {W : Nat → DEnv → Mem → Prop} {n : Nat} (w0 : W n ρ m) (h : ∀ n ρ m, W n ρ m → SimT K tt ρ m fun b m1 => if b = true then SimS K t ρ m1 { A with nx := fun ρ' m' => ∃ n', n' < n ∧ W n' ρ' m', ct := fun ρ' m' => ∃ n', n' < n ∧ W n' ρ' m', bk := A.nx } else A.nx ρ m1) :
    SimS K (tWhile tt t) ρ m A := fun S H σ e M R D hD => by
  refine ⟨fun n σ' H' => ∃ ρ' m' S', W n ρ' m' ∧ Step K S H m S' H' m' ∧ REnv K S' σ' ρ', ⟨n, ρ, m, S, w0, Step.refl e M, R⟩, ?_⟩
  rintro n σ' H' ⟨ρ', m', S', w, st, R'⟩
  refine h n ρ' m' w S' H' σ' st.sh st.mr R' _ fun b m1 S1 H1 p1 st1 => ?_
  have st01 := st.trans st1
  cases b with
  | true =>
    rw [if_pos rfl] at p1 ⊢
    refine ⟨fun σ2 H2 => ∃ n', n' < n ∧ ∃ ρ2 m2 S2, W n' ρ2 m2 ∧ Step K S H m S2 H2 m2 ∧ REnv K S2 σ2 ρ2, fun _ _ z => z, ?_⟩
    refine p1 S1 H1 σ' st1.sh st1.mr (R'.mono st1.ss) _ ⟨fun ρ2 m2 S2 H2 σ2 p2 st2 R2 => ?_, fun d m2 v S2 H2 p2 st2 r2 => ?_, fun ρ2 m2 S2 H2 σ2 p2 st2 R2 => ?_, fun ρ2 m2 S2 H2 σ2 p2 st2 R2 => ?_⟩
    · obtain ⟨n', hn, hw⟩ := p2
      exact ⟨n', hn, ρ2, m2, S2, hw, st01.trans st2, R2⟩
    · exact hD.rt d m2 v S2 H2 p2 (st01.trans st2) r2
    · exact hD.nx ρ2 m2 S2 H2 σ2 p2 (st01.trans st2) R2
    · obtain ⟨n', hn, hw⟩ := p2
      exact ⟨n', hn, ρ2, m2, S2, hw, st01.trans st2, R2⟩
  | false =>
    rw [if_neg Bool.false_ne_true] at p1 ⊢
    exact hD.nx ρ' m1 S1 H1 σ' p1 st01 (R'.mono st1.ss)
/-- C.__init__(self, ..) -/
theorem sim_cfn {c : Ctr} {E : XK} (h : Sim K ta ρ m fun x m1 => x = .ptr C ∧ SimA K tr ρ m1 fun ds m2 => c ds m2 P) : Sim K (tCFn C (spOf K c) E ta tr) ρ m P := fun S H σ e M R Q hQ => by
  refine h S H σ e M R _ fun x m1 v S1 H1 p1 st1 r1 => ?_
  obtain ⟨rfl, hp⟩ := p1
  have r1 : v = .ref C := r1
  refine ⟨r1, ?_⟩
  refine hp S1 H1 σ st1.sh st1.mr (R.mono st1.ss) _ fun ds m2 vs S2 H2 p2 st2 r2 => ?_
  exact ⟨S2, m2, ds, P, st2.sh, st2.mr, r2, p2, fun d m' v S' H' p st rd => hQ d m' v S' H' p ((st1.trans st2).trans st) rd⟩
/-- a list of the memory stands still; an object whose field it is says so -/
theorem upd_self {H : Hp} {a : Addr} {o : HO} (h : H a = some o) : upd H a o = H := by
  funext b
  unfold upd
  split
  · rename_i e
    rw [e, h]
  · rfl
theorem putF_self {f : Str} {v : V} : ∀ {ys : List (Str × V)}, ys.lookup f = some v → putF f v ys = ys
  | [], h => by cases h
  | (g, z) :: r, h => by
    show (if g = f then (g, v) :: r else (g, z) :: putF f v r) = _
    by_cases e : g = f
    · subst e
      rw [if_pos rfl]
      rw [List.lookup_cons, beq_self_eq_true] at h
      cases h
      rfl
    · rw [if_neg e]
      have e2 : (f == g) = false := by simpa using fun q => e q.symm
      rw [List.lookup_cons, e2] at h
      rw [putF_self h]
theorem Step.frzF {S H : Hp} {o a : Addr} {C : Addr} {fs : List (Str × D)} {ds : List D} (e : Same S H) (M : MRep K S H m) (ho : m o = some (.ins C fs)) (ha : m a = some (.lst ds)) (hl : fs.lookup f = some (.ptr a)) :
    ∃ S', Step K S H m S' H (mupd (mdel m a) o (.ins C (putD f (.lst ds) fs))) := by
  have hne : o ≠ a := fun z => by
    rw [z, ha] at ho
    cases ho
  obtain ⟨_, xs, h1, h2⟩ := M a _ ha
  have st := Step.freeze (o := .lst xs) e M ha h1
  have e1 := st.sh
  have M1 := st.mr
  have hoa : mdel m a o = some (.ins C fs) := by
    show (if o = a then none else m o) = _
    rw [if_neg hne]
    exact ho
  obtain ⟨hS, dx, ys, h3, h4⟩ := M1 o _ hoa
  obtain ⟨v, hv, rv⟩ := h4.lookup hl
  have rv : v = .ref a := rv
  subst rv
  have h5 := h4.put (f := f) (d := .lst ds) (v := .ref a) ⟨a, xs, rfl, .inl (.inl upd_same), h2.mono st.ss⟩
  rw [putF_self hv] at h5
  have st2 := Step.write (u := .ins C (putD f (.lst ds) fs)) (o := .ins C dx ys) e1 M1 hoa ⟨dx, ys, rfl, h5⟩
  rw [upd_self h3] at st2
  exact ⟨_, st.trans st2⟩
theorem simS_frzF {f : Str} {o a : Addr} {C : Addr} {fs : List (Str × D)} {ds : List D} (ho : m o = some (.ins C fs)) (ha : m a = some (.lst ds)) (hl : fs.lookup f = some (.ptr a))
    (h : SimS K t ρ (mupd (mdel m a) o (.ins C (putD f (.lst ds) fs))) A) : SimS K t ρ m A := fun S H σ e M R D hD => by
  obtain ⟨S', st⟩ := Step.frzF e M ho ha hl
  exact h S' H σ st.sh st.mr (R.mono st.ss) D (hD.step st)
theorem renv_put {S : Hp} {σ : L2.St} {i : Nat} {d d' : D} (R : REnv K S σ ρ) (hi : ρ[i]? = some (some d)) (h : ∀ v, Rep K S d v → Rep K S d' v) : REnv K S σ (ρ.set i (some d')) := by
  refine ⟨by simp [R.1], fun j c q => ?_⟩
  by_cases e : i = j
  · subst e
    by_cases hl : i < ρ.length
    · rw [List.getElem?_set_self hl] at q
      cases q
      obtain ⟨v, hv, rv⟩ := R.2 i d hi
      exact ⟨v, hv, h v rv⟩
    · rw [List.getElem?_eq_none (by simpa using hl)] at q
      cases q
  · rw [List.getElem?_set_ne e] at q
    exact R.2 j c q
/-- the object at a slot stands still from here on -/
theorem simS_frzO {i : Nat} {a : Addr} {C : Addr} {fs : List (Str × D)} (hi : ρ[i]? = some (some (.ptr a))) (ha : m a = some (.ins C fs)) (h : SimS K t (ρ.set i (some (.obj C (fs.map (·.1)) (fs.map (·.2))))) (mdel m a) A) : SimS K t ρ m A := fun S H σ e M R D hD => by
  obtain ⟨_, dx, ys, h1, h2⟩ := M a _ ha
  have st := Step.freeze (o := .ins C dx ys) e M ha h1
  refine h _ H σ st.sh st.mr (renv_put (R.mono st.ss) hi fun v r => ?_) D (hD.step st)
  have r : v = .ref a := r
  exact ⟨a, dx, ys, r, upd_same, h2.names, h2.vals.mono st.ss⟩
theorem simS_frzL {i : Nat} {a : Addr} {ds : List D} (hi : ρ[i]? = some (some (.ptr a))) (ha : m a = some (.lst ds)) (h : SimS K t (ρ.set i (some (.lst ds))) (mdel m a) A) : SimS K t ρ m A := fun S H σ e M R D hD => by
  obtain ⟨_, xs, h1, h2⟩ := M a _ ha
  have st := Step.freeze (o := .lst xs) e M ha h1
  refine h _ H σ st.sh st.mr (renv_put (R.mono st.ss) hi fun v r => ?_) D (hD.step st)
  have r : v = .ref a := r
  exact ⟨a, xs, r, .inl (.inl upd_same), h2.mono st.ss⟩
/-- an object let go -/
theorem simS_forget {a : Addr} (h : SimS K t ρ (mdel m a) A) : SimS K t ρ m A := fun S H σ e M R D hD => by
  have st := Step.drop (a := a) e M
  exact h S H σ st.sh st.mr R D (hD.step st)
theorem SimS.imp {A' : AEnds} (h : SimS K t ρ m A) (h1 : ∀ ρ m, A.nx ρ m → A'.nx ρ m) (h2 : ∀ d m, A.rt d m → A'.rt d m) (h3 : ∀ ρ m, A.bk ρ m → A'.bk ρ m) (h4 : ∀ ρ m, A.ct ρ m → A'.ct ρ m) : SimS K t ρ m A' := fun S H σ e M R D hD =>
  h S H σ e M R D ⟨fun ρ' m' S' H' σ' p st R' => hD.nx ρ' m' S' H' σ' (h1 _ _ p) st R', fun d m' v S' H' p st r => hD.rt d m' v S' H' (h2 _ _ p) st r, fun ρ' m' S' H' σ' p st R' => hD.bk ρ' m' S' H' σ' (h3 _ _ p) st R', fun ρ' m' S' H' σ' p st R' => hD.ct ρ' m' S' H' σ' (h4 _ _ p) st R'⟩
end
end L3

/-! text L3m -/
set_option Elab.async false
set_option linter.all false
set_option maxRecDepth 100000
set_option maxHeartbeats 4000000
/-! L3m: fractions as rational numbers, in plain Lean. -/
namespace L3
open PySem L2
open scoped Rat

abbrev fr (q : Rat) : D := .tup [.int q.num, .int q.den]
/-- numerator and denominator below 2 ^ k -/
def Bd (k : Nat) (q : Rat) : Prop := q.num.natAbs < 2 ^ k ∧ q.den < 2 ^ k
theorem Bd.mono {k l : Nat} {q : Rat} (h : Bd k q) (hl : k ≤ l) : Bd l q :=
  ⟨Nat.lt_of_lt_of_le h.1 (Nat.pow_le_pow_right (by decide) hl), Nat.lt_of_lt_of_le h.2 (Nat.pow_le_pow_right (by decide) hl)⟩
theorem low_num {a b : Int} (h : 0 < b) : (a /. b).num = a / (Int.gcd a b : Int) := by
  rw [Rat.num_divInt, Int.sign_eq_one_of_pos h, Int.one_mul, Int.gcd_comm]
theorem low_den {a b : Int} (h : 0 < b) : ((a /. b).den : Int) = b / (Int.gcd a b : Int) := by
  rw [Rat.den_divInt, if_neg (by omega), Int.gcd_comm, Int.natCast_ediv, Int.natAbs_of_nonneg (by omega)]
theorem gcd_pos {a b : Int} (h : 0 < b) : 0 < (Int.gcd a b : Int) := by
  have : 0 < Int.gcd a b := Int.gcd_pos_of_ne_zero_right _ (by omega)
  omega
theorem gcd_le {a b : Int} (h : 0 < b) : Int.gcd a b ≤ b.natAbs := by
  have := Int.gcd_dvd_right a b
  have := Int.le_of_dvd h this
  omega
theorem bd_divInt {a b : Int} {k : Nat} (h : 0 < b) (ha : a.natAbs < 2 ^ k) (hb : b.natAbs < 2 ^ k) : Bd k (a /. b) := by
  have g := gcd_pos (a := a) h
  refine ⟨?_, ?_⟩
  · rw [low_num h]
    refine Nat.lt_of_le_of_lt ?_ ha
    rw [Int.natAbs_ediv_of_dvd (Int.gcd_dvd_left a b)]
    exact Nat.div_le_self _ _
  · have e := low_den (a := a) h
    have e2 : (a /. b).den ≤ b.natAbs := by
      have : b / (Int.gcd a b : Int) ≤ b := Int.ediv_le_self _ (by omega)
      omega
    omega
theorem den_pos (q : Rat) : 0 < (q.den : Int) := by
  have := q.den_pos
  omega
theorem fr_self (q : Rat) : q.num /. (q.den : Int) = q := Rat.num_divInt_den q
theorem rat_add (x y : Rat) : x + y = (x.num * (y.den : Int) + y.num * (x.den : Int)) /. ((x.den : Int) * (y.den : Int)) := by
  rw [Rat.add_def', ← Int.natCast_mul, Rat.divInt_ofNat]
theorem rat_sub (x y : Rat) : x - y = (x.num * (y.den : Int) - y.num * (x.den : Int)) /. ((x.den : Int) * (y.den : Int)) := by
  rw [Rat.sub_def', ← Int.natCast_mul, Rat.divInt_ofNat]
theorem rat_mul (x y : Rat) : x * y = (x.num * y.num) /. ((x.den : Int) * (y.den : Int)) := by
  rw [Rat.mul_def', ← Int.natCast_mul, Rat.divInt_ofNat]
theorem rat_div (x y : Rat) : x / y = (x.num * (y.den : Int)) /. ((x.den : Int) * y.num) := by
  rw [Rat.div_def]
  conv => lhs; rw [← fr_self x, Rat.inv_def]
  rw [Rat.divInt_mul_divInt]
theorem num_pos {q : Rat} (h : 0 < q) : 0 < q.num := by
  have h1 : 0 ≤ q.num := Rat.num_nonneg.mpr (Rat.le_of_lt h)
  have h2 : q.num ≠ 0 := fun z => Rat.ne_of_gt h (Rat.num_eq_zero.mp z)
  omega
theorem pow_mul' {a b k l : Nat} (h1 : a < 2 ^ k) (h2 : b < 2 ^ l) : a * b < 2 ^ (k + l) := by
  rw [Nat.pow_add]
  exact Nat.mul_lt_mul'' h1 h2
theorem wl {a b : Int} {k l : Nat} (h1 : a.natAbs < 2 ^ k) (h2 : b.natAbs < 2 ^ l) : (a * b).natAbs < 2 ^ (k + l) := wide_lt h1 h2
theorem natAbs_add2 {a b : Int} {k : Nat} (h1 : a.natAbs < 2 ^ k) (h2 : b.natAbs < 2 ^ k) : (a + b).natAbs < 2 ^ (k + 1) := by
  rw [Nat.pow_succ]
  omega
theorem natAbs_sub2 {a b : Int} {k : Nat} (h1 : a.natAbs < 2 ^ k) (h2 : b.natAbs < 2 ^ k) : (a - b).natAbs < 2 ^ (k + 1) := by
  rw [Nat.pow_succ]
  omega
theorem Bd.dn {k : Nat} {q : Rat} (h : Bd k q) : (q.den : Int).natAbs < 2 ^ k := by
  rw [Int.natAbs_natCast]
  exact h.2
theorem pow_up {a k l : Nat} (h : a < 2 ^ k) (hl : k ≤ l) : a < 2 ^ l := Nat.lt_of_lt_of_le h (Nat.pow_le_pow_right (by decide) hl)
section
variable {x y : Rat} {k l : Nat}
theorem bd_add (hx : Bd k x) (hy : Bd l y) : Bd (k + l + 1) (x + y) := by
  rw [rat_add]
  refine bd_divInt (Int.mul_pos (den_pos x) (den_pos y)) (natAbs_add2 (wl hx.1 hy.dn) ?_) (pow_up (wl hx.dn hy.dn) (by omega))
  rw [Nat.add_comm]
  exact wl hy.1 hx.dn
theorem bd_sub (hx : Bd k x) (hy : Bd l y) : Bd (k + l + 1) (x - y) := by
  rw [rat_sub]
  refine bd_divInt (Int.mul_pos (den_pos x) (den_pos y)) (natAbs_sub2 (wl hx.1 hy.dn) ?_) (pow_up (wl hx.dn hy.dn) (by omega))
  rw [Nat.add_comm]
  exact wl hy.1 hx.dn
theorem bd_mul (hx : Bd k x) (hy : Bd l y) : Bd (k + l) (x * y) := by
  rw [rat_mul]
  exact bd_divInt (Int.mul_pos (den_pos x) (den_pos y)) (wl hx.1 hy.1) (wl hx.dn hy.dn)
theorem bd_div (hx : Bd k x) (hy : Bd l y) (h : 0 < y) : Bd (k + l) (x / y) := by
  rw [rat_div]
  exact bd_divInt (Int.mul_pos (den_pos x) (num_pos h)) (wl hx.1 hy.dn) (wl hx.dn hy.1)
theorem cmw {a b : Int} (h1 : a.natAbs < 2 ^ k) (h2 : b.natAbs < 2 ^ l) (h : k + l ≤ 900000) : CMulW a b :=
  wide_mul (pow_up h1 (Nat.le_succ k)) (pow_up h2 (Nat.le_succ l)) (Nat.succ_pos _) (Nat.succ_pos _) (by omega)
end
end L3

/-! text L3n -/
set_option Elab.async false
set_option linter.all false
set_option maxRecDepth 100000
set_option maxHeartbeats 4000000
namespace L3
open PySem L2
open scoped Rat
local macro_rules | `(tactic| walk_at "s1") => `(tactic| first
  | with_reducible refine simS_seq ?_
  | with_reducible refine simS_ret ?_
  | with_reducible refine simS_retN ?_
  | with_reducible refine simS_if ?_
  | with_reducible refine simS_set ?_
  | with_reducible refine simS_drop ?_
  | with_reducible refine simS_next ?_
  | with_reducible refine simS_fld ?_
  | with_reducible refine simS_dput ?_
  | with_reducible refine simT_test ?_
  | with_reducible refine simT_B ?_
  | with_reducible refine simT_not ?_
  | with_reducible refine simT_and ?_
  | with_reducible refine simT_or ?_
  | focus ((with_reducible refine sim_var (d := ?_) ?_ ?_); rotate_left 1; exact rfl)
  | with_reducible refine sim_int ?_
  | with_reducible refine sim_bl ?_
  | with_reducible refine sim_str ?_
  | with_reducible refine sim_non ?_
  | with_reducible refine sim_ty ?_
  | with_reducible refine sim_op ?_
  | with_reducible refine sim_un ?_
  | with_reducible refine sim_andV ?_
  | with_reducible refine sim_orV ?_
  | with_reducible refine sim_notV ?_
  | with_reducible refine sim_chain ?_
  | with_reducible refine sim_tup ?_
  | with_reducible refine sim_call ?_
  | with_reducible refine sim_callB ?_
  | with_reducible refine sim_make ?_
  | with_reducible refine sim_fld ?_
  | with_reducible refine sim_meth ?_
  | with_reducible refine sim_cfn ?_
  | with_reducible refine sim_dget ?_
  | with_reducible refine sim_sl ?_
  | with_reducible refine simO_none ?_
  | with_reducible refine simO_some ?_
  | with_reducible refine simA_cons ?_
  | with_reducible refine simA_nil ?_
  | with_reducible refine simG_name ?_
  | with_reducible refine simG_pair ?_
  | with_reducible refine ops_addI ?_
  | with_reducible refine ops_subI ?_
  | with_reducible refine ops_lt ?_
  | with_reducible refine ops_le ?_
  | with_reducible refine ops_gt ?_
  | with_reducible refine ops_ge ?_
  | with_reducible refine ops_eqI ?_
  | with_reducible refine ops_neI ?_
  | with_reducible refine ops_eqSt ?_
  | with_reducible refine ops_eqNS ?_
  | with_reducible refine ops_isN ?_
  | with_reducible refine ops_notN ?_
  | with_reducible refine cs_abs ?_
  | with_reducible refine cs_max2 ?_
  | with_reducible refine cs_min2 ?_
  | focus ((with_reducible refine ops_ixT' (d := ?_) ?_ ?_); rotate_left 1; exact rfl)
  | (with_reducible refine ⟨_, rfl, ?_⟩)
  | with_reducible refine ite_T ?_
  | with_reducible refine ite_F ?_)
local macro_rules | `(tactic| walk_at "sx") => `(tactic| repeat walk_at "s1")

section
variable {P : Program} {w : World} {K : PySem.W.Frag} {mg : Str → Option Value} {base : Heap} {a : Adr}

/-! L3n: the defs on fractions, program's and law's. -/
theorem _root_.List.getElem?_map_some {α β : Type} {f : α → β} {xs : List α} {i : Nat} {y : β} (h : (xs.map f)[i]? = some y) : ∃ x, xs[i]? = some x ∧ f x = y := by
  rw [List.getElem?_map] at h
  cases q : xs[i]? with
  | none =>
    rw [q] at h
    cases h
  | some x =>
    rw [q] at h
    exact ⟨x, rfl, by simpa using h⟩
def cGcd : Ctr := fun ds m P => ∃ a b : Int, ds = [.int a, .int b] ∧ P (.int (Int.gcd a b)) m
def cLow : Ctr := fun ds m P => ∃ a b : Int, ds = [.int a, .int b] ∧ 0 < b ∧ b.natAbs < 2 ^ 9000 ∧ P (fr (a /. b)) m
def cPlus : Ctr := fun ds m P => ∃ (x y : Rat) (k l : Nat), ds = [fr x, fr y] ∧ Bd k x ∧ Bd l y ∧ k + l ≤ 9000 ∧ P (fr (x + y)) m
def cMinus : Ctr := fun ds m P => ∃ (x y : Rat) (k l : Nat), ds = [fr x, fr y] ∧ Bd k x ∧ Bd l y ∧ k + l ≤ 9000 ∧ P (fr (x - y)) m
def cTimes : Ctr := fun ds m P => ∃ (x y : Rat) (k l : Nat), ds = [fr x, fr y] ∧ Bd k x ∧ Bd l y ∧ k + l ≤ 9000 ∧ P (fr (x * y)) m
def cOver : Ctr := fun ds m P => ∃ (x y : Rat) (k l : Nat), ds = [fr x, fr y] ∧ Bd k x ∧ Bd l y ∧ k + l ≤ 9000 ∧ 0 < y ∧ P (fr (x / y)) m
def cBelow : Ctr := fun ds m P => ∃ (x y : Rat) (k l : Nat), ds = [fr x, fr y] ∧ Bd k x ∧ Bd l y ∧ k + l ≤ 90000 ∧ P (.bl (decide (x < y))) m
/-- _law_over: its first pair need not be in lowest terms -/
def cLOver : Ctr := fun ds m P => ∃ (a b c d : Int) (k l : Nat), ds = [.tup [.int a, .int b], .tup [.int c, .int d]] ∧ 0 < b ∧ 0 < c ∧ 0 < d ∧ a.natAbs < 2 ^ k ∧ b.natAbs < 2 ^ k ∧ c.natAbs < 2 ^ l ∧ d.natAbs < 2 ^ l ∧ k + l ≤ 9000 ∧ P (fr ((a * d) /. (b * c))) m
def cTotal : Ctr := fun ds m P => ∃ (x : D) (qs : List Rat), ds = [x] ∧ LstAt m x (qs.map fr) ∧ (∀ q ∈ qs, Bd 100 q) ∧ (∀ i, i ≤ qs.length → Bd 800 ((qs.take i).foldl (· + ·) 0)) ∧ P (fr (qs.foldl (· + ·) 0)) m
theorem gcd_abs (a b : Int) : Int.gcd (if a < 0 then -a else a) (if b < 0 then -b else b) = Int.gcd a b := by
  split <;> split <;> simp [Int.gcd_neg, Int.neg_gcd]
theorem gcd_step {x y : Int} (hx : 0 ≤ x) (hy : 0 < y) : Int.gcd y (x % y) = Int.gcd x y := by
  rw [Int.gcd_comm, Int.emod_def, Int.gcd_sub_mul_left_left]
abbrev s_in_common : Stmt := top 10
theorem sc_in_common : FnScope ["a", "b"] ["a", "b"] (defScope s_in_common) := ⟨rfl, rfl, rfl, by decide +kernel, rfl, by decide +kernel, by decide +kernel⟩
theorem ok_in_common {f : Addr} {fd : FuncData} (F : Fun K "in_common" "in_common" s_in_common f fd) (T : Txt K mg a)  : FnOk P w K mg base CX0 (0 + 1) f fd ["a", "b"] (spOf K (cGcd)) := by
  refine def_ok F sc_in_common ?_ ?_
  · rintro ds m PP ⟨a, b, rfl, hP⟩
    rfl
  · rintro cdv A outer s H E hr ds m PP ⟨a, b, rfl, hP⟩
    refine ⟨_, (pss_cons (ps_set (i := 0) sc_in_common.nd rfl (by first | exact Or.inl rfl | exact Or.inr rfl) (pe_callB call_abs (by rfl) T.b_abs (by decide +kernel) (pa_cons (pv 0) pa_nil)))
      (pss_cons (ps_set (i := 1) sc_in_common.nd rfl (by first | exact Or.inl rfl | exact Or.inr rfl) (pe_callB call_abs (by rfl) T.b_abs (by decide +kernel) (pa_cons (pv 1) pa_nil)))
      (pss_cons (ps_while PassesOwn.never (pt_cmpR op_gt (pv 1) pe_int (nomark _)) (pss_one (ps_par (i := 0) (j := 1) rfl sc_in_common.nd rfl rfl (by decide) rfl rfl (pa_cons (pv 1) (pa_cons (pe_op op_mod (pv 0) (pv 1)) pa_nil)) (by rfl))))
      (pss_one (ps_ret (pv 0)))))), ?_⟩
    walk_at "sx"
    refine simS_while (W := fun n ρ' m' => m' = m ∧ ∃ x y : Int, ρ' = [some (.int x), some (.int y)] ∧ 0 ≤ x ∧ 0 ≤ y ∧ Int.gcd x y = Int.gcd a b ∧ n = y.toNat) (n := (if b < 0 then -b else b).toNat) ⟨rfl, _, _, rfl, by split <;> omega, by split <;> omega, gcd_abs a b, rfl⟩ ?_
    rintro n ρ' m' ⟨rfl, x, y, rfl, hx, hy, hg, hn⟩
    walk_at "sx"
    refine ite_d (fun h => ?_) (fun h => ?_)
    · refine simS_par ?_
      walk_at "sx"
      refine ops_modI h ?_
      walk_at "sx"
      refine ⟨_, _, rfl, _, ?_, rfl, _, _, rfl, hy, Int.emod_nonneg _ (by omega), ?_, rfl⟩
      · have := Int.emod_lt_of_pos x h
        have := Int.emod_nonneg x (show y ≠ 0 by omega)
        omega
      · rw [gcd_step hx h, hg]
    · walk_at "sx"
      have hy0 : y = 0 := by omega
      subst hy0
      rw [← hg, Int.gcd_zero_right, Int.natAbs_of_nonneg hx] at hP
      exact hP
abbrev s_lowest : Stmt := top 11
theorem sc_lowest : FnScope ["a", "b", "divisor"] ["a", "b"] (defScope s_lowest) := ⟨rfl, rfl, rfl, by decide +kernel, rfl, by decide +kernel, by decide +kernel⟩
theorem ok_lowest {f : Addr} {fd : FuncData} (F : Fun K "lowest" "lowest" s_lowest f fd) (T : Txt K mg a) (h_in_common : CalC P w K mg base 1 "in_common" (cGcd)) : FnOk P w K mg base CX0 (1 + 1) f fd ["a", "b"] (spOf K (cLow)) := by
  refine def_ok F sc_lowest ?_ ?_
  · rintro ds m PP ⟨a, b, rfl, hb, hs, hP⟩
    rfl
  · rintro cdv A outer s H E hr ds m PP ⟨a, b, rfl, hb, hs, hP⟩
    refine ⟨_, (pss_cons (ps_if (pt_cmpR (pk_eq T hr.units) (pv 1) pe_int (nomark _)) (pss_one ps_never) pss_nil)
      (pss_cons (ps_set (i := 2) sc_lowest.nd rfl (by first | exact Or.inl rfl | exact Or.inr rfl) (pk_cal h_in_common hr (by decide) (pa_cons (pv 0) (pa_cons (pv 1) pa_nil))))
      (pss_cons (ps_if (pt_cmpR op_lt (pv 1) pe_int (nomark _)) (pss_one (ps_set (i := 2) sc_lowest.nd rfl (by first | exact Or.inl rfl | exact Or.inr rfl) (pe_op op_sub pe_int (pv 2)))) pss_nil)
      (pss_one (ps_ret (pe_tup (pa_cons (pe_op op_fdivW (pv 0) (pv 2)) (pa_cons (pe_op op_fdivW (pv 1) (pv 2)) pa_nil)))))))), ?_⟩
    walk_at "sx"
    refine ite_n (by omega) ?_
    walk_at "sx"
    refine ⟨_, _, rfl, ?_⟩
    walk_at "sx"
    refine ite_n (by omega) ?_
    walk_at "sx"
    have g := gcd_pos (a := a) hb
    have c : CDivW a (Int.gcd a b : Int) := wide_div g (Nat.lt_of_le_of_lt (gcd_le hb) hs) (by decide) (by decide)
    refine ops_divI c ?_
    walk_at "sx"
    refine ops_divI c ?_
    walk_at "sx"
    refine ⟨by simp, ?_⟩
    rw [fr, low_num hb, low_den hb] at hP
    exact hP
abbrev s_plus : Stmt := top 12
theorem sc_plus : FnScope ["x", "y"] ["x", "y"] (defScope s_plus) := ⟨rfl, rfl, rfl, by decide +kernel, rfl, by decide +kernel, by decide +kernel⟩
theorem ok_plus {f : Addr} {fd : FuncData} (F : Fun K "plus" "plus" s_plus f fd) (T : Txt K mg a) (h_lowest : CalC P w K mg base 2 "lowest" (cLow)) : FnOk P w K mg base CX0 (2 + 1) f fd ["x", "y"] (spOf K (cPlus)) := by
  refine def_ok F sc_plus ?_ ?_
  · rintro ds m PP ⟨x, y, k, l, rfl, hx, hy, hk, hP⟩
    rfl
  · rintro cdv A outer s H E hr ds m PP ⟨x, y, k, l, rfl, hx, hy, hk, hP⟩
    refine ⟨_, (pss_one (ps_ret (pk_cal h_lowest hr (by decide) (pa_cons (pe_op (pk_add T) (pe_op (pk_mul T) (pe_ix (pk_ix T) (pv 0) pe_int (fun _ _ => rfl)) (pe_ix (pk_ix T) (pv 1) pe_int (fun _ _ => rfl))) (pe_op (pk_mul T) (pe_ix (pk_ix T) (pv 1) pe_int (fun _ _ => rfl)) (pe_ix (pk_ix T) (pv 0) pe_int (fun _ _ => rfl)))) (pa_cons (pe_op (pk_mul T) (pe_ix (pk_ix T) (pv 0) pe_int (fun _ _ => rfl)) (pe_ix (pk_ix T) (pv 1) pe_int (fun _ _ => rfl))) pa_nil))))), ?_⟩
    walk_at "sx"
    refine ops_mulI (cmw hx.1 hy.dn (by omega)) ?_
    walk_at "sx"
    refine ops_mulI (cmw hy.1 hx.dn (by omega)) ?_
    walk_at "sx"
    refine ops_mulI (cmw hx.dn hy.dn (by omega)) ?_
    walk_at "sx"
    refine ⟨_, _, rfl, Int.mul_pos (den_pos x) (den_pos y), pow_up (wl hx.dn hy.dn) hk, ?_⟩
    rw [← rat_add]
    exact hP
abbrev s_minus : Stmt := top 13
theorem sc_minus : FnScope ["x", "y"] ["x", "y"] (defScope s_minus) := ⟨rfl, rfl, rfl, by decide +kernel, rfl, by decide +kernel, by decide +kernel⟩
theorem ok_minus {f : Addr} {fd : FuncData} (F : Fun K "minus" "minus" s_minus f fd) (T : Txt K mg a) (h_lowest : CalC P w K mg base 2 "lowest" (cLow)) : FnOk P w K mg base CX0 (2 + 1) f fd ["x", "y"] (spOf K (cMinus)) := by
  refine def_ok F sc_minus ?_ ?_
  · rintro ds m PP ⟨x, y, k, l, rfl, hx, hy, hk, hP⟩
    rfl
  · rintro cdv A outer s H E hr ds m PP ⟨x, y, k, l, rfl, hx, hy, hk, hP⟩
    refine ⟨_, (pss_one (ps_ret (pk_cal h_lowest hr (by decide) (pa_cons (pe_op op_sub (pe_op (pk_mul T) (pe_ix (pk_ix T) (pv 0) pe_int (fun _ _ => rfl)) (pe_ix (pk_ix T) (pv 1) pe_int (fun _ _ => rfl))) (pe_op (pk_mul T) (pe_ix (pk_ix T) (pv 1) pe_int (fun _ _ => rfl)) (pe_ix (pk_ix T) (pv 0) pe_int (fun _ _ => rfl)))) (pa_cons (pe_op (pk_mul T) (pe_ix (pk_ix T) (pv 0) pe_int (fun _ _ => rfl)) (pe_ix (pk_ix T) (pv 1) pe_int (fun _ _ => rfl))) pa_nil))))), ?_⟩
    walk_at "sx"
    refine ops_mulI (cmw hx.1 hy.dn (by omega)) ?_
    walk_at "sx"
    refine ops_mulI (cmw hy.1 hx.dn (by omega)) ?_
    walk_at "sx"
    refine ops_mulI (cmw hx.dn hy.dn (by omega)) ?_
    walk_at "sx"
    refine ⟨_, _, rfl, Int.mul_pos (den_pos x) (den_pos y), pow_up (wl hx.dn hy.dn) hk, ?_⟩
    rw [← rat_sub]
    exact hP
abbrev s_times : Stmt := top 14
theorem sc_times : FnScope ["x", "y"] ["x", "y"] (defScope s_times) := ⟨rfl, rfl, rfl, by decide +kernel, rfl, by decide +kernel, by decide +kernel⟩
theorem ok_times {f : Addr} {fd : FuncData} (F : Fun K "times" "times" s_times f fd) (T : Txt K mg a) (h_lowest : CalC P w K mg base 2 "lowest" (cLow)) : FnOk P w K mg base CX0 (2 + 1) f fd ["x", "y"] (spOf K (cTimes)) := by
  refine def_ok F sc_times ?_ ?_
  · rintro ds m PP ⟨x, y, k, l, rfl, hx, hy, hk, hP⟩
    rfl
  · rintro cdv A outer s H E hr ds m PP ⟨x, y, k, l, rfl, hx, hy, hk, hP⟩
    refine ⟨_, (pss_one (ps_ret (pk_cal h_lowest hr (by decide) (pa_cons (pe_op (pk_mul T) (pe_ix (pk_ix T) (pv 0) pe_int (fun _ _ => rfl)) (pe_ix (pk_ix T) (pv 1) pe_int (fun _ _ => rfl))) (pa_cons (pe_op (pk_mul T) (pe_ix (pk_ix T) (pv 0) pe_int (fun _ _ => rfl)) (pe_ix (pk_ix T) (pv 1) pe_int (fun _ _ => rfl))) pa_nil))))), ?_⟩
    walk_at "sx"
    refine ops_mulI (cmw hx.1 hy.1 (by omega)) ?_
    walk_at "sx"
    refine ops_mulI (cmw hx.dn hy.dn (by omega)) ?_
    walk_at "sx"
    refine ⟨_, _, rfl, Int.mul_pos (den_pos x) (den_pos y), pow_up (wl hx.dn hy.dn) hk, ?_⟩
    rw [← rat_mul]
    exact hP
abbrev s_over : Stmt := top 15
theorem sc_over : FnScope ["x", "y"] ["x", "y"] (defScope s_over) := ⟨rfl, rfl, rfl, by decide +kernel, rfl, by decide +kernel, by decide +kernel⟩
theorem ok_over {f : Addr} {fd : FuncData} (F : Fun K "over" "over" s_over f fd) (T : Txt K mg a) (h_lowest : CalC P w K mg base 2 "lowest" (cLow)) : FnOk P w K mg base CX0 (2 + 1) f fd ["x", "y"] (spOf K (cOver)) := by
  refine def_ok F sc_over ?_ ?_
  · rintro ds m PP ⟨x, y, k, l, rfl, hx, hy, hk, hp, hP⟩
    rfl
  · rintro cdv A outer s H E hr ds m PP ⟨x, y, k, l, rfl, hx, hy, hk, hp, hP⟩
    refine ⟨_, (pss_one (ps_ret (pk_cal h_lowest hr (by decide) (pa_cons (pe_op (pk_mul T) (pe_ix (pk_ix T) (pv 0) pe_int (fun _ _ => rfl)) (pe_ix (pk_ix T) (pv 1) pe_int (fun _ _ => rfl))) (pa_cons (pe_op (pk_mul T) (pe_ix (pk_ix T) (pv 0) pe_int (fun _ _ => rfl)) (pe_ix (pk_ix T) (pv 1) pe_int (fun _ _ => rfl))) pa_nil))))), ?_⟩
    walk_at "sx"
    refine ops_mulI (cmw hx.1 hy.dn (by omega)) ?_
    walk_at "sx"
    refine ops_mulI (cmw hx.dn hy.1 (by omega)) ?_
    walk_at "sx"
    refine ⟨_, _, rfl, Int.mul_pos (den_pos x) (num_pos hp), pow_up (wl hx.dn hy.1) hk, ?_⟩
    rw [← rat_div]
    exact hP
abbrev s_below : Stmt := top 17
theorem sc_below : FnScope ["x", "y"] ["x", "y"] (defScope s_below) := ⟨rfl, rfl, rfl, by decide +kernel, rfl, by decide +kernel, by decide +kernel⟩
theorem ok_below {f : Addr} {fd : FuncData} (F : Fun K "below" "below" s_below f fd) (T : Txt K mg a)  : FnOk P w K mg base CX0 (0 + 1) f fd ["x", "y"] (spOf K (cBelow)) := by
  refine def_ok F sc_below ?_ ?_
  · rintro ds m PP ⟨x, y, k, l, rfl, hx, hy, hk, hP⟩
    rfl
  · rintro cdv A outer s H E hr ds m PP ⟨x, y, k, l, rfl, hx, hy, hk, hP⟩
    refine ⟨_, (pss_one (ps_ret (pe_cmpR op_lt (pe_op (pk_mul T) (pe_ix (pk_ix T) (pv 0) pe_int (fun _ _ => rfl)) (pe_ix (pk_ix T) (pv 1) pe_int (fun _ _ => rfl))) (pe_op (pk_mul T) (pe_ix (pk_ix T) (pv 1) pe_int (fun _ _ => rfl)) (pe_ix (pk_ix T) (pv 0) pe_int (fun _ _ => rfl))) (nomark _)))), ?_⟩
    walk_at "sx"
    refine ops_mulI (cmw hx.1 hy.dn (by omega)) ?_
    walk_at "sx"
    refine ops_mulI (cmw hy.1 hx.dn (by omega)) ?_
    walk_at "sx"
    rw [← decide_eq_decide.mpr (Rat.lt_iff x y)]
    exact hP
theorem foldl_take_succ {qs : List Rat} {i : Nat} {q : Rat} (h : qs[i]? = some q) (z : Rat) : (qs.take (i + 1)).foldl (· + ·) z = (qs.take i).foldl (· + ·) z + q := by
  rw [List.take_add_one, h, List.foldl_append]
  rfl
abbrev s_total : Stmt := top 16
theorem sc_total : FnScope ["some", "found", "x"] ["some"] (defScope s_total) := ⟨rfl, rfl, rfl, by decide +kernel, rfl, by decide +kernel, by decide +kernel⟩
theorem ok_total {f : Addr} {fd : FuncData} (F : Fun K "total" "total" s_total f fd) (T : Txt K mg a) (h_plus : CalC P w K mg base 3 "plus" (cPlus)) : FnOk P w K mg base CX0 (3 + 1) f fd ["some"] (spOf K (cTotal)) := by
  refine def_ok F sc_total ?_ ?_
  · rintro ds m PP ⟨x, qs, rfl, hx, hq, hs, hP⟩
    rfl
  · rintro cdv A outer s H E hr ds m PP ⟨x, qs, rfl, hx, hq, hs, hP⟩
    refine ⟨_, (pss_cons (ps_set (i := 1) sc_total.nd rfl (by first | exact Or.inl rfl | exact Or.inr rfl) (pe_tup (pa_cons pe_int (pa_cons pe_int pa_nil))))
      (pss_cons (ps_for PassesOwn.never rfl (pk_seq T (pv 0)) (pg_name (i := 2) sc_total.nd rfl (by first | exact Or.inl rfl | exact Or.inr rfl)) (pss_one (ps_set (i := 1) sc_total.nd rfl (by first | exact Or.inl rfl | exact Or.inr rfl) (pk_cal h_plus hr (by decide) (pa_cons (pv 1) (pa_cons (pv 2) pa_nil))))))
      (pss_one (ps_ret (pv 1))))), ?_⟩
    walk_at "sx"
    refine ⟨by simp, ?_⟩
    walk_at "sx"
    refine simS_for (ts := [2]) (simI_seq ?_)
    walk_at "sx"
    refine ⟨qs.map fr, .inl hx, fun i ρ' m' => m' = m ∧ ∃ z, ρ' = [some x, some (fr ((qs.take i).foldl (· + ·) 0)), z], ⟨rfl, _, rfl⟩, ?_, ?_, ?_⟩
    · rintro i ρ' m' _ ⟨rfl, _⟩
      exact .inl hx
    · rintro i d ρ' m' hd ⟨rfl, z, rfl⟩
      obtain ⟨q, hq1, rfl⟩ := List.getElem?_map_some hd
      walk_at "sx"
      refine ⟨_, _, 800, 100, rfl, hs i ?_, hq q (List.mem_of_getElem? hq1), by omega, ?_⟩
      · have := (List.getElem?_eq_some_iff.mp hq1).1
        omega
      · refine ⟨rfl, some (fr q), ?_⟩
        rw [foldl_take_succ hq1]
        rfl
    · rintro ρ' m' ⟨rfl, z, rfl⟩
      walk_at "sx"
      rw [List.length_map, List.take_length]
      exact hP
abbrev s_l_lowest : Stmt := top 56
theorem sc_l_lowest : FnScope ["_law_a", "_law_b", "_law_one", "_law_other"] ["_law_a", "_law_b"] (defScope s_l_lowest) := ⟨rfl, rfl, rfl, by decide +kernel, rfl, by decide +kernel, by decide +kernel⟩
theorem ok_l_lowest {f : Addr} {fd : FuncData} (F : Fun K "_law_lowest" "_law_lowest" s_l_lowest f fd) (T : Txt K mg a)  : FnOk P w K mg base CX0 (0 + 1) f fd ["_law_a", "_law_b"] (spOf K (cLow)) := by
  refine def_ok F sc_l_lowest ?_ ?_
  · rintro ds m PP ⟨a, b, rfl, hb, hs, hP⟩
    rfl
  · rintro cdv A outer s H E hr ds m PP ⟨a, b, rfl, hb, hs, hP⟩
    refine ⟨_, (pss_cons (ps_if (pt_cmpR op_lt (pv 1) pe_int (nomark _)) (pss_cons (ps_set (i := 0) sc_l_lowest.nd rfl (by first | exact Or.inl rfl | exact Or.inr rfl) (pe_op op_sub pe_int (pv 0)))
      (pss_one (ps_set (i := 1) sc_l_lowest.nd rfl (by first | exact Or.inl rfl | exact Or.inr rfl) (pe_op op_sub pe_int (pv 1))))) pss_nil)
      (pss_cons (ps_set (i := 2) sc_l_lowest.nd rfl (by first | exact Or.inl rfl | exact Or.inr rfl) (pe_callB (call_max2 rfl) (by rfl) T.b_max (by decide +kernel) (pa_cons (pv 0) (pa_cons (pe_op op_sub pe_int (pv 0)) pa_nil))))
      (pss_cons (ps_set (i := 3) sc_l_lowest.nd rfl (by first | exact Or.inl rfl | exact Or.inr rfl) (pv 1))
      (pss_cons (ps_while PassesOwn.never (pt_cmpR op_gt (pv 3) pe_int (nomark _)) (pss_one (ps_par (i := 2) (j := 3) rfl sc_l_lowest.nd rfl rfl (by decide) rfl rfl (pa_cons (pv 3) (pa_cons (pe_op op_mod (pv 2) (pv 3)) pa_nil)) (by rfl))))
      (pss_one (ps_ret (pe_tup (pa_cons (pe_op op_fdivW (pv 0) (pv 2)) (pa_cons (pe_op op_fdivW (pv 1) (pv 2)) pa_nil))))))))), ?_⟩
    walk_at "sx"
    refine ite_n (by omega) ?_
    walk_at "sx"
    refine simS_while (W := fun n ρ' m' => m' = m ∧ ∃ x y : Int, ρ' = [some (.int a), some (.int b), some (.int x), some (.int y)] ∧ 0 ≤ x ∧ 0 ≤ y ∧ Int.gcd x y = Int.gcd a b ∧ n = y.toNat) (n := b.toNat) ⟨rfl, _, _, rfl, by split <;> omega, by omega, ?_, rfl⟩ ?_
    · split
      · simp [Int.neg_gcd]
      · rfl
    rintro n ρ' m' ⟨rfl, x, y, rfl, hx, hy, hg, hn⟩
    walk_at "sx"
    refine ite_d (fun h => ?_) (fun h => ?_)
    · refine simS_par ?_
      walk_at "sx"
      refine ops_modI h ?_
      walk_at "sx"
      refine ⟨_, _, rfl, _, ?_, rfl, _, _, rfl, hy, Int.emod_nonneg _ (by omega), ?_, rfl⟩
      · have := Int.emod_lt_of_pos x h
        have := Int.emod_nonneg x (show y ≠ 0 by omega)
        omega
      · rw [gcd_step hx h, hg]
    · walk_at "sx"
      have hy0 : y = 0 := by omega
      subst hy0
      rw [Int.gcd_zero_right] at hg
      have hx2 : x = (Int.gcd a b : Int) := by omega
      subst hx2
      have g := gcd_pos (a := a) hb
      have c : CDivW a (Int.gcd a b : Int) := wide_div g (Nat.lt_of_le_of_lt (gcd_le hb) hs) (by decide) (by decide)
      refine ops_divI c ?_
      walk_at "sx"
      refine ops_divI c ?_
      walk_at "sx"
      refine ⟨by simp, ?_⟩
      rw [fr, low_num hb, low_den hb] at hP
      exact hP
abbrev s_l_plus : Stmt := top 57
theorem sc_l_plus : FnScope ["_law_x", "_law_y"] ["_law_x", "_law_y"] (defScope s_l_plus) := ⟨rfl, rfl, rfl, by decide +kernel, rfl, by decide +kernel, by decide +kernel⟩
theorem ok_l_plus {f : Addr} {fd : FuncData} (F : Fun K "_law_plus" "_law_plus" s_l_plus f fd) (T : Txt K mg a) (h_l_lowest : CalC P w K mg base 1 "_law_lowest" (cLow)) : FnOk P w K mg base CX0 (1 + 1) f fd ["_law_x", "_law_y"] (spOf K (cPlus)) := by
  refine def_ok F sc_l_plus ?_ ?_
  · rintro ds m PP ⟨x, y, k, l, rfl, hx, hy, hk, hP⟩
    rfl
  · rintro cdv A outer s H E hr ds m PP ⟨x, y, k, l, rfl, hx, hy, hk, hP⟩
    refine ⟨_, (pss_one (ps_ret (pk_cal h_l_lowest hr (by decide) (pa_cons (pe_op (pk_add T) (pe_op (pk_mul T) (pe_ix (pk_ix T) (pv 0) pe_int (fun _ _ => rfl)) (pe_ix (pk_ix T) (pv 1) pe_int (fun _ _ => rfl))) (pe_op (pk_mul T) (pe_ix (pk_ix T) (pv 1) pe_int (fun _ _ => rfl)) (pe_ix (pk_ix T) (pv 0) pe_int (fun _ _ => rfl)))) (pa_cons (pe_op (pk_mul T) (pe_ix (pk_ix T) (pv 0) pe_int (fun _ _ => rfl)) (pe_ix (pk_ix T) (pv 1) pe_int (fun _ _ => rfl))) pa_nil))))), ?_⟩
    walk_at "sx"
    refine ops_mulI (cmw hx.1 hy.dn (by omega)) ?_
    walk_at "sx"
    refine ops_mulI (cmw hy.1 hx.dn (by omega)) ?_
    walk_at "sx"
    refine ops_mulI (cmw hx.dn hy.dn (by omega)) ?_
    walk_at "sx"
    refine ⟨_, _, rfl, Int.mul_pos (den_pos x) (den_pos y), pow_up (wl hx.dn hy.dn) hk, ?_⟩
    rw [← rat_add]
    exact hP
abbrev s_l_times : Stmt := top 58
theorem sc_l_times : FnScope ["_law_x", "_law_y"] ["_law_x", "_law_y"] (defScope s_l_times) := ⟨rfl, rfl, rfl, by decide +kernel, rfl, by decide +kernel, by decide +kernel⟩
theorem ok_l_times {f : Addr} {fd : FuncData} (F : Fun K "_law_times" "_law_times" s_l_times f fd) (T : Txt K mg a) (h_l_lowest : CalC P w K mg base 1 "_law_lowest" (cLow)) : FnOk P w K mg base CX0 (1 + 1) f fd ["_law_x", "_law_y"] (spOf K (cTimes)) := by
  refine def_ok F sc_l_times ?_ ?_
  · rintro ds m PP ⟨x, y, k, l, rfl, hx, hy, hk, hP⟩
    rfl
  · rintro cdv A outer s H E hr ds m PP ⟨x, y, k, l, rfl, hx, hy, hk, hP⟩
    refine ⟨_, (pss_one (ps_ret (pk_cal h_l_lowest hr (by decide) (pa_cons (pe_op (pk_mul T) (pe_ix (pk_ix T) (pv 0) pe_int (fun _ _ => rfl)) (pe_ix (pk_ix T) (pv 1) pe_int (fun _ _ => rfl))) (pa_cons (pe_op (pk_mul T) (pe_ix (pk_ix T) (pv 0) pe_int (fun _ _ => rfl)) (pe_ix (pk_ix T) (pv 1) pe_int (fun _ _ => rfl))) pa_nil))))), ?_⟩
    walk_at "sx"
    refine ops_mulI (cmw hx.1 hy.1 (by omega)) ?_
    walk_at "sx"
    refine ops_mulI (cmw hx.dn hy.dn (by omega)) ?_
    walk_at "sx"
    refine ⟨_, _, rfl, Int.mul_pos (den_pos x) (den_pos y), pow_up (wl hx.dn hy.dn) hk, ?_⟩
    rw [← rat_mul]
    exact hP
abbrev s_l_over : Stmt := top 59
theorem sc_l_over : FnScope ["_law_x", "_law_y"] ["_law_x", "_law_y"] (defScope s_l_over) := ⟨rfl, rfl, rfl, by decide +kernel, rfl, by decide +kernel, by decide +kernel⟩
theorem ok_l_over {f : Addr} {fd : FuncData} (F : Fun K "_law_over" "_law_over" s_l_over f fd) (T : Txt K mg a) (h_l_lowest : CalC P w K mg base 1 "_law_lowest" (cLow)) : FnOk P w K mg base CX0 (1 + 1) f fd ["_law_x", "_law_y"] (spOf K (cLOver)) := by
  refine def_ok F sc_l_over ?_ ?_
  · rintro ds m PP ⟨a, b, c, d, k, l, rfl, hb, hc, hd, ka, kb, lc, ld, hk, hP⟩
    rfl
  · rintro cdv A outer s H E hr ds m PP ⟨a, b, c, d, k, l, rfl, hb, hc, hd, ka, kb, lc, ld, hk, hP⟩
    refine ⟨_, (pss_one (ps_ret (pk_cal h_l_lowest hr (by decide) (pa_cons (pe_op (pk_mul T) (pe_ix (pk_ix T) (pv 0) pe_int (fun _ _ => rfl)) (pe_ix (pk_ix T) (pv 1) pe_int (fun _ _ => rfl))) (pa_cons (pe_op (pk_mul T) (pe_ix (pk_ix T) (pv 0) pe_int (fun _ _ => rfl)) (pe_ix (pk_ix T) (pv 1) pe_int (fun _ _ => rfl))) pa_nil))))), ?_⟩
    walk_at "sx"
    refine ops_mulI (cmw ka ld (by omega)) ?_
    walk_at "sx"
    refine ops_mulI (cmw kb lc (by omega)) ?_
    walk_at "sx"
    exact ⟨_, _, rfl, Int.mul_pos hb hc, pow_up (wl kb lc) hk, hP⟩
end
end L3

/-! text L3p -/
set_option Elab.async false
set_option linter.all false
set_option maxRecDepth 100000
set_option maxHeartbeats 4000000
/-! L3p: marks, claims, contests, games, in plain Lean; their bounds. -/
namespace L3
open PySem L2
open scoped Rat

/-! ### marks and claims -/
abbrev Mark := Option Str
def mkD : Mark → D
  | none => .non
  | some s => .str s
inductive Claim where
  | beats (one other : Str)
  | over (name : Str) (share : Rat)
  | under (name : Str) (share : Rat)
def Claim.top : Claim → Rat
  | .beats _ _ => 1
  | .over _ s => (1/2) / s
  | .under _ s => (1/2) / (1 - s)
/-- the value of a mark that is told -/
def Claim.val0 : Claim → Mark → Rat
  | .beats one other, mk => if mk = some one then 1 else if mk = some other then 0 else 1/2
  | .over n s, mk => if mk = none ∨ mk = some ("" : Str) then 1/2 else if mk = some n then (1/2) / s else 0
  | .under n s, mk => if mk = none ∨ mk = some ("" : Str) then 1/2 else if mk = some n then 0 else (1/2) / (1 - s)
def Claim.val (c : Claim) (mk : Mark) : Rat := if mk = some ("?" : Str) then 0 else c.val0 mk
/-- a share of a contest: at least a half, below one, a small denominator -/
structure ShOk (s : Rat) : Prop where
  lo : 1/2 ≤ s
  hi : s < 1
  bd : Bd 7 s
def Claim.Ok : Claim → Prop
  | .beats one other => one ≠ other
  | .over _ s => ShOk s
  | .under _ s => ShOk s
theorem half_pos : (0 : Rat) < 1/2 := by decide +kernel
theorem div_pos' {a b : Rat} (ha : 0 < a) (hb : 0 < b) : 0 < a / b := by
  rw [Rat.lt_div_iff hb]
  grind
theorem Claim.top_pos {c : Claim} (h : c.Ok) : 0 < c.top := by
  cases c with
  | beats one other => exact (by decide +kernel : (0 : Rat) < 1)
  | over n s => exact div_pos' half_pos (by have := h.lo; grind)
  | under n s => exact div_pos' half_pos (by have := h.hi; grind)
/-! whole numbers over one denominator -/
/-- q is n / d with n ≤ 2 ^ 8 -/
def Grid (d : Nat) (q : Rat) : Prop := ∃ n : Nat, q = (n : Rat) / (d : Rat) ∧ n ≤ 256
theorem nat_div_bd {n d k : Nat} (hd : 0 < d) (hn : n < 2 ^ k) (h2 : d < 2 ^ k) : Bd k ((n : Rat) / (d : Rat)) := by
  have e : ((n : Rat) / (d : Rat)) = ((n : Int) /. (d : Int)) := by
    rw [Rat.divInt_eq_div]
    rfl
  rw [e]
  refine bd_divInt (by omega) ?_ ?_
  · rw [Int.natAbs_natCast]
    exact hn
  · rw [Int.natAbs_natCast]
    exact h2
theorem share_eq {s : Rat} (h : ShOk s) : ∃ p q : Nat, s = (p : Rat) / (q : Rat) ∧ 0 < p ∧ p < q ∧ q < 128 := by
  refine ⟨s.num.natAbs, s.den, ?_, ?_, ?_, ?_⟩
  · have hp : 0 < s.num := num_pos (by have := h.lo; grind)
    have e : ((s.num.natAbs : Nat) : Rat) = ((s.num : Int) : Rat) := by
      rw [← Rat.intCast_natCast, Int.natAbs_of_nonneg (by omega)]
    rw [e]
    conv => lhs; rw [← fr_self s, Rat.divInt_eq_div]
    rfl
  · have hp : 0 < s.num := num_pos (by have := h.lo; grind)
    omega
  · have hp : 0 < s.num := num_pos (by have := h.lo; grind)
    have h1 := (Rat.lt_iff s 1).mp h.hi
    have e1 : (1 : Rat).num = 1 := rfl
    have e2 : (1 : Rat).den = 1 := rfl
    rw [e1, e2] at h1
    omega
  · have := h.bd.2
    omega
theorem rat_nat_pos {n : Nat} (h : 0 < n) : (0 : Rat) < (n : Rat) := by
  have : ((0 : Nat) : Rat) < (n : Rat) := Rat.natCast_lt_natCast.mpr h
  exact this
theorem Claim.grid {c : Claim} (h : c.Ok) : ∃ d : Nat, 0 < d ∧ d ≤ 256 ∧ ∀ mk, Grid d (c.val mk) := by
  have z : ∀ d : Nat, 0 < d → Grid d 0 := fun d hd => ⟨0, by simp [Rat.div_def], by omega⟩
  cases c with
  | beats one other =>
    refine ⟨2, by omega, by omega, fun mk => ?_⟩
    simp only [Claim.val, Claim.val0]
    repeat' split
    · exact z 2 (by omega)
    · exact ⟨2, by decide +kernel, by omega⟩
    · exact z 2 (by omega)
    · exact ⟨1, by decide +kernel, by omega⟩
  | over n s =>
    obtain ⟨p, q, e, hp, hq, hl⟩ := share_eq h
    have hp' := rat_nat_pos hp
    have hq' := rat_nat_pos (show 0 < q by omega)
    have e2 : ((2 * p : Nat) : Rat) = 2 * (p : Rat) := by rw [Rat.natCast_mul]; rfl
    refine ⟨2 * p, by omega, by omega, fun mk => ?_⟩
    simp only [Claim.val, Claim.val0]
    repeat' split
    · exact z _ (by omega)
    · exact ⟨p, by rw [e2]; grind, by omega⟩
    · exact ⟨q, by rw [e2, e]; grind, by omega⟩
    · exact z _ (by omega)
  | under n s =>
    obtain ⟨p, q, e, hp, hq, hl⟩ := share_eq h
    have hp' := rat_nat_pos hp
    have hq' := rat_nat_pos (show 0 < q by omega)
    have hqp := rat_nat_pos (show 0 < q - p by omega)
    have e3 : ((q - p : Nat) : Rat) = (q : Rat) - (p : Rat) := by
      have : ((q - p + p : Nat) : Rat) = ((q - p : Nat) : Rat) + (p : Rat) := Rat.natCast_add _ _
      rw [Nat.sub_add_cancel (by omega)] at this
      grind
    have e2 : ((2 * (q - p) : Nat) : Rat) = 2 * ((q : Rat) - (p : Rat)) := by rw [Rat.natCast_mul, e3]; rfl
    rw [e3] at hqp
    refine ⟨2 * (q - p), by omega, by omega, fun mk => ?_⟩
    simp only [Claim.val, Claim.val0]
    repeat' split
    · exact z _ (by omega)
    · exact ⟨q - p, by rw [e2, e3]; grind, by omega⟩
    · exact z _ (by omega)
    · exact ⟨q, by rw [e2, e]; grind, by omega⟩
theorem Grid.bd {d : Nat} {q : Rat} (h0 : 0 < d) (h1 : d ≤ 256) (h : Grid d q) : Bd 9 q := by
  obtain ⟨n, e, hn⟩ := h
  rw [e]
  exact nat_div_bd h0 (by omega) (by omega)
theorem Claim.val_bd {c : Claim} (h : c.Ok) (mk : Mark) : Bd 9 (c.val mk) := by
  obtain ⟨d, h0, h1, hg⟩ := c.grid h
  exact (hg mk).bd h0 h1
theorem bd_one : Bd 1 1 := ⟨by decide, by decide⟩
theorem bd_two : Bd 2 2 := ⟨by decide, by decide⟩
theorem bd_half : Bd 2 (1/2) := ⟨by decide +kernel, by decide +kernel⟩
theorem bd_zero : Bd 1 0 := ⟨by decide, by decide⟩
theorem Claim.top_bd {c : Claim} (h : c.Ok) : Bd 18 c.top := by
  cases c with
  | beats one other => exact bd_one.mono (by omega)
  | over n s => exact (bd_div bd_half h.bd (by have := h.lo; grind)).mono (by omega)
  | under n s => exact (bd_div bd_half (bd_sub bd_one h.bd) (by have := h.hi; grind)).mono (by omega)
/-- the sum of the values of marks -/
def Claim.sum (c : Claim) (mks : List Mark) : Rat := (mks.map c.val).foldl (· + ·) 0
theorem foldl_add (xs : List Rat) (z : Rat) : xs.foldl (· + ·) z = z + xs.foldl (· + ·) 0 := by
  induction xs generalizing z with
  | nil => simp [Rat.add_zero]
  | cons x xs ih =>
    rw [List.foldl_cons, List.foldl_cons, ih, ih (0 + x)]
    grind
theorem Claim.sum_cons (c : Claim) (mk : Mark) (mks : List Mark) : c.sum (mk :: mks) = c.val mk + c.sum mks := by
  unfold Claim.sum
  rw [List.map_cons, List.foldl_cons, foldl_add]
  grind
theorem grid_sum {c : Claim} {d : Nat} (hg : ∀ mk, Grid d (c.val mk)) : ∀ mks : List Mark, ∃ n : Nat, c.sum mks = (n : Rat) / (d : Rat) ∧ n ≤ 256 * mks.length
  | [] => ⟨0, by simp [Claim.sum, Rat.div_def], by simp⟩
  | mk :: mks => by
    obtain ⟨n, e, hn⟩ := hg mk
    obtain ⟨m, e2, hm⟩ := grid_sum hg mks
    refine ⟨n + m, ?_, by simp; omega⟩
    rw [Claim.sum_cons, e, e2, Rat.natCast_add]
    grind
theorem Claim.sum_bd {c : Claim} (h : c.Ok) {mks : List Mark} (hl : mks.length ≤ 60) : Bd 14 (c.sum mks) := by
  obtain ⟨d, h0, h1, hg⟩ := c.grid h
  obtain ⟨n, e, hn⟩ := grid_sum hg mks
  rw [e]
  exact nat_div_bd h0 (by omega) (by omega)
theorem Claim.val_le {c : Claim} (h : c.Ok) (mk : Mark) : c.val mk ≤ c.top := by
  have hp := c.top_pos h
  cases c with
  | beats one other =>
    simp only [Claim.val, Claim.val0, Claim.top]
    repeat' split
    all_goals first | grind | decide +kernel
  | over n s =>
    have h1 := h.lo
    have h2 := h.hi
    have h3 : (1/2 : Rat) ≤ (1/2) / s := by
      have : ¬ (1/2) / s < (1/2 : Rat) := by
        rw [Rat.div_lt_iff (by grind)]
        grind
      grind
    simp only [Claim.val, Claim.val0]
    simp only [Claim.top] at hp ⊢
    repeat' split
    all_goals grind
  | under n s =>
    have h1 := h.lo
    have h2 := h.hi
    have h3 : (1/2 : Rat) ≤ (1/2) / (1 - s) := by
      have : ¬ (1/2) / (1 - s) < (1/2 : Rat) := by
        rw [Rat.div_lt_iff (by grind)]
        grind
      grind
    simp only [Claim.val, Claim.val0]
    simp only [Claim.top] at hp ⊢
    repeat' split
    all_goals grind
theorem Claim.sum_le {c : Claim} (h : c.Ok) : ∀ mks : List Mark, c.sum mks ≤ (mks.length : Rat) * c.top
  | [] => by
    have e : c.sum [] = 0 := rfl
    rw [e]
    simp
  | mk :: mks => by
    have h1 := Claim.val_le h mk
    have h2 := Claim.sum_le h mks
    rw [Claim.sum_cons, List.length_cons, Rat.natCast_add]
    have e : ((1 : Nat) : Rat) = 1 := rfl
    rw [e]
    grind
/-- does the claim hold of marks -/
def Claim.holds (c : Claim) (mks : List Mark) : Prop := (mks.length : Rat) / 2 < c.sum mks
def Claim.scale (c : Claim) (mks : List Mark) : Rat := 2 - (2 * (c.sum mks / (mks.length : Rat)) - 1) / c.top
def Claim.cmp (c : Claim) (sc : Rat) (told mk : Mark) : Rat := (1 - (c.val told - c.val mk) / c.top) / sc
theorem Claim.scale_pos {c : Claim} (h : c.Ok) {mks : List Mark} (hl : 0 < mks.length) : 0 < c.scale mks := by
  have hn := rat_nat_pos hl
  have ht := c.top_pos h
  have hs := Claim.sum_le h mks
  have h1 : c.sum mks / (mks.length : Rat) ≤ c.top := by
    have : ¬ c.top < c.sum mks / (mks.length : Rat) := by
      rw [Rat.lt_div_iff hn]
      grind
    grind
  have h2 : (2 * (c.sum mks / (mks.length : Rat)) - 1) / c.top < 2 := by
    rw [Rat.div_lt_iff ht]
    grind
  unfold Claim.scale
  grind
theorem nat_bd {n k : Nat} (h : n < 2 ^ k) (hk : 1 ≤ k) : Bd k (n : Rat) := ⟨by rw [Rat.num_natCast, Int.natAbs_natCast]; exact h, by rw [Rat.den_natCast]; exact Nat.one_lt_two_pow (by omega)⟩
theorem Claim.scale_bd {c : Claim} (h : c.Ok) {mks : List Mark} (h0 : 0 < mks.length) (hl : mks.length ≤ 60) : Bd 46 (c.scale mks) := by
  have h1 := Claim.sum_bd h hl
  have h2 : Bd 6 (mks.length : Rat) := nat_bd (by omega) (by omega)
  have h3 := bd_div h1 h2 (rat_nat_pos h0)
  have h4 := bd_sub (bd_mul bd_two h3) bd_one
  have h5 := bd_sub bd_two (bd_div h4 (Claim.top_bd h) (Claim.top_pos h))
  exact h5.mono (by omega)
theorem Claim.cmp_bd {c : Claim} (h : c.Ok) {sc : Rat} {told mk : Mark} (hs : Bd 46 sc) (h0 : 0 < sc) : Bd 86 (c.cmp sc told mk) := by
  have h1 := bd_sub (Claim.val_bd h told) (Claim.val_bd h mk)
  have h2 := bd_div h1 (Claim.top_bd h) (Claim.top_pos h)
  have h3 := bd_div (bd_sub bd_one h2) hs h0
  exact h3.mono (by omega)
end L3

/-! text L3q -/
set_option Elab.async false
set_option linter.all false
set_option maxRecDepth 100000
set_option maxHeartbeats 4000000
/-! L3q: games in plain Lean; contests. -/
namespace L3
open PySem L2
open scoped Rat

structure Gm where
  past : List Rat
  sum : Rat
  now : Option Rat
  most : Rat
def Gm.new : Gm := ⟨[], 0, some 1, 1⟩
/-- what the games of one audit have in common: ballots, put back or not, the part staked -/
structure Rl where
  many : Nat
  again : Bool
  stake : Rat
structure Rl.Ok (r : Rl) : Prop where
  lo : 1 ≤ r.many
  hi : r.many ≤ 60
  bd : Bd 7 r.stake
def Gm.price (r : Rl) (g : Gm) : Rat := if r.again = true then 1/2 else ((r.many : Rat) / 2 - g.sum) / ((r.many - g.past.length : Nat) : Rat)
def Gm.behind (r : Rl) (g : Gm) (w v : Rat) : Rat := if g.price r = 0 then w else w * ((1 - r.stake) + (r.stake * v) / g.price r)
def Gm.worth (r : Rl) (g : Gm) (v : Rat) : Option Rat := if r.again = false ∧ (r.many : Rat) / 2 < g.sum + v then none else g.now.map fun w => g.behind r w v
def Gm.play (r : Rl) (g : Gm) (v : Rat) : Gm :=
  ⟨g.past ++ [v], g.sum + v, g.worth r v, match g.worth r v with
    | none => g.most
    | some w => if g.most < w then w else g.most⟩
def Wb : Nat → Nat
  | 0 => 1
  | t + 1 => Wb t + 90 * t + 130
/-- a game behind t draws -/
structure Gm.Ok (r : Rl) (t : Nat) (g : Gm) : Prop where
  len : g.past.length = t
  sum : Bd (87 * t + 1) g.sum
  now : ∀ w, g.now = some w → Bd (Wb t) w
  most : Bd (Wb t) g.most
  low : r.again = false → g.now ≠ none → g.sum ≤ (r.many : Rat) / 2
theorem Wb_mono {t u : Nat} (h : t ≤ u) : Wb t ≤ Wb u := by
  induction u with
  | zero =>
    have : t = 0 := by omega
    subst this
    exact Nat.le_refl _
  | succ u ih =>
    by_cases e : t = u + 1
    · subst e
      exact Nat.le_refl _
    · have := ih (by omega)
      have h2 : Wb (u + 1) = Wb u + 90 * u + 130 := rfl
      omega
theorem Wb_12 {t : Nat} (h : t ≤ 12) : Wb t ≤ 7600 := Nat.le_trans (Wb_mono h) (by decide)
theorem Gm.new_ok {r : Rl} : Gm.new.Ok r 0 where
  len := rfl
  sum := bd_zero
  now := fun w h => by
    cases h
    exact bd_one
  most := bd_one
  low := fun _ _ => by
    show (0 : Rat) ≤ (r.many : Rat) / 2
    have : (0 : Rat) ≤ (r.many : Rat) := Rat.natCast_nonneg
    grind
section
variable {r : Rl} {t : Nat} {g : Gm}
theorem half_many_bd (hr : r.Ok) : Bd 8 ((r.many : Rat) / 2) := (bd_div (nat_bd (k := 6) (by have := hr.hi; omega) (by omega)) bd_two (by decide +kernel)).mono (by omega)
theorem Gm.price_bd (hr : r.Ok) (h : g.Ok r t) (hl : r.again = false → t < r.many) : Bd (87 * t + 17) (g.price r) := by
  unfold Gm.price
  split
  · exact bd_half.mono (by omega)
  · rename_i ha
    have hl' := hl (by simpa using ha)
    rw [h.len]
    exact (bd_div (bd_sub (half_many_bd hr) h.sum) (nat_bd (n := r.many - t) (k := 6) (by have := hr.hi; omega) (by omega)) (rat_nat_pos (by omega))).mono (by omega)
theorem Gm.price_nn (h : g.Ok r t) (hl : r.again = false → t < r.many) (hn : g.now ≠ none) : 0 ≤ g.price r := by
  unfold Gm.price
  split
  · decide +kernel
  · rename_i ha
    have ha' : r.again = false := by simpa using ha
    have hl' := hl ha'
    have h1 := h.low ha' hn
    have h2 : (0 : Rat) < ((r.many - g.past.length : Nat) : Rat) := rat_nat_pos (by rw [h.len]; omega)
    have : ¬ ((r.many : Rat) / 2 - g.sum) / ((r.many - g.past.length : Nat) : Rat) < 0 := by
      rw [Rat.div_lt_iff h2]
      grind
    grind
theorem Gm.price_pos (h : g.Ok r t) (hl : r.again = false → t < r.many) (hn : g.now ≠ none) (hz : g.price r ≠ 0) : 0 < g.price r := by
  have := Gm.price_nn h hl hn
  grind
/-- the part that is won -/
theorem Gm.grown_bd (hr : r.Ok) (h : g.Ok r t) (hl : r.again = false → t < r.many) (hn : g.now ≠ none) (hz : g.price r ≠ 0) {v : Rat} (hv : Bd 86 v) : Bd (87 * t + 110) ((r.stake * v) / g.price r) :=
  (bd_div (bd_mul hr.bd hv) (Gm.price_bd hr h hl) (Gm.price_pos h hl hn hz)).mono (by omega)
theorem Gm.factor_bd (hr : r.Ok) (h : g.Ok r t) (hl : r.again = false → t < r.many) (hn : g.now ≠ none) (hz : g.price r ≠ 0) {v : Rat} (hv : Bd 86 v) : Bd (87 * t + 121) ((1 - r.stake) + (r.stake * v) / g.price r) :=
  (bd_add (bd_sub bd_one hr.bd) (Gm.grown_bd hr h hl hn hz hv)).mono (by omega)
theorem Gm.behind_bd (hr : r.Ok) (h : g.Ok r t) (hl : r.again = false → t < r.many) {v w : Rat} (hw : g.now = some w) (hv : Bd 86 v) : Bd (Wb (t + 1)) (g.behind r w v) := by
  have e : Wb (t + 1) = Wb t + 90 * t + 130 := rfl
  unfold Gm.behind
  split
  · exact (h.now w hw).mono (by omega)
  · rename_i hz
    exact (bd_mul (h.now w hw) (Gm.factor_bd hr h hl (by rw [hw]; simp) hz hv)).mono (by omega)
theorem Gm.play_ok (hr : r.Ok) (h : g.Ok r t) (hl : r.again = false → t < r.many) {v : Rat} (hv : Bd 86 v) : (g.play r v).Ok r (t + 1) where
  len := by
    show (g.past ++ [v]).length = t + 1
    simp [h.len]
  sum := (bd_add h.sum hv).mono (by omega)
  now := fun w hw => by
    have hw' : g.worth r v = some w := hw
    unfold Gm.worth at hw'
    split at hw'
    · cases hw'
    · cases q : g.now with
      | none =>
        rw [q] at hw'
        cases hw'
      | some u =>
        rw [q] at hw'
        cases hw'
        exact Gm.behind_bd hr h hl q hv
  most := by
    have e : Wb (t + 1) = Wb t + 90 * t + 130 := rfl
    show Bd _ (match g.worth r v with | none => g.most | some w => if g.most < w then w else g.most)
    cases q : g.worth r v with
    | none => exact h.most.mono (by omega)
    | some w =>
      show Bd _ (if g.most < w then w else g.most)
      split
      · have hw' := q
        unfold Gm.worth at hw'
        split at hw'
        · cases hw'
        · cases q2 : g.now with
          | none =>
            rw [q2] at hw'
            cases hw'
          | some u =>
            rw [q2] at hw'
            cases hw'
            exact Gm.behind_bd hr h hl q2 hv
      · exact h.most.mono (by omega)
  low := fun ha hn => by
    have hn' : g.worth r v ≠ none := hn
    unfold Gm.worth at hn'
    show g.sum + v ≤ _
    by_cases q : (r.many : Rat) / 2 < g.sum + v
    · rw [if_pos ⟨ha, q⟩] at hn'
      exact absurd rfl hn'
    · grind
end
/-- is the limit reached -/
def Gm.reached (g : Gm) (lim : Rat) : Bool := g.now.isNone || !decide (g.most * lim < 1)

/-! ### contests -/
inductive Con where
  | most (names : List Str) (seats : Nat)
  | portion (names : List Str) (share : Rat)
def Con.names : Con → List Str
  | .most ns _ => ns
  | .portion ns _ => ns
/-- the claims of an outcome -/
def Con.claims : Con → List Str → List Claim
  | .most ns _, out => out.flatMap fun one => (ns.filter fun o => !decide (o ∈ out)).map fun o => .beats one o
  | .portion ns sh, out => match out with
    | [] => ns.map fun n => .under n sh
    | n :: _ => [.over n sh]
/-- a contest with its outcome told -/
structure Con.Ok (c : Con) (out : List Str) : Prop where
  nd : c.names.Nodup
  lo : 2 ≤ c.names.length
  hi : c.names.length ≤ 3
  kind : match c with
    | .most ns seats => seats = 1 ∧ ∃ n ∈ ns, out = [n]
    | .portion ns sh => ShOk sh ∧ (out = [] ∨ ∃ n ∈ ns, out = [n])
theorem Con.claims_ok {c : Con} {out : List Str} (h : c.Ok out) : ∀ x ∈ c.claims out, x.Ok := by
  have hk := h.kind
  cases c with
  | most ns seats =>
    obtain ⟨_, n, hn, rfl⟩ := hk
    intro x hx
    simp only [Con.claims, List.mem_flatMap, List.mem_map, List.mem_filter] at hx
    obtain ⟨one, h1, o, ⟨_, h2⟩, rfl⟩ := hx
    intro e
    subst e
    simp [h1] at h2
  | portion ns sh =>
    obtain ⟨hs, rfl | ⟨n, hn, rfl⟩⟩ := hk
    · intro x hx
      simp only [Con.claims, List.mem_map] at hx
      obtain ⟨n, _, rfl⟩ := hx
      exact hs
    · intro x hx
      simp only [Con.claims, List.mem_singleton] at hx
      subst hx
      exact hs
theorem Con.claims_len {c : Con} {out : List Str} (h : c.Ok out) : (c.claims out).length ≤ 3 := by
  have hk := h.kind
  have hl := h.hi
  cases c with
  | most ns seats =>
    obtain ⟨_, n, hn, rfl⟩ := hk
    simp only [Con.claims, List.flatMap_cons, List.flatMap_nil, List.append_nil, List.length_map]
    exact Nat.le_trans (List.length_filter_le _ _) hl
  | portion ns sh =>
    obtain ⟨hs, rfl | ⟨n, hn, rfl⟩⟩ := hk
    · simpa [Con.claims, Con.names] using hl
    · simp [Con.claims]
end L3

/-! text L3r -/
set_option Elab.async false
set_option linter.all false
set_option maxRecDepth 100000
set_option maxHeartbeats 4000000
/-! L3r: fields and methods of instances, mutable or not; either of two derivations; dict entries. -/
namespace L3
open PySem L2
section
variable {K : PySem.W.Frag} {ρ : DEnv} {m : Mem} {A : AEnds} {P : Post} {ta tb te : TE} {tt : TT} {t u : TS} {tr : TA} {C a : Addr} {f : Str} {fs : List (Str × D)} {ns : List Str} {ds : List D} {d x y : D}
def Fld (K : PySem.W.Frag) (x : D) (f : Str) (m : Mem) (P : Post) : Prop :=
  (∃ a C fs d, x = .ptr a ∧ m a = some (.ins C fs) ∧ Cls K C ∧ NoAttr K C f ∧ fs.lookup f = some d ∧ P d m) ∨ ∃ C ns ds d, x = .obj C ns ds ∧ Cls K C ∧ NoAttr K C f ∧ (ns.zip ds).lookup f = some d ∧ P d m
theorem sim_fldU (h : Sim K ta ρ m fun x m1 => Fld K x f m1 P) : Sim K (tFld K ta f) ρ m P := fun S H σ e M R Q hQ => by
  refine h S H σ e M R _ fun x m1 v S1 H1 p1 st1 r1 => ?_
  rcases p1 with ⟨a, C, fs, d, rfl, hm, hc, hn, hl, hp⟩ | ⟨C, ns, ds, d, rfl, hc, hn, hl, hp⟩
  · obtain ⟨_, dx, ys, h1, h2⟩ := st1.mr a _ hm
    obtain ⟨w, hw, rw'⟩ := h2.lookup hl
    exact ⟨a, C, dx, ys, w, r1, h1, hc, hn, hw, hQ d m1 w S1 H1 hp st1 rw'⟩
  · obtain ⟨a, dx, ys, rfl, h1, h2, h3⟩ := r1
    obtain ⟨w, hw, rw'⟩ := (FRep.of h2 h3).lookup hl
    exact ⟨a, C, dx, ys, w, rfl, st1.sh _ _ h1, hc, hn, hw, hQ d m1 w S1 H1 hp st1 rw'⟩
theorem fld_p (hm : m a = some (.ins C fs)) (hc : Cls K C) (hn : NoAttr K C f) (hl : fs.lookup f = some d) (p : P d m) : Fld K (.ptr a) f m P := .inl ⟨a, C, fs, d, rfl, hm, hc, hn, hl, p⟩
theorem fld_o (hc : Cls K C) (hn : NoAttr K C f) (hl : (ns.zip ds).lookup f = some d) (p : P d m) : Fld K (.obj C ns ds) f m P := .inr ⟨C, ns, ds, d, rfl, hc, hn, hl, p⟩
def Mth (C : Addr) (mn : Str) (x : D) (m : Mem) : Prop := (∃ a fs, x = .ptr a ∧ m a = some (.ins C fs) ∧ fs.lookup mn = none) ∨ ∃ ns dd, x = .obj C ns dd ∧ (ns.zip dd).lookup mn = none
theorem sim_methU {mn : Str} {c : Ctr} {E : XK} (h : Sim K ta ρ m fun x m1 => Mth C mn x m1 ∧ SimA K tr ρ m1 fun ds m2 => c (x :: ds) m2 P) : Sim K (tMeth C mn (spOf K c) [] E ta tr) ρ m P := fun S H σ e M R Q hQ => by
  refine h S H σ e M R _ fun x m1 v S1 H1 p1 st1 r1 => ?_
  obtain ⟨hx, hp⟩ := p1
  have r1' := r1
  have key : ∃ a dx ys, v = .ref a ∧ H1 a = some (.ins C dx ys) ∧ ys.lookup mn = none := by
    rcases hx with ⟨a, fs, rfl, hm, hn⟩ | ⟨ns, dd, rfl, hn⟩
    · obtain ⟨_, dx, ys, h1, h2⟩ := st1.mr a _ hm
      exact ⟨a, dx, ys, r1, h1, h2.lookup_none hn⟩
    · obtain ⟨a, dx, ys, rfl, h1, h2, h3⟩ := r1
      exact ⟨a, dx, ys, rfl, st1.sh _ _ h1, (FRep.of h2 h3).lookup_none hn⟩
  obtain ⟨a, dx, ys, rfl, h1, h2⟩ := key
  refine ⟨a, dx, ys, rfl, h1, h2, ?_⟩
  refine hp S1 H1 σ st1.sh st1.mr (R.mono st1.ss) _ fun ds m2 vs S2 H2 p2 st2 r2 => ?_
  rw [List.append_nil]
  exact ⟨S2, m2, _, P, st2.sh, st2.mr, .cons (r1'.mono st2.ss) r2, p2, fun d m' v S' H' p st rd => hQ d m' v S' H' p ((st1.trans st2).trans st) rd⟩
theorem mth_p {mn : Str} (hm : m a = some (.ins C fs)) (hl : fs.lookup mn = none) : Mth C mn (.ptr a) m := .inl ⟨a, fs, rfl, hm, hl⟩
theorem mth_o {mn : Str} (hl : (ns.zip ds).lookup mn = none) : Mth C mn (.obj C ns ds) m := .inr ⟨ns, ds, rfl, hl⟩
/-- a field set -/
theorem setf {Q : Addr → Addr → List (Str × D) → Prop} (hm : m a = some (.ins C fs)) (hc : Cls K C) (hn : NoAttr K C f) (hl : fs.length < 1000) (p : Q a C fs) :
    ∃ a' C' fs', D.ptr a = .ptr a' ∧ m a' = some (.ins C' fs') ∧ Cls K C' ∧ NoAttr K C' f ∧ fs'.length < 1000 ∧ Q a' C' fs' := ⟨a, C, fs, rfl, hm, hc, hn, hl, p⟩
/-- an entry read, an entry written -/
def lkD : List (Key × D) → Key → Option D
  | [], _ => none
  | (q, d) :: r, k => if q = k then some d else lkD r k
theorem lkD_eq : ∀ (kvs : List (Key × D)) (k : Key), lkD kvs k = getKD kvs k
  | [], _ => rfl
  | (q, d) :: r, k => by
    unfold lkD
    by_cases h : q = k
    · rw [if_pos h]
      simp [getKD, List.find?_cons, h]
    · rw [if_neg h, lkD_eq r k]
      simp [getKD, List.find?_cons, h]
theorem dgt {Q : D → Prop} {kvs : List (Key × D)} {k : Key} (hm : m a = some (.dk kvs)) (hk : keyOf y = some k) (hg : lkD kvs k = some d) (p : Q d) : ∃ a' kvs' k' d', D.ptr a = .ptr a' ∧ keyOf y = some k' ∧ m a' = some (.dk kvs') ∧ getKD kvs' k' = some d' ∧ Q d' := ⟨a, kvs, k, d, rfl, hk, hm, (lkD_eq kvs k) ▸ hg, p⟩
theorem dpt {Q : Addr → List (Key × D) → Key → Prop} {kvs : List (Key × D)} {k : Key} (hm : m a = some (.dk kvs)) (hk : keyOf y = some k) (hl : kvs.length < 1000) (p : Q a kvs k) :
    ∃ a' kvs' k', D.ptr a = .ptr a' ∧ keyOf y = some k' ∧ m a' = some (.dk kvs') ∧ kvs'.length < 1000 ∧ Q a' kvs' k' := ⟨a, kvs, k, rfl, hk, hm, hl, p⟩
/-- append -/
theorem apl {Q : Addr → List D → Prop} (hm : m a = some (.lst ds)) (p : Q a ds) : ∃ a' ds', D.ptr a = .ptr a' ∧ m a' = some (.lst ds') ∧ Q a' ds' := ⟨a, ds, rfl, hm, p⟩
theorem apl2 {R : List D → Prop} (hm : m a = some (.lst ds)) (hl : ds.length < 100000) (p : R ds) : ∃ ds', m a = some (.lst ds') ∧ ds'.length < 100000 ∧ R ds' := ⟨ds, hm, hl, p⟩
theorem mne {a b : Addr} {o : MO} (h1 : m a = some o) (h2 : m b = none) : a ≠ b := fun e => by
  rw [e, h2] at h1
  cases h1
end

theorem ite_nF {A B : Prop} (p : A) : if (!false) = true then A else B := by
  rw [if_pos (show (!false) = true from rfl)]
  exact p
theorem ite_nT {A B : Prop} (p : B) : if (!true) = true then A else B := by
  rw [if_neg (by decide)]
  exact p
theorem ite_t {b : Bool} {A B : Prop} (h : b = true) (p : A) : if b = true then A else B := by
  rw [if_pos h]
  exact p
theorem ite_f {b : Bool} {A B : Prop} (h : b = false) (p : B) : if b = true then A else B := by
  subst h
  rw [if_neg Bool.false_ne_true]
  exact p

section
variable {K : PySem.W.Frag} {ρ : DEnv} {m : Mem} {A : AEnds} {tt : TT} {t u : TS}
/-- if, both ways to one end -/
theorem simS_ifJ {B : DEnv → Mem → Prop} (h : SimT K tt ρ m fun b m1 => if b = true then SimS K t ρ m1 { A with nx := B } else SimS K u ρ m1 { A with nx := B }) (h3 : ∀ ρ' m', B ρ' m' → A.nx ρ' m') : SimS K (tIfS tt t u) ρ m A :=
  SimS.imp (simS_if h) h3 (fun _ _ h => h) (fun _ _ h => h) (fun _ _ h => h)
theorem simS_mid {B : DEnv → Mem → Prop} (h1 : SimS K t ρ m { A with nx := B }) (h2 : ∀ ρ1 m1, B ρ1 m1 → SimS K u ρ1 m1 A) : SimS K (tSeq t u) ρ m A :=
  simS_seq (SimS.imp h1 h2 (fun _ _ h => h) (fun _ _ h => h) (fun _ _ h => h))
end

theorem cs_isi2 {K : PySem.W.Frag} {m : Mem} {P : Post} {x : D} {t T : String} {b : Bool} (h1 : tyD x = t) (h : (t == "") = false) (k : kitB t T = some b) (p : P (.bl b) m) : CallS K (rIsi K) [x, .ty T] m P := by
  subst h1
  exact cs_isi (fun z => by rw [z] at h; exact absurd h (by decide)) k p

/-! ### either -/
def tEither (t1 t2 : TE) : TE := fun σ H Q => t1 σ H Q ∨ t2 σ H Q
theorem pe_either {X : Cx} {e : Expr} {t1 t2 : TE} (h1 : PE X e t1) (h2 : PE X e t2) : PE X e (tEither t1 t2) := by
  refine ⟨fun pins s σ H Q I h => ?_⟩
  rcases h with h | h
  · exact h1.run pins s σ H Q I h
  · exact h2.run pins s σ H Q I h
section
variable {K : PySem.W.Frag} {ρ : DEnv} {m : Mem} {P : Post} {t1 t2 : TE}
theorem sim_eitherL (h : Sim K t1 ρ m P) : Sim K (tEither t1 t2) ρ m P := fun S H σ e M R Q hQ => .inl (h S H σ e M R Q hQ)
theorem sim_eitherR (h : Sim K t2 ρ m P) : Sim K (tEither t1 t2) ρ m P := fun S H σ e M R Q hQ => .inr (h S H σ e M R Q hQ)
end

section
variable {K : PySem.W.Frag} {mg : Str → Option Value} {a : Adr} {X : Cx}
theorem pk_sfld {o value : Expr} {f : Str} {pos pos' : Pos} {ta tv : TE} (T : Txt K mg a) (ho : PE X o ta) (hv : PE X value tv) (hs : swapsWith value (some (.Attribute o f pos')) pos.line X.env = pure false) (hK : X.K = K := by rfl) :
    PS X (.Assign [.Attribute o f pos'] value pos) (sFld K ta tv f) := by
  subst hK
  exact ps_fld ho hv hs
theorem pk_append {o e : Expr} {es : List Expr} {to : TE} {t : TA} {apos cpos : Pos} (T : Txt K mg a) (ho : PE X o to) (ha : PA X (e :: es) t) (hK : X.K = K := by rfl)
    (hbase : attributeBase o "append" X.env (eval o X.env) = eval o X.env := by rfl)
    (hfew : ((backTo cpos (starEach (e :: es) X.env)).all (fun x => !x.1) && (backToKw cpos (keywordEach [] X.env)).all (fun x => x.1.isSome)
      && decide ((e :: es).length + ([] : List Keyword).length + (if ([] : List Keyword).isEmpty then 0 else 1) < 30)) = true := by rfl)
    (hline : (apos.endLine == cpos.line) = true := by rfl) (hs : starEach (e :: es) X.env = (false, eval e X.env) :: starEach es X.env := by rfl) (hplain : (backTo cpos (starEach es X.env)).any (·.1) = false := by rfl) :
    PE X (.Call (.Attribute o "append" apos) (e :: es) [] cpos) (tBM K "list" rAppend to t) := by
  subst hK
  exact pe_bm PySem.F.plainAttrs_list PySem.F.slot_list_append PySem.F.type_list_append mt_append ho ha hbase hfew hline hs hplain
end

/-! ### for over lists of anything: B by what is done -/
section
variable {K : PySem.W.Frag} {ρ : DEnv} {m : Mem} {A : AEnds}
theorem simS_forM {α : Type} (xs : List α) (fD : α → D) (B : List α → DEnv → Mem → Prop) {wi : TI} {g : TG} {ts : List Nat} {tb : TS}
    (h : SimI K wi ρ m fun ds I m1 => ds = xs.map fD ∧ B [] ρ m1 ∧ (∀ done ρ' m', B done ρ' m' → I m') ∧
      (∀ done x rest ρ' m', xs = done ++ x :: rest → B done ρ' m' → SimG K g ts (fD x) ρ' m' fun ρ2 m2 => SimS K tb ρ2 m2 { A with nx := B (done ++ [x]), ct := B (done ++ [x]), bk := A.nx }) ∧ ∀ ρ' m', B xs ρ' m' → A.nx ρ' m') :
    SimS K (tFor wi g tb) ρ m A := by
  refine simS_for (ts := ts) fun S H σ e M R Q hQ => h S H σ e M R Q fun ds I m1 S' H' J p st it => hQ ds I m1 S' H' J ?_ st it
  obtain ⟨rfl, h0, hI, hs, hd⟩ := p
  refine ⟨fun i ρ' m' => B (xs.take i) ρ' m', (show B (xs.take 0) ρ m1 by rw [List.take_zero]; exact h0), fun i ρ' m' _ w => hI _ _ _ w, fun i d ρ' m' hd' w => ?_, fun ρ' m' w => ?_⟩
  · obtain ⟨x, hx, rfl⟩ := List.getElem?_map_some hd'
    have hi := (List.getElem?_eq_some_iff.mp hx).1
    have e1 : xs.take (i + 1) = xs.take i ++ [x] := by rw [List.take_add_one, hx]; rfl
    have e2 : xs[i] = x := (List.getElem?_eq_some_iff.mp hx).2
    have q := hs (xs.take i) x (xs.drop (i + 1)) ρ' m' (by rw [← e2, List.getElem_cons_drop, List.take_append_drop]) w
    rw [← e1] at q
    exact q
  · have w : B (xs.take (xs.map fD).length) ρ' m' := w
    rw [List.length_map, List.take_length] at w
    exact hd _ _ w
end
/-! ### comprehensions over lists of anything -/
theorem filterMap_range {α β : Type} (h : α → Option β) (xs : List α) : (List.range xs.length).filterMap (fun i => xs[i]?.bind h) = xs.filterMap h := by
  have key : ∀ ys zs : List α, (List.range' zs.length ys.length).filterMap (fun i => (zs ++ ys)[i]?.bind h) = ys.filterMap h := by
    intro ys
    induction ys with
    | nil => intro zs; rfl
    | cons y ys ih =>
      intro zs
      have h2 := ih (zs ++ [y])
      rw [List.length_append, List.length_singleton, List.append_assoc, List.singleton_append] at h2
      rw [List.length_cons, List.range'_succ, List.filterMap_cons, h2, List.getElem?_append_right (Nat.le_refl _), Nat.sub_self, List.getElem?_cons_zero, List.filterMap_cons]
      rfl
  have := key xs []
  rw [List.length_nil, List.nil_append] at this
  rw [List.range_eq_range']
  exact this
section
variable {K : PySem.W.Frag} {ρ : DEnv} {m : Mem} {P : Post} {PB : Bool → Mem → Prop}
theorem simT_yes (p : PB true m) : SimT K tYes ρ m PB := fun S H σ e M R Q hQ => hQ true m S H p (Step.refl e M)
theorem sim_lcF {α : Type} (xs : List α) (fD : α → D) (h : α → Option D) {wi : TI} {g : TG} {ts vs : List Nat} {tt : TT} {te : TE} (hts : ∀ i ∈ ts, i ∈ vs)
    (H : SimI K wi ρ m fun ds I m1 => ds = xs.map fD ∧ xs.length ≤ 100000 ∧ I m1 ∧ (∀ y ∈ xs, SimG K g ts (fD y) (wipeD ρ vs) m1 fun ρ2 m2 => m2 = m1 ∧ SimT K tt ρ2 m1 fun b m3 => m3 = m1 ∧ if b = true then Sim K te ρ2 m1 fun z m4 => m4 = m1 ∧ h y = some z else h y = none) ∧ P (.lst (xs.filterMap h)) m1) :
    Sim K (tLc wi g tt te vs) ρ m P := by
  refine sim_lcP hts fun S H' σ e M R Q hQ => H S H' σ e M R Q fun ds I m1 S' H'' J p st it => hQ ds I m1 S' H'' J ?_ st it
  obtain ⟨rfl, hl, hI, hs, hp⟩ := p
  refine ⟨by simpa using hl, hI, fun i => xs[i]?.bind h, fun i d hd => ?_, ?_⟩
  · obtain ⟨y, hy, rfl⟩ := List.getElem?_map_some hd
    have e2 : (xs[i]?.bind h) = h y := by rw [hy]; rfl
    have q := hs y (List.mem_of_getElem? hy)
    rw [← e2] at q
    exact q
  · rw [List.length_map, filterMap_range]
    exact hp
/-- .. without a test -/
theorem sim_lcM {α : Type} (xs : List α) (fD gD : α → D) {wi : TI} {g : TG} {ts vs : List Nat} {te : TE} (hts : ∀ i ∈ ts, i ∈ vs)
    (H : SimI K wi ρ m fun ds I m1 => ds = xs.map fD ∧ xs.length ≤ 100000 ∧ I m1 ∧ (∀ y ∈ xs, SimG K g ts (fD y) (wipeD ρ vs) m1 fun ρ2 m2 => m2 = m1 ∧ Sim K te ρ2 m1 fun z m4 => m4 = m1 ∧ z = gD y) ∧ P (.lst (xs.map gD)) m1) :
    Sim K (tLc wi g tYes te vs) ρ m P := by
  refine sim_lcF xs fD (fun y => some (gD y)) hts fun S H' σ e M R Q hQ => H S H' σ e M R Q fun ds I m1 S' H'' J p st it => hQ ds I m1 S' H'' J ?_ st it
  obtain ⟨h1, h2, h3, h4, h5⟩ := p
  refine ⟨h1, h2, h3, fun y hy => ?_, ?_⟩
  · refine fun S H σ v e M R r Q hQ => h4 y hy S H σ v e M R r Q fun ρ2 m2 σ2 S2 H2 p2 st2 R2 hw => hQ ρ2 m2 σ2 S2 H2 ?_ st2 R2 hw
    obtain ⟨rfl, p2⟩ := p2
    refine ⟨rfl, simT_yes ⟨rfl, ?_⟩⟩
    rw [if_pos rfl]
    exact p2.imp fun d m' q => ⟨q.1, by rw [q.2]⟩
  · rw [List.filterMap_eq_map']
    exact h5
end
/-! ### == of fractions and the like -/
def optD : Option Rat → D
  | none => .non
  | some q => fr q
/-- data that == may take -/
structure Lay (n : Nat) (d : D) (p : PyData) : Prop where
  py : toPy d = some p
  ok : PyData.canLay0 p = true
  dp : PyData.depth p ≤ n
structure Lays (n : Nat) (ds : List D) (ps : List PyData) : Prop where
  py : toPys ds = some ps
  ok : PyData.canLayAll0 ps = true
  dp : PyData.depthAll ps ≤ n
section
variable {n : Nat} {d : D} {ds : List D} {p q : PyData} {ps : List PyData}
theorem lay_non : Lay n .non .none := ⟨rfl, by simp [PyData.canLay0], by simp [PyData.depth]⟩
theorem lay_bl {b : Bool} : Lay n (.bl b) (.bool b) := ⟨rfl, by simp [PyData.canLay0], by simp [PyData.depth]⟩
theorem lay_int {i : Int} : Lay n (.int i) (.int i) := ⟨rfl, by simp [PyData.canLay0], by simp [PyData.depth]⟩
theorem lay_str {s : Str} (h : PyData.strOk s = true) : Lay n (.str s) (.str s) := ⟨rfl, by simp [PyData.canLay0, h], by simp [PyData.depth]⟩
theorem lays_nil : Lays n [] [] := ⟨rfl, by simp [PyData.canLayAll0], by simp [PyData.depthAll]⟩
theorem lays_cons (h : Lay n d p) (hs : Lays n ds ps) : Lays n (d :: ds) (p :: ps) := by
  refine ⟨?_, ?_, ?_⟩
  · unfold toPys
    rw [h.py, hs.py]
  · simp [PyData.canLayAll0, h.ok, hs.ok]
  · simp only [PyData.depthAll]
    have := h.dp
    have := hs.dp
    omega
theorem lay_tup (h : Lays n ds ps) : Lay (n + 1) (.tup ds) (.tuple ps) := by
  refine ⟨?_, ?_, ?_⟩
  · unfold toPy
    rw [h.py]
  · simp [PyData.canLay0, h.ok]
  · simp only [PyData.depth]
    have := h.dp
    omega
theorem lay_lst (h : Lays n ds ps) : Lay (n + 1) (.lst ds) (.list ps) := by
  refine ⟨?_, ?_, ?_⟩
  · unfold toPy
    rw [h.py]
  · simp [PyData.canLay0, h.ok]
  · simp only [PyData.depth]
    have := h.dp
    omega
theorem Lay.mono {k : Nat} (h : Lay n d p) (hk : n ≤ k) : Lay k d p := ⟨h.py, h.ok, Nat.le_trans h.dp hk⟩
theorem Lay.shaped (h : Lay n d p) (hn : n ≤ 64) : SeqAt.shaped p = true := by
  unfold SeqAt.shaped
  rw [h.ok, decide_eq_true (Nat.le_trans h.dp hn)]
  rfl
theorem lays_map {α : Type} {f : α → D} {g : α → PyData} : ∀ {xs : List α}, (∀ x ∈ xs, Lay n (f x) (g x)) → Lays n (xs.map f) (xs.map g)
  | [], _ => lays_nil
  | x :: xs, h => lays_cons (h x (by simp)) (lays_map fun y hy => h y (by simp [hy]))
def frP (q : Rat) : PyData := .tuple [.int q.num, .int q.den]
theorem lay_fr {q : Rat} : Lay (n + 1) (fr q) (frP q) := lay_tup (lays_cons lay_int (lays_cons lay_int lays_nil))
def optP : Option Rat → PyData
  | none => .none
  | some q => frP q
theorem lay_opt {o : Option Rat} : Lay (n + 1) (optD o) (optP o) := by
  cases o with
  | none => exact lay_non
  | some q => exact lay_fr
mutual
theorem eqv_refl : ∀ p : PyData, PyData.canLay0 p = true → PyData.eqv p p = true
  | .none, _ => by simp [PyData.eqv]
  | .bool b, _ => by simp [PyData.eqv]
  | .int i, _ => by simp [PyData.eqv]
  | .str s, _ => by simp [PyData.eqv]
  | .list xs, h => by
    simp only [PyData.canLay0] at h
    simp only [PyData.eqv]
    exact eqvAll_refl xs h
  | .tuple xs, h => by
    simp only [PyData.canLay0] at h
    simp only [PyData.eqv]
    exact eqvAll_refl xs h
  | .dict _, h => by simp [PyData.canLay0] at h
theorem eqvAll_refl : ∀ ps : List PyData, PyData.canLayAll0 ps = true → PyData.eqvAll ps ps = true
  | [], _ => by simp [PyData.eqvAll]
  | p :: ps, h => by
    simp only [PyData.canLayAll0, Bool.and_eq_true] at h
    simp only [PyData.eqvAll, Bool.and_eq_true]
    exact ⟨eqv_refl p h.1, eqvAll_refl ps h.2⟩
end
theorem eqv_fr (p q : Rat) : PyData.eqv (frP p) (frP q) = decide (p = q) := by
  have e : PyData.eqv (frP p) (frP q) = (p.num == q.num && ((p.den : Int) == (q.den : Int) && true)) := by
    simp only [frP, PyData.eqv, PyData.eqvAll]
  rw [e]
  by_cases h : p = q
  · subst h
    simp
  · rw [decide_eq_false h]
    by_cases h1 : p.num = q.num
    · by_cases h2 : p.den = q.den
      · exact absurd (Rat.ext h1 h2) h
      · have : ¬ (p.den : Int) = (q.den : Int) := by omega
        simp [h1, this]
    · simp [h1]
theorem eqvAll_strs : ∀ ss tt : List Str, PyData.eqvAll (ss.map .str) (tt.map .str) = decide (ss = tt)
  | [], [] => by simp [PyData.eqvAll]
  | [], t :: tt => by simp [PyData.eqvAll]
  | s :: ss, [] => by simp [PyData.eqvAll]
  | s :: ss, t :: tt => by
    simp only [List.map_cons, PyData.eqvAll, PyData.eqv, eqvAll_strs ss tt]
    by_cases h : s = t
    · by_cases h2 : ss = tt
      · simp [h, h2]
      · simp [h2]
    · simp [h]
theorem eqvAll_nil (ps : List PyData) : PyData.eqvAll ps [] = ps.isEmpty := by
  cases ps <;> simp [PyData.eqvAll]
theorem lay_strs {ss : List Str} (h : ∀ s ∈ ss, PyData.strOk s = true) : Lay (n + 1) (.tup (ss.map D.str)) (.tuple (ss.map .str)) := lay_tup (lays_map fun s hs => lay_str (h s hs))
end
section
variable {K : PySem.W.Frag} {m : Mem} {P : Post} {x y : D} {p q : PyData}
theorem eqL (hx : Lay 64 x p) (hy : Lay 64 y q) (h : P (.bl (PyData.eqv p q)) m) : OpS K (rEqU K) x y m P := ops_eqDat hx.py hy.py (hx.shaped (Nat.le_refl _)) (hy.shaped (Nat.le_refl _)) h
theorem neL (hx : Lay 64 x p) (hy : Lay 64 y q) (h : P (.bl (!PyData.eqv p q)) m) : OpS K (rNeU K) x y m P := ops_neDat hx.py hy.py (hx.shaped (Nat.le_refl _)) (hy.shaped (Nat.le_refl _)) h
theorem eq_fr {a b : Rat} (h : P (.bl (decide (a = b))) m) : OpS K (rEqU K) (fr a) (fr b) m P := eqL lay_fr lay_fr (by rw [eqv_fr]; exact h)
theorem ne_fr {a b : Rat} (h : P (.bl (!decide (a = b))) m) : OpS K (rNeU K) (fr a) (fr b) m P := neL lay_fr lay_fr (by rw [eqv_fr]; exact h)
theorem fr0 : (D.tup [.int 0, .int 1]) = fr 0 := rfl
theorem fr1 : (D.tup [.int 1, .int 1]) = fr 1 := rfl
theorem fr2 : (D.tup [.int 2, .int 1]) = fr 2 := rfl
theorem frh : (D.tup [.int 1, .int 2]) = fr (1/2) := by
  have h1 : ((1 : Rat)/2).num = 1 := by decide +kernel
  have h2 : ((1 : Rat)/2).den = 2 := by decide +kernel
  show _ = D.tup [.int ((1 : Rat)/2).num, .int ((1 : Rat)/2).den]
  rw [h1, h2]
  rfl
theorem frn (n : Nat) : (D.tup [.int (n : Int), .int 1]) = fr (n : Rat) := rfl
/-- a mark's == -/
theorem eq_mk {mk : Mark} {s : Str} (h : P (.bl (decide (mk = some s))) m) : OpS K (rEqU K) (mkD mk) (.str s) m P := by
  cases mk with
  | none => exact ops_eqNS (by simpa using h)
  | some t => exact ops_eqSt (by simpa using h)
theorem eq_bl {b c : Bool} (h : P (.bl (decide (b = c))) m) : OpS K (rEqU K) (.bl b) (.bl c) m P := ops_or_l (ops_eqS rfl rfl rfl (by
  have e : decide ((V.bl b) = V.bl c) = decide (b = c) := by
    by_cases h : b = c
    · rw [h]; simp
    · simp [h]
  rw [e]
  exact h))
theorem isNon_mk {mk : Mark} : isNonD (mkD mk) = decide (mk = none) := by
  cases mk <;> simp [mkD, isNonD]
theorem isNon_opt {o : Option Rat} : isNonD (optD o) = o.isNone := by
  cases o <;> rfl
end
end L3

/-! text L3s -/
set_option Elab.async false
set_option linter.all false
set_option maxRecDepth 100000
set_option maxHeartbeats 4000000
namespace L3
open PySem L2
open scoped Rat
local macro_rules | `(tactic| walk_at "ca") => `(tactic| first
  | exact Txt.k_Game (by assumption)
  | exact Txt.n_Game_many (by assumption)
  | exact Txt.n_Game_again (by assumption)
  | exact Txt.n_Game_highest (by assumption)
  | exact Txt.n_Game_rule (by assumption)
  | exact Txt.n_Game_drawn_values (by assumption)
  | exact Txt.n_Game_sum_so_far (by assumption)
  | exact Txt.n_Game_now (by assumption)
  | exact Txt.n_Game_most (by assumption)
  | exact Txt.n_Game_certain (by assumption)
  | exact Txt.k_Way (by assumption)
  | exact Txt.n_Way_claim (by assumption)
  | exact Txt.k_Comparing (by assumption)
  | exact Txt.n_Comparing_claim (by assumption)
  | exact Txt.n_Comparing_told (by assumption)
  | exact Txt.n_Comparing_scale (by assumption)
  | exact Txt.k_Sheet (by assumption)
  | exact Txt.n_Sheet_names (by assumption)
  | exact Txt.n_Sheet_limit (by assumption)
  | exact Txt.n_Sheet_ways (by assumption)
  | exact Txt.n_Sheet_games (by assumption)
  | exact Txt.k_Audit (by assumption)
  | exact Txt.n_Audit_sheets (by assumption)
  | exact Txt.n_Audit_many (by assumption)
  | exact Txt.n_Audit_again (by assumption)
  | exact Txt.n_Audit_most (by assumption)
  | exact Txt.n_Audit_numbers (by assumption)
  | exact Txt.k_Beats (by assumption)
  | exact Txt.n_Beats_one (by assumption)
  | exact Txt.n_Beats_other (by assumption)
  | exact Txt.k_Over (by assumption)
  | exact Txt.n_Over_name (by assumption)
  | exact Txt.n_Over_share (by assumption)
  | exact Txt.k_Under (by assumption)
  | exact Txt.n_Under_name (by assumption)
  | exact Txt.n_Under_share (by assumption)
  | exact Txt.k_Contest (by assumption)
  | exact Txt.n_Contest_names (by assumption)
  | exact Txt.k_Most (by assumption)
  | exact Txt.n_Most_names (by assumption)
  | exact Txt.n_Most_seats (by assumption)
  | exact Txt.k_Portion (by assumption)
  | exact Txt.n_Portion_names (by assumption)
  | exact Txt.n_Portion_share (by assumption)
  | exact Txt.k_Fixed (by assumption)
  | exact Txt.n_Fixed_part (by assumption))
local macro_rules | `(tactic| walk_at "ne") => `(tactic| first
  | assumption
  | (refine Ne.symm ?_; assumption)
  | exact mne (by assumption) (by assumption)
  | exact (mne (by assumption) (by assumption)).symm)
local macro_rules | `(tactic| walk_at "mm") => `(tactic| first
  | assumption
  | exact mupd_same
  | (refine (mupd_ne ?_).trans ?_; (walk_at "ne"); (walk_at "mm")))
local macro_rules | `(tactic| walk_at "s0") => `(tactic| first
  | with_reducible refine simS_seq ?_
  | with_reducible refine simS_ret ?_
  | with_reducible refine simS_retN ?_
  | with_reducible refine simS_set ?_
  | with_reducible refine simS_drop ?_
  | with_reducible refine simS_next ?_
  | with_reducible refine simS_fld ?_
  | with_reducible refine simS_dput ?_
  | with_reducible refine simT_test ?_
  | with_reducible refine simT_B ?_
  | with_reducible refine simT_not ?_
  | with_reducible refine simT_and ?_
  | with_reducible refine simT_or ?_
  | focus ((with_reducible refine sim_var (d := ?_) ?_ ?_); rotate_left 1; exact rfl)
  | with_reducible refine sim_int ?_
  | with_reducible refine sim_bl ?_
  | with_reducible refine sim_str ?_
  | with_reducible refine sim_non ?_
  | with_reducible refine sim_ty ?_
  | with_reducible refine sim_c (Txt.t_NOUGHT_games (by assumption)) ?_
  | with_reducible refine sim_c (Txt.t_ONE_games (by assumption)) ?_
  | with_reducible refine sim_c (Txt.t_ONE_ways (by assumption)) ?_
  | with_reducible refine sim_c (Txt.t_TWO (by assumption)) ?_
  | with_reducible refine sim_c (Txt.t_NOUGHT_claims (by assumption)) ?_
  | with_reducible refine sim_c (Txt.t_HALF (by assumption)) ?_
  | with_reducible refine sim_c (Txt.t_ONE_claims (by assumption)) ?_
  | with_reducible refine sim_ref ?_
  | with_reducible refine sim_op ?_
  | with_reducible refine sim_un ?_
  | with_reducible refine sim_andV ?_
  | with_reducible refine sim_orV ?_
  | with_reducible refine sim_notV ?_
  | with_reducible refine sim_chain ?_
  | with_reducible refine sim_tup ?_
  | with_reducible refine sim_call ?_
  | with_reducible refine sim_callB ?_
  | with_reducible refine sim_fldU ?_
  | with_reducible refine sim_append ?_
  | focus ((with_reducible refine apl (ds := ?_) ?_ ?_); rotate_left 1; walk_at "mm")
  | with_reducible refine sim_methU ?_
  | with_reducible refine sim_cfn ?_
  | with_reducible refine sim_dget ?_
  | with_reducible refine sim_sl ?_
  | with_reducible refine simO_none ?_
  | with_reducible refine simO_some ?_
  | with_reducible refine simA_cons ?_
  | with_reducible refine simA_nil ?_
  | with_reducible refine simG_name ?_
  | with_reducible refine simG_pair ?_
  | with_reducible refine ops_addI ?_
  | with_reducible refine uns_I (g := fun i => -i) ?_
  | with_reducible refine simG_triple ?_
  | with_reducible refine ops_subI ?_
  | with_reducible refine ops_lt ?_
  | with_reducible refine ops_le ?_
  | with_reducible refine ops_gt ?_
  | with_reducible refine ops_ge ?_
  | with_reducible refine ops_eqI ?_
  | with_reducible refine ops_neI ?_
  | with_reducible refine ops_eqSt ?_
  | with_reducible refine ops_eqNS ?_
  | with_reducible refine eq_mk ?_
  | with_reducible refine eq_bl ?_
  | with_reducible refine ops_isN ?_
  | with_reducible refine ops_notN ?_
  | with_reducible refine cs_abs ?_
  | focus ((with_reducible refine cs_isi2 (t := ?_) (b := ?_) ?_ ?_ ?_ ?_); rotate_left 2; exact rfl; exact rfl; exact rfl)
  | with_reducible refine cs_max2 ?_
  | with_reducible refine cs_min2 ?_
  | focus ((with_reducible refine ops_ixT' (d := ?_) ?_ ?_); rotate_left 1; exact rfl)
  | focus ((with_reducible refine fld_o (d := ?_) ?_ ?_ ?_ ?_); rotate_left 1; walk_at "ca"; walk_at "ca"; exact rfl)
  | focus ((with_reducible refine fld_p (C := ?_) (fs := ?_) (d := ?_) ?_ ?_ ?_ ?_ ?_); rotate_left 3; walk_at "mm"; walk_at "ca"; walk_at "ca"; exact rfl)
  | focus ((with_reducible refine And.intro (?_ : Mth _ _ _ _) ?_); exact mth_o (by rfl))
  | focus ((with_reducible refine ⟨mth_p (fs := ?_) ?_ ?_, ?_⟩); rotate_left 1; walk_at "mm"; exact rfl)
  | focus ((with_reducible refine setf (C := ?_) (fs := ?_) ?_ ?_ ?_ ?_ ?_); rotate_left 2; walk_at "mm"; walk_at "ca"; walk_at "ca"; exact of_decide_eq_true rfl)
  | focus ((with_reducible refine dgt (kvs := ?_) (k := ?_) (d := ?_) ?_ ?_ ?_ ?_); rotate_left 3; walk_at "mm"; exact rfl; exact rfl)
  | focus ((with_reducible refine dpt (kvs := ?_) (k := ?_) ?_ ?_ ?_ ?_); rotate_left 2; walk_at "mm"; exact rfl; exact of_decide_eq_true rfl)
  | (with_reducible refine ⟨_, rfl, ?_⟩)
  | (with_reducible refine ⟨rfl, ?_⟩)
  | focus ((with_reducible refine ⟨Nat.le_of_ble_eq_true ?_, ?_⟩); exact rfl)
  | with_reducible refine ite_T ?_
  | with_reducible refine ite_nF ?_
  | with_reducible refine ite_nT ?_
  | with_reducible refine ite_F ?_)
local macro_rules | `(tactic| walk_at "s1") => `(tactic| first
  | walk_at "s0"
  | with_reducible refine simS_if ?_)
local macro_rules | `(tactic| walk_at "sx") => `(tactic| repeat walk_at "s1")
local macro_rules | `(tactic| walk_at "sy") => `(tactic| repeat walk_at "s0")

section
variable {P : Program} {w : World} {K : PySem.W.Frag} {mg : Str → Option Value} {base : Heap} {a : Adr}

/-! L3s: the rule, claims, the way of comparing. -/
/-- kinds of claims, by their classes -/
inductive Kd where
  | b
  | o
  | u
def Kd.cls (a : Adr) : Kd → Addr
  | .b => a.Beats
  | .o => a.Over
  | .u => a.Under
def Claim.kd : Claim → Kd
  | .beats _ _ => .b
  | .over _ _ => .o
  | .under _ _ => .u
def Claim.ns : Claim → List Str
  | .beats _ _ => ["one", "other"]
  | .over _ _ => ["name", "share"]
  | .under _ _ => ["name", "share"]
def Claim.ds : Claim → List D
  | .beats o t => [.str o, .str t]
  | .over n s => [.str n, fr s]
  | .under n s => [.str n, fr s]
/-- a claim of the program -/
abbrev Claim.pD (a : Adr) (c : Claim) : D := .obj (c.kd.cls a) c.ns c.ds
def cFixedInit (a : Adr) : Ctr := fun ds m P => ∃ o x, ds = [.ptr o, x] ∧ m o = some (.ins a.Fixed []) ∧ P .non (mupd m o (.ins a.Fixed [("part", x)]))
def cStake (a : Adr) : Ctr := fun ds m P => ∃ x p q r, ds = [.obj a.Fixed ["part"] [x], p, q, r] ∧ P x m
/-- a claim's __init__ of two -/
def cInit2 (C : Addr) (f g : Str) : Ctr := fun ds m P => ∃ o x y, ds = [.ptr o, x, y] ∧ m o = some (.ins C []) ∧ P .non (mupd m o (.ins C [(f, x), (g, y)]))
def cVal0 (a : Adr) (k : Kd) : Ctr := fun ds m P => ∃ (c : Claim) (mk : Mark), ds = [c.pD a, mkD mk] ∧ c.kd = k ∧ c.Ok ∧ P (fr (c.val0 mk)) m
def cVal (a : Adr) (k : Kd) : Ctr := fun ds m P => ∃ (c : Claim) (mk : Mark), ds = [c.pD a, mkD mk] ∧ c.kd = k ∧ c.Ok ∧ P (fr (c.val mk)) m
def cTop (a : Adr) (k : Kd) : Ctr := fun ds m P => ∃ c : Claim, ds = [c.pD a] ∧ c.kd = k ∧ c.Ok ∧ P (fr c.top) m
abbrev s_Fixed_init : Stmt := inClass (top 50) 0
theorem sc_Fixed_init : FnScope ["self", "part"] ["self", "part"] (defScope s_Fixed_init) := ⟨rfl, rfl, rfl, by decide +kernel, rfl, by decide +kernel, by decide +kernel⟩
theorem ok_Fixed_init {f : Addr} {fd : FuncData} (F : Fun K "__init__" "Fixed.__init__" s_Fixed_init f fd) (T : Txt K mg a)  : FnOk P w K mg base CX0 (0 + 1) f fd ["self", "part"] (spOf K (cFixedInit a)) := by
  refine def_ok F sc_Fixed_init ?_ ?_
  · rintro ds m PP ⟨o, x, rfl, hm, hP⟩
    rfl
  · rintro cdv A outer s H E hr ds m PP ⟨o, x, rfl, hm, hP⟩
    refine ⟨_, (pss_one (pk_sfld T (pv 0) (pv 1) rfl)), ?_⟩
    walk_at "sx"
    exact hP
abbrev s_Fixed_stake : Stmt := inClass (top 50) 1
theorem sc_Fixed_stake : FnScope ["self", "past", "price", "top"] ["self", "past", "price", "top"] (defScope s_Fixed_stake) := ⟨rfl, rfl, rfl, by decide +kernel, rfl, by decide +kernel, by decide +kernel⟩
theorem ok_Fixed_stake {f : Addr} {fd : FuncData} (F : Fun K "stake" "Fixed.stake" s_Fixed_stake f fd) (T : Txt K mg a)  : FnOk P w K mg base CX0 (0 + 1) f fd ["self", "past", "price", "top"] (spOf K (cStake a)) := by
  refine def_ok F sc_Fixed_stake ?_ ?_
  · rintro ds m PP ⟨x, p, q, r, rfl, hP⟩
    rfl
  · rintro cdv A outer s H E hr ds m PP ⟨x, p, q, r, rfl, hP⟩
    refine ⟨_, (pss_one (ps_ret (pk_fld T (pv 0) rfl))), ?_⟩
    walk_at "sx"
    exact hP
abbrev s_Beats_init : Stmt := inClass (top 40) 0
theorem sc_Beats_init : FnScope ["self", "one", "other"] ["self", "one", "other"] (defScope s_Beats_init) := ⟨rfl, rfl, rfl, by decide +kernel, rfl, by decide +kernel, by decide +kernel⟩
theorem ok_Beats_init {f : Addr} {fd : FuncData} (F : Fun K "__init__" "Beats.__init__" s_Beats_init f fd) (T : Txt K mg a)  : FnOk P w K mg base CX0 (0 + 1) f fd ["self", "one", "other"] (spOf K (cInit2 a.Beats "one" "other")) := by
  refine def_ok F sc_Beats_init ?_ ?_
  · rintro ds m PP ⟨o, x, y, rfl, hm, hP⟩
    rfl
  · rintro cdv A outer s H E hr ds m PP ⟨o, x, y, rfl, hm, hP⟩
    refine ⟨_, (pss_cons (pk_sfld T (pv 0) (pv 1) rfl)
      (pss_one (pk_sfld T (pv 0) (pv 2) rfl))), ?_⟩
    walk_at "sx"
    rw [mupd_upd]
    exact hP
abbrev s_Over_init : Stmt := inClass (top 41) 0
theorem sc_Over_init : FnScope ["self", "name", "share"] ["self", "name", "share"] (defScope s_Over_init) := ⟨rfl, rfl, rfl, by decide +kernel, rfl, by decide +kernel, by decide +kernel⟩
theorem ok_Over_init {f : Addr} {fd : FuncData} (F : Fun K "__init__" "Over.__init__" s_Over_init f fd) (T : Txt K mg a)  : FnOk P w K mg base CX0 (0 + 1) f fd ["self", "name", "share"] (spOf K (cInit2 a.Over "name" "share")) := by
  refine def_ok F sc_Over_init ?_ ?_
  · rintro ds m PP ⟨o, x, y, rfl, hm, hP⟩
    rfl
  · rintro cdv A outer s H E hr ds m PP ⟨o, x, y, rfl, hm, hP⟩
    refine ⟨_, (pss_cons (pk_sfld T (pv 0) (pv 1) rfl)
      (pss_one (pk_sfld T (pv 0) (pv 2) rfl))), ?_⟩
    walk_at "sx"
    rw [mupd_upd]
    exact hP
abbrev s_Under_init : Stmt := inClass (top 42) 0
theorem sc_Under_init : FnScope ["self", "name", "share"] ["self", "name", "share"] (defScope s_Under_init) := ⟨rfl, rfl, rfl, by decide +kernel, rfl, by decide +kernel, by decide +kernel⟩
theorem ok_Under_init {f : Addr} {fd : FuncData} (F : Fun K "__init__" "Under.__init__" s_Under_init f fd) (T : Txt K mg a)  : FnOk P w K mg base CX0 (0 + 1) f fd ["self", "name", "share"] (spOf K (cInit2 a.Under "name" "share")) := by
  refine def_ok F sc_Under_init ?_ ?_
  · rintro ds m PP ⟨o, x, y, rfl, hm, hP⟩
    rfl
  · rintro cdv A outer s H E hr ds m PP ⟨o, x, y, rfl, hm, hP⟩
    refine ⟨_, (pss_cons (pk_sfld T (pv 0) (pv 1) rfl)
      (pss_one (pk_sfld T (pv 0) (pv 2) rfl))), ?_⟩
    walk_at "sx"
    rw [mupd_upd]
    exact hP
abbrev s_Beats_value_of : Stmt := inClass (top 40) 1
theorem sc_Beats_value_of : FnScope ["self", "mark"] ["self", "mark"] (defScope s_Beats_value_of) := ⟨rfl, rfl, rfl, by decide +kernel, rfl, by decide +kernel, by decide +kernel⟩
theorem ok_Beats_value_of {f : Addr} {fd : FuncData} (F : Fun K "value_of" "Beats.value_of" s_Beats_value_of f fd) (T : Txt K mg a)  : FnOk P w K mg base CX0 (0 + 1) f fd ["self", "mark"] (spOf K (cVal0 a .b)) := by
  refine def_ok F sc_Beats_value_of ?_ ?_
  · rintro ds m PP ⟨c, mk, rfl, hc, hk, hP⟩
    rfl
  · rintro cdv A outer s H E hr ds m PP ⟨c, mk, rfl, hc, hk, hP⟩
    refine ⟨_, (pss_cons (ps_if (pt_cmpR (pk_eq T hr.units) (pv 1) (pk_fld T (pv 0) rfl) (nomark _)) (pss_one (ps_ret (pe_const (by rfl) T.g_ONE_claims))) pss_nil)
      (pss_cons (ps_if (pt_cmpR (pk_eq T hr.units) (pv 1) (pk_fld T (pv 0) rfl) (nomark _)) (pss_one (ps_ret (pe_const (by rfl) T.g_NOUGHT_claims))) pss_nil)
      (pss_one (ps_ret (pe_const (by rfl) T.g_HALF))))), ?_⟩
    obtain ⟨one, other⟩ | ⟨n, s⟩ | ⟨n, s⟩ := c <;> cases hc
    simp only [Claim.val0] at hP
    walk_at "sx"
    refine ite_d (fun h => ?_) (fun h => ?_) <;> walk_at "sx"
    · rw [if_pos h] at hP
      exact hP
    refine ite_d (fun h2 => ?_) (fun h2 => ?_) <;> walk_at "sx"
    · rw [if_neg h, if_pos h2] at hP
      exact hP
    · rw [if_neg h, if_neg h2, ← frh] at hP
      exact hP
abbrev s_Beats_greatest : Stmt := inClass (top 40) 2
theorem sc_Beats_greatest : FnScope ["self"] ["self"] (defScope s_Beats_greatest) := ⟨rfl, rfl, rfl, by decide +kernel, rfl, by decide +kernel, by decide +kernel⟩
theorem ok_Beats_greatest {f : Addr} {fd : FuncData} (F : Fun K "greatest" "Beats.greatest" s_Beats_greatest f fd) (T : Txt K mg a)  : FnOk P w K mg base CX0 (0 + 1) f fd ["self"] (spOf K (cTop a .b)) := by
  refine def_ok F sc_Beats_greatest ?_ ?_
  · rintro ds m PP ⟨c, rfl, hc, hk, hP⟩
    rfl
  · rintro cdv A outer s H E hr ds m PP ⟨c, rfl, hc, hk, hP⟩
    refine ⟨_, (pss_one (ps_ret (pe_const (by rfl) T.g_ONE_claims))), ?_⟩
    obtain ⟨one, other⟩ | ⟨n, s⟩ | ⟨n, s⟩ := c <;> cases hc
    walk_at "sx"
    exact hP
abbrev s_Over_greatest : Stmt := inClass (top 41) 2
theorem sc_Over_greatest : FnScope ["self"] ["self"] (defScope s_Over_greatest) := ⟨rfl, rfl, rfl, by decide +kernel, rfl, by decide +kernel, by decide +kernel⟩
theorem ok_Over_greatest {f : Addr} {fd : FuncData} (F : Fun K "greatest" "Over.greatest" s_Over_greatest f fd) (T : Txt K mg a) (h_over : CalC P w K mg base 3 "over" (cOver)) : FnOk P w K mg base CX0 (3 + 1) f fd ["self"] (spOf K (cTop a .o)) := by
  refine def_ok F sc_Over_greatest ?_ ?_
  · rintro ds m PP ⟨c, rfl, hc, hk, hP⟩
    rfl
  · rintro cdv A outer s H E hr ds m PP ⟨c, rfl, hc, hk, hP⟩
    refine ⟨_, (pss_one (ps_ret (pk_cal h_over hr (by decide) (pa_cons (pe_const (by rfl) T.g_HALF) (pa_cons (pk_fld T (pv 0) rfl) pa_nil))))), ?_⟩
    obtain ⟨one, other⟩ | ⟨n, s⟩ | ⟨n, s⟩ := c <;> cases hc
    have hk : ShOk s := hk
    walk_at "sx"
    exact ⟨1/2, s, 2, 7, by rw [frh], bd_half, hk.bd, by omega, by have := hk.lo; grind, hP⟩
abbrev s_Under_greatest : Stmt := inClass (top 42) 2
theorem sc_Under_greatest : FnScope ["self"] ["self"] (defScope s_Under_greatest) := ⟨rfl, rfl, rfl, by decide +kernel, rfl, by decide +kernel, by decide +kernel⟩
theorem ok_Under_greatest {f : Addr} {fd : FuncData} (F : Fun K "greatest" "Under.greatest" s_Under_greatest f fd) (T : Txt K mg a) (h_over : CalC P w K mg base 3 "over" (cOver)) (h_minus : CalC P w K mg base 3 "minus" (cMinus)) : FnOk P w K mg base CX0 (3 + 1) f fd ["self"] (spOf K (cTop a .u)) := by
  refine def_ok F sc_Under_greatest ?_ ?_
  · rintro ds m PP ⟨c, rfl, hc, hk, hP⟩
    rfl
  · rintro cdv A outer s H E hr ds m PP ⟨c, rfl, hc, hk, hP⟩
    refine ⟨_, (pss_one (ps_ret (pk_cal h_over hr (by decide) (pa_cons (pe_const (by rfl) T.g_HALF) (pa_cons (pk_cal h_minus hr (by decide) (pa_cons (pe_const (by rfl) T.g_ONE_claims) (pa_cons (pk_fld T (pv 0) rfl) pa_nil))) pa_nil))))), ?_⟩
    obtain ⟨one, other⟩ | ⟨n, s⟩ | ⟨n, s⟩ := c <;> cases hc
    have hk : ShOk s := hk
    walk_at "sx"
    refine ⟨1, s, 1, 7, rfl, bd_one, hk.bd, by omega, ?_⟩
    walk_at "sx"
    exact ⟨1/2, 1 - s, 2, 9, by rw [frh], bd_half, bd_sub bd_one hk.bd, by omega, by have := hk.hi; grind, hP⟩
abbrev s_Over_value_of : Stmt := inClass (top 41) 1
theorem sc_Over_value_of : FnScope ["self", "mark"] ["self", "mark"] (defScope s_Over_value_of) := ⟨rfl, rfl, rfl, by decide +kernel, rfl, by decide +kernel, by decide +kernel⟩
theorem ok_Over_value_of {f : Addr} {fd : FuncData} (F : Fun K "value_of" "Over.value_of" s_Over_value_of f fd) (T : Txt K mg a) (h_greatest : MetC P w K mg base 4 a.Over "greatest" (cTop a .o)) : FnOk P w K mg base CX0 (4 + 1) f fd ["self", "mark"] (spOf K (cVal0 a .o)) := by
  refine def_ok F sc_Over_value_of ?_ ?_
  · rintro ds m PP ⟨c, mk, rfl, hc, hk, hP⟩
    rfl
  · rintro cdv A outer s H E hr ds m PP ⟨c, mk, rfl, hc, hk, hP⟩
    refine ⟨_, (pss_cons (ps_if (PW.pt (pw_or (pt_cmpR op_isN (pv 1) pe_non (nomark _)) (pw_or1 (pt_cmpR (pk_eq T hr.units) (pv 1) pe_str (nomark _))))) (pss_one (ps_ret (pe_const (by rfl) T.g_HALF))) pss_nil)
      (pss_cons (ps_if (pt_cmpR (pk_eq T hr.units) (pv 1) (pk_fld T (pv 0) rfl) (nomark _)) (pss_one (ps_ret (pk_met0 h_greatest hr (by decide) (pv 0)))) pss_nil)
      (pss_one (ps_ret (pe_const (by rfl) T.g_NOUGHT_claims))))), ?_⟩
    obtain ⟨one, other⟩ | ⟨n, s⟩ | ⟨n, s⟩ := c <;> cases hc
    simp only [Claim.val0] at hP
    walk_at "sx"
    rw [isNon_mk]
    refine ite_d (fun h => ?_) (fun h => ?_) <;> walk_at "sx"
    · rw [if_pos (.inl h), ← frh] at hP
      exact hP
    refine ite_d (fun h2 => ?_) (fun h2 => ?_) <;> walk_at "sx"
    · rw [if_pos (.inr h2), ← frh] at hP
      exact hP
    rw [if_neg (not_or.mpr ⟨h, h2⟩)] at hP
    refine ite_d (fun h3 => ?_) (fun h3 => ?_) <;> walk_at "sx"
    · rw [if_pos h3] at hP
      exact ⟨.over n s, rfl, rfl, hk, hP⟩
    · rw [if_neg h3] at hP
      exact hP
abbrev s_Under_value_of : Stmt := inClass (top 42) 1
theorem sc_Under_value_of : FnScope ["self", "mark"] ["self", "mark"] (defScope s_Under_value_of) := ⟨rfl, rfl, rfl, by decide +kernel, rfl, by decide +kernel, by decide +kernel⟩
theorem ok_Under_value_of {f : Addr} {fd : FuncData} (F : Fun K "value_of" "Under.value_of" s_Under_value_of f fd) (T : Txt K mg a) (h_greatest : MetC P w K mg base 4 a.Under "greatest" (cTop a .u)) : FnOk P w K mg base CX0 (4 + 1) f fd ["self", "mark"] (spOf K (cVal0 a .u)) := by
  refine def_ok F sc_Under_value_of ?_ ?_
  · rintro ds m PP ⟨c, mk, rfl, hc, hk, hP⟩
    rfl
  · rintro cdv A outer s H E hr ds m PP ⟨c, mk, rfl, hc, hk, hP⟩
    refine ⟨_, (pss_cons (ps_if (PW.pt (pw_or (pt_cmpR op_isN (pv 1) pe_non (nomark _)) (pw_or1 (pt_cmpR (pk_eq T hr.units) (pv 1) pe_str (nomark _))))) (pss_one (ps_ret (pe_const (by rfl) T.g_HALF))) pss_nil)
      (pss_cons (ps_if (pt_cmpR (pk_eq T hr.units) (pv 1) (pk_fld T (pv 0) rfl) (nomark _)) (pss_one (ps_ret (pe_const (by rfl) T.g_NOUGHT_claims))) pss_nil)
      (pss_one (ps_ret (pk_met0 h_greatest hr (by decide) (pv 0)))))), ?_⟩
    obtain ⟨one, other⟩ | ⟨n, s⟩ | ⟨n, s⟩ := c <;> cases hc
    simp only [Claim.val0] at hP
    walk_at "sx"
    rw [isNon_mk]
    refine ite_d (fun h => ?_) (fun h => ?_) <;> walk_at "sx"
    · rw [if_pos (.inl h), ← frh] at hP
      exact hP
    refine ite_d (fun h2 => ?_) (fun h2 => ?_) <;> walk_at "sx"
    · rw [if_pos (.inr h2), ← frh] at hP
      exact hP
    rw [if_neg (not_or.mpr ⟨h, h2⟩)] at hP
    refine ite_d (fun h3 => ?_) (fun h3 => ?_) <;> walk_at "sx"
    · rw [if_pos h3] at hP
      exact hP
    · rw [if_neg h3] at hP
      exact ⟨.under n s, rfl, rfl, hk, hP⟩
/-- Claim.value, as a method of each of the three classes -/
abbrev s_Claim_value : Stmt := inClass (top 39) 0
theorem sc_Claim_value : FnScope ["self", "mark"] ["self", "mark"] (defScope s_Claim_value) := ⟨rfl, rfl, rfl, by decide +kernel, rfl, by decide +kernel, by decide +kernel⟩
theorem ok_Claim_value {f : Addr} {fd : FuncData} (F : Fun K "value" "Claim.value" s_Claim_value f fd) (T : Txt K mg a) (k : Kd) (h_value_of : MetC P w K mg base 5 (k.cls a) "value_of" (cVal0 a k)) : FnOk P w K mg base CX0 (5 + 1) f fd ["self", "mark"] (spOf K (cVal a k)) := by
  refine def_ok F sc_Claim_value ?_ ?_
  · rintro ds m PP ⟨c, mk, rfl, hc, hk, hP⟩
    rfl
  · rintro cdv A outer s H E hr ds m PP ⟨c, mk, rfl, hc, hk, hP⟩
    refine ⟨_, (pss_cons (ps_if (pt_cmpR (pk_eq T hr.units) (pv 1) pe_str (nomark _)) (pss_one (ps_ret (pe_const (by rfl) T.g_NOUGHT_claims))) pss_nil)
      (pss_one (ps_ret (pk_met h_value_of hr (by decide) (pv 0) (pa_cons (pv 1) pa_nil))))), ?_⟩
    subst hc
    unfold Claim.val at hP
    walk_at "sx"
    refine ite_d (fun h => ?_) (fun h => ?_) <;> walk_at "sx"
    · rw [if_pos h] at hP
      exact hP
    rw [if_neg h] at hP
    refine ⟨mth_o (by cases c <;> rfl), ?_⟩
    walk_at "sx"
    exact ⟨c, mk, rfl, rfl, hk, hP⟩
def cHolds (a : Adr) (k : Kd) : Ctr := fun ds m P => ∃ (c : Claim) (mks : List Mark), ds = [c.pD a, .tup (mks.map mkD)] ∧ c.kd = k ∧ c.Ok ∧ 0 < mks.length ∧ mks.length ≤ 60 ∧ P (.bl (decide ((mks.length : Rat) / 2 < c.sum mks))) m
/-- what the classes of claims have -/
structure ClaimMs (P : Program) (w : World) (K : PySem.W.Frag) (mg : Str → Option Value) (base : Heap) (a : Adr) (k : Kd) : Prop where
  value : MetC P w K mg base 6 (k.cls a) "value" (cVal a k)
  greatest : MetC P w K mg base 4 (k.cls a) "greatest" (cTop a k)
  holds : MetC P w K mg base 7 (k.cls a) "holds" (cHolds a k)
abbrev s_Claim_holds : Stmt := inClass (top 39) 3
theorem sc_Claim_holds : FnScope ["self", "marks", "mark"] ["self", "marks"] (defScope s_Claim_holds) := ⟨rfl, rfl, rfl, by decide +kernel, rfl, by decide +kernel, by decide +kernel⟩
theorem ok_Claim_holds {f : Addr} {fd : FuncData} (F : Fun K "holds" "Claim.holds" s_Claim_holds f fd) (T : Txt K mg a) (h_below : CalC P w K mg base 1 "below" (cBelow)) (h_lowest : CalC P w K mg base 2 "lowest" (cLow)) (h_total : CalC P w K mg base 4 "total" (cTotal)) (k : Kd) (h_claim_value : MetC P w K mg base 6 (k.cls a) "value" (cVal a k)) : FnOk P w K mg base CX0 (6 + 1) f fd ["self", "marks"] (spOf K (cHolds a k)) := by
  refine def_ok F sc_Claim_holds ?_ ?_
  · rintro ds m PP ⟨c, mks, rfl, hc, hk, h0, hl, hP⟩
    rfl
  · rintro cdv A outer s H E hr ds m PP ⟨c, mks, rfl, hc, hk, h0, hl, hP⟩
    refine ⟨_, (pss_one (ps_ret (pk_cal h_below hr (by decide) (pa_cons (pk_cal h_lowest hr (by decide) (pa_cons (pe_callB (pk_len T) (by rfl) T.b_len (by decide +kernel) (pa_cons (pv 1) pa_nil)) (pa_cons pe_int pa_nil))) (pa_cons (pk_cal h_total hr (by decide) (pa_cons (pe_lc (own := [("mark", 2)]) (g := (gName 2)) (tt := tYes) (by rfl) sc_Claim_holds.nd (pk_seq T (pv 1)) (blkOk_by (by kernel_rfl)) (fun _ _ _ _ _ => by exact (pg_name (i := 2) sc_Claim_holds.nd rfl (by first | exact Or.inl rfl | exact Or.inr rfl))) (fun _ _ _ _ _ => by exact pts_nil) (fun _ _ _ _ _ => by exact (pk_met h_claim_value hr (by decide) (pv 0) (pa_cons (pv 2) pa_nil)))) pa_nil)) pa_nil))))), ?_⟩
    subst hc
    walk_at "sx"
    refine cs_len (.inr rfl) ?_
    rw [List.length_map]
    walk_at "sx"
    refine ⟨_, _, rfl, by decide, by decide +kernel, ?_⟩
    walk_at "sx"
    refine sim_lcM mks mkD (fun mk => fr (c.val mk)) (ts := [2]) (by decide) (simI_seq ?_)
    walk_at "sx"
    refine ⟨_, .inr rfl, rfl, by omega, .inr rfl, fun mk _ => ?_, ?_⟩
    · walk_at "sx"
      refine ⟨mth_o (by cases c <;> rfl), ?_⟩
      walk_at "sx"
      exact ⟨c, mk, rfl, rfl, hk, rfl, rfl⟩
    walk_at "sx"
    refine ⟨_, mks.map c.val, rfl, .inl (by rw [List.map_map]; rfl), ?_, ?_, ?_⟩
    · intro q hq
      obtain ⟨mk, _, rfl⟩ := List.mem_map.mp hq
      exact (Claim.val_bd hk mk).mono (by omega)
    · intro i _
      rw [← List.map_take]
      exact (Claim.sum_bd hk (by rw [List.length_take]; omega)).mono (by omega)
    walk_at "sx"
    have e : ((mks.length : Int) /. 2) = (mks.length : Rat) / 2 := by
      rw [Rat.divInt_eq_div]
      rfl
    rw [e]
    exact ⟨_, _, 8, 14, rfl, (bd_div (nat_bd (k := 6) (by omega) (by omega)) bd_two (by decide +kernel)).mono (by omega), Claim.sum_bd hk hl, by omega, hP⟩
end
end L3

/-! text L3t -/
set_option Elab.async false
set_option linter.all false
set_option maxRecDepth 100000
set_option maxHeartbeats 4000000
namespace L3
open PySem L2
open scoped Rat
local macro_rules | `(tactic| walk_at "ca") => `(tactic| first
  | exact Txt.k_Game (by assumption)
  | exact Txt.n_Game_many (by assumption)
  | exact Txt.n_Game_again (by assumption)
  | exact Txt.n_Game_highest (by assumption)
  | exact Txt.n_Game_rule (by assumption)
  | exact Txt.n_Game_drawn_values (by assumption)
  | exact Txt.n_Game_sum_so_far (by assumption)
  | exact Txt.n_Game_now (by assumption)
  | exact Txt.n_Game_most (by assumption)
  | exact Txt.n_Game_certain (by assumption)
  | exact Txt.k_Way (by assumption)
  | exact Txt.n_Way_claim (by assumption)
  | exact Txt.k_Comparing (by assumption)
  | exact Txt.n_Comparing_claim (by assumption)
  | exact Txt.n_Comparing_told (by assumption)
  | exact Txt.n_Comparing_scale (by assumption)
  | exact Txt.k_Sheet (by assumption)
  | exact Txt.n_Sheet_names (by assumption)
  | exact Txt.n_Sheet_limit (by assumption)
  | exact Txt.n_Sheet_ways (by assumption)
  | exact Txt.n_Sheet_games (by assumption)
  | exact Txt.k_Audit (by assumption)
  | exact Txt.n_Audit_sheets (by assumption)
  | exact Txt.n_Audit_many (by assumption)
  | exact Txt.n_Audit_again (by assumption)
  | exact Txt.n_Audit_most (by assumption)
  | exact Txt.n_Audit_numbers (by assumption)
  | exact Txt.k_Beats (by assumption)
  | exact Txt.n_Beats_one (by assumption)
  | exact Txt.n_Beats_other (by assumption)
  | exact Txt.k_Over (by assumption)
  | exact Txt.n_Over_name (by assumption)
  | exact Txt.n_Over_share (by assumption)
  | exact Txt.k_Under (by assumption)
  | exact Txt.n_Under_name (by assumption)
  | exact Txt.n_Under_share (by assumption)
  | exact Txt.k_Contest (by assumption)
  | exact Txt.n_Contest_names (by assumption)
  | exact Txt.k_Most (by assumption)
  | exact Txt.n_Most_names (by assumption)
  | exact Txt.n_Most_seats (by assumption)
  | exact Txt.k_Portion (by assumption)
  | exact Txt.n_Portion_names (by assumption)
  | exact Txt.n_Portion_share (by assumption)
  | exact Txt.k_Fixed (by assumption)
  | exact Txt.n_Fixed_part (by assumption))
local macro_rules | `(tactic| walk_at "ne") => `(tactic| first
  | assumption
  | (refine Ne.symm ?_; assumption)
  | exact mne (by assumption) (by assumption)
  | exact (mne (by assumption) (by assumption)).symm)
local macro_rules | `(tactic| walk_at "mm") => `(tactic| first
  | assumption
  | exact mupd_same
  | (refine (mupd_ne ?_).trans ?_; (walk_at "ne"); (walk_at "mm")))
local macro_rules | `(tactic| walk_at "s0") => `(tactic| first
  | with_reducible refine simS_seq ?_
  | with_reducible refine simS_ret ?_
  | with_reducible refine simS_retN ?_
  | with_reducible refine simS_set ?_
  | with_reducible refine simS_drop ?_
  | with_reducible refine simS_next ?_
  | with_reducible refine simS_fld ?_
  | with_reducible refine simS_dput ?_
  | with_reducible refine simT_test ?_
  | with_reducible refine simT_B ?_
  | with_reducible refine simT_not ?_
  | with_reducible refine simT_and ?_
  | with_reducible refine simT_or ?_
  | focus ((with_reducible refine sim_var (d := ?_) ?_ ?_); rotate_left 1; exact rfl)
  | with_reducible refine sim_int ?_
  | with_reducible refine sim_bl ?_
  | with_reducible refine sim_str ?_
  | with_reducible refine sim_non ?_
  | with_reducible refine sim_ty ?_
  | with_reducible refine sim_c (Txt.t_NOUGHT_games (by assumption)) ?_
  | with_reducible refine sim_c (Txt.t_ONE_games (by assumption)) ?_
  | with_reducible refine sim_c (Txt.t_ONE_ways (by assumption)) ?_
  | with_reducible refine sim_c (Txt.t_TWO (by assumption)) ?_
  | with_reducible refine sim_c (Txt.t_NOUGHT_claims (by assumption)) ?_
  | with_reducible refine sim_c (Txt.t_HALF (by assumption)) ?_
  | with_reducible refine sim_c (Txt.t_ONE_claims (by assumption)) ?_
  | with_reducible refine sim_ref ?_
  | with_reducible refine sim_op ?_
  | with_reducible refine sim_un ?_
  | with_reducible refine sim_andV ?_
  | with_reducible refine sim_orV ?_
  | with_reducible refine sim_notV ?_
  | with_reducible refine sim_chain ?_
  | with_reducible refine sim_tup ?_
  | with_reducible refine sim_call ?_
  | with_reducible refine sim_callB ?_
  | with_reducible refine sim_fldU ?_
  | with_reducible refine sim_append ?_
  | focus ((with_reducible refine apl (ds := ?_) ?_ ?_); rotate_left 1; walk_at "mm")
  | with_reducible refine sim_methU ?_
  | with_reducible refine sim_cfn ?_
  | with_reducible refine sim_dget ?_
  | with_reducible refine sim_sl ?_
  | with_reducible refine simO_none ?_
  | with_reducible refine simO_some ?_
  | with_reducible refine simA_cons ?_
  | with_reducible refine simA_nil ?_
  | with_reducible refine simG_name ?_
  | with_reducible refine simG_pair ?_
  | with_reducible refine ops_addI ?_
  | with_reducible refine uns_I (g := fun i => -i) ?_
  | with_reducible refine simG_triple ?_
  | with_reducible refine ops_subI ?_
  | with_reducible refine ops_lt ?_
  | with_reducible refine ops_le ?_
  | with_reducible refine ops_gt ?_
  | with_reducible refine ops_ge ?_
  | with_reducible refine ops_eqI ?_
  | with_reducible refine ops_neI ?_
  | with_reducible refine ops_eqSt ?_
  | with_reducible refine ops_eqNS ?_
  | with_reducible refine eq_mk ?_
  | with_reducible refine eq_bl ?_
  | with_reducible refine ops_isN ?_
  | with_reducible refine ops_notN ?_
  | with_reducible refine cs_abs ?_
  | focus ((with_reducible refine cs_isi2 (t := ?_) (b := ?_) ?_ ?_ ?_ ?_); rotate_left 2; exact rfl; exact rfl; exact rfl)
  | with_reducible refine cs_max2 ?_
  | with_reducible refine cs_min2 ?_
  | focus ((with_reducible refine ops_ixT' (d := ?_) ?_ ?_); rotate_left 1; exact rfl)
  | focus ((with_reducible refine fld_o (d := ?_) ?_ ?_ ?_ ?_); rotate_left 1; walk_at "ca"; walk_at "ca"; exact rfl)
  | focus ((with_reducible refine fld_p (C := ?_) (fs := ?_) (d := ?_) ?_ ?_ ?_ ?_ ?_); rotate_left 3; walk_at "mm"; walk_at "ca"; walk_at "ca"; exact rfl)
  | focus ((with_reducible refine And.intro (?_ : Mth _ _ _ _) ?_); exact mth_o (by rfl))
  | focus ((with_reducible refine ⟨mth_p (fs := ?_) ?_ ?_, ?_⟩); rotate_left 1; walk_at "mm"; exact rfl)
  | focus ((with_reducible refine setf (C := ?_) (fs := ?_) ?_ ?_ ?_ ?_ ?_); rotate_left 2; walk_at "mm"; walk_at "ca"; walk_at "ca"; exact of_decide_eq_true rfl)
  | focus ((with_reducible refine dgt (kvs := ?_) (k := ?_) (d := ?_) ?_ ?_ ?_ ?_); rotate_left 3; walk_at "mm"; exact rfl; exact rfl)
  | focus ((with_reducible refine dpt (kvs := ?_) (k := ?_) ?_ ?_ ?_ ?_); rotate_left 2; walk_at "mm"; exact rfl; exact of_decide_eq_true rfl)
  | (with_reducible refine ⟨_, rfl, ?_⟩)
  | (with_reducible refine ⟨rfl, ?_⟩)
  | focus ((with_reducible refine ⟨Nat.le_of_ble_eq_true ?_, ?_⟩); exact rfl)
  | with_reducible refine ite_T ?_
  | with_reducible refine ite_nF ?_
  | with_reducible refine ite_nT ?_
  | with_reducible refine ite_F ?_)
local macro_rules | `(tactic| walk_at "s1") => `(tactic| first
  | walk_at "s0"
  | with_reducible refine simS_if ?_)
local macro_rules | `(tactic| walk_at "sx") => `(tactic| repeat walk_at "s1")
local macro_rules | `(tactic| walk_at "sy") => `(tactic| repeat walk_at "s0")

section
variable {P : Program} {w : World} {K : PySem.W.Frag} {mg : Str → Option Value} {base : Heap} {a : Adr}

/-! L3t: the way of comparing. -/
abbrev wayD (a : Adr) (c : Claim) (told : List Mark) (sc : Rat) : D := .obj a.Comparing ["claim", "told", "scale"] [c.pD a, .lst (told.map fun mk => fr (c.val mk)), fr sc]
def cWayInit (a : Adr) : Ctr := fun ds m P => ∃ o x, ds = [.ptr o, x] ∧ m o = some (.ins a.Comparing []) ∧ P .non (mupd m o (.ins a.Comparing [("claim", x)]))
def cCmpInit (a : Adr) : Ctr := fun ds m P => ∃ o, ∃ (c : Claim) (mks : List Mark), ds = [.ptr o, c.pD a, .tup (mks.map mkD)] ∧ m o = some (.ins a.Comparing []) ∧ c.Ok ∧ 0 < mks.length ∧ mks.length ≤ 60 ∧ c.holds mks ∧
  P .non (mupd m o (.ins a.Comparing [("claim", c.pD a), ("told", .lst (mks.map fun mk => fr (c.val mk))), ("scale", fr (c.scale mks))]))
def cCmpVal (a : Adr) : Ctr := fun ds m P => ∃ (c : Claim) (told : List Mark) (sc : Rat) (i : Nat) (mk t : Mark), ds = [wayD a c told sc, .int i, mkD mk] ∧ told[i]? = some t ∧ c.Ok ∧ Bd 46 sc ∧ 0 < sc ∧ P (fr (c.cmp sc t mk)) m
def cCmpTop (a : Adr) : Ctr := fun ds m P => ∃ (c : Claim) (told : List Mark) (sc : Rat), ds = [wayD a c told sc] ∧ Bd 46 sc ∧ 0 < sc ∧ P (fr (2 / sc)) m
def cWayOf (a : Adr) : Ctr := fun ds m P => ∃ (c : Claim) (rec : List (List Mark)) (k : Nat), ds = [c.pD a, .tup (rec.map fun b => .tup (b.map mkD)), .int k] ∧ c.Ok ∧ 0 < rec.length ∧ rec.length ≤ 60 ∧ (∀ b ∈ rec, k < b.length) ∧ c.holds (rec.map fun b => b.getD k none) ∧
  P (wayD a c (rec.map fun b => b.getD k none) (c.scale (rec.map fun b => b.getD k none))) m
abbrev s_Way_init : Stmt := inClass (top 26) 0
theorem sc_Way_init : FnScope ["self", "claim"] ["self", "claim"] (defScope s_Way_init) := ⟨rfl, rfl, rfl, by decide +kernel, rfl, by decide +kernel, by decide +kernel⟩
theorem ok_Way_init {f : Addr} {fd : FuncData} (F : Fun K "__init__" "Way.__init__" s_Way_init f fd) (T : Txt K mg a)  : FnOk P w K mg base CX0 (0 + 1) f fd ["self", "claim"] (spOf K (cWayInit a)) := by
  refine def_ok F sc_Way_init ?_ ?_
  · rintro ds m PP ⟨o, x, rfl, hm, hP⟩
    rfl
  · rintro cdv A outer s H E hr ds m PP ⟨o, x, rfl, hm, hP⟩
    refine ⟨_, (pss_one (pk_sfld T (pv 0) (pv 1) rfl)), ?_⟩
    walk_at "sx"
    exact hP
theorem sum_map (c : Claim) (mks : List Mark) : (mks.map c.val).foldl (· + ·) 0 = c.sum mks := rfl
theorem tot_bd {c : Claim} (hk : c.Ok) {mks : List Mark} (hl : mks.length ≤ 60) : (∀ q ∈ mks.map c.val, Bd 100 q) ∧ ∀ i, i ≤ (mks.map c.val).length → Bd 800 (((mks.map c.val).take i).foldl (· + ·) 0) := by
  refine ⟨fun q hq => ?_, fun i _ => ?_⟩
  · obtain ⟨mk, _, rfl⟩ := List.mem_map.mp hq
    exact (Claim.val_bd hk mk).mono (by omega)
  · rw [← List.map_take]
    exact (Claim.sum_bd hk (by rw [List.length_take]; omega)).mono (by omega)
abbrev s_Comparing_init : Stmt := inClass (top 28) 0
theorem sc_Comparing_init : FnScope ["self", "claim", "marks", "mark", "mean", "margin"] ["self", "claim", "marks"] (defScope s_Comparing_init) := ⟨rfl, rfl, rfl, by decide +kernel, rfl, by decide +kernel, by decide +kernel⟩
theorem ok_Comparing_init {f : Addr} {fd : FuncData} (F : Fun K "__init__" "Comparing.__init__" s_Comparing_init f fd) (T : Txt K mg a) (h_over : CalC P w K mg base 3 "over" (cOver)) (h_total : CalC P w K mg base 4 "total" (cTotal)) (h_minus : CalC P w K mg base 3 "minus" (cMinus)) (h_times : CalC P w K mg base 3 "times" (cTimes)) (hcl : ∀ k, ClaimMs P w K mg base a k) (fWay : Addr) (mcWay : Value) (fdWay : FuncData) (psWay : List Str) (h_Way_init : CFn K a.Way mcWay "__init__" fWay ∧ FnOk P w K mg base CX0 1 fWay fdWay psWay (spOf K (cWayInit a))) (h_Way_b : Binds K fdWay psWay []) : FnOk P w K mg base CX0 (7 + 1) f fd ["self", "claim", "marks"] (spOf K (cCmpInit a)) := by
  refine def_ok F sc_Comparing_init ?_ ?_
  · rintro ds m PP ⟨o, c, mks, rfl, hm, hk, h0, hl, hh, hP⟩
    rfl
  · rintro cdv A outer s H E hr ds m PP ⟨o, c, mks, rfl, hm, hk, h0, hl, hh, hP⟩
    have h_holds := (hcl c.kd).holds
    have h_claim_value := (hcl c.kd).value
    have h_greatest := (hcl c.kd).greatest
    refine ⟨_, (pss_cons (ps_expr (pe_cfn (pe_const (by rfl) T.g_Way) h_Way_init.1 h_Way_init.2 (by exact hr.mono (by decide)) h_Way_b (pa_cons (pv 0) (pa_cons (pv 1) pa_nil))))
      (pss_cons (ps_if (pt_not (pt_val (pk_met h_holds hr (by decide) (pv 1) (pa_cons (pv 2) pa_nil)))) (pss_one ps_never) pss_nil)
      (pss_cons (pk_sfld T (pv 0) (pe_lc (own := [("mark", 3)]) (g := (gName 3)) (tt := tYes) (by rfl) sc_Comparing_init.nd (pk_seq T (pv 2)) (blkOk_by (by kernel_rfl)) (fun _ _ _ _ _ => by exact (pg_name (i := 3) sc_Comparing_init.nd rfl (by first | exact Or.inl rfl | exact Or.inr rfl))) (fun _ _ _ _ _ => by exact pts_nil) (fun _ _ _ _ _ => by exact (pk_met h_claim_value hr (by decide) (pv 1) (pa_cons (pv 3) pa_nil)))) rfl)
      (pss_cons (ps_set (i := 4) sc_Comparing_init.nd rfl (by first | exact Or.inl rfl | exact Or.inr rfl) (pk_cal h_over hr (by decide) (pa_cons (pk_cal h_total hr (by decide) (pa_cons (pk_fld T (pv 0) rfl) pa_nil)) (pa_cons (pe_tup (pa_cons (pe_callB (pk_len T) (by rfl) T.b_len (by decide +kernel) (pa_cons (pv 2) pa_nil)) (pa_cons pe_int pa_nil))) pa_nil))))
      (pss_cons (ps_set (i := 5) sc_Comparing_init.nd rfl (by first | exact Or.inl rfl | exact Or.inr rfl) (pk_cal h_minus hr (by decide) (pa_cons (pk_cal h_times hr (by decide) (pa_cons (pe_const (by rfl) T.g_TWO) (pa_cons (pv 4) pa_nil))) (pa_cons (pe_const (by rfl) T.g_ONE_ways) pa_nil))))
      (pss_one (pk_sfld T (pv 0) (pk_cal h_minus hr (by decide) (pa_cons (pe_const (by rfl) T.g_TWO) (pa_cons (pk_cal h_over hr (by decide) (pa_cons (pv 5) (pa_cons (pk_met0 h_greatest hr (by decide) (pv 1)) pa_nil))) pa_nil))) rfl))))))), ?_⟩
    walk_at "sx"
    refine ⟨o, _, rfl, hm, ?_⟩
    walk_at "sx"
    refine ⟨mth_o (by cases c <;> rfl), ?_⟩
    walk_at "sx"
    refine ⟨c, mks, rfl, rfl, hk, h0, hl, ?_⟩
    walk_at "sx"
    refine ite_nn (show (mks.length : Rat) / 2 < c.sum mks from hh) ?_
    walk_at "sx"
    refine sim_lcM mks mkD (fun mk => fr (c.val mk)) (ts := [3]) (by decide) (simI_seq ?_)
    walk_at "sx"
    refine ⟨_, .inr rfl, rfl, by omega, .inr rfl, fun mk _ => ?_, ?_⟩
    · walk_at "sx"
      refine ⟨mth_o (by cases c <;> rfl), ?_⟩
      walk_at "sx"
      exact ⟨c, mk, rfl, rfl, hk, rfl, rfl⟩
    walk_at "sx"
    obtain ⟨b1, b2⟩ := tot_bd hk hl
    refine ⟨_, mks.map c.val, rfl, .inl (by rw [List.map_map]; rfl), b1, b2, ?_⟩
    walk_at "sx"
    refine cs_len (.inr rfl) ?_
    rw [List.length_map]
    walk_at "sx"
    rw [frn]
    have n0 := rat_nat_pos h0
    have hn : Bd 6 (mks.length : Rat) := nat_bd (by omega) (by omega)
    have b3 := bd_div (Claim.sum_bd hk hl) hn n0
    refine ⟨_, _, 14, 6, rfl, Claim.sum_bd hk hl, hn, by omega, n0, ?_⟩
    walk_at "sx"
    refine ⟨2, _, 2, 20, rfl, bd_two, b3, by omega, ?_⟩
    walk_at "sx"
    refine ⟨_, 1, 22, 1, rfl, bd_mul bd_two b3, bd_one, by omega, ?_⟩
    walk_at "sx"
    refine ⟨mth_o (by cases c <;> rfl), ?_⟩
    walk_at "sx"
    refine ⟨c, rfl, rfl, hk, ?_⟩
    walk_at "sx"
    have b4 := bd_sub (bd_mul bd_two b3) bd_one
    refine ⟨_, _, 24, 18, rfl, b4, Claim.top_bd hk, by omega, Claim.top_pos hk, ?_⟩
    walk_at "sx"
    refine ⟨2, _, 2, 42, rfl, bd_two, bd_div b4 (Claim.top_bd hk) (Claim.top_pos hk), by omega, ?_⟩
    walk_at "sx"
    rw [mupd_upd, mupd_upd]
    exact hP
abbrev s_Comparing_value : Stmt := inClass (top 28) 1
theorem sc_Comparing_value : FnScope ["self", "number", "mark", "lost", "part"] ["self", "number", "mark"] (defScope s_Comparing_value) := ⟨rfl, rfl, rfl, by decide +kernel, rfl, by decide +kernel, by decide +kernel⟩
theorem ok_Comparing_value {f : Addr} {fd : FuncData} (F : Fun K "value" "Comparing.value" s_Comparing_value f fd) (T : Txt K mg a) (h_over : CalC P w K mg base 3 "over" (cOver)) (h_minus : CalC P w K mg base 3 "minus" (cMinus)) (hcl : ∀ k, ClaimMs P w K mg base a k) : FnOk P w K mg base CX0 (6 + 1) f fd ["self", "number", "mark"] (spOf K (cCmpVal a)) := by
  refine def_ok F sc_Comparing_value ?_ ?_
  · rintro ds m PP ⟨c, told, sc, i, mk, t, rfl, ht, hk, hs, hs0, hP⟩
    rfl
  · rintro cdv A outer s H E hr ds m PP ⟨c, told, sc, i, mk, t, rfl, ht, hk, hs, hs0, hP⟩
    have h_claim_value := (hcl c.kd).value
    have h_greatest := (hcl c.kd).greatest
    refine ⟨_, (pss_cons (ps_set (i := 3) sc_Comparing_value.nd rfl (by first | exact Or.inl rfl | exact Or.inr rfl) (pk_cal h_minus hr (by decide) (pa_cons (pe_ix (pk_ix T) (pk_fld T (pv 0) rfl) (pv 1) (fun _ _ => rfl)) (pa_cons (pk_met h_claim_value hr (by decide) (pk_fld T (pv 0) rfl) (pa_cons (pv 2) pa_nil)) pa_nil))))
      (pss_cons (ps_set (i := 4) sc_Comparing_value.nd rfl (by first | exact Or.inl rfl | exact Or.inr rfl) (pk_cal h_minus hr (by decide) (pa_cons (pe_const (by rfl) T.g_ONE_ways) (pa_cons (pk_cal h_over hr (by decide) (pa_cons (pv 3) (pa_cons (pk_met0 h_greatest hr (by decide) (pk_fld T (pv 0) rfl)) pa_nil))) pa_nil))))
      (pss_one (ps_ret (pk_cal h_over hr (by decide) (pa_cons (pv 4) (pa_cons (pk_fld T (pv 0) rfl) pa_nil))))))), ?_⟩
    walk_at "sx"
    refine ops_ixL' .val (atI_nat (by rw [List.getElem?_map, ht]; rfl)) ?_
    walk_at "sx"
    refine ⟨mth_o (by cases c <;> rfl), ?_⟩
    walk_at "sx"
    refine ⟨c, mk, rfl, rfl, hk, ?_⟩
    walk_at "sx"
    refine ⟨_, _, 9, 9, rfl, Claim.val_bd hk t, Claim.val_bd hk mk, by omega, ?_⟩
    walk_at "sx"
    refine ⟨mth_o (by cases c <;> rfl), ?_⟩
    walk_at "sx"
    refine ⟨c, rfl, rfl, hk, ?_⟩
    walk_at "sx"
    have b1 := bd_sub (Claim.val_bd hk t) (Claim.val_bd hk mk)
    refine ⟨_, _, 19, 18, rfl, b1, Claim.top_bd hk, by omega, Claim.top_pos hk, ?_⟩
    walk_at "sx"
    have b2 := bd_div b1 (Claim.top_bd hk) (Claim.top_pos hk)
    refine ⟨1, _, 1, 37, rfl, bd_one, b2, by omega, ?_⟩
    walk_at "sx"
    exact ⟨_, _, 39, 46, rfl, bd_sub bd_one b2, hs, by omega, hs0, hP⟩
abbrev s_Comparing_top : Stmt := inClass (top 28) 2
theorem sc_Comparing_top : FnScope ["self"] ["self"] (defScope s_Comparing_top) := ⟨rfl, rfl, rfl, by decide +kernel, rfl, by decide +kernel, by decide +kernel⟩
theorem ok_Comparing_top {f : Addr} {fd : FuncData} (F : Fun K "top" "Comparing.top" s_Comparing_top f fd) (T : Txt K mg a) (h_over : CalC P w K mg base 3 "over" (cOver)) : FnOk P w K mg base CX0 (3 + 1) f fd ["self"] (spOf K (cCmpTop a)) := by
  refine def_ok F sc_Comparing_top ?_ ?_
  · rintro ds m PP ⟨c, told, sc, rfl, hs, hs0, hP⟩
    rfl
  · rintro cdv A outer s H E hr ds m PP ⟨c, told, sc, rfl, hs, hs0, hP⟩
    refine ⟨_, (pss_one (ps_ret (pk_cal h_over hr (by decide) (pa_cons (pe_const (by rfl) T.g_TWO) (pa_cons (pk_fld T (pv 0) rfl) pa_nil))))), ?_⟩
    walk_at "sx"
    exact ⟨2, sc, 2, 46, rfl, bd_two, hs, by omega, hs0, hP⟩
abbrev s_way_of : Stmt := top 31
theorem sc_way_of : FnScope ["claim", "record", "k", "ballot"] ["claim", "record", "k"] (defScope s_way_of) := ⟨rfl, rfl, rfl, by decide +kernel, rfl, by decide +kernel, by decide +kernel⟩
theorem ok_way_of {f : Addr} {fd : FuncData} (F : Fun K "way_of" "way_of" s_way_of f fd) (T : Txt K mg a) (h_Comparing : MakC P w K mg base 8 "Comparing" a.Comparing (cCmpInit a)) : FnOk P w K mg base CX0 (9 + 1) f fd ["claim", "record", "k"] (spOf K (cWayOf a)) := by
  refine def_ok F sc_way_of ?_ ?_
  · rintro ds m PP ⟨c, rec, k, rfl, hk, h0, hl, hb, hh, hP⟩
    rfl
  · rintro cdv A outer s H E hr ds m PP ⟨c, rec, k, rfl, hk, h0, hl, hb, hh, hP⟩
    refine ⟨_, (pss_cons (ps_if (pt_cmpR op_isN (pv 1) pe_non (nomark _)) (pss_one ps_never) pss_nil) (pss_one (ps_ret (pk_mak h_Comparing hr (by decide) (pa_cons (pv 0) (pa_cons (pe_callTy (pk_tuple T) (by rfl) T.b_tuple (by decide +kernel) (pa_cons (pe_lc (own := [("ballot", 3)]) (g := (gName 3)) (tt := tYes) (by rfl) sc_way_of.nd (pk_seq T (pv 1)) (blkOk_by (by kernel_rfl)) (fun _ _ _ _ _ => by exact (pg_name (i := 3) sc_way_of.nd rfl (by first | exact Or.inl rfl | exact Or.inr rfl))) (fun _ _ _ _ _ => by exact pts_nil) (fun _ _ _ _ _ => by exact (pe_ix (pk_ix T) (pv 3) (pv 2) (fun _ _ => rfl)))) pa_nil)) pa_nil)))))), ?_⟩
    walk_at "sx"
    refine ite_f rfl ?_
    walk_at "sx"
    refine sim_frzI (sim_make ?_)
    walk_at "sx"
    refine sim_lcM rec (fun b => .tup (b.map mkD)) (fun b => mkD (b.getD k none)) (ts := [3]) (by decide) (simI_seq ?_)
    walk_at "sx"
    refine ⟨_, .inr rfl, rfl, by omega, .inr rfl, fun b hbm => ?_, ?_⟩
    · walk_at "sx"
      have hkb := hb b hbm
      refine ops_ixT' (atI_nat (v := mkD (b.getD k none)) ?_) ⟨rfl, rfl⟩
      rw [List.getElem?_map, List.getElem?_eq_getElem hkb, List.getD_eq_getElem?_getD, List.getElem?_eq_getElem hkb]
      rfl
    walk_at "sx"
    refine cs_tuple (.inl .val) ?_
    walk_at "sx"
    intro o ho
    refine ⟨o, c, (rec.map fun b : List Mark => b.getD k none), by rw [List.map_map]; rfl, mupd_same, hk, by rw [List.length_map]; exact h0, by rw [List.length_map]; exact hl, hh, rfl, ?_⟩
    refine ⟨o, _, _, rfl, mupd_same, ?_⟩
    rw [mupd_upd, mdel_upd ho]
    exact hP
end
end L3

/-! text L3u -/
set_option Elab.async false
set_option linter.all false
set_option maxRecDepth 100000
set_option maxHeartbeats 4000000
namespace L3
open PySem L2
open scoped Rat
local macro_rules | `(tactic| walk_at "ca") => `(tactic| first
  | exact Txt.k_Game (by assumption)
  | exact Txt.n_Game_many (by assumption)
  | exact Txt.n_Game_again (by assumption)
  | exact Txt.n_Game_highest (by assumption)
  | exact Txt.n_Game_rule (by assumption)
  | exact Txt.n_Game_drawn_values (by assumption)
  | exact Txt.n_Game_sum_so_far (by assumption)
  | exact Txt.n_Game_now (by assumption)
  | exact Txt.n_Game_most (by assumption)
  | exact Txt.n_Game_certain (by assumption)
  | exact Txt.k_Way (by assumption)
  | exact Txt.n_Way_claim (by assumption)
  | exact Txt.k_Comparing (by assumption)
  | exact Txt.n_Comparing_claim (by assumption)
  | exact Txt.n_Comparing_told (by assumption)
  | exact Txt.n_Comparing_scale (by assumption)
  | exact Txt.k_Sheet (by assumption)
  | exact Txt.n_Sheet_names (by assumption)
  | exact Txt.n_Sheet_limit (by assumption)
  | exact Txt.n_Sheet_ways (by assumption)
  | exact Txt.n_Sheet_games (by assumption)
  | exact Txt.k_Audit (by assumption)
  | exact Txt.n_Audit_sheets (by assumption)
  | exact Txt.n_Audit_many (by assumption)
  | exact Txt.n_Audit_again (by assumption)
  | exact Txt.n_Audit_most (by assumption)
  | exact Txt.n_Audit_numbers (by assumption)
  | exact Txt.k_Beats (by assumption)
  | exact Txt.n_Beats_one (by assumption)
  | exact Txt.n_Beats_other (by assumption)
  | exact Txt.k_Over (by assumption)
  | exact Txt.n_Over_name (by assumption)
  | exact Txt.n_Over_share (by assumption)
  | exact Txt.k_Under (by assumption)
  | exact Txt.n_Under_name (by assumption)
  | exact Txt.n_Under_share (by assumption)
  | exact Txt.k_Contest (by assumption)
  | exact Txt.n_Contest_names (by assumption)
  | exact Txt.k_Most (by assumption)
  | exact Txt.n_Most_names (by assumption)
  | exact Txt.n_Most_seats (by assumption)
  | exact Txt.k_Portion (by assumption)
  | exact Txt.n_Portion_names (by assumption)
  | exact Txt.n_Portion_share (by assumption)
  | exact Txt.k_Fixed (by assumption)
  | exact Txt.n_Fixed_part (by assumption))
local macro_rules | `(tactic| walk_at "ne") => `(tactic| first
  | assumption
  | (refine Ne.symm ?_; assumption)
  | exact mne (by assumption) (by assumption)
  | exact (mne (by assumption) (by assumption)).symm)
local macro_rules | `(tactic| walk_at "mm") => `(tactic| first
  | assumption
  | exact mupd_same
  | (refine (mupd_ne ?_).trans ?_; (walk_at "ne"); (walk_at "mm")))
local macro_rules | `(tactic| walk_at "s0") => `(tactic| first
  | with_reducible refine simS_seq ?_
  | with_reducible refine simS_ret ?_
  | with_reducible refine simS_retN ?_
  | with_reducible refine simS_set ?_
  | with_reducible refine simS_drop ?_
  | with_reducible refine simS_next ?_
  | with_reducible refine simS_fld ?_
  | with_reducible refine simS_dput ?_
  | with_reducible refine simT_test ?_
  | with_reducible refine simT_B ?_
  | with_reducible refine simT_not ?_
  | with_reducible refine simT_and ?_
  | with_reducible refine simT_or ?_
  | focus ((with_reducible refine sim_var (d := ?_) ?_ ?_); rotate_left 1; exact rfl)
  | with_reducible refine sim_int ?_
  | with_reducible refine sim_bl ?_
  | with_reducible refine sim_str ?_
  | with_reducible refine sim_non ?_
  | with_reducible refine sim_ty ?_
  | with_reducible refine sim_c (Txt.t_NOUGHT_games (by assumption)) ?_
  | with_reducible refine sim_c (Txt.t_ONE_games (by assumption)) ?_
  | with_reducible refine sim_c (Txt.t_ONE_ways (by assumption)) ?_
  | with_reducible refine sim_c (Txt.t_TWO (by assumption)) ?_
  | with_reducible refine sim_c (Txt.t_NOUGHT_claims (by assumption)) ?_
  | with_reducible refine sim_c (Txt.t_HALF (by assumption)) ?_
  | with_reducible refine sim_c (Txt.t_ONE_claims (by assumption)) ?_
  | with_reducible refine sim_ref ?_
  | with_reducible refine sim_op ?_
  | with_reducible refine sim_un ?_
  | with_reducible refine sim_andV ?_
  | with_reducible refine sim_orV ?_
  | with_reducible refine sim_notV ?_
  | with_reducible refine sim_chain ?_
  | with_reducible refine sim_tup ?_
  | with_reducible refine sim_call ?_
  | with_reducible refine sim_callB ?_
  | with_reducible refine sim_fldU ?_
  | with_reducible refine sim_append ?_
  | focus ((with_reducible refine apl (ds := ?_) ?_ ?_); rotate_left 1; walk_at "mm")
  | with_reducible refine sim_methU ?_
  | with_reducible refine sim_cfn ?_
  | with_reducible refine sim_dget ?_
  | with_reducible refine sim_sl ?_
  | with_reducible refine simO_none ?_
  | with_reducible refine simO_some ?_
  | with_reducible refine simA_cons ?_
  | with_reducible refine simA_nil ?_
  | with_reducible refine simG_name ?_
  | with_reducible refine simG_pair ?_
  | with_reducible refine ops_addI ?_
  | with_reducible refine uns_I (g := fun i => -i) ?_
  | with_reducible refine simG_triple ?_
  | with_reducible refine ops_subI ?_
  | with_reducible refine ops_lt ?_
  | with_reducible refine ops_le ?_
  | with_reducible refine ops_gt ?_
  | with_reducible refine ops_ge ?_
  | with_reducible refine ops_eqI ?_
  | with_reducible refine ops_neI ?_
  | with_reducible refine ops_eqSt ?_
  | with_reducible refine ops_eqNS ?_
  | with_reducible refine eq_mk ?_
  | with_reducible refine eq_bl ?_
  | with_reducible refine ops_isN ?_
  | with_reducible refine ops_notN ?_
  | with_reducible refine cs_abs ?_
  | focus ((with_reducible refine cs_isi2 (t := ?_) (b := ?_) ?_ ?_ ?_ ?_); rotate_left 2; exact rfl; exact rfl; exact rfl)
  | with_reducible refine cs_max2 ?_
  | with_reducible refine cs_min2 ?_
  | focus ((with_reducible refine ops_ixT' (d := ?_) ?_ ?_); rotate_left 1; exact rfl)
  | focus ((with_reducible refine fld_o (d := ?_) ?_ ?_ ?_ ?_); rotate_left 1; walk_at "ca"; walk_at "ca"; exact rfl)
  | focus ((with_reducible refine fld_p (C := ?_) (fs := ?_) (d := ?_) ?_ ?_ ?_ ?_ ?_); rotate_left 3; walk_at "mm"; walk_at "ca"; walk_at "ca"; exact rfl)
  | focus ((with_reducible refine And.intro (?_ : Mth _ _ _ _) ?_); exact mth_o (by rfl))
  | focus ((with_reducible refine ⟨mth_p (fs := ?_) ?_ ?_, ?_⟩); rotate_left 1; walk_at "mm"; exact rfl)
  | focus ((with_reducible refine setf (C := ?_) (fs := ?_) ?_ ?_ ?_ ?_ ?_); rotate_left 2; walk_at "mm"; walk_at "ca"; walk_at "ca"; exact of_decide_eq_true rfl)
  | focus ((with_reducible refine dgt (kvs := ?_) (k := ?_) (d := ?_) ?_ ?_ ?_ ?_); rotate_left 3; walk_at "mm"; exact rfl; exact rfl)
  | focus ((with_reducible refine dpt (kvs := ?_) (k := ?_) ?_ ?_ ?_ ?_); rotate_left 2; walk_at "mm"; exact rfl; exact of_decide_eq_true rfl)
  | (with_reducible refine ⟨_, rfl, ?_⟩)
  | (with_reducible refine ⟨rfl, ?_⟩)
  | focus ((with_reducible refine ⟨Nat.le_of_ble_eq_true ?_, ?_⟩); exact rfl)
  | with_reducible refine ite_T ?_
  | with_reducible refine ite_nF ?_
  | with_reducible refine ite_nT ?_
  | with_reducible refine ite_F ?_)
local macro_rules | `(tactic| walk_at "s1") => `(tactic| first
  | walk_at "s0"
  | with_reducible refine simS_if ?_)
local macro_rules | `(tactic| walk_at "sx") => `(tactic| repeat walk_at "s1")
local macro_rules | `(tactic| walk_at "sy") => `(tactic| repeat walk_at "s0")

section
variable {P : Program} {w : World} {K : PySem.W.Frag} {mg : Str → Option Value} {base : Heap} {a : Adr}

/-! L3u: games of the program. -/
abbrev ruleD (a : Adr) (r : Rl) : D := .obj a.Fixed ["part"] [fr r.stake]
abbrev gfs (a : Adr) (r : Rl) (top : Rat) (dv : D) (g : Gm) : List (Str × D) :=
  [("many", .int r.many), ("again", .bl r.again), ("highest", fr top), ("rule", ruleD a r), ("drawn_values", dv), ("sum_so_far", fr g.sum), ("now", optD g.now), ("most", fr g.most), ("certain", .bl g.now.isNone)]
abbrev gameD (a : Adr) (r : Rl) (top : Rat) (g : Gm) : D :=
  .obj a.Game ["many", "again", "highest", "rule", "drawn_values", "sum_so_far", "now", "most", "certain"]
    [.int r.many, .bl r.again, fr top, ruleD a r, .lst (g.past.map fr), fr g.sum, optD g.now, fr g.most, .bl g.now.isNone]
structure GAt (a : Adr) (r : Rl) (top : Rat) (g : Gm) (o l : Addr) (m : Mem) : Prop where
  ho : m o = some (.ins a.Game (gfs a r top (.ptr l) g))
  hl : m l = some (.lst (g.past.map fr))
theorem GAt.ne {a : Adr} {r : Rl} {top : Rat} {g : Gm} {o l : Addr} {m : Mem} (h : GAt a r top g o l m) : o ≠ l := fun e => by
  have h1 := h.ho
  rw [e, h.hl] at h1
  cases h1
def Off2 (m m' : Mem) (o l : Addr) : Prop := ∀ b, b ≠ o → b ≠ l → m' b = m b
def cGameInit (a : Adr) : Ctr := fun ds m P => ∃ o, ∃ (n : Int) (b : Bool) (t rl : D), ds = [.ptr o, .int n, .bl b, t, rl] ∧ m o = some (.ins a.Game []) ∧
  P .non (mupd m o (.ins a.Game [("many", .int n), ("again", .bl b), ("highest", t), ("rule", rl), ("drawn_values", .lst []), ("sum_so_far", fr 0), ("now", fr 1), ("most", fr 1), ("certain", .bl false)]))
def cTwin (a : Adr) : Ctr := fun ds m P => ∃ (r : Rl) (top : Rat) (g : Gm), ds = [gameD a r top g] ∧ ∀ o l m', m o = none → m l = none → GAt a r top g o l m' → Off2 m m' o l → P (.ptr o) m'
def cEnded (a : Adr) : Ctr := fun ds m P => ∃ (r : Rl) (top : Rat) (g : Gm), ∃ o l, ds = [.ptr o] ∧ GAt a r top g o l m ∧ P (.bl (!r.again && decide (g.past.length = r.many))) m
def cPrice (a : Adr) : Ctr := fun ds m P => ∃ (r : Rl) (top : Rat) (g : Gm) (t : Nat), ∃ o l, ds = [.ptr o] ∧ GAt a r top g o l m ∧ r.Ok ∧ g.Ok r t ∧ t ≤ 60 ∧ (r.again = false → t < r.many) ∧ g.now ≠ none ∧ P (fr (g.price r)) m
def cBehind (a : Adr) : Ctr := fun ds m P => ∃ (r : Rl) (top : Rat) (g : Gm) (t : Nat) (v w : Rat), ∃ o l, ds = [.ptr o, fr v] ∧ GAt a r top g o l m ∧ r.Ok ∧ g.Ok r t ∧ t < 12 ∧ (r.again = false → t < r.many) ∧ g.now = some w ∧ Bd 86 v ∧ P (fr (g.behind r w v)) m
def cPlay (a : Adr) : Ctr := fun ds m P => ∃ (r : Rl) (top : Rat) (g : Gm) (t : Nat) (v : Rat), ∃ o l, ds = [.ptr o, fr v] ∧ GAt a r top g o l m ∧ r.Ok ∧ g.Ok r t ∧ t < 12 ∧ (r.again = false → t < r.many) ∧ Bd 86 v ∧
  ∀ m', GAt a r top (g.play r v) o l m' → Off2 m m' o l → P .non m'
def cWorth (a : Adr) : Ctr := fun ds m P => ∃ (r : Rl) (top : Rat) (g : Gm), ds = [gameD a r top g] ∧ P (optD g.now) m
def cReached (a : Adr) : Ctr := fun ds m P => ∃ (r : Rl) (top : Rat) (g : Gm) (lim : Rat), ds = [gameD a r top g, fr lim] ∧ Bd 7 lim ∧ Bd 7600 g.most ∧ P (.bl (g.reached lim)) m
abbrev s_Game_init : Stmt := inClass (top 21) 0
theorem sc_Game_init : FnScope ["self", "many", "again", "top", "rule"] ["self", "many", "again", "top", "rule"] (defScope s_Game_init) := ⟨rfl, rfl, rfl, by decide +kernel, rfl, by decide +kernel, by decide +kernel⟩
theorem ok_Game_init {f : Addr} {fd : FuncData} (F : Fun K "__init__" "Game.__init__" s_Game_init f fd) (T : Txt K mg a)  : FnOk P w K mg base CX0 (0 + 1) f fd ["self", "many", "again", "top", "rule"] (spOf K (cGameInit a)) := by
  refine def_ok F sc_Game_init ?_ ?_
  · rintro ds m PP ⟨o, n, b, t, rl, rfl, hm, hP⟩
    rfl
  · rintro cdv A outer s H E hr ds m PP ⟨o, n, b, t, rl, rfl, hm, hP⟩
    refine ⟨_, (pss_cons (pk_sfld T (pv 0) (pv 1) rfl)
      (pss_cons (pk_sfld T (pv 0) (pv 2) rfl)
      (pss_cons (pk_sfld T (pv 0) (pv 3) rfl)
      (pss_cons (pk_sfld T (pv 0) (pv 4) rfl)
      (pss_cons (pk_sfld T (pv 0) (pe_lst pa_nil) rfl)
      (pss_cons (pk_sfld T (pv 0) (pe_const (by rfl) T.g_NOUGHT_games) rfl)
      (pss_cons (pk_sfld T (pv 0) (pe_const (by rfl) T.g_ONE_games) rfl)
      (pss_cons (pk_sfld T (pv 0) (pe_const (by rfl) T.g_ONE_games) rfl)
      (pss_one (pk_sfld T (pv 0) pe_bl rfl)))))))))), ?_⟩
    walk_at "sx"
    refine sim_lst ?_
    walk_at "sx"
    simp only [mupd_upd]
    exact hP
abbrev s_Game_twin : Stmt := inClass (top 21) 1
theorem sc_Game_twin : FnScope ["self", "other"] ["self"] (defScope s_Game_twin) := ⟨rfl, rfl, rfl, by decide +kernel, rfl, by decide +kernel, by decide +kernel⟩
theorem ok_Game_twin {f : Addr} {fd : FuncData} (F : Fun K "twin" "Game.twin" s_Game_twin f fd) (T : Txt K mg a) (h_Game : MakC P w K mg base 1 "Game" a.Game (cGameInit a)) : FnOk P w K mg base CX0 (2 + 1) f fd ["self"] (spOf K (cTwin a)) := by
  refine def_ok F sc_Game_twin ?_ ?_
  · rintro ds m PP ⟨r, top, g, rfl, hP⟩
    rfl
  · rintro cdv A outer s H E hr ds m PP ⟨r, top, g, rfl, hP⟩
    refine ⟨_, (pss_cons (ps_set (i := 1) sc_Game_twin.nd rfl (by first | exact Or.inl rfl | exact Or.inr rfl) (pk_mak h_Game hr (by decide) (pa_cons (pk_fld T (pv 0) rfl) (pa_cons (pk_fld T (pv 0) rfl) (pa_cons (pk_fld T (pv 0) rfl) (pa_cons (pk_fld T (pv 0) rfl) pa_nil))))))
      (pss_cons (pk_sfld T (pv 1) (pe_callTy (pk_list T) (by rfl) T.b_list (by decide +kernel) (pa_cons (pk_fld T (pv 0) rfl) pa_nil)) rfl)
      (pss_cons (pk_sfld T (pv 1) (pk_fld T (pv 0) rfl) rfl)
      (pss_cons (pk_sfld T (pv 1) (pk_fld T (pv 0) rfl) rfl)
      (pss_cons (pk_sfld T (pv 1) (pk_fld T (pv 0) rfl) rfl)
      (pss_cons (pk_sfld T (pv 1) (pk_fld T (pv 0) rfl) rfl)
      (pss_one (ps_ret (pv 1))))))))), ?_⟩
    walk_at "sx"
    refine sim_make ?_
    walk_at "sx"
    intro o ho
    refine ⟨o, _, _, _, _, rfl, mupd_same, rfl, ?_⟩
    walk_at "sx"
    simp only [mupd_upd]
    refine cs_listM (.inl .val) fun l hl => ?_
    have hne : o ≠ l := mne mupd_same hl
    walk_at "sx"
    have hl' : m l = none := by
      rw [mupd_ne hne.symm] at hl
      exact hl
    refine hP o l _ ho hl' ⟨mupd_same, ?_⟩ fun b h1 h2 => ?_
    · simp only [mupd_upd]
      rw [mupd_ne hne.symm]
      exact mupd_same
    · simp only [mupd_upd]
      rw [mupd_ne h1, mupd_ne h2, mupd_ne h1]
abbrev s_Game_ended : Stmt := inClass (top 21) 2
theorem sc_Game_ended : FnScope ["self"] ["self"] (defScope s_Game_ended) := ⟨rfl, rfl, rfl, by decide +kernel, rfl, by decide +kernel, by decide +kernel⟩
theorem ok_Game_ended {f : Addr} {fd : FuncData} (F : Fun K "ended" "Game.ended" s_Game_ended f fd) (T : Txt K mg a)  : FnOk P w K mg base CX0 (0 + 1) f fd ["self"] (spOf K (cEnded a)) := by
  refine def_ok F sc_Game_ended ?_ ?_
  · rintro ds m PP ⟨r, top, g, o, l, rfl, hg, hP⟩
    rfl
  · rintro cdv A outer s H E hr ds m PP ⟨r, top, g, o, l, rfl, hg, hP⟩
    refine ⟨_, (pss_one (ps_ret (pe_and (pe_not (pk_fld T (pv 0) rfl)) (pe_one (pe_cmpR (pk_eq T hr.units) (pe_callB (pk_len T) (by rfl) T.b_len (by decide +kernel) (pa_cons (pk_fld T (pv 0) rfl) pa_nil)) (pk_fld T (pv 0) rfl) (nomark _)))))), ?_⟩
    have ho := hg.ho
    walk_at "sx"
    cases hag : r.again with
    | true =>
      rw [hag] at hP
      exact hP
    | false =>
      rw [hag] at hP
      refine ite_t rfl ?_
      walk_at "sx"
      refine cs_len (.inl (.mut hg.hl)) ?_
      rw [List.length_map]
      walk_at "sx"
      have e : decide ((g.past.length : Int) = (r.many : Int)) = decide (g.past.length = r.many) := decide_eq_decide.mpr (by omega)
      rw [e]
      exact hP
abbrev s_Game_worth : Stmt := inClass (top 21) 6
theorem sc_Game_worth : FnScope ["self"] ["self"] (defScope s_Game_worth) := ⟨rfl, rfl, rfl, by decide +kernel, rfl, by decide +kernel, by decide +kernel⟩
theorem ok_Game_worth {f : Addr} {fd : FuncData} (F : Fun K "worth" "Game.worth" s_Game_worth f fd) (T : Txt K mg a)  : FnOk P w K mg base CX0 (0 + 1) f fd ["self"] (spOf K (cWorth a)) := by
  refine def_ok F sc_Game_worth ?_ ?_
  · rintro ds m PP ⟨r, top, g, rfl, hP⟩
    rfl
  · rintro cdv A outer s H E hr ds m PP ⟨r, top, g, rfl, hP⟩
    refine ⟨_, (pss_one (ps_ret (pk_fld T (pv 0) rfl))), ?_⟩
    walk_at "sx"
    exact hP
abbrev s_Game_reached : Stmt := inClass (top 21) 9
theorem sc_Game_reached : FnScope ["self", "limit"] ["self", "limit"] (defScope s_Game_reached) := ⟨rfl, rfl, rfl, by decide +kernel, rfl, by decide +kernel, by decide +kernel⟩
theorem ok_Game_reached {f : Addr} {fd : FuncData} (F : Fun K "reached" "Game.reached" s_Game_reached f fd) (T : Txt K mg a) (h_below : CalC P w K mg base 1 "below" (cBelow)) (h_times : CalC P w K mg base 3 "times" (cTimes)) : FnOk P w K mg base CX0 (3 + 1) f fd ["self", "limit"] (spOf K (cReached a)) := by
  refine def_ok F sc_Game_reached ?_ ?_
  · rintro ds m PP ⟨r, top, g, lim, rfl, hl, hm, hP⟩
    rfl
  · rintro cdv A outer s H E hr ds m PP ⟨r, top, g, lim, rfl, hl, hm, hP⟩
    refine ⟨_, (pss_one (ps_ret (pe_or (pk_fld T (pv 0) rfl) (pe_one (pe_not (pk_cal h_below hr (by decide) (pa_cons (pk_cal h_times hr (by decide) (pa_cons (pk_fld T (pv 0) rfl) (pa_cons (pv 1) pa_nil))) (pa_cons (pe_const (by rfl) T.g_ONE_games) pa_nil)))))))), ?_⟩
    walk_at "sx"
    unfold Gm.reached at hP
    cases hn : g.now.isNone with
    | true =>
      rw [hn] at hP
      exact hP
    | false =>
      rw [hn] at hP
      refine ite_f rfl ?_
      walk_at "sx"
      refine ⟨_, _, 7600, 7, rfl, hm, hl, by omega, ?_⟩
      walk_at "sx"
      exact ⟨_, 1, 7607, 1, rfl, bd_mul hm hl, bd_one, by omega, _, rfl, hP⟩
abbrev s_Game_price : Stmt := inClass (top 21) 3
theorem sc_Game_price : FnScope ["self"] ["self"] (defScope s_Game_price) := ⟨rfl, rfl, rfl, by decide +kernel, rfl, by decide +kernel, by decide +kernel⟩
theorem ok_Game_price {f : Addr} {fd : FuncData} (F : Fun K "price" "Game.price" s_Game_price f fd) (T : Txt K mg a) (h_over : CalC P w K mg base 3 "over" (cOver)) (h_minus : CalC P w K mg base 3 "minus" (cMinus)) (h_lowest : CalC P w K mg base 2 "lowest" (cLow)) (h_ended : MetC P w K mg base 1 a.Game "ended" (cEnded a)) : FnOk P w K mg base CX0 (3 + 1) f fd ["self"] (spOf K (cPrice a)) := by
  refine def_ok F sc_Game_price ?_ ?_
  · rintro ds m PP ⟨r, top, g, t, o, l, rfl, hg, hro, hk, ht, hl, hn, hP⟩
    rfl
  · rintro cdv A outer s H E hr ds m PP ⟨r, top, g, t, o, l, rfl, hg, hro, hk, ht, hl, hn, hP⟩
    refine ⟨_, (pss_cons (ps_if (PW.pt (pw_or (pt_val (pk_fld T (pv 0) rfl)) (pw_or1 (pt_val (pk_met0 h_ended hr (by decide) (pv 0)))))) (pss_one (ps_ret pe_non)) pss_nil)
      (pss_cons (ps_if (pt_val (pk_fld T (pv 0) rfl)) (pss_one (ps_ret (pe_tup (pa_cons pe_int (pa_cons pe_int pa_nil))))) pss_nil)
      (pss_one (ps_ret (pk_cal h_over hr (by decide) (pa_cons (pk_cal h_minus hr (by decide) (pa_cons (pk_cal h_lowest hr (by decide) (pa_cons (pk_fld T (pv 0) rfl) (pa_cons pe_int pa_nil))) (pa_cons (pk_fld T (pv 0) rfl) pa_nil))) (pa_cons (pe_tup (pa_cons (pe_op op_sub (pk_fld T (pv 0) rfl) (pe_callB (pk_len T) (by rfl) T.b_len (by decide +kernel) (pa_cons (pk_fld T (pv 0) rfl) pa_nil))) (pa_cons pe_int pa_nil))) pa_nil))))))), ?_⟩
    have ho := hg.ho
    have hl2 := hg.hl
    walk_at "sx"
    refine ite_f (by cases q : g.now with | none => exact absurd q hn | some _ => rfl) ?_
    walk_at "sx"
    refine ⟨r, top, g, o, l, rfl, hg, ?_⟩
    walk_at "sx"
    refine ite_f (by
      cases q : r.again with
      | true => rfl
      | false =>
        have := hl q
        have := hk.len
        have e : decide (g.past.length = r.many) = false := decide_eq_false (by omega)
        rw [e]
        rfl) ?_
    walk_at "sx"
    unfold Gm.price at hP
    cases q : r.again with
    | true =>
      refine ite_t rfl ?_
      rw [q, if_pos rfl, ← frh] at hP
      walk_at "sx"
      exact hP
    | false =>
      refine ite_f rfl ?_
      rw [q, if_neg Bool.false_ne_true] at hP
      have hlt := hl q
      have hlen := hk.len
      walk_at "sx"
      refine ⟨_, _, rfl, by decide, by decide +kernel, ?_⟩
      walk_at "sx"
      have e : ((r.many : Int) /. 2) = (r.many : Rat) / 2 := by
        rw [Rat.divInt_eq_div]
        rfl
      rw [e]
      refine ⟨_, _, 8, _, rfl, half_many_bd hro, hk.sum, by omega, ?_⟩
      walk_at "sx"
      refine cs_len (.inl (.mut hl2)) ?_
      rw [List.length_map]
      walk_at "sx"
      have e2 : ((r.many : Int) - (g.past.length : Int)) = ((r.many - g.past.length : Nat) : Int) := by omega
      rw [e2, frn]
      exact ⟨_, _, _, 6, rfl, bd_sub (half_many_bd hro) hk.sum, nat_bd (by have := hro.hi; omega) (by omega), by omega, rat_nat_pos (by omega), hP⟩
abbrev s_Game_worth_behind : Stmt := inClass (top 21) 4
theorem sc_Game_worth_behind : FnScope ["self", "value", "price", "stake", "grown"] ["self", "value"] (defScope s_Game_worth_behind) := ⟨rfl, rfl, rfl, by decide +kernel, rfl, by decide +kernel, by decide +kernel⟩
theorem ok_Game_worth_behind {f : Addr} {fd : FuncData} (F : Fun K "worth_behind" "Game.worth_behind" s_Game_worth_behind f fd) (T : Txt K mg a) (h_over : CalC P w K mg base 3 "over" (cOver)) (h_minus : CalC P w K mg base 3 "minus" (cMinus)) (h_plus : CalC P w K mg base 3 "plus" (cPlus)) (h_times : CalC P w K mg base 3 "times" (cTimes)) (h_price : MetC P w K mg base 4 a.Game "price" (cPrice a)) (h_stake : MetC P w K mg base 1 a.Fixed "stake" (cStake a)) : FnOk P w K mg base CX0 (4 + 1) f fd ["self", "value"] (spOf K (cBehind a)) := by
  refine def_ok F sc_Game_worth_behind ?_ ?_
  · rintro ds m PP ⟨r, top, g, t, v, w', o, l, rfl, hg, hro, hk, ht, hl, hn, hv, hP⟩
    rfl
  · rintro cdv A outer s H E hr ds m PP ⟨r, top, g, t, v, w', o, l, rfl, hg, hro, hk, ht, hl, hn, hv, hP⟩
    refine ⟨_, (pss_cons (ps_set (i := 2) sc_Game_worth_behind.nd rfl (by first | exact Or.inl rfl | exact Or.inr rfl) (pk_met0 h_price hr (by decide) (pv 0)))
      (pss_cons (ps_set (i := 3) sc_Game_worth_behind.nd rfl (by first | exact Or.inl rfl | exact Or.inr rfl) (pk_met h_stake hr (by decide) (pk_fld T (pv 0) rfl) (pa_cons (pe_callTy (pk_tuple T) (by rfl) T.b_tuple (by decide +kernel) (pa_cons (pk_fld T (pv 0) rfl) pa_nil)) (pa_cons (pv 2) (pa_cons (pk_fld T (pv 0) rfl) pa_nil)))))
      (pss_cons (ps_if (pt_cmpR (pk_eq T hr.units) (pv 2) (pe_const (by rfl) T.g_NOUGHT_games) (nomark _)) (pss_one (ps_ret (pk_fld T (pv 0) rfl))) pss_nil)
      (pss_cons (ps_set (i := 4) sc_Game_worth_behind.nd rfl (by first | exact Or.inl rfl | exact Or.inr rfl) (pk_cal h_over hr (by decide) (pa_cons (pk_cal h_times hr (by decide) (pa_cons (pv 3) (pa_cons (pv 1) pa_nil))) (pa_cons (pv 2) pa_nil))))
      (pss_one (ps_ret (pk_cal h_times hr (by decide) (pa_cons (pk_fld T (pv 0) rfl) (pa_cons (pk_cal h_plus hr (by decide) (pa_cons (pk_cal h_minus hr (by decide) (pa_cons (pe_const (by rfl) T.g_ONE_games) (pa_cons (pv 3) pa_nil))) (pa_cons (pv 4) pa_nil))) pa_nil))))))))), ?_⟩
    have ho := hg.ho
    have hl2 := hg.hl
    have hn2 : g.now ≠ none := by rw [hn]; simp
    walk_at "sx"
    refine ⟨r, top, g, t, o, l, rfl, hg, hro, hk, by omega, hl, hn2, ?_⟩
    walk_at "sx"
    refine cs_tuple (.inl (.mut hl2)) ?_
    walk_at "sx"
    refine ⟨_, _, _, _, rfl, ?_⟩
    walk_at "sx"
    refine eq_fr (b := 0) ?_
    walk_at "sx"
    unfold Gm.behind at hP
    refine ite_d (fun h => ?_) (fun h => ?_)
    · walk_at "sx"
      rw [if_pos h] at hP
      rw [hn]
      exact hP
    · rw [if_neg h] at hP
      have hp := Gm.price_pos hk hl hn2 h
      have b1 := Gm.price_bd hro hk hl
      have b2 := Gm.factor_bd hro hk hl hn2 h hv
      have b3 := Gm.grown_bd hro hk hl hn2 h hv
      walk_at "sx"
      refine ⟨_, _, 7, 86, rfl, hro.bd, hv, by omega, ?_⟩
      walk_at "sx"
      refine ⟨_, _, 93, _, rfl, bd_mul hro.bd hv, b1, by omega, hp, ?_⟩
      walk_at "sx"
      refine ⟨1, _, 1, 7, rfl, bd_one, hro.bd, by omega, ?_⟩
      walk_at "sx"
      refine ⟨_, _, 9, _, rfl, bd_sub bd_one hro.bd, b3, by omega, ?_⟩
      walk_at "sx"
      rw [hn]
      have := Wb_12 (t := t) (by omega)
      exact ⟨_, _, _, _, rfl, hk.now w' hn, b2, by omega, hP⟩
abbrev s_Game_play : Stmt := inClass (top 21) 5
theorem sc_Game_play : FnScope ["self", "value", "worth"] ["self", "value"] (defScope s_Game_play) := ⟨rfl, rfl, rfl, by decide +kernel, rfl, by decide +kernel, by decide +kernel⟩
theorem ok_Game_play {f : Addr} {fd : FuncData} (F : Fun K "play" "Game.play" s_Game_play f fd) (T : Txt K mg a) (h_below : CalC P w K mg base 1 "below" (cBelow)) (h_plus : CalC P w K mg base 3 "plus" (cPlus)) (h_lowest : CalC P w K mg base 2 "lowest" (cLow)) (h_ended : MetC P w K mg base 1 a.Game "ended" (cEnded a)) (h_worth_behind : MetC P w K mg base 5 a.Game "worth_behind" (cBehind a)) : FnOk P w K mg base CX0 (5 + 1) f fd ["self", "value"] (spOf K (cPlay a)) := by
  refine def_ok F sc_Game_play ?_ ?_
  · rintro ds m PP ⟨r, top, g, t, v, o, l, rfl, hg, hro, hk, ht, hl, hv, hP⟩
    rfl
  · rintro cdv A outer s H E hr ds m PP ⟨r, top, g, t, v, o, l, rfl, hg, hro, hk, ht, hl, hv, hP⟩
    refine ⟨_, (pss_cons (ps_if (pt_val (pk_met0 h_ended hr (by decide) (pv 0))) (pss_one ps_never) pss_nil)
      (pss_cons (ps_set (i := 2) sc_Game_play.nd rfl (by first | exact Or.inl rfl | exact Or.inr rfl) pe_non)
      (pss_cons (ps_if (pt_not (pt_val (pk_fld T (pv 0) rfl))) (pss_one (ps_set (i := 2) sc_Game_play.nd rfl (by first | exact Or.inl rfl | exact Or.inr rfl) (pk_met h_worth_behind hr (by decide) (pv 0) (pa_cons (pv 1) pa_nil)))) pss_nil)
      (pss_cons (ps_expr (pk_append T (pk_fld T (pv 0) rfl) (pa_cons (pv 1) pa_nil)))
      (pss_cons (pk_sfld T (pv 0) (pk_cal h_plus hr (by decide) (pa_cons (pk_fld T (pv 0) rfl) (pa_cons (pv 1) pa_nil))) rfl)
      (pss_cons (ps_if (PW.pt (pw_and (pt_not (pt_val (pk_fld T (pv 0) rfl))) (pw_and1 (pt_val (pk_cal h_below hr (by decide) (pa_cons (pk_cal h_lowest hr (by decide) (pa_cons (pk_fld T (pv 0) rfl) (pa_cons pe_int pa_nil))) (pa_cons (pk_fld T (pv 0) rfl) pa_nil))))))) (pss_cons (pk_sfld T (pv 0) pe_bl rfl)
      (pss_one (ps_set (i := 2) sc_Game_play.nd rfl (by first | exact Or.inl rfl | exact Or.inr rfl) pe_non))) pss_nil)
      (pss_cons (pk_sfld T (pv 0) (pv 2) rfl)
      (pss_one (ps_if (PW.pt (pw_and (pt_cmpR op_notN (pv 2) pe_non (nomark _)) (pw_and1 (pt_val (pk_cal h_below hr (by decide) (pa_cons (pk_fld T (pv 0) rfl) (pa_cons (pv 2) pa_nil))))))) (pss_one (pk_sfld T (pv 0) (pv 2) rfl)) pss_nil))))))))), ?_⟩
    have ho := hg.ho
    have hl2 := hg.hl
    walk_at "sx"
    refine ⟨r, top, g, o, l, rfl, hg, ?_⟩
    walk_at "sx"
    refine ite_f (by
      cases q : r.again with
      | true => rfl
      | false =>
        have := hl q
        have := hk.len
        have e : decide (g.past.length = r.many) = false := decide_eq_false (by omega)
        rw [e]
        rfl) ?_
    walk_at "sy"
    refine simS_ifJ (B := fun ρ1 m1 => ρ1 = [some (.ptr o), some (fr v), some (optD (g.now.map fun u => g.behind r u v))] ∧ m1 = m) ?_ ?_
    · walk_at "sy"
      cases q : g.now with
      | none =>
        refine ite_f rfl ?_
        walk_at "sx"
        rfl
      | some u =>
        refine ite_t rfl ?_
        walk_at "sy"
        refine ⟨r, top, g, t, v, u, o, l, rfl, hg, hro, hk, ht, hl, q, hv, ?_⟩
        exact ⟨rfl, rfl⟩
    rintro ρ1 m1 ⟨rfl, rfl⟩
    walk_at "sy"
    have hne := hg.ne
    refine apl2 hl2 (by rw [List.length_map, hk.len]; omega) ?_
    walk_at "sy"
    refine ⟨_, _, _, 86, rfl, hk.sum, hv, by omega, ?_⟩
    walk_at "sy"
    refine simS_ifJ (B := fun ρ1 m2 => ρ1 = [some (.ptr o), some (fr v), some (optD (g.worth r v))] ∧
      m2 = mupd (mupd m1 l (.lst (g.past.map fr ++ [fr v]))) o (.ins a.Game [("many", .int r.many), ("again", .bl r.again), ("highest", fr top), ("rule", ruleD a r), ("drawn_values", .ptr l), ("sum_so_far", fr (g.sum + v)), ("now", optD g.now), ("most", fr g.most), ("certain", .bl (g.worth r v).isNone)])) ?_ ?_
    · walk_at "sy"
      rcases Bool.eq_false_or_eq_true r.again with hag | hag
      · have hw : g.worth r v = g.now.map fun u => g.behind r u v := by
          unfold Gm.worth
          rw [if_neg (by rw [hag]; simp)]
        refine ite_f (by rw [hag]; rfl) ?_
        walk_at "sx"
        rw [hw, Option.isNone_map]
        exact ⟨rfl, rfl⟩
      · refine ite_t (by rw [hag]; rfl) ?_
        walk_at "sy"
        refine ⟨_, _, rfl, by decide, by decide +kernel, ?_⟩
        walk_at "sy"
        have e : ((r.many : Int) /. 2) = (r.many : Rat) / 2 := by
          rw [Rat.divInt_eq_div]
          rfl
        rw [e]
        refine ⟨_, _, 8, _, rfl, half_many_bd hro, bd_add hk.sum hv, by omega, ?_⟩
        walk_at "sy"
        refine ite_d (fun h => ?_) (fun h => ?_)
        · have hw : g.worth r v = none := by
            unfold Gm.worth
            rw [if_pos ⟨hag, h⟩]
          walk_at "sy"
          rw [hw, mupd_upd]
          exact ⟨rfl, rfl⟩
        · have hw : g.worth r v = g.now.map fun u => g.behind r u v := by
            unfold Gm.worth
            rw [if_neg (fun q => h q.2)]
          walk_at "sy"
          rw [hw, Option.isNone_map]
          exact ⟨rfl, rfl⟩
    rintro ρ1 m2 ⟨rfl, rfl⟩
    have hplay := Gm.play_ok hro hk hl hv
    have hW := Wb_12 (t := t + 1) (by omega)
    have hW2 := Wb_12 (t := t) (by omega)
    walk_at "sy"
    refine simS_if ?_
    walk_at "sy"
    cases hw : g.worth r v with
    | none =>
      refine ite_f rfl ?_
      walk_at "sx"
      simp only [mupd_upd]
      refine hP _ ⟨?_, ?_⟩ fun b h1 h2 => ?_
      · rw [mupd_same]
        simp only [gfs, Gm.play, hw]
        rfl
      · rw [mupd_ne hne.symm, mupd_same]
        simp [Gm.play]
      · rw [mupd_ne h1, mupd_ne h2]
    | some w2 =>
      have hb : Bd 7600 w2 := (hplay.now w2 hw).mono hW
      refine ite_t rfl ?_
      walk_at "sy"
      refine ⟨_, _, 7600, 7600, rfl, hk.most.mono hW2, hb, by omega, ?_⟩
      walk_at "sy"
      refine ite_d (fun h => ?_) (fun h => ?_)
      · walk_at "sx"
        simp only [mupd_upd]
        refine hP _ ⟨?_, ?_⟩ fun b h1 h2 => ?_
        · rw [mupd_same]
          simp only [gfs, Gm.play, hw, if_pos h]
          rfl
        · rw [mupd_ne hne.symm, mupd_same]
          simp [Gm.play]
        · rw [mupd_ne h1, mupd_ne h2]
      · walk_at "sx"
        simp only [mupd_upd]
        refine hP _ ⟨?_, ?_⟩ fun b h1 h2 => ?_
        · rw [mupd_same]
          simp only [gfs, Gm.play, hw, if_neg h]
          rfl
        · rw [mupd_ne hne.symm, mupd_same]
          simp [Gm.play]
        · rw [mupd_ne h1, mupd_ne h2]
end
end L3

/-! text L3v -/
set_option Elab.async false
set_option linter.all false
set_option maxRecDepth 100000
set_option maxHeartbeats 4000000
namespace L3
open PySem L2
open scoped Rat
local macro_rules | `(tactic| walk_at "ca") => `(tactic| first
  | exact Txt.k_Game (by assumption)
  | exact Txt.n_Game_many (by assumption)
  | exact Txt.n_Game_again (by assumption)
  | exact Txt.n_Game_highest (by assumption)
  | exact Txt.n_Game_rule (by assumption)
  | exact Txt.n_Game_drawn_values (by assumption)
  | exact Txt.n_Game_sum_so_far (by assumption)
  | exact Txt.n_Game_now (by assumption)
  | exact Txt.n_Game_most (by assumption)
  | exact Txt.n_Game_certain (by assumption)
  | exact Txt.k_Way (by assumption)
  | exact Txt.n_Way_claim (by assumption)
  | exact Txt.k_Comparing (by assumption)
  | exact Txt.n_Comparing_claim (by assumption)
  | exact Txt.n_Comparing_told (by assumption)
  | exact Txt.n_Comparing_scale (by assumption)
  | exact Txt.k_Sheet (by assumption)
  | exact Txt.n_Sheet_names (by assumption)
  | exact Txt.n_Sheet_limit (by assumption)
  | exact Txt.n_Sheet_ways (by assumption)
  | exact Txt.n_Sheet_games (by assumption)
  | exact Txt.k_Audit (by assumption)
  | exact Txt.n_Audit_sheets (by assumption)
  | exact Txt.n_Audit_many (by assumption)
  | exact Txt.n_Audit_again (by assumption)
  | exact Txt.n_Audit_most (by assumption)
  | exact Txt.n_Audit_numbers (by assumption)
  | exact Txt.k_Beats (by assumption)
  | exact Txt.n_Beats_one (by assumption)
  | exact Txt.n_Beats_other (by assumption)
  | exact Txt.k_Over (by assumption)
  | exact Txt.n_Over_name (by assumption)
  | exact Txt.n_Over_share (by assumption)
  | exact Txt.k_Under (by assumption)
  | exact Txt.n_Under_name (by assumption)
  | exact Txt.n_Under_share (by assumption)
  | exact Txt.k_Contest (by assumption)
  | exact Txt.n_Contest_names (by assumption)
  | exact Txt.k_Most (by assumption)
  | exact Txt.n_Most_names (by assumption)
  | exact Txt.n_Most_seats (by assumption)
  | exact Txt.k_Portion (by assumption)
  | exact Txt.n_Portion_names (by assumption)
  | exact Txt.n_Portion_share (by assumption)
  | exact Txt.k_Fixed (by assumption)
  | exact Txt.n_Fixed_part (by assumption))
local macro_rules | `(tactic| walk_at "ne") => `(tactic| first
  | assumption
  | (refine Ne.symm ?_; assumption)
  | exact mne (by assumption) (by assumption)
  | exact (mne (by assumption) (by assumption)).symm)
local macro_rules | `(tactic| walk_at "mm") => `(tactic| first
  | assumption
  | exact mupd_same
  | (refine (mupd_ne ?_).trans ?_; (walk_at "ne"); (walk_at "mm")))
local macro_rules | `(tactic| walk_at "s0") => `(tactic| first
  | with_reducible refine simS_seq ?_
  | with_reducible refine simS_ret ?_
  | with_reducible refine simS_retN ?_
  | with_reducible refine simS_set ?_
  | with_reducible refine simS_drop ?_
  | with_reducible refine simS_next ?_
  | with_reducible refine simS_fld ?_
  | with_reducible refine simS_dput ?_
  | with_reducible refine simT_test ?_
  | with_reducible refine simT_B ?_
  | with_reducible refine simT_not ?_
  | with_reducible refine simT_and ?_
  | with_reducible refine simT_or ?_
  | focus ((with_reducible refine sim_var (d := ?_) ?_ ?_); rotate_left 1; exact rfl)
  | with_reducible refine sim_int ?_
  | with_reducible refine sim_bl ?_
  | with_reducible refine sim_str ?_
  | with_reducible refine sim_non ?_
  | with_reducible refine sim_ty ?_
  | with_reducible refine sim_c (Txt.t_NOUGHT_games (by assumption)) ?_
  | with_reducible refine sim_c (Txt.t_ONE_games (by assumption)) ?_
  | with_reducible refine sim_c (Txt.t_ONE_ways (by assumption)) ?_
  | with_reducible refine sim_c (Txt.t_TWO (by assumption)) ?_
  | with_reducible refine sim_c (Txt.t_NOUGHT_claims (by assumption)) ?_
  | with_reducible refine sim_c (Txt.t_HALF (by assumption)) ?_
  | with_reducible refine sim_c (Txt.t_ONE_claims (by assumption)) ?_
  | with_reducible refine sim_ref ?_
  | with_reducible refine sim_op ?_
  | with_reducible refine sim_un ?_
  | with_reducible refine sim_andV ?_
  | with_reducible refine sim_orV ?_
  | with_reducible refine sim_notV ?_
  | with_reducible refine sim_chain ?_
  | with_reducible refine sim_tup ?_
  | with_reducible refine sim_call ?_
  | with_reducible refine sim_callB ?_
  | with_reducible refine sim_fldU ?_
  | with_reducible refine sim_append ?_
  | focus ((with_reducible refine apl (ds := ?_) ?_ ?_); rotate_left 1; walk_at "mm")
  | with_reducible refine sim_methU ?_
  | with_reducible refine sim_cfn ?_
  | with_reducible refine sim_dget ?_
  | with_reducible refine sim_sl ?_
  | with_reducible refine simO_none ?_
  | with_reducible refine simO_some ?_
  | with_reducible refine simA_cons ?_
  | with_reducible refine simA_nil ?_
  | with_reducible refine simG_name ?_
  | with_reducible refine simG_pair ?_
  | with_reducible refine ops_addI ?_
  | with_reducible refine uns_I (g := fun i => -i) ?_
  | with_reducible refine simG_triple ?_
  | with_reducible refine ops_subI ?_
  | with_reducible refine ops_lt ?_
  | with_reducible refine ops_le ?_
  | with_reducible refine ops_gt ?_
  | with_reducible refine ops_ge ?_
  | with_reducible refine ops_eqI ?_
  | with_reducible refine ops_neI ?_
  | with_reducible refine ops_eqSt ?_
  | with_reducible refine ops_eqNS ?_
  | with_reducible refine eq_mk ?_
  | with_reducible refine eq_bl ?_
  | with_reducible refine ops_isN ?_
  | with_reducible refine ops_notN ?_
  | with_reducible refine cs_abs ?_
  | focus ((with_reducible refine cs_isi2 (t := ?_) (b := ?_) ?_ ?_ ?_ ?_); rotate_left 2; exact rfl; exact rfl; exact rfl)
  | with_reducible refine cs_max2 ?_
  | with_reducible refine cs_min2 ?_
  | focus ((with_reducible refine ops_ixT' (d := ?_) ?_ ?_); rotate_left 1; exact rfl)
  | focus ((with_reducible refine fld_o (d := ?_) ?_ ?_ ?_ ?_); rotate_left 1; walk_at "ca"; walk_at "ca"; exact rfl)
  | focus ((with_reducible refine fld_p (C := ?_) (fs := ?_) (d := ?_) ?_ ?_ ?_ ?_ ?_); rotate_left 3; walk_at "mm"; walk_at "ca"; walk_at "ca"; exact rfl)
  | focus ((with_reducible refine And.intro (?_ : Mth _ _ _ _) ?_); exact mth_o (by rfl))
  | focus ((with_reducible refine ⟨mth_p (fs := ?_) ?_ ?_, ?_⟩); rotate_left 1; walk_at "mm"; exact rfl)
  | focus ((with_reducible refine setf (C := ?_) (fs := ?_) ?_ ?_ ?_ ?_ ?_); rotate_left 2; walk_at "mm"; walk_at "ca"; walk_at "ca"; exact of_decide_eq_true rfl)
  | focus ((with_reducible refine dgt (kvs := ?_) (k := ?_) (d := ?_) ?_ ?_ ?_ ?_); rotate_left 3; walk_at "mm"; exact rfl; exact rfl)
  | focus ((with_reducible refine dpt (kvs := ?_) (k := ?_) ?_ ?_ ?_ ?_); rotate_left 2; walk_at "mm"; exact rfl; exact of_decide_eq_true rfl)
  | (with_reducible refine ⟨_, rfl, ?_⟩)
  | (with_reducible refine ⟨rfl, ?_⟩)
  | focus ((with_reducible refine ⟨Nat.le_of_ble_eq_true ?_, ?_⟩); exact rfl)
  | with_reducible refine ite_T ?_
  | with_reducible refine ite_nF ?_
  | with_reducible refine ite_nT ?_
  | with_reducible refine ite_F ?_)
local macro_rules | `(tactic| walk_at "s1") => `(tactic| first
  | walk_at "s0"
  | with_reducible refine simS_if ?_)
local macro_rules | `(tactic| walk_at "sx") => `(tactic| repeat walk_at "s1")
local macro_rules | `(tactic| walk_at "sy") => `(tactic| repeat walk_at "s0")

section
variable {P : Program} {w : World} {K : PySem.W.Frag} {mg : Str → Option Value} {base : Heap} {a : Adr}

/-! L3v: contests of the program. -/
inductive Kc where
  | m
  | p
def Kc.cls (a : Adr) : Kc → Addr
  | .m => a.Most
  | .p => a.Portion
def Con.kd : Con → Kc
  | .most _ _ => .m
  | .portion _ _ => .p
abbrev strsD (ss : List Str) : D := .tup (ss.map D.str)
def Con.ns : Con → List Str
  | .most _ _ => ["names", "seats"]
  | .portion _ _ => ["names", "share"]
def Con.ds : Con → List D
  | .most ns n => [strsD ns, .int n]
  | .portion ns s => [strsD ns, fr s]
abbrev Con.pD (a : Adr) (c : Con) : D := .obj (c.kd.cls a) c.ns c.ds
theorem filt_one {ns : List Str} {n : Str} (h : ns.Nodup) (hn : n ∈ ns) : (ns.filterMap fun s => if s ∈ [n] then some (D.str s) else none) = [D.str n] := by
  induction ns with
  | nil => simp at hn
  | cons x ns ih =>
    have h2 := List.nodup_cons.mp h
    by_cases e : x = n
    · subst e
      have e2 : (ns.filterMap fun s => if s ∈ [x] then some (D.str s) else none) = [] := by
        rw [List.filterMap_eq_nil_iff]
        intro s hs
        have : ¬ s ∈ [x] := fun q => h2.1 (by simp at q; rw [← q]; exact hs)
        rw [if_neg this]
      rw [List.filterMap_cons, if_pos (by simp), e2]
    · have hn2 : n ∈ ns := by
        rcases List.mem_cons.mp hn with q | q
        · exact absurd q.symm e
        · exact q
      rw [List.filterMap_cons, if_neg (by simpa using e)]
      exact ih h2.2 hn2
def cConInit (a : Adr) : Ctr := fun ds m P => ∃ o x k, ds = [.ptr o, x] ∧ m o = some (.ins (Kc.cls a k) []) ∧ P .non (mupd m o (.ins (Kc.cls a k) [("names", x)]))
def cNamed (a : Adr) (k : Kc) : Ctr := fun ds m P => ∃ c : Con, ds = [c.pD a] ∧ c.kd = k ∧ P (strsD c.names) m
def cClaims (a : Adr) (k : Kc) : Ctr := fun ds m P => ∃ (c : Con) (out : List Str), ds = [c.pD a, strsD out] ∧ c.kd = k ∧ c.Ok out ∧ (∀ s ∈ c.names, PyData.strOk s = true) ∧ P (.lst ((c.claims out).map (Claim.pD a))) m
def cIsMark : Ctr := fun ds m P => ∃ (mk : Mark) (ns : List Str), ds = [mkD mk, strsD ns] ∧ (mk = none ∨ mk = some ("" : Str) ∨ ∃ s ∈ ns, mk = some s) ∧ P (.bl true) m
abbrev s_is_mark : Stmt := top 32
theorem sc_is_mark : FnScope ["thing", "names"] ["thing", "names"] (defScope s_is_mark) := ⟨rfl, rfl, rfl, by decide +kernel, rfl, by decide +kernel, by decide +kernel⟩
theorem ok_is_mark {f : Addr} {fd : FuncData} (F : Fun K "is_mark" "is_mark" s_is_mark f fd) (T : Txt K mg a)  : FnOk P w K mg base CX0 (0 + 1) f fd ["thing", "names"] (spOf K (cIsMark)) := by
  refine def_ok F sc_is_mark ?_ ?_
  · rintro ds m PP ⟨mk, ns, rfl, hmk, hP⟩
    rfl
  · rintro cdv A outer s H E hr ds m PP ⟨mk, ns, rfl, hmk, hP⟩
    refine ⟨_, (pss_cons (ps_if (pt_cmpR op_isN (pv 0) pe_non (nomark _)) (pss_one (ps_ret pe_bl)) pss_nil)
      (pss_one (ps_ret (pe_and (pe_callB (pk_isi T) (by rfl) T.b_isinstance (by decide +kernel) (pa_cons (pv 0) (pa_cons (pe_bltn (v := .ty "str") (by rfl) T.b_str (by decide +kernel) rfl) pa_nil))) (pe_one (pe_or (pe_cmpR (pk_eq T hr.units) (pv 0) pe_str (nomark _)) (pe_one (pe_cmpR (pk_in T) (pv 0) (pv 1) (by with_unfolding_all rfl))))))))), ?_⟩
    walk_at "sx"
    rw [isNon_mk]
    refine ite_d (fun h => ?_) (fun h => ?_)
    · walk_at "sx"
      exact hP
    obtain _ | s := mk
    · exact absurd rfl h
    walk_at "sx"
    refine ite_d (fun h => ?_) (fun h => ?_)
    · exact hP
    walk_at "sx"
    refine ops_in_strs (.inr rfl) ?_
    have hs : s ∈ ns := by
      rcases hmk with q | q | ⟨u, hu, q⟩
      · cases q
      · cases q
        exact absurd rfl h
      · cases q
        exact hu
    rw [if_neg Bool.false_ne_true, decide_eq_true hs]
    exact hP
abbrev s_Contest_init : Stmt := inClass (top 44) 0
theorem sc_Contest_init : FnScope ["self", "names"] ["self", "names"] (defScope s_Contest_init) := ⟨rfl, rfl, rfl, by decide +kernel, rfl, by decide +kernel, by decide +kernel⟩
theorem ok_Contest_init {f : Addr} {fd : FuncData} (F : Fun K "__init__" "Contest.__init__" s_Contest_init f fd) (T : Txt K mg a)  : FnOk P w K mg base CX0 (0 + 1) f fd ["self", "names"] (spOf K (cConInit a)) := by
  refine def_ok F sc_Contest_init ?_ ?_
  · rintro ds m PP ⟨o, x, k, rfl, hm, hP⟩
    rfl
  · rintro cdv A outer s H E hr ds m PP ⟨o, x, k, rfl, hm, hP⟩
    refine ⟨_, (pss_one (pk_sfld T (pv 0) (pv 1) rfl)), ?_⟩
    cases k with
    | m =>
      have hm : m o = some (.ins a.Most []) := hm
      walk_at "sx"
      exact hP
    | p =>
      have hm : m o = some (.ins a.Portion []) := hm
      walk_at "sx"
      exact hP
abbrev s_Contest_named : Stmt := inClass (top 44) 1
theorem sc_Contest_named : FnScope ["self"] ["self"] (defScope s_Contest_named) := ⟨rfl, rfl, rfl, by decide +kernel, rfl, by decide +kernel, by decide +kernel⟩
theorem ok_Contest_named {f : Addr} {fd : FuncData} (F : Fun K "named" "Contest.named" s_Contest_named f fd) (T : Txt K mg a) (k : Kc) : FnOk P w K mg base CX0 (0 + 1) f fd ["self"] (spOf K (cNamed a k)) := by
  refine def_ok F sc_Contest_named ?_ ?_
  · rintro ds m PP ⟨c, rfl, hc, hP⟩
    rfl
  · rintro cdv A outer s H E hr ds m PP ⟨c, rfl, hc, hP⟩
    refine ⟨_, (pss_one (ps_ret (pk_fld T (pv 0) rfl))), ?_⟩
    subst hc
    cases c with
    | most ns n =>
      walk_at "sx"
      exact hP
    | portion ns n =>
      walk_at "sx"
      exact hP
abbrev s_Most_init : Stmt := inClass (top 45) 0
theorem sc_Most_init : FnScope ["self", "names", "seats"] ["self", "names", "seats"] (defScope s_Most_init) := ⟨rfl, rfl, rfl, by decide +kernel, rfl, by decide +kernel, by decide +kernel⟩
theorem ok_Most_init {f : Addr} {fd : FuncData} (F : Fun K "__init__" "Most.__init__" s_Most_init f fd) (T : Txt K mg a) (fCon : Addr) (mcCon : Value) (fdCon : FuncData) (psCon : List Str) (h_Contest_init : CFn K a.Contest mcCon "__init__" fCon ∧ FnOk P w K mg base CX0 1 fCon fdCon psCon (spOf K (cConInit a))) (h_Contest_b : Binds K fdCon psCon []) : FnOk P w K mg base CX0 (1 + 1) f fd ["self", "names", "seats"] (spOf K (cInit2 a.Most "names" "seats")) := by
  refine def_ok F sc_Most_init ?_ ?_
  · rintro ds m PP ⟨o, x, y, rfl, hm, hP⟩
    rfl
  · rintro cdv A outer s H E hr ds m PP ⟨o, x, y, rfl, hm, hP⟩
    refine ⟨_, (pss_cons (ps_expr (pe_cfn (pe_const (by rfl) T.g_Contest) h_Contest_init.1 h_Contest_init.2 (by exact hr.mono (by decide)) h_Contest_b (pa_cons (pv 0) (pa_cons (pv 1) pa_nil))))
      (pss_one (pk_sfld T (pv 0) (pv 2) rfl))), ?_⟩
    walk_at "sx"
    refine ⟨o, _, .m, rfl, hm, ?_⟩
    walk_at "sx"
    rw [mupd_upd]
    exact hP
abbrev s_Portion_init : Stmt := inClass (top 46) 0
theorem sc_Portion_init : FnScope ["self", "names", "share"] ["self", "names", "share"] (defScope s_Portion_init) := ⟨rfl, rfl, rfl, by decide +kernel, rfl, by decide +kernel, by decide +kernel⟩
theorem ok_Portion_init {f : Addr} {fd : FuncData} (F : Fun K "__init__" "Portion.__init__" s_Portion_init f fd) (T : Txt K mg a) (fCon : Addr) (mcCon : Value) (fdCon : FuncData) (psCon : List Str) (h_Contest_init : CFn K a.Contest mcCon "__init__" fCon ∧ FnOk P w K mg base CX0 1 fCon fdCon psCon (spOf K (cConInit a))) (h_Contest_b : Binds K fdCon psCon []) : FnOk P w K mg base CX0 (1 + 1) f fd ["self", "names", "share"] (spOf K (cInit2 a.Portion "names" "share")) := by
  refine def_ok F sc_Portion_init ?_ ?_
  · rintro ds m PP ⟨o, x, y, rfl, hm, hP⟩
    rfl
  · rintro cdv A outer s H E hr ds m PP ⟨o, x, y, rfl, hm, hP⟩
    refine ⟨_, (pss_cons (ps_expr (pe_cfn (pe_const (by rfl) T.g_Contest) h_Contest_init.1 h_Contest_init.2 (by exact hr.mono (by decide)) h_Contest_b (pa_cons (pv 0) (pa_cons (pv 1) pa_nil))))
      (pss_one (pk_sfld T (pv 0) (pv 2) rfl))), ?_⟩
    walk_at "sx"
    refine ⟨o, _, .p, rfl, hm, ?_⟩
    walk_at "sx"
    rw [mupd_upd]
    exact hP
abbrev s_Most_claims : Stmt := inClass (top 45) 2
theorem sc_Most_claims : FnScope ["self", "outcome", "name", "found", "one", "other"] ["self", "outcome"] (defScope s_Most_claims) := ⟨rfl, rfl, rfl, by decide +kernel, rfl, by decide +kernel, by decide +kernel⟩
theorem ok_Most_claims {f : Addr} {fd : FuncData} (F : Fun K "claims" "Most.claims" s_Most_claims f fd) (T : Txt K mg a) (h_Beats : MakC P w K mg base 1 "Beats" a.Beats (cInit2 a.Beats "one" "other")) : FnOk P w K mg base CX0 (2 + 1) f fd ["self", "outcome"] (spOf K (cClaims a .m)) := by
  refine def_ok F sc_Most_claims ?_ ?_
  · rintro ds m PP ⟨c, out, rfl, hc, hk, hs, hP⟩
    rfl
  · rintro cdv A outer s H E hr ds m PP ⟨c, out, rfl, hc, hk, hs, hP⟩
    refine ⟨_, (pss_cons (ps_if (PW.pt (pw_or (pt_not (pt_val (pe_callB (pk_isi T) (by rfl) T.b_isinstance (by decide +kernel) (pa_cons (pv 1) (pa_cons (pe_bltn (v := .ty "tuple") (by rfl) T.b_tuple (by decide +kernel) rfl) pa_nil))))) (pw_or1 (pt_cmpR (pk_ne T hr.units) (pe_callB (pk_len T) (by rfl) T.b_len (by decide +kernel) (pa_cons (pv 1) pa_nil)) (pk_fld T (pv 0) rfl) (nomark _))))) (pss_one ps_never) pss_nil)
      (pss_cons (ps_if (pt_cmpR (pk_ne T hr.units) (pv 1) (pe_callTy (pk_tuple T) (by rfl) T.b_tuple (by decide +kernel) (pa_cons (pe_lc (own := [("name", 2)]) (g := (gName 2)) (by rfl) sc_Most_claims.nd (pk_seq T (pk_fld T (pv 0) rfl)) (blkOk_by (by kernel_rfl)) (fun _ _ _ _ _ => by exact (pg_name (i := 2) sc_Most_claims.nd rfl (by first | exact Or.inl rfl | exact Or.inr rfl))) (fun _ _ _ _ _ => by exact (pts_one (pt_cmpR (pk_in T) (pv 2) (pv 1) (by with_unfolding_all rfl)))) (fun _ _ _ _ _ => by exact (pv 2))) pa_nil)) (nomark _)) (pss_one ps_never) pss_nil)
      (pss_cons (ps_set (i := 3) sc_Most_claims.nd rfl (by first | exact Or.inl rfl | exact Or.inr rfl) (pe_lst pa_nil))
      (pss_cons (ps_for PassesOwn.never rfl (pk_seq T (pv 1)) (pg_name (i := 4) sc_Most_claims.nd rfl (by first | exact Or.inl rfl | exact Or.inr rfl)) (pss_one (ps_for PassesOwn.never rfl (pk_seq T (pk_fld T (pv 0) rfl)) (pg_name (i := 5) sc_Most_claims.nd rfl (by first | exact Or.inl rfl | exact Or.inr rfl)) (pss_one (ps_if (pt_cmpR (pk_notIn T) (pv 5) (pv 1) (by with_unfolding_all rfl)) (pss_one (ps_expr (pk_append T (pv 3) (pa_cons (pk_mak h_Beats hr (by decide) (pa_cons (pv 4) (pa_cons (pv 5) pa_nil))) pa_nil)))) pss_nil)))))
      (pss_one (ps_ret (pv 3))))))), ?_⟩
    obtain ⟨ns, seats⟩ | ⟨ns, s⟩ := c <;> cases hc
    obtain ⟨hseats, n, hn, rfl⟩ := hk.kind
    subst hseats
    walk_at "sx"
    refine cs_len (.inr rfl) ?_
    walk_at "sx"
    refine ite_f rfl ?_
    walk_at "sy"
    refine simS_if ?_
    walk_at "sy"
    refine sim_lcF ns D.str (fun s => if s ∈ [n] then some (.str s) else none) (ts := [2]) (by decide) (simI_seq ?_)
    walk_at "sy"
    refine ⟨_, .inr rfl, rfl, by have := hk.hi; simp only [Con.names] at this; omega, .inr rfl, fun s hsm => ?_, ?_⟩
    · walk_at "sy"
      refine ops_in_strs (ss := [n]) (.inr rfl) ?_
      rw [if_neg Bool.false_ne_true]
      walk_at "sy"
      refine ite_d (fun h => ?_) (fun h => ?_)
      · walk_at "sy"
        rw [if_pos h]
      · rw [if_neg h]
    walk_at "sy"
    refine cs_tuple (.inl .val) ?_
    have hnd : ns.Nodup := hk.nd
    rw [filt_one hnd hn]
    have lay : Lay 64 (strsD [n]) (.tuple [.str n]) := lay_tup (n := 63) (lays_cons (lay_str (hs n hn)) lays_nil)
    refine neL lay lay ?_
    rw [eqv_refl _ lay.ok]
    walk_at "sy"
    refine sim_lstM ?_
    walk_at "sy"
    intro l hl
    walk_at "sy"
    refine simS_forM [n] D.str (fun done ρ' m' => ∃ z1 z2, ρ' = [some (Con.pD a (Con.most ns 1)), some (strsD [n]), none, some (.ptr l), z1, z2] ∧ m' = mupd m l (.lst ((done.flatMap fun one => (ns.filter fun o => !decide (o ∈ [n])).map fun o => Claim.beats one o).map (Claim.pD a)))) (ts := [4]) (simI_seq ?_)
    walk_at "sy"
    refine ⟨_, .inr rfl, rfl, ⟨_, _, rfl, rfl⟩, fun _ _ _ _ => .inr rfl, ?_, ?_⟩
    · rintro done one rest ρ' m' hsplit ⟨z1, z2, rfl, rfl⟩
      walk_at "sy"
      refine simS_forM ns D.str (fun done2 ρ' m' => ∃ z2, ρ' = [some (Con.pD a (Con.most ns 1)), some (strsD [n]), none, some (.ptr l), some (.str one), z2] ∧ m' = mupd m l (.lst (((done.flatMap fun one => (ns.filter fun o => !decide (o ∈ [n])).map fun o => Claim.beats one o) ++ ((done2.filter fun o => !decide (o ∈ [n])).map fun o => Claim.beats one o)).map (Claim.pD a)))) (ts := [5]) (simI_seq ?_)
      walk_at "sy"
      refine ⟨_, .inr rfl, rfl, ⟨_, rfl, by rw [List.filter_nil, List.map_nil, List.append_nil]⟩, fun _ _ _ _ => .inr rfl, ?_, ?_⟩
      · rintro done2 o rest2 ρ' m' hsplit2 ⟨z2, rfl, rfl⟩
        walk_at "sy"
        refine simS_if ?_
        walk_at "sy"
        have hdn : done = [] := by
          cases done with
          | nil => rfl
          | cons x xs => simp at hsplit
        have hl2 : done2.length ≤ 3 := by
          have h3 := hk.hi
          have h4 : ns.length ≤ 3 := h3
          rw [hsplit2, List.length_append] at h4
          omega
        subst hdn
        refine ops_in_strs (ss := [n]) (.inr rfl) ?_
        rw [if_pos rfl]
        walk_at "sy"
        refine ite_dn (fun h => ?_) (fun h => ?_)
        · walk_at "sy"
          refine sim_frzI (sim_make ?_)
          walk_at "sy"
          intro q hq
          refine ⟨q, _, _, rfl, mupd_same, rfl, q, _, _, rfl, mupd_same, ?_⟩
          rw [mupd_upd, mdel_upd hq]
          refine apl2 mupd_same ?_ ?_
          · simp only [List.flatMap_nil, List.nil_append, List.length_map]
            exact Nat.lt_of_le_of_lt (List.length_filter_le _ _) (by omega)
          have h' : ¬ o = n := by simpa using h
          refine ⟨_, rfl, ?_⟩
          rw [mupd_upd]
          simp [List.filter_append, List.filter_cons, h']
          rfl
        · walk_at "sy"
          have h' : o = n := by simpa using h
          simp [List.filter_append, List.filter_cons, h']
      · rintro ρ' m' ⟨z2, rfl, rfl⟩
        refine ⟨_, _, rfl, ?_⟩
        rw [List.flatMap_append, List.flatMap_singleton]
    · rintro ρ' m' ⟨z1, z2, rfl, rfl⟩
      refine simS_ret (sim_frzL ?_)
      walk_at "sy"
      rw [mdel_upd hl]
      exact hP
abbrev s_Portion_claims : Stmt := inClass (top 46) 2
theorem sc_Portion_claims : FnScope ["self", "outcome", "name"] ["self", "outcome"] (defScope s_Portion_claims) := ⟨rfl, rfl, rfl, by decide +kernel, rfl, by decide +kernel, by decide +kernel⟩
theorem ok_Portion_claims {f : Addr} {fd : FuncData} (F : Fun K "claims" "Portion.claims" s_Portion_claims f fd) (T : Txt K mg a) (h_Over : MakC P w K mg base 1 "Over" a.Over (cInit2 a.Over "name" "share")) (h_Under : MakC P w K mg base 1 "Under" a.Under (cInit2 a.Under "name" "share")) : FnOk P w K mg base CX0 (2 + 1) f fd ["self", "outcome"] (spOf K (cClaims a .p)) := by
  refine def_ok F sc_Portion_claims ?_ ?_
  · rintro ds m PP ⟨c, out, rfl, hc, hk, hs, hP⟩
    rfl
  · rintro cdv A outer s H E hr ds m PP ⟨c, out, rfl, hc, hk, hs, hP⟩
    refine ⟨_, (pss_cons (ps_if (PW.pt (pw_or (pt_not (pt_val (pe_callB (pk_isi T) (by rfl) T.b_isinstance (by decide +kernel) (pa_cons (pv 1) (pa_cons (pe_bltn (v := .ty "tuple") (by rfl) T.b_tuple (by decide +kernel) rfl) pa_nil))))) (pw_or1 (pt_cmpR op_gt (pe_callB (pk_len T) (by rfl) T.b_len (by decide +kernel) (pa_cons (pv 1) pa_nil)) pe_int (nomark _))))) (pss_one ps_never) pss_nil)
      (pss_cons (ps_if (pt_cmpR (pk_eq T hr.units) (pv 1) (pe_tup pa_nil) (nomark _)) (pss_one (ps_ret (pe_lc (own := [("name", 2)]) (g := (gName 2)) (tt := tYes) (by rfl) sc_Portion_claims.nd (pk_seq T (pk_fld T (pv 0) rfl)) (blkOk_by (by kernel_rfl)) (fun _ _ _ _ _ => by exact (pg_name (i := 2) sc_Portion_claims.nd rfl (by first | exact Or.inl rfl | exact Or.inr rfl))) (fun _ _ _ _ _ => by exact pts_nil) (fun _ _ _ _ _ => by exact (pk_mak h_Under hr (by decide) (pa_cons (pv 2) (pa_cons (pk_fld T (pv 0) rfl) pa_nil))))))) pss_nil)
      (pss_cons (ps_if (pt_cmpR (pk_notIn T) (pe_ix (pk_ix T) (pv 1) pe_int (fun _ _ => rfl)) (pk_fld T (pv 0) rfl) (by with_unfolding_all rfl)) (pss_one ps_never) pss_nil)
      (pss_one (ps_ret (pe_lst (pa_cons (pk_mak h_Over hr (by decide) (pa_cons (pe_ix (pk_ix T) (pv 1) pe_int (fun _ _ => rfl)) (pa_cons (pk_fld T (pv 0) rfl) pa_nil))) pa_nil))))))), ?_⟩
    obtain ⟨ns, seats⟩ | ⟨ns, s⟩ := c <;> cases hc
    obtain ⟨hsh, hout⟩ := hk.kind
    walk_at "sx"
    refine cs_len (.inr rfl) ?_
    rw [List.length_map]
    walk_at "sx"
    have hl1 : out.length ≤ 1 := by
      rcases hout with rfl | ⟨n, hn, rfl⟩ <;> simp
    refine ite_n (by omega) ?_
    walk_at "sy"
    refine simS_if ?_
    walk_at "sy"
    refine eqL (lay_strs (n := 63) (ss := out) ?_) (lay_strs (n := 63) (ss := []) (by simp)) ?_
    · intro x hx
      rcases hout with rfl | ⟨n, hn, rfl⟩
      · simp at hx
      · have : x = n := by simpa using hx
        rw [this]
        exact hs n hn
    have e : PyData.eqv (.tuple (out.map .str)) (.tuple (([] : List Str).map .str)) = decide (out = []) := by
      simp only [PyData.eqv]
      exact eqvAll_strs out []
    rw [e]
    walk_at "sy"
    refine ite_d (fun h => ?_) (fun h => ?_)
    · subst h
      walk_at "sy"
      refine sim_lcM ns D.str (fun n => Claim.pD a (.under n s)) (ts := [2]) (by decide) (simI_seq ?_)
      walk_at "sy"
      refine ⟨_, .inr rfl, rfl, by have := hk.hi; simp only [Con.names] at this; omega, .inr rfl, fun n hn => ?_, ?_⟩
      · walk_at "sy"
        refine sim_frzI (sim_make ?_)
        walk_at "sy"
        intro q hq
        refine ⟨q, _, _, rfl, mupd_same, rfl, q, _, _, rfl, mupd_same, ?_⟩
        rw [mupd_upd, mdel_upd hq]
        exact ⟨rfl, rfl⟩
      · have hP : PP (D.lst ((ns.map fun n => Claim.under n s).map (Claim.pD a))) m := hP
        rw [List.map_map] at hP
        exact hP
    · rcases hout with rfl | ⟨n, hn, rfl⟩
      · exact absurd rfl h
      walk_at "sy"
      refine simS_if ?_
      walk_at "sy"
      refine ops_in_strs (ss := ns) (.inr rfl) ?_
      rw [if_pos rfl, decide_eq_true hn]
      walk_at "sy"
      refine sim_lst ?_
      walk_at "sy"
      refine sim_frzI (sim_make ?_)
      walk_at "sy"
      intro q hq
      refine ⟨q, _, _, rfl, mupd_same, rfl, q, _, _, rfl, mupd_same, ?_⟩
      rw [mupd_upd, mdel_upd hq]
      walk_at "sy"
      exact hP
end
end L3

/-! text L3v2 -/
set_option Elab.async false
set_option linter.all false
set_option maxRecDepth 100000
set_option maxHeartbeats 4000000
/-! L3v2: more rules. -/
namespace L3
open PySem L2
section
variable {K : PySem.W.Frag} {mg : Str → Option Value} {a : Adr} {X : Cx}
theorem pk_gtup {n : Nat} {es : List Expr} {k : Nat} {pos : Pos} {t : TGs} (T : Txt K mg a) (hc : X.calm = true) (h : PGs X es t) (hK : X.K = K := by rfl) (h1 : (assignEach es X.env).length = n := by rfl) (h2 : List.findIdx? (fun x => x.fst) (assignEach es X.env) = none := by rfl) :
    PG X (.Tuple es k pos) (gTup K n t) := by
  subst hK
  exact pg_tup hc h h1 h2
end
section
variable {m m' : Mem} {o l : Addr} {X : MO}
theorem mem_back (ho : m o = none) (hl : m l = none) (h : ∀ b, b ≠ o → b ≠ l → m' b = m b) : mdel (mupd (mdel m' l) o X) o = m := by
  funext b
  show (if b = o then none else if b = o then some X else if b = l then none else m' b) = m b
  by_cases h1 : b = o
  · rw [if_pos h1, h1, ho]
  · rw [if_neg h1, if_neg h1]
    by_cases h2 : b = l
    · rw [if_pos h2, h2, hl]
    · rw [if_neg h2]
      exact h b h1 h2
end
end L3

/-! text L3w -/
set_option Elab.async false
set_option linter.all false
set_option maxRecDepth 100000
set_option maxHeartbeats 4000000
namespace L3
open PySem L2
open scoped Rat
local macro_rules | `(tactic| walk_at "ca") => `(tactic| first
  | exact Txt.k_Game (by assumption)
  | exact Txt.n_Game_many (by assumption)
  | exact Txt.n_Game_again (by assumption)
  | exact Txt.n_Game_highest (by assumption)
  | exact Txt.n_Game_rule (by assumption)
  | exact Txt.n_Game_drawn_values (by assumption)
  | exact Txt.n_Game_sum_so_far (by assumption)
  | exact Txt.n_Game_now (by assumption)
  | exact Txt.n_Game_most (by assumption)
  | exact Txt.n_Game_certain (by assumption)
  | exact Txt.k_Way (by assumption)
  | exact Txt.n_Way_claim (by assumption)
  | exact Txt.k_Comparing (by assumption)
  | exact Txt.n_Comparing_claim (by assumption)
  | exact Txt.n_Comparing_told (by assumption)
  | exact Txt.n_Comparing_scale (by assumption)
  | exact Txt.k_Sheet (by assumption)
  | exact Txt.n_Sheet_names (by assumption)
  | exact Txt.n_Sheet_limit (by assumption)
  | exact Txt.n_Sheet_ways (by assumption)
  | exact Txt.n_Sheet_games (by assumption)
  | exact Txt.k_Audit (by assumption)
  | exact Txt.n_Audit_sheets (by assumption)
  | exact Txt.n_Audit_many (by assumption)
  | exact Txt.n_Audit_again (by assumption)
  | exact Txt.n_Audit_most (by assumption)
  | exact Txt.n_Audit_numbers (by assumption)
  | exact Txt.k_Beats (by assumption)
  | exact Txt.n_Beats_one (by assumption)
  | exact Txt.n_Beats_other (by assumption)
  | exact Txt.k_Over (by assumption)
  | exact Txt.n_Over_name (by assumption)
  | exact Txt.n_Over_share (by assumption)
  | exact Txt.k_Under (by assumption)
  | exact Txt.n_Under_name (by assumption)
  | exact Txt.n_Under_share (by assumption)
  | exact Txt.k_Contest (by assumption)
  | exact Txt.n_Contest_names (by assumption)
  | exact Txt.k_Most (by assumption)
  | exact Txt.n_Most_names (by assumption)
  | exact Txt.n_Most_seats (by assumption)
  | exact Txt.k_Portion (by assumption)
  | exact Txt.n_Portion_names (by assumption)
  | exact Txt.n_Portion_share (by assumption)
  | exact Txt.k_Fixed (by assumption)
  | exact Txt.n_Fixed_part (by assumption))
local macro_rules | `(tactic| walk_at "ne") => `(tactic| first
  | assumption
  | (refine Ne.symm ?_; assumption)
  | exact mne (by assumption) (by assumption)
  | exact (mne (by assumption) (by assumption)).symm)
local macro_rules | `(tactic| walk_at "mm") => `(tactic| first
  | assumption
  | exact mupd_same
  | (refine (mupd_ne ?_).trans ?_; (walk_at "ne"); (walk_at "mm")))
local macro_rules | `(tactic| walk_at "s0") => `(tactic| first
  | with_reducible refine simS_seq ?_
  | with_reducible refine simS_ret ?_
  | with_reducible refine simS_retN ?_
  | with_reducible refine simS_set ?_
  | with_reducible refine simS_drop ?_
  | with_reducible refine simS_next ?_
  | with_reducible refine simS_fld ?_
  | with_reducible refine simS_dput ?_
  | with_reducible refine simT_test ?_
  | with_reducible refine simT_B ?_
  | with_reducible refine simT_not ?_
  | with_reducible refine simT_and ?_
  | with_reducible refine simT_or ?_
  | focus ((with_reducible refine sim_var (d := ?_) ?_ ?_); rotate_left 1; exact rfl)
  | with_reducible refine sim_int ?_
  | with_reducible refine sim_bl ?_
  | with_reducible refine sim_str ?_
  | with_reducible refine sim_non ?_
  | with_reducible refine sim_ty ?_
  | with_reducible refine sim_c (Txt.t_NOUGHT_games (by assumption)) ?_
  | with_reducible refine sim_c (Txt.t_ONE_games (by assumption)) ?_
  | with_reducible refine sim_c (Txt.t_ONE_ways (by assumption)) ?_
  | with_reducible refine sim_c (Txt.t_TWO (by assumption)) ?_
  | with_reducible refine sim_c (Txt.t_NOUGHT_claims (by assumption)) ?_
  | with_reducible refine sim_c (Txt.t_HALF (by assumption)) ?_
  | with_reducible refine sim_c (Txt.t_ONE_claims (by assumption)) ?_
  | with_reducible refine sim_ref ?_
  | with_reducible refine sim_op ?_
  | with_reducible refine sim_un ?_
  | with_reducible refine sim_andV ?_
  | with_reducible refine sim_orV ?_
  | with_reducible refine sim_notV ?_
  | with_reducible refine sim_chain ?_
  | with_reducible refine sim_tup ?_
  | with_reducible refine sim_call ?_
  | with_reducible refine sim_callB ?_
  | with_reducible refine sim_fldU ?_
  | with_reducible refine sim_append ?_
  | focus ((with_reducible refine apl (ds := ?_) ?_ ?_); rotate_left 1; walk_at "mm")
  | with_reducible refine sim_methU ?_
  | with_reducible refine sim_cfn ?_
  | with_reducible refine sim_dget ?_
  | with_reducible refine sim_sl ?_
  | with_reducible refine simO_none ?_
  | with_reducible refine simO_some ?_
  | with_reducible refine simA_cons ?_
  | with_reducible refine simA_nil ?_
  | with_reducible refine simG_name ?_
  | with_reducible refine simG_pair ?_
  | with_reducible refine ops_addI ?_
  | with_reducible refine uns_I (g := fun i => -i) ?_
  | with_reducible refine simG_triple ?_
  | with_reducible refine ops_subI ?_
  | with_reducible refine ops_lt ?_
  | with_reducible refine ops_le ?_
  | with_reducible refine ops_gt ?_
  | with_reducible refine ops_ge ?_
  | with_reducible refine ops_eqI ?_
  | with_reducible refine ops_neI ?_
  | with_reducible refine ops_eqSt ?_
  | with_reducible refine ops_eqNS ?_
  | with_reducible refine eq_mk ?_
  | with_reducible refine eq_bl ?_
  | with_reducible refine ops_isN ?_
  | with_reducible refine ops_notN ?_
  | with_reducible refine cs_abs ?_
  | focus ((with_reducible refine cs_isi2 (t := ?_) (b := ?_) ?_ ?_ ?_ ?_); rotate_left 2; exact rfl; exact rfl; exact rfl)
  | with_reducible refine cs_max2 ?_
  | with_reducible refine cs_min2 ?_
  | focus ((with_reducible refine ops_ixT' (d := ?_) ?_ ?_); rotate_left 1; exact rfl)
  | focus ((with_reducible refine fld_o (d := ?_) ?_ ?_ ?_ ?_); rotate_left 1; walk_at "ca"; walk_at "ca"; exact rfl)
  | focus ((with_reducible refine fld_p (C := ?_) (fs := ?_) (d := ?_) ?_ ?_ ?_ ?_ ?_); rotate_left 3; walk_at "mm"; walk_at "ca"; walk_at "ca"; exact rfl)
  | focus ((with_reducible refine And.intro (?_ : Mth _ _ _ _) ?_); exact mth_o (by rfl))
  | focus ((with_reducible refine ⟨mth_p (fs := ?_) ?_ ?_, ?_⟩); rotate_left 1; walk_at "mm"; exact rfl)
  | focus ((with_reducible refine setf (C := ?_) (fs := ?_) ?_ ?_ ?_ ?_ ?_); rotate_left 2; walk_at "mm"; walk_at "ca"; walk_at "ca"; exact of_decide_eq_true rfl)
  | focus ((with_reducible refine dgt (kvs := ?_) (k := ?_) (d := ?_) ?_ ?_ ?_ ?_); rotate_left 3; walk_at "mm"; exact rfl; exact rfl)
  | focus ((with_reducible refine dpt (kvs := ?_) (k := ?_) ?_ ?_ ?_ ?_); rotate_left 2; walk_at "mm"; exact rfl; exact of_decide_eq_true rfl)
  | (with_reducible refine ⟨_, rfl, ?_⟩)
  | (with_reducible refine ⟨rfl, ?_⟩)
  | focus ((with_reducible refine ⟨Nat.le_of_ble_eq_true ?_, ?_⟩); exact rfl)
  | with_reducible refine ite_T ?_
  | with_reducible refine ite_nF ?_
  | with_reducible refine ite_nT ?_
  | with_reducible refine ite_F ?_)
local macro_rules | `(tactic| walk_at "s1") => `(tactic| first
  | walk_at "s0"
  | with_reducible refine simS_if ?_)
local macro_rules | `(tactic| walk_at "sx") => `(tactic| repeat walk_at "s1")
local macro_rules | `(tactic| walk_at "sy") => `(tactic| repeat walk_at "s0")

section
variable {P : Program} {w : World} {K : PySem.W.Frag} {mg : Str → Option Value} {base : Heap} {a : Adr}

/-! L3w: sheets of the program. -/
structure Sh where
  names : List Str
  lim : Rat
  told : List Mark
  cg : List (Claim × Gm)
def Sh.ways (a : Adr) (s : Sh) : List D := s.cg.map fun p => wayD a p.1 s.told (p.1.scale s.told)
def Sh.games (a : Adr) (r : Rl) (s : Sh) : List D := s.cg.map fun p => gameD a r (2 / p.1.scale s.told) p.2
abbrev Sh.fs (a : Adr) (r : Rl) (s : Sh) : List (Str × D) := [("names", strsD s.names), ("limit", fr s.lim), ("ways", .lst (s.ways a)), ("games", .lst (s.games a r))]
def Sh.sure (s : Sh) : Bool := s.cg.all fun p => p.2.reached s.lim
def Sh.play (r : Rl) (i : Nat) (mk : Mark) (s : Sh) : Sh := { s with cg := s.cg.map fun p => (p.1, p.2.play r (p.1.cmp (p.1.scale s.told) (s.told.getD i none) mk)) }
structure Sh.Ok (r : Rl) (t : Nat) (s : Sh) : Prop where
  lim : Bd 7 s.lim
  lo : 0 < s.told.length
  hi : s.told.length ≤ 60
  cl : ∀ p ∈ s.cg, p.1.Ok
  gm : ∀ p ∈ s.cg, p.2.Ok r t
  few : s.cg.length ≤ 3
def cSheetInit (a : Adr) : Ctr := fun ds m P => ∃ o x y, ds = [.ptr o, x, y] ∧ m o = some (.ins a.Sheet []) ∧
  ∀ w g, m w = none → m g = none → w ≠ o → g ≠ o → w ≠ g → P .non (mupd (mupd (mupd m w (.lst [])) g (.lst [])) o (.ins a.Sheet [("names", x), ("limit", y), ("ways", .ptr w), ("games", .ptr g)]))
def cAdd (a : Adr) : Ctr := fun ds m P => ∃ o w g n l ws gs x y, ds = [.ptr o, x, y] ∧ m o = some (.ins a.Sheet [("names", n), ("limit", l), ("ways", .ptr w), ("games", .ptr g)]) ∧ m w = some (.lst ws) ∧ m g = some (.lst gs) ∧ w ≠ g ∧ ws.length ≤ 3 ∧ gs.length ≤ 3 ∧
  P .non (mupd (mupd m w (.lst (ws ++ [x]))) g (.lst (gs ++ [y])))
def cIsSure (a : Adr) : Ctr := fun ds m P => ∃ o r t, ∃ s : Sh, ds = [.ptr o] ∧ m o = some (.ins a.Sheet (s.fs a r)) ∧ s.Ok r t ∧ t ≤ 12 ∧ P (.bl s.sure) m
def cPlayed (a : Adr) : Ctr := fun ds m P => ∃ o r t i, ∃ (s : Sh) (mk : Mark), ds = [.ptr o, .int (i : Nat), mkD mk] ∧ m o = some (.ins a.Sheet (s.fs a r)) ∧ Rl.Ok r ∧ s.Ok r t ∧ t < 12 ∧ (r.again = false → t < r.many) ∧ i < s.told.length ∧ P (.lst ((s.play r i mk).games a r)) m
abbrev s_Sheet_init : Stmt := inClass (top 33) 0
theorem sc_Sheet_init : FnScope ["self", "names", "limit"] ["self", "names", "limit"] (defScope s_Sheet_init) := ⟨rfl, rfl, rfl, by decide +kernel, rfl, by decide +kernel, by decide +kernel⟩
theorem ok_Sheet_init {f : Addr} {fd : FuncData} (F : Fun K "__init__" "Sheet.__init__" s_Sheet_init f fd) (T : Txt K mg a)  : FnOk P w K mg base CX0 (0 + 1) f fd ["self", "names", "limit"] (spOf K (cSheetInit a)) := by
  refine def_ok F sc_Sheet_init ?_ ?_
  · rintro ds m PP ⟨o, x, y, rfl, hm, hP⟩
    rfl
  · rintro cdv A outer s H E hr ds m PP ⟨o, x, y, rfl, hm, hP⟩
    refine ⟨_, (pss_cons (pk_sfld T (pv 0) (pv 1) rfl)
      (pss_cons (pk_sfld T (pv 0) (pv 2) rfl)
      (pss_cons (pk_sfld T (pv 0) (pe_lst pa_nil) rfl)
      (pss_one (pk_sfld T (pv 0) (pe_lst pa_nil) rfl))))), ?_⟩
    walk_at "sy"
    refine sim_lstM ?_
    walk_at "sy"
    intro w1 hw
    have hw1 : o ≠ w1 := mne mupd_same hw
    walk_at "sy"
    refine sim_lstM ?_
    walk_at "sy"
    intro g hg
    have hw2 : o ≠ g := mne mupd_same hg
    have hw3 : w1 ≠ g := mne (mupd_ne hw1.symm |>.trans mupd_same) hg
    walk_at "sy"
    have e1 : m w1 = none := by
      rw [mupd_upd, mupd_ne hw1.symm] at hw
      exact hw
    have e2 : m g = none := by
      rw [mupd_ne hw2.symm, mupd_ne hw3.symm, mupd_upd, mupd_ne hw2.symm] at hg
      exact hg
    have q := hP w1 g e1 e2 hw1.symm hw2.symm hw3
    refine cast (congrArg (PP D.non) ?_) q
    funext b
    unfold mupd
    repeat' split
    all_goals first | rfl | (subst_vars; contradiction)
abbrev s_Sheet_add : Stmt := inClass (top 33) 1
theorem sc_Sheet_add : FnScope ["self", "way", "game"] ["self", "way", "game"] (defScope s_Sheet_add) := ⟨rfl, rfl, rfl, by decide +kernel, rfl, by decide +kernel, by decide +kernel⟩
theorem ok_Sheet_add {f : Addr} {fd : FuncData} (F : Fun K "add" "Sheet.add" s_Sheet_add f fd) (T : Txt K mg a)  : FnOk P w K mg base CX0 (0 + 1) f fd ["self", "way", "game"] (spOf K (cAdd a)) := by
  refine def_ok F sc_Sheet_add ?_ ?_
  · rintro ds m PP ⟨o, w1, g, n, l, ws, gs, x, y, rfl, hm, hw, hg, hne, hl1, hl2, hP⟩
    rfl
  · rintro cdv A outer s H E hr ds m PP ⟨o, w1, g, n, l, ws, gs, x, y, rfl, hm, hw, hg, hne, hl1, hl2, hP⟩
    refine ⟨_, (pss_cons (ps_expr (pk_append T (pk_fld T (pv 0) rfl) (pa_cons (pv 1) pa_nil)))
      (pss_one (ps_expr (pk_append T (pk_fld T (pv 0) rfl) (pa_cons (pv 2) pa_nil))))), ?_⟩
    walk_at "sy"
    refine apl2 hw (by omega) ?_
    have hno : o ≠ w1 := fun e => by
      rw [e, hw] at hm
      cases hm
    have hno2 : o ≠ g := fun e => by
      rw [e, hg] at hm
      cases hm
    have hne2 := hne.symm
    walk_at "sy"
    refine apl2 (by walk_at "mm") (by omega) ?_
    exact hP
abbrev s_Sheet_is_sure : Stmt := inClass (top 33) 2
theorem sc_Sheet_is_sure : FnScope ["self", "game"] ["self"] (defScope s_Sheet_is_sure) := ⟨rfl, rfl, rfl, by decide +kernel, rfl, by decide +kernel, by decide +kernel⟩
theorem ok_Sheet_is_sure {f : Addr} {fd : FuncData} (F : Fun K "is_sure" "Sheet.is_sure" s_Sheet_is_sure f fd) (T : Txt K mg a) (h_reached : MetC P w K mg base 4 a.Game "reached" (cReached a)) : FnOk P w K mg base CX0 (4 + 1) f fd ["self"] (spOf K (cIsSure a)) := by
  refine def_ok F sc_Sheet_is_sure ?_ ?_
  · rintro ds m PP ⟨o, r, t, sh, rfl, hm, hk, ht, hP⟩
    rfl
  · rintro cdv A outer s H E hr ds m PP ⟨o, r, t, sh, rfl, hm, hk, ht, hP⟩
    refine ⟨_, (pss_one (ps_ret (pe_callB (pk_all T) (by rfl) T.b_all (by decide +kernel) (pa_cons (pe_lc (own := [("game", 1)]) (g := (gName 1)) (tt := tYes) (by rfl) sc_Sheet_is_sure.nd (pk_seq T (pk_fld T (pv 0) rfl)) (blkOk_by (by kernel_rfl)) (fun _ _ _ _ _ => by exact (pg_name (i := 1) sc_Sheet_is_sure.nd rfl (by first | exact Or.inl rfl | exact Or.inr rfl))) (fun _ _ _ _ _ => by exact pts_nil) (fun _ _ _ _ _ => by exact (pk_met h_reached hr (by decide) (pv 1) (pa_cons (pk_fld T (pv 0) rfl) pa_nil)))) pa_nil)))), ?_⟩
    walk_at "sy"
    refine sim_lcM sh.cg (fun p => gameD a r (2 / p.1.scale sh.told) p.2) (fun p => .bl (p.2.reached sh.lim)) (ts := [1]) (by decide) (simI_seq ?_)
    walk_at "sy"
    refine ⟨_, .inl .val, rfl, by have := hk.few; omega, .inl .val, fun p hp => ?_, ?_⟩
    · walk_at "sy"
      have := Wb_12 ht
      exact ⟨r, _, p.2, sh.lim, rfl, hk.lim, (hk.gm p hp).most.mono this, rfl, rfl⟩
    walk_at "sy"
    refine cs_all (bs := sh.cg.map fun p => p.2.reached sh.lim) (.inl (by rw [List.map_map]; exact .val)) ?_
    rw [List.all_map]
    exact hP
abbrev s_Sheet_played : Stmt := inClass (top 33) 3
theorem sc_Sheet_played : FnScope ["self", "number", "mark", "some", "way", "game", "more"] ["self", "number", "mark"] (defScope s_Sheet_played) := ⟨rfl, rfl, rfl, by decide +kernel, rfl, by decide +kernel, by decide +kernel⟩
theorem ok_Sheet_played {f : Addr} {fd : FuncData} (F : Fun K "played" "Sheet.played" s_Sheet_played f fd) (T : Txt K mg a) (h_twin : MetC P w K mg base 3 a.Game "twin" (cTwin a)) (h_play : MetC P w K mg base 6 a.Game "play" (cPlay a)) (h_way_value : MetC P w K mg base 7 a.Comparing "value" (cCmpVal a)) : FnOk P w K mg base CX0 (7 + 1) f fd ["self", "number", "mark"] (spOf K (cPlayed a)) := by
  refine def_ok F sc_Sheet_played ?_ ?_
  · rintro ds m PP ⟨o, r, t, i, sh, mk, rfl, hm, hro, hk, ht, hl, hi, hP⟩
    rfl
  · rintro cdv A outer s H E hr ds m PP ⟨o, r, t, i, sh, mk, rfl, hm, hro, hk, ht, hl, hi, hP⟩
    refine ⟨_, (pss_cons (ps_set (i := 3) sc_Sheet_played.nd rfl (by first | exact Or.inl rfl | exact Or.inr rfl) (pe_lst pa_nil))
      (pss_cons (ps_for PassesOwn.never rfl (pk_zip T (by rfl) T.b_zip (pa_cons (pk_fld T (pv 0) rfl) (pa_cons (pk_fld T (pv 0) rfl) pa_nil))) (pk_gtup T (n := 2) rfl (pgs_cons (pg_name (i := 4) sc_Sheet_played.nd rfl (by first | exact Or.inl rfl | exact Or.inr rfl)) (pgs_cons (pg_name (i := 5) sc_Sheet_played.nd rfl (by first | exact Or.inl rfl | exact Or.inr rfl)) pgs_nil))) (pss_cons (ps_set (i := 6) sc_Sheet_played.nd rfl (by first | exact Or.inl rfl | exact Or.inr rfl) (pk_met0 h_twin hr (by decide) (pv 5)))
      (pss_cons (ps_expr (pk_met h_play hr (by decide) (pv 6) (pa_cons (pk_met h_way_value hr (by decide) (pv 4) (pa_cons (pv 1) (pa_cons (pv 2) pa_nil))) pa_nil)))
      (pss_one (ps_expr (pk_append T (pv 3) (pa_cons (pv 6) pa_nil)))))))
      (pss_one (ps_ret (pv 3))))), ?_⟩
    walk_at "sy"
    refine sim_lstM ?_
    walk_at "sy"
    intro l hla
    have hol : o ≠ l := mne hm hla
    walk_at "sy"
    refine simS_forM sh.cg (fun p => .tup [wayD a p.1 sh.told (p.1.scale sh.told), gameD a r (2 / p.1.scale sh.told) p.2])
      (fun done ρ' m' => ∃ z1 z2 z3, ρ' = [some (.ptr o), some (.int i), some (mkD mk), some (.ptr l), z1, z2, z3] ∧ m' = mupd m l (.lst (({ sh with cg := done } : Sh).play r i mk |>.games a r))) (ts := [4, 5]) (simI_zip ?_)
    walk_at "sy"
    refine ⟨_, _, sh.ways a, sh.games a r, rfl, .inl .val, .inl .val, ?_, ⟨_, _, _, rfl, rfl⟩, fun _ _ _ _ => ⟨.inl .val, .inl .val⟩, ?_, ?_⟩
    · unfold zipD Sh.ways Sh.games
      rw [List.zip_map', List.map_map]
      rfl
    · rintro done ⟨c, g⟩ rest ρ' m' hsplit ⟨z1, z2, z3, rfl, rfl⟩
      have hmem : (c, g) ∈ sh.cg := by rw [hsplit]; simp
      have hlen := hk.few
      rw [hsplit, List.length_append, List.length_cons] at hlen
      walk_at "sy"
      refine ⟨r, _, g, rfl, fun q ql m1 hq hql hg1 hoff1 => ?_⟩
      have hg1o := hg1.ho
      walk_at "sy"
      have hsb := Claim.scale_bd (hk.cl _ hmem) hk.lo hk.hi
      have hsp := Claim.scale_pos (hk.cl _ hmem) hk.lo
      have htold : sh.told[i]? = some (sh.told.getD i none) := by
        rw [List.getD_eq_getElem?_getD, List.getElem?_eq_getElem hi]
        rfl
      refine ⟨c, sh.told, _, i, mk, _, rfl, htold, hk.cl _ hmem, hsb, hsp, ?_⟩
      walk_at "sy"
      refine ⟨r, _, g, t, _, q, ql, rfl, hg1, hro, hk.gm _ hmem, ht, hl, Claim.cmp_bd (hk.cl _ hmem) hsb hsp, fun m2 hg2 hoff2 => ?_⟩
      refine simS_frzF (f := "drawn_values") hg2.ho hg2.hl rfl (simS_frzO (i := 6) rfl mupd_same ?_)
      rw [mem_back hq hql fun b h1 h2 => (hoff2 b h1 h2).trans (hoff1 b h1 h2)]
      walk_at "sy"
      refine apl2 mupd_same ?_ ?_
      · show List.length (List.map _ (List.map _ done)) < 100000
        rw [List.length_map, List.length_map]
        omega
      refine ⟨_, _, _, rfl, ?_⟩
      rw [mupd_upd]
      simp only [Sh.play, Sh.games, List.map_append, List.map_cons, List.map_nil]
      rfl
    · rintro ρ' m' ⟨z1, z2, z3, rfl, rfl⟩
      refine simS_ret (sim_frzL ?_)
      walk_at "sy"
      rw [mdel_upd hla]
      exact hP
end
end L3

/-! text L3x -/
set_option Elab.async false
set_option linter.all false
set_option maxRecDepth 100000
set_option maxHeartbeats 4000000
namespace L3
open PySem L2
open scoped Rat
local macro_rules | `(tactic| walk_at "ca") => `(tactic| first
  | exact Txt.k_Game (by assumption)
  | exact Txt.n_Game_many (by assumption)
  | exact Txt.n_Game_again (by assumption)
  | exact Txt.n_Game_highest (by assumption)
  | exact Txt.n_Game_rule (by assumption)
  | exact Txt.n_Game_drawn_values (by assumption)
  | exact Txt.n_Game_sum_so_far (by assumption)
  | exact Txt.n_Game_now (by assumption)
  | exact Txt.n_Game_most (by assumption)
  | exact Txt.n_Game_certain (by assumption)
  | exact Txt.k_Way (by assumption)
  | exact Txt.n_Way_claim (by assumption)
  | exact Txt.k_Comparing (by assumption)
  | exact Txt.n_Comparing_claim (by assumption)
  | exact Txt.n_Comparing_told (by assumption)
  | exact Txt.n_Comparing_scale (by assumption)
  | exact Txt.k_Sheet (by assumption)
  | exact Txt.n_Sheet_names (by assumption)
  | exact Txt.n_Sheet_limit (by assumption)
  | exact Txt.n_Sheet_ways (by assumption)
  | exact Txt.n_Sheet_games (by assumption)
  | exact Txt.k_Audit (by assumption)
  | exact Txt.n_Audit_sheets (by assumption)
  | exact Txt.n_Audit_many (by assumption)
  | exact Txt.n_Audit_again (by assumption)
  | exact Txt.n_Audit_most (by assumption)
  | exact Txt.n_Audit_numbers (by assumption)
  | exact Txt.k_Beats (by assumption)
  | exact Txt.n_Beats_one (by assumption)
  | exact Txt.n_Beats_other (by assumption)
  | exact Txt.k_Over (by assumption)
  | exact Txt.n_Over_name (by assumption)
  | exact Txt.n_Over_share (by assumption)
  | exact Txt.k_Under (by assumption)
  | exact Txt.n_Under_name (by assumption)
  | exact Txt.n_Under_share (by assumption)
  | exact Txt.k_Contest (by assumption)
  | exact Txt.n_Contest_names (by assumption)
  | exact Txt.k_Most (by assumption)
  | exact Txt.n_Most_names (by assumption)
  | exact Txt.n_Most_seats (by assumption)
  | exact Txt.k_Portion (by assumption)
  | exact Txt.n_Portion_names (by assumption)
  | exact Txt.n_Portion_share (by assumption)
  | exact Txt.k_Fixed (by assumption)
  | exact Txt.n_Fixed_part (by assumption))
local macro_rules | `(tactic| walk_at "ne") => `(tactic| first
  | assumption
  | (refine Ne.symm ?_; assumption)
  | exact mne (by assumption) (by assumption)
  | exact (mne (by assumption) (by assumption)).symm)
local macro_rules | `(tactic| walk_at "mm") => `(tactic| first
  | assumption
  | exact mupd_same
  | (refine (mupd_ne ?_).trans ?_; (walk_at "ne"); (walk_at "mm")))
local macro_rules | `(tactic| walk_at "s0") => `(tactic| first
  | with_reducible refine simS_seq ?_
  | with_reducible refine simS_ret ?_
  | with_reducible refine simS_retN ?_
  | with_reducible refine simS_set ?_
  | with_reducible refine simS_drop ?_
  | with_reducible refine simS_next ?_
  | with_reducible refine simS_fld ?_
  | with_reducible refine simS_dput ?_
  | with_reducible refine simT_test ?_
  | with_reducible refine simT_B ?_
  | with_reducible refine simT_not ?_
  | with_reducible refine simT_and ?_
  | with_reducible refine simT_or ?_
  | focus ((with_reducible refine sim_var (d := ?_) ?_ ?_); rotate_left 1; exact rfl)
  | with_reducible refine sim_int ?_
  | with_reducible refine sim_bl ?_
  | with_reducible refine sim_str ?_
  | with_reducible refine sim_non ?_
  | with_reducible refine sim_ty ?_
  | with_reducible refine sim_c (Txt.t_NOUGHT_games (by assumption)) ?_
  | with_reducible refine sim_c (Txt.t_ONE_games (by assumption)) ?_
  | with_reducible refine sim_c (Txt.t_ONE_ways (by assumption)) ?_
  | with_reducible refine sim_c (Txt.t_TWO (by assumption)) ?_
  | with_reducible refine sim_c (Txt.t_NOUGHT_claims (by assumption)) ?_
  | with_reducible refine sim_c (Txt.t_HALF (by assumption)) ?_
  | with_reducible refine sim_c (Txt.t_ONE_claims (by assumption)) ?_
  | with_reducible refine sim_ref ?_
  | with_reducible refine sim_op ?_
  | with_reducible refine sim_un ?_
  | with_reducible refine sim_andV ?_
  | with_reducible refine sim_orV ?_
  | with_reducible refine sim_notV ?_
  | with_reducible refine sim_chain ?_
  | with_reducible refine sim_tup ?_
  | with_reducible refine sim_call ?_
  | with_reducible refine sim_callB ?_
  | with_reducible refine sim_fldU ?_
  | with_reducible refine sim_append ?_
  | focus ((with_reducible refine apl (ds := ?_) ?_ ?_); rotate_left 1; walk_at "mm")
  | with_reducible refine sim_methU ?_
  | with_reducible refine sim_cfn ?_
  | with_reducible refine sim_dget ?_
  | with_reducible refine sim_sl ?_
  | with_reducible refine simO_none ?_
  | with_reducible refine simO_some ?_
  | with_reducible refine simA_cons ?_
  | with_reducible refine simA_nil ?_
  | with_reducible refine simG_name ?_
  | with_reducible refine simG_pair ?_
  | with_reducible refine ops_addI ?_
  | with_reducible refine uns_I (g := fun i => -i) ?_
  | with_reducible refine simG_triple ?_
  | with_reducible refine ops_subI ?_
  | with_reducible refine ops_lt ?_
  | with_reducible refine ops_le ?_
  | with_reducible refine ops_gt ?_
  | with_reducible refine ops_ge ?_
  | with_reducible refine ops_eqI ?_
  | with_reducible refine ops_neI ?_
  | with_reducible refine ops_eqSt ?_
  | with_reducible refine ops_eqNS ?_
  | with_reducible refine eq_mk ?_
  | with_reducible refine eq_bl ?_
  | with_reducible refine ops_isN ?_
  | with_reducible refine ops_notN ?_
  | with_reducible refine cs_abs ?_
  | focus ((with_reducible refine cs_isi2 (t := ?_) (b := ?_) ?_ ?_ ?_ ?_); rotate_left 2; exact rfl; exact rfl; exact rfl)
  | with_reducible refine cs_max2 ?_
  | with_reducible refine cs_min2 ?_
  | focus ((with_reducible refine ops_ixT' (d := ?_) ?_ ?_); rotate_left 1; exact rfl)
  | focus ((with_reducible refine fld_o (d := ?_) ?_ ?_ ?_ ?_); rotate_left 1; walk_at "ca"; walk_at "ca"; exact rfl)
  | focus ((with_reducible refine fld_p (C := ?_) (fs := ?_) (d := ?_) ?_ ?_ ?_ ?_ ?_); rotate_left 3; walk_at "mm"; walk_at "ca"; walk_at "ca"; exact rfl)
  | focus ((with_reducible refine And.intro (?_ : Mth _ _ _ _) ?_); exact mth_o (by rfl))
  | focus ((with_reducible refine ⟨mth_p (fs := ?_) ?_ ?_, ?_⟩); rotate_left 1; walk_at "mm"; exact rfl)
  | focus ((with_reducible refine setf (C := ?_) (fs := ?_) ?_ ?_ ?_ ?_ ?_); rotate_left 2; walk_at "mm"; walk_at "ca"; walk_at "ca"; exact of_decide_eq_true rfl)
  | focus ((with_reducible refine dgt (kvs := ?_) (k := ?_) (d := ?_) ?_ ?_ ?_ ?_); rotate_left 3; walk_at "mm"; exact rfl; exact rfl)
  | focus ((with_reducible refine dpt (kvs := ?_) (k := ?_) ?_ ?_ ?_ ?_); rotate_left 2; walk_at "mm"; exact rfl; exact of_decide_eq_true rfl)
  | (with_reducible refine ⟨_, rfl, ?_⟩)
  | (with_reducible refine ⟨rfl, ?_⟩)
  | focus ((with_reducible refine ⟨Nat.le_of_ble_eq_true ?_, ?_⟩); exact rfl)
  | with_reducible refine ite_T ?_
  | with_reducible refine ite_nF ?_
  | with_reducible refine ite_nT ?_
  | with_reducible refine ite_F ?_)
local macro_rules | `(tactic| walk_at "s1") => `(tactic| first
  | walk_at "s0"
  | with_reducible refine simS_if ?_)
local macro_rules | `(tactic| walk_at "sx") => `(tactic| repeat walk_at "s1")
local macro_rules | `(tactic| walk_at "sy") => `(tactic| repeat walk_at "s0")

section
variable {P : Program} {w : World} {K : PySem.W.Frag} {mg : Str → Option Value} {base : Heap} {a : Adr}

/-! L3x: audits of the program. -/
structure Au where
  r : Rl
  most : Nat
  nums : List Nat
abbrev auFs (u : Au) (sh : D) (nl : Addr) : List (Str × D) := [("sheets", sh), ("many", .int u.r.many), ("again", .bl u.r.again), ("most", .int u.most), ("numbers", .ptr nl)]
structure AuAt (a : Adr) (u : Au) (o nl : Addr) (ss : List (Addr × Sh)) (m : Mem) : Prop where
  ho : m o = some (.ins a.Audit (auFs u (.lst (ss.map fun p => .ptr p.1)) nl))
  hn : m nl = some (.lst (u.nums.map fun n : Nat => D.int n))
  hs : ∀ p ∈ ss, m p.1 = some (.ins a.Sheet (p.2.fs a u.r))
  nd : (ss.map (·.1)).Nodup
  few : ss.length ≤ 2
  lo : 1 ≤ ss.length
def vd (r : Rl) (most turns : Nat) (sures : List Bool) : Str := if sures.all id = true then "sure" else if turns = most ∨ (r.again = false ∧ turns = r.many) then "count" else "on"
def suresOf (ss : List (Addr × Sh)) : List Bool := ss.map fun p => p.2.sure
def Good (r : Rl) (t : Nat) (ss : List (Addr × Sh)) : Prop := ∀ p ∈ ss, p.2.Ok r t
/-- a mark that a sheet takes -/
def MkOk (s : Sh) (mk : Mark) : Prop := mk = none ∨ mk = some ("" : Str) ∨ ∃ x ∈ s.names, mk = some x
def cSureOf (a : Adr) : Ctr := fun ds m P => ∃ u o nl ss t, ds = [.ptr o] ∧ AuAt a u o nl ss m ∧ Good u.r t ss ∧ t ≤ 12 ∧ P (.tup (ss.map fun p => .bl p.2.sure)) m
def cWorths (a : Adr) : Ctr := fun ds m P => ∃ u o nl ss t, ds = [.ptr o] ∧ AuAt a u o nl ss m ∧ Good u.r t ss ∧ P (.tup (ss.map fun p => .tup (p.2.cg.map fun q => optD q.2.now))) m
def cVerdict (a : Adr) : Ctr := fun ds m P => ∃ u o nl ss t, ds = [.ptr o] ∧ AuAt a u o nl ss m ∧ Good u.r t ss ∧ t ≤ 12 ∧ P (.str (vd u.r u.most u.nums.length (suresOf ss))) m
def cIsNumber (a : Adr) : Ctr := fun ds m P => ∃ u o nl ss, ∃ n : Nat, ds = [.ptr o, .int n] ∧ AuAt a u o nl ss m ∧ n < u.r.many ∧ (u.r.again = true ∨ n ∉ u.nums) ∧ P (.bl true) m
def cIsBallot (a : Adr) : Ctr := fun ds m P => ∃ u o nl ss b, ds = [.ptr o, b] ∧ AuAt a u o nl ss m ∧ (b = .non ∨ ∃ mks : List Mark, b = .tup (mks.map mkD) ∧ mks.length = ss.length ∧ ∀ q ∈ mks.zip ss, MkOk q.2.2 q.1) ∧ P (.bl true) m
abbrev s_Audit_sure_of : Stmt := inClass (top 34) 1
theorem sc_Audit_sure_of : FnScope ["self", "sheet"] ["self"] (defScope s_Audit_sure_of) := ⟨rfl, rfl, rfl, by decide +kernel, rfl, by decide +kernel, by decide +kernel⟩
theorem ok_Audit_sure_of {f : Addr} {fd : FuncData} (F : Fun K "sure_of" "Audit.sure_of" s_Audit_sure_of f fd) (T : Txt K mg a) (h_is_sure : MetC P w K mg base 5 a.Sheet "is_sure" (cIsSure a)) : FnOk P w K mg base CX0 (5 + 1) f fd ["self"] (spOf K (cSureOf a)) := by
  refine def_ok F sc_Audit_sure_of ?_ ?_
  · rintro ds m PP ⟨u, o, nl, ss, t, rfl, hu, hk, ht, hP⟩
    rfl
  · rintro cdv A outer s H E hr ds m PP ⟨u, o, nl, ss, t, rfl, hu, hk, ht, hP⟩
    refine ⟨_, (pss_one (ps_ret (pe_callTy (pk_tuple T) (by rfl) T.b_tuple (by decide +kernel) (pa_cons (pe_lc (own := [("sheet", 1)]) (g := (gName 1)) (tt := tYes) (by rfl) sc_Audit_sure_of.nd (pk_seq T (pk_fld T (pv 0) rfl)) (blkOk_by (by kernel_rfl)) (fun _ _ _ _ _ => by exact (pg_name (i := 1) sc_Audit_sure_of.nd rfl (by first | exact Or.inl rfl | exact Or.inr rfl))) (fun _ _ _ _ _ => by exact pts_nil) (fun _ _ _ _ _ => by exact (pk_met0 h_is_sure hr (by decide) (pv 1)))) pa_nil)))), ?_⟩
    have ho := hu.ho
    walk_at "sy"
    refine sim_lcM ss (fun p => .ptr p.1) (fun p => .bl p.2.sure) (ts := [1]) (by decide) (simI_seq ?_)
    walk_at "sy"
    refine ⟨_, .inl .val, rfl, by have := hu.few; omega, .inl .val, fun p hp => ?_, ?_⟩
    · have hp1 := hu.hs p hp
      walk_at "sy"
      exact ⟨p.1, u.r, t, p.2, rfl, hp1, hk p hp, ht, rfl, rfl⟩
    walk_at "sy"
    exact cs_tuple (.inl .val) hP
abbrev s_Audit_worths : Stmt := inClass (top 34) 2
theorem sc_Audit_worths : FnScope ["self", "game", "sheet"] ["self"] (defScope s_Audit_worths) := ⟨rfl, rfl, rfl, by decide +kernel, rfl, by decide +kernel, by decide +kernel⟩
theorem ok_Audit_worths {f : Addr} {fd : FuncData} (F : Fun K "worths" "Audit.worths" s_Audit_worths f fd) (T : Txt K mg a) (h_worth : MetC P w K mg base 1 a.Game "worth" (cWorth a)) : FnOk P w K mg base CX0 (1 + 1) f fd ["self"] (spOf K (cWorths a)) := by
  refine def_ok F sc_Audit_worths ?_ ?_
  · rintro ds m PP ⟨u, o, nl, ss, t, rfl, hu, hk, hP⟩
    rfl
  · rintro cdv A outer s H E hr ds m PP ⟨u, o, nl, ss, t, rfl, hu, hk, hP⟩
    refine ⟨_, (pss_one (ps_ret (pe_callTy (pk_tuple T) (by rfl) T.b_tuple (by decide +kernel) (pa_cons (pe_lc (own := [("sheet", 2)]) (g := (gName 2)) (tt := tYes) (by rfl) sc_Audit_worths.nd (pk_seq T (pk_fld T (pv 0) rfl)) (blkOk_by (by kernel_rfl)) (fun _ _ _ _ _ => by exact (pg_name (i := 2) sc_Audit_worths.nd rfl (by first | exact Or.inl rfl | exact Or.inr rfl))) (fun _ _ _ _ _ => by exact pts_nil) (fun _ _ _ _ _ => by exact (pe_callTy (pk_tuple T) (by rfl) T.b_tuple (by decide +kernel) (pa_cons (pe_lc (own := [("game", 1)]) (g := (gName 1)) (tt := tYes) (by rfl) sc_Audit_worths.nd (pk_seq T (pk_fld T (pv 2) rfl)) (blkOk_by (by kernel_rfl)) (fun _ _ _ _ _ => by exact (pg_name (i := 1) sc_Audit_worths.nd rfl (by first | exact Or.inl rfl | exact Or.inr rfl))) (fun _ _ _ _ _ => by exact pts_nil) (fun _ _ _ _ _ => by exact (pk_met0 h_worth hr (by decide) (pv 1)))) pa_nil)))) pa_nil)))), ?_⟩
    have ho := hu.ho
    walk_at "sy"
    refine sim_lcM ss (fun p => .ptr p.1) (fun p => .tup (p.2.cg.map fun q => optD q.2.now)) (ts := [2]) (by decide) (simI_seq ?_)
    walk_at "sy"
    refine ⟨_, .inl .val, rfl, by have := hu.few; omega, .inl .val, fun p hp => ?_, ?_⟩
    · have hp1 := hu.hs p hp
      walk_at "sy"
      refine sim_lcM p.2.cg (fun q => gameD a u.r (2 / q.1.scale p.2.told) q.2) (fun q => optD q.2.now) (ts := [1]) (by decide) (simI_seq ?_)
      walk_at "sy"
      refine ⟨_, .inl .val, rfl, by have := (hk p hp).few; omega, .inl .val, fun q hq => ?_, ?_⟩
      · walk_at "sy"
        exact ⟨_, _, q.2, rfl, rfl, rfl⟩
      walk_at "sy"
      exact cs_tuple (.inl .val) ⟨rfl, rfl⟩
    walk_at "sy"
    exact cs_tuple (.inl .val) hP
abbrev s_Audit_verdict : Stmt := inClass (top 34) 3
theorem sc_Audit_verdict : FnScope ["self"] ["self"] (defScope s_Audit_verdict) := ⟨rfl, rfl, rfl, by decide +kernel, rfl, by decide +kernel, by decide +kernel⟩
theorem ok_Audit_verdict {f : Addr} {fd : FuncData} (F : Fun K "verdict" "Audit.verdict" s_Audit_verdict f fd) (T : Txt K mg a) (h_sure_of : MetC P w K mg base 6 a.Audit "sure_of" (cSureOf a)) : FnOk P w K mg base CX0 (6 + 1) f fd ["self"] (spOf K (cVerdict a)) := by
  refine def_ok F sc_Audit_verdict ?_ ?_
  · rintro ds m PP ⟨u, o, nl, ss, t, rfl, hu, hk, ht, hP⟩
    rfl
  · rintro cdv A outer s H E hr ds m PP ⟨u, o, nl, ss, t, rfl, hu, hk, ht, hP⟩
    refine ⟨_, (pss_cons (ps_if (pt_val (pe_callB (pk_all T) (by rfl) T.b_all (by decide +kernel) (pa_cons (pk_met0 h_sure_of hr (by decide) (pv 0)) pa_nil))) (pss_one (ps_ret pe_str)) pss_nil)
      (pss_cons (ps_if (PW.pt (pw_or (pt_cmpR (pk_eq T hr.units) (pe_callB (pk_len T) (by rfl) T.b_len (by decide +kernel) (pa_cons (pk_fld T (pv 0) rfl) pa_nil)) (pk_fld T (pv 0) rfl) (nomark _)) (pw_or1 (PW.pt (pw_and (pt_not (pt_val (pk_fld T (pv 0) rfl))) (pw_and1 (pt_cmpR (pk_eq T hr.units) (pe_callB (pk_len T) (by rfl) T.b_len (by decide +kernel) (pa_cons (pk_fld T (pv 0) rfl) pa_nil)) (pk_fld T (pv 0) rfl) (nomark _)))))))) (pss_one (ps_ret pe_str)) pss_nil)
      (pss_one (ps_ret pe_str)))), ?_⟩
    have ho := hu.ho
    have hn := hu.hn
    walk_at "sx"
    refine ⟨u, o, nl, ss, t, rfl, hu, hk, ht, ?_⟩
    walk_at "sx"
    refine cs_all (bs := suresOf ss) (.inr (by unfold suresOf; rw [List.map_map]; rfl)) ?_
    walk_at "sx"
    unfold vd at hP
    cases hsu : (suresOf ss).all id with
    | true =>
      rw [hsu, if_pos rfl] at hP
      refine ite_t rfl ?_
      walk_at "sx"
      exact hP
    | false =>
      rw [hsu, if_neg Bool.false_ne_true] at hP
      refine ite_f rfl ?_
      walk_at "sx"
      refine cs_len (.inl (.mut hn)) ?_
      rw [List.length_map]
      walk_at "sx"
      refine ite_d (fun h => ?_) (fun h => ?_)
      · walk_at "sx"
        rw [if_pos (.inl (by omega))] at hP
        exact hP
      · rcases Bool.eq_false_or_eq_true u.r.again with hag | hag
        · walk_at "sx"
          refine ite_f (by rw [hag]; rfl) ?_
          walk_at "sx"
          rw [if_neg (by rw [hag]; simp; omega)] at hP
          exact hP
        · walk_at "sx"
          refine ite_t (by rw [hag]; rfl) ?_
          walk_at "sx"
          refine cs_len (.inl (.mut hn)) ?_
          rw [List.length_map]
          walk_at "sx"
          refine ite_d (fun h2 => ?_) (fun h2 => ?_)
          · walk_at "sx"
            rw [if_pos (.inr ⟨hag, by omega⟩)] at hP
            exact hP
          · walk_at "sx"
            rw [if_neg (by rintro (q | ⟨_, q⟩) <;> omega)] at hP
            exact hP
abbrev s_Audit_is_number : Stmt := inClass (top 34) 4
theorem sc_Audit_is_number : FnScope ["self", "thing"] ["self", "thing"] (defScope s_Audit_is_number) := ⟨rfl, rfl, rfl, by decide +kernel, rfl, by decide +kernel, by decide +kernel⟩
theorem ok_Audit_is_number {f : Addr} {fd : FuncData} (F : Fun K "is_number" "Audit.is_number" s_Audit_is_number f fd) (T : Txt K mg a)  : FnOk P w K mg base CX0 (0 + 1) f fd ["self", "thing"] (spOf K (cIsNumber a)) := by
  refine def_ok F sc_Audit_is_number ?_ ?_
  · rintro ds m PP ⟨u, o, nl, ss, n, rfl, hu, hlt, hin, hP⟩
    rfl
  · rintro cdv A outer s H E hr ds m PP ⟨u, o, nl, ss, n, rfl, hu, hlt, hin, hP⟩
    refine ⟨_, (pss_cons (ps_if (PW.pt (pw_or (pt_not (pt_val (pe_callB (pk_isi T) (by rfl) T.b_isinstance (by decide +kernel) (pa_cons (pv 1) (pa_cons (pe_bltn (v := .ty "int") (by rfl) T.b_int (by decide +kernel) rfl) pa_nil))))) (pw_or (pt_val (pe_callB (pk_isi T) (by rfl) T.b_isinstance (by decide +kernel) (pa_cons (pv 1) (pa_cons (pe_bltn (v := .ty "bool") (by rfl) T.b_bool (by decide +kernel) rfl) pa_nil)))) (pw_or1 (pt_not (pt_chain op_le op_lt pe_int (pv 1) (pk_fld T (pv 0) rfl))))))) (pss_one (ps_ret pe_bl)) pss_nil)
      (pss_one (ps_ret (pe_or (pk_fld T (pv 0) rfl) (pe_one (pe_cmpR (pk_notIn T) (pv 1) (pk_fld T (pv 0) rfl) (by with_unfolding_all rfl))))))), ?_⟩
    have ho := hu.ho
    have hn := hu.hn
    walk_at "sx"
    refine ite_f (by decide) ?_
    walk_at "sx"
    refine ite_y (by omega) ?_
    walk_at "sx"
    refine ite_nn (by omega) ?_
    walk_at "sx"
    rcases Bool.eq_false_or_eq_true u.r.again with hag | hag
    · refine ite_t hag ?_
      exact hP
    refine ite_f hag ?_
    walk_at "sx"
    have hin2 : n ∉ u.nums := by
      rcases hin with q | q
      · rw [hag] at q
        cases q
      · exact q
    have e0 : (u.nums.map fun n : Nat => D.int n) = (u.nums.map fun n : Nat => (n : Int)).map D.int := by
      rw [List.map_map]
      rfl
    refine ops_in_ints (ss := u.nums.map fun n : Nat => (n : Int)) (.inl (by rw [e0] at hn; exact .mut hn)) ?_
    have e : ¬ ((n : Int) ∈ u.nums.map fun n : Nat => (n : Int)) := by
      intro q
      obtain ⟨k, hk, e2⟩ := List.mem_map.mp q
      have : k = n := by omega
      subst this
      exact hin2 hk
    rw [if_pos rfl, decide_eq_false e]
    exact hP
abbrev s_Audit_is_ballot : Stmt := inClass (top 34) 5
theorem sc_Audit_is_ballot : FnScope ["self", "thing", "mark", "sheet"] ["self", "thing"] (defScope s_Audit_is_ballot) := ⟨rfl, rfl, rfl, by decide +kernel, rfl, by decide +kernel, by decide +kernel⟩
theorem ok_Audit_is_ballot {f : Addr} {fd : FuncData} (F : Fun K "is_ballot" "Audit.is_ballot" s_Audit_is_ballot f fd) (T : Txt K mg a) (h_is_mark : CalC P w K mg base 1 "is_mark" (cIsMark)) : FnOk P w K mg base CX0 (1 + 1) f fd ["self", "thing"] (spOf K (cIsBallot a)) := by
  refine def_ok F sc_Audit_is_ballot ?_ ?_
  · rintro ds m PP ⟨u, o, nl, ss, b, rfl, hu, hb, hP⟩
    rfl
  · rintro cdv A outer s H E hr ds m PP ⟨u, o, nl, ss, b, rfl, hu, hb, hP⟩
    refine ⟨_, (pss_cons (ps_if (pt_cmpR op_isN (pv 1) pe_non (nomark _)) (pss_one (ps_ret pe_bl)) pss_nil)
      (pss_cons (ps_if (PW.pt (pw_or (pt_not (pt_val (pe_callB (pk_isi T) (by rfl) T.b_isinstance (by decide +kernel) (pa_cons (pv 1) (pa_cons (pe_bltn (v := .ty "tuple") (by rfl) T.b_tuple (by decide +kernel) rfl) pa_nil))))) (pw_or1 (pt_cmpR (pk_ne T hr.units) (pe_callB (pk_len T) (by rfl) T.b_len (by decide +kernel) (pa_cons (pv 1) pa_nil)) (pe_callB (pk_len T) (by rfl) T.b_len (by decide +kernel) (pa_cons (pk_fld T (pv 0) rfl) pa_nil)) (nomark _))))) (pss_one (ps_ret pe_bl)) pss_nil)
      (pss_one (ps_ret (pe_callB (pk_all T) (by rfl) T.b_all (by decide +kernel) (pa_cons (pe_lc (own := [("mark", 2), ("sheet", 3)]) (g := (gTup K 2 (gCons (gName 2) (gCons (gName 3) gNil)))) (tt := tYes) (by rfl) sc_Audit_is_ballot.nd (pk_zip T (by rfl) T.b_zip (pa_cons (pv 1) (pa_cons (pk_fld T (pv 0) rfl) pa_nil))) (blkOk_by (by kernel_rfl)) (fun _ _ _ _ _ => by exact (pk_gtup T (n := 2) rfl (pgs_cons (pg_name (i := 2) sc_Audit_is_ballot.nd rfl (by first | exact Or.inl rfl | exact Or.inr rfl)) (pgs_cons (pg_name (i := 3) sc_Audit_is_ballot.nd rfl (by first | exact Or.inl rfl | exact Or.inr rfl)) pgs_nil)))) (fun _ _ _ _ _ => by exact pts_nil) (fun _ _ _ _ _ => by exact (pk_cal h_is_mark hr (by decide) (pa_cons (pv 2) (pa_cons (pk_fld T (pv 3) rfl) pa_nil))))) pa_nil)))))), ?_⟩
    have ho := hu.ho
    rcases hb with rfl | ⟨mks, rfl, hlen, hmk⟩
    · walk_at "sx"
      refine ite_t rfl ?_
      walk_at "sx"
      exact hP
    walk_at "sx"
    refine ite_f rfl ?_
    walk_at "sx"
    refine cs_len (.inr rfl) ?_
    rw [List.length_map]
    walk_at "sx"
    refine cs_len (.inl .val) ?_
    rw [List.length_map]
    walk_at "sx"
    refine ite_nn (by omega) ?_
    walk_at "sx"
    refine sim_lcM (mks.zip ss) (fun q => .tup [mkD q.1, .ptr q.2.1]) (fun q => .bl true) (ts := [2, 3]) (by decide) (simI_zip ?_)
    walk_at "sx"
    refine ⟨_, _, mks.map mkD, ss.map fun p => .ptr p.1, rfl, .inr rfl, .inl .val, ?_, by have := hu.few; rw [List.length_zip]; omega, ⟨.inr rfl, .inl .val⟩, fun q hq => ?_, ?_⟩
    · unfold zipD
      rw [List.zip_map, List.map_map]
      rfl
    · have hp1 := hu.hs q.2 (List.of_mem_zip hq).2
      walk_at "sx"
      exact ⟨_, _, rfl, hmk q hq, rfl, rfl⟩
    walk_at "sx"
    refine cs_all (bs := (mks.zip ss).map fun _ => true) (.inl (by rw [List.map_map]; exact .val)) ?_
    rw [List.all_map]
    have e : (mks.zip ss).all (id ∘ fun _ => true) = true := by simp
    rw [e]
    exact hP
theorem ins_ne {m : Mem} {x y C C' : Addr} {fs fs' : List (Str × D)} (h1 : m x = some (.ins C fs)) (h2 : m y = some (.ins C' fs')) (hl : (fs.length == fs'.length) = false) : x ≠ y := fun e => by
  rw [e, h2] at h1
  have := (MO.ins.inj (Option.some.inj h1)).2
  rw [this] at hl
  simp at hl
def playL (r : Rl) (n : Nat) (ss : List (Addr × Sh)) (mks : List Mark) : List (Addr × Sh) := (ss.zip mks).map fun q => (q.1.1, q.1.2.play r n q.2)
theorem Sh.play_ways (a : Adr) (r : Rl) (i : Nat) (mk : Mark) (s : Sh) : (s.play r i mk).ways a = s.ways a := by
  unfold Sh.play Sh.ways
  rw [List.map_map]
  rfl
theorem Sh.play_ok {r : Rl} {t i : Nat} {mk : Mark} {s : Sh} (hro : r.Ok) (hk : s.Ok r t) (hl : r.again = false → t < r.many) : (s.play r i mk).Ok r (t + 1) where
  lim := hk.lim
  lo := hk.lo
  hi := hk.hi
  cl := fun p hp => by
    obtain ⟨q, hq, rfl⟩ := List.mem_map.mp hp
    exact hk.cl q hq
  gm := fun p hp => by
    obtain ⟨q, hq, rfl⟩ := List.mem_map.mp hp
    exact Gm.play_ok hro (hk.gm q hq) hl (Claim.cmp_bd (hk.cl q hq) (Claim.scale_bd (hk.cl q hq) hk.lo hk.hi) (Claim.scale_pos (hk.cl q hq) hk.lo))
  few := by
    show (List.map _ s.cg).length ≤ 3
    rw [List.length_map]
    exact hk.few
theorem Good.play {r : Rl} {t n : Nat} {ss : List (Addr × Sh)} {mks : List Mark} (hro : r.Ok) (hk : Good r t ss) (hl : r.again = false → t < r.many) : Good r (t + 1) (playL r n ss mks) := fun p hp => by
  obtain ⟨q, hq, rfl⟩ := List.mem_map.mp hp
  exact Sh.play_ok hro (hk q.1 (List.of_mem_zip hq).1) hl
theorem playL_fst {r : Rl} {n : Nat} {ss : List (Addr × Sh)} {mks : List Mark} (h : mks.length = ss.length) : (playL r n ss mks).map (·.1) = ss.map (·.1) := by
  unfold playL
  rw [List.map_map]
  have e : ((ss.zip mks).map Prod.fst).map (·.1) = ss.map (·.1) := by rw [List.map_fst_zip (by omega)]
  rw [← e, List.map_map]
  rfl
def cDraw (a : Adr) : Ctr := fun ds m P => ∃ u o nl ss t, ∃ (n : Nat) (b : D) (mks : List Mark), ds = [.ptr o, .int n, b] ∧ AuAt a u o nl ss m ∧ Rl.Ok u.r ∧ Good u.r t ss ∧ t < 12 ∧ u.nums.length = t ∧ (u.r.again = false → t < u.r.many) ∧ vd u.r u.most u.nums.length (suresOf ss) = "on" ∧
  n < u.r.many ∧ (u.r.again = true ∨ n ∉ u.nums) ∧ mks.length = ss.length ∧ (∀ p ∈ ss, n < p.2.told.length) ∧ ((b = .non ∧ mks = List.replicate ss.length (some ("?" : Str))) ∨ (b = .tup (mks.map mkD) ∧ ∀ q ∈ mks.zip ss, MkOk q.2.2 q.1)) ∧
  ∀ m', AuAt a { u with nums := u.nums ++ [n] } o nl (playL u.r n ss mks) m' → (∀ b, b ≠ nl → b ∉ ss.map (·.1) → m' b = m b) → P (.str (vd u.r u.most (u.nums.length + 1) (suresOf (playL u.r n ss mks)))) m'
abbrev s_Audit_draw : Stmt := inClass (top 34) 6
theorem sc_Audit_draw : FnScope ["self", "number", "ballot", "marks", "rows", "sheet", "mark", "games"] ["self", "number", "ballot"] (defScope s_Audit_draw) := ⟨rfl, rfl, rfl, by decide +kernel, rfl, by decide +kernel, by decide +kernel⟩
theorem ok_Audit_draw {f : Addr} {fd : FuncData} (F : Fun K "draw" "Audit.draw" s_Audit_draw f fd) (T : Txt K mg a) (h_verdict : MetC P w K mg base 7 a.Audit "verdict" (cVerdict a)) (h_is_number : MetC P w K mg base 1 a.Audit "is_number" (cIsNumber a)) (h_is_ballot : MetC P w K mg base 2 a.Audit "is_ballot" (cIsBallot a)) (h_played : MetC P w K mg base 8 a.Sheet "played" (cPlayed a)) : FnOk P w K mg base CX0 (8 + 1) f fd ["self", "number", "ballot"] (spOf K (cDraw a)) := by
  refine def_ok F sc_Audit_draw ?_ ?_
  · rintro ds m PP ⟨u, o, nl, ss, t, n, b, mks, rfl, hu, hro, hk, ht, hnl, hl, hv, hlt, hin, hlen, htold, hb, hP⟩
    rfl
  · rintro cdv A outer s H E hr ds m PP ⟨u, o, nl, ss, t, n, b, mks, rfl, hu, hro, hk, ht, hnl, hl, hv, hlt, hin, hlen, htold, hb, hP⟩
    refine ⟨_, (pss_cons (ps_if (pt_cmpR (pk_ne T hr.units) (pk_met0 h_verdict hr (by decide) (pv 0)) pe_str (nomark _)) (pss_one ps_never) pss_nil)
      (pss_cons (ps_if (pt_not (pt_val (pk_met h_is_number hr (by decide) (pv 0) (pa_cons (pv 1) pa_nil)))) (pss_one ps_never) pss_nil)
      (pss_cons (ps_if (pt_not (pt_val (pk_met h_is_ballot hr (by decide) (pv 0) (pa_cons (pv 2) pa_nil)))) (pss_one ps_never) pss_nil)
      (pss_cons (ps_set (i := 3) sc_Audit_draw.nd rfl (by first | exact Or.inl rfl | exact Or.inr rfl) (pv 2))
      (pss_cons (ps_if (pt_cmpR op_isN (pv 2) pe_non (nomark _)) (pss_one (ps_set (i := 3) sc_Audit_draw.nd rfl (by first | exact Or.inl rfl | exact Or.inr rfl) (pe_op (pk_mul T) (pe_tup (pa_cons (pe_const (by rfl) T.g_LACKS) pa_nil)) (pe_callB (pk_len T) (by rfl) T.b_len (by decide +kernel) (pa_cons (pk_fld T (pv 0) rfl) pa_nil))))) pss_nil)
      (pss_cons (ps_setLc (i := 4) (own := [("sheet", 5), ("mark", 6)]) (g := (gTup K 2 (gCons (gName 5) (gCons (gName 6) gNil)))) (tt := tYes) (by rfl) sc_Audit_draw.nd rfl rfl (sw_true rfl rfl rfl (by decide +kernel)) (pk_zip T (by rfl) T.b_zip (pa_cons (pk_fld T (pv 0) rfl) (pa_cons (pv 3) pa_nil))) (blkOk_by (by kernel_rfl)) (fun _ _ _ _ _ => by exact (pk_gtup T (n := 2) rfl (pgs_cons (pg_name (i := 5) sc_Audit_draw.nd rfl (by first | exact Or.inl rfl | exact Or.inr rfl)) (pgs_cons (pg_name (i := 6) sc_Audit_draw.nd rfl (by first | exact Or.inl rfl | exact Or.inr rfl)) pgs_nil)))) (fun _ _ _ _ _ => by exact pts_nil) (fun _ _ _ _ _ => by exact (pk_met h_played hr (by decide) (pv 5) (pa_cons (pv 1) (pa_cons (pv 6) pa_nil)))))
      (pss_cons (ps_for PassesOwn.never rfl (pk_zip T (by rfl) T.b_zip (pa_cons (pk_fld T (pv 0) rfl) (pa_cons (pv 4) pa_nil))) (pk_gtup T (n := 2) rfl (pgs_cons (pg_name (i := 5) sc_Audit_draw.nd rfl (by first | exact Or.inl rfl | exact Or.inr rfl)) (pgs_cons (pg_name (i := 7) sc_Audit_draw.nd rfl (by first | exact Or.inl rfl | exact Or.inr rfl)) pgs_nil))) (pss_one (pk_sfld T (pv 5) (pv 7) rfl)))
      (pss_cons (ps_expr (pk_append T (pk_fld T (pv 0) rfl) (pa_cons (pv 1) pa_nil)))
      (pss_one (ps_ret (pk_met0 h_verdict hr (by decide) (pv 0)))))))))))), ?_⟩
    have ho := hu.ho
    have hn := hu.hn
    walk_at "sx"
    refine ⟨u, o, nl, ss, t, rfl, hu, hk, by omega, ?_⟩
    rw [hv]
    walk_at "sx"
    refine ops_neSt ?_
    walk_at "sx"
    refine ite_nn rfl ?_
    walk_at "sx"
    refine ⟨u, o, nl, ss, n, rfl, hu, hlt, hin, ?_⟩
    walk_at "sx"
    refine ⟨u, o, nl, ss, b, rfl, hu, ?_, ?_⟩
    · rcases hb with ⟨rfl, _⟩ | ⟨rfl, h⟩
      · exact .inl rfl
      · exact .inr ⟨mks, rfl, hlen, h⟩
    walk_at "sy"
    refine simS_ifJ (B := fun ρ1 m1 => ∃ z1 z2 z3 z4, ρ1 = [some (.ptr o), some (.int n), some b, some (.tup (mks.map mkD)), z1, z2, z3, z4] ∧ m1 = m) ?_ ?_
    · walk_at "sy"
      rcases hb with ⟨rfl, rfl⟩ | ⟨rfl, h⟩
      · refine ite_t rfl ?_
        walk_at "sy"
        refine cs_len (.inl .val) ?_
        rw [List.length_map]
        refine ops_mulT hu.lo (by have := hu.few; omega) ?_
        rw [List.map_replicate]
        exact ⟨_, _, _, _, rfl, rfl⟩
      · refine ite_f rfl ?_
        walk_at "sy"
        exact ⟨_, _, _, _, rfl, rfl⟩
    rintro ρ1 m1 ⟨z1, z2, z3, z4, rfl, rfl⟩
    walk_at "sy"
    have hfew := hu.few
    have hzl : (ss.zip mks).length = ss.length := by rw [List.length_zip]; omega
    refine sim_lcM (ss.zip mks) (fun q => .tup [.ptr q.1.1, mkD q.2]) (fun q => .lst ((q.1.2.play u.r n q.2).games a u.r)) (ts := [5, 6]) (by decide) (simI_zip ?_)
    walk_at "sy"
    refine ⟨_, _, ss.map fun p => .ptr p.1, mks.map mkD, rfl, .inl .val, .inr rfl, ?_, by omega, ⟨.inl .val, .inr rfl⟩, fun q hq => ?_, ?_⟩
    · unfold zipD
      rw [List.zip_map, List.map_map]
      rfl
    · have hq1 := (List.of_mem_zip hq).1
      have hp1 := hu.hs q.1 hq1
      walk_at "sy"
      exact ⟨q.1.1, u.r, t, n, q.1.2, q.2, rfl, hp1, hro, hk _ hq1, ht, hl, htold _ hq1, rfl, rfl⟩
    walk_at "sy"
    have hone : o ≠ nl := fun e => by
      rw [e, hn] at ho
      cases ho
    have hno : ∀ p ∈ ss, p.1 ≠ nl := fun p hp e => by
      have := hu.hs p hp
      rw [e, hn] at this
      cases this
    refine simS_forM (ss.zip mks) (fun q => .tup [.ptr q.1.1, .lst ((q.1.2.play u.r n q.2).games a u.r)])
      (fun done ρ' m' => ∃ z1 z2 z3, ρ' = [some (.ptr o), some (.int n), some b, some (.tup (mks.map mkD)), some (.lst ((ss.zip mks).map fun q => .lst ((q.1.2.play u.r n q.2).games a u.r))), z1, z2, z3] ∧
        m' o = some (.ins a.Audit (auFs u (.lst (ss.map fun p => .ptr p.1)) nl)) ∧ (∀ q ∈ done, m' q.1.1 = some (.ins a.Sheet ((q.1.2.play u.r n q.2).fs a u.r))) ∧ ∀ c, c ∉ done.map (·.1.1) → m' c = m1 c) (ts := [5, 7]) (simI_zip ?_)
    walk_at "sy"
    refine ⟨_, _, ss.map fun p => .ptr p.1, (ss.zip mks).map fun q => .lst ((q.1.2.play u.r n q.2).games a u.r), rfl, .inl .val, .inl .val, ?_, ⟨_, _, _, rfl, ho, fun q hq => by simp at hq, fun _ _ => rfl⟩, fun _ _ _ _ => ⟨.inl .val, .inl .val⟩, ?_, ?_⟩
    · unfold zipD
      have e : ss = (ss.zip mks).map Prod.fst := (List.map_fst_zip (by omega)).symm
      have e2 : (ss.map fun p => D.ptr p.1) = (ss.zip mks).map fun q => D.ptr q.1.1 := by
        conv => lhs; rw [e]
        rw [List.map_map]
        rfl
      rw [e2, List.zip_map', List.map_map]
      rfl
    · rintro done ⟨p, mk⟩ rest ρ' m' hsplit ⟨y1, y2, y3, rfl, ho', hd', hf'⟩
      have hmem : (p, mk) ∈ ss.zip mks := by rw [hsplit]; simp
      have hnd : ((ss.zip mks).map (·.1.1)).Nodup := by
        have e : ss = (ss.zip mks).map Prod.fst := (List.map_fst_zip (by omega)).symm
        have := hu.nd
        rw [e, List.map_map] at this
        exact this
      rw [hsplit, List.map_append, List.map_cons] at hnd
      have hnew : p.1 ∉ done.map (·.1.1) := fun q => by
        have := (List.nodup_append.mp hnd).2.2 _ q p.1 (by simp)
        exact this rfl
      have hp1 : m' p.1 = some (.ins a.Sheet (p.2.fs a u.r)) := (hf' _ hnew).trans (hu.hs p (List.of_mem_zip hmem).1)
      have hop : o ≠ p.1 := ins_ne ho' hp1 rfl
      walk_at "sy"
      have ew : (p.2.play u.r n mk).ways a = p.2.ways a := Sh.play_ways a u.r n mk p.2
      refine ⟨_, _, _, rfl, ?_, ?_, ?_⟩
      · rw [mupd_ne hop]
        exact ho'
      · intro q hq
        rcases List.mem_append.mp hq with hq | hq
        · have hqp : q.1.1 ≠ p.1 := fun e => hnew (e ▸ List.mem_map_of_mem hq)
          rw [mupd_ne hqp]
          exact hd' q hq
        · have hq : q = (p, mk) := by simpa using hq
          subst hq
          rw [mupd_same]
          simp only [Sh.fs, ew]
          rfl
      · intro c hc
        rw [List.map_append, List.mem_append] at hc
        have hcp : c ≠ p.1 := fun e => hc (.inr (by rw [e]; simp))
        rw [mupd_ne hcp]
        exact hf' c fun q => hc (.inl q)
    · rintro ρ' m' ⟨y1, y2, y3, rfl, ho', hd', hf'⟩
      have hn' : m' nl = some (.lst (u.nums.map fun n : Nat => D.int n)) := by
        rw [hf' nl fun q => ?_]
        · exact hn
        · obtain ⟨p, hp, e⟩ := List.mem_map.mp q
          exact hno p.1 (List.of_mem_zip hp).1 e
      walk_at "sy"
      refine apl2 hn' (by rw [List.length_map, hnl]; omega) ?_
      walk_at "sy"
      have hu2 : AuAt a { u with nums := u.nums ++ [n] } o nl (playL u.r n ss mks) (mupd m' nl (.lst ((u.nums.map fun n : Nat => D.int n) ++ [.int n]))) := by
        refine ⟨?_, ?_, ?_, ?_, ?_, ?_⟩
        · rw [mupd_ne hone, ho']
          have e : ((playL u.r n ss mks).map fun p => D.ptr p.1) = ss.map fun p => D.ptr p.1 := by
            have e1 : ((playL u.r n ss mks).map fun p => D.ptr p.1) = ((playL u.r n ss mks).map (·.1)).map D.ptr := by rw [List.map_map]; rfl
            have e2 : (ss.map fun p => D.ptr p.1) = (ss.map (·.1)).map D.ptr := by rw [List.map_map]; rfl
            rw [e1, e2, playL_fst hlen]
          rw [e]
        · rw [mupd_same, List.map_append]
          rfl
        · intro p hp
          obtain ⟨q, hq, rfl⟩ := List.mem_map.mp hp
          rw [mupd_ne (hno q.1 (List.of_mem_zip hq).1)]
          exact hd' q hq
        · rw [playL_fst hlen]
          exact hu.nd
        · unfold playL
          rw [List.length_map]
          omega
        · unfold playL
          rw [List.length_map, hzl]
          exact hu.lo
      have ho2 := hu2.ho
      walk_at "sy"
      refine ⟨{ u with nums := u.nums ++ [n] }, o, nl, playL u.r n ss mks, t + 1, rfl, hu2, Good.play hro hk hl, by omega, ?_⟩
      rw [List.length_append, List.length_singleton]
      refine hP _ hu2 fun c h1 h2 => ?_
      rw [mupd_ne h1]
      refine hf' c fun q => h2 ?_
      obtain ⟨p, hp, e⟩ := List.mem_map.mp q
      exact List.mem_map.mpr ⟨p.1, (List.of_mem_zip hp).1, e⟩
end
end L3

/-! text L3y -/
set_option Elab.async false
set_option linter.all false
set_option maxRecDepth 100000
set_option maxHeartbeats 4000000
namespace L3
open PySem L2
open scoped Rat
local macro_rules | `(tactic| walk_at "ca") => `(tactic| first
  | exact Txt.k_Game (by assumption)
  | exact Txt.n_Game_many (by assumption)
  | exact Txt.n_Game_again (by assumption)
  | exact Txt.n_Game_highest (by assumption)
  | exact Txt.n_Game_rule (by assumption)
  | exact Txt.n_Game_drawn_values (by assumption)
  | exact Txt.n_Game_sum_so_far (by assumption)
  | exact Txt.n_Game_now (by assumption)
  | exact Txt.n_Game_most (by assumption)
  | exact Txt.n_Game_certain (by assumption)
  | exact Txt.k_Way (by assumption)
  | exact Txt.n_Way_claim (by assumption)
  | exact Txt.k_Comparing (by assumption)
  | exact Txt.n_Comparing_claim (by assumption)
  | exact Txt.n_Comparing_told (by assumption)
  | exact Txt.n_Comparing_scale (by assumption)
  | exact Txt.k_Sheet (by assumption)
  | exact Txt.n_Sheet_names (by assumption)
  | exact Txt.n_Sheet_limit (by assumption)
  | exact Txt.n_Sheet_ways (by assumption)
  | exact Txt.n_Sheet_games (by assumption)
  | exact Txt.k_Audit (by assumption)
  | exact Txt.n_Audit_sheets (by assumption)
  | exact Txt.n_Audit_many (by assumption)
  | exact Txt.n_Audit_again (by assumption)
  | exact Txt.n_Audit_most (by assumption)
  | exact Txt.n_Audit_numbers (by assumption)
  | exact Txt.k_Beats (by assumption)
  | exact Txt.n_Beats_one (by assumption)
  | exact Txt.n_Beats_other (by assumption)
  | exact Txt.k_Over (by assumption)
  | exact Txt.n_Over_name (by assumption)
  | exact Txt.n_Over_share (by assumption)
  | exact Txt.k_Under (by assumption)
  | exact Txt.n_Under_name (by assumption)
  | exact Txt.n_Under_share (by assumption)
  | exact Txt.k_Contest (by assumption)
  | exact Txt.n_Contest_names (by assumption)
  | exact Txt.k_Most (by assumption)
  | exact Txt.n_Most_names (by assumption)
  | exact Txt.n_Most_seats (by assumption)
  | exact Txt.k_Portion (by assumption)
  | exact Txt.n_Portion_names (by assumption)
  | exact Txt.n_Portion_share (by assumption)
  | exact Txt.k_Fixed (by assumption)
  | exact Txt.n_Fixed_part (by assumption))
local macro_rules | `(tactic| walk_at "ne") => `(tactic| first
  | assumption
  | (refine Ne.symm ?_; assumption)
  | exact mne (by assumption) (by assumption)
  | exact (mne (by assumption) (by assumption)).symm)
local macro_rules | `(tactic| walk_at "mm") => `(tactic| first
  | assumption
  | exact mupd_same
  | (refine (mupd_ne ?_).trans ?_; (walk_at "ne"); (walk_at "mm")))
local macro_rules | `(tactic| walk_at "s0") => `(tactic| first
  | with_reducible refine simS_seq ?_
  | with_reducible refine simS_ret ?_
  | with_reducible refine simS_retN ?_
  | with_reducible refine simS_set ?_
  | with_reducible refine simS_drop ?_
  | with_reducible refine simS_next ?_
  | with_reducible refine simS_fld ?_
  | with_reducible refine simS_dput ?_
  | with_reducible refine simT_test ?_
  | with_reducible refine simT_B ?_
  | with_reducible refine simT_not ?_
  | with_reducible refine simT_and ?_
  | with_reducible refine simT_or ?_
  | focus ((with_reducible refine sim_var (d := ?_) ?_ ?_); rotate_left 1; exact rfl)
  | with_reducible refine sim_int ?_
  | with_reducible refine sim_bl ?_
  | with_reducible refine sim_str ?_
  | with_reducible refine sim_non ?_
  | with_reducible refine sim_ty ?_
  | with_reducible refine sim_c (Txt.t_NOUGHT_games (by assumption)) ?_
  | with_reducible refine sim_c (Txt.t_ONE_games (by assumption)) ?_
  | with_reducible refine sim_c (Txt.t_ONE_ways (by assumption)) ?_
  | with_reducible refine sim_c (Txt.t_TWO (by assumption)) ?_
  | with_reducible refine sim_c (Txt.t_NOUGHT_claims (by assumption)) ?_
  | with_reducible refine sim_c (Txt.t_HALF (by assumption)) ?_
  | with_reducible refine sim_c (Txt.t_ONE_claims (by assumption)) ?_
  | with_reducible refine sim_ref ?_
  | with_reducible refine sim_op ?_
  | with_reducible refine sim_un ?_
  | with_reducible refine sim_andV ?_
  | with_reducible refine sim_orV ?_
  | with_reducible refine sim_notV ?_
  | with_reducible refine sim_chain ?_
  | with_reducible refine sim_tup ?_
  | with_reducible refine sim_call ?_
  | with_reducible refine sim_callB ?_
  | with_reducible refine sim_fldU ?_
  | with_reducible refine sim_append ?_
  | focus ((with_reducible refine apl (ds := ?_) ?_ ?_); rotate_left 1; walk_at "mm")
  | with_reducible refine sim_methU ?_
  | with_reducible refine sim_cfn ?_
  | with_reducible refine sim_dget ?_
  | with_reducible refine sim_sl ?_
  | with_reducible refine simO_none ?_
  | with_reducible refine simO_some ?_
  | with_reducible refine simA_cons ?_
  | with_reducible refine simA_nil ?_
  | with_reducible refine simG_name ?_
  | with_reducible refine simG_pair ?_
  | with_reducible refine ops_addI ?_
  | with_reducible refine uns_I (g := fun i => -i) ?_
  | with_reducible refine simG_triple ?_
  | with_reducible refine ops_subI ?_
  | with_reducible refine ops_lt ?_
  | with_reducible refine ops_le ?_
  | with_reducible refine ops_gt ?_
  | with_reducible refine ops_ge ?_
  | with_reducible refine ops_eqI ?_
  | with_reducible refine ops_neI ?_
  | with_reducible refine ops_eqSt ?_
  | with_reducible refine ops_eqNS ?_
  | with_reducible refine eq_mk ?_
  | with_reducible refine eq_bl ?_
  | with_reducible refine ops_isN ?_
  | with_reducible refine ops_notN ?_
  | with_reducible refine cs_abs ?_
  | focus ((with_reducible refine cs_isi2 (t := ?_) (b := ?_) ?_ ?_ ?_ ?_); rotate_left 2; exact rfl; exact rfl; exact rfl)
  | with_reducible refine cs_max2 ?_
  | with_reducible refine cs_min2 ?_
  | focus ((with_reducible refine ops_ixT' (d := ?_) ?_ ?_); rotate_left 1; exact rfl)
  | focus ((with_reducible refine fld_o (d := ?_) ?_ ?_ ?_ ?_); rotate_left 1; walk_at "ca"; walk_at "ca"; exact rfl)
  | focus ((with_reducible refine fld_p (C := ?_) (fs := ?_) (d := ?_) ?_ ?_ ?_ ?_ ?_); rotate_left 3; walk_at "mm"; walk_at "ca"; walk_at "ca"; exact rfl)
  | focus ((with_reducible refine And.intro (?_ : Mth _ _ _ _) ?_); exact mth_o (by rfl))
  | focus ((with_reducible refine ⟨mth_p (fs := ?_) ?_ ?_, ?_⟩); rotate_left 1; walk_at "mm"; exact rfl)
  | focus ((with_reducible refine setf (C := ?_) (fs := ?_) ?_ ?_ ?_ ?_ ?_); rotate_left 2; walk_at "mm"; walk_at "ca"; walk_at "ca"; exact of_decide_eq_true rfl)
  | focus ((with_reducible refine dgt (kvs := ?_) (k := ?_) (d := ?_) ?_ ?_ ?_ ?_); rotate_left 3; walk_at "mm"; exact rfl; exact rfl)
  | focus ((with_reducible refine dpt (kvs := ?_) (k := ?_) ?_ ?_ ?_ ?_); rotate_left 2; walk_at "mm"; exact rfl; exact of_decide_eq_true rfl)
  | (with_reducible refine ⟨_, rfl, ?_⟩)
  | (with_reducible refine ⟨rfl, ?_⟩)
  | focus ((with_reducible refine ⟨Nat.le_of_ble_eq_true ?_, ?_⟩); exact rfl)
  | with_reducible refine ite_T ?_
  | with_reducible refine ite_nF ?_
  | with_reducible refine ite_nT ?_
  | with_reducible refine ite_F ?_)
local macro_rules | `(tactic| walk_at "s1") => `(tactic| first
  | walk_at "s0"
  | with_reducible refine simS_if ?_)
local macro_rules | `(tactic| walk_at "sx") => `(tactic| repeat walk_at "s1")
local macro_rules | `(tactic| walk_at "sy") => `(tactic| repeat walk_at "s0")

section
variable {P : Program} {w : World} {K : PySem.W.Frag} {mg : Str → Option Value} {base : Heap} {a : Adr}

/-! L3y: an audit is made. -/
structure Pn where
  con : Con
  out : List Str
  lim : Rat
def Sh.new (rec : List (List Mark)) (p : Pn × Nat) : Sh := ⟨p.1.con.names, p.1.lim, rec.map fun b => b.getD p.2 none, (p.1.con.claims p.1.out).map fun c => (c, Gm.new)⟩
/-- a contest with its outcome and limit, a record of which the claims hold -/
structure PnOk (rec : List (List Mark)) (p : Pn × Nat) : Prop where
  con : p.1.con.Ok p.1.out
  str : ∀ s ∈ p.1.con.names, PyData.strOk s = true
  lim : Bd 7 p.1.lim
  hold : ∀ c ∈ p.1.con.claims p.1.out, c.holds (rec.map fun b => b.getD p.2 none)
abbrev recD (rec : List (List Mark)) : D := .tup (rec.map fun b => .tup (b.map mkD))
/-- an audit half made -/
structure AuPart (a : Adr) (r : Rl) (rec : List (List Mark)) (m : Mem) (o sl : Addr) (done : List (Pn × Nat)) (sas : List Addr) (m' : Mem) : Prop where
  len : sas.length = done.length
  hsl : m' sl = some (.lst (sas.map .ptr))
  ho : m' o = some (.ins a.Audit [("sheets", .ptr sl)])
  hs : ∀ p ∈ sas.zip (done.map (Sh.new rec)), m' p.1 = some (.ins a.Sheet (p.2.fs a r))
  nd : sas.Nodup
  fresh : ∀ s ∈ sas, m s = none ∧ s ≠ sl ∧ s ≠ o
  frame : ∀ b, b ≠ o → m b ≠ none → m' b = m b
def cAuditInit (a : Adr) : Ctr := fun ds m P => ∃ o, ∃ (cs : List Pn) (rec : List (List Mark)) (r : Rl) (most : Nat), ds = [.ptr o, .tup (cs.map fun p => p.con.pD a), .tup (cs.map fun p => strsD p.out), .tup (cs.map fun p => fr p.lim), .int r.many, recD rec, ruleD a r, .bl r.again, .int most] ∧
  m o = some (.ins a.Audit []) ∧ cs.length ≤ 2 ∧ 1 ≤ cs.length ∧ r.Ok ∧ 0 < rec.length ∧ rec.length ≤ 60 ∧ (∀ b ∈ rec, b.length = cs.length) ∧ (∀ p ∈ cs.zipIdx, PnOk rec p) ∧
  ∀ m' nl (sas : List Addr), sas.length = cs.length → AuAt a ⟨r, most, []⟩ o nl (sas.zip (cs.zipIdx.map (Sh.new rec))) m' → m nl = none → (∀ s ∈ sas, m s = none) → (∀ b, b ≠ o → m b ≠ none → m' b = m b) → P .non m'
abbrev s_Audit_init : Stmt := inClass (top 34) 0
theorem sc_Audit_init : FnScope ["self", "contests", "outcomes", "limits", "many", "record", "rule", "again", "most", "claims", "contest", "outcome", "k", "sheet", "claim", "way"] ["self", "contests", "outcomes", "limits", "many", "record", "rule", "again", "most"] (defScope s_Audit_init) := ⟨rfl, rfl, rfl, by decide +kernel, rfl, by decide +kernel, by decide +kernel⟩
theorem ok_Audit_init {f : Addr} {fd : FuncData} (F : Fun K "__init__" "Audit.__init__" s_Audit_init f fd) (T : Txt K mg a) (h_way_of : CalC P w K mg base 10 "way_of" (cWayOf a)) (h_Sheet : MakC P w K mg base 1 "Sheet" a.Sheet (cSheetInit a)) (h_Game : MakC P w K mg base 1 "Game" a.Game (cGameInit a)) (h_add : MetC P w K mg base 1 a.Sheet "add" (cAdd a)) (h_way_top : MetC P w K mg base 4 a.Comparing "top" (cCmpTop a)) (h_claims_m : MetC P w K mg base 3 a.Most "claims" (cClaims a .m)) (h_claims_p : MetC P w K mg base 3 a.Portion "claims" (cClaims a .p)) (h_named_m : MetC P w K mg base 1 a.Most "named" (cNamed a .m)) (h_named_p : MetC P w K mg base 1 a.Portion "named" (cNamed a .p)) : FnOk P w K mg base CX0 (10 + 1) f fd ["self", "contests", "outcomes", "limits", "many", "record", "rule", "again", "most"] (spOf K (cAuditInit a)) := by
  refine def_ok F sc_Audit_init ?_ ?_
  · rintro ds m PP ⟨o, cs, rec, r, most, rfl, hm, hc2, hc1, hro, h0, h60, hbl, hpn, hP⟩
    rfl
  · rintro cdv A outer s H E hr ds m PP ⟨o, cs, rec, r, most, rfl, hm, hc2, hc1, hro, h0, h60, hbl, hpn, hP⟩
    refine ⟨_, (pss_cons (ps_setLc (i := 9) (own := [("contest", 10), ("outcome", 11)]) (g := (gTup K 2 (gCons (gName 10) (gCons (gName 11) gNil)))) (tt := tYes) (by rfl) sc_Audit_init.nd rfl rfl (sw_true rfl rfl rfl (by decide +kernel)) (pk_zip T (by rfl) T.b_zip (pa_cons (pv 1) (pa_cons (pv 2) pa_nil))) (blkOk_by (by kernel_rfl)) (fun _ _ _ _ _ => by exact (pk_gtup T (n := 2) rfl (pgs_cons (pg_name (i := 10) sc_Audit_init.nd rfl (by first | exact Or.inl rfl | exact Or.inr rfl)) (pgs_cons (pg_name (i := 11) sc_Audit_init.nd rfl (by first | exact Or.inl rfl | exact Or.inr rfl)) pgs_nil)))) (fun _ _ _ _ _ => by exact pts_nil) (fun _ _ _ _ _ => by exact (pe_either (pk_met h_claims_m hr (by decide) (pv 10) (pa_cons (pv 11) pa_nil)) (pk_met h_claims_p hr (by decide) (pv 10) (pa_cons (pv 11) pa_nil)))))
      (pss_cons (pk_sfld T (pv 0) (pe_lst pa_nil) rfl)
      (pss_cons (ps_for PassesOwn.never rfl (pk_enum T (by rfl) T.b_enumerate (pa_cons (pv 1) pa_nil)) (pk_gtup T (n := 2) rfl (pgs_cons (pg_name (i := 12) sc_Audit_init.nd rfl (by first | exact Or.inl rfl | exact Or.inr rfl)) (pgs_cons (pg_name (i := 10) sc_Audit_init.nd rfl (by first | exact Or.inl rfl | exact Or.inr rfl)) pgs_nil))) (pss_cons (ps_set (i := 13) sc_Audit_init.nd rfl (by first | exact Or.inl rfl | exact Or.inr rfl) (pk_mak h_Sheet hr (by decide) (pa_cons (pe_either (pk_met0 h_named_m hr (by decide) (pv 10)) (pk_met0 h_named_p hr (by decide) (pv 10))) (pa_cons (pe_ix (pk_ix T) (pv 3) (pv 12) (fun _ _ => rfl)) pa_nil))))
      (pss_cons (ps_for PassesOwn.never rfl (pk_seq T (pe_ix (pk_ix T) (pv 9) (pv 12) (fun _ _ => rfl))) (pg_name (i := 14) sc_Audit_init.nd rfl (by first | exact Or.inl rfl | exact Or.inr rfl)) (pss_cons (ps_set (i := 15) sc_Audit_init.nd rfl (by first | exact Or.inl rfl | exact Or.inr rfl) (pk_cal h_way_of hr (by decide) (pa_cons (pv 14) (pa_cons (pv 5) (pa_cons (pv 12) pa_nil)))))
      (pss_one (ps_expr (pk_met h_add hr (by decide) (pv 13) (pa_cons (pv 15) (pa_cons (pk_mak h_Game hr (by decide) (pa_cons (pv 4) (pa_cons (pv 7) (pa_cons (pk_met0 h_way_top hr (by decide) (pv 15)) (pa_cons (pv 6) pa_nil))))) pa_nil)))))))
      (pss_one (ps_expr (pk_append T (pk_fld T (pv 0) rfl) (pa_cons (pv 13) pa_nil)))))))
      (pss_cons (pk_sfld T (pv 0) (pv 4) rfl)
      (pss_cons (pk_sfld T (pv 0) (pv 7) rfl)
      (pss_cons (pk_sfld T (pv 0) (pv 8) rfl)
      (pss_one (pk_sfld T (pv 0) (pe_lst pa_nil) rfl)))))))), ?_⟩
    walk_at "sy"
    refine sim_lcM cs (fun p => .tup [p.con.pD a, strsD p.out]) (fun p => .lst ((p.con.claims p.out).map (Claim.pD a))) (ts := [10, 11]) (by decide) (simI_zip ?_)
    walk_at "sy"
    refine ⟨_, _, cs.map fun p => p.con.pD a, cs.map fun p => strsD p.out, rfl, .inr rfl, .inr rfl, ?_, by omega, ⟨.inr rfl, .inr rfl⟩, fun p hp => ?_, ?_⟩
    · unfold zipD
      rw [List.zip_map', List.map_map]
      rfl
    · obtain ⟨k, hk1, hk2⟩ := List.getElem_of_mem hp
      have hq := hpn (p, k) (List.mem_zipIdx_iff_getElem?.mpr (by rw [← hk2]; exact List.getElem?_eq_getElem hk1))
      walk_at "sy"
      cases hkd : p.con.kd with
      | m =>
        refine sim_eitherL ?_
        walk_at "sy"
        have e : Con.pD a p.con = .obj a.Most p.con.ns p.con.ds := by rw [Con.pD, hkd]; rfl
        rw [e]
        refine ⟨mth_o ?_, ?_⟩
        · cases hc : p.con with
          | most ns n => rfl
          | portion ns s => rw [hc] at hkd; cases hkd
        walk_at "sy"
        exact ⟨p.con, p.out, by rw [e], hkd, hq.con, hq.str, rfl, rfl⟩
      | p =>
        refine sim_eitherR ?_
        walk_at "sy"
        have e : Con.pD a p.con = .obj a.Portion p.con.ns p.con.ds := by rw [Con.pD, hkd]; rfl
        rw [e]
        refine ⟨mth_o ?_, ?_⟩
        · cases hc : p.con with
          | most ns n => rw [hc] at hkd; cases hkd
          | portion ns s => rfl
        walk_at "sy"
        exact ⟨p.con, p.out, by rw [e], hkd, hq.con, hq.str, rfl, rfl⟩
    walk_at "sy"
    refine sim_lstM ?_
    walk_at "sy"
    intro sl hsl
    have hosl : o ≠ sl := mne hm hsl
    walk_at "sy"
    refine simS_forM cs.zipIdx (fun q => .tup [.int q.2, q.1.con.pD a]) (fun done ρ' m' => (∃ z10 z11 z12 z13 z14 z15, ρ' = [some (.ptr o), some (.tup (cs.map fun p => p.con.pD a)), some (.tup (cs.map fun p => strsD p.out)), some (.tup (cs.map fun p => fr p.lim)), some (.int r.many), some (recD rec), some (ruleD a r), some (.bl r.again), some (.int most),
        some (.lst (cs.map fun p => .lst ((p.con.claims p.out).map (Claim.pD a)))), z10, z11, z12, z13, z14, z15]) ∧
      ∃ sas : List Addr, AuPart a r rec m o sl done sas m') (ts := [12, 10]) (simI_enumT ?_)
    walk_at "sy"
    refine ⟨?_, ⟨⟨_, _, _, _, _, _, rfl⟩, [], rfl, ?_, mupd_same, fun p hp => by simp at hp, List.nodup_nil, fun s hs => by simp at hs, fun b h1 h2 => ?_⟩, fun _ _ _ _ => trivial, ?_, ?_⟩
    · unfold enumD
      rw [List.zipIdx_map, List.map_map]
      rfl
    · rw [mupd_ne hosl.symm, mupd_same]
      rfl
    · have h3 : b ≠ sl := fun e => h2 (by rw [e]; exact hsl)
      rw [mupd_ne h1, mupd_ne h3]
    · rintro done ⟨p, k⟩ rest ρ' m' hsplit ⟨⟨z10, z11, z12, z13, z14, z15, rfl⟩, sas, hpt⟩
      have hmem : (p, k) ∈ cs.zipIdx := by rw [hsplit]; simp
      have hq := hpn _ hmem
      have hgk : cs[k]? = some p := List.mem_zipIdx_iff_getElem?.mp hmem
      have hk2 : k < cs.length := (List.getElem?_eq_some_iff.mp hgk).1
      walk_at "sy"
      refine sim_make ?_
      walk_at "sy"
      refine Sim.imp (P := fun d m2 => d = strsD p.con.names ∧ m2 = m') ?_ ?_
      · cases hkd : p.con.kd with
        | m =>
          refine sim_eitherL ?_
          walk_at "sy"
          have e : Con.pD a p.con = .obj a.Most p.con.ns p.con.ds := by rw [Con.pD, hkd]; rfl
          rw [e]
          refine ⟨mth_o ?_, ?_⟩
          · cases hc : p.con with
            | most ns n => rfl
            | portion ns s => rw [hc] at hkd; cases hkd
          walk_at "sy"
          exact ⟨p.con, by rw [e], hkd, rfl, rfl⟩
        | p =>
          refine sim_eitherR ?_
          walk_at "sy"
          have e : Con.pD a p.con = .obj a.Portion p.con.ns p.con.ds := by rw [Con.pD, hkd]; rfl
          rw [e]
          refine ⟨mth_o ?_, ?_⟩
          · cases hc : p.con with
            | most ns n => rw [hc] at hkd; cases hkd
            | portion ns s => rfl
          walk_at "sy"
          exact ⟨p.con, by rw [e], hkd, rfl, rfl⟩
      rintro d m2 ⟨rfl, rfl⟩
      walk_at "sy"
      refine ops_ixT' (atI_nat (v := fr p.lim) (by rw [List.getElem?_map, hgk]; rfl)) ?_
      walk_at "sy"
      intro q hqn
      refine ⟨q, _, _, rfl, mupd_same, fun w1 g hw hg hwq hgq hwg => ⟨rfl, ?_⟩⟩
      have hw' : m2 w1 = none := by
        rw [mupd_ne hwq] at hw
        exact hw
      have hg' : m2 g = none := by
        rw [mupd_ne hgq] at hg
        exact hg
      have hcl := Con.claims_ok hq.con
      have hcn := Con.claims_len hq.con
      refine simS_mid (B := fun ρ' m3 => (∃ z14 z15, ρ' = [some (.ptr o), some (.tup (cs.map fun p => p.con.pD a)), some (.tup (cs.map fun p => strsD p.out)), some (.tup (cs.map fun p => fr p.lim)), some (.int r.many), some (recD rec), some (ruleD a r), some (.bl r.again), some (.int most),
        some (.lst (cs.map fun p => .lst ((p.con.claims p.out).map (Claim.pD a)))), some (p.con.pD a), z11, some (.int k), some (.ptr q), z14, z15]) ∧
        m3 q = some (.ins a.Sheet [("names", strsD p.con.names), ("limit", fr p.lim), ("ways", .ptr w1), ("games", .ptr g)]) ∧ m3 w1 = some (.lst ((Sh.new rec (p, k)).ways a)) ∧ m3 g = some (.lst ((Sh.new rec (p, k)).games a r)) ∧ ∀ b, b ≠ q → b ≠ w1 → b ≠ g → m3 b = m2 b) ?_ ?_
      · refine simS_forM (p.con.claims p.out) (Claim.pD a) (fun done2 ρ' m3 => (∃ z14 z15, ρ' = [some (.ptr o), some (.tup (cs.map fun p => p.con.pD a)), some (.tup (cs.map fun p => strsD p.out)), some (.tup (cs.map fun p => fr p.lim)), some (.int r.many), some (recD rec), some (ruleD a r), some (.bl r.again), some (.int most),
          some (.lst (cs.map fun p => .lst ((p.con.claims p.out).map (Claim.pD a)))), some (p.con.pD a), z11, some (.int k), some (.ptr q), z14, z15]) ∧
          m3 q = some (.ins a.Sheet [("names", strsD p.con.names), ("limit", fr p.lim), ("ways", .ptr w1), ("games", .ptr g)]) ∧ m3 w1 = some (.lst (({ Sh.new rec (p, k) with cg := done2.map fun c => (c, Gm.new) } : Sh).ways a)) ∧ m3 g = some (.lst (({ Sh.new rec (p, k) with cg := done2.map fun c => (c, Gm.new) } : Sh).games a r)) ∧ ∀ b, b ≠ q → b ≠ w1 → b ≠ g → m3 b = m2 b) (ts := [14]) (simI_seq ?_)
        walk_at "sy"
        refine ops_ixL' .val (atI_nat (v := .lst ((p.con.claims p.out).map (Claim.pD a))) (by rw [List.getElem?_map, hgk]; rfl)) ?_
        walk_at "sy"
        refine ⟨_, .inl .val, rfl, ⟨⟨_, _, rfl⟩, mupd_same, ?_, ?_, ?_⟩, fun _ _ _ _ => .inl .val, ?_, ?_⟩
        · rw [mupd_ne hwq, mupd_ne hwg, mupd_same]
          rfl
        · rw [mupd_ne hgq, mupd_same]
          rfl
        · intro b h1 h2 h3
          rw [mupd_ne h1, mupd_ne h3, mupd_ne h2, mupd_ne h1]
        · rintro done2 c rest2 ρ' m3 hsplit2 ⟨⟨z14, z15, rfl⟩, hq3, hw3, hg3, hf3⟩
          have hcm : c ∈ p.con.claims p.out := by rw [hsplit2]; simp
          have hc := hcl c hcm
          rw [hsplit2, List.length_append, List.length_cons] at hcn
          have hsb := Claim.scale_bd hc (mks := rec.map fun b : List Mark => b.getD k none) (by rw [List.length_map]; exact h0) (by rw [List.length_map]; exact h60)
          have hsp := Claim.scale_pos hc (mks := rec.map fun b : List Mark => b.getD k none) (by rw [List.length_map]; exact h0)
          walk_at "sy"
          refine ⟨c, rec, k, rfl, hc, h0, h60, fun b hb => by rw [hbl b hb]; exact hk2, hq.hold c hcm, ?_⟩
          walk_at "sy"
          refine sim_frzI (sim_make ?_)
          walk_at "sy"
          refine ⟨c, _, _, rfl, hsb, hsp, ?_⟩
          walk_at "sy"
          intro gq hgqn
          refine ⟨gq, _, _, _, _, rfl, mupd_same, rfl, gq, _, _, rfl, mupd_same, ?_⟩
          rw [mupd_upd, mdel_upd hgqn]
          walk_at "sy"
          refine ⟨q, w1, g, _, _, _, _, _, _, rfl, hq3, hw3, hg3, hwg, ?_, ?_, ?_⟩
          · show (List.map _ (List.map _ done2)).length ≤ 3
            rw [List.length_map, List.length_map]
            omega
          · show (List.map _ (List.map _ done2)).length ≤ 3
            rw [List.length_map, List.length_map]
            omega
          refine ⟨⟨_, _, rfl⟩, ?_, ?_, ?_, ?_⟩
          · rw [mupd_ne hgq.symm, mupd_ne hwq.symm]
            exact hq3
          · rw [mupd_ne hwg, mupd_same]
            simp only [Sh.ways, List.map_append, List.map_cons, List.map_nil]
            rfl
          · rw [mupd_same]
            simp only [Sh.games, List.map_append, List.map_cons, List.map_nil]
            rfl
          · intro b h1 h2 h3
            rw [mupd_ne h3, mupd_ne h2]
            exact hf3 b h1 h2 h3
        · rintro ρ' m3 h
          exact h
      · rintro ρ' m3 ⟨⟨z14, z15, rfl⟩, hq3, hw3, hg3, hf3⟩
        have hg4 : mupd (mdel m3 w1) q (.ins a.Sheet (putD "ways" (.lst ((Sh.new rec (p, k)).ways a)) [("names", strsD p.con.names), ("limit", fr p.lim), ("ways", .ptr w1), ("games", .ptr g)])) g = some (.lst ((Sh.new rec (p, k)).games a r)) := by
          rw [mupd_ne hgq]
          exact (if_neg hwg.symm).trans hg3
        refine simS_frzF (f := "ways") hq3 hw3 rfl (simS_frzF (f := "games") mupd_same hg4 rfl ?_)
        refine (?_ : ∀ m4 : Mem, m4 q = some _ → (∀ b, b ≠ q → b ≠ w1 → b ≠ g → m4 b = m2 b) → SimS K _ _ m4 _) _ mupd_same ?_
        · intro m4 h4q h4
          have h4q : m4 q = some (.ins a.Sheet ((Sh.new rec (p, k)).fs a r)) := h4q
          have hne : ∀ b, m2 b ≠ none → b ≠ q ∧ b ≠ w1 ∧ b ≠ g := fun b hb => ⟨fun e => hb (by rw [e]; exact hqn), fun e => hb (by rw [e]; exact hw'), fun e => hb (by rw [e]; exact hg')⟩
          have h4b : ∀ b, m2 b ≠ none → m4 b = m2 b := fun b hb => h4 b (hne b hb).1 (hne b hb).2.1 (hne b hb).2.2
          have h4o : m4 o = some (.ins a.Audit [("sheets", .ptr sl)]) := (h4b o (by rw [hpt.ho]; simp)).trans hpt.ho
          have h4s : m4 sl = some (.lst (sas.map .ptr)) := (h4b sl (by rw [hpt.hsl]; simp)).trans hpt.hsl
          have hqsl : q ≠ sl := fun e => by
            have := hpt.hsl
            rw [← e, hqn] at this
            cases this
          have hlen2 : done.length ≤ 2 := by
            have := congrArg List.length hsplit
            rw [List.length_zipIdx, List.length_append, List.length_cons] at this
            omega
          walk_at "sy"
          refine apl2 h4s (by rw [List.length_map, hpt.len]; omega) ?_
          refine ⟨⟨_, _, _, _, _, _, rfl⟩, sas ++ [q], ?_⟩
          refine ⟨?_, ?_, ?_, ?_, ?_, ?_, ?_⟩
          · rw [List.length_append, List.length_append, hpt.len]
            rfl
          · rw [mupd_same, List.map_append]
            rfl
          · rw [mupd_ne hosl]
            exact h4o
          · intro x hx
            rw [List.map_append, List.zip_append (by rw [hpt.len, List.length_map])] at hx
            rcases List.mem_append.mp hx with hx | hx
            · have hx1 := (List.of_mem_zip hx).1
              rw [mupd_ne (hpt.fresh _ hx1).2.1, h4b _ (by rw [hpt.hs x hx]; simp)]
              exact hpt.hs x hx
            · have hx : x = (q, Sh.new rec (p, k)) := by simpa using hx
              subst hx
              rw [mupd_ne hqsl]
              exact h4q
          · rw [List.nodup_append]
            refine ⟨hpt.nd, by simp, fun x hx y hy e => ?_⟩
            have hy : y = q := by simpa using hy
            subst hy
            subst e
            obtain ⟨i, hi, e⟩ := List.getElem_of_mem hx
            have hz : (sas.zip (done.map (Sh.new rec)))[i]? = some (sas[i], (done.map (Sh.new rec))[i]'(by rw [List.length_map, ← hpt.len]; exact hi)) := by
              rw [List.getElem?_eq_getElem (by rw [List.length_zip, List.length_map, hpt.len]; have := hpt.len; omega), List.getElem_zip]
            have := hpt.hs _ (List.mem_of_getElem? hz)
            rw [e, hqn] at this
            cases this
          · intro s hs
            rcases List.mem_append.mp hs with hs | hs
            · exact hpt.fresh s hs
            · have hs : s = q := by simpa using hs
              subst hs
              refine ⟨?_, hqsl, ?_⟩
              · cases z : m s with
                | none => rfl
                | some u =>
                  have hso : s ≠ o := fun e => by
                    have := hpt.ho
                    rw [← e, hqn] at this
                    cases this
                  have := hpt.frame s hso (by rw [z]; simp)
                  rw [hqn, z] at this
                  cases this
              · intro e
                have := hpt.ho
                rw [← e, hqn] at this
                cases this
          · intro b h1 h2
            have h3 : b ≠ sl := fun e => h2 (by rw [e]; exact hsl)
            rw [mupd_ne h3, h4b b (by rw [hpt.frame b h1 h2]; exact h2)]
            exact hpt.frame b h1 h2
        · intro b h1 h2 h3
          rw [mupd_ne h1]
          refine (if_neg h3).trans ?_
          rw [mupd_ne h1]
          exact (if_neg h2).trans (hf3 b h1 h2 h3)
    · rintro ρ' m' ⟨⟨z10, z11, z12, z13, z14, z15, rfl⟩, sas, hpt⟩
      refine simS_frzF (f := "sheets") hpt.ho hpt.hsl rfl ?_
      walk_at "sy"
      rw [mupd_upd, mupd_upd, mupd_upd]
      refine sim_lstM ?_
      walk_at "sy"
      intro nl hnl
      have honl : o ≠ nl := mne mupd_same hnl
      walk_at "sy"
      have hfst : (sas.zip (cs.zipIdx.map (Sh.new rec))).map (·.1) = sas := List.map_fst_zip (by rw [hpt.len, List.length_map]; exact Nat.le_refl _)
      have hl : sas.length = cs.length := by rw [hpt.len, List.length_zipIdx]
      have hnl2 : mdel m' sl nl = none := by
        rw [mupd_ne honl.symm] at hnl
        exact hnl
      refine hP _ nl sas hl ⟨?_, ?_, ?_, ?_, ?_, ?_⟩ ?_ ?_ ?_
      · have e : ((sas.zip (cs.zipIdx.map (Sh.new rec))).map fun p => D.ptr p.1) = sas.map D.ptr := by
          conv => rhs; rw [← hfst]
          rw [List.map_map]
          rfl
        rw [mupd_same, e]
        rfl
      · rw [mupd_ne honl.symm, mupd_same]
        rfl
      · intro p hp
        have hp1 := (List.of_mem_zip hp).1
        have hf := hpt.fresh _ hp1
        have hv := hpt.hs p hp
        have hd : mdel m' sl p.1 = some (.ins a.Sheet (p.2.fs a r)) := (if_neg hf.2.1).trans hv
        have hpn : p.1 ≠ nl := fun e => by
          rw [e, hnl2] at hd
          cases hd
        rw [mupd_ne hf.2.2, mupd_ne hpn, mupd_ne hf.2.2]
        exact hd
      · rw [hfst]
        exact hpt.nd
      · rw [List.length_zip, hl]
        omega
      · rw [List.length_zip, hl, List.length_map, List.length_zipIdx]
        omega
      · by_cases e : nl = sl
        · rw [e]
          exact hsl
        · cases z : m nl with
          | none => rfl
          | some u =>
            have q1 := hpt.frame nl honl.symm (by rw [z]; simp)
            have q2 : mdel m' sl nl = m' nl := if_neg e
            rw [q2, q1, z] at hnl2
            cases hnl2
      · intro s hs
        exact (hpt.fresh s hs).1
      · intro b h1 h2
        have h3 : b ≠ sl := fun e => h2 (by rw [e]; exact hsl)
        have hd : mdel m' sl b = m b := (if_neg h3).trans (hpt.frame b h1 h2)
        have h4 : b ≠ nl := fun e => by
          rw [e, hnl2] at hd
          exact h2 (by rw [e, ← hd])
        rw [mupd_ne h1, mupd_ne h4, mupd_ne h1]
        exact hd
end
end L3

/-! text L4a -/
set_option Elab.async false
set_option linter.all false
set_option maxRecDepth 100000
set_option maxHeartbeats 4000000
namespace L3
open PySem L2
open scoped Rat
local macro_rules | `(tactic| walk_at "ca") => `(tactic| first
  | exact Txt.k_Game (by assumption)
  | exact Txt.n_Game_many (by assumption)
  | exact Txt.n_Game_again (by assumption)
  | exact Txt.n_Game_highest (by assumption)
  | exact Txt.n_Game_rule (by assumption)
  | exact Txt.n_Game_drawn_values (by assumption)
  | exact Txt.n_Game_sum_so_far (by assumption)
  | exact Txt.n_Game_now (by assumption)
  | exact Txt.n_Game_most (by assumption)
  | exact Txt.n_Game_certain (by assumption)
  | exact Txt.k_Way (by assumption)
  | exact Txt.n_Way_claim (by assumption)
  | exact Txt.k_Comparing (by assumption)
  | exact Txt.n_Comparing_claim (by assumption)
  | exact Txt.n_Comparing_told (by assumption)
  | exact Txt.n_Comparing_scale (by assumption)
  | exact Txt.k_Sheet (by assumption)
  | exact Txt.n_Sheet_names (by assumption)
  | exact Txt.n_Sheet_limit (by assumption)
  | exact Txt.n_Sheet_ways (by assumption)
  | exact Txt.n_Sheet_games (by assumption)
  | exact Txt.k_Audit (by assumption)
  | exact Txt.n_Audit_sheets (by assumption)
  | exact Txt.n_Audit_many (by assumption)
  | exact Txt.n_Audit_again (by assumption)
  | exact Txt.n_Audit_most (by assumption)
  | exact Txt.n_Audit_numbers (by assumption)
  | exact Txt.k_Beats (by assumption)
  | exact Txt.n_Beats_one (by assumption)
  | exact Txt.n_Beats_other (by assumption)
  | exact Txt.k_Over (by assumption)
  | exact Txt.n_Over_name (by assumption)
  | exact Txt.n_Over_share (by assumption)
  | exact Txt.k_Under (by assumption)
  | exact Txt.n_Under_name (by assumption)
  | exact Txt.n_Under_share (by assumption)
  | exact Txt.k_Contest (by assumption)
  | exact Txt.n_Contest_names (by assumption)
  | exact Txt.k_Most (by assumption)
  | exact Txt.n_Most_names (by assumption)
  | exact Txt.n_Most_seats (by assumption)
  | exact Txt.k_Portion (by assumption)
  | exact Txt.n_Portion_names (by assumption)
  | exact Txt.n_Portion_share (by assumption)
  | exact Txt.k_Fixed (by assumption)
  | exact Txt.n_Fixed_part (by assumption))
local macro_rules | `(tactic| walk_at "ne") => `(tactic| first
  | assumption
  | (refine Ne.symm ?_; assumption)
  | exact mne (by assumption) (by assumption)
  | exact (mne (by assumption) (by assumption)).symm)
local macro_rules | `(tactic| walk_at "mm") => `(tactic| first
  | assumption
  | exact mupd_same
  | (refine (mupd_ne ?_).trans ?_; (walk_at "ne"); (walk_at "mm")))
local macro_rules | `(tactic| walk_at "s0") => `(tactic| first
  | with_reducible refine simS_seq ?_
  | with_reducible refine simS_ret ?_
  | with_reducible refine simS_retN ?_
  | with_reducible refine simS_set ?_
  | with_reducible refine simS_drop ?_
  | with_reducible refine simS_next ?_
  | with_reducible refine simS_fld ?_
  | with_reducible refine simS_dput ?_
  | with_reducible refine simT_test ?_
  | with_reducible refine simT_B ?_
  | with_reducible refine simT_not ?_
  | with_reducible refine simT_and ?_
  | with_reducible refine simT_or ?_
  | focus ((with_reducible refine sim_var (d := ?_) ?_ ?_); rotate_left 1; exact rfl)
  | with_reducible refine sim_int ?_
  | with_reducible refine sim_bl ?_
  | with_reducible refine sim_str ?_
  | with_reducible refine sim_non ?_
  | with_reducible refine sim_ty ?_
  | with_reducible refine sim_c (Txt.t_NOUGHT_games (by assumption)) ?_
  | with_reducible refine sim_c (Txt.t_ONE_games (by assumption)) ?_
  | with_reducible refine sim_c (Txt.t_ONE_ways (by assumption)) ?_
  | with_reducible refine sim_c (Txt.t_TWO (by assumption)) ?_
  | with_reducible refine sim_c (Txt.t_NOUGHT_claims (by assumption)) ?_
  | with_reducible refine sim_c (Txt.t_HALF (by assumption)) ?_
  | with_reducible refine sim_c (Txt.t_ONE_claims (by assumption)) ?_
  | with_reducible refine sim_ref ?_
  | with_reducible refine sim_op ?_
  | with_reducible refine sim_un ?_
  | with_reducible refine sim_andV ?_
  | with_reducible refine sim_orV ?_
  | with_reducible refine sim_notV ?_
  | with_reducible refine sim_chain ?_
  | with_reducible refine sim_tup ?_
  | with_reducible refine sim_call ?_
  | with_reducible refine sim_callB ?_
  | with_reducible refine sim_fldU ?_
  | with_reducible refine sim_append ?_
  | focus ((with_reducible refine apl (ds := ?_) ?_ ?_); rotate_left 1; walk_at "mm")
  | with_reducible refine sim_methU ?_
  | with_reducible refine sim_cfn ?_
  | with_reducible refine sim_dget ?_
  | with_reducible refine sim_sl ?_
  | with_reducible refine simO_none ?_
  | with_reducible refine simO_some ?_
  | with_reducible refine simA_cons ?_
  | with_reducible refine simA_nil ?_
  | with_reducible refine simG_name ?_
  | with_reducible refine simG_pair ?_
  | with_reducible refine ops_addI ?_
  | with_reducible refine uns_I (g := fun i => -i) ?_
  | with_reducible refine simG_triple ?_
  | with_reducible refine ops_subI ?_
  | with_reducible refine ops_lt ?_
  | with_reducible refine ops_le ?_
  | with_reducible refine ops_gt ?_
  | with_reducible refine ops_ge ?_
  | with_reducible refine ops_eqI ?_
  | with_reducible refine ops_neI ?_
  | with_reducible refine ops_eqSt ?_
  | with_reducible refine ops_eqNS ?_
  | with_reducible refine eq_mk ?_
  | with_reducible refine eq_bl ?_
  | with_reducible refine ops_isN ?_
  | with_reducible refine ops_notN ?_
  | with_reducible refine cs_abs ?_
  | focus ((with_reducible refine cs_isi2 (t := ?_) (b := ?_) ?_ ?_ ?_ ?_); rotate_left 2; exact rfl; exact rfl; exact rfl)
  | with_reducible refine cs_max2 ?_
  | with_reducible refine cs_min2 ?_
  | focus ((with_reducible refine ops_ixT' (d := ?_) ?_ ?_); rotate_left 1; exact rfl)
  | focus ((with_reducible refine fld_o (d := ?_) ?_ ?_ ?_ ?_); rotate_left 1; walk_at "ca"; walk_at "ca"; exact rfl)
  | focus ((with_reducible refine fld_p (C := ?_) (fs := ?_) (d := ?_) ?_ ?_ ?_ ?_ ?_); rotate_left 3; walk_at "mm"; walk_at "ca"; walk_at "ca"; exact rfl)
  | focus ((with_reducible refine And.intro (?_ : Mth _ _ _ _) ?_); exact mth_o (by rfl))
  | focus ((with_reducible refine ⟨mth_p (fs := ?_) ?_ ?_, ?_⟩); rotate_left 1; walk_at "mm"; exact rfl)
  | focus ((with_reducible refine setf (C := ?_) (fs := ?_) ?_ ?_ ?_ ?_ ?_); rotate_left 2; walk_at "mm"; walk_at "ca"; walk_at "ca"; exact of_decide_eq_true rfl)
  | focus ((with_reducible refine dgt (kvs := ?_) (k := ?_) (d := ?_) ?_ ?_ ?_ ?_); rotate_left 3; walk_at "mm"; exact rfl; exact rfl)
  | focus ((with_reducible refine dpt (kvs := ?_) (k := ?_) ?_ ?_ ?_ ?_); rotate_left 2; walk_at "mm"; exact rfl; exact of_decide_eq_true rfl)
  | (with_reducible refine ⟨_, rfl, ?_⟩)
  | (with_reducible refine ⟨rfl, ?_⟩)
  | focus ((with_reducible refine ⟨Nat.le_of_ble_eq_true ?_, ?_⟩); exact rfl)
  | with_reducible refine ite_T ?_
  | with_reducible refine ite_nF ?_
  | with_reducible refine ite_nT ?_
  | with_reducible refine ite_F ?_)
local macro_rules | `(tactic| walk_at "s1") => `(tactic| first
  | walk_at "s0"
  | with_reducible refine simS_if ?_)
local macro_rules | `(tactic| walk_at "sx") => `(tactic| repeat walk_at "s1")
local macro_rules | `(tactic| walk_at "sy") => `(tactic| repeat walk_at "s0")

section
variable {P : Program} {w : World} {K : PySem.W.Frag} {mg : Str → Option Value} {base : Heap} {a : Adr}

/-! L4a: the law's defs on claims. -/
def Claim.lD : Claim → D
  | .beats o t => .tup [.str "beats", .str o, .str t]
  | .over n s => .tup [.str "over", .str n, fr s]
  | .under n s => .tup [.str "under", .str n, fr s]
theorem fr_isub (n : Int) (q : Rat) : fr ((n : Rat) - q) = .tup [.int (n * (q.den : Int) - q.num), .int q.den] := by
  have hc : Nat.Coprime (n * (q.den : Int) - q.num).natAbs q.den := by
    have h := q.reduced
    have e : Int.gcd (n * (q.den : Int) - q.num) (q.den : Int) = Int.gcd q.num (q.den : Int) := by
      have : n * (q.den : Int) - q.num = -(q.num) + n * (q.den : Int) := by omega
      rw [this, Int.gcd_add_mul_right_left, Int.neg_gcd]
    exact e.trans h
  have e : (n : Rat) - q = ⟨n * (q.den : Int) - q.num, q.den, q.den_nz, hc⟩ := by
    rw [Rat.mk_eq_mkRat, Rat.sub_def']
    simp
  rw [e]
theorem fr_one_sub (q : Rat) : (D.tup [.int ((q.den : Int) - q.num), .int q.den]) = fr (1 - q) := by
  have h := fr_isub 1 q
  rw [Int.one_mul] at h
  exact h.symm
theorem fr_two_sub (q : Rat) : (D.tup [.int (2 * (q.den : Int) - q.num), .int q.den]) = fr (2 - q) := (fr_isub 2 q).symm
def cLWhole : Ctr := fun ds m P => ∃ i : Int, ds = [.int i] ∧ P (.bl true) m
def cLGreatest : Ctr := fun ds m P => ∃ c : Claim, ds = [c.lD] ∧ c.Ok ∧ P (fr c.top) m
def cLValue : Ctr := fun ds m P => ∃ (c : Claim) (mk : Mark), ds = [c.lD, mkD mk] ∧ c.Ok ∧ P (fr (c.val mk)) m
def cLAll : Ctr := fun ds m P => ∃ (c : Claim) (x : D) (mks : List Mark), ds = [c.lD, x] ∧ SeqD m x (mks.map mkD) ∧ c.Ok ∧ mks.length ≤ 60 ∧ P (fr (c.sum mks)) m
def cLIsSo : Ctr := fun ds m P => ∃ (c : Claim) (x : D) (mks : List Mark), ds = [c.lD, x] ∧ SeqD m x (mks.map mkD) ∧ c.Ok ∧ mks.length ≤ 60 ∧ P (.bl (decide ((mks.length : Rat) / 2 < c.sum mks))) m
def cLScale : Ctr := fun ds m P => ∃ (c : Claim) (x : D) (mks : List Mark), ds = [c.lD, x] ∧ SeqD m x (mks.map mkD) ∧ c.Ok ∧ 0 < mks.length ∧ mks.length ≤ 60 ∧ P (fr (c.scale mks)) m
def cLCompared : Ctr := fun ds m P => ∃ (c : Claim) (sc : Rat) (t mk : Mark), ds = [c.lD, mkD t, fr sc, mkD mk] ∧ c.Ok ∧ Bd 46 sc ∧ 0 < sc ∧ P (fr (c.cmp sc t mk)) m
abbrev s_l_whole : Stmt := top 52
theorem sc_l_whole : FnScope ["_law_found"] ["_law_found"] (defScope s_l_whole) := ⟨rfl, rfl, rfl, by decide +kernel, rfl, by decide +kernel, by decide +kernel⟩
theorem ok_l_whole {f : Addr} {fd : FuncData} (F : Fun K "_law_whole" "_law_whole" s_l_whole f fd) (T : Txt K mg a)  : FnOk P w K mg base CX0 (0 + 1) f fd ["_law_found"] (spOf K (cLWhole)) := by
  refine def_ok F sc_l_whole ?_ ?_
  · rintro ds m PP ⟨i, rfl, hP⟩
    rfl
  · rintro cdv A outer s H E hr ds m PP ⟨i, rfl, hP⟩
    refine ⟨_, (pss_one (ps_ret (pe_and (pe_callB (pk_isi T) (by rfl) T.b_isinstance (by decide +kernel) (pa_cons (pv 0) (pa_cons (pe_bltn (v := .ty "int") (by rfl) T.b_int (by decide +kernel) rfl) pa_nil))) (pe_one (pe_not (pe_callB (pk_isi T) (by rfl) T.b_isinstance (by decide +kernel) (pa_cons (pv 0) (pa_cons (pe_bltn (v := .ty "bool") (by rfl) T.b_bool (by decide +kernel) rfl) pa_nil)))))))), ?_⟩
    walk_at "sx"
    exact hP
theorem half_over {s : Rat} (h : 0 < s) : ((s.den : Int) /. (2 * s.num)) = (1/2) / s := by
  have hn := num_pos h
  rw [Rat.divInt_eq_div]
  conv => rhs; rw [← fr_self s, Rat.divInt_eq_div]
  have h1 : (0 : Rat) < ((s.num : Int) : Rat) := Rat.intCast_pos.mpr hn
  have h2 : (0 : Rat) < ((s.den : Int) : Rat) := Rat.intCast_pos.mpr (den_pos s)
  rw [Rat.intCast_mul]
  have e : ((2 : Int) : Rat) = 2 := rfl
  rw [e]
  grind
abbrev s_l_greatest : Stmt := top 60
theorem sc_l_greatest : FnScope ["_law_claim", "_law_a", "_law_b"] ["_law_claim"] (defScope s_l_greatest) := ⟨rfl, rfl, rfl, by decide +kernel, rfl, by decide +kernel, by decide +kernel⟩
theorem ok_l_greatest {f : Addr} {fd : FuncData} (F : Fun K "_law_greatest" "_law_greatest" s_l_greatest f fd) (T : Txt K mg a) (h_l_lowest : CalC P w K mg base 1 "_law_lowest" (cLow)) : FnOk P w K mg base CX0 (1 + 1) f fd ["_law_claim"] (spOf K (cLGreatest)) := by
  refine def_ok F sc_l_greatest ?_ ?_
  · rintro ds m PP ⟨c, rfl, hk, hP⟩
    rfl
  · rintro cdv A outer s H E hr ds m PP ⟨c, rfl, hk, hP⟩
    refine ⟨_, (pss_cons (ps_if (pt_cmpR (pk_eq T hr.units) (pe_ix (pk_ix T) (pv 0) pe_int (fun _ _ => rfl)) pe_str (nomark _)) (pss_one (ps_ret (pe_tup (pa_cons pe_int (pa_cons pe_int pa_nil))))) pss_nil)
      (pss_cons (ps_asg (pe_ix (pk_ix T) (pv 0) pe_int (fun _ _ => rfl)) (pk_gtup T (n := 2) rfl (pgs_cons (pg_name (i := 1) sc_l_greatest.nd rfl (by first | exact Or.inl rfl | exact Or.inr rfl)) (pgs_cons (pg_name (i := 2) sc_l_greatest.nd rfl (by first | exact Or.inl rfl | exact Or.inr rfl)) pgs_nil))))
      (pss_cons (ps_if (pt_cmpR (pk_eq T hr.units) (pe_ix (pk_ix T) (pv 0) pe_int (fun _ _ => rfl)) pe_str (nomark _)) (pss_one (ps_ret (pk_cal h_l_lowest hr (by decide) (pa_cons (pv 2) (pa_cons (pe_op (pk_mul T) pe_int (pv 1)) pa_nil))))) pss_nil)
      (pss_one (ps_ret (pk_cal h_l_lowest hr (by decide) (pa_cons (pv 2) (pa_cons (pe_op (pk_mul T) pe_int (pe_op op_sub (pv 2) (pv 1))) pa_nil)))))))), ?_⟩
    obtain ⟨one, other⟩ | ⟨n, s⟩ | ⟨n, s⟩ := c <;> unfold Claim.lD
    · walk_at "sx"
      refine ite_y rfl ?_
      walk_at "sx"
      exact hP
    all_goals have hk : ShOk s := hk
    all_goals have hs0 : 0 < s := by have := hk.lo; grind
    all_goals have hn := num_pos hs0
    all_goals have hd := den_pos s
    · walk_at "sx"
      refine ite_n (by decide) ?_
      walk_at "sx"
      refine simS_asg (ts := [1, 2]) ?_
      walk_at "sx"
      refine ite_y rfl ?_
      walk_at "sx"
      refine ops_mulI (cmw (k := 2) (l := 7) (by decide) hk.bd.1 (by omega)) ?_
      walk_at "sx"
      refine ⟨_, _, rfl, by omega, pow_up (wl (k := 2) (by decide) hk.bd.1) (by omega), ?_⟩
      rw [half_over hs0]
      exact hP
    · walk_at "sx"
      refine ite_n (by decide) ?_
      walk_at "sx"
      refine simS_asg (ts := [1, 2]) ?_
      walk_at "sx"
      refine ite_n (by decide) ?_
      have hs1 : 0 < 1 - s := by have := hk.hi; grind
      have e : fr (1 - s) = _ := (fr_one_sub s).symm
      have hb := bd_sub bd_one hk.bd
      have e1 : (1 - s).num = (s.den : Int) - s.num := by
        have := congrArg (fun d : D => match d with | .tup [.int x, _] => x | _ => 0) e
        exact this
      have e2 : (1 - s).den = s.den := by
        have := congrArg (fun d : D => match d with | .tup [_, .int x] => x | _ => 0) e
        have : ((1 - s).den : Int) = s.den := this
        omega
      have hb1 := hb.1
      rw [e1] at hb1
      have hn1 := num_pos hs1
      rw [e1] at hn1
      walk_at "sx"
      refine ops_mulI (cmw (k := 2) (l := 9) (by decide) hb1 (by omega)) ?_
      walk_at "sx"
      refine ⟨_, _, rfl, by omega, pow_up (wl (k := 2) (by decide) hb1) (by omega), ?_⟩
      have e3 := half_over hs1
      rw [e1, e2] at e3
      rw [e3]
      exact hP
abbrev s_l_value : Stmt := top 61
theorem sc_l_value : FnScope ["_law_claim", "_law_mark"] ["_law_claim", "_law_mark"] (defScope s_l_value) := ⟨rfl, rfl, rfl, by decide +kernel, rfl, by decide +kernel, by decide +kernel⟩
theorem ok_l_value {f : Addr} {fd : FuncData} (F : Fun K "_law_value" "_law_value" s_l_value f fd) (T : Txt K mg a) (h_l_greatest : CalC P w K mg base 2 "_law_greatest" (cLGreatest)) : FnOk P w K mg base CX0 (2 + 1) f fd ["_law_claim", "_law_mark"] (spOf K (cLValue)) := by
  refine def_ok F sc_l_value ?_ ?_
  · rintro ds m PP ⟨c, mk, rfl, hk, hP⟩
    rfl
  · rintro cdv A outer s H E hr ds m PP ⟨c, mk, rfl, hk, hP⟩
    refine ⟨_, (pss_cons (ps_if (pt_cmpR (pk_eq T hr.units) (pv 1) pe_str (nomark _)) (pss_one (ps_ret (pe_tup (pa_cons pe_int (pa_cons pe_int pa_nil))))) pss_nil)
      (pss_cons (ps_if (pt_cmpR (pk_eq T hr.units) (pe_ix (pk_ix T) (pv 0) pe_int (fun _ _ => rfl)) pe_str (nomark _)) (pss_one (ps_ret (pe_dgetN (by exact hu_of hr) (pe_disp (pps_cons (pe_ix (pk_ix T) (pv 0) pe_int (fun _ _ => rfl)) (pe_tup (pa_cons pe_int (pa_cons pe_int pa_nil))) (pps_cons (pe_ix (pk_ix T) (pv 0) pe_int (fun _ _ => rfl)) (pe_tup (pa_cons pe_int (pa_cons pe_int pa_nil))) pps_nil)) (by rfl) (by rfl) (fun z => by cases z) (by decide)) (pv 1) (pe_tup (pa_cons pe_int (pa_cons pe_int pa_nil))) ⟨rfl, rfl, rfl, rfl⟩))) pss_nil)
      (pss_cons (ps_if (PW.pt (pw_or (pt_cmpR op_isN (pv 1) pe_non (nomark _)) (pw_or1 (pt_cmpR (pk_eq T hr.units) (pv 1) pe_str (nomark _))))) (pss_one (ps_ret (pe_tup (pa_cons pe_int (pa_cons pe_int pa_nil))))) pss_nil)
      (pss_cons (ps_if (pt_cmpR (pk_eq T hr.units) (pe_cmpR (pk_eq T hr.units) (pv 1) (pe_ix (pk_ix T) (pv 0) pe_int (fun _ _ => rfl)) (nomark _)) (pe_cmpR (pk_eq T hr.units) (pe_ix (pk_ix T) (pv 0) pe_int (fun _ _ => rfl)) pe_str (nomark _)) (nomark _)) (pss_one (ps_ret (pk_cal h_l_greatest hr (by decide) (pa_cons (pv 0) pa_nil)))) pss_nil)
      (pss_one (ps_ret (pe_tup (pa_cons pe_int (pa_cons pe_int pa_nil))))))))), ?_⟩
    unfold Claim.val at hP
    walk_at "sx"
    refine ite_d (fun h => ?_) (fun h => ?_)
    · walk_at "sx"
      rw [if_pos h] at hP
      exact hP
    rw [if_neg h] at hP
    obtain ⟨one, other⟩ | ⟨n, s⟩ | ⟨n, s⟩ := c <;> unfold Claim.lD
    · walk_at "sx"
      refine ite_y rfl ?_
      walk_at "sx"
      refine sim_drop (sim_dgetN (sim_disp (simPs_cons ?_)))
      walk_at "sx"
      refine simPs_cons ?_
      walk_at "sx"
      refine simPs_nil ⟨by simp, fun q hq => ?_⟩
      refine ⟨q, _, rfl, mupd_same, ?_⟩
      walk_at "sx"
      refine ⟨_, mupd_same, ?_⟩
      have hne : one ≠ other := hk
      have em : mergeD [(.inr one, fr 1), (.inr other, fr 0)] = [(.inr one, fr 1), (.inr other, fr 0)] := by
        simp [mergeD, putKD, hne]
      rw [fr1, fr0, em]
      simp only [Claim.val0] at hP
      cases mk with
      | none =>
        refine .inr ⟨rfl, q, ?_⟩
        rw [mdel_upd hq, frh]
        rw [if_neg (by simp), if_neg (by simp)] at hP
        exact hP
      | some s =>
        refine .inl ⟨.inr s, rfl, q, ?_⟩
        rw [mdel_upd hq, frh]
        by_cases h1 : s = one
        · subst h1
          rw [if_pos rfl] at hP
          have e : getKD [(.inr s, fr 1), (.inr other, fr 0)] (.inr s) = some (fr 1) := by simp [getKD]
          rw [e]
          exact hP
        · rw [if_neg (by simpa using h1)] at hP
          by_cases h2 : s = other
          · subst h2
            rw [if_pos rfl] at hP
            have e : getKD [(.inr one, fr 1), (.inr s, fr 0)] (.inr s) = some (fr 0) := by
              simp [getKD, List.find?_cons, hne]
            rw [e]
            exact hP
          · rw [if_neg (by simpa using h2)] at hP
            have h1' : ¬ one = s := fun e => h1 e.symm
            have h2' : ¬ other = s := fun e => h2 e.symm
            have e : getKD [(.inr one, fr 1), (.inr other, fr 0)] (.inr s) = none := by simp [getKD, List.find?_cons, h1', h2']
            rw [e]
            exact hP
    · simp only [Claim.val0] at hP
      walk_at "sx"
      refine ite_n (by decide) ?_
      walk_at "sx"
      rw [isNon_mk]
      refine ite_d (fun h1 => ?_) (fun h1 => ?_) <;> walk_at "sx"
      · rw [if_pos (.inl h1), ← frh] at hP
        exact hP
      refine ite_d (fun h2 => ?_) (fun h2 => ?_) <;> walk_at "sx"
      · rw [if_pos (.inr h2), ← frh] at hP
        exact hP
      rw [if_neg (not_or.mpr ⟨h1, h2⟩)] at hP
      refine ite_d (fun h3 => ?_) (fun h3 => ?_) <;> walk_at "sx"
      · have h3' : mk = some n := by simpa using h3
        rw [if_pos h3'] at hP
        exact ⟨.over n s, rfl, hk, hP⟩
      · have h3' : ¬ mk = some n := by simpa using h3
        rw [if_neg h3'] at hP
        exact hP
    · simp only [Claim.val0] at hP
      walk_at "sx"
      refine ite_n (by decide) ?_
      walk_at "sx"
      rw [isNon_mk]
      refine ite_d (fun h1 => ?_) (fun h1 => ?_) <;> walk_at "sx"
      · rw [if_pos (.inl h1), ← frh] at hP
        exact hP
      refine ite_d (fun h2 => ?_) (fun h2 => ?_) <;> walk_at "sx"
      · rw [if_pos (.inr h2), ← frh] at hP
        exact hP
      rw [if_neg (not_or.mpr ⟨h1, h2⟩)] at hP
      have e0 : decide (("under" : Str) = "over") = false := by decide
      refine ite_d (fun h3 => ?_) (fun h3 => ?_) <;> walk_at "sx"
      · rw [e0] at h3
        have h3' : ¬ mk = some n := by simpa using h3
        rw [if_neg h3'] at hP
        exact ⟨.under n s, rfl, hk, hP⟩
      · rw [e0] at h3
        have h3' : mk = some n := by simpa using h3
        rw [if_pos h3'] at hP
        exact hP
theorem rat_frac (w : Rat) : w = ((w.num : Int) : Rat) / ((w.den : Int) : Rat) := by
  conv => lhs; rw [← fr_self w, Rat.divInt_eq_div]
theorem den_pos' (w : Rat) : (0 : Rat) < ((w.den : Int) : Rat) := Rat.intCast_pos.mpr (den_pos w)
theorem half_lt (n : Nat) (w : Rat) : ((n : Int) * (w.den : Int) < 2 * w.num) ↔ (n : Rat) / 2 < w := by
  have hd := den_pos' w
  have e1 : (((n : Int) * (w.den : Int) : Int) : Rat) < ((2 * w.num : Int) : Rat) ↔ (n : Int) * (w.den : Int) < 2 * w.num := Rat.intCast_lt_intCast
  rw [← e1, Rat.intCast_mul, Rat.intCast_mul]
  have e2 : ((2 : Int) : Rat) = 2 := rfl
  have e3 : (((n : Nat) : Int) : Rat) = (n : Rat) := rfl
  rw [e2, e3]
  conv => rhs; rw [rat_frac w]
  rw [Rat.lt_div_iff hd]
  constructor <;> intro h <;> grind
theorem margin_eq (n : Nat) (hn : 0 < n) (w : Rat) : ((2 * w.num - (n : Int) * (w.den : Int)) /. ((n : Int) * (w.den : Int))) = 2 * (w / (n : Rat)) - 1 := by
  have hd := den_pos' w
  have hn' := rat_nat_pos hn
  rw [Rat.divInt_eq_div, Rat.intCast_sub, Rat.intCast_mul, Rat.intCast_mul]
  have e2 : ((2 : Int) : Rat) = 2 := rfl
  have e3 : (((n : Nat) : Int) : Rat) = (n : Rat) := rfl
  rw [e2, e3]
  conv => rhs; rw [rat_frac w]
  grind
abbrev s_l_all : Stmt := top 62
theorem sc_l_all : FnScope ["_law_claim", "_law_marks", "_law_whole_here", "_law_mark"] ["_law_claim", "_law_marks"] (defScope s_l_all) := ⟨rfl, rfl, rfl, by decide +kernel, rfl, by decide +kernel, by decide +kernel⟩
theorem ok_l_all {f : Addr} {fd : FuncData} (F : Fun K "_law_all" "_law_all" s_l_all f fd) (T : Txt K mg a) (h_l_plus : CalC P w K mg base 2 "_law_plus" (cPlus)) (h_l_value : CalC P w K mg base 3 "_law_value" (cLValue)) : FnOk P w K mg base CX0 (3 + 1) f fd ["_law_claim", "_law_marks"] (spOf K (cLAll)) := by
  refine def_ok F sc_l_all ?_ ?_
  · rintro ds m PP ⟨c, x, mks, rfl, hx, hk, hl, hP⟩
    rfl
  · rintro cdv A outer s H E hr ds m PP ⟨c, x, mks, rfl, hx, hk, hl, hP⟩
    refine ⟨_, (pss_cons (ps_set (i := 2) sc_l_all.nd rfl (by first | exact Or.inl rfl | exact Or.inr rfl) (pe_tup (pa_cons pe_int (pa_cons pe_int pa_nil))))
      (pss_cons (ps_for PassesOwn.never rfl (pk_seq T (pv 1)) (pg_name (i := 3) sc_l_all.nd rfl (by first | exact Or.inl rfl | exact Or.inr rfl)) (pss_one (ps_set (i := 2) sc_l_all.nd rfl (by first | exact Or.inl rfl | exact Or.inr rfl) (pk_cal h_l_plus hr (by decide) (pa_cons (pv 2) (pa_cons (pk_cal h_l_value hr (by decide) (pa_cons (pv 0) (pa_cons (pv 3) pa_nil))) pa_nil))))))
      (pss_one (ps_ret (pv 2))))), ?_⟩
    walk_at "sx"
    refine simS_forM mks mkD (fun done ρ' m' => m' = m ∧ ∃ z, ρ' = [some c.lD, some x, some (fr (c.sum done)), z]) (ts := [3]) (simI_seq ?_)
    walk_at "sx"
    refine ⟨_, hx, rfl, ⟨rfl, _, rfl⟩, ?_, ?_, ?_⟩
    · rintro done ρ' m' ⟨rfl, _⟩
      exact hx
    · rintro done mk rest ρ' m' hsplit ⟨rfl, z, rfl⟩
      rw [hsplit, List.length_append, List.length_cons] at hl
      walk_at "sx"
      refine ⟨c, mk, rfl, hk, ?_⟩
      walk_at "sx"
      refine ⟨_, _, 14, 9, rfl, Claim.sum_bd hk (by omega), Claim.val_bd hk mk, by omega, rfl, some (mkD mk), ?_⟩
      have e : c.sum (done ++ [mk]) = c.sum done + c.val mk := by
        unfold Claim.sum
        rw [List.map_append, List.foldl_append]
        rfl
      rw [e]
      rfl
    · rintro ρ' m' ⟨rfl, z, rfl⟩
      walk_at "sx"
      exact hP
abbrev s_l_is_so : Stmt := top 63
theorem sc_l_is_so : FnScope ["_law_claim", "_law_marks", "_law_whole_here"] ["_law_claim", "_law_marks"] (defScope s_l_is_so) := ⟨rfl, rfl, rfl, by decide +kernel, rfl, by decide +kernel, by decide +kernel⟩
theorem ok_l_is_so {f : Addr} {fd : FuncData} (F : Fun K "_law_is_so" "_law_is_so" s_l_is_so f fd) (T : Txt K mg a) (h_l_all : CalC P w K mg base 4 "_law_all" (cLAll)) : FnOk P w K mg base CX0 (4 + 1) f fd ["_law_claim", "_law_marks"] (spOf K (cLIsSo)) := by
  refine def_ok F sc_l_is_so ?_ ?_
  · rintro ds m PP ⟨c, x, mks, rfl, hx, hk, hl, hP⟩
    rfl
  · rintro cdv A outer s H E hr ds m PP ⟨c, x, mks, rfl, hx, hk, hl, hP⟩
    refine ⟨_, (pss_cons (ps_set (i := 2) sc_l_is_so.nd rfl (by first | exact Or.inl rfl | exact Or.inr rfl) (pk_cal h_l_all hr (by decide) (pa_cons (pv 0) (pa_cons (pv 1) pa_nil))))
      (pss_one (ps_ret (pe_cmpR op_gt (pe_op (pk_mul T) pe_int (pe_ix (pk_ix T) (pv 2) pe_int (fun _ _ => rfl))) (pe_op (pk_mul T) (pe_callB (pk_len T) (by rfl) T.b_len (by decide +kernel) (pa_cons (pv 1) pa_nil)) (pe_ix (pk_ix T) (pv 2) pe_int (fun _ _ => rfl))) (nomark _))))), ?_⟩
    walk_at "sx"
    have hb := Claim.sum_bd hk hl
    refine ⟨c, x, mks, rfl, hx, hk, hl, ?_⟩
    walk_at "sx"
    refine ops_mulI (cmw (k := 2) (l := 14) (by decide) hb.1 (by omega)) ?_
    walk_at "sx"
    refine cs_len hx ?_
    rw [List.length_map]
    walk_at "sx"
    refine ops_mulI (cmw (k := 7) (l := 14) (by omega) hb.dn (by omega)) ?_
    walk_at "sx"
    rw [decide_eq_decide.mpr (half_lt mks.length (c.sum mks))]
    exact hP
abbrev s_l_scale : Stmt := top 64
theorem sc_l_scale : FnScope ["_law_claim", "_law_marks", "_law_whole_here", "_law_margin", "_law_lost"] ["_law_claim", "_law_marks"] (defScope s_l_scale) := ⟨rfl, rfl, rfl, by decide +kernel, rfl, by decide +kernel, by decide +kernel⟩
theorem ok_l_scale {f : Addr} {fd : FuncData} (F : Fun K "_law_scale" "_law_scale" s_l_scale f fd) (T : Txt K mg a) (h_l_all : CalC P w K mg base 4 "_law_all" (cLAll)) (h_l_lowest : CalC P w K mg base 1 "_law_lowest" (cLow)) (h_l_over : CalC P w K mg base 2 "_law_over" (cLOver)) (h_l_greatest : CalC P w K mg base 2 "_law_greatest" (cLGreatest)) : FnOk P w K mg base CX0 (4 + 1) f fd ["_law_claim", "_law_marks"] (spOf K (cLScale)) := by
  refine def_ok F sc_l_scale ?_ ?_
  · rintro ds m PP ⟨c, x, mks, rfl, hx, hk, h0, hl, hP⟩
    rfl
  · rintro cdv A outer s H E hr ds m PP ⟨c, x, mks, rfl, hx, hk, h0, hl, hP⟩
    refine ⟨_, (pss_cons (ps_set (i := 2) sc_l_scale.nd rfl (by first | exact Or.inl rfl | exact Or.inr rfl) (pk_cal h_l_all hr (by decide) (pa_cons (pv 0) (pa_cons (pv 1) pa_nil))))
      (pss_cons (ps_set (i := 3) sc_l_scale.nd rfl (by first | exact Or.inl rfl | exact Or.inr rfl) (pk_cal h_l_lowest hr (by decide) (pa_cons (pe_op op_sub (pe_op (pk_mul T) pe_int (pe_ix (pk_ix T) (pv 2) pe_int (fun _ _ => rfl))) (pe_op (pk_mul T) (pe_callB (pk_len T) (by rfl) T.b_len (by decide +kernel) (pa_cons (pv 1) pa_nil)) (pe_ix (pk_ix T) (pv 2) pe_int (fun _ _ => rfl)))) (pa_cons (pe_op (pk_mul T) (pe_callB (pk_len T) (by rfl) T.b_len (by decide +kernel) (pa_cons (pv 1) pa_nil)) (pe_ix (pk_ix T) (pv 2) pe_int (fun _ _ => rfl))) pa_nil))))
      (pss_cons (ps_set (i := 4) sc_l_scale.nd rfl (by first | exact Or.inl rfl | exact Or.inr rfl) (pk_cal h_l_over hr (by decide) (pa_cons (pv 3) (pa_cons (pk_cal h_l_greatest hr (by decide) (pa_cons (pv 0) pa_nil)) pa_nil))))
      (pss_one (ps_ret (pe_tup (pa_cons (pe_op op_sub (pe_op (pk_mul T) pe_int (pe_ix (pk_ix T) (pv 4) pe_int (fun _ _ => rfl))) (pe_ix (pk_ix T) (pv 4) pe_int (fun _ _ => rfl))) (pa_cons (pe_ix (pk_ix T) (pv 4) pe_int (fun _ _ => rfl)) pa_nil)))))))), ?_⟩
    walk_at "sx"
    have hb := Claim.sum_bd hk hl
    refine ⟨c, x, mks, rfl, hx, hk, hl, ?_⟩
    walk_at "sx"
    have hw2 : (2 * (c.sum mks).num).natAbs < 2 ^ (2 + 14) := wl (k := 2) (by decide) hb.1
    have hwn : ((mks.length : Int) * ((c.sum mks).den : Int)).natAbs < 2 ^ (7 + 14) := wl (k := 7) (by omega) hb.dn
    have hcn : CMulW (mks.length : Int) ((c.sum mks).den : Int) := cmw (k := 7) (l := 14) (by omega) hb.dn (by omega)
    refine ops_mulI (cmw (k := 2) (l := 14) (by decide) hb.1 (by omega)) ?_
    walk_at "sx"
    refine cs_len hx ?_
    rw [List.length_map]
    walk_at "sx"
    refine ops_mulI hcn ?_
    walk_at "sx"
    refine cs_len hx ?_
    rw [List.length_map]
    walk_at "sx"
    refine ops_mulI hcn ?_
    walk_at "sx"
    have hpos : 0 < (mks.length : Int) * ((c.sum mks).den : Int) := Int.mul_pos (by omega) (den_pos _)
    refine ⟨_, _, rfl, hpos, pow_up hwn (by omega), ?_⟩
    have hmb : Bd 22 ((2 * (c.sum mks).num - (mks.length : Int) * ((c.sum mks).den : Int)) /. ((mks.length : Int) * ((c.sum mks).den : Int))) := bd_divInt hpos (natAbs_sub2 (pow_up hw2 (by omega)) hwn) (pow_up hwn (by omega))
    rw [margin_eq mks.length h0] at hmb ⊢
    walk_at "sx"
    refine ⟨c, rfl, hk, ?_⟩
    walk_at "sx"
    have htb := Claim.top_bd hk
    have htp := Claim.top_pos hk
    refine ⟨_, _, _, _, 22, 18, rfl, den_pos _, num_pos htp, den_pos _, hmb.1, hmb.dn, htb.1, htb.dn, by omega, ?_⟩
    rw [← rat_div]
    have hlb := bd_div hmb htb htp
    walk_at "sx"
    refine ops_mulI (cmw (k := 2) (l := 40) (by decide) hlb.dn (by omega)) ?_
    walk_at "sx"
    rw [fr_two_sub]
    exact hP
abbrev s_l_compared : Stmt := top 65
theorem sc_l_compared : FnScope ["_law_claim", "_law_told_here", "_law_scale_here", "_law_mark", "_law_one", "_law_other", "_law_lost", "_law_part"] ["_law_claim", "_law_told_here", "_law_scale_here", "_law_mark"] (defScope s_l_compared) := ⟨rfl, rfl, rfl, by decide +kernel, rfl, by decide +kernel, by decide +kernel⟩
theorem ok_l_compared {f : Addr} {fd : FuncData} (F : Fun K "_law_compared" "_law_compared" s_l_compared f fd) (T : Txt K mg a) (h_l_value : CalC P w K mg base 3 "_law_value" (cLValue)) (h_l_over : CalC P w K mg base 2 "_law_over" (cLOver)) (h_l_greatest : CalC P w K mg base 2 "_law_greatest" (cLGreatest)) : FnOk P w K mg base CX0 (3 + 1) f fd ["_law_claim", "_law_told_here", "_law_scale_here", "_law_mark"] (spOf K (cLCompared)) := by
  refine def_ok F sc_l_compared ?_ ?_
  · rintro ds m PP ⟨c, sc, t, mk, rfl, hk, hs, hs0, hP⟩
    rfl
  · rintro cdv A outer s H E hr ds m PP ⟨c, sc, t, mk, rfl, hk, hs, hs0, hP⟩
    refine ⟨_, (pss_cons (ps_set (i := 4) sc_l_compared.nd rfl (by first | exact Or.inl rfl | exact Or.inr rfl) (pk_cal h_l_value hr (by decide) (pa_cons (pv 0) (pa_cons (pv 1) pa_nil))))
      (pss_cons (ps_set (i := 5) sc_l_compared.nd rfl (by first | exact Or.inl rfl | exact Or.inr rfl) (pk_cal h_l_value hr (by decide) (pa_cons (pv 0) (pa_cons (pv 3) pa_nil))))
      (pss_cons (ps_set (i := 6) sc_l_compared.nd rfl (by first | exact Or.inl rfl | exact Or.inr rfl) (pe_tup (pa_cons (pe_op op_sub (pe_op (pk_mul T) (pe_ix (pk_ix T) (pv 4) pe_int (fun _ _ => rfl)) (pe_ix (pk_ix T) (pv 5) pe_int (fun _ _ => rfl))) (pe_op (pk_mul T) (pe_ix (pk_ix T) (pv 5) pe_int (fun _ _ => rfl)) (pe_ix (pk_ix T) (pv 4) pe_int (fun _ _ => rfl)))) (pa_cons (pe_op (pk_mul T) (pe_ix (pk_ix T) (pv 4) pe_int (fun _ _ => rfl)) (pe_ix (pk_ix T) (pv 5) pe_int (fun _ _ => rfl))) pa_nil))))
      (pss_cons (ps_set (i := 7) sc_l_compared.nd rfl (by first | exact Or.inl rfl | exact Or.inr rfl) (pk_cal h_l_over hr (by decide) (pa_cons (pv 6) (pa_cons (pk_cal h_l_greatest hr (by decide) (pa_cons (pv 0) pa_nil)) pa_nil))))
      (pss_one (ps_ret (pk_cal h_l_over hr (by decide) (pa_cons (pe_tup (pa_cons (pe_op op_sub (pe_ix (pk_ix T) (pv 7) pe_int (fun _ _ => rfl)) (pe_ix (pk_ix T) (pv 7) pe_int (fun _ _ => rfl))) (pa_cons (pe_ix (pk_ix T) (pv 7) pe_int (fun _ _ => rfl)) pa_nil))) (pa_cons (pv 2) pa_nil))))))))), ?_⟩
    walk_at "sx"
    refine ⟨c, t, rfl, hk, ?_⟩
    walk_at "sx"
    refine ⟨c, mk, rfl, hk, ?_⟩
    walk_at "sx"
    have b1 := Claim.val_bd hk t
    have b2 := Claim.val_bd hk mk
    refine ops_mulI (cmw b1.1 b2.dn (by omega)) ?_
    walk_at "sx"
    refine ops_mulI (cmw b2.1 b1.dn (by omega)) ?_
    walk_at "sx"
    refine ops_mulI (cmw b1.dn b2.dn (by omega)) ?_
    walk_at "sx"
    refine ⟨c, rfl, hk, ?_⟩
    walk_at "sx"
    have htb := Claim.top_bd hk
    have htp := Claim.top_pos hk
    have hp2 : 0 < ((c.val t).den : Int) * ((c.val mk).den : Int) := Int.mul_pos (den_pos _) (den_pos _)
    refine ⟨_, _, _, _, 19, 18, rfl, hp2, num_pos htp, den_pos _, natAbs_sub2 (k := 18) (wl b1.1 b2.dn) (wl b2.1 b1.dn), pow_up (wl b1.dn b2.dn) (by omega), htb.1, htb.dn, by omega, ?_⟩
    have e : ((((c.val t).num * ((c.val mk).den : Int) - (c.val mk).num * ((c.val t).den : Int)) * (c.top.den : Int)) /. (((c.val t).den : Int) * ((c.val mk).den : Int) * c.top.num)) = (c.val t - c.val mk) / c.top := by
      rw [Rat.divInt_eq_div]
      conv => rhs; rw [rat_frac (c.val t), rat_frac (c.val mk), rat_frac c.top]
      have d1 := den_pos' (c.val t)
      have d2 := den_pos' (c.val mk)
      have d3 := den_pos' c.top
      have d4 : (0 : Rat) < ((c.top.num : Int) : Rat) := Rat.intCast_pos.mpr (num_pos htp)
      simp only [Rat.intCast_sub, Rat.intCast_mul]
      grind
    rw [e]
    have b3 := bd_div (bd_sub b1 b2) htb htp
    walk_at "sx"
    have b4 := bd_sub bd_one b3
    rw [fr_one_sub]
    refine ⟨_, _, _, _, 39, 46, rfl, den_pos _, num_pos hs0, den_pos _, b4.1, b4.dn, hs.1, hs.dn, by omega, ?_⟩
    rw [← rat_div]
    exact hP
end
end L3

/-! text L4b -/
set_option Elab.async false
set_option linter.all false
set_option maxRecDepth 100000
set_option maxHeartbeats 4000000
set_option pp.maxSteps 1500
namespace L3
open PySem L2
open scoped Rat
local macro_rules | `(tactic| walk_at "ca") => `(tactic| first
  | exact Txt.k_Game (by assumption)
  | exact Txt.n_Game_many (by assumption)
  | exact Txt.n_Game_again (by assumption)
  | exact Txt.n_Game_highest (by assumption)
  | exact Txt.n_Game_rule (by assumption)
  | exact Txt.n_Game_drawn_values (by assumption)
  | exact Txt.n_Game_sum_so_far (by assumption)
  | exact Txt.n_Game_now (by assumption)
  | exact Txt.n_Game_most (by assumption)
  | exact Txt.n_Game_certain (by assumption)
  | exact Txt.k_Way (by assumption)
  | exact Txt.n_Way_claim (by assumption)
  | exact Txt.k_Comparing (by assumption)
  | exact Txt.n_Comparing_claim (by assumption)
  | exact Txt.n_Comparing_told (by assumption)
  | exact Txt.n_Comparing_scale (by assumption)
  | exact Txt.k_Sheet (by assumption)
  | exact Txt.n_Sheet_names (by assumption)
  | exact Txt.n_Sheet_limit (by assumption)
  | exact Txt.n_Sheet_ways (by assumption)
  | exact Txt.n_Sheet_games (by assumption)
  | exact Txt.k_Audit (by assumption)
  | exact Txt.n_Audit_sheets (by assumption)
  | exact Txt.n_Audit_many (by assumption)
  | exact Txt.n_Audit_again (by assumption)
  | exact Txt.n_Audit_most (by assumption)
  | exact Txt.n_Audit_numbers (by assumption)
  | exact Txt.k_Beats (by assumption)
  | exact Txt.n_Beats_one (by assumption)
  | exact Txt.n_Beats_other (by assumption)
  | exact Txt.k_Over (by assumption)
  | exact Txt.n_Over_name (by assumption)
  | exact Txt.n_Over_share (by assumption)
  | exact Txt.k_Under (by assumption)
  | exact Txt.n_Under_name (by assumption)
  | exact Txt.n_Under_share (by assumption)
  | exact Txt.k_Contest (by assumption)
  | exact Txt.n_Contest_names (by assumption)
  | exact Txt.k_Most (by assumption)
  | exact Txt.n_Most_names (by assumption)
  | exact Txt.n_Most_seats (by assumption)
  | exact Txt.k_Portion (by assumption)
  | exact Txt.n_Portion_names (by assumption)
  | exact Txt.n_Portion_share (by assumption)
  | exact Txt.k_Fixed (by assumption)
  | exact Txt.n_Fixed_part (by assumption))
local macro_rules | `(tactic| walk_at "ne") => `(tactic| first
  | assumption
  | (refine Ne.symm ?_; assumption)
  | exact mne (by assumption) (by assumption)
  | exact (mne (by assumption) (by assumption)).symm)
local macro_rules | `(tactic| walk_at "mm") => `(tactic| first
  | assumption
  | exact mupd_same
  | (refine (mupd_ne ?_).trans ?_; (walk_at "ne"); (walk_at "mm")))
local macro_rules | `(tactic| walk_at "s0") => `(tactic| first
  | with_reducible refine simS_seq ?_
  | with_reducible refine simS_ret ?_
  | with_reducible refine simS_retN ?_
  | with_reducible refine simS_set ?_
  | with_reducible refine simS_drop ?_
  | with_reducible refine simS_next ?_
  | with_reducible refine simS_fld ?_
  | with_reducible refine simS_dput ?_
  | with_reducible refine simT_test ?_
  | with_reducible refine simT_B ?_
  | with_reducible refine simT_not ?_
  | with_reducible refine simT_and ?_
  | with_reducible refine simT_or ?_
  | focus ((with_reducible refine sim_var (d := ?_) ?_ ?_); rotate_left 1; exact rfl)
  | with_reducible refine sim_int ?_
  | with_reducible refine sim_bl ?_
  | with_reducible refine sim_str ?_
  | with_reducible refine sim_non ?_
  | with_reducible refine sim_ty ?_
  | with_reducible refine sim_c (Txt.t_NOUGHT_games (by assumption)) ?_
  | with_reducible refine sim_c (Txt.t_ONE_games (by assumption)) ?_
  | with_reducible refine sim_c (Txt.t_ONE_ways (by assumption)) ?_
  | with_reducible refine sim_c (Txt.t_TWO (by assumption)) ?_
  | with_reducible refine sim_c (Txt.t_NOUGHT_claims (by assumption)) ?_
  | with_reducible refine sim_c (Txt.t_HALF (by assumption)) ?_
  | with_reducible refine sim_c (Txt.t_ONE_claims (by assumption)) ?_
  | with_reducible refine sim_ref ?_
  | with_reducible refine sim_op ?_
  | with_reducible refine sim_un ?_
  | with_reducible refine sim_andV ?_
  | with_reducible refine sim_orV ?_
  | with_reducible refine sim_notV ?_
  | with_reducible refine sim_chain ?_
  | with_reducible refine sim_tup ?_
  | with_reducible refine sim_call ?_
  | with_reducible refine sim_callB ?_
  | with_reducible refine sim_fldU ?_
  | with_reducible refine sim_append ?_
  | focus ((with_reducible refine apl (ds := ?_) ?_ ?_); rotate_left 1; walk_at "mm")
  | with_reducible refine sim_methU ?_
  | with_reducible refine sim_cfn ?_
  | with_reducible refine sim_dget ?_
  | with_reducible refine sim_sl ?_
  | with_reducible refine simO_none ?_
  | with_reducible refine simO_some ?_
  | with_reducible refine simA_cons ?_
  | with_reducible refine simA_nil ?_
  | with_reducible refine simG_name ?_
  | with_reducible refine simG_pair ?_
  | with_reducible refine ops_addI ?_
  | with_reducible refine uns_I (g := fun i => -i) ?_
  | with_reducible refine simG_triple ?_
  | with_reducible refine ops_subI ?_
  | with_reducible refine ops_lt ?_
  | with_reducible refine ops_le ?_
  | with_reducible refine ops_gt ?_
  | with_reducible refine ops_ge ?_
  | with_reducible refine ops_eqI ?_
  | with_reducible refine ops_neI ?_
  | with_reducible refine ops_eqSt ?_
  | with_reducible refine ops_eqNS ?_
  | with_reducible refine eq_mk ?_
  | with_reducible refine eq_bl ?_
  | with_reducible refine ops_isN ?_
  | with_reducible refine ops_notN ?_
  | with_reducible refine cs_abs ?_
  | focus ((with_reducible refine cs_isi2 (t := ?_) (b := ?_) ?_ ?_ ?_ ?_); rotate_left 2; exact rfl; exact rfl; exact rfl)
  | with_reducible refine cs_max2 ?_
  | with_reducible refine cs_min2 ?_
  | focus ((with_reducible refine ops_ixT' (d := ?_) ?_ ?_); rotate_left 1; exact rfl)
  | focus ((with_reducible refine fld_o (d := ?_) ?_ ?_ ?_ ?_); rotate_left 1; walk_at "ca"; walk_at "ca"; exact rfl)
  | focus ((with_reducible refine fld_p (C := ?_) (fs := ?_) (d := ?_) ?_ ?_ ?_ ?_ ?_); rotate_left 3; walk_at "mm"; walk_at "ca"; walk_at "ca"; exact rfl)
  | focus ((with_reducible refine And.intro (?_ : Mth _ _ _ _) ?_); exact mth_o (by rfl))
  | focus ((with_reducible refine ⟨mth_p (fs := ?_) ?_ ?_, ?_⟩); rotate_left 1; walk_at "mm"; exact rfl)
  | focus ((with_reducible refine setf (C := ?_) (fs := ?_) ?_ ?_ ?_ ?_ ?_); rotate_left 2; walk_at "mm"; walk_at "ca"; walk_at "ca"; exact of_decide_eq_true rfl)
  | focus ((with_reducible refine dgt (kvs := ?_) (k := ?_) (d := ?_) ?_ ?_ ?_ ?_); rotate_left 3; walk_at "mm"; exact rfl; exact rfl)
  | focus ((with_reducible refine dpt (kvs := ?_) (k := ?_) ?_ ?_ ?_ ?_); rotate_left 2; walk_at "mm"; exact rfl; exact of_decide_eq_true rfl)
  | (with_reducible refine ⟨_, rfl, ?_⟩)
  | (with_reducible refine ⟨rfl, ?_⟩)
  | focus ((with_reducible refine ⟨Nat.le_of_ble_eq_true ?_, ?_⟩); exact rfl)
  | with_reducible refine ite_T ?_
  | with_reducible refine ite_nF ?_
  | with_reducible refine ite_nT ?_
  | with_reducible refine ite_F ?_)
local macro_rules | `(tactic| walk_at "s1") => `(tactic| first
  | walk_at "s0"
  | with_reducible refine simS_if ?_)
local macro_rules | `(tactic| walk_at "sx") => `(tactic| repeat walk_at "s1")
local macro_rules | `(tactic| walk_at "sy") => `(tactic| repeat walk_at "s0")

section
variable {P : Program} {w : World} {K : PySem.W.Frag} {mg : Str → Option Value} {base : Heap} {a : Adr}

/-! L4b: the law's defs on outcomes. -/
def Con.lD : Con → D
  | .most ns k => .tup [.str "most", strsD ns, .int k]
  | .portion ns s => .tup [.str "over", strsD ns, fr s]
def OutOk : Con → List Str → Prop
  | .most ns _, out => ∃ n ∈ ns, out = [n]
  | .portion ns _, out => out = [] ∨ ∃ n ∈ ns, out = [n]
def cnt (mks : List Mark) (n : Str) : Nat := (mks.filter fun mk => decide (mk = some n)).length
structure ConOk (c : Con) : Prop where
  nd : c.names.Nodup
  lo : 2 ≤ c.names.length
  hi : c.names.length ≤ 3
  str : ∀ s ∈ c.names, PyData.strOk s = true
  nq : ∀ s ∈ c.names, s ≠ ("" : Str) ∧ s ≠ ("?" : Str)
  sh : ∀ ns s, c = .portion ns s → ShOk s
theorem filterMap_ite {α β : Type} (p : α → Prop) [DecidablePred p] (f : α → β) (xs : List α) : (xs.filterMap fun x => if p x then some (f x) else none) = (xs.filter fun x => decide (p x)).map f := by
  induction xs with
  | nil => rfl
  | cons x xs ih =>
    by_cases h : p x
    · simp [List.filterMap_cons, List.filter_cons, h, ih]
    · simp [List.filterMap_cons, List.filter_cons, h, ih]
theorem cnt_le (mks : List Mark) (n : Str) : cnt mks n ≤ mks.length := List.length_filter_le _ _
theorem nn_sum {xs : List Int} (h : ∀ x ∈ xs, 0 ≤ x) : 0 ≤ xs.sum := by
  induction xs with
  | nil => simp
  | cons x xs ih =>
    have h1 := h x (by simp)
    have h2 := ih fun y hy => h y (by simp [hy])
    rw [List.sum_cons]
    omega
theorem one_le_sum {xs : List Int} (h : ∀ x ∈ xs, 0 ≤ x) {i : Nat} {x : Int} (hi : xs[i]? = some x) : x ≤ xs.sum := by
  induction xs generalizing i with
  | nil => simp at hi
  | cons y ys ih =>
    have h1 := h y (by simp)
    have h2 := nn_sum fun z hz => h z (List.mem_cons_of_mem y hz)
    rw [List.sum_cons]
    cases i with
    | zero =>
      have : y = x := by simpa using hi
      omega
    | succ i =>
      have := ih (fun z hz => h z (List.mem_cons_of_mem y hz)) (i := i) (by simpa using hi)
      omega
theorem two_le_sum {xs : List Int} (h : ∀ x ∈ xs, 0 ≤ x) {i j : Nat} {x y : Int} (hij : i < j) (hi : xs[i]? = some x) (hj : xs[j]? = some y) : x + y ≤ xs.sum := by
  induction xs generalizing i j with
  | nil => simp at hi
  | cons z zs ih =>
    have h1 := h z (by simp)
    have h3 : ∀ u ∈ zs, 0 ≤ u := fun u hu => h u (List.mem_cons_of_mem z hu)
    rw [List.sum_cons]
    cases j with
    | zero => omega
    | succ j =>
      have hj' : zs[j]? = some y := by simpa using hj
      cases i with
      | zero =>
        have : z = x := by simpa using hi
        have := one_le_sum h3 hj'
        omega
      | succ i =>
        have := ih h3 (i := i) (j := j) (by omega) (by simpa using hi) hj'
        omega
theorem share_two {a b S x y : Int} (hb : 0 < b) (h4 : b ≤ 2 * a) (h3 : 0 ≤ S) (h2 : x + y ≤ S) (q1 : a * S < x * b) (q2 : a * S < y * b) : False := by
  have h5 : (x + y) * b ≤ S * b := Int.mul_le_mul_of_nonneg_right h2 (by omega)
  have h6 : S * b ≤ S * (2 * a) := Int.mul_le_mul_of_nonneg_left h4 h3
  have h7 : S * (2 * a) = 2 * (a * S) := by rw [Int.mul_left_comm, Int.mul_comm S a]
  rw [Int.add_mul] at h5
  omega
/-- at most one index passes -/
theorem filt_few {n : Nat} {p : Nat → Bool} (h : ∀ i j, i < j → j < n → p i = true → p j = true → False) : ((List.range n).filter p).length ≤ 1 := by
  cases q : (List.range n).filter p with
  | nil => simp
  | cons a t =>
    cases t with
    | nil => simp
    | cons b t =>
      exfalso
      have hp : ((List.range n).filter p).Pairwise (· < ·) := List.Pairwise.filter _ List.pairwise_lt_range
      rw [q] at hp
      have hab : a < b := (List.pairwise_cons.mp hp).1 b (by simp)
      have ha := List.mem_filter.mp (q ▸ (by simp : a ∈ a :: b :: t) : a ∈ (List.range n).filter p)
      have hb := List.mem_filter.mp (q ▸ (by simp : b ∈ a :: b :: t) : b ∈ (List.range n).filter p)
      exact h a b hab (List.mem_range.mp hb.1) ha.2 hb.2
def cLCounts : Ctr := fun ds m P => ∃ (ns : List Str) (x : D) (mks : List Mark), ds = [strsD ns, x] ∧ SeqD m x (mks.map mkD) ∧ ns.length ≤ 3 ∧ mks.length ≤ 60 ∧ P (.lst (ns.map fun n => .int (cnt mks n : Nat))) m
def cLOutcome : Ctr := fun ds m P => ∃ (c : Con) (x : D) (mks : List Mark), ds = [c.lD, x] ∧ SeqD m x (mks.map mkD) ∧ mks.length ≤ 60 ∧ ConOk c ∧ (∀ ns k, c = .most ns k → k = 1) ∧ ∀ d, (d = .non ∨ ∃ out, d = strsD out ∧ OutOk c out) → P d m
def cLClaims : Ctr := fun ds m P => ∃ (c : Con) (out : List Str), ds = [c.lD, strsD out] ∧ ConOk c ∧ OutOk c out ∧ P (.lst ((c.claims out).map Claim.lD)) m
def cLMade (a : Adr) : Ctr := fun ds m P => ∃ c : Con, ds = [c.lD] ∧ P (c.pD a) m
abbrev s_l_counts : Stmt := top 67
theorem sc_l_counts : FnScope ["_law_names_here", "_law_marks", "_law_mark", "_law_name"] ["_law_names_here", "_law_marks"] (defScope s_l_counts) := ⟨rfl, rfl, rfl, by decide +kernel, rfl, by decide +kernel, by decide +kernel⟩
theorem ok_l_counts {f : Addr} {fd : FuncData} (F : Fun K "_law_counts" "_law_counts" s_l_counts f fd) (T : Txt K mg a)  : FnOk P w K mg base CX0 (0 + 1) f fd ["_law_names_here", "_law_marks"] (spOf K (cLCounts)) := by
  refine def_ok F sc_l_counts ?_ ?_
  · rintro ds m PP ⟨ns, x, mks, rfl, hx, hn, hl, hP⟩
    rfl
  · rintro cdv A outer s H E hr ds m PP ⟨ns, x, mks, rfl, hx, hn, hl, hP⟩
    refine ⟨_, (pss_one (ps_ret (pe_lc (own := [("_law_name", 3)]) (g := (gName 3)) (tt := tYes) (by rfl) sc_l_counts.nd (pk_seq T (pv 0)) (blkOk_by (by kernel_rfl)) (fun _ _ _ _ _ => by exact (pg_name (i := 3) sc_l_counts.nd rfl (by first | exact Or.inl rfl | exact Or.inr rfl))) (fun _ _ _ _ _ => by exact pts_nil) (fun _ _ _ _ _ => by exact (pe_callB (pk_len T) (by rfl) T.b_len (by decide +kernel) (pa_cons (pe_lc (own := [("_law_mark", 2)]) (g := (gName 2)) (by rfl) sc_l_counts.nd (pk_seq T (pv 1)) (blkOk_by (by kernel_rfl)) (fun _ _ _ _ _ => by exact (pg_name (i := 2) sc_l_counts.nd rfl (by first | exact Or.inl rfl | exact Or.inr rfl))) (fun _ _ _ _ _ => by exact (pts_one (pt_cmpR (pk_eq T hr.units) (pv 2) (pv 3) (nomark _)))) (fun _ _ _ _ _ => by exact (pv 2))) pa_nil)))))), ?_⟩
    walk_at "sx"
    refine sim_lcM ns D.str (fun n => .int (cnt mks n : Nat)) (ts := [3]) (by decide) (simI_seq ?_)
    walk_at "sx"
    refine ⟨_, .inr rfl, rfl, by omega, .inr rfl, fun n hnm => ?_, hP⟩
    walk_at "sx"
    refine sim_lcF mks mkD (fun mk => if mk = some n then some (mkD mk) else none) (ts := [2]) (by decide) (simI_seq ?_)
    walk_at "sx"
    refine ⟨_, hx, rfl, by omega, hx, fun mk hmk => ?_, ?_⟩
    · walk_at "sx"
      refine ite_d (fun h => ?_) (fun h => ?_)
      · walk_at "sx"
        rw [if_pos h]
      · rw [if_neg h]
    walk_at "sx"
    refine cs_len (.inl .val) ?_
    refine ⟨rfl, ?_⟩
    rw [filterMap_ite (fun mk => mk = some n), List.length_map]
    rfl
abbrev s_l_outcome : Stmt := top 68
theorem sc_l_outcome : FnScope ["_law_contest_here", "_law_marks", "_law_kind", "_law_names_here", "_law_part", "_law_counts_here", "_law_k", "_law_least", "_law_found"] ["_law_contest_here", "_law_marks"] (defScope s_l_outcome) := ⟨rfl, rfl, rfl, by decide +kernel, rfl, by decide +kernel, by decide +kernel⟩
theorem ok_l_outcome {f : Addr} {fd : FuncData} (F : Fun K "_law_outcome" "_law_outcome" s_l_outcome f fd) (T : Txt K mg a) (h_l_counts : CalC P w K mg base 1 "_law_counts" (cLCounts)) : FnOk P w K mg base CX0 (1 + 1) f fd ["_law_contest_here", "_law_marks"] (spOf K (cLOutcome)) := by
  refine def_ok F sc_l_outcome ?_ ?_
  · rintro ds m PP ⟨c, x, mks, rfl, hx, hl, hk, h1, hP⟩
    rfl
  · rintro cdv A outer s H E hr ds m PP ⟨c, x, mks, rfl, hx, hl, hk, h1, hP⟩
    refine ⟨_, (pss_cons (ps_asg (pv 0) (pk_gtup T (n := 3) rfl (pgs_cons (pg_name (i := 2) sc_l_outcome.nd rfl (by first | exact Or.inl rfl | exact Or.inr rfl)) (pgs_cons (pg_name (i := 3) sc_l_outcome.nd rfl (by first | exact Or.inl rfl | exact Or.inr rfl)) (pgs_cons (pg_name (i := 4) sc_l_outcome.nd rfl (by first | exact Or.inl rfl | exact Or.inr rfl)) pgs_nil)))))
      (pss_cons (ps_set (i := 5) sc_l_outcome.nd rfl (by first | exact Or.inl rfl | exact Or.inr rfl) (pk_cal h_l_counts hr (by decide) (pa_cons (pv 3) (pa_cons (pv 1) pa_nil))))
      (pss_cons (ps_if (pt_cmpR (pk_eq T hr.units) (pv 2) pe_str (nomark _)) (pss_one (ps_ret (pe_callTy (pk_tuple T) (by rfl) T.b_tuple (by decide +kernel) (pa_cons (pe_lc (own := [("_law_k", 6)]) (g := (gName 6)) (by rfl) sc_l_outcome.nd (pi_range1 (by rfl) T.b_range (pa_cons (pe_callB (pk_len T) (by rfl) T.b_len (by decide +kernel) (pa_cons (pv 3) pa_nil)) pa_nil)) (blkOk_by (by kernel_rfl)) (fun _ _ _ _ _ => by exact (pg_name (i := 6) sc_l_outcome.nd rfl (by first | exact Or.inl rfl | exact Or.inr rfl))) (fun _ _ _ _ _ => by exact (pts_one (pt_cmpR op_gt (pe_op (pk_mul T) (pe_ix (pk_ix T) (pv 5) (pv 6) (fun _ _ => rfl)) (pe_ix (pk_ix T) (pv 4) pe_int (fun _ _ => rfl))) (pe_op (pk_mul T) (pe_ix (pk_ix T) (pv 4) pe_int (fun _ _ => rfl)) (pe_callB (pk_sum T) (by rfl) T.b_sum (by decide +kernel) (pa_cons (pv 5) pa_nil))) (nomark _)))) (fun _ _ _ _ _ => by exact (pe_ix (pk_ix T) (pv 3) (pv 6) (fun _ _ => rfl)))) pa_nil)))) pss_nil)
      (pss_cons (ps_set (i := 7) sc_l_outcome.nd rfl (by first | exact Or.inl rfl | exact Or.inr rfl) (pe_ix (pk_ix T) (pe_callB (pk_sorted T) (by rfl) T.b_sorted (by decide +kernel) (pa_cons (pv 5) pa_nil)) (pe_un un_neg (pv 4)) (fun _ _ => rfl)))
      (pss_cons (ps_set (i := 8) sc_l_outcome.nd rfl (by first | exact Or.inl rfl | exact Or.inr rfl) (pe_callTy (pk_tuple T) (by rfl) T.b_tuple (by decide +kernel) (pa_cons (pe_lc (own := [("_law_k", 6)]) (g := (gName 6)) (by rfl) sc_l_outcome.nd (pi_range1 (by rfl) T.b_range (pa_cons (pe_callB (pk_len T) (by rfl) T.b_len (by decide +kernel) (pa_cons (pv 3) pa_nil)) pa_nil)) (blkOk_by (by kernel_rfl)) (fun _ _ _ _ _ => by exact (pg_name (i := 6) sc_l_outcome.nd rfl (by first | exact Or.inl rfl | exact Or.inr rfl))) (fun _ _ _ _ _ => by exact (pts_one (pt_cmpR op_ge (pe_ix (pk_ix T) (pv 5) (pv 6) (fun _ _ => rfl)) (pv 7) (nomark _)))) (fun _ _ _ _ _ => by exact (pe_ix (pk_ix T) (pv 3) (pv 6) (fun _ _ => rfl)))) pa_nil)))
      (pss_cons (ps_if (pt_cmpR op_gt (pe_callB (pk_len T) (by rfl) T.b_len (by decide +kernel) (pa_cons (pv 8) pa_nil)) (pv 4) (nomark _)) (pss_one (ps_ret pe_non)) pss_nil)
      (pss_one (ps_ret (pv 8))))))))), ?_⟩
    obtain ⟨ns, seats⟩ | ⟨ns, s⟩ := c <;> unfold Con.lD
    · have h1 := h1 ns seats rfl
      subst h1
      walk_at "sx"
      refine simS_asg (ts := [2, 3, 4]) ?_
      walk_at "sx"
      have hlo := hk.lo
      have hhi := hk.hi
      simp only [Con.names] at hlo hhi
      refine ⟨ns, x, mks, rfl, hx, hhi, hl, ?_⟩
      walk_at "sx"
      refine ite_n (by decide) ?_
      walk_at "sx"
      have ec : (ns.map fun n => D.int (cnt mks n : Nat)) = (ns.map fun n => ((cnt mks n : Nat) : Int)).map D.int := by rw [List.map_map]; rfl
      refine cs_sorted (ns := ns.map fun n => ((cnt mks n : Nat) : Int)) (by rw [ec]; exact .val) (by rw [List.length_map]; omega) fun srt hperm hsrt => ?_
      walk_at "sx"
      have hsl : srt.length = ns.length := by rw [hperm.length_eq, List.length_map]
      obtain ⟨init, v, hv⟩ : ∃ init v, srt = init ++ [v] := by
        rcases List.eq_nil_or_concat srt with h | ⟨init, v, h⟩
        · rw [h] at hsl
          simp at hsl
          omega
        · exact ⟨init, v, by rw [h, List.concat_eq_append]⟩
      subst hv
      have hvm : v ∈ ns.map fun n => ((cnt mks n : Nat) : Int) := hperm.mem_iff.mp (by simp)
      obtain ⟨n0, hn0, hv0⟩ := List.mem_map.mp hvm
      refine ops_ixL' .val (d := .int v) (by rw [List.map_append]; exact atI_last _ _) ?_
      walk_at "sx"
      refine sim_lcF (List.range ns.length) (fun i : Nat => D.int i) (fun i => if v ≤ (cnt mks (ns.getD i "") : Nat) then some (D.str (ns.getD i "")) else none) (ts := [6]) (by decide) (simI_rng1 ?_)
      walk_at "sx"
      refine cs_len (.inr rfl) ?_
      rw [List.length_map]
      walk_at "sx"
      refine ⟨by omega, rfl, by rw [List.length_range]; omega, trivial, fun i hi => ?_, ?_⟩
      · have hi := List.mem_range.mp hi
        have hg : ns[i]? = some (ns.getD i "") := by rw [List.getD_eq_getElem?_getD, List.getElem?_eq_getElem hi]; rfl
        walk_at "sx"
        refine ops_ixL' .val (atI_nat (v := D.int (cnt mks (ns.getD i "") : Nat)) (by rw [List.getElem?_map, hg]; rfl)) ?_
        walk_at "sx"
        refine ite_d (fun h => ?_) (fun h => ?_)
        · walk_at "sx"
          refine ops_ixT' (atI_nat (v := D.str (ns.getD i "")) (by rw [List.getElem?_map, hg]; rfl)) ?_
          refine ⟨rfl, ?_⟩
          rw [if_pos h]
        · rw [if_neg h]
      rw [filterMap_ite (fun i => v ≤ ((cnt mks (ns.getD i "") : Nat) : Int))]
      walk_at "sx"
      refine cs_tuple (.inl .val) ?_
      walk_at "sx"
      refine cs_len (.inr rfl) ?_
      rw [List.length_map]
      walk_at "sx"
      refine ite_d (fun h => ?_) (fun h => ?_)
      · walk_at "sx"
        exact hP _ (.inl rfl)
      · walk_at "sx"
        have hne : (List.range ns.length).filter (fun i => decide (v ≤ ((cnt mks (ns.getD i "") : Nat) : Int))) ≠ [] := by
          obtain ⟨i, hi, hi2⟩ := List.getElem_of_mem hn0
          intro q
          have : i ∈ (List.range ns.length).filter (fun i => decide (v ≤ ((cnt mks (ns.getD i "") : Nat) : Int))) := by
            refine List.mem_filter.mpr ⟨List.mem_range.mpr hi, ?_⟩
            rw [List.getD_eq_getElem?_getD, List.getElem?_eq_getElem hi]
            show decide (v ≤ ((cnt mks ns[i] : Nat) : Int)) = true
            rw [hi2, hv0]
            simp
          rw [q] at this
          simp at this
        cases q : (List.range ns.length).filter (fun i => decide (v ≤ ((cnt mks (ns.getD i "") : Nat) : Int))) with
        | nil => exact absurd q hne
        | cons i t =>
          cases t with
          | cons j t =>
            rw [q] at h
            simp only [List.length_cons] at h
            omega
          | nil =>
            have hi : i ∈ (List.range ns.length).filter (fun i => decide (v ≤ ((cnt mks (ns.getD i "") : Nat) : Int))) := by rw [q]; simp
            have hi := List.mem_range.mp (List.mem_filter.mp hi).1
            refine hP _ (.inr ⟨[ns.getD i ""], rfl, ns.getD i "", ?_, rfl⟩)
            rw [List.getD_eq_getElem?_getD, List.getElem?_eq_getElem hi]
            exact List.getElem_mem hi
    · have hsh := hk.sh ns s rfl
      walk_at "sx"
      refine simS_asg (ts := [2, 3, 4]) ?_
      walk_at "sx"
      have hlo := hk.lo
      have hhi := hk.hi
      simp only [Con.names] at hlo hhi
      refine ⟨ns, x, mks, rfl, hx, hhi, hl, ?_⟩
      walk_at "sx"
      refine ite_y rfl ?_
      walk_at "sx"
      have ec : (ns.map fun n => D.int (cnt mks n : Nat)) = (ns.map fun n => ((cnt mks n : Nat) : Int)).map D.int := by rw [List.map_map]; rfl
      refine sim_lcF (List.range ns.length) (fun i : Nat => D.int i) (fun i => if s.num * (ns.map fun n => ((cnt mks n : Nat) : Int)).sum < ((cnt mks (ns.getD i "") : Nat) : Int) * (s.den : Int) then some (D.str (ns.getD i "")) else none) (ts := [6]) (by decide) (simI_rng1 ?_)
      walk_at "sx"
      refine cs_len (.inr rfl) ?_
      rw [List.length_map]
      walk_at "sx"
      have hsb : ((ns.map fun n => ((cnt mks n : Nat) : Int)).sum).natAbs < 2 ^ 8 := by
        have hle : ∀ n, ((cnt mks n : Nat) : Int) ≤ 60 := fun n => by have := cnt_le mks n; omega
        have : ∀ l : List Str, 0 ≤ (l.map fun n => ((cnt mks n : Nat) : Int)).sum ∧ (l.map fun n => ((cnt mks n : Nat) : Int)).sum ≤ 60 * l.length := by
          intro l
          induction l with
          | nil => simp
          | cons n l ih =>
            have := hle n
            simp only [List.map_cons, List.sum_cons, List.length_cons]
            omega
        have := this ns
        omega
      refine ⟨by omega, rfl, by rw [List.length_range]; omega, trivial, fun i hi => ?_, ?_⟩
      · have hi := List.mem_range.mp hi
        have hg : ns[i]? = some (ns.getD i "") := by rw [List.getD_eq_getElem?_getD, List.getElem?_eq_getElem hi]; rfl
        have hcl := cnt_le mks (ns.getD i "")
        walk_at "sx"
        refine ops_ixL' .val (atI_nat (v := D.int (cnt mks (ns.getD i "") : Nat)) (by rw [List.getElem?_map, hg]; rfl)) ?_
        walk_at "sx"
        refine ops_mulI (cmw (k := 7) (l := 7) (by omega) hsh.bd.dn (by omega)) ?_
        walk_at "sx"
        refine cs_sum (ns := ns.map fun n => ((cnt mks n : Nat) : Int)) (by rw [ec]; exact .val) ?_
        walk_at "sx"
        refine ops_mulI (cmw (k := 7) (l := 8) hsh.bd.1 hsb (by omega)) ?_
        walk_at "sx"
        refine ite_d (fun h => ?_) (fun h => ?_)
        · walk_at "sx"
          refine ops_ixT' (atI_nat (v := D.str (ns.getD i "")) (by rw [List.getElem?_map, hg]; rfl)) ?_
          refine ⟨rfl, ?_⟩
          rw [if_pos h]
        · rw [if_neg h]
      rw [filterMap_ite (fun i => s.num * (ns.map fun n => ((cnt mks n : Nat) : Int)).sum < ((cnt mks (ns.getD i "") : Nat) : Int) * (s.den : Int))]
      walk_at "sx"
      refine cs_tuple (.inl .val) ?_
      have hfew := filt_few (n := ns.length) (p := fun i => decide (s.num * (ns.map fun n => ((cnt mks n : Nat) : Int)).sum < ((cnt mks (ns.getD i "") : Nat) : Int) * (s.den : Int))) (fun i j hij hj hpi hpj => by
        have q1 := of_decide_eq_true hpi
        have q2 := of_decide_eq_true hpj
        have gi : (ns.map fun n => ((cnt mks n : Nat) : Int))[i]? = some ((cnt mks (ns.getD i "") : Nat) : Int) := by
          rw [List.getElem?_map, List.getD_eq_getElem?_getD, List.getElem?_eq_getElem (by omega)]
          rfl
        have gj : (ns.map fun n => ((cnt mks n : Nat) : Int))[j]? = some ((cnt mks (ns.getD j "") : Nat) : Int) := by
          rw [List.getElem?_map, List.getD_eq_getElem?_getD, List.getElem?_eq_getElem hj]
          rfl
        have hnn : ∀ x ∈ ns.map fun n => ((cnt mks n : Nat) : Int), 0 ≤ x := fun x hx => by
          obtain ⟨n, _, rfl⟩ := List.mem_map.mp hx
          omega
        have h2 := two_le_sum hnn hij gi gj
        have h3 := nn_sum hnn
        have h4 : (s.den : Int) ≤ 2 * s.num := by
          have := (Rat.le_iff (1/2) s).mp hsh.lo
          have e1 : ((1 : Rat)/2).num = 1 := by decide +kernel
          have e2 : ((1 : Rat)/2).den = 2 := by decide +kernel
          rw [e1, e2] at this
          omega
        exact share_two (den_pos s) h4 h3 h2 q1 q2)
      refine hP _ (.inr ⟨((List.range ns.length).filter fun i => decide (s.num * (ns.map fun n => ((cnt mks n : Nat) : Int)).sum < ((cnt mks (ns.getD i "") : Nat) : Int) * (s.den : Int))).map fun i => ns.getD i "", by rw [strsD, List.map_map]; rfl, ?_⟩)
      cases q : (List.range ns.length).filter (fun i => decide (s.num * (ns.map fun n => ((cnt mks n : Nat) : Int)).sum < ((cnt mks (ns.getD i "") : Nat) : Int) * (s.den : Int))) with
      | nil => exact .inl rfl
      | cons i t =>
        rw [q] at hfew
        cases t with
        | cons j t => simp at hfew
        | nil =>
          have hi : i ∈ (List.range ns.length).filter (fun i => decide (s.num * (ns.map fun n => ((cnt mks n : Nat) : Int)).sum < ((cnt mks (ns.getD i "") : Nat) : Int) * (s.den : Int))) := by rw [q]; simp
          have hi := List.mem_range.mp (List.mem_filter.mp hi).1
          refine .inr ⟨ns.getD i "", ?_, rfl⟩
          rw [List.getD_eq_getElem?_getD, List.getElem?_eq_getElem hi]
          exact List.getElem_mem hi
abbrev s_l_claims : Stmt := top 69
theorem sc_l_claims : FnScope ["_law_contest_here", "_law_outcome_here", "_law_kind", "_law_names_here", "_law_part", "_law_name", "_law_claims_here", "_law_one", "_law_other"] ["_law_contest_here", "_law_outcome_here"] (defScope s_l_claims) := ⟨rfl, rfl, rfl, by decide +kernel, rfl, by decide +kernel, by decide +kernel⟩
theorem ok_l_claims {f : Addr} {fd : FuncData} (F : Fun K "_law_claims" "_law_claims" s_l_claims f fd) (T : Txt K mg a)  : FnOk P w K mg base CX0 (0 + 1) f fd ["_law_contest_here", "_law_outcome_here"] (spOf K (cLClaims)) := by
  refine def_ok F sc_l_claims ?_ ?_
  · rintro ds m PP ⟨c, out, rfl, hk, ho, hP⟩
    rfl
  · rintro cdv A outer s H E hr ds m PP ⟨c, out, rfl, hk, ho, hP⟩
    refine ⟨_, (pss_cons (ps_asg (pv 0) (pk_gtup T (n := 3) rfl (pgs_cons (pg_name (i := 2) sc_l_claims.nd rfl (by first | exact Or.inl rfl | exact Or.inr rfl)) (pgs_cons (pg_name (i := 3) sc_l_claims.nd rfl (by first | exact Or.inl rfl | exact Or.inr rfl)) (pgs_cons (pg_name (i := 4) sc_l_claims.nd rfl (by first | exact Or.inl rfl | exact Or.inr rfl)) pgs_nil)))))
      (pss_cons (ps_if (PW.pt (pw_and (pt_cmpR (pk_eq T hr.units) (pv 2) pe_str (nomark _)) (pw_and1 (pt_cmpR (pk_eq T hr.units) (pv 1) (pe_tup pa_nil) (nomark _))))) (pss_one (ps_ret (pe_lc (own := [("_law_name", 5)]) (g := (gName 5)) (tt := tYes) (by rfl) sc_l_claims.nd (pk_seq T (pv 3)) (blkOk_by (by kernel_rfl)) (fun _ _ _ _ _ => by exact (pg_name (i := 5) sc_l_claims.nd rfl (by first | exact Or.inl rfl | exact Or.inr rfl))) (fun _ _ _ _ _ => by exact pts_nil) (fun _ _ _ _ _ => by exact (pe_tup (pa_cons pe_str (pa_cons (pv 5) (pa_cons (pv 4) pa_nil)))))))) pss_nil)
      (pss_cons (ps_if (pt_cmpR (pk_eq T hr.units) (pv 2) pe_str (nomark _)) (pss_one (ps_ret (pe_lst (pa_cons (pe_tup (pa_cons pe_str (pa_cons (pe_ix (pk_ix T) (pv 1) pe_int (fun _ _ => rfl)) (pa_cons (pv 4) pa_nil)))) pa_nil)))) pss_nil)
      (pss_cons (ps_set (i := 6) sc_l_claims.nd rfl (by first | exact Or.inl rfl | exact Or.inr rfl) (pe_lst pa_nil))
      (pss_cons (ps_for PassesOwn.never rfl (pk_seq T (pv 1)) (pg_name (i := 7) sc_l_claims.nd rfl (by first | exact Or.inl rfl | exact Or.inr rfl)) (pss_one (ps_set (i := 6) sc_l_claims.nd rfl (by first | exact Or.inl rfl | exact Or.inr rfl) (pe_op (pk_add T) (pv 6) (pe_lc (own := [("_law_other", 8)]) (g := (gName 8)) (by rfl) sc_l_claims.nd (pk_seq T (pv 3)) (blkOk_by (by kernel_rfl)) (fun _ _ _ _ _ => by exact (pg_name (i := 8) sc_l_claims.nd rfl (by first | exact Or.inl rfl | exact Or.inr rfl))) (fun _ _ _ _ _ => by exact (pts_one (pt_cmpR (pk_notIn T) (pv 8) (pv 1) (by with_unfolding_all rfl)))) (fun _ _ _ _ _ => by exact (pe_tup (pa_cons pe_str (pa_cons (pv 7) (pa_cons (pv 8) pa_nil))))))))))
      (pss_one (ps_ret (pv 6)))))))), ?_⟩
    obtain ⟨ns, seats⟩ | ⟨ns, s⟩ := c <;> unfold Con.lD
    · obtain ⟨n, hn, rfl⟩ := ho
      walk_at "sx"
      refine simS_asg (ts := [2, 3, 4]) ?_
      walk_at "sx"
      refine ite_n (by decide) ?_
      walk_at "sx"
      refine ite_n (by decide) ?_
      walk_at "sx"
      refine sim_lst ?_
      walk_at "sx"
      have hhi := hk.hi
      simp only [Con.names] at hhi
      refine simS_forM [n] D.str (fun done ρ' m' => m' = m ∧ ∃ z1 z2, ρ' = [some (Con.lD (.most ns seats)), some (strsD [n]), some (.str "most"), some (strsD ns), some (.int seats), none, some (.lst ((done.flatMap fun one => (ns.filter fun o => !decide (o ∈ [n])).map fun o => Claim.beats one o).map Claim.lD)), z1, z2]) (ts := [7]) (simI_seq ?_)
      walk_at "sx"
      refine ⟨_, .inr rfl, rfl, ⟨rfl, _, _, rfl⟩, ?_, ?_, ?_⟩
      · rintro done ρ' m' ⟨rfl, _⟩
        exact .inr rfl
      · rintro done one rest ρ' m' hsplit ⟨rfl, z1, z2, rfl⟩
        have hdn : done = [] := by
          cases done with
          | nil => rfl
          | cons x xs => simp at hsplit
        subst hdn
        walk_at "sx"
        refine sim_lcF ns D.str (fun o => if ¬ o ∈ [n] then some (Claim.lD (.beats one o)) else none) (ts := [8]) (by decide) (simI_seq ?_)
        walk_at "sx"
        refine ⟨_, .inr rfl, rfl, by omega, .inr rfl, fun o ho => ?_, ?_⟩
        · walk_at "sx"
          refine ops_in_strs (ss := [n]) (.inr rfl) ?_
          rw [if_pos rfl]
          walk_at "sx"
          refine ite_dn (fun h => ?_) (fun h => ?_)
          · walk_at "sx"
            rw [if_pos h]
            rfl
          · rw [if_neg (fun q => q h)]
        rw [filterMap_ite (fun o => ¬ o ∈ [n])]
        refine ops_addL .val .val ?_ ?_
        · have := List.length_filter_le (fun o => decide (¬ o ∈ [n])) ns
          simp only [List.flatMap_nil, List.map_nil, List.length_nil, List.length_map]
          omega
        refine ⟨rfl, some (.str one), z2, congrArg (fun q => [some (Con.lD (.most ns seats)), some (strsD [n]), some (.str "most"), some (strsD ns), some (.int seats), none, some (.lst q), some (.str one), z2]) ?_⟩
        simp only [List.flatMap_nil, List.map_nil, List.nil_append, List.flatMap_cons, List.append_nil, List.map_map, decide_not]
        rfl
      · rintro ρ' m' ⟨rfl, z1, z2, rfl⟩
        walk_at "sx"
        exact hP
    · walk_at "sx"
      refine simS_asg (ts := [2, 3, 4]) ?_
      walk_at "sx"
      refine ite_y rfl ?_
      walk_at "sx"
      have hstr : ∀ x ∈ out, PyData.strOk x = true := by
        intro x hx
        rcases ho with rfl | ⟨n, hn, rfl⟩
        · simp at hx
        · have : x = n := by simpa using hx
          rw [this]
          exact hk.str n hn
      refine eqL (lay_strs (n := 63) (ss := out) hstr) (lay_strs (n := 63) (ss := []) (by simp)) ?_
      have e : PyData.eqv (.tuple (out.map .str)) (.tuple (([] : List Str).map .str)) = decide (out = []) := by
        simp only [PyData.eqv]
        exact eqvAll_strs out []
      rw [e]
      walk_at "sx"
      have hhi := hk.hi
      simp only [Con.names] at hhi
      refine ite_d (fun h => ?_) (fun h => ?_)
      · subst h
        walk_at "sx"
        refine sim_lcM ns D.str (fun n => Claim.lD (.under n s)) (ts := [5]) (by decide) (simI_seq ?_)
        walk_at "sx"
        refine ⟨_, .inr rfl, rfl, by omega, .inr rfl, fun n hn => ?_, ?_⟩
        · walk_at "sx"
          rfl
        · have hP : PP (D.lst ((ns.map fun n => Claim.under n s).map Claim.lD)) m := hP
          rw [List.map_map] at hP
          exact hP
      · rcases ho with rfl | ⟨n, hn, rfl⟩
        · exact absurd rfl h
        walk_at "sx"
        refine ite_y rfl ?_
        walk_at "sx"
        refine sim_lst ?_
        walk_at "sx"
        exact hP
abbrev s_l_contest_made : Stmt := top 70
theorem sc_l_contest_made : FnScope ["_law_contest_here"] ["_law_contest_here"] (defScope s_l_contest_made) := ⟨rfl, rfl, rfl, by decide +kernel, rfl, by decide +kernel, by decide +kernel⟩
theorem ok_l_contest_made {f : Addr} {fd : FuncData} (F : Fun K "_law_contest_made" "_law_contest_made" s_l_contest_made f fd) (T : Txt K mg a) (h_Most : MakC P w K mg base 2 "Most" a.Most (cInit2 a.Most "names" "seats")) (h_Portion : MakC P w K mg base 2 "Portion" a.Portion (cInit2 a.Portion "names" "share")) : FnOk P w K mg base CX0 (3 + 1) f fd ["_law_contest_here"] (spOf K (cLMade a)) := by
  refine def_ok F sc_l_contest_made ?_ ?_
  · rintro ds m PP ⟨c, rfl, hP⟩
    rfl
  · rintro cdv A outer s H E hr ds m PP ⟨c, rfl, hP⟩
    refine ⟨_, (pss_cons (ps_if (pt_cmpR (pk_eq T hr.units) (pe_ix (pk_ix T) (pv 0) pe_int (fun _ _ => rfl)) pe_str (nomark _)) (pss_one (ps_ret (pk_mak h_Most hr (by decide) (pa_cons (pe_ix (pk_ix T) (pv 0) pe_int (fun _ _ => rfl)) (pa_cons (pe_ix (pk_ix T) (pv 0) pe_int (fun _ _ => rfl)) pa_nil))))) pss_nil)
      (pss_one (ps_ret (pk_mak h_Portion hr (by decide) (pa_cons (pe_ix (pk_ix T) (pv 0) pe_int (fun _ _ => rfl)) (pa_cons (pe_ix (pk_ix T) (pv 0) pe_int (fun _ _ => rfl)) pa_nil)))))), ?_⟩
    obtain ⟨ns, seats⟩ | ⟨ns, s⟩ := c <;> unfold Con.lD
    · walk_at "sx"
      refine ite_y rfl ?_
      refine simS_ret (sim_frzI (sim_make ?_))
      walk_at "sx"
      intro q hq
      refine ⟨q, _, _, rfl, mupd_same, rfl, q, _, _, rfl, mupd_same, ?_⟩
      rw [mupd_upd, mdel_upd hq]
      exact hP
    · walk_at "sx"
      refine ite_n (by decide) ?_
      walk_at "sx"
      refine sim_frzI (sim_make ?_)
      walk_at "sx"
      intro q hq
      refine ⟨q, _, _, rfl, mupd_same, rfl, q, _, _, rfl, mupd_same, ?_⟩
      rw [mupd_upd, mdel_upd hq]
      exact hP
end
end L3

/-! text L4c -/
set_option Elab.async false
set_option linter.all false
set_option maxRecDepth 100000
set_option maxHeartbeats 4000000
set_option pp.maxSteps 1500
namespace L3
open PySem L2
open scoped Rat
local macro_rules | `(tactic| walk_at "ca") => `(tactic| first
  | exact Txt.k_Game (by assumption)
  | exact Txt.n_Game_many (by assumption)
  | exact Txt.n_Game_again (by assumption)
  | exact Txt.n_Game_highest (by assumption)
  | exact Txt.n_Game_rule (by assumption)
  | exact Txt.n_Game_drawn_values (by assumption)
  | exact Txt.n_Game_sum_so_far (by assumption)
  | exact Txt.n_Game_now (by assumption)
  | exact Txt.n_Game_most (by assumption)
  | exact Txt.n_Game_certain (by assumption)
  | exact Txt.k_Way (by assumption)
  | exact Txt.n_Way_claim (by assumption)
  | exact Txt.k_Comparing (by assumption)
  | exact Txt.n_Comparing_claim (by assumption)
  | exact Txt.n_Comparing_told (by assumption)
  | exact Txt.n_Comparing_scale (by assumption)
  | exact Txt.k_Sheet (by assumption)
  | exact Txt.n_Sheet_names (by assumption)
  | exact Txt.n_Sheet_limit (by assumption)
  | exact Txt.n_Sheet_ways (by assumption)
  | exact Txt.n_Sheet_games (by assumption)
  | exact Txt.k_Audit (by assumption)
  | exact Txt.n_Audit_sheets (by assumption)
  | exact Txt.n_Audit_many (by assumption)
  | exact Txt.n_Audit_again (by assumption)
  | exact Txt.n_Audit_most (by assumption)
  | exact Txt.n_Audit_numbers (by assumption)
  | exact Txt.k_Beats (by assumption)
  | exact Txt.n_Beats_one (by assumption)
  | exact Txt.n_Beats_other (by assumption)
  | exact Txt.k_Over (by assumption)
  | exact Txt.n_Over_name (by assumption)
  | exact Txt.n_Over_share (by assumption)
  | exact Txt.k_Under (by assumption)
  | exact Txt.n_Under_name (by assumption)
  | exact Txt.n_Under_share (by assumption)
  | exact Txt.k_Contest (by assumption)
  | exact Txt.n_Contest_names (by assumption)
  | exact Txt.k_Most (by assumption)
  | exact Txt.n_Most_names (by assumption)
  | exact Txt.n_Most_seats (by assumption)
  | exact Txt.k_Portion (by assumption)
  | exact Txt.n_Portion_names (by assumption)
  | exact Txt.n_Portion_share (by assumption)
  | exact Txt.k_Fixed (by assumption)
  | exact Txt.n_Fixed_part (by assumption))
local macro_rules | `(tactic| walk_at "ne") => `(tactic| first
  | assumption
  | (refine Ne.symm ?_; assumption)
  | exact mne (by assumption) (by assumption)
  | exact (mne (by assumption) (by assumption)).symm)
local macro_rules | `(tactic| walk_at "mm") => `(tactic| first
  | assumption
  | exact mupd_same
  | (refine (mupd_ne ?_).trans ?_; (walk_at "ne"); (walk_at "mm")))
local macro_rules | `(tactic| walk_at "s0") => `(tactic| first
  | with_reducible refine simS_seq ?_
  | with_reducible refine simS_ret ?_
  | with_reducible refine simS_retN ?_
  | with_reducible refine simS_set ?_
  | with_reducible refine simS_drop ?_
  | with_reducible refine simS_next ?_
  | with_reducible refine simS_fld ?_
  | with_reducible refine simS_dput ?_
  | with_reducible refine simT_test ?_
  | with_reducible refine simT_B ?_
  | with_reducible refine simT_not ?_
  | with_reducible refine simT_and ?_
  | with_reducible refine simT_or ?_
  | focus ((with_reducible refine sim_var (d := ?_) ?_ ?_); rotate_left 1; exact rfl)
  | with_reducible refine sim_int ?_
  | with_reducible refine sim_bl ?_
  | with_reducible refine sim_str ?_
  | with_reducible refine sim_non ?_
  | with_reducible refine sim_ty ?_
  | with_reducible refine sim_c (Txt.t_NOUGHT_games (by assumption)) ?_
  | with_reducible refine sim_c (Txt.t_ONE_games (by assumption)) ?_
  | with_reducible refine sim_c (Txt.t_ONE_ways (by assumption)) ?_
  | with_reducible refine sim_c (Txt.t_TWO (by assumption)) ?_
  | with_reducible refine sim_c (Txt.t_NOUGHT_claims (by assumption)) ?_
  | with_reducible refine sim_c (Txt.t_HALF (by assumption)) ?_
  | with_reducible refine sim_c (Txt.t_ONE_claims (by assumption)) ?_
  | with_reducible refine sim_ref ?_
  | with_reducible refine sim_op ?_
  | with_reducible refine sim_un ?_
  | with_reducible refine sim_andV ?_
  | with_reducible refine sim_orV ?_
  | with_reducible refine sim_notV ?_
  | with_reducible refine sim_chain ?_
  | with_reducible refine sim_tup ?_
  | with_reducible refine sim_call ?_
  | with_reducible refine sim_callB ?_
  | with_reducible refine sim_fldU ?_
  | with_reducible refine sim_append ?_
  | focus ((with_reducible refine apl (ds := ?_) ?_ ?_); rotate_left 1; walk_at "mm")
  | with_reducible refine sim_methU ?_
  | with_reducible refine sim_cfn ?_
  | with_reducible refine sim_dget ?_
  | with_reducible refine sim_sl ?_
  | with_reducible refine simO_none ?_
  | with_reducible refine simO_some ?_
  | with_reducible refine simA_cons ?_
  | with_reducible refine simA_nil ?_
  | with_reducible refine simG_name ?_
  | with_reducible refine simG_pair ?_
  | with_reducible refine ops_addI ?_
  | with_reducible refine uns_I (g := fun i => -i) ?_
  | with_reducible refine simG_triple ?_
  | with_reducible refine ops_subI ?_
  | with_reducible refine ops_lt ?_
  | with_reducible refine ops_le ?_
  | with_reducible refine ops_gt ?_
  | with_reducible refine ops_ge ?_
  | with_reducible refine ops_eqI ?_
  | with_reducible refine ops_neI ?_
  | with_reducible refine ops_eqSt ?_
  | with_reducible refine ops_eqNS ?_
  | with_reducible refine eq_mk ?_
  | with_reducible refine eq_bl ?_
  | with_reducible refine ops_isN ?_
  | with_reducible refine ops_notN ?_
  | with_reducible refine cs_abs ?_
  | focus ((with_reducible refine cs_isi2 (t := ?_) (b := ?_) ?_ ?_ ?_ ?_); rotate_left 2; exact rfl; exact rfl; exact rfl)
  | with_reducible refine cs_max2 ?_
  | with_reducible refine cs_min2 ?_
  | focus ((with_reducible refine ops_ixT' (d := ?_) ?_ ?_); rotate_left 1; exact rfl)
  | focus ((with_reducible refine fld_o (d := ?_) ?_ ?_ ?_ ?_); rotate_left 1; walk_at "ca"; walk_at "ca"; exact rfl)
  | focus ((with_reducible refine fld_p (C := ?_) (fs := ?_) (d := ?_) ?_ ?_ ?_ ?_ ?_); rotate_left 3; walk_at "mm"; walk_at "ca"; walk_at "ca"; exact rfl)
  | focus ((with_reducible refine And.intro (?_ : Mth _ _ _ _) ?_); exact mth_o (by rfl))
  | focus ((with_reducible refine ⟨mth_p (fs := ?_) ?_ ?_, ?_⟩); rotate_left 1; walk_at "mm"; exact rfl)
  | focus ((with_reducible refine setf (C := ?_) (fs := ?_) ?_ ?_ ?_ ?_ ?_); rotate_left 2; walk_at "mm"; walk_at "ca"; walk_at "ca"; exact of_decide_eq_true rfl)
  | focus ((with_reducible refine dgt (kvs := ?_) (k := ?_) (d := ?_) ?_ ?_ ?_ ?_); rotate_left 3; walk_at "mm"; exact rfl; exact rfl)
  | focus ((with_reducible refine dpt (kvs := ?_) (k := ?_) ?_ ?_ ?_ ?_); rotate_left 2; walk_at "mm"; exact rfl; exact of_decide_eq_true rfl)
  | (with_reducible refine ⟨_, rfl, ?_⟩)
  | (with_reducible refine ⟨rfl, ?_⟩)
  | focus ((with_reducible refine ⟨Nat.le_of_ble_eq_true ?_, ?_⟩); exact rfl)
  | with_reducible refine ite_T ?_
  | with_reducible refine ite_nF ?_
  | with_reducible refine ite_nT ?_
  | with_reducible refine ite_F ?_)
local macro_rules | `(tactic| walk_at "s1") => `(tactic| first
  | walk_at "s0"
  | with_reducible refine simS_if ?_)
local macro_rules | `(tactic| walk_at "sx") => `(tactic| repeat walk_at "s1")
local macro_rules | `(tactic| walk_at "sy") => `(tactic| repeat walk_at "s0")

section
variable {P : Program} {w : World} {K : PySem.W.Frag} {mg : Str → Option Value} {base : Heap} {a : Adr}

/-! L4c: the law's games. -/
def bestO (g : Gm) : Option Rat := g.now.map fun _ => g.most
abbrev lgk (top : Rat) (l : Addr) (g : Gm) : List (Key × D) := [(.inr "worth", optD g.now), (.inr "best", optD (bestO g)), (.inr "whole", fr g.sum), (.inr "past", .ptr l), (.inr "top", fr top)]
structure LAt (top : Rat) (g : Gm) (o l : Addr) (m : Mem) : Prop where
  ho : m o = some (.dk (lgk top l g))
  hl : m l = some (.lst (g.past.map fr))
theorem LAt.ne {top : Rat} {g : Gm} {o l : Addr} {m : Mem} (h : LAt top g o l m) : o ≠ l := fun e => by
  have h1 := h.ho
  rw [e, h.hl] at h1
  cases h1
theorem price_eq (n k : Nat) (hk : 0 < k) (w : Rat) : (((n : Int) * (w.den : Int) - 2 * w.num) /. (2 * (w.den : Int) * (k : Int))) = ((n : Rat) / 2 - w) / (k : Rat) := by
  have hd := den_pos' w
  have hk' := rat_nat_pos hk
  rw [Rat.divInt_eq_div]
  conv => rhs; rw [rat_frac w]
  simp only [Rat.intCast_sub, Rat.intCast_mul]
  have e2 : ((2 : Int) : Rat) = 2 := rfl
  have e3 : (((n : Nat) : Int) : Rat) = (n : Rat) := rfl
  have e4 : (((k : Nat) : Int) : Rat) = (k : Rat) := rfl
  rw [e2, e3, e4]
  grind
theorem most_lim (q lim : Rat) : (q.den : Int) * (lim.den : Int) ≤ q.num * lim.num ↔ ¬ q * lim < 1 := by
  have h1 := den_pos' q
  have h2 := den_pos' lim
  have e : (((q.den : Int) * (lim.den : Int) : Int) : Rat) ≤ ((q.num * lim.num : Int) : Rat) ↔ (q.den : Int) * (lim.den : Int) ≤ q.num * lim.num := Rat.intCast_le_intCast
  rw [← e, Rat.intCast_mul, Rat.intCast_mul]
  conv => rhs; rw [rat_frac q, rat_frac lim]
  have h3 : (0 : Rat) < ((q.den : Int) : Rat) * ((lim.den : Int) : Rat) := Rat.mul_pos h1 h2
  have e5 : ((q.num : Int) : Rat) / ((q.den : Int) : Rat) * (((lim.num : Int) : Rat) / ((lim.den : Int) : Rat)) = (((q.num : Int) : Rat) * ((lim.num : Int) : Rat)) / (((q.den : Int) : Rat) * ((lim.den : Int) : Rat)) := by grind
  rw [e5, Rat.div_lt_iff h3, Rat.not_lt]
  constructor <;> intro h <;> grind
theorem rat_lt_swap (x y : Rat) : y.num * (x.den : Int) < x.num * (y.den : Int) ↔ y < x := (Rat.lt_iff y x).symm
theorem opt_some (q : Rat) : optD (some q) = fr q := rfl
def cLGame : Ctr := fun ds m P => ∃ top, ds = [fr top] ∧ ∀ o l m', m o = none → m l = none → LAt top Gm.new o l m' → Off2 m m' o l → P (.ptr o) m'
def cLPrice : Ctr := fun ds m P => ∃ (r : Rl) (top : Rat) (g : Gm) (t : Nat), ∃ o l, ds = [.ptr o, .int r.many, .bl r.again] ∧ LAt top g o l m ∧ r.Ok ∧ g.Ok r t ∧ t ≤ 60 ∧ (r.again = false → t < r.many) ∧ P (fr (g.price r)) m
def cLPlay : Ctr := fun ds m P => ∃ (r : Rl) (top : Rat) (g : Gm) (t : Nat) (v : Rat), ∃ o l, ds = [.ptr o, .int r.many, .bl r.again, fr r.stake, fr v] ∧ LAt top g o l m ∧ r.Ok ∧ g.Ok r t ∧ t < 12 ∧ (r.again = false → t < r.many) ∧ Bd 86 v ∧
  ∀ m', LAt top (g.play r v) o l m' → Off2 m m' o l → P .non m'
def cLReached : Ctr := fun ds m P => ∃ (top : Rat) (g : Gm) (lim : Rat), ∃ o l, ds = [.ptr o, fr lim] ∧ LAt top g o l m ∧ Bd 7 lim ∧ Bd 7600 g.most ∧ P (.bl (g.reached lim)) m
abbrev s_l_game : Stmt := top 72
theorem sc_l_game : FnScope ["_law_top"] ["_law_top"] (defScope s_l_game) := ⟨rfl, rfl, rfl, by decide +kernel, rfl, by decide +kernel, by decide +kernel⟩
theorem ok_l_game {f : Addr} {fd : FuncData} (F : Fun K "_law_game" "_law_game" s_l_game f fd) (T : Txt K mg a)  : FnOk P w K mg base CX0 (0 + 1) f fd ["_law_top"] (spOf K (cLGame)) := by
  refine def_ok F sc_l_game ?_ ?_
  · rintro ds m PP ⟨top, rfl, hP⟩
    rfl
  · rintro cdv A outer s H E hr ds m PP ⟨top, rfl, hP⟩
    refine ⟨_, (pss_one (ps_ret (pe_disp (pps_cons pe_str (pe_tup (pa_cons pe_int (pa_cons pe_int pa_nil))) (pps_cons pe_str (pe_tup (pa_cons pe_int (pa_cons pe_int pa_nil))) (pps_cons pe_str (pe_tup (pa_cons pe_int (pa_cons pe_int pa_nil))) (pps_cons pe_str (pe_lst pa_nil) (pps_cons pe_str (pv 0) pps_nil))))) (by rfl) (by rfl) (fun z => by cases z) (by decide)))), ?_⟩
    walk_at "sx"
    refine sim_disp (simPs_cons ?_)
    walk_at "sx"
    refine simPs_cons ?_
    walk_at "sx"
    refine simPs_cons ?_
    walk_at "sx"
    refine simPs_cons ?_
    walk_at "sx"
    refine sim_lstM ?_
    walk_at "sx"
    intro l hl
    refine simPs_cons ?_
    walk_at "sx"
    refine simPs_nil ⟨by simp, fun o ho => ?_⟩
    have hne : o ≠ l := (mne mupd_same ho).symm
    rw [mupd_ne hne] at ho
    refine hP o l _ ho hl ⟨?_, ?_⟩ fun b h1 h2 => ?_
    · rw [mupd_same]
      rfl
    · rw [mupd_ne hne.symm, mupd_same]
      rfl
    · rw [mupd_ne h1, mupd_ne h2]
abbrev s_l_price : Stmt := top 73
theorem sc_l_price : FnScope ["_law_game_here", "_law_many", "_law_again", "_law_whole_here", "_law_left"] ["_law_game_here", "_law_many", "_law_again"] (defScope s_l_price) := ⟨rfl, rfl, rfl, by decide +kernel, rfl, by decide +kernel, by decide +kernel⟩
theorem ok_l_price {f : Addr} {fd : FuncData} (F : Fun K "_law_price" "_law_price" s_l_price f fd) (T : Txt K mg a) (h_l_lowest : CalC P w K mg base 1 "_law_lowest" (cLow)) : FnOk P w K mg base CX0 (1 + 1) f fd ["_law_game_here", "_law_many", "_law_again"] (spOf K (cLPrice)) := by
  refine def_ok F sc_l_price ?_ ?_
  · rintro ds m PP ⟨r, top, g, t, o, l, rfl, hg, hro, hk, ht, hl, hP⟩
    rfl
  · rintro cdv A outer s H E hr ds m PP ⟨r, top, g, t, o, l, rfl, hg, hro, hk, ht, hl, hP⟩
    refine ⟨_, (pss_cons (ps_if (pt_val (pv 2)) (pss_one (ps_ret (pe_tup (pa_cons pe_int (pa_cons pe_int pa_nil))))) pss_nil)
      (pss_cons (ps_set (i := 3) sc_l_price.nd rfl (by first | exact Or.inl rfl | exact Or.inr rfl) (pe_dget (by exact hu_of hr) (pv 0) pe_str (fun _ _ => rfl)))
      (pss_cons (ps_set (i := 4) sc_l_price.nd rfl (by first | exact Or.inl rfl | exact Or.inr rfl) (pe_op op_sub (pv 1) (pe_callB (pk_len T) (by rfl) T.b_len (by decide +kernel) (pa_cons (pe_dget (by exact hu_of hr) (pv 0) pe_str (fun _ _ => rfl)) pa_nil))))
      (pss_one (ps_ret (pk_cal h_l_lowest hr (by decide) (pa_cons (pe_op op_sub (pe_op (pk_mul T) (pv 1) (pe_ix (pk_ix T) (pv 3) pe_int (fun _ _ => rfl))) (pe_op (pk_mul T) pe_int (pe_ix (pk_ix T) (pv 3) pe_int (fun _ _ => rfl)))) (pa_cons (pe_op (pk_mul T) (pe_op (pk_mul T) pe_int (pe_ix (pk_ix T) (pv 3) pe_int (fun _ _ => rfl))) (pv 4)) pa_nil)))))))), ?_⟩
    have ho := hg.ho
    have hl2 := hg.hl
    unfold Gm.price at hP
    walk_at "sx"
    rcases Bool.eq_false_or_eq_true r.again with hag | hag
    · refine ite_t hag ?_
      walk_at "sx"
      rw [if_pos hag, ← frh] at hP
      exact hP
    refine ite_f hag ?_
    rw [if_neg (by rw [hag]; simp)] at hP
    have hlt := hl hag
    have hlen := hk.len
    walk_at "sx"
    refine cs_len (.inl (.mut hl2)) ?_
    rw [List.length_map]
    walk_at "sx"
    have hb := hk.sum
    have e2 : ((r.many : Int) - (g.past.length : Int)) = ((r.many - g.past.length : Nat) : Int) := by omega
    rw [e2]
    have hm7 : (r.many : Int).natAbs < 2 ^ 7 := by have := hro.hi; omega
    have hk7 : ((r.many - g.past.length : Nat) : Int).natAbs < 2 ^ 7 := by have := hro.hi; omega
    refine ops_mulI (cmw hm7 hb.dn (by omega)) ?_
    walk_at "sx"
    refine ops_mulI (cmw (k := 2) (by decide) hb.1 (by omega)) ?_
    walk_at "sx"
    refine ops_mulI (cmw (k := 2) (by decide) hb.dn (by omega)) ?_
    walk_at "sx"
    have hw2 : (2 * (g.sum.den : Int)).natAbs < 2 ^ (2 + (87 * t + 1)) := wl (k := 2) (by decide) hb.dn
    refine ops_mulI (cmw hw2 hk7 (by omega)) ?_
    walk_at "sx"
    have hp : 0 < 2 * (g.sum.den : Int) * ((r.many - g.past.length : Nat) : Int) := Int.mul_pos (Int.mul_pos (by decide) (den_pos _)) (by omega)
    refine ⟨_, _, rfl, hp, pow_up (wl hw2 hk7) (by omega), ?_⟩
    rw [price_eq r.many (r.many - g.past.length) (by omega) g.sum]
    exact hP
abbrev s_l_reached : Stmt := top 75
theorem sc_l_reached : FnScope ["_law_game_here", "_law_limit_here", "_law_best"] ["_law_game_here", "_law_limit_here"] (defScope s_l_reached) := ⟨rfl, rfl, rfl, by decide +kernel, rfl, by decide +kernel, by decide +kernel⟩
theorem ok_l_reached {f : Addr} {fd : FuncData} (F : Fun K "_law_reached" "_law_reached" s_l_reached f fd) (T : Txt K mg a)  : FnOk P w K mg base CX0 (0 + 1) f fd ["_law_game_here", "_law_limit_here"] (spOf K (cLReached)) := by
  refine def_ok F sc_l_reached ?_ ?_
  · rintro ds m PP ⟨top, g, lim, o, l, rfl, hg, hl, hm, hP⟩
    rfl
  · rintro cdv A outer s H E hr ds m PP ⟨top, g, lim, o, l, rfl, hg, hl, hm, hP⟩
    refine ⟨_, (pss_cons (ps_set (i := 2) sc_l_reached.nd rfl (by first | exact Or.inl rfl | exact Or.inr rfl) (pe_dget (by exact hu_of hr) (pv 0) pe_str (fun _ _ => rfl)))
      (pss_one (ps_ret (pe_or (pe_cmpR op_isN (pv 2) pe_non (nomark _)) (pe_one (pe_cmpR op_ge (pe_op (pk_mul T) (pe_ix (pk_ix T) (pv 2) pe_int (fun _ _ => rfl)) (pe_ix (pk_ix T) (pv 1) pe_int (fun _ _ => rfl))) (pe_op (pk_mul T) (pe_ix (pk_ix T) (pv 2) pe_int (fun _ _ => rfl)) (pe_ix (pk_ix T) (pv 1) pe_int (fun _ _ => rfl))) (nomark _))))))), ?_⟩
    have ho := hg.ho
    walk_at "sx"
    unfold Gm.reached at hP
    cases hn : g.now with
    | none =>
      rw [hn] at hP
      refine ite_t (by unfold bestO; rw [hn]; rfl) ?_
      exact hP
    | some u =>
      rw [hn] at hP
      have hbe : bestO g = some g.most := by unfold bestO; rw [hn]; rfl
      rw [hbe]
      refine ite_f rfl ?_
      rw [opt_some]
      walk_at "sx"
      refine ops_mulI (cmw hm.1 hl.1 (by omega)) ?_
      walk_at "sx"
      refine ops_mulI (cmw hm.dn hl.dn (by omega)) ?_
      walk_at "sx"
      rw [decide_eq_decide.mpr (most_lim g.most lim), decide_not]
      exact hP
abbrev s_l_play : Stmt := top 74
theorem sc_l_play : FnScope ["_law_game_here", "_law_many", "_law_again", "_law_rule", "_law_value_here", "_law_worth", "_law_price_here", "_law_stake", "_law_kept", "_law_won", "_law_best"] ["_law_game_here", "_law_many", "_law_again", "_law_rule", "_law_value_here"] (defScope s_l_play) := ⟨rfl, rfl, rfl, by decide +kernel, rfl, by decide +kernel, by decide +kernel⟩
theorem ok_l_play {f : Addr} {fd : FuncData} (F : Fun K "_law_play" "_law_play" s_l_play f fd) (T : Txt K mg a) (h_l_price : CalC P w K mg base 2 "_law_price" (cLPrice)) (h_l_over : CalC P w K mg base 2 "_law_over" (cLOver)) (h_l_times : CalC P w K mg base 2 "_law_times" (cTimes)) (h_l_plus : CalC P w K mg base 2 "_law_plus" (cPlus)) : FnOk P w K mg base CX0 (3 + 1) f fd ["_law_game_here", "_law_many", "_law_again", "_law_rule", "_law_value_here"] (spOf K (cLPlay)) := by
  refine def_ok F sc_l_play ?_ ?_
  · rintro ds m PP ⟨r, top, g, t, v, o, l, rfl, hg, hro, hk, ht, hl, hv, hP⟩
    rfl
  · rintro cdv A outer s H E hr ds m PP ⟨r, top, g, t, v, o, l, rfl, hg, hro, hk, ht, hl, hv, hP⟩
    refine ⟨_, (pss_cons (ps_set (i := 5) sc_l_play.nd rfl (by first | exact Or.inl rfl | exact Or.inr rfl) (pe_dget (by exact hu_of hr) (pv 0) pe_str (fun _ _ => rfl)))
      (pss_cons (ps_if (pt_cmpR op_notN (pv 5) pe_non (nomark _)) (pss_cons (ps_set (i := 6) sc_l_play.nd rfl (by first | exact Or.inl rfl | exact Or.inr rfl) (pk_cal h_l_price hr (by decide) (pa_cons (pv 0) (pa_cons (pv 1) (pa_cons (pv 2) pa_nil)))))
      (pss_one (ps_if (pt_cmpR (pk_ne T hr.units) (pv 6) (pe_tup (pa_cons pe_int (pa_cons pe_int pa_nil))) (nomark _)) (pss_cons (ps_set (i := 7) sc_l_play.nd rfl (by first | exact Or.inl rfl | exact Or.inr rfl) (pv 3))
      (pss_cons (ps_set (i := 8) sc_l_play.nd rfl (by first | exact Or.inl rfl | exact Or.inr rfl) (pe_tup (pa_cons (pe_op op_sub (pe_ix (pk_ix T) (pv 7) pe_int (fun _ _ => rfl)) (pe_ix (pk_ix T) (pv 7) pe_int (fun _ _ => rfl))) (pa_cons (pe_ix (pk_ix T) (pv 7) pe_int (fun _ _ => rfl)) pa_nil))))
      (pss_cons (ps_set (i := 9) sc_l_play.nd rfl (by first | exact Or.inl rfl | exact Or.inr rfl) (pk_cal h_l_over hr (by decide) (pa_cons (pk_cal h_l_times hr (by decide) (pa_cons (pv 7) (pa_cons (pv 4) pa_nil))) (pa_cons (pv 6) pa_nil))))
      (pss_one (ps_set (i := 5) sc_l_play.nd rfl (by first | exact Or.inl rfl | exact Or.inr rfl) (pk_cal h_l_times hr (by decide) (pa_cons (pv 5) (pa_cons (pk_cal h_l_plus hr (by decide) (pa_cons (pv 8) (pa_cons (pv 9) pa_nil))) pa_nil)))))))) pss_nil))) pss_nil)
      (pss_cons (ps_expr (pk_append T (pe_dget (by exact hu_of hr) (pv 0) pe_str (fun _ _ => rfl)) (pa_cons (pv 4) pa_nil)))
      (pss_cons (ps_dput (by exact hu_of hr) (pv 0) pe_str (pk_cal h_l_plus hr (by decide) (pa_cons (pe_dget (by exact hu_of hr) (pv 0) pe_str (fun _ _ => rfl)) (pa_cons (pv 4) pa_nil))) rfl)
      (pss_cons (ps_if (PW.pt (pw_and (pt_not (pt_val (pv 2))) (pw_and1 (pt_cmpR op_gt (pe_op (pk_mul T) pe_int (pe_ix (pk_ix T) (pe_dget (by exact hu_of hr) (pv 0) pe_str (fun _ _ => rfl)) pe_int (fun _ _ => rfl))) (pe_op (pk_mul T) (pv 1) (pe_ix (pk_ix T) (pe_dget (by exact hu_of hr) (pv 0) pe_str (fun _ _ => rfl)) pe_int (fun _ _ => rfl))) (nomark _))))) (pss_one (ps_set (i := 5) sc_l_play.nd rfl (by first | exact Or.inl rfl | exact Or.inr rfl) pe_non)) pss_nil)
      (pss_cons (ps_dput (by exact hu_of hr) (pv 0) pe_str (pv 5) rfl)
      (pss_cons (ps_set (i := 10) sc_l_play.nd rfl (by first | exact Or.inl rfl | exact Or.inr rfl) (pe_dget (by exact hu_of hr) (pv 0) pe_str (fun _ _ => rfl)))
      (pss_one (ps_if (PW.pt (pw_or (pt_cmpR op_isN (pv 5) pe_non (nomark _)) (pw_or1 (PW.pt (pw_and (pt_cmpR op_notN (pv 10) pe_non (nomark _)) (pw_and1 (pt_cmpR op_gt (pe_op (pk_mul T) (pe_ix (pk_ix T) (pv 5) pe_int (fun _ _ => rfl)) (pe_ix (pk_ix T) (pv 10) pe_int (fun _ _ => rfl))) (pe_op (pk_mul T) (pe_ix (pk_ix T) (pv 10) pe_int (fun _ _ => rfl)) (pe_ix (pk_ix T) (pv 5) pe_int (fun _ _ => rfl))) (nomark _)))))))) (pss_one (ps_dput (by exact hu_of hr) (pv 0) pe_str (pv 5) rfl)) pss_nil))))))))), ?_⟩
    have ho := hg.ho
    have hl2 := hg.hl
    have hne := hg.ne
    walk_at "sy"
    refine simS_ifJ (B := fun ρ1 m1 => (∃ z6 z7 z8 z9, ρ1 = [some (.ptr o), some (.int r.many), some (.bl r.again), some (fr r.stake), some (fr v), some (optD (g.now.map fun u => g.behind r u v)), z6, z7, z8, z9, none]) ∧ m1 = m) ?_ ?_
    · walk_at "sy"
      cases hn : g.now with
      | none =>
        refine ite_f rfl ?_
        walk_at "sx"
        exact ⟨⟨_, _, _, _, rfl⟩, rfl⟩
      | some u =>
        refine ite_t rfl ?_
        walk_at "sy"
        refine ⟨r, top, g, t, o, l, rfl, hg, hro, hk, by omega, hl, ?_⟩
        walk_at "sx"
        refine ne_fr (b := 0) ?_
        walk_at "sx"
        have hn2 : g.now ≠ none := by rw [hn]; simp
        rw [opt_some]
        have hWb := Wb_12 (t := t) (by omega)
        refine ite_dn (fun h => ?_) (fun h => ?_)
        · have hp := Gm.price_pos hk hl hn2 h
          have b1 := Gm.price_bd hro hk hl
          have b2 := Gm.factor_bd hro hk hl hn2 h hv
          have b3 := Gm.grown_bd hro hk hl hn2 h hv
          have b4 := bd_mul hro.bd hv
          walk_at "sy"
          refine ⟨_, _, 7, 86, rfl, hro.bd, hv, by omega, ?_⟩
          walk_at "sy"
          refine ⟨_, _, _, _, 93, _, rfl, den_pos _, num_pos hp, den_pos _, b4.1, b4.dn, b1.1, b1.dn, by omega, ?_⟩
          rw [← rat_div]
          walk_at "sy"
          rw [fr_one_sub]
          refine ⟨_, _, 9, _, rfl, bd_sub bd_one hro.bd, b3, by omega, ?_⟩
          walk_at "sy"
          refine ⟨_, _, _, _, rfl, hk.now u hn, b2, by omega, ?_⟩
          have e : g.behind r u v = u * ((1 - r.stake) + (r.stake * v) / g.price r) := if_neg h
          rw [← e]
          exact ⟨⟨_, _, _, _, rfl⟩, rfl⟩
        · have e : g.behind r u v = u := if_pos h
          have e2 : fr u = optD (Option.map (fun u => g.behind r u v) (some u)) := by
            show fr u = fr (g.behind r u v)
            rw [e]
          rw [e2]
          walk_at "sy"
          exact ⟨⟨_, _, _, _, rfl⟩, rfl⟩
    rintro ρ1 m1 ⟨⟨z6, z7, z8, z9, rfl⟩, rfl⟩
    walk_at "sy"
    refine apl2 hl2 (by rw [List.length_map, hk.len]; omega) ?_
    walk_at "sy"
    refine ⟨_, _, _, 86, rfl, hk.sum, hv, by omega, ?_⟩
    walk_at "sy"
    have hsb := bd_add hk.sum hv
    refine simS_ifJ (B := fun ρ1 m2 => (∃ z6 z7 z8 z9, ρ1 = [some (.ptr o), some (.int r.many), some (.bl r.again), some (fr r.stake), some (fr v), some (optD (g.worth r v)), z6, z7, z8, z9, none]) ∧
      m2 = mupd (mupd m1 l (.lst (g.past.map fr ++ [fr v]))) o (.dk [(.inr "worth", optD g.now), (.inr "best", optD (bestO g)), (.inr "whole", fr (g.sum + v)), (.inr "past", .ptr l), (.inr "top", fr top)])) ?_ ?_
    · walk_at "sy"
      rcases Bool.eq_false_or_eq_true r.again with hag | hag
      · have hw : g.worth r v = g.now.map fun u => g.behind r u v := by
          unfold Gm.worth
          rw [if_neg (by rw [hag]; simp)]
        refine ite_f (by rw [hag]; rfl) ?_
        walk_at "sx"
        rw [hw]
        exact ⟨⟨_, _, _, _, rfl⟩, rfl⟩
      · refine ite_t (by rw [hag]; rfl) ?_
        walk_at "sy"
        refine ops_mulI (cmw (k := 2) (by decide) hsb.1 (by omega)) ?_
        walk_at "sy"
        refine ops_mulI (cmw (k := 7) (by have := hro.hi; omega) hsb.dn (by omega)) ?_
        walk_at "sy"
        rw [decide_eq_decide.mpr (half_lt r.many (g.sum + v))]
        refine ite_d (fun h => ?_) (fun h => ?_)
        · have hw : g.worth r v = none := by
            unfold Gm.worth
            rw [if_pos ⟨hag, h⟩]
          walk_at "sy"
          rw [hw]
          exact ⟨⟨_, _, _, _, rfl⟩, rfl⟩
        · have hw : g.worth r v = g.now.map fun u => g.behind r u v := by
            unfold Gm.worth
            rw [if_neg (fun q => h q.2)]
          walk_at "sy"
          rw [hw]
          exact ⟨⟨_, _, _, _, rfl⟩, rfl⟩
    rintro ρ1 m2 ⟨⟨z6, z7, z8, z9, rfl⟩, rfl⟩
    have hplay := Gm.play_ok hro hk hl hv
    have hW := Wb_12 (t := t + 1) (by omega)
    have hW2 := Wb_12 (t := t) (by omega)
    walk_at "sy"
    refine simS_if ?_
    walk_at "sy"
    cases hw : g.worth r v with
    | none =>
      refine ite_t rfl ?_
      walk_at "sy"
      simp only [mupd_upd]
      refine hP _ ⟨?_, ?_⟩ fun b h1 h2 => ?_
      · rw [mupd_same]
        simp only [lgk, Gm.play, bestO, hw]
        rfl
      · rw [mupd_ne hne.symm, mupd_same]
        simp [Gm.play]
      · rw [mupd_ne h1, mupd_ne h2]
    | some w2 =>
      have hb : Bd 7600 w2 := (hplay.now w2 hw).mono hW
      have hmb : Bd 7600 g.most := hk.most.mono hW2
      obtain ⟨u, hu⟩ : ∃ u, g.now = some u := by
        cases q : g.now with
        | some u => exact ⟨u, rfl⟩
        | none =>
          unfold Gm.worth at hw
          rw [q] at hw
          split at hw <;> cases hw
      have hbe : bestO g = some g.most := by unfold bestO; rw [hu]; rfl
      rw [hbe]
      refine ite_f rfl ?_
      walk_at "sy"
      refine ite_t rfl ?_
      rw [opt_some, opt_some]
      walk_at "sy"
      refine ops_mulI (cmw hb.1 hmb.dn (by omega)) ?_
      walk_at "sy"
      refine ops_mulI (cmw hmb.1 hb.dn (by omega)) ?_
      walk_at "sy"
      rw [decide_eq_decide.mpr (rat_lt_swap w2 g.most)]
      refine ite_d (fun h => ?_) (fun h => ?_)
      · walk_at "sy"
        simp only [mupd_upd]
        refine hP _ ⟨?_, ?_⟩ fun b h1 h2 => ?_
        · rw [mupd_same]
          simp only [lgk, Gm.play, bestO, hw, if_pos h]
          rfl
        · rw [mupd_ne hne.symm, mupd_same]
          simp [Gm.play]
        · rw [mupd_ne h1, mupd_ne h2]
      · walk_at "sy"
        simp only [mupd_upd]
        refine hP _ ⟨?_, ?_⟩ fun b h1 h2 => ?_
        · rw [mupd_same]
          simp only [lgk, Gm.play, bestO, hw, if_neg h]
          rfl
        · rw [mupd_ne hne.symm, mupd_same]
          simp [Gm.play]
        · rw [mupd_ne h1, mupd_ne h2]
end
end L3

/-! text L4d -/
set_option Elab.async false
set_option linter.all false
set_option maxRecDepth 100000
set_option maxHeartbeats 4000000
set_option pp.maxSteps 1500
namespace L3
open PySem L2
open scoped Rat
local macro_rules | `(tactic| walk_at "ca") => `(tactic| first
  | exact Txt.k_Game (by assumption)
  | exact Txt.n_Game_many (by assumption)
  | exact Txt.n_Game_again (by assumption)
  | exact Txt.n_Game_highest (by assumption)
  | exact Txt.n_Game_rule (by assumption)
  | exact Txt.n_Game_drawn_values (by assumption)
  | exact Txt.n_Game_sum_so_far (by assumption)
  | exact Txt.n_Game_now (by assumption)
  | exact Txt.n_Game_most (by assumption)
  | exact Txt.n_Game_certain (by assumption)
  | exact Txt.k_Way (by assumption)
  | exact Txt.n_Way_claim (by assumption)
  | exact Txt.k_Comparing (by assumption)
  | exact Txt.n_Comparing_claim (by assumption)
  | exact Txt.n_Comparing_told (by assumption)
  | exact Txt.n_Comparing_scale (by assumption)
  | exact Txt.k_Sheet (by assumption)
  | exact Txt.n_Sheet_names (by assumption)
  | exact Txt.n_Sheet_limit (by assumption)
  | exact Txt.n_Sheet_ways (by assumption)
  | exact Txt.n_Sheet_games (by assumption)
  | exact Txt.k_Audit (by assumption)
  | exact Txt.n_Audit_sheets (by assumption)
  | exact Txt.n_Audit_many (by assumption)
  | exact Txt.n_Audit_again (by assumption)
  | exact Txt.n_Audit_most (by assumption)
  | exact Txt.n_Audit_numbers (by assumption)
  | exact Txt.k_Beats (by assumption)
  | exact Txt.n_Beats_one (by assumption)
  | exact Txt.n_Beats_other (by assumption)
  | exact Txt.k_Over (by assumption)
  | exact Txt.n_Over_name (by assumption)
  | exact Txt.n_Over_share (by assumption)
  | exact Txt.k_Under (by assumption)
  | exact Txt.n_Under_name (by assumption)
  | exact Txt.n_Under_share (by assumption)
  | exact Txt.k_Contest (by assumption)
  | exact Txt.n_Contest_names (by assumption)
  | exact Txt.k_Most (by assumption)
  | exact Txt.n_Most_names (by assumption)
  | exact Txt.n_Most_seats (by assumption)
  | exact Txt.k_Portion (by assumption)
  | exact Txt.n_Portion_names (by assumption)
  | exact Txt.n_Portion_share (by assumption)
  | exact Txt.k_Fixed (by assumption)
  | exact Txt.n_Fixed_part (by assumption))
local macro_rules | `(tactic| walk_at "ne") => `(tactic| first
  | assumption
  | (refine Ne.symm ?_; assumption)
  | exact mne (by assumption) (by assumption)
  | exact (mne (by assumption) (by assumption)).symm)
local macro_rules | `(tactic| walk_at "mm") => `(tactic| first
  | assumption
  | exact mupd_same
  | (refine (mupd_ne ?_).trans ?_; (walk_at "ne"); (walk_at "mm")))
local macro_rules | `(tactic| walk_at "s0") => `(tactic| first
  | with_reducible refine simS_seq ?_
  | with_reducible refine simS_ret ?_
  | with_reducible refine simS_retN ?_
  | with_reducible refine simS_set ?_
  | with_reducible refine simS_drop ?_
  | with_reducible refine simS_next ?_
  | with_reducible refine simS_fld ?_
  | with_reducible refine simS_dput ?_
  | with_reducible refine simT_test ?_
  | with_reducible refine simT_B ?_
  | with_reducible refine simT_not ?_
  | with_reducible refine simT_and ?_
  | with_reducible refine simT_or ?_
  | focus ((with_reducible refine sim_var (d := ?_) ?_ ?_); rotate_left 1; exact rfl)
  | with_reducible refine sim_int ?_
  | with_reducible refine sim_bl ?_
  | with_reducible refine sim_str ?_
  | with_reducible refine sim_non ?_
  | with_reducible refine sim_ty ?_
  | with_reducible refine sim_c (Txt.t_NOUGHT_games (by assumption)) ?_
  | with_reducible refine sim_c (Txt.t_ONE_games (by assumption)) ?_
  | with_reducible refine sim_c (Txt.t_ONE_ways (by assumption)) ?_
  | with_reducible refine sim_c (Txt.t_TWO (by assumption)) ?_
  | with_reducible refine sim_c (Txt.t_NOUGHT_claims (by assumption)) ?_
  | with_reducible refine sim_c (Txt.t_HALF (by assumption)) ?_
  | with_reducible refine sim_c (Txt.t_ONE_claims (by assumption)) ?_
  | with_reducible refine sim_ref ?_
  | with_reducible refine sim_op ?_
  | with_reducible refine sim_un ?_
  | with_reducible refine sim_andV ?_
  | with_reducible refine sim_orV ?_
  | with_reducible refine sim_notV ?_
  | with_reducible refine sim_chain ?_
  | with_reducible refine sim_tup ?_
  | with_reducible refine sim_call ?_
  | with_reducible refine sim_callB ?_
  | with_reducible refine sim_fldU ?_
  | with_reducible refine sim_append ?_
  | focus ((with_reducible refine apl (ds := ?_) ?_ ?_); rotate_left 1; walk_at "mm")
  | with_reducible refine sim_methU ?_
  | with_reducible refine sim_cfn ?_
  | with_reducible refine sim_dget ?_
  | with_reducible refine sim_sl ?_
  | with_reducible refine simO_none ?_
  | with_reducible refine simO_some ?_
  | with_reducible refine simA_cons ?_
  | with_reducible refine simA_nil ?_
  | with_reducible refine simG_name ?_
  | with_reducible refine simG_pair ?_
  | with_reducible refine ops_addI ?_
  | with_reducible refine uns_I (g := fun i => -i) ?_
  | with_reducible refine simG_triple ?_
  | with_reducible refine ops_subI ?_
  | with_reducible refine ops_lt ?_
  | with_reducible refine ops_le ?_
  | with_reducible refine ops_gt ?_
  | with_reducible refine ops_ge ?_
  | with_reducible refine ops_eqI ?_
  | with_reducible refine ops_neI ?_
  | with_reducible refine ops_eqSt ?_
  | with_reducible refine ops_eqNS ?_
  | with_reducible refine eq_mk ?_
  | with_reducible refine eq_bl ?_
  | with_reducible refine ops_isN ?_
  | with_reducible refine ops_notN ?_
  | with_reducible refine cs_abs ?_
  | focus ((with_reducible refine cs_isi2 (t := ?_) (b := ?_) ?_ ?_ ?_ ?_); rotate_left 2; exact rfl; exact rfl; exact rfl)
  | with_reducible refine cs_max2 ?_
  | with_reducible refine cs_min2 ?_
  | focus ((with_reducible refine ops_ixT' (d := ?_) ?_ ?_); rotate_left 1; exact rfl)
  | focus ((with_reducible refine fld_o (d := ?_) ?_ ?_ ?_ ?_); rotate_left 1; walk_at "ca"; walk_at "ca"; exact rfl)
  | focus ((with_reducible refine fld_p (C := ?_) (fs := ?_) (d := ?_) ?_ ?_ ?_ ?_ ?_); rotate_left 3; walk_at "mm"; walk_at "ca"; walk_at "ca"; exact rfl)
  | focus ((with_reducible refine And.intro (?_ : Mth _ _ _ _) ?_); exact mth_o (by rfl))
  | focus ((with_reducible refine ⟨mth_p (fs := ?_) ?_ ?_, ?_⟩); rotate_left 1; walk_at "mm"; exact rfl)
  | focus ((with_reducible refine setf (C := ?_) (fs := ?_) ?_ ?_ ?_ ?_ ?_); rotate_left 2; walk_at "mm"; walk_at "ca"; walk_at "ca"; exact of_decide_eq_true rfl)
  | focus ((with_reducible refine dgt (kvs := ?_) (k := ?_) (d := ?_) ?_ ?_ ?_ ?_); rotate_left 3; walk_at "mm"; exact rfl; exact rfl)
  | focus ((with_reducible refine dpt (kvs := ?_) (k := ?_) ?_ ?_ ?_ ?_); rotate_left 2; walk_at "mm"; exact rfl; exact of_decide_eq_true rfl)
  | (with_reducible refine ⟨_, rfl, ?_⟩)
  | (with_reducible refine ⟨rfl, ?_⟩)
  | focus ((with_reducible refine ⟨Nat.le_of_ble_eq_true ?_, ?_⟩); exact rfl)
  | with_reducible refine ite_T ?_
  | with_reducible refine ite_nF ?_
  | with_reducible refine ite_nT ?_
  | with_reducible refine ite_F ?_)
local macro_rules | `(tactic| walk_at "s1") => `(tactic| first
  | walk_at "s0"
  | with_reducible refine simS_if ?_)
local macro_rules | `(tactic| walk_at "sx") => `(tactic| repeat walk_at "s1")
local macro_rules | `(tactic| walk_at "sy") => `(tactic| repeat walk_at "s0")

section
variable {P : Program} {w : World} {K : PySem.W.Frag} {mg : Str → Option Value} {base : Heap} {a : Adr}

/-! L4d: the law's defs that draw numbers and names from the script. -/
def divN : Nat → Int → Int
  | 0, x => x
  | n + 1, x => divN n x / 1009
def atF (ns : List Int) (k : Nat) : Int := if k < ns.length then ns.getD k 0 else ((ns ++ [0]).getD 0 0 % 1000003 + 31) * ((k : Int) * k + 40013) % 2147483647
def mixF (c : Int) (k : Nat) : Int := if c % 2 = 1 then divN (k % 24) (c / 2) % 1009 else ((c % 1000000007 + 11 * k + 5) * 48271 % 2147483647 + k) * 69621 % 2147483629
theorem mixF_lo (c : Int) (k : Nat) : 0 ≤ mixF c k := by
  unfold mixF
  split <;> exact Int.emod_nonneg _ (by decide)
theorem mixF_hi (c : Int) (k : Nat) : mixF c k < 2147483648 := by
  unfold mixF
  split
  · have := Int.emod_lt_of_pos (divN (k % 24) (c / 2)) (show (0 : Int) < 1009 by decide)
    omega
  · have := Int.emod_lt_of_pos (((c % 1000000007 + 11 * k + 5) * 48271 % 2147483647 + k) * 69621) (show (0 : Int) < 2147483629 by decide)
    omega
def cAtF : Ctr := fun ds m P => ∃ (ns : List Int) (k : Nat), ds = [.lst (ns.map D.int), .int k] ∧ ns.length ≤ 63 ∧ k ≤ 1000 ∧ P (.int (atF ns k)) m
def cMix : Ctr := fun ds m P => ∃ (c : Int) (k : Nat), ds = [.int c, .int k] ∧ k ≤ 1000 ∧ P (.int (mixF c k)) m
abbrev s_l_at : Stmt := top 53
theorem sc_l_at : FnScope ["_law_script", "_law_k"] ["_law_script", "_law_k"] (defScope s_l_at) := ⟨rfl, rfl, rfl, by decide +kernel, rfl, by decide +kernel, by decide +kernel⟩
theorem ok_l_at {f : Addr} {fd : FuncData} (F : Fun K "_law_at" "_law_at" s_l_at f fd) (T : Txt K mg a)  : FnOk P w K mg base CX0 (0 + 1) f fd ["_law_script", "_law_k"] (spOf K (cAtF)) := by
  refine def_ok F sc_l_at ?_ ?_
  · rintro ds m PP ⟨ns, k, rfl, hn, hk, hP⟩
    rfl
  · rintro cdv A outer s H E hr ds m PP ⟨ns, k, rfl, hn, hk, hP⟩
    refine ⟨_, (pss_cons (ps_if (pt_cmpR op_lt (pv 1) (pe_callB (pk_len T) (by rfl) T.b_len (by decide +kernel) (pa_cons (pv 0) pa_nil)) (nomark _)) (pss_one (ps_ret (pe_ix (pk_ix T) (pv 0) (pv 1) (fun _ _ => rfl)))) pss_nil)
      (pss_one (ps_ret (pe_op op_mod (pe_op (pk_mul T) (pe_op (pk_add T) (pe_op op_mod (pe_ix (pk_ix T) (pe_op (pk_add T) (pv 0) (pe_lst (pa_cons pe_int pa_nil))) pe_int (fun _ _ => rfl)) pe_int) pe_int) (pe_op (pk_add T) (pe_op (pk_mul T) (pv 1) (pv 1)) pe_int)) pe_int)))), ?_⟩
    walk_at "sx"
    refine cs_len (.inl .val) ?_
    rw [List.length_map]
    walk_at "sx"
    refine ite_d (fun h => ?_) (fun h => ?_)
    · walk_at "sx"
      have hk2 : k < ns.length := by omega
      refine ops_ixL' .val (atI_nat (v := .int (ns.getD k 0)) ?_) ?_
      · rw [List.getElem?_map, List.getD_eq_getElem?_getD, List.getElem?_eq_getElem hk2]
        rfl
      unfold atF at hP
      rw [if_pos hk2] at hP
      exact hP
    · walk_at "sx"
      refine sim_lst ?_
      walk_at "sx"
      refine ops_addL .val .val (by rw [List.length_map]; simp; omega) ?_
      walk_at "sx"
      refine ops_ixL' .val (atI_nat (j := 0) (v := .int ((ns ++ [0]).getD 0 0)) (by cases ns <;> rfl)) ?_
      walk_at "sx"
      refine ops_modI (by decide) ?_
      walk_at "sx"
      have hkk : (k : Int) * k ≤ 1000 * 1000 := Int.mul_le_mul (by omega) (by omega) (by omega) (by omega)
      have hkk0 : 0 ≤ (k : Int) * k := Int.mul_nonneg (by omega) (by omega)
      refine ops_mulI (cmw (k := 12) (l := 12) (by omega) (by omega) (by omega)) ?_
      walk_at "sx"
      have hm := Int.emod_lt_of_pos ((ns ++ [0]).getD 0 0) (show (0 : Int) < 1000003 by decide)
      have hm0 := Int.emod_nonneg ((ns ++ [0]).getD 0 0) (show (1000003 : Int) ≠ 0 by decide)
      refine ops_mulI (cmw (k := 24) (l := 24) (by omega) (by omega) (by omega)) ?_
      walk_at "sx"
      refine ops_modI (by decide) ?_
      unfold atF at hP
      rw [if_neg (by omega)] at hP
      exact hP
abbrev s_l_mix : Stmt := top 54
theorem sc_l_mix : FnScope ["_law_cell", "_law_k", "_law_number", "_law_j"] ["_law_cell", "_law_k"] (defScope s_l_mix) := ⟨rfl, rfl, rfl, by decide +kernel, rfl, by decide +kernel, by decide +kernel⟩
theorem ok_l_mix {f : Addr} {fd : FuncData} (F : Fun K "_law_mix" "_law_mix" s_l_mix f fd) (T : Txt K mg a)  : FnOk P w K mg base CX0 (0 + 1) f fd ["_law_cell", "_law_k"] (spOf K (cMix)) := by
  refine def_ok F sc_l_mix ?_ ?_
  · rintro ds m PP ⟨c, k, rfl, hk, hP⟩
    rfl
  · rintro cdv A outer s H E hr ds m PP ⟨c, k, rfl, hk, hP⟩
    refine ⟨_, (pss_cons (ps_if (pt_cmpR (pk_eq T hr.units) (pe_op op_mod (pv 0) pe_int) pe_int (nomark _)) (pss_cons (ps_set (i := 2) sc_l_mix.nd rfl (by first | exact Or.inl rfl | exact Or.inr rfl) (pe_op op_fdivW (pv 0) pe_int))
      (pss_cons (ps_for PassesOwn.never rfl (pi_range1 (by rfl) T.b_range (pa_cons (pe_op op_mod (pv 1) pe_int) pa_nil)) (pg_name (i := 3) sc_l_mix.nd rfl (by first | exact Or.inl rfl | exact Or.inr rfl)) (pss_one (ps_set (i := 2) sc_l_mix.nd rfl (by first | exact Or.inl rfl | exact Or.inr rfl) (pe_op op_fdivW (pv 2) pe_int))))
      (pss_one (ps_ret (pe_op op_mod (pv 2) pe_int))))) pss_nil)
      (pss_cons (ps_set (i := 2) sc_l_mix.nd rfl (by first | exact Or.inl rfl | exact Or.inr rfl) (pe_op op_mod (pe_op (pk_mul T) (pe_op (pk_add T) (pe_op (pk_add T) (pe_op op_mod (pv 0) pe_int) (pe_op (pk_mul T) pe_int (pv 1))) pe_int) pe_int) pe_int))
      (pss_one (ps_ret (pe_op op_mod (pe_op (pk_mul T) (pe_op (pk_add T) (pv 2) (pv 1)) pe_int) pe_int))))), ?_⟩
    walk_at "sx"
    refine ops_modI (by decide) ?_
    walk_at "sx"
    unfold mixF at hP
    refine ite_d (fun h => ?_) (fun h => ?_)
    · rw [if_pos h] at hP
      walk_at "sx"
      refine ops_divI ⟨by decide, by decide⟩ ?_
      walk_at "sx"
      refine simS_forM (List.range (k % 24)) (fun i : Nat => D.int i) (fun done ρ' m' => m' = m ∧ ∃ z, ρ' = [some (.int c), some (.int k), some (.int (divN done.length (c / 2))), z]) (ts := [3]) (simI_rng1 ?_)
      walk_at "sx"
      refine ops_modI (by decide) ?_
      have e : (k : Int) % 24 = ((k % 24 : Nat) : Int) := by omega
      rw [e]
      walk_at "sx"
      refine ⟨by omega, rfl, ⟨rfl, _, rfl⟩, fun _ _ _ _ => trivial, ?_, ?_⟩
      · rintro done j rest ρ' m' _ ⟨rfl, z, rfl⟩
        walk_at "sx"
        refine ops_divI ⟨by decide, by decide⟩ ?_
        refine ⟨rfl, some (.int j), ?_⟩
        rw [List.length_append, List.length_singleton]
        rfl
      · rintro ρ' m' ⟨rfl, z, rfl⟩
        rw [List.length_range]
        walk_at "sx"
        refine ops_modI (by decide) ?_
        exact hP
    · rw [if_neg h] at hP
      walk_at "sx"
      have h1 := Int.emod_lt_of_pos c (show (0 : Int) < 1000000007 by decide)
      have h2 := Int.emod_nonneg c (show (1000000007 : Int) ≠ 0 by decide)
      have h3 := Int.emod_lt_of_pos ((c % 1000000007 + 11 * k + 5) * 48271) (show (0 : Int) < 2147483647 by decide)
      have h4 := Int.emod_nonneg ((c % 1000000007 + 11 * k + 5) * 48271) (show (2147483647 : Int) ≠ 0 by decide)
      refine ops_modI (by decide) ?_
      walk_at "sx"
      refine ops_mulI (cmw (k := 12) (l := 12) (by omega) (by omega) (by omega)) ?_
      walk_at "sx"
      refine ops_mulI (cmw (k := 40) (l := 40) (by omega) (by omega) (by omega)) ?_
      walk_at "sx"
      refine ops_modI (by decide) ?_
      walk_at "sx"
      refine ops_mulI (cmw (k := 40) (l := 40) (by omega) (by omega) (by omega)) ?_
      walk_at "sx"
      refine ops_modI (by decide) ?_
      exact hP
/-! ### names -/
def letters : Str := "abcdefghijklmnopqrstuvwxyz"
def chrS (r : Nat) : Str := ⟨#[97 + r]⟩
theorem letters_at : ∀ r, r < 26 → letters.cps.toList[r]? = some (97 + r) := by decide +kernel
theorem letters_len : letters.length = 26 := by decide +kernel
theorem strOk_iff (s : Str) : PyData.strOk s = true ↔ ∀ c ∈ TL.tl s, c < 0x110000 := by
  unfold PyData.strOk TL.tl
  rw [Array.all_eq_true']
  constructor
  · intro h c hc
    simpa using h c (Array.mem_toList_iff.mp hc)
  · intro h c hc
    simpa using h c (Array.mem_toList_iff.mpr hc)
theorem joinL_nil_mem : ∀ {ps : List (List Nat)} {c : Nat}, c ∈ TL.joinL [] ps → ∃ p ∈ ps, c ∈ p
  | [], c, h => by cases h
  | [p], c, h => ⟨p, by simp, h⟩
  | p :: q :: r, c, h => by
    have h : c ∈ p ++ ([] ++ TL.joinL [] (q :: r)) := h
    rcases List.mem_append.mp h with h | h
    · exact ⟨p, by simp, h⟩
    · obtain ⟨x, hx, hc⟩ := joinL_nil_mem (ps := q :: r) (by simpa using h)
      exact ⟨x, List.mem_cons_of_mem p hx, hc⟩
theorem joinL_nil_len : ∀ {ps : List (List Nat)}, (∀ p ∈ ps, p.length = 1) → (TL.joinL [] ps).length = ps.length
  | [], _ => rfl
  | [p], h => h p (by simp)
  | p :: q :: r, h => by
    show (p ++ ([] ++ TL.joinL [] (q :: r))).length = _
    have := joinL_nil_len (ps := q :: r) fun x hx => h x (List.mem_cons_of_mem p hx)
    have := h p (by simp)
    simp only [List.length_append, List.nil_append, List.length_cons, List.length_nil] at *
    omega
theorem base_ok {size : Nat} {g : Nat → Nat} (hg : ∀ i, g i < 26) : (Txt.join "" ((List.range size).map fun i => chrS (g i))).length ≤ size ∧ ∀ c ∈ TL.tl (Txt.join "" ((List.range size).map fun i => chrS (g i))), c < 0x110000 := by
  have e : TL.tl (Txt.join "" ((List.range size).map fun i => chrS (g i))) = TL.joinL [] (((List.range size).map fun i => chrS (g i)).map TL.tl) := by
    rw [TL.join_eq, TL.tl_join]
    rfl
  refine ⟨?_, ?_⟩
  · rw [TL.len_tl, e, joinL_nil_len]
    · simp
    · intro p hp
      rw [List.map_map] at hp
      obtain ⟨i, _, rfl⟩ := List.mem_map.mp hp
      rfl
  · intro c hc
    rw [e] at hc
    obtain ⟨p, hp, hc⟩ := joinL_nil_mem hc
    rw [List.map_map] at hp
    obtain ⟨i, _, rfl⟩ := List.mem_map.mp hp
    have : c = 97 + g i := by simpa [chrS, TL.tl] using hc
    have := hg i
    omega
/-- the k-th name -/
def TL.nm (bs : Str) (spot first st : Nat) (i : Nat) : Str := cutS bs none (some (spot : Int)) ++ chrS ((first + i * (1 + st)) % 26) ++ cutS bs (some (spot : Int)) none
theorem cutS_mem {z : Str} {lo hi : Option Int} {c : Nat} (h : c ∈ TL.tl (cutS z lo hi)) : c ∈ TL.tl z := by
  have h : c ∈ (z.cps.toList.drop (HT.sIx z.length 0 lo)).take (HT.sIx z.length z.length hi - HT.sIx z.length 0 lo) := h
  exact List.mem_of_mem_drop (List.mem_of_mem_take h)
theorem cutS_len {z : Str} {lo hi : Option Int} : (cutS z lo hi).length ≤ z.length := by
  rw [TL.len_tl, TL.len_tl]
  show ((z.cps.toList.drop (HT.sIx z.length 0 lo)).take (HT.sIx z.length z.length hi - HT.sIx z.length 0 lo)).length ≤ z.cps.toList.length
  rw [List.length_take, List.length_drop]
  omega
theorem nm_ok {bs : Str} {spot first st i : Nat} (h : ∀ c ∈ TL.tl bs, c < 0x110000) : PyData.strOk (TL.nm bs spot first st i) = true := by
  rw [strOk_iff]
  intro c hc
  unfold TL.nm at hc
  rw [TL.tl_append, TL.tl_append] at hc
  rcases List.mem_append.mp hc with hc | hc
  · rcases List.mem_append.mp hc with hc | hc
    · exact h c (cutS_mem hc)
    · have : c = 97 + (first + i * (1 + st)) % 26 := by simpa [chrS, TL.tl] using hc
      omega
  · exact h c (cutS_mem hc)
theorem nm_nq {bs : Str} {spot first st i : Nat} : TL.nm bs spot first st i ≠ ("" : Str) ∧ TL.nm bs spot first st i ≠ ("?" : Str) := by
  have hm : 97 + (first + i * (1 + st)) % 26 ∈ TL.tl (TL.nm bs spot first st i) := by
    unfold TL.nm
    rw [TL.tl_append, TL.tl_append]
    refine List.mem_append.mpr (.inl (List.mem_append.mpr (.inr ?_)))
    simp [chrS, TL.tl]
  refine ⟨fun e => ?_, fun e => ?_⟩
  · rw [e] at hm
    have : TL.tl ("" : Str) = [] := by decide
    rw [this] at hm
    simp at hm
  · rw [e] at hm
    have : TL.tl ("?" : Str) = [63] := by decide
    rw [this] at hm
    simp at hm
    omega
theorem nm_inj {bs : Str} {spot first st i j : Nat} (hi : i < 3) (hj : j < 3) (hst : st < 3) (h : TL.nm bs spot first st i = TL.nm bs spot first st j) : i = j := by
  have h := congrArg TL.tl h
  unfold TL.nm at h
  rw [TL.tl_append, TL.tl_append, TL.tl_append, TL.tl_append] at h
  have h := List.append_cancel_left (List.append_cancel_right h)
  have h : (first + i * (1 + st)) % 26 = (first + j * (1 + st)) % 26 := by
    have : 97 + (first + i * (1 + st)) % 26 = 97 + (first + j * (1 + st)) % 26 := by simpa [chrS, TL.tl] using h
    omega
  have i3 : i = 0 ∨ i = 1 ∨ i = 2 := by omega
  have j3 : j = 0 ∨ j = 1 ∨ j = 2 := by omega
  rcases i3 with rfl | rfl | rfl <;> rcases j3 with rfl | rfl | rfl <;> omega
def NmOk (s : Str) : Prop := PyData.strOk s = true ∧ s ≠ ("" : Str) ∧ s ≠ ("?" : Str)
def cNames : Ctr := fun ds m P => ∃ (c : Int) (n : Nat), ds = [.int c, .int n] ∧ 1 ≤ n ∧ n ≤ 3 ∧ ∀ ns : List Str, ns.length = n → ns.Nodup → (∀ s ∈ ns, NmOk s) → P (.lst (ns.map D.str)) m
abbrev s_l_names : Stmt := top 55
theorem sc_l_names : FnScope ["_law_cell", "_law_many", "_law_letters", "_law_size", "_law_base", "_law_k", "_law_spot", "_law_first", "_law_step"] ["_law_cell", "_law_many"] (defScope s_l_names) := ⟨rfl, rfl, rfl, by decide +kernel, rfl, by decide +kernel, by decide +kernel⟩
theorem ok_l_names {f : Addr} {fd : FuncData} (F : Fun K "_law_names" "_law_names" s_l_names f fd) (T : Txt K mg a) (h_l_mix : CalC P w K mg base 1 "_law_mix" (cMix)) : FnOk P w K mg base CX0 (1 + 1) f fd ["_law_cell", "_law_many"] (spOf K (cNames)) := by
  refine def_ok F sc_l_names ?_ ?_
  · rintro ds m PP ⟨c, n, rfl, h1, h3, hP⟩
    rfl
  · rintro cdv A outer s H E hr ds m PP ⟨c, n, rfl, h1, h3, hP⟩
    refine ⟨_, (pss_cons (ps_set (i := 2) sc_l_names.nd rfl (by first | exact Or.inl rfl | exact Or.inr rfl) pe_str)
      (pss_cons (ps_set (i := 3) sc_l_names.nd rfl (by first | exact Or.inl rfl | exact Or.inr rfl) (pe_op op_mod (pk_cal h_l_mix hr (by decide) (pa_cons (pv 0) (pa_cons pe_int pa_nil))) pe_int))
      (pss_cons (ps_set (i := 4) sc_l_names.nd rfl (by first | exact Or.inl rfl | exact Or.inr rfl) (pe_join pe_str (pe_lc (own := [("_law_k", 5)]) (g := (gName 5)) (tt := tYes) (by rfl) sc_l_names.nd (pi_range1 (by rfl) T.b_range (pa_cons (pv 3) pa_nil)) (blkOk_by (by kernel_rfl)) (fun _ _ _ _ _ => by exact (pg_name (i := 5) sc_l_names.nd rfl (by first | exact Or.inl rfl | exact Or.inr rfl))) (fun _ _ _ _ _ => by exact pts_nil) (fun _ _ _ _ _ => by exact (pe_ix (pk_ix T) (pv 2) (pe_op op_mod (pk_cal h_l_mix hr (by decide) (pa_cons (pv 0) (pa_cons (pe_op (pk_add T) (pv 5) pe_int) pa_nil))) pe_int) (fun _ _ => rfl))))))
      (pss_cons (ps_set (i := 6) sc_l_names.nd rfl (by first | exact Or.inl rfl | exact Or.inr rfl) (pe_op op_mod (pk_cal h_l_mix hr (by decide) (pa_cons (pv 0) (pa_cons pe_int pa_nil))) (pe_op (pk_add T) (pv 3) pe_int)))
      (pss_cons (ps_set (i := 7) sc_l_names.nd rfl (by first | exact Or.inl rfl | exact Or.inr rfl) (pe_op op_mod (pk_cal h_l_mix hr (by decide) (pa_cons (pv 0) (pa_cons pe_int pa_nil))) pe_int))
      (pss_cons (ps_set (i := 8) sc_l_names.nd rfl (by first | exact Or.inl rfl | exact Or.inr rfl) (pe_op (pk_add T) pe_int (pe_op op_mod (pk_cal h_l_mix hr (by decide) (pa_cons (pv 0) (pa_cons pe_int pa_nil))) pe_int)))
      (pss_one (ps_ret (pe_lc (own := [("_law_k", 5)]) (g := (gName 5)) (tt := tYes) (by rfl) sc_l_names.nd (pi_range1 (by rfl) T.b_range (pa_cons (pv 1) pa_nil)) (blkOk_by (by kernel_rfl)) (fun _ _ _ _ _ => by exact (pg_name (i := 5) sc_l_names.nd rfl (by first | exact Or.inl rfl | exact Or.inr rfl))) (fun _ _ _ _ _ => by exact pts_nil) (fun _ _ _ _ _ => by exact (pe_op (pk_add T) (pe_op (pk_add T) (pe_slice (pk_sl T) (pv 4) po_none (po_some (pv 6))) (pe_ix (pk_ix T) (pv 2) (pe_op op_mod (pe_op (pk_add T) (pv 7) (pe_op (pk_mul T) (pv 5) (pv 8))) pe_int) (fun _ _ => rfl))) (pe_slice (pk_sl T) (pv 4) (po_some (pv 6)) po_none)))))))))))), ?_⟩
    walk_at "sx"
    refine ⟨c, 1, rfl, by omega, ?_⟩
    have l1 := mixF_lo c 1
    walk_at "sx"
    refine ops_modI (by decide) ?_
    walk_at "sx"
    have e8 : mixF c 1 % 8 = (((mixF c 1 % 8).toNat : Nat) : Int) := by omega
    have l8 : (mixF c 1 % 8).toNat < 8 := by omega
    generalize (mixF c 1 % 8).toNat = size at e8 l8
    rw [e8]
    walk_at "sx"
    refine sim_join ?_
    walk_at "sx"
    refine sim_lcM (List.range size) (fun i : Nat => D.int i) (fun i => .str (chrS (mixF c (i + 2) % 26).toNat)) (ts := [5]) (by decide) (simI_rng1 ?_)
    walk_at "sx"
    refine ⟨by omega, rfl, by rw [List.length_range]; omega, trivial, fun i hi => ?_, ?_⟩
    · have hi := List.mem_range.mp hi
      walk_at "sx"
      have e2 : ((i : Int) + 2) = ((i + 2 : Nat) : Int) := by omega
      rw [e2]
      refine ⟨c, i + 2, rfl, by omega, ?_⟩
      have l1 := mixF_lo c (i + 2)
      walk_at "sx"
      refine ops_modI (by decide) ?_
      have e8 : mixF c (i + 2) % 26 = (((mixF c (i + 2) % 26).toNat : Nat) : Int) := by omega
      have l8 : (mixF c (i + 2) % 26).toNat < 26 := by omega
      rw [e8]
      refine ops_ixS' (c := 97 + (mixF c (i + 2) % 26).toNat) (sz_of (by decide +kernel)) (atI_nat (letters_at _ l8)) ?_
      refine ⟨rfl, ?_⟩
      rw [Int.toNat_natCast]
      rfl
    refine ⟨(List.range size).map fun i => chrS (mixF c (i + 2) % 26).toNat, .inl (by rw [List.map_map]; exact .val), ?_, ?_⟩
    · have e0 : (("" : Str)).length = 0 := by decide
      rw [e0, Nat.mul_zero, List.map_map]
      have : ∀ l : List Nat, (l.map ((fun x : Str => x.length) ∘ fun i => chrS (mixF c (i + 2) % 26).toNat)).sum = l.length := by
        intro l
        induction l with
        | nil => rfl
        | cons x l ih =>
          rw [List.map_cons, List.sum_cons, ih, List.length_cons]
          have : ((fun x : Str => x.length) ∘ fun i => chrS (mixF c (i + 2) % 26).toNat) x = 1 := rfl
          omega
      rw [this, List.length_range]
      omega
    obtain ⟨hb1, hb2⟩ := base_ok (size := size) (g := fun i => (mixF c (i + 2) % 26).toNat) (fun i => by have := mixF_lo c (i + 2); omega)
    generalize Txt.join "" ((List.range size).map fun i => chrS (mixF c (i + 2) % 26).toNat) = bs at hb1 hb2 ⊢
    walk_at "sx"
    refine ⟨c, 11, rfl, by omega, ?_⟩
    have l11 := mixF_lo c 11
    have l12 := mixF_lo c 12
    have l13 := mixF_lo c 13
    walk_at "sx"
    refine ops_modI (by omega) ?_
    have f11 := Int.emod_nonneg (mixF c 11) (show ((size : Int) + 1) ≠ 0 by omega)
    have e11 : mixF c 11 % ((size : Int) + 1) = (((mixF c 11 % ((size : Int) + 1)).toNat : Nat) : Int) := by omega
    generalize (mixF c 11 % ((size : Int) + 1)).toNat = spot at e11
    rw [e11]
    walk_at "sx"
    refine ⟨c, 12, rfl, by omega, ?_⟩
    walk_at "sx"
    refine ops_modI (by decide) ?_
    have e12 : mixF c 12 % 26 = (((mixF c 12 % 26).toNat : Nat) : Int) := by omega
    have g12 : (mixF c 12 % 26).toNat < 26 := by omega
    generalize (mixF c 12 % 26).toNat = first at e12 g12
    rw [e12]
    walk_at "sx"
    refine ⟨c, 13, rfl, by omega, ?_⟩
    walk_at "sx"
    refine ops_modI (by decide) ?_
    have e13 : mixF c 13 % 3 = (((mixF c 13 % 3).toNat : Nat) : Int) := by omega
    have g13 : (mixF c 13 % 3).toNat < 3 := by omega
    generalize (mixF c 13 % 3).toNat = st at e13 g13
    rw [e13]
    walk_at "sx"
    refine sim_lcM (List.range n) (fun i : Nat => D.int i) (fun i => .str (TL.nm bs spot first st i)) (ts := [5]) (by decide) (simI_rng1 ?_)
    walk_at "sx"
    refine ⟨by omega, rfl, by rw [List.length_range]; omega, trivial, fun i hi => ?_, ?_⟩
    · have hi := List.mem_range.mp hi
      walk_at "sx"
      refine sls_S (by omega) ?_
      walk_at "sx"
      have i3 : i = 0 ∨ i = 1 ∨ i = 2 := by omega
      have hprod : (i : Int) * (1 + (st : Int)) = ((i * (1 + st) : Nat) : Int) := by
        rw [Int.natCast_mul, Int.natCast_add]
        rfl
      have hpb : i * (1 + st) ≤ 6 := by rcases i3 with rfl | rfl | rfl <;> omega
      refine ops_mulI (cmw (k := 3) (l := 3) (by omega) (by omega) (by omega)) ?_
      walk_at "sx"
      refine ops_modI (by decide) ?_
      have e26 : ((first : Int) + (i : Int) * (1 + (st : Int))) % 26 = (((first + i * (1 + st)) % 26 : Nat) : Int) := by
        rw [hprod]
        omega
      rw [e26]
      refine ops_ixS' (sz_of (by decide +kernel)) (atI_nat (letters_at _ (by omega))) ?_
      have hc1 := cutS_len (z := bs) (lo := none) (hi := some (spot : Int))
      have hc2 := cutS_len (z := bs) (lo := some (spot : Int)) (hi := none)
      have hone : (⟨#[97 + (first + i * (1 + st)) % 26]⟩ : Str).length = 1 := rfl
      refine ops_addSt (by rw [hone]; omega) ?_
      walk_at "sx"
      refine sls_S (by omega) ?_
      refine ops_addSt ?_ ⟨rfl, rfl⟩
      have : (cutS bs none (some (spot : Int)) ++ (⟨#[97 + (first + i * (1 + st)) % 26]⟩ : Str)).length = (cutS bs none (some (spot : Int))).length + 1 := by
        rw [TL.len_tl, TL.tl_append, List.length_append, ← TL.len_tl]
        rfl
      rw [this]
      omega
    have e : (List.range n).map (fun i => D.str (TL.nm bs spot first st i)) = ((List.range n).map fun i => TL.nm bs spot first st i).map D.str := by
      rw [List.map_map]
      rfl
    rw [e]
    refine hP _ (by rw [List.length_map, List.length_range]) ?_ ?_
    · rw [List.nodup_iff_pairwise_ne, List.pairwise_map]
      refine List.Pairwise.imp_of_mem ?_ (List.pairwise_lt_range (n := n))
      intro i j hi hj hij h
      have hi := List.mem_range.mp hi
      have hj := List.mem_range.mp hj
      have := nm_inj (show i < 3 by omega) (show j < 3 by omega) g13 h
      omega
    · intro x hx
      obtain ⟨i, _, rfl⟩ := List.mem_map.mp hx
      exact ⟨nm_ok hb2, nm_nq⟩
end
end L3

/-! text L4e -/
set_option Elab.async false
set_option linter.all false
set_option maxRecDepth 100000
set_option maxHeartbeats 4000000
set_option pp.maxSteps 1500
namespace L3
open PySem L2
open scoped Rat
local macro_rules | `(tactic| walk_at "ca") => `(tactic| first
  | exact Txt.k_Game (by assumption)
  | exact Txt.n_Game_many (by assumption)
  | exact Txt.n_Game_again (by assumption)
  | exact Txt.n_Game_highest (by assumption)
  | exact Txt.n_Game_rule (by assumption)
  | exact Txt.n_Game_drawn_values (by assumption)
  | exact Txt.n_Game_sum_so_far (by assumption)
  | exact Txt.n_Game_now (by assumption)
  | exact Txt.n_Game_most (by assumption)
  | exact Txt.n_Game_certain (by assumption)
  | exact Txt.k_Way (by assumption)
  | exact Txt.n_Way_claim (by assumption)
  | exact Txt.k_Comparing (by assumption)
  | exact Txt.n_Comparing_claim (by assumption)
  | exact Txt.n_Comparing_told (by assumption)
  | exact Txt.n_Comparing_scale (by assumption)
  | exact Txt.k_Sheet (by assumption)
  | exact Txt.n_Sheet_names (by assumption)
  | exact Txt.n_Sheet_limit (by assumption)
  | exact Txt.n_Sheet_ways (by assumption)
  | exact Txt.n_Sheet_games (by assumption)
  | exact Txt.k_Audit (by assumption)
  | exact Txt.n_Audit_sheets (by assumption)
  | exact Txt.n_Audit_many (by assumption)
  | exact Txt.n_Audit_again (by assumption)
  | exact Txt.n_Audit_most (by assumption)
  | exact Txt.n_Audit_numbers (by assumption)
  | exact Txt.k_Beats (by assumption)
  | exact Txt.n_Beats_one (by assumption)
  | exact Txt.n_Beats_other (by assumption)
  | exact Txt.k_Over (by assumption)
  | exact Txt.n_Over_name (by assumption)
  | exact Txt.n_Over_share (by assumption)
  | exact Txt.k_Under (by assumption)
  | exact Txt.n_Under_name (by assumption)
  | exact Txt.n_Under_share (by assumption)
  | exact Txt.k_Contest (by assumption)
  | exact Txt.n_Contest_names (by assumption)
  | exact Txt.k_Most (by assumption)
  | exact Txt.n_Most_names (by assumption)
  | exact Txt.n_Most_seats (by assumption)
  | exact Txt.k_Portion (by assumption)
  | exact Txt.n_Portion_names (by assumption)
  | exact Txt.n_Portion_share (by assumption)
  | exact Txt.k_Fixed (by assumption)
  | exact Txt.n_Fixed_part (by assumption))
local macro_rules | `(tactic| walk_at "ne") => `(tactic| first
  | assumption
  | (refine Ne.symm ?_; assumption)
  | exact mne (by assumption) (by assumption)
  | exact (mne (by assumption) (by assumption)).symm)
local macro_rules | `(tactic| walk_at "mm") => `(tactic| first
  | assumption
  | exact mupd_same
  | (refine (mupd_ne ?_).trans ?_; (walk_at "ne"); (walk_at "mm")))
local macro_rules | `(tactic| walk_at "s0") => `(tactic| first
  | with_reducible refine simS_seq ?_
  | with_reducible refine simS_ret ?_
  | with_reducible refine simS_retN ?_
  | with_reducible refine simS_set ?_
  | with_reducible refine simS_drop ?_
  | with_reducible refine simS_next ?_
  | with_reducible refine simS_fld ?_
  | with_reducible refine simS_dput ?_
  | with_reducible refine simT_test ?_
  | with_reducible refine simT_B ?_
  | with_reducible refine simT_not ?_
  | with_reducible refine simT_and ?_
  | with_reducible refine simT_or ?_
  | focus ((with_reducible refine sim_var (d := ?_) ?_ ?_); rotate_left 1; exact rfl)
  | with_reducible refine sim_int ?_
  | with_reducible refine sim_bl ?_
  | with_reducible refine sim_str ?_
  | with_reducible refine sim_non ?_
  | with_reducible refine sim_ty ?_
  | with_reducible refine sim_c (Txt.t_NOUGHT_games (by assumption)) ?_
  | with_reducible refine sim_c (Txt.t_ONE_games (by assumption)) ?_
  | with_reducible refine sim_c (Txt.t_ONE_ways (by assumption)) ?_
  | with_reducible refine sim_c (Txt.t_TWO (by assumption)) ?_
  | with_reducible refine sim_c (Txt.t_NOUGHT_claims (by assumption)) ?_
  | with_reducible refine sim_c (Txt.t_HALF (by assumption)) ?_
  | with_reducible refine sim_c (Txt.t_ONE_claims (by assumption)) ?_
  | with_reducible refine sim_ref ?_
  | with_reducible refine sim_op ?_
  | with_reducible refine sim_un ?_
  | with_reducible refine sim_andV ?_
  | with_reducible refine sim_orV ?_
  | with_reducible refine sim_notV ?_
  | with_reducible refine sim_chain ?_
  | with_reducible refine sim_tup ?_
  | with_reducible refine sim_call ?_
  | with_reducible refine sim_callB ?_
  | with_reducible refine sim_fldU ?_
  | with_reducible refine sim_append ?_
  | focus ((with_reducible refine apl (ds := ?_) ?_ ?_); rotate_left 1; walk_at "mm")
  | with_reducible refine sim_methU ?_
  | with_reducible refine sim_cfn ?_
  | with_reducible refine sim_dget ?_
  | with_reducible refine sim_sl ?_
  | with_reducible refine simO_none ?_
  | with_reducible refine simO_some ?_
  | with_reducible refine simA_cons ?_
  | with_reducible refine simA_nil ?_
  | with_reducible refine simG_name ?_
  | with_reducible refine simG_pair ?_
  | with_reducible refine ops_addI ?_
  | with_reducible refine uns_I (g := fun i => -i) ?_
  | with_reducible refine simG_triple ?_
  | with_reducible refine ops_subI ?_
  | with_reducible refine ops_lt ?_
  | with_reducible refine ops_le ?_
  | with_reducible refine ops_gt ?_
  | with_reducible refine ops_ge ?_
  | with_reducible refine ops_eqI ?_
  | with_reducible refine ops_neI ?_
  | with_reducible refine ops_eqSt ?_
  | with_reducible refine ops_eqNS ?_
  | with_reducible refine eq_mk ?_
  | with_reducible refine eq_bl ?_
  | with_reducible refine ops_isN ?_
  | with_reducible refine ops_notN ?_
  | with_reducible refine cs_abs ?_
  | focus ((with_reducible refine cs_isi2 (t := ?_) (b := ?_) ?_ ?_ ?_ ?_); rotate_left 2; exact rfl; exact rfl; exact rfl)
  | with_reducible refine cs_max2 ?_
  | with_reducible refine cs_min2 ?_
  | focus ((with_reducible refine ops_ixT' (d := ?_) ?_ ?_); rotate_left 1; exact rfl)
  | focus ((with_reducible refine fld_o (d := ?_) ?_ ?_ ?_ ?_); rotate_left 1; walk_at "ca"; walk_at "ca"; exact rfl)
  | focus ((with_reducible refine fld_p (C := ?_) (fs := ?_) (d := ?_) ?_ ?_ ?_ ?_ ?_); rotate_left 3; walk_at "mm"; walk_at "ca"; walk_at "ca"; exact rfl)
  | focus ((with_reducible refine And.intro (?_ : Mth _ _ _ _) ?_); exact mth_o (by rfl))
  | focus ((with_reducible refine ⟨mth_p (fs := ?_) ?_ ?_, ?_⟩); rotate_left 1; walk_at "mm"; exact rfl)
  | focus ((with_reducible refine setf (C := ?_) (fs := ?_) ?_ ?_ ?_ ?_ ?_); rotate_left 2; walk_at "mm"; walk_at "ca"; walk_at "ca"; exact of_decide_eq_true rfl)
  | focus ((with_reducible refine dgt (kvs := ?_) (k := ?_) (d := ?_) ?_ ?_ ?_ ?_); rotate_left 3; walk_at "mm"; exact rfl; exact rfl)
  | focus ((with_reducible refine dpt (kvs := ?_) (k := ?_) ?_ ?_ ?_ ?_); rotate_left 2; walk_at "mm"; exact rfl; exact of_decide_eq_true rfl)
  | (with_reducible refine ⟨_, rfl, ?_⟩)
  | (with_reducible refine ⟨rfl, ?_⟩)
  | focus ((with_reducible refine ⟨Nat.le_of_ble_eq_true ?_, ?_⟩); exact rfl)
  | with_reducible refine ite_T ?_
  | with_reducible refine ite_nF ?_
  | with_reducible refine ite_nT ?_
  | with_reducible refine ite_F ?_)
local macro_rules | `(tactic| walk_at "s1") => `(tactic| first
  | walk_at "s0"
  | with_reducible refine simS_if ?_)
local macro_rules | `(tactic| walk_at "sx") => `(tactic| repeat walk_at "s1")
local macro_rules | `(tactic| walk_at "sy") => `(tactic| repeat walk_at "s0")

section
variable {P : Program} {w : World} {K : PySem.W.Frag} {mg : Str → Option Value} {base : Heap} {a : Adr}

/-! L4e: the law's plan and record. -/
def MkIn (c : Con) (mk : Mark) : Prop := mk = none ∨ mk = some ("" : Str) ∨ ∃ s ∈ c.names, mk = some s
def BalOk (cons : List Con) (b : List Mark) : Prop := b.length = cons.length ∧ ∀ p ∈ b.zip cons, MkIn p.2 p.1
theorem conD (c : Con) : ∃ a b, c.lD = .tup [a, strsD c.names, b] := by
  cases c with
  | most ns k => exact ⟨_, _, rfl⟩
  | portion ns s => exact ⟨_, _, rfl⟩
theorem range_split {n k : Nat} {done rest : List Nat} (h : List.range n = done ++ k :: rest) : k = done.length ∧ k < n := by
  have h1 : (List.range n)[done.length]? = some k := by
    rw [h, List.getElem?_append_right (Nat.le_refl _), Nat.sub_self]
    rfl
  have h2 := List.getElem?_eq_some_iff.mp h1
  obtain ⟨h3, h4⟩ := h2
  rw [List.getElem_range] at h4
  rw [List.length_range] at h3
  omega
def cContest : Ctr := fun ds m P => ∃ (c : Int) (ns : List Str), ds = [.int c, .lst (ns.map D.str)] ∧ ns.Nodup ∧ 2 ≤ ns.length ∧ ns.length ≤ 3 ∧ (∀ s ∈ ns, NmOk s) ∧ ∀ con : Con, ConOk con → P con.lD m
def cLimit : Ctr := fun ds m P => ∃ c : Int, ds = [.int c] ∧ ∀ q, Bd 7 q → P (fr q) m
def cBallot : Ctr := fun ds m P => ∃ (c : Int) (x : D) (cons : List Con), ds = [.int c, x] ∧ LstAt m x (cons.map Con.lD) ∧ cons.length ≤ 2 ∧ (∀ c ∈ cons, ConOk c) ∧ ∀ b : List Mark, BalOk cons b → P (.tup (b.map mkD)) m
theorem mix_mod (c : Int) (k n : Nat) (hn : 0 < n) : ∃ r : Nat, mixF c k % (n : Int) = (r : Int) ∧ r < n := by
  have h0 := mixF_lo c k
  have h1 := Int.emod_nonneg (mixF c k) (show (n : Int) ≠ 0 by omega)
  have h2 := Int.emod_lt_of_pos (mixF c k) (show (0 : Int) < n by omega)
  exact ⟨(mixF c k % (n : Int)).toNat, by omega, by omega⟩
theorem share_ok {x b : Nat} (h1 : b ≤ 2 * x) (h2 : x < b) (hb : b ≤ 100) : ShOk ((x : Int) /. (b : Int)) := by
  have hb0 := rat_nat_pos (show 0 < b by omega)
  have e : ((x : Int) /. (b : Int)) = (x : Rat) / (b : Rat) := by
    rw [Rat.divInt_eq_div]
    rfl
  refine ⟨?_, ?_, ?_⟩
  · rw [e]
    have : ¬ (x : Rat) / (b : Rat) < 1/2 := by
      rw [Rat.div_lt_iff hb0]
      have q : ((b : Nat) : Rat) ≤ ((2 * x : Nat) : Rat) := Rat.natCast_le_natCast.mpr h1
      rw [Rat.natCast_mul] at q
      have : ((2 : Nat) : Rat) = 2 := rfl
      rw [this] at q
      grind
    grind
  · rw [e, Rat.div_lt_iff hb0]
    have q : ((x : Nat) : Rat) < ((b : Nat) : Rat) := Rat.natCast_lt_natCast.mpr h2
    grind
  · exact bd_divInt (by omega) (by omega) (by omega)
abbrev s_l_contest : Stmt := top 66
theorem sc_l_contest : FnScope ["_law_cell", "_law_names_here", "_law_b", "_law_a"] ["_law_cell", "_law_names_here"] (defScope s_l_contest) := ⟨rfl, rfl, rfl, by decide +kernel, rfl, by decide +kernel, by decide +kernel⟩
theorem ok_l_contest {f : Addr} {fd : FuncData} (F : Fun K "_law_contest" "_law_contest" s_l_contest f fd) (T : Txt K mg a) (h_l_mix : CalC P w K mg base 1 "_law_mix" (cMix)) (h_l_lowest : CalC P w K mg base 1 "_law_lowest" (cLow)) : FnOk P w K mg base CX0 (1 + 1) f fd ["_law_cell", "_law_names_here"] (spOf K (cContest)) := by
  refine def_ok F sc_l_contest ?_ ?_
  · rintro ds m PP ⟨c, ns, rfl, hnd, hlo, hhi, hstr, hP⟩
    rfl
  · rintro cdv A outer s H E hr ds m PP ⟨c, ns, rfl, hnd, hlo, hhi, hstr, hP⟩
    refine ⟨_, (pss_cons (ps_if (pt_cmpR op_gt (pe_op op_mod (pk_cal h_l_mix hr (by decide) (pa_cons (pv 0) (pa_cons pe_int pa_nil))) pe_int) pe_int (nomark _)) (pss_one (ps_ret (pe_tup (pa_cons pe_str (pa_cons (pe_callTy (pk_tuple T) (by rfl) T.b_tuple (by decide +kernel) (pa_cons (pv 1) pa_nil)) (pa_cons (pe_op (pk_add T) pe_int (pe_op op_mod (pk_cal h_l_mix hr (by decide) (pa_cons (pv 0) (pa_cons pe_int pa_nil))) (pe_op op_sub (pe_callB (pk_len T) (by rfl) T.b_len (by decide +kernel) (pa_cons (pv 1) pa_nil)) pe_int))) pa_nil)))))) pss_nil)
      (pss_cons (ps_set (i := 2) sc_l_contest.nd rfl (by first | exact Or.inl rfl | exact Or.inr rfl) (pe_ix (pk_ix T) (pe_lst (pa_cons pe_int (pa_cons pe_int (pa_cons (pe_op (pk_add T) pe_int (pe_op op_mod (pk_cal h_l_mix hr (by decide) (pa_cons (pv 0) (pa_cons pe_int pa_nil))) pe_int)) pa_nil)))) (pe_op op_mod (pk_cal h_l_mix hr (by decide) (pa_cons (pv 0) (pa_cons pe_int pa_nil))) pe_int) (fun _ _ => rfl)))
      (pss_cons (ps_set (i := 3) sc_l_contest.nd rfl (by first | exact Or.inl rfl | exact Or.inr rfl) (pe_op op_fdivW (pe_op (pk_add T) (pv 2) pe_int) pe_int))
      (pss_one (ps_ret (pe_tup (pa_cons pe_str (pa_cons (pe_callTy (pk_tuple T) (by rfl) T.b_tuple (by decide +kernel) (pa_cons (pv 1) pa_nil)) (pa_cons (pk_cal h_l_lowest hr (by decide) (pa_cons (pe_op (pk_add T) (pv 3) (pe_op op_mod (pk_cal h_l_mix hr (by decide) (pa_cons (pv 0) (pa_cons pe_int pa_nil))) (pe_op op_sub (pv 2) (pv 3)))) (pa_cons (pv 2) pa_nil))) pa_nil))))))))), ?_⟩
    walk_at "sx"
    refine ⟨c, 50, rfl, by omega, ?_⟩
    walk_at "sx"
    refine ops_modI (by decide) ?_
    walk_at "sx"
    refine ite_d (fun h => ?_) (fun h => ?_)
    · walk_at "sx"
      refine cs_tuple (.inl .val) ?_
      walk_at "sx"
      refine ⟨c, 51, rfl, by omega, ?_⟩
      walk_at "sx"
      refine cs_len (.inl .val) ?_
      rw [List.length_map]
      walk_at "sx"
      obtain ⟨rr, er, hr2⟩ := mix_mod c 51 (ns.length - 1) (by omega)
      refine ops_modI (by omega) ?_
      have e : ((ns.length : Int) - 1) = ((ns.length - 1 : Nat) : Int) := by omega
      rw [e, er]
      walk_at "sx"
      exact hP (.most ns (1 + rr)) ⟨hnd, hlo, hhi, fun s hs => (hstr s hs).1, fun s hs => (hstr s hs).2, fun _ _ q => by cases q⟩
    · walk_at "sx"
      refine sim_lst ?_
      walk_at "sx"
      refine ⟨c, 52, rfl, by omega, ?_⟩
      obtain ⟨r52, e52, h52⟩ := mix_mod c 52 99 (by omega)
      obtain ⟨r53, e53, h53⟩ := mix_mod c 53 3 (by omega)
      walk_at "sx"
      refine ops_modI (by decide) ?_
      have e52 : mixF c 52 % 99 = (r52 : Int) := e52
      have e53 : mixF c 53 % 3 = (r53 : Int) := e53
      rw [e52]
      walk_at "sx"
      refine ⟨c, 53, rfl, by omega, ?_⟩
      walk_at "sx"
      refine ops_modI (by decide) ?_
      rw [e53]
      obtain ⟨b, hb, hb1, hb2⟩ : ∃ b : Nat, L2.atI [D.int 2, D.int 3, D.int (2 + (r52 : Int))] (r53 : Int) = some (.int b) ∧ 2 ≤ b ∧ b ≤ 100 := by
        have r3 : r53 = 0 ∨ r53 = 1 ∨ r53 = 2 := by omega
        rcases r3 with rfl | rfl | rfl
        · exact ⟨2, rfl, by omega, by omega⟩
        · exact ⟨3, rfl, by omega, by omega⟩
        · refine ⟨2 + r52, ?_, by omega, by omega⟩
          have : ((2 + r52 : Nat) : Int) = 2 + (r52 : Int) := by omega
          rw [this]
          rfl
      refine ops_ixL' .val hb ?_
      walk_at "sx"
      refine ops_divI ⟨by decide, by decide⟩ ?_
      have ea : ((b : Int) + 1) / 2 = (((b + 1) / 2 : Nat) : Int) := by omega
      rw [ea]
      walk_at "sx"
      refine cs_tuple (.inl .val) ?_
      walk_at "sx"
      refine ⟨c, 54, rfl, by omega, ?_⟩
      obtain ⟨r54, e54, h54⟩ := mix_mod c 54 (b - (b + 1) / 2) (by omega)
      walk_at "sx"
      refine ops_modI (by omega) ?_
      have e2 : ((b : Int) - (((b + 1) / 2 : Nat) : Int)) = ((b - (b + 1) / 2 : Nat) : Int) := by omega
      rw [e2, e54]
      walk_at "sx"
      have e3 : ((((b + 1) / 2 : Nat) : Int) + (r54 : Int)) = (((b + 1) / 2 + r54 : Nat) : Int) := by omega
      rw [e3]
      refine ⟨_, _, rfl, by omega, pow_up (k := 7) (by omega) (by omega), ?_⟩
      walk_at "sx"
      refine hP (.portion ns _) ⟨hnd, hlo, hhi, fun s hs => (hstr s hs).1, fun s hs => (hstr s hs).2, fun ns' s' q => ?_⟩
      cases q
      exact share_ok (by omega) (by omega) hb2
abbrev s_l_limit : Stmt := top 76
theorem sc_l_limit : FnScope ["_law_cell", "_law_b"] ["_law_cell"] (defScope s_l_limit) := ⟨rfl, rfl, rfl, by decide +kernel, rfl, by decide +kernel, by decide +kernel⟩
theorem ok_l_limit {f : Addr} {fd : FuncData} (F : Fun K "_law_limit" "_law_limit" s_l_limit f fd) (T : Txt K mg a) (h_l_mix : CalC P w K mg base 1 "_law_mix" (cMix)) (h_l_lowest : CalC P w K mg base 1 "_law_lowest" (cLow)) : FnOk P w K mg base CX0 (1 + 1) f fd ["_law_cell"] (spOf K (cLimit)) := by
  refine def_ok F sc_l_limit ?_ ?_
  · rintro ds m PP ⟨c, rfl, hP⟩
    rfl
  · rintro cdv A outer s H E hr ds m PP ⟨c, rfl, hP⟩
    refine ⟨_, (pss_cons (ps_set (i := 1) sc_l_limit.nd rfl (by first | exact Or.inl rfl | exact Or.inr rfl) (pe_op (pk_add T) pe_int (pe_op op_mod (pk_cal h_l_mix hr (by decide) (pa_cons (pv 0) (pa_cons pe_int pa_nil))) (pe_ix (pk_ix T) (pe_lst (pa_cons pe_int (pa_cons pe_int (pa_cons pe_int pa_nil)))) (pe_op op_mod (pk_cal h_l_mix hr (by decide) (pa_cons (pv 0) (pa_cons pe_int pa_nil))) pe_int) (fun _ _ => rfl)))))
      (pss_one (ps_ret (pk_cal h_l_lowest hr (by decide) (pa_cons (pe_ix (pk_ix T) (pe_lst (pa_cons pe_int (pa_cons (pe_op (pk_add T) pe_int (pe_op op_mod (pk_cal h_l_mix hr (by decide) (pa_cons (pv 0) (pa_cons pe_int pa_nil))) (pv 1))) pa_nil))) (pe_op op_mod (pk_cal h_l_mix hr (by decide) (pa_cons (pv 0) (pa_cons pe_int pa_nil))) pe_int) (fun _ _ => rfl)) (pa_cons (pv 1) pa_nil)))))), ?_⟩
    walk_at "sx"
    refine ⟨c, 70, rfl, by omega, ?_⟩
    walk_at "sx"
    refine sim_lst ?_
    walk_at "sx"
    refine ⟨c, 71, rfl, by omega, ?_⟩
    obtain ⟨r71, e71, h71⟩ := mix_mod c 71 3 (by omega)
    walk_at "sx"
    refine ops_modI (by decide) ?_
    have e71 : mixF c 71 % 3 = (r71 : Int) := e71
    rw [e71]
    obtain ⟨q, hq, hq1, hq2⟩ : ∃ q : Nat, L2.atI [D.int 3, D.int 20, D.int 100] (r71 : Int) = some (.int q) ∧ 3 ≤ q ∧ q ≤ 100 := by
      have r3 : r71 = 0 ∨ r71 = 1 ∨ r71 = 2 := by omega
      rcases r3 with rfl | rfl | rfl
      · exact ⟨3, rfl, by omega, by omega⟩
      · exact ⟨20, rfl, by omega, by omega⟩
      · exact ⟨100, rfl, by omega, by omega⟩
    refine ops_ixL' .val hq ?_
    obtain ⟨r70, e70, h70⟩ := mix_mod c 70 q (by omega)
    refine ops_modI (by omega) ?_
    rw [e70]
    walk_at "sx"
    refine sim_lst ?_
    walk_at "sx"
    refine ⟨c, 72, rfl, by omega, ?_⟩
    obtain ⟨r72, e72, h72⟩ := mix_mod c 72 (1 + r70) (by omega)
    have e72 : mixF c 72 % (1 + (r70 : Int)) = (r72 : Int) := by
      have : ((1 + r70 : Nat) : Int) = 1 + (r70 : Int) := by omega
      rw [← this]
      exact e72
    walk_at "sx"
    refine ops_modI (by omega) ?_
    rw [e72]
    walk_at "sx"
    refine ⟨c, 73, rfl, by omega, ?_⟩
    obtain ⟨r73, e73, h73⟩ := mix_mod c 73 2 (by omega)
    have e73 : mixF c 73 % 2 = (r73 : Int) := e73
    walk_at "sx"
    refine ops_modI (by decide) ?_
    rw [e73]
    obtain ⟨z, hz, hz1, hz2⟩ : ∃ z : Int, L2.atI [D.int 1, D.int (1 + (r72 : Int))] (r73 : Int) = some (.int z) ∧ 1 ≤ z ∧ z ≤ 100 := by
      have r2 : r73 = 0 ∨ r73 = 1 := by omega
      rcases r2 with rfl | rfl
      · exact ⟨1, rfl, by omega, by omega⟩
      · exact ⟨1 + (r72 : Int), rfl, by omega, by omega⟩
    refine ops_ixL' .val hz ?_
    walk_at "sx"
    exact ⟨_, _, rfl, by omega, pow_up (k := 7) (by omega) (by omega), hP _ (bd_divInt (by omega) (by omega) (by omega))⟩
abbrev s_l_ballot : Stmt := top 78
theorem sc_l_ballot : FnScope ["_law_cell", "_law_contests", "_law_marks", "_law_k", "_law_pool"] ["_law_cell", "_law_contests"] (defScope s_l_ballot) := ⟨rfl, rfl, rfl, by decide +kernel, rfl, by decide +kernel, by decide +kernel⟩
theorem ok_l_ballot {f : Addr} {fd : FuncData} (F : Fun K "_law_ballot" "_law_ballot" s_l_ballot f fd) (T : Txt K mg a) (h_l_mix : CalC P w K mg base 1 "_law_mix" (cMix)) : FnOk P w K mg base CX0 (1 + 1) f fd ["_law_cell", "_law_contests"] (spOf K (cBallot)) := by
  refine def_ok F sc_l_ballot ?_ ?_
  · rintro ds m PP ⟨c, x, cons, rfl, hx, hcl, hco, hP⟩
    rfl
  · rintro cdv A outer s H E hr ds m PP ⟨c, x, cons, rfl, hx, hcl, hco, hP⟩
    refine ⟨_, (pss_cons (ps_set (i := 2) sc_l_ballot.nd rfl (by first | exact Or.inl rfl | exact Or.inr rfl) (pe_lst pa_nil))
      (pss_cons (ps_for PassesOwn.never rfl (pi_range1 (by rfl) T.b_range (pa_cons (pe_callB (pk_len T) (by rfl) T.b_len (by decide +kernel) (pa_cons (pv 1) pa_nil)) pa_nil)) (pg_name (i := 3) sc_l_ballot.nd rfl (by first | exact Or.inl rfl | exact Or.inr rfl)) (pss_cons (ps_set (i := 4) sc_l_ballot.nd rfl (by first | exact Or.inl rfl | exact Or.inr rfl) (pe_op (pk_add T) (pe_callTy (pk_list T) (by rfl) T.b_list (by decide +kernel) (pa_cons (pe_ix (pk_ix T) (pe_ix (pk_ix T) (pv 1) (pv 3) (fun _ _ => rfl)) pe_int (fun _ _ => rfl)) pa_nil)) (pe_lst (pa_cons pe_str (pa_cons pe_non (pa_cons (pe_ix (pk_ix T) (pe_ix (pk_ix T) (pe_ix (pk_ix T) (pv 1) (pv 3) (fun _ _ => rfl)) pe_int (fun _ _ => rfl)) pe_int (fun _ _ => rfl)) pa_nil))))))
      (pss_one (ps_expr (pk_append T (pv 2) (pa_cons (pe_ix (pk_ix T) (pv 4) (pe_op op_mod (pk_cal h_l_mix hr (by decide) (pa_cons (pv 0) (pa_cons (pe_op (pk_add T) pe_int (pv 3)) pa_nil))) (pe_callB (pk_len T) (by rfl) T.b_len (by decide +kernel) (pa_cons (pv 4) pa_nil))) (fun _ _ => rfl)) pa_nil))))))
      (pss_one (ps_ret (pe_callTy (pk_tuple T) (by rfl) T.b_tuple (by decide +kernel) (pa_cons (pv 2) pa_nil)))))), ?_⟩
    walk_at "sx"
    refine sim_lstM ?_
    walk_at "sx"
    intro l hl
    walk_at "sx"
    have hx2 : ∀ o, LstAt (mupd m l (.lst o)) x (cons.map Con.lD) := by
      intro o
      rcases hx with rfl | ⟨q, rfl, hq⟩
      · exact .inl rfl
      · exact .inr ⟨q, rfl, (mupd_ne (mne hq hl)).trans hq⟩
    refine simS_forM (List.range cons.length) (fun i : Nat => D.int i) (fun done ρ' m' => ∃ b : List Mark, ∃ z1 z2, BalOk (cons.take done.length) b ∧ ρ' = [some (.int c), some x, some (.ptr l), z1, z2] ∧ m' = mupd m l (.lst (b.map mkD))) (ts := [3]) (simI_rng1 ?_)
    walk_at "sx"
    refine cs_len (.inl (hx2 _)) ?_
    rw [List.length_map]
    walk_at "sx"
    refine ⟨by omega, rfl, ⟨[], _, _, ⟨rfl, fun p hp => by simp at hp⟩, rfl, rfl⟩, fun _ _ _ _ => trivial, ?_, ?_⟩
    · rintro done k rest ρ' m' hsplit ⟨b, z1, z2, hb, rfl, rfl⟩
      obtain ⟨hk1, hk2⟩ := range_split hsplit
      obtain ⟨con, hcon⟩ : ∃ con, cons[k]? = some con := ⟨cons[k], List.getElem?_eq_getElem hk2⟩
      have hok := hco con (List.mem_of_getElem? hcon)
      obtain ⟨ca, cb, hcD⟩ := conD con
      have hlo := hok.lo
      have hhi := hok.hi
      obtain ⟨n0, hn0⟩ : ∃ n0, con.names[0]? = some n0 := ⟨con.names[0], List.getElem?_eq_getElem (by omega)⟩
      walk_at "sx"
      refine ops_ixL' (hx2 _) (atI_nat (v := con.lD) (by rw [List.getElem?_map, hcon]; rfl)) ?_
      rw [hcD]
      walk_at "sx"
      refine cs_list (.inr rfl) ?_
      walk_at "sx"
      refine sim_lst ?_
      walk_at "sx"
      refine ops_ixL' (hx2 _) (atI_nat (v := con.lD) (by rw [List.getElem?_map, hcon]; rfl)) ?_
      rw [hcD]
      walk_at "sx"
      refine ops_ixT' (atI_nat (j := 0) (v := .str n0) (by rw [List.getElem?_map, hn0]; rfl)) ?_
      walk_at "sx"
      refine ops_addL .val .val (by rw [List.length_map]; simp; omega) ?_
      have epool : (con.names.map D.str ++ [D.str "", D.non, D.str n0]) = (con.names.map some ++ [some ("" : Str), none, some n0]).map mkD := by
        rw [List.map_append, List.map_map]
        rfl
      rw [epool]
      walk_at "sx"
      have ek : (90 : Int) + (k : Int) = ((90 + k : Nat) : Int) := by omega
      rw [ek]
      refine ⟨c, 90 + k, rfl, by omega, ?_⟩
      walk_at "sx"
      refine cs_len (.inl .val) ?_
      rw [List.length_map]
      have hpl : (con.names.map some ++ [some ("" : Str), none, some n0]).length = con.names.length + 3 := by simp
      obtain ⟨rr, er, hr2⟩ := mix_mod c (90 + k) (con.names.map some ++ [some ("" : Str), none, some n0]).length (by omega)
      refine ops_modI (by omega) ?_
      rw [er]
      obtain ⟨pm, hpm⟩ : ∃ pm, (con.names.map some ++ [some ("" : Str), none, some n0])[rr]? = some pm := ⟨_, List.getElem?_eq_getElem hr2⟩
      refine ops_ixL' .val (atI_nat (v := mkD pm) (by rw [List.getElem?_map, hpm]; rfl)) ?_
      have hb1 := hb.1
      rw [List.length_take] at hb1
      refine apl2 mupd_same (by rw [List.length_map]; omega) ?_
      refine ⟨b ++ [pm], _, _, ?_, rfl, ?_⟩
      · have et : cons.take (done ++ [k]).length = cons.take done.length ++ [con] := by
          rw [List.length_append, List.length_singleton, List.take_add_one, ← hk1, hcon]
          rfl
        rw [et]
        refine ⟨by rw [List.length_append, List.length_append, hb.1]; rfl, fun p hp => ?_⟩
        rw [List.zip_append hb.1] at hp
        rcases List.mem_append.mp hp with hp | hp
        · exact hb.2 p hp
        · have hp : p = (pm, con) := by simpa using hp
          subst hp
          have hmem := List.mem_of_getElem? hpm
          rcases List.mem_append.mp hmem with q | q
          · obtain ⟨s, hs, rfl⟩ := List.mem_map.mp q
            exact .inr (.inr ⟨s, hs, rfl⟩)
          · simp only [List.mem_cons, List.not_mem_nil, or_false] at q
            rcases q with rfl | rfl | rfl
            · exact .inr (.inl rfl)
            · exact .inl rfl
            · exact .inr (.inr ⟨n0, List.mem_of_getElem? hn0, rfl⟩)
      · rw [mupd_upd, List.map_append]
        rfl
    · rintro ρ' m' ⟨b, z1, z2, hb, rfl, rfl⟩
      refine simS_ret (sim_drop ?_)
      walk_at "sx"
      refine cs_tuple (.inl (.mut mupd_same)) ?_
      refine ⟨l, ?_⟩
      rw [mdel_upd hl]
      rw [List.length_range, List.take_length] at hb
      exact hP b hb
end
end L3

/-! text L4f -/
set_option Elab.async false
set_option linter.all false
set_option maxRecDepth 100000
set_option maxHeartbeats 4000000
set_option pp.maxSteps 1500
namespace L3
open PySem L2
open scoped Rat
local macro_rules | `(tactic| walk_at "ca") => `(tactic| first
  | exact Txt.k_Game (by assumption)
  | exact Txt.n_Game_many (by assumption)
  | exact Txt.n_Game_again (by assumption)
  | exact Txt.n_Game_highest (by assumption)
  | exact Txt.n_Game_rule (by assumption)
  | exact Txt.n_Game_drawn_values (by assumption)
  | exact Txt.n_Game_sum_so_far (by assumption)
  | exact Txt.n_Game_now (by assumption)
  | exact Txt.n_Game_most (by assumption)
  | exact Txt.n_Game_certain (by assumption)
  | exact Txt.k_Way (by assumption)
  | exact Txt.n_Way_claim (by assumption)
  | exact Txt.k_Comparing (by assumption)
  | exact Txt.n_Comparing_claim (by assumption)
  | exact Txt.n_Comparing_told (by assumption)
  | exact Txt.n_Comparing_scale (by assumption)
  | exact Txt.k_Sheet (by assumption)
  | exact Txt.n_Sheet_names (by assumption)
  | exact Txt.n_Sheet_limit (by assumption)
  | exact Txt.n_Sheet_ways (by assumption)
  | exact Txt.n_Sheet_games (by assumption)
  | exact Txt.k_Audit (by assumption)
  | exact Txt.n_Audit_sheets (by assumption)
  | exact Txt.n_Audit_many (by assumption)
  | exact Txt.n_Audit_again (by assumption)
  | exact Txt.n_Audit_most (by assumption)
  | exact Txt.n_Audit_numbers (by assumption)
  | exact Txt.k_Beats (by assumption)
  | exact Txt.n_Beats_one (by assumption)
  | exact Txt.n_Beats_other (by assumption)
  | exact Txt.k_Over (by assumption)
  | exact Txt.n_Over_name (by assumption)
  | exact Txt.n_Over_share (by assumption)
  | exact Txt.k_Under (by assumption)
  | exact Txt.n_Under_name (by assumption)
  | exact Txt.n_Under_share (by assumption)
  | exact Txt.k_Contest (by assumption)
  | exact Txt.n_Contest_names (by assumption)
  | exact Txt.k_Most (by assumption)
  | exact Txt.n_Most_names (by assumption)
  | exact Txt.n_Most_seats (by assumption)
  | exact Txt.k_Portion (by assumption)
  | exact Txt.n_Portion_names (by assumption)
  | exact Txt.n_Portion_share (by assumption)
  | exact Txt.k_Fixed (by assumption)
  | exact Txt.n_Fixed_part (by assumption))
local macro_rules | `(tactic| walk_at "ne") => `(tactic| first
  | assumption
  | (refine Ne.symm ?_; assumption)
  | exact mne (by assumption) (by assumption)
  | exact (mne (by assumption) (by assumption)).symm)
local macro_rules | `(tactic| walk_at "mm") => `(tactic| first
  | assumption
  | exact mupd_same
  | (refine (mupd_ne ?_).trans ?_; (walk_at "ne"); (walk_at "mm")))
local macro_rules | `(tactic| walk_at "s0") => `(tactic| first
  | with_reducible refine simS_seq ?_
  | with_reducible refine simS_ret ?_
  | with_reducible refine simS_retN ?_
  | with_reducible refine simS_set ?_
  | with_reducible refine simS_drop ?_
  | with_reducible refine simS_next ?_
  | with_reducible refine simS_fld ?_
  | with_reducible refine simS_dput ?_
  | with_reducible refine simT_test ?_
  | with_reducible refine simT_B ?_
  | with_reducible refine simT_not ?_
  | with_reducible refine simT_and ?_
  | with_reducible refine simT_or ?_
  | focus ((with_reducible refine sim_var (d := ?_) ?_ ?_); rotate_left 1; exact rfl)
  | with_reducible refine sim_int ?_
  | with_reducible refine sim_bl ?_
  | with_reducible refine sim_str ?_
  | with_reducible refine sim_non ?_
  | with_reducible refine sim_ty ?_
  | with_reducible refine sim_c (Txt.t_NOUGHT_games (by assumption)) ?_
  | with_reducible refine sim_c (Txt.t_ONE_games (by assumption)) ?_
  | with_reducible refine sim_c (Txt.t_ONE_ways (by assumption)) ?_
  | with_reducible refine sim_c (Txt.t_TWO (by assumption)) ?_
  | with_reducible refine sim_c (Txt.t_NOUGHT_claims (by assumption)) ?_
  | with_reducible refine sim_c (Txt.t_HALF (by assumption)) ?_
  | with_reducible refine sim_c (Txt.t_ONE_claims (by assumption)) ?_
  | with_reducible refine sim_ref ?_
  | with_reducible refine sim_op ?_
  | with_reducible refine sim_un ?_
  | with_reducible refine sim_andV ?_
  | with_reducible refine sim_orV ?_
  | with_reducible refine sim_notV ?_
  | with_reducible refine sim_chain ?_
  | with_reducible refine sim_tup ?_
  | with_reducible refine sim_call ?_
  | with_reducible refine sim_callB ?_
  | with_reducible refine sim_fldU ?_
  | with_reducible refine sim_append ?_
  | focus ((with_reducible refine apl (ds := ?_) ?_ ?_); rotate_left 1; walk_at "mm")
  | with_reducible refine sim_methU ?_
  | with_reducible refine sim_cfn ?_
  | with_reducible refine sim_dget ?_
  | with_reducible refine sim_sl ?_
  | with_reducible refine simO_none ?_
  | with_reducible refine simO_some ?_
  | with_reducible refine simA_cons ?_
  | with_reducible refine simA_nil ?_
  | with_reducible refine simG_name ?_
  | with_reducible refine simG_pair ?_
  | with_reducible refine ops_addI ?_
  | with_reducible refine uns_I (g := fun i => -i) ?_
  | with_reducible refine simG_triple ?_
  | with_reducible refine ops_subI ?_
  | with_reducible refine ops_lt ?_
  | with_reducible refine ops_le ?_
  | with_reducible refine ops_gt ?_
  | with_reducible refine ops_ge ?_
  | with_reducible refine ops_eqI ?_
  | with_reducible refine ops_neI ?_
  | with_reducible refine ops_eqSt ?_
  | with_reducible refine ops_eqNS ?_
  | with_reducible refine eq_mk ?_
  | with_reducible refine eq_bl ?_
  | with_reducible refine ops_isN ?_
  | with_reducible refine ops_notN ?_
  | with_reducible refine cs_abs ?_
  | focus ((with_reducible refine cs_isi2 (t := ?_) (b := ?_) ?_ ?_ ?_ ?_); rotate_left 2; exact rfl; exact rfl; exact rfl)
  | with_reducible refine cs_max2 ?_
  | with_reducible refine cs_min2 ?_
  | focus ((with_reducible refine ops_ixT' (d := ?_) ?_ ?_); rotate_left 1; exact rfl)
  | focus ((with_reducible refine fld_o (d := ?_) ?_ ?_ ?_ ?_); rotate_left 1; walk_at "ca"; walk_at "ca"; exact rfl)
  | focus ((with_reducible refine fld_p (C := ?_) (fs := ?_) (d := ?_) ?_ ?_ ?_ ?_ ?_); rotate_left 3; walk_at "mm"; walk_at "ca"; walk_at "ca"; exact rfl)
  | focus ((with_reducible refine And.intro (?_ : Mth _ _ _ _) ?_); exact mth_o (by rfl))
  | focus ((with_reducible refine ⟨mth_p (fs := ?_) ?_ ?_, ?_⟩); rotate_left 1; walk_at "mm"; exact rfl)
  | focus ((with_reducible refine setf (C := ?_) (fs := ?_) ?_ ?_ ?_ ?_ ?_); rotate_left 2; walk_at "mm"; walk_at "ca"; walk_at "ca"; exact of_decide_eq_true rfl)
  | focus ((with_reducible refine dgt (kvs := ?_) (k := ?_) (d := ?_) ?_ ?_ ?_ ?_); rotate_left 3; walk_at "mm"; exact rfl; exact rfl)
  | focus ((with_reducible refine dpt (kvs := ?_) (k := ?_) ?_ ?_ ?_ ?_); rotate_left 2; walk_at "mm"; exact rfl; exact of_decide_eq_true rfl)
  | (with_reducible refine ⟨_, rfl, ?_⟩)
  | (with_reducible refine ⟨rfl, ?_⟩)
  | focus ((with_reducible refine ⟨Nat.le_of_ble_eq_true ?_, ?_⟩); exact rfl)
  | with_reducible refine ite_T ?_
  | with_reducible refine ite_nF ?_
  | with_reducible refine ite_nT ?_
  | with_reducible refine ite_F ?_)
local macro_rules | `(tactic| walk_at "s1") => `(tactic| first
  | walk_at "s0"
  | with_reducible refine simS_if ?_)
local macro_rules | `(tactic| walk_at "sx") => `(tactic| repeat walk_at "s1")
local macro_rules | `(tactic| walk_at "sy") => `(tactic| repeat walk_at "s0")

section
variable {P : Program} {w : World} {K : PySem.W.Frag} {mg : Str → Option Value} {base : Heap} {a : Adr}

/-! L4f: the law's plan, its record. -/
abbrev plk0 (cl ll : Addr) (r : Rl) (most : Nat) : List (Key × D) := [(.inr "contests", .ptr cl), (.inr "limits", .ptr ll), (.inr "many", .int r.many), (.inr "again", .bl r.again), (.inr "most", .int most), (.inr "rule", fr r.stake)]
theorem simS_to {ρ : DEnv} {m : Mem} {t : TS} {A : AEnds} {B : DEnv → Mem → Prop} (h1 : SimS K t ρ m { A with nx := B }) (h2 : ∀ ρ1 m1, B ρ1 m1 → A.nx ρ1 m1) : SimS K t ρ m A :=
  SimS.imp h1 h2 (fun _ _ h => h) (fun _ _ h => h) (fun _ _ h => h)
theorem cutD_from {ds : List D} {j : Nat} (h : j ≤ ds.length) : cutD ds (some (j : Int)) none = ds.drop j := by
  unfold cutD
  rw [HT.sIx_nat, HT.sIx_none, Nat.min_eq_left h, List.take_of_length_le (by rw [List.length_drop]; omega)]
def cPlan : Ctr := fun ds m P => ∃ ns : List Int, ds = [.lst (ns.map D.int), .int 2, .int 3] ∧ ns.length ≤ 63 ∧ ∀ o cl ll, ∀ (cons : List Con) (lims : List Rat) (r : Rl) (most : Nat) (m' : Mem), r.Ok → 1 ≤ cons.length → cons.length ≤ 2 → lims.length = cons.length → (∀ c ∈ cons, ConOk c) → (∀ q ∈ lims, Bd 7 q) →
  m' o = some (.dk (plk0 cl ll r most)) → m' cl = some (.lst (cons.map Con.lD)) → m' ll = some (.lst (lims.map fr)) → cl ≠ ll → m o = none → m cl = none → m ll = none → (∀ b, b ≠ o → b ≠ cl → b ≠ ll → m' b = m b) → P (.ptr o) m'
def cRecord : Ctr := fun ds m P => ∃ (ns : List Int) (o cl ll : Addr) (cons : List Con) (r : Rl) (most : Nat), ds = [.lst (ns.map D.int), .ptr o] ∧ ns.length ≤ 63 ∧ m o = some (.dk (plk0 cl ll r most)) ∧ m cl = some (.lst (cons.map Con.lD)) ∧ r.Ok ∧ cons.length ≤ 2 ∧ (∀ c ∈ cons, ConOk c) ∧
  ∀ rec : List (List Mark), rec.length = r.many → (∀ b ∈ rec, BalOk cons b) → P (.lst (rec.map fun b => .tup (b.map mkD))) m
abbrev s_l_plan : Stmt := top 77
theorem sc_l_plan : FnScope ["_law_script", "_law_most_contests", "_law_most_names", "_law_head", "_law_names_here", "_law_plan_here", "_law_k", "_law_cell", "_law_some"] ["_law_script", "_law_most_contests", "_law_most_names"] (defScope s_l_plan) := ⟨rfl, rfl, rfl, by decide +kernel, rfl, by decide +kernel, by decide +kernel⟩
theorem ok_l_plan {f : Addr} {fd : FuncData} (F : Fun K "_law_plan" "_law_plan" s_l_plan f fd) (T : Txt K mg a) (h_l_at : CalC P w K mg base 1 "_law_at" (cAtF)) (h_l_names : CalC P w K mg base 2 "_law_names" (cNames)) (h_l_mix : CalC P w K mg base 1 "_law_mix" (cMix)) (h_l_contest : CalC P w K mg base 2 "_law_contest" (cContest)) (h_l_limit : CalC P w K mg base 2 "_law_limit" (cLimit)) (h_l_lowest : CalC P w K mg base 1 "_law_lowest" (cLow)) : FnOk P w K mg base CX0 (2 + 1) f fd ["_law_script", "_law_most_contests", "_law_most_names"] (spOf K (cPlan)) := by
  refine def_ok F sc_l_plan ?_ ?_
  · rintro ds m PP ⟨ns, rfl, hns, hP⟩
    rfl
  · rintro cdv A outer s H E hr ds m PP ⟨ns, rfl, hns, hP⟩
    refine ⟨_, (pss_cons (ps_set (i := 3) sc_l_plan.nd rfl (by first | exact Or.inl rfl | exact Or.inr rfl) (pk_cal h_l_at hr (by decide) (pa_cons (pv 0) (pa_cons pe_int pa_nil))))
      (pss_cons (ps_set (i := 4) sc_l_plan.nd rfl (by first | exact Or.inl rfl | exact Or.inr rfl) (pk_cal h_l_names hr (by decide) (pa_cons (pk_cal h_l_at hr (by decide) (pa_cons (pv 0) (pa_cons pe_int pa_nil))) (pa_cons (pv 2) pa_nil))))
      (pss_cons (ps_set (i := 5) sc_l_plan.nd rfl (by first | exact Or.inl rfl | exact Or.inr rfl) (pe_disp (pps_cons pe_str (pe_lst pa_nil) (pps_cons pe_str (pe_lst pa_nil) (pps_cons pe_str (pe_op (pk_add T) pe_int (pe_op op_mod (pk_cal h_l_mix hr (by decide) (pa_cons (pv 3) (pa_cons pe_int pa_nil))) (pe_ix (pk_ix T) (pe_lst (pa_cons pe_int (pa_cons pe_int pa_nil))) (pe_op op_mod (pk_cal h_l_mix hr (by decide) (pa_cons (pv 3) (pa_cons pe_int pa_nil))) pe_int) (fun _ _ => rfl)))) pps_nil))) (by rfl) (by rfl) (fun z => by cases z) (by decide)))
      (pss_cons (ps_for PassesOwn.never rfl (pi_range1 (by rfl) T.b_range (pa_cons (pe_op (pk_add T) pe_int (pe_op op_mod (pk_cal h_l_mix hr (by decide) (pa_cons (pv 3) (pa_cons pe_int pa_nil))) (pv 1))) pa_nil)) (pg_name (i := 6) sc_l_plan.nd rfl (by first | exact Or.inl rfl | exact Or.inr rfl)) (pss_cons (ps_set (i := 7) sc_l_plan.nd rfl (by first | exact Or.inl rfl | exact Or.inr rfl) (pk_cal h_l_at hr (by decide) (pa_cons (pv 0) (pa_cons (pe_op (pk_add T) pe_int (pv 6)) pa_nil))))
      (pss_cons (ps_set (i := 8) sc_l_plan.nd rfl (by first | exact Or.inl rfl | exact Or.inr rfl) (pe_slice (pk_sl T) (pv 4) (po_some (pe_op op_mod (pk_cal h_l_mix hr (by decide) (pa_cons (pv 7) (pa_cons pe_int pa_nil))) (pe_op op_sub (pv 2) pe_int))) po_none))
      (pss_cons (ps_if (PW.pt (pw_or (pt_cmpR op_lt (pe_callB (pk_len T) (by rfl) T.b_len (by decide +kernel) (pa_cons (pv 8) pa_nil)) pe_int (nomark _)) (pw_or1 (pt_cmpR (pk_eq T hr.units) (pe_op op_mod (pk_cal h_l_mix hr (by decide) (pa_cons (pv 7) (pa_cons pe_int pa_nil))) pe_int) pe_int (nomark _))))) (pss_one (ps_set (i := 8) sc_l_plan.nd rfl (by first | exact Or.inl rfl | exact Or.inr rfl) (pv 4))) pss_nil)
      (pss_cons (ps_expr (pk_append T (pe_dget (by exact hu_of hr) (pv 5) pe_str (fun _ _ => rfl)) (pa_cons (pk_cal h_l_contest hr (by decide) (pa_cons (pv 7) (pa_cons (pv 8) pa_nil))) pa_nil)))
      (pss_one (ps_expr (pk_append T (pe_dget (by exact hu_of hr) (pv 5) pe_str (fun _ _ => rfl)) (pa_cons (pk_cal h_l_limit hr (by decide) (pa_cons (pv 7) pa_nil)) pa_nil)))))))))
      (pss_cons (ps_dput (by exact hu_of hr) (pv 5) pe_str (pe_cmpR (pk_eq T hr.units) (pe_op op_mod (pk_cal h_l_mix hr (by decide) (pa_cons (pv 3) (pa_cons pe_int pa_nil))) pe_int) pe_int (nomark _)) rfl)
      (pss_cons (ps_dput (by exact hu_of hr) (pv 5) pe_str (pe_op (pk_add T) pe_int (pe_op op_mod (pk_cal h_l_mix hr (by decide) (pa_cons (pv 3) (pa_cons pe_int pa_nil))) (pe_ix (pk_ix T) (pe_lst (pa_cons pe_int (pa_cons pe_int pa_nil))) (pe_op op_mod (pk_cal h_l_mix hr (by decide) (pa_cons (pv 3) (pa_cons pe_int pa_nil))) pe_int) (fun _ _ => rfl)))) rfl)
      (pss_cons (ps_dput (by exact hu_of hr) (pv 5) pe_str (pk_cal h_l_lowest hr (by decide) (pa_cons (pe_ix (pk_ix T) (pe_lst (pa_cons pe_int (pa_cons pe_int (pa_cons pe_int (pa_cons (pe_op op_mod (pk_cal h_l_mix hr (by decide) (pa_cons (pv 3) (pa_cons pe_int pa_nil))) pe_int) pa_nil))))) (pe_op op_mod (pk_cal h_l_mix hr (by decide) (pa_cons (pv 3) (pa_cons pe_int pa_nil))) pe_int) (fun _ _ => rfl)) (pa_cons pe_int pa_nil))) rfl)
      (pss_one (ps_ret (pv 5)))))))))), ?_⟩
    walk_at "sx"
    refine ⟨ns, 0, rfl, hns, by omega, ?_⟩
    generalize atF ns 0 = hd
    walk_at "sx"
    refine ⟨ns, 1, rfl, hns, by omega, ?_⟩
    walk_at "sx"
    refine ⟨_, 3, rfl, by omega, by omega, fun nms hn1 hn2 hn3 => ?_⟩
    walk_at "sx"
    refine sim_disp (simPs_cons ?_)
    walk_at "sx"
    refine sim_lstM ?_
    walk_at "sx"
    intro cl hcl
    refine simPs_cons ?_
    walk_at "sx"
    refine sim_lstM ?_
    walk_at "sx"
    intro ll hll
    refine simPs_cons ?_
    walk_at "sx"
    refine ⟨hd, 80, rfl, by omega, ?_⟩
    walk_at "sx"
    refine sim_lst ?_
    walk_at "sx"
    refine ⟨hd, 81, rfl, by omega, ?_⟩
    obtain ⟨r81, e81, h81⟩ := mix_mod hd 81 2 (by omega)
    have e81 : mixF hd 81 % 2 = (r81 : Int) := e81
    walk_at "sx"
    refine ops_modI (by decide) ?_
    rw [e81]
    obtain ⟨q, hq, hq1, hq2⟩ : ∃ q : Nat, L2.atI [D.int 6, D.int 60] (r81 : Int) = some (.int q) ∧ 1 ≤ q ∧ q ≤ 60 := by
      have r3 : r81 = 0 ∨ r81 = 1 := by omega
      rcases r3 with rfl | rfl
      · exact ⟨6, rfl, by omega, by omega⟩
      · exact ⟨60, rfl, by omega, by omega⟩
    refine ops_ixL' .val hq ?_
    obtain ⟨r80, e80, h80⟩ := mix_mod hd 80 q (by omega)
    refine ops_modI (by omega) ?_
    rw [e80]
    walk_at "sx"
    refine simPs_nil ⟨by simp, fun o ho => ?_⟩
    have ho1 : o ≠ ll := (mne mupd_same ho).symm
    have hcll : cl ≠ ll := mne mupd_same hll
    have ho2 : o ≠ cl := (mne ((mupd_ne hcll).trans mupd_same) ho).symm
    have ho3 : m o = none := by
      rw [mupd_ne ho1, mupd_ne ho2] at ho
      exact ho
    have hll3 : m ll = none := by
      rw [mupd_ne hcll.symm] at hll
      exact hll
    have em : ((1 : Int) + (r80 : Int)) = ((1 + r80 : Nat) : Int) := by omega
    rw [em]
    generalize hmany : 1 + r80 = many
    walk_at "sx"
    obtain ⟨r82, e82, h82⟩ := mix_mod hd 82 2 (by omega)
    have e82 : mixF hd 82 % 2 = (r82 : Int) := e82
    refine simS_to (B := fun ρ' m' => ∃ (cons : List Con) (lims : List Rat), ∃ z1 z2 z3, cons.length = 1 + r82 ∧ lims.length = 1 + r82 ∧ (∀ c ∈ cons, ConOk c) ∧ (∀ q ∈ lims, Bd 7 q) ∧
      ρ' = [some (.lst (ns.map D.int)), some (.int 2), some (.int 3), some (.int hd), some (.lst (nms.map D.str)), some (.ptr o), z1, z2, z3] ∧
      m' o = some (.dk [(.inr "contests", .ptr cl), (.inr "limits", .ptr ll), (.inr "many", .int many)]) ∧ m' cl = some (.lst (cons.map Con.lD)) ∧ m' ll = some (.lst (lims.map fr)) ∧ ∀ b, b ≠ o → b ≠ cl → b ≠ ll → m' b = m b) ?_ ?_
    · refine simS_forM (List.range (1 + r82)) (fun i : Nat => D.int i) (fun done ρ' m' => ∃ (cons : List Con) (lims : List Rat), ∃ z1 z2 z3, cons.length = done.length ∧ lims.length = done.length ∧ (∀ c ∈ cons, ConOk c) ∧ (∀ q ∈ lims, Bd 7 q) ∧
        ρ' = [some (.lst (ns.map D.int)), some (.int 2), some (.int 3), some (.int hd), some (.lst (nms.map D.str)), some (.ptr o), z1, z2, z3] ∧
        m' o = some (.dk [(.inr "contests", .ptr cl), (.inr "limits", .ptr ll), (.inr "many", .int many)]) ∧ m' cl = some (.lst (cons.map Con.lD)) ∧ m' ll = some (.lst (lims.map fr)) ∧ ∀ b, b ≠ o → b ≠ cl → b ≠ ll → m' b = m b) (ts := [6]) (simI_rng1 ?_)
      walk_at "sx"
      refine ⟨hd, 82, rfl, by omega, ?_⟩
      walk_at "sx"
      refine ops_modI (by decide) ?_
      rw [e82]
      have e1 : (1 : Int) + (r82 : Int) = ((1 + r82 : Nat) : Int) := by omega
      refine ops_addI ?_
      rw [e1]
      walk_at "sx"
      refine ⟨by omega, rfl, ⟨[], [], _, _, _, rfl, rfl, fun c hc => by simp at hc, fun c hc => by simp at hc, rfl, mupd_same, ?_, ?_, ?_⟩, fun _ _ _ _ => trivial, ?_, ?_⟩
      · rw [mupd_ne ho2.symm, mupd_ne hcll, mupd_same]
        rfl
      · rw [mupd_ne ho1.symm, mupd_same]
        rfl
      · intro b h1 h2 h3
        rw [mupd_ne h1, mupd_ne h3, mupd_ne h2]
      · rintro done k rest ρ' m' hsplit ⟨cons, lims, z1, z2, z3, hl1, hl2, hok, hbd, rfl, hmo, hmc, hml, hfr⟩
        obtain ⟨hk1, hk2⟩ := range_split hsplit
        walk_at "sy"
        have ek : (2 : Int) + (k : Int) = ((2 + k : Nat) : Int) := by omega
        rw [ek]
        refine ⟨ns, 2 + k, rfl, hns, by omega, ?_⟩
        generalize atF ns (2 + k) = cell
        walk_at "sy"
        refine ⟨cell, 83, rfl, by omega, ?_⟩
        obtain ⟨r83, e83, h83⟩ := mix_mod cell 83 2 (by omega)
        have e83 : mixF cell 83 % (3 - 1) = (r83 : Int) := e83
        walk_at "sy"
        refine ops_modI (by decide) ?_
        rw [e83]
        walk_at "sy"
        refine sls_L .val ?_
        rw [cutD_from (by rw [List.length_map]; omega)]
        refine simS_mid (B := fun ρ1 m1 => ∃ sm : List Str, sm.Nodup ∧ 2 ≤ sm.length ∧ sm.length ≤ 3 ∧ (∀ s ∈ sm, NmOk s) ∧ m1 = m' ∧ ρ1 = [some (.lst (ns.map D.int)), some (.int 2), some (.int 3), some (.int hd), some (.lst (nms.map D.str)), some (.ptr o), some (.int k), some (.int cell), some (.lst (sm.map D.str))]) ?_ ?_
        · refine simS_if ?_
          walk_at "sy"
          refine cs_len (.inl .val) ?_
          rw [List.length_drop, List.length_map]
          walk_at "sy"
          refine ite_n (by omega) ?_
          walk_at "sy"
          refine ⟨cell, 84, rfl, by omega, ?_⟩
          walk_at "sy"
          refine ops_modI (by decide) ?_
          walk_at "sy"
          refine ite_d (fun h => ?_) (fun h => ?_)
          · walk_at "sy"
            exact ⟨nms, hn2, by omega, by omega, hn3, rfl, rfl⟩
          · walk_at "sy"
            refine ⟨nms.drop r83, hn2.drop, by rw [List.length_drop]; omega, by rw [List.length_drop]; omega, fun s hs => hn3 s (List.mem_of_mem_drop hs), rfl, ?_⟩
            rw [← List.map_drop]
            rfl
        rintro ρ1 m1 ⟨sm, hs1, hs2, hs3, hs4, rfl, rfl⟩
        have hocl : m1 cl ≠ none := by rw [hmc]; simp
        walk_at "sy"
        refine ⟨cell, sm, rfl, hs1, hs2, hs3, hs4, fun con hcon => ?_⟩
        refine apl2 hmc (by rw [List.length_map, hl1]; omega) ?_
        have hmo2 : mupd m1 cl (.lst (cons.map Con.lD ++ [con.lD])) o = some (.dk [(.inr "contests", .ptr cl), (.inr "limits", .ptr ll), (.inr "many", .int many)]) := by
          rw [mupd_ne ho2]
          exact hmo
        have hml2 : mupd m1 cl (.lst (cons.map Con.lD ++ [con.lD])) ll = some (.lst (lims.map fr)) := by
          rw [mupd_ne hcll.symm]
          exact hml
        walk_at "sy"
        refine ⟨cell, rfl, fun q hq => ?_⟩
        refine apl2 hml2 (by rw [List.length_map, hl2]; omega) ?_
        refine ⟨cons ++ [con], lims ++ [q], _, _, _, by rw [List.length_append, List.length_append, hl1]; rfl, by rw [List.length_append, List.length_append, hl2]; rfl, ?_, ?_, rfl, ?_, ?_, ?_, ?_⟩
        · intro c hc
          rcases List.mem_append.mp hc with hc | hc
          · exact hok c hc
          · have : c = con := by simpa using hc
            rw [this]
            exact hcon
        · intro c hc
          rcases List.mem_append.mp hc with hc | hc
          · exact hbd c hc
          · have : c = q := by simpa using hc
            rw [this]
            exact hq
        · rw [mupd_ne ho1]
          exact hmo2
        · rw [mupd_ne hcll, mupd_same, List.map_append]
          rfl
        · rw [mupd_same, List.map_append]
          rfl
        · intro b h1 h2 h3
          rw [mupd_ne h3, mupd_ne h2]
          exact hfr b h1 h2 h3
      · rintro ρ' m' ⟨cons, lims, z1, z2, z3, hl1, hl2, hok, hbd, rfl, hmo, hmc, hml, hfr⟩
        rw [List.length_range] at hl1 hl2
        exact ⟨cons, lims, z1, z2, z3, hl1, hl2, hok, hbd, rfl, hmo, hmc, hml, hfr⟩
    rintro ρ' m' ⟨cons, lims, z1, z2, z3, hl1, hl2, hok, hbd, rfl, hmo, hmc, hml, hfr⟩
    walk_at "sy"
    refine ⟨hd, 85, rfl, by omega, ?_⟩
    walk_at "sy"
    refine ops_modI (by decide) ?_
    walk_at "sy"
    generalize decide (mixF hd 85 % 2 = 1) = again
    refine ⟨hd, 86, rfl, by omega, ?_⟩
    walk_at "sy"
    refine sim_lst ?_
    walk_at "sy"
    refine ⟨hd, 87, rfl, by omega, ?_⟩
    obtain ⟨r87, e87, h87⟩ := mix_mod hd 87 2 (by omega)
    have e87 : mixF hd 87 % 2 = (r87 : Int) := e87
    walk_at "sy"
    refine ops_modI (by decide) ?_
    rw [e87]
    obtain ⟨q2, hq3, hq4, hq5⟩ : ∃ q : Nat, L2.atI [D.int 6, D.int 60] (r87 : Int) = some (.int q) ∧ 1 ≤ q ∧ q ≤ 60 := by
      have r3 : r87 = 0 ∨ r87 = 1 := by omega
      rcases r3 with rfl | rfl
      · exact ⟨6, rfl, by omega, by omega⟩
      · exact ⟨60, rfl, by omega, by omega⟩
    refine ops_ixL' .val hq3 ?_
    obtain ⟨r86, e86, h86⟩ := mix_mod hd 86 q2 (by omega)
    refine ops_modI (by omega) ?_
    rw [e86]
    refine ops_addI ?_
    have em2 : ((1 : Int) + (r86 : Int)) = ((1 + r86 : Nat) : Int) := by omega
    rw [em2]
    walk_at "sy"
    refine sim_lst ?_
    walk_at "sy"
    refine ⟨hd, 61, rfl, by omega, ?_⟩
    obtain ⟨r61, e61, h61⟩ := mix_mod hd 61 101 (by omega)
    have e61 : mixF hd 61 % 101 = (r61 : Int) := e61
    walk_at "sy"
    refine ops_modI (by decide) ?_
    rw [e61]
    walk_at "sy"
    refine ⟨hd, 62, rfl, by omega, ?_⟩
    obtain ⟨r62, e62, h62⟩ := mix_mod hd 62 4 (by omega)
    have e62 : mixF hd 62 % 4 = (r62 : Int) := e62
    walk_at "sy"
    refine ops_modI (by decide) ?_
    rw [e62]
    obtain ⟨z, hz, hz1⟩ : ∃ z : Nat, L2.atI [D.int 0, D.int 100, D.int 50, D.int (r61 : Int)] (r62 : Int) = some (.int z) ∧ z ≤ 100 := by
      have r3 : r62 = 0 ∨ r62 = 1 ∨ r62 = 2 ∨ r62 = 3 := by omega
      rcases r3 with rfl | rfl | rfl | rfl
      · exact ⟨0, rfl, by omega⟩
      · exact ⟨100, rfl, by omega⟩
      · exact ⟨50, rfl, by omega⟩
      · exact ⟨r61, rfl, by omega⟩
    refine ops_ixL' .val hz ?_
    walk_at "sy"
    refine ⟨_, _, rfl, by decide, pow_up (k := 7) (by decide) (by omega), ?_⟩
    walk_at "sy"
    refine hP o cl ll cons lims ⟨many, again, (z : Int) /. 100⟩ (1 + r86) _ ⟨by show 1 ≤ many; omega, by show many ≤ 60; omega, bd_divInt (by decide) (by omega) (by decide)⟩ (by omega) (by omega) (by omega) hok hbd mupd_same ?_ ?_ hcll ho3 hcl hll3 ?_
    · rw [mupd_upd, mupd_upd, mupd_ne ho2.symm]
      exact hmc
    · rw [mupd_upd, mupd_upd, mupd_ne ho1.symm]
      exact hml
    · intro b h1 h2 h3
      rw [mupd_upd, mupd_upd, mupd_ne h1]
      exact hfr b h1 h2 h3
abbrev s_l_record : Stmt := top 79
theorem sc_l_record : FnScope ["_law_script", "_law_plan_here", "_law_ballots", "_law_k"] ["_law_script", "_law_plan_here"] (defScope s_l_record) := ⟨rfl, rfl, rfl, by decide +kernel, rfl, by decide +kernel, by decide +kernel⟩
theorem ok_l_record {f : Addr} {fd : FuncData} (F : Fun K "_law_record" "_law_record" s_l_record f fd) (T : Txt K mg a) (h_l_at : CalC P w K mg base 1 "_law_at" (cAtF)) (h_l_ballot : CalC P w K mg base 2 "_law_ballot" (cBallot)) : FnOk P w K mg base CX0 (2 + 1) f fd ["_law_script", "_law_plan_here"] (spOf K (cRecord)) := by
  refine def_ok F sc_l_record ?_ ?_
  · rintro ds m PP ⟨ns, o, cl, ll, cons, r, most, rfl, hns, ho, hcl, hro, hc2, hco, hP⟩
    rfl
  · rintro cdv A outer s H E hr ds m PP ⟨ns, o, cl, ll, cons, r, most, rfl, hns, ho, hcl, hro, hc2, hco, hP⟩
    refine ⟨_, (pss_cons (ps_set (i := 2) sc_l_record.nd rfl (by first | exact Or.inl rfl | exact Or.inr rfl) (pe_lst pa_nil))
      (pss_cons (ps_for PassesOwn.never rfl (pi_range1 (by rfl) T.b_range (pa_cons (pe_dget (by exact hu_of hr) (pv 1) pe_str (fun _ _ => rfl)) pa_nil)) (pg_name (i := 3) sc_l_record.nd rfl (by first | exact Or.inl rfl | exact Or.inr rfl)) (pss_one (ps_expr (pk_append T (pv 2) (pa_cons (pk_cal h_l_ballot hr (by decide) (pa_cons (pe_op (pk_add T) (pk_cal h_l_at hr (by decide) (pa_cons (pv 0) (pa_cons (pe_op (pk_add T) pe_int (pe_op op_mod (pv 3) pe_int)) pa_nil))) (pe_op (pk_mul T) pe_int (pv 3))) (pa_cons (pe_dget (by exact hu_of hr) (pv 1) pe_str (fun _ _ => rfl)) pa_nil))) pa_nil)))))
      (pss_one (ps_ret (pv 2))))), ?_⟩
    walk_at "sy"
    refine sim_lstM ?_
    walk_at "sy"
    intro l hl
    have hol : o ≠ l := mne ho hl
    have hcll : cl ≠ l := mne hcl hl
    have hhi := hro.hi
    refine simS_seq ?_
    refine simS_forM (List.range r.many) (fun i : Nat => D.int i) (fun done ρ' m' => ∃ rec : List (List Mark), ∃ z, rec.length = done.length ∧ (∀ b ∈ rec, BalOk cons b) ∧ ρ' = [some (.lst (ns.map D.int)), some (.ptr o), some (.ptr l), z] ∧ m' = mupd m l (.lst (rec.map fun b => .tup (b.map mkD)))) (ts := [3]) (simI_rng1 ?_)
    walk_at "sy"
    refine ⟨by omega, rfl, ⟨[], _, rfl, fun b hb => by simp at hb, rfl, rfl⟩, fun _ _ _ _ => trivial, ?_, ?_⟩
    · rintro done k rest ρ' m' hsplit ⟨rec, z, hrl, hrok, rfl, rfl⟩
      obtain ⟨hk1, hk2⟩ := range_split hsplit
      walk_at "sy"
      refine ops_modI (by decide) ?_
      have ek : (k : Int) % 57 = ((k % 57 : Nat) : Int) := by omega
      rw [ek]
      refine ops_addI ?_
      have ek2 : (6 : Int) + ((k % 57 : Nat) : Int) = ((6 + k % 57 : Nat) : Int) := by omega
      rw [ek2]
      walk_at "sy"
      refine ⟨ns, 6 + k % 57, rfl, hns, by omega, ?_⟩
      walk_at "sy"
      refine ops_mulI (cmw (k := 10) (l := 6) (by decide) (by omega) (by omega)) ?_
      walk_at "sy"
      have hmc : mupd m l (.lst (rec.map fun b => .tup (b.map mkD))) cl = some (.lst (cons.map Con.lD)) := by
        rw [mupd_ne hcll]
        exact hcl
      refine ⟨_, _, cons, rfl, .inr ⟨cl, rfl, hmc⟩, hc2, hco, fun b hb => ?_⟩
      refine apl2 mupd_same (by rw [List.length_map, hrl]; omega) ?_
      refine ⟨rec ++ [b], _, by rw [List.length_append, List.length_append, hrl]; rfl, ?_, rfl, ?_⟩
      · intro x hx
        rcases List.mem_append.mp hx with hx | hx
        · exact hrok x hx
        · have : x = b := by simpa using hx
          rw [this]
          exact hb
      · rw [mupd_upd, List.map_append]
        rfl
    · rintro ρ' m' ⟨rec, z, hrl, hrok, rfl, rfl⟩
      refine simS_ret (sim_frzL ?_)
      walk_at "sy"
      rw [mdel_upd hl]
      rw [List.length_range] at hrl
      exact hP rec hrl hrok
end
end L3

/-! text L4g -/
set_option Elab.async false
set_option linter.all false
set_option maxRecDepth 100000
set_option maxHeartbeats 4000000
set_option pp.maxSteps 1500
namespace L3
open PySem L2
open scoped Rat
local macro_rules | `(tactic| walk_at "ca") => `(tactic| first
  | exact Txt.k_Game (by assumption)
  | exact Txt.n_Game_many (by assumption)
  | exact Txt.n_Game_again (by assumption)
  | exact Txt.n_Game_highest (by assumption)
  | exact Txt.n_Game_rule (by assumption)
  | exact Txt.n_Game_drawn_values (by assumption)
  | exact Txt.n_Game_sum_so_far (by assumption)
  | exact Txt.n_Game_now (by assumption)
  | exact Txt.n_Game_most (by assumption)
  | exact Txt.n_Game_certain (by assumption)
  | exact Txt.k_Way (by assumption)
  | exact Txt.n_Way_claim (by assumption)
  | exact Txt.k_Comparing (by assumption)
  | exact Txt.n_Comparing_claim (by assumption)
  | exact Txt.n_Comparing_told (by assumption)
  | exact Txt.n_Comparing_scale (by assumption)
  | exact Txt.k_Sheet (by assumption)
  | exact Txt.n_Sheet_names (by assumption)
  | exact Txt.n_Sheet_limit (by assumption)
  | exact Txt.n_Sheet_ways (by assumption)
  | exact Txt.n_Sheet_games (by assumption)
  | exact Txt.k_Audit (by assumption)
  | exact Txt.n_Audit_sheets (by assumption)
  | exact Txt.n_Audit_many (by assumption)
  | exact Txt.n_Audit_again (by assumption)
  | exact Txt.n_Audit_most (by assumption)
  | exact Txt.n_Audit_numbers (by assumption)
  | exact Txt.k_Beats (by assumption)
  | exact Txt.n_Beats_one (by assumption)
  | exact Txt.n_Beats_other (by assumption)
  | exact Txt.k_Over (by assumption)
  | exact Txt.n_Over_name (by assumption)
  | exact Txt.n_Over_share (by assumption)
  | exact Txt.k_Under (by assumption)
  | exact Txt.n_Under_name (by assumption)
  | exact Txt.n_Under_share (by assumption)
  | exact Txt.k_Contest (by assumption)
  | exact Txt.n_Contest_names (by assumption)
  | exact Txt.k_Most (by assumption)
  | exact Txt.n_Most_names (by assumption)
  | exact Txt.n_Most_seats (by assumption)
  | exact Txt.k_Portion (by assumption)
  | exact Txt.n_Portion_names (by assumption)
  | exact Txt.n_Portion_share (by assumption)
  | exact Txt.k_Fixed (by assumption)
  | exact Txt.n_Fixed_part (by assumption))
local macro_rules | `(tactic| walk_at "ne") => `(tactic| first
  | assumption
  | (refine Ne.symm ?_; assumption)
  | exact mne (by assumption) (by assumption)
  | exact (mne (by assumption) (by assumption)).symm)
local macro_rules | `(tactic| walk_at "mm") => `(tactic| first
  | assumption
  | exact mupd_same
  | (refine (mupd_ne ?_).trans ?_; (walk_at "ne"); (walk_at "mm")))
local macro_rules | `(tactic| walk_at "s0") => `(tactic| first
  | with_reducible refine simS_seq ?_
  | with_reducible refine simS_ret ?_
  | with_reducible refine simS_retN ?_
  | with_reducible refine simS_set ?_
  | with_reducible refine simS_drop ?_
  | with_reducible refine simS_next ?_
  | with_reducible refine simS_fld ?_
  | with_reducible refine simS_dput ?_
  | with_reducible refine simT_test ?_
  | with_reducible refine simT_B ?_
  | with_reducible refine simT_not ?_
  | with_reducible refine simT_and ?_
  | with_reducible refine simT_or ?_
  | focus ((with_reducible refine sim_var (d := ?_) ?_ ?_); rotate_left 1; exact rfl)
  | with_reducible refine sim_int ?_
  | with_reducible refine sim_bl ?_
  | with_reducible refine sim_str ?_
  | with_reducible refine sim_non ?_
  | with_reducible refine sim_ty ?_
  | with_reducible refine sim_c (Txt.t_NOUGHT_games (by assumption)) ?_
  | with_reducible refine sim_c (Txt.t_ONE_games (by assumption)) ?_
  | with_reducible refine sim_c (Txt.t_ONE_ways (by assumption)) ?_
  | with_reducible refine sim_c (Txt.t_TWO (by assumption)) ?_
  | with_reducible refine sim_c (Txt.t_NOUGHT_claims (by assumption)) ?_
  | with_reducible refine sim_c (Txt.t_HALF (by assumption)) ?_
  | with_reducible refine sim_c (Txt.t_ONE_claims (by assumption)) ?_
  | with_reducible refine sim_ref ?_
  | with_reducible refine sim_op ?_
  | with_reducible refine sim_un ?_
  | with_reducible refine sim_andV ?_
  | with_reducible refine sim_orV ?_
  | with_reducible refine sim_notV ?_
  | with_reducible refine sim_chain ?_
  | with_reducible refine sim_tup ?_
  | with_reducible refine sim_call ?_
  | with_reducible refine sim_callB ?_
  | with_reducible refine sim_fldU ?_
  | with_reducible refine sim_append ?_
  | focus ((with_reducible refine apl (ds := ?_) ?_ ?_); rotate_left 1; walk_at "mm")
  | with_reducible refine sim_methU ?_
  | with_reducible refine sim_cfn ?_
  | with_reducible refine sim_dget ?_
  | with_reducible refine sim_sl ?_
  | with_reducible refine simO_none ?_
  | with_reducible refine simO_some ?_
  | with_reducible refine simA_cons ?_
  | with_reducible refine simA_nil ?_
  | with_reducible refine simG_name ?_
  | with_reducible refine simG_pair ?_
  | with_reducible refine ops_addI ?_
  | with_reducible refine uns_I (g := fun i => -i) ?_
  | with_reducible refine simG_triple ?_
  | with_reducible refine ops_subI ?_
  | with_reducible refine ops_lt ?_
  | with_reducible refine ops_le ?_
  | with_reducible refine ops_gt ?_
  | with_reducible refine ops_ge ?_
  | with_reducible refine ops_eqI ?_
  | with_reducible refine ops_neI ?_
  | with_reducible refine ops_eqSt ?_
  | with_reducible refine ops_eqNS ?_
  | with_reducible refine eq_mk ?_
  | with_reducible refine eq_bl ?_
  | with_reducible refine ops_isN ?_
  | with_reducible refine ops_notN ?_
  | with_reducible refine cs_abs ?_
  | focus ((with_reducible refine cs_isi2 (t := ?_) (b := ?_) ?_ ?_ ?_ ?_); rotate_left 2; exact rfl; exact rfl; exact rfl)
  | with_reducible refine cs_max2 ?_
  | with_reducible refine cs_min2 ?_
  | focus ((with_reducible refine ops_ixT' (d := ?_) ?_ ?_); rotate_left 1; exact rfl)
  | focus ((with_reducible refine fld_o (d := ?_) ?_ ?_ ?_ ?_); rotate_left 1; walk_at "ca"; walk_at "ca"; exact rfl)
  | focus ((with_reducible refine fld_p (C := ?_) (fs := ?_) (d := ?_) ?_ ?_ ?_ ?_ ?_); rotate_left 3; walk_at "mm"; walk_at "ca"; walk_at "ca"; exact rfl)
  | focus ((with_reducible refine And.intro (?_ : Mth _ _ _ _) ?_); exact mth_o (by rfl))
  | focus ((with_reducible refine ⟨mth_p (fs := ?_) ?_ ?_, ?_⟩); rotate_left 1; walk_at "mm"; exact rfl)
  | focus ((with_reducible refine setf (C := ?_) (fs := ?_) ?_ ?_ ?_ ?_ ?_); rotate_left 2; walk_at "mm"; walk_at "ca"; walk_at "ca"; exact of_decide_eq_true rfl)
  | focus ((with_reducible refine dgt (kvs := ?_) (k := ?_) (d := ?_) ?_ ?_ ?_ ?_); rotate_left 3; walk_at "mm"; exact rfl; exact rfl)
  | focus ((with_reducible refine dpt (kvs := ?_) (k := ?_) ?_ ?_ ?_ ?_); rotate_left 2; walk_at "mm"; exact rfl; exact of_decide_eq_true rfl)
  | (with_reducible refine ⟨_, rfl, ?_⟩)
  | (with_reducible refine ⟨rfl, ?_⟩)
  | focus ((with_reducible refine ⟨Nat.le_of_ble_eq_true ?_, ?_⟩); exact rfl)
  | with_reducible refine ite_T ?_
  | with_reducible refine ite_nF ?_
  | with_reducible refine ite_nT ?_
  | with_reducible refine ite_F ?_)
local macro_rules | `(tactic| walk_at "s1") => `(tactic| first
  | walk_at "s0"
  | with_reducible refine simS_if ?_)
local macro_rules | `(tactic| walk_at "sx") => `(tactic| repeat walk_at "s1")
local macro_rules | `(tactic| walk_at "sy") => `(tactic| repeat walk_at "s0")

section
variable {P : Program} {w : World} {K : PySem.W.Frag} {mg : Str → Option Value} {base : Heap} {a : Adr}

/-! L4g: the outcomes told. -/
def Told (rec : List (List Mark)) (con : Con) (out : List Str) (i : Nat) : Prop := con.Ok out ∧ ∀ c ∈ con.claims out, c.holds (rec.map fun b => b.getD i none)
theorem sum_const {c : Claim} {v : Rat} : ∀ {mks : List Mark}, (∀ mk ∈ mks, c.val mk = v) → c.sum mks = (mks.length : Rat) * v
  | [], _ => by
    have e : c.sum [] = 0 := rfl
    rw [e]
    simp
  | mk :: mks, h => by
    rw [Claim.sum_cons, h mk (by simp), sum_const fun x hx => h x (by simp [hx]), List.length_cons, Rat.natCast_add]
    have e : ((1 : Nat) : Rat) = 1 := rfl
    rw [e]
    grind
theorem holds_all {c : Con} {n0 : Str} (hk : ConOk c) (hn : n0 ∈ c.names) {mks : List Mark} (hm : ∀ mk ∈ mks, mk = some n0) (hl : 0 < mks.length) : ∀ x ∈ c.claims [n0], x.holds mks := by
  have hp := rat_nat_pos hl
  obtain ⟨hq1, hq2⟩ := hk.nq n0 hn
  have key : ∀ (x : Claim) (v : Rat), 1/2 < v → x.val (some n0) = v → x.holds mks := fun x v hv hx => by
    unfold Claim.holds
    rw [sum_const (v := v) fun mk h => by rw [hm mk h]; exact hx]
    have : (mks.length : Rat) * (1/2) < (mks.length : Rat) * v := Rat.mul_lt_mul_of_pos_left hv hp
    grind
  have e1 : ¬ (some n0 = some ("?" : Str)) := fun e => hq2 (Option.some.inj e)
  have e2 : ¬ (some n0 = some ("" : Str)) := fun e => hq1 (Option.some.inj e)
  cases c with
  | most ns k =>
    intro x hx
    simp only [Con.claims, List.flatMap_cons, List.flatMap_nil, List.append_nil, List.mem_map] at hx
    obtain ⟨o, _, rfl⟩ := hx
    refine key _ 1 (by decide +kernel) ?_
    simp only [Claim.val, Claim.val0]
    rw [if_neg e1, if_pos trivial]
  | portion ns s =>
    intro x hx
    have hx : x = .over n0 s := by simpa [Con.claims] using hx
    subst hx
    have hs := hk.sh ns s rfl
    have h1 := hs.lo
    have h2 := hs.hi
    have h3 : (1/2 : Rat) < (1/2) / s := by
      rw [Rat.lt_div_iff (by grind)]
      grind
    refine key _ ((1/2) / s) h3 ?_
    simp only [Claim.val, Claim.val0]
    rw [if_neg e1, if_neg (not_or.mpr ⟨by simp, e2⟩), if_pos trivial]
def Con.one : Con → Con
  | .most ns _ => .most ns 1
  | .portion ns s => .portion ns s
theorem one_names (c : Con) : c.one.names = c.names := by cases c <;> rfl
theorem one_ok {c : Con} (h : ConOk c) : ConOk c.one := by
  cases c with
  | most ns k => exact ⟨h.nd, h.lo, h.hi, h.str, h.nq, fun _ _ q => by cases q⟩
  | portion ns s => exact h
theorem con_ok {c : Con} {out : List Str} (h : ConOk c) (h1 : ∀ ns k, c = .most ns k → k = 1) (ho : OutOk c out) : c.Ok out := by
  refine ⟨h.nd, h.lo, h.hi, ?_⟩
  cases c with
  | most ns k => exact ⟨h1 ns k rfl, ho⟩
  | portion ns s => exact ⟨h.sh ns s rfl, ho⟩
theorem one_one (c : Con) : ∀ ns k, c.one = .most ns k → k = 1 := by
  intro ns k h
  cases c with
  | most ns' k' =>
    have := Con.most.inj h
    omega
  | portion ns' s => cases h
theorem bal_set {cons : List Con} {b : List Mark} {k : Nat} {n0 : Str} {con : Con} (h : BalOk cons b) (hk : cons[k]? = some con) (hn : n0 ∈ con.names) : BalOk cons (b.set k (some n0)) := by
  refine ⟨by rw [List.length_set]; exact h.1, fun p hp => ?_⟩
  obtain ⟨i, hi, e⟩ := List.getElem_of_mem hp
  rw [List.getElem_zip] at e
  have hl := h.1
  have hi2 : i < cons.length := by
    rw [List.length_zip, List.length_set] at hi
    omega
  by_cases hik : k = i
  · subst hik
    rw [List.getElem_set_self] at e
    have e3 : cons[k] = con := by
      have := List.getElem?_eq_getElem hi2
      rw [hk] at this
      exact (Option.some.inj this).symm
    rw [e3] at e
    rw [← e]
    exact .inr (.inr ⟨n0, hn, rfl⟩)
  · rw [List.getElem_set_ne hik] at e
    have : p ∈ b.zip cons := by
      rw [← e]
      have hz : (b.zip cons)[i]? = some (b[i]'(by omega), cons[i]) := by
        rw [List.getElem?_eq_getElem (by rw [List.length_zip]; omega), List.getElem_zip]
      exact List.mem_of_getElem? hz
    exact h.2 p this
theorem bal_one {cons : List Con} {b : List Mark} {k : Nat} {con : Con} (h : BalOk cons b) (hk : cons[k]? = some con) : BalOk (cons.set k con.one) b := by
  refine ⟨by rw [List.length_set]; exact h.1, fun p hp => ?_⟩
  obtain ⟨i, hi, e⟩ := List.getElem_of_mem hp
  rw [List.getElem_zip] at e
  have hl := h.1
  have hi2 : i < cons.length := by
    rw [List.length_zip, List.length_set] at hi
    omega
  have hz : (b.zip cons)[i]? = some (b[i]'(by omega), cons[i]) := by
    rw [List.getElem?_eq_getElem (by rw [List.length_zip]; omega), List.getElem_zip]
  have hq := h.2 _ (List.mem_of_getElem? hz)
  by_cases hik : k = i
  · subst hik
    rw [List.getElem_set_self] at e
    have e3 : cons[k] = con := by
      have := List.getElem?_eq_getElem hi2
      rw [hk] at this
      exact (Option.some.inj this).symm
    rw [e3] at hq
    rw [← e]
    unfold MkIn at hq ⊢
    rw [one_names]
    exact hq
  · rw [List.getElem_set_ne hik] at e
    rw [← e]
    exact hq
theorem set_same {α : Type} {xs : List α} {k : Nat} {x : α} (h : xs[k]? = some x) : xs.set k x = xs := by
  obtain ⟨h1, h2⟩ := List.getElem?_eq_some_iff.mp h
  rw [← h2, List.set_getElem_self]
theorem ixN_n {n j : Nat} (hj : j < n) : ixN n (j : Int) = some j := by
  unfold ixN
  rw [if_pos (by omega), if_pos (by omega)]
  simp
theorem cut_set {b : List Mark} {k : Nat} {mk : Mark} (h : k < b.length) : b.take k ++ [mk] ++ b.drop (k + 1) = b.set k mk := by
  rw [List.set_eq_take_append_cons_drop, if_pos h, List.append_assoc]
  rfl
theorem cutD_to {ds : List D} {j : Nat} : cutD ds none (some (j : Int)) = ds.take j := by
  unfold cutD
  rw [HT.sIx_nat, HT.sIx_none, List.drop_zero, Nat.sub_zero]
  by_cases h : j ≤ ds.length
  · rw [Nat.min_eq_left h]
  · rw [Nat.min_eq_right (by omega), List.take_length, List.take_of_length_le (by omega)]
abbrev plk1 (cl ll ol : Addr) (r : Rl) (most : Nat) : List (Key × D) := [(.inr "contests", .ptr cl), (.inr "limits", .ptr ll), (.inr "many", .int r.many), (.inr "again", .bl r.again), (.inr "most", .int most), (.inr "rule", fr r.stake), (.inr "outcomes", .ptr ol)]
abbrev recL (rec : List (List Mark)) : D := .lst (rec.map fun b => .tup (b.map mkD))
def cTold : Ctr := fun ds m P => ∃ (o cl ll : Addr) (cons : List Con) (r : Rl) (most : Nat) (rec : List (List Mark)), ds = [.ptr o, recL rec] ∧ m o = some (.dk (plk0 cl ll r most)) ∧ m cl = some (.lst (cons.map Con.lD)) ∧ cons.length ≤ 2 ∧ (∀ c ∈ cons, ConOk c) ∧ 0 < rec.length ∧ rec.length ≤ 60 ∧ (∀ b ∈ rec, BalOk cons b) ∧
  ∀ (ol : Addr) (cons' : List Con) (outs : List (List Str)) (rec' : List (List Mark)) (m' : Mem), cons'.length = cons.length → outs.length = cons.length → rec'.length = rec.length → (∀ c ∈ cons', ConOk c) → (∀ b ∈ rec', BalOk cons' b) → (∀ i con out, cons'[i]? = some con → outs[i]? = some out → Told rec' con out i) →
    m' o = some (.dk (plk1 cl ll ol r most)) → m' cl = some (.lst (cons'.map Con.lD)) → m' ol = some (.lst (outs.map strsD)) → m ol = none → (∀ b, b ≠ o → b ≠ cl → b ≠ ol → m' b = m b) → P (recL rec') m'
def claimP : Claim → PyData
  | .beats o t => .tuple [.str "beats", .str o, .str t]
  | .over n s => .tuple [.str "over", .str n, frP s]
  | .under n s => .tuple [.str "under", .str n, frP s]
theorem lay_claim {co : Con} {out : List Str} (hk : ConOk co) (ho : OutOk co out) : ∀ c ∈ co.claims out, Lay 63 c.lD (claimP c) := by
  cases co with
  | most ns k =>
    obtain ⟨n, hn, rfl⟩ := ho
    intro c hc
    simp only [Con.claims, List.flatMap_cons, List.flatMap_nil, List.append_nil, List.mem_map, List.mem_filter] at hc
    obtain ⟨o, ⟨ho, _⟩, rfl⟩ := hc
    exact lay_tup (n := 62) (lays_cons (lay_str (by decide +kernel)) (lays_cons (lay_str (hk.str n hn)) (lays_cons (lay_str (hk.str o ho)) lays_nil)))
  | portion ns s =>
    intro c hc
    rcases ho with rfl | ⟨n, hn, rfl⟩
    · simp only [Con.claims, List.mem_map] at hc
      obtain ⟨n, hn, rfl⟩ := hc
      exact lay_tup (n := 62) (lays_cons (lay_str (by decide +kernel)) (lays_cons (lay_str (hk.str n hn)) (lays_cons lay_fr lays_nil)))
    · have hc : c = .over n s := by simpa [Con.claims] using hc
      subst hc
      exact lay_tup (n := 62) (lays_cons (lay_str (by decide +kernel)) (lays_cons (lay_str (hk.str n hn)) (lays_cons lay_fr lays_nil)))
/-- the record with all marks of one contest put to its first name -/
theorem sim_put {ρ : DEnv} {m : Mem} {PQ : Post} {rec2 : List (List Mark)} {k : Nat} {names : List Str} {n0 : Str} (h1 : ρ[1]? = some (some (recL rec2))) (h2 : ρ[2]? = some (some (.int (k : Nat)))) (h4 : ρ[4]? = some (some (strsD names))) (h7 : 7 < ρ.length) (hn0 : names[0]? = some n0)
    (hlen : ∀ b ∈ rec2, k < b.length ∧ b.length ≤ 2) (hl : rec2.length ≤ 60) (p : PQ (recL (rec2.map fun b => b.set k (some n0))) m) :
    Sim K (tLc (iSeq K (tVar 1)) (gName 7) tYes (tOp (rAddU K) (tOp (rAddU K) (tSl (rSlU K) (tVar 7) tNoPart (tPart (tVar 2))) (tTup (tCons (tOp (rIx K) (tVar 4) (tC (V.int 0))) tNil))) (tSl (rSlU K) (tVar 7) (tPart (tOp (rAddU K) (tVar 2) (tC (V.int 1)))) tNoPart)) [7]) ρ m PQ := by
  refine sim_lcM rec2 (fun b => .tup (b.map mkD)) (fun b => .tup ((b.set k (some n0)).map mkD)) (ts := [7]) (by decide) (simI_seq ?_)
  refine sim_var h1 ?_
  refine ⟨_, .inl .val, rfl, by omega, .inl .val, fun b hb => ?_, ?_⟩
  · obtain ⟨hk, hb2⟩ := hlen b hb
    refine simG_name ⟨rfl, ?_⟩
    have g7 : ((wipeD ρ [7]).set 7 (some (D.tup (b.map mkD))))[7]? = some (some (.tup (b.map mkD))) := List.getElem?_set_self (by show 7 < (ρ.set 7 none).length; rw [List.length_set]; exact h7)
    have g2 : ((wipeD ρ [7]).set 7 (some (D.tup (b.map mkD))))[2]? = some (some (.int (k : Nat))) := by
      rw [List.getElem?_set_ne (by decide)]
      exact (List.getElem?_set_ne (by decide)).trans h2
    have g4 : ((wipeD ρ [7]).set 7 (some (D.tup (b.map mkD))))[4]? = some (some (strsD names)) := by
      rw [List.getElem?_set_ne (by decide)]
      exact (List.getElem?_set_ne (by decide)).trans h4
    refine sim_op (sim_op (sim_sl (sim_var g7 (simO_none (simO_some (sim_var g2 ⟨_, rfl, ?_⟩))))))
    refine sls_T ?_
    rw [cutD_to]
    refine sim_tup (simA_cons (sim_op (sim_var g4 (sim_int ?_))))
    refine ops_ixT' (atI_nat (j := 0) (v := .str n0) (by rw [List.getElem?_map, hn0]; rfl)) (simA_nil ⟨by simp, ?_⟩)
    refine ops_addT (by rw [List.length_take, List.length_map]; simp; omega) ?_
    refine sim_sl (sim_var g7 (simO_some (sim_op (sim_var g2 (sim_int (ops_addI ⟨_, rfl, simO_none ?_⟩))))))
    have e : (k : Int) + 1 = ((k + 1 : Nat) : Int) := by omega
    rw [e]
    refine sls_T ?_
    rw [cutD_from (by rw [List.length_map]; omega)]
    refine ops_addT (by simp only [List.length_append, List.length_take, List.length_drop, List.length_map, List.length_singleton]; omega) ⟨rfl, ?_⟩
    rw [← cut_set hk, List.map_append, List.map_append, List.map_take, List.map_drop]
    rfl
  · have e : (rec2.map fun b => D.tup ((b.set k (some n0)).map mkD)) = (rec2.map fun b => b.set k (some n0)).map fun b => .tup (b.map mkD) := by rw [List.map_map]; rfl
    rw [e]
    exact p
abbrev s_l_told : Stmt := top 86
theorem sc_l_told : FnScope ["_law_plan_here", "_law_record_here", "_law_k", "_law_kind", "_law_names_here", "_law_part", "_law_marks", "_law_ballot_here", "_law_outcome_here", "_law_claims_here", "_law_claim"] ["_law_plan_here", "_law_record_here"] (defScope s_l_told) := ⟨rfl, rfl, rfl, by decide +kernel, rfl, by decide +kernel, by decide +kernel⟩
theorem ok_l_told {f : Addr} {fd : FuncData} (F : Fun K "_law_told" "_law_told" s_l_told f fd) (T : Txt K mg a) (h_l_outcome : CalC P w K mg base 2 "_law_outcome" (cLOutcome)) (h_l_claims : CalC P w K mg base 1 "_law_claims" (cLClaims)) (h_l_is_so : CalC P w K mg base 5 "_law_is_so" (cLIsSo)) : FnOk P w K mg base CX0 (5 + 1) f fd ["_law_plan_here", "_law_record_here"] (spOf K (cTold)) := by
  refine def_ok F sc_l_told ?_ ?_
  · rintro ds m PP ⟨o, cl, ll, cons, r, most, rec, rfl, ho, hcl, hc2, hco, h0, h60, hbal, hP⟩
    rfl
  · rintro cdv A outer s H E hr ds m PP ⟨o, cl, ll, cons, r, most, rec, rfl, ho, hcl, hc2, hco, h0, h60, hbal, hP⟩
    refine ⟨_, (pss_cons (ps_dput (by exact hu_of hr) (pv 0) pe_str (pe_lst pa_nil) rfl)
      (pss_cons (ps_for PassesOwn.never rfl (pi_range1 (by rfl) T.b_range (pa_cons (pe_callB (pk_len T) (by rfl) T.b_len (by decide +kernel) (pa_cons (pe_dget (by exact hu_of hr) (pv 0) pe_str (fun _ _ => rfl)) pa_nil)) pa_nil)) (pg_name (i := 2) sc_l_told.nd rfl (by first | exact Or.inl rfl | exact Or.inr rfl)) (pss_cons (ps_asg (pe_ix (pk_ix T) (pe_dget (by exact hu_of hr) (pv 0) pe_str (fun _ _ => rfl)) (pv 2) (fun _ _ => rfl)) (pk_gtup T (n := 3) rfl (pgs_cons (pg_name (i := 3) sc_l_told.nd rfl (by first | exact Or.inl rfl | exact Or.inr rfl)) (pgs_cons (pg_name (i := 4) sc_l_told.nd rfl (by first | exact Or.inl rfl | exact Or.inr rfl)) (pgs_cons (pg_name (i := 5) sc_l_told.nd rfl (by first | exact Or.inl rfl | exact Or.inr rfl)) pgs_nil)))))
      (pss_cons (ps_if (pt_cmpR (pk_eq T hr.units) (pv 3) pe_str (nomark _)) (pss_one (ps_asg (pe_tup (pa_cons (pv 3) (pa_cons (pv 4) (pa_cons pe_int pa_nil)))) (pg_sub (pe_dget (by exact hu_of hr) (pv 0) pe_str (fun _ _ => rfl)) (pv 2) set_list))) pss_nil)
      (pss_cons (ps_setLc (i := 6) (own := [("_law_ballot_here", 7)]) (g := (gName 7)) (tt := tYes) (by rfl) sc_l_told.nd rfl rfl (sw_true rfl rfl rfl (by decide +kernel)) (pk_seq T (pv 1)) (blkOk_by (by kernel_rfl)) (fun _ _ _ _ _ => by exact (pg_name (i := 7) sc_l_told.nd rfl (by first | exact Or.inl rfl | exact Or.inr rfl))) (fun _ _ _ _ _ => by exact pts_nil) (fun _ _ _ _ _ => by exact (pe_ix (pk_ix T) (pv 7) (pv 2) (fun _ _ => rfl))))
      (pss_cons (ps_set (i := 8) sc_l_told.nd rfl (by first | exact Or.inl rfl | exact Or.inr rfl) (pk_cal h_l_outcome hr (by decide) (pa_cons (pe_ix (pk_ix T) (pe_dget (by exact hu_of hr) (pv 0) pe_str (fun _ _ => rfl)) (pv 2) (fun _ _ => rfl)) (pa_cons (pv 6) pa_nil))))
      (pss_cons (ps_if (pt_cmpR op_isN (pv 8) pe_non (nomark _)) (pss_cons (ps_set (i := 1) sc_l_told.nd rfl (by first | exact Or.inl rfl | exact Or.inr rfl) (pe_lc (own := [("_law_ballot_here", 7)]) (g := (gName 7)) (tt := tYes) (by rfl) sc_l_told.nd (pk_seq T (pv 1)) (blkOk_by (by kernel_rfl)) (fun _ _ _ _ _ => by exact (pg_name (i := 7) sc_l_told.nd rfl (by first | exact Or.inl rfl | exact Or.inr rfl))) (fun _ _ _ _ _ => by exact pts_nil) (fun _ _ _ _ _ => by exact (pe_op (pk_add T) (pe_op (pk_add T) (pe_slice (pk_sl T) (pv 7) po_none (po_some (pv 2))) (pe_tup (pa_cons (pe_ix (pk_ix T) (pv 4) pe_int (fun _ _ => rfl)) pa_nil))) (pe_slice (pk_sl T) (pv 7) (po_some (pe_op (pk_add T) (pv 2) pe_int)) po_none)))))
      (pss_one (ps_set (i := 8) sc_l_told.nd rfl (by first | exact Or.inl rfl | exact Or.inr rfl) (pe_slice (pk_sl T) (pv 4) po_none (po_some pe_int))))) pss_nil)
      (pss_cons (ps_set (i := 9) sc_l_told.nd rfl (by first | exact Or.inl rfl | exact Or.inr rfl) (pk_cal h_l_claims hr (by decide) (pa_cons (pe_ix (pk_ix T) (pe_dget (by exact hu_of hr) (pv 0) pe_str (fun _ _ => rfl)) (pv 2) (fun _ _ => rfl)) (pa_cons (pv 8) pa_nil))))
      (pss_cons (ps_if (pt_cmpR (pk_ne T hr.units) (pe_lc (own := [("_law_claim", 10)]) (g := (gName 10)) (by rfl) sc_l_told.nd (pk_seq T (pv 9)) (blkOk_by (by kernel_rfl)) (fun _ _ _ _ _ => by exact (pg_name (i := 10) sc_l_told.nd rfl (by first | exact Or.inl rfl | exact Or.inr rfl))) (fun _ _ _ _ _ => by exact (pts_one (pt_not (pt_val (pk_cal h_l_is_so hr (by decide) (pa_cons (pv 10) (pa_cons (pe_lc (own := [("_law_ballot_here", 7)]) (g := (gName 7)) (tt := tYes) (by rfl) sc_l_told.nd (pk_seq T (pv 1)) (blkOk_by (by kernel_rfl)) (fun _ _ _ _ _ => by exact (pg_name (i := 7) sc_l_told.nd rfl (by first | exact Or.inl rfl | exact Or.inr rfl))) (fun _ _ _ _ _ => by exact pts_nil) (fun _ _ _ _ _ => by exact (pe_ix (pk_ix T) (pv 7) (pv 2) (fun _ _ => rfl)))) pa_nil))))))) (fun _ _ _ _ _ => by exact (pv 10))) (pe_lst pa_nil) (nomark _)) (pss_cons (ps_set (i := 1) sc_l_told.nd rfl (by first | exact Or.inl rfl | exact Or.inr rfl) (pe_lc (own := [("_law_ballot_here", 7)]) (g := (gName 7)) (tt := tYes) (by rfl) sc_l_told.nd (pk_seq T (pv 1)) (blkOk_by (by kernel_rfl)) (fun _ _ _ _ _ => by exact (pg_name (i := 7) sc_l_told.nd rfl (by first | exact Or.inl rfl | exact Or.inr rfl))) (fun _ _ _ _ _ => by exact pts_nil) (fun _ _ _ _ _ => by exact (pe_op (pk_add T) (pe_op (pk_add T) (pe_slice (pk_sl T) (pv 7) po_none (po_some (pv 2))) (pe_tup (pa_cons (pe_ix (pk_ix T) (pv 4) pe_int (fun _ _ => rfl)) pa_nil))) (pe_slice (pk_sl T) (pv 7) (po_some (pe_op (pk_add T) (pv 2) pe_int)) po_none)))))
      (pss_one (ps_set (i := 8) sc_l_told.nd rfl (by first | exact Or.inl rfl | exact Or.inr rfl) (pe_slice (pk_sl T) (pv 4) po_none (po_some pe_int))))) pss_nil)
      (pss_one (ps_expr (pk_append T (pe_dget (by exact hu_of hr) (pv 0) pe_str (fun _ _ => rfl)) (pa_cons (pv 8) pa_nil))))))))))))
      (pss_one (ps_ret (pv 1))))), ?_⟩
    walk_at "sy"
    refine sim_lstM ?_
    walk_at "sy"
    intro ol hol
    have h1 : o ≠ ol := mne ho hol
    have h2 : cl ≠ ol := mne hcl hol
    have h3 : o ≠ cl := fun e => by
      rw [e, hcl] at ho
      cases ho
    walk_at "sy"
    refine simS_forM (List.range cons.length) (fun i : Nat => D.int i) (fun done ρ' m' => ∃ (cons' : List Con) (outs : List (List Str)) (rec' : List (List Mark)), ∃ z2 z3 z4 z5 z6 z7 z8 z9 z10, cons'.length = cons.length ∧ outs.length = done.length ∧ rec'.length = rec.length ∧ (∀ c ∈ cons', ConOk c) ∧ (∀ b ∈ rec', BalOk cons' b) ∧
      (∀ i con out, i < done.length → cons'[i]? = some con → outs[i]? = some out → Told rec' con out i) ∧ ρ' = [some (.ptr o), some (recL rec'), z2, z3, z4, z5, z6, z7, z8, z9, z10] ∧
      m' o = some (.dk (plk1 cl ll ol r most)) ∧ m' cl = some (.lst (cons'.map Con.lD)) ∧ m' ol = some (.lst (outs.map strsD)) ∧ ∀ b, b ≠ o → b ≠ cl → b ≠ ol → m' b = m b) (ts := [2]) (simI_rng1 ?_)
    walk_at "sy"
    refine cs_len (.inl (.mut (by rw [mupd_ne h3.symm, mupd_ne h2]; exact hcl))) ?_
    rw [List.length_map]
    walk_at "sy"
    refine ⟨by omega, rfl, ⟨cons, [], rec, _, _, _, _, _, _, _, _, _, rfl, rfl, rfl, hco, hbal, fun i _ _ hi => by simp at hi, rfl, mupd_same, ?_, ?_, ?_⟩, fun _ _ _ _ => trivial, ?_, ?_⟩
    · rw [mupd_ne h3.symm, mupd_ne h2]
      exact hcl
    · rw [mupd_ne h1.symm, mupd_same]
      rfl
    · intro b q1 q2 q3
      rw [mupd_ne q1, mupd_ne q3]
    · rintro done k rest ρ' m' hsplit ⟨cons', outs, rec', z2, z3, z4, z5, z6, z7, z8, z9, z10, hl1, hl2, hl3, hok, hbl, htold, rfl, hmo, hmc, hml, hfr⟩
      obtain ⟨hk1, hk2⟩ := range_split hsplit
      obtain ⟨con, hcon⟩ : ∃ con, cons'[k]? = some con := ⟨cons'[k], List.getElem?_eq_getElem (by omega)⟩
      have hcok := hok con (List.mem_of_getElem? hcon)
      obtain ⟨kd, pt, hkd⟩ : ∃ kd pt, con.lD = .tup [.str kd, strsD con.names, pt] ∧ (if kd = ("most" : Str) then D.tup [.str kd, strsD con.names, .int 1] else con.lD) = con.one.lD := by
        cases con with
        | most ns n => exact ⟨_, _, rfl, by rw [if_pos rfl]; rfl⟩
        | portion ns s => exact ⟨"over", _, rfl, by rw [if_neg (by decide)]; rfl⟩
      obtain ⟨hkd, hkd1⟩ := hkd
      walk_at "sy"
      refine simS_asg (ts := [3, 4, 5]) ?_
      walk_at "sy"
      refine ops_ixL' (.mut hmc) (atI_nat (v := con.lD) (by rw [List.getElem?_map, hcon]; rfl)) ?_
      rw [hkd]
      walk_at "sy"
      refine simS_ifJ (B := fun ρ1 m1 => ρ1 = [some (.ptr o), some (recL rec'), some (.int k), some (.str kd), some (strsD con.names), some pt, z6, z7, z8, z9, z10] ∧ m1 o = some (.dk (plk1 cl ll ol r most)) ∧ m1 cl = some (.lst ((cons'.set k con.one).map Con.lD)) ∧ m1 ol = some (.lst (outs.map strsD)) ∧ ∀ b, b ≠ o → b ≠ cl → b ≠ ol → m1 b = m b) ?_ ?_
      · walk_at "sy"
        refine ite_d (fun h => ?_) (fun h => ?_)
        · subst h
          rw [if_pos rfl] at hkd1
          refine simS_asg (ts := []) ?_
          walk_at "sy"
          refine simG_sub ?_
          walk_at "sy"
          refine ⟨cl, _, k, k, rfl, rfl, hmc, ixN_n (by rw [List.length_map]; omega), rfl, ?_, ?_, ?_, ?_⟩
          · rw [mupd_ne h3]
            exact hmo
          · rw [mupd_same, List.map_set, ← hkd1]
          · rw [mupd_ne h2.symm]
            exact hml
          · intro b q1 q2 q3
            rw [mupd_ne q2]
            exact hfr b q1 q2 q3
        · rw [if_neg h] at hkd1
          walk_at "sy"
          refine ⟨hmo, ?_, hml, hfr⟩
          rw [hmc, List.map_set, ← hkd1, set_same (by rw [List.getElem?_map, hcon]; rfl)]
      rintro ρ1 m1 ⟨rfl, hmo1, hmc1, hml1, hfr1⟩
      have hc1 : (cons'.set k con.one)[k]? = some con.one := by rw [List.getElem?_set_self (by omega)]
      have hok1 : ∀ c ∈ cons'.set k con.one, ConOk c := fun c hc => by
        rcases List.mem_or_eq_of_mem_set hc with hc | hc
        · exact hok c hc
        · rw [hc]
          exact one_ok hcok
      have hbl1 : ∀ b ∈ rec', BalOk (cons'.set k con.one) b := fun b hb => bal_one (hbl b hb) hcon
      have hl1' : (cons'.set k con.one).length = cons.length := by rw [List.length_set]; exact hl1
      have htold1 : ∀ i c out, i < k → (cons'.set k con.one)[i]? = some c → outs[i]? = some out → Told rec' c out i := fun i c out hi hc hout => by
        rw [List.getElem?_set_ne (by omega)] at hc
        exact htold i c out (by omega) hc hout
      have hok1k : ConOk con.one := one_ok hcok
      have hone := one_one con
      have hnm := one_names con
      generalize hcg : con.one = co at hc1 hok1 hbl1 hl1' htold1 hok1k hone hnm hmc1
      rw [← hnm]
      generalize cons'.set k co = cons2 at *
      obtain ⟨n0, hn0⟩ : ∃ n0, co.names[0]? = some n0 := ⟨co.names[0]'(by have := hok1k.lo; omega), List.getElem?_eq_getElem _⟩
      have hn0m := List.mem_of_getElem? hn0
      have hlen : ∀ b ∈ rec', k < b.length := fun b hb => by rw [(hbl1 b hb).1]; omega
      have hmark : ∀ b : List Mark, k < b.length → L2.atI (b.map mkD) (k : Int) = some (mkD (b.getD k none)) := fun b hb => atI_nat (by
        rw [List.getElem?_map, List.getElem?_eq_getElem hb, List.getD_eq_getElem?_getD, List.getElem?_eq_getElem hb]
        rfl)
      walk_at "sy"
      refine sim_lcM rec' (fun b => .tup (b.map mkD)) (fun b => mkD (b.getD k none)) (ts := [7]) (by decide) (simI_seq ?_)
      walk_at "sy"
      refine ⟨_, .inl .val, rfl, by omega, .inl .val, fun b hb => ?_, ?_⟩
      · walk_at "sy"
        exact ops_ixT' (hmark b (hlen b hb)) ⟨rfl, rfl⟩
      walk_at "sy"
      refine ops_ixL' (.mut hmc1) (atI_nat (v := co.lD) (by rw [List.getElem?_map, hc1]; rfl)) ?_
      walk_at "sy"
      refine ⟨co, _, rec'.map fun b => b.getD k none, rfl, .inl (by rw [List.map_map]; exact .val), by rw [List.length_map]; omega, hok1k, hone, fun d hd => ?_⟩
      walk_at "sy"
      have hb2 : ∀ b ∈ rec', b.length ≤ 2 := fun b hb => by rw [(hbl1 b hb).1]; omega
      have htake : co.names.take 1 = [n0] := by
        cases hz : co.names with
        | nil => rw [hz] at hn0; simp at hn0
        | cons x xs => rw [hz] at hn0; simp at hn0; simp [hn0]
      have hone0 : OutOk co [n0] := by
        cases co with
        | most ns k => exact ⟨n0, hn0m, rfl⟩
        | portion ns s => exact .inr ⟨n0, hn0m, rfl⟩
      refine simS_ifJ (B := fun ρ1 m2 => m2 = m1 ∧ ∃ (rec2 : List (List Mark)) (out : List Str), ∃ y6 y7 y8 y9 y10, (rec2 = rec' ∨ rec2 = rec'.map fun b => b.set k (some n0)) ∧ OutOk co out ∧ y8 = strsD out ∧ ρ1 = [some (.ptr o), some (recL rec2), some (.int k), some (.str kd), some (strsD co.names), some pt, y6, y7, some y8, y9, y10]) ?_ ?_
      · walk_at "sy"
        rcases hd with rfl | ⟨out, rfl, hout⟩
        · refine ite_t rfl ?_
          walk_at "sy"
          refine sim_put rfl rfl rfl (Nat.le_of_ble_eq_true rfl) hn0 (fun b hb => ⟨hlen b hb, hb2 b hb⟩) (by omega) ?_
          walk_at "sy"
          refine sls_T ?_
          have e1 : cutD (co.names.map D.str) none (some (1 : Int)) = [n0].map D.str := by
            have := cutD_to (ds := co.names.map D.str) (j := 1)
            rw [← List.map_take, htake] at this
            exact this
          rw [e1]
          exact ⟨rfl, _, [n0], _, _, _, _, _, .inr rfl, hone0, rfl, rfl⟩
        · refine ite_f rfl ?_
          walk_at "sy"
          exact ⟨rec', out, _, _, _, _, _, .inl rfl, hout, rfl, rfl⟩
      rintro ρ1 m2 ⟨rfl, rec2, out, y6, y7, y8, y9, y10, hrec2, hout, rfl, rfl⟩
      have hr2l : rec2.length = rec'.length := by rcases hrec2 with rfl | rfl <;> simp
      have hr2b : ∀ b ∈ rec2, BalOk cons2 b := fun b hb => by
        rcases hrec2 with rfl | rfl
        · exact hbl1 b hb
        · obtain ⟨b', hb', rfl⟩ := List.mem_map.mp hb
          exact bal_set (hbl1 b' hb') hc1 hn0m
      have hlen2 : ∀ b ∈ rec2, k < b.length := fun b hb => by rw [(hr2b b hb).1]; omega
      have hb22 : ∀ b ∈ rec2, b.length ≤ 2 := fun b hb => by rw [(hr2b b hb).1]; omega
      walk_at "sy"
      refine ops_ixL' (.mut hmc1) (atI_nat (v := co.lD) (by rw [List.getElem?_map, hc1]; rfl)) ?_
      walk_at "sy"
      refine ⟨co, out, rfl, hok1k, hout, ?_⟩
      walk_at "sy"
      have hcok2 := Con.claims_ok (con_ok hok1k hone hout)
      have hcl2 := Con.claims_len (con_ok hok1k hone hout)
      refine simS_ifJ (B := fun ρ1 m3 => m3 = m2 ∧ ∃ (rec3 : List (List Mark)) (out3 : List Str), ∃ x6 x7 x9 x10, (rec3 = rec2 ∨ rec3 = rec2.map fun b => b.set k (some n0)) ∧ OutOk co out3 ∧ (∀ c ∈ co.claims out3, c.holds (rec3.map fun b => b.getD k none)) ∧ ρ1 = [some (.ptr o), some (recL rec3), some (.int k), some (.str kd), some (strsD co.names), some pt, x6, x7, some (strsD out3), x9, x10]) ?_ ?_
      · walk_at "sy"
        refine sim_lcF (co.claims out) Claim.lD (fun c => if ¬ (((rec2.map fun b => b.getD k none).length : Rat) / 2 < c.sum (rec2.map fun b => b.getD k none)) then some c.lD else none) (ts := [10]) (by decide) (simI_seq ?_)
        walk_at "sy"
        refine ⟨_, .inl .val, rfl, by omega, .inl .val, fun c hc => ?_, ?_⟩
        · walk_at "sy"
          refine sim_lcM rec2 (fun b => .tup (b.map mkD)) (fun b => mkD (b.getD k none)) (ts := [7]) (by decide) (simI_seq ?_)
          walk_at "sy"
          refine ⟨_, .inl .val, rfl, by omega, .inl .val, fun b hb => ?_, ?_⟩
          · walk_at "sy"
            exact ops_ixT' (hmark b (hlen2 b hb)) ⟨rfl, rfl⟩
          walk_at "sy"
          refine ⟨c, _, rec2.map fun b => b.getD k none, rfl, .inl (by rw [List.map_map]; exact .val), hcok2 c hc, by rw [List.length_map]; omega, ?_⟩
          walk_at "sy"
          refine ite_dn (fun h => ?_) (fun h => ?_)
          · walk_at "sy"
            rw [if_pos h]
          · rw [if_neg (fun q => q h)]
        rw [filterMap_ite (fun c : Claim => ¬ (((rec2.map fun b => b.getD k none).length : Rat) / 2 < c.sum (rec2.map fun b => b.getD k none)))]
        walk_at "sy"
        refine sim_lst ?_
        walk_at "sy"
        refine neL (lay_lst (n := 63) (lays_map (g := claimP) fun c hc => lay_claim hok1k hout c (List.mem_filter.mp hc).1)) (lay_lst (n := 63) lays_nil) ?_
        have ee : ∀ ps : List PyData, PyData.eqv (.list ps) (.list []) = ps.isEmpty := fun ps => by
          simp only [PyData.eqv]
          exact eqvAll_nil ps
        rw [ee]
        walk_at "sy"
        cases hq : (co.claims out).filter (fun c => decide (¬ (((rec2.map fun b => b.getD k none).length : Rat) / 2 < c.sum (rec2.map fun b => b.getD k none)))) with
        | nil =>
          refine ite_f rfl ?_
          walk_at "sy"
          refine ⟨rec2, out, _, _, _, _, .inl rfl, hout, fun c hc => ?_, rfl⟩
          by_cases h : ((rec2.map fun b => b.getD k none).length : Rat) / 2 < c.sum (rec2.map fun b => b.getD k none)
          · exact h
          · have : c ∈ (co.claims out).filter (fun c => decide (¬ (((rec2.map fun b => b.getD k none).length : Rat) / 2 < c.sum (rec2.map fun b => b.getD k none)))) := List.mem_filter.mpr ⟨hc, decide_eq_true h⟩
            rw [hq] at this
            simp at this
        | cons c0 cs0 =>
          refine ite_t rfl ?_
          walk_at "sy"
          refine sim_put rfl rfl rfl (Nat.le_of_ble_eq_true rfl) hn0 (fun b hb => ⟨hlen2 b hb, hb22 b hb⟩) (by omega) ?_
          walk_at "sy"
          refine sls_T ?_
          have e1 : cutD (co.names.map D.str) none (some (1 : Int)) = [n0].map D.str := by
            have := cutD_to (ds := co.names.map D.str) (j := 1)
            rw [← List.map_take, htake] at this
            exact this
          rw [e1]
          refine ⟨rfl, _, [n0], _, _, _, _, .inr rfl, hone0, ?_, rfl⟩
          refine holds_all hok1k hn0m ?_ (by rw [List.length_map, List.length_map]; omega)
          intro mk hmk
          rw [List.map_map] at hmk
          obtain ⟨b, hb, rfl⟩ := List.mem_map.mp hmk
          show (b.set k (some n0)).getD k none = some n0
          rw [List.getD_eq_getElem?_getD, List.getElem?_set_self (hlen2 b hb)]
          rfl
      rintro ρ1 m3 ⟨rfl, rec3, out3, x6, x7, x9, x10, hrec3, hout3, hholds, rfl⟩
      walk_at "sy"
      refine apl2 hml1 (by rw [List.length_map]; omega) ?_
      have hr3l : rec3.length = rec2.length := by rcases hrec3 with rfl | rfl <;> simp
      have hr3b : ∀ b ∈ rec3, BalOk cons2 b := fun b hb => by
        rcases hrec3 with rfl | rfl
        · exact hr2b b hb
        · obtain ⟨b', hb', rfl⟩ := List.mem_map.mp hb
          exact bal_set (hr2b b' hb') hc1 hn0m
      have hsame : ∀ i, i ≠ k → (rec3.map fun b => b.getD i none) = rec'.map fun b => b.getD i none := fun i hi => by
        have e : ∀ r : List (List Mark), ((r.map fun b => b.set k (some n0)).map fun b => b.getD i none) = r.map fun b => b.getD i none := fun r => by
          rw [List.map_map]
          refine List.map_congr_left fun b _ => ?_
          show (b.set k (some n0)).getD i none = b.getD i none
          rw [List.getD_eq_getElem?_getD, List.getElem?_set_ne (Ne.symm hi), ← List.getD_eq_getElem?_getD]
        rcases hrec3 with rfl | rfl
        · rcases hrec2 with rfl | rfl
          · rfl
          · exact e rec'
        · rw [e]
          rcases hrec2 with rfl | rfl
          · rfl
          · exact e rec'
      refine ⟨cons2, outs ++ [out3], rec3, _, _, _, _, _, _, _, _, _, hl1', by rw [List.length_append, List.length_append, hl2]; rfl, by omega, hok1, hr3b, ?_, rfl, ?_, ?_, ?_, ?_⟩
      · intro i c out hi hc hout
        rw [List.length_append, List.length_singleton] at hi
        by_cases hik : i = k
        · subst hik
          rw [hc1] at hc
          cases hc
          rw [List.getElem?_append_right (by omega), show i - outs.length = 0 by omega] at hout
          cases hout
          exact ⟨con_ok hok1k hone hout3, hholds⟩
        · rw [List.getElem?_append_left (by omega)] at hout
          have := htold1 i c out (by omega) hc hout
          refine ⟨this.1, fun x hx => ?_⟩
          rw [hsame i hik]
          exact this.2 x hx
      · rw [mupd_ne h1]
        exact hmo1
      · rw [mupd_ne h2]
        exact hmc1
      · rw [mupd_same, List.map_append]
        rfl
      · intro b q1 q2 q3
        rw [mupd_ne q3]
        exact hfr1 b q1 q2 q3
    · rintro ρ' m' ⟨cons', outs, rec', z2, z3, z4, z5, z6, z7, z8, z9, z10, hl1, hl2, hl3, hok, hbl, htold, rfl, hmo, hmc, hml, hfr⟩
      walk_at "sy"
      rw [List.length_range] at hl2
      refine hP ol cons' outs rec' m' hl1 hl2 hl3 hok hbl (fun i con out hc ho => htold i con out ?_ hc ho) hmo hmc hml hol hfr
      rw [List.length_range, ← hl1]
      exact (List.getElem?_eq_some_iff.mp hc).1
end
end L3

/-! text L4h -/
set_option Elab.async false
set_option linter.all false
set_option maxRecDepth 100000
set_option maxHeartbeats 4000000
set_option pp.maxSteps 1500
namespace L3
open PySem L2
open scoped Rat
local macro_rules | `(tactic| walk_at "ca") => `(tactic| first
  | exact Txt.k_Game (by assumption)
  | exact Txt.n_Game_many (by assumption)
  | exact Txt.n_Game_again (by assumption)
  | exact Txt.n_Game_highest (by assumption)
  | exact Txt.n_Game_rule (by assumption)
  | exact Txt.n_Game_drawn_values (by assumption)
  | exact Txt.n_Game_sum_so_far (by assumption)
  | exact Txt.n_Game_now (by assumption)
  | exact Txt.n_Game_most (by assumption)
  | exact Txt.n_Game_certain (by assumption)
  | exact Txt.k_Way (by assumption)
  | exact Txt.n_Way_claim (by assumption)
  | exact Txt.k_Comparing (by assumption)
  | exact Txt.n_Comparing_claim (by assumption)
  | exact Txt.n_Comparing_told (by assumption)
  | exact Txt.n_Comparing_scale (by assumption)
  | exact Txt.k_Sheet (by assumption)
  | exact Txt.n_Sheet_names (by assumption)
  | exact Txt.n_Sheet_limit (by assumption)
  | exact Txt.n_Sheet_ways (by assumption)
  | exact Txt.n_Sheet_games (by assumption)
  | exact Txt.k_Audit (by assumption)
  | exact Txt.n_Audit_sheets (by assumption)
  | exact Txt.n_Audit_many (by assumption)
  | exact Txt.n_Audit_again (by assumption)
  | exact Txt.n_Audit_most (by assumption)
  | exact Txt.n_Audit_numbers (by assumption)
  | exact Txt.k_Beats (by assumption)
  | exact Txt.n_Beats_one (by assumption)
  | exact Txt.n_Beats_other (by assumption)
  | exact Txt.k_Over (by assumption)
  | exact Txt.n_Over_name (by assumption)
  | exact Txt.n_Over_share (by assumption)
  | exact Txt.k_Under (by assumption)
  | exact Txt.n_Under_name (by assumption)
  | exact Txt.n_Under_share (by assumption)
  | exact Txt.k_Contest (by assumption)
  | exact Txt.n_Contest_names (by assumption)
  | exact Txt.k_Most (by assumption)
  | exact Txt.n_Most_names (by assumption)
  | exact Txt.n_Most_seats (by assumption)
  | exact Txt.k_Portion (by assumption)
  | exact Txt.n_Portion_names (by assumption)
  | exact Txt.n_Portion_share (by assumption)
  | exact Txt.k_Fixed (by assumption)
  | exact Txt.n_Fixed_part (by assumption))
local macro_rules | `(tactic| walk_at "ne") => `(tactic| first
  | assumption
  | (refine Ne.symm ?_; assumption)
  | exact mne (by assumption) (by assumption)
  | exact (mne (by assumption) (by assumption)).symm)
local macro_rules | `(tactic| walk_at "mm") => `(tactic| first
  | assumption
  | exact mupd_same
  | (refine (mupd_ne ?_).trans ?_; (walk_at "ne"); (walk_at "mm")))
local macro_rules | `(tactic| walk_at "s0") => `(tactic| first
  | with_reducible refine simS_seq ?_
  | with_reducible refine simS_ret ?_
  | with_reducible refine simS_retN ?_
  | with_reducible refine simS_set ?_
  | with_reducible refine simS_drop ?_
  | with_reducible refine simS_next ?_
  | with_reducible refine simS_fld ?_
  | with_reducible refine simS_dput ?_
  | with_reducible refine simT_test ?_
  | with_reducible refine simT_B ?_
  | with_reducible refine simT_not ?_
  | with_reducible refine simT_and ?_
  | with_reducible refine simT_or ?_
  | focus ((with_reducible refine sim_var (d := ?_) ?_ ?_); rotate_left 1; exact rfl)
  | with_reducible refine sim_int ?_
  | with_reducible refine sim_bl ?_
  | with_reducible refine sim_str ?_
  | with_reducible refine sim_non ?_
  | with_reducible refine sim_ty ?_
  | with_reducible refine sim_c (Txt.t_NOUGHT_games (by assumption)) ?_
  | with_reducible refine sim_c (Txt.t_ONE_games (by assumption)) ?_
  | with_reducible refine sim_c (Txt.t_ONE_ways (by assumption)) ?_
  | with_reducible refine sim_c (Txt.t_TWO (by assumption)) ?_
  | with_reducible refine sim_c (Txt.t_NOUGHT_claims (by assumption)) ?_
  | with_reducible refine sim_c (Txt.t_HALF (by assumption)) ?_
  | with_reducible refine sim_c (Txt.t_ONE_claims (by assumption)) ?_
  | with_reducible refine sim_ref ?_
  | with_reducible refine sim_op ?_
  | with_reducible refine sim_un ?_
  | with_reducible refine sim_andV ?_
  | with_reducible refine sim_orV ?_
  | with_reducible refine sim_notV ?_
  | with_reducible refine sim_chain ?_
  | with_reducible refine sim_tup ?_
  | with_reducible refine sim_call ?_
  | with_reducible refine sim_callB ?_
  | with_reducible refine sim_fldU ?_
  | with_reducible refine sim_append ?_
  | focus ((with_reducible refine apl (ds := ?_) ?_ ?_); rotate_left 1; walk_at "mm")
  | with_reducible refine sim_methU ?_
  | with_reducible refine sim_cfn ?_
  | with_reducible refine sim_dget ?_
  | with_reducible refine sim_sl ?_
  | with_reducible refine simO_none ?_
  | with_reducible refine simO_some ?_
  | with_reducible refine simA_cons ?_
  | with_reducible refine simA_nil ?_
  | with_reducible refine simG_name ?_
  | with_reducible refine simG_pair ?_
  | with_reducible refine ops_addI ?_
  | with_reducible refine uns_I (g := fun i => -i) ?_
  | with_reducible refine simG_triple ?_
  | with_reducible refine ops_subI ?_
  | with_reducible refine ops_lt ?_
  | with_reducible refine ops_le ?_
  | with_reducible refine ops_gt ?_
  | with_reducible refine ops_ge ?_
  | with_reducible refine ops_eqI ?_
  | with_reducible refine ops_neI ?_
  | with_reducible refine ops_eqSt ?_
  | with_reducible refine ops_eqNS ?_
  | with_reducible refine eq_mk ?_
  | with_reducible refine eq_bl ?_
  | with_reducible refine ops_isN ?_
  | with_reducible refine ops_notN ?_
  | with_reducible refine cs_abs ?_
  | focus ((with_reducible refine cs_isi2 (t := ?_) (b := ?_) ?_ ?_ ?_ ?_); rotate_left 2; exact rfl; exact rfl; exact rfl)
  | with_reducible refine cs_max2 ?_
  | with_reducible refine cs_min2 ?_
  | focus ((with_reducible refine ops_ixT' (d := ?_) ?_ ?_); rotate_left 1; exact rfl)
  | focus ((with_reducible refine fld_o (d := ?_) ?_ ?_ ?_ ?_); rotate_left 1; walk_at "ca"; walk_at "ca"; exact rfl)
  | focus ((with_reducible refine fld_p (C := ?_) (fs := ?_) (d := ?_) ?_ ?_ ?_ ?_ ?_); rotate_left 3; walk_at "mm"; walk_at "ca"; walk_at "ca"; exact rfl)
  | focus ((with_reducible refine And.intro (?_ : Mth _ _ _ _) ?_); exact mth_o (by rfl))
  | focus ((with_reducible refine ⟨mth_p (fs := ?_) ?_ ?_, ?_⟩); rotate_left 1; walk_at "mm"; exact rfl)
  | focus ((with_reducible refine setf (C := ?_) (fs := ?_) ?_ ?_ ?_ ?_ ?_); rotate_left 2; walk_at "mm"; walk_at "ca"; walk_at "ca"; exact of_decide_eq_true rfl)
  | focus ((with_reducible refine dgt (kvs := ?_) (k := ?_) (d := ?_) ?_ ?_ ?_ ?_); rotate_left 3; walk_at "mm"; exact rfl; exact rfl)
  | focus ((with_reducible refine dpt (kvs := ?_) (k := ?_) ?_ ?_ ?_ ?_); rotate_left 2; walk_at "mm"; exact rfl; exact of_decide_eq_true rfl)
  | (with_reducible refine ⟨_, rfl, ?_⟩)
  | (with_reducible refine ⟨rfl, ?_⟩)
  | focus ((with_reducible refine ⟨Nat.le_of_ble_eq_true ?_, ?_⟩); exact rfl)
  | with_reducible refine ite_T ?_
  | with_reducible refine ite_nF ?_
  | with_reducible refine ite_nT ?_
  | with_reducible refine ite_F ?_)
local macro_rules | `(tactic| walk_at "s1") => `(tactic| first
  | walk_at "s0"
  | with_reducible refine simS_if ?_)
local macro_rules | `(tactic| walk_at "sx") => `(tactic| repeat walk_at "s1")
local macro_rules | `(tactic| walk_at "sy") => `(tactic| repeat walk_at "s0")

section
variable {P : Program} {w : World} {K : PySem.W.Frag} {mg : Str → Option Value} {base : Heap} {a : Adr}

/-! L4h: the law's games laid, their verdict. -/
theorem sim_lcX {α : Type} (xs : List α) (fD : α → D) (B : List α → List D → Mem → Prop) {ρ : DEnv} {m : Mem} {PQ : Post} {wi : TI} {g : TG} {ts vs : List Nat} {te : TE} (hts : ∀ i ∈ ts, i ∈ vs)
    (H : SimI K wi ρ m fun ds I m1 => ds = xs.map fD ∧ xs.length ≤ 100000 ∧ B [] [] m1 ∧ (∀ done acc m', B done acc m' → I m') ∧
      (∀ done x rest acc m', xs = done ++ x :: rest → B done acc m' → SimG K g ts (fD x) (wipeD ρ vs) m' fun ρ2 m2 => Sim K te ρ2 m2 fun y m4 => B (done ++ [x]) (acc ++ [y]) m4) ∧ ∀ acc m', B xs acc m' → PQ (.lst acc) m') :
    Sim K (tLc wi g tYes te vs) ρ m PQ := by
  refine sim_lc hts fun S H' σ e M R Q hQ => H S H' σ e M R Q fun ds I m1 S' H'' J p st it => hQ ds I m1 S' H'' J ?_ st it
  obtain ⟨rfl, hl, h0, hI, hs, hd⟩ := p
  refine ⟨by simpa using hl, fun i acc m' => B (xs.take i) acc m', h0, fun i acc m' _ w => hI _ _ _ w, fun i d acc m' hd' w => ?_, fun acc m' w => ?_⟩
  · obtain ⟨x, hx, rfl⟩ := List.getElem?_map_some hd'
    have e2 : xs[i]'((List.getElem?_eq_some_iff.mp hx).1) = x := (List.getElem?_eq_some_iff.mp hx).2
    have e1 : xs.take (i + 1) = xs.take i ++ [x] := by rw [List.take_add_one, hx]; rfl
    have q := hs (xs.take i) x (xs.drop (i + 1)) acc m' (by rw [← e2, List.getElem_cons_drop, List.take_append_drop]) w
    refine fun S H σ v e M R r Q hQ => q S H σ v e M R r Q fun ρ2 m2 σ2 S2 H2 p2 st2 R2 hw => hQ ρ2 m2 σ2 S2 H2 ?_ st2 R2 hw
    refine simT_yes ?_
    rw [if_pos rfl]
    rw [← e1] at p2
    exact p2
  · have w : B (xs.take (xs.map fD).length) acc m' := w
    rw [List.length_map, List.take_length] at w
    exact hd acc m' w
structure PlanAt (o cl ll ol : Addr) (cs : List Pn) (r : Rl) (most : Nat) (m : Mem) : Prop where
  ho : m o = some (.dk (plk1 cl ll ol r most))
  hc : m cl = some (.lst (cs.map fun p => p.con.lD))
  hl : m ll = some (.lst (cs.map fun p => fr p.lim))
  hu : m ol = some (.lst (cs.map fun p => strsD p.out))
theorem PlanAt.frame {o cl ll ol : Addr} {cs : List Pn} {r : Rl} {most : Nat} {m m' : Mem} (h : PlanAt o cl ll ol cs r most m) (hf : ∀ b, m b ≠ none → b = o ∨ b = cl ∨ b = ll ∨ b = ol → m' b = m b) : PlanAt o cl ll ol cs r most m' :=
  ⟨(hf o (by rw [h.ho]; simp) (.inl rfl)).trans h.ho, (hf cl (by rw [h.hc]; simp) (.inr (.inl rfl))).trans h.hc, (hf ll (by rw [h.hl]; simp) (.inr (.inr (.inl rfl)))).trans h.hl, (hf ol (by rw [h.hu]; simp) (.inr (.inr (.inr rfl)))).trans h.hu⟩
structure CsOk (cs : List Pn) : Prop where
  hi : cs.length ≤ 2
  ok : ∀ p ∈ cs, ConOk p.con ∧ OutOk p.con p.out ∧ (∀ ns k, p.con = .most ns k → k = 1) ∧ Bd 7 p.lim
/-- a claim with its game, its dict and its list -/
abbrev Row := List ((Claim × Gm) × (Addr × Addr))
abbrev rowD (row : Row) : D := .lst (row.map fun q => .ptr q.2.1)
abbrev rowsD (rows : List Row) : D := .lst (rows.map rowD)
def RowAt (row : Row) (m : Mem) : Prop := ∀ q ∈ row, ∃ top, LAt top q.1.2 q.2.1 q.2.2 m
def LRows (rows : List Row) (m : Mem) : Prop := ∀ row ∈ rows, RowAt row m
def adr (row : Row) : List Addr := row.flatMap fun q => [q.2.1, q.2.2]
def adrs (rows : List Row) : List Addr := rows.flatMap adr
theorem RowAt.frame {row : Row} {m m' : Mem} (h : RowAt row m) (hf : ∀ b ∈ adr row, m' b = m b) : RowAt row m' := fun q hq => by
  obtain ⟨top, ht⟩ := h q hq
  exact ⟨top, (hf _ (List.mem_flatMap.mpr ⟨q, hq, by simp⟩)).trans ht.ho, (hf _ (List.mem_flatMap.mpr ⟨q, hq, by simp⟩)).trans ht.hl⟩
theorem LRows.frame {rows : List Row} {m m' : Mem} (h : LRows rows m) (hf : ∀ b ∈ adrs rows, m' b = m b) : LRows rows m' := fun row hr => (h row hr).frame fun b hb => hf b (List.mem_flatMap.mpr ⟨row, hr, hb⟩)
theorem RowAt.some {row : Row} {m : Mem} (h : RowAt row m) : ∀ b ∈ adr row, m b ≠ none := fun b hb => by
  obtain ⟨q, hq, hb⟩ := List.mem_flatMap.mp hb
  obtain ⟨top, ht⟩ := h q hq
  simp only [List.mem_cons, List.not_mem_nil, or_false] at hb
  rcases hb with rfl | rfl
  · rw [ht.ho]; simp
  · rw [ht.hl]; simp
theorem LRows.some {rows : List Row} {m : Mem} (h : LRows rows m) : ∀ b ∈ adrs rows, m b ≠ none := fun b hb => by
  obtain ⟨row, hr, hb⟩ := List.mem_flatMap.mp hb
  exact (h row hr).some b hb
def cLGames : Ctr := fun ds m P => ∃ o cl ll ol cs r most, ds = [.ptr o] ∧ PlanAt o cl ll ol cs r most m ∧ CsOk cs ∧
  ∀ (rows : List Row) (m' : Mem), (rows.map fun row => row.map (·.1)) = (cs.map fun p => (p.con.claims p.out).map fun c => (c, Gm.new)) → LRows rows m' → (adrs rows).Nodup → (∀ b ∈ adrs rows, m b = none) → (∀ b, m b ≠ none → m' b = m b) → P (rowsD rows) m'
abbrev s_l_games : Stmt := top 80
theorem sc_l_games : FnScope ["_law_plan_here", "_law_games_here", "_law_k", "_law_claims_here", "_law_claim"] ["_law_plan_here"] (defScope s_l_games) := ⟨rfl, rfl, rfl, by decide +kernel, rfl, by decide +kernel, by decide +kernel⟩
theorem ok_l_games {f : Addr} {fd : FuncData} (F : Fun K "_law_games" "_law_games" s_l_games f fd) (T : Txt K mg a) (h_l_claims : CalC P w K mg base 1 "_law_claims" (cLClaims)) (h_l_game : CalC P w K mg base 1 "_law_game" (cLGame)) (h_l_greatest : CalC P w K mg base 2 "_law_greatest" (cLGreatest)) : FnOk P w K mg base CX0 (2 + 1) f fd ["_law_plan_here"] (spOf K (cLGames)) := by
  refine def_ok F sc_l_games ?_ ?_
  · rintro ds m PP ⟨o, cl, ll, ol, cs, r, most, rfl, hp, hcs, hP⟩
    rfl
  · rintro cdv A outer s H E hr ds m PP ⟨o, cl, ll, ol, cs, r, most, rfl, hp, hcs, hP⟩
    refine ⟨_, (pss_cons (ps_set (i := 1) sc_l_games.nd rfl (by first | exact Or.inl rfl | exact Or.inr rfl) (pe_lst pa_nil))
      (pss_cons (ps_for PassesOwn.never rfl (pi_range1 (by rfl) T.b_range (pa_cons (pe_callB (pk_len T) (by rfl) T.b_len (by decide +kernel) (pa_cons (pe_dget (by exact hu_of hr) (pv 0) pe_str (fun _ _ => rfl)) pa_nil)) pa_nil)) (pg_name (i := 2) sc_l_games.nd rfl (by first | exact Or.inl rfl | exact Or.inr rfl)) (pss_cons (ps_set (i := 3) sc_l_games.nd rfl (by first | exact Or.inl rfl | exact Or.inr rfl) (pk_cal h_l_claims hr (by decide) (pa_cons (pe_ix (pk_ix T) (pe_dget (by exact hu_of hr) (pv 0) pe_str (fun _ _ => rfl)) (pv 2) (fun _ _ => rfl)) (pa_cons (pe_ix (pk_ix T) (pe_dget (by exact hu_of hr) (pv 0) pe_str (fun _ _ => rfl)) (pv 2) (fun _ _ => rfl)) pa_nil))))
      (pss_one (ps_expr (pk_append T (pv 1) (pa_cons (pe_lc (own := [("_law_claim", 4)]) (g := (gName 4)) (tt := tYes) (by rfl) sc_l_games.nd (pk_seq T (pv 3)) (blkOk_by (by kernel_rfl)) (fun _ _ _ _ _ => by exact (pg_name (i := 4) sc_l_games.nd rfl (by first | exact Or.inl rfl | exact Or.inr rfl))) (fun _ _ _ _ _ => by exact pts_nil) (fun _ _ _ _ _ => by exact (pk_cal h_l_game hr (by decide) (pa_cons (pk_cal h_l_greatest hr (by decide) (pa_cons (pv 4) pa_nil)) pa_nil)))) pa_nil))))))
      (pss_one (ps_ret (pv 1))))), ?_⟩
    have ho := hp.ho
    walk_at "sy"
    refine sim_lstM ?_
    walk_at "sy"
    intro l hl
    have hpl : ∀ x, PlanAt o cl ll ol cs r most (mupd m l x) := fun x => hp.frame fun b hb _ => mupd_ne fun e => hb (by rw [e]; exact hl)
    have hol := mne ho hl
    have hll2 : cl ≠ l := mne hp.hc hl
    refine simS_seq ?_
    refine simS_forM (List.range cs.length) (fun i : Nat => D.int i) (fun done ρ' m' => ∃ (rows : List Row) (z2 z3 z4 : Option D), ρ' = [some (.ptr o), some (.ptr l), z2, z3, z4] ∧ (rows.map fun row => row.map (·.1)) = ((cs.take done.length).map fun p => (p.con.claims p.out).map fun c => (c, Gm.new)) ∧
      m' l = some (.lst (rows.map rowD)) ∧ LRows rows m' ∧ (adrs rows).Nodup ∧ (∀ b ∈ adrs rows, m b = none ∧ b ≠ l) ∧ ∀ b, m b ≠ none → m' b = m b) (ts := [2]) (simI_rng1 ?_)
    have ho1 := (hpl (.lst [])).ho
    walk_at "sy"
    refine cs_len (.inl (.mut (hpl _).hc)) ?_
    rw [List.length_map]
    walk_at "sy"
    have hcl := hcs.hi
    refine ⟨by omega, rfl, ⟨[], _, _, _, rfl, rfl, mupd_same, fun r hr => by simp at hr, List.nodup_nil, fun b hb => by simp [adrs] at hb, fun b hb => mupd_ne fun e => hb (by rw [e]; exact hl)⟩, fun _ _ _ _ => trivial, ?_, ?_⟩
    · rintro done k rest ρ' m' hsplit ⟨rows, z2, z3, z4, rfl, hrm, hml, hlr, hnd, hfr, hfm⟩
      obtain ⟨hk1, hk2⟩ := range_split hsplit
      obtain ⟨p, hpk⟩ : ∃ p, cs[k]? = some p := ⟨cs[k], List.getElem?_eq_getElem hk2⟩
      obtain ⟨hcok, hout, hone, hlim⟩ := hcs.ok p (List.mem_of_getElem? hpk)
      have hp' : PlanAt o cl ll ol cs r most m' := hp.frame fun b hb _ => hfm b hb
      have ho' := hp'.ho
      have hclok := Con.claims_ok (con_ok hcok hone hout)
      have hcll := Con.claims_len (con_ok hcok hone hout)
      walk_at "sy"
      refine ops_ixL' (.mut hp'.hc) (atI_nat (v := p.con.lD) (by rw [List.getElem?_map, hpk]; rfl)) ?_
      walk_at "sy"
      refine ops_ixL' (.mut hp'.hu) (atI_nat (v := strsD p.out) (by rw [List.getElem?_map, hpk]; rfl)) ?_
      walk_at "sy"
      refine ⟨p.con, p.out, rfl, hcok, hout, ?_⟩
      walk_at "sy"
      refine sim_lcX (p.con.claims p.out) Claim.lD (fun dn acc m2 => ∃ row : Row, row.map (·.1) = dn.map (fun c => (c, Gm.new)) ∧ acc = (row.map fun q => D.ptr q.2.1) ∧ RowAt row m2 ∧ (adr row).Nodup ∧ (∀ b ∈ adr row, m' b = none) ∧ ∀ b, m' b ≠ none → m2 b = m' b) (ts := [4]) (by decide) (simI_seq ?_)
      walk_at "sy"
      refine ⟨_, .inl .val, rfl, by omega, ⟨[], rfl, rfl, fun q hq => by simp at hq, List.nodup_nil, fun b hb => by simp [adr] at hb, fun _ _ => rfl⟩, fun _ _ _ _ => .inl .val, ?_, ?_⟩
      · rintro dn c rst acc m2 hsp ⟨row, hr1, rfl, hra, hrn, hrf, hrm2⟩
        have hc : c ∈ p.con.claims p.out := by rw [hsp]; simp
        walk_at "sy"
        refine ⟨c, rfl, hclok c hc, ?_⟩
        walk_at "sy"
        refine ⟨c.top, rfl, fun q ql m3 hq hql hla hoff => ?_⟩
        have hq' : m' q = none := by
          cases z : m' q with
          | none => rfl
          | some u =>
            have := hrm2 q (by rw [z]; simp)
            rw [hq, z] at this
            cases this
        have hql' : m' ql = none := by
          cases z : m' ql with
          | none => rfl
          | some u =>
            have := hrm2 ql (by rw [z]; simp)
            rw [hql, z] at this
            cases this
        have hnq : ∀ b ∈ adr row, b ≠ q ∧ b ≠ ql := fun b hb => ⟨fun e => hra.some b hb (by rw [e]; exact hq), fun e => hra.some b hb (by rw [e]; exact hql)⟩
        have ha : adr (row ++ [((c, Gm.new), (q, ql))]) = adr row ++ [q, ql] := by
          unfold adr
          rw [List.flatMap_append]
          rfl
        refine ⟨row ++ [((c, Gm.new), (q, ql))], by rw [List.map_append, List.map_append, hr1]; rfl, by rw [List.map_append]; rfl, ?_, ?_, ?_, ?_⟩
        · intro x hx
          rcases List.mem_append.mp hx with hx | hx
          · exact (hra.frame fun b hb => hoff b (hnq b hb).1 (hnq b hb).2) x hx
          · have hx : x = ((c, Gm.new), (q, ql)) := by simpa using hx
            subst hx
            exact ⟨_, hla⟩
        · rw [ha, List.nodup_append]
          refine ⟨hrn, ?_, fun x hx y hy => ?_⟩
          · simp [hla.ne]
          · simp only [List.mem_cons, List.not_mem_nil, or_false] at hy
            rcases hy with rfl | rfl
            · exact (hnq x hx).1
            · exact (hnq x hx).2
        · intro b hb
          rw [ha] at hb
          rcases List.mem_append.mp hb with hb | hb
          · exact hrf b hb
          · simp only [List.mem_cons, List.not_mem_nil, or_false] at hb
            rcases hb with rfl | rfl
            · exact hq'
            · exact hql'
        · intro b hb
          rw [hoff b (fun e => hb (by rw [e]; exact hq')) (fun e => hb (by rw [e]; exact hql'))]
          exact hrm2 b hb
      · rintro acc m2 ⟨row, hr1, rfl, hra, hrn, hrf, hrm2⟩
        have hm2l : m2 l = some (.lst (rows.map rowD)) := (hrm2 l (by rw [hml]; simp)).trans hml
        have hrl : rows.length ≤ 2 := by
          have := congrArg List.length hrm
          rw [List.length_map, List.length_map, List.length_take] at this
          omega
        refine apl2 hm2l (by rw [List.length_map]; omega) ?_
        have hlr' : ∀ b ∈ adr row, b ≠ l := fun b hb e => by
          have := hrf b hb
          rw [e, hml] at this
          cases this
        have ha : adrs (rows ++ [row]) = adrs rows ++ adr row := by
          unfold adrs
          rw [List.flatMap_append]
          simp
        refine ⟨rows ++ [row], _, _, _, rfl, ?_, ?_, ?_, ?_, ?_, ?_⟩
        · rw [List.length_append, List.length_singleton, List.take_add_one, ← hk1, hpk, List.map_append, List.map_append, hk1, hrm]
          simp [hr1]
        · rw [mupd_same, List.map_append]
          rfl
        · intro rw' hrw
          rcases List.mem_append.mp hrw with hrw | hrw
          · refine (hlr rw' hrw).frame fun b hb => ?_
            have hb' : b ∈ adrs rows := List.mem_flatMap.mpr ⟨rw', hrw, hb⟩
            rw [mupd_ne (hfr b hb').2]
            exact hrm2 b (hlr.some b hb')
          · have hrw : rw' = row := by simpa using hrw
            subst hrw
            exact hra.frame fun b hb => mupd_ne (hlr' b hb)
        · rw [ha, List.nodup_append]
          refine ⟨hnd, hrn, fun x hx y hy e => ?_⟩
          subst e
          exact hlr.some x hx (hrf x hy)
        · intro b hb
          rw [ha] at hb
          rcases List.mem_append.mp hb with hb | hb
          · exact hfr b hb
          · refine ⟨?_, hlr' b hb⟩
            cases z : m b with
            | none => rfl
            | some u =>
              have := hfm b (by rw [z]; simp)
              rw [hrf b hb, z] at this
              cases this
        · intro b hb
          rw [mupd_ne fun e => hb (by rw [e]; exact hl), hrm2 b (by rw [hfm b hb]; exact hb)]
          exact hfm b hb
    · rintro ρ' m' ⟨rows, z2, z3, z4, rfl, hrm, hml, hlr, hnd, hfr, hfm⟩
      refine simS_ret (sim_frzL ?_)
      walk_at "sy"
      rw [List.length_range, List.take_length] at hrm
      have hd : ∀ b, b ≠ l → mdel m' l b = m' b := fun b hb => if_neg hb
      refine hP rows _ hrm (hlr.frame fun b hb => hd b (hfr b hb).2) hnd (fun b hb => (hfr b hb).1) fun b hb => ?_
      rw [hd b fun e => hb (by rw [e]; exact hl)]
      exact hfm b hb
end
end L3

/-! text L4i -/
set_option Elab.async false
set_option linter.all false
set_option maxRecDepth 100000
set_option maxHeartbeats 4000000
set_option pp.maxSteps 1500
namespace L3
open PySem L2
open scoped Rat
local macro_rules | `(tactic| walk_at "ca") => `(tactic| first
  | exact Txt.k_Game (by assumption)
  | exact Txt.n_Game_many (by assumption)
  | exact Txt.n_Game_again (by assumption)
  | exact Txt.n_Game_highest (by assumption)
  | exact Txt.n_Game_rule (by assumption)
  | exact Txt.n_Game_drawn_values (by assumption)
  | exact Txt.n_Game_sum_so_far (by assumption)
  | exact Txt.n_Game_now (by assumption)
  | exact Txt.n_Game_most (by assumption)
  | exact Txt.n_Game_certain (by assumption)
  | exact Txt.k_Way (by assumption)
  | exact Txt.n_Way_claim (by assumption)
  | exact Txt.k_Comparing (by assumption)
  | exact Txt.n_Comparing_claim (by assumption)
  | exact Txt.n_Comparing_told (by assumption)
  | exact Txt.n_Comparing_scale (by assumption)
  | exact Txt.k_Sheet (by assumption)
  | exact Txt.n_Sheet_names (by assumption)
  | exact Txt.n_Sheet_limit (by assumption)
  | exact Txt.n_Sheet_ways (by assumption)
  | exact Txt.n_Sheet_games (by assumption)
  | exact Txt.k_Audit (by assumption)
  | exact Txt.n_Audit_sheets (by assumption)
  | exact Txt.n_Audit_many (by assumption)
  | exact Txt.n_Audit_again (by assumption)
  | exact Txt.n_Audit_most (by assumption)
  | exact Txt.n_Audit_numbers (by assumption)
  | exact Txt.k_Beats (by assumption)
  | exact Txt.n_Beats_one (by assumption)
  | exact Txt.n_Beats_other (by assumption)
  | exact Txt.k_Over (by assumption)
  | exact Txt.n_Over_name (by assumption)
  | exact Txt.n_Over_share (by assumption)
  | exact Txt.k_Under (by assumption)
  | exact Txt.n_Under_name (by assumption)
  | exact Txt.n_Under_share (by assumption)
  | exact Txt.k_Contest (by assumption)
  | exact Txt.n_Contest_names (by assumption)
  | exact Txt.k_Most (by assumption)
  | exact Txt.n_Most_names (by assumption)
  | exact Txt.n_Most_seats (by assumption)
  | exact Txt.k_Portion (by assumption)
  | exact Txt.n_Portion_names (by assumption)
  | exact Txt.n_Portion_share (by assumption)
  | exact Txt.k_Fixed (by assumption)
  | exact Txt.n_Fixed_part (by assumption))
local macro_rules | `(tactic| walk_at "ne") => `(tactic| first
  | assumption
  | (refine Ne.symm ?_; assumption)
  | exact mne (by assumption) (by assumption)
  | exact (mne (by assumption) (by assumption)).symm)
local macro_rules | `(tactic| walk_at "mm") => `(tactic| first
  | assumption
  | exact mupd_same
  | (refine (mupd_ne ?_).trans ?_; (walk_at "ne"); (walk_at "mm")))
local macro_rules | `(tactic| walk_at "s0") => `(tactic| first
  | with_reducible refine simS_seq ?_
  | with_reducible refine simS_ret ?_
  | with_reducible refine simS_retN ?_
  | with_reducible refine simS_set ?_
  | with_reducible refine simS_drop ?_
  | with_reducible refine simS_next ?_
  | with_reducible refine simS_fld ?_
  | with_reducible refine simS_dput ?_
  | with_reducible refine simT_test ?_
  | with_reducible refine simT_B ?_
  | with_reducible refine simT_not ?_
  | with_reducible refine simT_and ?_
  | with_reducible refine simT_or ?_
  | focus ((with_reducible refine sim_var (d := ?_) ?_ ?_); rotate_left 1; exact rfl)
  | with_reducible refine sim_int ?_
  | with_reducible refine sim_bl ?_
  | with_reducible refine sim_str ?_
  | with_reducible refine sim_non ?_
  | with_reducible refine sim_ty ?_
  | with_reducible refine sim_c (Txt.t_NOUGHT_games (by assumption)) ?_
  | with_reducible refine sim_c (Txt.t_ONE_games (by assumption)) ?_
  | with_reducible refine sim_c (Txt.t_ONE_ways (by assumption)) ?_
  | with_reducible refine sim_c (Txt.t_TWO (by assumption)) ?_
  | with_reducible refine sim_c (Txt.t_NOUGHT_claims (by assumption)) ?_
  | with_reducible refine sim_c (Txt.t_HALF (by assumption)) ?_
  | with_reducible refine sim_c (Txt.t_ONE_claims (by assumption)) ?_
  | with_reducible refine sim_ref ?_
  | with_reducible refine sim_op ?_
  | with_reducible refine sim_un ?_
  | with_reducible refine sim_andV ?_
  | with_reducible refine sim_orV ?_
  | with_reducible refine sim_notV ?_
  | with_reducible refine sim_chain ?_
  | with_reducible refine sim_tup ?_
  | with_reducible refine sim_call ?_
  | with_reducible refine sim_callB ?_
  | with_reducible refine sim_fldU ?_
  | with_reducible refine sim_append ?_
  | focus ((with_reducible refine apl (ds := ?_) ?_ ?_); rotate_left 1; walk_at "mm")
  | with_reducible refine sim_methU ?_
  | with_reducible refine sim_cfn ?_
  | with_reducible refine sim_dget ?_
  | with_reducible refine sim_sl ?_
  | with_reducible refine simO_none ?_
  | with_reducible refine simO_some ?_
  | with_reducible refine simA_cons ?_
  | with_reducible refine simA_nil ?_
  | with_reducible refine simG_name ?_
  | with_reducible refine simG_pair ?_
  | with_reducible refine ops_addI ?_
  | with_reducible refine uns_I (g := fun i => -i) ?_
  | with_reducible refine simG_triple ?_
  | with_reducible refine ops_subI ?_
  | with_reducible refine ops_lt ?_
  | with_reducible refine ops_le ?_
  | with_reducible refine ops_gt ?_
  | with_reducible refine ops_ge ?_
  | with_reducible refine ops_eqI ?_
  | with_reducible refine ops_neI ?_
  | with_reducible refine ops_eqSt ?_
  | with_reducible refine ops_eqNS ?_
  | with_reducible refine eq_mk ?_
  | with_reducible refine eq_bl ?_
  | with_reducible refine ops_isN ?_
  | with_reducible refine ops_notN ?_
  | with_reducible refine cs_abs ?_
  | focus ((with_reducible refine cs_isi2 (t := ?_) (b := ?_) ?_ ?_ ?_ ?_); rotate_left 2; exact rfl; exact rfl; exact rfl)
  | with_reducible refine cs_max2 ?_
  | with_reducible refine cs_min2 ?_
  | focus ((with_reducible refine ops_ixT' (d := ?_) ?_ ?_); rotate_left 1; exact rfl)
  | focus ((with_reducible refine fld_o (d := ?_) ?_ ?_ ?_ ?_); rotate_left 1; walk_at "ca"; walk_at "ca"; exact rfl)
  | focus ((with_reducible refine fld_p (C := ?_) (fs := ?_) (d := ?_) ?_ ?_ ?_ ?_ ?_); rotate_left 3; walk_at "mm"; walk_at "ca"; walk_at "ca"; exact rfl)
  | focus ((with_reducible refine And.intro (?_ : Mth _ _ _ _) ?_); exact mth_o (by rfl))
  | focus ((with_reducible refine ⟨mth_p (fs := ?_) ?_ ?_, ?_⟩); rotate_left 1; walk_at "mm"; exact rfl)
  | focus ((with_reducible refine setf (C := ?_) (fs := ?_) ?_ ?_ ?_ ?_ ?_); rotate_left 2; walk_at "mm"; walk_at "ca"; walk_at "ca"; exact of_decide_eq_true rfl)
  | focus ((with_reducible refine dgt (kvs := ?_) (k := ?_) (d := ?_) ?_ ?_ ?_ ?_); rotate_left 3; walk_at "mm"; exact rfl; exact rfl)
  | focus ((with_reducible refine dpt (kvs := ?_) (k := ?_) ?_ ?_ ?_ ?_); rotate_left 2; walk_at "mm"; exact rfl; exact of_decide_eq_true rfl)
  | (with_reducible refine ⟨_, rfl, ?_⟩)
  | (with_reducible refine ⟨rfl, ?_⟩)
  | focus ((with_reducible refine ⟨Nat.le_of_ble_eq_true ?_, ?_⟩); exact rfl)
  | with_reducible refine ite_T ?_
  | with_reducible refine ite_nF ?_
  | with_reducible refine ite_nT ?_
  | with_reducible refine ite_F ?_)
local macro_rules | `(tactic| walk_at "s1") => `(tactic| first
  | walk_at "s0"
  | with_reducible refine simS_if ?_)
local macro_rules | `(tactic| walk_at "sx") => `(tactic| repeat walk_at "s1")
local macro_rules | `(tactic| walk_at "sy") => `(tactic| repeat walk_at "s0")

section
variable {P : Program} {w : World} {K : PySem.W.Frag} {mg : Str → Option Value} {base : Heap} {a : Adr}

/-! L4i: tops, sures, verdicts of the law. -/
theorem adr_append (x y : Row) : adr (x ++ y) = adr x ++ adr y := List.flatMap_append
theorem adrs_flat : ∀ rows : List Row, adrs rows = adr rows.flatten
  | [] => rfl
  | row :: rows => by
    rw [List.flatten_cons, adr_append, ← adrs_flat rows]
    rfl
theorem adr_mem {row : Row} {q : (Claim × Gm) × (Addr × Addr)} (h : q ∈ row) : q.2.1 ∈ adr row ∧ q.2.2 ∈ adr row := ⟨List.mem_flatMap.mpr ⟨q, h, by simp⟩, List.mem_flatMap.mpr ⟨q, h, by simp⟩⟩
theorem adr_inj : ∀ {row : Row}, (adr row).Nodup → ∀ {q q'}, q ∈ row → q' ∈ row → (q.2.1 = q'.2.1 → q = q') ∧ q.2.1 ≠ q'.2.2 ∧ (q.2.2 = q'.2.2 → q = q')
  | [], _, q, q', hq, _ => by simp at hq
  | x :: row, h, q, q', hq, hq' => by
    have e : adr (x :: row) = x.2.1 :: x.2.2 :: adr row := rfl
    rw [e] at h
    obtain ⟨h1, h2⟩ := List.nodup_cons.mp h
    obtain ⟨h3, h4⟩ := List.nodup_cons.mp h2
    have h5 : x.2.1 ≠ x.2.2 := fun e => h1 (by rw [e]; simp)
    have h6 : ∀ y ∈ row, x.2.1 ≠ y.2.1 ∧ x.2.1 ≠ y.2.2 ∧ x.2.2 ≠ y.2.1 ∧ x.2.2 ≠ y.2.2 := fun y hy => by
      have := adr_mem hy
      refine ⟨fun e => h1 (by rw [e]; exact List.mem_cons_of_mem _ this.1), fun e => h1 (by rw [e]; exact List.mem_cons_of_mem _ this.2), fun e => h3 (by rw [e]; exact this.1), fun e => h3 (by rw [e]; exact this.2)⟩
    rcases List.mem_cons.mp hq with rfl | hz <;> rcases List.mem_cons.mp hq' with rfl | hz'
    · exact ⟨fun _ => rfl, h5, fun _ => rfl⟩
    · exact ⟨fun e => absurd e (h6 q' hz').1, (h6 q' hz').2.1, fun e => absurd e (h6 q' hz').2.2.2⟩
    · exact ⟨fun e => absurd e.symm (h6 q hz).1, fun e => (h6 q hz).2.2.1 e.symm, fun e => absurd e.symm (h6 q hz).2.2.2⟩
    · exact adr_inj h4 hz hz'
theorem rows_top {rows : List Row} {m : Mem} (h : LRows rows m) (hn : (adrs rows).Nodup) {row : Row} (hr : row ∈ rows) {q : (Claim × Gm) × (Addr × Addr)} (hq : q ∈ row) (t : Rat) : LRows rows (mupd m q.2.1 (.dk (lgk t q.2.2 q.1.2))) := by
  intro row' hr' q' hq'
  rw [adrs_flat] at hn
  have hm1 : q ∈ rows.flatten := List.mem_flatten.mpr ⟨row, hr, hq⟩
  have hm2 : q' ∈ rows.flatten := List.mem_flatten.mpr ⟨row', hr', hq'⟩
  obtain ⟨top, ht⟩ := h row' hr' q' hq'
  have h1 := (adr_inj hn hm1 hm2).2.1
  by_cases e : q' = q
  · subst e
    exact ⟨t, mupd_same, (mupd_ne h1.symm).trans ht.hl⟩
  · have h2 : q'.2.1 ≠ q.2.1 := fun e2 => e ((adr_inj hn hm2 hm1).1 e2)
    exact ⟨top, (mupd_ne h2).trans ht.ho, (mupd_ne h1.symm).trans ht.hl⟩
def scl (rec : List (List Mark)) (p : Pn × Nat) : List Rat := (p.1.con.claims p.1.out).map fun c => c.scale (rec.map fun b => b.getD p.2 none)
abbrev sclD (rec : List (List Mark)) (cs : List Pn) : D := .lst (cs.zipIdx.map fun p => .lst ((scl rec p).map fr))
def cLTops : Ctr := fun ds m P => ∃ o cl ll ol cs r most, ∃ (rows : List Row) (rec : List (List Mark)), ds = [.ptr o, rowsD rows, recL rec] ∧ PlanAt o cl ll ol cs r most m ∧ CsOk cs ∧ LRows rows m ∧ (adrs rows).Nodup ∧ (rows.map fun row => row.map (·.1.1)) = (cs.map fun p => p.con.claims p.out) ∧ 0 < rec.length ∧ rec.length ≤ 60 ∧ (∀ b ∈ rec, b.length = cs.length) ∧
  (∀ b ∈ adrs rows, b ≠ o ∧ b ≠ cl ∧ b ≠ ll ∧ b ≠ ol) ∧ ∀ m', LRows rows m' → (∀ b, m b ≠ none → b ∉ adrs rows → m' b = m b) → P (sclD rec cs) m'
def suresL (rows : List Row) (cs : List Pn) : List Bool := (rows.zip cs).map fun p => p.1.all fun q => q.1.2.reached p.2.lim
theorem zip_take {α β : Type} : ∀ (k : Nat) (xs : List α) (ys : List β), (xs.take k).zip ys = (xs.zip ys).take k
  | 0, xs, ys => by simp
  | k + 1, [], ys => by simp
  | k + 1, x :: xs, [] => by simp
  | k + 1, x :: xs, y :: ys => by
    simp only [List.take_succ_cons, List.zip_cons_cons]
    rw [zip_take k xs ys]
theorem sures_take (rows : List Row) (cs : List Pn) (k : Nat) : suresL (rows.take k) cs = (suresL rows cs).take k := by
  unfold suresL
  rw [zip_take, List.map_take]
def RGood (r : Rl) (t : Nat) (rows : List Row) : Prop := ∀ row ∈ rows, ∀ q ∈ row, q.1.2.Ok r t
def cLSure : Ctr := fun ds m P => ∃ o cl ll ol cs r most, ∃ (rows : List Row) (t : Nat), ds = [.ptr o, rowsD rows] ∧ PlanAt o cl ll ol cs r most m ∧ CsOk cs ∧ LRows rows m ∧ rows.length = cs.length ∧ (∀ row ∈ rows, row.length ≤ 3) ∧ RGood r t rows ∧ t ≤ 12 ∧ P (.tup ((suresL rows cs).map D.bl)) m
def cLVerdict : Ctr := fun ds m P => ∃ o cl ll ol cs r most, ∃ (rows : List Row) (t n : Nat), ds = [.ptr o, rowsD rows, .int n] ∧ PlanAt o cl ll ol cs r most m ∧ CsOk cs ∧ LRows rows m ∧ rows.length = cs.length ∧ (∀ row ∈ rows, row.length ≤ 3) ∧ RGood r t rows ∧ t ≤ 12 ∧ P (.str (vd r most n (suresL rows cs))) m
abbrev s_l_sure : Stmt := top 82
theorem sc_l_sure : FnScope ["_law_plan_here", "_law_games_here", "_law_sure_here", "_law_k", "_law_game_here"] ["_law_plan_here", "_law_games_here"] (defScope s_l_sure) := ⟨rfl, rfl, rfl, by decide +kernel, rfl, by decide +kernel, by decide +kernel⟩
theorem ok_l_sure {f : Addr} {fd : FuncData} (F : Fun K "_law_sure" "_law_sure" s_l_sure f fd) (T : Txt K mg a) (h_l_reached : CalC P w K mg base 1 "_law_reached" (cLReached)) : FnOk P w K mg base CX0 (1 + 1) f fd ["_law_plan_here", "_law_games_here"] (spOf K (cLSure)) := by
  refine def_ok F sc_l_sure ?_ ?_
  · rintro ds m PP ⟨o, cl, ll, ol, cs, r, most, rows, t, rfl, hp, hcs, hlr, hlen, hfew, hg, ht, hP⟩
    rfl
  · rintro cdv A outer s H E hr ds m PP ⟨o, cl, ll, ol, cs, r, most, rows, t, rfl, hp, hcs, hlr, hlen, hfew, hg, ht, hP⟩
    refine ⟨_, (pss_cons (ps_set (i := 2) sc_l_sure.nd rfl (by first | exact Or.inl rfl | exact Or.inr rfl) (pe_lst pa_nil))
      (pss_cons (ps_for PassesOwn.never rfl (pi_range1 (by rfl) T.b_range (pa_cons (pe_callB (pk_len T) (by rfl) T.b_len (by decide +kernel) (pa_cons (pv 1) pa_nil)) pa_nil)) (pg_name (i := 3) sc_l_sure.nd rfl (by first | exact Or.inl rfl | exact Or.inr rfl)) (pss_one (ps_expr (pk_append T (pv 2) (pa_cons (pe_cmpR (pk_eq T hr.units) (pe_lc (own := [("_law_game_here", 4)]) (g := (gName 4)) (by rfl) sc_l_sure.nd (pk_seq T (pe_ix (pk_ix T) (pv 1) (pv 3) (fun _ _ => rfl))) (blkOk_by (by kernel_rfl)) (fun _ _ _ _ _ => by exact (pg_name (i := 4) sc_l_sure.nd rfl (by first | exact Or.inl rfl | exact Or.inr rfl))) (fun _ _ _ _ _ => by exact (pts_one (pt_not (pt_val (pk_cal h_l_reached hr (by decide) (pa_cons (pv 4) (pa_cons (pe_ix (pk_ix T) (pe_dget (by exact hu_of hr) (pv 0) pe_str (fun _ _ => rfl)) (pv 3) (fun _ _ => rfl)) pa_nil))))))) (fun _ _ _ _ _ => by exact (pv 4))) (pe_lst pa_nil) (nomark _)) pa_nil)))))
      (pss_one (ps_ret (pe_callTy (pk_tuple T) (by rfl) T.b_tuple (by decide +kernel) (pa_cons (pv 2) pa_nil)))))), ?_⟩
    have ho := hp.ho
    walk_at "sy"
    refine sim_lstM ?_
    walk_at "sy"
    intro l hl
    have hpl : ∀ x, PlanAt o cl ll ol cs r most (mupd m l x) := fun x => hp.frame fun b hb _ => mupd_ne fun e => hb (by rw [e]; exact hl)
    have hll : ∀ x, LRows rows (mupd m l x) := fun x => hlr.frame fun b hb => mupd_ne fun e => hlr.some b hb (by rw [e]; exact hl)
    have hcl := hcs.hi
    refine simS_seq ?_
    refine simS_forM (List.range rows.length) (fun i : Nat => D.int i) (fun done ρ' m' => (∃ z3 z4 : Option D, ρ' = [some (.ptr o), some (rowsD rows), some (.ptr l), z3, z4]) ∧ m' = mupd m l (.lst ((suresL (rows.take done.length) cs).map D.bl))) (ts := [3]) (simI_rng1 ?_)
    walk_at "sy"
    refine cs_len (.inl .val) ?_
    rw [List.length_map]
    walk_at "sy"
    refine ⟨by omega, rfl, ⟨⟨_, _, rfl⟩, rfl⟩, fun _ _ _ _ => trivial, ?_, ?_⟩
    · rintro done k rest ρ' m' hsplit ⟨⟨z3, z4, rfl⟩, rfl⟩
      obtain ⟨hk1, hk2⟩ := range_split hsplit
      obtain ⟨p, hpk⟩ : ∃ p, cs[k]? = some p := ⟨cs[k]'(by omega), List.getElem?_eq_getElem (by omega)⟩
      obtain ⟨row, hrk⟩ : ∃ row, rows[k]? = some row := ⟨rows[k], List.getElem?_eq_getElem hk2⟩
      have hrm := List.mem_of_getElem? hrk
      have hok := (hcs.ok p (List.mem_of_getElem? hpk)).2.2.2
      have hp' := hpl (.lst ((suresL (rows.take done.length) cs).map D.bl))
      have ho' := hp'.ho
      walk_at "sy"
      refine sim_lcF row (fun q => .ptr q.2.1) (fun q => if ¬ (q.1.2.reached p.lim = true) then some (D.ptr q.2.1) else none) (ts := [4]) (by decide) (simI_seq ?_)
      walk_at "sy"
      refine ops_ixL' .val (atI_nat (v := rowD row) (by rw [List.getElem?_map, hrk]; rfl)) ?_
      refine ⟨_, .inl .val, rfl, by have := hfew row hrm; omega, .inl .val, fun q hq => ?_, ?_⟩
      · obtain ⟨top, hla⟩ := (hll (.lst ((suresL (rows.take done.length) cs).map D.bl))) row hrm q hq
        walk_at "sy"
        refine ops_ixL' (.mut hp'.hl) (atI_nat (v := fr p.lim) (by rw [List.getElem?_map, hpk]; rfl)) ?_
        walk_at "sy"
        have hw := Wb_12 ht
        refine ⟨top, q.1.2, p.lim, q.2.1, q.2.2, rfl, hla, hok, ((hg row hrm q hq).most).mono hw, ?_⟩
        walk_at "sy"
        cases hb : q.1.2.reached p.lim with
        | true => rfl
        | false =>
          refine ite_t rfl ?_
          walk_at "sy"
          rfl
      rw [filterMap_ite (fun q : (Claim × Gm) × (Addr × Addr) => ¬ (q.1.2.reached p.lim = true))]
      walk_at "sy"
      refine sim_lst ?_
      walk_at "sy"
      refine ops_eqEmp .val .val ?_
      refine apl2 mupd_same (by unfold suresL; rw [List.length_map, List.length_map, List.length_zip, List.length_take]; omega) ?_
      refine ⟨⟨_, _, rfl⟩, ?_⟩
      rw [mupd_upd]
      have hz : (rows.zip cs)[k]? = some (row, p) := by
        rw [List.getElem?_eq_getElem (by rw [List.length_zip]; omega), List.getElem_zip]
        have e1 := (List.getElem?_eq_some_iff.mp hrk).2
        have e2 := (List.getElem?_eq_some_iff.mp hpk).2
        rw [e1, e2]
      have e : suresL (rows.take (done ++ [k]).length) cs = suresL (rows.take done.length) cs ++ [row.all fun q => q.1.2.reached p.lim] := by
        rw [List.length_append, List.length_singleton, sures_take, sures_take, List.take_add_one, ← hk1]
        congr 1
        unfold suresL
        rw [List.getElem?_map, hz]
        rfl
      rw [e, List.map_append]
      have e2 : ((row.filter fun q => decide (¬ (q.1.2.reached p.lim = true))).map fun q => D.ptr q.2.1).isEmpty = row.all fun q => q.1.2.reached p.lim := by
        rw [List.isEmpty_map]
        cases hq : row.all (fun q => q.1.2.reached p.lim) with
        | true =>
          rw [List.all_eq_true] at hq
          have : (row.filter fun q => decide (¬ (q.1.2.reached p.lim = true))) = [] := by
            rw [List.filter_eq_nil_iff]
            intro x hx
            simp [hq x hx]
          rw [this]
          rfl
        | false =>
          rw [List.all_eq_false] at hq
          obtain ⟨x, hx, hx2⟩ := hq
          cases hz2 : row.filter (fun q => decide (¬ (q.1.2.reached p.lim = true))) with
          | cons y ys => rfl
          | nil =>
            have : x ∈ row.filter (fun q => decide (¬ (q.1.2.reached p.lim = true))) := List.mem_filter.mpr ⟨hx, by simpa using hx2⟩
            rw [hz2] at this
            simp at this
      rw [e2]
      rfl
    · rintro ρ' m' ⟨⟨z3, z4, rfl⟩, rfl⟩
      refine simS_ret (sim_drop ?_)
      walk_at "sy"
      refine cs_tuple (.inl (.mut mupd_same)) ?_
      refine ⟨l, ?_⟩
      rw [mdel_upd hl, List.length_range, List.take_length]
      exact hP
abbrev s_l_verdict : Stmt := top 83
theorem sc_l_verdict : FnScope ["_law_plan_here", "_law_games_here", "_law_turns"] ["_law_plan_here", "_law_games_here", "_law_turns"] (defScope s_l_verdict) := ⟨rfl, rfl, rfl, by decide +kernel, rfl, by decide +kernel, by decide +kernel⟩
theorem ok_l_verdict {f : Addr} {fd : FuncData} (F : Fun K "_law_verdict" "_law_verdict" s_l_verdict f fd) (T : Txt K mg a) (h_l_sure : CalC P w K mg base 2 "_law_sure" (cLSure)) : FnOk P w K mg base CX0 (2 + 1) f fd ["_law_plan_here", "_law_games_here", "_law_turns"] (spOf K (cLVerdict)) := by
  refine def_ok F sc_l_verdict ?_ ?_
  · rintro ds m PP ⟨o, cl, ll, ol, cs, r, most, rows, t, n, rfl, hp, hcs, hlr, hlen, hfew, hg, ht, hP⟩
    rfl
  · rintro cdv A outer s H E hr ds m PP ⟨o, cl, ll, ol, cs, r, most, rows, t, n, rfl, hp, hcs, hlr, hlen, hfew, hg, ht, hP⟩
    refine ⟨_, (pss_cons (ps_if (pt_cmpR (pk_notIn T) pe_bl (pk_cal h_l_sure hr (by decide) (pa_cons (pv 0) (pa_cons (pv 1) pa_nil))) (by with_unfolding_all rfl)) (pss_one (ps_ret pe_str)) pss_nil)
      (pss_cons (ps_if (PW.pt (pw_or (pt_cmpR (pk_eq T hr.units) (pv 2) (pe_dget (by exact hu_of hr) (pv 0) pe_str (fun _ _ => rfl)) (nomark _)) (pw_or1 (PW.pt (pw_and (pt_not (pt_val (pe_dget (by exact hu_of hr) (pv 0) pe_str (fun _ _ => rfl)))) (pw_and1 (pt_cmpR (pk_eq T hr.units) (pv 2) (pe_dget (by exact hu_of hr) (pv 0) pe_str (fun _ _ => rfl)) (nomark _)))))))) (pss_one (ps_ret pe_str)) pss_nil)
      (pss_one (ps_ret pe_str)))), ?_⟩
    have ho := hp.ho
    unfold vd at hP
    walk_at "sy"
    refine simS_if ?_
    walk_at "sy"
    refine ⟨o, cl, ll, ol, cs, r, most, rows, t, rfl, hp, hcs, hlr, hlen, hfew, hg, ht, ?_⟩
    refine ops_in_bls (ss := suresL rows cs) (.inr rfl) ?_
    rw [if_pos rfl]
    walk_at "sy"
    have hall : (suresL rows cs).all id = true ↔ ¬ (false ∈ suresL rows cs) := by
      rw [List.all_eq_true]
      constructor
      · intro h q
        exact absurd (h false q) (by decide)
      · intro h x hx
        cases x with
        | true => rfl
        | false => exact absurd hx h
    refine ite_dn (fun h => ?_) (fun h => ?_)
    · rw [if_pos (hall.mpr h)] at hP
      walk_at "sx"
      exact hP
    · rw [if_neg (fun q => hall.mp q h)] at hP
      walk_at "sx"
      refine ite_d (fun h => ?_) (fun h => ?_)
      · walk_at "sx"
        rw [if_pos (.inl (by omega))] at hP
        exact hP
      · rcases Bool.eq_false_or_eq_true r.again with hag | hag
        · walk_at "sx"
          refine ite_f (by rw [hag]; rfl) ?_
          walk_at "sx"
          rw [if_neg (by rw [hag]; simp; omega)] at hP
          exact hP
        · walk_at "sx"
          refine ite_t (by rw [hag]; rfl) ?_
          walk_at "sx"
          refine ite_d (fun h2 => ?_) (fun h2 => ?_)
          · walk_at "sx"
            rw [if_pos (.inr ⟨hag, by omega⟩)] at hP
            exact hP
          · walk_at "sx"
            rw [if_neg (by rintro (q | ⟨_, q⟩) <;> omega)] at hP
            exact hP
abbrev s_l_tops : Stmt := top 87
theorem sc_l_tops : FnScope ["_law_plan_here", "_law_games_here", "_law_record_here", "_law_scales", "_law_k", "_law_claims_here", "_law_ballot_here", "_law_claim", "_law_game_here", "_law_scale_here"] ["_law_plan_here", "_law_games_here", "_law_record_here"] (defScope s_l_tops) := ⟨rfl, rfl, rfl, by decide +kernel, rfl, by decide +kernel, by decide +kernel⟩
theorem ok_l_tops {f : Addr} {fd : FuncData} (F : Fun K "_law_tops" "_law_tops" s_l_tops f fd) (T : Txt K mg a) (h_l_claims : CalC P w K mg base 1 "_law_claims" (cLClaims)) (h_l_scale : CalC P w K mg base 5 "_law_scale" (cLScale)) (h_l_over : CalC P w K mg base 2 "_law_over" (cLOver)) : FnOk P w K mg base CX0 (5 + 1) f fd ["_law_plan_here", "_law_games_here", "_law_record_here"] (spOf K (cLTops)) := by
  refine def_ok F sc_l_tops ?_ ?_
  · rintro ds m PP ⟨o, cl, ll, ol, cs, r, most, rows, rec, rfl, hp, hcs, hlr, hnd, hrc, h0, h60, hbl, hdis, hP⟩
    rfl
  · rintro cdv A outer s H E hr ds m PP ⟨o, cl, ll, ol, cs, r, most, rows, rec, rfl, hp, hcs, hlr, hnd, hrc, h0, h60, hbl, hdis, hP⟩
    refine ⟨_, (pss_cons (ps_set (i := 3) sc_l_tops.nd rfl (by first | exact Or.inl rfl | exact Or.inr rfl) (pe_lst pa_nil))
      (pss_cons (ps_for PassesOwn.never rfl (pi_range1 (by rfl) T.b_range (pa_cons (pe_callB (pk_len T) (by rfl) T.b_len (by decide +kernel) (pa_cons (pv 1) pa_nil)) pa_nil)) (pg_name (i := 4) sc_l_tops.nd rfl (by first | exact Or.inl rfl | exact Or.inr rfl)) (pss_cons (ps_set (i := 5) sc_l_tops.nd rfl (by first | exact Or.inl rfl | exact Or.inr rfl) (pk_cal h_l_claims hr (by decide) (pa_cons (pe_ix (pk_ix T) (pe_dget (by exact hu_of hr) (pv 0) pe_str (fun _ _ => rfl)) (pv 4) (fun _ _ => rfl)) (pa_cons (pe_ix (pk_ix T) (pe_dget (by exact hu_of hr) (pv 0) pe_str (fun _ _ => rfl)) (pv 4) (fun _ _ => rfl)) pa_nil))))
      (pss_cons (ps_expr (pk_append T (pv 3) (pa_cons (pe_lc (own := [("_law_claim", 7)]) (g := (gName 7)) (tt := tYes) (by rfl) sc_l_tops.nd (pk_seq T (pv 5)) (blkOk_by (by kernel_rfl)) (fun _ _ _ _ _ => by exact (pg_name (i := 7) sc_l_tops.nd rfl (by first | exact Or.inl rfl | exact Or.inr rfl))) (fun _ _ _ _ _ => by exact pts_nil) (fun _ _ _ _ _ => by exact (pk_cal h_l_scale hr (by decide) (pa_cons (pv 7) (pa_cons (pe_lc (own := [("_law_ballot_here", 6)]) (g := (gName 6)) (tt := tYes) (by rfl) sc_l_tops.nd (pk_seq T (pv 2)) (blkOk_by (by kernel_rfl)) (fun _ _ _ _ _ => by exact (pg_name (i := 6) sc_l_tops.nd rfl (by first | exact Or.inl rfl | exact Or.inr rfl))) (fun _ _ _ _ _ => by exact pts_nil) (fun _ _ _ _ _ => by exact (pe_ix (pk_ix T) (pv 6) (pv 4) (fun _ _ => rfl)))) pa_nil))))) pa_nil)))
      (pss_one (ps_for PassesOwn.never rfl (pk_zip T (by rfl) T.b_zip (pa_cons (pe_ix (pk_ix T) (pv 1) (pv 4) (fun _ _ => rfl)) (pa_cons (pe_ix (pk_ix T) (pv 3) (pv 4) (fun _ _ => rfl)) pa_nil))) (pk_gtup T (n := 2) rfl (pgs_cons (pg_name (i := 8) sc_l_tops.nd rfl (by first | exact Or.inl rfl | exact Or.inr rfl)) (pgs_cons (pg_name (i := 9) sc_l_tops.nd rfl (by first | exact Or.inl rfl | exact Or.inr rfl)) pgs_nil))) (pss_one (ps_dput (by exact hu_of hr) (pv 8) pe_str (pk_cal h_l_over hr (by decide) (pa_cons (pe_tup (pa_cons pe_int (pa_cons pe_int pa_nil))) (pa_cons (pv 9) pa_nil))) rfl)))))))
      (pss_one (ps_ret (pv 3))))), ?_⟩
    have ho := hp.ho
    walk_at "sy"
    refine sim_lstM ?_
    walk_at "sy"
    intro l hl
    have hcl := hcs.hi
    have hlen : rows.length = cs.length := by
      have := congrArg List.length hrc
      rwa [List.length_map, List.length_map] at this
    refine simS_seq ?_
    refine simS_forM (List.range rows.length) (fun i : Nat => D.int i) (fun done ρ' m' => (∃ z4 z5 z6 z7 z8 z9 : Option D, ρ' = [some (.ptr o), some (rowsD rows), some (recL rec), some (.ptr l), z4, z5, z6, z7, z8, z9]) ∧
      m' l = some (.lst ((cs.zipIdx.take done.length).map fun p => .lst ((scl rec p).map fr))) ∧ LRows rows m' ∧ ∀ b, m b ≠ none → b ∉ adrs rows → m' b = m b) (ts := [4]) (simI_rng1 ?_)
    walk_at "sy"
    refine cs_len (.inl .val) ?_
    rw [List.length_map]
    walk_at "sy"
    refine ⟨by omega, rfl, ⟨⟨_, _, _, _, _, _, rfl⟩, mupd_same, hlr.frame fun b hb => mupd_ne fun e => hlr.some b hb (by rw [e]; exact hl), fun b hb _ => mupd_ne fun e => hb (by rw [e]; exact hl)⟩, fun _ _ _ _ => trivial, ?_, ?_⟩
    · rintro done k rest ρ' m' hsplit ⟨⟨z4, z5, z6, z7, z8, z9, rfl⟩, hml, hlr', hfr⟩
      obtain ⟨hk1, hk2⟩ := range_split hsplit
      obtain ⟨p, hpk⟩ : ∃ p, cs[k]? = some p := ⟨cs[k]'(by omega), List.getElem?_eq_getElem (by omega)⟩
      obtain ⟨row, hrk⟩ : ∃ row, rows[k]? = some row := ⟨rows[k], List.getElem?_eq_getElem hk2⟩
      have hrm := List.mem_of_getElem? hrk
      obtain ⟨hcok, hout, hone, hlim⟩ := hcs.ok p (List.mem_of_getElem? hpk)
      have hclok := Con.claims_ok (con_ok hcok hone hout)
      have hcll := Con.claims_len (con_ok hcok hone hout)
      have hnl : ∀ b ∈ adrs rows, b ≠ l := fun b hb e => hlr.some b hb (by rw [e]; exact hl)
      have hp' : PlanAt o cl ll ol cs r most m' := hp.frame fun b hb hx => hfr b hb fun q => by
        have := hdis b q
        rcases hx with rfl | rfl | rfl | rfl
        · exact this.1 rfl
        · exact this.2.1 rfl
        · exact this.2.2.1 rfl
        · exact this.2.2.2 rfl
      have hrow : row.map (·.1.1) = p.con.claims p.out := by
        have e1 : (rows.map fun row => row.map (·.1.1))[k]? = some (row.map (·.1.1)) := by rw [List.getElem?_map, hrk]; rfl
        rw [hrc, List.getElem?_map, hpk] at e1
        exact (Option.some.inj e1).symm
      have ho' := hp'.ho
      walk_at "sy"
      refine ops_ixL' (.mut hp'.hc) (atI_nat (v := p.con.lD) (by rw [List.getElem?_map, hpk]; rfl)) ?_
      walk_at "sy"
      refine ops_ixL' (.mut hp'.hu) (atI_nat (v := strsD p.out) (by rw [List.getElem?_map, hpk]; rfl)) ?_
      walk_at "sy"
      refine ⟨p.con, p.out, rfl, hcok, hout, ?_⟩
      walk_at "sy"
      refine sim_lcM (p.con.claims p.out) Claim.lD (fun c => fr (c.scale (rec.map fun b => b.getD k none))) (ts := [7]) (by decide) (simI_seq ?_)
      walk_at "sy"
      refine ⟨_, .inl .val, rfl, by omega, .inl .val, fun c hc => ?_, ?_⟩
      · walk_at "sy"
        refine sim_lcM rec (fun b => .tup (b.map mkD)) (fun b => mkD (b.getD k none)) (ts := [6]) (by decide) (simI_seq ?_)
        walk_at "sy"
        refine ⟨_, .inl .val, rfl, by omega, .inl .val, fun b hb => ?_, ?_⟩
        · walk_at "sy"
          have hkb : k < b.length := by rw [hbl b hb]; omega
          refine ops_ixT' (atI_nat (v := mkD (b.getD k none)) ?_) ⟨rfl, rfl⟩
          rw [List.getElem?_map, List.getElem?_eq_getElem hkb, List.getD_eq_getElem?_getD, List.getElem?_eq_getElem hkb]
          rfl
        walk_at "sy"
        exact ⟨c, _, (rec.map fun b : List Mark => b.getD k none), rfl, .inl (by rw [List.map_map]; exact .val), hclok c hc, by rw [List.length_map]; exact h0, by rw [List.length_map]; exact h60, rfl, rfl⟩
      refine apl2 hml (by rw [List.length_map, List.length_take]; omega) ?_
      have hzk : cs.zipIdx[k]? = some (p, k) := by rw [List.getElem?_zipIdx, hpk]; simp
      have e1 : ((cs.zipIdx.take done.length).map fun p => D.lst ((scl rec p).map fr)) ++ [D.lst ((p.con.claims p.out).map fun c => fr (c.scale (rec.map fun b => b.getD k none)))] = (cs.zipIdx.take (done ++ [k]).length).map fun p => D.lst ((scl rec p).map fr) := by
        rw [List.length_append, List.length_singleton, List.take_add_one, ← hk1, hzk, List.map_append]
        congr 1
        simp only [Option.toList, List.map_cons, List.map_nil, scl, List.map_map]
        rfl
      rw [e1]
      have hml2 : ∀ x, mupd m' l x l = some x := fun x => mupd_same
      have hlr2 : LRows rows (mupd m' l (.lst ((cs.zipIdx.take (done ++ [k]).length).map fun p => D.lst ((scl rec p).map fr)))) := hlr'.frame fun b hb => mupd_ne (hnl b hb)
      have hrD : rowD row = .lst (row.map fun q => D.ptr q.2.1) := rfl
      refine simS_forM row (fun q => .tup [.ptr q.2.1, fr (q.1.1.scale (rec.map fun b => b.getD k none))]) (fun _ ρ2 m2 => (∃ z5 z6 z7 z8 z9 : Option D, ρ2 = [some (.ptr o), some (rowsD rows), some (recL rec), some (.ptr l), some (.int k), z5, z6, z7, z8, z9]) ∧
        m2 l = some (.lst ((cs.zipIdx.take (done ++ [k]).length).map fun p => .lst ((scl rec p).map fr))) ∧ LRows rows m2 ∧ ∀ b, m b ≠ none → b ∉ adrs rows → m2 b = m b) (ts := [8, 9]) (simI_zip ?_)
      walk_at "sy"
      refine ops_ixL' .val (atI_nat (v := rowD row) (by rw [List.getElem?_map, hrk]; rfl)) ?_
      walk_at "sy"
      refine ops_ixL' (.mut (hml2 _)) (atI_nat (v := .lst ((scl rec (p, k)).map fr)) (by rw [List.getElem?_map, List.getElem?_take, if_pos (by rw [List.length_append, List.length_singleton]; omega), hzk]; rfl)) ?_
      walk_at "sy"
      refine ⟨_, _, row.map fun q => D.ptr q.2.1, (scl rec (p, k)).map fr, rfl, .inl .val, .inl .val, ?_, ⟨⟨_, _, _, _, _, rfl⟩, hml2 _, hlr2, fun b hb hb2 => ?_⟩, fun _ _ _ _ => ⟨.inl .val, .inl .val⟩, ?_, ?_⟩
      · unfold zipD scl
        rw [← hrow, List.map_map, List.map_map, List.zip_map', List.map_map]
        rfl
      · rw [mupd_ne fun e => hb (by rw [e]; exact hl)]
        exact hfr b hb hb2
      · rintro dn q rst ρ2 m2 hsp ⟨⟨y5, y6, y7, y8, y9, rfl⟩, hm2l, hm2r, hm2f⟩
        have hqm : q ∈ row := by rw [hsp]; simp
        have hqc : q.1.1 ∈ p.con.claims p.out := by rw [← hrow]; exact List.mem_map_of_mem hqm
        have hsb := Claim.scale_bd (hclok _ hqc) (mks := rec.map fun b : List Mark => b.getD k none) (by rw [List.length_map]; exact h0) (by rw [List.length_map]; exact h60)
        have hsp2 := Claim.scale_pos (hclok _ hqc) (mks := rec.map fun b : List Mark => b.getD k none) (by rw [List.length_map]; exact h0)
        obtain ⟨top, hla⟩ := hm2r row hrm q hqm
        have hlao := hla.ho
        walk_at "sy"
        refine ⟨2, 1, _, _, 2, 46, rfl, by decide, num_pos hsp2, den_pos _, by decide, by decide, hsb.1, hsb.dn, by omega, ?_⟩
        walk_at "sy"
        refine ⟨⟨_, _, _, _, _, rfl⟩, ?_, rows_top hm2r hnd hrm hqm _, fun b hb hb2 => ?_⟩
        · rw [mupd_ne (Ne.symm (hnl _ (List.mem_flatMap.mpr ⟨row, hrm, (adr_mem hqm).1⟩)))]
          exact hm2l
        · rw [mupd_ne fun e => hb2 (by rw [e]; exact List.mem_flatMap.mpr ⟨row, hrm, (adr_mem hqm).1⟩)]
          exact hm2f b hb hb2
      · rintro ρ2 m2 ⟨⟨y5, y6, y7, y8, y9, rfl⟩, hm2l, hm2r, hm2f⟩
        exact ⟨⟨_, _, _, _, _, _, rfl⟩, hm2l, hm2r, hm2f⟩
    · rintro ρ' m' ⟨⟨z4, z5, z6, z7, z8, z9, rfl⟩, hml, hlr', hfr⟩
      refine simS_ret (sim_frzL ?_)
      walk_at "sy"
      have hnl : ∀ b ∈ adrs rows, b ≠ l := fun b hb e => hlr.some b hb (by rw [e]; exact hl)
      rw [List.length_range, hlen, List.take_of_length_le (by rw [List.length_zipIdx]; omega)]
      refine hP _ (hlr'.frame fun b hb => if_neg (hnl b hb)) fun b hb hb2 => ?_
      exact (if_neg fun e => hb (by rw [e]; exact hl)).trans (hfr b hb hb2)
end
end L3

/-! text L4j -/
set_option Elab.async false
set_option linter.all false
set_option maxRecDepth 100000
set_option maxHeartbeats 4000000
set_option pp.maxSteps 1500
namespace L3
open PySem L2
open scoped Rat
local macro_rules | `(tactic| walk_at "ca") => `(tactic| first
  | exact Txt.k_Game (by assumption)
  | exact Txt.n_Game_many (by assumption)
  | exact Txt.n_Game_again (by assumption)
  | exact Txt.n_Game_highest (by assumption)
  | exact Txt.n_Game_rule (by assumption)
  | exact Txt.n_Game_drawn_values (by assumption)
  | exact Txt.n_Game_sum_so_far (by assumption)
  | exact Txt.n_Game_now (by assumption)
  | exact Txt.n_Game_most (by assumption)
  | exact Txt.n_Game_certain (by assumption)
  | exact Txt.k_Way (by assumption)
  | exact Txt.n_Way_claim (by assumption)
  | exact Txt.k_Comparing (by assumption)
  | exact Txt.n_Comparing_claim (by assumption)
  | exact Txt.n_Comparing_told (by assumption)
  | exact Txt.n_Comparing_scale (by assumption)
  | exact Txt.k_Sheet (by assumption)
  | exact Txt.n_Sheet_names (by assumption)
  | exact Txt.n_Sheet_limit (by assumption)
  | exact Txt.n_Sheet_ways (by assumption)
  | exact Txt.n_Sheet_games (by assumption)
  | exact Txt.k_Audit (by assumption)
  | exact Txt.n_Audit_sheets (by assumption)
  | exact Txt.n_Audit_many (by assumption)
  | exact Txt.n_Audit_again (by assumption)
  | exact Txt.n_Audit_most (by assumption)
  | exact Txt.n_Audit_numbers (by assumption)
  | exact Txt.k_Beats (by assumption)
  | exact Txt.n_Beats_one (by assumption)
  | exact Txt.n_Beats_other (by assumption)
  | exact Txt.k_Over (by assumption)
  | exact Txt.n_Over_name (by assumption)
  | exact Txt.n_Over_share (by assumption)
  | exact Txt.k_Under (by assumption)
  | exact Txt.n_Under_name (by assumption)
  | exact Txt.n_Under_share (by assumption)
  | exact Txt.k_Contest (by assumption)
  | exact Txt.n_Contest_names (by assumption)
  | exact Txt.k_Most (by assumption)
  | exact Txt.n_Most_names (by assumption)
  | exact Txt.n_Most_seats (by assumption)
  | exact Txt.k_Portion (by assumption)
  | exact Txt.n_Portion_names (by assumption)
  | exact Txt.n_Portion_share (by assumption)
  | exact Txt.k_Fixed (by assumption)
  | exact Txt.n_Fixed_part (by assumption))
local macro_rules | `(tactic| walk_at "ne") => `(tactic| first
  | assumption
  | (refine Ne.symm ?_; assumption)
  | exact mne (by assumption) (by assumption)
  | exact (mne (by assumption) (by assumption)).symm)
local macro_rules | `(tactic| walk_at "mm") => `(tactic| first
  | assumption
  | exact mupd_same
  | (refine (mupd_ne ?_).trans ?_; (walk_at "ne"); (walk_at "mm")))
local macro_rules | `(tactic| walk_at "s0") => `(tactic| first
  | with_reducible refine simS_seq ?_
  | with_reducible refine simS_ret ?_
  | with_reducible refine simS_retN ?_
  | with_reducible refine simS_set ?_
  | with_reducible refine simS_drop ?_
  | with_reducible refine simS_next ?_
  | with_reducible refine simS_fld ?_
  | with_reducible refine simS_dput ?_
  | with_reducible refine simT_test ?_
  | with_reducible refine simT_B ?_
  | with_reducible refine simT_not ?_
  | with_reducible refine simT_and ?_
  | with_reducible refine simT_or ?_
  | focus ((with_reducible refine sim_var (d := ?_) ?_ ?_); rotate_left 1; exact rfl)
  | with_reducible refine sim_int ?_
  | with_reducible refine sim_bl ?_
  | with_reducible refine sim_str ?_
  | with_reducible refine sim_non ?_
  | with_reducible refine sim_ty ?_
  | with_reducible refine sim_c (Txt.t_NOUGHT_games (by assumption)) ?_
  | with_reducible refine sim_c (Txt.t_ONE_games (by assumption)) ?_
  | with_reducible refine sim_c (Txt.t_ONE_ways (by assumption)) ?_
  | with_reducible refine sim_c (Txt.t_TWO (by assumption)) ?_
  | with_reducible refine sim_c (Txt.t_NOUGHT_claims (by assumption)) ?_
  | with_reducible refine sim_c (Txt.t_HALF (by assumption)) ?_
  | with_reducible refine sim_c (Txt.t_ONE_claims (by assumption)) ?_
  | with_reducible refine sim_ref ?_
  | with_reducible refine sim_op ?_
  | with_reducible refine sim_un ?_
  | with_reducible refine sim_andV ?_
  | with_reducible refine sim_orV ?_
  | with_reducible refine sim_notV ?_
  | with_reducible refine sim_chain ?_
  | with_reducible refine sim_tup ?_
  | with_reducible refine sim_call ?_
  | with_reducible refine sim_callB ?_
  | with_reducible refine sim_fldU ?_
  | with_reducible refine sim_append ?_
  | focus ((with_reducible refine apl (ds := ?_) ?_ ?_); rotate_left 1; walk_at "mm")
  | with_reducible refine sim_methU ?_
  | with_reducible refine sim_cfn ?_
  | with_reducible refine sim_dget ?_
  | with_reducible refine sim_sl ?_
  | with_reducible refine simO_none ?_
  | with_reducible refine simO_some ?_
  | with_reducible refine simA_cons ?_
  | with_reducible refine simA_nil ?_
  | with_reducible refine simG_name ?_
  | with_reducible refine simG_pair ?_
  | with_reducible refine ops_addI ?_
  | with_reducible refine uns_I (g := fun i => -i) ?_
  | with_reducible refine simG_triple ?_
  | with_reducible refine ops_subI ?_
  | with_reducible refine ops_lt ?_
  | with_reducible refine ops_le ?_
  | with_reducible refine ops_gt ?_
  | with_reducible refine ops_ge ?_
  | with_reducible refine ops_eqI ?_
  | with_reducible refine ops_neI ?_
  | with_reducible refine ops_eqSt ?_
  | with_reducible refine ops_eqNS ?_
  | with_reducible refine eq_mk ?_
  | with_reducible refine eq_bl ?_
  | with_reducible refine ops_isN ?_
  | with_reducible refine ops_notN ?_
  | with_reducible refine cs_abs ?_
  | focus ((with_reducible refine cs_isi2 (t := ?_) (b := ?_) ?_ ?_ ?_ ?_); rotate_left 2; exact rfl; exact rfl; exact rfl)
  | with_reducible refine cs_max2 ?_
  | with_reducible refine cs_min2 ?_
  | focus ((with_reducible refine ops_ixT' (d := ?_) ?_ ?_); rotate_left 1; exact rfl)
  | focus ((with_reducible refine fld_o (d := ?_) ?_ ?_ ?_ ?_); rotate_left 1; walk_at "ca"; walk_at "ca"; exact rfl)
  | focus ((with_reducible refine fld_p (C := ?_) (fs := ?_) (d := ?_) ?_ ?_ ?_ ?_ ?_); rotate_left 3; walk_at "mm"; walk_at "ca"; walk_at "ca"; exact rfl)
  | focus ((with_reducible refine And.intro (?_ : Mth _ _ _ _) ?_); exact mth_o (by rfl))
  | focus ((with_reducible refine ⟨mth_p (fs := ?_) ?_ ?_, ?_⟩); rotate_left 1; walk_at "mm"; exact rfl)
  | focus ((with_reducible refine setf (C := ?_) (fs := ?_) ?_ ?_ ?_ ?_ ?_); rotate_left 2; walk_at "mm"; walk_at "ca"; walk_at "ca"; exact of_decide_eq_true rfl)
  | focus ((with_reducible refine dgt (kvs := ?_) (k := ?_) (d := ?_) ?_ ?_ ?_ ?_); rotate_left 3; walk_at "mm"; exact rfl; exact rfl)
  | focus ((with_reducible refine dpt (kvs := ?_) (k := ?_) ?_ ?_ ?_ ?_); rotate_left 2; walk_at "mm"; exact rfl; exact of_decide_eq_true rfl)
  | (with_reducible refine ⟨_, rfl, ?_⟩)
  | (with_reducible refine ⟨rfl, ?_⟩)
  | focus ((with_reducible refine ⟨Nat.le_of_ble_eq_true ?_, ?_⟩); exact rfl)
  | with_reducible refine ite_T ?_
  | with_reducible refine ite_nF ?_
  | with_reducible refine ite_nT ?_
  | with_reducible refine ite_F ?_)
local macro_rules | `(tactic| walk_at "s1") => `(tactic| first
  | walk_at "s0"
  | with_reducible refine simS_if ?_)
local macro_rules | `(tactic| walk_at "sx") => `(tactic| repeat walk_at "s1")
local macro_rules | `(tactic| walk_at "sy") => `(tactic| repeat walk_at "s0")

section
variable {P : Program} {w : World} {K : PySem.W.Frag} {mg : Str → Option Value} {base : Heap} {a : Adr}

/-! L4j: the law's audit; the games beside. -/
def cLAudit (a : Adr) : Ctr := fun ds m P => ∃ o cl ll ol cs r most, ∃ rec : List (List Mark), ds = [.ptr o, recD rec] ∧ PlanAt o cl ll ol cs r most m ∧ cs.length ≤ 2 ∧ 1 ≤ cs.length ∧ r.Ok ∧ 0 < rec.length ∧ rec.length ≤ 60 ∧ (∀ b ∈ rec, b.length = cs.length) ∧ (∀ p ∈ cs.zipIdx, PnOk rec p) ∧
  ∀ m' o2 nl (sas : List Addr), sas.length = cs.length → AuAt a ⟨r, most, []⟩ o2 nl (sas.zip (cs.zipIdx.map (Sh.new rec))) m' → m o2 = none → m nl = none → (∀ s ∈ sas, m s = none) → (∀ b, m b ≠ none → m' b = m b) → P (.ptr o2) m'
abbrev s_l_audit : Stmt := top 85
theorem sc_l_audit : FnScope ["_law_plan_here", "_law_record_here", "_law_contests", "_law_contest_here", "_law_rule"] ["_law_plan_here", "_law_record_here"] (defScope s_l_audit) := ⟨rfl, rfl, rfl, by decide +kernel, rfl, by decide +kernel, by decide +kernel⟩
theorem ok_l_audit {f : Addr} {fd : FuncData} (F : Fun K "_law_audit" "_law_audit" s_l_audit f fd) (T : Txt K mg a) (h_l_contest_made : CalC P w K mg base 4 "_law_contest_made" (cLMade a)) (h_Fixed : MakC P w K mg base 1 "Fixed" a.Fixed (cFixedInit a)) (h_Audit : MakC P w K mg base 11 "Audit" a.Audit (cAuditInit a)) : FnOk P w K mg base CX0 (12 + 1) f fd ["_law_plan_here", "_law_record_here"] (spOf K (cLAudit a)) := by
  refine def_ok F sc_l_audit ?_ ?_
  · rintro ds m PP ⟨o, cl, ll, ol, cs, r, most, rec, rfl, hp, hc2, hc1, hro, h0, h60, hbl, hpn, hP⟩
    rfl
  · rintro cdv A outer s H E hr ds m PP ⟨o, cl, ll, ol, cs, r, most, rec, rfl, hp, hc2, hc1, hro, h0, h60, hbl, hpn, hP⟩
    refine ⟨_, (pss_cons (ps_set (i := 2) sc_l_audit.nd rfl (by first | exact Or.inl rfl | exact Or.inr rfl) (pe_callTy (pk_tuple T) (by rfl) T.b_tuple (by decide +kernel) (pa_cons (pe_lc (own := [("_law_contest_here", 3)]) (g := (gName 3)) (tt := tYes) (by rfl) sc_l_audit.nd (pk_seq T (pe_dget (by exact hu_of hr) (pv 0) pe_str (fun _ _ => rfl))) (blkOk_by (by kernel_rfl)) (fun _ _ _ _ _ => by exact (pg_name (i := 3) sc_l_audit.nd rfl (by first | exact Or.inl rfl | exact Or.inr rfl))) (fun _ _ _ _ _ => by exact pts_nil) (fun _ _ _ _ _ => by exact (pk_cal h_l_contest_made hr (by decide) (pa_cons (pv 3) pa_nil)))) pa_nil)))
      (pss_cons (ps_set (i := 4) sc_l_audit.nd rfl (by first | exact Or.inl rfl | exact Or.inr rfl) (pk_mak h_Fixed hr (by decide) (pa_cons (pe_dget (by exact hu_of hr) (pv 0) pe_str (fun _ _ => rfl)) pa_nil)))
      (pss_one (ps_ret (pk_mak h_Audit hr (by decide) (pa_cons (pv 2) (pa_cons (pe_callTy (pk_tuple T) (by rfl) T.b_tuple (by decide +kernel) (pa_cons (pe_dget (by exact hu_of hr) (pv 0) pe_str (fun _ _ => rfl)) pa_nil)) (pa_cons (pe_callTy (pk_tuple T) (by rfl) T.b_tuple (by decide +kernel) (pa_cons (pe_dget (by exact hu_of hr) (pv 0) pe_str (fun _ _ => rfl)) pa_nil)) (pa_cons (pe_dget (by exact hu_of hr) (pv 0) pe_str (fun _ _ => rfl)) (pa_cons (pv 1) (pa_cons (pv 4) (pa_cons (pe_dget (by exact hu_of hr) (pv 0) pe_str (fun _ _ => rfl)) (pa_cons (pe_dget (by exact hu_of hr) (pv 0) pe_str (fun _ _ => rfl)) pa_nil))))))))))))), ?_⟩
    have ho := hp.ho
    walk_at "sy"
    refine sim_lcM cs (fun p => p.con.lD) (fun p => p.con.pD a) (ts := [3]) (by decide) (simI_seq ?_)
    walk_at "sy"
    refine ⟨_, .inl (.mut hp.hc), rfl, by omega, .inl (.mut hp.hc), fun p hpm => ?_, ?_⟩
    · walk_at "sy"
      exact ⟨p.con, rfl, rfl, rfl⟩
    walk_at "sy"
    refine cs_tuple (.inl .val) ?_
    walk_at "sy"
    refine sim_frzI (sim_make ?_)
    walk_at "sy"
    intro q hq
    refine ⟨q, _, rfl, mupd_same, rfl, q, _, _, rfl, mupd_same, ?_⟩
    rw [mupd_upd, mdel_upd hq]
    walk_at "sy"
    refine sim_make ?_
    walk_at "sy"
    refine cs_tuple (.inl (.mut hp.hu)) ?_
    walk_at "sy"
    refine cs_tuple (.inl (.mut hp.hl)) ?_
    walk_at "sy"
    intro o2 ho2
    refine ⟨o2, cs, rec, r, most, rfl, mupd_same, hc2, hc1, hro, h0, h60, hbl, hpn, fun m' nl sas hsl hau hnl hsas hfr => ⟨rfl, ?_⟩⟩
    have hn : ∀ b, mupd m o2 (.ins a.Audit []) b = none → m b = none := fun b hb => by
      have : b ≠ o2 := fun e => by
        rw [e, mupd_same] at hb
        cases hb
      rw [mupd_ne this] at hb
      exact hb
    refine hP m' o2 nl sas hsl hau ho2 (hn nl hnl) (fun s hs => hn s (hsas s hs)) fun b hb => ?_
    have hb2 : b ≠ o2 := fun e => hb (by rw [e]; exact ho2)
    rw [hfr b hb2 (by rw [mupd_ne hb2]; exact hb), mupd_ne hb2]
theorem lrows_flat {rows : List Row} {m : Mem} : LRows rows m ↔ RowAt rows.flatten m := by
  constructor
  · intro h q hq
    obtain ⟨row, hr, hq⟩ := List.mem_flatten.mp hq
    exact h row hr q hq
  · intro h row hr q hq
    exact h q (List.mem_flatten.mpr ⟨row, hr, hq⟩)
theorem rows_play {X : List Row} {Y Z : Row} {W : List Row} {q : (Claim × Gm) × (Addr × Addr)} {m m2 : Mem} {g : Gm} (h : LRows (X ++ (Y ++ q :: Z) :: W) m) (hn : (adrs (X ++ (Y ++ q :: Z) :: W)).Nodup) (hg : ∃ top, LAt top g q.2.1 q.2.2 m2) (hoff : Off2 m m2 q.2.1 q.2.2) :
    LRows (X ++ (Y ++ ((q.1.1, g), q.2) :: Z) :: W) m2 := by
  have ef : ∀ q, (X ++ (Y ++ q :: Z) :: W).flatten = (X.flatten ++ Y) ++ q :: (Z ++ W.flatten) := fun q => by simp
  rw [lrows_flat, ef] at h ⊢
  rw [adrs_flat, ef, adr_append] at hn
  have e2 : adr (q :: (Z ++ W.flatten)) = q.2.1 :: q.2.2 :: adr (Z ++ W.flatten) := rfl
  rw [e2] at hn
  obtain ⟨n1, n2, n3⟩ := List.nodup_append.mp hn
  obtain ⟨n4, n5⟩ := List.nodup_cons.mp n2
  obtain ⟨n6, n7⟩ := List.nodup_cons.mp n5
  have key : ∀ x ∈ (X.flatten ++ Y) ++ (Z ++ W.flatten), ∃ top, LAt top x.1.2 x.2.1 x.2.2 m2 := by
    intro x hx
    have hd : x.2.1 ≠ q.2.1 ∧ x.2.1 ≠ q.2.2 ∧ x.2.2 ≠ q.2.1 ∧ x.2.2 ≠ q.2.2 := by
      rcases List.mem_append.mp hx with hx | hx
      · have := adr_mem hx
        exact ⟨n3 _ this.1 _ (by simp), n3 _ this.1 _ (by simp), n3 _ this.2 _ (by simp), n3 _ this.2 _ (by simp)⟩
      · have := adr_mem hx
        exact ⟨fun e => n4 (by rw [← e]; exact List.mem_cons_of_mem _ this.1), fun e => n6 (by rw [← e]; exact this.1), fun e => n4 (by rw [← e]; exact List.mem_cons_of_mem _ this.2), fun e => n6 (by rw [← e]; exact this.2)⟩
    have hxm : x ∈ (X.flatten ++ Y) ++ q :: (Z ++ W.flatten) := by
      rcases List.mem_append.mp hx with hx | hx
      · exact List.mem_append.mpr (.inl hx)
      · exact List.mem_append.mpr (.inr (List.mem_cons_of_mem _ hx))
    obtain ⟨top, ht⟩ := h x hxm
    exact ⟨top, (hoff _ hd.1 hd.2.1).trans ht.ho, (hoff _ hd.2.2.1 hd.2.2.2).trans ht.hl⟩
  intro x hx
  rcases List.mem_append.mp hx with hx | hx
  · exact key x (List.mem_append.mpr (.inl hx))
  · rcases List.mem_cons.mp hx with rfl | hx
    · exact hg
    · exact key x (List.mem_append.mpr (.inr hx))
/-- a game played in row k -/
def plq (r : Rl) (rec : List (List Mark)) (told mks : List Mark) (k : Nat) (q : (Claim × Gm) × (Addr × Addr)) : (Claim × Gm) × (Addr × Addr) :=
  ((q.1.1, q.1.2.play r (q.1.1.cmp (q.1.1.scale (rec.map fun b => b.getD k none)) (told.getD k none) (mks.getD k none))), q.2)
def plRows (r : Rl) (rec : List (List Mark)) (told mks : List Mark) (rows : List Row) : List Row := rows.zipIdx.map fun p => p.1.map (plq r rec told mks p.2)
theorem adr_pl (r : Rl) (rec : List (List Mark)) (told mks : List Mark) (k : Nat) (row : Row) : adr (row.map (plq r rec told mks k)) = adr row := by
  unfold adr
  rw [List.flatMap_map]
  rfl
theorem adrs_pl (r : Rl) (rec : List (List Mark)) (told mks : List Mark) (rows : List Row) : adrs (plRows r rec told mks rows) = adrs rows := by
  unfold adrs plRows
  rw [List.flatMap_map]
  have e : rows.zipIdx.flatMap (fun p => adr (p.1.map (plq r rec told mks p.2))) = rows.zipIdx.flatMap fun p => adr p.1 := by
    congr 1
    funext p
    exact adr_pl r rec told mks p.2 p.1
  rw [e]
  have e2 : rows.zipIdx.flatMap (fun p => adr p.1) = (rows.zipIdx.map (·.1)).flatMap adr := by rw [List.flatMap_map]
  rw [e2, List.zipIdx_map_fst]
theorem pl_snoc (r : Rl) (rec : List (List Mark)) (told mks : List Mark) {rows : List Row} {k : Nat} {row : Row} (h : rows[k]? = some row) : plRows r rec told mks (rows.take (k + 1)) = plRows r rec told mks (rows.take k) ++ [row.map (plq r rec told mks k)] := by
  have hk := (List.getElem?_eq_some_iff.mp h).1
  unfold plRows
  rw [List.take_add_one, h, List.zipIdx_append, List.map_append]
  congr 1
  simp only [Option.toList, List.zipIdx_cons, List.zipIdx_nil, List.map_cons, List.map_nil, List.length_take]
  rw [Nat.min_eq_left (by omega), Nat.zero_add]
theorem adrs_append (X Y : List Row) : adrs (X ++ Y) = adrs X ++ adrs Y := List.flatMap_append
theorem drop_cons {α : Type} {xs : List α} {k : Nat} {x : α} (h : xs[k]? = some x) : xs.drop k = x :: xs.drop (k + 1) := by
  obtain ⟨h1, h2⟩ := List.getElem?_eq_some_iff.mp h
  rw [← h2, List.getElem_cons_drop]
def cLBeside : Ctr := fun ds m P => ∃ o cl ll ol cs r most, ∃ (rows : List Row) (rec : List (List Mark)) (told mks : List Mark) (t : Nat), ds = [.ptr o, rowsD rows, sclD rec cs, .tup (told.map mkD), .tup (mks.map mkD)] ∧ PlanAt o cl ll ol cs r most m ∧ CsOk cs ∧ r.Ok ∧ LRows rows m ∧ (adrs rows).Nodup ∧ (rows.map fun row => row.map (·.1.1)) = (cs.map fun p => p.con.claims p.out) ∧ 0 < rec.length ∧ rec.length ≤ 60 ∧ told.length = cs.length ∧ mks.length = cs.length ∧
  RGood r t rows ∧ t < 12 ∧ (r.again = false → t < r.many) ∧ (∀ b ∈ adrs rows, b ≠ o ∧ b ≠ cl ∧ b ≠ ll ∧ b ≠ ol) ∧
  ∀ m', LRows (plRows r rec told mks rows) m' → (∀ b, b ∉ adrs rows → m' b = m b) → P .non m'
abbrev s_l_drawn_beside : Stmt := top 88
theorem sc_l_drawn_beside : FnScope ["_law_plan_here", "_law_games_here", "_law_scales", "_law_told_here", "_law_marks", "_law_k", "_law_claims_here", "_law_j", "_law_value_here"] ["_law_plan_here", "_law_games_here", "_law_scales", "_law_told_here", "_law_marks"] (defScope s_l_drawn_beside) := ⟨rfl, rfl, rfl, by decide +kernel, rfl, by decide +kernel, by decide +kernel⟩
theorem ok_l_drawn_beside {f : Addr} {fd : FuncData} (F : Fun K "_law_drawn_beside" "_law_drawn_beside" s_l_drawn_beside f fd) (T : Txt K mg a) (h_l_claims : CalC P w K mg base 1 "_law_claims" (cLClaims)) (h_l_compared : CalC P w K mg base 4 "_law_compared" (cLCompared)) (h_l_play : CalC P w K mg base 4 "_law_play" (cLPlay)) : FnOk P w K mg base CX0 (4 + 1) f fd ["_law_plan_here", "_law_games_here", "_law_scales", "_law_told_here", "_law_marks"] (spOf K (cLBeside)) := by
  refine def_ok F sc_l_drawn_beside ?_ ?_
  · rintro ds m PP ⟨o, cl, ll, ol, cs, r, most, rows, rec, told, mks, t, rfl, hp, hcs, hro, hlr, hnd, hrc, h0, h60, htl, hml, hg, ht, hl, hdis, hP⟩
    rfl
  · rintro cdv A outer s H E hr ds m PP ⟨o, cl, ll, ol, cs, r, most, rows, rec, told, mks, t, rfl, hp, hcs, hro, hlr, hnd, hrc, h0, h60, htl, hml, hg, ht, hl, hdis, hP⟩
    refine ⟨_, (pss_one (ps_for PassesOwn.never rfl (pi_range1 (by rfl) T.b_range (pa_cons (pe_callB (pk_len T) (by rfl) T.b_len (by decide +kernel) (pa_cons (pv 1) pa_nil)) pa_nil)) (pg_name (i := 5) sc_l_drawn_beside.nd rfl (by first | exact Or.inl rfl | exact Or.inr rfl)) (pss_cons (ps_set (i := 6) sc_l_drawn_beside.nd rfl (by first | exact Or.inl rfl | exact Or.inr rfl) (pk_cal h_l_claims hr (by decide) (pa_cons (pe_ix (pk_ix T) (pe_dget (by exact hu_of hr) (pv 0) pe_str (fun _ _ => rfl)) (pv 5) (fun _ _ => rfl)) (pa_cons (pe_ix (pk_ix T) (pe_dget (by exact hu_of hr) (pv 0) pe_str (fun _ _ => rfl)) (pv 5) (fun _ _ => rfl)) pa_nil))))
      (pss_one (ps_for PassesOwn.never rfl (pi_range1 (by rfl) T.b_range (pa_cons (pe_callB (pk_len T) (by rfl) T.b_len (by decide +kernel) (pa_cons (pv 6) pa_nil)) pa_nil)) (pg_name (i := 7) sc_l_drawn_beside.nd rfl (by first | exact Or.inl rfl | exact Or.inr rfl)) (pss_cons (ps_set (i := 8) sc_l_drawn_beside.nd rfl (by first | exact Or.inl rfl | exact Or.inr rfl) (pk_cal h_l_compared hr (by decide) (pa_cons (pe_ix (pk_ix T) (pv 6) (pv 7) (fun _ _ => rfl)) (pa_cons (pe_ix (pk_ix T) (pv 3) (pv 5) (fun _ _ => rfl)) (pa_cons (pe_ix (pk_ix T) (pe_ix (pk_ix T) (pv 2) (pv 5) (fun _ _ => rfl)) (pv 7) (fun _ _ => rfl)) (pa_cons (pe_ix (pk_ix T) (pv 4) (pv 5) (fun _ _ => rfl)) pa_nil))))))
      (pss_one (ps_expr (pk_cal h_l_play hr (by decide) (pa_cons (pe_ix (pk_ix T) (pe_ix (pk_ix T) (pv 1) (pv 5) (fun _ _ => rfl)) (pv 7) (fun _ _ => rfl)) (pa_cons (pe_dget (by exact hu_of hr) (pv 0) pe_str (fun _ _ => rfl)) (pa_cons (pe_dget (by exact hu_of hr) (pv 0) pe_str (fun _ _ => rfl)) (pa_cons (pe_dget (by exact hu_of hr) (pv 0) pe_str (fun _ _ => rfl)) (pa_cons (pv 8) pa_nil)))))))))))))), ?_⟩
    have ho := hp.ho
    walk_at "sy"
    have hcl := hcs.hi
    have hlen : rows.length = cs.length := by
      have := congrArg List.length hrc
      rwa [List.length_map, List.length_map] at this
    refine simS_forM (List.range rows.length) (fun i : Nat => D.int i) (fun done ρ' m' => (∃ z5 z6 z7 z8 : Option D, ρ' = [some (.ptr o), some (rowsD rows), some (sclD rec cs), some (.tup (told.map mkD)), some (.tup (mks.map mkD)), z5, z6, z7, z8]) ∧
      LRows (plRows r rec told mks (rows.take done.length) ++ rows.drop done.length) m' ∧ ∀ b, b ∉ adrs rows → m' b = m b) (ts := [5]) (simI_rng1 ?_)
    walk_at "sy"
    refine cs_len (.inl .val) ?_
    rw [List.length_map]
    walk_at "sy"
    refine ⟨by omega, rfl, ⟨⟨_, _, _, _, rfl⟩, hlr, fun _ _ => rfl⟩, fun _ _ _ _ => trivial, ?_, ?_⟩
    · rintro done k rest ρ' m' hsplit ⟨⟨z5, z6, z7, z8, rfl⟩, hlr', hfr⟩
      obtain ⟨hk1, hk2⟩ := range_split hsplit
      obtain ⟨p, hpk⟩ : ∃ p, cs[k]? = some p := ⟨cs[k]'(by omega), List.getElem?_eq_getElem (by omega)⟩
      obtain ⟨row, hrk⟩ : ∃ row, rows[k]? = some row := ⟨rows[k], List.getElem?_eq_getElem hk2⟩
      have hrm := List.mem_of_getElem? hrk
      obtain ⟨hcok, hout, hone, hlim⟩ := hcs.ok p (List.mem_of_getElem? hpk)
      have hclok := Con.claims_ok (con_ok hcok hone hout)
      have hcll := Con.claims_len (con_ok hcok hone hout)
      have hrow : row.map (·.1.1) = p.con.claims p.out := by
        have e1 : (rows.map fun row => row.map (·.1.1))[k]? = some (row.map (·.1.1)) := by rw [List.getElem?_map, hrk]; rfl
        rw [hrc, List.getElem?_map, hpk] at e1
        exact (Option.some.inj e1).symm
      have hrl : row.length = (p.con.claims p.out).length := by rw [← hrow, List.length_map]
      have hpf : ∀ m2 : Mem, (∀ b, b ∉ adrs rows → m2 b = m b) → PlanAt o cl ll ol cs r most m2 := fun m2 hf => hp.frame fun b hb hx => hf b fun q => by
        have := hdis b q
        rcases hx with rfl | rfl | rfl | rfl
        · exact this.1 rfl
        · exact this.2.1 rfl
        · exact this.2.2.1 rfl
        · exact this.2.2.2 rfl
      have hp' := hpf m' hfr
      have ho' := hp'.ho
      rw [← hk1] at hlr'
      have hzk : cs.zipIdx[k]? = some (p, k) := by rw [List.getElem?_zipIdx, hpk]; simp
      have htk : told[k]? = some (told.getD k none) := by rw [List.getD_eq_getElem?_getD, List.getElem?_eq_getElem (by omega)]; rfl
      have hmk : mks[k]? = some (mks.getD k none) := by rw [List.getD_eq_getElem?_getD, List.getElem?_eq_getElem (by omega)]; rfl
      walk_at "sy"
      refine ops_ixL' (.mut hp'.hc) (atI_nat (v := p.con.lD) (by rw [List.getElem?_map, hpk]; rfl)) ?_
      walk_at "sy"
      refine ops_ixL' (.mut hp'.hu) (atI_nat (v := strsD p.out) (by rw [List.getElem?_map, hpk]; rfl)) ?_
      walk_at "sy"
      refine ⟨p.con, p.out, rfl, hcok, hout, ?_⟩
      refine simS_forM (List.range row.length) (fun i : Nat => D.int i) (fun dn ρ2 m2 => (∃ z7 z8 : Option D, ρ2 = [some (.ptr o), some (rowsD rows), some (sclD rec cs), some (.tup (told.map mkD)), some (.tup (mks.map mkD)), some (.int k), some (.lst ((p.con.claims p.out).map Claim.lD)), z7, z8]) ∧
        LRows (plRows r rec told mks (rows.take k) ++ ((row.take dn.length).map (plq r rec told mks k) ++ row.drop dn.length) :: rows.drop (k + 1)) m2 ∧ ∀ b, b ∉ adrs rows → m2 b = m b) (ts := [7]) (simI_rng1 ?_)
      walk_at "sy"
      refine cs_len (.inl .val) ?_
      rw [List.length_map, ← hrl]
      walk_at "sy"
      refine ⟨by omega, rfl, ⟨⟨_, _, rfl⟩, ?_, hfr⟩, fun _ _ _ _ => trivial, ?_, ?_⟩
      · rw [drop_cons hrk] at hlr'
        exact hlr'
      · rintro dn j rst ρ2 m2 hsp ⟨⟨y7, y8, rfl⟩, hm2r, hm2f⟩
        obtain ⟨hj1, hj2⟩ := range_split hsp
        obtain ⟨q, hqj⟩ : ∃ q, row[j]? = some q := ⟨row[j], List.getElem?_eq_getElem hj2⟩
        have hqm := List.mem_of_getElem? hqj
        have hcj : (p.con.claims p.out)[j]? = some q.1.1 := by rw [← hrow, List.getElem?_map, hqj]; rfl
        have hqc := hclok q.1.1 (List.mem_of_getElem? hcj)
        have hsb := Claim.scale_bd hqc (mks := rec.map fun b : List Mark => b.getD k none) (by rw [List.length_map]; exact h0) (by rw [List.length_map]; exact h60)
        have hsp2 := Claim.scale_pos hqc (mks := rec.map fun b : List Mark => b.getD k none) (by rw [List.length_map]; exact h0)
        have hp2 := hpf m2 hm2f
        have ho2 := hp2.ho
        rw [← hj1, drop_cons hqj] at hm2r
        walk_at "sy"
        refine ops_ixL' .val (atI_nat (v := q.1.1.lD) (by rw [List.getElem?_map, hcj]; rfl)) ?_
        walk_at "sy"
        refine ops_ixT' (atI_nat (v := mkD (told.getD k none)) (by rw [List.getElem?_map, htk]; rfl)) ?_
        walk_at "sy"
        refine ops_ixL' .val (atI_nat (v := .lst ((scl rec (p, k)).map fr)) (by rw [List.getElem?_map, hzk]; rfl)) ?_
        walk_at "sy"
        refine ops_ixL' .val (atI_nat (v := fr (q.1.1.scale (rec.map fun b => b.getD k none))) (by unfold scl; rw [List.getElem?_map, List.getElem?_map, hcj]; rfl)) ?_
        walk_at "sy"
        refine ops_ixT' (atI_nat (v := mkD (mks.getD k none)) (by rw [List.getElem?_map, hmk]; rfl)) ?_
        walk_at "sy"
        refine ⟨q.1.1, _, _, _, rfl, hqc, hsb, hsp2, ?_⟩
        walk_at "sy"
        refine ops_ixL' .val (atI_nat (v := rowD row) (by rw [List.getElem?_map, hrk]; rfl)) ?_
        walk_at "sy"
        refine ops_ixL' .val (atI_nat (v := .ptr q.2.1) (by rw [List.getElem?_map, hqj]; rfl)) ?_
        walk_at "sy"
        have hqin : ∃ top, LAt top q.1.2 q.2.1 q.2.2 m2 := hm2r _ (List.mem_append.mpr (.inr (List.mem_cons_self ..))) q (List.mem_append.mpr (.inr (List.mem_cons_self ..)))
        obtain ⟨top, hla⟩ := hqin
        refine ⟨r, top, q.1.2, t, _, q.2.1, q.2.2, rfl, hla, hro, hg row hrm q hqm, ht, hl, Claim.cmp_bd hqc hsb hsp2, fun m3 hla3 hoff => ?_⟩
        have hnd2 : (adrs (plRows r rec told mks (rows.take k) ++ ((row.take j).map (plq r rec told mks k) ++ q :: row.drop (j + 1)) :: rows.drop (k + 1))).Nodup := by
          have e : adrs (plRows r rec told mks (rows.take k) ++ ((row.take j).map (plq r rec told mks k) ++ q :: row.drop (j + 1)) :: rows.drop (k + 1)) = adrs rows := by
            rw [adrs_append, adrs_pl, ← drop_cons hqj]
            have e3 : adrs (((row.take j).map (plq r rec told mks k) ++ row.drop j) :: rows.drop (k + 1)) = adrs (rows.drop k) := by
              rw [drop_cons hrk]
              show adr _ ++ adrs _ = adr _ ++ adrs _
              rw [adr_append, adr_pl, ← adr_append, List.take_append_drop]
            rw [e3, ← adrs_append, List.take_append_drop]
          rw [e]
          exact hnd
        have hr3 := rows_play hm2r hnd2 ⟨top, hla3⟩ hoff
        refine ⟨⟨_, _, rfl⟩, ?_, fun b hb => ?_⟩
        · rw [List.length_append, List.length_singleton, ← hj1, List.take_add_one, hqj, List.map_append, List.append_assoc]
          exact hr3
        · have hq2 := adr_mem hqm
          rw [hoff b (fun e => hb (by rw [e]; exact List.mem_flatMap.mpr ⟨row, hrm, hq2.1⟩)) (fun e => hb (by rw [e]; exact List.mem_flatMap.mpr ⟨row, hrm, hq2.2⟩))]
          exact hm2f b hb
      · rintro ρ2 m2 ⟨⟨y7, y8, rfl⟩, hm2r, hm2f⟩
        refine ⟨⟨_, _, _, _, rfl⟩, ?_, hm2f⟩
        rw [List.length_range, List.take_length, List.drop_length, List.append_nil] at hm2r
        rw [List.length_append, List.length_singleton, ← hk1, pl_snoc r rec told mks hrk, List.append_assoc]
        exact hm2r
    · rintro ρ' m' ⟨⟨z5, z6, z7, z8, rfl⟩, hlr', hfr⟩
      rw [List.length_range, List.take_length, List.drop_length, List.append_nil] at hlr'
      exact hP m' hlr' hfr
end
end L3

/-! text L4k -/
set_option Elab.async false
set_option linter.all false
set_option maxRecDepth 100000
set_option maxHeartbeats 4000000
set_option pp.maxSteps 1500
namespace L3
open PySem L2
open scoped Rat
local macro_rules | `(tactic| walk_at "ca") => `(tactic| first
  | exact Txt.k_Game (by assumption)
  | exact Txt.n_Game_many (by assumption)
  | exact Txt.n_Game_again (by assumption)
  | exact Txt.n_Game_highest (by assumption)
  | exact Txt.n_Game_rule (by assumption)
  | exact Txt.n_Game_drawn_values (by assumption)
  | exact Txt.n_Game_sum_so_far (by assumption)
  | exact Txt.n_Game_now (by assumption)
  | exact Txt.n_Game_most (by assumption)
  | exact Txt.n_Game_certain (by assumption)
  | exact Txt.k_Way (by assumption)
  | exact Txt.n_Way_claim (by assumption)
  | exact Txt.k_Comparing (by assumption)
  | exact Txt.n_Comparing_claim (by assumption)
  | exact Txt.n_Comparing_told (by assumption)
  | exact Txt.n_Comparing_scale (by assumption)
  | exact Txt.k_Sheet (by assumption)
  | exact Txt.n_Sheet_names (by assumption)
  | exact Txt.n_Sheet_limit (by assumption)
  | exact Txt.n_Sheet_ways (by assumption)
  | exact Txt.n_Sheet_games (by assumption)
  | exact Txt.k_Audit (by assumption)
  | exact Txt.n_Audit_sheets (by assumption)
  | exact Txt.n_Audit_many (by assumption)
  | exact Txt.n_Audit_again (by assumption)
  | exact Txt.n_Audit_most (by assumption)
  | exact Txt.n_Audit_numbers (by assumption)
  | exact Txt.k_Beats (by assumption)
  | exact Txt.n_Beats_one (by assumption)
  | exact Txt.n_Beats_other (by assumption)
  | exact Txt.k_Over (by assumption)
  | exact Txt.n_Over_name (by assumption)
  | exact Txt.n_Over_share (by assumption)
  | exact Txt.k_Under (by assumption)
  | exact Txt.n_Under_name (by assumption)
  | exact Txt.n_Under_share (by assumption)
  | exact Txt.k_Contest (by assumption)
  | exact Txt.n_Contest_names (by assumption)
  | exact Txt.k_Most (by assumption)
  | exact Txt.n_Most_names (by assumption)
  | exact Txt.n_Most_seats (by assumption)
  | exact Txt.k_Portion (by assumption)
  | exact Txt.n_Portion_names (by assumption)
  | exact Txt.n_Portion_share (by assumption)
  | exact Txt.k_Fixed (by assumption)
  | exact Txt.n_Fixed_part (by assumption))
local macro_rules | `(tactic| walk_at "ne") => `(tactic| first
  | assumption
  | (refine Ne.symm ?_; assumption)
  | exact mne (by assumption) (by assumption)
  | exact (mne (by assumption) (by assumption)).symm)
local macro_rules | `(tactic| walk_at "mm") => `(tactic| first
  | assumption
  | exact mupd_same
  | (refine (mupd_ne ?_).trans ?_; (walk_at "ne"); (walk_at "mm")))
local macro_rules | `(tactic| walk_at "s0") => `(tactic| first
  | with_reducible refine simS_seq ?_
  | with_reducible refine simS_ret ?_
  | with_reducible refine simS_retN ?_
  | with_reducible refine simS_set ?_
  | with_reducible refine simS_drop ?_
  | with_reducible refine simS_next ?_
  | with_reducible refine simS_fld ?_
  | with_reducible refine simS_dput ?_
  | with_reducible refine simT_test ?_
  | with_reducible refine simT_B ?_
  | with_reducible refine simT_not ?_
  | with_reducible refine simT_and ?_
  | with_reducible refine simT_or ?_
  | focus ((with_reducible refine sim_var (d := ?_) ?_ ?_); rotate_left 1; exact rfl)
  | with_reducible refine sim_int ?_
  | with_reducible refine sim_bl ?_
  | with_reducible refine sim_str ?_
  | with_reducible refine sim_non ?_
  | with_reducible refine sim_ty ?_
  | with_reducible refine sim_c (Txt.t_NOUGHT_games (by assumption)) ?_
  | with_reducible refine sim_c (Txt.t_ONE_games (by assumption)) ?_
  | with_reducible refine sim_c (Txt.t_ONE_ways (by assumption)) ?_
  | with_reducible refine sim_c (Txt.t_TWO (by assumption)) ?_
  | with_reducible refine sim_c (Txt.t_NOUGHT_claims (by assumption)) ?_
  | with_reducible refine sim_c (Txt.t_HALF (by assumption)) ?_
  | with_reducible refine sim_c (Txt.t_ONE_claims (by assumption)) ?_
  | with_reducible refine sim_ref ?_
  | with_reducible refine sim_op ?_
  | with_reducible refine sim_un ?_
  | with_reducible refine sim_andV ?_
  | with_reducible refine sim_orV ?_
  | with_reducible refine sim_notV ?_
  | with_reducible refine sim_chain ?_
  | with_reducible refine sim_tup ?_
  | with_reducible refine sim_call ?_
  | with_reducible refine sim_callB ?_
  | with_reducible refine sim_fldU ?_
  | with_reducible refine sim_append ?_
  | focus ((with_reducible refine apl (ds := ?_) ?_ ?_); rotate_left 1; walk_at "mm")
  | with_reducible refine sim_methU ?_
  | with_reducible refine sim_cfn ?_
  | with_reducible refine sim_dget ?_
  | with_reducible refine sim_sl ?_
  | with_reducible refine simO_none ?_
  | with_reducible refine simO_some ?_
  | with_reducible refine simA_cons ?_
  | with_reducible refine simA_nil ?_
  | with_reducible refine simG_name ?_
  | with_reducible refine simG_pair ?_
  | with_reducible refine ops_addI ?_
  | with_reducible refine uns_I (g := fun i => -i) ?_
  | with_reducible refine simG_triple ?_
  | with_reducible refine ops_subI ?_
  | with_reducible refine ops_lt ?_
  | with_reducible refine ops_le ?_
  | with_reducible refine ops_gt ?_
  | with_reducible refine ops_ge ?_
  | with_reducible refine ops_eqI ?_
  | with_reducible refine ops_neI ?_
  | with_reducible refine ops_eqSt ?_
  | with_reducible refine ops_eqNS ?_
  | with_reducible refine eq_mk ?_
  | with_reducible refine eq_bl ?_
  | with_reducible refine ops_isN ?_
  | with_reducible refine ops_notN ?_
  | with_reducible refine cs_abs ?_
  | focus ((with_reducible refine cs_isi2 (t := ?_) (b := ?_) ?_ ?_ ?_ ?_); rotate_left 2; exact rfl; exact rfl; exact rfl)
  | with_reducible refine cs_max2 ?_
  | with_reducible refine cs_min2 ?_
  | focus ((with_reducible refine ops_ixT' (d := ?_) ?_ ?_); rotate_left 1; exact rfl)
  | focus ((with_reducible refine fld_o (d := ?_) ?_ ?_ ?_ ?_); rotate_left 1; walk_at "ca"; walk_at "ca"; exact rfl)
  | focus ((with_reducible refine fld_p (C := ?_) (fs := ?_) (d := ?_) ?_ ?_ ?_ ?_ ?_); rotate_left 3; walk_at "mm"; walk_at "ca"; walk_at "ca"; exact rfl)
  | focus ((with_reducible refine And.intro (?_ : Mth _ _ _ _) ?_); exact mth_o (by rfl))
  | focus ((with_reducible refine ⟨mth_p (fs := ?_) ?_ ?_, ?_⟩); rotate_left 1; walk_at "mm"; exact rfl)
  | focus ((with_reducible refine setf (C := ?_) (fs := ?_) ?_ ?_ ?_ ?_ ?_); rotate_left 2; walk_at "mm"; walk_at "ca"; walk_at "ca"; exact of_decide_eq_true rfl)
  | focus ((with_reducible refine dgt (kvs := ?_) (k := ?_) (d := ?_) ?_ ?_ ?_ ?_); rotate_left 3; walk_at "mm"; exact rfl; exact rfl)
  | focus ((with_reducible refine dpt (kvs := ?_) (k := ?_) ?_ ?_ ?_ ?_); rotate_left 2; walk_at "mm"; exact rfl; exact of_decide_eq_true rfl)
  | (with_reducible refine ⟨_, rfl, ?_⟩)
  | (with_reducible refine ⟨rfl, ?_⟩)
  | focus ((with_reducible refine ⟨Nat.le_of_ble_eq_true ?_, ?_⟩); exact rfl)
  | with_reducible refine ite_T ?_
  | with_reducible refine ite_nF ?_
  | with_reducible refine ite_nT ?_
  | with_reducible refine ite_F ?_)
local macro_rules | `(tactic| walk_at "s1") => `(tactic| first
  | walk_at "s0"
  | with_reducible refine simS_if ?_)
local macro_rules | `(tactic| walk_at "sx") => `(tactic| repeat walk_at "s1")
local macro_rules | `(tactic| walk_at "sy") => `(tactic| repeat walk_at "s0")

section
variable {P : Program} {w : World} {K : PySem.W.Frag} {mg : Str → Option Value} {base : Heap} {a : Adr}

/-! L4k: does an audit stand beside the games. -/
/-- the audit's sheets and the law's rows say the same -/
structure Match (ss : List (Addr × Sh)) (rows : List Row) (cs : List Pn) : Prop where
  cg : (rows.map fun row => row.map (·.1)) = ss.map fun p => p.2.cg
  lim : (ss.map fun p => p.2.lim) = cs.map fun p => p.lim
theorem Match.len {ss : List (Addr × Sh)} {rows : List Row} {cs : List Pn} (h : Match ss rows cs) : rows.length = ss.length ∧ ss.length = cs.length := by
  have h1 := congrArg List.length h.cg
  have h2 := congrArg List.length h.lim
  rw [List.length_map, List.length_map] at h1 h2
  exact ⟨h1, h2⟩
theorem Match.sures {ss : List (Addr × Sh)} {rows : List Row} {cs : List Pn} (h : Match ss rows cs) : suresL rows cs = suresOf ss := by
  obtain ⟨hl1, hl2⟩ := h.len
  apply List.ext_getElem?
  intro i
  unfold suresL suresOf
  rw [List.getElem?_map, List.getElem?_map]
  by_cases hi : i < ss.length
  · have hz : (rows.zip cs)[i]? = some (rows[i], cs[i]) := by
      rw [List.getElem?_eq_getElem (by rw [List.length_zip]; omega), List.getElem_zip]
    rw [hz, List.getElem?_eq_getElem hi]
    have e1 : rows[i].map (·.1) = ss[i].2.cg := by
      have := congrArg (fun l => l[i]?) h.cg
      simp only [List.getElem?_map] at this
      rw [List.getElem?_eq_getElem (by omega), List.getElem?_eq_getElem hi] at this
      simpa using this
    have e2 : ss[i].2.lim = cs[i].lim := by
      have := congrArg (fun l => l[i]?) h.lim
      simp only [List.getElem?_map] at this
      rw [List.getElem?_eq_getElem (by omega), List.getElem?_eq_getElem (by omega)] at this
      simpa using this
    show some (rows[i].all fun q => q.1.2.reached cs[i].lim) = some (ss[i].2.sure)
    unfold Sh.sure
    rw [← e1, ← e2, List.all_map]
    rfl
  · rw [List.getElem?_eq_none (by rw [List.length_zip]; omega), List.getElem?_eq_none (by omega)]
    rfl
def cLStands (a : Adr) : Ctr := fun ds m P => ∃ o cl ll ol cs most, ∃ (rows : List Row) (u : Au) (oa nl : Addr) (ss : List (Addr × Sh)) (t n : Nat), ds = [.ptr oa, .ptr o, rowsD rows, .int n] ∧ PlanAt o cl ll ol cs u.r most m ∧ CsOk cs ∧ LRows rows m ∧ (∀ row ∈ rows, row.length ≤ 3) ∧ RGood u.r t rows ∧ t ≤ 12 ∧
  AuAt a u oa nl ss m ∧ Good u.r t ss ∧ Match ss rows cs ∧ most = u.most ∧ u.nums.length = n ∧ P (.bl true) m
abbrev s_l_stands : Stmt := top 84
theorem sc_l_stands : FnScope ["_law_audit_here", "_law_plan_here", "_law_games_here", "_law_turns", "_law_found", "_law_due", "_law_game_here", "_law_some", "_law_worth", "_law_verdict_here"] ["_law_audit_here", "_law_plan_here", "_law_games_here", "_law_turns"] (defScope s_l_stands) := ⟨rfl, rfl, rfl, by decide +kernel, rfl, by decide +kernel, by decide +kernel⟩
theorem ok_l_stands {f : Addr} {fd : FuncData} (F : Fun K "_law_stands" "_law_stands" s_l_stands f fd) (T : Txt K mg a) (h_worths : MetC P w K mg base 2 a.Audit "worths" (cWorths a)) (h_sure_of : MetC P w K mg base 6 a.Audit "sure_of" (cSureOf a)) (h_verdict : MetC P w K mg base 7 a.Audit "verdict" (cVerdict a)) (h_l_sure : CalC P w K mg base 2 "_law_sure" (cLSure)) (h_l_verdict : CalC P w K mg base 3 "_law_verdict" (cLVerdict)) (h_l_whole : CalC P w K mg base 1 "_law_whole" (cLWhole)) : FnOk P w K mg base CX0 (7 + 1) f fd ["_law_audit_here", "_law_plan_here", "_law_games_here", "_law_turns"] (spOf K (cLStands a)) := by
  refine def_ok F sc_l_stands ?_ ?_
  · rintro ds m PP ⟨o, cl, ll, ol, cs, most, rows, u, oa, nl, ss, t, n, rfl, hp, hcs, hlr, hfew, hg, ht, hau, hgood, hmt, rfl, rfl, hP⟩
    rfl
  · rintro cdv A outer s H E hr ds m PP ⟨o, cl, ll, ol, cs, most, rows, u, oa, nl, ss, t, n, rfl, hp, hcs, hlr, hfew, hg, ht, hau, hgood, hmt, rfl, rfl, hP⟩
    refine ⟨_, (pss_cons (ps_set (i := 4) sc_l_stands.nd rfl (by first | exact Or.inl rfl | exact Or.inr rfl) (pk_met0 h_worths hr (by decide) (pv 0)))
      (pss_cons (ps_set (i := 5) sc_l_stands.nd rfl (by first | exact Or.inl rfl | exact Or.inr rfl) (pe_callTy (pk_tuple T) (by rfl) T.b_tuple (by decide +kernel) (pa_cons (pe_lc (own := [("_law_some", 7)]) (g := (gName 7)) (tt := tYes) (by rfl) sc_l_stands.nd (pk_seq T (pv 2)) (blkOk_by (by kernel_rfl)) (fun _ _ _ _ _ => by exact (pg_name (i := 7) sc_l_stands.nd rfl (by first | exact Or.inl rfl | exact Or.inr rfl))) (fun _ _ _ _ _ => by exact pts_nil) (fun _ _ _ _ _ => by exact (pe_callTy (pk_tuple T) (by rfl) T.b_tuple (by decide +kernel) (pa_cons (pe_lc (own := [("_law_game_here", 6)]) (g := (gName 6)) (tt := tYes) (by rfl) sc_l_stands.nd (pk_seq T (pv 7)) (blkOk_by (by kernel_rfl)) (fun _ _ _ _ _ => by exact (pg_name (i := 6) sc_l_stands.nd rfl (by first | exact Or.inl rfl | exact Or.inr rfl))) (fun _ _ _ _ _ => by exact pts_nil) (fun _ _ _ _ _ => by exact (pe_dget (by exact hu_of hr) (pv 6) pe_str (fun _ _ => rfl)))) pa_nil)))) pa_nil)))
      (pss_cons (ps_if (PW.pt (pw_or (pt_not (pt_val (pe_callB (pk_isi T) (by rfl) T.b_isinstance (by decide +kernel) (pa_cons (pv 4) (pa_cons (pe_bltn (v := .ty "tuple") (by rfl) T.b_tuple (by decide +kernel) rfl) pa_nil))))) (pw_or (pt_cmpR (pk_ne T hr.units) (pv 4) (pv 5) (nomark _)) (pw_or1 (pt_cmpR (pk_ne T hr.units) (pk_met0 h_sure_of hr (by decide) (pv 0)) (pk_cal h_l_sure hr (by decide) (pa_cons (pv 1) (pa_cons (pv 2) pa_nil))) (nomark _)))))) (pss_one (ps_ret pe_bl)) pss_nil)
      (pss_cons (ps_for PassesOwn.never rfl (pk_seq T (pv 4)) (pg_name (i := 7) sc_l_stands.nd rfl (by first | exact Or.inl rfl | exact Or.inr rfl)) (pss_cons (ps_if (pt_not (pt_val (pe_callB (pk_isi T) (by rfl) T.b_isinstance (by decide +kernel) (pa_cons (pv 7) (pa_cons (pe_bltn (v := .ty "tuple") (by rfl) T.b_tuple (by decide +kernel) rfl) pa_nil))))) (pss_one (ps_ret pe_bl)) pss_nil)
      (pss_one (ps_for PassesOwn.never rfl (pk_seq T (pv 7)) (pg_name (i := 8) sc_l_stands.nd rfl (by first | exact Or.inl rfl | exact Or.inr rfl)) (pss_one (ps_if (PW.pt (pw_and (pt_cmpR op_notN (pv 8) pe_non (nomark _)) (pw_and1 (PW.pt (pw_or (pt_not (pt_val (pe_callB (pk_isi T) (by rfl) T.b_isinstance (by decide +kernel) (pa_cons (pv 8) (pa_cons (pe_bltn (v := .ty "tuple") (by rfl) T.b_tuple (by decide +kernel) rfl) pa_nil))))) (pw_or1 (pt_not (pt_val (pk_cal h_l_whole hr (by decide) (pa_cons (pe_ix (pk_ix T) (pv 8) pe_int (fun _ _ => rfl)) pa_nil)))))))))) (pss_one (ps_ret pe_bl)) pss_nil))))))
      (pss_cons (ps_set (i := 9) sc_l_stands.nd rfl (by first | exact Or.inl rfl | exact Or.inr rfl) (pk_met0 h_verdict hr (by decide) (pv 0)))
      (pss_one (ps_ret (pe_and (pe_callB (pk_isi T) (by rfl) T.b_isinstance (by decide +kernel) (pa_cons (pv 9) (pa_cons (pe_bltn (v := .ty "str") (by rfl) T.b_str (by decide +kernel) rfl) pa_nil))) (pe_one (pe_cmpR (pk_eq T hr.units) (pv 9) (pk_cal h_l_verdict hr (by decide) (pa_cons (pv 1) (pa_cons (pv 2) (pa_cons (pv 3) pa_nil)))) (nomark _))))))))))), ?_⟩
    have hao := hau.ho
    have ho := hp.ho
    obtain ⟨hl1, hl2⟩ := hmt.len
    have hcl := hcs.hi
    walk_at "sy"
    refine ⟨u, oa, nl, ss, t, rfl, hau, hgood, ?_⟩
    walk_at "sy"
    refine sim_lcM rows rowD (fun row => .tup (row.map fun q => optD q.1.2.now)) (ts := [7]) (by decide) (simI_seq ?_)
    walk_at "sy"
    refine ⟨_, .inl .val, rfl, by omega, .inl .val, fun row hrow => ?_, ?_⟩
    · walk_at "sy"
      refine sim_lcM row (fun q => .ptr q.2.1) (fun q => optD q.1.2.now) (ts := [6]) (by decide) (simI_seq ?_)
      walk_at "sy"
      refine ⟨_, .inl .val, rfl, by have := hfew row hrow; omega, .inl .val, fun q hq => ?_, ?_⟩
      · obtain ⟨top, hla⟩ := hlr row hrow q hq
        have hlao := hla.ho
        walk_at "sy"
        rfl
      walk_at "sy"
      exact cs_tuple (.inl .val) ⟨rfl, rfl⟩
    walk_at "sy"
    refine cs_tuple (.inl .val) ?_
    have hfd : (rows.map fun row => D.tup (row.map fun q => optD q.1.2.now)) = ss.map fun p => D.tup (p.2.cg.map fun q => optD q.2.now) := by
      have e1 : (rows.map fun row => D.tup (row.map fun q => optD q.1.2.now)) = (rows.map fun row => row.map (·.1)).map fun l : List (Claim × Gm) => D.tup (l.map fun x => optD x.2.now) := by
        rw [List.map_map]
        refine List.map_congr_left fun row _ => ?_
        simp only [Function.comp_apply, List.map_map]
        rfl
      have e2 : (ss.map fun p => D.tup (p.2.cg.map fun q => optD q.2.now)) = (ss.map fun p => p.2.cg).map fun l : List (Claim × Gm) => D.tup (l.map fun x => optD x.2.now) := by
        rw [List.map_map]
        rfl
      rw [e1, e2, hmt.cg]
    rw [hfd]
    walk_at "sy"
    refine simS_if ?_
    walk_at "sy"
    have hlay : Lay 64 (.tup (ss.map fun p => D.tup (p.2.cg.map fun q => optD q.2.now))) (.tuple (ss.map fun p => .tuple (p.2.cg.map fun q => optP q.2.now))) :=
      lay_tup (n := 63) (lays_map fun p _ => lay_tup (n := 62) (lays_map fun q _ => lay_opt (n := 61)))
    refine neL hlay hlay ?_
    rw [eqv_refl _ hlay.ok]
    walk_at "sy"
    refine ⟨u, oa, nl, ss, t, rfl, hau, hgood, ht, ?_⟩
    walk_at "sy"
    refine ⟨o, cl, ll, ol, cs, u.r, u.most, rows, t, rfl, hp, hcs, hlr, by omega, hfew, hg, ht, ?_⟩
    rw [hmt.sures]
    have e3 : (ss.map fun p => D.bl p.2.sure) = (suresOf ss).map D.bl := by
      unfold suresOf
      rw [List.map_map]
      rfl
    rw [e3]
    have hlay2 : Lay 64 (.tup ((suresOf ss).map D.bl)) (.tuple ((suresOf ss).map .bool)) := lay_tup (n := 63) (lays_map fun b _ => lay_bl)
    refine neL hlay2 hlay2 ?_
    rw [eqv_refl _ hlay2.ok]
    walk_at "sy"
    refine simS_forM ss (fun p => D.tup (p.2.cg.map fun q => optD q.2.now)) (fun _ ρ' m' => m' = m ∧ ∃ z5 z6 z7 z8 z9 : Option D, ρ' = [some (.ptr oa), some (.ptr o), some (rowsD rows), some (.int u.nums.length), some (.tup (ss.map fun p => D.tup (p.2.cg.map fun q => optD q.2.now))), z5, z6, z7, z8, z9]) (ts := [7]) (simI_seq ?_)
    walk_at "sy"
    refine ⟨_, .inr rfl, rfl, ⟨rfl, _, _, _, _, _, rfl⟩, ?_, ?_, ?_⟩
    · rintro done ρ' m' ⟨rfl, _⟩
      exact .inr rfl
    · rintro done p rest ρ' m' hsplit ⟨rfl, z5, z6, z7, z8, z9, rfl⟩
      walk_at "sy"
      refine simS_if ?_
      walk_at "sy"
      refine simS_forM p.2.cg (fun q => optD q.2.now) (fun _ ρ' m2 => m2 = m' ∧ ∃ z5 z6 z8 z9 : Option D, ρ' = [some (.ptr oa), some (.ptr o), some (rowsD rows), some (.int u.nums.length), some (.tup (ss.map fun p => D.tup (p.2.cg.map fun q => optD q.2.now))), z5, z6, some (.tup (p.2.cg.map fun q => optD q.2.now)), z8, z9]) (ts := [8]) (simI_seq ?_)
      walk_at "sy"
      refine ⟨_, .inr rfl, rfl, ⟨rfl, _, _, _, _, rfl⟩, ?_, ?_, ?_⟩
      · rintro done ρ' m' ⟨rfl, _⟩
        exact .inr rfl
      · rintro dn q rst ρ' m2 hsp ⟨rfl, y5, y6, y8, y9, rfl⟩
        walk_at "sy"
        refine simS_if ?_
        walk_at "sy"
        cases hq : q.2.now with
        | none =>
          refine ite_f rfl ?_
          walk_at "sy"
          exact ⟨_, _, _, _, rfl⟩
        | some w1 =>
          refine ite_t rfl ?_
          rw [opt_some]
          walk_at "sy"
          refine ⟨_, rfl, ?_⟩
          walk_at "sy"
          exact ⟨_, _, _, _, rfl⟩
      · rintro ρ' m2 ⟨rfl, y5, y6, y8, y9, rfl⟩
        exact ⟨rfl, _, _, _, _, _, rfl⟩
    · rintro ρ' m' ⟨rfl, z5, z6, z7, z8, z9, rfl⟩
      walk_at "sy"
      refine ⟨u, oa, nl, ss, t, rfl, hau, hgood, ht, ?_⟩
      walk_at "sy"
      refine ⟨o, cl, ll, ol, cs, u.r, u.most, rows, t, u.nums.length, rfl, hp, hcs, hlr, by omega, hfew, hg, ht, ?_⟩
      rw [hmt.sures]
      walk_at "sy"
      rw [decide_eq_true rfl]
      exact hP
end
end L3

/-! text L4l -/
set_option Elab.async false
set_option linter.all false
set_option maxRecDepth 100000
set_option maxHeartbeats 4000000
set_option pp.maxSteps 1500
namespace L3
open PySem L2
open scoped Rat
local macro_rules | `(tactic| walk_at "ca") => `(tactic| first
  | exact Txt.k_Game (by assumption)
  | exact Txt.n_Game_many (by assumption)
  | exact Txt.n_Game_again (by assumption)
  | exact Txt.n_Game_highest (by assumption)
  | exact Txt.n_Game_rule (by assumption)
  | exact Txt.n_Game_drawn_values (by assumption)
  | exact Txt.n_Game_sum_so_far (by assumption)
  | exact Txt.n_Game_now (by assumption)
  | exact Txt.n_Game_most (by assumption)
  | exact Txt.n_Game_certain (by assumption)
  | exact Txt.k_Way (by assumption)
  | exact Txt.n_Way_claim (by assumption)
  | exact Txt.k_Comparing (by assumption)
  | exact Txt.n_Comparing_claim (by assumption)
  | exact Txt.n_Comparing_told (by assumption)
  | exact Txt.n_Comparing_scale (by assumption)
  | exact Txt.k_Sheet (by assumption)
  | exact Txt.n_Sheet_names (by assumption)
  | exact Txt.n_Sheet_limit (by assumption)
  | exact Txt.n_Sheet_ways (by assumption)
  | exact Txt.n_Sheet_games (by assumption)
  | exact Txt.k_Audit (by assumption)
  | exact Txt.n_Audit_sheets (by assumption)
  | exact Txt.n_Audit_many (by assumption)
  | exact Txt.n_Audit_again (by assumption)
  | exact Txt.n_Audit_most (by assumption)
  | exact Txt.n_Audit_numbers (by assumption)
  | exact Txt.k_Beats (by assumption)
  | exact Txt.n_Beats_one (by assumption)
  | exact Txt.n_Beats_other (by assumption)
  | exact Txt.k_Over (by assumption)
  | exact Txt.n_Over_name (by assumption)
  | exact Txt.n_Over_share (by assumption)
  | exact Txt.k_Under (by assumption)
  | exact Txt.n_Under_name (by assumption)
  | exact Txt.n_Under_share (by assumption)
  | exact Txt.k_Contest (by assumption)
  | exact Txt.n_Contest_names (by assumption)
  | exact Txt.k_Most (by assumption)
  | exact Txt.n_Most_names (by assumption)
  | exact Txt.n_Most_seats (by assumption)
  | exact Txt.k_Portion (by assumption)
  | exact Txt.n_Portion_names (by assumption)
  | exact Txt.n_Portion_share (by assumption)
  | exact Txt.k_Fixed (by assumption)
  | exact Txt.n_Fixed_part (by assumption))
local macro_rules | `(tactic| walk_at "ne") => `(tactic| first
  | assumption
  | (refine Ne.symm ?_; assumption)
  | exact mne (by assumption) (by assumption)
  | exact (mne (by assumption) (by assumption)).symm)
local macro_rules | `(tactic| walk_at "mm") => `(tactic| first
  | assumption
  | exact mupd_same
  | (refine (mupd_ne ?_).trans ?_; (walk_at "ne"); (walk_at "mm")))
local macro_rules | `(tactic| walk_at "s0") => `(tactic| first
  | with_reducible refine simS_seq ?_
  | with_reducible refine simS_ret ?_
  | with_reducible refine simS_retN ?_
  | with_reducible refine simS_set ?_
  | with_reducible refine simS_drop ?_
  | with_reducible refine simS_next ?_
  | with_reducible refine simS_fld ?_
  | with_reducible refine simS_dput ?_
  | with_reducible refine simT_test ?_
  | with_reducible refine simT_B ?_
  | with_reducible refine simT_not ?_
  | with_reducible refine simT_and ?_
  | with_reducible refine simT_or ?_
  | focus ((with_reducible refine sim_var (d := ?_) ?_ ?_); rotate_left 1; exact rfl)
  | with_reducible refine sim_int ?_
  | with_reducible refine sim_bl ?_
  | with_reducible refine sim_str ?_
  | with_reducible refine sim_non ?_
  | with_reducible refine sim_ty ?_
  | with_reducible refine sim_c (Txt.t_NOUGHT_games (by assumption)) ?_
  | with_reducible refine sim_c (Txt.t_ONE_games (by assumption)) ?_
  | with_reducible refine sim_c (Txt.t_ONE_ways (by assumption)) ?_
  | with_reducible refine sim_c (Txt.t_TWO (by assumption)) ?_
  | with_reducible refine sim_c (Txt.t_NOUGHT_claims (by assumption)) ?_
  | with_reducible refine sim_c (Txt.t_HALF (by assumption)) ?_
  | with_reducible refine sim_c (Txt.t_ONE_claims (by assumption)) ?_
  | with_reducible refine sim_ref ?_
  | with_reducible refine sim_op ?_
  | with_reducible refine sim_un ?_
  | with_reducible refine sim_andV ?_
  | with_reducible refine sim_orV ?_
  | with_reducible refine sim_notV ?_
  | with_reducible refine sim_chain ?_
  | with_reducible refine sim_tup ?_
  | with_reducible refine sim_call ?_
  | with_reducible refine sim_callB ?_
  | with_reducible refine sim_fldU ?_
  | with_reducible refine sim_append ?_
  | focus ((with_reducible refine apl (ds := ?_) ?_ ?_); rotate_left 1; walk_at "mm")
  | with_reducible refine sim_methU ?_
  | with_reducible refine sim_cfn ?_
  | with_reducible refine sim_dget ?_
  | with_reducible refine sim_sl ?_
  | with_reducible refine simO_none ?_
  | with_reducible refine simO_some ?_
  | with_reducible refine simA_cons ?_
  | with_reducible refine simA_nil ?_
  | with_reducible refine simG_name ?_
  | with_reducible refine simG_pair ?_
  | with_reducible refine ops_addI ?_
  | with_reducible refine uns_I (g := fun i => -i) ?_
  | with_reducible refine simG_triple ?_
  | with_reducible refine ops_subI ?_
  | with_reducible refine ops_lt ?_
  | with_reducible refine ops_le ?_
  | with_reducible refine ops_gt ?_
  | with_reducible refine ops_ge ?_
  | with_reducible refine ops_eqI ?_
  | with_reducible refine ops_neI ?_
  | with_reducible refine ops_eqSt ?_
  | with_reducible refine ops_eqNS ?_
  | with_reducible refine eq_mk ?_
  | with_reducible refine eq_bl ?_
  | with_reducible refine ops_isN ?_
  | with_reducible refine ops_notN ?_
  | with_reducible refine cs_abs ?_
  | focus ((with_reducible refine cs_isi2 (t := ?_) (b := ?_) ?_ ?_ ?_ ?_); rotate_left 2; exact rfl; exact rfl; exact rfl)
  | with_reducible refine cs_max2 ?_
  | with_reducible refine cs_min2 ?_
  | focus ((with_reducible refine ops_ixT' (d := ?_) ?_ ?_); rotate_left 1; exact rfl)
  | focus ((with_reducible refine fld_o (d := ?_) ?_ ?_ ?_ ?_); rotate_left 1; walk_at "ca"; walk_at "ca"; exact rfl)
  | focus ((with_reducible refine fld_p (C := ?_) (fs := ?_) (d := ?_) ?_ ?_ ?_ ?_ ?_); rotate_left 3; walk_at "mm"; walk_at "ca"; walk_at "ca"; exact rfl)
  | focus ((with_reducible refine And.intro (?_ : Mth _ _ _ _) ?_); exact mth_o (by rfl))
  | focus ((with_reducible refine ⟨mth_p (fs := ?_) ?_ ?_, ?_⟩); rotate_left 1; walk_at "mm"; exact rfl)
  | focus ((with_reducible refine setf (C := ?_) (fs := ?_) ?_ ?_ ?_ ?_ ?_); rotate_left 2; walk_at "mm"; walk_at "ca"; walk_at "ca"; exact of_decide_eq_true rfl)
  | focus ((with_reducible refine dgt (kvs := ?_) (k := ?_) (d := ?_) ?_ ?_ ?_ ?_); rotate_left 3; walk_at "mm"; exact rfl; exact rfl)
  | focus ((with_reducible refine dpt (kvs := ?_) (k := ?_) ?_ ?_ ?_ ?_); rotate_left 2; walk_at "mm"; exact rfl; exact of_decide_eq_true rfl)
  | (with_reducible refine ⟨_, rfl, ?_⟩)
  | (with_reducible refine ⟨rfl, ?_⟩)
  | focus ((with_reducible refine ⟨Nat.le_of_ble_eq_true ?_, ?_⟩); exact rfl)
  | with_reducible refine ite_T ?_
  | with_reducible refine ite_nF ?_
  | with_reducible refine ite_nT ?_
  | with_reducible refine ite_F ?_)
local macro_rules | `(tactic| walk_at "s1") => `(tactic| first
  | walk_at "s0"
  | with_reducible refine simS_if ?_)
local macro_rules | `(tactic| walk_at "sx") => `(tactic| repeat walk_at "s1")
local macro_rules | `(tactic| walk_at "sy") => `(tactic| repeat walk_at "s0")

section
variable {P : Program} {w : World} {K : PySem.W.Frag} {mg : Str → Option Value} {base : Heap} {a : Adr}

/-! L4l: the law. -/
theorem pigeon : ∀ (n : Nat) (l : List Nat), (∀ i, i < n → i ∈ l) → n ≤ l.length
  | 0, _, _ => Nat.zero_le _
  | n + 1, l, h => by
    have h1 := h n (Nat.lt_succ_self n)
    have h2 := pigeon n (l.erase n) fun i hi => (List.mem_erase_of_ne (by omega)).mpr (h i (by omega))
    rw [List.length_erase_of_mem h1] at h2
    have := List.length_pos_of_mem h1
    omega
def mkCs (cons : List Con) (outs : List (List Str)) (lims : List Rat) : List Pn := (cons.zip (outs.zip lims)).map fun x => ⟨x.1, x.2.1, x.2.2⟩
section
variable {cons : List Con} {outs : List (List Str)} {lims : List Rat}
theorem mkCs_len (h1 : outs.length = cons.length) (h2 : lims.length = cons.length) : (mkCs cons outs lims).length = cons.length := by
  unfold mkCs
  rw [List.length_map, List.length_zip, List.length_zip]
  omega
theorem mkCs_get (h1 : outs.length = cons.length) (h2 : lims.length = cons.length) {i : Nat} {p : Pn} (h : (mkCs cons outs lims)[i]? = some p) : cons[i]? = some p.con ∧ outs[i]? = some p.out ∧ lims[i]? = some p.lim := by
  unfold mkCs at h
  obtain ⟨x, hx, rfl⟩ := List.getElem?_map_some h
  obtain ⟨hi, e⟩ := List.getElem?_eq_some_iff.mp hx
  rw [List.length_zip, List.length_zip] at hi
  rw [List.getElem_zip, List.getElem_zip] at e
  subst e
  exact ⟨List.getElem?_eq_getElem (by omega), List.getElem?_eq_getElem (by omega), List.getElem?_eq_getElem (by omega)⟩
theorem mkCs_con (h1 : outs.length = cons.length) (h2 : lims.length = cons.length) : (mkCs cons outs lims).map (·.con) = cons := by
  unfold mkCs
  rw [List.map_map]
  exact List.map_fst_zip (by rw [List.length_zip]; omega)
theorem mkCs_out (h1 : outs.length = cons.length) (h2 : lims.length = cons.length) : (mkCs cons outs lims).map (·.out) = outs := by
  unfold mkCs
  rw [List.map_map]
  have e : ((fun p : Pn => p.out) ∘ fun x : Con × (List Str × Rat) => (⟨x.1, x.2.1, x.2.2⟩ : Pn)) = Prod.fst ∘ Prod.snd := rfl
  rw [e, ← List.map_map, List.map_snd_zip (by rw [List.length_zip]; omega)]
  exact List.map_fst_zip (by omega)
theorem mkCs_lim (h1 : outs.length = cons.length) (h2 : lims.length = cons.length) : (mkCs cons outs lims).map (·.lim) = lims := by
  unfold mkCs
  rw [List.map_map]
  have e : ((fun p : Pn => p.lim) ∘ fun x : Con × (List Str × Rat) => (⟨x.1, x.2.1, x.2.2⟩ : Pn)) = Prod.snd ∘ Prod.snd := rfl
  rw [e, ← List.map_map, List.map_snd_zip (by rw [List.length_zip]; omega)]
  exact List.map_snd_zip (by omega)
end
theorem out_of {c : Con} {out : List Str} (h : c.Ok out) : OutOk c out ∧ ∀ ns k, c = .most ns k → k = 1 := by
  have hk := h.kind
  cases c with
  | most ns k =>
    refine ⟨hk.2, fun ns' k' e => ?_⟩
    cases e
    exact hk.1
  | portion ns s => exact ⟨hk.2, fun _ _ e => by cases e⟩
/-- audit, plan and games side by side, behind t draws -/
structure Side (a : Adr) (cs : List Pn) (r : Rl) (most : Nat) (rec : List (List Mark)) (o cl ll ol oa nl ln : Addr) (sas ad : List Addr) (nums : List Nat) (ss : List (Addr × Sh)) (rows : List Row) (m : Mem) : Prop where
  plan : PlanAt o cl ll ol cs r most m
  au : AuAt a ⟨r, most, nums⟩ oa nl ss m
  good : Good r nums.length ss
  rgood : RGood r nums.length rows
  lr : LRows rows m
  mt : Match ss rows cs
  cl : (rows.map fun row => row.map (·.1.1)) = cs.map fun p => p.con.claims p.out
  tl : (ss.map fun p => p.2.told) = (List.range cs.length).map fun k => rec.map fun b => b.getD k none
  nm : (ss.map fun p => p.2.names) = cs.map fun p => p.con.names
  ln : m ln = some (.lst (nums.map fun n : Nat => D.int n))
  sas : ss.map (·.1) = sas
  ad : adrs rows = ad
  lt : ∀ n ∈ nums, n < r.many
  few : r.again = false → nums.length ≤ r.many
/-- no address stands for two things -/
structure Apart (o cl ll ol oa nl ln : Addr) (sas ad : List Addr) : Prop where
  nd : ad.Nodup
  pl : ∀ b ∈ ad, b ≠ o ∧ b ≠ cl ∧ b ≠ ll ∧ b ≠ ol ∧ b ≠ ln ∧ b ≠ oa ∧ b ≠ nl ∧ b ∉ sas
  au : ∀ b ∈ [o, cl, ll, ol, ln], b ≠ oa ∧ b ≠ nl ∧ b ∉ sas
  ln : ln ≠ o ∧ ln ≠ cl ∧ ln ≠ ll ∧ ln ≠ ol
theorem AuAt.frame {a : Adr} {u : Au} {o nl : Addr} {ss : List (Addr × Sh)} {m m' : Mem} (h : AuAt a u o nl ss m) (hf : ∀ b, b = o ∨ b = nl ∨ b ∈ ss.map (·.1) → m' b = m b) : AuAt a u o nl ss m' :=
  ⟨(hf o (.inl rfl)).trans h.ho, (hf nl (.inr (.inl rfl))).trans h.hn, fun p hp => (hf p.1 (.inr (.inr (List.mem_map_of_mem hp)))).trans (h.hs p hp), h.nd, h.few, h.lo⟩
theorem PlanAt.frame2 {o cl ll ol : Addr} {cs : List Pn} {r : Rl} {most : Nat} {m m' : Mem} (h : PlanAt o cl ll ol cs r most m) (hf : ∀ b, b = o ∨ b = cl ∨ b = ll ∨ b = ol → m' b = m b) : PlanAt o cl ll ol cs r most m' := h.frame fun b _ hb => hf b hb
theorem playL_map {β : Type} (f : Sh → β) {r : Rl} {n : Nat} {ss : List (Addr × Sh)} {mks : List Mark} (hf : ∀ mk s, f (s.play r n mk) = f s) (h : mks.length = ss.length) : (playL r n ss mks).map (fun p => f p.2) = ss.map fun p => f p.2 := by
  unfold playL
  rw [List.map_map]
  have e : (ss.zip mks).map ((fun p : Addr × Sh => f p.2) ∘ fun q => (q.1.1, q.1.2.play r n q.2)) = (ss.zip mks).map fun q => f q.1.2 := List.map_congr_left fun q _ => hf q.2 q.1.2
  rw [e]
  have e2 : (ss.zip mks).map (fun q => f q.1.2) = ((ss.zip mks).map Prod.fst).map fun p => f p.2 := by
    rw [List.map_map]
    rfl
  rw [e2, List.map_fst_zip (by omega)]
theorem rowsD_pl (r : Rl) (rec : List (List Mark)) (told mks : List Mark) (rows : List Row) : rowsD (plRows r rec told mks rows) = rowsD rows := by
  unfold plRows
  have e : (rows.zipIdx.map fun p => p.1.map (plq r rec told mks p.2)).map rowD = (rows.zipIdx.map (·.1)).map rowD := by
    rw [List.map_map, List.map_map]
    refine List.map_congr_left fun p _ => ?_
    show rowD (p.1.map (plq r rec told mks p.2)) = rowD p.1
    simp only [rowD, List.map_map]
    rfl
  rw [rowsD, e, List.zipIdx_map_fst]
theorem Side.few3 {a : Adr} {cs : List Pn} {r : Rl} {most : Nat} {rec : List (List Mark)} {o cl ll ol oa nl ln : Addr} {sas ad : List Addr} {nums : List Nat} {ss : List (Addr × Sh)} {rows : List Row} {m : Mem} (h : Side a cs r most rec o cl ll ol oa nl ln sas ad nums ss rows m) (hc : CsOk cs) : ∀ row ∈ rows, row.length ≤ 3 := fun row hr => by
  have h1 : row.map (·.1.1) ∈ rows.map fun row => row.map (·.1.1) := List.mem_map_of_mem hr
  rw [h.cl] at h1
  obtain ⟨p, hp, e⟩ := List.mem_map.mp h1
  obtain ⟨q1, q2, q3, _⟩ := hc.ok p hp
  have := Con.claims_len (con_ok q1 q3 q2)
  have e2 := congrArg List.length e
  rw [List.length_map] at e2
  omega
def cLaw : Ctr := fun ds m P => ∃ ns : List Int, ds = [.lst (ns.map D.int)] ∧ ns.length ≤ 63 ∧ ∀ m', P (.bl true) m'
abbrev s_law : Stmt := top 89
theorem sc_law : FnScope ["_law_script", "_law_plan_here", "_law_record_here", "_law_audit_here", "_law_games_here", "_law_scales", "_law_numbers", "_law_k", "_law_cell", "_law_left", "_law_one", "_law_number", "_law_ballot_here", "_law_marks", "_law_told_here"] ["_law_script"] (defScope s_law) := ⟨rfl, rfl, rfl, by decide +kernel, rfl, by decide +kernel, by decide +kernel⟩
theorem ok_law {f : Addr} {fd : FuncData} (F : Fun K "law" "law" s_law f fd) (T : Txt K mg a) (h_l_plan : CalC P w K mg base 3 "_law_plan" (cPlan)) (h_l_record : CalC P w K mg base 3 "_law_record" (cRecord)) (h_l_told : CalC P w K mg base 6 "_law_told" (cTold)) (h_l_audit : CalC P w K mg base 13 "_law_audit" (cLAudit a)) (h_l_games : CalC P w K mg base 3 "_law_games" (cLGames)) (h_l_tops : CalC P w K mg base 6 "_law_tops" (cLTops)) (h_l_at : CalC P w K mg base 1 "_law_at" (cAtF)) (h_l_mix : CalC P w K mg base 1 "_law_mix" (cMix)) (h_l_verdict : CalC P w K mg base 3 "_law_verdict" (cLVerdict)) (h_l_ballot : CalC P w K mg base 2 "_law_ballot" (cBallot)) (h_draw : MetC P w K mg base 9 a.Audit "draw" (cDraw a)) (h_l_drawn_beside : CalC P w K mg base 5 "_law_drawn_beside" (cLBeside)) (h_l_stands : CalC P w K mg base 8 "_law_stands" (cLStands a)) : FnOk P w K mg base CX0 (13 + 1) f fd ["_law_script"] (spOf K (cLaw)) := by
  refine def_ok F sc_law ?_ ?_
  · rintro ds m PP ⟨ns, rfl, hns, hP⟩
    rfl
  · rintro cdv A outer s H E hr ds m PP ⟨ns, rfl, hns, hP⟩
    refine ⟨_, (pss_cons (ps_set (i := 1) sc_law.nd rfl (by first | exact Or.inl rfl | exact Or.inr rfl) (pk_cal h_l_plan hr (by decide) (pa_cons (pv 0) (pa_cons pe_int (pa_cons pe_int pa_nil)))))
      (pss_cons (ps_set (i := 2) sc_law.nd rfl (by first | exact Or.inl rfl | exact Or.inr rfl) (pk_cal h_l_told hr (by decide) (pa_cons (pv 1) (pa_cons (pk_cal h_l_record hr (by decide) (pa_cons (pv 0) (pa_cons (pv 1) pa_nil))) pa_nil))))
      (pss_cons (ps_set (i := 3) sc_law.nd rfl (by first | exact Or.inl rfl | exact Or.inr rfl) (pk_cal h_l_audit hr (by decide) (pa_cons (pv 1) (pa_cons (pe_callTy (pk_tuple T) (by rfl) T.b_tuple (by decide +kernel) (pa_cons (pv 2) pa_nil)) pa_nil))))
      (pss_cons (ps_set (i := 4) sc_law.nd rfl (by first | exact Or.inl rfl | exact Or.inr rfl) (pk_cal h_l_games hr (by decide) (pa_cons (pv 1) pa_nil)))
      (pss_cons (ps_set (i := 5) sc_law.nd rfl (by first | exact Or.inl rfl | exact Or.inr rfl) (pk_cal h_l_tops hr (by decide) (pa_cons (pv 1) (pa_cons (pv 4) (pa_cons (pv 2) pa_nil)))))
      (pss_cons (ps_set (i := 6) sc_law.nd rfl (by first | exact Or.inl rfl | exact Or.inr rfl) (pe_lst pa_nil))
      (pss_cons (ps_for PassesOwn.never rfl (pi_range2 (by rfl) T.b_range (pa_cons pe_int (pa_cons (pe_callB (call_max2 rfl) (by rfl) T.b_max (by decide +kernel) (pa_cons pe_int (pa_cons (pe_callB (call_min2 rfl) (by rfl) T.b_min (by decide +kernel) (pa_cons (pe_callB (pk_len T) (by rfl) T.b_len (by decide +kernel) (pa_cons (pv 0) pa_nil)) (pa_cons pe_int pa_nil))) pa_nil))) pa_nil))) (pg_name (i := 7) sc_law.nd rfl (by first | exact Or.inl rfl | exact Or.inr rfl)) (pss_cons (ps_set (i := 8) sc_law.nd rfl (by first | exact Or.inl rfl | exact Or.inr rfl) (pk_cal h_l_at hr (by decide) (pa_cons (pv 0) (pa_cons (pv 7) pa_nil))))
      (pss_cons (ps_setLc (i := 9) (own := [("_law_one", 10)]) (g := (gName 10)) (by rfl) sc_law.nd rfl rfl (sw_true rfl rfl rfl (by decide +kernel)) (pi_range1 (by rfl) T.b_range (pa_cons (pe_dget (by exact hu_of hr) (pv 1) pe_str (fun _ _ => rfl)) pa_nil)) (blkOk_by (by kernel_rfl)) (fun _ _ _ _ _ => by exact (pg_name (i := 10) sc_law.nd rfl (by first | exact Or.inl rfl | exact Or.inr rfl))) (fun _ _ _ _ _ => by exact (pts_one (PW.pt (pw_or (pt_val (pe_dget (by exact hu_of hr) (pv 1) pe_str (fun _ _ => rfl))) (pw_or1 (pt_cmpR (pk_notIn T) (pv 10) (pv 6) (by with_unfolding_all rfl))))))) (fun _ _ _ _ _ => by exact (pv 10)))
      (pss_one (ps_if (pt_cmpR (pk_eq T hr.units) (pk_cal h_l_verdict hr (by decide) (pa_cons (pv 1) (pa_cons (pv 4) (pa_cons (pe_callB (pk_len T) (by rfl) T.b_len (by decide +kernel) (pa_cons (pv 6) pa_nil)) pa_nil)))) pe_str (nomark _)) (pss_cons (ps_set (i := 11) sc_law.nd rfl (by first | exact Or.inl rfl | exact Or.inr rfl) (pe_ix (pk_ix T) (pv 9) (pe_op op_mod (pk_cal h_l_mix hr (by decide) (pa_cons (pv 8) (pa_cons pe_int pa_nil))) (pe_callB (pk_len T) (by rfl) T.b_len (by decide +kernel) (pa_cons (pv 9) pa_nil))) (fun _ _ => rfl)))
      (pss_cons (ps_expr (pk_append T (pv 6) (pa_cons (pv 11) pa_nil)))
      (pss_cons (ps_set (i := 12) sc_law.nd rfl (by first | exact Or.inl rfl | exact Or.inr rfl) (pe_ix (pk_ix T) (pv 2) (pv 11) (fun _ _ => rfl)))
      (pss_cons (ps_if (pt_cmpR (pk_eq T hr.units) (pe_op op_mod (pk_cal h_l_mix hr (by decide) (pa_cons (pv 8) (pa_cons pe_int pa_nil))) pe_int) pe_int (nomark _)) (pss_one (ps_set (i := 12) sc_law.nd rfl (by first | exact Or.inl rfl | exact Or.inr rfl) (pk_cal h_l_ballot hr (by decide) (pa_cons (pv 8) (pa_cons (pe_dget (by exact hu_of hr) (pv 1) pe_str (fun _ _ => rfl)) pa_nil))))) pss_nil)
      (pss_cons (ps_set (i := 13) sc_law.nd rfl (by first | exact Or.inl rfl | exact Or.inr rfl) (pv 12))
      (pss_cons (ps_if (pt_cmpR (pk_eq T hr.units) (pe_op op_mod (pk_cal h_l_mix hr (by decide) (pa_cons (pv 8) (pa_cons pe_int pa_nil))) pe_int) pe_int (nomark _)) (pss_cons (ps_set (i := 12) sc_law.nd rfl (by first | exact Or.inl rfl | exact Or.inr rfl) pe_non)
      (pss_one (ps_set (i := 13) sc_law.nd rfl (by first | exact Or.inl rfl | exact Or.inr rfl) (pe_op (pk_mul T) (pe_tup (pa_cons pe_str pa_nil)) (pe_callB (pk_len T) (by rfl) T.b_len (by decide +kernel) (pa_cons (pv 4) pa_nil)))))) pss_nil)
      (pss_cons (ps_set (i := 14) sc_law.nd rfl (by first | exact Or.inl rfl | exact Or.inr rfl) (pk_met h_draw hr (by decide) (pv 3) (pa_cons (pv 11) (pa_cons (pv 12) pa_nil))))
      (pss_cons (ps_expr (pk_cal h_l_drawn_beside hr (by decide) (pa_cons (pv 1) (pa_cons (pv 4) (pa_cons (pv 5) (pa_cons (pe_ix (pk_ix T) (pv 2) (pv 11) (fun _ _ => rfl)) (pa_cons (pv 13) pa_nil)))))))
      (pss_cons (ps_if (pt_cmpR (pk_ne T hr.units) (pv 14) (pk_cal h_l_verdict hr (by decide) (pa_cons (pv 1) (pa_cons (pv 4) (pa_cons (pe_callB (pk_len T) (by rfl) T.b_len (by decide +kernel) (pa_cons (pv 6) pa_nil)) pa_nil)))) (nomark _)) (pss_one (ps_ret pe_bl)) pss_nil)
      (pss_one (ps_if (pt_not (pt_val (pk_cal h_l_stands hr (by decide) (pa_cons (pv 3) (pa_cons (pv 1) (pa_cons (pv 4) (pa_cons (pe_callB (pk_len T) (by rfl) T.b_len (by decide +kernel) (pa_cons (pv 6) pa_nil)) pa_nil))))))) (pss_one (ps_ret pe_bl)) pss_nil))))))))))) pss_nil)))))
      (pss_one (ps_ret (pk_cal h_l_stands hr (by decide) (pa_cons (pv 3) (pa_cons (pv 1) (pa_cons (pv 4) (pa_cons (pe_callB (pk_len T) (by rfl) T.b_len (by decide +kernel) (pa_cons (pv 6) pa_nil)) pa_nil)))))))))))))), ?_⟩
    walk_at "sy"
    refine ⟨ns, rfl, hns, fun o cl ll cons lims r most m1 hro hc1 hc2 hll hcok hbd hmo hmc hml hcll ho0 hcl0 hll0 hfr => ?_⟩
    walk_at "sy"
    refine ⟨ns, o, cl, ll, cons, r, most, rfl, hns, hmo, hmc, hro, hc2, hcok, fun rec hrl hrb => ?_⟩
    walk_at "sy"
    have hlo := hro.lo
    have hhi := hro.hi
    refine ⟨o, cl, ll, cons, r, most, rec, rfl, hmo, hmc, hc2, hcok, by omega, by omega, hrb, fun ol cons' outs rec' m2 hl1 hl2 hl3 hok hbl htold hmo2 hmc2 hol2 hol0 hfr2 => ?_⟩
    have hoo : outs.length = cons'.length := by omega
    have hli : lims.length = cons'.length := by omega
    have hol_ne : ol ≠ o ∧ ol ≠ cl ∧ ol ≠ ll := ⟨(mne hmo hol0).symm, (mne hmc hol0).symm, (mne hml hol0).symm⟩
    have hlo_ne : ll ≠ o := fun e => by
      rw [e, hmo] at hml
      cases hml
    have hclo_ne : cl ≠ o := fun e => by
      rw [e, hmo] at hmc
      cases hmc
    have hml2 : m2 ll = some (.lst (lims.map fr)) := (hfr2 ll hlo_ne hcll.symm hol_ne.2.2.symm).trans hml
    obtain ⟨cs, hcs⟩ : ∃ cs, cs = mkCs cons' outs lims := ⟨_, rfl⟩
    have hcl : cs.length = cons'.length := by rw [hcs]; exact mkCs_len hoo hli
    have hcon : cs.map (·.con) = cons' := by rw [hcs]; exact mkCs_con hoo hli
    have hout : cs.map (·.out) = outs := by rw [hcs]; exact mkCs_out hoo hli
    have hlim : cs.map (·.lim) = lims := by rw [hcs]; exact mkCs_lim hoo hli
    have hget : ∀ i p, cs[i]? = some p → ConOk p.con ∧ Told rec' p.con p.out i ∧ Bd 7 p.lim := fun i p h => by
      rw [hcs] at h
      obtain ⟨g1, g2, g3⟩ := mkCs_get hoo hli h
      exact ⟨hok _ (List.mem_of_getElem? g1), htold i _ _ g1 g2, hbd _ (List.mem_of_getElem? g3)⟩
    have hplan : PlanAt o cl ll ol cs r most m2 := by
      refine ⟨hmo2, ?_, ?_, ?_⟩
      · rw [hmc2, ← hcon, List.map_map]
        rfl
      · rw [hml2, ← hlim, List.map_map]
        rfl
      · rw [hol2, ← hout, List.map_map]
        rfl
    have hcsok : CsOk cs := ⟨by omega, fun p hp => by
      obtain ⟨i, hi, e⟩ := List.getElem_of_mem hp
      have := hget i p (by rw [← e]; exact List.getElem?_eq_getElem hi)
      obtain ⟨q1, q2⟩ := out_of this.2.1.1
      exact ⟨this.1, q1, q2, this.2.2⟩⟩
    have hpn : ∀ p ∈ cs.zipIdx, PnOk rec' p := fun p hp => by
      obtain ⟨p, i⟩ := p
      have := hget i p (List.mem_zipIdx_iff_getElem?.mp hp)
      exact ⟨this.2.1.1, this.1.str, this.2.2, this.2.1.2⟩
    have hblen : ∀ b ∈ rec', b.length = cs.length := fun b hb => by rw [(hbl b hb).1, hcl]
    walk_at "sy"
    refine cs_tuple (.inl .val) ?_
    walk_at "sy"
    refine ⟨o, cl, ll, ol, cs, r, most, rec', rfl, hplan, by omega, by omega, hro, by omega, by omega, hblen, hpn, fun m3 oa nl sas hsl hau hoa0 hnl0 hsas0 hfr3 => ?_⟩
    have hplan3 : PlanAt o cl ll ol cs r most m3 := hplan.frame fun b hb _ => hfr3 b hb
    walk_at "sy"
    refine ⟨o, cl, ll, ol, cs, r, most, rfl, hplan3, hcsok, fun rows m4 hrm hlr hnd hrf hfr4 => ?_⟩
    have hplan4 : PlanAt o cl ll ol cs r most m4 := hplan3.frame fun b hb _ => hfr4 b hb
    have hrc : (rows.map fun row => row.map (·.1.1)) = cs.map fun p => p.con.claims p.out := by
      have := congrArg (List.map (List.map Prod.fst)) hrm
      rw [List.map_map, List.map_map] at this
      have e1 : (List.map Prod.fst ∘ fun row : Row => row.map (·.1)) = fun row => row.map (·.1.1) := by
        funext row
        rw [Function.comp_apply, List.map_map]
        rfl
      have e2 : (List.map Prod.fst ∘ fun p : Pn => (p.con.claims p.out).map fun c => (c, Gm.new)) = fun p => p.con.claims p.out := by
        funext p
        rw [Function.comp_apply, List.map_map]
        exact List.map_id _
      rw [e1, e2] at this
      exact this
    have hm3 : ∀ b ∈ [o, cl, ll, ol, oa, nl], m3 b ≠ none := fun b hb => by
      simp only [List.mem_cons, List.not_mem_nil, or_false] at hb
      rcases hb with rfl | rfl | rfl | rfl | rfl | rfl
      · rw [hplan3.ho]; simp
      · rw [hplan3.hc]; simp
      · rw [hplan3.hl]; simp
      · rw [hplan3.hu]; simp
      · rw [hau.ho]; simp
      · rw [hau.hn]; simp
    have hm3s : ∀ b ∈ sas, m3 b ≠ none := fun b hb => by
      have hfst : (sas.zip (cs.zipIdx.map (Sh.new rec'))).map (·.1) = sas := List.map_fst_zip (by rw [List.length_map, List.length_zipIdx]; omega)
      rw [← hfst] at hb
      obtain ⟨p, hp, rfl⟩ := List.mem_map.mp hb
      rw [hau.hs p hp]
      simp
    have hdis : ∀ b ∈ adrs rows, b ≠ o ∧ b ≠ cl ∧ b ≠ ll ∧ b ≠ ol := fun b hb => by
      have h0 := hrf b hb
      exact ⟨fun e => hm3 o (by simp) (by rw [← e]; exact h0), fun e => hm3 cl (by simp) (by rw [← e]; exact h0), fun e => hm3 ll (by simp) (by rw [← e]; exact h0), fun e => hm3 ol (by simp) (by rw [← e]; exact h0)⟩
    walk_at "sy"
    refine ⟨o, cl, ll, ol, cs, r, most, rows, rec', rfl, hplan4, hcsok, hlr, hnd, hrc, by omega, by omega, hblen, hdis, fun m5 hlr5 hfr5 => ?_⟩
    have hfr35 : ∀ b, m3 b ≠ none → m5 b = m3 b := fun b hb => by
      have h4 := hfr4 b hb
      rw [hfr5 b (by rw [h4]; exact hb) (fun q => hb (hrf b q)), h4]
    have hplan5 : PlanAt o cl ll ol cs r most m5 := hplan3.frame fun b hb _ => hfr35 b hb
    walk_at "sy"
    refine sim_lstM ?_
    walk_at "sy"
    intro ln hln
    have hfr36 : ∀ b, m3 b ≠ none → mupd m5 ln (.lst []) b = m3 b := fun b hb => by
      have h5 := hfr35 b hb
      rw [mupd_ne fun e => hb (by rw [← h5, e]; exact hln)]
      exact h5
    have hln3 : ∀ b, m3 b ≠ none → b ≠ ln := fun b hb e => hb (by rw [← hfr35 b hb, e]; exact hln)
    have hlnr : ∀ b ∈ adrs rows, b ≠ ln := fun b hb e => hlr5.some b hb (by rw [e]; exact hln)
    have hap : Apart o cl ll ol oa nl ln sas (adrs rows) := by
      refine ⟨hnd, fun b hb => ?_, fun b hb => ?_, ?_⟩
      · have h0 := hrf b hb
        have hd := hdis b hb
        exact ⟨hd.1, hd.2.1, hd.2.2.1, hd.2.2.2, hlnr b hb, fun e => hm3 oa (by simp) (by rw [← e]; exact h0), fun e => hm3 nl (by simp) (by rw [← e]; exact h0), fun q => hm3s b q h0⟩
      · simp only [List.mem_cons, List.not_mem_nil, or_false] at hb
        have k4 : ∀ b, m2 b ≠ none → b ≠ oa ∧ b ≠ nl ∧ b ∉ sas := fun b hb => ⟨fun e => hb (by rw [e]; exact hoa0), fun e => hb (by rw [e]; exact hnl0), fun q => hb (hsas0 b q)⟩
        rcases hb with rfl | rfl | rfl | rfl | rfl
        · exact k4 _ (by rw [hplan.ho]; simp)
        · exact k4 _ (by rw [hplan.hc]; simp)
        · exact k4 _ (by rw [hplan.hl]; simp)
        · exact k4 _ (by rw [hplan.hu]; simp)
        · exact ⟨(hln3 oa (hm3 oa (by simp))).symm, (hln3 nl (hm3 nl (by simp))).symm, fun q => hln3 _ (hm3s _ q) rfl⟩
      · exact ⟨(hln3 o (hm3 o (by simp))).symm, (hln3 cl (hm3 cl (by simp))).symm, (hln3 ll (hm3 ll (by simp))).symm, (hln3 ol (hm3 ol (by simp))).symm⟩
    have hside : Side a cs r most rec' o cl ll ol oa nl ln sas (adrs rows) [] (sas.zip (cs.zipIdx.map (Sh.new rec'))) rows (mupd m5 ln (.lst [])) := by
      have hsnd : (sas.zip (cs.zipIdx.map (Sh.new rec'))).map (·.2) = cs.zipIdx.map (Sh.new rec') := List.map_snd_zip (by rw [List.length_map, List.length_zipIdx]; omega)
      have hmap : ∀ {β : Type} (f : Sh → β), (sas.zip (cs.zipIdx.map (Sh.new rec'))).map (fun p => f p.2) = cs.zipIdx.map fun p => f (Sh.new rec' p) := fun f => by
        have e : (sas.zip (cs.zipIdx.map (Sh.new rec'))).map (fun p => f p.2) = ((sas.zip (cs.zipIdx.map (Sh.new rec'))).map (·.2)).map f := by
          rw [List.map_map]
          rfl
        rw [e, hsnd, List.map_map]
        rfl
      have hfstm : ∀ {β : Type} (f : Pn → β), (cs.zipIdx.map fun p => f p.1) = cs.map f := fun f => by
        have e : (cs.zipIdx.map fun p => f p.1) = (cs.zipIdx.map (·.1)).map f := by
          rw [List.map_map]
          rfl
        rw [e, List.zipIdx_map_fst]
      refine ⟨hplan3.frame fun b hb _ => hfr36 b hb, ⟨(hfr36 oa (hm3 oa (by simp))).trans hau.ho, (hfr36 nl (hm3 nl (by simp))).trans hau.hn, fun p hp => (hfr36 p.1 (by rw [hau.hs p hp]; simp)).trans (hau.hs p hp), hau.nd, hau.few, hau.lo⟩, ?_, ?_, hlr5.frame fun b hb => mupd_ne (hlnr b hb), ⟨?_, ?_⟩, hrc, ?_, ?_, mupd_same, List.map_fst_zip (by rw [List.length_map, List.length_zipIdx]; omega), rfl, fun n hn => by simp at hn, fun _ => Nat.zero_le _⟩
      · intro p hp
        have hp2 := (List.of_mem_zip hp).2
        obtain ⟨x, hx, e⟩ := List.mem_map.mp hp2
        rw [← e]
        have hx2 := hpn x hx
        refine ⟨hx2.lim, ?_, ?_, ?_, ?_, ?_⟩
        · show 0 < (rec'.map _).length
          rw [List.length_map]
          omega
        · show (rec'.map _).length ≤ 60
          rw [List.length_map]
          omega
        · intro y hy
          obtain ⟨c, hc, rfl⟩ := List.mem_map.mp hy
          exact Con.claims_ok hx2.con c hc
        · intro y hy
          obtain ⟨c, hc, rfl⟩ := List.mem_map.mp hy
          exact Gm.new_ok
        · show (List.map _ _).length ≤ 3
          rw [List.length_map]
          exact Con.claims_len hx2.con
      · intro row hrow q hq
        have h1 : row.map (·.1) ∈ rows.map fun row => row.map (·.1) := List.mem_map_of_mem hrow
        rw [hrm] at h1
        obtain ⟨p, hp, e⟩ := List.mem_map.mp h1
        have h2 : q.1 ∈ row.map (·.1) := List.mem_map_of_mem hq
        rw [← e] at h2
        obtain ⟨c, hc, e2⟩ := List.mem_map.mp h2
        rw [← e2]
        exact Gm.new_ok
      · rw [hrm, hmap (fun s => s.cg)]
        exact (hfstm fun p => (p.con.claims p.out).map fun c => (c, Gm.new)).symm
      · rw [hmap (fun s => s.lim)]
        exact hfstm fun p => p.lim
      · rw [hmap (fun s => s.told)]
        have e : (cs.zipIdx.map fun p => (Sh.new rec' p).told) = (cs.zipIdx.map (·.2)).map fun k => rec'.map fun b => b.getD k none := by
          rw [List.map_map]
          rfl
        rw [e, List.zipIdx_map_snd, List.range_eq_range']
      · rw [hmap (fun s => s.names)]
        exact hfstm fun p => p.con.names
    generalize sas.zip (cs.zipIdx.map (Sh.new rec')) = ss0 at hside
    generalize mupd m5 ln (.lst []) = m6 at hside ⊢
    walk_at "sy"
    refine simS_forM (List.range (max 8 (min ns.length 18) - 6)) (fun i : Nat => D.int (((6 : Nat) : Int) + (i : Int))) (fun done ρ' m' => (∃ z7 z8 z9 z10 z11 z12 z13 z14 : Option D, ρ' = [some (.lst (ns.map D.int)), some (.ptr o), some (recL rec'), some (.ptr oa), some (rowsD rows), some (sclD rec' cs), some (.ptr ln), z7, z8, z9, z10, z11, z12, z13, z14]) ∧
      ∃ nums ss rows2, nums.length ≤ done.length ∧ rowsD rows2 = rowsD rows ∧ Side a cs r most rec' o cl ll ol oa nl ln sas (adrs rows) nums ss rows2 m') (ts := [7]) (simI_rng2 ?_)
    walk_at "sy"
    refine cs_len (.inl .val) ?_
    rw [List.length_map]
    walk_at "sy"
    have eb : (if (if (18 : Int) < (ns.length : Int) then (18 : Int) else (ns.length : Int)) > 8 then (if (18 : Int) < (ns.length : Int) then (18 : Int) else (ns.length : Int)) else 8) = ((max 8 (min ns.length 18) : Nat) : Int) := by
      split <;> split <;> omega
    rw [eb]
    refine ⟨6, max 8 (min ns.length 18), rfl, by omega, by omega, rfl, ⟨⟨_, _, _, _, _, _, _, _, rfl⟩, [], ss0, rows, Nat.le_refl _, rfl, hside⟩, fun _ _ _ _ => trivial, ?_, ?_⟩
    · rintro done k rest ρ' m' hsplit ⟨⟨z7, z8, z9, z10, z11, z12, z13, z14, rfl⟩, nums, ss, rows2, hnl, hrD, hs⟩
      obtain ⟨hk1, hk2⟩ := range_split hsplit
      have ho' := hs.plan.ho
      have hln' := hs.ln
      have hfew := hs.few3 hcsok
      obtain ⟨hml1, hml2⟩ := hs.mt.len
      have hcl2 := hcsok.hi
      walk_at "sy"
      have ek : ((6 : Nat) : Int) + (k : Int) = ((6 + k : Nat) : Int) := by omega
      rw [ek]
      refine ⟨ns, 6 + k, rfl, hns, by omega, ?_⟩
      generalize atF ns (6 + k) = cell
      walk_at "sy"
      refine sim_lcF (List.range r.many) (fun i : Nat => D.int i) (fun i => if r.again = true ∨ i ∉ nums then some (D.int i) else none) (ts := [10]) (by decide) (simI_rng1 ?_)
      walk_at "sy"
      refine ⟨by omega, rfl, by rw [List.length_range]; omega, trivial, fun i hi => ?_, ?_⟩
      · walk_at "sy"
        rcases Bool.eq_false_or_eq_true r.again with hag | hag
        · refine ite_t hag ?_
          walk_at "sy"
          rw [if_pos (.inl hag)]
        · refine ite_f hag ?_
          walk_at "sy"
          have e0 : (nums.map fun n : Nat => D.int n) = (nums.map fun n : Nat => (n : Int)).map D.int := by
            rw [List.map_map]
            rfl
          refine ops_in_ints (ss := nums.map fun n : Nat => (n : Int)) (.inl (by rw [e0] at hln'; exact .mut hln')) ?_
          rw [if_pos rfl]
          walk_at "sy"
          have ei : ((i : Int) ∈ nums.map fun n : Nat => (n : Int)) ↔ i ∈ nums := by
            rw [List.mem_map]
            constructor
            · rintro ⟨x, hx, e⟩
              have : x = i := by omega
              rw [← this]
              exact hx
            · intro h
              exact ⟨i, h, rfl⟩
          refine ite_dn (fun h => ?_) (fun h => ?_)
          · walk_at "sy"
            rw [if_pos (.inr fun q => h (ei.mpr q))]
          · rw [if_neg]
            rintro (q | q)
            · rw [hag] at q
              cases q
            · exact q (ei.mp h)
      rw [filterMap_ite (fun i => r.again = true ∨ i ∉ nums)]
      walk_at "sy"
      refine simS_if ?_
      walk_at "sy"
      refine cs_len (.inl (.mut hln')) ?_
      rw [List.length_map]
      walk_at "sy"
      refine ⟨o, cl, ll, ol, cs, r, most, rows2, nums.length, nums.length, by rw [hrD], hs.plan, hcsok, hs.lr, by omega, hfew, hs.rgood, by omega, ?_⟩
      rw [hs.mt.sures]
      walk_at "sy"
      refine ite_d (fun hon => ?_) (fun hon => ?_)
      · have hne : nums.length ≠ most ∧ ¬ (r.again = false ∧ nums.length = r.many) := by
          unfold vd at hon
          split at hon
          · cases hon
          · split at hon
            · cases hon
            · rename_i h
              exact ⟨fun q => h (.inl q), fun q => h (.inr q)⟩
        have htl : r.again = false → nums.length < r.many := fun q => by
          have := hs.few q
          have : nums.length ≠ r.many := fun e => hne.2 ⟨q, e⟩
          omega
        have hlnz : 0 < ((List.range r.many).filter fun i => decide (r.again = true ∨ i ∉ nums)).length := by
          rw [List.length_pos_iff_exists_mem]
          rcases Bool.eq_false_or_eq_true r.again with hag | hag
          · exact ⟨0, List.mem_filter.mpr ⟨List.mem_range.mpr (by omega), decide_eq_true (.inl hag)⟩⟩
          · have h1 := htl hag
            by_cases hex : ∃ i, i < r.many ∧ i ∉ nums
            · obtain ⟨i, hi1, hi2⟩ := hex
              exact ⟨i, List.mem_filter.mpr ⟨List.mem_range.mpr hi1, decide_eq_true (.inr hi2)⟩⟩
            · have := pigeon r.many nums fun i hi => by
                by_cases q : i ∈ nums
                · exact q
                · exact absurd ⟨i, hi, q⟩ hex
              omega
        walk_at "sy"
        refine ⟨cell, 3, rfl, by omega, ?_⟩
        walk_at "sy"
        refine cs_len (.inl .val) ?_
        rw [List.length_map]
        obtain ⟨ix, eix, hix⟩ := mix_mod cell 3 _ hlnz
        refine ops_modI (by omega) ?_
        rw [eix]
        obtain ⟨n, hn⟩ : ∃ n, ((List.range r.many).filter fun i => decide (r.again = true ∨ i ∉ nums))[ix]? = some n := ⟨_, List.getElem?_eq_getElem hix⟩
        have hnm := List.mem_filter.mp (List.mem_of_getElem? hn)
        have hn1 := List.mem_range.mp hnm.1
        have hn2 := of_decide_eq_true hnm.2
        refine ops_ixL' .val (atI_nat (v := .int n) (by rw [List.getElem?_map, hn]; rfl)) ?_
        walk_at "sy"
        refine apl2 hln' (by rw [List.length_map]; omega) ?_
        walk_at "sy"
        have hnr : n < rec'.length := by omega
        obtain ⟨bn, hbn⟩ : ∃ bn, rec'[n]? = some bn := ⟨rec'[n], List.getElem?_eq_getElem hnr⟩
        have hbnm := List.mem_of_getElem? hbn
        refine ops_ixL' .val (atI_nat (v := .tup (bn.map mkD)) (by rw [List.getElem?_map, hbn]; rfl)) ?_
        obtain ⟨m7, hm7⟩ : ∃ m7, m7 = mupd m' ln (.lst ((nums.map fun n : Nat => D.int n) ++ [.int n])) := ⟨_, rfl⟩
        have h7 : ∀ b, b ≠ ln → m7 b = m' b := fun b hb => by rw [hm7, mupd_ne hb]
        have h7ln : m7 ln = some (.lst ((nums ++ [n]).map fun n : Nat => D.int n)) := by rw [hm7, mupd_same, List.map_append]; rfl
        rw [← hm7]
        have hlnp := hap.ln
        have hlnau := hap.au ln (by simp)
        have hplan7 : PlanAt o cl ll ol cs r most m7 := hs.plan.frame2 fun b hb => h7 b (by
          rcases hb with rfl | rfl | rfl | rfl
          · exact hlnp.1.symm
          · exact hlnp.2.1.symm
          · exact hlnp.2.2.1.symm
          · exact hlnp.2.2.2.symm)
        have hau7 : AuAt a ⟨r, most, nums⟩ oa nl ss m7 := hs.au.frame fun b hb => h7 b (by
          rw [hs.sas] at hb
          rcases hb with rfl | rfl | hb
          · exact hlnau.1.symm
          · exact hlnau.2.1.symm
          · exact fun e => hlnau.2.2 (e ▸ hb))
        have hlr7 : LRows rows2 m7 := hs.lr.frame fun b hb => h7 b (hap.pl b (hs.ad ▸ hb)).2.2.2.2.1
        have hao7 := hau7.ho
        have ho7 := hplan7.ho
        walk_at "sy"
        refine simS_ifJ (B := fun ρ1 m8 => m8 = m7 ∧ ∃ (b : List Mark) (y13 y14 : Option D), BalOk cons' b ∧ ρ1 = [some (.lst (ns.map D.int)), some (.ptr o), some (recL rec'), some (.ptr oa), some (rowsD rows), some (sclD rec' cs), some (.ptr ln), some (.int ((6 + k : Nat) : Int)), some (.int cell), some (.lst (((List.range r.many).filter fun i => decide (r.again = true ∨ i ∉ nums)).map fun i : Nat => D.int i)), z10, some (.int n), some (.tup (b.map mkD)), y13, y14]) ?_ ?_
        · walk_at "sy"
          refine ⟨cell, 4, rfl, by omega, ?_⟩
          walk_at "sy"
          refine ops_modI (by decide) ?_
          walk_at "sy"
          refine ite_d (fun h => ?_) (fun h => ?_)
          · walk_at "sy"
            refine ⟨cell, _, cons', rfl, .inr ⟨cl, rfl, ?_⟩, by omega, hok, fun b hb => ⟨rfl, b, _, _, hb, rfl⟩⟩
            rw [hplan7.hc, ← hcon, List.map_map]
            rfl
          · walk_at "sy"
            exact ⟨bn, _, _, hbl bn hbnm, rfl⟩
        rintro ρ1 m8 ⟨rfl, b, y13, y14, hbb, rfl⟩
        walk_at "sy"
        have hrl2 : rows.length = rows2.length := by
          have h1 : (rowsD rows2) = rowsD rows := hrD
          have h2 : rows2.map rowD = rows.map rowD := D.lst.inj h1
          have := congrArg List.length h2
          rw [List.length_map, List.length_map] at this
          exact this.symm
        have hmkok : ∀ q ∈ b.zip ss, MkOk q.2.2 q.1 := fun q hq => by
          obtain ⟨x, hx, e⟩ := List.getElem_of_mem hq
          rw [List.length_zip] at hx
          rw [List.getElem_zip] at e
          have hbl2 := hbb.1
          have hz : (b.zip cons')[x]? = some (b[x]'(by omega), cons'[x]'(by omega)) := by
            rw [List.getElem?_eq_getElem (by rw [List.length_zip]; omega), List.getElem_zip]
          have h1 := hbb.2 _ (List.mem_of_getElem? hz)
          have h2 : (ss[x]'(by omega)).2.names = (cons'[x]'(by omega)).names := by
            have := congrArg (fun l => l[x]?) hs.nm
            simp only [List.getElem?_map] at this
            rw [List.getElem?_eq_getElem (show x < ss.length by omega), List.getElem?_eq_getElem (show x < cs.length by omega)] at this
            have h3 : (cs[x]'(by omega)).con = cons'[x]'(by omega) := by
              have h4 : (cs.map (·.con))[x]? = cons'[x]? := by rw [hcon]
              rw [List.getElem?_map, List.getElem?_eq_getElem (show x < cs.length by omega), List.getElem?_eq_getElem (show x < cons'.length by omega)] at h4
              exact Option.some.inj h4
            rw [← h3]
            exact Option.some.inj this
          rw [← e]
          unfold MkOk
          rw [h2]
          exact h1
        refine simS_ifJ (B := fun ρ1 m9 => m9 = m8 ∧ ∃ (bD : D) (mks : List Mark) (y14 : Option D), mks.length = ss.length ∧ ((bD = .non ∧ mks = List.replicate ss.length (some ("?" : Str))) ∨ (bD = .tup (mks.map mkD) ∧ ∀ q ∈ mks.zip ss, MkOk q.2.2 q.1)) ∧ ρ1 = [some (.lst (ns.map D.int)), some (.ptr o), some (recL rec'), some (.ptr oa), some (rowsD rows), some (sclD rec' cs), some (.ptr ln), some (.int ((6 + k : Nat) : Int)), some (.int cell), some (.lst (((List.range r.many).filter fun i => decide (r.again = true ∨ i ∉ nums)).map fun i : Nat => D.int i)), z10, some (.int n), some bD, some (.tup (mks.map mkD)), y14]) ?_ ?_
        · walk_at "sy"
          refine ⟨cell, 5, rfl, by omega, ?_⟩
          walk_at "sy"
          refine ops_modI (by decide) ?_
          walk_at "sy"
          refine ite_d (fun h => ?_) (fun h => ?_)
          · walk_at "sy"
            refine cs_len (.inl .val) ?_
            rw [List.length_map]
            refine ops_mulT (by have := hs.au.lo; omega) (by omega) ?_
            refine ⟨rfl, .non, List.replicate ss.length (some ("?" : Str)), y14, by simp, .inl ⟨rfl, rfl⟩, ?_⟩
            rw [List.map_replicate, hrl2, hml1]
            rfl
          · walk_at "sy"
            exact ⟨_, b, _, by rw [hbb.1]; omega, .inr ⟨rfl, hmkok⟩, rfl⟩
        rintro ρ1 m9 ⟨rfl, bD, mks, y14, hmkl, hbD, rfl⟩
        walk_at "sy"
        have hk12 : nums.length < 12 := by omega
        have htoldl : ∀ p ∈ ss, n < p.2.told.length := fun p hp => by
          have h1 : p.2.told ∈ ss.map fun p => p.2.told := List.mem_map_of_mem hp
          rw [hs.tl] at h1
          obtain ⟨x, _, e⟩ := List.mem_map.mp h1
          rw [← e, List.length_map]
          exact hnr
        refine ⟨⟨r, most, nums⟩, oa, nl, ss, nums.length, n, bD, mks, rfl, hau7, hro, hs.good, hk12, rfl, htl, hon, hn1, hn2, hmkl, htoldl, hbD, fun m10 hau10 hfr10 => ?_⟩
        have hfst := playL_fst (r := r) (n := n) (ss := ss) (mks := mks) hmkl
        have h10 : ∀ b, b ≠ nl → b ∉ sas → m10 b = m9 b := fun b h1 h2 => hfr10 b h1 (by rw [hs.sas]; exact h2)
        have hplan10 : PlanAt o cl ll ol cs r most m10 := hplan7.frame2 fun b hb => by
          have : b ∈ [o, cl, ll, ol, ln] := by
            simp only [List.mem_cons, List.not_mem_nil, or_false]
            rcases hb with rfl | rfl | rfl | rfl <;> simp
          have := hap.au b this
          exact h10 b this.2.1 this.2.2
        have hlr10 : LRows rows2 m10 := hlr7.frame fun b hb => by
          have := hap.pl b (hs.ad ▸ hb)
          exact h10 b this.2.2.2.2.2.2.1 this.2.2.2.2.2.2.2
        have h10ln : m10 ln = some (.lst ((nums ++ [n]).map fun n : Nat => D.int n)) := (h10 ln hlnau.2.1 hlnau.2.2).trans h7ln
        walk_at "sy"
        refine ops_ixL' .val (atI_nat (v := .tup (bn.map mkD)) (by rw [List.getElem?_map, hbn]; rfl)) ?_
        walk_at "sy"
        refine ⟨o, cl, ll, ol, cs, r, most, rows2, rec', bn, mks, nums.length, by rw [hrD], hplan10, hcsok, hro, hlr10, by rw [hs.ad]; exact hap.nd, hs.cl, by omega, by omega, hblen bn hbnm, by omega, hs.rgood, hk12, htl, fun b hb => ?_, fun m11 hlr11 hfr11 => ?_⟩
        · have := hap.pl b (hs.ad ▸ hb)
          exact ⟨this.1, this.2.1, this.2.2.1, this.2.2.2.1⟩
        have hplan11 : PlanAt o cl ll ol cs r most m11 := hplan10.frame2 fun b hb => hfr11 b fun q => by
          have := hap.pl b (hs.ad ▸ q)
          rcases hb with rfl | rfl | rfl | rfl
          · exact this.1 rfl
          · exact this.2.1 rfl
          · exact this.2.2.1 rfl
          · exact this.2.2.2.1 rfl
        have hau11 : AuAt a ⟨r, most, nums ++ [n]⟩ oa nl (playL r n ss mks) m11 := hau10.frame fun b hb => hfr11 b fun q => by
          have := hap.pl b (hs.ad ▸ q)
          rw [hfst, hs.sas] at hb
          rcases hb with rfl | rfl | hb
          · exact this.2.2.2.2.2.1 rfl
          · exact this.2.2.2.2.2.2.1 rfl
          · exact this.2.2.2.2.2.2.2 hb
        have hside2 : Side a cs r most rec' o cl ll ol oa nl ln sas (adrs rows) (nums ++ [n]) (playL r n ss mks) (plRows r rec' bn mks rows2) m11 := by
          have hlen1 : (nums ++ [n]).length = nums.length + 1 := by rw [List.length_append]; rfl
          refine ⟨hplan11, hau11, ?_, ?_, hlr11, ?_, ?_, ?_, ?_, ?_, hfst.trans hs.sas, (adrs_pl ..).trans hs.ad, ?_, fun q => ?_⟩
          · rw [hlen1]
            exact Good.play hro hs.good htl
          · rw [hlen1]
            intro row' hrow' q' hq'
            obtain ⟨⟨row, k'⟩, hx, rfl⟩ := List.mem_map.mp hrow'
            obtain ⟨q, hq, rfl⟩ := List.mem_map.mp hq'
            have hrk : rows2[k']? = some row := List.mem_zipIdx_iff_getElem?.mp hx
            have hrm2 := List.mem_of_getElem? hrk
            have h1 : row.map (·.1.1) ∈ rows2.map fun row => row.map (·.1.1) := List.mem_map_of_mem hrm2
            rw [hs.cl] at h1
            obtain ⟨p, hp, e⟩ := List.mem_map.mp h1
            obtain ⟨p1, p2, p3, _⟩ := hcsok.ok p hp
            have hqm : q.1.1 ∈ p.con.claims p.out := by rw [e]; exact List.mem_map_of_mem hq
            have hqc := Con.claims_ok (con_ok p1 p3 p2) _ hqm
            have hsb := Claim.scale_bd hqc (mks := rec'.map fun b : List Mark => b.getD k' none) (by rw [List.length_map]; omega) (by rw [List.length_map]; omega)
            have hsp2 := Claim.scale_pos hqc (mks := rec'.map fun b : List Mark => b.getD k' none) (by rw [List.length_map]; omega)
            exact Gm.play_ok hro (hs.rgood row hrm2 q hq) htl (Claim.cmp_bd hqc hsb hsp2)
          · refine ⟨?_, ?_⟩
            · apply List.ext_getElem?
              intro i
              unfold plRows playL
              rw [List.getElem?_map, List.getElem?_map, List.getElem?_map, List.getElem?_map, List.getElem?_zipIdx]
              by_cases hi : i < ss.length
              · have hz : (ss.zip mks)[i]? = some (ss[i], mks[i]'(by omega)) := by rw [List.getElem?_eq_getElem (by rw [List.length_zip]; omega), List.getElem_zip]
                rw [hz, List.getElem?_eq_getElem (show i < rows2.length by omega)]
                have e1 : (rows2[i]'(by omega)).map (·.1) = ss[i].2.cg := by
                  have := congrArg (fun l => l[i]?) hs.mt.cg
                  simp only [List.getElem?_map] at this
                  rw [List.getElem?_eq_getElem (show i < rows2.length by omega), List.getElem?_eq_getElem hi] at this
                  exact Option.some.inj this
                have e2 : ss[i].2.told = rec'.map fun b => b.getD i none := by
                  have := congrArg (fun l => l[i]?) hs.tl
                  simp only [List.getElem?_map] at this
                  rw [List.getElem?_eq_getElem hi, List.getElem?_range (by omega)] at this
                  exact Option.some.inj this
                have e3 : (rec'.map fun b : List Mark => b.getD i none).getD n none = bn.getD i none := by
                  rw [List.getD_eq_getElem?_getD, List.getElem?_map, hbn]
                  rfl
                have e4 : mks.getD i none = mks[i]'(by omega) := by
                  rw [List.getD_eq_getElem?_getD, List.getElem?_eq_getElem (by omega)]
                  rfl
                simp only [Option.map_some, Nat.zero_add, Sh.play, ← e1, e2, e3, List.map_map]
                refine congrArg some (List.map_congr_left fun q _ => ?_)
                show _ = _
                simp only [Function.comp_apply, plq, e4]
              · rw [List.getElem?_eq_none (show rows2.length ≤ i by omega), List.getElem?_eq_none (show (ss.zip mks).length ≤ i by rw [List.length_zip]; omega)]
                rfl
            · rw [playL_map (fun s => s.lim) (fun _ _ => rfl) hmkl]
              exact hs.mt.lim
          · unfold plRows
            rw [List.map_map]
            have e : (rows2.zipIdx.map ((fun row : Row => row.map (·.1.1)) ∘ fun p => p.1.map (plq r rec' bn mks p.2))) = (rows2.zipIdx.map (·.1)).map fun row : Row => row.map (·.1.1) := by
              rw [List.map_map]
              refine List.map_congr_left fun p _ => ?_
              simp only [Function.comp_apply, List.map_map]
              rfl
            rw [e, List.zipIdx_map_fst]
            exact hs.cl
          · rw [playL_map (fun s => s.told) (fun _ _ => rfl) hmkl]
            exact hs.tl
          · rw [playL_map (fun s => s.names) (fun _ _ => rfl) hmkl]
            exact hs.nm
          · rw [hfr11 ln fun q => (hap.pl ln (hs.ad ▸ q)).2.2.2.2.1 rfl]
            exact h10ln
          · intro x hx
            rcases List.mem_append.mp hx with hx | hx
            · exact hs.lt x hx
            · have : x = n := by simpa using hx
              omega
          · rw [hlen1]
            have := htl q
            omega
        have ho11 := hplan11.ho
        have hln11 := hside2.ln
        have hrD2 : rowsD (plRows r rec' bn mks rows2) = rowsD rows := by rw [rowsD_pl, hrD]
        have hl2 := hside2.mt.len
        walk_at "sy"
        refine simS_if ?_
        walk_at "sy"
        refine cs_len (.inl (.mut hln11)) ?_
        rw [List.length_map]
        walk_at "sy"
        refine ⟨o, cl, ll, ol, cs, r, most, plRows r rec' bn mks rows2, (nums ++ [n]).length, (nums ++ [n]).length, by rw [hrD2], hplan11, hcsok, hside2.lr, by omega, hside2.few3 hcsok, hside2.rgood, by rw [List.length_append, List.length_singleton]; omega, ?_⟩
        rw [hside2.mt.sures, List.length_append, List.length_singleton]
        refine ops_neSt ?_
        walk_at "sy"
        refine ite_nn (by rw [List.length_append]; rfl) ?_
        walk_at "sy"
        refine simS_if ?_
        walk_at "sy"
        refine cs_len (.inl (.mut hln11)) ?_
        rw [List.length_map]
        walk_at "sy"
        refine ⟨o, cl, ll, ol, cs, most, plRows r rec' bn mks rows2, ⟨r, most, nums ++ [n]⟩, oa, nl, playL r n ss mks, (nums ++ [n]).length, (nums ++ [n]).length, by rw [hrD2], hplan11, hcsok, hside2.lr, hside2.few3 hcsok, hside2.rgood, by rw [List.length_append, List.length_singleton]; omega, hau11, hside2.good, hside2.mt, rfl, rfl, ?_⟩
        walk_at "sy"
        exact ⟨⟨_, _, _, _, _, _, _, _, rfl⟩, nums ++ [n], playL r n ss mks, plRows r rec' bn mks rows2, by rw [List.length_append]; exact Nat.add_le_add_right hnl 1, hrD2, hside2⟩
      · walk_at "sy"
        exact ⟨⟨_, _, _, _, _, _, _, _, rfl⟩, nums, ss, rows2, by rw [List.length_append]; omega, hrD, hs⟩
    · rintro ρ' m' ⟨⟨z7, z8, z9, z10, z11, z12, z13, z14, rfl⟩, nums, ss, rows2, hnl, hrD, hs⟩
      walk_at "sy"
      refine cs_len (.inl (.mut hs.ln)) ?_
      rw [List.length_map]
      walk_at "sy"
      rw [List.length_range] at hnl
      refine ⟨o, cl, ll, ol, cs, most, rows2, ⟨r, most, nums⟩, oa, nl, ss, nums.length, nums.length, by rw [hrD], hs.plan, hcsok, hs.lr, hs.few3 hcsok, hs.rgood, by omega, hs.au, hs.good, hs.mt, rfl, rfl, hP _⟩
end
end L3

/-! text L5b -/
set_option Elab.async false
set_option linter.all false
set_option maxRecDepth 100000
set_option maxHeartbeats 0
/-! L5b: facts by names; all defs joined. -/
namespace L3
open PySem L2
section
variable {P : Program} {w : World} {K : PySem.W.Frag} {mg : Str → Option Value} {base : Heap}
theorem CalC.up {j k : Nat} {x : Str} {C : Ctr} (c : CalC P w K mg base j x C) (h : j ≤ k) : CalC P w K mg base k x C := by
  obtain ⟨f, fd, ps, F, a, b, d⟩ := c.ex
  exact ⟨f, fd, ps, F.mono h, a, b, d⟩
theorem MetC.up {j k : Nat} {Cl : Addr} {x : Str} {C : Ctr} (c : MetC P w K mg base j Cl x C) (h : j ≤ k) : MetC P w K mg base k Cl x C := by
  obtain ⟨f, fd, ps, a, b, F, d⟩ := c.ex
  exact ⟨f, fd, ps, a, b, F.mono h, d⟩
theorem MakC.up {j k : Nat} {Cl : Addr} {x : Str} {C : Ctr} (c : MakC P w K mg base j x Cl C) (h : j ≤ k) : MakC P w K mg base k x Cl C := by
  obtain ⟨f, fd, ps, a, F, b, d⟩ := c.ex
  exact ⟨f, fd, ps, a, F.mono h, b, d⟩
theorem HGood.fact (g : HGood K) (i : Nat) {f : He.Fa} (h : hFa[i]? = some f) : f.ok K = true := List.all_eq_true.mp g.f f (List.mem_of_getElem? h)
theorem getF {p : Str × Option Str} {x qual : Str} {st : Stmt} (c : He.SaysD [] hFn K) (i : Nat) (h : hFn[i]? = some ⟨p, x, qual, defArgs st, defBody st, defScope st, [], []⟩) (ps : List Str)
    (hb : ∀ (kV doc pm : Value) (an : Option Addr) (cdv ct : Value) (us : List Value), us.length = ps.length → bindArgs (PySem.W.fnOf x qual (defArgs st) (defBody st) (defScope st) .none kV doc pm an cdv ct) ⟨us, []⟩ = pure (ps.zip us)) :
    ∃ fd, Fun K x qual st (He.fAd K p) fd ∧ Binds K fd ps [] := by
  obtain ⟨fd, F⟩ := c.def_ i h
  obtain ⟨oc, od, dV, kV, doc, pm, an, cdv, ct, osl, e, l, cd, hD, _⟩ := F.ex
  rcases hD with ⟨_, rfl⟩ | ⟨z, _⟩
  · have F2 : Fun K x qual st (He.fAd K p) fd := ⟨⟨oc, od, kV, doc, pm, an, cdv, ct, osl, e, l, cd⟩, F.kp⟩
    exact ⟨fd, F2, F2.binds hb⟩
  · exact absurd rfl z
end
theorem cfnB_ok {K : PySem.W.Frag} {x : Str} (h : cfnB K x = true) : CFn K (He.ga K x) (.type "type") "__init__" (He.ma K (He.ga K x) "__init__") := by
  obtain ⟨h1, h⟩ := He.ba h
  obtain ⟨h2, h⟩ := He.ba h
  obtain ⟨h3, h4⟩ := He.ba h
  refine ⟨h1, He.eqO_ok h2, ?_, h4⟩
  cases e : PySem.W.findCls K (.ref (He.ga K x)) (.type "type") "__init__" with
  | none =>
    rw [e] at h3
    cases h3
  | some c =>
    rw [e] at h3
    cases c with
    | val v =>
      cases v with
      | ref b =>
        have eb : b = He.ma K (He.ga K x) "__init__" := of_decide_eq_true h3
        rw [eb]
      | _ => cases h3
    | get _ _ _ _ => cases h3
theorem pair_rep {K : PySem.W.Frag} {x : Str} {i j : Int} (h : He.tupB K x [.int i, .int j] = true) (S : Hp) : Rep K S (.tup [.int i, .int j]) (.ref (He.ga K x)) := ⟨_, _, rfl, He.tupB_ok h S, .cons rfl (.cons rfl .nil)⟩
theorem gref {mg : Str → Option Value} {x : Str} {a : Addr} (h : mg x = some (.ref a)) : ∃ u, mg x = some u ∧ RelV (.ref a) u := ⟨_, h, rfl⟩
def hAdr (K : PySem.W.Frag) : Adr := { Game := He.ga K "Game", Way := He.ga K "Way", Comparing := He.ga K "Comparing", Sheet := He.ga K "Sheet", Audit := He.ga K "Audit", Beats := He.ga K "Beats", Over := He.ga K "Over", Under := He.ga K "Under", Contest := He.ga K "Contest", Most := He.ga K "Most", Portion := He.ga K "Portion", Fixed := He.ga K "Fixed", NOUGHT_games := He.ga K "NOUGHT_games", ONE_games := He.ga K "ONE_games", ONE_ways := He.ga K "ONE_ways", TWO := He.ga K "TWO", NOUGHT_claims := He.ga K "NOUGHT_claims", HALF := He.ga K "HALF", ONE_claims := He.ga K "ONE_claims" }
theorem hTxt {K : PySem.W.Frag} {mg : Str → Option Value} {h : Heap} (X : K.In h) (G : h.Ns mainGlobals mg) (g : HGood K) : Txt K mg (hAdr K) := by
  obtain ⟨t_NOUGHT_games, r0⟩ := He.ba (show (_ && _) = true from g.t)
  obtain ⟨t_ONE_games, r1⟩ := He.ba r0
  obtain ⟨t_ONE_ways, r2⟩ := He.ba r1
  obtain ⟨t_TWO, r3⟩ := He.ba r2
  obtain ⟨t_NOUGHT_claims, r4⟩ := He.ba r3
  obtain ⟨t_HALF, r5⟩ := He.ba r4
  have t_ONE_claims := r5
  exact {
    b_len := He.free_ok X G (g.fact 0 rfl)
    b_sum := He.free_ok X G (g.fact 1 rfl)
    b_sorted := He.free_ok X G (g.fact 2 rfl)
    b_abs := He.free_ok X G (g.fact 3 rfl)
    b_all := He.free_ok X G (g.fact 4 rfl)
    b_isinstance := He.free_ok X G (g.fact 5 rfl)
    b_max := He.free_ok X G (g.fact 6 rfl)
    b_min := He.free_ok X G (g.fact 7 rfl)
    b_tuple := He.free_ok X G (g.fact 8 rfl)
    b_list := He.free_ok X G (g.fact 9 rfl)
    b_int := He.free_ok X G (g.fact 10 rfl)
    b_bool := He.free_ok X G (g.fact 11 rfl)
    b_str := He.free_ok X G (g.fact 12 rfl)
    b_range := He.free_ok X G (g.fact 13 rfl)
    b_zip := He.free_ok X G (g.fact 14 rfl)
    b_enumerate := He.free_ok X G (g.fact 15 rfl)
    g_Game := gref (He.glo_ok X G (g.fact 16 rfl))
    k_Game := He.cls_ok (g.fact 81 rfl)
    n_Game_many := He.noat_ok (g.fact 82 rfl)
    n_Game_again := He.noat_ok (g.fact 83 rfl)
    n_Game_highest := He.noat_ok (g.fact 84 rfl)
    n_Game_rule := He.noat_ok (g.fact 85 rfl)
    n_Game_drawn_values := He.noat_ok (g.fact 86 rfl)
    n_Game_sum_so_far := He.noat_ok (g.fact 87 rfl)
    n_Game_now := He.noat_ok (g.fact 88 rfl)
    n_Game_most := He.noat_ok (g.fact 89 rfl)
    n_Game_certain := He.noat_ok (g.fact 90 rfl)
    g_Way := gref (He.glo_ok X G (g.fact 17 rfl))
    k_Way := He.cls_ok (g.fact 91 rfl)
    n_Way_claim := He.noat_ok (g.fact 92 rfl)
    g_Comparing := gref (He.glo_ok X G (g.fact 18 rfl))
    k_Comparing := He.cls_ok (g.fact 93 rfl)
    n_Comparing_claim := He.noat_ok (g.fact 94 rfl)
    n_Comparing_told := He.noat_ok (g.fact 95 rfl)
    n_Comparing_scale := He.noat_ok (g.fact 96 rfl)
    g_Sheet := gref (He.glo_ok X G (g.fact 19 rfl))
    k_Sheet := He.cls_ok (g.fact 97 rfl)
    n_Sheet_names := He.noat_ok (g.fact 98 rfl)
    n_Sheet_limit := He.noat_ok (g.fact 99 rfl)
    n_Sheet_ways := He.noat_ok (g.fact 100 rfl)
    n_Sheet_games := He.noat_ok (g.fact 101 rfl)
    g_Audit := gref (He.glo_ok X G (g.fact 20 rfl))
    k_Audit := He.cls_ok (g.fact 102 rfl)
    n_Audit_sheets := He.noat_ok (g.fact 103 rfl)
    n_Audit_many := He.noat_ok (g.fact 104 rfl)
    n_Audit_again := He.noat_ok (g.fact 105 rfl)
    n_Audit_most := He.noat_ok (g.fact 106 rfl)
    n_Audit_numbers := He.noat_ok (g.fact 107 rfl)
    g_Beats := gref (He.glo_ok X G (g.fact 21 rfl))
    k_Beats := He.cls_ok (g.fact 108 rfl)
    n_Beats_one := He.noat_ok (g.fact 109 rfl)
    n_Beats_other := He.noat_ok (g.fact 110 rfl)
    g_Over := gref (He.glo_ok X G (g.fact 22 rfl))
    k_Over := He.cls_ok (g.fact 111 rfl)
    n_Over_name := He.noat_ok (g.fact 112 rfl)
    n_Over_share := He.noat_ok (g.fact 113 rfl)
    g_Under := gref (He.glo_ok X G (g.fact 23 rfl))
    k_Under := He.cls_ok (g.fact 114 rfl)
    n_Under_name := He.noat_ok (g.fact 115 rfl)
    n_Under_share := He.noat_ok (g.fact 116 rfl)
    g_Contest := gref (He.glo_ok X G (g.fact 24 rfl))
    k_Contest := He.cls_ok (g.fact 117 rfl)
    n_Contest_names := He.noat_ok (g.fact 118 rfl)
    g_Most := gref (He.glo_ok X G (g.fact 25 rfl))
    k_Most := He.cls_ok (g.fact 119 rfl)
    n_Most_names := He.noat_ok (g.fact 120 rfl)
    n_Most_seats := He.noat_ok (g.fact 121 rfl)
    g_Portion := gref (He.glo_ok X G (g.fact 26 rfl))
    k_Portion := He.cls_ok (g.fact 122 rfl)
    n_Portion_names := He.noat_ok (g.fact 123 rfl)
    n_Portion_share := He.noat_ok (g.fact 124 rfl)
    g_Fixed := gref (He.glo_ok X G (g.fact 27 rfl))
    k_Fixed := He.cls_ok (g.fact 125 rfl)
    n_Fixed_part := He.noat_ok (g.fact 126 rfl)
    g_NOUGHT_games := gref (He.glo_ok X G (g.fact 28 rfl))
    t_NOUGHT_games := pair_rep t_NOUGHT_games
    g_ONE_games := gref (He.glo_ok X G (g.fact 29 rfl))
    t_ONE_games := pair_rep t_ONE_games
    g_ONE_ways := gref (He.glo_ok X G (g.fact 30 rfl))
    t_ONE_ways := pair_rep t_ONE_ways
    g_TWO := gref (He.glo_ok X G (g.fact 31 rfl))
    t_TWO := pair_rep t_TWO
    g_NOUGHT_claims := gref (He.glo_ok X G (g.fact 32 rfl))
    t_NOUGHT_claims := pair_rep t_NOUGHT_claims
    g_HALF := gref (He.glo_ok X G (g.fact 33 rfl))
    t_HALF := pair_rep t_HALF
    g_ONE_claims := gref (He.glo_ok X G (g.fact 34 rfl))
    t_ONE_claims := pair_rep t_ONE_claims
    g_LACKS := by
      obtain ⟨t, e⟩ := He.str_ok X G (g.fact 184 rfl)
      exact ⟨_, e, t, rfl⟩ }
section
variable {P : Program} {w : World} {K : PySem.W.Frag} {mg : Str → Option Value} {base : Heap} {h : Heap} (X : K.In h) (G : h.Ns mainGlobals mg) (g : HGood K)
include X G g
theorem hC_l_at : CalC P w K mg base 1 "_law_at" (cAtF) := by
  obtain ⟨fd, F, b⟩ := getF g.d 11 (p := ("_law_at", none)) (st := s_l_at) rfl ["_law_script", "_law_k"] (fun _ _ _ _ _ _ us hl => match us, hl with | [_, _], _ => rfl)
  exact ⟨_, _, _, (ok_l_at F (hTxt X G g) ), He.glo_ok X G (g.fact 46 rfl), F.kp, b⟩
theorem hC_l_mix : CalC P w K mg base 1 "_law_mix" (cMix) := by
  obtain ⟨fd, F, b⟩ := getF g.d 12 (p := ("_law_mix", none)) (st := s_l_mix) rfl ["_law_cell", "_law_k"] (fun _ _ _ _ _ _ us hl => match us, hl with | [_, _], _ => rfl)
  exact ⟨_, _, _, (ok_l_mix F (hTxt X G g) ), He.glo_ok X G (g.fact 47 rfl), F.kp, b⟩
theorem hC_l_names : CalC P w K mg base 2 "_law_names" (cNames) := by
  obtain ⟨fd, F, b⟩ := getF g.d 13 (p := ("_law_names", none)) (st := s_l_names) rfl ["_law_cell", "_law_many"] (fun _ _ _ _ _ _ us hl => match us, hl with | [_, _], _ => rfl)
  exact ⟨_, _, _, (ok_l_names F (hTxt X G g) (hC_l_mix (P := P) (w := w) (base := base) X G g)), He.glo_ok X G (g.fact 48 rfl), F.kp, b⟩
theorem hC_l_lowest : CalC P w K mg base 1 "_law_lowest" (cLow) := by
  obtain ⟨fd, F, b⟩ := getF g.d 14 (p := ("_law_lowest", none)) (st := s_l_lowest) rfl ["_law_a", "_law_b"] (fun _ _ _ _ _ _ us hl => match us, hl with | [_, _], _ => rfl)
  exact ⟨_, _, _, (ok_l_lowest F (hTxt X G g) ), He.glo_ok X G (g.fact 49 rfl), F.kp, b⟩
theorem hC_l_contest : CalC P w K mg base 2 "_law_contest" (cContest) := by
  obtain ⟨fd, F, b⟩ := getF g.d 24 (p := ("_law_contest", none)) (st := s_l_contest) rfl ["_law_cell", "_law_names_here"] (fun _ _ _ _ _ _ us hl => match us, hl with | [_, _], _ => rfl)
  exact ⟨_, _, _, (ok_l_contest F (hTxt X G g) (hC_l_mix (P := P) (w := w) (base := base) X G g) (hC_l_lowest (P := P) (w := w) (base := base) X G g)), He.glo_ok X G (g.fact 59 rfl), F.kp, b⟩
theorem hC_l_limit : CalC P w K mg base 2 "_law_limit" (cLimit) := by
  obtain ⟨fd, F, b⟩ := getF g.d 33 (p := ("_law_limit", none)) (st := s_l_limit) rfl ["_law_cell"] (fun _ _ _ _ _ _ us hl => match us, hl with | [_], _ => rfl)
  exact ⟨_, _, _, (ok_l_limit F (hTxt X G g) (hC_l_mix (P := P) (w := w) (base := base) X G g) (hC_l_lowest (P := P) (w := w) (base := base) X G g)), He.glo_ok X G (g.fact 68 rfl), F.kp, b⟩
theorem hC_l_plan : CalC P w K mg base 3 "_law_plan" (cPlan) := by
  obtain ⟨fd, F, b⟩ := getF g.d 34 (p := ("_law_plan", none)) (st := s_l_plan) rfl ["_law_script", "_law_most_contests", "_law_most_names"] (fun _ _ _ _ _ _ us hl => match us, hl with | [_, _, _], _ => rfl)
  exact ⟨_, _, _, (ok_l_plan F (hTxt X G g) (hC_l_at (P := P) (w := w) (base := base) X G g) (hC_l_names (P := P) (w := w) (base := base) X G g) (hC_l_mix (P := P) (w := w) (base := base) X G g) (hC_l_contest (P := P) (w := w) (base := base) X G g) (hC_l_limit (P := P) (w := w) (base := base) X G g) (hC_l_lowest (P := P) (w := w) (base := base) X G g)), He.glo_ok X G (g.fact 69 rfl), F.kp, b⟩
theorem hC_l_ballot : CalC P w K mg base 2 "_law_ballot" (cBallot) := by
  obtain ⟨fd, F, b⟩ := getF g.d 35 (p := ("_law_ballot", none)) (st := s_l_ballot) rfl ["_law_cell", "_law_contests"] (fun _ _ _ _ _ _ us hl => match us, hl with | [_, _], _ => rfl)
  exact ⟨_, _, _, (ok_l_ballot F (hTxt X G g) (hC_l_mix (P := P) (w := w) (base := base) X G g)), He.glo_ok X G (g.fact 70 rfl), F.kp, b⟩
theorem hC_l_record : CalC P w K mg base 3 "_law_record" (cRecord) := by
  obtain ⟨fd, F, b⟩ := getF g.d 36 (p := ("_law_record", none)) (st := s_l_record) rfl ["_law_script", "_law_plan_here"] (fun _ _ _ _ _ _ us hl => match us, hl with | [_, _], _ => rfl)
  exact ⟨_, _, _, (ok_l_record F (hTxt X G g) (hC_l_at (P := P) (w := w) (base := base) X G g) (hC_l_ballot (P := P) (w := w) (base := base) X G g)), He.glo_ok X G (g.fact 71 rfl), F.kp, b⟩
theorem hC_l_counts : CalC P w K mg base 1 "_law_counts" (cLCounts) := by
  obtain ⟨fd, F, b⟩ := getF g.d 25 (p := ("_law_counts", none)) (st := s_l_counts) rfl ["_law_names_here", "_law_marks"] (fun _ _ _ _ _ _ us hl => match us, hl with | [_, _], _ => rfl)
  exact ⟨_, _, _, (ok_l_counts F (hTxt X G g) ), He.glo_ok X G (g.fact 60 rfl), F.kp, b⟩
theorem hC_l_outcome : CalC P w K mg base 2 "_law_outcome" (cLOutcome) := by
  obtain ⟨fd, F, b⟩ := getF g.d 26 (p := ("_law_outcome", none)) (st := s_l_outcome) rfl ["_law_contest_here", "_law_marks"] (fun _ _ _ _ _ _ us hl => match us, hl with | [_, _], _ => rfl)
  exact ⟨_, _, _, (ok_l_outcome F (hTxt X G g) (hC_l_counts (P := P) (w := w) (base := base) X G g)), He.glo_ok X G (g.fact 61 rfl), F.kp, b⟩
theorem hC_l_claims : CalC P w K mg base 1 "_law_claims" (cLClaims) := by
  obtain ⟨fd, F, b⟩ := getF g.d 27 (p := ("_law_claims", none)) (st := s_l_claims) rfl ["_law_contest_here", "_law_outcome_here"] (fun _ _ _ _ _ _ us hl => match us, hl with | [_, _], _ => rfl)
  exact ⟨_, _, _, (ok_l_claims F (hTxt X G g) ), He.glo_ok X G (g.fact 62 rfl), F.kp, b⟩
theorem hC_l_plus : CalC P w K mg base 2 "_law_plus" (cPlus) := by
  obtain ⟨fd, F, b⟩ := getF g.d 15 (p := ("_law_plus", none)) (st := s_l_plus) rfl ["_law_x", "_law_y"] (fun _ _ _ _ _ _ us hl => match us, hl with | [_, _], _ => rfl)
  exact ⟨_, _, _, (ok_l_plus F (hTxt X G g) (hC_l_lowest (P := P) (w := w) (base := base) X G g)), He.glo_ok X G (g.fact 50 rfl), F.kp, b⟩
theorem hC_l_greatest : CalC P w K mg base 2 "_law_greatest" (cLGreatest) := by
  obtain ⟨fd, F, b⟩ := getF g.d 18 (p := ("_law_greatest", none)) (st := s_l_greatest) rfl ["_law_claim"] (fun _ _ _ _ _ _ us hl => match us, hl with | [_], _ => rfl)
  exact ⟨_, _, _, (ok_l_greatest F (hTxt X G g) (hC_l_lowest (P := P) (w := w) (base := base) X G g)), He.glo_ok X G (g.fact 53 rfl), F.kp, b⟩
theorem hC_l_value : CalC P w K mg base 3 "_law_value" (cLValue) := by
  obtain ⟨fd, F, b⟩ := getF g.d 19 (p := ("_law_value", none)) (st := s_l_value) rfl ["_law_claim", "_law_mark"] (fun _ _ _ _ _ _ us hl => match us, hl with | [_, _], _ => rfl)
  exact ⟨_, _, _, (ok_l_value F (hTxt X G g) (hC_l_greatest (P := P) (w := w) (base := base) X G g)), He.glo_ok X G (g.fact 54 rfl), F.kp, b⟩
theorem hC_l_all : CalC P w K mg base 4 "_law_all" (cLAll) := by
  obtain ⟨fd, F, b⟩ := getF g.d 20 (p := ("_law_all", none)) (st := s_l_all) rfl ["_law_claim", "_law_marks"] (fun _ _ _ _ _ _ us hl => match us, hl with | [_, _], _ => rfl)
  exact ⟨_, _, _, (ok_l_all F (hTxt X G g) (hC_l_plus (P := P) (w := w) (base := base) X G g) (hC_l_value (P := P) (w := w) (base := base) X G g)), He.glo_ok X G (g.fact 55 rfl), F.kp, b⟩
theorem hC_l_is_so : CalC P w K mg base 5 "_law_is_so" (cLIsSo) := by
  obtain ⟨fd, F, b⟩ := getF g.d 21 (p := ("_law_is_so", none)) (st := s_l_is_so) rfl ["_law_claim", "_law_marks"] (fun _ _ _ _ _ _ us hl => match us, hl with | [_, _], _ => rfl)
  exact ⟨_, _, _, (ok_l_is_so F (hTxt X G g) (hC_l_all (P := P) (w := w) (base := base) X G g)), He.glo_ok X G (g.fact 56 rfl), F.kp, b⟩
theorem hC_l_told : CalC P w K mg base 6 "_law_told" (cTold) := by
  obtain ⟨fd, F, b⟩ := getF g.d 42 (p := ("_law_told", none)) (st := s_l_told) rfl ["_law_plan_here", "_law_record_here"] (fun _ _ _ _ _ _ us hl => match us, hl with | [_, _], _ => rfl)
  exact ⟨_, _, _, (ok_l_told F (hTxt X G g) (hC_l_outcome (P := P) (w := w) (base := base) X G g) (hC_l_claims (P := P) (w := w) (base := base) X G g) (hC_l_is_so (P := P) (w := w) (base := base) X G g)), He.glo_ok X G (g.fact 77 rfl), F.kp, b⟩
theorem hK_Most : MakC P w K mg base 2 "Most" (hAdr K).Most (cInit2 (hAdr K).Most "names" "seats") := by
  obtain ⟨fd, F, b⟩ := getF g.d 85 (p := ("Most", some "__init__")) (st := s_Most_init) rfl ["self", "names", "seats"] (fun _ _ _ _ _ _ us hl => match us, hl with | [_, _, _], _ => rfl)
  obtain ⟨fd_Contest, F_Contest, b_Contest⟩ := getF g.d 84 (p := ("Contest", some "__init__")) (st := s_Contest_init) rfl ["self", "names"] (fun _ _ _ _ _ _ us hl => match us, hl with | [_, _], _ => rfl)
  have f_Contest := And.intro (cfnB_ok ((He.ba g.c).2)) (ok_Contest_init F_Contest (hTxt X G g) (P := P) (w := w) (base := base))
  exact ⟨_, _, _, He.mkr_ok (g.fact 134 rfl), (ok_Most_init F (hTxt X G g) _ _ _ _ f_Contest b_Contest), He.glo_ok X G (g.fact 25 rfl), b⟩
theorem hK_Portion : MakC P w K mg base 2 "Portion" (hAdr K).Portion (cInit2 (hAdr K).Portion "names" "share") := by
  obtain ⟨fd, F, b⟩ := getF g.d 88 (p := ("Portion", some "__init__")) (st := s_Portion_init) rfl ["self", "names", "share"] (fun _ _ _ _ _ _ us hl => match us, hl with | [_, _, _], _ => rfl)
  obtain ⟨fd_Contest, F_Contest, b_Contest⟩ := getF g.d 84 (p := ("Contest", some "__init__")) (st := s_Contest_init) rfl ["self", "names"] (fun _ _ _ _ _ _ us hl => match us, hl with | [_, _], _ => rfl)
  have f_Contest := And.intro (cfnB_ok ((He.ba g.c).2)) (ok_Contest_init F_Contest (hTxt X G g) (P := P) (w := w) (base := base))
  exact ⟨_, _, _, He.mkr_ok (g.fact 135 rfl), (ok_Portion_init F (hTxt X G g) _ _ _ _ f_Contest b_Contest), He.glo_ok X G (g.fact 26 rfl), b⟩
theorem hC_l_contest_made : CalC P w K mg base 4 "_law_contest_made" (cLMade (hAdr K)) := by
  obtain ⟨fd, F, b⟩ := getF g.d 28 (p := ("_law_contest_made", none)) (st := s_l_contest_made) rfl ["_law_contest_here"] (fun _ _ _ _ _ _ us hl => match us, hl with | [_], _ => rfl)
  exact ⟨_, _, _, (ok_l_contest_made F (hTxt X G g) (hK_Most (P := P) (w := w) (base := base) X G g) (hK_Portion (P := P) (w := w) (base := base) X G g)), He.glo_ok X G (g.fact 63 rfl), F.kp, b⟩
theorem hK_Fixed : MakC P w K mg base 1 "Fixed" (hAdr K).Fixed (cFixedInit (hAdr K)) := by
  obtain ⟨fd, F, b⟩ := getF g.d 91 (p := ("Fixed", some "__init__")) (st := s_Fixed_init) rfl ["self", "part"] (fun _ _ _ _ _ _ us hl => match us, hl with | [_, _], _ => rfl)
  exact ⟨_, _, _, He.mkr_ok (g.fact 136 rfl), (ok_Fixed_init F (hTxt X G g) ), He.glo_ok X G (g.fact 27 rfl), b⟩
theorem hC_in_common : CalC P w K mg base 1 "in_common" (cGcd) := by
  obtain ⟨fd, F, b⟩ := getF g.d 0 (p := ("in_common", none)) (st := s_in_common) rfl ["a", "b"] (fun _ _ _ _ _ _ us hl => match us, hl with | [_, _], _ => rfl)
  exact ⟨_, _, _, (ok_in_common F (hTxt X G g) ), He.glo_ok X G (g.fact 35 rfl), F.kp, b⟩
theorem hC_lowest : CalC P w K mg base 2 "lowest" (cLow) := by
  obtain ⟨fd, F, b⟩ := getF g.d 1 (p := ("lowest", none)) (st := s_lowest) rfl ["a", "b"] (fun _ _ _ _ _ _ us hl => match us, hl with | [_, _], _ => rfl)
  exact ⟨_, _, _, (ok_lowest F (hTxt X G g) (hC_in_common (P := P) (w := w) (base := base) X G g)), He.glo_ok X G (g.fact 36 rfl), F.kp, b⟩
theorem hC_over : CalC P w K mg base 3 "over" (cOver) := by
  obtain ⟨fd, F, b⟩ := getF g.d 5 (p := ("over", none)) (st := s_over) rfl ["x", "y"] (fun _ _ _ _ _ _ us hl => match us, hl with | [_, _], _ => rfl)
  exact ⟨_, _, _, (ok_over F (hTxt X G g) (hC_lowest (P := P) (w := w) (base := base) X G g)), He.glo_ok X G (g.fact 40 rfl), F.kp, b⟩
theorem hC_plus : CalC P w K mg base 3 "plus" (cPlus) := by
  obtain ⟨fd, F, b⟩ := getF g.d 2 (p := ("plus", none)) (st := s_plus) rfl ["x", "y"] (fun _ _ _ _ _ _ us hl => match us, hl with | [_, _], _ => rfl)
  exact ⟨_, _, _, (ok_plus F (hTxt X G g) (hC_lowest (P := P) (w := w) (base := base) X G g)), He.glo_ok X G (g.fact 37 rfl), F.kp, b⟩
theorem hC_total : CalC P w K mg base 4 "total" (cTotal) := by
  obtain ⟨fd, F, b⟩ := getF g.d 6 (p := ("total", none)) (st := s_total) rfl ["some"] (fun _ _ _ _ _ _ us hl => match us, hl with | [_], _ => rfl)
  exact ⟨_, _, _, (ok_total F (hTxt X G g) (hC_plus (P := P) (w := w) (base := base) X G g)), He.glo_ok X G (g.fact 41 rfl), F.kp, b⟩
theorem hC_minus : CalC P w K mg base 3 "minus" (cMinus) := by
  obtain ⟨fd, F, b⟩ := getF g.d 3 (p := ("minus", none)) (st := s_minus) rfl ["x", "y"] (fun _ _ _ _ _ _ us hl => match us, hl with | [_, _], _ => rfl)
  exact ⟨_, _, _, (ok_minus F (hTxt X G g) (hC_lowest (P := P) (w := w) (base := base) X G g)), He.glo_ok X G (g.fact 38 rfl), F.kp, b⟩
theorem hC_times : CalC P w K mg base 3 "times" (cTimes) := by
  obtain ⟨fd, F, b⟩ := getF g.d 4 (p := ("times", none)) (st := s_times) rfl ["x", "y"] (fun _ _ _ _ _ _ us hl => match us, hl with | [_, _], _ => rfl)
  exact ⟨_, _, _, (ok_times F (hTxt X G g) (hC_lowest (P := P) (w := w) (base := base) X G g)), He.glo_ok X G (g.fact 39 rfl), F.kp, b⟩
theorem hM_Beats_value_of : MetC P w K mg base 1 (hAdr K).Beats "value_of" (cVal0 (hAdr K) .b) := by
  obtain ⟨fd, F, b⟩ := getF g.d 70 (p := ("Beats", some "value_of")) (st := s_Beats_value_of) rfl ["self", "mark"] (fun _ _ _ _ _ _ us hl => match us, hl with | [_, _], _ => rfl)
  exact ⟨_, _, _, (hTxt X G g).k_Beats, He.meth_ok (g.fact 161 rfl), (ok_Beats_value_of F (hTxt X G g) ), b⟩
theorem hM_Beats_value : MetC P w K mg base 6 (hAdr K).Beats "value" (cVal (hAdr K) .b) := by
  obtain ⟨fd, F, b⟩ := getF g.d 72 (p := ("Beats", some "value")) (st := s_Claim_value) rfl ["self", "mark"] (fun _ _ _ _ _ _ us hl => match us, hl with | [_, _], _ => rfl)
  exact ⟨_, _, _, (hTxt X G g).k_Beats, He.meth_ok (g.fact 163 rfl), (ok_Claim_value F (hTxt X G g) .b ((hM_Beats_value_of (P := P) (w := w) (base := base) X G g).up (by decide))), b⟩
theorem hM_Beats_greatest : MetC P w K mg base 1 (hAdr K).Beats "greatest" (cTop (hAdr K) .b) := by
  obtain ⟨fd, F, b⟩ := getF g.d 71 (p := ("Beats", some "greatest")) (st := s_Beats_greatest) rfl ["self"] (fun _ _ _ _ _ _ us hl => match us, hl with | [_], _ => rfl)
  exact ⟨_, _, _, (hTxt X G g).k_Beats, He.meth_ok (g.fact 162 rfl), (ok_Beats_greatest F (hTxt X G g) ), b⟩
theorem hC_below : CalC P w K mg base 1 "below" (cBelow) := by
  obtain ⟨fd, F, b⟩ := getF g.d 7 (p := ("below", none)) (st := s_below) rfl ["x", "y"] (fun _ _ _ _ _ _ us hl => match us, hl with | [_, _], _ => rfl)
  exact ⟨_, _, _, (ok_below F (hTxt X G g) ), He.glo_ok X G (g.fact 42 rfl), F.kp, b⟩
theorem hM_Beats_holds : MetC P w K mg base 7 (hAdr K).Beats "holds" (cHolds (hAdr K) .b) := by
  obtain ⟨fd, F, b⟩ := getF g.d 73 (p := ("Beats", some "holds")) (st := s_Claim_holds) rfl ["self", "marks"] (fun _ _ _ _ _ _ us hl => match us, hl with | [_, _], _ => rfl)
  exact ⟨_, _, _, (hTxt X G g).k_Beats, He.meth_ok (g.fact 164 rfl), (ok_Claim_holds F (hTxt X G g) (hC_below (P := P) (w := w) (base := base) X G g) (hC_lowest (P := P) (w := w) (base := base) X G g) (hC_total (P := P) (w := w) (base := base) X G g) .b (hM_Beats_value (P := P) (w := w) (base := base) X G g)), b⟩
theorem hM_Over_greatest : MetC P w K mg base 4 (hAdr K).Over "greatest" (cTop (hAdr K) .o) := by
  obtain ⟨fd, F, b⟩ := getF g.d 76 (p := ("Over", some "greatest")) (st := s_Over_greatest) rfl ["self"] (fun _ _ _ _ _ _ us hl => match us, hl with | [_], _ => rfl)
  exact ⟨_, _, _, (hTxt X G g).k_Over, He.meth_ok (g.fact 167 rfl), (ok_Over_greatest F (hTxt X G g) (hC_over (P := P) (w := w) (base := base) X G g)), b⟩
theorem hM_Over_value_of : MetC P w K mg base 5 (hAdr K).Over "value_of" (cVal0 (hAdr K) .o) := by
  obtain ⟨fd, F, b⟩ := getF g.d 75 (p := ("Over", some "value_of")) (st := s_Over_value_of) rfl ["self", "mark"] (fun _ _ _ _ _ _ us hl => match us, hl with | [_, _], _ => rfl)
  exact ⟨_, _, _, (hTxt X G g).k_Over, He.meth_ok (g.fact 166 rfl), (ok_Over_value_of F (hTxt X G g) (hM_Over_greatest (P := P) (w := w) (base := base) X G g)), b⟩
theorem hM_Over_value : MetC P w K mg base 6 (hAdr K).Over "value" (cVal (hAdr K) .o) := by
  obtain ⟨fd, F, b⟩ := getF g.d 77 (p := ("Over", some "value")) (st := s_Claim_value) rfl ["self", "mark"] (fun _ _ _ _ _ _ us hl => match us, hl with | [_, _], _ => rfl)
  exact ⟨_, _, _, (hTxt X G g).k_Over, He.meth_ok (g.fact 168 rfl), (ok_Claim_value F (hTxt X G g) .o (hM_Over_value_of (P := P) (w := w) (base := base) X G g)), b⟩
theorem hM_Over_holds : MetC P w K mg base 7 (hAdr K).Over "holds" (cHolds (hAdr K) .o) := by
  obtain ⟨fd, F, b⟩ := getF g.d 78 (p := ("Over", some "holds")) (st := s_Claim_holds) rfl ["self", "marks"] (fun _ _ _ _ _ _ us hl => match us, hl with | [_, _], _ => rfl)
  exact ⟨_, _, _, (hTxt X G g).k_Over, He.meth_ok (g.fact 169 rfl), (ok_Claim_holds F (hTxt X G g) (hC_below (P := P) (w := w) (base := base) X G g) (hC_lowest (P := P) (w := w) (base := base) X G g) (hC_total (P := P) (w := w) (base := base) X G g) .o (hM_Over_value (P := P) (w := w) (base := base) X G g)), b⟩
theorem hM_Under_greatest : MetC P w K mg base 4 (hAdr K).Under "greatest" (cTop (hAdr K) .u) := by
  obtain ⟨fd, F, b⟩ := getF g.d 81 (p := ("Under", some "greatest")) (st := s_Under_greatest) rfl ["self"] (fun _ _ _ _ _ _ us hl => match us, hl with | [_], _ => rfl)
  exact ⟨_, _, _, (hTxt X G g).k_Under, He.meth_ok (g.fact 172 rfl), (ok_Under_greatest F (hTxt X G g) (hC_over (P := P) (w := w) (base := base) X G g) (hC_minus (P := P) (w := w) (base := base) X G g)), b⟩
theorem hM_Under_value_of : MetC P w K mg base 5 (hAdr K).Under "value_of" (cVal0 (hAdr K) .u) := by
  obtain ⟨fd, F, b⟩ := getF g.d 80 (p := ("Under", some "value_of")) (st := s_Under_value_of) rfl ["self", "mark"] (fun _ _ _ _ _ _ us hl => match us, hl with | [_, _], _ => rfl)
  exact ⟨_, _, _, (hTxt X G g).k_Under, He.meth_ok (g.fact 171 rfl), (ok_Under_value_of F (hTxt X G g) (hM_Under_greatest (P := P) (w := w) (base := base) X G g)), b⟩
theorem hM_Under_value : MetC P w K mg base 6 (hAdr K).Under "value" (cVal (hAdr K) .u) := by
  obtain ⟨fd, F, b⟩ := getF g.d 82 (p := ("Under", some "value")) (st := s_Claim_value) rfl ["self", "mark"] (fun _ _ _ _ _ _ us hl => match us, hl with | [_, _], _ => rfl)
  exact ⟨_, _, _, (hTxt X G g).k_Under, He.meth_ok (g.fact 173 rfl), (ok_Claim_value F (hTxt X G g) .u (hM_Under_value_of (P := P) (w := w) (base := base) X G g)), b⟩
theorem hM_Under_holds : MetC P w K mg base 7 (hAdr K).Under "holds" (cHolds (hAdr K) .u) := by
  obtain ⟨fd, F, b⟩ := getF g.d 83 (p := ("Under", some "holds")) (st := s_Claim_holds) rfl ["self", "marks"] (fun _ _ _ _ _ _ us hl => match us, hl with | [_, _], _ => rfl)
  exact ⟨_, _, _, (hTxt X G g).k_Under, He.meth_ok (g.fact 174 rfl), (ok_Claim_holds F (hTxt X G g) (hC_below (P := P) (w := w) (base := base) X G g) (hC_lowest (P := P) (w := w) (base := base) X G g) (hC_total (P := P) (w := w) (base := base) X G g) .u (hM_Under_value (P := P) (w := w) (base := base) X G g)), b⟩
theorem h_cl (k : Kd) : ClaimMs P w K mg base (hAdr K) k := by
  cases k with
  | b => exact ⟨(hM_Beats_value (P := P) (w := w) (base := base) X G g), ((hM_Beats_greatest (P := P) (w := w) (base := base) X G g).up (by decide)), (hM_Beats_holds (P := P) (w := w) (base := base) X G g)⟩
  | o => exact ⟨(hM_Over_value (P := P) (w := w) (base := base) X G g), (hM_Over_greatest (P := P) (w := w) (base := base) X G g), (hM_Over_holds (P := P) (w := w) (base := base) X G g)⟩
  | u => exact ⟨(hM_Under_value (P := P) (w := w) (base := base) X G g), (hM_Under_greatest (P := P) (w := w) (base := base) X G g), (hM_Under_holds (P := P) (w := w) (base := base) X G g)⟩
theorem hK_Comparing : MakC P w K mg base 8 "Comparing" (hAdr K).Comparing (cCmpInit (hAdr K)) := by
  obtain ⟨fd, F, b⟩ := getF g.d 55 (p := ("Comparing", some "__init__")) (st := s_Comparing_init) rfl ["self", "claim", "marks"] (fun _ _ _ _ _ _ us hl => match us, hl with | [_, _, _], _ => rfl)
  obtain ⟨fd_Way, F_Way, b_Way⟩ := getF g.d 54 (p := ("Way", some "__init__")) (st := s_Way_init) rfl ["self", "claim"] (fun _ _ _ _ _ _ us hl => match us, hl with | [_, _], _ => rfl)
  have f_Way := And.intro (cfnB_ok ((He.ba g.c).1)) (ok_Way_init F_Way (hTxt X G g) (P := P) (w := w) (base := base))
  exact ⟨_, _, _, He.mkr_ok (g.fact 130 rfl), (ok_Comparing_init F (hTxt X G g) (hC_over (P := P) (w := w) (base := base) X G g) (hC_total (P := P) (w := w) (base := base) X G g) (hC_minus (P := P) (w := w) (base := base) X G g) (hC_times (P := P) (w := w) (base := base) X G g) (h_cl (P := P) (w := w) (base := base) X G g) _ _ _ _ f_Way b_Way), He.glo_ok X G (g.fact 18 rfl), b⟩
theorem hC_way_of : CalC P w K mg base 10 "way_of" (cWayOf (hAdr K)) := by
  obtain ⟨fd, F, b⟩ := getF g.d 8 (p := ("way_of", none)) (st := s_way_of) rfl ["claim", "record", "k"] (fun _ _ _ _ _ _ us hl => match us, hl with | [_, _, _], _ => rfl)
  exact ⟨_, _, _, (ok_way_of F (hTxt X G g) (hK_Comparing (P := P) (w := w) (base := base) X G g)), He.glo_ok X G (g.fact 43 rfl), F.kp, b⟩
theorem hK_Sheet : MakC P w K mg base 1 "Sheet" (hAdr K).Sheet (cSheetInit (hAdr K)) := by
  obtain ⟨fd, F, b⟩ := getF g.d 58 (p := ("Sheet", some "__init__")) (st := s_Sheet_init) rfl ["self", "names", "limit"] (fun _ _ _ _ _ _ us hl => match us, hl with | [_, _, _], _ => rfl)
  exact ⟨_, _, _, He.mkr_ok (g.fact 128 rfl), (ok_Sheet_init F (hTxt X G g) ), He.glo_ok X G (g.fact 19 rfl), b⟩
theorem hK_Game : MakC P w K mg base 1 "Game" (hAdr K).Game (cGameInit (hAdr K)) := by
  obtain ⟨fd, F, b⟩ := getF g.d 46 (p := ("Game", some "__init__")) (st := s_Game_init) rfl ["self", "many", "again", "top", "rule"] (fun _ _ _ _ _ _ us hl => match us, hl with | [_, _, _, _, _], _ => rfl)
  exact ⟨_, _, _, He.mkr_ok (g.fact 127 rfl), (ok_Game_init F (hTxt X G g) ), He.glo_ok X G (g.fact 16 rfl), b⟩
theorem hM_Sheet_add : MetC P w K mg base 1 (hAdr K).Sheet "add" (cAdd (hAdr K)) := by
  obtain ⟨fd, F, b⟩ := getF g.d 59 (p := ("Sheet", some "add")) (st := s_Sheet_add) rfl ["self", "way", "game"] (fun _ _ _ _ _ _ us hl => match us, hl with | [_, _, _], _ => rfl)
  exact ⟨_, _, _, (hTxt X G g).k_Sheet, He.meth_ok (g.fact 150 rfl), (ok_Sheet_add F (hTxt X G g) ), b⟩
theorem hM_Comparing_top : MetC P w K mg base 4 (hAdr K).Comparing "top" (cCmpTop (hAdr K)) := by
  obtain ⟨fd, F, b⟩ := getF g.d 57 (p := ("Comparing", some "top")) (st := s_Comparing_top) rfl ["self"] (fun _ _ _ _ _ _ us hl => match us, hl with | [_], _ => rfl)
  exact ⟨_, _, _, (hTxt X G g).k_Comparing, He.meth_ok (g.fact 148 rfl), (ok_Comparing_top F (hTxt X G g) (hC_over (P := P) (w := w) (base := base) X G g)), b⟩
theorem hK_Beats : MakC P w K mg base 1 "Beats" (hAdr K).Beats (cInit2 (hAdr K).Beats "one" "other") := by
  obtain ⟨fd, F, b⟩ := getF g.d 69 (p := ("Beats", some "__init__")) (st := s_Beats_init) rfl ["self", "one", "other"] (fun _ _ _ _ _ _ us hl => match us, hl with | [_, _, _], _ => rfl)
  exact ⟨_, _, _, He.mkr_ok (g.fact 131 rfl), (ok_Beats_init F (hTxt X G g) ), He.glo_ok X G (g.fact 21 rfl), b⟩
theorem hM_Most_claims : MetC P w K mg base 3 (hAdr K).Most "claims" (cClaims (hAdr K) .m) := by
  obtain ⟨fd, F, b⟩ := getF g.d 86 (p := ("Most", some "claims")) (st := s_Most_claims) rfl ["self", "outcome"] (fun _ _ _ _ _ _ us hl => match us, hl with | [_, _], _ => rfl)
  exact ⟨_, _, _, (hTxt X G g).k_Most, He.meth_ok (g.fact 177 rfl), (ok_Most_claims F (hTxt X G g) (hK_Beats (P := P) (w := w) (base := base) X G g)), b⟩
theorem hK_Over : MakC P w K mg base 1 "Over" (hAdr K).Over (cInit2 (hAdr K).Over "name" "share") := by
  obtain ⟨fd, F, b⟩ := getF g.d 74 (p := ("Over", some "__init__")) (st := s_Over_init) rfl ["self", "name", "share"] (fun _ _ _ _ _ _ us hl => match us, hl with | [_, _, _], _ => rfl)
  exact ⟨_, _, _, He.mkr_ok (g.fact 132 rfl), (ok_Over_init F (hTxt X G g) ), He.glo_ok X G (g.fact 22 rfl), b⟩
theorem hK_Under : MakC P w K mg base 1 "Under" (hAdr K).Under (cInit2 (hAdr K).Under "name" "share") := by
  obtain ⟨fd, F, b⟩ := getF g.d 79 (p := ("Under", some "__init__")) (st := s_Under_init) rfl ["self", "name", "share"] (fun _ _ _ _ _ _ us hl => match us, hl with | [_, _, _], _ => rfl)
  exact ⟨_, _, _, He.mkr_ok (g.fact 133 rfl), (ok_Under_init F (hTxt X G g) ), He.glo_ok X G (g.fact 23 rfl), b⟩
theorem hM_Portion_claims : MetC P w K mg base 3 (hAdr K).Portion "claims" (cClaims (hAdr K) .p) := by
  obtain ⟨fd, F, b⟩ := getF g.d 89 (p := ("Portion", some "claims")) (st := s_Portion_claims) rfl ["self", "outcome"] (fun _ _ _ _ _ _ us hl => match us, hl with | [_, _], _ => rfl)
  exact ⟨_, _, _, (hTxt X G g).k_Portion, He.meth_ok (g.fact 180 rfl), (ok_Portion_claims F (hTxt X G g) (hK_Over (P := P) (w := w) (base := base) X G g) (hK_Under (P := P) (w := w) (base := base) X G g)), b⟩
theorem hM_Most_named : MetC P w K mg base 1 (hAdr K).Most "named" (cNamed (hAdr K) .m) := by
  obtain ⟨fd, F, b⟩ := getF g.d 87 (p := ("Most", some "named")) (st := s_Contest_named) rfl ["self"] (fun _ _ _ _ _ _ us hl => match us, hl with | [_], _ => rfl)
  exact ⟨_, _, _, (hTxt X G g).k_Most, He.meth_ok (g.fact 178 rfl), (ok_Contest_named F (hTxt X G g) .m), b⟩
theorem hM_Portion_named : MetC P w K mg base 1 (hAdr K).Portion "named" (cNamed (hAdr K) .p) := by
  obtain ⟨fd, F, b⟩ := getF g.d 90 (p := ("Portion", some "named")) (st := s_Contest_named) rfl ["self"] (fun _ _ _ _ _ _ us hl => match us, hl with | [_], _ => rfl)
  exact ⟨_, _, _, (hTxt X G g).k_Portion, He.meth_ok (g.fact 181 rfl), (ok_Contest_named F (hTxt X G g) .p), b⟩
theorem hK_Audit : MakC P w K mg base 11 "Audit" (hAdr K).Audit (cAuditInit (hAdr K)) := by
  obtain ⟨fd, F, b⟩ := getF g.d 62 (p := ("Audit", some "__init__")) (st := s_Audit_init) rfl ["self", "contests", "outcomes", "limits", "many", "record", "rule", "again", "most"] (fun _ _ _ _ _ _ us hl => match us, hl with | [_, _, _, _, _, _, _, _, _], _ => rfl)
  exact ⟨_, _, _, He.mkr_ok (g.fact 129 rfl), (ok_Audit_init F (hTxt X G g) (hC_way_of (P := P) (w := w) (base := base) X G g) (hK_Sheet (P := P) (w := w) (base := base) X G g) (hK_Game (P := P) (w := w) (base := base) X G g) (hM_Sheet_add (P := P) (w := w) (base := base) X G g) (hM_Comparing_top (P := P) (w := w) (base := base) X G g) (hM_Most_claims (P := P) (w := w) (base := base) X G g) (hM_Portion_claims (P := P) (w := w) (base := base) X G g) (hM_Most_named (P := P) (w := w) (base := base) X G g) (hM_Portion_named (P := P) (w := w) (base := base) X G g)), He.glo_ok X G (g.fact 20 rfl), b⟩
theorem hC_l_audit : CalC P w K mg base 13 "_law_audit" (cLAudit (hAdr K)) := by
  obtain ⟨fd, F, b⟩ := getF g.d 41 (p := ("_law_audit", none)) (st := s_l_audit) rfl ["_law_plan_here", "_law_record_here"] (fun _ _ _ _ _ _ us hl => match us, hl with | [_, _], _ => rfl)
  exact ⟨_, _, _, (ok_l_audit F (hTxt X G g) (hC_l_contest_made (P := P) (w := w) (base := base) X G g) (hK_Fixed (P := P) (w := w) (base := base) X G g) (hK_Audit (P := P) (w := w) (base := base) X G g)), He.glo_ok X G (g.fact 76 rfl), F.kp, b⟩
theorem hC_l_game : CalC P w K mg base 1 "_law_game" (cLGame) := by
  obtain ⟨fd, F, b⟩ := getF g.d 29 (p := ("_law_game", none)) (st := s_l_game) rfl ["_law_top"] (fun _ _ _ _ _ _ us hl => match us, hl with | [_], _ => rfl)
  exact ⟨_, _, _, (ok_l_game F (hTxt X G g) ), He.glo_ok X G (g.fact 64 rfl), F.kp, b⟩
theorem hC_l_games : CalC P w K mg base 3 "_law_games" (cLGames) := by
  obtain ⟨fd, F, b⟩ := getF g.d 37 (p := ("_law_games", none)) (st := s_l_games) rfl ["_law_plan_here"] (fun _ _ _ _ _ _ us hl => match us, hl with | [_], _ => rfl)
  exact ⟨_, _, _, (ok_l_games F (hTxt X G g) (hC_l_claims (P := P) (w := w) (base := base) X G g) (hC_l_game (P := P) (w := w) (base := base) X G g) (hC_l_greatest (P := P) (w := w) (base := base) X G g)), He.glo_ok X G (g.fact 72 rfl), F.kp, b⟩
theorem hC_l_over : CalC P w K mg base 2 "_law_over" (cLOver) := by
  obtain ⟨fd, F, b⟩ := getF g.d 17 (p := ("_law_over", none)) (st := s_l_over) rfl ["_law_x", "_law_y"] (fun _ _ _ _ _ _ us hl => match us, hl with | [_, _], _ => rfl)
  exact ⟨_, _, _, (ok_l_over F (hTxt X G g) (hC_l_lowest (P := P) (w := w) (base := base) X G g)), He.glo_ok X G (g.fact 52 rfl), F.kp, b⟩
theorem hC_l_scale : CalC P w K mg base 5 "_law_scale" (cLScale) := by
  obtain ⟨fd, F, b⟩ := getF g.d 22 (p := ("_law_scale", none)) (st := s_l_scale) rfl ["_law_claim", "_law_marks"] (fun _ _ _ _ _ _ us hl => match us, hl with | [_, _], _ => rfl)
  exact ⟨_, _, _, (ok_l_scale F (hTxt X G g) (hC_l_all (P := P) (w := w) (base := base) X G g) (hC_l_lowest (P := P) (w := w) (base := base) X G g) (hC_l_over (P := P) (w := w) (base := base) X G g) (hC_l_greatest (P := P) (w := w) (base := base) X G g)), He.glo_ok X G (g.fact 57 rfl), F.kp, b⟩
theorem hC_l_tops : CalC P w K mg base 6 "_law_tops" (cLTops) := by
  obtain ⟨fd, F, b⟩ := getF g.d 43 (p := ("_law_tops", none)) (st := s_l_tops) rfl ["_law_plan_here", "_law_games_here", "_law_record_here"] (fun _ _ _ _ _ _ us hl => match us, hl with | [_, _, _], _ => rfl)
  exact ⟨_, _, _, (ok_l_tops F (hTxt X G g) (hC_l_claims (P := P) (w := w) (base := base) X G g) (hC_l_scale (P := P) (w := w) (base := base) X G g) (hC_l_over (P := P) (w := w) (base := base) X G g)), He.glo_ok X G (g.fact 78 rfl), F.kp, b⟩
theorem hC_l_reached : CalC P w K mg base 1 "_law_reached" (cLReached) := by
  obtain ⟨fd, F, b⟩ := getF g.d 32 (p := ("_law_reached", none)) (st := s_l_reached) rfl ["_law_game_here", "_law_limit_here"] (fun _ _ _ _ _ _ us hl => match us, hl with | [_, _], _ => rfl)
  exact ⟨_, _, _, (ok_l_reached F (hTxt X G g) ), He.glo_ok X G (g.fact 67 rfl), F.kp, b⟩
theorem hC_l_sure : CalC P w K mg base 2 "_law_sure" (cLSure) := by
  obtain ⟨fd, F, b⟩ := getF g.d 38 (p := ("_law_sure", none)) (st := s_l_sure) rfl ["_law_plan_here", "_law_games_here"] (fun _ _ _ _ _ _ us hl => match us, hl with | [_, _], _ => rfl)
  exact ⟨_, _, _, (ok_l_sure F (hTxt X G g) (hC_l_reached (P := P) (w := w) (base := base) X G g)), He.glo_ok X G (g.fact 73 rfl), F.kp, b⟩
theorem hC_l_verdict : CalC P w K mg base 3 "_law_verdict" (cLVerdict) := by
  obtain ⟨fd, F, b⟩ := getF g.d 39 (p := ("_law_verdict", none)) (st := s_l_verdict) rfl ["_law_plan_here", "_law_games_here", "_law_turns"] (fun _ _ _ _ _ _ us hl => match us, hl with | [_, _, _], _ => rfl)
  exact ⟨_, _, _, (ok_l_verdict F (hTxt X G g) (hC_l_sure (P := P) (w := w) (base := base) X G g)), He.glo_ok X G (g.fact 74 rfl), F.kp, b⟩
theorem hM_Game_reached : MetC P w K mg base 4 (hAdr K).Game "reached" (cReached (hAdr K)) := by
  obtain ⟨fd, F, b⟩ := getF g.d 53 (p := ("Game", some "reached")) (st := s_Game_reached) rfl ["self", "limit"] (fun _ _ _ _ _ _ us hl => match us, hl with | [_, _], _ => rfl)
  exact ⟨_, _, _, (hTxt X G g).k_Game, He.meth_ok (g.fact 144 rfl), (ok_Game_reached F (hTxt X G g) (hC_below (P := P) (w := w) (base := base) X G g) (hC_times (P := P) (w := w) (base := base) X G g)), b⟩
theorem hM_Sheet_is_sure : MetC P w K mg base 5 (hAdr K).Sheet "is_sure" (cIsSure (hAdr K)) := by
  obtain ⟨fd, F, b⟩ := getF g.d 60 (p := ("Sheet", some "is_sure")) (st := s_Sheet_is_sure) rfl ["self"] (fun _ _ _ _ _ _ us hl => match us, hl with | [_], _ => rfl)
  exact ⟨_, _, _, (hTxt X G g).k_Sheet, He.meth_ok (g.fact 151 rfl), (ok_Sheet_is_sure F (hTxt X G g) (hM_Game_reached (P := P) (w := w) (base := base) X G g)), b⟩
theorem hM_Audit_sure_of : MetC P w K mg base 6 (hAdr K).Audit "sure_of" (cSureOf (hAdr K)) := by
  obtain ⟨fd, F, b⟩ := getF g.d 63 (p := ("Audit", some "sure_of")) (st := s_Audit_sure_of) rfl ["self"] (fun _ _ _ _ _ _ us hl => match us, hl with | [_], _ => rfl)
  exact ⟨_, _, _, (hTxt X G g).k_Audit, He.meth_ok (g.fact 154 rfl), (ok_Audit_sure_of F (hTxt X G g) (hM_Sheet_is_sure (P := P) (w := w) (base := base) X G g)), b⟩
theorem hM_Audit_verdict : MetC P w K mg base 7 (hAdr K).Audit "verdict" (cVerdict (hAdr K)) := by
  obtain ⟨fd, F, b⟩ := getF g.d 65 (p := ("Audit", some "verdict")) (st := s_Audit_verdict) rfl ["self"] (fun _ _ _ _ _ _ us hl => match us, hl with | [_], _ => rfl)
  exact ⟨_, _, _, (hTxt X G g).k_Audit, He.meth_ok (g.fact 156 rfl), (ok_Audit_verdict F (hTxt X G g) (hM_Audit_sure_of (P := P) (w := w) (base := base) X G g)), b⟩
theorem hM_Audit_is_number : MetC P w K mg base 1 (hAdr K).Audit "is_number" (cIsNumber (hAdr K)) := by
  obtain ⟨fd, F, b⟩ := getF g.d 66 (p := ("Audit", some "is_number")) (st := s_Audit_is_number) rfl ["self", "thing"] (fun _ _ _ _ _ _ us hl => match us, hl with | [_, _], _ => rfl)
  exact ⟨_, _, _, (hTxt X G g).k_Audit, He.meth_ok (g.fact 157 rfl), (ok_Audit_is_number F (hTxt X G g) ), b⟩
theorem hC_is_mark : CalC P w K mg base 1 "is_mark" (cIsMark) := by
  obtain ⟨fd, F, b⟩ := getF g.d 9 (p := ("is_mark", none)) (st := s_is_mark) rfl ["thing", "names"] (fun _ _ _ _ _ _ us hl => match us, hl with | [_, _], _ => rfl)
  exact ⟨_, _, _, (ok_is_mark F (hTxt X G g) ), He.glo_ok X G (g.fact 44 rfl), F.kp, b⟩
theorem hM_Audit_is_ballot : MetC P w K mg base 2 (hAdr K).Audit "is_ballot" (cIsBallot (hAdr K)) := by
  obtain ⟨fd, F, b⟩ := getF g.d 67 (p := ("Audit", some "is_ballot")) (st := s_Audit_is_ballot) rfl ["self", "thing"] (fun _ _ _ _ _ _ us hl => match us, hl with | [_, _], _ => rfl)
  exact ⟨_, _, _, (hTxt X G g).k_Audit, He.meth_ok (g.fact 158 rfl), (ok_Audit_is_ballot F (hTxt X G g) (hC_is_mark (P := P) (w := w) (base := base) X G g)), b⟩
theorem hM_Game_twin : MetC P w K mg base 3 (hAdr K).Game "twin" (cTwin (hAdr K)) := by
  obtain ⟨fd, F, b⟩ := getF g.d 47 (p := ("Game", some "twin")) (st := s_Game_twin) rfl ["self"] (fun _ _ _ _ _ _ us hl => match us, hl with | [_], _ => rfl)
  exact ⟨_, _, _, (hTxt X G g).k_Game, He.meth_ok (g.fact 138 rfl), (ok_Game_twin F (hTxt X G g) (hK_Game (P := P) (w := w) (base := base) X G g)), b⟩
theorem hM_Game_ended : MetC P w K mg base 1 (hAdr K).Game "ended" (cEnded (hAdr K)) := by
  obtain ⟨fd, F, b⟩ := getF g.d 48 (p := ("Game", some "ended")) (st := s_Game_ended) rfl ["self"] (fun _ _ _ _ _ _ us hl => match us, hl with | [_], _ => rfl)
  exact ⟨_, _, _, (hTxt X G g).k_Game, He.meth_ok (g.fact 139 rfl), (ok_Game_ended F (hTxt X G g) ), b⟩
theorem hM_Game_price : MetC P w K mg base 4 (hAdr K).Game "price" (cPrice (hAdr K)) := by
  obtain ⟨fd, F, b⟩ := getF g.d 49 (p := ("Game", some "price")) (st := s_Game_price) rfl ["self"] (fun _ _ _ _ _ _ us hl => match us, hl with | [_], _ => rfl)
  exact ⟨_, _, _, (hTxt X G g).k_Game, He.meth_ok (g.fact 140 rfl), (ok_Game_price F (hTxt X G g) (hC_over (P := P) (w := w) (base := base) X G g) (hC_minus (P := P) (w := w) (base := base) X G g) (hC_lowest (P := P) (w := w) (base := base) X G g) (hM_Game_ended (P := P) (w := w) (base := base) X G g)), b⟩
theorem hM_Fixed_stake : MetC P w K mg base 1 (hAdr K).Fixed "stake" (cStake (hAdr K)) := by
  obtain ⟨fd, F, b⟩ := getF g.d 92 (p := ("Fixed", some "stake")) (st := s_Fixed_stake) rfl ["self", "past", "price", "top"] (fun _ _ _ _ _ _ us hl => match us, hl with | [_, _, _, _], _ => rfl)
  exact ⟨_, _, _, (hTxt X G g).k_Fixed, He.meth_ok (g.fact 183 rfl), (ok_Fixed_stake F (hTxt X G g) ), b⟩
theorem hM_Game_worth_behind : MetC P w K mg base 5 (hAdr K).Game "worth_behind" (cBehind (hAdr K)) := by
  obtain ⟨fd, F, b⟩ := getF g.d 50 (p := ("Game", some "worth_behind")) (st := s_Game_worth_behind) rfl ["self", "value"] (fun _ _ _ _ _ _ us hl => match us, hl with | [_, _], _ => rfl)
  exact ⟨_, _, _, (hTxt X G g).k_Game, He.meth_ok (g.fact 141 rfl), (ok_Game_worth_behind F (hTxt X G g) (hC_over (P := P) (w := w) (base := base) X G g) (hC_minus (P := P) (w := w) (base := base) X G g) (hC_plus (P := P) (w := w) (base := base) X G g) (hC_times (P := P) (w := w) (base := base) X G g) (hM_Game_price (P := P) (w := w) (base := base) X G g) (hM_Fixed_stake (P := P) (w := w) (base := base) X G g)), b⟩
theorem hM_Game_play : MetC P w K mg base 6 (hAdr K).Game "play" (cPlay (hAdr K)) := by
  obtain ⟨fd, F, b⟩ := getF g.d 51 (p := ("Game", some "play")) (st := s_Game_play) rfl ["self", "value"] (fun _ _ _ _ _ _ us hl => match us, hl with | [_, _], _ => rfl)
  exact ⟨_, _, _, (hTxt X G g).k_Game, He.meth_ok (g.fact 142 rfl), (ok_Game_play F (hTxt X G g) (hC_below (P := P) (w := w) (base := base) X G g) (hC_plus (P := P) (w := w) (base := base) X G g) (hC_lowest (P := P) (w := w) (base := base) X G g) (hM_Game_ended (P := P) (w := w) (base := base) X G g) (hM_Game_worth_behind (P := P) (w := w) (base := base) X G g)), b⟩
theorem hM_Comparing_value : MetC P w K mg base 7 (hAdr K).Comparing "value" (cCmpVal (hAdr K)) := by
  obtain ⟨fd, F, b⟩ := getF g.d 56 (p := ("Comparing", some "value")) (st := s_Comparing_value) rfl ["self", "number", "mark"] (fun _ _ _ _ _ _ us hl => match us, hl with | [_, _, _], _ => rfl)
  exact ⟨_, _, _, (hTxt X G g).k_Comparing, He.meth_ok (g.fact 147 rfl), (ok_Comparing_value F (hTxt X G g) (hC_over (P := P) (w := w) (base := base) X G g) (hC_minus (P := P) (w := w) (base := base) X G g) (h_cl (P := P) (w := w) (base := base) X G g)), b⟩
theorem hM_Sheet_played : MetC P w K mg base 8 (hAdr K).Sheet "played" (cPlayed (hAdr K)) := by
  obtain ⟨fd, F, b⟩ := getF g.d 61 (p := ("Sheet", some "played")) (st := s_Sheet_played) rfl ["self", "number", "mark"] (fun _ _ _ _ _ _ us hl => match us, hl with | [_, _, _], _ => rfl)
  exact ⟨_, _, _, (hTxt X G g).k_Sheet, He.meth_ok (g.fact 152 rfl), (ok_Sheet_played F (hTxt X G g) (hM_Game_twin (P := P) (w := w) (base := base) X G g) (hM_Game_play (P := P) (w := w) (base := base) X G g) (hM_Comparing_value (P := P) (w := w) (base := base) X G g)), b⟩
theorem hM_Audit_draw : MetC P w K mg base 9 (hAdr K).Audit "draw" (cDraw (hAdr K)) := by
  obtain ⟨fd, F, b⟩ := getF g.d 68 (p := ("Audit", some "draw")) (st := s_Audit_draw) rfl ["self", "number", "ballot"] (fun _ _ _ _ _ _ us hl => match us, hl with | [_, _, _], _ => rfl)
  exact ⟨_, _, _, (hTxt X G g).k_Audit, He.meth_ok (g.fact 159 rfl), (ok_Audit_draw F (hTxt X G g) (hM_Audit_verdict (P := P) (w := w) (base := base) X G g) (hM_Audit_is_number (P := P) (w := w) (base := base) X G g) (hM_Audit_is_ballot (P := P) (w := w) (base := base) X G g) (hM_Sheet_played (P := P) (w := w) (base := base) X G g)), b⟩
theorem hC_l_compared : CalC P w K mg base 4 "_law_compared" (cLCompared) := by
  obtain ⟨fd, F, b⟩ := getF g.d 23 (p := ("_law_compared", none)) (st := s_l_compared) rfl ["_law_claim", "_law_told_here", "_law_scale_here", "_law_mark"] (fun _ _ _ _ _ _ us hl => match us, hl with | [_, _, _, _], _ => rfl)
  exact ⟨_, _, _, (ok_l_compared F (hTxt X G g) (hC_l_value (P := P) (w := w) (base := base) X G g) (hC_l_over (P := P) (w := w) (base := base) X G g) (hC_l_greatest (P := P) (w := w) (base := base) X G g)), He.glo_ok X G (g.fact 58 rfl), F.kp, b⟩
theorem hC_l_price : CalC P w K mg base 2 "_law_price" (cLPrice) := by
  obtain ⟨fd, F, b⟩ := getF g.d 30 (p := ("_law_price", none)) (st := s_l_price) rfl ["_law_game_here", "_law_many", "_law_again"] (fun _ _ _ _ _ _ us hl => match us, hl with | [_, _, _], _ => rfl)
  exact ⟨_, _, _, (ok_l_price F (hTxt X G g) (hC_l_lowest (P := P) (w := w) (base := base) X G g)), He.glo_ok X G (g.fact 65 rfl), F.kp, b⟩
theorem hC_l_times : CalC P w K mg base 2 "_law_times" (cTimes) := by
  obtain ⟨fd, F, b⟩ := getF g.d 16 (p := ("_law_times", none)) (st := s_l_times) rfl ["_law_x", "_law_y"] (fun _ _ _ _ _ _ us hl => match us, hl with | [_, _], _ => rfl)
  exact ⟨_, _, _, (ok_l_times F (hTxt X G g) (hC_l_lowest (P := P) (w := w) (base := base) X G g)), He.glo_ok X G (g.fact 51 rfl), F.kp, b⟩
theorem hC_l_play : CalC P w K mg base 4 "_law_play" (cLPlay) := by
  obtain ⟨fd, F, b⟩ := getF g.d 31 (p := ("_law_play", none)) (st := s_l_play) rfl ["_law_game_here", "_law_many", "_law_again", "_law_rule", "_law_value_here"] (fun _ _ _ _ _ _ us hl => match us, hl with | [_, _, _, _, _], _ => rfl)
  exact ⟨_, _, _, (ok_l_play F (hTxt X G g) (hC_l_price (P := P) (w := w) (base := base) X G g) (hC_l_over (P := P) (w := w) (base := base) X G g) (hC_l_times (P := P) (w := w) (base := base) X G g) (hC_l_plus (P := P) (w := w) (base := base) X G g)), He.glo_ok X G (g.fact 66 rfl), F.kp, b⟩
theorem hC_l_drawn_beside : CalC P w K mg base 5 "_law_drawn_beside" (cLBeside) := by
  obtain ⟨fd, F, b⟩ := getF g.d 44 (p := ("_law_drawn_beside", none)) (st := s_l_drawn_beside) rfl ["_law_plan_here", "_law_games_here", "_law_scales", "_law_told_here", "_law_marks"] (fun _ _ _ _ _ _ us hl => match us, hl with | [_, _, _, _, _], _ => rfl)
  exact ⟨_, _, _, (ok_l_drawn_beside F (hTxt X G g) (hC_l_claims (P := P) (w := w) (base := base) X G g) (hC_l_compared (P := P) (w := w) (base := base) X G g) (hC_l_play (P := P) (w := w) (base := base) X G g)), He.glo_ok X G (g.fact 79 rfl), F.kp, b⟩
theorem hM_Game_worth : MetC P w K mg base 1 (hAdr K).Game "worth" (cWorth (hAdr K)) := by
  obtain ⟨fd, F, b⟩ := getF g.d 52 (p := ("Game", some "worth")) (st := s_Game_worth) rfl ["self"] (fun _ _ _ _ _ _ us hl => match us, hl with | [_], _ => rfl)
  exact ⟨_, _, _, (hTxt X G g).k_Game, He.meth_ok (g.fact 143 rfl), (ok_Game_worth F (hTxt X G g) ), b⟩
theorem hM_Audit_worths : MetC P w K mg base 2 (hAdr K).Audit "worths" (cWorths (hAdr K)) := by
  obtain ⟨fd, F, b⟩ := getF g.d 64 (p := ("Audit", some "worths")) (st := s_Audit_worths) rfl ["self"] (fun _ _ _ _ _ _ us hl => match us, hl with | [_], _ => rfl)
  exact ⟨_, _, _, (hTxt X G g).k_Audit, He.meth_ok (g.fact 155 rfl), (ok_Audit_worths F (hTxt X G g) (hM_Game_worth (P := P) (w := w) (base := base) X G g)), b⟩
theorem hC_l_whole : CalC P w K mg base 1 "_law_whole" (cLWhole) := by
  obtain ⟨fd, F, b⟩ := getF g.d 10 (p := ("_law_whole", none)) (st := s_l_whole) rfl ["_law_found"] (fun _ _ _ _ _ _ us hl => match us, hl with | [_], _ => rfl)
  exact ⟨_, _, _, (ok_l_whole F (hTxt X G g) ), He.glo_ok X G (g.fact 45 rfl), F.kp, b⟩
theorem hC_l_stands : CalC P w K mg base 8 "_law_stands" (cLStands (hAdr K)) := by
  obtain ⟨fd, F, b⟩ := getF g.d 40 (p := ("_law_stands", none)) (st := s_l_stands) rfl ["_law_audit_here", "_law_plan_here", "_law_games_here", "_law_turns"] (fun _ _ _ _ _ _ us hl => match us, hl with | [_, _, _, _], _ => rfl)
  exact ⟨_, _, _, (ok_l_stands F (hTxt X G g) (hM_Audit_worths (P := P) (w := w) (base := base) X G g) (hM_Audit_sure_of (P := P) (w := w) (base := base) X G g) (hM_Audit_verdict (P := P) (w := w) (base := base) X G g) (hC_l_sure (P := P) (w := w) (base := base) X G g) (hC_l_verdict (P := P) (w := w) (base := base) X G g) (hC_l_whole (P := P) (w := w) (base := base) X G g)), He.glo_ok X G (g.fact 75 rfl), F.kp, b⟩
end
theorem hAll {P : Program} {w : World} {K : PySem.W.Frag} {mg : Str → Option Value} {h : Heap} {fa : Addr} (X : K.In h) (G : h.Ns mainGlobals mg) (g : HGood K) (hfa : mg "law" = some (.ref fa)) :
    ∃ fd : FuncData, (∀ (s : Shared) (u : Value), BindsTo s fd ⟨[u], []⟩ [("_law_script", u)]) ∧ ∀ base : Heap, FnOk P w K mg base CX0 14 fa fd ["_law_script"] (spOf K cLaw) := by
  obtain ⟨fd, Fd⟩ := g.d.def_ 45 rfl
  have e := hfa.symm.trans (He.glo_ok X G (g.fact 80 rfl))
  cases e
  refine ⟨fd, fun s u => FunD.bindsA (ps := ["_law_script"]) Fd (fun _ _ _ _ _ _ us hl => match us, hl with | [_], _ => rfl) s [u] rfl, fun base => ?_⟩
  have F_law : Fun K "law" "law" s_law (He.ga K "law") fd := by
    obtain ⟨oc, od, dV, kV, doc, pm, an, cdv, ct, osl, e, l, cd, hD, _⟩ := Fd.ex
    rcases hD with ⟨_, rfl⟩ | ⟨z, _⟩
    · exact ⟨⟨oc, od, kV, doc, pm, an, cdv, ct, osl, e, l, cd⟩, Fd.kp⟩
    · exact absurd rfl z
  exact ok_law F_law (hTxt X G g) (hC_l_plan (P := P) (w := w) (base := base) X G g) (hC_l_record (P := P) (w := w) (base := base) X G g) (hC_l_told (P := P) (w := w) (base := base) X G g) (hC_l_audit (P := P) (w := w) (base := base) X G g) (hC_l_games (P := P) (w := w) (base := base) X G g) (hC_l_tops (P := P) (w := w) (base := base) X G g) (hC_l_at (P := P) (w := w) (base := base) X G g) (hC_l_mix (P := P) (w := w) (base := base) X G g) (hC_l_verdict (P := P) (w := w) (base := base) X G g) (hC_l_ballot (P := P) (w := w) (base := base) X G g) (hM_Audit_draw (P := P) (w := w) (base := base) X G g) (hC_l_drawn_beside (P := P) (w := w) (base := base) X G g) (hC_l_stands (P := P) (w := w) (base := base) X G g)
theorem hSp (K : PySem.W.Frag) (H : Hp) (a : Addr) (ns : List Int) (hl : ns.length ≤ 63) (hS : SqL K H a (ns.map V.int)) : spOf K cLaw [.ref a] H (fun v _ => v = .bl true) fun _ _ _ => False := by
  refine ⟨H, fun _ => none, [.lst (ns.map D.int)], fun d _ => d = .bl true, Same.refl H, fun a o e => (by cases e), .cons ⟨a, _, rfl, hS, Reps.ints⟩ .nil, ⟨ns, rfl, hl, fun _ => rfl⟩, fun d m' v S' H' e _ r => ?_⟩
  subst e
  exact r
end L3
theorem PySem.Challenge.cw_surecount_k47_ballots_compared_holds : PySem.Challenge.rw_surecount_k47_ballots_compared.Holds := by
  refine L3.hHead ?_
  refine L2.walk_ofE (l := PySem.Challenge.rw_surecount_k47_ballots_compared) (n := 63) (k := 14) (x := "_law_script") (CX := L2.CX0) rfl (by decide) (by kernel_rfl) ⟨rfl, by decide, by decide⟩ ?F (fun _ _ _ _ z => z)
  intro w mg fa h Y G hmg0
  obtain ⟨K, KX, c⟩ := Y
  have hmg : mg ("law" : PySem.Str) = some (.ref fa) := by
    have e : (HandSHeadRun.topDef (PySem.W.OpenLaw.row PySem.Challenge.rw_surecount_k47_ballots_compared).prog 89).name = ("law" : PySem.Str) := by kernel_rfl
    rw [← e]
    exact hmg0
  obtain ⟨fd, hb, hF⟩ := L3.hAll (P := (PySem.Challenge.rw_surecount_k47_ballots_compared).prog) (w := w) KX G c hmg
  exact ⟨K, fd, L3.spOf K L3.cLaw, KX, hb, fun H a ns hl _ hS => L3.hSp K H a ns hl hS, fun base _ _ => hF base⟩
