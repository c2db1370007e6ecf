import PyProof.Rows.All
import Wide.All
import OpenK.AllK
import Wide.FinOn
import HandS.ForMost
import HandS.Exc
import HandS.TryOnly
import HandS.ExcOwn
import HandS.WordsExc
import HandS.IsInst
import HandS.Style
import HandS.Zip
import HandS.ExcIs
import HandS.HotCalls
import HandS.Conv
import HandS.More
import HandS.Sort
import HandS.SortOrd
import HandS.SortRule
import HandS.SetFor
import HandS.TupLe
import KE.KDictCopyH
import KE.KDictPairs
import HandS.DictTup
import KE.DatumOrd
import HandS.Text
import HandS.FStr
import KE.KStateDown
import HandS.Head0
import HandS.Head1
import HandS.Head2
import HandS.HeadHook1
import HandS.HeadEnd
import PySem.Challenge.RW_shareparley_k10_rules_refused
set_option Elab.async false
set_option linter.all false
set_option maxRecDepth 100000
set_option maxHeartbeats 4000000
namespace Lw
section
open PySem PySem.Spec PyProof.Rows L2
def topS (i : Nat) : Stmt := PySem.Challenge.pw_shareparley_k10_rules_refused.main.body.getD i (.Pass ⟨0, 0, 0, 0⟩)
abbrev s_is_whole : Stmt := topS 15
abbrev s_look_group : Stmt := topS 18
abbrev s_whole_of : Stmt := topS 19
abbrev s_hands_of : Stmt := topS 20
abbrev s_look : Stmt := topS 22
abbrev s_look_numbers : Stmt := topS 24
abbrev s_one_pair : Stmt := topS 25
abbrev s_pairs_of : Stmt := topS 26
abbrev s_Rule___init__ : Stmt := inClass (topS 27) 0
abbrev s_Rule_hands : Stmt := inClass (topS 27) 1
abbrev s_Rule_earn : Stmt := inClass (topS 27) 2
abbrev s_Rule_reckoned : Stmt := inClass (topS 27) 3
abbrev s_Own___init__ : Stmt := inClass (topS 28) 0
abbrev s_Own_reckoned : Stmt := inClass (topS 28) 1
abbrev s_Pairs___init__ : Stmt := inClass (topS 29) 0
abbrev s_Pairs_reckoned : Stmt := inClass (topS 29) 1
abbrev s_Votes___init__ : Stmt := inClass (topS 30) 0
abbrev s_Votes_reckoned : Stmt := inClass (topS 30) 1
abbrev s_Plain___init__ : Stmt := inClass (topS 31) 0
abbrev s_Plain_reckoned : Stmt := inClass (topS 31) 1
abbrev s_split_off : Stmt := topS 33
abbrev s_best_sums : Stmt := topS 34
abbrev s_Match___init__ : Stmt := inClass (topS 36) 0
abbrev s_Match_reckoned : Stmt := inClass (topS 36) 2
abbrev s_ropes_from : Stmt := topS 37
abbrev s_cheapest : Stmt := topS 38
abbrev s_Net___init__ : Stmt := inClass (topS 39) 0
abbrev s_Net_reckoned : Stmt := inClass (topS 39) 2
abbrev s__law_whole : Stmt := topS 41
abbrev s__law_rule : Stmt := topS 42
abbrev s__law_kinds : Stmt := topS 43
abbrev s__law_refused : Stmt := topS 44
abbrev s__law_copy : Stmt := topS 45
abbrev s__law_numbers : Stmt := topS 46
abbrev s__law_pairs : Stmt := topS 47
abbrev s__law_good : Stmt := topS 48
abbrev s__law_odd : Stmt := topS 49
abbrev s__law_far : Stmt := topS 50
abbrev s__law_many_off : Stmt := topS 51
abbrev s__law_list_off : Stmt := topS 52
abbrev s__law_table_off : Stmt := topS 53
abbrev s__law_pair_off : Stmt := topS 54
abbrev s__law_pairs_off : Stmt := topS 55
abbrev s__law_votes_off : Stmt := topS 56
abbrev s__law_off : Stmt := topS 57
abbrev s_law : Stmt := topS 58
set_option maxHeartbeats 0 in
theorem said_w (h : (PySem.W.OpenLaw.row PySem.Challenge.rw_shareparley_k10_rules_refused).wellSaid = true → (PySem.W.OpenLaw.row PySem.Challenge.rw_shareparley_k10_rules_refused).Holds) : PySem.Challenge.rw_shareparley_k10_rules_refused.Holds := by
  w_on; o_law
  exact h (by assumption)
def fnL : List He.FnD := [⟨("is_whole", none), "is_whole", "is_whole", defArgs s_is_whole, defBody s_is_whole, defScope s_is_whole⟩, ⟨("look_group", none), "look_group", "look_group", defArgs s_look_group, defBody s_look_group, defScope s_look_group⟩, ⟨("whole_of", none), "whole_of", "whole_of", defArgs s_whole_of, defBody s_whole_of, defScope s_whole_of⟩, ⟨("hands_of", none), "hands_of", "hands_of", defArgs s_hands_of, defBody s_hands_of, defScope s_hands_of⟩, ⟨("look", none), "look", "look", defArgs s_look, defBody s_look, defScope s_look⟩, ⟨("look_numbers", none), "look_numbers", "look_numbers", defArgs s_look_numbers, defBody s_look_numbers, defScope s_look_numbers⟩, ⟨("one_pair", none), "one_pair", "one_pair", defArgs s_one_pair, defBody s_one_pair, defScope s_one_pair⟩, ⟨("pairs_of", none), "pairs_of", "pairs_of", defArgs s_pairs_of, defBody s_pairs_of, defScope s_pairs_of⟩, ⟨("Rule", some "__init__"), "__init__", "Rule.__init__", defArgs s_Rule___init__, defBody s_Rule___init__, defScope s_Rule___init__⟩, ⟨("Rule", some "hands"), "hands", "Rule.hands", defArgs s_Rule_hands, defBody s_Rule_hands, defScope s_Rule_hands⟩, ⟨("Rule", some "earn"), "earn", "Rule.earn", defArgs s_Rule_earn, defBody s_Rule_earn, defScope s_Rule_earn⟩, ⟨("Rule", some "reckoned"), "reckoned", "Rule.reckoned", defArgs s_Rule_reckoned, defBody s_Rule_reckoned, defScope s_Rule_reckoned⟩, ⟨("Own", some "__init__"), "__init__", "Own.__init__", defArgs s_Own___init__, defBody s_Own___init__, defScope s_Own___init__⟩, ⟨("Own", some "reckoned"), "reckoned", "Own.reckoned", defArgs s_Own_reckoned, defBody s_Own_reckoned, defScope s_Own_reckoned⟩, ⟨("Pairs", some "__init__"), "__init__", "Pairs.__init__", defArgs s_Pairs___init__, defBody s_Pairs___init__, defScope s_Pairs___init__⟩, ⟨("Pairs", some "reckoned"), "reckoned", "Pairs.reckoned", defArgs s_Pairs_reckoned, defBody s_Pairs_reckoned, defScope s_Pairs_reckoned⟩, ⟨("Votes", some "__init__"), "__init__", "Votes.__init__", defArgs s_Votes___init__, defBody s_Votes___init__, defScope s_Votes___init__⟩, ⟨("Votes", some "reckoned"), "reckoned", "Votes.reckoned", defArgs s_Votes_reckoned, defBody s_Votes_reckoned, defScope s_Votes_reckoned⟩, ⟨("Plain", some "__init__"), "__init__", "Plain.__init__", defArgs s_Plain___init__, defBody s_Plain___init__, defScope s_Plain___init__⟩, ⟨("Plain", some "reckoned"), "reckoned", "Plain.reckoned", defArgs s_Plain_reckoned, defBody s_Plain_reckoned, defScope s_Plain_reckoned⟩, ⟨("split_off", none), "split_off", "split_off", defArgs s_split_off, defBody s_split_off, defScope s_split_off⟩, ⟨("best_sums", none), "best_sums", "best_sums", defArgs s_best_sums, defBody s_best_sums, defScope s_best_sums⟩, ⟨("Match", some "__init__"), "__init__", "Match.__init__", defArgs s_Match___init__, defBody s_Match___init__, defScope s_Match___init__⟩, ⟨("Match", some "reckoned"), "reckoned", "Match.reckoned", defArgs s_Match_reckoned, defBody s_Match_reckoned, defScope s_Match_reckoned⟩, ⟨("ropes_from", none), "ropes_from", "ropes_from", defArgs s_ropes_from, defBody s_ropes_from, defScope s_ropes_from⟩, ⟨("cheapest", none), "cheapest", "cheapest", defArgs s_cheapest, defBody s_cheapest, defScope s_cheapest⟩, ⟨("Net", some "__init__"), "__init__", "Net.__init__", defArgs s_Net___init__, defBody s_Net___init__, defScope s_Net___init__⟩, ⟨("Net", some "reckoned"), "reckoned", "Net.reckoned", defArgs s_Net_reckoned, defBody s_Net_reckoned, defScope s_Net_reckoned⟩, ⟨("_law_whole", none), "_law_whole", "_law_whole", defArgs s__law_whole, defBody s__law_whole, defScope s__law_whole⟩, ⟨("_law_rule", none), "_law_rule", "_law_rule", defArgs s__law_rule, defBody s__law_rule, defScope s__law_rule⟩, ⟨("_law_kinds", none), "_law_kinds", "_law_kinds", defArgs s__law_kinds, defBody s__law_kinds, defScope s__law_kinds⟩, ⟨("_law_refused", none), "_law_refused", "_law_refused", defArgs s__law_refused, defBody s__law_refused, defScope s__law_refused⟩, ⟨("_law_copy", none), "_law_copy", "_law_copy", defArgs s__law_copy, defBody s__law_copy, defScope s__law_copy⟩, ⟨("_law_numbers", none), "_law_numbers", "_law_numbers", defArgs s__law_numbers, defBody s__law_numbers, defScope s__law_numbers⟩, ⟨("_law_pairs", none), "_law_pairs", "_law_pairs", defArgs s__law_pairs, defBody s__law_pairs, defScope s__law_pairs⟩, ⟨("_law_good", none), "_law_good", "_law_good", defArgs s__law_good, defBody s__law_good, defScope s__law_good⟩, ⟨("_law_odd", none), "_law_odd", "_law_odd", defArgs s__law_odd, defBody s__law_odd, defScope s__law_odd⟩, ⟨("_law_far", none), "_law_far", "_law_far", defArgs s__law_far, defBody s__law_far, defScope s__law_far⟩, ⟨("_law_many_off", none), "_law_many_off", "_law_many_off", defArgs s__law_many_off, defBody s__law_many_off, defScope s__law_many_off⟩, ⟨("_law_list_off", none), "_law_list_off", "_law_list_off", defArgs s__law_list_off, defBody s__law_list_off, defScope s__law_list_off⟩, ⟨("_law_table_off", none), "_law_table_off", "_law_table_off", defArgs s__law_table_off, defBody s__law_table_off, defScope s__law_table_off⟩, ⟨("_law_pair_off", none), "_law_pair_off", "_law_pair_off", defArgs s__law_pair_off, defBody s__law_pair_off, defScope s__law_pair_off⟩, ⟨("_law_pairs_off", none), "_law_pairs_off", "_law_pairs_off", defArgs s__law_pairs_off, defBody s__law_pairs_off, defScope s__law_pairs_off⟩, ⟨("_law_votes_off", none), "_law_votes_off", "_law_votes_off", defArgs s__law_votes_off, defBody s__law_votes_off, defScope s__law_votes_off⟩, ⟨("_law_off", none), "_law_off", "_law_off", defArgs s__law_off, defBody s__law_off, defScope s__law_off⟩, ⟨("law", none), "law", "law", defArgs s_law, defBody s_law, defScope s_law⟩]
def fcB (K : PySem.W.Frag) (C f : Addr) : Bool := match PySem.W.findCls K (.ref C) (.type "type") "__init__" with
  | some (.val (.ref a)) => decide (a = f)
  | _ => false
theorem fcB_ok {K : PySem.W.Frag} {C f : Addr} (h : fcB K C f = true) : PySem.W.findCls K (.ref C) (.type "type") "__init__" = some (.val (.ref f)) := by
  unfold fcB at h
  split at h
  · next a e => rw [e, of_decide_eq_true h]
  · cases h
def exL_0 (K : PySem.W.Frag) : List Bool := [decide (PySem.W.nsIn K mainGlobals "is_whole" = some (some (.ref (He.fAd K ("is_whole", none))))),
  PySem.W.keepIn K (.ref (He.fAd K ("is_whole", none))),
  decide (PySem.W.nsIn K mainGlobals "look_group" = some (some (.ref (He.fAd K ("look_group", none))))),
  PySem.W.keepIn K (.ref (He.fAd K ("look_group", none))),
  decide (PySem.W.nsIn K mainGlobals "whole_of" = some (some (.ref (He.fAd K ("whole_of", none))))),
  PySem.W.keepIn K (.ref (He.fAd K ("whole_of", none))),
  decide (PySem.W.nsIn K mainGlobals "hands_of" = some (some (.ref (He.fAd K ("hands_of", none))))),
  PySem.W.keepIn K (.ref (He.fAd K ("hands_of", none))),
  decide (PySem.W.nsIn K mainGlobals "look" = some (some (.ref (He.fAd K ("look", none))))),
  PySem.W.keepIn K (.ref (He.fAd K ("look", none))),
  decide (PySem.W.nsIn K mainGlobals "look_numbers" = some (some (.ref (He.fAd K ("look_numbers", none))))),
  PySem.W.keepIn K (.ref (He.fAd K ("look_numbers", none))),
  decide (PySem.W.nsIn K mainGlobals "one_pair" = some (some (.ref (He.fAd K ("one_pair", none))))),
  PySem.W.keepIn K (.ref (He.fAd K ("one_pair", none))),
  decide (PySem.W.nsIn K mainGlobals "pairs_of" = some (some (.ref (He.fAd K ("pairs_of", none))))),
  PySem.W.keepIn K (.ref (He.fAd K ("pairs_of", none))),
  decide (PySem.W.findIn K (.ref (He.ga K "Rule")) "__init__" = some (some (.ref (He.fAd K ("Rule", some "__init__"))))),
  PySem.W.isFn K (.ref (He.fAd K ("Rule", some "__init__"))),
  PySem.W.keepIn K (.ref (He.fAd K ("Rule", some "__init__"))),
  decide (PySem.W.findIn K (.ref (He.ga K "Rule")) "hands" = some (some (.ref (He.fAd K ("Rule", some "hands"))))),
  PySem.W.isFn K (.ref (He.fAd K ("Rule", some "hands"))),
  PySem.W.keepIn K (.ref (He.fAd K ("Rule", some "hands"))),
  decide (PySem.W.findIn K (.ref (He.ga K "Rule")) "earn" = some (some (.ref (He.fAd K ("Rule", some "earn"))))),
  PySem.W.isFn K (.ref (He.fAd K ("Rule", some "earn"))),
  PySem.W.keepIn K (.ref (He.fAd K ("Rule", some "earn"))),
  decide (PySem.W.findIn K (.ref (He.ga K "Rule")) "reckoned" = some (some (.ref (He.fAd K ("Rule", some "reckoned"))))),
  PySem.W.isFn K (.ref (He.fAd K ("Rule", some "reckoned"))),
  PySem.W.keepIn K (.ref (He.fAd K ("Rule", some "reckoned"))),
  decide (PySem.W.findIn K (.ref (He.ga K "Own")) "__init__" = some (some (.ref (He.fAd K ("Own", some "__init__"))))),
  PySem.W.isFn K (.ref (He.fAd K ("Own", some "__init__"))),
  PySem.W.keepIn K (.ref (He.fAd K ("Own", some "__init__"))),
  decide (PySem.W.findIn K (.ref (He.ga K "Own")) "reckoned" = some (some (.ref (He.fAd K ("Own", some "reckoned"))))),
  PySem.W.isFn K (.ref (He.fAd K ("Own", some "reckoned"))),
  PySem.W.keepIn K (.ref (He.fAd K ("Own", some "reckoned"))),
  decide (PySem.W.findIn K (.ref (He.ga K "Pairs")) "__init__" = some (some (.ref (He.fAd K ("Pairs", some "__init__"))))),
  PySem.W.isFn K (.ref (He.fAd K ("Pairs", some "__init__"))),
  PySem.W.keepIn K (.ref (He.fAd K ("Pairs", some "__init__"))),
  decide (PySem.W.findIn K (.ref (He.ga K "Pairs")) "reckoned" = some (some (.ref (He.fAd K ("Pairs", some "reckoned"))))),
  PySem.W.isFn K (.ref (He.fAd K ("Pairs", some "reckoned"))),
  PySem.W.keepIn K (.ref (He.fAd K ("Pairs", some "reckoned")))]
def exL_1 (K : PySem.W.Frag) : List Bool := [decide (PySem.W.findIn K (.ref (He.ga K "Votes")) "__init__" = some (some (.ref (He.fAd K ("Votes", some "__init__"))))),
  PySem.W.isFn K (.ref (He.fAd K ("Votes", some "__init__"))),
  PySem.W.keepIn K (.ref (He.fAd K ("Votes", some "__init__"))),
  decide (PySem.W.findIn K (.ref (He.ga K "Votes")) "reckoned" = some (some (.ref (He.fAd K ("Votes", some "reckoned"))))),
  PySem.W.isFn K (.ref (He.fAd K ("Votes", some "reckoned"))),
  PySem.W.keepIn K (.ref (He.fAd K ("Votes", some "reckoned"))),
  decide (PySem.W.findIn K (.ref (He.ga K "Plain")) "__init__" = some (some (.ref (He.fAd K ("Plain", some "__init__"))))),
  PySem.W.isFn K (.ref (He.fAd K ("Plain", some "__init__"))),
  PySem.W.keepIn K (.ref (He.fAd K ("Plain", some "__init__"))),
  decide (PySem.W.findIn K (.ref (He.ga K "Plain")) "reckoned" = some (some (.ref (He.fAd K ("Plain", some "reckoned"))))),
  PySem.W.isFn K (.ref (He.fAd K ("Plain", some "reckoned"))),
  PySem.W.keepIn K (.ref (He.fAd K ("Plain", some "reckoned"))),
  decide (PySem.W.nsIn K mainGlobals "split_off" = some (some (.ref (He.fAd K ("split_off", none))))),
  PySem.W.keepIn K (.ref (He.fAd K ("split_off", none))),
  decide (PySem.W.nsIn K mainGlobals "best_sums" = some (some (.ref (He.fAd K ("best_sums", none))))),
  PySem.W.keepIn K (.ref (He.fAd K ("best_sums", none))),
  decide (PySem.W.findIn K (.ref (He.ga K "Match")) "__init__" = some (some (.ref (He.fAd K ("Match", some "__init__"))))),
  PySem.W.isFn K (.ref (He.fAd K ("Match", some "__init__"))),
  PySem.W.keepIn K (.ref (He.fAd K ("Match", some "__init__"))),
  decide (PySem.W.findIn K (.ref (He.ga K "Match")) "reckoned" = some (some (.ref (He.fAd K ("Match", some "reckoned"))))),
  PySem.W.isFn K (.ref (He.fAd K ("Match", some "reckoned"))),
  PySem.W.keepIn K (.ref (He.fAd K ("Match", some "reckoned"))),
  decide (PySem.W.nsIn K mainGlobals "ropes_from" = some (some (.ref (He.fAd K ("ropes_from", none))))),
  PySem.W.keepIn K (.ref (He.fAd K ("ropes_from", none))),
  decide (PySem.W.nsIn K mainGlobals "cheapest" = some (some (.ref (He.fAd K ("cheapest", none))))),
  PySem.W.keepIn K (.ref (He.fAd K ("cheapest", none))),
  decide (PySem.W.findIn K (.ref (He.ga K "Net")) "__init__" = some (some (.ref (He.fAd K ("Net", some "__init__"))))),
  PySem.W.isFn K (.ref (He.fAd K ("Net", some "__init__"))),
  PySem.W.keepIn K (.ref (He.fAd K ("Net", some "__init__"))),
  decide (PySem.W.findIn K (.ref (He.ga K "Net")) "reckoned" = some (some (.ref (He.fAd K ("Net", some "reckoned"))))),
  PySem.W.isFn K (.ref (He.fAd K ("Net", some "reckoned"))),
  PySem.W.keepIn K (.ref (He.fAd K ("Net", some "reckoned"))),
  decide (PySem.W.nsIn K mainGlobals "_law_whole" = some (some (.ref (He.fAd K ("_law_whole", none))))),
  PySem.W.keepIn K (.ref (He.fAd K ("_law_whole", none))),
  decide (PySem.W.nsIn K mainGlobals "_law_rule" = some (some (.ref (He.fAd K ("_law_rule", none))))),
  PySem.W.keepIn K (.ref (He.fAd K ("_law_rule", none))),
  decide (PySem.W.nsIn K mainGlobals "_law_kinds" = some (some (.ref (He.fAd K ("_law_kinds", none))))),
  PySem.W.keepIn K (.ref (He.fAd K ("_law_kinds", none))),
  decide (PySem.W.nsIn K mainGlobals "_law_refused" = some (some (.ref (He.fAd K ("_law_refused", none))))),
  PySem.W.keepIn K (.ref (He.fAd K ("_law_refused", none)))]
def exL_2 (K : PySem.W.Frag) : List Bool := [decide (PySem.W.nsIn K mainGlobals "_law_copy" = some (some (.ref (He.fAd K ("_law_copy", none))))),
  PySem.W.keepIn K (.ref (He.fAd K ("_law_copy", none))),
  decide (PySem.W.nsIn K mainGlobals "_law_numbers" = some (some (.ref (He.fAd K ("_law_numbers", none))))),
  PySem.W.keepIn K (.ref (He.fAd K ("_law_numbers", none))),
  decide (PySem.W.nsIn K mainGlobals "_law_pairs" = some (some (.ref (He.fAd K ("_law_pairs", none))))),
  PySem.W.keepIn K (.ref (He.fAd K ("_law_pairs", none))),
  decide (PySem.W.nsIn K mainGlobals "_law_good" = some (some (.ref (He.fAd K ("_law_good", none))))),
  PySem.W.keepIn K (.ref (He.fAd K ("_law_good", none))),
  decide (PySem.W.nsIn K mainGlobals "_law_odd" = some (some (.ref (He.fAd K ("_law_odd", none))))),
  PySem.W.keepIn K (.ref (He.fAd K ("_law_odd", none))),
  decide (PySem.W.nsIn K mainGlobals "_law_far" = some (some (.ref (He.fAd K ("_law_far", none))))),
  PySem.W.keepIn K (.ref (He.fAd K ("_law_far", none))),
  decide (PySem.W.nsIn K mainGlobals "_law_many_off" = some (some (.ref (He.fAd K ("_law_many_off", none))))),
  PySem.W.keepIn K (.ref (He.fAd K ("_law_many_off", none))),
  decide (PySem.W.nsIn K mainGlobals "_law_list_off" = some (some (.ref (He.fAd K ("_law_list_off", none))))),
  PySem.W.keepIn K (.ref (He.fAd K ("_law_list_off", none))),
  decide (PySem.W.nsIn K mainGlobals "_law_table_off" = some (some (.ref (He.fAd K ("_law_table_off", none))))),
  PySem.W.keepIn K (.ref (He.fAd K ("_law_table_off", none))),
  decide (PySem.W.nsIn K mainGlobals "_law_pair_off" = some (some (.ref (He.fAd K ("_law_pair_off", none))))),
  PySem.W.keepIn K (.ref (He.fAd K ("_law_pair_off", none))),
  decide (PySem.W.nsIn K mainGlobals "_law_pairs_off" = some (some (.ref (He.fAd K ("_law_pairs_off", none))))),
  PySem.W.keepIn K (.ref (He.fAd K ("_law_pairs_off", none))),
  decide (PySem.W.nsIn K mainGlobals "_law_votes_off" = some (some (.ref (He.fAd K ("_law_votes_off", none))))),
  PySem.W.keepIn K (.ref (He.fAd K ("_law_votes_off", none))),
  decide (PySem.W.nsIn K mainGlobals "_law_off" = some (some (.ref (He.fAd K ("_law_off", none))))),
  PySem.W.keepIn K (.ref (He.fAd K ("_law_off", none))),
  decide (PySem.W.nsIn K mainGlobals "law" = some (some (.ref (He.fAd K ("law", none))))),
  PySem.W.keepIn K (.ref (He.fAd K ("law", none))),
  decide (PySem.W.nsIn K mainGlobals "ShareError" = some (some (.ref (He.ga K "ShareError")))),
  decide (PySem.W.typeIn K (.ref (He.ga K "ShareError")) = some (.type "type")),
  decide (PySem.W.subIn K (.ref (He.ga K "ShareError")) (.type "BaseException") = some true),
  decide (PySem.W.nsIn K mainGlobals "NoNumber" = some (some (.ref (He.ga K "NoNumber")))),
  decide (PySem.W.typeIn K (.ref (He.ga K "NoNumber")) = some (.type "type")),
  decide (PySem.W.subIn K (.ref (He.ga K "NoNumber")) (.type "BaseException") = some true),
  decide (PySem.W.nsIn K mainGlobals "NoGroup" = some (some (.ref (He.ga K "NoGroup")))),
  PySem.W.keepIn K (.ref (He.ga K "NoGroup")),
  decide (PySem.W.subIn K (.ref (He.ga K "NoGroup")) (.type "BaseException") = some true),
  decide (PySem.W.typeIn K (.ref (He.ga K "NoGroup")) = some (.type "type")),
  PySem.W.excIn K (He.ga K "NoGroup") [.type "ValueError", .type "Exception", .type "BaseException", .type "object"] "ValueError.__new__",
  decide (PySem.W.nsIn K mainGlobals "NoRule" = some (some (.ref (He.ga K "NoRule"))))]
def exL_3 (K : PySem.W.Frag) : List Bool := [PySem.W.keepIn K (.ref (He.ga K "NoRule")),
  decide (PySem.W.subIn K (.ref (He.ga K "NoRule")) (.type "BaseException") = some true),
  decide (PySem.W.typeIn K (.ref (He.ga K "NoRule")) = some (.type "type")),
  PySem.W.excIn K (He.ga K "NoRule") [.type "ValueError", .type "Exception", .type "BaseException", .type "object"] "ValueError.__new__",
  decide (PySem.W.nsIn K mainGlobals "NoText" = some (some (.ref (He.ga K "NoText")))),
  decide (PySem.W.typeIn K (.ref (He.ga K "NoText")) = some (.type "type")),
  decide (PySem.W.subIn K (.ref (He.ga K "NoText")) (.type "BaseException") = some true),
  decide (PySem.W.nsIn K mainGlobals "NoTable" = some (some (.ref (He.ga K "NoTable")))),
  PySem.W.keepIn K (.ref (He.ga K "NoTable")),
  decide (PySem.W.subIn K (.ref (He.ga K "NoTable")) (.type "BaseException") = some true),
  decide (PySem.W.typeIn K (.ref (He.ga K "NoTable")) = some (.type "type")),
  PySem.W.excIn K (He.ga K "NoTable") [.type "ValueError", .type "Exception", .type "BaseException", .type "object"] "ValueError.__new__",
  decide (PySem.W.nsIn K mainGlobals "Unlike" = some (some (.ref (He.ga K "Unlike")))),
  decide (PySem.W.typeIn K (.ref (He.ga K "Unlike")) = some (.type "type")),
  decide (PySem.W.subIn K (.ref (He.ga K "Unlike")) (.type "BaseException") = some true),
  decide (PySem.W.nsIn K mainGlobals "TooMany" = some (some (.ref (He.ga K "TooMany")))),
  decide (PySem.W.typeIn K (.ref (He.ga K "TooMany")) = some (.type "type")),
  decide (PySem.W.subIn K (.ref (He.ga K "TooMany")) (.type "BaseException") = some true),
  decide (PySem.W.nsIn K mainGlobals "NoOrder" = some (some (.ref (He.ga K "NoOrder")))),
  decide (PySem.W.typeIn K (.ref (He.ga K "NoOrder")) = some (.type "type")),
  decide (PySem.W.subIn K (.ref (He.ga K "NoOrder")) (.type "BaseException") = some true),
  decide (PySem.W.nsIn K mainGlobals "NoRows" = some (some (.ref (He.ga K "NoRows")))),
  decide (PySem.W.typeIn K (.ref (He.ga K "NoRows")) = some (.type "type")),
  decide (PySem.W.subIn K (.ref (He.ga K "NoRows")) (.type "BaseException") = some true),
  decide (PySem.W.nsIn K mainGlobals "NoShares" = some (some (.ref (He.ga K "NoShares")))),
  decide (PySem.W.typeIn K (.ref (He.ga K "NoShares")) = some (.type "type")),
  decide (PySem.W.subIn K (.ref (He.ga K "NoShares")) (.type "BaseException") = some true),
  decide (PySem.W.nsIn K mainGlobals "NoVotes" = some (some (.ref (He.ga K "NoVotes")))),
  decide (PySem.W.typeIn K (.ref (He.ga K "NoVotes")) = some (.type "type")),
  decide (PySem.W.subIn K (.ref (He.ga K "NoVotes")) (.type "BaseException") = some true),
  decide (PySem.W.nsIn K mainGlobals "Rule" = some (some (.ref (He.ga K "Rule")))),
  PySem.W.isClsIn K (He.ga K "Rule"),
  decide (PySem.W.typeIn K (.ref (He.ga K "Rule")) = some (.type "type")),
  decide (PySem.W.subIn K (.ref (He.ga K "Rule")) (.ref (He.ga K "Rule")) = some true),
  decide (PySem.W.specialIn K (.ref (He.ga K "Rule")) "__getattribute__" = some (some (.builtin "type.__getattribute__"))),
  PySem.W.readsIn K (He.ga K "Rule") (.type "type"),
  fcB K (He.ga K "Rule") (He.fAd K ("Rule", some "__init__")),
  PySem.W.keepIn K (.ref (He.ga K "Rule")),
  PySem.W.plainGet K (He.ga K "Rule") Str.empty,
  PySem.W.hasDictIn K (He.ga K "Rule")]
def exL_4 (K : PySem.W.Frag) : List Bool := [PySem.W.plainOver K (He.ga K "Rule"),
  decide (PySem.W.findIn K (.ref (He.ga K "Rule")) "__setattr__" = some (some (.builtin "object.__setattr__"))),
  PySem.W.makesIn K (He.ga K "Rule"),
  decide (PySem.W.specialIn K (.builtin "object.__class__") "__get__" = some (some (.builtin "getset_descriptor.__get__"))),
  decide (PySem.W.takesIn K (.builtin "object.__class__") = some true),
  decide (PySem.W.findIn K (.ref (He.ga K "Rule")) "__class__" = some (some (.builtin "object.__class__"))),
  decide (PySem.W.mroIn K (He.ga K "Rule") (.type "object") = some true),
  decide (PySem.W.subIn K (.ref (He.ga K "Rule")) (.ref (He.ga K "Own")) = some false),
  decide (PySem.W.subIn K (.ref (He.ga K "Rule")) (.ref (He.ga K "Votes")) = some false),
  decide (PySem.W.subIn K (.ref (He.ga K "Rule")) (.ref (He.ga K "Plain")) = some false),
  decide (PySem.W.subIn K (.ref (He.ga K "Rule")) (.ref (He.ga K "Pairs")) = some false),
  decide (PySem.W.subIn K (.ref (He.ga K "Rule")) (.ref (He.ga K "Rule")) = some true),
  decide (PySem.W.subIn K (.ref (He.ga K "Rule")) (.ref (He.ga K "Match")) = some false),
  decide (PySem.W.subIn K (.ref (He.ga K "Rule")) (.ref (He.ga K "Net")) = some false),
  decide (PySem.W.findIn K (.ref (He.ga K "Rule")) "many" = some none),
  decide (PySem.W.nsIn K mainGlobals "Own" = some (some (.ref (He.ga K "Own")))),
  PySem.W.isClsIn K (He.ga K "Own"),
  decide (PySem.W.typeIn K (.ref (He.ga K "Own")) = some (.type "type")),
  decide (PySem.W.subIn K (.ref (He.ga K "Own")) (.ref (He.ga K "Own")) = some true),
  PySem.W.keepIn K (.ref (He.ga K "Own")),
  PySem.W.plainGet K (He.ga K "Own") Str.empty,
  PySem.W.hasDictIn K (He.ga K "Own"),
  PySem.W.plainOver K (He.ga K "Own"),
  decide (PySem.W.findIn K (.ref (He.ga K "Own")) "__setattr__" = some (some (.builtin "object.__setattr__"))),
  PySem.W.makesIn K (He.ga K "Own"),
  decide (PySem.W.findIn K (.ref (He.ga K "Own")) "__class__" = some (some (.builtin "object.__class__"))),
  decide (PySem.W.mroIn K (He.ga K "Own") (.type "object") = some true),
  decide (PySem.W.subIn K (.ref (He.ga K "Own")) (.ref (He.ga K "Own")) = some true),
  decide (PySem.W.subIn K (.ref (He.ga K "Own")) (.ref (He.ga K "Votes")) = some false),
  decide (PySem.W.subIn K (.ref (He.ga K "Own")) (.ref (He.ga K "Plain")) = some false),
  decide (PySem.W.subIn K (.ref (He.ga K "Own")) (.ref (He.ga K "Pairs")) = some false),
  decide (PySem.W.subIn K (.ref (He.ga K "Own")) (.ref (He.ga K "Rule")) = some true),
  decide (PySem.W.subIn K (.ref (He.ga K "Own")) (.ref (He.ga K "Match")) = some false),
  decide (PySem.W.subIn K (.ref (He.ga K "Own")) (.ref (He.ga K "Net")) = some false),
  decide (PySem.W.findIn K (.ref (He.ga K "Own")) "hands" = some (some (.ref (He.fAd K ("Rule", some "hands"))))),
  decide (PySem.W.findIn K (.ref (He.ga K "Own")) "earn" = some (some (.ref (He.fAd K ("Rule", some "earn"))))),
  decide (PySem.W.findIn K (.ref (He.ga K "Own")) "numbers" = some none),
  decide (PySem.W.findIn K (.ref (He.ga K "Own")) "many" = some none),
  decide (PySem.W.nsIn K mainGlobals "Pairs" = some (some (.ref (He.ga K "Pairs")))),
  PySem.W.isClsIn K (He.ga K "Pairs")]
def exL_5 (K : PySem.W.Frag) : List Bool := [decide (PySem.W.typeIn K (.ref (He.ga K "Pairs")) = some (.type "type")),
  decide (PySem.W.subIn K (.ref (He.ga K "Pairs")) (.ref (He.ga K "Pairs")) = some true),
  PySem.W.keepIn K (.ref (He.ga K "Pairs")),
  PySem.W.plainGet K (He.ga K "Pairs") Str.empty,
  PySem.W.hasDictIn K (He.ga K "Pairs"),
  PySem.W.plainOver K (He.ga K "Pairs"),
  decide (PySem.W.findIn K (.ref (He.ga K "Pairs")) "__setattr__" = some (some (.builtin "object.__setattr__"))),
  PySem.W.makesIn K (He.ga K "Pairs"),
  decide (PySem.W.findIn K (.ref (He.ga K "Pairs")) "__class__" = some (some (.builtin "object.__class__"))),
  decide (PySem.W.mroIn K (He.ga K "Pairs") (.type "object") = some true),
  decide (PySem.W.subIn K (.ref (He.ga K "Pairs")) (.ref (He.ga K "Own")) = some false),
  decide (PySem.W.subIn K (.ref (He.ga K "Pairs")) (.ref (He.ga K "Votes")) = some false),
  decide (PySem.W.subIn K (.ref (He.ga K "Pairs")) (.ref (He.ga K "Plain")) = some false),
  decide (PySem.W.subIn K (.ref (He.ga K "Pairs")) (.ref (He.ga K "Pairs")) = some true),
  decide (PySem.W.subIn K (.ref (He.ga K "Pairs")) (.ref (He.ga K "Rule")) = some true),
  decide (PySem.W.subIn K (.ref (He.ga K "Pairs")) (.ref (He.ga K "Match")) = some false),
  decide (PySem.W.subIn K (.ref (He.ga K "Pairs")) (.ref (He.ga K "Net")) = some false),
  decide (PySem.W.findIn K (.ref (He.ga K "Pairs")) "hands" = some (some (.ref (He.fAd K ("Rule", some "hands"))))),
  decide (PySem.W.findIn K (.ref (He.ga K "Pairs")) "earn" = some (some (.ref (He.fAd K ("Rule", some "earn"))))),
  decide (PySem.W.findIn K (.ref (He.ga K "Pairs")) "pairs" = some none),
  decide (PySem.W.findIn K (.ref (He.ga K "Pairs")) "many" = some none),
  decide (PySem.W.nsIn K mainGlobals "Votes" = some (some (.ref (He.ga K "Votes")))),
  PySem.W.isClsIn K (He.ga K "Votes"),
  decide (PySem.W.typeIn K (.ref (He.ga K "Votes")) = some (.type "type")),
  decide (PySem.W.subIn K (.ref (He.ga K "Votes")) (.ref (He.ga K "Votes")) = some true),
  PySem.W.keepIn K (.ref (He.ga K "Votes")),
  PySem.W.plainGet K (He.ga K "Votes") Str.empty,
  PySem.W.hasDictIn K (He.ga K "Votes"),
  PySem.W.plainOver K (He.ga K "Votes"),
  decide (PySem.W.findIn K (.ref (He.ga K "Votes")) "__setattr__" = some (some (.builtin "object.__setattr__"))),
  PySem.W.makesIn K (He.ga K "Votes"),
  decide (PySem.W.findIn K (.ref (He.ga K "Votes")) "__class__" = some (some (.builtin "object.__class__"))),
  decide (PySem.W.mroIn K (He.ga K "Votes") (.type "object") = some true),
  decide (PySem.W.subIn K (.ref (He.ga K "Votes")) (.ref (He.ga K "Own")) = some false),
  decide (PySem.W.subIn K (.ref (He.ga K "Votes")) (.ref (He.ga K "Votes")) = some true),
  decide (PySem.W.subIn K (.ref (He.ga K "Votes")) (.ref (He.ga K "Plain")) = some false),
  decide (PySem.W.subIn K (.ref (He.ga K "Votes")) (.ref (He.ga K "Pairs")) = some false),
  decide (PySem.W.subIn K (.ref (He.ga K "Votes")) (.ref (He.ga K "Rule")) = some true),
  decide (PySem.W.subIn K (.ref (He.ga K "Votes")) (.ref (He.ga K "Match")) = some false),
  decide (PySem.W.subIn K (.ref (He.ga K "Votes")) (.ref (He.ga K "Net")) = some false)]
def exL_6 (K : PySem.W.Frag) : List Bool := [decide (PySem.W.findIn K (.ref (He.ga K "Votes")) "hands" = some (some (.ref (He.fAd K ("Rule", some "hands"))))),
  decide (PySem.W.findIn K (.ref (He.ga K "Votes")) "earn" = some (some (.ref (He.fAd K ("Rule", some "earn"))))),
  decide (PySem.W.findIn K (.ref (He.ga K "Votes")) "quota" = some none),
  decide (PySem.W.findIn K (.ref (He.ga K "Votes")) "prize" = some none),
  decide (PySem.W.findIn K (.ref (He.ga K "Votes")) "weights" = some none),
  decide (PySem.W.findIn K (.ref (He.ga K "Votes")) "many" = some none),
  decide (PySem.W.nsIn K mainGlobals "Plain" = some (some (.ref (He.ga K "Plain")))),
  PySem.W.isClsIn K (He.ga K "Plain"),
  decide (PySem.W.typeIn K (.ref (He.ga K "Plain")) = some (.type "type")),
  decide (PySem.W.subIn K (.ref (He.ga K "Plain")) (.ref (He.ga K "Plain")) = some true),
  PySem.W.keepIn K (.ref (He.ga K "Plain")),
  PySem.W.plainGet K (He.ga K "Plain") Str.empty,
  PySem.W.hasDictIn K (He.ga K "Plain"),
  PySem.W.plainOver K (He.ga K "Plain"),
  decide (PySem.W.findIn K (.ref (He.ga K "Plain")) "__setattr__" = some (some (.builtin "object.__setattr__"))),
  PySem.W.makesIn K (He.ga K "Plain"),
  decide (PySem.W.findIn K (.ref (He.ga K "Plain")) "__class__" = some (some (.builtin "object.__class__"))),
  decide (PySem.W.mroIn K (He.ga K "Plain") (.type "object") = some true),
  decide (PySem.W.subIn K (.ref (He.ga K "Plain")) (.ref (He.ga K "Own")) = some false),
  decide (PySem.W.subIn K (.ref (He.ga K "Plain")) (.ref (He.ga K "Votes")) = some false),
  decide (PySem.W.subIn K (.ref (He.ga K "Plain")) (.ref (He.ga K "Plain")) = some true),
  decide (PySem.W.subIn K (.ref (He.ga K "Plain")) (.ref (He.ga K "Pairs")) = some false),
  decide (PySem.W.subIn K (.ref (He.ga K "Plain")) (.ref (He.ga K "Rule")) = some true),
  decide (PySem.W.subIn K (.ref (He.ga K "Plain")) (.ref (He.ga K "Match")) = some false),
  decide (PySem.W.subIn K (.ref (He.ga K "Plain")) (.ref (He.ga K "Net")) = some false),
  decide (PySem.W.findIn K (.ref (He.ga K "Plain")) "hands" = some (some (.ref (He.fAd K ("Rule", some "hands"))))),
  decide (PySem.W.findIn K (.ref (He.ga K "Plain")) "earn" = some (some (.ref (He.fAd K ("Rule", some "earn"))))),
  decide (PySem.W.findIn K (.ref (He.ga K "Plain")) "row" = some none),
  decide (PySem.W.findIn K (.ref (He.ga K "Plain")) "many" = some none),
  decide (PySem.W.nsIn K mainGlobals "Match" = some (some (.ref (He.ga K "Match")))),
  PySem.W.isClsIn K (He.ga K "Match"),
  decide (PySem.W.typeIn K (.ref (He.ga K "Match")) = some (.type "type")),
  decide (PySem.W.subIn K (.ref (He.ga K "Match")) (.ref (He.ga K "Match")) = some true),
  PySem.W.keepIn K (.ref (He.ga K "Match")),
  PySem.W.plainGet K (He.ga K "Match") Str.empty,
  PySem.W.hasDictIn K (He.ga K "Match"),
  PySem.W.plainOver K (He.ga K "Match"),
  decide (PySem.W.findIn K (.ref (He.ga K "Match")) "__setattr__" = some (some (.builtin "object.__setattr__"))),
  PySem.W.makesIn K (He.ga K "Match"),
  decide (PySem.W.findIn K (.ref (He.ga K "Match")) "__class__" = some (some (.builtin "object.__class__")))]
def exL_7 (K : PySem.W.Frag) : List Bool := [decide (PySem.W.mroIn K (He.ga K "Match") (.type "object") = some true),
  decide (PySem.W.subIn K (.ref (He.ga K "Match")) (.ref (He.ga K "Own")) = some false),
  decide (PySem.W.subIn K (.ref (He.ga K "Match")) (.ref (He.ga K "Votes")) = some false),
  decide (PySem.W.subIn K (.ref (He.ga K "Match")) (.ref (He.ga K "Plain")) = some false),
  decide (PySem.W.subIn K (.ref (He.ga K "Match")) (.ref (He.ga K "Pairs")) = some false),
  decide (PySem.W.subIn K (.ref (He.ga K "Match")) (.ref (He.ga K "Rule")) = some true),
  decide (PySem.W.subIn K (.ref (He.ga K "Match")) (.ref (He.ga K "Match")) = some true),
  decide (PySem.W.subIn K (.ref (He.ga K "Match")) (.ref (He.ga K "Net")) = some false),
  decide (PySem.W.findIn K (.ref (He.ga K "Match")) "hands" = some (some (.ref (He.fAd K ("Rule", some "hands"))))),
  decide (PySem.W.findIn K (.ref (He.ga K "Match")) "earn" = some (some (.ref (He.fAd K ("Rule", some "earn"))))),
  decide (PySem.W.findIn K (.ref (He.ga K "Match")) "pairs" = some none),
  decide (PySem.W.findIn K (.ref (He.ga K "Match")) "prices" = some none),
  decide (PySem.W.findIn K (.ref (He.ga K "Match")) "sums" = some none),
  decide (PySem.W.findIn K (.ref (He.ga K "Match")) "many" = some none),
  decide (PySem.W.nsIn K mainGlobals "Net" = some (some (.ref (He.ga K "Net")))),
  PySem.W.isClsIn K (He.ga K "Net"),
  decide (PySem.W.typeIn K (.ref (He.ga K "Net")) = some (.type "type")),
  decide (PySem.W.subIn K (.ref (He.ga K "Net")) (.ref (He.ga K "Net")) = some true),
  PySem.W.keepIn K (.ref (He.ga K "Net")),
  PySem.W.plainGet K (He.ga K "Net") Str.empty,
  PySem.W.hasDictIn K (He.ga K "Net"),
  PySem.W.plainOver K (He.ga K "Net"),
  decide (PySem.W.findIn K (.ref (He.ga K "Net")) "__setattr__" = some (some (.builtin "object.__setattr__"))),
  PySem.W.makesIn K (He.ga K "Net"),
  decide (PySem.W.findIn K (.ref (He.ga K "Net")) "__class__" = some (some (.builtin "object.__class__"))),
  decide (PySem.W.mroIn K (He.ga K "Net") (.type "object") = some true),
  decide (PySem.W.subIn K (.ref (He.ga K "Net")) (.ref (He.ga K "Own")) = some false),
  decide (PySem.W.subIn K (.ref (He.ga K "Net")) (.ref (He.ga K "Votes")) = some false),
  decide (PySem.W.subIn K (.ref (He.ga K "Net")) (.ref (He.ga K "Plain")) = some false),
  decide (PySem.W.subIn K (.ref (He.ga K "Net")) (.ref (He.ga K "Pairs")) = some false),
  decide (PySem.W.subIn K (.ref (He.ga K "Net")) (.ref (He.ga K "Rule")) = some true),
  decide (PySem.W.subIn K (.ref (He.ga K "Net")) (.ref (He.ga K "Match")) = some false),
  decide (PySem.W.subIn K (.ref (He.ga K "Net")) (.ref (He.ga K "Net")) = some true),
  decide (PySem.W.findIn K (.ref (He.ga K "Net")) "hands" = some (some (.ref (He.fAd K ("Rule", some "hands"))))),
  decide (PySem.W.findIn K (.ref (He.ga K "Net")) "earn" = some (some (.ref (He.fAd K ("Rule", some "earn"))))),
  decide (PySem.W.findIn K (.ref (He.ga K "Net")) "costs" = some none),
  decide (PySem.W.findIn K (.ref (He.ga K "Net")) "ropes" = some none),
  decide (PySem.W.findIn K (.ref (He.ga K "Net")) "many" = some none),
  PySem.W.isClsIn K (He.ga K "NoGroup"),
  decide (PySem.W.subIn K (.ref (He.ga K "NoGroup")) (.ref (He.ga K "NoGroup")) = some true)]
def exL_8 (K : PySem.W.Frag) : List Bool := [PySem.W.isClsIn K (He.ga K "NoNumber"),
  decide (PySem.W.subIn K (.ref (He.ga K "NoNumber")) (.ref (He.ga K "NoNumber")) = some true),
  PySem.W.isClsIn K (He.ga K "NoOrder"),
  decide (PySem.W.subIn K (.ref (He.ga K "NoOrder")) (.ref (He.ga K "NoOrder")) = some true),
  PySem.W.isClsIn K (He.ga K "NoRows"),
  decide (PySem.W.subIn K (.ref (He.ga K "NoRows")) (.ref (He.ga K "NoRows")) = some true),
  PySem.W.isClsIn K (He.ga K "NoRule"),
  decide (PySem.W.subIn K (.ref (He.ga K "NoRule")) (.ref (He.ga K "NoRule")) = some true),
  PySem.W.isClsIn K (He.ga K "NoShares"),
  decide (PySem.W.subIn K (.ref (He.ga K "NoShares")) (.ref (He.ga K "NoShares")) = some true),
  PySem.W.isClsIn K (He.ga K "NoTable"),
  decide (PySem.W.subIn K (.ref (He.ga K "NoTable")) (.ref (He.ga K "NoTable")) = some true),
  PySem.W.isClsIn K (He.ga K "NoText"),
  decide (PySem.W.subIn K (.ref (He.ga K "NoText")) (.ref (He.ga K "NoText")) = some true),
  PySem.W.isClsIn K (He.ga K "NoVotes"),
  decide (PySem.W.subIn K (.ref (He.ga K "NoVotes")) (.ref (He.ga K "NoVotes")) = some true),
  PySem.W.isClsIn K (He.ga K "ShareError"),
  decide (PySem.W.subIn K (.ref (He.ga K "ShareError")) (.ref (He.ga K "ShareError")) = some true),
  PySem.W.isClsIn K (He.ga K "TooMany"),
  decide (PySem.W.subIn K (.ref (He.ga K "TooMany")) (.ref (He.ga K "TooMany")) = some true),
  PySem.W.isClsIn K (He.ga K "Unlike"),
  decide (PySem.W.subIn K (.ref (He.ga K "Unlike")) (.ref (He.ga K "Unlike")) = some true),
  decide (PySem.W.findIn K (.ref (He.ga K "NoGroup")) "__getattribute__" = some (some (.builtin "BaseException.__getattribute__"))),
  decide (PySem.W.findIn K (.ref (He.ga K "NoGroup")) "__getattr__" = some none),
  PySem.W.hasDictIn K (He.ga K "NoGroup"),
  decide (PySem.W.findIn K (.ref (He.ga K "NoGroup")) "__class__" = some (some (.builtin "object.__class__"))),
  decide (PySem.W.mroIn K (He.ga K "NoGroup") (.type "object") = some true),
  decide (PySem.W.specialIn K (.builtin "object.__class__") "__get__" = some (some (.builtin "getset_descriptor.__get__"))),
  decide (PySem.W.takesIn K (.builtin "object.__class__") = some true),
  decide (PySem.W.subIn K (.ref (He.ga K "NoGroup")) (.ref (He.ga K "NoGroup")) = some true),
  decide (PySem.W.subIn K (.ref (He.ga K "NoGroup")) (.ref (He.ga K "NoNumber")) = some false),
  decide (PySem.W.subIn K (.ref (He.ga K "NoGroup")) (.ref (He.ga K "NoOrder")) = some false),
  decide (PySem.W.subIn K (.ref (He.ga K "NoGroup")) (.ref (He.ga K "NoRows")) = some false),
  decide (PySem.W.subIn K (.ref (He.ga K "NoGroup")) (.ref (He.ga K "NoRule")) = some false),
  decide (PySem.W.subIn K (.ref (He.ga K "NoGroup")) (.ref (He.ga K "NoShares")) = some false),
  decide (PySem.W.subIn K (.ref (He.ga K "NoGroup")) (.ref (He.ga K "NoTable")) = some false),
  decide (PySem.W.subIn K (.ref (He.ga K "NoGroup")) (.ref (He.ga K "NoText")) = some false),
  decide (PySem.W.subIn K (.ref (He.ga K "NoGroup")) (.ref (He.ga K "NoVotes")) = some false),
  decide (PySem.W.subIn K (.ref (He.ga K "NoGroup")) (.ref (He.ga K "ShareError")) = some true),
  decide (PySem.W.subIn K (.ref (He.ga K "NoGroup")) (.ref (He.ga K "TooMany")) = some false)]
def exL_9 (K : PySem.W.Frag) : List Bool := [decide (PySem.W.subIn K (.ref (He.ga K "NoGroup")) (.ref (He.ga K "Unlike")) = some false),
  decide (PySem.W.subIn K (.ref (He.ga K "NoGroup")) (.type "ValueError") = some true),
  PySem.W.hasDictIn K (He.ga K "ShareError"),
  decide (PySem.W.findIn K (.ref (He.ga K "NoTable")) "__getattribute__" = some (some (.builtin "BaseException.__getattribute__"))),
  decide (PySem.W.findIn K (.ref (He.ga K "NoTable")) "__getattr__" = some none),
  PySem.W.hasDictIn K (He.ga K "NoTable"),
  decide (PySem.W.findIn K (.ref (He.ga K "NoTable")) "__class__" = some (some (.builtin "object.__class__"))),
  decide (PySem.W.mroIn K (He.ga K "NoTable") (.type "object") = some true),
  decide (PySem.W.subIn K (.ref (He.ga K "NoTable")) (.ref (He.ga K "NoGroup")) = some false),
  decide (PySem.W.subIn K (.ref (He.ga K "NoTable")) (.ref (He.ga K "NoNumber")) = some false),
  decide (PySem.W.subIn K (.ref (He.ga K "NoTable")) (.ref (He.ga K "NoOrder")) = some false),
  decide (PySem.W.subIn K (.ref (He.ga K "NoTable")) (.ref (He.ga K "NoRows")) = some false),
  decide (PySem.W.subIn K (.ref (He.ga K "NoTable")) (.ref (He.ga K "NoRule")) = some false),
  decide (PySem.W.subIn K (.ref (He.ga K "NoTable")) (.ref (He.ga K "NoShares")) = some false),
  decide (PySem.W.subIn K (.ref (He.ga K "NoTable")) (.ref (He.ga K "NoTable")) = some true),
  decide (PySem.W.subIn K (.ref (He.ga K "NoTable")) (.ref (He.ga K "NoText")) = some false),
  decide (PySem.W.subIn K (.ref (He.ga K "NoTable")) (.ref (He.ga K "NoVotes")) = some false),
  decide (PySem.W.subIn K (.ref (He.ga K "NoTable")) (.ref (He.ga K "ShareError")) = some true),
  decide (PySem.W.subIn K (.ref (He.ga K "NoTable")) (.ref (He.ga K "TooMany")) = some false),
  decide (PySem.W.subIn K (.ref (He.ga K "NoTable")) (.ref (He.ga K "Unlike")) = some false),
  decide (PySem.W.subIn K (.ref (He.ga K "NoTable")) (.type "ValueError") = some true),
  PySem.W.hasDictIn K (He.ga K "ShareError"),
  decide (PySem.W.findIn K (.ref (He.ga K "NoRule")) "__getattribute__" = some (some (.builtin "BaseException.__getattribute__"))),
  decide (PySem.W.findIn K (.ref (He.ga K "NoRule")) "__getattr__" = some none),
  PySem.W.hasDictIn K (He.ga K "NoRule"),
  decide (PySem.W.findIn K (.ref (He.ga K "NoRule")) "__class__" = some (some (.builtin "object.__class__"))),
  decide (PySem.W.mroIn K (He.ga K "NoRule") (.type "object") = some true),
  decide (PySem.W.subIn K (.ref (He.ga K "NoRule")) (.ref (He.ga K "NoGroup")) = some false),
  decide (PySem.W.subIn K (.ref (He.ga K "NoRule")) (.ref (He.ga K "NoNumber")) = some false),
  decide (PySem.W.subIn K (.ref (He.ga K "NoRule")) (.ref (He.ga K "NoOrder")) = some false),
  decide (PySem.W.subIn K (.ref (He.ga K "NoRule")) (.ref (He.ga K "NoRows")) = some false),
  decide (PySem.W.subIn K (.ref (He.ga K "NoRule")) (.ref (He.ga K "NoRule")) = some true),
  decide (PySem.W.subIn K (.ref (He.ga K "NoRule")) (.ref (He.ga K "NoShares")) = some false),
  decide (PySem.W.subIn K (.ref (He.ga K "NoRule")) (.ref (He.ga K "NoTable")) = some false),
  decide (PySem.W.subIn K (.ref (He.ga K "NoRule")) (.ref (He.ga K "NoText")) = some false),
  decide (PySem.W.subIn K (.ref (He.ga K "NoRule")) (.ref (He.ga K "NoVotes")) = some false),
  decide (PySem.W.subIn K (.ref (He.ga K "NoRule")) (.ref (He.ga K "ShareError")) = some true),
  decide (PySem.W.subIn K (.ref (He.ga K "NoRule")) (.ref (He.ga K "TooMany")) = some false),
  decide (PySem.W.subIn K (.ref (He.ga K "NoRule")) (.ref (He.ga K "Unlike")) = some false),
  decide (PySem.W.subIn K (.ref (He.ga K "NoRule")) (.type "ValueError") = some true)]
def exL_10 (K : PySem.W.Frag) : List Bool := [PySem.W.hasDictIn K (He.ga K "ShareError"),
  decide (PySem.W.nsIn K mainGlobals "ValueError" = some none),
  decide (PySem.W.nsIn K mainGlobals "abs" = some none),
  decide (PySem.W.nsIn K mainGlobals "bool" = some none),
  decide (PySem.W.nsIn K mainGlobals "int" = some none),
  decide (PySem.W.nsIn K mainGlobals "isinstance" = some none),
  decide (PySem.W.nsIn K mainGlobals "len" = some none),
  decide (PySem.W.nsIn K mainGlobals "list" = some none),
  decide (PySem.W.nsIn K mainGlobals "max" = some none),
  decide (PySem.W.nsIn K mainGlobals "min" = some none),
  decide (PySem.W.nsIn K mainGlobals "range" = some none),
  decide (PySem.W.nsIn K mainGlobals "sorted" = some none),
  decide (PySem.W.nsIn K mainGlobals "sum" = some none),
  decide (PySem.W.nsIn K mainGlobals "tuple" = some none),
  (He.Fa.int "MOST" 6).ok K]
def exG_0 (K : PySem.W.Frag) : Bool := ((exL_0 K).all id && ((exL_1 K).all id))
def exG_1 (K : PySem.W.Frag) : Bool := ((exL_2 K).all id && ((exL_3 K).all id))
def exG_2 (K : PySem.W.Frag) : Bool := ((exL_4 K).all id && ((exL_5 K).all id))
def exG_3 (K : PySem.W.Frag) : Bool := ((exL_6 K).all id && ((exL_7 K).all id))
def exG_4 (K : PySem.W.Frag) : Bool := ((exL_8 K).all id && ((exL_9 K).all id))
def exG_5 (K : PySem.W.Frag) : Bool := ((exL_10 K).all id)
def exC (K : PySem.W.Frag) : Bool := fnL.all fun d => (He.Fa.code d.at_ d.qual).ok K
def exF (K : PySem.W.Frag) : List He.FnV := fnL.map fun d => He.fnObs K d.at_
def vaF : List He.FnV := fnL.map He.FnD.val
structure SaysW (K : PySem.W.Frag) : Prop where
  g0 : exG_0 K = true
  g1 : exG_1 K = true
  g2 : exG_2 K = true
  g3 : exG_3 K = true
  g4 : exG_4 K = true
  g5 : exG_5 K = true
  c : exC K = true
  f : exF K = vaF
theorem exA_0 {K : PySem.W.Frag} (c : SaysW K) (i : Nat) {b : Bool} (h : (exL_0 K)[i]? = some b) : b = true := by
  have c := c.g0
  unfold exG_0 at c
  exact List.all_eq_true.mp (Bool.and_eq_true_iff.mp c).1 b (List.mem_of_getElem? h)
theorem exA_1 {K : PySem.W.Frag} (c : SaysW K) (i : Nat) {b : Bool} (h : (exL_1 K)[i]? = some b) : b = true := by
  have c := c.g0
  unfold exG_0 at c
  have c := (Bool.and_eq_true_iff.mp c).2
  exact List.all_eq_true.mp c b (List.mem_of_getElem? h)
theorem exA_2 {K : PySem.W.Frag} (c : SaysW K) (i : Nat) {b : Bool} (h : (exL_2 K)[i]? = some b) : b = true := by
  have c := c.g1
  unfold exG_1 at c
  exact List.all_eq_true.mp (Bool.and_eq_true_iff.mp c).1 b (List.mem_of_getElem? h)
theorem exA_3 {K : PySem.W.Frag} (c : SaysW K) (i : Nat) {b : Bool} (h : (exL_3 K)[i]? = some b) : b = true := by
  have c := c.g1
  unfold exG_1 at c
  have c := (Bool.and_eq_true_iff.mp c).2
  exact List.all_eq_true.mp c b (List.mem_of_getElem? h)
theorem exA_4 {K : PySem.W.Frag} (c : SaysW K) (i : Nat) {b : Bool} (h : (exL_4 K)[i]? = some b) : b = true := by
  have c := c.g2
  unfold exG_2 at c
  exact List.all_eq_true.mp (Bool.and_eq_true_iff.mp c).1 b (List.mem_of_getElem? h)
theorem exA_5 {K : PySem.W.Frag} (c : SaysW K) (i : Nat) {b : Bool} (h : (exL_5 K)[i]? = some b) : b = true := by
  have c := c.g2
  unfold exG_2 at c
  have c := (Bool.and_eq_true_iff.mp c).2
  exact List.all_eq_true.mp c b (List.mem_of_getElem? h)
theorem exA_6 {K : PySem.W.Frag} (c : SaysW K) (i : Nat) {b : Bool} (h : (exL_6 K)[i]? = some b) : b = true := by
  have c := c.g3
  unfold exG_3 at c
  exact List.all_eq_true.mp (Bool.and_eq_true_iff.mp c).1 b (List.mem_of_getElem? h)
theorem exA_7 {K : PySem.W.Frag} (c : SaysW K) (i : Nat) {b : Bool} (h : (exL_7 K)[i]? = some b) : b = true := by
  have c := c.g3
  unfold exG_3 at c
  have c := (Bool.and_eq_true_iff.mp c).2
  exact List.all_eq_true.mp c b (List.mem_of_getElem? h)
theorem exA_8 {K : PySem.W.Frag} (c : SaysW K) (i : Nat) {b : Bool} (h : (exL_8 K)[i]? = some b) : b = true := by
  have c := c.g4
  unfold exG_4 at c
  exact List.all_eq_true.mp (Bool.and_eq_true_iff.mp c).1 b (List.mem_of_getElem? h)
theorem exA_9 {K : PySem.W.Frag} (c : SaysW K) (i : Nat) {b : Bool} (h : (exL_9 K)[i]? = some b) : b = true := by
  have c := c.g4
  unfold exG_4 at c
  have c := (Bool.and_eq_true_iff.mp c).2
  exact List.all_eq_true.mp c b (List.mem_of_getElem? h)
theorem exA_10 {K : PySem.W.Frag} (c : SaysW K) (i : Nat) {b : Bool} (h : (exL_10 K)[i]? = some b) : b = true := by
  have c := c.g5
  unfold exG_5 at c
  exact List.all_eq_true.mp c b (List.mem_of_getElem? h)
def keepO : Data → Bool
  | .func _ => true
  | .dict _ _ => true
  | .cls _ => true
  | .fields _ => true
  | _ => false
/-- the written part: what stands below n, its spine written out -/
def mkK (g : Addr → Option Obj) : Nat → PySem.W.Frag → PySem.W.Frag
  | 0, k => k
  | n + 1, k => match g n with
    | some o => (match keepO o.data with
      | true => mkK g n ((n, o) :: k)
      | false => mkK g n k)
    | none => mkK g n k
theorem mkK_ok {g : Addr → Option Obj} : ∀ (n : Nat) (k : PySem.W.Frag), (∀ a o, k.lookup a = some o → g a = some o) → ∀ a o, (mkK g n k).lookup a = some o → g a = some o
  | 0, k, h, a, o, e => h a o e
  | n + 1, k, h, a, o, e => by
    unfold mkK at e
    split at e
    · next x hx =>
      split at e
      · refine mkK_ok n _ (fun b u hb => ?_) a o e
        have hb : (match b == n with | true => some x | false => k.lookup b) = some u := hb
        cases q : b == n with
        | true =>
          rw [q] at hb
          rw [beq_iff_eq.mp q, hx]
          exact hb
        | false =>
          rw [q] at hb
          exact h b u hb
      · exact mkK_ok n k h a o e
    · exact mkK_ok n k h a o e
theorem mkK_in {h : Heap} {n : Nat} : (mkK h.get? n []).In h := fun a o e => mkK_ok n [] (fun _ _ z => nomatch z) a o e
def hkB (α : Type) (v : α) : PySem.W.Hook where
  α := α
  obs := fun _ => v
  val := fun _ => v
  says := fun _ _ => True
  of := fun _ _ _ => trivial
  keeps := fun _ _ _ z _ => z
section
variable {r : PySem.W.OpenRow} {q : Program} {M : Nat} {lo : List Str} {w : World}
theorem run_pr {α β : Type} {v : α} {u : β} {o1 : PySem.W.SharedT → α} {o2 : PySem.W.SharedT → β} {H : PySem.W.Hook} {o : PySem.W.SharedT → H.α} {pr : α → β → H.α} (a : HandSHeadRun.RunEq r q (hkB α v) o1 M lo w) (b : HandSHeadRun.RunEq r q (hkB β u) o2 M lo w) (ho : ∀ s, o s = pr (o1 s) (o2 s)) (hv : ∀ w, H.val w = pr v u) : HandSHeadRun.RunEq r q H o M lo w := by
  intro os
  obtain ⟨s, hs, ea⟩ := Option.map_eq_some_iff.mp (a os)
  have b := b os
  rw [hs] at b ⊢
  have eb := Option.some.inj b
  have a3 : o1 s = v := congrArg (fun z => z.2.2) ea
  have b3 : o2 s = u := congrArg (fun z => z.2.2) eb
  exact congrArg some (Prod.ext (congrArg (fun z => z.1) ea) (Prod.ext (congrArg (fun z => z.2.1) ea) (by show o s = H.val w; rw [ho, hv, a3, b3])))
theorem run_and {o1 o2 : PySem.W.SharedT → Bool} (a : HandSHeadRun.RunEq r q (hkB Bool true) o1 M lo w) (b : HandSHeadRun.RunEq r q (hkB Bool true) o2 M lo w) : HandSHeadRun.RunEq r q (hkB Bool true) (fun s => o1 s && o2 s) M lo w :=
  run_pr (pr := fun x y : Bool => x && y) a b (fun _ => rfl) (fun _ => rfl)
end
def obA (n : Nat) (g : Addr → Option Obj) : Bool := (exG_0 (mkK g n []) && (exG_1 (mkK g n []) && (exG_2 (mkK g n []) && (exG_3 (mkK g n []) && (exG_4 (mkK g n []) && (exG_5 (mkK g n []) && exC (mkK g n [])))))))
def hkW : PySem.W.Hook where
  α := Bool × List He.FnV
  obs := fun s => (obA s.heap.objs.size s.heap.get?, exF (mkK s.heap.get? s.heap.objs.size []))
  val := fun _ => (true, vaF)
  says := fun _ h => ∃ K : PySem.W.Frag, K.In h ∧ SaysW K
  of := fun _ s e => by
    have e1 : obA s.heap.objs.size s.heap.get? = true := congrArg Prod.fst e
    have e2 : exF (mkK s.heap.get? s.heap.objs.size []) = vaF := congrArg Prod.snd e
    unfold obA at e1
    obtain ⟨g0, e1⟩ := Bool.and_eq_true_iff.mp e1
    obtain ⟨g1, e1⟩ := Bool.and_eq_true_iff.mp e1
    obtain ⟨g2, e1⟩ := Bool.and_eq_true_iff.mp e1
    obtain ⟨g3, e1⟩ := Bool.and_eq_true_iff.mp e1
    obtain ⟨g4, e1⟩ := Bool.and_eq_true_iff.mp e1
    obtain ⟨g5, e1⟩ := Bool.and_eq_true_iff.mp e1
    exact ⟨_, mkK_in, g0, g1, g2, g3, g4, g5, e1, e2⟩
  keeps := fun _ _ _ z q => z.elim fun K c => ⟨K, PySem.W.Frag.In.keeps c.1 q, c.2⟩
def obT (s : PySem.W.SharedT) : Bool × List He.FnV := (obA s.n (HandSHeadRun.getT s), exF (mkK (HandSHeadRun.getT s) s.n []))
theorem obT_eq (s : PySem.W.SharedT) : obT s = hkW.obs s.abs := by
  have e : HandSHeadRun.getT s = s.abs.heap.get? := funext (HandSHeadRun.getT_eq s)
  have n : s.n = s.abs.heap.objs.size := (PySem.W.absHeap_size _ _ _).symm
  unfold obT
  rw [e, n] <;> rfl
theorem fn_at {K : PySem.W.Frag} (c : SaysW K) (i : Nat) {d : He.FnD} (h : fnL[i]? = some d) : ∃ oc od osl kV doc pm an cdv ct, K.lookup (He.fAd K d.at_) = some ⟨oc, od, .func (PySem.W.fnOf d.name d.qual d.params d.body d.scope .none kV doc pm an cdv ct), osl⟩ ∧ PySem.W.codeIn K cdv d.qual = true := by
  have c2 : fnL.map (fun d => He.fnObs K d.at_) = fnL.map He.FnD.val := c.f
  have e2 : (fnL.map fun d => He.fnObs K d.at_)[i]? = (fnL.map He.FnD.val)[i]? := by rw [c2]
  rw [List.getElem?_map, List.getElem?_map, h] at e2
  exact He.fn_ok (Option.some.inj e2) (List.all_eq_true.mp c.c d (List.mem_of_getElem? h))
theorem fun_ex {K : PySem.W.Frag} {x qual : Str} {st : Stmt} {f : Addr} (h : ∃ oc od osl kV doc pm an cdv ct, K.lookup f = some ⟨oc, od, .func (PySem.W.fnOf x qual (defArgs st) (defBody st) (defScope st) .none kV doc pm an cdv ct), osl⟩ ∧ PySem.W.codeIn K cdv qual = true) (k : PySem.W.keepIn K (.ref f) = true) : ∃ fd, Fun K x qual st f fd := by
  obtain ⟨oc, od, osl, kV, doc, pm, an, cdv, ct, l, c⟩ := h
  exact ⟨_, fun_mk l c k⟩
def loose_0 : List Str := ["_wall", "ShareError", "NoNumber", "NoGroup", "NoRule", "NoText", "NoTable", "Unlike", "TooMany", "NoOrder", "NoRows", "NoShares", "NoVotes", "is_whole", "MOST", "look_group"]
def loose_1 : List Str := ["whole_of", "hands_of", "look", "look_numbers", "one_pair", "pairs_of", "Rule", "Own", "Pairs", "Votes", "Plain", "split_off", "best_sums", "partner", "Match", "ropes_from"]
def loose_2 : List Str := ["cheapest", "Net", "_law_whole", "_law_rule", "_law_kinds", "_law_refused", "_law_copy", "_law_numbers", "_law_pairs", "_law_good", "_law_odd", "_law_far", "_law_many_off", "_law_list_off", "_law_table_off", "_law_pair_off"]
def loose_3 : List Str := ["_law_pairs_off", "_law_votes_off", "_law_off"]
def looseW : List Str := loose_0 ++ loose_1 ++ loose_2 ++ loose_3
theorem run_0 (w : World) : HandSHeadRun.RunEq (PySem.W.OpenLaw.row PySem.Challenge.rw_shareparley_k10_rules_refused) (PySem.W.view (PySem.W.OpenLaw.row PySem.Challenge.rw_shareparley_k10_rules_refused).prog [58]) (hkB Bool true) (fun s => exG_0 (mkK (HandSHeadRun.getT s) s.n [])) 9000 looseW w := by
  intro os
  kernel_rfl
theorem run_1 (w : World) : HandSHeadRun.RunEq (PySem.W.OpenLaw.row PySem.Challenge.rw_shareparley_k10_rules_refused) (PySem.W.view (PySem.W.OpenLaw.row PySem.Challenge.rw_shareparley_k10_rules_refused).prog [58]) (hkB Bool true) (fun s => exG_1 (mkK (HandSHeadRun.getT s) s.n [])) 9000 looseW w := by
  intro os
  kernel_rfl
theorem run_2 (w : World) : HandSHeadRun.RunEq (PySem.W.OpenLaw.row PySem.Challenge.rw_shareparley_k10_rules_refused) (PySem.W.view (PySem.W.OpenLaw.row PySem.Challenge.rw_shareparley_k10_rules_refused).prog [58]) (hkB Bool true) (fun s => exG_2 (mkK (HandSHeadRun.getT s) s.n [])) 9000 looseW w := by
  intro os
  kernel_rfl
theorem run_3 (w : World) : HandSHeadRun.RunEq (PySem.W.OpenLaw.row PySem.Challenge.rw_shareparley_k10_rules_refused) (PySem.W.view (PySem.W.OpenLaw.row PySem.Challenge.rw_shareparley_k10_rules_refused).prog [58]) (hkB Bool true) (fun s => exG_3 (mkK (HandSHeadRun.getT s) s.n [])) 9000 looseW w := by
  intro os
  kernel_rfl
theorem run_4 (w : World) : HandSHeadRun.RunEq (PySem.W.OpenLaw.row PySem.Challenge.rw_shareparley_k10_rules_refused) (PySem.W.view (PySem.W.OpenLaw.row PySem.Challenge.rw_shareparley_k10_rules_refused).prog [58]) (hkB Bool true) (fun s => exG_4 (mkK (HandSHeadRun.getT s) s.n [])) 9000 looseW w := by
  intro os
  kernel_rfl
theorem run_5 (w : World) : HandSHeadRun.RunEq (PySem.W.OpenLaw.row PySem.Challenge.rw_shareparley_k10_rules_refused) (PySem.W.view (PySem.W.OpenLaw.row PySem.Challenge.rw_shareparley_k10_rules_refused).prog [58]) (hkB Bool true) (fun s => exG_5 (mkK (HandSHeadRun.getT s) s.n [])) 9000 looseW w := by
  intro os
  kernel_rfl
theorem run_6 (w : World) : HandSHeadRun.RunEq (PySem.W.OpenLaw.row PySem.Challenge.rw_shareparley_k10_rules_refused) (PySem.W.view (PySem.W.OpenLaw.row PySem.Challenge.rw_shareparley_k10_rules_refused).prog [58]) (hkB Bool true) (fun s => exC (mkK (HandSHeadRun.getT s) s.n [])) 9000 looseW w := by
  intro os
  kernel_rfl
theorem run_F (w : World) : HandSHeadRun.RunEq (PySem.W.OpenLaw.row PySem.Challenge.rw_shareparley_k10_rules_refused) (PySem.W.view (PySem.W.OpenLaw.row PySem.Challenge.rw_shareparley_k10_rules_refused).prog [58]) (hkB (List He.FnV) vaF) (fun s => exF (mkK (HandSHeadRun.getT s) s.n [])) 9000 looseW w := by
  intro os
  kernel_rfl
theorem run_w (w : World) : HandSHeadRun.RunEq (PySem.W.OpenLaw.row PySem.Challenge.rw_shareparley_k10_rules_refused) (PySem.W.view (PySem.W.OpenLaw.row PySem.Challenge.rw_shareparley_k10_rules_refused).prog [58]) hkW obT 9000 looseW w := run_pr (run_and (run_0 w) (run_and (run_1 w) (run_and (run_2 w) (run_and (run_3 w) (run_and (run_4 w) (run_and (run_5 w) (run_6 w))))))) (run_F w) (fun _ => rfl) (fun _ => rfl)
open PySem.W PySem.Calls in
set_option maxHeartbeats 0 in
theorem holds_if (hc : PySem.W.WalkO (PySem.W.view (PySem.W.OpenLaw.row PySem.Challenge.rw_shareparley_k10_rules_refused).prog [58]) looseW (XL (PySem.W.view (PySem.W.OpenLaw.row PySem.Challenge.rw_shareparley_k10_rules_refused).prog [58]) []) hkW.says (PySem.W.OpenLaw.row PySem.Challenge.rw_shareparley_k10_rules_refused).toRowW (HandSHeadRun.topDef (PySem.W.OpenLaw.row PySem.Challenge.rw_shareparley_k10_rules_refused).prog 58) [] (fun f vs => PySem.call f vs)) : PySem.Challenge.rw_shareparley_k10_rules_refused.Holds := said_w fun said => by
  refine HandSHeadRun.head_any (r := PySem.W.OpenLaw.row PySem.Challenge.rw_shareparley_k10_rules_refused) (q := (PySem.W.view (PySem.W.OpenLaw.row PySem.Challenge.rw_shareparley_k10_rules_refused).prog [58])) (H := hkW) (ob := obT) (M := 9000) (loose := looseW) (d := (HandSHeadRun.topDef (PySem.W.OpenLaw.row PySem.Challenge.rw_shareparley_k10_rules_refused).prog 58)) (kwd := []) obT_eq (by kernel_rfl) (fun s => by kernel_rfl) run_w (by kernel_rfl) (by kernel_rfl) (by kernel_rfl) (by rfl) (by first | assumption | decide +kernel) (by decide +kernel) ⟨rfl, rfl, rfl, rfl, rfl, by decide +kernel⟩ ?hw hc
  case hw => w_witness2
end
end Lw
/-! Cm: what every text of ours leans on: the carried heap (Own), the readings walked step by step (x_..), own rules. -/
namespace Sp
open PySem L2 PyProof.Rows

/-! ### the carried heap: B is what stands and stays, cs the cells of our own that may still change -/
abbrev Cells := List (Addr × HO)
structure Own (B : Hp) (cs : Cells) (H : Hp) : Prop where
  ex : Same B H
  cell : ∀ p ∈ cs, H p.1 = some p.2 ∧ B p.1 = none
  nd : (cs.map (·.1)).Nodup
theorem same_upd {H : Hp} {p : Addr} {o : HO} (h : H p = none) : Same H (upd H p o) := fun b x e => by
  rw [upd_ne (ne_of_none e h)]
  exact e
theorem Own.start {H : Hp} : Own H [] H := ⟨Same.refl H, fun _ h => (nomatch h), List.nodup_nil⟩
section
variable {B H H' : Hp} {cs : Cells} {p : Addr} {o o' : HO} {K : PySem.W.Frag} {xs : List V}
theorem Own.ext (w : Own B cs H) (e : Same H H') : Own B cs H' := ⟨w.ex.trans e, fun q h => ⟨e _ _ (w.cell q h).1, (w.cell q h).2⟩, w.nd⟩
theorem Own.fresh (w : Own B cs H) (hp : H p = none) : B p = none := w.ex.free hp
theorem Own.off (w : Own B cs H) (hp : H p = none) : p ∉ cs.map (·.1) := fun m => by
  obtain ⟨q, hq, e⟩ := List.mem_map.mp m
  have := (w.cell q hq).1
  rw [e, hp] at this
  cases this
theorem Own.newE (w : Own B cs H) (hp : H p = none) (e : Same H H') (h : H' p = some o) : Own B ((p, o) :: cs) H' :=
  ⟨w.ex.trans e, fun q hq => by
    rcases List.mem_cons.mp hq with r | r
    · rw [r]; exact ⟨h, w.fresh hp⟩
    · exact ⟨e _ _ (w.cell q r).1, (w.cell q r).2⟩, List.nodup_cons.mpr ⟨w.off hp, w.nd⟩⟩
theorem Own.new (w : Own B cs H) (hp : H p = none) : Own B ((p, o) :: cs) (upd H p o) := w.newE hp (same_upd hp) upd_same
theorem Own.get (w : Own B cs H) (i : Nat) (h : cs[i]? = some (p, o)) : H p = some o := (w.cell _ (List.mem_of_getElem? h)).1
theorem Own.none (w : Own B cs H) (i : Nat) (h : cs[i]? = some (p, o)) : B p = none := (w.cell _ (List.mem_of_getElem? h)).2
theorem Own.put (w : Own B cs H) (i : Nat) (h : cs[i]? = some (p, o)) : Own B (cs.set i (p, o')) (upd H p o') := by
  have hi : i < cs.length := (List.getElem?_eq_some_iff.mp h).1
  have hm : (cs.set i (p, o')).map (·.1) = cs.map (·.1) := by
    rw [List.map_set]
    apply List.ext_getElem?
    intro j
    by_cases e : i = j
    · subst e
      rw [List.getElem?_set_self (by rw [List.length_map]; exact hi), List.getElem?_map, h] <;> rfl
    · rw [List.getElem?_set_ne e]
  refine ⟨fun b x e => ?_, fun q hq => ?_, by rw [hm]; exact w.nd⟩
  · rw [upd_ne (ne_of_none e (w.none i h))]
    exact w.ex b x e
  · obtain ⟨j, hj⟩ := List.mem_iff_getElem?.mp hq
    by_cases e : i = j
    · subst e
      rw [List.getElem?_set_self hi] at hj
      cases hj
      exact ⟨upd_same, w.none i h⟩
    · rw [List.getElem?_set_ne e] at hj
      have hq' := w.cell q (List.mem_of_getElem? hj)
      have hne : q.1 ≠ p := fun z => by
        have a1 : (cs.map (·.1))[i]? = some p := by rw [List.getElem?_map, h] <;> rfl
        have a2 : (cs.map (·.1))[j]? = some p := by rw [List.getElem?_map, hj, ← z] <;> rfl
        obtain ⟨l1, e1⟩ := List.getElem?_eq_some_iff.mp a1
        obtain ⟨l2, e2⟩ := List.getElem?_eq_some_iff.mp a2
        exact e ((List.getElem_inj w.nd).mp (e1.trans e2.symm))
      exact ⟨by rw [upd_ne hne]; exact hq'.1, hq'.2⟩
theorem Own.sub {ds : Cells} (w : Own B cs H) (h : ds.Sublist cs) : Own B ds H := ⟨w.ex, fun q hq => w.cell q (h.mem hq), (h.map (·.1)).nodup w.nd⟩
theorem Own.pop (w : Own B ((p, o) :: cs) H) : Own B cs H := w.sub (List.sublist_cons_self _ _)
theorem Own.freeze (w : Own B ((p, o) :: cs) H) : Own (upd B p o) cs H :=
  ⟨fun b x e => by
    by_cases z : b = p
    · subst z; rw [upd_same] at e; rw [← e]; exact w.get 0 rfl
    · rw [upd_ne z] at e; exact w.ex b x e,
   fun q hq => ⟨(w.cell q (List.mem_cons_of_mem _ hq)).1, by
    rw [upd_ne (fun z => ?_)]
    · exact (w.cell q (List.mem_cons_of_mem _ hq)).2
    · have := (List.nodup_cons.mp w.nd).1
      exact this (List.mem_map.mpr ⟨q, hq, z⟩)⟩, (List.nodup_cons.mp w.nd).2⟩
theorem Own.sq (w : Own B cs H) (i : Nat) (h : cs[i]? = some (p, .lst xs)) : SqL K H p xs := SqL.of (w.get i h)
theorem Own.sqT (w : Own B cs H) (i : Nat) (h : cs[i]? = some (p, .tup xs)) : SqT K H p xs := SqT.of (w.get i h)
theorem same_sqT (e : Same H H') (h : SqT K H p xs) : SqT K H' p xs := by
  rcases h with (h | ⟨u, h⟩) | h
  · exact .inl (.inl (e _ _ h))
  · exact .inl (.inr ⟨u, e _ _ h⟩)
  · exact .inr h
theorem Own.seq (w : Own B cs H) (h : SqL K B p xs) : SqL K H p xs := w.ex.seq h
theorem Own.seqT (w : Own B cs H) (h : SqT K B p xs) : SqT K H p xs := same_sqT w.ex h
end

/-! ### own rules -/
section
variable {X : Cx}
/-- a list that is read: ours, or frozen -/
abbrev RdL (H : Hp) (a : Addr) (xs : List V) : Prop := Rd H a (.lst xs)
theorem rd_list {pins : List (Addr × Obj)} {σ : L2.St} {H : Hp} {s : Shared} {p : Addr} {xs : List V} (I : Inv X pins σ H s) (h : RdL H p xs) :
    xs.length ≤ sizeLine ∧ ∃ (its : List Value) (n : Nat), Vals xs its ∧ xs.length = its.length ∧ s.heap.get? p = some { cls := .type "list", data := .seq its.toArray n } := by
  obtain ⟨z, its, n, r, e⟩ := h.ok I.hok
  exact ⟨z, its, n, r, r.length, e⟩
/-- + of lists (ours or frozen) -/
def rCatS : R2 := fun x y H Q => ∃ l b xs zs, x = .ref l ∧ y = .ref b ∧ RdL H l xs ∧ RdL H b zs ∧ xs.length + zs.length ≤ sizeLine ∧ ∀ p, H p = none → Q (.ref p) (upd H p (.lst (xs ++ zs)))
theorem op_catS : OpR X (binaryOp .Add) rCatS := by
  intro pins s σ H x y v u Q I rx ry h
  obtain ⟨l, b, xs, zs, rfl, rfl, hH, hB, hz, q⟩ := h
  cases rx
  cases ry
  obtain ⟨z, its, n, r, hl, e⟩ := rd_list I hH
  obtain ⟨z2, its2, n2, r2, hl2, e2⟩ := rd_list I hB
  refine PySem.P.add_list e e2 ?_ (by rw [List.size_toArray, List.size_toArray]; omega)
  have ea : its.toArray ++ its2.toArray = (its ++ its2).toArray := by simp
  rw [ea]
  exact ⟨.ref _, _, I.lnew (t' := s.toks) (r.append r2) (by rw [List.length_append]; omega), rfl, q _ I.fresh⟩
/-- + of ints, of lists, of texts: which one, the reading says -/
def rAddX : R2 := fun x y H Q => (rI0 (fun i j => .int (i + j))) x y H Q ∨ rCatS x y H Q ∨ (∃ i j, x = .str i ∧ y = .str j ∧ i.length + j.length ≤ sizeLine ∧ Q (.str (i ++ j)) H)
theorem op_addX : OpR X (binaryOp .Add) rAddX := op_add.or (op_catS.or op_add_str)
/-- * of ints (any that the machine multiplies); of a list and an int -/
def rMulI : R2 := rI IntMulOk fun i j => .int (i * j)
theorem op_mulI : OpR X (binaryOp .Mult) rMulI := opI fun _ _ _ _ _ _ _ hc q => mul_int q hc
def rMulX : R2 := fun x y H Q => rMulI x y H Q ∨ rRep x y H Q
theorem op_mulX : OpR X (binaryOp .Mult) rMulX := op_mulI.or op_rep
/-- // by a divisor that is not nought, below 2 ^ 9000 -/
def CDivX (_ j : Int) : Prop := j ≠ 0 ∧ j.natAbs.log2 < 9000
def rDivX : R2 := rI CDivX fun i j => .int (i.fdiv j)
theorem op_fdivX : OpR X (binaryOp .FloorDiv) rDivX := opI fun _ _ _ _ _ _ _ hc q => floordiv_int hc.1 q (.inl (PyProof.noPylong_of_log2 hc.2))
def rModX : R2 := rI (fun _ j => j ≠ 0) fun i j => .int (i.fmod j)
theorem op_modX : OpR X (binaryOp .Mod) rModX := op_modN
/-- ** and << of a small base; >> -/
def rPow : R2 := rI CPow fun i j => .int (i ^ j.toNat)
theorem op_powX : OpR X (binaryOp .Pow) rPow := op_pow
def rShl : R2 := rI CPow fun i j => .int (i * 2 ^ j.toNat)
theorem op_shlX : OpR X (binaryOp .LShift) rShl := op_shl
def rShr : R2 := rI (fun _ j => 0 ≤ j) fun i j => .int (i / 2 ^ j.toNat)
theorem op_shrX : OpR X (binaryOp .RShift) rShr := op_shr
def rSubI : R2 := rI0 fun i j => .int (i - j)
theorem op_subX : OpR X (binaryOp .Sub) rSubI := op_sub
def rAndI : R2 := rI0 fun i j => .int (Builtin.bitAnd i j)
theorem op_andX : OpR X (binaryOp .BitAnd) rAndI := op_and
def rOrI : R2 := rI0 fun i j => .int (Builtin.bitOr i j)
theorem op_orX : OpR X (binaryOp .BitOr) rOrI := op_or
def rXorI : R2 := rI0 fun i j => .int (Builtin.bitXor i j)
theorem op_xorX : OpR X (binaryOp .BitXor) rXorI := op_xor
def rLtI : R2 := rI0 fun i j => .bl (decide (i < j))
theorem op_ltX : OpR X (compareOp .Lt) rLtI := op_lt
def rLeI : R2 := rI0 fun i j => .bl (decide (i ≤ j))
theorem op_leX : OpR X (compareOp .LtE) rLeI := op_le
def rGtI : R2 := rI0 fun i j => .bl (decide (j < i))
theorem op_gtX : OpR X (compareOp .Gt) rGtI := op_gt
def rGeI : R2 := rI0 fun i j => .bl (decide (j ≤ i))
theorem op_geX : OpR X (compareOp .GtE) rGeI := op_ge
/-- == and != of plain values, of data -/
def rEqX (K : PySem.W.Frag) : R2 := fun x y H Q => rEq x y H Q ∨ rEqD K x y H Q
def rNeX (K : PySem.W.Frag) : R2 := fun x y H Q => rNe x y H Q ∨ rNeD K x y H Q
theorem op_eqX (hu : X.A.units + 64 < cLine) : OpR X (compareOp .Eq) (rEqX X.K) := op_eq.or (op_eqD hu)
theorem op_neX (hu : X.A.units + 64 < cLine) : OpR X (compareOp .NotEq) (rNeX X.K) := op_ne.or (op_neD hu)
/-- is, is not, of anything and a truth -/
def rIsX : R2 := fun x y H Q => ∃ b : Bool, y = .bl b ∧ Q (.bl (decide (x = .bl b))) H
/-- is None -/
def rIsNX : R2 := fun x y H Q => y = .non ∧ Q (.bl (decide (x = .non))) H
def rNotNX : R2 := fun x y H Q => y = .non ∧ Q (.bl (!decide (x = .non))) H
theorem op_isNX : OpR X (compareOp .Is) rIsNX := op_isN
theorem op_notNX : OpR X (compareOp .IsNot) rNotNX := op_notN
theorem op_isX : OpR X (compareOp .Is) rIsX := by
  intro pins s σ H x y v u Q I rx ry h
  obtain ⟨b, rfl, q⟩ := h
  cases (show u = Value.bool b from ry)
  cases x with
  | bl a =>
    cases (show v = Value.bool a from rx)
    by_cases e : a = b
    · subst e
      exact wpAny_is_self rfl ⟨.bl true, H, I, rfl, by simpa using q⟩
    · exact wpAny_is_other rfl (fun z => e (Value.bool.inj z)) ⟨.bl false, H, I, rfl, by simpa [e] using q⟩
  | non => cases (show v = Value.none from rx); exact wpAny_is_other rfl (fun z => nomatch z) ⟨.bl false, H, I, rfl, by simpa using q⟩
  | int i => obtain ⟨t, rfl⟩ := rx; exact wpAny_is_other rfl (fun z => nomatch z) ⟨.bl false, H, I, rfl, by simpa using q⟩
  | str i => obtain ⟨t, rfl⟩ := rx; exact wpAny_is_other rfl (fun z => nomatch z) ⟨.bl false, H, I, rfl, by simpa using q⟩
  | byt i => obtain ⟨t, rfl⟩ := rx; exact wpAny_is_other rfl (fun z => nomatch z) ⟨.bl false, H, I, rfl, by simpa using q⟩
  | flt i => obtain ⟨t, rfl⟩ := rx; exact wpAny_is_other rfl (fun z => nomatch z) ⟨.bl false, H, I, rfl, by simpa using q⟩
  | ref a => cases (show v = Value.ref a from rx); exact wpAny_is_other rfl (fun z => nomatch z) ⟨.bl false, H, I, rfl, by simpa using q⟩
  | ty a => cases (show v = Value.type a from rx); exact wpAny_is_other rfl (fun z => nomatch z) ⟨.bl false, H, I, rfl, by simpa using q⟩
/-- the place of a list's item is read, as a store by an operator reads it -/
theorem get_list : PGet X (rIxL X.K) := by
  intro pins s σ H x y v u Q I rx ry h
  obtain ⟨p, xs, i, z, rfl, rfl, hq, he, q⟩ := h
  cases rx
  obtain ⟨t, rfl⟩ := ry
  obtain ⟨its, r, pl, hz⟩ := I.list hq
  obtain ⟨j, h1, h2, h3, h4, h5⟩ := atI_get he
  obtain ⟨w, ew, rw'⟩ := r.get h2
  have hl := r.length
  have hn := line63
  have fin : EP X pins σ Q w s := ⟨z, H, I, rw', q⟩
  by_cases h0 : 0 ≤ i
  · have hj : i.toNat = j := by
      rw [seqIndex_of h0 h5] at h1
      exact Option.some.inj h1
    exact wpAny_getItem_list pl.isList h0 (by omega) (by rw [hj]; simpa using ew) fin
  · have hj : (i + (its.toArray.size : Int)).toNat = j := by
      rw [seqIndex_neg (by omega) h4] at h1
      rw [List.size_toArray, ← hl]
      exact Option.some.inj h1
    exact wpAny_getItem_list_neg pl.isList (by omega) (by rw [List.size_toArray] <;> omega) (by omega) (by rw [hj]; simpa using ew) fin
/-- len, list, sum, .. by names of ours -/
def rLen (K : PySem.W.Frag) : List V → Hp → VK → Prop := fun xs H Q => ∃ x n, xs = [x] ∧ LenV K x H n ∧ Q (.int n) H
theorem call_lenX : CallR X (.builtin "len") (rLen X.K) := call_len
def rList (K : PySem.W.Frag) : List V → Hp → VK → Prop := fun xs H Q => ∃ p ys, xs = [.ref p] ∧ (SqL K H p ys ∨ SqT K H p ys) ∧ ∀ l, H l = none → Q (.ref l) (upd H l (.lst ys))
theorem call_listX : CallR X (.type "list") (rList X.K) := call_list_of
def rAbs : List V → Hp → VK → Prop := fun xs H Q => ∃ i, xs = [.int i] ∧ Q (.int (if i < 0 then -i else i)) H
theorem call_absX : CallR X (.builtin "abs") rAbs := call_abs
def rMax2 : List V → Hp → VK → Prop := fun xs H Q => ∃ i j, xs = [.int i, .int j] ∧ Q (.int (if j > i then j else i)) H
theorem call_max2X (hc : X.calm = true) : CallR X (.builtin "max") rMax2 := call_max2 hc
def rMin2 : List V → Hp → VK → Prop := fun xs H Q => ∃ i j, xs = [.int i, .int j] ∧ Q (.int (if j < i then j else i)) H
theorem call_min2X (hc : X.calm = true) : CallR X (.builtin "min") rMin2 := call_min2 hc
def rInt1 : List V → Hp → VK → Prop := fun xs H Q => (∃ i, xs = [.int i] ∧ Q (.int i) H) ∨ ∃ k, xs = [.bl k] ∧ Q (.int (if k then 1 else 0)) H
theorem call_int1X : CallR X (.type "int") rInt1 := call_int1
end

/-! ### readings, step by step: each of these takes the head of a reading away -/
section
variable {K : PySem.W.Frag} {σ : L2.St} {H : Hp} {D : Ends} {Q : VK} {te ta tb tl th : TE} {t u : TS} {c c2 : TT} {g : TG} {i : Nat} {v x y : V} {r : R2} {QT : Bool → Hp → Prop} {QA : List V → Hp → Prop} {sp : Sp} {dvs vs : List V} {E : XK}
theorem x_seq (h : t { D with nx := u D } σ H) : tSeq t u D σ H := h
theorem x_next (h : D.nx σ H) : tNext D σ H := h
theorem x_asg (h : te σ H fun x H1 => D.nx (σ.set i (some x)) H1) : tAsg te (gName i) D σ H := h
theorem x_asgS {to ti : TE} {s : TSet} (h : te σ H fun x H1 => to σ H1 fun o H2 => ti σ H2 fun k H3 => s o k x H3 fun H4 => D.nx σ H4) : tAsg te (gSub to ti s) D σ H := h
theorem x_augS {to ti : TE} {tg : V → V → Hp → VK → Prop} {tip : TIp} {ts : TSet} (h : to σ H fun o H1 => ti σ H1 fun k H2 => tg o k H2 fun x H3 => te σ H3 fun y H4 => tip x y H4 fun z H5 => ts o k z H5 fun H6 => D.nx σ H6) : tAugS to ti te tg tip ts D σ H := h
theorem x_aug {tip : TIp} (e : σ[i]? = some (some x)) (h : te σ H fun y H1 => tip x y H1 fun z H2 => D.nx (σ.set i (some z)) H2) : tAug i te tip D σ H := ⟨x, e, h⟩
theorem x_gn {QS : L2.St → Hp → Prop} (h : QS (σ.set i (some v)) H) : gName i v σ H QS := h
theorem x_gt {n : Nat} {gs : TGs} {a : Addr} {xs : List V} {QS : L2.St → Hp → Prop} (h : SqT K H a xs) (hn : xs.length = n) (q : gs xs σ H QS) : gTup K n gs (.ref a) σ H QS := ⟨a, xs, rfl, h, hn, q⟩
theorem x_gc {gs : TGs} {r : List V} {QS : L2.St → Hp → Prop} (q : g v σ H fun σ' H' => gs r σ' H' QS) : gCons g gs (v :: r) σ H QS := ⟨v, r, rfl, q⟩
theorem x_g0 {QS : L2.St → Hp → Prop} (q : QS σ H) : gNil [] σ H QS := ⟨rfl, q⟩
theorem x_ret (h : te σ H D.rt) : tRet te D σ H := h
theorem x_retN (h : D.rt .non H) : tRetN D σ H := h
theorem x_drop (h : te σ H fun _ H1 => D.nx σ H1) : tDrop te D σ H := h
theorem x_if (h : c σ H fun b H1 => if b = true then t D σ H1 else u D σ H1) : tIfS c t u D σ H := h
theorem x_brk (h : D.bk σ H) : tBreak D σ H := h
theorem x_ct (h : D.ct σ H) : tCont D σ H := h
theorem x_var (e : σ[i]? = some (some v)) (q : Q v H) : tVar i σ H Q := ⟨v, e, q⟩
theorem x_c (q : Q v H) : tC v σ H Q := q
theorem x_op (h : ta σ H fun x H1 => tb σ H1 fun y H2 => r x y H2 Q) : tOp r ta tb σ H Q := h
theorem x_un {r : V → Hp → VK → Prop} (h : ta σ H fun x H1 => r x H1 Q) : tUn r ta σ H Q := h
theorem x_test (h : te σ H fun x H1 => ∃ k, x = .bl k ∧ QT k H1) : tTest te σ H QT := h
theorem x_B (h : te σ H fun x H1 => ∃ k, x = .bl k ∧ QT k H1) : tB te σ H QT := h
theorem x_ex {b : Bool} {P : Bool → Prop} (q : P b) : ∃ k, V.bl b = .bl k ∧ P k := ⟨b, rfl, q⟩
theorem x_and (h : c σ H fun b H1 => if b = true then c2 σ H1 QT else QT false H1) : tAnd c c2 σ H QT := h
theorem x_or (h : c σ H fun b H1 => if b = true then QT true H1 else c2 σ H1 QT) : tOr c c2 σ H QT := h
theorem x_not (h : c σ H fun b H1 => QT (!b) H1) : tNot c σ H QT := h
theorem x_andV (h : ta σ H fun x H1 => ∃ b, x = .bl b ∧ if b = true then tb σ H1 Q else Q (.bl false) H1) : tAndV ta tb σ H Q := h
theorem x_orV (h : ta σ H fun x H1 => ∃ b, x = .bl b ∧ if b = true then Q (.bl true) H1 else tb σ H1 Q) : tOrV ta tb σ H Q := h
theorem x_notV (h : ta σ H fun x H1 => ∃ b, x = .bl b ∧ Q (.bl (!b)) H1) : tNotV ta σ H Q := h
theorem x_ifE (h : c σ H fun b H1 => if b = true then ta σ H1 Q else tb σ H1 Q) : tIf c ta tb σ H Q := h
theorem x_nil (q : QA [] H) : tNil σ H QA := q
theorem x_cons {tr : TA} (h : te σ H fun v H1 => tr σ H1 fun vs H2 => QA (v :: vs) H2) : tCons te tr σ H QA := h
theorem x_call {tr : TA} (h : tr σ H fun vs H1 => sp (vs ++ dvs) H1 Q E) : tCall sp dvs E tr σ H Q := h
theorem x_cb {tr : TA} {rc : List V → Hp → VK → Prop} (h : tr σ H fun vs H1 => rc vs H1 Q) : tCB rc tr σ H Q := h
theorem x_tup {tr : TA} (h : tr σ H fun xs H1 => xs.length ≤ sizeLine ∧ ∀ p, H1 p = none → Q (.ref p) (upd H1 p (.tup xs))) : tTup tr σ H Q := h
theorem x_lst {tr : TA} (h : tr σ H fun xs H1 => xs.length ≤ sizeLine ∧ ∀ p, H1 p = none → Q (.ref p) (upd H1 p (.lst xs))) : tLst tr σ H Q := h
theorem x_for {wi : TI} (h : wi σ H fun J H1 => ∃ W : Nat → Nat → L2.St → Hp → Prop, (∃ m, W 0 m σ H1) ∧ ∀ i m σ H, W i m σ H →
  (J.stop i H ∧ D.nx σ H) ∨ (J.go i H ∧ ∃ N : L2.St → Hp → Prop, (∀ σ' H', N σ' H' → ∃ m', m' < m ∧ W (i + 1) m' σ' H') ∧ ∀ x H', J.yld i H x H' → g x σ H' fun σ2 H2 => t { D with nx := N, ct := N, bk := D.nx } σ2 H2)) : tFor wi g t D σ H := h
theorem x_iList {R : It → Hp → Prop} (h : tl σ H fun x H1 => ∃ a, x = .ref a ∧ (∃ xs, SqL K H1 a xs) ∧ R (Itl K a) H1) : iList K tl σ H R := h
theorem x_iTup {R : It → Hp → Prop} (h : tl σ H fun x H1 => ∃ a, x = .ref a ∧ (∃ xs, SqT K H1 a xs) ∧ R (Itt K a) H1) : iTup K tl σ H R := h
theorem x_iR1 {R : It → Hp → Prop} {tr : TA} (h : tr σ H fun vs H1 => ∃ j : Int, vs = [.int j] ∧ -(2 ^ 62) ≤ j ∧ j < 2 ^ 62 ∧ R (Itr 0 j.toNat) H1) : iRng1 tr σ H R := h
theorem x_iR2 {R : It → Hp → Prop} {tr : TA} (h : tr σ H fun vs H1 => ∃ i j : Int, vs = [.int i, .int j] ∧ (-(2 ^ 62) ≤ i ∧ i < 2 ^ 62 ∧ -(2 ^ 62) ≤ j ∧ j < 2 ^ 62) ∧ R (Itr i (j - i).toNat) H1) : iRng2 tr σ H R := h
theorem x_iZip {R : It → Hp → Prop} {tr : TA} (h : tr σ H fun vs H1 => ∃ a b xs ys, vs = [.ref a, .ref b] ∧ SqL K H1 a xs ∧ SqL K H1 b ys ∧ R (Itz K a b) H1) : iZip K tr σ H R := h
theorem x_iEnum {R : It → Hp → Prop} {tr : TA} (h : tr σ H fun vs H1 => ∃ a xs, vs = [.ref a] ∧ SqL K H1 a xs ∧ R (Ite K a) H1) : iEnum K tr σ H R := h
theorem x_lc {wi : TI} {tt : TT} {ws : List Nat} (h : wi σ H fun J H1 => ∀ D, H1 D = none → ∃ W : Nat → Nat → Hp → Prop, (∃ m, W 0 m (upd H1 D (.lst []))) ∧ ∀ i m H, W i m H →
  (J.stop i H ∧ Q (.ref D) H) ∨ (J.go i H ∧ ∃ Nx : Hp → Prop, (∀ H', Nx H' → ∃ m', m' < m ∧ W (i + 1) m' H') ∧ ∀ x H', J.yld i H x H' → g x (wipe σ ws) H' fun σ2 H2 => wipe σ2 ws = wipe σ ws ∧ tt σ2 H2 fun b H3 =>
    if b = true then te σ2 H3 fun y H4 => ∃ acc, H4 D = some (.lst acc) ∧ acc.length < sizeLine ∧ Nx (upd H4 D (.lst (acc ++ [y]))) else Nx H3)) : tLc wi g tt te ws σ H Q := h
theorem x_yes (h : QT true H) : tYes σ H QT := h
theorem x_sl {rs : V → Option Int → Option Int → Hp → VK → Prop} {tlo thi : TO} (h : te σ H fun x H1 => tlo σ H1 fun l H2 => thi σ H2 fun u H3 => rs x l u H3 Q) : tSl rs te tlo thi σ H Q := h
theorem x_noPart {QO : Option Int → Hp → Prop} (h : QO none H) : tNoPart σ H QO := h
theorem x_part {QO : Option Int → Hp → Prop} (h : te σ H fun x H1 => ∃ i, x = .int i ∧ QO (some i) H1) : tPart te σ H QO := h
theorem x_exI {j : Int} {P : Int → Prop} (q : P j) : ∃ k, V.int j = .int k ∧ P k := ⟨j, rfl, q⟩
theorem x_bm {T : String} {rm : V → List V → Hp → VK → Prop} {tr : TA} (h : te σ H fun x H1 => tyV K T x H1 ∧ tr σ H1 fun xs H2 => rm x xs H2 Q) : tBM K T rm te tr σ H Q := h
theorem x_bm0 {T : String} {rm : V → List V → Hp → VK → Prop} (h : te σ H fun x H1 => tyV K T x H1 ∧ rm x [] H1 Q) : tBM0 K T rm te σ H Q := h
/- operators by values -/
theorem x_I0 {G : Int → Int → V} {a b : Int} (q : Q (G a b) H) : rI0 G (.int a) (.int b) H Q := ⟨a, b, rfl, rfl, q⟩
theorem x_I {C : Int → Int → Prop} {G : Int → Int → V} {a b : Int} (hc : C a b) (q : Q (G a b) H) : rI C G (.int a) (.int b) H Q := ⟨a, b, rfl, rfl, hc, q⟩
theorem x_U {G : Int → V} {a : Int} (q : Q (G a) H) : rU G (.int a) H Q := ⟨a, rfl, q⟩
theorem x_addI {a b : Int} (q : Q (.int (a + b)) H) : rAddX (.int a) (.int b) H Q := .inl ⟨a, b, rfl, rfl, q⟩
theorem x_addL {l b : Addr} {xs zs : List V} (h1 : RdL H l xs) (h2 : RdL H b zs) (hz : xs.length + zs.length ≤ sizeLine) (q : ∀ p, H p = none → Q (.ref p) (upd H p (.lst (xs ++ zs)))) : rAddX (.ref l) (.ref b) H Q := .inr (.inl ⟨l, b, xs, zs, rfl, rfl, h1, h2, hz, q⟩)
theorem x_addS {a b : Str} (h : a.length + b.length ≤ sizeLine) (q : Q (.str (a ++ b)) H) : rAddX (.str a) (.str b) H Q := .inr (.inr ⟨a, b, rfl, rfl, h, q⟩)
theorem x_subI {a b : Int} (q : Q (.int (a - b)) H) : rSubI (.int a) (.int b) H Q := ⟨a, b, rfl, rfl, q⟩
theorem x_mulI {a b : Int} (h : IntMulOk a b) (q : Q (.int (a * b)) H) : rMulX (.int a) (.int b) H Q := .inl ⟨a, b, rfl, rfl, h, q⟩
theorem x_mulL {l : Addr} {k : Int} {xs : List V} (h1 : H l = some (.lst xs)) (h2 : -(2 ^ 63) ≤ k ∧ k < 2 ^ 63 ∧ xs.length * k.toNat ≤ sizeLine) (q : ∀ p, H p = none → Q (.ref p) (upd H p (.lst (List.replicate k.toNat xs).flatten))) : rMulX (.ref l) (.int k) H Q :=
  .inr ⟨l, k, xs, rfl, rfl, h1, h2.1, h2.2.1, h2.2.2, q⟩
theorem x_divI {a b : Int} (h : b ≠ 0 ∧ b.natAbs.log2 < 9000) (q : Q (.int (a.fdiv b)) H) : rDivX (.int a) (.int b) H Q := ⟨a, b, rfl, rfl, h, q⟩
theorem x_divP {a b : Int} (h0 : 0 < b) (h : b.natAbs.log2 < 9000) (q : Q (.int (a / b)) H) : rDivX (.int a) (.int b) H Q := ⟨a, b, rfl, rfl, ⟨by omega, h⟩, by show Q (.int (a.fdiv b)) H; rw [Int.fdiv_eq_ediv_of_nonneg a (by omega)]; exact q⟩
theorem x_modP {a b : Int} (h0 : 0 < b) (q : Q (.int (a % b)) H) : rModX (.int a) (.int b) H Q := ⟨a, b, rfl, rfl, by omega, by show Q (.int (a.fmod b)) H; rw [Int.fmod_eq_emod_of_nonneg a (by omega)]; exact q⟩
theorem x_powN {a b : Int} (h : CPow a b) (q : Q (.int (a ^ b.toNat)) H) : rPow (.int a) (.int b) H Q := ⟨a, b, rfl, rfl, h, q⟩
theorem x_shl {a b : Int} (h : CPow a b) (q : Q (.int (a * 2 ^ b.toNat)) H) : rShl (.int a) (.int b) H Q := ⟨a, b, rfl, rfl, h, q⟩
theorem x_shr {a b : Int} (h : 0 ≤ b) (q : Q (.int (a / 2 ^ b.toNat)) H) : rShr (.int a) (.int b) H Q := ⟨a, b, rfl, rfl, h, q⟩
theorem x_andI {a b : Int} (q : Q (.int (Builtin.bitAnd a b)) H) : rAndI (.int a) (.int b) H Q := ⟨a, b, rfl, rfl, q⟩
theorem x_orI {a b : Int} (q : Q (.int (Builtin.bitOr a b)) H) : rOrI (.int a) (.int b) H Q := ⟨a, b, rfl, rfl, q⟩
theorem x_xorI {a b : Int} (q : Q (.int (Builtin.bitXor a b)) H) : rXorI (.int a) (.int b) H Q := ⟨a, b, rfl, rfl, q⟩
theorem x_ltI {a b : Int} (q : Q (.bl (decide (a < b))) H) : rLtI (.int a) (.int b) H Q := ⟨a, b, rfl, rfl, q⟩
theorem x_leI {a b : Int} (q : Q (.bl (decide (a ≤ b))) H) : rLeI (.int a) (.int b) H Q := ⟨a, b, rfl, rfl, q⟩
theorem x_gtI {a b : Int} (q : Q (.bl (decide (b < a))) H) : rGtI (.int a) (.int b) H Q := ⟨a, b, rfl, rfl, q⟩
theorem x_geI {a b : Int} (q : Q (.bl (decide (b ≤ a))) H) : rGeI (.int a) (.int b) H Q := ⟨a, b, rfl, rfl, q⟩
theorem dec_int' {a b : Int} : decide (V.int a = V.int b) = decide (a = b) := by
  by_cases e : a = b
  · subst e; simp
  · rw [decide_eq_false e, decide_eq_false (fun z => e (V.int.inj z))]
theorem x_eqI {a b : Int} (q : Q (.bl (decide (a = b))) H) : rEqX K (.int a) (.int b) H Q := .inl ⟨rfl, by rw [dec_int']; exact q⟩
theorem x_neI {a b : Int} (q : Q (.bl (!decide (a = b))) H) : rNeX K (.int a) (.int b) H Q := .inl ⟨rfl, by rw [dec_int']; exact q⟩
theorem x_eqS {a b : Str} (q : Q (.bl (decide (a = b))) H) : rEqX K (.str a) (.str b) H Q := .inl ⟨rfl, by
  have e : decide (V.str a = V.str b) = decide (a = b) := by
    by_cases e : a = b
    · subst e; simp
    · rw [decide_eq_false e, decide_eq_false (fun z => e (V.str.inj z))]
  rw [e]; exact q⟩
theorem x_eqB {a b : Bool} (q : Q (.bl (decide (a = b))) H) : rEqX K (.bl a) (.bl b) H Q := .inl ⟨rfl, by
  have e : decide (V.bl a = V.bl b) = decide (a = b) := by cases a <;> cases b <;> rfl
  rw [e]; exact q⟩
theorem x_isX {b : Bool} (q : Q (.bl (decide (x = .bl b))) H) : rIsX x (.bl b) H Q := ⟨b, rfl, q⟩
theorem x_isN (q : Q (.bl (decide (x = .non))) H) : rIsNX x .non H Q := ⟨rfl, q⟩
theorem x_notN (q : Q (.bl (!decide (x = .non))) H) : rNotNX x .non H Q := ⟨rfl, q⟩
theorem x_ipI {f : Int → Int → Int} {a b : Int} (q : Q (.int (f a b)) H) : ipI f (.int a) (.int b) H Q := ⟨a, b, rfl, rfl, q⟩
/- lists by values -/
theorem x_ixL {p : Addr} {xs : List V} {i : Int} (h : SqL K H p xs) (ha : atI xs i = some v) (q : Q v H) : rIxL K (.ref p) (.int i) H Q := ⟨p, xs, i, v, rfl, rfl, h, ha, q⟩
theorem x_ixT {p : Addr} {xs : List V} {i : Int} (h : SqT K H p xs) (ha : atI xs i = some v) (q : Q v H) : rIxT K (.ref p) (.int i) H Q := ⟨p, xs, i, v, rfl, rfl, h, ha, q⟩
theorem x_ixXL {p : Addr} {xs : List V} {i : Int} (h : SqL K H p xs) (ha : atI xs i = some v) (q : Q v H) : rIx K (.ref p) (.int i) H Q := .inl ⟨p, xs, i, v, rfl, rfl, h, ha, q⟩
theorem x_ixXT {p : Addr} {xs : List V} {i : Int} (h : SqT K H p xs) (ha : atI xs i = some v) (q : Q v H) : rIx K (.ref p) (.int i) H Q := .inr (.inl ⟨p, xs, i, v, rfl, rfl, h, ha, q⟩)
theorem x_lenL {p : Addr} {xs : List V} (h : SqL K H p xs) (q : Q (.int (xs.length : Int)) H) : rLen K [.ref p] H Q := ⟨_, _, rfl, .inl ⟨xs, h, rfl⟩, q⟩
theorem x_lenT {p : Addr} {xs : List V} (h : SqT K H p xs) (q : Q (.int (xs.length : Int)) H) : rLen K [.ref p] H Q := ⟨_, _, rfl, .inr ⟨xs, h, rfl⟩, q⟩
theorem x_lenS {z : Str} (h : z.length ≤ sizeLine) (q : Q (.int (z.length : Int)) H) : rLen K [.str z] H Q := ⟨_, _, rfl, ⟨h, rfl⟩, q⟩
theorem x_list {p : Addr} {xs : List V} (h : SqL K H p xs) (q : ∀ l, H l = none → Q (.ref l) (upd H l (.lst xs))) : rList K [.ref p] H Q := ⟨p, xs, rfl, .inl h, q⟩
theorem x_append {l : Addr} {xs : List V} (h : H l = some (.lst xs)) (hz : xs.length < sizeLine) (q : Q .non (upd H l (.lst (xs ++ [y])))) : rAppend (.ref l) [y] H Q := ⟨l, xs, y, rfl, rfl, h, hz, q⟩
theorem x_setL {p : Addr} {xs : List V} {k : Int} {j : Nat} {QH : Hp → Prop} (h : H p = some (.lst xs)) (hj : ixN xs.length k = some j) (q : QH (upd H p (.lst (xs.set j v)))) : rSetL (.ref p) (.int k) v H QH := ⟨p, xs, k, j, rfl, rfl, h, hj, q⟩
theorem x_tyL {p : Addr} {xs : List V} (h : H p = some (.lst xs)) : tyV K "list" (.ref p) H := .inl ⟨rfl, _, SqL.of h⟩
theorem x_abs {j : Int} (q : Q (.int (if j < 0 then -j else j)) H) : rAbs [.int j] H Q := ⟨j, rfl, q⟩
theorem x_max2 {a b : Int} (q : Q (.int (if b > a then b else a)) H) : rMax2 [.int a, .int b] H Q := ⟨a, b, rfl, q⟩
theorem x_min2 {a b : Int} (q : Q (.int (if b < a then b else a)) H) : rMin2 [.int a, .int b] H Q := ⟨a, b, rfl, q⟩
theorem x_sum {p : Addr} {ns : List Int} (h : SqL K H p (ns.map V.int)) (q : Q (.int ns.sum) H) : rSum K [.ref p] H Q := ⟨p, ns, rfl, h, q⟩
/-- while: W falls; the turn's test is read as it stands -/
theorem x_while (W : Nat → L2.St → Hp → Prop) (m0 : Nat) (h0 : W m0 σ H) (hs : ∀ m σ H, W m σ H → c σ H fun b H1 => if b = true then ∃ N : L2.St → Hp → Prop, (∀ σ' H', N σ' H' → ∃ m', m' < m ∧ W m' σ' H') ∧ t { D with nx := N, ct := N, bk := D.nx } σ H1 else D.nx σ H1) : tWhile c t D σ H := ⟨W, ⟨m0, h0⟩, hs⟩
theorem x_N {m : Nat} {W : Nat → L2.St → Hp → Prop} {B : L2.St → Hp → Prop} (h : t { D with nx := fun σ' H' => ∃ m', m' < m ∧ W m' σ' H', ct := fun σ' H' => ∃ m', m' < m ∧ W m' σ' H', bk := B } σ H) :
    ∃ N : L2.St → Hp → Prop, (∀ σ' H', N σ' H' → ∃ m', m' < m ∧ W m' σ' H') ∧ t { D with nx := N, ct := N, bk := B } σ H := ⟨_, fun _ _ z => z, h⟩
end
/-! ### places in lists of ints -/
def gi (ns : List Int) (i : Int) : Int := ns.getD i.toNat 0
theorem at_int {ns : List Int} {i : Int} (h0 : 0 ≤ i) (h1 : i < ns.length) : atI (ns.map V.int) i = some (.int (gi ns i)) := by
  obtain ⟨n, rfl⟩ := Int.eq_ofNat_of_zero_le h0
  have hn : n < ns.length := by omega
  refine atI_nat ?_
  rw [List.getElem?_map, List.getElem?_eq_getElem hn]
  show some (V.int ns[n]) = some (V.int (ns.getD n 0))
  rw [List.getD_eq_getElem?_getD, List.getElem?_eq_getElem hn] <;> rfl
theorem ixN_int {n : Nat} {i : Int} (h0 : 0 ≤ i) (h1 : i < n) : ixN n i = some i.toNat := by
  unfold ixN
  rw [if_pos h0, if_pos h1]
theorem map_set_int {ns : List Int} {j : Nat} {z : Int} : (ns.map V.int).set j (.int z) = (ns.set j z).map V.int := (List.map_set).symm
theorem map_app_int {ns : List Int} {z : Int} : ns.map V.int ++ [.int z] = (ns ++ [z]).map V.int := by rw [List.map_append] <;> rfl
theorem mulok {a b : Int} {n m : Nat} (ha : a.natAbs < 2 ^ n) (hb : b.natAbs < 2 ^ m) (h0 : 0 < n) (h1 : 0 < m) (h : n + m ≤ 100000000) : IntMulOk a b := by
  have bb : ∀ x : Int, ∀ k, 0 < k → x.natAbs < 2 ^ k → Builtin.Int.intBits x ≤ k := fun x k hk hx => by
    have := PySem.Flt.log2_lt_of hk hx
    unfold Builtin.Int.intBits
    split <;> omega
  have h2 := bb a n h0 ha
  have h3 := bb b m h1 hb
  have e : bitsLine = 134217728 := by decide
  unfold IntMulOk
  intro z
  rw [Bool.and_eq_true] at z
  have z2 := z.2
  unfold Builtin.Int.intTooBig at z2
  have z3 := of_decide_eq_true z2
  rw [e] at z3
  omega

/-! ### things of any kind, as a caller hands them in -/
inductive Thing (H : Hp) : V → Prop
  | non : Thing H .non
  | bl (b : Bool) : Thing H (.bl b)
  | int (i : Int) : Thing H (.int i)
  | str (x : Str) : Thing H (.str x)
  | lst {a : Addr} {xs : List V} (e : Rd H a (.lst xs)) : Thing H (.ref a)
  | tup {a : Addr} {xs : List V} (e : Rd H a (.tup xs)) : Thing H (.ref a)
  | dic {a : Addr} {kvs : List (Key × V)} (e : H a = some (.dK kvs)) : Thing H (.ref a)
/-- v is a whole number from l to g -/
def inR (v : V) (l g : Int) : Prop := ∃ z, v = .int z ∧ l ≤ z ∧ z ≤ g
def isI : V → Bool
  | .int _ => true
  | _ => false
def isB : V → Bool
  | .bl _ => true
  | _ => false
theorem rd_same {H H' : Hp} {a : Addr} {u : HO} (e : Same H H') (h : Rd H a u) : Rd H' a u := by
  rcases h with h | ⟨o, h⟩
  · exact .inl (e _ _ h)
  · exact .inr ⟨o, e _ _ h⟩
theorem Thing.same {H H' : Hp} {v : V} (e : Same H H') (h : Thing H v) : Thing H' v := by
  cases h with
  | non => exact .non
  | bl b => exact .bl b
  | int i => exact .int i
  | str x => exact .str x
  | lst q => exact .lst (rd_same e q)
  | tup q => exact .tup (rd_same e q)
  | dic q => exact .dic (e _ _ q)
theorem Thing.ty {K : PySem.W.Frag} {H : Hp} {v : V} (h : Thing H v) : ∃ t : String, TyX K H v (.type t) ∧ kitB t "int" = some (isI v || isB v) ∧ kitB t "bool" = some (isB v) := by
  cases h with
  | non => exact ⟨"NoneType", .base .non, by decide +kernel, by decide +kernel⟩
  | bl b => exact ⟨"bool", .base (.bl b), by cases b <;> decide +kernel, by cases b <;> decide +kernel⟩
  | int i => exact ⟨"int", .base (.int i), by show kitB "int" "int" = some true; decide +kernel, by show kitB "int" "bool" = some false; decide +kernel⟩
  | str x => exact ⟨"str", .base (.str x), by show kitB "str" "int" = some false; decide +kernel, by show kitB "str" "bool" = some false; decide +kernel⟩
  | lst q =>
    rcases q with q | ⟨o, q⟩
    · exact ⟨"list", .base (.lst q), by show kitB "list" "int" = some false; decide +kernel, by show kitB "list" "bool" = some false; decide +kernel⟩
    · exact ⟨"list", .base (.frz q), by show kitB "list" "int" = some false; decide +kernel, by show kitB "list" "bool" = some false; decide +kernel⟩
  | tup q =>
    rcases q with q | ⟨o, q⟩
    · exact ⟨"tuple", .base (.tup q), by show kitB "tuple" "int" = some false; decide +kernel, by show kitB "tuple" "bool" = some false; decide +kernel⟩
    · exact ⟨"tuple", .fTuple q, by show kitB "tuple" "int" = some false; decide +kernel, by show kitB "tuple" "bool" = some false; decide +kernel⟩
  | dic q => exact ⟨"dict", .base (.dK q), by show kitB "dict" "int" = some false; decide +kernel, by show kitB "dict" "bool" = some false; decide +kernel⟩
section
variable {K : PySem.W.Frag} {H : Hp} {Q : VK} {v : V}
theorem x_isiInt (h : Thing H v) (q : Q (.bl (isI v || isB v)) H) : rIsi K [v, .ty "int"] H Q := by
  obtain ⟨t, h1, h2, _⟩ := h.ty (K := K)
  exact ⟨v, .ty "int", _, _, _, rfl, .ty _, h1, kit_ty h2, q⟩
theorem x_isiBool (h : Thing H v) (q : Q (.bl (isB v)) H) : rIsi K [v, .ty "bool"] H Q := by
  obtain ⟨t, h1, _, h2⟩ := h.ty (K := K)
  exact ⟨v, .ty "bool", _, _, _, rfl, .ty _, h1, kit_ty h2, q⟩
theorem x_isiListL {a : Addr} {xs : List V} (h : Rd H a (.lst xs)) (q : Q (.bl true) H) : rIsi K [.ref a, .ty "list"] H Q := by
  rcases h with h | ⟨o, h⟩
  · exact ⟨_, .ty "list", _, _, _, rfl, .ty _, .base (.lst h), kit_ty (by decide +kernel), q⟩
  · exact ⟨_, .ty "list", _, _, _, rfl, .ty _, .base (.frz h), kit_ty (by decide +kernel), q⟩
theorem x_isiTupT {a : Addr} {xs : List V} (h : Rd H a (.tup xs)) (q : Q (.bl true) H) : rIsi K [.ref a, .ty "tuple"] H Q := by
  rcases h with h | ⟨o, h⟩
  · exact ⟨_, .ty "tuple", _, _, _, rfl, .ty _, .base (.tup h), kit_ty (by decide +kernel), q⟩
  · exact ⟨_, .ty "tuple", _, _, _, rfl, .ty _, .fTuple h, kit_ty (by decide +kernel), q⟩
end
/-- what a def tells and leaves: a value; a new list -/
def RetV (v : V) (H : Hp) (Q : VK) : Prop := ∀ H', Same H H' → Q v H'
def RetL (xs : List V) (H : Hp) (Q : VK) : Prop := ∀ p H', H p = none → Same H H' → H' p = some (.lst xs) → Q (.ref p) H'
def RetT (xs : List V) (H : Hp) (Q : VK) : Prop := ∀ p H', H p = none → Same H H' → H' p = some (.tup xs) → Q (.ref p) H'
theorem RetV.go {v : V} {H H' : Hp} {Q : VK} (h : RetV v H Q) (e : Same H H') : Q v H' := h H' e
theorem RetL.go {xs : List V} {H H' : Hp} {Q : VK} (h : RetL xs H Q) {p : Addr} (w : Own H ((p, .lst xs) :: []) H') : Q (.ref p) H' := h p H' (w.none 0 rfl) w.ex (w.get 0 rfl)
theorem RetT.go {xs : List V} {H H' : Hp} {Q : VK} (h : RetT xs H Q) {p : Addr} (w : Own H ((p, .tup xs) :: []) H') : Q (.ref p) H' := h p H' (w.none 0 rfl) w.ex (w.get 0 rfl)

/-! ### comprehensions: what the list at D holds behind i turns: F i -/
def PvC (B : Hp) (cs : Cells) (D : Addr) (F : Nat → List V) (i : Nat) (H : Hp) : Prop := Own B ((D, .lst (F i)) :: cs) H
section
variable {K : PySem.W.Frag} {σ : L2.St} {B H : Hp} {cs : Cells} {Q : VK} {te : TE} {g : TG} {tt : TT} {vs : List Nat}
/-- a turn's end: the item goes behind what is there -/
theorem cp_fin {D : Addr} {F : Nat → List V} {i : Nat} {H4 : Hp} {y : V} (w : PvC B cs D F i H4) (e : F (i + 1) = F i ++ [y]) (hl : (F i).length < 1000000) :
    ∃ acc, H4 D = some (.lst acc) ∧ acc.length < sizeLine ∧ PvC B cs D F (i + 1) (upd H4 D (.lst (acc ++ [y]))) := by
  refine ⟨F i, Own.get w 0 rfl, Nat.lt_of_lt_of_le hl (by decide), ?_⟩
  have := Own.put (o' := .lst (F i ++ [y])) w 0 rfl
  rw [← e] at this
  rw [← e]
  exact this
/-- the same where the test says no -/
theorem cp_no {D : Addr} {F : Nat → List V} {i : Nat} {H4 : Hp} (w : PvC B cs D F i H4) (e : F (i + 1) = F i) : PvC B cs D F (i + 1) H4 := by
  unfold PvC at *
  rw [e]
  exact w
theorem cp_range {QD : Addr → Hp → Prop} {lo : Int} {n : Nat} (F : Nat → List V) (w : Own B cs H) (h0 : F 0 = [])
    (hs : ∀ D i H', i < n → PvC B cs D F i H' → g (.int (lo + i)) (wipe σ vs) H' fun σ2 H2 => wipe σ2 vs = wipe σ vs ∧ tt σ2 H2 fun b H3 =>
      if b = true then te σ2 H3 fun y H4 => ∃ acc, H4 D = some (.lst acc) ∧ acc.length < sizeLine ∧ PvC B cs D F (i + 1) (upd H4 D (.lst (acc ++ [y]))) else PvC B cs D F (i + 1) H3)
    (hq : ∀ D H', Own B ((D, .lst (F n)) :: cs) H' → QD D H') : ∀ D, H D = none → ∃ W : Nat → Nat → Hp → Prop, (∃ m, W 0 m (upd H D (.lst []))) ∧ ∀ i m H, W i m H →
      ((Itr lo n).stop i H ∧ QD D H) ∨ ((Itr lo n).go i H ∧ ∃ Nx : Hp → Prop, (∀ H', Nx H' → ∃ m', m' < m ∧ W (i + 1) m' H') ∧ ∀ x H', (Itr lo n).yld i H x H' → g x (wipe σ vs) H' fun σ2 H2 => wipe σ2 vs = wipe σ vs ∧ tt σ2 H2 fun b H3 =>
        if b = true then te σ2 H3 fun y H4 => ∃ acc, H4 D = some (.lst acc) ∧ acc.length < sizeLine ∧ Nx (upd H4 D (.lst (acc ++ [y]))) else Nx H3) := fun D hD =>
  lc_range (PvC B cs D F) (by unfold PvC; rw [h0]; exact w.new hD) (fun i H' hi p => hs D i H' hi p) (fun H' p => hq D H' p)
theorem cp_list {QD : Addr → Hp → Prop} {a : Addr} {xs : List V} (F : Nat → List V) (w : Own B cs H) (hx : SqL K B a xs) (h0 : F 0 = [])
    (hs : ∀ D i x H', xs[i]? = some x → PvC B cs D F i H' → g x (wipe σ vs) H' fun σ2 H2 => wipe σ2 vs = wipe σ vs ∧ tt σ2 H2 fun b H3 =>
      if b = true then te σ2 H3 fun y H4 => ∃ acc, H4 D = some (.lst acc) ∧ acc.length < sizeLine ∧ PvC B cs D F (i + 1) (upd H4 D (.lst (acc ++ [y]))) else PvC B cs D F (i + 1) H3)
    (hq : ∀ D H', Own B ((D, .lst (F xs.length)) :: cs) H' → QD D H') : ∀ D, H D = none → ∃ W : Nat → Nat → Hp → Prop, (∃ m, W 0 m (upd H D (.lst []))) ∧ ∀ i m H, W i m H →
      ((Itl K a).stop i H ∧ QD D H) ∨ ((Itl K a).go i H ∧ ∃ Nx : Hp → Prop, (∀ H', Nx H' → ∃ m', m' < m ∧ W (i + 1) m' H') ∧ ∀ x H', (Itl K a).yld i H x H' → g x (wipe σ vs) H' fun σ2 H2 => wipe σ2 vs = wipe σ vs ∧ tt σ2 H2 fun b H3 =>
        if b = true then te σ2 H3 fun y H4 => ∃ acc, H4 D = some (.lst acc) ∧ acc.length < sizeLine ∧ Nx (upd H4 D (.lst (acc ++ [y]))) else Nx H3) := fun D hD =>
  lc_list (PvC B cs D F) (by unfold PvC; rw [h0]; exact w.new hD) (fun i H' hi p => Own.seq p hx) (fun i x H' hi p => hs D i x H' hi p) (fun H' p => hq D H' p)
/-- behind the first i items of a range: their images -/
theorem range_map {α : Type} (f : Nat → α) (i : Nat) : (List.range (i + 1)).map f = (List.range i).map f ++ [f i] := by rw [List.range_succ, List.map_append] <;> rfl
end

/-! ### the rules with the written part told (a comprehension's block has its own context) -/
section
variable {X : Cx} {K : PySem.W.Frag}
theorem ix_seqK (h : X.K = K) : IxR X (rIx K) := h ▸ ix_seq
theorem get_listK (h : X.K = K) : PGet X (rIxL K) := h ▸ get_list
theorem op_eqK (h : X.K = K) (hu : X.A.units + 64 < cLine) : OpR X (compareOp .Eq) (rEqX K) := h ▸ op_eqX hu
theorem op_neK (h : X.K = K) (hu : X.A.units + 64 < cLine) : OpR X (compareOp .NotEq) (rNeX K) := h ▸ op_neX hu
theorem call_lenK (h : X.K = K) : CallR X (.builtin "len") (rLen K) := h ▸ call_lenX
theorem call_listK (h : X.K = K) : CallR X (.type "list") (rList K) := h ▸ call_listX
theorem cr_sumK (h : X.K = K) (hc : X.calm = true) : CallR X (.builtin "sum") (rSum K) := h ▸ cr_sum hc
theorem cr_anyK (h : X.K = K) (hc : X.calm = true) : CallR X (.builtin "any") (rAny K) := h ▸ cr_any hc
theorem cr_maxK (h : X.K = K) (hc : X.calm = true) : CallR X (.builtin "max") (rMax K) := h ▸ cr_max hc
theorem cr_minK (h : X.K = K) (hc : X.calm = true) : CallR X (.builtin "min") (rMin K) := h ▸ cr_min hc
theorem cr_sortedK (h : X.K = K) : CallR X (.builtin "sorted") (rSorted K) := h ▸ cr_sorted
theorem call_isiX (h : X.K = K) : CallR X (.builtin "isinstance") (rIsi K) := h ▸ call_isi
theorem call_isiTX (h : X.K = K) : CallR X (.builtin "isinstance") (rIsiT K) := h ▸ call_isiT
theorem op_in_seqK (h : X.K = K) : OpR X (compareOp .In) (rIn K false) := h ▸ op_in_seq
theorem op_notIn_seqK (h : X.K = K) : OpR X (compareOp .NotIn) (rIn K true) := h ▸ op_notIn_seq
theorem sl_listK (h : X.K = K) : SlR X (rSlL K) := h ▸ sl_list
theorem sl_tupK (h : X.K = K) : SlR X (rSlT K) := h ▸ sl_tup
theorem pi_listK (h : X.K = K) {tg l : Expr} {tl : TE} (hl : PE X l tl) : PI X tg l (iList K tl) := h ▸ pi_list hl
theorem pi_tupK (h : X.K = K) {tg l : Expr} {tl : TE} (hl : PE X l tl) : PI X tg l (iTup K tl) := h ▸ pi_tup hl
theorem pi_zipK (h : X.K = K) {e e2 : Expr} {ta : TA} {p pos tpos : Pos} {elts : List Expr} {kk : Nat} (hg : Gl X "zip") (hm : X.mg "zip" = none) (ha : PA X [e, e2] ta)
    (hs : starEach [e, e2] X.env = (false, eval e X.env) :: starEach [e2] X.env := by rfl) (hpl : (backTo pos (starEach [e2] X.env)).any (·.1) = false := by rfl) :
    PI X (.Tuple elts kk tpos) (.Call (.Name "zip" p) [e, e2] [] pos) (iZip K ta) := h ▸ pi_zip hg hm ha hs hpl
theorem pi_enumK (h : X.K = K) {e : Expr} {ta : TA} {p pos tpos : Pos} {elts : List Expr} {kk : Nat} (hg : Gl X "enumerate") (hm : X.mg "enumerate" = none) (ha : PA X [e] ta) (hs : starEach [e] X.env = [(false, eval e X.env)] := by rfl) :
    PI X (.Tuple elts kk tpos) (.Call (.Name "enumerate" p) [e] [] pos) (iEnum K ta) := h ▸ pi_enum hg hm ha hs
theorem pi_reversedK (h : X.K = K) {tg e : Expr} {ta : TA} {p pos : Pos} (hg : Gl X "reversed") (hm : X.mg "reversed" = none) (ha : PA X [e] ta) (hs : starEach [e] X.env = [(false, eval e X.env)] := by rfl) :
    PI X tg (.Call (.Name "reversed" p) [e] [] pos) (iRev K ta) := h ▸ pi_reversed hg hm ha hs
theorem pg_tupK (h : X.K = K) {pos : Pos} {es : List Expr} {k : Nat} {t : TGs} {n : Nat} (hc : X.calm = true) (hg : PGs X es t)
    (hn : (assignEach es X.env).length = n := by rfl) (hst : (assignEach es X.env).findIdx? (·.1) = none := by rfl) : PG X (.Tuple es k pos) (gTup K n t) := h ▸ pg_tup hc hg hn hst
theorem pe_bmK (h : X.K = K) {T : String} {name : Str} {id : String} {r : V → List V → Hp → VK → Prop} {o e : Expr} {es : List Expr} {to : TE} {t : TA} {apos cpos : Pos}
    (pa : PlainAttrs T) (slot : Slot T name id) (hty : typeOf (.builtin id) = pure (.type "method_descriptor")) (hm : MtR X id r) (ho : PE X o to) (ha : PA X (e :: es) t)
    (f : PE X (.Call (.Attribute o name apos) (e :: es) [] cpos) (tBM X.K T r to t)) : PE X (.Call (.Attribute o name apos) (e :: es) [] cpos) (tBM K T r to t) := h ▸ f
theorem pe_fldK (h : X.K = K) {e : Expr} {f : Str} {ta : TE} {pos : Pos} (he : PE X e ta) (hb : attributeBase e f X.env (eval e X.env) = eval e X.env) : PE X (.Attribute e f pos) (tFld K ta f) := h ▸ pe_fld he hb
end

/-! ### == of lists of ints -/
theorem dpAll_ints {K : PySem.W.Frag} {H : Hp} : ∀ ns : List Int, DpAll K H (ns.map V.int) (ns.map PyData.int)
  | [] => .nil
  | n :: r => .cons (.int n) (dpAll_ints r)
theorem dp_ints {K : PySem.W.Frag} {H : Hp} {p : Addr} {ns : List Int} (h : SqL K H p (ns.map V.int)) : Dp K H (.ref p) (.list (ns.map PyData.int)) := .lst h (dpAll_ints ns)
theorem canLay_ints : ∀ ns : List Int, PyData.canLayAll0 (ns.map PyData.int) = true
  | [] => by simp [PyData.canLayAll0]
  | n :: r => by simp [PyData.canLayAll0, PyData.canLay0, canLay_ints r]
theorem depth_ints : ∀ ns : List Int, PyData.depthAll (ns.map PyData.int) ≤ 1
  | [] => by simp [PyData.depthAll]
  | n :: r => by
    have := depth_ints r
    simp only [List.map_cons, PyData.depthAll, PyData.depth]
    omega
theorem shaped_ints (ns : List Int) : SeqAt.shaped (.list (ns.map PyData.int)) = true := by
  have := depth_ints ns
  unfold SeqAt.shaped
  rw [Bool.and_eq_true]
  refine ⟨by simp [PyData.canLay0, canLay_ints ns], decide_eq_true ?_⟩
  simp only [PyData.depth]
  omega
theorem eqvAll_ints : ∀ ns ms : List Int, PyData.eqvAll (ns.map PyData.int) (ms.map PyData.int) = decide (ns = ms)
  | [], [] => by simp [PyData.eqvAll]
  | [], m :: r => by simp [PyData.eqvAll]
  | n :: r, [] => by simp [PyData.eqvAll]
  | n :: r, m :: q => by
    simp only [List.map_cons, PyData.eqvAll, PyData.eqv, eqvAll_ints r q, List.cons.injEq]
    by_cases e : n = m
    · subst e; simp
    · simp [e]
theorem eqv_ints (ns ms : List Int) : PyData.eqv (.list (ns.map PyData.int)) (.list (ms.map PyData.int)) = decide (ns = ms) := by
  rw [PyData.eqv, eqvAll_ints]
section
variable {K : PySem.W.Frag} {H : Hp} {Q : VK} {p q : Addr} {ns ms : List Int}
theorem x_eqLI (h1 : SqL K H p (ns.map V.int)) (h2 : SqL K H q (ms.map V.int)) (k : Q (.bl (decide (ns = ms))) H) : rEqX K (.ref p) (.ref q) H Q :=
  .inr ⟨_, _, dp_ints h1, dp_ints h2, shaped_ints ns, shaped_ints ms, by rw [eqv_ints]; exact k⟩
theorem x_neLI (h1 : SqL K H p (ns.map V.int)) (h2 : SqL K H q (ms.map V.int)) (k : Q (.bl (!decide (ns = ms))) H) : rNeX K (.ref p) (.ref q) H Q :=
  .inr ⟨_, _, dp_ints h1, dp_ints h2, shaped_ints ns, shaped_ints ms, by rw [eqv_ints]; exact k⟩
end

theorem cx_none {P : Program} {w : World} {H : Hp} {s : Shared} {e : Value} {s' : Shared} (h : L2.CX P w [] H s (fun _ _ _ => False) e s') : False := by
  obtain ⟨_, _, _, _, _, _, _, _, _, _, _, _, z⟩ := h
  exact z.elim

/-! ### for over range(n), the number told plainly -/
theorem for_r0 {n : Int} {g : TG} {tb : TS} {D : Ends} {σ : L2.St} {H : Hp} (Pv : Nat → L2.St → Hp → Prop) (h0 : Pv 0 σ H)
    (hs : ∀ (i : Nat) σ H, (i : Int) < n → Pv i σ H → g (.int (i : Int)) σ H fun σ2 H2 => tb { D with nx := Pv (i + 1), ct := Pv (i + 1), bk := D.nx } σ2 H2) (hd : ∀ σ H, Pv n.toNat σ H → D.nx σ H) :
    ∃ W : Nat → Nat → L2.St → Hp → Prop, (∃ m, W 0 m σ H) ∧ ∀ i m σ H, W i m σ H →
      ((Itr 0 n.toNat).stop i H ∧ D.nx σ H) ∨ ((Itr 0 n.toNat).go i H ∧ ∃ N : L2.St → Hp → Prop, (∀ σ' H', N σ' H' → ∃ m', m' < m ∧ W (i + 1) m' σ' H') ∧ ∀ x H', (Itr 0 n.toNat).yld i H x H' → g x σ H' fun σ2 H2 => tb { D with nx := N, ct := N, bk := D.nx } σ2 H2) :=
  for_range (lo := 0) (n := n.toNat) Pv h0 (fun i σ H hi p => by rw [Int.zero_add]; exact hs i σ H (by omega) p) hd
theorem cp_r0 {QD : Addr → Hp → Prop} {B : Hp} {cs : Cells} {n : Int} {σ : L2.St} {H : Hp} {te : TE} {g : TG} {tt : TT} {vs : List Nat} (F : Nat → List V) (w : Own B cs H) (h0 : F 0 = [])
    (hs : ∀ D (i : Nat) H', (i : Int) < n → PvC B cs D F i H' → g (.int (i : Int)) (wipe σ vs) H' fun σ2 H2 => wipe σ2 vs = wipe σ vs ∧ tt σ2 H2 fun b H3 =>
      if b = true then te σ2 H3 fun y H4 => ∃ acc, H4 D = some (.lst acc) ∧ acc.length < sizeLine ∧ PvC B cs D F (i + 1) (upd H4 D (.lst (acc ++ [y]))) else PvC B cs D F (i + 1) H3)
    (hq : ∀ D H', Own B ((D, .lst (F n.toNat)) :: cs) H' → QD D H') : ∀ D, H D = none → ∃ W : Nat → Nat → Hp → Prop, (∃ m, W 0 m (upd H D (.lst []))) ∧ ∀ i m H, W i m H →
      ((Itr 0 n.toNat).stop i H ∧ QD D H) ∨ ((Itr 0 n.toNat).go i H ∧ ∃ Nx : Hp → Prop, (∀ H', Nx H' → ∃ m', m' < m ∧ W (i + 1) m' H') ∧ ∀ x H', (Itr 0 n.toNat).yld i H x H' → g x (wipe σ vs) H' fun σ2 H2 => wipe σ2 vs = wipe σ vs ∧ tt σ2 H2 fun b H3 =>
        if b = true then te σ2 H3 fun y H4 => ∃ acc, H4 D = some (.lst acc) ∧ acc.length < sizeLine ∧ Nx (upd H4 D (.lst (acc ++ [y]))) else Nx H3) :=
  cp_range (lo := 0) F w h0 (fun D i H' hi p => by rw [Int.zero_add]; exact hs D i H' (by omega) p) hq

/-! ### enumerate, zip: loops and comprehensions -/
section
variable {K : PySem.W.Frag} {a b : Addr} {xs ys : List V} {g : TG} {tb : TS} {D : Ends} {σ : L2.St} {H B : Hp} {cs : Cells} {te : TE} {tt : TT} {vs : List Nat} {Q : VK}
theorem for_enumL (Pv : Nat → L2.St → Hp → Prop) (h0 : Pv 0 σ H) (hq : ∀ i σ H, Pv i σ H → SqL K H a xs)
    (hs : ∀ (i : Nat) (x : V) (T : Addr) (σ : L2.St) (H : Hp), xs[i]? = some x → Pv i σ H → H T = none → g (.ref T) σ (upd H T (.tup [.int (i : Int), x])) fun σ2 H2 => tb { D with nx := Pv (i + 1), ct := Pv (i + 1), bk := D.nx } σ2 H2) (hd : ∀ σ H, Pv xs.length σ H → D.nx σ H) :
    ∃ W : Nat → Nat → L2.St → Hp → Prop, (∃ m, W 0 m σ H) ∧ ∀ i m σ H, W i m σ H →
      ((Ite K a).stop i H ∧ D.nx σ H) ∨ ((Ite K a).go i H ∧ ∃ N : L2.St → Hp → Prop, (∀ σ' H', N σ' H' → ∃ m', m' < m ∧ W (i + 1) m' σ' H') ∧ ∀ v H', (Ite K a).yld i H v H' → g v σ H' fun σ2 H2 => tb { D with nx := N, ct := N, bk := D.nx } σ2 H2) := by
  refine ⟨fun i m σ H => m = xs.length - i ∧ i ≤ xs.length ∧ Pv i σ H, ⟨xs.length, rfl, Nat.zero_le _, h0⟩, ?_⟩
  rintro i m σ H ⟨rfl, hi, p⟩
  have qx := hq i σ H p
  by_cases hlt : i < xs.length
  · have hx : xs[i]? = some xs[i] := List.getElem?_eq_getElem hlt
    refine .inr ⟨⟨xs, _, qx, hx⟩, Pv (i + 1), fun σ' H' p' => ⟨xs.length - (i + 1), by omega, rfl, hlt, p'⟩, fun v H' y => ?_⟩
    obtain ⟨T, x', rfl, hT, rfl, f1⟩ := y
    exact hs i x' T σ H (f1 xs qx) p hT
  · have e : i = xs.length := by omega
    subst e
    exact .inl ⟨⟨xs, qx, Nat.le_refl _⟩, hd σ H p⟩
theorem cp_enum {QD : Addr → Hp → Prop} (F : Nat → List V) (w : Own B cs H) (hx : SqL K B a xs) (h0 : F 0 = [])
    (hs : ∀ D i x T H', xs[i]? = some x → PvC B cs D F i H' → H' T = none → g (.ref T) (wipe σ vs) (upd H' T (.tup [.int ((i : Nat) : Int), x])) fun σ2 H2 => wipe σ2 vs = wipe σ vs ∧ tt σ2 H2 fun b H3 =>
      if b = true then te σ2 H3 fun y H4 => ∃ acc, H4 D = some (.lst acc) ∧ acc.length < sizeLine ∧ PvC B cs D F (i + 1) (upd H4 D (.lst (acc ++ [y]))) else PvC B cs D F (i + 1) H3)
    (hq : ∀ D H', Own B ((D, .lst (F xs.length)) :: cs) H' → QD D H') : ∀ D, H D = none → ∃ W : Nat → Nat → Hp → Prop, (∃ m, W 0 m (upd H D (.lst []))) ∧ ∀ i m H, W i m H →
      ((Ite K a).stop i H ∧ QD D H) ∨ ((Ite K a).go i H ∧ ∃ Nx : Hp → Prop, (∀ H', Nx H' → ∃ m', m' < m ∧ W (i + 1) m' H') ∧ ∀ x H', (Ite K a).yld i H x H' → g x (wipe σ vs) H' fun σ2 H2 => wipe σ2 vs = wipe σ vs ∧ tt σ2 H2 fun b H3 =>
        if b = true then te σ2 H3 fun y H4 => ∃ acc, H4 D = some (.lst acc) ∧ acc.length < sizeLine ∧ Nx (upd H4 D (.lst (acc ++ [y]))) else Nx H3) := fun D hD => by
  refine ⟨fun i m H => m = xs.length - i ∧ i ≤ xs.length ∧ PvC B cs D F i H, ⟨xs.length, rfl, Nat.zero_le _, by unfold PvC; rw [h0]; exact w.new hD⟩, ?_⟩
  rintro i m H ⟨rfl, hi, p⟩
  have qx : SqL K H a xs := Own.seq p hx
  by_cases hlt : i < xs.length
  · have hxi : xs[i]? = some xs[i] := List.getElem?_eq_getElem hlt
    refine .inr ⟨⟨xs, _, qx, hxi⟩, PvC B cs D F (i + 1), fun H' p' => ⟨xs.length - (i + 1), by omega, rfl, hlt, p'⟩, fun v H' y => ?_⟩
    obtain ⟨T, x', rfl, hT, rfl, f1⟩ := y
    exact hs D i x' T H (f1 xs qx) p hT
  · have e : i = xs.length := by omega
    subst e
    exact .inl ⟨⟨xs, qx, Nat.le_refl _⟩, hq D H p⟩
theorem cp_zip {QD : Addr → Hp → Prop} (F : Nat → List V) (w : Own B cs H) (hl : xs.length = ys.length) (hx : SqL K B a xs) (hy : SqL K B b ys) (h0 : F 0 = [])
    (hs : ∀ D i x y T H', xs[i]? = some x → ys[i]? = some y → PvC B cs D F i H' → H' T = none → g (.ref T) (wipe σ vs) (upd H' T (.tup [x, y])) fun σ2 H2 => wipe σ2 vs = wipe σ vs ∧ tt σ2 H2 fun b H3 =>
      if b = true then te σ2 H3 fun y H4 => ∃ acc, H4 D = some (.lst acc) ∧ acc.length < sizeLine ∧ PvC B cs D F (i + 1) (upd H4 D (.lst (acc ++ [y]))) else PvC B cs D F (i + 1) H3)
    (hq : ∀ D H', Own B ((D, .lst (F xs.length)) :: cs) H' → QD D H') : ∀ D, H D = none → ∃ W : Nat → Nat → Hp → Prop, (∃ m, W 0 m (upd H D (.lst []))) ∧ ∀ i m H, W i m H →
      ((Itz K a b).stop i H ∧ QD D H) ∨ ((Itz K a b).go i H ∧ ∃ Nx : Hp → Prop, (∀ H', Nx H' → ∃ m', m' < m ∧ W (i + 1) m' H') ∧ ∀ x H', (Itz K a b).yld i H x H' → g x (wipe σ vs) H' fun σ2 H2 => wipe σ2 vs = wipe σ vs ∧ tt σ2 H2 fun b H3 =>
        if b = true then te σ2 H3 fun y H4 => ∃ acc, H4 D = some (.lst acc) ∧ acc.length < sizeLine ∧ Nx (upd H4 D (.lst (acc ++ [y]))) else Nx H3) := fun D hD => by
  refine ⟨fun i m H => m = xs.length - i ∧ i ≤ xs.length ∧ PvC B cs D F i H, ⟨xs.length, rfl, Nat.zero_le _, by unfold PvC; rw [h0]; exact w.new hD⟩, ?_⟩
  rintro i m H ⟨rfl, hi, p⟩
  have qx : SqL K H a xs := Own.seq p hx
  have qy : SqL K H b ys := Own.seq p hy
  by_cases hlt : i < xs.length
  · have hxi : xs[i]? = some xs[i] := List.getElem?_eq_getElem hlt
    have hlt2 : i < ys.length := by omega
    have hyi : ys[i]? = some ys[i] := List.getElem?_eq_getElem hlt2
    refine .inr ⟨⟨xs, ys, _, _, qx, qy, hxi, hyi⟩, PvC B cs D F (i + 1), fun H' p' => ⟨xs.length - (i + 1), by omega, rfl, hlt, p'⟩, fun v H' y => ?_⟩
    obtain ⟨T, x', y', rfl, hT, rfl, f1, f2⟩ := y
    exact hs D i x' y' T H (f1 xs qx) (f2 ys qy) p hT
  · have e : i = xs.length := by omega
    subst e
    exact .inl ⟨⟨xs, ys, qx, qy, .inl (Nat.le_refl _)⟩, hq D H p⟩
end

def rStr : List V → Hp → VK → Prop := fun xs H Q => ∃ i, xs = [.int i] ∧ i.natAbs.log2 < 1920 ∧ Q (.str (toString i)) H
theorem call_strX {X : Cx} : CallR X (.type "str") rStr := call_str_int
theorem x_str {H : Hp} {Q : VK} {i : Int} (h : i.natAbs.log2 < 1920) (q : Q (.str (toString i)) H) : rStr [.int i] H Q := ⟨i, rfl, h, q⟩
theorem log2_small {n : Nat} {k : Nat} (h0 : 0 < k) (h : n < 2 ^ k) (hk : k ≤ 1920) : n.log2 < 1920 := Nat.lt_of_lt_of_le (PySem.Flt.log2_lt_of h0 h) hk
end Sp

/-! Jn: a join: what follows a statement is shown once. -/
namespace Sp
open PySem PySem.Spec L2 PyProof.Rows
theorem x_seqJ {t u : TS} {D : Ends} {σ : L2.St} {H : Hp} (P : L2.St → Hp → Prop) (hP : ∀ σ H, P σ H → u D σ H) (h : (∀ σ H, P σ H → u D σ H) → t { D with nx := u D } σ H) : tSeq t u D σ H := h hP
section
variable {X : Cx} {K : PySem.W.Frag} {T : String} {name : Str} {id : String} {r : V → List V → Hp → VK → Prop} {o e : Expr} {es : List Expr} {to : TE} {t : TA} {apos cpos : Pos}
theorem pe_bm0KK (h : X.K = K) (pa : PlainAttrs T) (slot : Slot T name id) (hty : typeOf (.builtin id) = pure (.type "method_descriptor")) (hm : MtR X id r) (ho : PE X o to)
    (hbase : attributeBase o name X.env (eval o X.env) = eval o X.env := by rfl) (hline : (apos.endLine == cpos.line) = true := by rfl) : PE X (.Call (.Attribute o name apos) [] [] cpos) (tBM0 K T r to) := h ▸ pe_bm0 pa slot hty hm ho hbase hline
theorem pe_bmKK (h : X.K = K) (pa : PlainAttrs T) (slot : Slot T name id) (hty : typeOf (.builtin id) = pure (.type "method_descriptor")) (hm : MtR X id r) (ho : PE X o to) (ha : PA X (e :: es) t)
    (hbase : attributeBase o name X.env (eval o X.env) = eval o X.env := by rfl)
    (hfew : ((backTo cpos (starEach (e :: es) X.env)).all (fun x => !x.1) && (backToKw cpos (keywordEach [] X.env)).all (fun x => x.1.isSome)
      && decide ((e :: es).length + ([] : List Keyword).length + (if ([] : List Keyword).isEmpty then 0 else 1) < 30)) = true := by rfl)
    (hline : (apos.endLine == cpos.line) = true := by rfl) (hs : starEach (e :: es) X.env = (false, eval e X.env) :: starEach es X.env := by rfl) (hplain : (backTo cpos (starEach es X.env)).any (·.1) = false := by rfl) :
    PE X (.Call (.Attribute o name apos) (e :: es) [] cpos) (tBM K T r to t) := h ▸ pe_bm pa slot hty hm ho ha hbase hfew hline hs hplain
end
end Sp

/-! Ml: tables, bounds: plain words about lists of ints. -/
namespace Sp
open PySem L2 PyProof.Rows
def manyOf (n : Nat) : Nat := if n ≤ 2 then 1 else if n ≤ 4 then 2 else if n ≤ 8 then 3 else if n ≤ 16 then 4 else if n ≤ 32 then 5 else 6
theorem manyOf_lo (n : Nat) : 1 ≤ manyOf n ∧ manyOf n ≤ 6 := by
  unfold manyOf
  repeat' split
  all_goals omega
theorem manyOf_is {n k : Nat} (h1 : 1 ≤ k) (h6 : k ≤ 6) (hlo : k = 1 ∨ 2 ^ (k - 1) < n) (hhi : k = 6 ∨ n ≤ 2 ^ k) : manyOf n = k := by
  unfold manyOf
  have h : k = 1 ∨ k = 2 ∨ k = 3 ∨ k = 4 ∨ k = 5 ∨ k = 6 := by omega
  rcases h with rfl | rfl | rfl | rfl | rfl | rfl <;> simp only [Nat.reducePow, Nat.reduceSub] at hlo hhi <;> repeat' split
  all_goals omega
def lookM (xs : List V) : Option Int := if xs.length = 2 ^ manyOf xs.length ∧ xs.all isI = true ∧ xs[0]? = some (.int 0) then some (manyOf xs.length : Nat) else none
/-- a table of k hands -/
structure Tab (ns : List Int) (k : Nat) : Prop where
  len : ns.length = 2 ^ k
  lo : 1 ≤ k
  hi : k ≤ 6
  zero : ns[0]? = some 0
theorem Tab.look {ns : List Int} {k : Nat} (h : Tab ns k) : lookM (ns.map V.int) = some (k : Int) := by
  have e : manyOf (ns.map V.int).length = k := by
    rw [List.length_map, h.len]
    exact manyOf_is h.lo h.hi (by
      have := h.lo
      by_cases e : k = 1
      · exact .inl e
      · refine .inr (Nat.pow_lt_pow_right (by decide) (by omega))) (.inr (Nat.le_refl _))
  unfold lookM
  rw [e, if_pos]
  refine ⟨by rw [List.length_map]; exact h.len, ?_, ?_⟩
  · rw [List.all_map]; exact List.all_eq_true.mpr fun _ _ => rfl
  · rw [List.getElem?_map, h.zero] <;> rfl
theorem things_int {H : Hp} {ns : List Int} : ∀ v ∈ ns.map V.int, Thing H v := fun v hv => by
  obtain ⟨z, _, rfl⟩ := List.mem_map.mp hv
  exact .int z
theorem look_tab {xs : List V} {n : Int} (h : lookM xs = some n) : ∃ ns k, Tab ns k ∧ xs = ns.map V.int ∧ n = (k : Nat) := by
  unfold lookM at h
  by_cases c : xs.length = 2 ^ manyOf xs.length ∧ xs.all isI = true ∧ xs[0]? = some (.int 0)
  · rw [if_pos c] at h
    obtain ⟨c1, c2, c3⟩ := c
    have hm := manyOf_lo xs.length
    have all : ∀ ys : List V, ys.all isI = true → ∃ ns : List Int, ys = ns.map V.int := by
      intro ys
      induction ys with
      | nil => intro _; exact ⟨[], rfl⟩
      | cons y r ih =>
        intro e
        rw [List.all_cons, Bool.and_eq_true] at e
        obtain ⟨ns, rfl⟩ := ih e.2
        cases y with
        | int z => exact ⟨z :: ns, rfl⟩
        | _ => exact absurd e.1 Bool.false_ne_true
    obtain ⟨ns, rfl⟩ := all xs c2
    refine ⟨ns, manyOf (ns.map V.int).length, ⟨by rw [List.length_map] at c1; rw [List.length_map]; exact c1, hm.1, hm.2, ?_⟩, rfl, (Option.some.inj h).symm⟩
    rw [List.getElem?_map] at c3
    cases e : ns[0]? with
    | none => rw [e] at c3; cases c3
    | some z => rw [e] at c3; exact congrArg some (V.int.inj (Option.some.inj c3))
  · rw [if_neg c] at h; cases h
/-- a number of these laws' tables -/
def Small (z : Int) : Prop := -1000000000000000000 ≤ z ∧ z ≤ 1000000000000000000
/-- bounds of a table's numbers -/
def Bnd (b : Int) (ns : List Int) : Prop := ∀ z ∈ ns, -b ≤ z ∧ z ≤ b
theorem Bnd.app {b : Int} {ns : List Int} {z : Int} (h : Bnd b ns) (h1 : -b ≤ z) (h2 : z ≤ b) : Bnd b (ns ++ [z]) := fun y hy => by
  rcases List.mem_append.mp hy with m | m
  · exact h y m
  · rw [List.mem_singleton.mp m]; exact ⟨h1, h2⟩
theorem Bnd.set {b : Int} {ns : List Int} {j : Nat} {z : Int} (h : Bnd b ns) (h1 : -b ≤ z) (h2 : z ≤ b) : Bnd b (ns.set j z) := fun y hy => by
  rcases List.mem_or_eq_of_mem_set hy with m | rfl
  · exact h y m
  · exact ⟨h1, h2⟩
theorem Bnd.mono {b c : Int} {ns : List Int} (h : Bnd b ns) (hbc : b ≤ c) : Bnd c ns := fun y hy => by
  have := h y hy
  exact ⟨by omega, by omega⟩
theorem Bnd.at {b : Int} {ns : List Int} (hb : 0 ≤ b) (h : Bnd b ns) (i : Int) : -b ≤ gi ns i ∧ gi ns i ≤ b := by
  unfold gi
  rw [List.getD_eq_getElem?_getD]
  cases e : ns[i.toNat]? with
  | none => exact ⟨by show -b ≤ 0; omega, by show (0 : Int) ≤ b; omega⟩
  | some z => exact h z (List.mem_of_getElem? e)
theorem pow_toNat {k : Nat} {i : Int} (h : i = (k : Int)) : (1 : Int) * 2 ^ i.toNat = ((2 ^ k : Nat) : Int) := by
  rw [h, Int.one_mul, Int.toNat_natCast, Int.natCast_pow] <;> rfl
/-- the table turned about -/
def turnM (ns : List Int) : List Int := (List.range ns.length).map fun g : Nat => gi ns ((ns.length : Int) - 1) - gi ns ((ns.length : Int) - 1 - (g : Int))
theorem turnM_len (ns : List Int) : (turnM ns).length = ns.length := by unfold turnM; rw [List.length_map, List.length_range]
theorem gi_map_range {n : Nat} {f : Nat → Int} {i : Int} (h0 : 0 ≤ i) (h : i < n) : gi ((List.range n).map f) i = f i.toNat := by
  unfold gi
  rw [List.getD_eq_getElem?_getD, List.getElem?_map, List.getElem?_range (by omega)] <;> rfl
theorem turnM_at {ns : List Int} {i : Int} (h0 : 0 ≤ i) (h : i < ns.length) : gi (turnM ns) i = gi ns ((ns.length : Int) - 1) - gi ns ((ns.length : Int) - 1 - i) := by
  unfold turnM
  rw [gi_map_range h0 h, Int.toNat_of_nonneg h0]
theorem gi_ext {ns ms : List Int} (hl : ns.length = ms.length) (h : ∀ i : Int, 0 ≤ i → i < ns.length → gi ns i = gi ms i) : ns = ms := by
  apply List.ext_getElem hl
  intro i h1 h2
  have := h (i : Int) (by omega) (by omega)
  unfold gi at this
  rw [Int.toNat_natCast, List.getD_eq_getElem?_getD, List.getD_eq_getElem?_getD, List.getElem?_eq_getElem h1, List.getElem?_eq_getElem h2] at this
  exact this
theorem Tab.pos {ns : List Int} {k : Nat} (h : Tab ns k) : 2 ≤ ns.length ∧ ns.length ≤ 64 := by
  rw [h.len]
  exact ⟨Nat.pow_le_pow_right (n := 2) (by decide) h.lo, Nat.pow_le_pow_right (n := 2) (by decide) h.hi⟩
theorem Tab.gi0 {ns : List Int} {k : Nat} (h : Tab ns k) : gi ns 0 = 0 := by
  unfold gi
  rw [List.getD_eq_getElem?_getD, show (0 : Int).toNat = 0 from rfl, h.zero] <;> rfl
theorem gi_zero {ns : List Int} (h : 0 < ns.length) (e : gi ns 0 = 0) : ns[0]? = some 0 := by
  unfold gi at e
  rw [List.getD_eq_getElem?_getD, show (0 : Int).toNat = 0 from rfl, List.getElem?_eq_getElem h] at e
  rw [List.getElem?_eq_getElem h]
  exact congrArg some e
theorem Tab.turn {ns : List Int} {k : Nat} (h : Tab ns k) : Tab (turnM ns) k := by
  have hp := h.pos
  refine ⟨by rw [turnM_len]; exact h.len, h.lo, h.hi, gi_zero (by rw [turnM_len]; omega) ?_⟩
  rw [turnM_at (by decide) (by omega)]
  simp
theorem turnM_turnM {ns : List Int} {k : Nat} (h : Tab ns k) : turnM (turnM ns) = ns := by
  have hp := h.pos
  refine gi_ext (by rw [turnM_len, turnM_len]) fun i h0 h1 => ?_
  rw [turnM_len, turnM_len] at h1
  rw [turnM_at h0 (by rw [turnM_len]; exact h1), turnM_len, turnM_at (by omega) (by omega), turnM_at (by omega) (by omega)]
  have e1 : (ns.length : Int) - 1 - ((ns.length : Int) - 1) = 0 := by omega
  have e2 : (ns.length : Int) - 1 - ((ns.length : Int) - 1 - i) = i := by omega
  rw [e1, e2, h.gi0]
  omega
theorem Tab.set {ns : List Int} {k : Nat} (h : Tab ns k) {j : Nat} {z : Int} (hj : 0 < j) : Tab (ns.set j z) k :=
  ⟨by rw [List.length_set]; exact h.len, h.lo, h.hi, by rw [List.getElem?_set_ne (by omega)]; exact h.zero⟩
theorem map_int_inj {ns ms : List Int} (h : ns.map V.int = ms.map V.int) : ns = ms := (List.map_inj_right (f := V.int) fun _ _ => V.int.inj).mp h
theorem Tab.same {ns : List Int} {j k : Nat} (h : Tab ns j) (h' : Tab ns k) : j = k := by
  have e : 2 ^ j = 2 ^ k := h.len.symm.trans h'.len
  rcases Nat.lt_trichotomy j k with l | l | l
  · have := Nat.pow_lt_pow_right (a := 2) (by decide) l; omega
  · exact l
  · have := Nat.pow_lt_pow_right (a := 2) (by decide) l; omega
end Sp

/-! Sub: groups as numbers below 64, their parts, sums over parts, dividends. -/
namespace Sp
open PySem L2 PyProof.Rows
/-- hand h stands in group g -/
def bitOn (h g : Nat) : Bool := (g &&& 2 ^ h) != 0
theorem bit_facts : ∀ h, h < 6 → ∀ g, g < 64 → (bitOn h g = true → g ^^^ 2 ^ h < g ∧ bitOn h (g ^^^ 2 ^ h) = false) ∧ (∀ j, j < 6 → j ≠ h → bitOn j (g ^^^ 2 ^ h) = bitOn j g) := by decide +kernel
def stepD (h : Nat) (f : Nat → Int) : Nat → Int := fun g => if bitOn h g = true then f g - f (g ^^^ 2 ^ h) else f g
def stepE (h : Nat) (f : Nat → Int) : Nat → Int := fun g => if bitOn h g = true then f g + f (g ^^^ 2 ^ h) else f g
def allD : Nat → (Nat → Int) → Nat → Int
  | 0, f => f
  | k + 1, f => stepD k (allD k f)
def allE : Nat → (Nat → Int) → Nat → Int
  | 0, f => f
  | k + 1, f => stepE k (allE k f)
def On64 (f f' : Nat → Int) : Prop := ∀ g, g < 64 → f g = f' g
theorem On64.trans {f f' f'' : Nat → Int} (a : On64 f f') (b : On64 f' f'') : On64 f f'' := fun g h => (a g h).trans (b g h)
theorem On64.symm {f f' : Nat → Int} (a : On64 f f') : On64 f' f := fun g h => (a g h).symm
theorem stepD_on {h : Nat} (hh : h < 6) {f f' : Nat → Int} (e : On64 f f') : On64 (stepD h f) (stepD h f') := fun g hg => by
  unfold stepD
  by_cases c : bitOn h g = true
  · have := ((bit_facts h hh g hg).1 c).1
    rw [if_pos c, if_pos c, e g hg, e _ (by omega)]
  · rw [if_neg c, if_neg c, e g hg]
theorem stepE_on {h : Nat} (hh : h < 6) {f f' : Nat → Int} (e : On64 f f') : On64 (stepE h f) (stepE h f') := fun g hg => by
  unfold stepE
  by_cases c : bitOn h g = true
  · have := ((bit_facts h hh g hg).1 c).1
    rw [if_pos c, if_pos c, e g hg, e _ (by omega)]
  · rw [if_neg c, if_neg c, e g hg]
theorem stepED {h : Nat} (hh : h < 6) (f : Nat → Int) : On64 (stepE h (stepD h f)) f := fun g hg => by
  unfold stepE
  by_cases c : bitOn h g = true
  · have b := (bit_facts h hh g hg).1 c
    rw [if_pos c]
    unfold stepD
    rw [if_pos c, if_neg (by rw [b.2]; exact Bool.false_ne_true)]
    omega
  · rw [if_neg c]; unfold stepD; rw [if_neg c]
theorem stepDE {h : Nat} (hh : h < 6) (f : Nat → Int) : On64 (stepD h (stepE h f)) f := fun g hg => by
  unfold stepD
  by_cases c : bitOn h g = true
  · have b := (bit_facts h hh g hg).1 c
    rw [if_pos c]
    unfold stepE
    rw [if_pos c, if_neg (by rw [b.2]; exact Bool.false_ne_true)]
    omega
  · rw [if_neg c]; unfold stepE; rw [if_neg c]
theorem xor_swap (g a b : Nat) : (g ^^^ a) ^^^ b = (g ^^^ b) ^^^ a := by rw [Nat.xor_assoc, Nat.xor_comm a b, ← Nat.xor_assoc]
theorem step_comm {h j : Nat} (hh : h < 6) (hj : j < 6) (hne : j ≠ h) (f : Nat → Int) : On64 (stepE h (stepD j f)) (stepD j (stepE h f)) := fun g hg => by
  have bh := bit_facts h hh g hg
  have bj := bit_facts j hj g hg
  have e1 : bitOn j (g ^^^ 2 ^ h) = bitOn j g := bh.2 j hj hne
  have e2 : bitOn h (g ^^^ 2 ^ j) = bitOn h g := bj.2 h hh (Ne.symm hne)
  unfold stepE stepD
  simp only [e1, e2, xor_swap g (2 ^ j) (2 ^ h)]
  by_cases c : bitOn h g = true <;> by_cases d : bitOn j g = true <;> simp [c, d] <;> omega
theorem allE_comm {j : Nat} (hj : j < 6) (f : Nat → Int) : ∀ k, k ≤ j → On64 (allE k (stepD j f)) (stepD j (allE k f))
  | 0, _ => fun _ _ => rfl
  | k + 1, hk => by
    have ih := allE_comm hj f k (by omega)
    exact (stepE_on (by omega) ih).trans (step_comm (by omega) hj (by omega) (allE k f))
theorem allED (f : Nat → Int) : ∀ k, k ≤ 6 → On64 (allE k (allD k f)) f
  | 0, _ => fun _ _ => rfl
  | k + 1, hk => by
    have ih := allED f k (by omega)
    have c := allE_comm (j := k) (by omega) (allD k f) k (Nat.le_refl k)
    have a : On64 (allE (k + 1) (allD (k + 1) f)) (stepE k (stepD k (allE k (allD k f)))) := stepE_on (by omega) c
    exact (a.trans (stepED (by omega) _)).trans ih
theorem allD_comm {j : Nat} (hj : j < 6) (f : Nat → Int) : ∀ k, k ≤ j → On64 (allD k (stepE j f)) (stepE j (allD k f))
  | 0, _ => fun _ _ => rfl
  | k + 1, hk => by
    have ih := allD_comm hj f k (by omega)
    exact (stepD_on (by omega) ih).trans (step_comm hj (by omega) (by omega) (allD k f)).symm
theorem allDE (f : Nat → Int) : ∀ k, k ≤ 6 → On64 (allD k (allE k f)) f
  | 0, _ => fun _ _ => rfl
  | k + 1, hk => by
    have ih := allDE f k (by omega)
    have c := allD_comm (j := k) (by omega) (allE k f) k (Nat.le_refl k)
    have a : On64 (allD (k + 1) (allE (k + 1) f)) (stepD k (stepE k (allD k (allE k f)))) := stepD_on (by omega) c
    exact (a.trans (stepDE (by omega) _)).trans ih
/-! ### parts of a group, rising -/
def subs (g : Nat) : List Nat := (List.range 64).filter fun q => (q &&& g) == q
def partSum (f : Nat → Int) (g : Nat) : Int := ((subs g).map f).sum
def el : Nat → Nat → List Nat
  | 0, g => [g]
  | k + 1, g => if bitOn k g = true then el k (g ^^^ 2 ^ k) ++ el k g else el k g
theorem el_subs : ∀ k, k < 7 → ∀ g, g < 2 ^ k → el k g = subs g := by decide +kernel
theorem sum_app (a b : List Int) : (a ++ b).sum = a.sum + b.sum := List.sum_append
theorem allE_el (f : Nat → Int) : ∀ k g, allE k f g = ((el k g).map f).sum
  | 0, g => by show f g = ([g].map f).sum; simp
  | k + 1, g => by
    show stepE k (allE k f) g = _
    unfold stepE el
    by_cases c : bitOn k g = true
    · rw [if_pos c, if_pos c, List.map_append, sum_app, allE_el f k g, allE_el f k _]
      omega
    · rw [if_neg c, if_neg c, allE_el f k g]
theorem allE_sum (f : Nat → Int) {k g : Nat} (hk : k ≤ 6) (hg : g < 2 ^ k) : allE k f g = partSum f g := by
  rw [allE_el, el_subs k (by omega) g hg]
  rfl
/-- the parts but nobody, up to p -/
def someSubs (g p : Nat) : List Nat := (List.range (p + 1)).filter fun q => (q &&& g) == q && decide (0 < q)
theorem someSubs_step : ∀ g, g < 64 → ∀ p, p < 64 → (0 < p ∧ p &&& g = p) → someSubs g p = someSubs g ((p - 1) &&& g) ++ [p] ∧ (p - 1) &&& g < p ∧ ((p - 1) &&& g) &&& g = (p - 1) &&& g := by decide +kernel
theorem someSubs_all : ∀ g, g < 64 → subs g = 0 :: someSubs g g := by decide +kernel
theorem someSubs_zero (g : Nat) : someSubs g 0 = [] := by
  unfold someSubs
  rw [show List.range (0 + 1) = [0] from rfl]
  simp
def someSum (f : Nat → Int) (g p : Nat) : Int := ((someSubs g p).map f).sum
theorem someSum_step (f : Nat → Int) {g p : Nat} (hg : g < 64) (hp : p < 64) (h0 : 0 < p) (hs : p &&& g = p) : someSum f g p = someSum f g ((p - 1) &&& g) + f p := by
  unfold someSum
  rw [(someSubs_step g hg p hp ⟨h0, hs⟩).1, List.map_append, sum_app]
  simp
theorem partSum_some (f : Nat → Int) {g : Nat} (hg : g < 64) : partSum f g = f 0 + someSum f g g := by
  unfold partSum someSum
  rw [someSubs_all g hg, List.map_cons, List.sum_cons]
/-! ### lists by their places -/
/-- the list of f's values at 0 .. n - 1 -/
def tl (n : Nat) (f : Nat → Int) : List Int := (List.range n).map f
def fn (ns : List Int) : Nat → Int := fun g => gi ns (g : Int)
def divM (ns : List Int) (k : Nat) : List Int := tl ns.length (allD k (fn ns))
theorem tl_len (n : Nat) (f : Nat → Int) : (tl n f).length = n := by unfold tl; rw [List.length_map, List.length_range]
theorem gi_tl {n : Nat} {f : Nat → Int} {i : Int} (h0 : 0 ≤ i) (h : i < n) : gi (tl n f) i = f i.toNat := gi_map_range h0 h
theorem gi_tln {n : Nat} {f : Nat → Int} {i : Nat} (h : i < n) : gi (tl n f) (i : Int) = f i := by rw [gi_tl (by omega) (by omega), Int.toNat_natCast]
theorem tl_fn (ns : List Int) : tl ns.length (fn ns) = ns := by
  refine gi_ext (tl_len _ _) fun i h0 h1 => ?_
  rw [tl_len] at h1
  rw [gi_tl h0 h1]
  unfold fn
  rw [Int.toNat_of_nonneg h0]
theorem tl_congr {n : Nat} {f f' : Nat → Int} (h : ∀ i, i < n → f i = f' i) : tl n f = tl n f' := by
  unfold tl
  exact List.map_congr_left fun i hi => h i (List.mem_range.mp hi)
theorem tl_set {n : Nat} {f : Nat → Int} {j : Nat} {z : Int} (hj : j < n) : (tl n f).set j z = tl n fun i => if i = j then z else f i := by
  apply List.ext_getElem?
  intro i
  unfold tl
  by_cases e : j = i
  · subst e
    rw [List.getElem?_set_self (by rw [List.length_map, List.length_range]; exact hj), List.getElem?_map, List.getElem?_range hj]
    simp
  · rw [List.getElem?_set_ne e, List.getElem?_map, List.getElem?_map]
    cases h : (List.range n)[i]? with
    | none => rfl
    | some x =>
      have : x = i := by
        have hi := (List.getElem?_eq_some_iff.mp h).1
        rw [List.length_range] at hi
        rw [List.getElem?_range hi] at h
        exact (Option.some.inj h).symm
      subst this
      simp [Ne.symm e]
/-! ### bits of Python's ints -/
theorem and_nat (a b : Nat) : Builtin.bitAnd (a : Int) (b : Int) = ((a &&& b : Nat) : Int) := by rw [bitAnd_pp (by omega) (by omega), Int.toNat_natCast, Int.toNat_natCast]
theorem or_nat (a b : Nat) : Builtin.bitOr (a : Int) (b : Int) = ((a ||| b : Nat) : Int) := by rw [Bits.bitOr_pp (by omega) (by omega), Int.toNat_natCast, Int.toNat_natCast]
theorem xor_nat (a b : Nat) : Builtin.bitXor (a : Int) (b : Int) = ((a ^^^ b : Nat) : Int) := by rw [Bits.bitXor_pp (by omega) (by omega), Int.toNat_natCast, Int.toNat_natCast]
theorem shl_nat (h : Nat) : (1 : Int) * 2 ^ ((h : Int)).toNat = ((2 ^ h : Nat) : Int) := pow_toNat rfl
theorem bitOn_iff {h g : Nat} : (!decide (((g &&& 2 ^ h : Nat) : Int) = 0)) = bitOn h g := by
  unfold bitOn
  by_cases e : g &&& 2 ^ h = 0
  · rw [e]; rfl
  · rw [decide_eq_false (by omega), bne_iff_ne.mpr e] <;> rfl
/-- below 2 ^ k only the values below 2 ^ k are asked -/
theorem bit_cut : ∀ k, k < 7 → ∀ h, h < k → ∀ g, g < 2 ^ k → bitOn h g = true → g ^^^ 2 ^ h < 2 ^ k := by decide +kernel
theorem allE_cut' {k : Nat} (hk : k ≤ 6) {f f' : Nat → Int} (e : ∀ i, i < 2 ^ k → f i = f' i) : ∀ j, j ≤ k → ∀ g, g < 2 ^ k → allE j f g = allE j f' g
  | 0, _, g, hg => e g hg
  | j + 1, hj, g, hg => by
    show stepE j (allE j f) g = stepE j (allE j f') g
    unfold stepE
    by_cases c : bitOn j g = true
    · rw [if_pos c, if_pos c, allE_cut' hk e j (by omega) g hg, allE_cut' hk e j (by omega) _ (bit_cut k (by omega) j (by omega) g hg c)]
    · rw [if_neg c, if_neg c, allE_cut' hk e j (by omega) g hg]
theorem allE_cut {k : Nat} (hk : k ≤ 6) {f f' : Nat → Int} (e : ∀ i, i < 2 ^ k → f i = f' i) {g : Nat} (hg : g < 2 ^ k) : allE k f g = allE k f' g := allE_cut' hk e k (Nat.le_refl k) g hg
theorem allD_cut' {k : Nat} (hk : k ≤ 6) {f f' : Nat → Int} (e : ∀ i, i < 2 ^ k → f i = f' i) : ∀ j, j ≤ k → ∀ g, g < 2 ^ k → allD j f g = allD j f' g
  | 0, _, g, hg => e g hg
  | j + 1, hj, g, hg => by
    show stepD j (allD j f) g = stepD j (allD j f') g
    unfold stepD
    by_cases c : bitOn j g = true
    · rw [if_pos c, if_pos c, allD_cut' hk e j (by omega) g hg, allD_cut' hk e j (by omega) _ (bit_cut k (by omega) j (by omega) g hg c)]
    · rw [if_neg c, if_neg c, allD_cut' hk e j (by omega) g hg]
theorem allD_cut {k : Nat} (hk : k ≤ 6) {f f' : Nat → Int} (e : ∀ i, i < 2 ^ k → f i = f' i) {g : Nat} (hg : g < 2 ^ k) : allD k f g = allD k f' g := allD_cut' hk e k (Nat.le_refl k) g hg
/-! ### hands of a group -/
theorem bitOn_div : ∀ h, h < 6 → ∀ g, g < 64 → bitOn h g = decide (g / 2 ^ h % 2 = 1) := by decide +kernel
theorem bit_int {h g : Nat} (hh : h < 6) (hg : g < 64) : decide (Builtin.bitAnd ((g : Int) / 2 ^ ((h : Int)).toNat) 1 = 1) = bitOn h g := by
  rw [bitOn_div h hh g hg, bitAnd_m1, Int.toNat_natCast]
  have e : (g : Int) / 2 ^ h % 2 = ((g / 2 ^ h % 2 : Nat) : Int) := by
    rw [Int.natCast_emod, Int.natCast_ediv, Int.natCast_pow] <;> rfl
  rw [e]
  by_cases c : g / 2 ^ h % 2 = 1
  · rw [c]; rfl
  · rw [decide_eq_false c, decide_eq_false (by omega)]
def handsM (g : Nat) : List Nat := (List.range 6).filter fun h => bitOn h g
theorem filter_yes {p : Nat → Bool} {n : Nat} (h : p n = true) {α : Type} (f : Nat → α) : ((List.range (n + 1)).filter p).map f = ((List.range n).filter p).map f ++ [f n] := by
  rw [List.range_succ, List.filter_append, List.map_append, List.filter_cons, if_pos h] <;> rfl
theorem filter_no {p : Nat → Bool} {n : Nat} (h : p n = false) {α : Type} (f : Nat → α) : ((List.range (n + 1)).filter p).map f = ((List.range n).filter p).map f := by
  rw [List.range_succ, List.filter_append, List.map_append, List.filter_cons, if_neg (by rw [h]; exact Bool.false_ne_true)]
  show _ ++ [] = _
  rw [List.append_nil]
theorem filter_len (p : Nat → Bool) (n : Nat) : ((List.range n).filter p).length ≤ n := by
  have := List.length_filter_le p (List.range n)
  rw [List.length_range] at this
  exact this
/-- a list of naturals as Python's ints -/
abbrev vnat : Nat → V := fun n => .int (n : Int)
theorem vnat_map (l : List Nat) : l.map vnat = (l.map fun n : Nat => (n : Int)).map V.int := by rw [List.map_map] <;> rfl
theorem handsM_lt {g h : Nat} (hm : h ∈ handsM g) : h < 6 := by
  unfold handsM at hm
  exact List.mem_range.mp (List.mem_filter.mp hm).1
/-! ### spread: the hands of a group of blocks -/
def spreadTo (g : Nat) (bs : List Nat) : Nat → Nat
  | 0 => 0
  | i + 1 => if bitOn i g = true then spreadTo g bs i ||| bs.getD i 0 else spreadTo g bs i
def spreadM (g : Nat) (bs : List Nat) : Nat := spreadTo g bs bs.length
theorem spreadTo_step {g : Nat} {bs : List Nat} {i z : Nat} (h : bs[i]? = some z) : spreadTo g bs (i + 1) = if bitOn i g = true then spreadTo g bs i ||| z else spreadTo g bs i := by
  show (if bitOn i g = true then spreadTo g bs i ||| bs.getD i 0 else spreadTo g bs i) = _
  rw [List.getD_eq_getElem?_getD, h] <;> rfl
theorem map_at {α : Type} {f : α → V} {l : List α} {i : Nat} {x : V} (h : (l.map f)[i]? = some x) : ∃ z, l[i]? = some z ∧ x = f z := by
  rw [List.getElem?_map] at h
  cases e : l[i]? with
  | none => rw [e] at h; cases h
  | some z => rw [e] at h; exact ⟨z, rfl, (Option.some.inj h).symm⟩
theorem take_map {α β : Type} {l : List α} {i : Nat} {z : α} (h : l[i]? = some z) (f : α → β) : (l.take (i + 1)).map f = (l.take i).map f ++ [f z] := by
  rw [List.take_add_one, h, List.map_append] <;> rfl
theorem handsM_len (g : Nat) : (handsM g).length ≤ 6 := filter_len _ 6
theorem pow6 {n : Nat} (h : n ≤ 6) : 2 ^ n ≤ 64 := Nat.pow_le_pow_right (n := 2) (by decide) h
/-- the table cut to g -/
def cutM (ns : List Int) (g : Nat) : List Int := (List.range (2 ^ (handsM g).length)).map fun q => gi ns ((spreadM q ((handsM g).map (2 ^ ·)) : Nat) : Int)
theorem spread_le : ∀ {g : Nat}, g < 64 → ∀ q, q < 2 ^ (handsM g).length → spreadM q ((handsM g).map (2 ^ ·)) ≤ g := by decide +kernel
theorem at_mem {xs : List V} {i : Int} (h0 : 0 ≤ i) (h1 : i < xs.length) : ∃ v, atI xs i = some v ∧ v ∈ xs := by
  obtain ⟨n, rfl⟩ := Int.eq_ofNat_of_zero_le h0
  have hn : n < xs.length := by omega
  exact ⟨xs[n], atI_nat (List.getElem?_eq_getElem hn), List.getElem_mem hn⟩
theorem ixN_last {n : Nat} (h : 0 < n) : ixN n (-1) = some (n - 1) := by
  unfold ixN
  rw [if_neg (by decide), if_pos (by omega)]
  congr 1
  omega
theorem at_last {ns : List Int} (h : 0 < ns.length) : atI (ns.map V.int) (-1) = some (.int (gi ns ((ns.length : Int) - 1))) := by
  unfold atI
  rw [List.length_map, ixN_last h, Option.bind_some, List.getElem?_map, List.getElem?_eq_getElem (by omega)]
  unfold gi
  rw [List.getD_eq_getElem?_getD, show ((ns.length : Int) - 1).toNat = ns.length - 1 by omega, List.getElem?_eq_getElem (by omega)]
  rfl
theorem handsM_whole : ∀ k, k < 7 → (handsM (2 ^ k - 1)).length = k := by decide +kernel
theorem handsM_pos : ∀ g, g < 64 → 0 < g → 1 ≤ (handsM g).length := by decide +kernel
theorem spread_whole : ∀ k, k < 7 → ∀ q, q < 2 ^ k → spreadM q ((handsM (2 ^ k - 1)).map (2 ^ ·)) = q := by decide +kernel
theorem spread_nought : ∀ g, g < 64 → spreadM 0 ((handsM g).map (2 ^ ·)) = 0 := by decide +kernel
theorem cutM_len (ns : List Int) (g : Nat) : (cutM ns g).length = 2 ^ (handsM g).length := by unfold cutM; rw [List.length_map, List.length_range]
theorem cutM_tab {ns : List Int} {k g : Nat} (tb : Tab ns k) (h0 : 0 < g) (hg : g < ns.length) : Tab (cutM ns g) (handsM g).length := by
  have hp := tb.pos
  have h64 : g < 64 := by omega
  refine ⟨cutM_len _ _, handsM_pos g h64 h0, handsM_len g, gi_zero (by rw [cutM_len]; exact Nat.two_pow_pos _) ?_⟩
  unfold cutM
  rw [gi_map_range (by decide) (by have := Nat.two_pow_pos (handsM g).length; omega), show (0 : Int).toNat = 0 from rfl, spread_nought g h64]
  exact tb.gi0
theorem cutM_whole {ns : List Int} {k : Nat} (tb : Tab ns k) : cutM ns (ns.length - 1) = ns := by
  have e : (handsM (ns.length - 1)).length = k := by rw [tb.len]; exact handsM_whole k (by have := tb.hi; omega)
  refine gi_ext (by rw [cutM_len, e, tb.len]) fun i h0 h1 => ?_
  rw [cutM_len, e] at h1
  unfold cutM
  rw [gi_map_range h0 (by rw [e]; exact h1), tb.len, spread_whole k (by have := tb.hi; omega) i.toNat (by omega), Int.toNat_of_nonneg h0]
def sumSpread (q : Nat) (bs : List Nat) : Nat := (((List.range bs.length).filter fun j => bitOn j q).map fun j => bs.getD j 0).sum
theorem sumSpread_is : ∀ g, g < 64 → ∀ q, q < 2 ^ (handsM g).length → sumSpread q ((handsM g).map (2 ^ ·)) = spreadM q ((handsM g).map (2 ^ ·)) := by decide +kernel
theorem sum_cast (l : List Nat) : (l.map fun n : Nat => (n : Int)).sum = ((l.sum : Nat) : Int) := by
  induction l with
  | nil => rfl
  | cons x r ih => rw [List.map_cons, List.sum_cons, List.sum_cons, ih, Int.natCast_add]
end Sp

/-! Mg: a table with the hands of a group merged into one. -/
namespace Sp
open PySem PySem.Spec L2 PyProof.Rows
def leastM (g : Nat) : Nat := (handsM g).headD 0
def keepP (g h : Nat) : Bool := h == leastM g || !bitOn h g
def keptM (g k : Nat) : List Nat := (List.range k).filter (keepP g)
def blockOf (g h : Nat) : Nat := if h = leastM g then g else 2 ^ h
def blocksM (g k : Nat) : List Nat := (keptM g k).map (blockOf g)
def mergedM (ns : List Int) (g k : Nat) : List Int := (List.range (2 ^ (keptM g k).length)).map fun q => gi ns ((spreadM q (blocksM g k) : Nat) : Int)
def leftP (g k h : Nat) : Bool := decide (2 ^ h < 2 ^ k) && (h == leastM g || !decide (h ∈ handsM g))
def lawW (g q : Nat) (ls : List Nat) : Nat := if bitOn (leastM g) (sumSpread q (ls.map (2 ^ ·))) = true then sumSpread q (ls.map (2 ^ ·)) - 2 ^ leastM g + g else sumSpread q (ls.map (2 ^ ·))
def mgOne (g k q : Nat) : Bool := decide (spreadM q (blocksM g k) < 2 ^ k) && (lawW g q (keptM g k) == spreadM q (blocksM g k)) && (!bitOn (leastM g) (sumSpread q ((keptM g k).map (2 ^ ·))) || decide (2 ^ leastM g ≤ sumSpread q ((keptM g k).map (2 ^ ·)))) && decide (sumSpread q ((keptM g k).map (2 ^ ·)) < 64)
def mgOk (g k : Nat) : Bool := decide (1 ≤ (keptM g k).length) && ((List.range 6).filter (leftP g k) == keptM g k) && (spreadM 0 (blocksM g k) == 0) && (List.range (2 ^ (keptM g k).length)).all (mgOne g k)
theorem mgOk_all : ∀ k, k < 7 → ∀ g, g < 2 ^ k → 0 < g → mgOk g k = true := by decide +kernel
theorem mgF (k : Nat) (hk : k < 7) (g : Nat) (hg : g < 2 ^ k) (h0 : 0 < g) : 1 ≤ (keptM g k).length ∧ (List.range 6).filter (leftP g k) = keptM g k ∧ spreadM 0 (blocksM g k) = 0 ∧
    ∀ q, q < 2 ^ (keptM g k).length → spreadM q (blocksM g k) < 2 ^ k ∧ lawW g q (keptM g k) = spreadM q (blocksM g k) ∧ (bitOn (leastM g) (sumSpread q ((keptM g k).map (2 ^ ·))) = true → 2 ^ leastM g ≤ sumSpread q ((keptM g k).map (2 ^ ·))) ∧ sumSpread q ((keptM g k).map (2 ^ ·)) < 64 := by
  have h := mgOk_all k hk g hg h0
  unfold mgOk at h
  simp only [Bool.and_eq_true, decide_eq_true_eq, beq_iff_eq, List.all_eq_true] at h
  obtain ⟨⟨⟨a, b⟩, c⟩, d⟩ := h
  refine ⟨a, b, c, fun q hq => ?_⟩
  have h2 := d q (List.mem_range.mpr hq)
  unfold mgOne at h2
  simp only [Bool.and_eq_true, decide_eq_true_eq, beq_iff_eq, Bool.or_eq_true, Bool.not_eq_true'] at h2
  obtain ⟨⟨⟨a2, b2⟩, c2⟩, d2⟩ := h2
  refine ⟨a2, b2, fun e => ?_, d2⟩
  rcases c2 with c2 | c2
  · rw [e] at c2; cases c2
  · exact c2
theorem leastF : ∀ g, g < 64 → 0 < g → (handsM g)[0]? = some (leastM g) ∧ leastM g < 6 := by decide +kernel
theorem mgWhole : ∀ k, k < 7 → 1 ≤ k → keptM (2 ^ k - 1) k = [0] ∧ spreadM 0 (blocksM (2 ^ k - 1) k) = 0 ∧ spreadM 1 (blocksM (2 ^ k - 1) k) = 2 ^ k - 1 := by decide +kernel
theorem handsM_all : ∀ k, k < 7 → handsM (2 ^ k - 1) = List.range k := by decide +kernel
theorem keptM_len (g k : Nat) : (keptM g k).length ≤ k := filter_len _ k
theorem blocksM_len (g k : Nat) : (blocksM g k).length = (keptM g k).length := by unfold blocksM; rw [List.length_map]
theorem mergedM_len (ns : List Int) (g k : Nat) : (mergedM ns g k).length = 2 ^ (keptM g k).length := by unfold mergedM; rw [List.length_map, List.length_range]
theorem mergedM_tab {ns : List Int} {k g : Nat} (tb : Tab ns k) (h0 : 0 < g) (hg : g < ns.length) : Tab (mergedM ns g k) (keptM g k).length := by
  have hp := tb.pos
  obtain ⟨f1, _, f3, _⟩ := mgF k (by have := tb.hi; omega) g (by rw [← tb.len]; exact hg) h0
  refine ⟨mergedM_len _ _ _, f1, Nat.le_trans (keptM_len g k) tb.hi, gi_zero (by rw [mergedM_len]; exact Nat.two_pow_pos _) ?_⟩
  unfold mergedM
  rw [gi_map_range (by decide) (by have := Nat.two_pow_pos (keptM g k).length; omega), show (0 : Int).toNat = 0 from rfl, f3]
  exact tb.gi0
theorem mergedM_whole {ns : List Int} {k : Nat} (tb : Tab ns k) : mergedM ns (ns.length - 1) k = [0, gi ns ((ns.length : Int) - 1)] := by
  have hp := tb.pos
  obtain ⟨f1, f2, f3⟩ := mgWhole k (by have := tb.hi; omega) tb.lo
  unfold mergedM
  rw [tb.len, f1, show List.range (2 ^ [0].length) = [0, 1] from rfl]
  show [gi ns _, gi ns _] = _
  rw [f2, f3, show gi ns ((0 : Nat) : Int) = 0 from tb.gi0]
  have h2 : 1 ≤ 2 ^ k := Nat.two_pow_pos k
  congr 3
  omega
theorem bit_int0 {h g : Nat} (hh : h < 6) (hg : g < 64) : decide (Builtin.bitAnd ((g : Int) / 2 ^ ((h : Int)).toNat) 1 = 0) = !bitOn h g := by
  have e := bit_int hh hg
  rw [← e, bitAnd_m1]
  by_cases c : (g : Int) / 2 ^ ((h : Int)).toNat % 2 = 1
  · rw [c]; rfl
  · rw [decide_eq_false c, decide_eq_true (by omega)] <;> rfl
theorem range_at {n i z : Nat} (h : (List.range n)[i]? = some z) : z = i ∧ i < n := by
  obtain ⟨h1, h2⟩ := List.getElem?_eq_some_iff.mp h
  rw [List.length_range] at h1
  rw [List.getElem_range] at h2
  exact ⟨h2.symm, h1⟩
theorem keep_yes {g i : Nat} (h : keepP g i = true) : (((List.range (i + 1)).filter (keepP g)).map (blockOf g)).map vnat = (((List.range i).filter (keepP g)).map (blockOf g)).map vnat ++ [vnat (blockOf g i)] := by
  rw [List.range_succ, List.filter_append, List.map_append, List.map_append, List.filter_cons, if_pos h] <;> rfl
theorem keep_no {g i : Nat} (h : keepP g i = false) : (((List.range (i + 1)).filter (keepP g)).map (blockOf g)).map vnat = (((List.range i).filter (keepP g)).map (blockOf g)).map vnat := by
  rw [List.range_succ, List.filter_append, List.map_append, List.map_append, List.filter_cons, if_neg (by rw [h]; exact Bool.false_ne_true)]
  show _ ++ [] = _
  rw [List.append_nil]
def offOk (m h g : Nat) : Bool := bitOn h g || (decide (g ||| 2 ^ h = g + 2 ^ h) && decide (g + 2 ^ h < 2 ^ m))
theorem off_all : ∀ m, m < 7 → ∀ h, h < m → ∀ g, g < 2 ^ m → offOk m h g = true := by decide +kernel
theorem off_bit {m h g : Nat} (hm : m < 7) (hh : h < m) (hg : g < 2 ^ m) (hb : bitOn h g = false) : g ||| 2 ^ h = g + 2 ^ h ∧ g + 2 ^ h < 2 ^ m := by
  have e := off_all m hm h hh g hg
  unfold offOk at e
  rw [hb, Bool.false_or, Bool.and_eq_true, decide_eq_true_eq, decide_eq_true_eq] at e
  exact e
theorem bits_len : ∀ m, m < 7 → (List.range 6).filter (fun k => decide (2 ^ k < 2 ^ m)) = List.range m := by decide +kernel
theorem rep_flat (m : Nat) : (List.replicate m [V.int 0]).flatten = (List.replicate m (0 : Int)).map V.int := by
  induction m with
  | zero => rfl
  | succ m ih => rw [List.replicate_succ, List.replicate_succ, List.flatten_cons, List.map_cons, ih] <;> rfl
theorem rep_tl {m : Nat} {f : Nat → Int} (h : ∀ i, i < m → f i = 0) : List.replicate m (0 : Int) = tl m f := by
  unfold tl
  apply List.ext_getElem?
  intro i
  rw [List.getElem?_map, List.getElem?_replicate]
  by_cases hi : i < m
  · rw [if_pos hi, List.getElem?_range hi, Option.map_some, h i hi]
  · rw [if_neg hi, List.getElem?_eq_none (by rw [List.length_range]; omega)] <;> rfl
/-- the comprehension over a list of our own -/
theorem cp_listO {K : PySem.W.Frag} {B : Hp} {cs : Cells} {H : Hp} {σ : L2.St} {te : TE} {g : TG} {tt : TT} {vs : List Nat} {QD : Addr → Hp → Prop} {a : Addr} {xs : List V} (F : Nat → List V) (w : Own B cs H) (j : Nat) (hx : cs[j]? = some (a, .lst xs)) (h0 : F 0 = [])
    (hs : ∀ D i x H', xs[i]? = some x → PvC B cs D F i H' → g x (wipe σ vs) H' fun σ2 H2 => wipe σ2 vs = wipe σ vs ∧ tt σ2 H2 fun b H3 =>
      if b = true then te σ2 H3 fun y H4 => ∃ acc, H4 D = some (.lst acc) ∧ acc.length < sizeLine ∧ PvC B cs D F (i + 1) (upd H4 D (.lst (acc ++ [y]))) else PvC B cs D F (i + 1) H3)
    (hq : ∀ D H', Own B ((D, .lst (F xs.length)) :: cs) H' → QD D H') : ∀ D, H D = none → ∃ W : Nat → Nat → Hp → Prop, (∃ m, W 0 m (upd H D (.lst []))) ∧ ∀ i m H, W i m H →
      ((Itl K a).stop i H ∧ QD D H) ∨ ((Itl K a).go i H ∧ ∃ Nx : Hp → Prop, (∀ H', Nx H' → ∃ m', m' < m ∧ W (i + 1) m' H') ∧ ∀ x H', (Itl K a).yld i H x H' → g x (wipe σ vs) H' fun σ2 H2 => wipe σ2 vs = wipe σ vs ∧ tt σ2 H2 fun b H3 =>
        if b = true then te σ2 H3 fun y H4 => ∃ acc, H4 D = some (.lst acc) ∧ acc.length < sizeLine ∧ Nx (upd H4 D (.lst (acc ++ [y]))) else Nx H3) := fun D hD =>
  lc_list (PvC B cs D F) (by unfold PvC; rw [h0]; exact w.new hD) (fun i H' hi p => Own.sq p (j + 1) hx) (fun i x H' hi p => hs D i x H' hi p) (fun H' p => hq D H' p)
theorem cut_to {xs : List V} {i : Nat} : cutV xs none (some (i : Int)) = xs.take i := by
  unfold cutV
  rw [HT.sIx_none, HT.sIx_nat, List.drop_zero, Nat.sub_zero]
  by_cases h : i ≤ xs.length
  · rw [Nat.min_eq_left h]
  · rw [Nat.min_eq_right (by omega), List.take_of_length_le (Nat.le_refl _), List.take_of_length_le (by omega)]
theorem cut_from {xs : List V} {i : Nat} : cutV xs (some (i : Int)) none = xs.drop i := by
  unfold cutV
  rw [HT.sIx_none, HT.sIx_nat, List.take_of_length_le (by rw [List.length_drop]; omega)]
  by_cases h : i ≤ xs.length
  · rw [Nat.min_eq_left h]
  · rw [Nat.min_eq_right (by omega), List.drop_eq_nil_of_le (Nat.le_refl _), List.drop_eq_nil_of_le (by omega)]
/-- x not in a list of whole numbers -/
theorem inV_nat {h : Nat} : ∀ {ns : List Nat}, inV (.int (h : Int)) (ns.map vnat) = decide (h ∈ ns)
  | [] => rfl
  | n :: ns => by
    have ih := inV_nat (h := h) (ns := ns)
    unfold inV at ih ⊢
    rw [List.map_cons, List.any_cons, ih]
    show (((n : Int) == (h : Int)) || decide (h ∈ ns)) = _
    rw [Bool.eq_iff_iff]
    simp only [Bool.or_eq_true, beq_iff_eq, decide_eq_true_eq, List.mem_cons]
    constructor
    · rintro (e | e)
      · exact .inl (by omega)
      · exact .inr e
    · rintro (e | e)
      · exact .inl (by omega)
      · exact .inr e
theorem all_flat_nat : ∀ ns : List Nat, (ns.map vnat).all flatV = true
  | [] => rfl
  | n :: ns => by rw [List.map_cons, List.all_cons, all_flat_nat ns] <;> rfl
theorem x_notInN {K : PySem.W.Frag} {H : Hp} {Q : VK} {p : Addr} {h : Nat} {ns : List Nat} (hS : SqL K H p (ns.map vnat)) (q : Q (.bl (!decide (h ∈ ns))) H) : rIn K true (.int (h : Int)) (.ref p) H Q :=
  ⟨p, _, rfl, .inl hS, rfl, all_flat_nat ns, by rw [inV_nat]; exact q⟩
end Sp

/-! Dp: == of nested data. -/
namespace Sp
open PySem PySem.Spec L2 PyProof.Rows
mutual
theorem eqv_self : ∀ d : PyData, d.canLay0 = true → PyData.eqv d d = true
  | .none, _ => by simp [PyData.eqv]
  | .bool b, _ => by simp [PyData.eqv]
  | .int i, _ => by simp [PyData.eqv]
  | .str x, _ => by simp [PyData.eqv]
  | .list xs, h => by
    rw [PyData.canLay0] at h
    rw [PyData.eqv]
    exact eqvAll_self xs h
  | .tuple xs, h => by
    rw [PyData.canLay0] at h
    rw [PyData.eqv]
    exact eqvAll_self xs h
  | .dict _, h => by rw [PyData.canLay0] at h; cases h
theorem eqvAll_self : ∀ ds : List PyData, PyData.canLayAll0 ds = true → PyData.eqvAll ds ds = true
  | [], _ => by simp [PyData.eqvAll]
  | d :: ds, h => by
    rw [PyData.canLayAll0, Bool.and_eq_true] at h
    rw [PyData.eqvAll, eqv_self d h.1, eqvAll_self ds h.2] <;> rfl
end
/-- laid without dicts, at most k deep -/
structure LayD (k : Nat) (d : PyData) : Prop where
  lay : d.canLay0 = true
  dep : d.depth ≤ k
theorem layAll : ∀ {k : Nat} {ds : List PyData}, (∀ d ∈ ds, LayD k d) → PyData.canLayAll0 ds = true ∧ PyData.depthAll ds ≤ k
  | k, [], _ => ⟨by simp [PyData.canLayAll0], by simp [PyData.depthAll]⟩
  | k, d :: ds, h => by
    have ⟨h1, h2⟩ := layAll fun x hx => h x (.tail _ hx)
    have h0 := h d (.head _)
    exact ⟨by rw [PyData.canLayAll0, h0.lay, h1] <;> rfl, by have := h0.dep; simp only [PyData.depthAll]; omega⟩
theorem LayD.int {k : Nat} (h : 1 ≤ k) (i : Int) : LayD k (.int i) := ⟨by simp [PyData.canLay0], by simp only [PyData.depth]; omega⟩
theorem LayD.bool {k : Nat} (h : 1 ≤ k) (b : Bool) : LayD k (.bool b) := ⟨by simp [PyData.canLay0], by simp only [PyData.depth]; omega⟩
theorem LayD.none {k : Nat} (h : 1 ≤ k) : LayD k .none := ⟨by simp [PyData.canLay0], by simp only [PyData.depth]; omega⟩
theorem LayD.str {k : Nat} (h : 1 ≤ k) {x : Str} (hx : PyData.strOk x = true) : LayD k (.str x) := ⟨by simpa [PyData.canLay0] using hx, by simp only [PyData.depth]; omega⟩
theorem LayD.list {k : Nat} {ds : List PyData} (h : ∀ d ∈ ds, LayD k d) : LayD (k + 1) (.list ds) := by
  have ⟨h1, h2⟩ := layAll h
  exact ⟨by rw [PyData.canLay0]; exact h1, by simp only [PyData.depth]; omega⟩
theorem LayD.tuple {k : Nat} {ds : List PyData} (h : ∀ d ∈ ds, LayD k d) : LayD (k + 1) (.tuple ds) := by
  have ⟨h1, h2⟩ := layAll h
  exact ⟨by rw [PyData.canLay0]; exact h1, by simp only [PyData.depth]; omega⟩
theorem LayD.ints {ns : List Int} : LayD 2 (.list (ns.map PyData.int)) := LayD.list fun d hd => by
  obtain ⟨n, _, rfl⟩ := List.mem_map.mp hd
  exact LayD.int (by decide) n
theorem LayD.shaped {k : Nat} {d : PyData} (h : LayD k d) (hk : k ≤ 64 := by decide) : SeqAt.shaped d = true := by
  unfold SeqAt.shaped
  rw [Bool.and_eq_true]
  exact ⟨h.lay, decide_eq_true (Nat.le_trans h.dep hk)⟩
section
variable {K : PySem.W.Frag} {H : Hp} {Q : VK} {x y : V} {d : PyData} {k : Nat}
theorem x_eqD (h1 : Dp K H x d) (h2 : Dp K H y d) (l : LayD k d) (q : Q (.bl true) H) (hk : k ≤ 64 := by decide) : rEqX K x y H Q :=
  .inr ⟨_, _, h1, h2, l.shaped hk, l.shaped hk, by rw [eqv_self d l.lay]; exact q⟩
theorem x_neD (h1 : Dp K H x d) (h2 : Dp K H y d) (l : LayD k d) (q : Q (.bl false) H) (hk : k ≤ 64 := by decide) : rNeX K x y H Q :=
  .inr ⟨_, _, h1, h2, l.shaped hk, l.shaped hk, by rw [eqv_self d l.lay]; exact q⟩
end
mutual
theorem Dp.same {K : PySem.W.Frag} {H H' : Hp} (s : Same H H') : ∀ (d : PyData) (v : V), Dp K H v d → Dp K H' v d
  | .none, _, h => by cases h; exact .non
  | .bool b, _, h => by cases h; exact .bl b
  | .int i, _, h => by cases h; exact .int i
  | .str x, _, h => by cases h; exact .str x
  | .list ds, _, h => by
    cases h with
    | lst h1 h2 => exact .lst (s.seq h1) (DpAll.same s ds _ h2)
  | .tuple ds, _, h => by
    cases h with
    | tup h1 h2 => exact .tup (same_sqT s h1) (DpAll.same s ds _ h2)
  | .dict _, _, h => by cases h
theorem DpAll.same {K : PySem.W.Frag} {H H' : Hp} (s : Same H H') : ∀ (ds : List PyData) (vs : List V), DpAll K H vs ds → DpAll K H' vs ds
  | [], _, h => by cases h; exact .nil
  | d :: ds, _, h => by
    cases h with
    | cons h1 h2 => exact .cons (Dp.same s d _ h1) (DpAll.same s ds _ h2)
end
theorem DpAll.app {K : PySem.W.Frag} {H : Hp} : ∀ {vs ws : List V} {ds es : List PyData}, DpAll K H vs ds → DpAll K H ws es → DpAll K H (vs ++ ws) (ds ++ es)
  | _, _, _, _, .nil, h => h
  | _, _, _, _, .cons h1 h2, h => .cons h1 (DpAll.app h2 h)
end Sp

/-! Xc: isinstance of the error that an except suite holds, by one class and by a written tuple of classes. -/
namespace Sp
open PySem PySem.Spec L2 PyProof.Rows
/-- isinstance(e, c): the error at a, of the class cls (an own one, without a dict of its own) -/
def rIsEX (K : PySem.W.Frag) (a : Addr) (cls : Value) (d : Option Addr) : List V → Hp → VK → Prop := fun xs H Q =>
  ∃ (D : Addr) (c : V) (cv : Value) (b : Bool), cls = .ref D ∧ d = none ∧ ExcC K D ∧ xs = [.ref a, c] ∧ ClsV c cv ∧ PySem.W.kitOne K (.ref D) cv = some b ∧ Q (.bl b) H
def rIsETX (K : PySem.W.Frag) (a : Addr) (cls : Value) (d : Option Addr) : List V → Hp → VK → Prop := fun xs H Q =>
  ∃ (D tp : Addr) (cs : List V) (us : List Value) (b : Bool), cls = .ref D ∧ d = none ∧ ExcC K D ∧ xs = [.ref a, .ref tp] ∧ H tp = some (.tup cs) ∧ Paired ClsV cs us ∧ PySem.W.kitAny K (.ref D) us = some b ∧ Q (.bl b) H
theorem suite_at {X : Cx} {pins pn : List (Addr × Obj)} {σ : L2.St} {H : Hp} {s : Shared} {a D : Addr} {oe : Obj} (hz : Zc (.ref D) none oe) (hf : ∃ vs, oe.data = .fields vs) (I : Inv (X.suite a ((a, oe) :: pn)) pins σ H s) : PySem.W.InstAt s.heap a oe D none := by
  obtain ⟨hget, _⟩ := I.pin (a, oe) (List.mem_append.mpr (.inl List.mem_cons_self))
  obtain ⟨vs, hv⟩ := hf
  obtain ⟨oc, od, oda, osl⟩ := oe
  obtain ⟨h1, h2⟩ := hz
  dsimp only at h1 h2 hv
  subst h1 h2 hv
  exact ⟨hget, rfl, rfl, trivial⟩
theorem call_isEX {X : Cx} {K : PySem.W.Frag} (hK : X.K = K) {a : Addr} {cls : Value} {d : Option Addr} {oe : Obj} {pn : List (Addr × Obj)} (hz : Zc cls d oe) (hf : ∃ vs, oe.data = .fields vs) :
    CallR (X.suite a ((a, oe) :: pn)) (.builtin "isinstance") (rIsEX K a cls d) := by
  subst hK
  intro pins s σ H xs us Q I r h
  obtain ⟨D, c, cv, b, rfl, rfl, C, rfl, hc, e, q⟩ := h
  obtain ⟨u1, u2, rfl, r1, r2⟩ := vals2 r
  cases (show u1 = Value.ref a from r1)
  have ec := hc.eq r2
  subst ec
  exact PySem.W.kia_one (PySem.W.handS_kitx_exc C.hg C.hk C.hs C.hd C.ha C.hn C.ht C.hm) I.kIn (suite_at hz hf I) e (fun z => nomatch z) fun tk => ⟨.bl b, H, I.kept (t' := tk) fun _ _ z => z, rfl, q⟩
theorem call_isETX {X : Cx} {K : PySem.W.Frag} (hK : X.K = K) {a : Addr} {cls : Value} {d : Option Addr} {oe : Obj} {pn : List (Addr × Obj)} (hz : Zc cls d oe) (hf : ∃ vs, oe.data = .fields vs) :
    CallR (X.suite a ((a, oe) :: pn)) (.builtin "isinstance") (rIsETX K a cls d) := by
  subst hK
  intro pins s σ H xs us Q I r h
  obtain ⟨D, tp, cs, ws, b, rfl, rfl, C, rfl, hT, k, e, q⟩ := h
  obtain ⟨u1, u2, rfl, r1, r2⟩ := vals2 r
  cases (show u1 = Value.ref a from r1)
  cases (show u2 = Value.ref tp from r2)
  obtain ⟨_, its, rv, o, h1, h2, n, h3⟩ := (show ObjOk _ _ H s.heap tp (.tup cs) from I.hok tp _ hT)
  have e3 := ClsV.all k rv
  subst e3
  obtain ⟨oc, od, dt, sl⟩ := o
  simp only at h2 h3
  subst h2 h3
  exact PySem.W.kia_tup (PySem.W.handS_kitx_exc C.hg C.hk C.hs C.hd C.ha C.hn C.ht C.hm) I.kIn (suite_at hz hf I) h1 e (fun z => nomatch z) fun tk => ⟨.bl b, H, I.kept (t' := tk) fun _ _ z => z, rfl, q⟩
/-- what is told of a class that is asked for -/
structure AskC (K : PySem.W.Frag) (C : Addr) : Prop where
  cls : PySem.W.isClsIn K C = true
  ty : PySem.W.typeIn K (.ref C) = some (.type "type")
  self : PySem.W.subIn K (.ref C) (.ref C) = some true
theorem kit_own {K : PySem.W.Frag} {D C : Addr} {b : Bool} (c : AskC K C) (h : PySem.W.subIn K (.ref D) (.ref C) = some b) : PySem.W.kitOne K (.ref D) (.ref C) = some b := by
  unfold PySem.W.kitOne
  by_cases e : D = C
  · subst e
    rw [c.self] at h
    rw [if_pos (by simp), ← h]
  · rw [if_neg (by simpa using e)]
    unfold PySem.W.kitCls
    have h2 : (PySem.W.clsIn K C).isSome = true := c.cls
    simp only [h2, c.ty]
    simpa using h
theorem kit_VE {K : PySem.W.Frag} {D : Addr} {b : Bool} (h : PySem.W.subIn K (.ref D) (.type "ValueError") = some b) : PySem.W.kitOne K (.ref D) (.type "ValueError") = some b := by
  unfold PySem.W.kitOne
  rw [if_neg (by simp)]
  unfold PySem.W.kitCls
  have h2 : PySem.W.kitMeta "ValueError" = true := by decide +kernel
  simp only [h2, if_true]
  exact h
theorem kit_no {K : PySem.W.Frag} {t : Value} {c : Value} {cs : List Value} (h : PySem.W.kitOne K t c = some false) (hr : PySem.W.kitAny K t cs = some false) : PySem.W.kitAny K t (c :: cs) = some false :=
  kitAny_cons h (fun _ => hr) (fun z => nomatch z)
/-- + of two lists that are read, however they stand -/
def rCatK (K : PySem.W.Frag) : R2 := fun x y H Q => ∃ l b xs zs, x = .ref l ∧ y = .ref b ∧ SqL K H l xs ∧ SqL K H b zs ∧ xs.length + zs.length ≤ sizeLine ∧ ∀ p, H p = none → Q (.ref p) (upd H p (.lst (xs ++ zs)))
theorem op_catX {X : Cx} : OpR X (binaryOp .Add) (rCatK X.K) := by
  intro pins s σ H x y v u Q I rx ry h
  obtain ⟨l, b, xs, zs, rfl, rfl, hH, hB, hz, q⟩ := h
  cases rx
  cases ry
  obtain ⟨its, r, ⟨⟨cls, dd, data, sl⟩, n, ho, hc, _, hd⟩, _⟩ := I.list hH
  obtain ⟨its2, r2, ⟨⟨cls2, dd2, data2, sl2⟩, n2, ho2, hc2, _, hd2⟩, _⟩ := I.list hB
  simp only at hc hd hc2 hd2
  subst hc hd hc2 hd2
  have hl := r.length
  have hl2 := r2.length
  have e : its.toArray ++ its2.toArray = (its ++ its2).toArray := by simp
  refine concat_meets ⟨_, ho, rfl⟩ ⟨_, ho2, rfl⟩ noFill_list_add seq_list_add PySem.F.slot_list_add PySem.F.entry_list_add (PySem.F.args_list_add_2 _ _) (list_addW l b its.toArray its2.toArray n n2 dd dd2 sl sl2 (by rw [List.size_toArray, List.size_toArray]; omega)) ⟨ho, ho2, ?_⟩
  rw [e]
  exact ⟨.ref _, _, I.lnew (t' := s.toks) (r.append r2) (by rw [List.length_append]; omega), rfl, q _ I.fresh⟩
theorem op_catK {X : Cx} {K : PySem.W.Frag} (h : X.K = K) : OpR X (binaryOp .Add) (rCatK K) := h ▸ op_catX
theorem x_cat {K : PySem.W.Frag} {H : Hp} {Q : VK} {l b : Addr} {xs zs : List V} (h1 : SqL K H l xs) (h2 : SqL K H b zs) (hz : xs.length + zs.length ≤ sizeLine) (q : ∀ p, H p = none → Q (.ref p) (upd H p (.lst (xs ++ zs)))) : rCatK K (.ref l) (.ref b) H Q := ⟨l, b, xs, zs, rfl, rfl, h1, h2, hz, q⟩
theorem pe_revLK {X : Cx} {K : PySem.W.Frag} (h : X.K = K) {e : Expr} {te : TE} {k : Nat} {p1 p2 p3 pos : Pos} (he : PE X e te) : PE X (.Subscript e (.Slice none none (some (.UnaryOp .USub (.Constant (.int 1) k p1) p2)) p3) pos) (tRevL K te) := h ▸ pe_revL he
theorem x_rev {K : PySem.W.Frag} {te : TE} {σ : L2.St} {H : Hp} {Q : VK} (h : te σ H fun x H1 => ∃ a xs, x = .ref a ∧ SqL K H1 a xs ∧ ∀ p, H1 p = none → Q (.ref p) (upd H1 p (.lst xs.reverse))) : tRevL K te σ H Q := h
section
variable {K : PySem.W.Frag} {H : Hp} {Q : VK} {a D : Addr}
theorem x_callS {sp : Sp} {E : L2.St → XK} {tr : TA} {σ : L2.St} (h : tr σ H fun vs H1 => sp vs H1 Q (E σ)) : tCallS sp E tr σ H Q := h
theorem x_isE {C : Addr} {b : Bool} (e : ExcC K D) (c : AskC K C) (h : PySem.W.subIn K (.ref D) (.ref C) = some b) (q : Q (.bl b) H) : rIsEX K a (.ref D) none [.ref a, .ref C] H Q :=
  ⟨D, _, _, b, rfl, rfl, e, rfl, .own C, kit_own c h, q⟩
theorem x_isEV {b : Bool} (e : ExcC K D) (h : PySem.W.subIn K (.ref D) (.type "ValueError") = some b) (q : Q (.bl b) H) : rIsEX K a (.ref D) none [.ref a, .ty "ValueError"] H Q :=
  ⟨D, _, _, b, rfl, rfl, e, rfl, .ty _, kit_VE h, q⟩
theorem x_isET {tp : Addr} {Cs : List Addr} {b : Bool} (e : ExcC K D) (hT : H tp = some (.tup (Cs.map V.ref))) (h : PySem.W.kitAny K (.ref D) (Cs.map Value.ref) = some b) (q : Q (.bl b) H) : rIsETX K a (.ref D) none [.ref a, .ref tp] H Q :=
  ⟨D, tp, _, _, b, rfl, rfl, e, rfl, hT, (by
    clear hT h q
    induction Cs with
    | nil => exact .nil
    | cons c r ih => exact .cons (.own c) ih), h, q⟩
end
end Sp

/-! Ht: defs that an except suite calls with the error that it holds. -/
namespace Sp
open PySem PySem.Spec L2 PyProof.Rows
/-- what such a def promises; sp knows where the error stands, its class and its dict -/
structure FnP (P : Program) (w : World) (K : PySem.W.Frag) (mg : Str → Option Value) (base : Heap) (k : Nat) (f : Addr) (fd : FuncData) (ps : List Str) (sp : Addr → Value → Option Addr → L2.Sp) : Prop where
  len : ∀ a c d vs H Q E, sp a c d vs H Q E → vs.length = ps.length
  run : ∀ (A : Around) (outer : List Env) (s : Shared) (H : Hp) (args : Args) (us : List Value) (vs : List V) (Q : VK) (E : XK) (a : Addr) (oe : Obj),
    L2H.RoomH k A → L2H.PinOk outer H s (a, oe) → (∃ fs, oe.data = .fields fs) → Env0 P w K mg base A outer s H → BindsTo s fd args (ps.zip us) → Vals vs us → sp a oe.cls oe.dict vs H Q E →
    codeAny (model P w) A (.call (.ref f) args) (CR (L2.CX P w) outer P w H s Q E) s
section
variable {P : Program} {w : World} {K : PySem.W.Frag} {mg : Str → Option Value} {base : Heap} {k : Nat} {f : Addr} {fd : FuncData} {ps : List Str} {sp : Addr → Value → Option Addr → L2.Sp}
theorem okP {nm qual : Str} {st : Stmt} {N : List Str} (F : Fun K nm qual st f fd) (S : FnScope N ps (defScope st)) (len : ∀ a c d vs H Q E, sp a c d vs H Q E → vs.length = ps.length)
    (hB : ∀ (cdv : Value) (A : Around) (outer : List Env) (s : Shared) (H : Hp) (vs : List V) (Q : VK) (E : XK) (a : Addr) (oe : Obj), L2H.RoomH k (A.deeper (envOfC qual (defScope st) s.heap.objs.size f cdv)) → (∃ fs, oe.data = .fields fs) → sp a oe.cls oe.dict vs H Q E →
      ∃ t, PSs (L2H.cxH (L2.CX P w) P w K mg base N qual (defScope st) f cdv A outer s H E (a, oe)) (defBody st) t ∧ t { nx := fun _ H' => Q .non H', rt := Q } (L2.start N vs) H) :
    FnP P w K mg base (k + 1) f fd ps sp := by
  obtain ⟨oc, od, kV, doc, pm, an, cdv, ct, osl, rfl, lk, hcd⟩ := F.ex
  constructor
  · exact len
  intro A outer s H args us vs Q E a oe room pinned flds env bnd vals want
  have stay : ∀ b o, base.get? b = some o → s.heap.get? b = some o := fun b o e => (env.bs b o e).1
  have inK : K.In s.heap := env.mod.kin.keeps stay
  have noLim : s.heap.NoLimit := env.mod.nolimit.keeps stay
  have place : ∀ y ∈ ps.zip us, (defScope st).names.lookup y.1 = some .local ∨ ((defScope st).names.lookup y.1 = some .cell ∧ ((cellsFrom (s.heap.objs.size + 1) (defScope st).names []).lookup y.1).isSome = true) := by
    intro y hy
    obtain ⟨n, v⟩ := y
    rcases S.par n (List.of_mem_zip hy).1 with q | q
    · exact .inl q
    · refine .inr ⟨q, ?_⟩
      exact PySem.W.cellsFrom_some _ _ _ (.inl q)
  have cr := PySem.W.codeRec_of inK hcd
  refine codeAny_call_function room.depth (inK _ _ lk) rfl S.co S.gen rfl cr (bnd _ _ _ _ (wpAny_newFunctionEnv_cells S.kind place ?_))
  intro env' e1 s1 x
  subst e1
  refine ⟨noLim.keeps x.toInCall.keep, codeAny_func ?_⟩
  obtain ⟨t, ht, hq⟩ := hB cdv A outer s H vs Q E a oe (room.deeper _) flds want
  have I := L2H.inv_startH (CX := L2.CX P w) (E := E) S pinned env (len _ _ _ _ _ _ _ want) vals x
  refine wpAny_mono (ht.run [] s1 _ H _ I hq) (fun fl s' hs => ?_) (fun _ _ hs => hs)
  cases fl with
  | brk => obtain ⟨_, _, _, q⟩ := hs; exact q.elim
  | cont => obtain ⟨_, _, _, q⟩ := hs; exact q.elim
  | next =>
    obtain ⟨_, H', J, q⟩ := hs
    exact ⟨V.non, H', J.os, J.bare, J.base, J.hok, rfl, q⟩
  | ret u =>
    obtain ⟨v, _, H', J, rv, q⟩ := hs
    exact ⟨v, H', J.os, J.bare, J.base, J.hok, rv, q⟩
end
section
variable {X : Cx} {K : PySem.W.Frag} {k : Nat} {f : Addr} {fd : FuncData} {ps : List Str} {sp : Addr → Value → Option Addr → L2.Sp} {nm : Str} {q pos : Pos} {e : Expr} {es : List Expr} {t : TA} {a : Addr} {oe : Obj} {pn : List (Addr × Obj)}
/-- the call, in the suite that holds the error at a -/
theorem pe_callP {cls : Value} {d : Option Addr} (hz : Zc cls d oe) (hf : ∃ vs, oe.data = .fields vs) (F : FnP X.prog X.w X.K X.mg X.base k f fd ps sp) (hr : Room k X.A) (hg : Gl X nm) (hm : X.mg nm = some (.ref f)) (hk : PySem.W.keepIn X.K (.ref f) = true) (hb : Binds X.K fd ps [])
    (ha : PA (X.suite a ((a, oe) :: pn)) (e :: es) t) (hdb : (nm == ("__debug__" : Str)) = false := by decide) (he : starEach (e :: es) X.env = (false, eval e X.env) :: starEach es X.env := by rfl) (hpl : (backTo pos (starEach es X.env)).any (·.1) = false := by rfl) :
    PE (X.suite a ((a, oe) :: pn)) (.Call (.Name nm q) (e :: es) [] pos) (tCallS (sp a cls d) (fun _ _ _ _ => False) t) := by
  obtain ⟨z1, z2⟩ := hz
  subst z1 z2
  constructor
  intro pins s σ H Q I h
  refine wpAny_Call_Name_kw (ld_glob I hg hm ?_ hdb)
  refine PySem.W.callWith_K (h₀ := X.base) I.ok.mod.kin hk (thn (ha.run pos pins s σ H _ I h) ?_) he hpl
  rintro us s1 ⟨vs, H1, I1, r, want⟩
  refine ⟨I1.kIn, ?_⟩
  have hl : us.length = ps.length := r.length ▸ F.len _ _ _ _ _ _ _ want
  have b := hb s1 us I1.kIn (by rw [List.append_nil]; exact hl)
  rw [List.append_nil] at b
  have P1 := I1.pin (a, oe) (List.mem_append_left _ (List.mem_cons_self))
  have pinned : L2H.PinOk X.stack H1 s1 (a, oe) := by
    refine ⟨P1.1, P1.2.1, fun hm => ?_, P1.2.2.2.2⟩
    rcases List.mem_cons.mp (I1.stkSub a hm) with z | z
    · exact P1.2.2.1 z
    · exact P1.2.2.2.1 z
  have room : L2H.RoomH k (X.suite a ((a, oe) :: pn)).A := ⟨hr.dp, hr.un⟩
  refine wpAny_call (codeAny_mono (F.run _ X.stack s1 H1 ⟨us, []⟩ us vs Q (fun _ _ _ => False) a oe room pinned hf I1.env0 b r want) ?_)
  intro res s' hq
  match res, hq with
  | .error e, hq => exact (by obtain ⟨_, _, _, _, _, _, _, _, _, _, _, _, z⟩ := hq; exact z.elim)
  | .ok (.ret u), hq => exact I1.after hq
  | .ok .next, hq => exact hq.elim
  | .ok .brk, hq => exact hq.elim
  | .ok .cont, hq => exact hq.elim
/-- isinstance of it, within the def -/
theorem inst_pin {pins : List (Addr × Obj)} {σ : L2.St} {H : Hp} {s : Shared} {D : Addr} (hp : (a, oe) ∈ X.pn) (hz : Zc (.ref D) none oe) (hf : ∃ vs, oe.data = .fields vs) (I : Inv X pins σ H s) : PySem.W.InstAt s.heap a oe D none := by
  obtain ⟨g, _⟩ := I.pin (a, oe) (List.mem_append_left _ hp)
  obtain ⟨fs, hv⟩ := hf
  obtain ⟨c1, c2, c3, c4⟩ := oe
  obtain ⟨z1, z2⟩ := hz
  dsimp only at z1 z2 hv
  subst z1 z2 hv
  exact ⟨g, rfl, rfl, trivial⟩
theorem call_isPX (hK : X.K = K) (hp : (a, oe) ∈ X.pn) (hf : ∃ vs, oe.data = .fields vs) : CallR X (.builtin "isinstance") (rIsEX K a oe.cls oe.dict) := by
  subst hK
  intro pins s σ H xs us Q I r h
  obtain ⟨D, c, cv, b, e1, e2, C, rfl, hc, ek, want⟩ := h
  obtain ⟨u1, u2, rfl, r1, r2⟩ := vals2 r
  obtain rfl : u1 = Value.ref a := r1
  obtain rfl := hc.eq r2
  have at1 := inst_pin (D := D) hp ⟨e1, e2⟩ hf I
  refine PySem.W.kia_one (PySem.W.handS_kitx_exc C.hg C.hk C.hs C.hd C.ha C.hn C.ht C.hm) I.kIn at1 ek (fun z => by cases z) fun tk => ?_
  exact ⟨.bl b, H, I.kept (t' := tk) fun _ _ z => z, rfl, want⟩
theorem call_isPTX (hK : X.K = K) (hp : (a, oe) ∈ X.pn) (hf : ∃ vs, oe.data = .fields vs) : CallR X (.builtin "isinstance") (rIsETX K a oe.cls oe.dict) := by
  subst hK
  intro pins s σ H xs us Q I r h
  obtain ⟨D, tp, cs, ws, b, e1, e2, C, rfl, hT, kc, ek, want⟩ := h
  obtain ⟨u1, u2, rfl, r1, r2⟩ := vals2 r
  obtain rfl : u1 = Value.ref a := r1
  obtain rfl : u2 = Value.ref tp := r2
  obtain ⟨_, its, rv, o, h1, h2, n, h3⟩ := (show ObjOk _ _ H s.heap tp (.tup cs) from I.hok tp _ hT)
  obtain rfl := ClsV.all kc rv
  obtain ⟨o1, o2, o3, o4⟩ := o
  dsimp only at h2 h3
  subst h2 h3
  have at1 := inst_pin (D := D) hp ⟨e1, e2⟩ hf I
  refine PySem.W.kia_tup (PySem.W.handS_kitx_exc C.hg C.hk C.hs C.hd C.ha C.hn C.ht C.hm) I.kIn at1 h1 ek (fun z => by cases z) fun tk => ?_
  exact ⟨.bl b, H, I.kept (t' := tk) fun _ _ z => z, rfl, want⟩
end
end Sp

/-! Cpe: comprehensions whose items are not told ahead; ranges with a step; xs[::k]. -/
namespace Sp
open PySem PySem.Spec L2 PyProof.Rows
/-- behind i turns: the list at D holds some acc of which G is told; what is made within stands in B2 -/
def PvE (B : Hp) (cs : Cells) (D : Addr) (G : Hp → Nat → List V → Prop) (i : Nat) (H : Hp) : Prop := ∃ B2 acc, Same B B2 ∧ G B2 i acc ∧ Own B2 ((D, .lst acc) :: cs) H
section
variable {K : PySem.W.Frag} {σ : L2.St} {B H : Hp} {cs : Cells} {Q : VK} {te : TE} {g : TG} {tt : TT} {vs : List Nat} {QD : Addr → Hp → Prop} {G : Hp → Nat → List V → Prop}
theorem cpE_fin {D : Addr} {i : Nat} {H4 B2 : Hp} {acc : List V} {y : V} (w : Own B2 ((D, .lst acc) :: cs) H4) (s : Same B B2) (hg : G B2 (i + 1) (acc ++ [y])) (hl : acc.length < 1000000) :
    ∃ acc', H4 D = some (.lst acc') ∧ acc'.length < sizeLine ∧ PvE B cs D G (i + 1) (upd H4 D (.lst (acc' ++ [y]))) :=
  ⟨acc, Own.get w 0 rfl, Nat.lt_of_lt_of_le hl (by decide), B2, acc ++ [y], s, hg, Own.put (o' := .lst (acc ++ [y])) w 0 rfl⟩
theorem cpE_range {lo : Int} {n : Nat} (w : Own B cs H) (h0 : G B 0 [])
    (hs : ∀ D i H' B2 acc, i < n → Same B B2 → G B2 i acc → Own B2 ((D, .lst acc) :: cs) H' → g (.int (lo + i)) (wipe σ vs) H' fun σ2 H2 => wipe σ2 vs = wipe σ vs ∧ tt σ2 H2 fun b H3 =>
      if b = true then te σ2 H3 fun y H4 => ∃ acc', H4 D = some (.lst acc') ∧ acc'.length < sizeLine ∧ PvE B cs D G (i + 1) (upd H4 D (.lst (acc' ++ [y]))) else PvE B cs D G (i + 1) H3)
    (hq : ∀ D H' B2 acc, Same B B2 → G B2 n acc → Own B2 ((D, .lst acc) :: cs) H' → QD D H') : ∀ D, H D = none → ∃ W : Nat → Nat → Hp → Prop, (∃ m, W 0 m (upd H D (.lst []))) ∧ ∀ i m H, W i m H →
      ((Itr lo n).stop i H ∧ QD D H) ∨ ((Itr lo n).go i H ∧ ∃ Nx : Hp → Prop, (∀ H', Nx H' → ∃ m', m' < m ∧ W (i + 1) m' H') ∧ ∀ x H', (Itr lo n).yld i H x H' → g x (wipe σ vs) H' fun σ2 H2 => wipe σ2 vs = wipe σ vs ∧ tt σ2 H2 fun b H3 =>
        if b = true then te σ2 H3 fun y H4 => ∃ acc, H4 D = some (.lst acc) ∧ acc.length < sizeLine ∧ Nx (upd H4 D (.lst (acc ++ [y]))) else Nx H3) := fun D hD =>
  lc_range (PvE B cs D G) ⟨B, [], Same.refl _, h0, w.new hD⟩ (fun i H' hi ⟨B2, acc, s, hg, w2⟩ => hs D i H' B2 acc hi s hg w2) (fun H' ⟨B2, acc, s, hg, w2⟩ => hq D H' B2 acc s hg w2)
theorem cpE_list {a : Addr} {xs : List V} (w : Own B cs H) (hx : SqL K B a xs) (h0 : G B 0 [])
    (hs : ∀ D i x H' B2 acc, xs[i]? = some x → Same B B2 → G B2 i acc → Own B2 ((D, .lst acc) :: cs) H' → g x (wipe σ vs) H' fun σ2 H2 => wipe σ2 vs = wipe σ vs ∧ tt σ2 H2 fun b H3 =>
      if b = true then te σ2 H3 fun y H4 => ∃ acc', H4 D = some (.lst acc') ∧ acc'.length < sizeLine ∧ PvE B cs D G (i + 1) (upd H4 D (.lst (acc' ++ [y]))) else PvE B cs D G (i + 1) H3)
    (hq : ∀ D H' B2 acc, Same B B2 → G B2 xs.length acc → Own B2 ((D, .lst acc) :: cs) H' → QD D H') : ∀ D, H D = none → ∃ W : Nat → Nat → Hp → Prop, (∃ m, W 0 m (upd H D (.lst []))) ∧ ∀ i m H, W i m H →
      ((Itl K a).stop i H ∧ QD D H) ∨ ((Itl K a).go i H ∧ ∃ Nx : Hp → Prop, (∀ H', Nx H' → ∃ m', m' < m ∧ W (i + 1) m' H') ∧ ∀ x H', (Itl K a).yld i H x H' → g x (wipe σ vs) H' fun σ2 H2 => wipe σ2 vs = wipe σ vs ∧ tt σ2 H2 fun b H3 =>
        if b = true then te σ2 H3 fun y H4 => ∃ acc, H4 D = some (.lst acc) ∧ acc.length < sizeLine ∧ Nx (upd H4 D (.lst (acc ++ [y]))) else Nx H3) := fun D hD =>
  lc_list (PvE B cs D G) ⟨B, [], Same.refl _, h0, w.new hD⟩ (fun i H' hi ⟨B2, acc, s, hg, w2⟩ => w2.seq (s.seq hx)) (fun i x H' hx ⟨B2, acc, s, hg, w2⟩ => hs D i x H' B2 acc hx s hg w2) (fun H' ⟨B2, acc, s, hg, w2⟩ => hq D H' B2 acc s hg w2)
end
/-! ### ranges with a step -/
theorem x_iR3 {σ : L2.St} {H : Hp} {R : It → Hp → Prop} {tr : TA} (h : tr σ H fun vs H1 => ∃ (i j c : Int) (n : Nat), vs = [.int i, .int j, .int c] ∧ RgC i j c n ∧ R (Itc i c n) H1) : iRng3 tr σ H R := h
theorem rgc_up {i j c : Int} (hc : 0 < c) (hc2 : c < 1000) (hi : 0 ≤ i) (hi2 : i < 1000000) (hj : 0 ≤ j) (hj2 : j < 1000000) : RgC i j c (if i < j then (j - i - 1) / c + 1 else 0).toNat := by
  have hb : 0 ≤ (if i < j then (j - i - 1) / c + 1 else 0) ∧ (if i < j then (j - i - 1) / c + 1 else 0) ≤ 1000000 := by
    by_cases h : i < j
    · rw [if_pos h]
      have h1 := Int.ediv_nonneg (a := j - i - 1) (b := c) (by omega) (by omega)
      have h2 := Int.ediv_le_self (a := j - i - 1) c (by omega)
      omega
    · rw [if_neg h]; omega
  have e : Builtin.Range.rangeSize i j c = (if i < j then (j - i - 1) / c + 1 else 0) := by
    unfold Builtin.Range.rangeSize
    rw [if_pos (show c > 0 by omega)]
  refine ⟨by omega, by omega, ?_, by rw [e]; omega⟩
  unfold Builtin.Range.small
  rw [e]
  simp only [Builtin.Range.rangeFitsLong, Bool.and_eq_true, Bool.or_eq_true, decide_eq_true_eq, beq_iff_eq]
  generalize (if i < j then (j - i - 1) / c + 1 else 0) = z at hb ⊢
  refine ⟨by omega, .inr ?_⟩
  rw [if_pos (by omega), Bool.and_eq_true, decide_eq_true_eq, decide_eq_true_eq]
  omega
theorem rgc_in {i j c : Int} {k : Nat} (hc : 0 < c) (h : k < (if i < j then (j - i - 1) / c + 1 else 0).toNat) : i + (k : Int) * c < j := by
  by_cases hij : i < j
  · rw [if_pos hij] at h
    have h1 : (k : Int) ≤ (j - i - 1) / c := by omega
    have h2 : (k : Int) * c ≤ j - i - 1 := (Int.le_ediv_iff_mul_le hc).mp h1
    omega
  · rw [if_neg hij] at h; simp at h
/-! ### xs[::k] -/
def everyK (xs : List V) (k : Nat) : List V := (List.range ((xs.length + k - 1) / k)).filterMap fun i => xs[k * i]?
def tEvL (K : PySem.W.Frag) (k : Nat) (te : TE) : TE := fun σ H Q => te σ H fun x H1 => ∃ a xs, x = .ref a ∧ SqL K H1 a xs ∧ ∀ p, H1 p = none → Q (.ref p) (upd H1 p (.lst (everyK xs k)))
theorem x_ev {K : PySem.W.Frag} {k : Nat} {te : TE} {σ : L2.St} {H : Hp} {Q : VK} (h : te σ H fun x H1 => ∃ a xs, x = .ref a ∧ SqL K H1 a xs ∧ ∀ p, H1 p = none → Q (.ref p) (upd H1 p (.lst (everyK xs k)))) : tEvL K k te σ H Q := h
theorem vals_pick {xs : List V} {its : List Value} (r : Vals xs its) : ∀ ids : List Nat, Vals (ids.filterMap (xs[·]?)) (ids.filterMap (its[·]?))
  | [] => .nil
  | i :: ids => by
    have ih := vals_pick r ids
    rw [List.filterMap_cons, List.filterMap_cons]
    cases e : xs[i]? with
    | none =>
      have : its[i]? = none := by
        rw [List.getElem?_eq_none_iff] at e ⊢
        have := r.length
        omega
      rw [this]; exact ih
    | some x =>
      obtain ⟨u, hu, ru⟩ := r.get e
      rw [hu]
      exact .cons ru ih
theorem pick_every {its : List Value} {k : Nat} (hk : 0 < k) : slicePick its.toArray none none (some (k : Int)) = ((List.range ((its.length + k - 1) / k)).map (k * ·) |>.filterMap (its[·]?)).toArray := by
  have hk' : (k : Int) > 0 := by omega
  unfold slicePick sliceBounds
  simp only [Option.getD_some, if_pos hk', List.size_toArray, List.getElem?_toArray]
  congr 2
  unfold sliceRange
  simp only [if_pos hk']
  have e : (if (0 : Int) < (its.length : Int) then ((its.length : Int) - 0 + (k : Int) - 1) / (k : Int) else 0).toNat = (its.length + k - 1) / k := by
    by_cases h : 0 < its.length
    · rw [if_pos (by omega)]
      have : (its.length : Int) - 0 + (k : Int) - 1 = ((its.length + k - 1 : Nat) : Int) := by omega
      rw [this, ← Int.natCast_ediv, Int.toNat_natCast]
    · have : its.length = 0 := by omega
      rw [this, if_neg (by decide)]
      show 0 = (0 + k - 1) / k
      rw [Nat.div_eq_of_lt (by omega)]
  rw [e]
  exact List.map_congr_left fun i _ => by
    rw [Int.zero_add, ← Int.natCast_mul, Int.toNat_natCast]
theorem pe_evLK {X : Cx} {K : PySem.W.Frag} (hK : X.K = K) {e : Expr} {te : TE} {k : Nat} {j : Nat} {p1 p3 pos : Pos} (hk : 0 < k) (he : PE X e te) : PE X (.Subscript e (.Slice none none (some (.Constant (.int (k : Int)) j p1)) p3) pos) (tEvL K k te) := by
  subst hK
  constructor
  intro pins s σ H Q I h
  refine Subscript_ (thn (he.run pins s σ H _ I h) ?_)
  rintro v s1 ⟨x, H1, I1, r1, a, xs, rfl, hx, q⟩
  cases r1
  have stp : PO X (some (.Constant (.int (k : Int)) j p1)) (tPart (tC (.int (k : Int)))) := po_some pe_int
  refine wpAny_Slice (thn (po_none.run pins s1 σ H1 (fun o H2 => o = none ∧ H2 = H1) I1 ⟨rfl, rfl⟩) ?_)
  rintro vl s2 ⟨l, H2, I2, pl, rfl, rfl⟩
  refine thn (po_none.run pins s2 σ H2 (fun o H3 => o = none ∧ H3 = H2) I2 ⟨rfl, rfl⟩) ?_
  rintro vu s3 ⟨u, H3, I3, pu, rfl, rfl⟩
  refine thn (stp.run pins s3 σ H3 (fun o H4 => o = some (k : Int) ∧ H4 = H3) I3 ⟨(k : Int), rfl, rfl, rfl⟩) ?_
  rintro vs s4 ⟨o, H4, I4, ps, rfl, rfl⟩
  have I5 : Inv X pins σ H4 { s4 with heap := s4.heap.push { cls := .type "slice", data := .fields #[vl, vu, vs] } } := I4.kept (t' := s4.toks) fun b ob q => Heap.get?_push_of_some _ q
  obtain ⟨its, r, ht, hz⟩ := I5.list hx
  have hlen := r.length
  refine (show wpAny (model X.prog X.w) X.A (subscriptTail e (.Slice none none (some (.Constant (.int (k : Int)) j p1)) p3) (.ref a) (.ref s4.heap.objs.size)) (EP X pins σ Q) X.xe { s4 with heap := s4.heap.push { cls := .type "slice", data := .fields #[vl, vu, vs] } } from ?_)
  refine tail_any (ops := [.ref a, .ref s4.heap.objs.size]) ht.isList.typeIs (PySem.slot_list_getitem.lookup) ?_ (by with_unfolding_all rfl)
  refine wpAny_getItem_list_slice ht.isList (Heap.IsSliceOf.new _ vl vu vs) pl pu ps (fun z => by have := Option.some.inj z; omega) ?_ (by rw [List.size_toArray]; omega)
  rw [pick_every hk]
  have hv : Vals (everyK xs k) ((List.range ((its.length + k - 1) / k)).map (k * ·) |>.filterMap (its[·]?)) := by
    have := vals_pick r ((List.range ((its.length + k - 1) / k)).map (k * ·))
    unfold everyK
    rw [List.filterMap_map] at this
    rw [hlen]
    exact this
  have hle : (everyK xs k).length ≤ sizeLine := by
    have h1 : (everyK xs k).length ≤ (xs.length + k - 1) / k := by
      unfold everyK
      have := List.length_filterMap_le (fun i => xs[k * i]?) (List.range ((xs.length + k - 1) / k))
      rw [List.length_range] at this
      exact this
    have h2 : (xs.length + k - 1) / k ≤ xs.length := by
      by_cases h0 : xs.length = 0
      · rw [h0, Nat.zero_add, Nat.div_eq_of_lt (by omega)]; omega
      · refine Nat.div_le_of_le_mul ?_
        have : xs.length * 1 + k * 1 ≤ k * xs.length + 1 := by
          have e1 : xs.length = (xs.length - 1) + 1 := by omega
          have e2 : k * xs.length = k * (xs.length - 1) + k := by conv => lhs; rw [e1, Nat.mul_add, Nat.mul_one]
          have e3 : (xs.length - 1) ≤ k * (xs.length - 1) := Nat.le_mul_of_pos_left _ hk
          omega
        omega
    omega
  refine ⟨.ref _, _, I5.laid (t' := s4.toks) (o := .lst (everyK xs k)) (fun b ob q => Heap.get?_push_of_some _ q) (Nat.le_refl _) ?_, rfl, q _ (I5.hok.fresh (Nat.le_refl _))⟩
  exact ⟨hle, _, 0, hv, Heap.get?_push_size _ rfl⟩
end Sp

/-! Cls: objects of own classes: one call for several classes, a base's __init__ by its name, methods called in a try, isinstance of an instance. -/
namespace Sp
open PySem PySem.Spec L2 PyProof.Rows
/-- either reading will do -/
def tOr2 (t u : TE) : TE := fun σ H Q => t σ H Q ∨ u σ H Q
theorem pe_or2 {X : Cx} {e : Expr} {t u : TE} (h1 : PE X e t) (h2 : PE X e u) : PE X e (tOr2 t u) := ⟨fun pins s σ H Q I h => h.elim (h1.run pins s σ H Q I) (h2.run pins s σ H Q I)⟩
/-- what the class at C gives under a name, read off the class -/
structure BaseC (K : PySem.W.Frag) (C : Addr) (m : Str) (f : Addr) : Prop where
  ga : PySem.W.specialIn K (.ref C) "__getattribute__" = some (some (.builtin "type.__getattribute__"))
  rd : PySem.W.readsIn K C (.type "type") = true
  fd : PySem.W.findCls K (.ref C) (.type "type") m = some (.val (.ref f))
  kp : PySem.W.keepIn K (.ref f) = true
def tBase (C : Addr) (sp : L2.Sp) (E : XK) (to : TE) (t : TA) : TE := fun σ H Q => to σ H fun x H1 => x = .ref C ∧ t σ H1 fun vs H2 => sp vs H2 Q E
section
variable {X : Cx} {CX : CXT} {k : Nat} {f C : Addr} {fd : FuncData} {ps : List Str} {sp : L2.Sp} {E : XK} {x m : Str} {p pos apos : Pos} {e o : Expr} {es : List Expr} {ta : TE} {t : TA}
theorem pe_base {pl : Sem Bool} (he : PE X o ta) (b : BaseC X.K C m f) (F : FnOk X.prog X.w X.K X.mg X.base CX k f fd ps sp) (hr : Room k X.A) (hb : Binds X.K fd ps []) (hx : Passes CX X E) (ha : PA X (e :: es) t)
    (hst : starEach (e :: es) X.env = (false, eval e X.env) :: starEach es X.env := by rfl) (hpl : (backTo pos (starEach es X.env)).any (·.1) = false := by rfl)
    (ht : eval (.Call (.Attribute o m apos) (e :: es) [] pos) X.env = (do
      let ov ← eval o X.env
      standAt apos.atName
      let (f, first) ← holding [ov] (getMethod ov m pl)
      callWith pos f first (backTo pos (starEach (e :: es) X.env)) (backToKw pos (keywordEach [] X.env))) := by rfl) :
    PE X (.Call (.Attribute o m apos) (e :: es) [] pos) (tBase C sp E ta t) := by
  constructor
  intro pins s σ H Q I h
  refine PySem.W.methodCall_KW (pl := pl) (thn (he.run pins s σ H _ I h) ?_) ht
  rintro u s1 ⟨v, H1, I1, rx, rfl, q⟩
  obtain rfl : u = Value.ref C := rx
  refine PySem.W.method_cls I1.kIn b.ga (PySem.W.cls_value I1.kIn b.rd b.fd rfl ?_)
  have I2 := I1.tok (s1.toks + 1)
  refine PySem.W.callWith_K (first := []) (h₀ := X.base) I.ok.mod.kin b.kp (thn (ha.run pos pins _ σ H1 _ I2 q) ?_) hst hpl
  rintro us s2 ⟨vs, H2, I3, r, q2⟩
  refine ⟨I3.kIn, ?_⟩
  exact run_fn F hr hb .nil hx I3 r (by rw [List.append_nil]; exact q2)
/-- o.m(..) in a try: what is raised is wished for at the caller's slots -/
def tMethS (C : Addr) (m : Str) (sp : L2.Sp) (E : L2.St → XK) (ta : TE) (t : TA) : TE := fun σ H Q => ta σ H fun x H1 => ∃ a dx fs, x = .ref a ∧ H1 a = some (.ins C dx fs) ∧ fs.lookup m = none ∧ t σ H1 fun vs H2 => sp (x :: vs) H2 Q (E σ)
theorem pe_methS {pl : Sem Bool} {E : L2.St → XK} (he : PE X o ta) (c : Cls X.K C) (hm : Meth X.K C m f) (F : FnOk X.prog X.w X.K X.mg X.base CX k f fd ps sp) (hr : Room k X.A) (hb : Binds X.K fd ps []) (hx : ∀ σ, PassesAt CX X σ (E σ)) (ha : PA X (e :: es) t)
    (hst : starEach (e :: es) X.env = (false, eval e X.env) :: starEach es X.env := by rfl) (hpl : (backTo pos (starEach es X.env)).any (·.1) = false := by rfl)
    (ht : eval (.Call (.Attribute o m apos) (e :: es) [] pos) X.env = (do
      let ov ← eval o X.env
      standAt apos.atName
      let (f, first) ← holding [ov] (getMethod ov m pl)
      callWith pos f first (backTo pos (starEach (e :: es) X.env)) (backToKw pos (keywordEach [] X.env))) := by rfl) :
    PE X (.Call (.Attribute o m apos) (e :: es) [] pos) (tMethS C m sp E ta t) := by
  constructor
  intro pins s σ H Q I h
  refine PySem.W.methodCall_KW (pl := pl) (thn (he.run pins s σ H _ I h) ?_) ht
  rintro u s1 ⟨v, H1, I1, rx, a, dx, fs, rfl, ea, l, q⟩
  obtain rfl : u = Value.ref a := rx
  refine getmeth_ok I1 ea c hm l ?_
  refine PySem.W.callWith_K (first := [.ref a]) (h₀ := X.base) I.ok.mod.kin hm.kp (thn (ha.run pos pins s1 σ H1 _ I1 q) ?_) hst hpl
  rintro us s2 ⟨vs, H2, I2, r, q2⟩
  refine ⟨I2.kIn, ?_⟩
  exact run_fnS (us := .ref a :: us) (vs := .ref a :: vs) F hr hb (hx σ) I2 (.cons rfl r) q2
end
/-! ### readings -/
section
variable {K : PySem.W.Frag} {σ : L2.St} {H : Hp} {Q : VK} {D : Ends} {t u ta to : TE} {tr : TA} {C : Addr} {m f : Str} {sp : L2.Sp} {E : XK} {dvs : List V}
theorem x_o1 (h : t σ H Q) : tOr2 t u σ H Q := .inl h
theorem x_o2 (h : u σ H Q) : tOr2 t u σ H Q := .inr h
theorem x_meth (h : ta σ H fun x H1 => ∃ a dx fs, x = .ref a ∧ H1 a = some (.ins C dx fs) ∧ fs.lookup m = none ∧ tr σ H1 fun vs H2 => sp (x :: (vs ++ dvs)) H2 Q E) : tMeth C m sp dvs E ta tr σ H Q := h
theorem x_methS {E : L2.St → XK} (h : ta σ H fun x H1 => ∃ a dx fs, x = .ref a ∧ H1 a = some (.ins C dx fs) ∧ fs.lookup m = none ∧ tr σ H1 fun vs H2 => sp (x :: vs) H2 Q (E σ)) : tMethS C m sp E ta tr σ H Q := h
theorem x_base (h : to σ H fun x H1 => x = .ref C ∧ tr σ H1 fun vs H2 => sp vs H2 Q E) : tBase C sp E to tr σ H Q := h
theorem x_at {P : V → Prop} {a : Addr} (h : P (.ref a)) (e : V) (he : e = .ref a) : P e := he ▸ h
theorem x_fld (h : ta σ H fun x H1 => ∃ a C dx fs v, x = .ref a ∧ H1 a = some (.ins C dx fs) ∧ Cls K C ∧ NoAttr K C f ∧ fs.lookup f = some v ∧ Q v H1) : tFld K ta f σ H Q := h
theorem x_sfld {tv : TE} (h : tv σ H fun y H1 => ta σ H1 fun x H2 => ∃ a C dx fs, x = .ref a ∧ H2 a = some (.ins C dx fs) ∧ Cls K C ∧ NoAttr K C f ∧ fs.length < 1000 ∧ D.nx σ (upd H2 a (.ins C dx (putF f y fs)))) : sFld K ta tv f D σ H := h
theorem x_make (h : tr σ H fun vs H1 => ∀ x dx, H1 x = none → H1 dx = none → dx ≠ x → sp (.ref x :: (vs ++ dvs)) (upd (upd H1 dx (.own x)) x (.ins C dx [])) (fun v H2 => v = .non ∧ Q (.ref x) H2) E) : tMake C sp dvs E tr σ H Q := h
end
/-- but for what stands at p, all stands -/
def SameX (p : Addr) (H H' : Hp) : Prop := ∀ q o, q ≠ p → H q = some o → H' q = some o
theorem SameX.refl (p : Addr) (H : Hp) : SameX p H H := fun _ _ _ h => h
theorem SameX.upd {p : Addr} {H : Hp} {o : HO} : SameX p H (upd H p o) := fun q u h e => by rw [upd_ne h]; exact e
theorem SameX.trans {p : Addr} {H H' H'' : Hp} (a : SameX p H H') (b : SameX p H' H'') : SameX p H H'' := fun q o h e => b q o h (a q o h e)
theorem Same.x {p : Addr} {H H' : Hp} (s : Same H H') : SameX p H H' := fun q o _ e => s _ _ e
theorem Own.setX {B H H' : Hp} {cs : Cells} {p : Addr} {o o' : HO} (w : Own B cs H) (i : Nat) (h : cs[i]? = some (p, o)) (s : SameX p H H') (c : H' p = some o') : Own B (cs.set i (p, o')) H' := by
  have w2 := w.put (o' := o') i h
  have e : Same (upd H p o') H' := fun q u hq => by
    by_cases z : q = p
    · subst z; rw [upd_same] at hq; rw [← hq]; exact c
    · rw [upd_ne z] at hq; exact s q u z hq
  exact w2.ext e
theorem own_setXN {B H H' : Hp} {cs : Cells} {p l : Addr} {o o' ol : HO} (w : Own B cs H) (i : Nat) (h : cs[i]? = some (p, o)) (s : SameX p H H') (c : H' p = some o') (nl : H l = none) (cl : H' l = some ol) : Own B ((l, ol) :: cs.set i (p, o')) H' := by
  have w2 := w.setX i h s c
  refine ⟨w2.ex, fun q hq => ?_, ?_⟩
  · cases hq with
    | head => exact ⟨cl, w.fresh nl⟩
    | tail _ hq => exact w2.cell q hq
  · rw [List.map_cons, List.nodup_cons]
    refine ⟨fun m => ?_, w2.nd⟩
    have e : (cs.set i (p, o')).map (·.1) = cs.map (·.1) := by
      rw [List.map_set]
      apply List.ext_getElem?
      intro j
      by_cases z : i = j
      · subst z
        have hi := (List.getElem?_eq_some_iff.mp h).1
        rw [List.getElem?_set_self (by rw [List.length_map]; exact hi), List.getElem?_map, h] <;> rfl
      · rw [List.getElem?_set_ne z]
    rw [e] at m
    exact w.off nl m
theorem own_keep {B H1 : Hp} {cs : Cells} (w : Own B cs H1) {x dx q : Addr} {o1 o2 oq : HO} (i : Nat) (h : cs[i]? = some (q, oq)) (n1 : H1 x = none) (n2 : H1 dx = none) : upd (upd H1 dx o1) x o2 q = some oq ∧ q ≠ x := by
  have hq := w.get i h
  have a1 : q ≠ x := fun z => by subst z; rw [hq] at n1; cases n1
  have a2 : q ≠ dx := fun z => by subst z; rw [hq] at n2; cases n2
  exact ⟨by rw [upd_ne a1, upd_ne a2]; exact hq, a1⟩
/-- an object made, filled by its __init__, with one list of its own: it stands and stays -/
theorem own_made {B H1 H2 : Hp} {cs : Cells} (w : Own B cs H1) {x dx l C : Addr} {o ol : HO} (n1 : H1 x = none) (n2 : H1 dx = none) (hne : dx ≠ x) (nl : (upd (upd H1 dx (.own x)) x (.ins C dx [])) l = none)
    (s : SameX x (upd (upd H1 dx (.own x)) x (.ins C dx [])) H2) (c : H2 x = some o) (cl : H2 l = some ol) : ∃ B2, Same B B2 ∧ Own B2 cs H2 ∧ B2 x = some o ∧ B2 l = some ol := by
  have w1 := (w.new (o := .own x) n2).new (p := x) (o := .ins C dx []) (by rw [upd_ne (Ne.symm hne)]; exact n1)
  have w2 := own_setXN w1 0 rfl s c nl cl
  have nlx : x ≠ l := fun z => by subst z; rw [upd_same] at nl; cases nl
  have nld : dx ≠ l := fun z => by subst z; rw [upd_ne hne, upd_same] at nl; cases nl
  refine ⟨_, ?_, w2.freeze.freeze.freeze, ?_, ?_⟩
  · exact ((same_upd (w2.none 0 rfl)).trans (same_upd (w2.freeze.none 0 rfl))).trans (same_upd (w2.freeze.freeze.none 0 rfl))
  · rw [upd_ne (Ne.symm hne), upd_same]
  · rw [upd_ne (Ne.symm nld), upd_ne (Ne.symm nlx), upd_same]
theorem own_made0 {B H1 H2 : Hp} {cs : Cells} (w : Own B cs H1) {x dx C : Addr} {o : HO} (n1 : H1 x = none) (n2 : H1 dx = none) (hne : dx ≠ x)
    (s : SameX x (upd (upd H1 dx (.own x)) x (.ins C dx [])) H2) (c : H2 x = some o) : ∃ B2, Same B B2 ∧ Own B2 cs H2 ∧ B2 x = some o := by
  have w1 := (w.new (o := .own x) n2).new (p := x) (o := .ins C dx []) (by rw [upd_ne (Ne.symm hne)]; exact n1)
  have w2 := w1.setX 0 rfl s c
  refine ⟨_, ?_, w2.freeze.freeze, ?_⟩
  · exact (same_upd (w2.none 0 rfl)).trans (same_upd (w2.freeze.none 0 rfl))
  · rw [upd_ne (Ne.symm hne), upd_same]
/-- a list without its cell i -/
theorem Own.at {B H : Hp} {cs : Cells} {p : Addr} {o : HO} (w : Own B cs H) (i : Nat) (h : cs[i]? = some (p, o)) : H p = some o := w.get i h
/-- what isinstance asks of a class of instances -/
structure InsC (K : PySem.W.Frag) (C : Addr) : Prop where
  cl : Cls K C
  ha : PySem.W.findIn K (.ref C) "__class__" = some (some (.builtin "object.__class__"))
  hn : PySem.W.specialIn K (.builtin "object.__class__") "__get__" = some (some (.builtin "getset_descriptor.__get__"))
  ht : PySem.W.takesIn K (.builtin "object.__class__") = some true
  hm : PySem.W.mroIn K C (.type "object") = some true
theorem x_isiC {K : PySem.W.Frag} {H : Hp} {Q : VK} {a C D dx : Addr} {fs : List (Str × V)} {b : Bool} (e : H a = some (.ins C dx fs)) (ic : InsC K C) (ak : AskC K D) (h : PySem.W.subIn K (.ref C) (.ref D) = some b) (q : Q (.bl b) H) : rIsi K [.ref a, .ref D] H Q :=
  ⟨.ref a, .ref D, .ref C, .ref D, b, rfl, .own D, .base (.ins e ic.cl ic.ha ic.hn ic.ht ic.hm), kit_own ak h, q⟩
end Sp

/-! Rul: rules as objects: what stands in them, what a group earns. -/
namespace Sp
open PySem PySem.Spec L2 PyProof.Rows
theorem pi_or2 {X : Cx} {tg e : Expr} {t u : TI} (h1 : PI X tg e t) (h2 : PI X tg e u) : PI X tg e (fun σ H R => t σ H R ∨ u σ H R) := ⟨fun pins s σ H R I h => h.elim (h1.run pins s σ H R I) (h2.run pins s σ H R I)⟩
/-- of the first i hands, those in g: their numbers -/
def sumTo (Ts : List Int) (g : Nat) : Nat → Int
  | 0 => 0
  | i + 1 => if bitOn i g = true then sumTo Ts g i + gi Ts (i : Int) else sumTo Ts g i
def sumS (Ts : List Int) (g : Nat) : Int := sumTo Ts g Ts.length
theorem bit_high : ∀ m, m < 7 → ∀ g, g < 2 ^ m → ∀ i, i < 6 → m ≤ i → bitOn i g = false := by decide +kernel
theorem sumTo_high {Ts : List Int} {g m : Nat} (hm : m ≤ 6) (hg : g < 2 ^ m) : ∀ j, m + j ≤ 6 → sumTo Ts g (m + j) = sumTo Ts g m
  | 0, _ => rfl
  | j + 1, h => by
    show (if bitOn (m + j) g = true then sumTo Ts g (m + j) + gi Ts ((m + j : Nat) : Int) else sumTo Ts g (m + j)) = _
    rw [bit_high m (by omega) g hg (m + j) (by omega) (by omega), if_neg Bool.false_ne_true, sumTo_high hm hg j (by omega)]
theorem hands_sum (Ts : List Int) (g : Nat) : ∀ i, (((List.range i).filter fun h => bitOn h g).map fun h : Nat => gi Ts (h : Int)).sum = sumTo Ts g i
  | 0 => rfl
  | i + 1 => by
    have ih := hands_sum Ts g i
    show _ = (if bitOn i g = true then sumTo Ts g i + gi Ts (i : Int) else sumTo Ts g i)
    cases c : bitOn i g with
    | true => rw [filter_yes (p := fun h => bitOn h g) c, List.sum_append, ih, if_pos rfl]; simp
    | false => rw [filter_no (p := fun h => bitOn h g) c, ih, if_neg Bool.false_ne_true]
theorem hands_sumS {Ts : List Int} {g m : Nat} (hl : Ts.length = m) (hm : m ≤ 6) (hg : g < 2 ^ m) : ((handsM g).map fun h : Nat => gi Ts (h : Int)).sum = sumS Ts g := by
  unfold handsM sumS
  rw [hands_sum, hl]
  have := sumTo_high (Ts := Ts) hm hg (6 - m) (by omega)
  rwa [show m + (6 - m) = 6 by omega] at this
theorem hands_lt {g m h : Nat} (hm : m ≤ 6) (hg : g < 2 ^ m) (hh : h ∈ handsM g) : h < m := by
  have h6 := handsM_lt hh
  unfold handsM at hh
  have hb := (List.mem_filter.mp hh).2
  by_cases c : h < m
  · exact c
  · rw [bit_high m (by omega) g hg h h6 (by omega)] at hb; cases hb
/-- fields as they stand -/
structure InsF (H : Hp) (a C dx : Addr) (fs : List (Str × V)) (m : Nat) : Prop where
  e : H a = some (.ins C dx fs)
  many : fs.lookup ("many" : Str) = some (.int (m : Int))
  c1 : fs.lookup ("earn" : Str) = none
  c2 : fs.lookup ("reckoned" : Str) = none
  c3 : fs.lookup ("hands" : Str) = none
  c4 : fs.lookup ("words" : Str) = none
inductive BaseAt (C : Addr) (K : PySem.W.Frag) (H : Hp) (a : Addr) (m : Nat) (f : Nat → Int) : Prop
  | mk {dx : Addr} (e : H a = some (.ins C dx [("many", .int (m : Int))])) (hf : ∀ g, g < 2 ^ m → f g = 0) : BaseAt C K H a m f
inductive OwnAt (C : Addr) (K : PySem.W.Frag) (H : Hp) (a : Addr) (m : Nat) (f : Nat → Int) : Prop
  | mk {dx l : Addr} {ns : List Int} (e : H a = some (.ins C dx [("many", .int (m : Int)), ("numbers", .ref l)])) (h : SqL K H l (ns.map V.int)) (hl : ns.length = m) (hf : ∀ g, g < 2 ^ m → f g = sumS ns g) : OwnAt C K H a m f
inductive PlainAt (C : Addr) (K : PySem.W.Frag) (H : Hp) (a : Addr) (m : Nat) (f : Nat → Int) : Prop
  | mk {dx l : Addr} {ns : List Int} (e : H a = some (.ins C dx [("many", .int (m : Int)), ("row", .ref l)])) (h : SqL K H l (ns.map V.int)) (hl : ns.length = 2 ^ m) (hf : ∀ g, g < 2 ^ m → f g = fn ns g) : PlainAt C K H a m f
abbrev Tr := Nat × Nat × Int
abbrev trV (t : Tr) : List V := [.int (t.1 : Int), .int (t.2.1 : Int), .int t.2.2]
inductive TrAll (H : Hp) : List Addr → List Tr → Prop
  | nil : TrAll H [] []
  | cons {t : Addr} {ts : List Addr} {f : Tr} {fs : List Tr} : H t = some (.tup (trV f)) → TrAll H ts fs → TrAll H (t :: ts) (f :: fs)
theorem TrAll.same {H H' : Hp} (s : Same H H') : ∀ {ts : List Addr} {fs : List Tr}, TrAll H ts fs → TrAll H' ts fs
  | _, _, .nil => .nil
  | _, _, .cons h r => .cons (s _ _ h) (r.same s)
theorem TrAll.len {H : Hp} : ∀ {ts : List Addr} {fs : List Tr}, TrAll H ts fs → ts.length = fs.length
  | _, _, .nil => rfl
  | _, _, .cons _ r => by rw [List.length_cons, List.length_cons, r.len]
theorem TrAll.at {H : Hp} : ∀ {ts : List Addr} {fs : List Tr}, TrAll H ts fs → ∀ {i : Nat} {t : Addr}, ts[i]? = some t → ∃ f, fs[i]? = some f ∧ H t = some (.tup (trV f))
  | _, _, .nil, i, _, h => by rw [List.getElem?_nil] at h; cases h
  | _, _, .cons (f := f) h r, 0, t, e => ⟨f, rfl, by cases e; exact h⟩
  | _, _, .cons h r, i + 1, t, e => r.at (i := i) (by simpa using e)
theorem TrAll.snoc {H : Hp} {t : Addr} {f : Tr} (ht : H t = some (.tup (trV f))) : ∀ {ts : List Addr} {fs : List Tr}, TrAll H ts fs → TrAll H (ts ++ [t]) (fs ++ [f])
  | _, _, .nil => .cons ht .nil
  | _, _, .cons h r => .cons h (r.snoc ht)
def both (t : Tr) (g : Nat) : Bool := bitOn t.1 g && bitOn t.2.1 g
def pairsS (fs : List Tr) (g : Nat) : Int := (fs.map fun t => if both t g = true then t.2.2 else 0).sum
theorem pairsS_step {fs : List Tr} {i : Nat} {t : Tr} (h : fs[i]? = some t) (g : Nat) : pairsS (fs.take (i + 1)) g = pairsS (fs.take i) g + (if both t g = true then t.2.2 else 0) := by
  unfold pairsS
  rw [List.take_add_one, h, List.map_append, List.sum_append]
  simp
/-- a pair of hands below m, the lesser first -/
def PairOk (m : Nat) (t : Tr) : Prop := t.1 < t.2.1 ∧ t.2.1 < m
inductive PairsAt (C : Addr) (K : PySem.W.Frag) (H : Hp) (a : Addr) (m : Nat) (f : Nat → Int) : Prop
  | mk {dx l : Addr} {ts : List Addr} {fs : List Tr} (e : H a = some (.ins C dx [("many", .int (m : Int)), ("pairs", .ref l)])) (h : SqL K H l (ts.map V.ref)) (hr : TrAll H ts fs) (hp : ∀ t ∈ fs, PairOk m t) (hf : ∀ g, g < 2 ^ m → f g = pairsS fs g) : PairsAt C K H a m f
inductive VotesAt (C : Addr) (K : PySem.W.Frag) (H : Hp) (a : Addr) (m : Nat) (f : Nat → Int) : Prop
  | mk {dx l : Addr} {q p : Int} {ws : List Int} (e : H a = some (.ins C dx [("many", .int (m : Int)), ("quota", .int q), ("prize", .int p), ("weights", .ref l)])) (h : SqL K H l (ws.map V.int)) (hl : ws.length = m) (hf : ∀ g, g < 2 ^ m → f g = if q ≤ sumS ws g then p else 0) : VotesAt C K H a m f
section
variable {C : Addr} {K : PySem.W.Frag} {H H' : Hp} {a : Addr} {m : Nat} {f : Nat → Int}
theorem BaseAt.same (h : BaseAt C K H a m f) (s : Same H H') : BaseAt C K H' a m f := by cases h with | mk e hf => exact .mk (s _ _ e) hf
theorem OwnAt.same (h : OwnAt C K H a m f) (s : Same H H') : OwnAt C K H' a m f := by cases h with | mk e h hl hf => exact .mk (s _ _ e) (s.seq h) hl hf
theorem PlainAt.same (h : PlainAt C K H a m f) (s : Same H H') : PlainAt C K H' a m f := by cases h with | mk e h hl hf => exact .mk (s _ _ e) (s.seq h) hl hf
theorem PairsAt.same (h : PairsAt C K H a m f) (s : Same H H') : PairsAt C K H' a m f := by cases h with | mk e h hr hp hf => exact .mk (s _ _ e) (s.seq h) (hr.same s) hp hf
theorem VotesAt.same (h : VotesAt C K H a m f) (s : Same H H') : VotesAt C K H' a m f := by cases h with | mk e h hl hf => exact .mk (s _ _ e) (s.seq h) hl hf
theorem BaseAt.ins (h : BaseAt C K H a m f) : ∃ dx fs, InsF H a C dx fs m := by cases h with | mk e hf => exact ⟨_, _, e, rfl, rfl, rfl, rfl, rfl⟩
theorem OwnAt.ins (h : OwnAt C K H a m f) : ∃ dx fs, InsF H a C dx fs m := by cases h with | mk e h hl hf => exact ⟨_, _, e, rfl, rfl, rfl, rfl, rfl⟩
theorem PlainAt.ins (h : PlainAt C K H a m f) : ∃ dx fs, InsF H a C dx fs m := by cases h with | mk e h hl hf => exact ⟨_, _, e, rfl, rfl, rfl, rfl, rfl⟩
theorem PairsAt.ins (h : PairsAt C K H a m f) : ∃ dx fs, InsF H a C dx fs m := by cases h with | mk e h hr hp hf => exact ⟨_, _, e, rfl, rfl, rfl, rfl, rfl⟩
theorem VotesAt.ins (h : VotesAt C K H a m f) : ∃ dx fs, InsF H a C dx fs m := by cases h with | mk e h hl hf => exact ⟨_, _, e, rfl, rfl, rfl, rfl, rfl⟩
end
theorem thing_x {p : Addr} {H H' : Hp} {v : V} (s : SameX p H H') (h : Thing H v) (n : v ≠ .ref p) : Thing H' v := by
  have k : ∀ {a : Addr} {u : HO}, V.ref a ≠ .ref p → Rd H a u → Rd H' a u := fun {a u} hne r => by
    have hn : a ≠ p := fun z => hne (by rw [z])
    rcases r with r | ⟨o, r⟩
    · exact .inl (s _ _ hn r)
    · exact .inr ⟨o, s _ _ hn r⟩
  cases h with
  | non => exact .non
  | bl b => exact .bl b
  | int i => exact .int i
  | str x => exact .str x
  | lst q => exact .lst (k n q)
  | tup q => exact .tup (k n q)
  | dic q => exact .dic (s _ _ (fun z => n (by rw [z])) q)
theorem sqL_x {K : PySem.W.Frag} {p b : Addr} {H H' : Hp} {xs : List V} (s : SameX p H H') (h : SqL K H b xs) (n : b ≠ p) : SqL K H' b xs := by
  rcases h with (h | ⟨o, h⟩) | h
  · exact .inl (.inl (s _ _ n h))
  · exact .inl (.inr ⟨o, s _ _ n h⟩)
  · exact .inr h
theorem all_int {ys : List V} (h : ys.all isI = true) : ∃ ns : List Int, ys = ns.map V.int := by
  induction ys with
  | nil => exact ⟨[], rfl⟩
  | cons y r ih =>
    rw [List.all_cons, Bool.and_eq_true] at h
    obtain ⟨ns, rfl⟩ := ih h.2
    cases y with
    | int z => exact ⟨z :: ns, rfl⟩
    | _ => exact absurd h.1 Bool.false_ne_true
theorem thing_ne {p C dx : Addr} {fs : List (Str × V)} {H : Hp} {v : V} (e : H p = some (.ins C dx fs)) (h : Thing H v) : v ≠ .ref p := fun z => by
  subst z
  cases h with
  | lst q => rcases q with q | ⟨o, q⟩ <;> rw [e] at q <;> cases q
  | tup q => rcases q with q | ⟨o, q⟩ <;> rw [e] at q <;> cases q
  | dic q => rw [e] at q; cases q
theorem sqL_ne {K : PySem.W.Frag} {p C dx b : Addr} {fs : List (Str × V)} {H : Hp} {xs : List V} (e : H p = some (.ins C dx fs)) (h : Rd H b (.lst xs)) : b ≠ p := fun z => by
  subst z
  rcases h with h | ⟨o, h⟩ <;> rw [e] at h <;> cases h
theorem rdT_ne {p C dx b : Addr} {fs : List (Str × V)} {H : Hp} {xs : List V} (e : H p = some (.ins C dx fs)) (h : Rd H b (.tup xs)) : b ≠ p := fun z => by
  subst z
  rcases h with h | ⟨o, h⟩ <;> rw [e] at h <;> cases h
theorem rd_x {p b : Addr} {H H' : Hp} {u : HO} (s : SameX p H H') (h : Rd H b u) (n : b ≠ p) : Rd H' b u := by
  rcases h with h | ⟨o, h⟩
  · exact .inl (s _ _ n h)
  · exact .inr ⟨o, s _ _ n h⟩
/-- the bits of two hands at once -/
theorem both_bits : ∀ i, i < 6 → ∀ j, j < 6 → ∀ g, g < 64 → decide ((g / 2 ^ i &&& g / 2 ^ j) &&& 1 = 1) = (bitOn i g && bitOn j g) := by decide +kernel
theorem both_int {i j g : Nat} (hi : i < 6) (hj : j < 6) (hg : g < 64) : decide (Builtin.bitAnd (Builtin.bitAnd ((g : Int) / 2 ^ ((i : Int)).toNat) ((g : Int) / 2 ^ ((j : Int)).toNat)) 1 = 1) = (bitOn i g && bitOn j g) := by
  rw [← both_bits i hi j hj g hg]
  have e : ∀ k : Nat, (g : Int) / 2 ^ ((k : Int)).toNat = ((g / 2 ^ k : Nat) : Int) := fun k => by rw [Int.toNat_natCast, Int.natCast_ediv, Int.natCast_pow] <;> rfl
  rw [e i, e j, and_nat, show (1 : Int) = ((1 : Nat) : Int) from rfl, and_nat]
  exact decide_eq_decide.mpr (by omega)
/-- what a def that fills an object leaves: all but p stands -/
def RetX (p : Addr) (o : HO) (H : Hp) (Q : VK) : Prop := ∀ H', SameX p H H' → H' p = some o → Q .non H'
end Sp

/-! Sdt: sorted(d) of a dict whose keys are pairs of ints. -/
namespace Sp
open PySem PySem.Spec L2 PyProof.Rows
/-- the pair that stands at b -/
def pairH (H : Hp) (b : Addr) : Int × Int := match H b with
  | some (.tup [.int i, .int j]) => (i, j)
  | _ => (0, 0)
theorem pairH_of {H : Hp} {b : Addr} {i j : Int} (h : H b = some (.tup [.int i, .int j])) : pairH H b = (i, j) := by unfold pairH; rw [h]
def pairK (H : Hp) (v : Value) : Int × Int := match v with
  | .ref b => pairH H b
  | _ => (0, 0)
def keyP (p : Int × Int) : List Key := [Sum.inl p.1, Sum.inl p.2]
def rSortedDT : List V → Hp → VK → Prop := fun xs H Q => ∃ (d : Addr) (kvs : List (List Key × V)) (pk : List (Int × Int)), xs = [V.ref d] ∧ Rd H d (.dT kvs) ∧ kvs.map (·.1) = pk.map keyP ∧
  ∀ (bs : List Addr) (ps : List (Int × Int)) (p : Addr), ps.Perm pk → ps.Pairwise (fun x y => SrtO.lexB y x = false) → Paired (fun b q => H b = some (.tup [.int q.1, .int q.2])) bs ps → H p = none → Q (.ref p) (upd H p (.lst (bs.map V.ref)))
theorem paired_map {H : Hp} : ∀ {bs : List Addr}, (∀ b ∈ bs, ∃ i j, H b = some (.tup [.int i, .int j])) → Paired (fun b q => H b = some (.tup [.int q.1, .int q.2])) bs (bs.map (pairH H))
  | [], _ => .nil
  | b :: bs, h => by
    obtain ⟨i, j, e⟩ := h b (.head _)
    refine .cons ?_ (paired_map fun x m => h x (.tail _ m))
    rw [pairH_of e]; exact e
theorem kt_keys {H : Hp} : ∀ {kvs : List (List Key × V)} {ks : List (List Key × Addr × Value)}, KT H kvs ks → ∀ {pk : List (Int × Int)}, kvs.map (·.1) = pk.map keyP →
    (∀ b ∈ ks.map (fun x => x.2.1), ∃ i j, H b = some (.tup [.int i, .int j])) ∧ (ks.map fun x => x.2.1).map (pairH H) = pk
  | _, _, .nil, pk, h => by
    cases pk with
    | nil => exact ⟨fun _ m => (nomatch m), rfl⟩
    | cons p pk => cases h
  | _, _, @Paired.cons _ _ _ _ q _ _ a r, pk, h => by
    cases pk with
    | nil => cases h
    | cons p pk =>
      rw [List.map_cons, List.map_cons] at h
      obtain ⟨h1, h2⟩ := List.cons.inj h
      obtain ⟨i1, i2⟩ := kt_keys r h2
      have e : H q.2.1 = some (.tup [.int p.1, .int p.2]) := by
        have := a.2.1
        rw [h1] at this; exact this
      refine ⟨fun b m => ?_, ?_⟩
      · rw [List.map_cons] at m
        cases m with
        | head => exact ⟨_, _, e⟩
        | tail _ m => exact i1 b m
      · rw [List.map_cons, List.map_cons, i2, pairH_of e]
theorem refs_of {bs : List Addr} : ∀ {out : List Value}, (∀ v ∈ out, v ∈ bs.map Value.ref) → ∃ cs : List Addr, out = cs.map Value.ref ∧ ∀ c ∈ cs, c ∈ bs
  | [], _ => ⟨[], rfl, fun _ m => nomatch m⟩
  | v :: out, h => by
    obtain ⟨cs, rfl, hc⟩ := refs_of fun x m => h x (.tail _ m)
    obtain ⟨b, hb, rfl⟩ := List.mem_map.mp (h v (.head _))
    exact ⟨b :: cs, rfl, fun c m => by
      cases m with
      | head => exact hb
      | tail _ m => exact hc c m⟩
def unref (v : Value) : Addr := match v with
  | .ref b => b
  | _ => 0
theorem unref_map : ∀ bs : List Addr, (bs.map Value.ref).map unref = bs
  | [] => rfl
  | b :: bs => by rw [List.map_cons, List.map_cons, unref_map bs] <;> rfl
theorem call_sortedDT {X : Cx} (hcalm : X.calm = true) : CallR X (.builtin "sorted") rSortedDT := by
  intro pins s σ H xs us Q I r want
  obtain ⟨d, kvs, pk, rfl, hd, hk, want⟩ := want
  obtain ⟨u, rfl, rx⟩ := r.one
  cases rx
  obtain ⟨z, hs, ks, pr, o, es, ep, ho, hx, hdt, he, hn⟩ := (show ObjOk X.prog X.w H s.heap d (.dT kvs) from hd.ok I.hok)
  have l1 : es.size = ks.length := size_of_entries he
  have l2 : kvs.length = ks.length := Paired.length pr
  obtain ⟨kt1, kt2⟩ := kt_keys pr hk
  refine Calls.call_function_entry kind_sorted plain_sorted entry_sorted (args_sorted1 _) ?_
  unfold Builtin.«sorted»
  refine wpAny_bind (m := checkCount "sorted" 1 1 _) (wpAny_pure ?_)
  refine wpAny_bind (PySem.W.kdu_collect (A := X.A.in1) (kdl_raw hs hx hdt) (I.ok.hd hcalm) ho (by omega) ?_)
  intro h' tk acc keep it
  have ea : acc.toList = (ks.map fun x => x.2.1).map Value.ref := by
    have hl : acc.toList.length = ks.length := by rw [Array.length_toList, it.1]; exact l1
    apply List.ext_getElem?
    intro j
    rw [List.getElem?_map, List.getElem?_map]
    cases hj : acc.toList[j]? with
    | none =>
      rw [List.getElem?_eq_none (by have := List.getElem?_eq_none_iff.mp hj; omega)] <;> rfl
    | some v =>
      obtain ⟨en, hen, rfl⟩ := it.2 j v (by rw [← Array.getElem?_toList]; exact hj)
      have qe := entry_at he j
      rw [hen] at qe
      cases hb : ks[j]? with
      | none => rw [hb] at qe; cases qe
      | some b =>
        rw [hb] at qe
        obtain rfl : en = entryOfKey (tupleKind (mixKind X.prog X.w)) b := Option.some.inj qe
        rfl
  have I1 : Inv X pins σ H { s with heap := h', toks := tk } := I.kept keep
  have hal : acc.toList.length ≤ sizeLine := by rw [ea, List.length_map, List.length_map]; omega
  refine wpAny_bind (wpAny_newList ?_ hal)
  have hoL : (h'.push (seqObj "list" acc.toList.toArray 0)).get? h'.objs.size = some (seqObj "list" acc.toList.toArray 0) := Heap.get?_push_size _ rfl
  have pairs : ∀ v ∈ acc.toList, Srt.IsPair h' v (pairK H v).1 (pairK H v).2 := fun v hv => by
    rw [ea] at hv
    obtain ⟨b, hb, rfl⟩ := List.mem_map.mp hv
    obtain ⟨i, j, e⟩ := kt1 b hb
    obtain ⟨_, its2, r2, o2, ho2, hc2, n2, hd2⟩ := (show ObjOk X.prog X.w H h' b (.tup [.int i, .int j]) from I1.hok _ _ e)
    obtain ⟨u1, u2, rfl, ri, rj⟩ := vals2 r2
    obtain ⟨t1, rfl⟩ := ri
    obtain ⟨t2, rfl⟩ := rj
    have ek : pairK H (.ref b) = (i, j) := pairH_of e
    rw [ek]
    exact ⟨b, o2, t1, t2, n2, rfl, ho2, hc2, hd2⟩
  refine (show wpAny _ _ _ _ _ { s with heap := h'.push (seqObj "list" acc.toList.toArray 0), toks := tk } from ?_)
  refine wpAny_bind (wpAny_holding (wpAny_call_entry slot_list_sort ⟨_, hoL, rfl⟩ entry_list_sort (SrtO.list_sort_ord (SrtO.swo_lex (pairK H)) hoL hal (fun h2 => ?_) fun out g1 g2 => ⟨_, rfl, ?_⟩) (args_list_sort _)))
  · refine SrtO.pairs_sortableO (by omega) (fun v hm => (pairs v hm).keeps fun b o e _ => Heap.get?_push_of_some _ e) fun o e => ?_
    rw [hoL] at e
    cases e
    intro c
    exact absurd (Value.type.inj c) (by decide)
  · obtain ⟨e', he'⟩ := sortedHeap_at (vs := acc.toList) (out := out.toArray) hoL
    obtain ⟨bs, rfl, hbs⟩ := refs_of (bs := ks.map fun x => x.2.1) (out := out) fun v hv => by rw [← ea]; exact g2.perm.mem_iff.mp hv
    have hperm : bs.Perm (ks.map fun x => x.2.1) := by
      have := g2.perm
      rw [ea] at this
      have h2 := this.map unref
      rw [unref_map, unref_map] at h2
      exact h2
    have hb' : ∀ b ∈ bs, ∃ i j, H b = some (.tup [.int i, .int j]) := fun b m => kt1 b (hbs b m)
    have hlen : (bs.map V.ref).length ≤ sizeLine := by
      rw [List.length_map, hperm.length_eq, List.length_map]; omega
    have q := want bs (bs.map (pairH H)) h'.objs.size (by rw [← kt2]; exact hperm.map _) (List.pairwise_map.mpr (List.pairwise_map.mp g1)) (paired_map hb') (I1.hok.fresh (Nat.le_refl _))
    refine wpAny_pure ⟨_, rfl, .ref h'.objs.size, upd H h'.objs.size (.lst (bs.map V.ref)), I1.laid (t' := tk) (fun b u e => ?_) (Nat.le_refl _)
      (show ObjOk X.prog X.w _ _ _ (.lst (bs.map V.ref)) from ⟨hlen, bs.map Value.ref, e', vals_refs bs, he'⟩), rfl, q⟩
    have hb : b < h'.objs.size := Heap.lt_size e
    rw [sortedHeap_old (Nat.ne_of_lt hb) (by rw [size_push']; exact Nat.lt_succ_of_lt hb)]
    exact Heap.get?_push_of_some _ e
end Sp

/-! Prs: pairs of hands with numbers, in dicts, sorted. -/
namespace Sp
open PySem PySem.Spec L2 PyProof.Rows
def trK (t : Tr) : List Key := [Sum.inl (t.1 : Int), Sum.inl (t.2.1 : Int)]
def trP (t : Tr) : Int × Int := ((t.1 : Int), (t.2.1 : Int))
def entT2 (t : Tr) : List Key × V := (trK t, .int t.2.2)
theorem trK_inj {a b : Tr} (h : trK a = trK b) : a.1 = b.1 ∧ a.2.1 = b.2.1 := by
  unfold trK at h
  simp only [List.cons.injEq, Sum.inl.injEq, and_true] at h
  omega
theorem valT_none {fs : List Tr} {k : List Key} (h : ∀ t ∈ fs, trK t ≠ k) : valV (fs.map entT2) k = none := by
  induction fs with
  | nil => rfl
  | cons t fs ih =>
    rw [List.map_cons, valV_neg (h t (.head _)), ih fun x m => h x (.tail _ m)]
theorem valT_some {fs : List Tr} {t : Tr} (nd : (fs.map trK).Nodup) (h : t ∈ fs) : valV (fs.map entT2) (trK t) = some (.int t.2.2) := by
  induction fs with
  | nil => cases h
  | cons u fs ih =>
    rw [List.map_cons, List.nodup_cons] at nd
    rw [List.map_cons]
    cases h with
    | head => exact valV_pos rfl
    | tail _ h =>
      rw [valV_neg (fun e => nd.1 (by rw [show trK u = trK t from e]; exact List.mem_map.mpr ⟨t, h, rfl⟩)), ih nd.2 h]
theorem valT_mem {fs : List Tr} {k : List Key} (h : (valV (fs.map entT2) k).isSome = true) : ∃ t ∈ fs, trK t = k := by
  induction fs with
  | nil => cases h
  | cons t fs ih =>
    rw [List.map_cons] at h
    by_cases e : trK t = k
    · exact ⟨t, .head _, e⟩
    · rw [valV_neg (p := entT2 t) e] at h
      obtain ⟨u, m, hu⟩ := ih h
      exact ⟨u, .tail _ m, hu⟩
theorem putT_new {fs : List Tr} {k : List Key} {v : V} (h : ∀ t ∈ fs, trK t ≠ k) : putK (fs.map entT2) k v = fs.map entT2 ++ [(k, v)] := by
  unfold putK
  rw [if_neg]
  intro z
  rw [List.any_eq_true] at z
  obtain ⟨p, hp, e⟩ := z
  obtain ⟨t, m, rfl⟩ := List.mem_map.mp hp
  exact h t m (of_decide_eq_true e)
/-- a list of pairs with their numbers is told -/
def RetTr (fs : List Tr) (H : Hp) (Q : VK) : Prop := ∀ (p : Addr) (ts : List Addr) (H' : Hp), H p = none → (∀ t ∈ ts, H t = none) → Same H H' → H' p = some (.lst (ts.map V.ref)) → TrAll H' ts fs → Q (.ref p) H'
theorem TrAll.congr {H H' : Hp} : ∀ {ts : List Addr} {fs : List Tr}, (∀ t ∈ ts, H' t = H t) → TrAll H ts fs → TrAll H' ts fs
  | _, _, _, .nil => .nil
  | _, _, e, .cons h r => .cons ((e _ (.head _)).trans h) (r.congr fun t m => e t (.tail _ m))
theorem TrAll.mem {H : Hp} : ∀ {ts : List Addr} {fs : List Tr}, TrAll H ts fs → ∀ t ∈ ts, ∃ f, H t = some (.tup (trV f))
  | _, _, .cons (f := f) h r, t, m => by
    cases m with
    | head => exact ⟨f, h⟩
    | tail _ m => exact r.mem t m
theorem TrAll.tup {H : Hp} : ∀ {ts : List Addr} {fs : List Tr}, TrAll H ts fs → ∀ {i : Nat} {f : Tr}, fs[i]? = some f → ∃ t, ts[i]? = some t ∧ H t = some (.tup (trV f))
  | _, _, .nil, i, _, h => by rw [List.getElem?_nil] at h; cases h
  | _, _, .cons (t := t) h r, 0, f, e => ⟨t, rfl, by cases e; exact h⟩
  | _, _, .cons h r, i + 1, f, e => r.tup (i := i) (by simpa using e)
theorem TrAll.app {H : Hp} : ∀ {ts us : List Addr} {fs gs : List Tr}, TrAll H ts fs → TrAll H us gs → TrAll H (ts ++ us) (fs ++ gs)
  | _, _, _, _, .nil, h => h
  | _, _, _, _, .cons a r, h => .cons a (r.app h)
theorem TrAll.take {H : Hp} : ∀ {ts : List Addr} {fs : List Tr}, TrAll H ts fs → ∀ n, TrAll H (ts.take n) (fs.take n)
  | _, _, .nil, n => by rw [List.take_nil, List.take_nil]; exact .nil
  | _, _, .cons _ _, 0 => .nil
  | _, _, .cons a r, n + 1 => .cons a (r.take n)
theorem TrAll.drop {H : Hp} : ∀ {ts : List Addr} {fs : List Tr}, TrAll H ts fs → ∀ n, TrAll H (ts.drop n) (fs.drop n)
  | _, _, .nil, n => by rw [List.drop_nil, List.drop_nil]; exact .nil
  | _, _, .cons a r, 0 => .cons a r
  | _, _, .cons a r, n + 1 => r.drop n
/-- tuples that are new join what stands and stays -/
theorem own_freezeT {B H : Hp} {cs : Cells} {ts : List Addr} {fs : List Tr} (w : Own B cs H) (f : TrAll H ts fs) (n : ∀ t ∈ ts, B t = none ∧ t ∉ cs.map (·.1)) : ∃ B2, Same B B2 ∧ TrAll B2 ts fs ∧ Own B2 cs H := by
  classical
  refine ⟨fun a => if a ∈ ts then H a else B a, fun a o h => ?_, f.congr fun t m => by show (if t ∈ ts then H t else B t) = _; rw [if_pos m], fun a o h => ?_, fun q hq => ?_, w.nd⟩
  · have : a ∉ ts := fun m => by rw [(n a m).1] at h; cases h
    show (if a ∈ ts then H a else B a) = some o
    rw [if_neg this]; exact h
  · have h : (if a ∈ ts then H a else B a) = some o := h
    by_cases m : a ∈ ts
    · rw [if_pos m] at h; exact h
    · rw [if_neg m] at h; exact w.ex _ _ h
  · obtain ⟨h1, h2⟩ := w.cell q hq
    refine ⟨h1, ?_⟩
    have : q.1 ∉ ts := fun m => (n _ m).2 (List.mem_map.mpr ⟨q, hq, rfl⟩)
    show (if q.1 ∈ ts then H q.1 else B q.1) = none
    rw [if_neg this]; exact h2
/-- a told list of pairs, beside cells of our own -/
theorem own_newT {B H H' : Hp} {cs : Cells} {p : Addr} {ts : List Addr} {fs : List Tr} (w : Own B cs H) (np : H p = none) (nt : ∀ t ∈ ts, H t = none) (s : Same H H') (c : H' p = some (.lst (ts.map V.ref))) (f : TrAll H' ts fs) :
    ∃ B2, Same B B2 ∧ TrAll B2 ts fs ∧ Own B2 ((p, .lst (ts.map V.ref)) :: cs) H' := by
  refine own_freezeT (w.newE np s c) f fun t m => ⟨w.fresh (nt t m), fun hm => ?_⟩
  rw [List.map_cons] at hm
  cases hm with
  | head =>
    obtain ⟨g, hg⟩ := f.mem _ m
    rw [c] at hg; cases hg
  | tail _ hm => exact w.off (nt t m) hm
theorem sum_perm {l l' : List Int} (h : l.Perm l') : l.sum = l'.sum := by
  induction h with
  | nil => rfl
  | cons x _ ih => rw [List.sum_cons, List.sum_cons, ih]
  | swap x y l => rw [List.sum_cons, List.sum_cons, List.sum_cons, List.sum_cons]; omega
  | trans _ _ i1 i2 => exact i1.trans i2
theorem pairsS_perm {fs gs : List Tr} (h : fs.Perm gs) (g : Nat) : pairsS fs g = pairsS gs g := by
  unfold pairsS
  exact sum_perm (h.map _)
/-- which pairs a list of tuples tells -/
def pairsOk (m : Nat) (fs : List Tr) : Prop := (∀ t ∈ fs, PairOk m t) ∧ (fs.map trK).Nodup
theorem pairsOk_perm {m : Nat} {fs gs : List Tr} (h : fs.Perm gs) (o : pairsOk m fs) : pairsOk m gs := ⟨fun t ht => o.1 t (h.mem_iff.mpr ht), (h.map trK).nodup_iff.mp o.2⟩
/-- sorted by their hands -/
def SortedT (fs : List Tr) : Prop := (fs.map trP).Pairwise fun x y => SrtO.lexB y x = false
end Sp
namespace Sp
open PySem PySem.Spec L2 PyProof.Rows
/-- what stands at ts joins what stands and stays -/
theorem own_freezeA {B H : Hp} {cs : Cells} (w : Own B cs H) (ts : List Addr) (n : ∀ t ∈ ts, t ∉ cs.map (·.1)) : ∃ B2, Same B B2 ∧ (∀ t ∈ ts, B2 t = H t) ∧ Own B2 cs H := by
  classical
  refine ⟨fun a => if a ∈ ts then H a else B a, fun a o h => ?_, fun t m => by show (if t ∈ ts then H t else B t) = _; rw [if_pos m], fun a o h => ?_, fun q hq => ?_, w.nd⟩
  · show (if a ∈ ts then H a else B a) = some o
    by_cases m : a ∈ ts
    · rw [if_pos m]; exact w.ex _ _ h
    · rw [if_neg m]; exact h
  · have h : (if a ∈ ts then H a else B a) = some o := h
    by_cases m : a ∈ ts
    · rw [if_pos m] at h; exact h
    · rw [if_neg m] at h; exact w.ex _ _ h
  · obtain ⟨h1, h2⟩ := w.cell q hq
    refine ⟨h1, ?_⟩
    have : q.1 ∉ ts := fun m => n _ m (List.mem_map.mpr ⟨q, hq, rfl⟩)
    show (if q.1 ∈ ts then H q.1 else B q.1) = none
    rw [if_neg this]; exact h2
theorem x_dNewT {σ : L2.St} {H : Hp} {Q : VK} (h : ∀ p, H p = none → Q (.ref p) (upd H p (.dT []))) : tDNewT σ H Q := h
theorem x_dInT {ty td : TE} {σ : L2.St} {H : Hp} {Q : VK} (h : ty σ H fun y H1 => td σ H1 fun x H2 => ∃ a o, x = .ref a ∧ DGet H2 a y o ∧ Q (.bl o.isSome) H2) : tDIn ty td σ H Q := h
theorem x_dPutT {td ty tv : TE} {D : Ends} {σ : L2.St} {H : Hp} (h : tv σ H fun v H1 => td σ H1 fun x H2 => ty σ H2 fun y H3 => ∃ a H4, x = .ref a ∧ DPut H3 a y v H4 ∧ D.nx σ H4) : sDPut td ty tv D σ H := h
theorem x_dGetT {td ty : TE} {σ : L2.St} {H : Hp} {Q : VK} (h : td σ H fun x H1 => ty σ H1 fun y H2 => ∃ a v, x = .ref a ∧ DGet H2 a y (some v) ∧ Q v H2) : tDGet td ty σ H Q := h
theorem x_sortDT {H : Hp} {Q : VK} {d : Addr} {kvs : List (List Key × V)} {pk : List (Int × Int)} (hd : H d = some (.dT kvs)) (hk : kvs.map (·.1) = pk.map keyP)
    (q : ∀ (bs : List Addr) (ps : List (Int × Int)) (p : Addr), ps.Perm pk → ps.Pairwise (fun x y => SrtO.lexB y x = false) → Paired (fun b q => H b = some (.tup [.int q.1, .int q.2])) bs ps → H p = none → Q (.ref p) (upd H p (.lst (bs.map V.ref)))) : rSortedDT [.ref d] H Q := ⟨d, kvs, pk, rfl, .inl hd, hk, q⟩
end Sp
namespace Sp
open PySem PySem.Spec L2 PyProof.Rows
/-- an object made with a list of pairs of its own -/
theorem own_madeT {B H1 H2 : Hp} {cs : Cells} (w : Own B cs H1) {x dx l C : Addr} {fl : List (Str × V)} {C' dx' : Addr} {us : List Addr} {gs : List Tr} (n1 : H1 x = none) (n2 : H1 dx = none) (hne : dx ≠ x) (nl : (upd (upd H1 dx (.own x)) x (.ins C dx [])) l = none)
    (nu : ∀ u ∈ us, (upd (upd H1 dx (.own x)) x (.ins C dx [])) u = none) (s : SameX x (upd (upd H1 dx (.own x)) x (.ins C dx [])) H2) (c : H2 x = some (.ins C' dx' fl)) (cl : H2 l = some (.lst (us.map V.ref))) (hu : TrAll H2 us gs) :
    ∃ B2, Same B B2 ∧ Own B2 cs H2 ∧ B2 x = some (.ins C' dx' fl) ∧ B2 l = some (.lst (us.map V.ref)) ∧ TrAll B2 us gs := by
  have w1 := (w.new (o := .own x) n2).new (p := x) (o := .ins C dx []) (by rw [upd_ne (Ne.symm hne)]; exact n1)
  have w2 := own_setXN w1 0 rfl s c nl cl
  have hoff : ∀ t ∈ us, t ∉ ((l, HO.lst (us.map V.ref)) :: ([(x, HO.ins C dx []), (dx, HO.own x)] ++ cs).set 0 (x, HO.ins C' dx' fl)).map (·.1) := fun t ht hm => by
    obtain ⟨f, hf⟩ := hu.mem t ht
    have hn := nu t ht
    rw [show ((l, HO.lst (us.map V.ref)) :: ([(x, HO.ins C dx []), (dx, HO.own x)] ++ cs).set 0 (x, HO.ins C' dx' fl)).map (·.1) = l :: x :: dx :: cs.map (·.1) from rfl] at hm
    simp only [List.mem_cons] at hm
    rcases hm with rfl | rfl | rfl | hm
    · rw [cl] at hf; cases hf
    · rw [c] at hf; cases hf
    · rw [upd_ne hne, upd_same] at hn; cases hn
    · obtain ⟨q, hq, rfl⟩ := List.mem_map.mp hm
      have h1 := (w1.cell q (.tail _ (.tail _ hq))).1
      rw [h1] at hn; cases hn
  obtain ⟨B1, sB, hB1, w3⟩ := own_freezeT w2 hu fun t ht => ⟨w1.fresh (nu t ht), hoff t ht⟩
  have nlx : x ≠ l := fun z => by subst z; rw [upd_same] at nl; cases nl
  have nld : dx ≠ l := fun z => by subst z; rw [upd_ne hne, upd_same] at nl; cases nl
  have sF := ((same_upd (o := .lst (us.map V.ref)) (w3.none 0 rfl)).trans (same_upd (o := .ins C' dx' fl) (w3.freeze.none 0 rfl))).trans (same_upd (o := .own x) (w3.freeze.freeze.none 0 rfl))
  refine ⟨_, sB.trans sF, w3.freeze.freeze.freeze, ?_, ?_, hB1.same sF⟩
  · rw [upd_ne (Ne.symm hne), upd_same]
  · rw [upd_ne (Ne.symm nld), upd_ne (Ne.symm nlx), upd_same]
/-- their data -/
def trD (fs : List Tr) : PyData := .list (fs.map fun f => .tuple [.int (f.1 : Int), .int (f.2.1 : Int), .int f.2.2])
theorem dpAll_tr {K : PySem.W.Frag} {H : Hp} : ∀ {ts : List Addr} {fs : List Tr}, TrAll H ts fs → DpAll K H (ts.map V.ref) (fs.map fun f => .tuple [.int (f.1 : Int), .int (f.2.1 : Int), .int f.2.2])
  | _, _, .nil => .nil
  | _, _, .cons h r => .cons (.tup (SqT.of h) (.cons (.int _) (.cons (.int _) (.cons (.int _) .nil)))) (dpAll_tr r)
theorem dp_tr {K : PySem.W.Frag} {H : Hp} {p : Addr} {ts : List Addr} {fs : List Tr} (h : SqL K H p (ts.map V.ref)) (f : TrAll H ts fs) : Dp K H (.ref p) (trD fs) := .lst h (dpAll_tr f)
theorem lay_tr (fs : List Tr) : LayD 3 (trD fs) := LayD.list fun d hd => by
  obtain ⟨f, _, rfl⟩ := List.mem_map.mp hd
  refine LayD.tuple fun e he => ?_
  simp only [List.mem_cons, List.not_mem_nil, or_false] at he
  rcases he with rfl | rfl | rfl
  all_goals exact LayD.int (by decide) _
end Sp

/-! Com: rules as drawn rows (kind, numbers, pairs); cells beside what is new. -/
namespace Sp
open PySem PySem.Spec L2 PyProof.Rows
structure DRow where
  kind : Nat
  ns : List Int
  ps : List Tr
def rowOk (m : Nat) (r : DRow) : Prop :=
  (r.kind = 0 ∧ r.ns = [] ∧ r.ps = []) ∨ (r.kind = 1 ∧ r.ns.length = m ∧ r.ps = []) ∨ (r.kind = 2 ∧ r.ns = [] ∧ pairsOk m r.ps ∧ r.ps.length ≤ 36) ∨
  (r.kind = 3 ∧ r.ns.length = m + 2 ∧ 1 ≤ gi r.ns 0 ∧ r.ps = []) ∨ (r.kind = 4 ∧ r.ns.length = 2 ^ m - 1 ∧ r.ps = [])
def rowF (r : DRow) (g : Nat) : Int :=
  if r.kind = 1 then sumS r.ns g else if r.kind = 2 then pairsS r.ps g else if r.kind = 3 then (if gi r.ns 0 ≤ sumS (r.ns.drop 2) g then gi r.ns 1 else 0)
  else if r.kind = 4 then fn (0 :: r.ns) g else 0
structure RowC (H : Hp) (t l q : Addr) (ts : List Addr) (r : DRow) : Prop where
  t : H t = some (.tup [.int (r.kind : Int), .ref l, .ref q])
  l : H l = some (.lst (r.ns.map V.int))
  q : H q = some (.lst (ts.map V.ref))
  p : TrAll H ts r.ps
def RowAt (H : Hp) (t : Addr) (r : DRow) : Prop := ∃ l q ts, RowC H t l q ts r
theorem RowAt.same {H H' : Hp} {t : Addr} {r : DRow} (h : RowAt H t r) (s : Same H H') : RowAt H' t r := by
  obtain ⟨l, q, ts, c⟩ := h
  exact ⟨l, q, ts, s _ _ c.t, s _ _ c.l, s _ _ c.q, c.p.same s⟩
inductive RowsAt (H : Hp) : List Addr → List DRow → Prop
  | nil : RowsAt H [] []
  | cons {t : Addr} {ts : List Addr} {r : DRow} {rs : List DRow} : RowAt H t r → RowsAt H ts rs → RowsAt H (t :: ts) (r :: rs)
theorem RowsAt.same {H H' : Hp} (s : Same H H') : ∀ {ts : List Addr} {rs : List DRow}, RowsAt H ts rs → RowsAt H' ts rs
  | _, _, .nil => .nil
  | _, _, .cons h r => .cons (h.same s) (r.same s)
theorem RowsAt.len {H : Hp} : ∀ {ts : List Addr} {rs : List DRow}, RowsAt H ts rs → ts.length = rs.length
  | _, _, .nil => rfl
  | _, _, .cons _ r => by rw [List.length_cons, List.length_cons, r.len]
theorem RowsAt.at {H : Hp} : ∀ {ts : List Addr} {rs : List DRow}, RowsAt H ts rs → ∀ {i : Nat} {t : Addr}, ts[i]? = some t → ∃ r, rs[i]? = some r ∧ RowAt H t r
  | _, _, .nil, i, _, h => by rw [List.getElem?_nil] at h; cases h
  | _, _, .cons (r := f) h r, 0, t, e => ⟨f, rfl, by cases e; exact h⟩
  | _, _, .cons h r, i + 1, t, e => r.at (i := i) (by simpa using e)
theorem RowsAt.snoc {H : Hp} {t : Addr} {r : DRow} (ht : RowAt H t r) : ∀ {ts : List Addr} {rs : List DRow}, RowsAt H ts rs → RowsAt H (ts ++ [t]) (rs ++ [r])
  | _, _, .nil => .cons ht .nil
  | _, _, .cons h r => .cons h (r.snoc ht)
/-- all that is not a cell of our own stands and stays -/
theorem own_all {B H H' : Hp} {cs : Cells} (w : Own B cs H) (s : Same H H') : ∃ B2, Same B B2 ∧ Own B2 cs H' ∧ ∀ a, a ∉ cs.map (·.1) → B2 a = H' a := by
  classical
  refine ⟨fun a => if a ∈ cs.map (·.1) then none else H' a, fun a o h => ?_, ⟨fun a o h => ?_, fun q hq => ⟨s _ _ (w.cell q hq).1, if_pos (List.mem_map.mpr ⟨q, hq, rfl⟩)⟩, w.nd⟩, fun a h => if_neg h⟩
  · have : a ∉ cs.map (·.1) := fun m => by
      obtain ⟨q, hq, rfl⟩ := List.mem_map.mp m
      rw [(w.cell q hq).2] at h; cases h
    show (if a ∈ cs.map (·.1) then none else H' a) = some o
    rw [if_neg this]; exact s _ _ (w.ex _ _ h)
  · have h : (if a ∈ cs.map (·.1) then none else H' a) = some o := h
    by_cases m : a ∈ cs.map (·.1)
    · rw [if_pos m] at h; cases h
    · rw [if_neg m] at h; exact h
def RetRow (m : Nat) (H : Hp) (Q : VK) : Prop := ∀ (r : DRow) (t l q : Addr) (ts : List Addr) (H' : Hp), rowOk m r → H t = none → H l = none → H q = none → (∀ u ∈ ts, H u = none) → Same H H' → RowC H' t l q ts r → Q (.ref t) H'
theorem own_row {B H H' : Hp} {cs : Cells} {t l q : Addr} {ts : List Addr} {r : DRow} (w : Own B cs H) (nt : H t = none) (nl : H l = none) (nq : H q = none) (nu : ∀ u ∈ ts, H u = none) (s : Same H H') (c : RowC H' t l q ts r) : ∃ B2, Same B B2 ∧ Own B2 cs H' ∧ RowAt B2 t r := by
  obtain ⟨B2, sB, w2, e⟩ := own_all w s
  exact ⟨B2, sB, w2, l, q, ts, (e _ (w.off nt)).trans c.t, (e _ (w.off nl)).trans c.l, (e _ (w.off nq)).trans c.q, c.p.congr fun u hu => e _ (w.off (nu u hu))⟩
theorem Own.perm {B H : Hp} {cs ds : Cells} (w : Own B cs H) (h : cs.Perm ds) : Own B ds H := ⟨w.ex, fun q hq => w.cell q (h.mem_iff.mpr hq), (h.map (·.1)).nodup_iff.mp w.nd⟩
/-- pairs drawn so far, ahead of (one, other) -/
def AheadR (m one other : Nat) (fs : List Tr) : Prop := (∀ t ∈ fs, PairOk m t ∧ (t.1 < one ∨ (t.1 = one ∧ t.2.1 < other))) ∧ (fs.map trK).Nodup
theorem AheadR.ok {m one other : Nat} {fs : List Tr} (h : AheadR m one other fs) : pairsOk m fs := ⟨fun t ht => (h.1 t ht).1, h.2⟩
theorem AheadR.snoc {m one other : Nat} {fs : List Tr} (h : AheadR m one other fs) (h1 : one < other) (h2 : other < m) (z : Int) : AheadR m one (other + 1) (fs ++ [(one, other, z)]) := by
  refine ⟨fun t ht => ?_, ?_⟩
  · rcases List.mem_append.mp ht with h' | h'
    · exact ⟨(h.1 t h').1, by have := (h.1 t h').2; omega⟩
    · obtain rfl := List.mem_singleton.mp h'
      exact ⟨⟨h1, h2⟩, .inr ⟨rfl, by show other < other + 1; omega⟩⟩
  · rw [List.map_append, List.nodup_append]
    refine ⟨h.2, by simp, fun x hx y hy e => ?_⟩
    obtain ⟨u, hu, rfl⟩ := List.mem_map.mp hx
    simp at hy
    have e2 := trK_inj (b := (one, other, z)) (e.trans hy)
    have e3 : u.1 = one := e2.1
    have e4 : u.2.1 = other := e2.2
    have := (h.1 u hu).2
    omega
theorem AheadR.skip {m one other : Nat} {fs : List Tr} (h : AheadR m one other fs) : AheadR m one (other + 1) fs := ⟨fun t ht => ⟨(h.1 t ht).1, by have := (h.1 t ht).2; omega⟩, h.2⟩
theorem AheadR.next {m one other : Nat} {fs : List Tr} (h : AheadR m one other fs) (hm : m ≤ other) : AheadR m (one + 1) (one + 2) fs := ⟨fun t ht => ⟨(h.1 t ht).1, by have := (h.1 t ht).2; omega⟩, h.2⟩
/-- filter, then sum -/
theorem pairs_sum (fs : List Tr) (g : Nat) : ((fs.filter fun t => both t g).map fun t => t.2.2).sum = pairsS fs g := by
  unfold pairsS
  induction fs with
  | nil => rfl
  | cons t fs ih =>
    rw [List.map_cons, List.sum_cons, ← ih]
    cases c : both t g with
    | true => rw [List.filter_cons_of_pos (p := fun t => both t g) c, List.map_cons, List.sum_cons, if_pos rfl]
    | false => rw [List.filter_cons_of_neg (p := fun t => both t g) (by rw [c]; exact Bool.false_ne_true), if_neg Bool.false_ne_true, Int.zero_add]
theorem trVs_inj {fs gs : List Tr} (h : fs.map trV = gs.map trV) : fs = gs := by
  induction fs generalizing gs with
  | nil => cases gs with
    | nil => rfl
    | cons _ _ => cases h
  | cons f fs ih =>
    cases gs with
    | nil => cases h
    | cons g gs =>
      rw [List.map_cons, List.map_cons] at h
      injection h with h1 h2
      obtain ⟨f1, f2, f3⟩ := f
      obtain ⟨g1, g2, g3⟩ := g
      simp only [trV, List.cons.injEq, V.int.injEq, and_true] at h1
      obtain ⟨e1, e2, e3⟩ := h1
      rw [ih h2, show f1 = g1 by omega, show f2 = g2 by omega, e3]
theorem tr_thing {H : Hp} {ts : List Addr} {fs : List Tr} (h : TrAll H ts fs) {i : Nat} {t : Addr} {ys : List V} (ht : ts[i]? = some t) (hy : (fs.map trV)[i]? = some ys) : Rd H t (.tup ys) ∧ ∀ y ∈ ys, Thing H y := by
  obtain ⟨f, hf, e⟩ := h.at ht
  rw [List.getElem?_map, hf] at hy
  obtain rfl := Option.some.inj hy
  refine ⟨.inl e, fun y m => ?_⟩
  simp only [trV, List.mem_cons, List.not_mem_nil, or_false] at m
  rcases m with rfl | rfl | rfl <;> exact .int _
theorem x_asgG {K : PySem.W.Frag} {te : TE} {n : Nat} {gs : TGs} {D : Ends} {σ : L2.St} {H : Hp} (h : te σ H fun x H1 => gTup K n gs x σ H1 fun σ2 H2 => D.nx σ2 H2) : tAsg te (gTup K n gs) D σ H := h
theorem at_lastR {ts : List Addr} {t : Addr} : atI ((ts ++ [t]).map V.ref) (-1) = some (.ref t) := by
  unfold atI
  rw [List.length_map, ixN_last (by rw [List.length_append]; exact Nat.succ_pos _), Option.bind_some, List.getElem?_map, List.length_append, List.getElem?_append_right (by show ts.length ≤ ts.length + 1 - 1; omega)]
  rw [show ts.length + [t].length - 1 - ts.length = 0 by show ts.length + 1 - 1 - ts.length = 0; omega] <;> rfl
end Sp

/-! Mks: an object of an own class made in a try. -/
namespace Sp
open PySem PySem.Spec L2 PyProof.Rows
section
variable {X : Cx} {CX : CXT} {k : Nat} {f C : Addr} {fd : FuncData} {ps : List Str} {sp : L2.Sp} {E : L2.St → XK} {x : Str} {p pos : Pos} {e : Expr} {es : List Expr} {t : TA}
theorem run_makeS {pins : List (Addr × Obj)} {σ : L2.St} {H : Hp} {s : Shared} {Q : VK} {us : List Value} {vs : List V} (M : Mk X.K C f) (F : FnOk X.prog X.w X.K X.mg X.base CX k f fd ps sp) (hr : Room (k + 1) X.A) (hb : Binds X.K fd ps [])
    (hx : PassesAt CX X σ (E σ)) (I : Inv X pins σ H s) (r : Vals vs us)
    (h : ∀ x dx, H x = none → H dx = none → dx ≠ x → sp (.ref x :: vs) (upd (upd H dx (.own x)) x (.ins C dx [])) (fun v H2 => v = .non ∧ Q (.ref x) H2) (E σ)) :
    wpAny (model X.prog X.w) X.A (call (.ref C) us) (EP X pins σ Q) X.xe s := by
  have hq := h (s.heap.objs.size + 1) s.heap.objs.size (I.hok.fresh (Nat.le_succ _)) (I.hok.fresh (Nat.le_refl _)) (Nat.ne_of_lt (Nat.lt_succ_self _))
  have I2 := Inv.made (C := C) I
  have r2 : Vals (V.ref (s.heap.objs.size + 1) :: vs) (Value.ref (s.heap.objs.size + 1) :: us) := .cons rfl r
  have hl : (Value.ref (s.heap.objs.size + 1) :: us ++ []).length = ps.length := by
    rw [List.append_nil]
    have e := r2.length
    rw [F.len _ _ _ _ hq] at e
    exact e.symm
  have hb2 := hb _ (Value.ref (s.heap.objs.size + 1) :: us) I2.kIn hl
  rw [List.append_nil] at hb2
  refine wpAny_call (make_map (f := f) I.kIn M.makes M.init (beq_iff_eq.mp M.fn) (codeAny_mono (F.run _ X.stack _ _ ⟨Value.ref (s.heap.objs.size + 1) :: us, []⟩ (Value.ref (s.heap.objs.size + 1) :: us) _ _ (E σ) (hr.make C us [])
    (I2.env0.make C us []) hb2 r2 hq) fun r s' hq' => ?_))
  cases r with
  | error e => exact hx pins _ _ e s' I2 hq'
  | ok fl =>
    cases fl with
    | ret u =>
      obtain ⟨v, H', I3, rv, ev, q3⟩ := I2.after hq'
      subst ev
      exact ⟨rv, ⟨V.ref (s.heap.objs.size + 1), H', I3, rfl, q3⟩⟩
    | next => exact False.elim hq'
    | brk => exact False.elim hq'
    | cont => exact False.elim hq'
def tMakeS (C : Addr) (sp : L2.Sp) (E : L2.St → XK) (t : TA) : TE := fun σ H Q => t σ H fun vs H1 => ∀ x dx, H1 x = none → H1 dx = none → dx ≠ x → sp (.ref x :: vs) (upd (upd H1 dx (.own x)) x (.ins C dx [])) (fun v H2 => v = .non ∧ Q (.ref x) H2) (E σ)
theorem x_makeS {σ : L2.St} {H : Hp} {Q : VK} (h : t σ H fun vs H1 => ∀ x dx, H1 x = none → H1 dx = none → dx ≠ x → sp (.ref x :: vs) (upd (upd H1 dx (.own x)) x (.ins C dx [])) (fun v H2 => v = .non ∧ Q (.ref x) H2) (E σ)) : tMakeS C sp E t σ H Q := h
theorem pe_makeS (M : Mk X.K C f) (F : FnOk X.prog X.w X.K X.mg X.base CX k f fd ps sp) (hr : Room (k + 1) X.A) (hg : Gl X x) (hm : X.mg x = some (.ref C)) (hb : Binds X.K fd ps []) (hx : ∀ σ, PassesAt CX X σ (E σ))
    (ha : PA X (e :: es) t) (hdb : (x == ("__debug__" : Str)) = false := by decide) (he : starEach (e :: es) X.env = (false, eval e X.env) :: starEach es X.env := by rfl) (hpl : (backTo pos (starEach es X.env)).any (·.1) = false := by rfl) :
    PE X (.Call (.Name x p) (e :: es) [] pos) (tMakeS C sp E t) := by
  refine ⟨fun pins s σ H Q I h => ?_⟩
  refine wpAny_Call_Name_kw (ld_glob I hg hm ?_ hdb)
  refine PySem.W.callWith_K (h₀ := X.base) I.ok.mod.kin M.kp (thn (ha.run pos pins s σ H _ I h) fun us s1 ⟨vs, H1, I1, r, q⟩ => ⟨I1.kIn, ?_⟩) he hpl
  exact run_makeS M F hr hb (hx σ) I1 r q
end
end Sp

/-! Sam: != of two lists that hold the same objects. -/
namespace Sp
open PySem PySem.Spec L2 PyProof.Rows
def rNeS (K : PySem.W.Frag) : R2 := fun x y H Q => ∃ (a b : Addr) (rs : List Addr), x = .ref a ∧ y = .ref b ∧ SqL K H a (rs.map V.ref) ∧ SqL K H b (rs.map V.ref) ∧ Q (.bl false) H
theorem vals_refs : ∀ {rs : List Addr} {us vs : List Value}, Vals (rs.map V.ref) us → Vals (rs.map V.ref) vs → us = vs
  | [], _, _, .nil, .nil => rfl
  | r :: rs, _, _, .cons h1 t1, .cons h2 t2 => by
    have e1 : _ = Value.ref r := h1
    have e2 : _ = Value.ref r := h2
    rw [e1, e2, vals_refs t1 t2]
theorem op_neS {X : Cx} (hu : X.A.units + 64 < cLine) : OpR X (compareOp .NotEq) (rNeS X.K) := by
  intro pins s σ H x y v u Q I rx ry h
  obtain ⟨a, b, rs, rfl, rfl, h1, h2, q⟩ := h
  obtain rfl : v = Value.ref a := rx
  obtain rfl : u = Value.ref b := ry
  obtain ⟨i1, r1, p1, _⟩ := I.list h1
  obtain ⟨i2, r2, p2, _⟩ := I.list h2
  obtain rfl := vals_refs r1 r2
  have k := SeqAt.RcNeAt.lists (A := X.A) (s := s) (e := fun _ => true) p1.isList p2.isList rfl (by omega) (fun j _ _ => SeqAt.EqAt.same _)
  refine k X.prog X.w X.xe _ ⟨.bl false, H, I, ?_, q⟩
  have e : ((List.range i1.toArray.size).all fun _ => true) = true := List.all_eq_true.mpr fun _ _ => rfl
  rw [e] <;> rfl
theorem op_neSK {X : Cx} {K : PySem.W.Frag} (h : X.K = K) (hu : X.A.units + 64 < cLine) : OpR X (compareOp .NotEq) (rNeS K) := h ▸ op_neS hu
end Sp

/-! Mat: the best pairing of each group, plainly. -/
namespace Sp
open PySem PySem.Spec L2 PyProof.Rows
/-- the number of the pair (l, o) -/
def numOf (fs : List Tr) (l o : Nat) : Option Int := (fs.find? fun t => t.1 == l && t.2.1 == o).map fun t => t.2.2
theorem numOf_val (fs : List Tr) (l o : Nat) : valV (fs.map entT2) [Sum.inl (l : Int), Sum.inl (o : Int)] = (numOf fs l o).map V.int := by
  unfold numOf
  induction fs with
  | nil => rfl
  | cons t fs ih =>
    rw [List.map_cons, List.find?_cons]
    cases c : (t.1 == l && t.2.1 == o) with
    | true =>
      rw [Bool.and_eq_true, beq_iff_eq, beq_iff_eq] at c
      rw [valV_pos (p := entT2 t) (show trK t = _ by unfold trK; rw [c.1, c.2])] <;> rfl
    | false =>
      rw [valV_neg (p := entT2 t) (fun e => ?_), ih]
      have e : trK t = trK ((l, o, 0) : Tr) := e
      have := trK_inj e
      rw [show (t.1 == l) = true from beq_iff_eq.mpr this.1, show (t.2.1 == o) = true from beq_iff_eq.mpr this.2] at c
      cases c
def stepP (fs : List Tr) (S : List Int) (g : Nat) (b : Int) (o : Nat) : Int :=
  match numOf fs (leastM g) o with
  | some z => if gi S ((g - 2 ^ leastM g - 2 ^ o : Nat) : Int) + z > b then gi S ((g - 2 ^ leastM g - 2 ^ o : Nat) : Int) + z else b
  | none => b
def stepB (fs : List Tr) (S : List Int) (g : Nat) : Int := ((handsM g).drop 1).foldl (stepP fs S g) (gi S ((g - 2 ^ leastM g : Nat) : Int))
def bestL (fs : List Tr) : Nat → List Int
  | 0 => [0]
  | n + 1 => bestL fs n ++ [stepB fs (bestL fs n) (n + 1)]
theorem bestL_len (fs : List Tr) : ∀ n, (bestL fs n).length = n + 1
  | 0 => rfl
  | n + 1 => by show (bestL fs n ++ [_]).length = _; rw [List.length_append, bestL_len fs n] <;> rfl
def offB (g : Nat) : Bool := decide (2 ^ leastM g ≤ g) && ((handsM g).drop 1).all fun o => decide (o < 6) && decide (leastM g < o) && decide (2 ^ leastM g + 2 ^ o ≤ g)
theorem off_allB : ∀ g, g < 64 → 0 < g → offB g = true := by decide +kernel
theorem off_least {g : Nat} (h : g < 64) (h0 : 0 < g) : 2 ^ leastM g ≤ g := by
  have := off_allB g h h0
  unfold offB at this
  rw [Bool.and_eq_true] at this
  exact of_decide_eq_true this.1
theorem off_other {g o : Nat} (h : g < 64) (h0 : 0 < g) (ho : o ∈ (handsM g).drop 1) : o < 6 ∧ leastM g < o ∧ 2 ^ leastM g + 2 ^ o ≤ g := by
  have := off_allB g h h0
  unfold offB at this
  rw [Bool.and_eq_true] at this
  have := List.all_eq_true.mp this.2 o ho
  rw [Bool.and_eq_true, Bool.and_eq_true] at this
  exact ⟨of_decide_eq_true this.1.1, of_decide_eq_true this.1.2, of_decide_eq_true this.2⟩
/-- what split_off tells -/
def RetSplit (g : Nat) (H : Hp) (Q : VK) : Prop := ∀ (t l : Addr) (H' : Hp), H t = none → H l = none → t ≠ l → Same H H' → H' t = some (.tup [vnat (leastM g), .ref l, .int ((g - 2 ^ leastM g : Nat) : Int)]) → H' l = some (.lst (((handsM g).drop 1).map vnat)) → Q (.ref t) H'
theorem own_newSplit {B H H' : Hp} {cs : Cells} {t l : Addr} {xs : List V} {o : HO} (w : Own B cs H) (nt : H t = none) (nl : H l = none) (ne : t ≠ l) (s : Same H H') (ct : H' t = some o) (cl : H' l = some (.lst xs)) : Own B ((t, o) :: (l, .lst xs) :: cs) H' := by
  have w1 := w.newE nl s cl
  refine ⟨w1.ex, fun q hq => ?_, ?_⟩
  · cases hq with
    | head => exact ⟨ct, w.fresh nt⟩
    | tail _ hq => exact w1.cell q hq
  · rw [List.map_cons, List.nodup_cons]
    refine ⟨fun m => ?_, w1.nd⟩
    rw [List.map_cons] at m
    cases m with
    | head => exact ne rfl
    | tail _ m => exact w.off nt m
/-- a Match as it stands: its pairs, its prices, its sums -/
inductive MatchE (C : Addr) (K : PySem.W.Frag) (H : Hp) (a : Addr) (m : Nat) (fs : List Tr) : Prop
  | mk {dx l d s : Addr} {ts : List Addr} (e : H a = some (.ins C dx [("many", .int (m : Int)), ("pairs", .ref l), ("prices", .ref d), ("sums", .ref s)])) (h : SqL K H l (ts.map V.ref)) (hr : TrAll H ts fs) (hd : H d = some (.dT (fs.map entT2)))
      (hs : SqL K H s ((bestL fs (2 ^ m - 1)).map V.int)) (hp : pairsOk m fs) (h1 : 1 ≤ m) (h6 : m ≤ 6) : MatchE C K H a m fs
inductive MatchAt (C : Addr) (K : PySem.W.Frag) (H : Hp) (a : Addr) (m : Nat) (f : Nat → Int) : Prop
  | mk {fs : List Tr} (x : MatchE C K H a m fs) (hf : ∀ g, g < 2 ^ m → f g = gi (bestL fs (2 ^ m - 1)) (g : Int)) : MatchAt C K H a m f
section
variable {C : Addr} {K : PySem.W.Frag} {H H' : Hp} {a : Addr} {m : Nat} {f : Nat → Int} {fs : List Tr}
theorem MatchE.same (h : MatchE C K H a m fs) (s : Same H H') : MatchE C K H' a m fs := by cases h with | mk e h hr hd hs hp h1 h6 => exact .mk (s _ _ e) (s.seq h) (hr.same s) (s _ _ hd) (s.seq hs) hp h1 h6
theorem MatchAt.same (h : MatchAt C K H a m f) (s : Same H H') : MatchAt C K H' a m f := by cases h with | mk x hf => exact .mk (x.same s) hf
theorem MatchAt.ins (h : MatchAt C K H a m f) : ∃ dx fs, InsF H a C dx fs m := by cases h with | mk x hf => cases x with | mk e h hr hd hs hp h1 h6 => exact ⟨_, _, e, rfl, rfl, rfl, rfl, rfl⟩
end
/-- all but what stands at p -/
def hole (p : Addr) (H : Hp) : Hp := fun a => if a = p then none else H a
theorem own_hole {p : Addr} {o : HO} {H : Hp} (e : H p = some o) : Own (hole p H) [(p, o)] H := by
  refine ⟨fun a u h => ?_, fun q hq => ?_, by simp⟩
  · unfold hole at h
    by_cases c : a = p
    · rw [if_pos c] at h; cases h
    · rw [if_neg c] at h; exact h
  · rw [List.mem_singleton] at hq
    subst hq
    exact ⟨e, by unfold hole; rw [if_pos rfl]⟩
theorem hole_ne {p a : Addr} {H : Hp} (n : a ≠ p) : hole p H a = H a := by unfold hole; rw [if_neg n]
theorem sameX_hole {p : Addr} {H H' B : Hp} (s : Same (hole p H) B) (x : Same B H') : SameX p H H' := fun q o hq h => x _ _ (s _ _ (by rw [hole_ne hq]; exact h))
def hitP (fs : List Tr) (S : List Int) (g o : Nat) : Bool := match numOf fs (leastM g) o with | some z => decide (gi S (g : Int) = gi S ((g - 2 ^ leastM g - 2 ^ o : Nat) : Int) + z) | none => false
/-- what partner answers: the first other hand whose pair with the least makes up the sum *)
-/
def partnerM (fs : List Tr) (S : List Int) (g : Nat) : Option Nat :=
  if gi S (g : Int) = gi S ((g - 2 ^ leastM g : Nat) : Int) then none else
    ((handsM g).drop 1).find? (hitP fs S g)
def optV : Option Nat → V
  | none => .non
  | some o => vnat o
def pairW (fs : List Tr) (S : List Int) (g : Nat) : List (Nat × Nat) :=
  if h : g = 0 then [] else match partnerM fs S g with
    | none => pairW fs S (g - 2 ^ leastM g)
    | some o => (leastM g, o) :: pairW fs S (g - 2 ^ leastM g - 2 ^ o)
termination_by g
decreasing_by
  · have := Nat.two_pow_pos (leastM g); omega
  · exact Nat.lt_of_le_of_lt (Nat.sub_le _ _) (by have := Nat.two_pow_pos (leastM g); omega)
inductive PrAll (H : Hp) : List Addr → List (Nat × Nat) → Prop
  | nil : PrAll H [] []
  | cons {t : Addr} {ts : List Addr} {f : Nat × Nat} {fs : List (Nat × Nat)} : H t = some (.tup [vnat f.1, vnat f.2]) → PrAll H ts fs → PrAll H (t :: ts) (f :: fs)
theorem PrAll.same {H H' : Hp} (s : Same H H') : ∀ {ts : List Addr} {fs : List (Nat × Nat)}, PrAll H ts fs → PrAll H' ts fs
  | _, _, .nil => .nil
  | _, _, .cons h r => .cons (s _ _ h) (r.same s)
theorem PrAll.len {H : Hp} : ∀ {ts : List Addr} {fs : List (Nat × Nat)}, PrAll H ts fs → ts.length = fs.length
  | _, _, .nil => rfl
  | _, _, .cons _ r => by rw [List.length_cons, List.length_cons, r.len]
theorem PrAll.at {H : Hp} : ∀ {ts : List Addr} {fs : List (Nat × Nat)}, PrAll H ts fs → ∀ {i : Nat} {t : Addr}, ts[i]? = some t → ∃ f, fs[i]? = some f ∧ H t = some (.tup [vnat f.1, vnat f.2])
  | _, _, .nil, i, _, h => by rw [List.getElem?_nil] at h; cases h
  | _, _, .cons (f := f) h r, 0, t, e => ⟨f, rfl, by cases e; exact h⟩
  | _, _, .cons h r, i + 1, t, e => r.at (i := i) (by simpa using e)
theorem PrAll.snoc {H : Hp} {t : Addr} {f : Nat × Nat} (ht : H t = some (.tup [vnat f.1, vnat f.2])) : ∀ {ts : List Addr} {fs : List (Nat × Nat)}, PrAll H ts fs → PrAll H (ts ++ [t]) (fs ++ [f])
  | _, _, .nil => .cons ht .nil
  | _, _, .cons h r => .cons h (r.snoc ht)
theorem PrAll.congr {H H' : Hp} : ∀ {ts : List Addr} {fs : List (Nat × Nat)}, (∀ t ∈ ts, H' t = H t) → PrAll H ts fs → PrAll H' ts fs
  | _, _, _, .nil => .nil
  | _, _, e, .cons h r => .cons ((e _ (.head _)).trans h) (r.congr fun t m => e t (.tail _ m))
def RetPr (ps : List (Nat × Nat)) (H : Hp) (Q : VK) : Prop := ∀ (p : Addr) (ts : List Addr) (H' : Hp), H p = none → (∀ t ∈ ts, H t = none) → Same H H' → H' p = some (.lst (ts.map V.ref)) → PrAll H' ts ps → Q (.ref p) H'
theorem partner_mem {fs : List Tr} {S : List Int} {g o : Nat} (h : partnerM fs S g = some o) : o ∈ (handsM g).drop 1 := by
  unfold partnerM at h
  by_cases c : gi S (g : Int) = gi S ((g - 2 ^ leastM g : Nat) : Int)
  · rw [if_pos c] at h; cases h
  · rw [if_neg c] at h; exact List.mem_of_find?_eq_some h
theorem bestL_at (gs : List Tr) {n N : Nat} (h : n ≤ N) {j : Int} (h0 : 0 ≤ j) (h1 : j ≤ n) : gi (bestL gs N) j = gi (bestL gs n) j := by
  induction N with
  | zero => obtain rfl : n = 0 := by omega
            rfl
  | succ N ih =>
    by_cases c : n = N + 1
    · subst c; rfl
    · rw [← ih (by omega)]
      unfold gi
      rw [List.getD_eq_getElem?_getD, List.getD_eq_getElem?_getD]
      show ((bestL gs N ++ [_])[j.toNat]?).getD 0 = _
      rw [List.getElem?_append_left (by rw [bestL_len]; omega)]
theorem bestL_step (gs : List Tr) {n N : Nat} (h : n + 1 ≤ N) : gi (bestL gs N) ((n + 1 : Nat) : Int) = stepB gs (bestL gs n) (n + 1) := by
  rw [bestL_at gs h (by omega) (by omega)]
  unfold gi
  rw [List.getD_eq_getElem?_getD, Int.toNat_natCast]
  show ((bestL gs n ++ [_])[n + 1]?).getD 0 = _
  rw [List.getElem?_append_right (by rw [bestL_len]; exact Nat.le_refl _), bestL_len, Nat.sub_self] <;> rfl
theorem bestL_zero (gs : List Tr) (N : Nat) : gi (bestL gs N) 0 = 0 := by rw [bestL_at gs (Nat.zero_le N) (by decide) (by decide)]; rfl
theorem fold_or (fs : List Tr) (S : List Int) (g : Nat) : ∀ (os : List Nat) (b : Int), os.foldl (stepP fs S g) b = b ∨ ∃ o ∈ os, ∃ z, numOf fs (leastM g) o = some z ∧ os.foldl (stepP fs S g) b = gi S ((g - 2 ^ leastM g - 2 ^ o : Nat) : Int) + z
  | [], b => .inl rfl
  | o :: os, b => by
    rw [List.foldl_cons]
    rcases fold_or fs S g os (stepP fs S g b o) with h | ⟨o', ho, z, hz, h⟩
    · rw [h]
      unfold stepP
      cases c : numOf fs (leastM g) o with
      | none => exact .inl rfl
      | some z =>
        dsimp only
        split
        · exact .inr ⟨o, .head _, z, c, rfl⟩
        · exact .inl rfl
    · exact .inr ⟨o', .tail _ ho, z, hz, h⟩
theorem partner_none {fs : List Tr} {m n : Nat} (h0 : 0 < n) (hn : n < 2 ^ m) (h64 : 2 ^ m ≤ 64) (h : partnerM fs (bestL fs (2 ^ m - 1)) n = none) : gi (bestL fs (2 ^ m - 1)) (n : Int) = gi (bestL fs (2 ^ m - 1)) ((n - 2 ^ leastM n : Nat) : Int) := by
  unfold partnerM at h
  by_cases c : gi (bestL fs (2 ^ m - 1)) (n : Int) = gi (bestL fs (2 ^ m - 1)) ((n - 2 ^ leastM n : Nat) : Int)
  · exact c
  · rw [if_neg c] at h
    exfalso
    have hL := off_least (by omega) h0
    have hl1 := Nat.two_pow_pos (leastM n)
    obtain ⟨i, rfl⟩ : ∃ i, n = i + 1 := ⟨n - 1, by omega⟩
    have hs := bestL_step fs (n := i) (N := 2 ^ m - 1) (by omega)
    rcases fold_or fs (bestL fs i) (i + 1) ((handsM (i + 1)).drop 1) (gi (bestL fs i) ((i + 1 - 2 ^ leastM (i + 1) : Nat) : Int)) with e | ⟨o, ho, z, hz, e⟩
    · refine c ?_
      rw [hs, bestL_at fs (show i ≤ 2 ^ m - 1 by omega) (by omega) (by omega)]
      exact e
    · obtain ⟨o6, ol, oo⟩ := off_other (by omega) (Nat.succ_pos i) ho
      have ho1 := Nat.two_pow_pos o
      have := List.find?_eq_none.mp h o ho
      unfold hitP at this
      rw [hz] at this
      refine this (decide_eq_true ?_)
      rw [hs, bestL_at fs (show i ≤ 2 ^ m - 1 by omega) (by omega) (by omega)]
      exact e
theorem partner_some {fs : List Tr} {S : List Int} {n o : Nat} (h : partnerM fs S n = some o) : ∃ z, numOf fs (leastM n) o = some z ∧ gi S (n : Int) = gi S ((n - 2 ^ leastM n - 2 ^ o : Nat) : Int) + z := by
  unfold partnerM at h
  by_cases c : gi S (n : Int) = gi S ((n - 2 ^ leastM n : Nat) : Int)
  · rw [if_pos c] at h; cases h
  · rw [if_neg c] at h
    have := List.find?_some h
    unfold hitP at this
    cases cn : numOf fs (leastM n) o with
    | none => rw [cn] at this; cases this
    | some z => rw [cn] at this; exact ⟨z, rfl, of_decide_eq_true this⟩
def subOk (n : Nat) : Bool := decide (leastM n ∈ handsM n) && ((handsM (n - 2 ^ leastM n)).all fun h => decide (h ∈ handsM n) && decide (leastM n < h)) &&
  ((handsM n).drop 1).all fun o => decide (o ∈ handsM n) && (handsM (n - 2 ^ leastM n - 2 ^ o)).all fun h => decide (h ∈ handsM n) && decide (leastM n < h) && decide (h ≠ o)
theorem sub_all : ∀ n, n < 64 → 0 < n → subOk n = true := by decide +kernel
theorem sub_hands {n : Nat} (h : n < 64) (h0 : 0 < n) : leastM n ∈ handsM n ∧ (∀ x ∈ handsM (n - 2 ^ leastM n), x ∈ handsM n ∧ leastM n < x) ∧ ∀ o ∈ (handsM n).drop 1, o ∈ handsM n ∧ ∀ x ∈ handsM (n - 2 ^ leastM n - 2 ^ o), x ∈ handsM n ∧ leastM n < x ∧ x ≠ o := by
  have := sub_all n h h0
  unfold subOk at this
  rw [Bool.and_eq_true, Bool.and_eq_true] at this
  obtain ⟨⟨h1, h2⟩, h3⟩ := this
  refine ⟨of_decide_eq_true h1, fun x hx => ?_, fun o ho => ?_⟩
  · have := List.all_eq_true.mp h2 x hx
    rw [Bool.and_eq_true] at this
    exact ⟨of_decide_eq_true this.1, of_decide_eq_true this.2⟩
  · have := List.all_eq_true.mp h3 o ho
    rw [Bool.and_eq_true] at this
    refine ⟨of_decide_eq_true this.1, fun x hx => ?_⟩
    have := List.all_eq_true.mp this.2 x hx
    rw [Bool.and_eq_true, Bool.and_eq_true] at this
    exact ⟨of_decide_eq_true this.1.1, of_decide_eq_true this.1.2, of_decide_eq_true this.2⟩
/-- the next pair that pairing tells, and what is left behind it -/
theorem pairW_next {fs : List Tr} {m : Nat} (h64 : 2 ^ m ≤ 64) : ∀ (k n : Nat), n ≤ k → n < 2 ^ m →
    (pairW fs (bestL fs (2 ^ m - 1)) n = [] ∧ gi (bestL fs (2 ^ m - 1)) (n : Int) = 0) ∨
    ∃ (l o n2 : Nat) (z : Int), pairW fs (bestL fs (2 ^ m - 1)) n = (l, o) :: pairW fs (bestL fs (2 ^ m - 1)) n2 ∧ numOf fs l o = some z ∧ gi (bestL fs (2 ^ m - 1)) (n : Int) = gi (bestL fs (2 ^ m - 1)) (n2 : Int) + z ∧ l < o ∧ l ∈ handsM n ∧ o ∈ handsM n ∧ n2 < n ∧ ∀ h ∈ handsM n2, h ∈ handsM n ∧ l < h ∧ h ≠ o
  | k, 0, _, _ => .inl ⟨by rw [pairW]; rfl, bestL_zero fs _⟩
  | 0, n + 1, h, _ => absurd h (by omega)
  | k + 1, n + 1, hk, hn => by
    have h0 : 0 < n + 1 := Nat.succ_pos n
    have hn64 : n + 1 < 64 := by omega
    have hL := off_least hn64 h0
    have hl1 := Nat.two_pow_pos (leastM (n + 1))
    obtain ⟨s1, s2, s3⟩ := sub_hands hn64 h0
    have ep : pairW fs (bestL fs (2 ^ m - 1)) (n + 1) = match partnerM fs (bestL fs (2 ^ m - 1)) (n + 1) with
        | none => pairW fs (bestL fs (2 ^ m - 1)) (n + 1 - 2 ^ leastM (n + 1))
        | some o => (leastM (n + 1), o) :: pairW fs (bestL fs (2 ^ m - 1)) (n + 1 - 2 ^ leastM (n + 1) - 2 ^ o) := by
      rw [pairW, dif_neg (Nat.succ_ne_zero n)]
    cases cp : partnerM fs (bestL fs (2 ^ m - 1)) (n + 1) with
    | none =>
      rw [cp] at ep
      have e := partner_none h0 hn h64 cp
      rw [ep, e]
      rcases pairW_next h64 k (n + 1 - 2 ^ leastM (n + 1)) (by omega) (by omega) with h | ⟨l, o, n2, z, e1, e2, e3, e4, e5, e6, e7, e8⟩
      · exact .inl h
      · exact .inr ⟨l, o, n2, z, e1, e2, e3, e4, (s2 l e5).1, (s2 o e6).1, by omega, fun h hh => ⟨(s2 h (e8 h hh).1).1, (e8 h hh).2⟩⟩
    | some o =>
      rw [cp] at ep
      have om := partner_mem cp
      obtain ⟨o6, ol, oo⟩ := off_other hn64 h0 om
      have ho1 := Nat.two_pow_pos o
      obtain ⟨z, z1, z2⟩ := partner_some cp
      exact .inr ⟨leastM (n + 1), o, n + 1 - 2 ^ leastM (n + 1) - 2 ^ o, z, ep, z1, z2, ol, s1, (s3 o om).1, by omega, (s3 o om).2⟩
theorem op_leTK {X : Cx} {K : PySem.W.Frag} (h : X.K = K) (hu : X.A.units < cLine) : OpR X (compareOp .LtE) (rLeT K) := h ▸ op_leT hu
theorem pairW_none {fs : List Tr} {S : List Int} {n : Nat} (h0 : ¬ n = 0) (h : partnerM fs S n = none) : pairW fs S n = pairW fs S (n - 2 ^ leastM n) := by
  rw [pairW, dif_neg h0, h]
theorem pairW_some {fs : List Tr} {S : List Int} {n o : Nat} (h0 : ¬ n = 0) (h : partnerM fs S n = some o) : pairW fs S n = (leastM n, o) :: pairW fs S (n - 2 ^ leastM n - 2 ^ o) := by
  rw [pairW, dif_neg h0, h]
theorem first_at {h : Nat} : ∀ {ls : List Nat}, h ∈ ls → ∃ j : Nat, ls[j]? = some h ∧ ∀ i : Nat, i < j → ls[i]? ≠ some h
  | [], m => nomatch m
  | x :: ls, m => by
    by_cases c : x = h
    · exact ⟨0, by rw [c] <;> rfl, fun i hi => absurd hi (Nat.not_lt_zero i)⟩
    · have m2 : h ∈ ls := by
        cases m with
        | head => exact absurd rfl c
        | tail _ m => exact m
      obtain ⟨j, h1, h2⟩ := first_at m2
      refine ⟨j + 1, by rw [List.getElem?_cons_succ]; exact h1, fun i hi => ?_⟩
      cases i with
      | zero => rw [List.getElem?_cons_zero]; exact fun e => c (Option.some.inj e)
      | succ i => rw [List.getElem?_cons_succ]; exact h2 i (by omega)
theorem mem_erase {h x : Nat} (hn : x ≠ h) : ∀ {ls : List Nat} {j : Nat}, ls[j]? = some h → x ∈ ls → x ∈ ls.eraseIdx j
  | [], j, e, _ => by rw [List.getElem?_nil] at e; cases e
  | y :: ls, 0, e, m => by
    rw [List.getElem?_cons_zero] at e
    obtain rfl := Option.some.inj e
    rw [List.eraseIdx_cons_zero]
    cases m with
    | head => exact absurd rfl hn
    | tail _ m => exact m
  | y :: ls, j + 1, e, m => by
    rw [List.getElem?_cons_succ] at e
    rw [List.eraseIdx_cons_succ]
    cases m with
    | head => exact .head _
    | tail _ m => exact .tail _ (mem_erase hn e m)
theorem erase_mapP {f : Nat → Int} : ∀ (ls : List Nat) (j : Nat), (ls.map f).eraseIdx j = (ls.eraseIdx j).map f
  | [], j => rfl
  | y :: ls, 0 => rfl
  | y :: ls, j + 1 => by rw [List.map_cons, List.eraseIdx_cons_succ, List.eraseIdx_cons_succ, List.map_cons, erase_mapP ls j]
theorem x_removeN {p : Addr} {ls : List Nat} {h : Nat} {H : Hp} {Q : VK} (hH : H p = some (.lst (ls.map vnat))) (m : h ∈ ls) (q : ∀ ls' : List Nat, (∀ x, x ≠ h → x ∈ ls → x ∈ ls') → Q .non (upd H p (.lst (ls'.map vnat)))) : rRemI (.ref p) [vnat h] H Q := by
  obtain ⟨j, h1, h2⟩ := first_at m
  have e : ∀ l : List Nat, l.map vnat = (l.map fun n : Nat => (n : Int)).map V.int := fun l => by rw [List.map_map] <;> rfl
  refine ⟨p, ls.map (fun n : Nat => (n : Int)), (h : Int), j, rfl, rfl, by rw [hH, e], by rw [List.getElem?_map, h1] <;> rfl, fun i hi z => ?_, ?_⟩
  · rw [List.getElem?_map] at z
    obtain ⟨y, hy, ey⟩ := Option.map_eq_some_iff.mp z
    have : y = h := by omega
    exact h2 i hi (by rw [hy, this])
  · rw [erase_mapP, ← e]
    exact q _ fun x hx hm => mem_erase hx h1 hm
theorem x_leT_no {K : PySem.W.Frag} {H : Hp} {Q : VK} {a b : Addr} {l o x y : Int} (ha : SqT K H a [.int l, .int o]) (hb : SqT K H b [.int x, .int y]) (h : x < l) (q : Q (.bl false) H) : rLeT K (.ref a) (.ref b) H Q := by
  refine ⟨a, b, [l, o], [x, y], rfl, rfl, ha, hb, ?_⟩
  have e : Ob.lexAt (fun j => decide ([l, o].getD j 0 = [x, y].getD j 0)) (fun j => decide ([l, o].getD j 0 ≤ [x, y].getD j 0)) (decide ([l, o].length ≤ [x, y].length)) 0 (min [l, o].length [x, y].length) = false := by
    show (if decide (l = x) = true then _ else decide (l ≤ x)) = false
    rw [decide_eq_false (show ¬ l = x by omega), if_neg Bool.false_ne_true, decide_eq_false (show ¬ l ≤ x by omega)]
  rw [e]; exact q
theorem pairW_len {fs : List Tr} {S : List Int} : ∀ (k n : Nat), n ≤ k → (pairW fs S n).length ≤ n
  | k, 0, _ => by rw [pairW]; exact Nat.le_refl _
  | 0, n + 1, h => absurd h (by omega)
  | k + 1, n + 1, h => by
    have hl1 := Nat.two_pow_pos (leastM (n + 1))
    cases cp : partnerM fs S (n + 1) with
    | none =>
      rw [pairW_none (n := n + 1) (by omega) cp]
      have := pairW_len (fs := fs) (S := S) k (n + 1 - 2 ^ leastM (n + 1)) (by omega)
      omega
    | some o =>
      rw [pairW_some (n := n + 1) (by omega) cp, List.length_cons]
      have hle : n + 1 - 2 ^ leastM (n + 1) - 2 ^ o ≤ n + 1 - 2 ^ leastM (n + 1) := Nat.sub_le _ _
      have := pairW_len (fs := fs) (S := S) k (n + 1 - 2 ^ leastM (n + 1) - 2 ^ o) (by omega)
      omega
end Sp

/-! Held: told pairings, held beside their copies. -/
namespace Sp
open PySem PySem.Spec L2 PyProof.Rows
/-- what is held: two lists that tell the same pairs -/
def HeldAt (K : PySem.W.Frag) (H : Hp) (t : Addr) : Prop := ∃ (p q : Addr) (d : PyData), H t = some (.tup [.ref p, .ref q]) ∧ Dp K H (.ref p) d ∧ Dp K H (.ref q) d ∧ LayD 4 d
theorem HeldAt.same {K : PySem.W.Frag} {H H' : Hp} {t : Addr} (h : HeldAt K H t) (s : Same H H') : HeldAt K H' t := by
  obtain ⟨p, q, d, h1, h2, h3, h4⟩ := h
  exact ⟨p, q, d, s _ _ h1, Dp.same s _ _ h2, Dp.same s _ _ h3, h4⟩
def prD (ps : List (Nat × Nat)) : PyData := .list (ps.map fun f => .tuple [.int (f.1 : Int), .int (f.2 : Int)])
theorem dpAll_pr {K : PySem.W.Frag} {H : Hp} : ∀ {ts : List Addr} {ps : List (Nat × Nat)}, PrAll H ts ps → DpAll K H (ts.map V.ref) (ps.map fun f => .tuple [.int (f.1 : Int), .int (f.2 : Int)])
  | _, _, .nil => .nil
  | _, _, .cons h r => .cons (.tup (SqT.of h) (.cons (.int _) (.cons (.int _) .nil))) (dpAll_pr r)
theorem lay_pr (ps : List (Nat × Nat)) : LayD 4 (prD ps) := LayD.list fun d hd => by
  obtain ⟨f, _, rfl⟩ := List.mem_map.mp hd
  refine LayD.tuple fun e he => ?_
  simp only [List.mem_cons, List.not_mem_nil, or_false] at he
  rcases he with rfl | rfl
  all_goals exact LayD.int (by decide) _
/-- told pairs join what stands and stays -/
theorem own_pr {B H H' : Hp} {cs : Cells} {p : Addr} {ts : List Addr} {ps : List (Nat × Nat)} (w : Own B cs H) (np : H p = none) (nt : ∀ t ∈ ts, H t = none) (s : Same H H') (c : H' p = some (.lst (ts.map V.ref))) (f : PrAll H' ts ps) :
    ∃ B2, Same B B2 ∧ Own B2 cs H' ∧ B2 p = some (.lst (ts.map V.ref)) ∧ PrAll B2 ts ps := by
  obtain ⟨B2, sB, w2, e⟩ := own_all w s
  exact ⟨B2, sB, w2, (e _ (w.off np)).trans c, f.congr fun t m => e _ (w.off (nt t m))⟩
theorem MatchE.get {C : Addr} {K : PySem.W.Frag} {H : Hp} {a : Addr} {m : Nat} {fs : List Tr} (R : MatchE C K H a m fs) : ∃ dx fl, H a = some (.ins C dx fl) ∧ fl.lookup ("pairing" : Str) = none ∧ fl.lookup ("earn" : Str) = none ∧ fl.lookup ("hands" : Str) = none ∧ 1 ≤ m ∧ m ≤ 6 := by
  cases R with
  | @mk dx l d sq ts e h hr2 hd hs hp h1 h6 => exact ⟨_, _, e, rfl, rfl, rfl, h1, h6⟩
end Sp

/-! Dct: dict(d) and d.pop(k) of dicts whose keys are pairs of hands. -/
namespace Sp
open PySem PySem.Spec L2 PyProof.Rows
section
variable {prog : Program} {w : World} {K : Type} [DecidableEq K] {knd : HeapKind prog w K} {A : Around} {E : Value → Shared → Prop} {s : Shared}
theorem call_dict_copyH {o : Addr} {more : List (K × Addr × Value)} {Q : Value → Shared → Prop} (hu : knd.room A.in1.in1) (hoS : (o == sysModules) = false) (ho : s.heap.DictOfH knd o more)
    (his : ∀ h', (∀ b q, s.heap.get? b = some q → h'.get? b = some q) → ∀ x ∈ more, knd.is h' x.1 x.2.1)
    (hty : ∀ x ∈ more, s.TypeIs (.ref x.2.1) "tuple") (hap : (more.map fun x => knd.hash x.1).Nodup) (hsz : more.length ≤ sizeLine)
    (h : ∀ h', h'.DictOfH knd s.heap.objs.size more → Heap.SameBut s.heap.objs.size (s.heap.push { cls := .type "dict", data := .dict #[] }) h' → Q (.ref s.heap.objs.size) { s with heap := h' }) :
    wpAny (model prog w) A (call (.type "dict") [.ref o]) Q E s := by
  refine callType_codes (Q₁ := fun obj s₁ => obj = .ref s.heap.objs.size ∧ s₁ = { s with heap := s.heap.push { cls := .type "dict", data := .dict #[] } }) F.kt_called_dict (F.kt_typeCall_dict_1 _) F.entry_dict_init (kt_code_dict_new _ ⟨rfl, rfl⟩) ?_
  rintro obj s₁ ⟨rfl, rfl⟩
  have hnew : (s.heap.push { cls := .type "dict", data := .dict #[] }).DictOfH knd s.heap.objs.size [] := Heap.DictOfH.new s.heap
  have hk : ∀ b q, s.heap.get? b = some q → (s.heap.push { cls := .type "dict", data := .dict #[] }).get? b = some q := fun b q e => Heap.get?_push_of_some _ e
  have ho' : (s.heap.push { cls := .type "dict", data := .dict #[] }).DictOfH knd o more := ho.at' (fun q e => hk o q e) (his _ hk)
  have hdo : s.heap.objs.size ≠ o := fun e => absurd ho.lt_size (by rw [e]; exact Nat.lt_irrefl _)
  refine ⟨hnew.typeIs, F.args_dict_init_2 _ _, ?_⟩
  unfold Builtin.«dict.__init__»
  refine wpAny_bind ?_
  unfold Builtin.Dict.selfAndRest
  refine wpAny_bind (wpAny_notOrdered_dict hnew.typeIs ?_)
  show wpAny _ _ (pure (s.heap.objs.size, [Value.ref o])) _ _ _
  refine wpAny_pure ?_
  refine updateFrom_dictH (s := { s with heap := s.heap.push { cls := .type "dict", data := .dict #[] } }) .none hu hdo hoS hnew ho' (.inr ⟨fun x hx => ?_, hap⟩) (by simpa using hsz) fun h' hd' _ hs' => ?_
  · obtain ⟨q, h1, h2⟩ := hty x hx
    exact ⟨q, hk _ _ h1, h2⟩
  · rw [storedAllH_nil_of_nodup more ho.nodup] at hd'
    exact ⟨rfl, h h' hd' hs'⟩
end
/-- the hash of a pair's key -/
def hash2 (i j : Int) : Int := reduceHash (Builtin.Tuple.tupleHashOf [hashInt i, hashInt j])
def hashesOk : Bool := (List.range 6).all fun i => (List.range 6).all fun j => (List.range 6).all fun k => (List.range 6).all fun l => (hash2 (i : Int) (j : Int) != hash2 (k : Int) (l : Int)) || (i == k && j == l)
theorem hashesOk_is : hashesOk = true := by decide +kernel
theorem hash2_inj {i j k l : Nat} (hi : i < 6) (hj : j < 6) (hk : k < 6) (hl : l < 6) (e : hash2 (i : Int) (j : Int) = hash2 (k : Int) (l : Int)) : i = k ∧ j = l := by
  have h := hashesOk_is
  unfold hashesOk at h
  have h1 := List.all_eq_true.mp h i (List.mem_range.mpr hi)
  have h2 := List.all_eq_true.mp h1 j (List.mem_range.mpr hj)
  have h3 := List.all_eq_true.mp h2 k (List.mem_range.mpr hk)
  have h4 := List.all_eq_true.mp h3 l (List.mem_range.mpr hl)
  rw [Bool.or_eq_true, bne_iff_ne, Bool.and_eq_true, beq_iff_eq, beq_iff_eq] at h4
  rcases h4 with h4 | h4
  · exact absurd e h4
  · exact h4
/-- dict(d) -/
def rDictT : List V → Hp → VK → Prop := fun xs H Q => ∃ (a : Addr) (fs : List Tr), xs = [.ref a] ∧ H a = some (.dT (fs.map entT2)) ∧ (∀ t ∈ fs, t.1 < 6 ∧ t.2.1 < 6) ∧ ∀ p, H p = none → Q (.ref p) (upd H p (.dT (fs.map entT2)))
theorem kt_keys2 {H : Hp} : ∀ {kvs : List (List L2.Key × V)} {xs : List (List L2.Key × Addr × Value)}, KT H kvs xs → kvs.map (·.1) = xs.map (·.1)
  | _, _, .nil => rfl
  | _, _, .cons h r => by rw [List.map_cons, List.map_cons, h.1, kt_keys2 r]
theorem hash_trK {P : Program} {w : World} (t : Tr) : (tupleKind (mixKind P w)).hash (trK t) = hash2 (t.1 : Int) (t.2.1 : Int) := by
  have h : ∀ i : Int, (mixKind P w).hash (Sum.inl i) = hashInt i := fun _ => rfl
  have h2 : ∀ ks : List L2.Key, (tupleKind (mixKind P w)).hash ks = reduceHash (Builtin.Tuple.tupleHashOf (ks.map (mixKind P w).hash)) := fun _ => rfl
  rw [h2]
  unfold trK hash2
  rw [List.map_cons, List.map_cons, List.map_nil, h, h]
theorem call_dictTX {X : Cx} (hu : X.A.units + 64 < cLine) : CallR X (.type "dict") rDictT := by
  intro pins s σ H xs us Q I r q
  obtain ⟨a, fs, ex, hd, h6, q⟩ := q
  subst ex
  obtain ⟨u, eu, rx⟩ := vals1 r
  subst eu
  cases rx
  obtain ⟨z, lo, vs, rel, dd⟩ := dt_of I.hok hd
  have hl : (fs.map entT2).length = vs.length := Paired.length rel
  have keys := kt_keys2 rel
  obtain ⟨o0, es0, ep0, g1, g2, g3, g4, his, hn⟩ := id dd
  have hap : (vs.map fun x => (tupleKind (mixKind X.prog X.w)).hash x.1).Nodup := by
    rw [show (vs.map fun x => (tupleKind (mixKind X.prog X.w)).hash x.1) = (vs.map (·.1)).map (tupleKind (mixKind X.prog X.w)).hash by rw [List.map_map] <;> rfl]
    rw [← keys] at hn ⊢
    rw [show (fs.map entT2).map (·.1) = fs.map trK by rw [List.map_map] <;> rfl] at hn ⊢
    rw [List.map_map, List.nodup_iff_pairwise_ne, List.pairwise_map]
    rw [List.nodup_iff_pairwise_ne, List.pairwise_map] at hn
    refine hn.imp_of_mem fun {x y} hx hy ne e => ne ?_
    rw [Function.comp_apply, Function.comp_apply, hash_trK, hash_trK] at e
    have e2 := e
    obtain ⟨e3, e4⟩ := hash2_inj (h6 x hx).1 (h6 x hx).2 (h6 y hy).1 (h6 y hy).2 e2
    unfold trK
    rw [e3, e4]
  refine call_dict_copyH (A := X.A) (by show X.A.units + 1 + 1 < cLine; omega) lo dd (fun h' hk x hx => ?_) (fun x hx => ?_) hap (by rw [← hl]; exact z) fun h' d' hs => ?_
  · obtain ⟨o', items, n, ho', hc, hd', hi⟩ := his x hx
    exact ⟨o', items, n, hk _ _ ho', hc, hd', hi⟩
  · exact (his x hx).typeIs
  have hm : (s.heap.objs.size == sysModules) = false := beq_eq_false_iff_ne.mpr (Nat.ne_of_gt I.big)
  have hf : H s.heap.objs.size = none := I.hok.fresh (Nat.le_refl _)
  obtain ⟨o, es, ep, k1, k2, k3, k4, _, k5⟩ := d'
  exact ⟨.ref s.heap.objs.size, upd H s.heap.objs.size (.dT (fs.map entT2)), I.laid (t' := s.toks) (fun b u e => (hs.2 b (Nat.ne_of_lt (Heap.lt_size e))).trans (Heap.get?_push_of_some _ e)) (Nat.le_refl _)
    (show ObjOk X.prog X.w _ _ _ (.dT (fs.map entT2)) from ⟨z, hm, vs, KT.keeps rel (fun b ys e => by rw [upd_ne (ne_of_none e hf)]; exact e), o, es, ep, k1, k2, k3, k4, k5⟩), rfl, q _ hf⟩
/-- d.pop((a, b)), there -/
def rPopT1 : V → List V → Hp → VK → Prop := fun x xs H Q => ∃ (a : Addr) (kvs : List (List L2.Key × V)) (k : List L2.Key) (b : Addr) (v : V), x = .ref a ∧ xs = [.ref b] ∧ H a = some (.dT kvs) ∧ H b = some (.tup (k.map kV)) ∧ valV kvs k = some v ∧ Q v (upd H a (.dT (dropK kvs k)))
theorem without_drop {K : Type} [DecidableEq K] (xs : List (K × Addr × Value)) (k : K) : withoutH xs k = DT.dropH xs k := by
  unfold withoutH DT.dropH
  induction xs with
  | nil => rfl
  | cons x xs ih => rw [List.filter_cons, ih] <;> rfl
theorem mt_popT1 {X : Cx} (hu : X.A.units + 64 < cLine) : MtR X "dict.pop" rPopT1 := by
  intro pins s σ H x xs v us Q I rx rxs h
  obtain ⟨a, kvs, k, b, v1, rfl, rfl, ha, hb, hv, q⟩ := h
  cases rx
  obtain ⟨u1, rfl, r1⟩ := vals1 rxs
  cases r1
  obtain ⟨z, hd, xs', rel, dd⟩ := dt_of I.hok ha
  have hz : xs'.length ≤ sizeLine := by rw [← Paired.length rel]; exact z
  have r := rel.val k
  rw [hv] at r
  obtain ⟨p, hp, rv⟩ : ∃ p, atKey xs' k = some p ∧ RelV v1 p.2 := by
    cases ev : atKey xs' k with
    | none => rw [ev] at r; exact (show False from r).elim
    | some p => rw [ev] at r; exact ⟨p, rfl, r⟩
  refine call_pop_heap (A := X.A) (more := []) (.inl rfl) (PySem.F.args_dict_pop_2 _ _) (by show X.A.units + 1 < cLine; omega) (key_of I.hok hb) hd dd hp (fun h' dd' hs => ?_) hz
  obtain ⟨o, es, ep, hq, h2, h3, h4, _, h5⟩ := dd'
  rw [without_drop] at h4 h5
  have I2 : Inv X pins σ (upd H a (.dT (dropK kvs k))) { s with heap := h', toks := s.toks + (tupleKind (mixKind X.prog X.w)).draws k } :=
    d_write (t' := s.toks + (tupleKind (mixKind X.prog X.w)).draws k) I (by rw [ha]; exact True.intro) hs ⟨o, hq⟩ ⟨Nat.le_trans (dropK_le kvs k) z, hd, _, (DX.KT_drop k rel).keeps (fun c ys ec => (by rw [upd_ne (ne_of ec ha (fun z => nomatch z))]; exact ec)), o, es, ep, hq, h2, h3, h4, h5⟩
  exact ⟨v1, _, I2, rv, q⟩
theorem numOf_mem {fs : List Tr} (nd : (fs.map trK).Nodup) {l o : Nat} {z : Int} : numOf fs l o = some z ↔ (l, o, z) ∈ fs := by
  unfold numOf
  induction fs with
  | nil => simp
  | cons t fs ih =>
    rw [List.map_cons, List.nodup_cons] at nd
    rw [List.find?_cons, List.mem_cons]
    cases c : (t.1 == l && t.2.1 == o) with
    | true =>
      rw [Bool.and_eq_true, beq_iff_eq, beq_iff_eq] at c
      obtain ⟨t1, t2, t3⟩ := t
      obtain ⟨rfl, rfl⟩ : t1 = l ∧ t2 = o := c
      constructor
      · intro h
        have h : t3 = z := Option.some.inj h
        exact .inl (by rw [h])
      · rintro (h | h)
        · cases h; rfl
        · exact absurd (List.mem_map.mpr ⟨_, h, rfl⟩) nd.1
    | false =>
      rw [show (List.find? (fun t => t.1 == l && t.2.1 == o) fs).map (fun t => t.2.2) = some z ↔ (l, o, z) ∈ fs from ih nd.2]
      constructor
      · exact .inr
      · rintro (h | h)
        · rw [← h] at c; simp at c
        · exact h
theorem numOf_perm {fs gs : List Tr} (p : gs.Perm fs) (nd : (fs.map trK).Nodup) (l o : Nat) : numOf fs l o = numOf gs l o := by
  have nd2 : (gs.map trK).Nodup := (p.map trK).nodup_iff.mpr nd
  cases e : numOf gs l o with
  | some z => exact (numOf_mem nd).mpr (p.mem_iff.mp ((numOf_mem nd2).mp e))
  | none =>
    cases e2 : numOf fs l o with
    | none => rfl
    | some z => rw [(numOf_mem nd2).mpr (p.mem_iff.mpr ((numOf_mem nd).mp e2))] at e; cases e
theorem drop_first {f : Tr} {fs : List Tr} (nd : ((f :: fs).map trK).Nodup) : dropK ((f :: fs).map entT2) (trK f) = fs.map entT2 := by
  rw [List.map_cons, List.nodup_cons] at nd
  unfold dropK
  rw [List.map_cons, List.filter_cons_of_neg (by simp [entT2]), List.filter_eq_self]
  intro p hp
  obtain ⟨t, m, rfl⟩ := List.mem_map.mp hp
  simp only [ne_eq, decide_eq_true_eq]
  intro e
  exact nd.1 (List.mem_map.mpr ⟨t, m, e⟩)
theorem own_match {B H1 H2 : Hp} {cs : Cells} {C : Addr} {K : PySem.W.Frag} (w : Own B cs H1) {x dx l d s : Addr} {us : List Addr} {gs : List Tr} {m : Nat} (n1 : H1 x = none) (n2 : H1 dx = none) (hne : dx ≠ x)
    (nl : (upd (upd H1 dx (.own x)) x (.ins C dx [])) l = none) (nd : (upd (upd H1 dx (.own x)) x (.ins C dx [])) d = none) (ns : (upd (upd H1 dx (.own x)) x (.ins C dx [])) s = none) (nu : ∀ u ∈ us, (upd (upd H1 dx (.own x)) x (.ins C dx [])) u = none)
    (sx : SameX x (upd (upd H1 dx (.own x)) x (.ins C dx [])) H2) (c : H2 x = some (.ins C dx [("many", .int (m : Int)), ("pairs", .ref l), ("prices", .ref d), ("sums", .ref s)])) (cl : H2 l = some (.lst (us.map V.ref))) (ct : TrAll H2 us gs)
    (cd : H2 d = some (.dT (gs.map entT2))) (cq : H2 s = some (.lst ((bestL gs (2 ^ m - 1)).map V.int))) (ok : pairsOk m gs) (h1 : 1 ≤ m) (h6 : m ≤ 6) : ∃ B2, Same B B2 ∧ Own B2 cs H2 ∧ MatchE C K B2 x m gs := by
  have sm : Same H1 H2 := fun q o h => sx q o (ne_of_none h n1) (by rw [upd_ne (ne_of_none h n1), upd_ne (ne_of_none h n2)]; exact h)
  obtain ⟨B2, sB, w2, e⟩ := own_all w sm
  have fr : ∀ q, (upd (upd H1 dx (.own x)) x (.ins C dx [])) q = none → H1 q = none := fun q h => by
    by_cases z : q = x
    · subst z; exact n1
    · rw [upd_ne z] at h
      by_cases z2 : q = dx
      · subst z2; exact n2
      · rw [upd_ne z2] at h; exact h
  have at' : ∀ q, H1 q = none → B2 q = H2 q := fun q h => e q (w.off h)
  exact ⟨B2, sB, w2, .mk ((at' _ n1).trans c) (SqL.of ((at' _ (fr _ nl)).trans cl)) (ct.congr fun u hu => at' _ (fr _ (nu u hu))) ((at' _ (fr _ nd)).trans cd) (SqL.of ((at' _ (fr _ ns)).trans cq)) ok h1 h6⟩
theorem pairsOk_tail {m : Nat} {fs : List Tr} (h : pairsOk m fs) : pairsOk m (fs.drop 1) := ⟨fun t ht => h.1 t (List.mem_of_mem_drop ht), ((List.drop_sublist 1 fs).map trK).nodup h.2⟩
end Sp

/-! Elt: things whose data is plain, lists of such. -/
namespace Sp
open PySem PySem.Spec L2 PyProof.Rows
theorem strOk_of (s : String) : PyData.strOk (Str.ofString s) = true := by
  unfold PyData.strOk
  rw [Str.ofString_eq_toList]
  simp only [List.all_toArray, List.all_map, List.all_eq_true, Function.comp_apply, decide_eq_true_eq]
  intro c _
  have h := c.valid
  simp only [UInt32.isValidChar, Nat.isValidChar] at h
  have e : c.toNat = c.val.toNat := rfl
  omega
/-- things whose data is plain -/
inductive Elt (K : PySem.W.Frag) (H : Hp) : V → PyData → Prop
  | non : Elt K H .non .none
  | bl (b : Bool) : Elt K H (.bl b) (.bool b)
  | int (i : Int) : Elt K H (.int i) (.int i)
  | str (x : Str) (h : PyData.strOk x = true) : Elt K H (.str x) (.str x)
  | lst {a : Addr} {ns : List Int} (e : Rd H a (.lst (ns.map V.int))) : Elt K H (.ref a) (.list (ns.map PyData.int))
  | tup {a : Addr} {ns : List Int} (e : H a = some (.tup (ns.map V.int))) : Elt K H (.ref a) (.tuple (ns.map PyData.int))
theorem Elt.same {K : PySem.W.Frag} {H H' : Hp} {v : V} {d : PyData} (s : Same H H') (h : Elt K H v d) : Elt K H' v d := by
  cases h with
  | non => exact .non
  | bl b => exact .bl b
  | int i => exact .int i
  | str x h => exact .str x h
  | lst e => exact .lst (rd_same s e)
  | tup e => exact .tup (s _ _ e)
theorem Elt.thing {K : PySem.W.Frag} {H : Hp} {v : V} {d : PyData} (h : Elt K H v d) : Thing H v := by
  cases h with
  | non => exact .non
  | bl b => exact .bl b
  | int i => exact .int i
  | str x h => exact .str x
  | lst e => exact .lst e
  | tup e => exact .tup (.inl e)
theorem Elt.dp {K : PySem.W.Frag} {H : Hp} {v : V} {d : PyData} (h : Elt K H v d) : Dp K H v d ∧ LayD 2 d := by
  cases h with
  | non => exact ⟨.non, LayD.none (by decide)⟩
  | bl b => exact ⟨.bl b, LayD.bool (by decide) b⟩
  | int i => exact ⟨.int i, LayD.int (by decide) i⟩
  | str x h => exact ⟨.str x, LayD.str (by decide) h⟩
  | lst e => exact ⟨dp_ints (.inl e), LayD.ints⟩
  | tup e =>
    refine ⟨.tup (SqT.of e) (dpAll_ints _), LayD.tuple fun d hd => ?_⟩
    obtain ⟨n, _, rfl⟩ := List.mem_map.mp hd
    exact LayD.int (by decide) n
def Elts (K : PySem.W.Frag) (H : Hp) (xs : List V) : Prop := ∀ v ∈ xs, ∃ d, Elt K H v d
theorem Elts.dp {K : PySem.W.Frag} {H : Hp} : ∀ {xs : List V}, Elts K H xs → ∃ ds, DpAll K H xs ds ∧ ∀ d ∈ ds, LayD 2 d
  | [], _ => ⟨[], .nil, fun _ h => nomatch h⟩
  | x :: xs, h => by
    obtain ⟨d, hd⟩ := h x (.head _)
    obtain ⟨ds, h1, h2⟩ := Elts.dp fun v hv => h v (.tail _ hv)
    exact ⟨d :: ds, .cons hd.dp.1 h1, fun e he => by
      cases he with
      | head => exact hd.dp.2
      | tail _ he => exact h2 e he⟩
theorem Elts.same {K : PySem.W.Frag} {H H' : Hp} {xs : List V} (s : Same H H') (h : Elts K H xs) : Elts K H' xs := fun v hv => (h v hv).imp fun _ z => z.same s
theorem Elts.thing {K : PySem.W.Frag} {H : Hp} {xs : List V} (h : Elts K H xs) : ∀ v ∈ xs, Thing H v := fun v hv => by
  obtain ⟨d, e⟩ := h v hv
  exact e.thing
theorem elts_nat {K : PySem.W.Frag} {H : Hp} {ns : List Nat} : Elts K H (ns.map vnat) := fun v hv => by
  obtain ⟨n, _, rfl⟩ := List.mem_map.mp hv
  exact ⟨_, .int _⟩
theorem elts_int {K : PySem.W.Frag} {H : Hp} {ns : List Int} : Elts K H (ns.map V.int) := fun v hv => by
  obtain ⟨n, _, rfl⟩ := List.mem_map.mp hv
  exact ⟨_, .int _⟩
theorem Elts.app {K : PySem.W.Frag} {H : Hp} {xs ys : List V} (h1 : Elts K H xs) (h2 : Elts K H ys) : Elts K H (xs ++ ys) := fun v hv => by
  rcases List.mem_append.mp hv with h | h
  · exact h1 v h
  · exact h2 v h
theorem Elts.one {K : PySem.W.Frag} {H : Hp} {v : V} {d : PyData} (h : Elt K H v d) : Elts K H [v] := fun w hw => by
  rw [List.mem_singleton] at hw
  subst hw
  exact ⟨d, h⟩
theorem Elts.take {K : PySem.W.Frag} {H : Hp} {xs : List V} (h : Elts K H xs) (n : Nat) : Elts K H (xs.take n) := fun v hv => h v (List.mem_of_mem_take hv)
theorem Elts.drop {K : PySem.W.Frag} {H : Hp} {xs : List V} (h : Elts K H xs) (n : Nat) : Elts K H (xs.drop n) := fun v hv => h v (List.mem_of_mem_drop hv)
/-- the list holds a thing that is no number; its length is that of no table; nobody's number is not nought -/
theorem look_odd {xs : List V} {v : V} (hv : v ∈ xs) (h : isI v = false) : lookM xs = none := by
  unfold lookM
  rw [if_neg]
  rintro ⟨_, h2, _⟩
  rw [List.all_eq_true.mp h2 v hv] at h
  cases h
theorem look_len {xs : List V} (h : ∀ k, 1 ≤ k → k ≤ 6 → xs.length ≠ 2 ^ k) : lookM xs = none := by
  unfold lookM
  rw [if_neg]
  rintro ⟨h1, _, _⟩
  have := manyOf_lo xs.length
  exact h _ this.1 this.2 h1
theorem look_first {xs : List V} {z : Int} (h : xs[0]? = some (.int z)) (hz : z ≠ 0) : lookM xs = none := by
  unfold lookM
  rw [if_neg]
  rintro ⟨_, _, h3⟩
  rw [h] at h3
  exact hz (V.int.inj (Option.some.inj h3))
theorem cut_m1 {xs : List V} : cutV xs none (some (-1)) = xs.take (xs.length - 1) := by
  unfold cutV
  have e : HT.sIx xs.length xs.length (some (-1)) = xs.length - 1 := by
    show (if (-1 : Int) < 0 then ((-1 : Int) + (xs.length : Int)).toNat else min (-1 : Int).toNat xs.length) = _
    rw [if_pos (by decide)]
    omega
  rw [HT.sIx_none, e, List.drop_zero, Nat.sub_zero]
theorem x_slL {K : PySem.W.Frag} {H : Hp} {Q : VK} {a : Addr} {xs : List V} {lo hi : Option Int} (h : SqL K H a xs) (q : ∀ p, H p = none → Q (.ref p) (upd H p (.lst (cutV xs lo hi)))) : rSlL K (.ref a) lo hi H Q := ⟨a, xs, rfl, h, q⟩
end Sp

/-! Cpc: comprehensions whose items are new things: what stands grows from turn to turn. -/
namespace Sp
open PySem PySem.Spec L2 PyProof.Rows
def PvB (B : Hp) (cs : Cells) (R : Nat → Hp → List V → Prop) (D : Addr) (i : Nat) (H : Hp) : Prop := ∃ (B' : Hp) (ys : List V), Same B B' ∧ R i B' ys ∧ Own B' ((D, .lst ys) :: cs) H
section
variable {K : PySem.W.Frag} {σ : L2.St} {B H : Hp} {cs : Cells} {Q : VK} {te : TE} {g : TG} {tt : TT} {vs : List Nat}
theorem pvb_fin {R : Nat → Hp → List V → Prop} {D : Addr} {i : Nat} {B2 H4 : Hp} {ys : List V} {y : V} (s : Same B B2) (r : R (i + 1) B2 (ys ++ [y])) (w : Own B2 ((D, .lst ys) :: cs) H4) (hl : ys.length < 1000000) :
    ∃ acc, H4 D = some (.lst acc) ∧ acc.length < sizeLine ∧ PvB B cs R D (i + 1) (upd H4 D (.lst (acc ++ [y]))) :=
  ⟨ys, w.get 0 rfl, Nat.lt_of_lt_of_le hl (by decide), B2, ys ++ [y], s, r, w.put (o' := .lst (ys ++ [y])) 0 rfl⟩
theorem pvb_no {R : Nat → Hp → List V → Prop} {D : Addr} {i : Nat} {B2 H4 : Hp} {ys : List V} (s : Same B B2) (r : R (i + 1) B2 ys) (w : Own B2 ((D, .lst ys) :: cs) H4) : PvB B cs R D (i + 1) H4 := ⟨B2, ys, s, r, w⟩
theorem cpb_list {QD : Addr → Hp → Prop} {a : Addr} {xs : List V} (R : Nat → Hp → List V → Prop) (w : Own B cs H) (hx : SqL K B a xs) (h0 : R 0 B [])
    (hs : ∀ D i x B' ys H', xs[i]? = some x → Same B B' → R i B' ys → Own B' ((D, .lst ys) :: cs) H' → g x (wipe σ vs) H' fun σ2 H2 => wipe σ2 vs = wipe σ vs ∧ tt σ2 H2 fun b H3 =>
      if b = true then te σ2 H3 fun y H4 => ∃ acc, H4 D = some (.lst acc) ∧ acc.length < sizeLine ∧ PvB B cs R D (i + 1) (upd H4 D (.lst (acc ++ [y]))) else PvB B cs R D (i + 1) H3)
    (hq : ∀ D B' ys H', Same B B' → R xs.length B' ys → Own B' ((D, .lst ys) :: cs) H' → QD D H') : ∀ D, H D = none → ∃ W : Nat → Nat → Hp → Prop, (∃ m, W 0 m (upd H D (.lst []))) ∧ ∀ i m H, W i m H →
      ((Itl K a).stop i H ∧ QD D H) ∨ ((Itl K a).go i H ∧ ∃ Nx : Hp → Prop, (∀ H', Nx H' → ∃ m', m' < m ∧ W (i + 1) m' H') ∧ ∀ x H', (Itl K a).yld i H x H' → g x (wipe σ vs) H' fun σ2 H2 => wipe σ2 vs = wipe σ vs ∧ tt σ2 H2 fun b H3 =>
        if b = true then te σ2 H3 fun y H4 => ∃ acc, H4 D = some (.lst acc) ∧ acc.length < sizeLine ∧ Nx (upd H4 D (.lst (acc ++ [y]))) else Nx H3) := fun D hD =>
  lc_list (PvB B cs R D) ⟨B, [], Same.refl B, h0, w.new hD⟩ (fun i H' hi p => by obtain ⟨B', ys, s, _, w⟩ := p; exact w.seq (s.seq hx)) (fun i x H' hi p => by obtain ⟨B', ys, s, r, w⟩ := p; exact hs D i x B' ys H' hi s r w) (fun H' p => by obtain ⟨B', ys, s, r, w⟩ := p; exact hq D B' ys H' s r w)
/-- over a list of our own -/
theorem cpb_listO {QD : Addr → Hp → Prop} {a : Addr} {xs : List V} (R : Nat → Hp → List V → Prop) (w : Own B cs H) (j : Nat) (hx : cs[j]? = some (a, .lst xs)) (h0 : R 0 B [])
    (hs : ∀ D i x B' ys H', xs[i]? = some x → Same B B' → R i B' ys → Own B' ((D, .lst ys) :: cs) H' → g x (wipe σ vs) H' fun σ2 H2 => wipe σ2 vs = wipe σ vs ∧ tt σ2 H2 fun b H3 =>
      if b = true then te σ2 H3 fun y H4 => ∃ acc, H4 D = some (.lst acc) ∧ acc.length < sizeLine ∧ PvB B cs R D (i + 1) (upd H4 D (.lst (acc ++ [y]))) else PvB B cs R D (i + 1) H3)
    (hq : ∀ D B' ys H', Same B B' → R xs.length B' ys → Own B' ((D, .lst ys) :: cs) H' → QD D H') : ∀ D, H D = none → ∃ W : Nat → Nat → Hp → Prop, (∃ m, W 0 m (upd H D (.lst []))) ∧ ∀ i m H, W i m H →
      ((Itl K a).stop i H ∧ QD D H) ∨ ((Itl K a).go i H ∧ ∃ Nx : Hp → Prop, (∀ H', Nx H' → ∃ m', m' < m ∧ W (i + 1) m' H') ∧ ∀ x H', (Itl K a).yld i H x H' → g x (wipe σ vs) H' fun σ2 H2 => wipe σ2 vs = wipe σ vs ∧ tt σ2 H2 fun b H3 =>
        if b = true then te σ2 H3 fun y H4 => ∃ acc, H4 D = some (.lst acc) ∧ acc.length < sizeLine ∧ Nx (upd H4 D (.lst (acc ++ [y]))) else Nx H3) := fun D hD =>
  lc_list (PvB B cs R D) ⟨B, [], Same.refl B, h0, w.new hD⟩ (fun i H' hi p => by obtain ⟨B', ys, s, _, w⟩ := p; exact w.sq (j + 1) hx) (fun i x H' hi p => by obtain ⟨B', ys, s, r, w⟩ := p; exact hs D i x B' ys H' hi s r w) (fun H' p => by obtain ⟨B', ys, s, r, w⟩ := p; exact hq D B' ys H' s r w)
theorem cpb_r0 {QD : Addr → Hp → Prop} {n : Int} (R : Nat → Hp → List V → Prop) (w : Own B cs H) (h0 : R 0 B [])
    (hs : ∀ D (i : Nat) B' ys H', (i : Int) < n → Same B B' → R i B' ys → Own B' ((D, .lst ys) :: cs) H' → g (.int (i : Int)) (wipe σ vs) H' fun σ2 H2 => wipe σ2 vs = wipe σ vs ∧ tt σ2 H2 fun b H3 =>
      if b = true then te σ2 H3 fun y H4 => ∃ acc, H4 D = some (.lst acc) ∧ acc.length < sizeLine ∧ PvB B cs R D (i + 1) (upd H4 D (.lst (acc ++ [y]))) else PvB B cs R D (i + 1) H3)
    (hq : ∀ D B' ys H', Same B B' → R n.toNat B' ys → Own B' ((D, .lst ys) :: cs) H' → QD D H') : ∀ D, H D = none → ∃ W : Nat → Nat → Hp → Prop, (∃ m, W 0 m (upd H D (.lst []))) ∧ ∀ i m H, W i m H →
      ((Itr 0 n.toNat).stop i H ∧ QD D H) ∨ ((Itr 0 n.toNat).go i H ∧ ∃ Nx : Hp → Prop, (∀ H', Nx H' → ∃ m', m' < m ∧ W (i + 1) m' H') ∧ ∀ x H', (Itr 0 n.toNat).yld i H x H' → g x (wipe σ vs) H' fun σ2 H2 => wipe σ2 vs = wipe σ vs ∧ tt σ2 H2 fun b H3 =>
        if b = true then te σ2 H3 fun y H4 => ∃ acc, H4 D = some (.lst acc) ∧ acc.length < sizeLine ∧ Nx (upd H4 D (.lst (acc ++ [y]))) else Nx H3) := fun D hD =>
  lc_range (lo := 0) (PvB B cs R D) ⟨B, [], Same.refl B, h0, w.new hD⟩ (fun i H' hi p => by obtain ⟨B', ys, s, r, w⟩ := p; rw [Int.zero_add]; exact hs D i B' ys H' (by omega) s r w) (fun H' p => by obtain ⟨B', ys, s, r, w⟩ := p; exact hq D B' ys H' s r w)
end
/-- all that is not a cell of our own stands and stays -/
theorem own_frz {B H H' : Hp} {cs : Cells} (w : Own B cs H) (s : Same H H') : ∃ B2, Same B B2 ∧ Own B2 cs H' ∧ ∀ a, a ∉ cs.map (·.1) → B2 a = H' a := by
  classical
  refine ⟨fun a => if a ∈ cs.map (·.1) then none else H' a, fun a o h => ?_, ⟨fun a o h => ?_, fun q hq => ⟨s _ _ (w.cell q hq).1, if_pos (List.mem_map.mpr ⟨q, hq, rfl⟩)⟩, w.nd⟩, fun a h => if_neg h⟩
  · have : a ∉ cs.map (·.1) := fun m => by
      obtain ⟨q, hq, rfl⟩ := List.mem_map.mp m
      rw [(w.cell q hq).2] at h; cases h
    show (if a ∈ cs.map (·.1) then none else H' a) = some o
    rw [if_neg this]; exact s _ _ (w.ex _ _ h)
  · have h : (if a ∈ cs.map (·.1) then none else H' a) = some o := h
    by_cases m : a ∈ cs.map (·.1)
    · rw [if_pos m] at h; cases h
    · rw [if_neg m] at h; exact h
end Sp

/-! Nts: nets: the least of some ways, tuples of a rope's tuple and a hand. -/
namespace Sp
open PySem PySem.Spec L2 PyProof.Rows
/-- a rope (cost, one, other) and the hand that it joins -/
structure Way where
  c : Int
  a : Nat
  b : Nat
  h : Nat
deriving DecidableEq
def wayT (w : Way) : PySem.W.Tup Int × Int := (⟨[w.c, (w.a : Int), (w.b : Int)]⟩, (w.h : Int))
def wayD (w : Way) : PyData := .tuple [.tuple [.int w.c, .int w.a, .int w.b], .int w.h]
theorem way_toD (w : Way) : PySem.W.Datum.toD (wayT w) = wayD w := rfl
/-- less, as tuples are -/
def wayLt (v w : Way) : Bool := PySem.W.DatumOrd.lt (wayT v) (wayT w)
theorem wayLt_is (v w : Way) : wayLt v w = true ↔ v.c < w.c ∨ (v.c = w.c ∧ (v.a < w.a ∨ (v.a = w.a ∧ (v.b < w.b ∨ (v.b = w.b ∧ v.h < w.h))))) := by
  show (if (⟨[v.c, (v.a : Int), (v.b : Int)]⟩ : PySem.W.Tup Int) = ⟨[w.c, (w.a : Int), (w.b : Int)]⟩ then decide ((v.h : Int) < (w.h : Int)) else
    (if v.c = w.c then (if (v.a : Int) = (w.a : Int) then (if (v.b : Int) = (w.b : Int) then false else decide ((v.b : Int) < (w.b : Int))) else decide ((v.a : Int) < (w.a : Int))) else decide (v.c < w.c))) = true ↔ _
  by_cases h1 : v.c = w.c
  · by_cases h2 : v.a = w.a
    · by_cases h3 : v.b = w.b
      · rw [if_pos (by rw [h1, h2, h3]), decide_eq_true_iff]
        omega
      · rw [if_neg (fun e => by
          have := congrArg PySem.W.Tup.items e
          simp at this
          omega), if_pos h1, if_pos (by omega), if_neg (by omega), decide_eq_true_iff]
        omega
    · rw [if_neg (fun e => by
        have := congrArg PySem.W.Tup.items e
        simp at this
        omega), if_pos h1, if_neg (by omega), decide_eq_true_iff]
      omega
  · rw [if_neg (fun e => by
      have := congrArg PySem.W.Tup.items e
      simp at this
      omega), if_neg h1, decide_eq_true_iff]
    omega
theorem wayD_inj {v w : Way} (h : wayD v = wayD w) : v = w := by
  unfold wayD at h
  simp only [PyData.tuple.injEq, List.cons.injEq, PyData.int.injEq, and_true] at h
  obtain ⟨⟨h1, h2, h3⟩, h4⟩ := h
  cases v; cases w
  simp only at h1 h2 h3 h4
  congr <;> omega
theorem wayD_lay (w : Way) : (wayD w).canLay0 = true := by
  unfold wayD
  simp [PyData.canLay0, PyData.canLayAll0]
def leastW (w : Way) (ws : List Way) : Way := ws.foldl (fun a y => if wayLt y a = true then y else a) w
theorem least_min (w : Way) (ws : List Way) : PySem.W.minOf (wayT w) (ws.map wayT) = wayT (leastW w ws) := by
  unfold PySem.W.minOf leastW
  induction ws generalizing w with
  | nil => rfl
  | cons y ys ih =>
    rw [List.map_cons, List.foldl_cons, List.foldl_cons, ← ih]
    show List.foldl _ (if PySem.W.DatumOrd.lt (wayT y) (wayT w) = true then wayT y else wayT w) _ = _
    unfold wayLt
    cases PySem.W.DatumOrd.lt (wayT y) (wayT w) <;> rfl
theorem least_mem (w : Way) (ws : List Way) : leastW w ws ∈ w :: ws := by
  unfold leastW
  induction ws generalizing w with
  | nil => exact .head _
  | cons y ys ih =>
    rw [List.foldl_cons]
    have := ih (if wayLt y w = true then y else w)
    rcases List.mem_cons.mp this with e | m
    · rw [e]
      by_cases c : wayLt y w = true
      · rw [if_pos c]; exact .tail _ (.head _)
      · rw [if_neg c]; exact .head _
    · exact .tail _ (.tail _ m)
theorem wayLt_not {v w : Way} (h : ¬ wayLt v w = true) : w.c ≤ v.c := by
  rw [wayLt_is] at h
  omega
/-- none costs less -/
theorem least_le (w : Way) (ws : List Way) : ∀ y ∈ w :: ws, (leastW w ws).c ≤ y.c := by
  unfold leastW
  induction ws generalizing w with
  | nil => intro y hy; rw [List.mem_singleton] at hy; subst hy; exact Int.le_refl _
  | cons z zs ih =>
    intro y hy
    rw [List.foldl_cons]
    have h0 := ih (if wayLt z w = true then z else w) _ (.head _)
    have hz : (if wayLt z w = true then z else w).c ≤ z.c ∧ (if wayLt z w = true then z else w).c ≤ w.c := by
      by_cases c : wayLt z w = true
      · rw [if_pos c]
        have := (wayLt_is z w).mp c
        omega
      · rw [if_neg c]
        have := wayLt_not c
        omega
    rcases List.mem_cons.mp hy with rfl | hy
    · omega
    rcases List.mem_cons.mp hy with rfl | hy
    · omega
    · exact ih _ y (.tail _ hy)
/-- min(ways) -/
def rMinW (K : PySem.W.Frag) : List V → Hp → VK → Prop := fun vs H Q => ∃ (a : Addr) (ts : List Addr) (w0 : Way) (ws : List Way), vs = [.ref a] ∧ SqL K H a (ts.map V.ref) ∧ DpAll K H (ts.map V.ref) ((w0 :: ws).map wayD) ∧
  ∀ (i : Nat) (t : Addr), ts[i]? = some t → (w0 :: ws)[i]? = some (leastW w0 ws) → Q (.ref t) H
theorem cr_minW {X : Cx} (hc : X.calm = true) (hu : X.A.units + 64 < cLine) : CallR X (.builtin "min") (rMinW X.K) := by
  intro pins s σ H vs us Q I r h
  obtain ⟨a, ts, w0, ws, rfl, hs, hd, q⟩ := h
  obtain ⟨its, rv, hl, _⟩ := I.list hs
  rw [Vals.ref1 r]
  have hda : DpAll X.K H (ts.map V.ref) (((wayT w0) :: ws.map wayT).map PySem.W.Datum.toD) := by
    have e : ((wayT w0) :: ws.map wayT).map PySem.W.Datum.toD = (w0 :: ws).map wayD := by
      rw [List.map_cons, List.map_cons, List.map_map] <;> rfl
    rw [e]; exact hd
  obtain ⟨as, rs⟩ := Dp.readsAll I _ _ _ hda rv
  refine PySem.W.min_list_datum (I.ok.hd hc) hl.isList ⟨as, rs⟩ ?_ fun i v h' tk hv hm hk => ?_
  · have : PySem.W.Datum.depth (PySem.W.Tup Int × Int) ≤ 60 := by decide
    omega
  · have hv' : its[i]? = some v := by simpa using hv
    obtain ⟨bs, r1, hi, _, _⟩ := PySem.W.readsAll_at rs i v hv'
    rw [least_min] at hm
    obtain ⟨cs, r2⟩ := hm
    obtain ⟨wi, hwi⟩ : ∃ wi, (w0 :: ws)[i]? = some wi := by
      refine ⟨_, List.getElem?_eq_getElem ?_⟩
      rw [List.length_map, List.length_cons, List.length_map] at hi
      rw [List.length_cons]; exact hi
    have e1 : ((((wayT w0) :: ws.map wayT).map PySem.W.Datum.toD).getD i PyData.none) = wayD wi := by
      have e : ((wayT w0) :: ws.map wayT).map PySem.W.Datum.toD = (w0 :: ws).map wayD := by
        rw [List.map_cons, List.map_cons, List.map_map] <;> rfl
      rw [e, List.getD_eq_getElem?_getD, List.getElem?_map, hwi] <;> rfl
    rw [e1] at r1
    have e2 : wayD wi = wayD (leastW w0 ws) := (Reads.unique (Reads.keeps hk r1) _ _ r2).1
    have e3 : wi = leastW w0 ws := wayD_inj e2
    obtain ⟨x, hx, rx⟩ : ∃ x, (ts.map V.ref)[i]? = some x ∧ RelV x v := by
      have hl2 : its.length = (ts.map V.ref).length := rv.length.symm
      have hi2 : i < (ts.map V.ref).length := by rw [← hl2]; exact (List.getElem?_eq_some_iff.mp hv').1
      obtain ⟨u, hu2, ru⟩ := rv.get (List.getElem?_eq_getElem hi2)
      rw [hv'] at hu2
      obtain rfl := Option.some.inj hu2
      exact ⟨_, List.getElem?_eq_getElem hi2, ru⟩
    obtain ⟨t, ht, rfl⟩ : ∃ t, ts[i]? = some t ∧ x = .ref t := by
      rw [List.getElem?_map] at hx
      cases e : ts[i]? with
      | none => rw [e] at hx; cases hx
      | some t => rw [e] at hx; exact ⟨t, rfl, (Option.some.inj hx).symm⟩
    cases rx
    exact ⟨.ref t, H, I.kept hk, rfl, q i t ht (by rw [hwi, e3])⟩
end Sp
namespace Sp
open PySem PySem.Spec L2 PyProof.Rows
theorem cr_minWK {X : Cx} {K : PySem.W.Frag} (h : X.K = K) (hc : X.calm = true) (hu : X.A.units + 64 < cLine) : CallR X (.builtin "min") (rMinW K) := by subst h; exact cr_minW hc hu
/-- ropes, as tuples (cost, one, other), as they stand -/
inductive RpAll (H : Hp) : List Addr → List Way → Prop
  | nil : RpAll H [] []
  | cons {t : Addr} {ts : List Addr} {w : Way} {ws : List Way} : H t = some (.tup [.int w.c, .int (w.a : Int), .int (w.b : Int)]) → RpAll H ts ws → RpAll H (t :: ts) (w :: ws)
theorem RpAll.same {H H' : Hp} (s : Same H H') : ∀ {ts : List Addr} {ws : List Way}, RpAll H ts ws → RpAll H' ts ws
  | _, _, .nil => .nil
  | _, _, .cons h r => .cons (s _ _ h) (r.same s)
theorem RpAll.move {H H' : Hp} (e : ∀ {q : Addr} {f : List V}, H q = some (.tup f) → H' q = some (.tup f)) : ∀ {ts : List Addr} {ws : List Way}, RpAll H ts ws → RpAll H' ts ws
  | _, _, .nil => .nil
  | _, _, .cons h r => .cons (e h) (r.move e)
theorem RpAll.len {H : Hp} : ∀ {ts : List Addr} {ws : List Way}, RpAll H ts ws → ts.length = ws.length
  | _, _, .nil => rfl
  | _, _, .cons _ r => by rw [List.length_cons, List.length_cons, r.len]
theorem RpAll.snoc {H : Hp} {t : Addr} {w : Way} (ht : H t = some (.tup [.int w.c, .int (w.a : Int), .int (w.b : Int)])) : ∀ {ts : List Addr} {ws : List Way}, RpAll H ts ws → RpAll H (ts ++ [t]) (ws ++ [w])
  | _, _, .nil => .cons ht .nil
  | _, _, .cons h r => .cons h (r.snoc ht)
theorem RpAll.at {H : Hp} : ∀ {ts : List Addr} {ws : List Way}, RpAll H ts ws → ∀ {i : Nat} {t : Addr}, ts[i]? = some t → ∃ w, ws[i]? = some w ∧ H t = some (.tup [.int w.c, .int (w.a : Int), .int (w.b : Int)])
  | _, _, .nil, i, _, h => by rw [List.getElem?_nil] at h; cases h
  | _, _, .cons h r, 0, t, e => ⟨_, rfl, by cases e; exact h⟩
  | _, _, .cons h r, i + 1, t, e => r.at (i := i) (by simpa using e)
/-- a rope that joins h to a hand that is joined -/
def joinsR (js : List Nat) (h : Nat) (f : Nat × Nat × Int) : Bool := (decide (f.1 = h) && decide (f.2.1 ∈ js)) || (decide (f.2.1 = h) && decide (f.1 ∈ js))
def ropeW (h : Nat) (f : Nat × Nat × Int) : Way := ⟨f.2.2, f.1, f.2.1, h⟩
def ropesM (cs : List Int) (fs : List (Nat × Nat × Int)) (js : List Nat) (h : Nat) : List Way := ⟨gi cs (h : Int), h, h, h⟩ :: (fs.filter (joinsR js h)).map (ropeW h)
def waysM (cs : List Int) (fs : List (Nat × Nat × Int)) (js left : List Nat) : List Way := left.flatMap (ropesM cs fs js)
def leastL : List Way → Way
  | [] => ⟨0, 0, 0, 0⟩
  | w :: ws => leastW w ws
/-- the ropes laid one by one, each the cheapest -/
inductive Run (cs : List Int) (fs : List (Nat × Nat × Int)) : List Nat → List Nat → List Way → Prop
  | done {js : List Nat} : Run cs fs [] js []
  | step {left js : List Nat} {w : Way} {ws : List Way} : w ∈ waysM cs fs js left → (∀ y ∈ waysM cs fs js left, w.c ≤ y.c) → w = leastL (waysM cs fs js left) → Run cs fs (left.erase w.h) (js ++ [w.h]) ws → Run cs fs left js (w :: ws)
theorem x_inN {K : PySem.W.Frag} {H : Hp} {Q : VK} {p : Addr} {h : Nat} {ns : List Nat} (hS : SqL K H p (ns.map vnat)) (q : Q (.bl (decide (h ∈ ns))) H) : rIn K false (.int (h : Int)) (.ref p) H Q :=
  ⟨p, _, rfl, .inl hS, rfl, all_flat_nat ns, by rw [inV_nat]; exact q⟩
/-- ways, as tuples ((cost, one, other), hand), as they stand -/
inductive WyAll (H : Hp) : List Addr → List Way → Prop
  | nil : WyAll H [] []
  | cons {q t : Addr} {qs : List Addr} {w : Way} {ws : List Way} : H q = some (.tup [.ref t, .int (w.h : Int)]) → H t = some (.tup [.int w.c, .int (w.a : Int), .int (w.b : Int)]) → WyAll H qs ws → WyAll H (q :: qs) (w :: ws)
theorem WyAll.same {H H' : Hp} (s : Same H H') : ∀ {ts : List Addr} {ws : List Way}, WyAll H ts ws → WyAll H' ts ws
  | _, _, .nil => .nil
  | _, _, .cons h k r => .cons (s _ _ h) (s _ _ k) (r.same s)
theorem WyAll.len {H : Hp} : ∀ {ts : List Addr} {ws : List Way}, WyAll H ts ws → ts.length = ws.length
  | _, _, .nil => rfl
  | _, _, .cons _ _ r => by rw [List.length_cons, List.length_cons, r.len]
theorem WyAll.app {H : Hp} : ∀ {ts us : List Addr} {ws vs : List Way}, WyAll H ts ws → WyAll H us vs → WyAll H (ts ++ us) (ws ++ vs)
  | _, _, _, _, .nil, b => b
  | _, _, _, _, .cons h k r, b => .cons h k (r.app b)
theorem WyAll.snoc {H : Hp} {q t : Addr} {w : Way} (hq : H q = some (.tup [.ref t, .int (w.h : Int)])) (ht : H t = some (.tup [.int w.c, .int (w.a : Int), .int (w.b : Int)])) {ts : List Addr} {ws : List Way} (a : WyAll H ts ws) : WyAll H (ts ++ [q]) (ws ++ [w]) := a.app (.cons hq ht .nil)
theorem WyAll.at {H : Hp} : ∀ {ts : List Addr} {ws : List Way}, WyAll H ts ws → ∀ {i : Nat} {q : Addr} {w : Way}, ts[i]? = some q → ws[i]? = some w → ∃ t, H q = some (.tup [.ref t, .int (w.h : Int)]) ∧ H t = some (.tup [.int w.c, .int (w.a : Int), .int (w.b : Int)])
  | _, _, .nil, i, _, _, h, _ => by rw [List.getElem?_nil] at h; cases h
  | _, _, .cons h k r, 0, q, w, e, e2 => by cases e; cases e2; exact ⟨_, h, k⟩
  | _, _, .cons h k r, i + 1, q, w, e, e2 => r.at (i := i) (by simpa using e) (by simpa using e2)
theorem WyAll.dp {K : PySem.W.Frag} {H : Hp} : ∀ {ts : List Addr} {ws : List Way}, WyAll H ts ws → DpAll K H (ts.map V.ref) (ws.map wayD)
  | _, _, .nil => .nil
  | _, _, .cons h k r => .cons (.tup (.inl (.inl h)) (.cons (.tup (.inl (.inl k)) (.cons (.int _) (.cons (.int _) (.cons (.int _) .nil)))) (.cons (.int _) .nil))) r.dp
/-- ways told one by one -/
def WyR (ws : List Way) (i : Nat) (B : Hp) (ys : List V) : Prop := ∃ qs : List Addr, ys = qs.map V.ref ∧ WyAll B qs (ws.take i)
theorem WyR.nil {ws : List Way} {B : Hp} : WyR ws 0 B [] := ⟨[], rfl, .nil⟩
theorem WyR.snoc {ws : List Way} {i : Nat} {B B' : Hp} {ys : List V} {w : Way} {q t : Addr} (h : WyR ws i B ys) (s : Same B B') (hw : ws[i]? = some w) (hq : B' q = some (.tup [.ref t, .int (w.h : Int)])) (ht : B' t = some (.tup [.int w.c, .int (w.a : Int), .int (w.b : Int)])) : WyR ws (i + 1) B' (ys ++ [.ref q]) := by
  obtain ⟨qs, rfl, f⟩ := h
  exact ⟨qs ++ [q], by rw [List.map_append] <;> rfl, by rw [List.take_add_one, hw]; exact (f.same s).snoc hq ht⟩
theorem WyR.len {ws : List Way} {i : Nat} {B : Hp} {ys : List V} (h : WyR ws i B ys) : ys.length ≤ i := by
  obtain ⟨qs, rfl, f⟩ := h
  rw [List.length_map, f.len, List.length_take]
  omega
theorem ropes_hand {cs : List Int} {fs : List (Nat × Nat × Int)} {js : List Nat} {h : Nat} {w : Way} (m : w ∈ ropesM cs fs js h) : w.h = h := by
  unfold ropesM at m
  rcases List.mem_cons.mp m with rfl | m
  · rfl
  · obtain ⟨f, _, rfl⟩ := List.mem_map.mp m
    rfl
theorem ways_hand {cs : List Int} {fs : List (Nat × Nat × Int)} {js left : List Nat} {w : Way} (m : w ∈ waysM cs fs js left) : w.h ∈ left := by
  obtain ⟨h, hh, hw⟩ := List.mem_flatMap.mp m
  rw [ropes_hand hw]; exact hh
theorem ropes_len {cs : List Int} {fs : List (Nat × Nat × Int)} {js : List Nat} {h : Nat} : (ropesM cs fs js h).length ≤ fs.length + 1 := by
  unfold ropesM
  rw [List.length_cons, List.length_map]
  have := List.length_filter_le (joinsR js h) fs
  omega
theorem ways_len {cs : List Int} {fs : List (Nat × Nat × Int)} {js : List Nat} : ∀ left : List Nat, (waysM cs fs js left).length ≤ left.length * (fs.length + 1)
  | [] => Nat.zero_le _
  | h :: left => by
    have ih := ways_len (cs := cs) (fs := fs) (js := js) left
    have := ropes_len (cs := cs) (fs := fs) (js := js) (h := h)
    show (ropesM cs fs js h ++ waysM cs fs js left).length ≤ _
    rw [List.length_append, List.length_cons, Nat.succ_mul]
    omega
/-- which ropes they are -/
def netM (cs : List Int) (fs : List (Nat × Nat × Int)) : Nat → List Nat → List Nat → List Way
  | 0, _, _ => []
  | n + 1, left, js => if left = [] then [] else leastL (waysM cs fs js left) :: netM cs fs n (left.erase (leastL (waysM cs fs js left)).h) (js ++ [(leastL (waysM cs fs js left)).h])
theorem Run.net {cs : List Int} {fs : List (Nat × Nat × Int)} {left js : List Nat} {ws : List Way} (r : Run cs fs left js ws) : ∀ n, left.length ≤ n → ws = netM cs fs n left js := by
  induction r with
  | done => intro n _; cases n <;> rfl
  | step hm _ he _ ih =>
    rename_i left js w ws _ _
    intro n hn
    have hh := ways_hand hm
    have hpos := List.length_pos_of_mem hh
    have hel := List.length_erase_of_mem hh
    cases n with
    | zero => omega
    | succ n =>
      show _ = if left = [] then [] else _
      rw [if_neg (fun e => by rw [e] at hpos; cases hpos), ← he, ih n (by omega)]
theorem netM_len {cs : List Int} {fs : List (Nat × Nat × Int)} : ∀ n left js, (netM cs fs n left js).length ≤ n
  | 0, _, _ => Nat.le_refl _
  | n + 1, left, js => by
    show (if left = [] then [] else _).length ≤ _
    by_cases c : left = []
    · rw [if_pos c]; exact Nat.zero_le _
    · rw [if_neg c, List.length_cons]
      have := netM_len (cs := cs) (fs := fs) n (left.erase (leastL (waysM cs fs js left)).h) (js ++ [(leastL (waysM cs fs js left)).h])
      omega
/-- what the cheapest net of a group costs, below nought -/
def netC (cs : List Int) (fs : List (Nat × Nat × Int)) (g : Nat) : Int := 0 - ((netM cs fs 6 (handsM g) []).map fun w => w.c).sum
theorem Run.cost {cs : List Int} {fs : List (Nat × Nat × Int)} {g : Nat} {ws : List Way} (h : (handsM g).length ≤ 6) (r : Run cs fs (handsM g) [] ws) : 0 - (ws.map fun w => w.c).sum = netC cs fs g := by
  unfold netC
  rw [← r.net 6 h]
inductive NetE (C : Addr) (K : PySem.W.Frag) (H : Hp) (a : Addr) (m : Nat) (cs : List Int) (fs : List Tr) : Prop
  | mk {dx l d : Addr} {ts : List Addr} (e : H a = some (.ins C dx [("many", .int (m : Int)), ("costs", .ref l), ("ropes", .ref d)])) (h : SqL K H l (cs.map V.int)) (hs : SqL K H d (ts.map V.ref)) (hr : TrAll H ts fs) (hl : cs.length = m) (h1 : 1 ≤ m) (h6 : m ≤ 6) (ok : pairsOk m fs) (so : SortedT fs) (c0 : ∀ c ∈ cs, 0 ≤ c) (f0 : ∀ f ∈ fs, 0 ≤ f.2.2) (h15 : fs.length ≤ 15) : NetE C K H a m cs fs
theorem NetE.same {C : Addr} {K : PySem.W.Frag} {H H' : Hp} {a : Addr} {m : Nat} {cs : List Int} {fs : List Tr} (h : NetE C K H a m cs fs) (s : Same H H') : NetE C K H' a m cs fs := by cases h with | mk e h hs hr hl h1 h6 ok so c0 f0 h15 => exact .mk (s _ _ e) (s.seq h) (s.seq hs) (hr.same s) hl h1 h6 ok so c0 f0 h15
inductive NetAt (C : Addr) (K : PySem.W.Frag) (H : Hp) (a : Addr) (m : Nat) (f : Nat → Int) : Prop
  | mk {cs : List Int} {fs : List Tr} (h : NetE C K H a m cs fs) (hf : ∀ g, g < 2 ^ m → f g = netC cs fs g) : NetAt C K H a m f
theorem NetAt.same {C : Addr} {K : PySem.W.Frag} {H H' : Hp} {a : Addr} {m : Nat} {f : Nat → Int} (h : NetAt C K H a m f) (s : Same H H') : NetAt C K H' a m f := by cases h with | mk h hf => exact .mk (h.same s) hf
theorem NetE.ins {C : Addr} {K : PySem.W.Frag} {H : Hp} {a : Addr} {m : Nat} {cs : List Int} {fs : List Tr} (h : NetE C K H a m cs fs) : ∃ dx fl, InsF H a C dx fl m := by cases h with | mk e h hs hr hl h1 h6 ok so c0 f0 h15 => exact ⟨_, _, e, rfl, rfl, rfl, rfl, rfl⟩
theorem NetAt.ins {C : Addr} {K : PySem.W.Frag} {H : Hp} {a : Addr} {m : Nat} {f : Nat → Int} (h : NetAt C K H a m f) : ∃ dx fl, InsF H a C dx fl m := by cases h with | mk h hf => exact h.ins
end Sp

/-! Txs: texts: numbers, pairs, rules as words. -/
namespace Sp
open PySem PySem.Spec L2 PyProof.Rows
abbrev numT (i : Int) : Str := Str.ofString (toString i)
/-- a number of at most a hundred figures -/
def SmN (i : Int) : Prop := i.natAbs < 10 ^ 100
theorem SmN.log {i : Int} (h : SmN i) : i.natAbs.log2 < 1920 := log2_small (k := 400) (by decide) (Nat.lt_trans h (by decide)) (by decide)
theorem SmN.len {i : Int} (h : SmN i) : (numT i).length ≤ 101 := by
  have e := int_text_length_le10 (k := 100) (by decide) h
  unfold numT
  rw [PySem.ofString_length]; omega
/-- word += text -/
def ipAddS : TIp := fun x y H Q => ∃ a b, x = .str a ∧ y = .str b ∧ a.length + b.length ≤ sizeLine ∧ Q (.str (a ++ b)) H
theorem ip_addS {X : Cx} : PIp X .Add ipAddS := by
  intro pins s σ H x y v u Q I r1 r2 h
  obtain ⟨a, b, rfl, rfl, hz, q⟩ := h
  obtain ⟨t, rfl⟩ := r1
  obtain ⟨t', rfl⟩ := r2
  exact PySem.SB.iadd (fun t' k => ⟨.str _, H, I.tok _, ⟨_, rfl⟩, q⟩) hz
theorem x_ipS {a b : Str} {H : Hp} {Q : VK} (hz : a.length + b.length ≤ sizeLine) (q : Q (.str (a ++ b)) H) : ipAddS (.str a) (.str b) H Q := ⟨a, b, rfl, rfl, hz, q⟩
theorem x_ipSE {a b c : Str} {H : Hp} {Q : VK} (hz : a.length + b.length ≤ sizeLine) (e : a ++ b = c) (q : Q (.str c) H) : ipAddS (.str a) (.str b) H Q := ⟨a, b, rfl, rfl, hz, e ▸ q⟩
/-- sep.join(list of texts) -/
def rJoin (K : PySem.W.Frag) : V → List V → Hp → VK → Prop := fun x xs H Q => ∃ a p, ∃ ys : List Str, x = .str a ∧ xs = [.ref p] ∧ (SqL K H p (ys.map V.str) ∨ SqT K H p (ys.map V.str)) ∧
      (ys.map (·.length)).sum + ys.length * a.length ≤ 16777216 ∧ Q (.str (Txt.join a ys)) H
theorem mt_joinK {X : Cx} {K : PySem.W.Frag} (h : X.K = K) : MtR X "str.join" (rJoin K) := by subst h; exact mt_join
/-- a word and others behind it, a blank ahead of each -/
def wordsS (w : Str) (ps : List Str) : Str := ps.foldl (fun a p => a ++ Str.ofString " " ++ p) w
theorem join_app (sep a b : Str) (r : List Str) : Str.join sep ((a ++ b) :: r) = a ++ Str.join sep (b :: r) := by
  cases r with
  | nil => rfl
  | cons c r =>
    show (a ++ b) ++ sep ++ _ = a ++ (b ++ sep ++ _)
    rw [PySem.Str.append_assoc, PySem.Str.append_assoc, PySem.Str.append_assoc]
theorem join_words (w : Str) (ps : List Str) : Txt.join (Str.ofString " ") (w :: ps) = wordsS w ps := by
  rw [TL.join_eq]
  induction ps generalizing w with
  | nil => rfl
  | cons p ps ih =>
    show w ++ Str.ofString " " ++ Str.join (Str.ofString " ") (p :: ps) = wordsS (w ++ Str.ofString " " ++ p) ps
    rw [← ih, join_app]
theorem wordsS_len (w : Str) (ps : List Str) : (wordsS w ps).length = w.length + (ps.map fun p => 1 + p.length).sum := by
  induction ps generalizing w with
  | nil => rfl
  | cons p ps ih =>
    show (wordsS (w ++ Str.ofString " " ++ p) ps).length = _
    rw [ih, PySem.Str.length_append, PySem.Str.length_append, List.map_cons, List.sum_cons]
    have : (Str.ofString " ").length = 1 := by decide +kernel
    omega
theorem wordsS_app (w : Str) (ps qs : List Str) : wordsS w (ps ++ qs) = wordsS (wordsS w ps) qs := by
  unfold wordsS
  rw [List.foldl_append]
theorem wordsS_snoc (w : Str) (ps : List Str) (q : Str) : wordsS w (ps ++ [q]) = wordsS w ps ++ Str.ofString " " ++ q := by
  rw [wordsS_app] <;> rfl
theorem sum_le_mul {l : List Nat} {k : Nat} (h : ∀ x ∈ l, x ≤ k) : l.sum ≤ l.length * k := by
  induction l with
  | nil => exact Nat.zero_le _
  | cons x l ih =>
    rw [List.sum_cons, List.length_cons, Nat.succ_mul]
    have h1 := h x (.head _)
    have h2 := ih fun y hy => h y (.tail _ hy)
    omega
theorem wordsS_le {w : Str} {ps : List Str} {k : Nat} (h : ∀ p ∈ ps, p.length ≤ k) : (wordsS w ps).length ≤ w.length + ps.length * (k + 1) := by
  rw [wordsS_len]
  have := sum_le_mul (l := ps.map fun p => 1 + p.length) (k := k + 1) fun x hx => by
    obtain ⟨p, hp, rfl⟩ := List.mem_map.mp hx
    have := h p hp
    omega
  rw [List.length_map] at this
  omega
/-- ONE-OTHER:NUMBER -/
def pairT (f : Tr) : Str := numT (f.1 : Int) ++ Str.ofString "-" ++ numT (f.2.1 : Int) ++ Str.ofString ":" ++ numT f.2.2
theorem pairT_len {f : Tr} (h1 : SmN (f.1 : Int)) (h2 : SmN (f.2.1 : Int)) (h3 : SmN f.2.2) : (pairT f).length ≤ 305 := by
  unfold pairT
  rw [PySem.Str.length_append, PySem.Str.length_append, PySem.Str.length_append, PySem.Str.length_append]
  have e1 : (Str.ofString "-").length = 1 := by decide +kernel
  have e2 : (Str.ofString ":").length = 1 := by decide +kernel
  have := h1.len
  have := h2.len
  have := h3.len
  omega
def numsT (w : Str) (ns : List Int) : Str := wordsS w (ns.map numT)
def pairsT (w : Str) (fs : List Tr) : Str := wordsS w (fs.map pairT)
theorem numsT_len {w : Str} {ns : List Int} (h : ∀ n ∈ ns, SmN n) : (numsT w ns).length ≤ w.length + ns.length * 102 := by
  have := wordsS_le (w := w) (ps := ns.map numT) (k := 101) fun p hp => by
    obtain ⟨n, hn, rfl⟩ := List.mem_map.mp hp
    exact (h n hn).len
  rw [List.length_map] at this
  exact this
def SmTr (f : Tr) : Prop := SmN (f.1 : Int) ∧ SmN (f.2.1 : Int) ∧ SmN f.2.2
theorem pairsT_len {w : Str} {fs : List Tr} (h : ∀ f ∈ fs, SmTr f) : (pairsT w fs).length ≤ w.length + fs.length * 306 := by
  have := wordsS_le (w := w) (ps := fs.map pairT) (k := 305) fun p hp => by
    obtain ⟨n, hn, rfl⟩ := List.mem_map.mp hp
    exact pairT_len (h n hn).1 (h n hn).2.1 (h n hn).2.2
  rw [List.length_map] at this
  exact this
theorem x_tyS {K : PySem.W.Frag} {H : Hp} {a : Str} : tyV K "str" (.str a) H := rfl
/-- f-strings: the parts one by one -/
theorem x_js {ts : List TE} {t : TE} {acc : Str} {σ : L2.St} {H : Hp} {Q : Str → Hp → Prop} (h : t σ H fun x H1 => ∃ y : Str, x = .str y ∧ (acc ++ y).length ≤ sizeLine ∧ tJs ts (acc ++ y) σ H1 Q) : tJs (t :: ts) acc σ H Q := h
theorem x_js0 {acc : Str} {σ : L2.St} {H : Hp} {Q : Str → Hp → Prop} (h : Q acc H) : tJs [] acc σ H Q := h
/-- an f-string of two parts or more -/
def tJo (ts : List TE) : TE := fun σ H Q => tJs ts Str.empty σ H fun out H1 => Q (.str out) H1
theorem pe_joinedO {X : Cx} {v1 v2 : Expr} {rest : List Expr} {ts : List TE} {pos : Pos} (h : PJ X (v1 :: v2 :: rest) ts) : PE X (.JoinedStr (v1 :: v2 :: rest) pos) (tJo ts) := pe_joined h
theorem x_jo {ts : List TE} {σ : L2.St} {H : Hp} {Q : VK} (h : tJs ts Str.empty σ H fun out H1 => Q (.str out) H1) : tJo ts σ H Q := h
theorem x_fmt {te : TE} {σ : L2.St} {H : Hp} {Q : VK} (h : te σ H fun x H1 => (∃ y : Str, x = .str y ∧ y.length ≤ sizeLine ∧ Q (.str y) H1) ∨ ∃ i : Int, x = .int i ∧ i.natAbs.log2 < 1920 ∧ Q (.str (toString i)) H1) : tFmt te σ H Q := h

/-! ### what stands in a rule, told whole -/
inductive BaseE (C : Addr) (K : PySem.W.Frag) (H : Hp) (a : Addr) (m : Nat) : Prop
  | mk {dx : Addr} (e : H a = some (.ins C dx [("many", .int (m : Int))])) : BaseE C K H a m
inductive OwnE (C : Addr) (K : PySem.W.Frag) (H : Hp) (a : Addr) (m : Nat) (ns : List Int) : Prop
  | mk {dx l : Addr} (e : H a = some (.ins C dx [("many", .int (m : Int)), ("numbers", .ref l)])) (h : SqL K H l (ns.map V.int)) (hl : ns.length = m) : OwnE C K H a m ns
inductive PlainE (C : Addr) (K : PySem.W.Frag) (H : Hp) (a : Addr) (m : Nat) (ns : List Int) : Prop
  | mk {dx l : Addr} (e : H a = some (.ins C dx [("many", .int (m : Int)), ("row", .ref l)])) (h : SqL K H l (ns.map V.int)) (hl : ns.length = 2 ^ m) (h0 : gi ns 0 = 0) : PlainE C K H a m ns
inductive PairsE (C : Addr) (K : PySem.W.Frag) (H : Hp) (a : Addr) (m : Nat) (fs : List Tr) : Prop
  | mk {dx l : Addr} {ts : List Addr} (e : H a = some (.ins C dx [("many", .int (m : Int)), ("pairs", .ref l)])) (h : SqL K H l (ts.map V.ref)) (hr : TrAll H ts fs) (hp : pairsOk m fs) : PairsE C K H a m fs
inductive VotesE (C : Addr) (K : PySem.W.Frag) (H : Hp) (a : Addr) (m : Nat) (q p : Int) (ws : List Int) : Prop
  | mk {dx l : Addr} (e : H a = some (.ins C dx [("many", .int (m : Int)), ("quota", .int q), ("prize", .int p), ("weights", .ref l)])) (h : SqL K H l (ws.map V.int)) (hl : ws.length = m) : VotesE C K H a m q p ws
section
variable {C : Addr} {K : PySem.W.Frag} {H H' : Hp} {a : Addr} {m : Nat} {ns : List Int} {fs : List Tr} {q p : Int}
theorem BaseE.same (h : BaseE C K H a m) (s : Same H H') : BaseE C K H' a m := by cases h with | mk e => exact .mk (s _ _ e)
theorem OwnE.same (h : OwnE C K H a m ns) (s : Same H H') : OwnE C K H' a m ns := by cases h with | mk e h hl => exact .mk (s _ _ e) (s.seq h) hl
theorem PlainE.same (h : PlainE C K H a m ns) (s : Same H H') : PlainE C K H' a m ns := by cases h with | mk e h hl h0 => exact .mk (s _ _ e) (s.seq h) hl h0
theorem PairsE.same (h : PairsE C K H a m fs) (s : Same H H') : PairsE C K H' a m fs := by cases h with | mk e h hr hp => exact .mk (s _ _ e) (s.seq h) (hr.same s) hp
theorem VotesE.same (h : VotesE C K H a m q p ns) (s : Same H H') : VotesE C K H' a m q p ns := by cases h with | mk e h hl => exact .mk (s _ _ e) (s.seq h) hl
theorem BaseE.at (h : BaseE C K H a m) : BaseAt C K H a m (fun _ => 0) := by cases h with | mk e => exact .mk e fun _ _ => rfl
theorem OwnE.at (h : OwnE C K H a m ns) : OwnAt C K H a m (sumS ns) := by cases h with | mk e h hl => exact .mk e h hl fun _ _ => rfl
theorem PlainE.at (h : PlainE C K H a m ns) : PlainAt C K H a m (fn ns) := by cases h with | mk e h hl h0 => exact .mk e h hl fun _ _ => rfl
theorem PairsE.at (h : PairsE C K H a m fs) : PairsAt C K H a m (pairsS fs) := by cases h with | mk e h hr hp => exact .mk e h hr hp.1 fun _ _ => rfl
theorem VotesE.at (h : VotesE C K H a m q p ns) : VotesAt C K H a m (fun g => if q ≤ sumS ns g then p else 0) := by cases h with | mk e h hl => exact .mk e h hl fun _ _ => rfl
theorem MatchE.at (h : MatchE C K H a m fs) : MatchAt C K H a m (fun g => gi (bestL fs (2 ^ m - 1)) (g : Int)) := .mk h fun _ _ => rfl
theorem NetE.at (h : NetE C K H a m ns fs) : NetAt C K H a m (netC ns fs) := .mk h fun _ _ => rfl
end
end Sp
namespace Sp
open PySem PySem.Spec L2 PyProof.Rows
/-- a rule's contents -/
inductive RuleD where
  | none
  | own (ns : List Int)
  | votes (q p : Int) (ws : List Int)
  | table (ns : List Int)
  | pairs (fs : List Tr)
  | best (fs : List Tr)
  | net (cs : List Int) (fs : List Tr)
/-- what each group earns by it -/
def RuleD.earn (m : Nat) : RuleD → Nat → Int
  | .none => fun _ => 0
  | .own ns => sumS ns
  | .votes q p ws => fun g => if q ≤ sumS ws g then p else 0
  | .table ns => fn ns
  | .pairs fs => pairsS fs
  | .best fs => fun g => gi (bestL fs (2 ^ m - 1)) (g : Int)
  | .net cs fs => netC cs fs
def sOf (s : String) : Str := Str.ofString s
/-- its words -/
def RuleD.words : RuleD → Str
  | .none => Str.ofString "none"
  | .own ns => numsT (Str.ofString "own") ns
  | .votes q p ws => numsT (Str.ofString "votes") (q :: p :: ws)
  | .table ns => numsT (Str.ofString "table") (ns.drop 1)
  | .pairs fs => pairsT (Str.ofString "pairs") fs
  | .best fs => pairsT (Str.ofString "match") fs
  | .net cs fs => pairsT (numsT (Str.ofString "net") cs) fs
/-- its numbers are small -/
def RuleD.small : RuleD → Prop
  | .none => True
  | .own ns => ∀ n ∈ ns, SmN n
  | .votes q p ws => SmN q ∧ SmN p ∧ ∀ n ∈ ws, SmN n
  | .table ns => ∀ n ∈ ns, SmN n
  | .pairs fs => ∀ f ∈ fs, SmN f.2.2
  | .best fs => ∀ f ∈ fs, SmN f.2.2
  | .net cs fs => (∀ n ∈ cs, SmN n) ∧ ∀ f ∈ fs, SmN f.2.2
end Sp
namespace Sp
open PySem PySem.Spec L2 PyProof.Rows
theorem smN_lt {n : Nat} (h : n < 10) : SmN (n : Int) := by
  unfold SmN
  rw [Int.natAbs_natCast]
  exact Nat.lt_of_lt_of_le h (by decide)
theorem smTr {m : Nat} {fs : List Tr} (hm : m ≤ 6) (hp : pairsOk m fs) (hz : ∀ f ∈ fs, SmN f.2.2) : ∀ f ∈ fs, SmTr f := fun f hf => by
  obtain ⟨h1, h2⟩ := hp.1 f hf
  exact ⟨smN_lt (by omega), smN_lt (by omega), hz f hf⟩
/-- all pairs of hands below m -/
def pairAll (m : Nat) : List (Nat × Nat) := (List.range m).flatMap fun j => (List.range j).map fun i => (i, j)
theorem pairAll_mem {m : Nat} {t : Nat × Nat} (h : t.1 < t.2) (h2 : t.2 < m) : t ∈ pairAll m := by
  unfold pairAll
  rw [List.mem_flatMap]
  exact ⟨t.2, List.mem_range.mpr h2, List.mem_map.mpr ⟨t.1, List.mem_range.mpr h, rfl⟩⟩
theorem pairAll_len : ∀ m, m ≤ 6 → (pairAll m).length ≤ 15 := by decide
theorem nodup_sub {α : Type} [DecidableEq α] : ∀ (l D : List α), l.Nodup → (∀ x ∈ l, x ∈ D) → l.length ≤ D.length
  | [], _, _, _ => Nat.zero_le _
  | x :: l, D, nd, h => by
    have h1 := List.nodup_cons.mp nd
    have hx := h x (.head _)
    have ih := nodup_sub l (D.erase x) h1.2 fun y hy => by
      have hne : y ≠ x := fun e => h1.1 (by rw [← e]; exact hy)
      exact (List.mem_erase_of_ne hne).mpr (h y (.tail _ hy))
    rw [List.length_erase_of_mem hx] at ih
    have := List.length_pos_of_mem hx
    rw [List.length_cons]; omega
theorem nodup_of_map {α β : Type} (f : α → β) : ∀ (l : List α), (l.map f).Nodup → l.Nodup
  | [], _ => List.nodup_nil
  | x :: l, h => by
    rw [List.map_cons, List.nodup_cons] at h
    exact List.nodup_cons.mpr ⟨fun m => h.1 (List.mem_map.mpr ⟨x, m, rfl⟩), nodup_of_map f l h.2⟩
theorem pairsOk_len {m : Nat} {fs : List Tr} (hm : m ≤ 6) (hp : pairsOk m fs) : fs.length ≤ 15 := by
  refine Nat.le_trans ?_ (pairAll_len m hm)
  have e : (fs.map fun t => (t.1, t.2.1)).length = fs.length := by rw [List.length_map]
  rw [← e]
  refine nodup_sub _ _ ?_ fun x hx => ?_
  · have nd := hp.2
    have : fs.map trK = (fs.map fun t => (t.1, t.2.1)).map fun q => [Sum.inl (q.1 : Int), Sum.inl (q.2 : Int)] := by rw [List.map_map] <;> rfl
    rw [this] at nd
    exact nodup_of_map _ _ nd
  · obtain ⟨t, ht, rfl⟩ := List.mem_map.mp hx
    exact pairAll_mem (hp.1 t ht).1 (hp.1 t ht).2
end Sp
namespace Sp
open PySem PySem.Spec L2 PyProof.Rows
/-- an object made: all that is new stands and stays -/
theorem own_mk {B H1 H2 : Hp} {cs : Cells} {C x dx : Addr} (w : Own B cs H1) (n1 : H1 x = none) (n2 : H1 dx = none) (hne : dx ≠ x) (sx : SameX x (upd (upd H1 dx (.own x)) x (.ins C dx [])) H2) :
    ∃ B2, Same B B2 ∧ Own B2 cs H2 ∧ (∀ q, (upd (upd H1 dx (.own x)) x (.ins C dx [])) q = none → B2 q = H2 q) ∧ B2 x = H2 x := by
  have sm : Same H1 H2 := fun q o h => sx q o (ne_of_none h n1) (by rw [upd_ne (ne_of_none h n1), upd_ne (ne_of_none h n2)]; exact h)
  obtain ⟨B2, sB, w2, e⟩ := own_frz w sm
  refine ⟨B2, sB, w2, fun q h => ?_, e x (w.off n1)⟩
  have h1 : H1 q = none := by
    by_cases z : q = x
    · subst z; exact n1
    · rw [upd_ne z] at h
      by_cases z2 : q = dx
      · subst z2; exact n2
      · rw [upd_ne z2] at h; exact h
  exact e q (w.off h1)
theorem same_mk {H1 : Hp} {C x dx : Addr} (n1 : H1 x = none) (n2 : H1 dx = none) (hne : dx ≠ x) : Same H1 (upd (upd H1 dx (.own x)) x (.ins C dx [])) := (same_upd n2).trans (same_upd (by rw [upd_ne (Ne.symm hne)]; exact n1))
theorem sameX_mk {H1 H2 : Hp} {C x dx : Addr} (n1 : H1 x = none) (n2 : H1 dx = none) (hne : dx ≠ x) (sx : SameX x (upd (upd H1 dx (.own x)) x (.ins C dx [])) H2) : Same H1 H2 := fun q o h => sx q o (ne_of_none h n1) (by rw [upd_ne (ne_of_none h n1), upd_ne (ne_of_none h n2)]; exact h)
theorem rd_neL {H : Hp} {a x : Addr} {o : HO} (h : Rd H a o) (n : H x = none) : a ≠ x := fun z => by
  subst z
  rcases h with h | ⟨o, h⟩ <;> rw [n] at h <;> cases h
theorem all_isI (ns : List Int) : (ns.map V.int).all isI = true := by rw [List.all_map]; exact List.all_eq_true.mpr fun _ _ => rfl
end Sp
namespace Sp
open PySem PySem.Spec L2 PyProof.Rows
theorem range_flat {α : Type} (f : Nat → List α) (i : Nat) : (List.range (i + 1)).flatMap f = (List.range i).flatMap f ++ f i := by
  rw [List.range_succ, List.flatMap_append]
  show _ ++ (f i ++ []) = _
  rw [List.append_nil]
/-- in buckets by a number below n: the same things -/
theorem bucket_perm {α : Type} (c : α → Nat) (n : Nat) : ∀ (l : List α), (∀ x ∈ l, c x < n) → ((List.range n).flatMap fun i => l.filter fun x => decide (c x = i)).Perm l
  | [], _ => by
    have : ∀ n, ((List.range n).flatMap fun i => ([] : List α).filter fun x => decide (c x = i)) = [] := fun n => by
      induction n with
      | zero => rfl
      | succ n ih => rw [range_flat, ih] <;> rfl
    rw [this]
  | f :: l, h => by
    have ih := bucket_perm c n l fun x hx => h x (.tail _ hx)
    have hf := h f (.head _)
    refine List.Perm.trans ?_ (ih.cons f)
    clear ih h
    induction n with
    | zero => cases hf
    | succ n ih =>
      rw [range_flat, range_flat]
      by_cases e : c f = n
      · subst e
        have : ((List.range (c f)).flatMap fun i => (f :: l).filter fun x => decide (c x = i)) = (List.range (c f)).flatMap fun i => l.filter fun x => decide (c x = i) := by
          have : ∀ k, k ≤ c f → ((List.range k).flatMap fun i => (f :: l).filter fun x => decide (c x = i)) = (List.range k).flatMap fun i => l.filter fun x => decide (c x = i) := fun k => by
            induction k with
            | zero => intro _; rfl
            | succ k ih =>
              intro hk
              rw [range_flat, range_flat, ih (by omega), List.filter_cons, if_neg (by simp; omega)]
          exact this _ (Nat.le_refl _)
        rw [this, List.filter_cons, if_pos (by simp)]
        exact List.perm_middle
      · have ih := ih (by omega)
        rw [List.filter_cons, if_neg (by simpa using e)]
        exact ih.append_right _
theorem flat_perm {α β : Type} {f g : α → List β} : ∀ (l : List α), (∀ x ∈ l, (f x).Perm (g x)) → (l.flatMap f).Perm (l.flatMap g)
  | [], _ => .refl _
  | x :: l, h => by
    rw [List.flatMap_cons, List.flatMap_cons]
    exact (h x (.head _)).append (flat_perm l fun y hy => h y (.tail _ hy))
def cell6 (fs : List Tr) (i j : Nat) : List Tr := fs.filter fun f => decide (f.1 = i) && decide (f.2.1 = j)
/-- sorted by going through all hands -/
def srt6 (fs : List Tr) : List Tr := (List.range 6).flatMap fun i => (List.range 6).flatMap (cell6 fs i)
theorem cell6_in {fs : List Tr} {i j : Nat} : ∀ f ∈ cell6 fs i j, f ∈ fs := fun f hf => (List.mem_filter.mp hf).1
theorem srt6_perm {fs : List Tr} (h : ∀ f ∈ fs, f.1 < 6 ∧ f.2.1 < 6) : (srt6 fs).Perm fs := by
  refine List.Perm.trans (flat_perm _ fun i _ => ?_) (bucket_perm (fun f : Tr => f.1) 6 fs fun f hf => (h f hf).1)
  have e : ∀ j, cell6 fs i j = (fs.filter fun f => decide (f.1 = i)).filter fun f => decide (f.2.1 = j) := fun j => by
    unfold cell6
    rw [List.filter_filter]
    congr 1
    funext f
    exact Bool.and_comm _ _
  rw [show cell6 fs i = fun j => (fs.filter fun f => decide (f.1 = i)).filter fun f => decide (f.2.1 = j) from funext e]
  exact bucket_perm (fun f : Tr => f.2.1) 6 _ fun f hf => (h f (List.mem_filter.mp hf).1).2
theorem srt6_mem {fs : List Tr} {i : Nat} : ∀ f ∈ (List.range 6).flatMap (cell6 fs i), f.1 = i := fun f hf => by
  obtain ⟨j, _, hf⟩ := List.mem_flatMap.mp hf
  have := (List.mem_filter.mp hf).2
  rw [Bool.and_eq_true, decide_eq_true_iff] at this
  exact this.1
theorem cell6_mem {fs : List Tr} {i j : Nat} : ∀ f ∈ cell6 fs i j, f.1 = i ∧ f.2.1 = j := fun f hf => by
  have := (List.mem_filter.mp hf).2
  rw [Bool.and_eq_true, decide_eq_true_iff, decide_eq_true_iff] at this
  exact this
theorem pair_le {x y : Tr} (h : x.1 < y.1 ∨ (x.1 = y.1 ∧ x.2.1 ≤ y.2.1)) : SrtO.lexB (trP y) (trP x) = false := by
  rw [SrtO.lexB_no]
  unfold trP
  simp only
  omega
theorem le_pair {x y : Tr} (h : SrtO.lexB (trP y) (trP x) = false) : x.1 < y.1 ∨ (x.1 = y.1 ∧ x.2.1 ≤ y.2.1) := by
  rw [SrtO.lexB_no] at h
  unfold trP at h
  simp only at h
  omega
theorem srt6_sorted (fs : List Tr) : SortedT (srt6 fs) := by
  unfold SortedT srt6
  rw [List.pairwise_map, List.pairwise_flatMap]
  refine ⟨fun i _ => ?_, List.pairwise_lt_range.imp fun {i j} hij x hx y hy => ?_⟩
  · rw [List.pairwise_flatMap]
    refine ⟨fun j _ => List.pairwise_of_forall_mem_list fun x hx y hy => ?_, List.pairwise_lt_range.imp fun {j k} hjk x hx y hy => ?_⟩
    · have h1 := cell6_mem x hx
      have h2 := cell6_mem y hy
      exact pair_le (.inr ⟨by omega, by omega⟩)
    · have h1 := cell6_mem x hx
      have h2 := cell6_mem y hy
      exact pair_le (.inr ⟨by omega, by omega⟩)
  · have h1 := srt6_mem x hx
    have h2 := srt6_mem y hy
    exact pair_le (.inl (by omega))
theorem sorted_uniq : ∀ {fs gs : List Tr}, fs.Perm gs → (fs.map trK).Nodup → SortedT fs → SortedT gs → fs = gs
  | [], gs, h, _, _, _ => (List.nil_perm.mp h).symm
  | f :: fs, [], h, _, _, _ => absurd h.length_eq (by simp)
  | f :: fs, g :: gs, h, nd, s1, s2 => by
    have e : f = g := by
      rcases List.mem_cons.mp (h.mem_iff.mp (.head _)) with e | hf
      · exact e
      rcases List.mem_cons.mp (h.mem_iff.mpr (List.mem_cons_self (a := g) (l := gs))) with e | hg
      · exact e.symm
      have a1 := le_pair ((List.pairwise_cons.mp (List.pairwise_map.mp s1)).1 g hg)
      have a2 := le_pair ((List.pairwise_cons.mp (List.pairwise_map.mp s2)).1 f hf)
      rw [List.map_cons, List.nodup_cons] at nd
      refine absurd (List.mem_map.mpr ⟨g, hg, ?_⟩) nd.1
      unfold trK
      rw [show f.1 = g.1 by omega, show f.2.1 = g.2.1 by omega]
    subst e
    rw [List.map_cons, List.nodup_cons] at nd
    rw [sorted_uniq (List.Perm.cons_inv h) nd.2 (List.pairwise_map.mpr (List.pairwise_cons.mp (List.pairwise_map.mp s1)).2) (List.pairwise_map.mpr (List.pairwise_cons.mp (List.pairwise_map.mp s2)).2)]
/-- the sorted pairs are these -/
theorem srt6_is {m : Nat} {fs gs : List Tr} (hm : m ≤ 6) (ok : pairsOk m fs) (p : gs.Perm fs) (s : SortedT gs) : gs = srt6 fs := by
  have h6 := srt6_perm (fs := fs) fun f hf => by
    obtain ⟨h1, h2⟩ := ok.1 f hf
    exact ⟨by omega, by omega⟩
  exact sorted_uniq (p.trans h6.symm) (pairsOk_perm p.symm ok).2 s (srt6_sorted fs)
/-- tuples told one by one -/
def TrR (gs : List Tr) (i : Nat) (B : Hp) (ys : List V) : Prop := ∃ us : List Addr, ys = us.map V.ref ∧ TrAll B us (gs.take i)
theorem TrR.nil {gs : List Tr} {B : Hp} : TrR gs 0 B [] := ⟨[], rfl, .nil⟩
theorem TrR.snoc {gs : List Tr} {i : Nat} {B B' : Hp} {ys : List V} {f : Tr} {u : Addr} (h : TrR gs i B ys) (s : Same B B') (hf : gs[i]? = some f) (hu : B' u = some (.tup (trV f))) : TrR gs (i + 1) B' (ys ++ [.ref u]) := by
  obtain ⟨us, rfl, a⟩ := h
  exact ⟨us ++ [u], by rw [List.map_append] <;> rfl, by rw [List.take_add_one, hf]; exact (a.same s).snoc hu⟩
theorem TrR.len {gs : List Tr} {i : Nat} {B : Hp} {ys : List V} (h : TrR gs i B ys) : ys.length ≤ i := by
  obtain ⟨us, rfl, a⟩ := h
  rw [List.length_map, a.len, List.length_take]
  omega
theorem wipe_setI {σ : L2.St} {i : Nat} {x : Option V} : ∀ {vs : List Nat}, wipe (σ.set i x) vs = if i ∈ vs then wipe σ vs else (wipe σ vs).set i x
  | [] => rfl
  | v :: vs => by
    show (wipe (σ.set i x) vs).set v none = _
    rw [wipe_setI]
    by_cases h : i ∈ vs
    · rw [if_pos h, if_pos (List.mem_cons_of_mem _ h)] <;> rfl
    · rw [if_neg h]
      by_cases e : i = v
      · subst e
        rw [if_pos (List.mem_cons_self ..), List.set_set] <;> rfl
      · rw [if_neg (fun m => by rcases List.mem_cons.mp m with z | z <;> contradiction), List.set_comm _ _ e] <;> rfl
/-- in a comprehension: its own names are wiped -/
theorem wipe_set {σ : L2.St} {i : Nat} {x : Option V} {vs : List Nat} (h : i ∈ vs) : wipe (σ.set i x) vs = wipe σ vs := by rw [wipe_setI, if_pos h]
theorem wipe_sub {σ : L2.St} {vs : List Nat} : ∀ {us : List Nat}, (∀ u ∈ us, u ∈ vs) → wipe (wipe σ us) vs = wipe σ vs
  | [], _ => rfl
  | u :: us, h => by
    show wipe ((wipe σ us).set u none) vs = _
    rw [wipe_set (h u (.head _)), wipe_sub fun z hz => h z (.tail _ hz)]
theorem wipe_wipe {σ : L2.St} {vs : List Nat} : wipe (wipe σ vs) vs = wipe σ vs := wipe_sub fun _ h => h
/-- a rule's contents fit so many hands -/
def RuleD.fit (m : Nat) : RuleD → Prop
  | .none => True
  | .own ns => ns.length = m
  | .votes _ _ ws => ws.length = m
  | .table ns => ns.length = 2 ^ m
  | .pairs fs => pairsOk m fs
  | .best fs => pairsOk m fs
  | .net cs fs => cs.length = m ∧ pairsOk m fs
section
variable {C : Addr} {K : PySem.W.Frag} {H : Hp} {a : Addr} {m : Nat} {ns : List Int} {fs : List Tr} {q p : Int}
theorem BaseE.fit (_ : BaseE C K H a m) : RuleD.fit m .none := trivial
theorem OwnE.fit (h : OwnE C K H a m ns) : RuleD.fit m (.own ns) := by cases h with | mk e h hl => exact hl
theorem PlainE.fit (h : PlainE C K H a m ns) : RuleD.fit m (.table ns) := by cases h with | mk e h hl h0 => exact hl
theorem PairsE.fit (h : PairsE C K H a m fs) : RuleD.fit m (.pairs fs) := by cases h with | mk e h hr hp => exact hp
theorem VotesE.fit (h : VotesE C K H a m q p ns) : RuleD.fit m (.votes q p ns) := by cases h with | mk e h hl => exact hl
theorem MatchE.fit (h : MatchE C K H a m fs) : RuleD.fit m (.best fs) := by cases h with | mk e h hr hd hs hp h1 h6 => exact hp
theorem NetE.fit (h : NetE C K H a m ns fs) : RuleD.fit m (.net ns fs) := by cases h with | mk e h hs hr hl h1 h6 ok so c0 f0 h15 => exact ⟨hl, ok⟩
end
theorem RuleD.wlen {m : Nat} {r : RuleD} (hm : m ≤ 6) (hf : r.fit m) (hz : r.small) : r.words.length ≤ 20000 := by
  have h64 := pow6 hm
  cases r with
  | none => show (Str.ofString "none").length ≤ 20000; decide +kernel
  | own ns =>
    have h1 := numsT_len (w := Str.ofString "own") hz
    have h2 : ns.length * 102 ≤ 6 * 102 := Nat.mul_le_mul_right _ (by have : ns.length = m := hf; omega)
    have h3 : (Str.ofString "own").length ≤ 10 := by decide +kernel
    show (numsT (Str.ofString "own") ns).length ≤ 20000
    omega
  | votes q p ws =>
    have h1 := numsT_len (w := Str.ofString "votes") (ns := q :: p :: ws) fun n hn => by
      rcases List.mem_cons.mp hn with rfl | hn
      · exact hz.1
      · rcases List.mem_cons.mp hn with rfl | hn
        · exact hz.2.1
        · exact hz.2.2 n hn
    have h2 : (q :: p :: ws).length * 102 ≤ 8 * 102 := Nat.mul_le_mul_right _ (by have : ws.length = m := hf; show ws.length + 1 + 1 ≤ 8; omega)
    have h3 : (Str.ofString "votes").length ≤ 10 := by decide +kernel
    show (numsT (Str.ofString "votes") (q :: p :: ws)).length ≤ 20000
    omega
  | table ns =>
    have h1 := numsT_len (w := Str.ofString "table") (ns := ns.drop 1) fun n hn => hz n (List.mem_of_mem_drop hn)
    have h2 : (ns.drop 1).length * 102 ≤ 64 * 102 := Nat.mul_le_mul_right _ (by rw [List.length_drop]; have : ns.length = 2 ^ m := hf; omega)
    have h3 : (Str.ofString "table").length ≤ 10 := by decide +kernel
    show (numsT (Str.ofString "table") (ns.drop 1)).length ≤ 20000
    omega
  | pairs fs =>
    have h1 := pairsT_len (w := Str.ofString "pairs") (smTr hm hf hz)
    have h2 : fs.length * 306 ≤ 15 * 306 := Nat.mul_le_mul_right _ (pairsOk_len hm hf)
    have h3 : (Str.ofString "pairs").length ≤ 10 := by decide +kernel
    show (pairsT (Str.ofString "pairs") fs).length ≤ 20000
    omega
  | best fs =>
    have h1 := pairsT_len (w := Str.ofString "match") (smTr hm hf hz)
    have h2 : fs.length * 306 ≤ 15 * 306 := Nat.mul_le_mul_right _ (pairsOk_len hm hf)
    have h3 : (Str.ofString "match").length ≤ 10 := by decide +kernel
    show (pairsT (Str.ofString "match") fs).length ≤ 20000
    omega
  | net cs fs =>
    have h0 := numsT_len (w := Str.ofString "net") hz.1
    have h1 := pairsT_len (w := numsT (Str.ofString "net") cs) (smTr hm hf.2 hz.2)
    have h2 : fs.length * 306 ≤ 15 * 306 := Nat.mul_le_mul_right _ (pairsOk_len hm hf.2)
    have h4 : cs.length * 102 ≤ 6 * 102 := Nat.mul_le_mul_right _ (by have := hf.1; omega)
    have h3 : (Str.ofString "net").length ≤ 10 := by decide +kernel
    show (pairsT (numsT (Str.ofString "net") cs) fs).length ≤ 20000
    omega
/-- a company's words -/
def headT (m : Nat) : Str := Str.ofString "hands " ++ numT (m : Int)
def coWords (m : Nat) (rs : List RuleD) : Str := Txt.join (Str.ofString "; ") (headT m :: rs.map RuleD.words)
theorem headT_len {m : Nat} (h : m ≤ 6) : (headT m).length ≤ 200 := by
  unfold headT
  rw [Str.length_append]
  have h1 : (Str.ofString "hands ").length ≤ 10 := by decide +kernel
  have h2 := (smN_lt (n := m) (by omega)).len
  omega
end Sp

/-! Rfs: != of a list and its copy (the lists in it copied, too), rules' parts, refusals. -/
namespace Sp
open PySem PySem.Spec L2 PyProof.Rows
/-- values that are themselves, == by what they are alone -/
inductive Flt : V → Prop
  | non : Flt .non
  | bl (b : Bool) : Flt (.bl b)
  | int (i : Int) : Flt (.int i)
  | str (x : Str) : Flt (.str x)
  | ref (a : Addr) : Flt (.ref a)
theorem Thing.flt {H : Hp} {v : V} (h : Thing H v) : Flt v := by
  cases h with
  | non => exact .non
  | bl b => exact .bl b
  | int i => exact .int i
  | str x => exact .str x
  | lst e => exact .ref _
  | tup e => exact .ref _
  | dic e => exact .ref _
/-- the same thing, or two lists of the same things -/
inductive Cop (K : PySem.W.Frag) (H : Hp) : V → V → Prop
  | same {v : V} (h : Flt v) : Cop K H v v
  | lst {a b : Addr} {xs : List V} (h1 : SqL K H a xs) (h2 : SqL K H b xs) (hf : ∀ v ∈ xs, Flt v) : Cop K H (.ref a) (.ref b)
abbrev Cops (K : PySem.W.Frag) (H : Hp) : List V → List V → Prop := Paired (Cop K H)
theorem Cop.mono {K : PySem.W.Frag} {H H' : Hp} {x y : V} (h : Cop K H x y) (s : Same H H') : Cop K H' x y := by
  cases h with
  | same f => exact .same f
  | lst h1 h2 hf => exact .lst (s.seq h1) (s.seq h2) hf
theorem Cops.mono {K : PySem.W.Frag} {H H' : Hp} (s : Same H H') : ∀ {xs ys : List V}, Cops K H xs ys → Cops K H' xs ys
  | _, _, .nil => .nil
  | _, _, .cons h t => .cons (h.mono s) (Cops.mono s t)
theorem cops_self {K : PySem.W.Frag} {H : Hp} : ∀ {xs : List V}, (∀ v ∈ xs, Flt v) → Cops K H xs xs
  | [], _ => .nil
  | _ :: _, h => .cons (.same (h _ (.head _))) (cops_self fun v hv => h v (.tail _ hv))
theorem cops_at {K : PySem.W.Frag} {H : Hp} : ∀ {xs ys : List V} {us ws : List Value}, Cops K H xs ys → Vals xs us → Vals ys ws → ∀ j (h1 : j < us.length) (h2 : j < ws.length), ∃ x y, Cop K H x y ∧ RelV x us[j] ∧ RelV y ws[j]
  | _, _, _, _, .nil, .nil, .nil, j, h1, _ => absurd h1 (Nat.not_lt_zero j)
  | _, _, _, _, .cons c _, .cons r1 _, .cons r2 _, 0, _, _ => ⟨_, _, c, r1, r2⟩
  | _, _, _, _, .cons _ t, .cons _ t1, .cons _ t2, j + 1, h1, h2 => cops_at t t1 t2 j (Nat.lt_of_succ_lt_succ h1) (Nat.lt_of_succ_lt_succ h2)
theorem eqAt_flt {A : Around} {s : Shared} {v : V} {u1 u2 : Value} (f : Flt v) (h1 : RelV v u1) (h2 : RelV v u2) : SeqAt.EqAt A s u1 u2 true := by
  cases f with
  | non =>
    obtain rfl : u1 = _ := h1
    obtain rfl : u2 = _ := h2
    exact SeqAt.EqAt.same _
  | bl b =>
    obtain rfl : u1 = _ := h1
    obtain rfl : u2 = _ := h2
    exact SeqAt.EqAt.same _
  | int i =>
    obtain ⟨t1, rfl⟩ := h1
    obtain ⟨t2, rfl⟩ := h2
    have := SeqAt.EqAt.int_int (A := A) (s := s) i t1 i t2
    rwa [beq_self_eq_true] at this
  | str x =>
    obtain ⟨t1, rfl⟩ := h1
    obtain ⟨t2, rfl⟩ := h2
    have := SeqAt.EqAt.str_str (A := A) (s := s) x t1 x t2
    rwa [beq_self_eq_true] at this
  | ref a =>
    obtain rfl : u1 = _ := h1
    obtain rfl : u2 = _ := h2
    exact SeqAt.EqAt.same _
theorem all_true (n : Nat) : ((List.range n).all fun _ => true) = true := List.all_eq_true.mpr fun _ _ => rfl
theorem vals_flt {A : Around} {s : Shared} : ∀ {xs : List V} {us ws : List Value}, (∀ v ∈ xs, Flt v) → Vals xs us → Vals xs ws → ∀ j (h1 : j < us.length) (h2 : j < ws.length), SeqAt.EqAt A s us[j] ws[j] true
  | _, _, _, _, .nil, .nil, j, h1, _ => absurd h1 (Nat.not_lt_zero j)
  | _, _, _, hf, .cons r1 _, .cons r2 _, 0, _, _ => eqAt_flt (hf _ (.head _)) r1 r2
  | _, _, _, hf, .cons _ t1, .cons _ t2, j + 1, h1, h2 => vals_flt (fun v hv => hf v (.tail _ hv)) t1 t2 j (Nat.lt_of_succ_lt_succ h1) (Nat.lt_of_succ_lt_succ h2)
def rNeC (K : PySem.W.Frag) : R2 := fun x y H Q => ∃ (a b : Addr) (xs ys : List V), x = .ref a ∧ y = .ref b ∧ SqL K H a xs ∧ SqL K H b ys ∧ Cops K H xs ys ∧ Q (.bl false) H
theorem op_neC {X : Cx} (hu : X.A.units + 64 < cLine) : OpR X (compareOp .NotEq) (rNeC X.K) := by
  intro pins s σ H x y v u Q I rx ry h
  obtain ⟨a, b, xs, ys, rfl, rfl, h1, h2, hc, q⟩ := h
  obtain rfl : v = Value.ref a := rx
  obtain rfl : u = Value.ref b := ry
  obtain ⟨i1, r1, p1, _⟩ := I.list h1
  obtain ⟨i2, r2, p2, _⟩ := I.list h2
  have hn : i1.toArray.size = i2.toArray.size := by
    have e1 := Vals.length r1
    have e2 := Vals.length r2
    have e3 := Paired.length hc
    simp only [List.size_toArray]
    omega
  have key : ∀ j (j1 : j < i1.toArray.size) (j2 : j < i2.toArray.size), SeqAt.EqAt X.A.in1 s i1.toArray[j] i2.toArray[j] true := by
    intro j j1 j2
    simp only [List.size_toArray] at j1 j2
    simp only [List.getElem_toArray]
    obtain ⟨x, y, c, e1, e2⟩ := cops_at hc r1 r2 j j1 j2
    cases c with
    | same f => exact eqAt_flt f e1 e2
    | @lst l1 l2 zs s1 s2 hf =>
      have e1 : i1[j] = Value.ref l1 := e1
      have e2 : i2[j] = Value.ref l2 := e2
      rw [e1, e2]
      by_cases hl : l1 = l2
      · rw [hl]; exact SeqAt.EqAt.same _
      · obtain ⟨z1, v1, q1, _⟩ := I.list s1
        obtain ⟨z2, v2, q2, _⟩ := I.list s2
        have k := SeqAt.RcAt.lists (A := X.A.in1) (s := s) (e := fun _ => true) q1.isList q2.isList (by rw [List.size_toArray, List.size_toArray, ← Vals.length v1, ← Vals.length v2]) (by show X.A.units + 1 < cLine; omega) (fun j j1 j2 => by
          simp only [List.size_toArray] at j1 j2
          simp only [List.getElem_toArray]
          exact vals_flt hf v1 v2 j j1 j2)
        rw [all_true] at k
        exact SeqAt.EqAt.of_refs hl k
  have k := SeqAt.RcNeAt.lists (A := X.A) (s := s) (e := fun _ => true) p1.isList p2.isList hn (by omega) key
  refine k X.prog X.w X.xe _ ⟨.bl false, H, I, ?_, q⟩
  have e : ((List.range i1.toArray.size).all fun _ => true) = true := all_true _
  rw [e] <;> rfl
theorem op_neCK {X : Cx} {K : PySem.W.Frag} (h : X.K = K) (hu : X.A.units + 64 < cLine) : OpR X (compareOp .NotEq) (rNeC K) := h ▸ op_neC hu
def isL (H : Hp) (v : V) : Prop := ∃ a xs, v = .ref a ∧ Rd H a (.lst xs)
theorem x_isiListN {K : PySem.W.Frag} {H : Hp} {Q : VK} {v : V} (h : Thing H v) (n : ¬ isL H v) (q : Q (.bl false) H) : rIsi K [v, .ty "list"] H Q := by
  cases h with
  | non => exact ⟨_, .ty "list", _, _, _, rfl, .ty _, .base .non, kit_ty (by decide +kernel), q⟩
  | bl b => exact ⟨_, .ty "list", _, _, _, rfl, .ty _, .base (.bl b), kit_ty (by decide +kernel), q⟩
  | int i => exact ⟨_, .ty "list", _, _, _, rfl, .ty _, .base (.int i), kit_ty (by decide +kernel), q⟩
  | str x => exact ⟨_, .ty "list", _, _, _, rfl, .ty _, .base (.str x), kit_ty (by decide +kernel), q⟩
  | lst e => exact absurd ⟨_, _, rfl, e⟩ n
  | tup e =>
    rcases e with e | ⟨o, e⟩
    · exact ⟨_, .ty "list", _, _, _, rfl, .ty _, .base (.tup e), kit_ty (by decide +kernel), q⟩
    · exact ⟨_, .ty "list", _, _, _, rfl, .ty _, .fTuple e, kit_ty (by decide +kernel), q⟩
  | dic e => exact ⟨_, .ty "list", _, _, _, rfl, .ty _, .base (.dK e), kit_ty (by decide +kernel), q⟩
/-! ### parts of rules -/
abbrev Tps (H : Hp) : List Addr → List (List V) → Prop := Paired fun t ys => H t = some (.tup ys) ∧ ∀ y ∈ ys, Thing H y
theorem Tps.same {H H' : Hp} (s : Same H H') : ∀ {ts : List Addr} {yss : List (List V)}, Tps H ts yss → Tps H' ts yss
  | _, _, .nil => .nil
  | _, _, .cons h t => .cons ⟨s _ _ h.1, fun y hy => (h.2 y hy).same s⟩ (Tps.same s t)
theorem Tps.app {H : Hp} : ∀ {ts us : List Addr} {ys zs : List (List V)}, Tps H ts ys → Tps H us zs → Tps H (ts ++ us) (ys ++ zs)
  | _, _, _, _, .nil, h => h
  | _, _, _, _, .cons a t, h => .cons a (Tps.app t h)
theorem Tps.of {H : Hp} : ∀ {ts : List Addr} {fs : List Tr}, TrAll H ts fs → Tps H ts (fs.map trV)
  | _, _, .nil => .nil
  | _, _, .cons (f := f) a t => .cons ⟨a, fun y hy => by
      simp only [trV, List.mem_cons, List.not_mem_nil, or_false] at hy
      rcases hy with rfl | rfl | rfl <;> exact .int _⟩ (Tps.of t)
theorem Tps.at {H : Hp} : ∀ {ts : List Addr} {yss : List (List V)}, Tps H ts yss → ∀ (i : Nat) (t : Addr) (ys : List V), ts[i]? = some t → yss[i]? = some ys → Rd H t (.tup ys) ∧ ∀ y ∈ ys, Thing H y
  | _, _, .nil, i, _, _, h, _ => by rw [List.getElem?_nil] at h; cases h
  | _, _, .cons a _, 0, _, _, e1, e2 => by cases e1; cases e2; exact ⟨.inl a.1, a.2⟩
  | _, _, .cons _ r, i + 1, t, ys, e1, e2 => Tps.at r i t ys (by simpa using e1) (by simpa using e2)
theorem Tps.len {H : Hp} {ts : List Addr} {yss : List (List V)} (h : Tps H ts yss) : ts.length = yss.length := Paired.length h
/-- rules' parts with something wrong, by the kind of rule -/
inductive Bad (H : Hp) : Nat → List V → Prop
  | rule {v : V} (t : Thing H v) (n : ¬ inR v 1 6) : Bad H 0 [v]
  | own {b : Addr} {xs : List V} (e : H b = some (.lst xs)) (t : ∀ y ∈ xs, Thing H y) (n : ¬ (1 ≤ xs.length ∧ xs.length ≤ 6 ∧ xs.all isI = true)) : Bad H 1 [.ref b]
  | votes {q r : V} {b : Addr} {xs : List V} (tq : Thing H q) (tr : Thing H r) (e : H b = some (.lst xs)) (t : ∀ y ∈ xs, Thing H y) (n : ¬ (1 ≤ xs.length ∧ xs.length ≤ 6 ∧ xs.all isI = true ∧ isI r = true ∧ ∃ qi, q = .int qi ∧ 1 ≤ qi)) : Bad H 2 [q, r, .ref b]
  | plain {b : Addr} {xs : List V} (e : H b = some (.lst xs)) (t : ∀ y ∈ xs, Thing H y) (n : lookM xs = none) : Bad H 3 [.ref b]
  | pairs {kd : Nat} {v : V} {b : Addr} {ts : List Addr} {yss : List (List V)} (hk : kd = 4 ∨ kd = 5) (tv : Thing H v) (e : H b = some (.lst (ts.map V.ref))) (t : Tps H ts yss) (hl : ts.length ≤ 1000) (n : ∀ (m : Nat) (fs : List Tr), v = .int (m : Int) → 1 ≤ m → m ≤ 6 → yss = fs.map trV → ¬ pairsOk m fs) : Bad H kd [v, .ref b]
  | net {c b : Addr} {xs : List V} {ts : List Addr} {yss : List (List V)} (ec : H c = some (.lst xs)) (tc : ∀ y ∈ xs, Thing H y) (e : H b = some (.lst (ts.map V.ref))) (t : Tps H ts yss) (hl : ts.length ≤ 1000) (hx : xs.length ≤ 1000) (n : ∀ (cs : List Int) (fs : List Tr), xs = cs.map V.int → 1 ≤ cs.length → cs.length ≤ 6 → yss = fs.map trV → pairsOk cs.length fs → (∀ c ∈ cs, 0 ≤ c) → ¬ (∀ f ∈ fs, 0 ≤ f.2.2)) : Bad H 6 [.ref c, .ref b]
theorem Bad.same {H H' : Hp} (s : Same H H') {kd : Nat} {ps : List V} (h : Bad H kd ps) : Bad H' kd ps := by
  cases h with
  | rule t n => exact .rule (t.same s) n
  | own e t n => exact .own (s _ _ e) (fun y hy => (t y hy).same s) n
  | votes tq tr e t n => exact .votes (tq.same s) (tr.same s) (s _ _ e) (fun y hy => (t y hy).same s) n
  | plain e t n => exact .plain (s _ _ e) (fun y hy => (t y hy).same s) n
  | pairs hk tv e t hl n => exact .pairs hk (tv.same s) (s _ _ e) (t.same s) hl n
  | net ec tc e t hl hx n => exact .net (s _ _ ec) (fun y hy => (tc y hy).same s) (s _ _ e) (t.same s) hl hx n
/-- rules' parts that are right: for m hands, the rule r -/
inductive Good (H : Hp) (m : Nat) : Nat → List V → RuleD → Prop
  | rule : Good H m 0 [.int (m : Int)] .none
  | own {b : Addr} {ns : List Int} (e : H b = some (.lst (ns.map V.int))) (hl : ns.length = m) : Good H m 1 [.ref b] (.own ns)
  | votes {q p : Int} {b : Addr} {ns : List Int} (h1 : 1 ≤ q) (e : H b = some (.lst (ns.map V.int))) (hl : ns.length = m) : Good H m 2 [.int q, .int p, .ref b] (.votes q p ns)
  | plain {b : Addr} {ns : List Int} (e : H b = some (.lst (ns.map V.int))) (tb : Tab ns m) : Good H m 3 [.ref b] (.table ns)
  | pairs {b : Addr} {ts : List Addr} {fs : List Tr} (e : H b = some (.lst (ts.map V.ref))) (t : TrAll H ts fs) (hl : ts.length ≤ 15) (o : pairsOk m fs) : Good H m 4 [.int (m : Int), .ref b] (.pairs fs)
  | best {b : Addr} {ts : List Addr} {fs : List Tr} (e : H b = some (.lst (ts.map V.ref))) (t : TrAll H ts fs) (hl : ts.length ≤ 15) (o : pairsOk m fs) : Good H m 5 [.int (m : Int), .ref b] (.best fs)
  | net {c b : Addr} {ns : List Int} {ts : List Addr} {fs : List Tr} (ec : H c = some (.lst (ns.map V.int))) (hn : ns.length = m) (h0 : ∀ c ∈ ns, 0 ≤ c) (e : H b = some (.lst (ts.map V.ref))) (t : TrAll H ts fs) (hl : ts.length ≤ 15) (o : pairsOk m fs) (h2 : ∀ f ∈ fs, 0 ≤ f.2.2) : Good H m 6 [.ref c, .ref b] (.net ns fs)
theorem Good.same {H H' : Hp} (s : Same H H') {m kd : Nat} {ps : List V} {r : RuleD} (h : Good H m kd ps r) : Good H' m kd ps r := by
  cases h with
  | rule => exact .rule
  | own e hl => exact .own (s _ _ e) hl
  | votes h1 e hl => exact .votes h1 (s _ _ e) hl
  | plain e tb => exact .plain (s _ _ e) tb
  | pairs e t hl o => exact .pairs (s _ _ e) (t.same s) hl o
  | best e t hl o => exact .best (s _ _ e) (t.same s) hl o
  | net ec hn h0 e t hl o h2 => exact .net (s _ _ ec) hn h0 (s _ _ e) (t.same s) hl o h2
/-- a part and its copy -/
inductive Cpy (H : Hp) : V → V → Prop
  | same {v : V} (h : Flt v) (n : ¬ isL H v) : Cpy H v v
  | lst {a b : Addr} {xs : List V} (h1 : H a = some (.lst xs)) (h2 : H b = some (.lst xs)) (hf : ∀ v ∈ xs, Flt v) : Cpy H (.ref a) (.ref b)
abbrev Cpys (H : Hp) : List V → List V → Prop := Paired (Cpy H)
theorem Cpy.cop {K : PySem.W.Frag} {H : Hp} {x y : V} (h : Cpy H x y) : Cop K H x y := by
  cases h with
  | same f => exact .same f
  | lst h1 h2 hf => exact .lst (SqL.of h1) (SqL.of h2) hf
theorem Cpys.cops {K : PySem.W.Frag} {H : Hp} : ∀ {xs ys : List V}, Cpys H xs ys → Cops K H xs ys
  | _, _, .nil => .nil
  | _, _, .cons h t => .cons h.cop (Cpys.cops t)
theorem Cpy.ref {H : Hp} {b : Addr} {xs : List V} {y : V} (h : Cpy H (.ref b) y) (e : H b = some (.lst xs)) : ∃ c, y = .ref c ∧ H c = some (.lst xs) := by
  cases h with
  | same f n => exact absurd ⟨_, _, rfl, .inl e⟩ n
  | lst h1 h2 hf =>
    rw [e] at h1
    cases h1
    exact ⟨_, rfl, h2⟩
theorem Cpy.thing {H : Hp} {x y : V} (h : Cpy H x y) (t : Thing H x) : Thing H y ∧ (y = x ∨ (∃ a, y = .ref a)) := by
  cases h with
  | same f n => exact ⟨t, .inl rfl⟩
  | lst h1 h2 hf => exact ⟨.lst (.inl h2), .inr ⟨_, rfl⟩⟩
theorem Cpy.int {H : Hp} {i : Int} {y : V} (h : Cpy H (.int i) y) : y = .int i := by
  cases h; rfl
theorem Bad.copy {H : Hp} {kd : Nat} {ps qs : List V} (h : Bad H kd ps) (c : Cpys H ps qs) : Bad H kd qs := by
  cases h with
  | rule t n =>
    match qs, c with
    | [q], .cons c1 .nil =>
      obtain ⟨t2, rfl | ⟨a, rfl⟩⟩ := c1.thing t
      · exact .rule t2 n
      · exact .rule t2 fun ⟨z, e, _⟩ => nomatch e
  | own e t n =>
    match qs, c with
    | [q], .cons c1 .nil =>
      obtain ⟨c, rfl, e2⟩ := c1.ref e
      exact .own e2 t n
  | votes tq tr e t n =>
    match qs, c with
    | [q1, q2, q3], .cons c1 (.cons c2 (.cons c3 .nil)) =>
      obtain ⟨c, rfl, e2⟩ := c3.ref e
      obtain ⟨t1, h1⟩ := c1.thing tq
      obtain ⟨t2, h2⟩ := c2.thing tr
      refine .votes t1 t2 e2 t fun ⟨n1, n2, n3, n4, qi, n5, n6⟩ => n ⟨n1, n2, n3, ?_, ?_⟩
      · rcases h2 with rfl | ⟨a, rfl⟩
        · exact n4
        · cases n4
      · rcases h1 with rfl | ⟨a, rfl⟩
        · exact ⟨qi, n5, n6⟩
        · cases n5
  | plain e t n =>
    match qs, c with
    | [q], .cons c1 .nil =>
      obtain ⟨c, rfl, e2⟩ := c1.ref e
      exact .plain e2 t n
  | pairs hk tv e t hl n =>
    match qs, c with
    | [q1, q2], .cons c1 (.cons c2 .nil) =>
      obtain ⟨c, rfl, e2⟩ := c2.ref e
      obtain ⟨t1, h1⟩ := c1.thing tv
      refine .pairs hk t1 e2 t hl fun m fs em => ?_
      rcases h1 with rfl | ⟨a, rfl⟩
      · exact n m fs em
      · cases em
  | net ec tc e t hl hx n =>
    match qs, c with
    | [q1, q2], .cons c1 (.cons c2 .nil) =>
      obtain ⟨c, rfl, e1⟩ := c1.ref ec
      obtain ⟨d, rfl, e2⟩ := c2.ref e
      exact .net e1 tc e2 t hl hx n
theorem Good.copy {H : Hp} {m kd : Nat} {ps qs : List V} {r : RuleD} (h : Good H m kd ps r) (c : Cpys H ps qs) : Good H m kd qs r := by
  cases h with
  | rule =>
    match qs, c with
    | [q], .cons c1 .nil => rw [c1.int]; exact .rule
  | own e hl =>
    match qs, c with
    | [q], .cons c1 .nil =>
      obtain ⟨c, rfl, e2⟩ := c1.ref e
      exact .own e2 hl
  | votes h1 e hl =>
    match qs, c with
    | [q1, q2, q3], .cons c1 (.cons c2 (.cons c3 .nil)) =>
      obtain ⟨c, rfl, e2⟩ := c3.ref e
      rw [c1.int, c2.int]
      exact .votes h1 e2 hl
  | plain e tb =>
    match qs, c with
    | [q], .cons c1 .nil =>
      obtain ⟨c, rfl, e2⟩ := c1.ref e
      exact .plain e2 tb
  | pairs e t hl o =>
    match qs, c with
    | [q1, q2], .cons c1 (.cons c2 .nil) =>
      obtain ⟨c, rfl, e2⟩ := c2.ref e
      rw [c1.int]
      exact .pairs e2 t hl o
  | best e t hl o =>
    match qs, c with
    | [q1, q2], .cons c1 (.cons c2 .nil) =>
      obtain ⟨c, rfl, e2⟩ := c2.ref e
      rw [c1.int]
      exact .best e2 t hl o
  | net ec hn h0 e t hl o h2 =>
    match qs, c with
    | [q1, q2], .cons c1 (.cons c2 .nil) =>
      obtain ⟨c, rfl, e1⟩ := c1.ref ec
      obtain ⟨d, rfl, e2⟩ := c2.ref e
      exact .net e1 hn h0 e2 t hl o h2
/-- what a copy reads: things, and lists of such -/
def PartV (H : Hp) (v : V) : Prop := Flt v ∧ ((Thing H v ∧ ¬ isL H v) ∨ ∃ a xs, v = .ref a ∧ H a = some (.lst xs) ∧ ∀ y ∈ xs, Flt y)
theorem partV_thing {H : Hp} {v : V} (h : Thing H v) (fr : ∀ a o u, H a ≠ some (.frz o u)) (hx : ∀ a xs, v = .ref a → H a = some (.lst xs) → ∀ y ∈ xs, Flt y) : PartV H v := by
  refine ⟨h.flt, ?_⟩
  by_cases c : isL H v
  · obtain ⟨a, xs, rfl, e⟩ := c
    rcases e with e | ⟨o, e⟩
    · exact .inr ⟨a, xs, rfl, e, hx a xs rfl e⟩
    · exact absurd e (fr a o _)
  · exact .inl ⟨h, c⟩
theorem thing_nx {H : Hp} {y : V} {x : Addr} (h : Thing H y) (n : H x = none) : y ≠ .ref x := fun e => by
  subst e
  cases h with
  | lst e => rcases e with e | ⟨o, e⟩ <;> (rw [n] at e; cases e)
  | tup e => rcases e with e | ⟨o, e⟩ <;> (rw [n] at e; cases e)
  | dic e => rw [n] at e; cases e
/-! ### nobody earns nought -/
theorem bitOn_0 (h : Nat) : bitOn h 0 = false := by unfold bitOn; rw [Nat.zero_and] <;> rfl
theorem sumS_0 (Ts : List Int) : sumS Ts 0 = 0 := by
  unfold sumS
  generalize Ts.length = n
  induction n with
  | zero => rfl
  | succ i ih =>
    show (if bitOn i 0 = true then _ else _) = (0 : Int)
    rw [bitOn_0, if_neg Bool.false_ne_true]
    exact ih
theorem pairsS_0 : ∀ fs : List Tr, pairsS fs 0 = 0
  | [] => rfl
  | t :: fs => by
    have := pairsS_0 fs
    unfold pairsS at this ⊢
    rw [List.map_cons, List.sum_cons, this, show both t 0 = false by unfold both; rw [bitOn_0, Bool.false_and], if_neg Bool.false_ne_true] <;> rfl
theorem best_0 (fs : List Tr) : ∀ n, gi (bestL fs n) ((0 : Nat) : Int) = 0
  | 0 => rfl
  | n + 1 => by
    have := best_0 fs n
    unfold gi at this ⊢
    rw [Int.toNat_natCast, List.getD_eq_getElem?_getD] at this ⊢
    show ((bestL fs n ++ [_])[0]?).getD 0 = 0
    rw [List.getElem?_append_left (by rw [bestL_len]; omega)]
    exact this
theorem netC_0 (cs : List Int) (fs : List Tr) : netC cs fs 0 = 0 := by
  unfold netC
  rw [show handsM 0 = [] by decide]
  rfl
/-- the kind of a rule's contents -/
def kindD : RuleD → Nat
  | .none => 0
  | .own _ => 1
  | .votes _ _ _ => 2
  | .table _ => 3
  | .pairs _ => 4
  | .best _ => 5
  | .net _ _ => 6
/-- an odd thing: no whole number, new -/
structure OddV (H H' : Hp) (v : V) : Prop where
  th : Thing H' v
  no : isI v = false
  pt : PartV H' v
  fr : ∀ a, v = .ref a → H a = none
theorem odd_inR {v : V} {l g : Int} (h : isI v = false) : ¬ inR v l g := fun ⟨z, e, _⟩ => by subst e; cases h
theorem isI_int {v : V} (h : isI v = true) : ∃ z, v = .int z := by
  cases v with
  | int z => exact ⟨z, rfl⟩
  | _ => cases h
theorem partV_int {H : Hp} (i : Int) : PartV H (.int i) := ⟨.int i, .inl ⟨.int i, fun ⟨_, _, e, _⟩ => nomatch e⟩⟩
theorem partV_lst {H : Hp} {a : Addr} {xs : List V} (e : H a = some (.lst xs)) (h : ∀ y ∈ xs, Flt y) : PartV H (.ref a) := ⟨.ref a, .inr ⟨a, xs, rfl, e, h⟩⟩
theorem flt_int {ns : List Int} : ∀ y ∈ ns.map V.int, Flt y := fun y hy => by
  obtain ⟨z, _, rfl⟩ := List.mem_map.mp hy
  exact .int z
theorem flt_ref {ts : List Addr} : ∀ y ∈ ts.map V.ref, Flt y := fun y hy => by
  obtain ⟨z, _, rfl⟩ := List.mem_map.mp hy
  exact .ref z
theorem flt_things {H : Hp} {xs : List V} (h : ∀ y ∈ xs, Thing H y) : ∀ y ∈ xs, Flt y := fun y hy => (h y hy).flt
theorem PartV.same {H H' : Hp} {v : V} (h : PartV H v) (s : Same H H') : PartV H' v := by
  obtain ⟨f, h | ⟨a, xs, rfl, e, hf⟩⟩ := h
  · refine ⟨f, .inl ⟨h.1.same s, fun ⟨a, xs, e, hr⟩ => ?_⟩⟩
    subst e
    obtain ⟨h1, h2⟩ := h
    cases h1 with
    | lst e => exact h2 ⟨_, _, rfl, e⟩
    | tup e =>
      rcases e with e | ⟨o, e⟩ <;> rcases hr with g | ⟨o2, g⟩ <;> (rw [s _ _ e] at g; cases g)
    | dic e =>
      rcases hr with g | ⟨o2, g⟩ <;> (rw [s _ _ e] at g; cases g)
  · exact ⟨f, .inr ⟨a, xs, rfl, s _ _ e, hf⟩⟩
/-- an odd number of things: a number below, or what is none -/
theorem all_isI_set {xs ys : List V} {v : V} (h : isI v = false) : (xs ++ [v] ++ ys).all isI = false := by
  rw [List.all_append, List.all_append]
  simp [h]
theorem Cpy.mono {H H' : Hp} {x y : V} (h : Cpy H x y) (s : Same H H') (t : PartV H x) : Cpy H' x y := by
  cases h with
  | same f n =>
    rcases t.2 with t2 | ⟨a, xs, rfl, e, hf⟩
    · have := (PartV.same ⟨f, .inl t2⟩ s).2
      rcases this with t3 | ⟨a, xs, rfl, e, hf⟩
      · exact .same f t3.2
      · exfalso
        cases t2.1 with
        | lst e => exact t2.2 ⟨_, _, rfl, e⟩
        | tup e1 => rcases e1 with e1 | ⟨o, e1⟩ <;> (rw [s _ _ e1] at e; cases e)
        | dic e1 => rw [s _ _ e1] at e; cases e
    · exact absurd ⟨_, _, rfl, .inl e⟩ n
  | lst h1 h2 hf => exact .lst (s _ _ h1) (s _ _ h2) hf
theorem Cpys.mono {H H' : Hp} (s : Same H H') : ∀ {xs ys : List V}, (∀ v ∈ xs, PartV H v) → Cpys H xs ys → Cpys H' xs ys
  | _, _, _, .nil => .nil
  | _, _, t, .cons h r => .cons (h.mono s (t _ (.head _))) (Cpys.mono s (fun v hv => t v (.tail _ hv)) r)
theorem Cpys.snoc {H : Hp} {x y : V} (h : Cpy H x y) : ∀ {xs ys : List V}, Cpys H xs ys → Cpys H (xs ++ [x]) (ys ++ [y])
  | _, _, .nil => .cons h .nil
  | _, _, .cons a r => .cons a (Cpys.snoc h r)
theorem take_snoc {α : Type} {l : List α} {i : Nat} {z : α} (h : l[i]? = some z) : l.take (i + 1) = l.take i ++ [z] := by rw [List.take_add_one, h] <;> rfl
/-- pairs drawn so far, the other hand first -/
def AheadC (m one other : Nat) (fs : List Tr) : Prop := (∀ t ∈ fs, PairOk m t ∧ (t.2.1 < other ∨ (t.2.1 = other ∧ t.1 < one))) ∧ (fs.map trK).Nodup
theorem AheadC.ok {m one other : Nat} {fs : List Tr} (h : AheadC m one other fs) : pairsOk m fs := ⟨fun t ht => (h.1 t ht).1, h.2⟩
theorem AheadC.snoc {m one other : Nat} {fs : List Tr} (h : AheadC m one other fs) (h1 : one < other) (h2 : other < m) (z : Int) : AheadC m (one + 1) other (fs ++ [(one, other, z)]) := by
  refine ⟨fun t ht => ?_, ?_⟩
  · rcases List.mem_append.mp ht with h' | h'
    · exact ⟨(h.1 t h').1, by have := (h.1 t h').2; omega⟩
    · obtain rfl := List.mem_singleton.mp h'
      exact ⟨⟨h1, h2⟩, .inr ⟨rfl, by show one < one + 1; omega⟩⟩
  · rw [List.map_append, List.nodup_append]
    refine ⟨h.2, by simp, fun x hx y hy e => ?_⟩
    obtain ⟨u, hu, rfl⟩ := List.mem_map.mp hx
    simp at hy
    have e2 := trK_inj (b := (one, other, z)) (e.trans hy)
    have e3 : u.1 = one := e2.1
    have e4 : u.2.1 = other := e2.2
    have := (h.1 u hu).2
    omega
theorem AheadC.skip {m one other : Nat} {fs : List Tr} (h : AheadC m one other fs) : AheadC m (one + 1) other fs := ⟨fun t ht => ⟨(h.1 t ht).1, by have := (h.1 t ht).2; omega⟩, h.2⟩
theorem AheadC.next {m one other : Nat} {fs : List Tr} (h : AheadC m one other fs) : AheadC m 0 (other + 1) fs := ⟨fun t ht => ⟨(h.1 t ht).1, by have := (h.1 t ht).2; omega⟩, h.2⟩
theorem x_neTr0 {K : PySem.W.Frag} {H : Hp} {Q : VK} {p q : Addr} {ts : List Addr} {fs : List Tr} (h1 : SqL K H p (ts.map V.ref)) (hA : TrAll H ts fs) (h2 : SqL K H q []) (k : Q (.bl (!decide (fs = []))) H) : rNeX K (.ref p) (.ref q) H Q :=
  .inr ⟨trD fs, .list [], dp_tr h1 hA, .lst h2 .nil, (lay_tr fs).shaped, (LayD.list (k := 1) (ds := []) (fun d h => by cases h)).shaped, by
    cases fs with
    | nil =>
      rw [show PyData.eqv (trD []) (.list []) = true by unfold trD; rw [PyData.eqv, List.map_nil]; simp [PyData.eqvAll]]
      rw [decide_eq_true rfl] at k
      exact k
    | cons f fs =>
      rw [show PyData.eqv (trD (f :: fs)) (.list []) = false by unfold trD; rw [PyData.eqv, List.map_cons]; simp [PyData.eqvAll]]
      rw [decide_eq_false (by simp)] at k
      exact k⟩
theorem trV_fst {f : Tr} {x y z : V} (h : [x, y, z] = trV f) : x = .int (f.1 : Int) ∧ y = .int (f.2.1 : Int) ∧ z = .int f.2.2 := by
  obtain ⟨a, b, c⟩ := f
  simpa [trV] using h
theorem trV_len {f : Tr} {xs : List V} (h : xs = trV f) : xs.length = 3 := by rw [h] <;> rfl
/-- a pair put amid pairs -/
theorem amid_bad {m e : Nat} {fs gs : List Tr} {ys : List V} (h : (fs.take e).map trV ++ [ys] ++ (fs.drop e).map trV = gs.map trV) : ∃ f, ys = trV f ∧ gs.Perm (f :: fs) ∧ f ∈ gs := by
  have hm : ys ∈ gs.map trV := by rw [← h]; simp
  obtain ⟨f, hf, rfl⟩ := List.mem_map.mp hm
  have e2 : gs = fs.take e ++ [f] ++ fs.drop e := trVs_inj (by rw [← h, List.map_append, List.map_append] <;> rfl)
  refine ⟨f, rfl, ?_, hf⟩
  have p1 : (fs.take e ++ [f] ++ fs.drop e).Perm (f :: (fs.take e ++ fs.drop e)) := by
    rw [List.append_assoc]
    exact List.perm_middle
  rw [List.take_append_drop] at p1
  rw [e2]
  exact p1
theorem thing_upd {H : Hp} {v : V} {p : Addr} {o : HO} (h : Thing H v) (n : v ≠ .ref p) : Thing (upd H p o) v := by
  have key : ∀ {a : Addr} {u : HO}, V.ref a ≠ .ref p → Rd H a u → Rd (upd H p o) a u := fun {a u} n h => by
    have ha : a ≠ p := fun z => n (by rw [z])
    rcases h with h | ⟨c, h⟩
    · exact .inl (by rw [upd_ne ha]; exact h)
    · exact .inr ⟨c, by rw [upd_ne ha]; exact h⟩
  cases h with
  | non => exact .non
  | bl b => exact .bl b
  | int i => exact .int i
  | str x => exact .str x
  | lst e => exact .lst (key n e)
  | tup e => exact .tup (key n e)
  | @dic a kvs e =>
    have ha : a ≠ p := fun z => n (by rw [z])
    have e2 : upd H p o a = some (.dK kvs) := by rw [upd_ne ha]; exact e
    exact .dic e2
theorem tr_same {f g : Tr} (h : trV f = trV g) : f = g := by
  have := trVs_inj (fs := [f]) (gs := [g]) (by rw [List.map_cons, List.map_cons, h] <;> rfl)
  exact (List.cons.inj this).1
theorem Cpys.copsR {K : PySem.W.Frag} {H : Hp} : ∀ {xs ys : List V}, Cpys H xs ys → Cops K H ys xs
  | _, _, .nil => .nil
  | _, _, .cons h t => .cons (by
      cases h with
      | same f => exact .same f
      | lst h1 h2 hf => exact .lst (SqL.of h2) (SqL.of h1) hf) (Cpys.copsR t)
theorem x_neC {K : PySem.W.Frag} {H : Hp} {Q : VK} {a b : Addr} {xs ys : List V} (h1 : H a = some (.lst xs)) (h2 : H b = some (.lst ys)) (c : Cops K H xs ys) (q : Q (.bl false) H) : rNeC K (.ref a) (.ref b) H Q := ⟨a, b, xs, ys, rfl, rfl, SqL.of h1, SqL.of h2, c, q⟩
theorem dpAll_bl {K : PySem.W.Frag} {H : Hp} : ∀ {bs : List Bool}, DpAll K H (bs.map V.bl) (bs.map PyData.bool)
  | [] => .nil
  | b :: bs => .cons (.bl b) dpAll_bl
theorem lay_bl (bs : List Bool) : LayD 2 (.list (bs.map PyData.bool)) := LayD.list fun d hd => by
  obtain ⟨b, _, rfl⟩ := List.mem_map.mp hd
  exact LayD.bool (by decide) b
end Sp

namespace Lw
open PySem PySem.Spec PyProof.Rows L2 Sp
abbrev N_is_whole : List Str := ["thing"]
theorem sc_is_whole : FnScope N_is_whole ["thing"] (defScope s_is_whole) := ⟨rfl, rfl, rfl, by decide +kernel, rfl, by decide +kernel, by decide +kernel⟩
abbrev N_look_group : List Str := ["group", "least", "greatest"]
theorem sc_look_group : FnScope N_look_group ["group", "least", "greatest"] (defScope s_look_group) := ⟨rfl, rfl, rfl, by decide +kernel, rfl, by decide +kernel, by decide +kernel⟩
abbrev N_whole_of : List Str := ["many"]
theorem sc_whole_of : FnScope N_whole_of ["many"] (defScope s_whole_of) := ⟨rfl, rfl, rfl, by decide +kernel, rfl, by decide +kernel, by decide +kernel⟩
abbrev N_hands_of : List Str := ["group", "hand"]
theorem sc_hands_of : FnScope N_hands_of ["group"] (defScope s_hands_of) := ⟨rfl, rfl, rfl, by decide +kernel, rfl, by decide +kernel, by decide +kernel⟩
abbrev N_look : List Str := ["table", "many", "number"]
theorem sc_look : FnScope N_look ["table"] (defScope s_look) := ⟨rfl, rfl, rfl, by decide +kernel, rfl, by decide +kernel, by decide +kernel⟩
abbrev N_look_numbers : List Str := ["numbers", "number"]
theorem sc_look_numbers : FnScope N_look_numbers ["numbers"] (defScope s_look_numbers) := ⟨rfl, rfl, rfl, by decide +kernel, rfl, by decide +kernel, by decide +kernel⟩
abbrev N_one_pair : List Str := ["many", "pair"]
theorem sc_one_pair : FnScope N_one_pair ["many", "pair"] (defScope s_one_pair) := ⟨rfl, rfl, rfl, by decide +kernel, rfl, by decide +kernel, by decide +kernel⟩
abbrev N_pairs_of : List Str := ["many", "pairs", "seen", "pair", "both"]
theorem sc_pairs_of : FnScope N_pairs_of ["many", "pairs"] (defScope s_pairs_of) := ⟨rfl, rfl, rfl, by decide +kernel, rfl, by decide +kernel, by decide +kernel⟩
abbrev N_Rule___init__ : List Str := ["self", "many"]
theorem sc_Rule___init__ : FnScope N_Rule___init__ ["self", "many"] (defScope s_Rule___init__) := ⟨rfl, rfl, rfl, by decide +kernel, rfl, by decide +kernel, by decide +kernel⟩
abbrev N_Rule_hands : List Str := ["self"]
theorem sc_Rule_hands : FnScope N_Rule_hands ["self"] (defScope s_Rule_hands) := ⟨rfl, rfl, rfl, by decide +kernel, rfl, by decide +kernel, by decide +kernel⟩
abbrev N_Rule_earn : List Str := ["self", "group"]
theorem sc_Rule_earn : FnScope N_Rule_earn ["self", "group"] (defScope s_Rule_earn) := ⟨rfl, rfl, rfl, by decide +kernel, rfl, by decide +kernel, by decide +kernel⟩
abbrev N_Rule_reckoned : List Str := ["self", "group"]
theorem sc_Rule_reckoned : FnScope N_Rule_reckoned ["self", "group"] (defScope s_Rule_reckoned) := ⟨rfl, rfl, rfl, by decide +kernel, rfl, by decide +kernel, by decide +kernel⟩
abbrev N_Own___init__ : List Str := ["self", "numbers"]
theorem sc_Own___init__ : FnScope N_Own___init__ ["self", "numbers"] (defScope s_Own___init__) := ⟨rfl, rfl, rfl, by decide +kernel, rfl, by decide +kernel, by decide +kernel⟩
abbrev N_Own_reckoned : List Str := ["self", "group", "hand"]
theorem sc_Own_reckoned : FnScope N_Own_reckoned ["self", "group"] (defScope s_Own_reckoned) := ⟨rfl, rfl, rfl, by decide +kernel, rfl, by decide +kernel, by decide +kernel⟩
abbrev N_Pairs___init__ : List Str := ["self", "many", "pairs"]
theorem sc_Pairs___init__ : FnScope N_Pairs___init__ ["self", "many", "pairs"] (defScope s_Pairs___init__) := ⟨rfl, rfl, rfl, by decide +kernel, rfl, by decide +kernel, by decide +kernel⟩
abbrev N_Pairs_reckoned : List Str := ["self", "group", "total", "one", "other", "number"]
theorem sc_Pairs_reckoned : FnScope N_Pairs_reckoned ["self", "group"] (defScope s_Pairs_reckoned) := ⟨rfl, rfl, rfl, by decide +kernel, rfl, by decide +kernel, by decide +kernel⟩
abbrev N_Votes___init__ : List Str := ["self", "quota", "prize", "weights"]
theorem sc_Votes___init__ : FnScope N_Votes___init__ ["self", "quota", "prize", "weights"] (defScope s_Votes___init__) := ⟨rfl, rfl, rfl, by decide +kernel, rfl, by decide +kernel, by decide +kernel⟩
abbrev N_Votes_reckoned : List Str := ["self", "group", "hand"]
theorem sc_Votes_reckoned : FnScope N_Votes_reckoned ["self", "group"] (defScope s_Votes_reckoned) := ⟨rfl, rfl, rfl, by decide +kernel, rfl, by decide +kernel, by decide +kernel⟩
abbrev N_Plain___init__ : List Str := ["self", "table"]
theorem sc_Plain___init__ : FnScope N_Plain___init__ ["self", "table"] (defScope s_Plain___init__) := ⟨rfl, rfl, rfl, by decide +kernel, rfl, by decide +kernel, by decide +kernel⟩
abbrev N_Plain_reckoned : List Str := ["self", "group"]
theorem sc_Plain_reckoned : FnScope N_Plain_reckoned ["self", "group"] (defScope s_Plain_reckoned) := ⟨rfl, rfl, rfl, by decide +kernel, rfl, by decide +kernel, by decide +kernel⟩
abbrev N_split_off : List Str := ["group", "hands"]
theorem sc_split_off : FnScope N_split_off ["group"] (defScope s_split_off) := ⟨rfl, rfl, rfl, by decide +kernel, rfl, by decide +kernel, by decide +kernel⟩
abbrev N_best_sums : List Str := ["many", "numbers", "sums", "group", "least", "others", "rest", "most", "other"]
theorem sc_best_sums : FnScope N_best_sums ["many", "numbers"] (defScope s_best_sums) := ⟨rfl, rfl, rfl, by decide +kernel, rfl, by decide +kernel, by decide +kernel⟩
abbrev N_Match___init__ : List Str := ["self", "many", "pairs", "one", "other", "number"]
theorem sc_Match___init__ : FnScope N_Match___init__ ["self", "many", "pairs"] (defScope s_Match___init__) := ⟨rfl, rfl, rfl, by decide +kernel, rfl, by decide +kernel, by decide +kernel⟩
abbrev N_Match_reckoned : List Str := ["self", "group"]
theorem sc_Match_reckoned : FnScope N_Match_reckoned ["self", "group"] (defScope s_Match_reckoned) := ⟨rfl, rfl, rfl, by decide +kernel, rfl, by decide +kernel, by decide +kernel⟩
abbrev N_ropes_from : List Str := ["costs", "ropes", "joined", "hand", "found", "one", "other", "cost"]
theorem sc_ropes_from : FnScope N_ropes_from ["costs", "ropes", "joined", "hand"] (defScope s_ropes_from) := ⟨rfl, rfl, rfl, by decide +kernel, rfl, by decide +kernel, by decide +kernel⟩
abbrev N_cheapest : List Str := ["costs", "ropes", "group", "left", "joined", "laid", "ways", "hand", "rope"]
theorem sc_cheapest : FnScope N_cheapest ["costs", "ropes", "group"] (defScope s_cheapest) := ⟨rfl, rfl, rfl, by decide +kernel, rfl, by decide +kernel, by decide +kernel⟩
abbrev N_Net___init__ : List Str := ["self", "costs", "ropes", "cost", "rope"]
theorem sc_Net___init__ : FnScope N_Net___init__ ["self", "costs", "ropes"] (defScope s_Net___init__) := ⟨rfl, rfl, rfl, by decide +kernel, rfl, by decide +kernel, by decide +kernel⟩
abbrev N_Net_reckoned : List Str := ["self", "group", "rope"]
theorem sc_Net_reckoned : FnScope N_Net_reckoned ["self", "group"] (defScope s_Net_reckoned) := ⟨rfl, rfl, rfl, by decide +kernel, rfl, by decide +kernel, by decide +kernel⟩
abbrev N__law_whole : List Str := ["_law_found"]
theorem sc__law_whole : FnScope N__law_whole ["_law_found"] (defScope s__law_whole) := ⟨rfl, rfl, rfl, by decide +kernel, rfl, by decide +kernel, by decide +kernel⟩
abbrev N__law_rule : List Str := ["_law_kind", "_law_parts"]
theorem sc__law_rule : FnScope N__law_rule ["_law_kind", "_law_parts"] (defScope s__law_rule) := ⟨rfl, rfl, rfl, by decide +kernel, rfl, by decide +kernel, by decide +kernel⟩
abbrev N__law_kinds : List Str := ["_law_rule_here", "_law_kinds_here"]
theorem sc__law_kinds : FnScope N__law_kinds ["_law_rule_here"] (defScope s__law_kinds) := ⟨rfl, rfl, rfl, by decide +kernel, rfl, by decide +kernel, by decide +kernel⟩
abbrev N__law_refused : List Str := ["_law_kind", "_law_parts", "_law_only", "e"]
theorem sc__law_refused : FnScope N__law_refused ["_law_kind", "_law_parts"] (defScope s__law_refused) := ⟨rfl, rfl, rfl, by decide +kernel, rfl, by decide +kernel, by decide +kernel⟩
abbrev N__law_copy : List Str := ["_law_parts", "_law_found", "_law_part"]
theorem sc__law_copy : FnScope N__law_copy ["_law_parts"] (defScope s__law_copy) := ⟨rfl, rfl, rfl, by decide +kernel, rfl, by decide +kernel, by decide +kernel⟩
abbrev N__law_numbers : List Str := ["_law_many", "_law_number", "_law_k"]
theorem sc__law_numbers : FnScope N__law_numbers ["_law_many", "_law_number"] (defScope s__law_numbers) := ⟨rfl, rfl, rfl, by decide +kernel, rfl, by decide +kernel, by decide +kernel⟩
abbrev N__law_pairs : List Str := ["_law_many", "_law_number", "_law_pairs_here", "_law_other", "_law_one", "_law_drawn", "_law_at"]
theorem sc__law_pairs : FnScope N__law_pairs ["_law_many", "_law_number"] (defScope s__law_pairs) := ⟨rfl, rfl, rfl, by decide +kernel, rfl, by decide +kernel, by decide +kernel⟩
abbrev N__law_good : List Str := ["_law_kind", "_law_many", "_law_number", "_law_numbers_here", "_law_size", "_law_pairs_here", "_law_one", "_law_other", "_law_cost"]
theorem sc__law_good : FnScope N__law_good ["_law_kind", "_law_many", "_law_number"] (defScope s__law_good) := ⟨rfl, rfl, rfl, by decide +kernel, rfl, by decide +kernel, by decide +kernel⟩
abbrev N__law_odd : List Str := ["_law_number"]
theorem sc__law_odd : FnScope N__law_odd ["_law_number"] (defScope s__law_odd) := ⟨rfl, rfl, rfl, by decide +kernel, rfl, by decide +kernel, by decide +kernel⟩
abbrev N__law_far : List Str := ["_law_number"]
theorem sc__law_far : FnScope N__law_far ["_law_number"] (defScope s__law_far) := ⟨rfl, rfl, rfl, by decide +kernel, rfl, by decide +kernel, by decide +kernel⟩
abbrev N__law_many_off : List Str := ["_law_number", "_law_far_here"]
theorem sc__law_many_off : FnScope N__law_many_off ["_law_number"] (defScope s__law_many_off) := ⟨rfl, rfl, rfl, by decide +kernel, rfl, by decide +kernel, by decide +kernel⟩
abbrev N__law_list_off : List Str := ["_law_row", "_law_number", "_law_low", "_law_at", "_law_way", "_law_k"]
theorem sc__law_list_off : FnScope N__law_list_off ["_law_row", "_law_number", "_law_low"] (defScope s__law_list_off) := ⟨rfl, rfl, rfl, by decide +kernel, rfl, by decide +kernel, by decide +kernel⟩
abbrev N__law_table_off : List Str := ["_law_row", "_law_number", "_law_at", "_law_way"]
theorem sc__law_table_off : FnScope N__law_table_off ["_law_row", "_law_number"] (defScope s__law_table_off) := ⟨rfl, rfl, rfl, by decide +kernel, rfl, by decide +kernel, by decide +kernel⟩
abbrev N__law_pair_off : List Str := ["_law_many", "_law_number", "_law_low", "_law_good_here", "_law_far_here", "_law_way"]
theorem sc__law_pair_off : FnScope N__law_pair_off ["_law_many", "_law_number", "_law_low"] (defScope s__law_pair_off) := ⟨rfl, rfl, rfl, by decide +kernel, rfl, by decide +kernel, by decide +kernel⟩
abbrev N__law_pairs_off : List Str := ["_law_many", "_law_pairs_here", "_law_number", "_law_low", "_law_at", "_law_one"]
theorem sc__law_pairs_off : FnScope N__law_pairs_off ["_law_many", "_law_pairs_here", "_law_number", "_law_low"] (defScope s__law_pairs_off) := ⟨rfl, rfl, rfl, by decide +kernel, rfl, by decide +kernel, by decide +kernel⟩
abbrev N__law_votes_off : List Str := ["_law_parts", "_law_number", "_law_way"]
theorem sc__law_votes_off : FnScope N__law_votes_off ["_law_parts", "_law_number"] (defScope s__law_votes_off) := ⟨rfl, rfl, rfl, by decide +kernel, rfl, by decide +kernel, by decide +kernel⟩
abbrev N__law_off : List Str := ["_law_kind", "_law_many", "_law_parts", "_law_number"]
theorem sc__law_off : FnScope N__law_off ["_law_kind", "_law_many", "_law_parts", "_law_number"] (defScope s__law_off) := ⟨rfl, rfl, rfl, by decide +kernel, rfl, by decide +kernel, by decide +kernel⟩
abbrev N_law : List Str := ["_law_script", "_law_cell", "_law_number", "_law_kind", "_law_many", "_law_parts", "_law_off_here", "_law_handed", "_law_rule_here", "_law_due", "_law_k"]
theorem sc_law : FnScope N_law ["_law_script"] (defScope s_law) := ⟨rfl, rfl, rfl, by decide +kernel, rfl, by decide +kernel, by decide +kernel⟩
structure Ads where
  a_is_whole : Addr
  d_is_whole : FuncData
  a_look_group : Addr
  d_look_group : FuncData
  a_whole_of : Addr
  d_whole_of : FuncData
  a_hands_of : Addr
  d_hands_of : FuncData
  a_look : Addr
  d_look : FuncData
  a_look_numbers : Addr
  d_look_numbers : FuncData
  a_one_pair : Addr
  d_one_pair : FuncData
  a_pairs_of : Addr
  d_pairs_of : FuncData
  a_Rule___init__ : Addr
  d_Rule___init__ : FuncData
  a_Rule_hands : Addr
  d_Rule_hands : FuncData
  a_Rule_earn : Addr
  d_Rule_earn : FuncData
  a_Rule_reckoned : Addr
  d_Rule_reckoned : FuncData
  a_Own___init__ : Addr
  d_Own___init__ : FuncData
  a_Own_reckoned : Addr
  d_Own_reckoned : FuncData
  a_Pairs___init__ : Addr
  d_Pairs___init__ : FuncData
  a_Pairs_reckoned : Addr
  d_Pairs_reckoned : FuncData
  a_Votes___init__ : Addr
  d_Votes___init__ : FuncData
  a_Votes_reckoned : Addr
  d_Votes_reckoned : FuncData
  a_Plain___init__ : Addr
  d_Plain___init__ : FuncData
  a_Plain_reckoned : Addr
  d_Plain_reckoned : FuncData
  a_split_off : Addr
  d_split_off : FuncData
  a_best_sums : Addr
  d_best_sums : FuncData
  a_Match___init__ : Addr
  d_Match___init__ : FuncData
  a_Match_reckoned : Addr
  d_Match_reckoned : FuncData
  a_ropes_from : Addr
  d_ropes_from : FuncData
  a_cheapest : Addr
  d_cheapest : FuncData
  a_Net___init__ : Addr
  d_Net___init__ : FuncData
  a_Net_reckoned : Addr
  d_Net_reckoned : FuncData
  a__law_whole : Addr
  d__law_whole : FuncData
  a__law_rule : Addr
  d__law_rule : FuncData
  a__law_kinds : Addr
  d__law_kinds : FuncData
  a__law_refused : Addr
  d__law_refused : FuncData
  a__law_copy : Addr
  d__law_copy : FuncData
  a__law_numbers : Addr
  d__law_numbers : FuncData
  a__law_pairs : Addr
  d__law_pairs : FuncData
  a__law_good : Addr
  d__law_good : FuncData
  a__law_odd : Addr
  d__law_odd : FuncData
  a__law_far : Addr
  d__law_far : FuncData
  a__law_many_off : Addr
  d__law_many_off : FuncData
  a__law_list_off : Addr
  d__law_list_off : FuncData
  a__law_table_off : Addr
  d__law_table_off : FuncData
  a__law_pair_off : Addr
  d__law_pair_off : FuncData
  a__law_pairs_off : Addr
  d__law_pairs_off : FuncData
  a__law_votes_off : Addr
  d__law_votes_off : FuncData
  a__law_off : Addr
  d__law_off : FuncData
  a_law : Addr
  d_law : FuncData
  ShareError : Addr
  NoNumber : Addr
  NoGroup : Addr
  NoRule : Addr
  NoText : Addr
  NoTable : Addr
  Unlike : Addr
  TooMany : Addr
  NoOrder : Addr
  NoRows : Addr
  NoShares : Addr
  NoVotes : Addr
  Rule : Addr
  Own : Addr
  Pairs : Addr
  Votes : Addr
  Plain : Addr
  Match : Addr
  Net : Addr
  t_MOST : Tok
/-- what the top has written -/
structure Txt (K : PySem.W.Frag) (mg : Str → Option Value) (A : Ads) : Prop where
  F_is_whole : Fun K "is_whole" "is_whole" s_is_whole A.a_is_whole A.d_is_whole
  b_is_whole : Binds K A.d_is_whole ["thing"] []
  g_is_whole : mg "is_whole" = some (.ref A.a_is_whole)
  F_look_group : Fun K "look_group" "look_group" s_look_group A.a_look_group A.d_look_group
  b_look_group : Binds K A.d_look_group ["group", "least", "greatest"] []
  g_look_group : mg "look_group" = some (.ref A.a_look_group)
  F_whole_of : Fun K "whole_of" "whole_of" s_whole_of A.a_whole_of A.d_whole_of
  b_whole_of : Binds K A.d_whole_of ["many"] []
  g_whole_of : mg "whole_of" = some (.ref A.a_whole_of)
  F_hands_of : Fun K "hands_of" "hands_of" s_hands_of A.a_hands_of A.d_hands_of
  b_hands_of : Binds K A.d_hands_of ["group"] []
  g_hands_of : mg "hands_of" = some (.ref A.a_hands_of)
  F_look : Fun K "look" "look" s_look A.a_look A.d_look
  b_look : Binds K A.d_look ["table"] []
  g_look : mg "look" = some (.ref A.a_look)
  F_look_numbers : Fun K "look_numbers" "look_numbers" s_look_numbers A.a_look_numbers A.d_look_numbers
  b_look_numbers : Binds K A.d_look_numbers ["numbers"] []
  g_look_numbers : mg "look_numbers" = some (.ref A.a_look_numbers)
  F_one_pair : Fun K "one_pair" "one_pair" s_one_pair A.a_one_pair A.d_one_pair
  b_one_pair : Binds K A.d_one_pair ["many", "pair"] []
  g_one_pair : mg "one_pair" = some (.ref A.a_one_pair)
  F_pairs_of : Fun K "pairs_of" "pairs_of" s_pairs_of A.a_pairs_of A.d_pairs_of
  b_pairs_of : Binds K A.d_pairs_of ["many", "pairs"] []
  g_pairs_of : mg "pairs_of" = some (.ref A.a_pairs_of)
  F_Rule___init__ : Fun K "__init__" "Rule.__init__" s_Rule___init__ A.a_Rule___init__ A.d_Rule___init__
  b_Rule___init__ : Binds K A.d_Rule___init__ ["self", "many"] []
  F_Rule_hands : Fun K "hands" "Rule.hands" s_Rule_hands A.a_Rule_hands A.d_Rule_hands
  b_Rule_hands : Binds K A.d_Rule_hands ["self"] []
  F_Rule_earn : Fun K "earn" "Rule.earn" s_Rule_earn A.a_Rule_earn A.d_Rule_earn
  b_Rule_earn : Binds K A.d_Rule_earn ["self", "group"] []
  F_Rule_reckoned : Fun K "reckoned" "Rule.reckoned" s_Rule_reckoned A.a_Rule_reckoned A.d_Rule_reckoned
  b_Rule_reckoned : Binds K A.d_Rule_reckoned ["self", "group"] []
  F_Own___init__ : Fun K "__init__" "Own.__init__" s_Own___init__ A.a_Own___init__ A.d_Own___init__
  b_Own___init__ : Binds K A.d_Own___init__ ["self", "numbers"] []
  F_Own_reckoned : Fun K "reckoned" "Own.reckoned" s_Own_reckoned A.a_Own_reckoned A.d_Own_reckoned
  b_Own_reckoned : Binds K A.d_Own_reckoned ["self", "group"] []
  F_Pairs___init__ : Fun K "__init__" "Pairs.__init__" s_Pairs___init__ A.a_Pairs___init__ A.d_Pairs___init__
  b_Pairs___init__ : Binds K A.d_Pairs___init__ ["self", "many", "pairs"] []
  F_Pairs_reckoned : Fun K "reckoned" "Pairs.reckoned" s_Pairs_reckoned A.a_Pairs_reckoned A.d_Pairs_reckoned
  b_Pairs_reckoned : Binds K A.d_Pairs_reckoned ["self", "group"] []
  F_Votes___init__ : Fun K "__init__" "Votes.__init__" s_Votes___init__ A.a_Votes___init__ A.d_Votes___init__
  b_Votes___init__ : Binds K A.d_Votes___init__ ["self", "quota", "prize", "weights"] []
  F_Votes_reckoned : Fun K "reckoned" "Votes.reckoned" s_Votes_reckoned A.a_Votes_reckoned A.d_Votes_reckoned
  b_Votes_reckoned : Binds K A.d_Votes_reckoned ["self", "group"] []
  F_Plain___init__ : Fun K "__init__" "Plain.__init__" s_Plain___init__ A.a_Plain___init__ A.d_Plain___init__
  b_Plain___init__ : Binds K A.d_Plain___init__ ["self", "table"] []
  F_Plain_reckoned : Fun K "reckoned" "Plain.reckoned" s_Plain_reckoned A.a_Plain_reckoned A.d_Plain_reckoned
  b_Plain_reckoned : Binds K A.d_Plain_reckoned ["self", "group"] []
  F_split_off : Fun K "split_off" "split_off" s_split_off A.a_split_off A.d_split_off
  b_split_off : Binds K A.d_split_off ["group"] []
  g_split_off : mg "split_off" = some (.ref A.a_split_off)
  F_best_sums : Fun K "best_sums" "best_sums" s_best_sums A.a_best_sums A.d_best_sums
  b_best_sums : Binds K A.d_best_sums ["many", "numbers"] []
  g_best_sums : mg "best_sums" = some (.ref A.a_best_sums)
  F_Match___init__ : Fun K "__init__" "Match.__init__" s_Match___init__ A.a_Match___init__ A.d_Match___init__
  b_Match___init__ : Binds K A.d_Match___init__ ["self", "many", "pairs"] []
  F_Match_reckoned : Fun K "reckoned" "Match.reckoned" s_Match_reckoned A.a_Match_reckoned A.d_Match_reckoned
  b_Match_reckoned : Binds K A.d_Match_reckoned ["self", "group"] []
  F_ropes_from : Fun K "ropes_from" "ropes_from" s_ropes_from A.a_ropes_from A.d_ropes_from
  b_ropes_from : Binds K A.d_ropes_from ["costs", "ropes", "joined", "hand"] []
  g_ropes_from : mg "ropes_from" = some (.ref A.a_ropes_from)
  F_cheapest : Fun K "cheapest" "cheapest" s_cheapest A.a_cheapest A.d_cheapest
  b_cheapest : Binds K A.d_cheapest ["costs", "ropes", "group"] []
  g_cheapest : mg "cheapest" = some (.ref A.a_cheapest)
  F_Net___init__ : Fun K "__init__" "Net.__init__" s_Net___init__ A.a_Net___init__ A.d_Net___init__
  b_Net___init__ : Binds K A.d_Net___init__ ["self", "costs", "ropes"] []
  F_Net_reckoned : Fun K "reckoned" "Net.reckoned" s_Net_reckoned A.a_Net_reckoned A.d_Net_reckoned
  b_Net_reckoned : Binds K A.d_Net_reckoned ["self", "group"] []
  F__law_whole : Fun K "_law_whole" "_law_whole" s__law_whole A.a__law_whole A.d__law_whole
  b__law_whole : Binds K A.d__law_whole ["_law_found"] []
  g__law_whole : mg "_law_whole" = some (.ref A.a__law_whole)
  F__law_rule : Fun K "_law_rule" "_law_rule" s__law_rule A.a__law_rule A.d__law_rule
  b__law_rule : Binds K A.d__law_rule ["_law_kind", "_law_parts"] []
  g__law_rule : mg "_law_rule" = some (.ref A.a__law_rule)
  F__law_kinds : Fun K "_law_kinds" "_law_kinds" s__law_kinds A.a__law_kinds A.d__law_kinds
  b__law_kinds : Binds K A.d__law_kinds ["_law_rule_here"] []
  g__law_kinds : mg "_law_kinds" = some (.ref A.a__law_kinds)
  F__law_refused : Fun K "_law_refused" "_law_refused" s__law_refused A.a__law_refused A.d__law_refused
  b__law_refused : Binds K A.d__law_refused ["_law_kind", "_law_parts"] []
  g__law_refused : mg "_law_refused" = some (.ref A.a__law_refused)
  F__law_copy : Fun K "_law_copy" "_law_copy" s__law_copy A.a__law_copy A.d__law_copy
  b__law_copy : Binds K A.d__law_copy ["_law_parts"] []
  g__law_copy : mg "_law_copy" = some (.ref A.a__law_copy)
  F__law_numbers : Fun K "_law_numbers" "_law_numbers" s__law_numbers A.a__law_numbers A.d__law_numbers
  b__law_numbers : Binds K A.d__law_numbers ["_law_many", "_law_number"] []
  g__law_numbers : mg "_law_numbers" = some (.ref A.a__law_numbers)
  F__law_pairs : Fun K "_law_pairs" "_law_pairs" s__law_pairs A.a__law_pairs A.d__law_pairs
  b__law_pairs : Binds K A.d__law_pairs ["_law_many", "_law_number"] []
  g__law_pairs : mg "_law_pairs" = some (.ref A.a__law_pairs)
  F__law_good : Fun K "_law_good" "_law_good" s__law_good A.a__law_good A.d__law_good
  b__law_good : Binds K A.d__law_good ["_law_kind", "_law_many", "_law_number"] []
  g__law_good : mg "_law_good" = some (.ref A.a__law_good)
  F__law_odd : Fun K "_law_odd" "_law_odd" s__law_odd A.a__law_odd A.d__law_odd
  b__law_odd : Binds K A.d__law_odd ["_law_number"] []
  g__law_odd : mg "_law_odd" = some (.ref A.a__law_odd)
  F__law_far : Fun K "_law_far" "_law_far" s__law_far A.a__law_far A.d__law_far
  b__law_far : Binds K A.d__law_far ["_law_number"] []
  g__law_far : mg "_law_far" = some (.ref A.a__law_far)
  F__law_many_off : Fun K "_law_many_off" "_law_many_off" s__law_many_off A.a__law_many_off A.d__law_many_off
  b__law_many_off : Binds K A.d__law_many_off ["_law_number"] []
  g__law_many_off : mg "_law_many_off" = some (.ref A.a__law_many_off)
  F__law_list_off : Fun K "_law_list_off" "_law_list_off" s__law_list_off A.a__law_list_off A.d__law_list_off
  b__law_list_off : Binds K A.d__law_list_off ["_law_row", "_law_number", "_law_low"] []
  g__law_list_off : mg "_law_list_off" = some (.ref A.a__law_list_off)
  F__law_table_off : Fun K "_law_table_off" "_law_table_off" s__law_table_off A.a__law_table_off A.d__law_table_off
  b__law_table_off : Binds K A.d__law_table_off ["_law_row", "_law_number"] []
  g__law_table_off : mg "_law_table_off" = some (.ref A.a__law_table_off)
  F__law_pair_off : Fun K "_law_pair_off" "_law_pair_off" s__law_pair_off A.a__law_pair_off A.d__law_pair_off
  b__law_pair_off : Binds K A.d__law_pair_off ["_law_many", "_law_number", "_law_low"] []
  g__law_pair_off : mg "_law_pair_off" = some (.ref A.a__law_pair_off)
  F__law_pairs_off : Fun K "_law_pairs_off" "_law_pairs_off" s__law_pairs_off A.a__law_pairs_off A.d__law_pairs_off
  b__law_pairs_off : Binds K A.d__law_pairs_off ["_law_many", "_law_pairs_here", "_law_number", "_law_low"] []
  g__law_pairs_off : mg "_law_pairs_off" = some (.ref A.a__law_pairs_off)
  F__law_votes_off : Fun K "_law_votes_off" "_law_votes_off" s__law_votes_off A.a__law_votes_off A.d__law_votes_off
  b__law_votes_off : Binds K A.d__law_votes_off ["_law_parts", "_law_number"] []
  g__law_votes_off : mg "_law_votes_off" = some (.ref A.a__law_votes_off)
  F__law_off : Fun K "_law_off" "_law_off" s__law_off A.a__law_off A.d__law_off
  b__law_off : Binds K A.d__law_off ["_law_kind", "_law_many", "_law_parts", "_law_number"] []
  g__law_off : mg "_law_off" = some (.ref A.a__law_off)
  F_law : Fun K "law" "law" s_law A.a_law A.d_law
  b_law : Binds K A.d_law ["_law_script"] []
  g_law : mg "law" = some (.ref A.a_law)
  g_ShareError : mg "ShareError" = some (.ref A.ShareError)
  g_NoNumber : mg "NoNumber" = some (.ref A.NoNumber)
  g_NoGroup : mg "NoGroup" = some (.ref A.NoGroup)
  k_NoGroup : PySem.W.keepIn K (.ref A.NoGroup) = true
  e_NoGroup : PySem.W.subIn K (.ref A.NoGroup) (.type "BaseException") = some true
  t_NoGroup : PySem.W.typeIn K (.ref A.NoGroup) = some (.type "type")
  x_NoGroup : PySem.W.excIn K A.NoGroup [.type "ValueError", .type "Exception", .type "BaseException", .type "object"] "ValueError.__new__" = true
  g_NoRule : mg "NoRule" = some (.ref A.NoRule)
  k_NoRule : PySem.W.keepIn K (.ref A.NoRule) = true
  e_NoRule : PySem.W.subIn K (.ref A.NoRule) (.type "BaseException") = some true
  t_NoRule : PySem.W.typeIn K (.ref A.NoRule) = some (.type "type")
  x_NoRule : PySem.W.excIn K A.NoRule [.type "ValueError", .type "Exception", .type "BaseException", .type "object"] "ValueError.__new__" = true
  g_NoText : mg "NoText" = some (.ref A.NoText)
  g_NoTable : mg "NoTable" = some (.ref A.NoTable)
  k_NoTable : PySem.W.keepIn K (.ref A.NoTable) = true
  e_NoTable : PySem.W.subIn K (.ref A.NoTable) (.type "BaseException") = some true
  t_NoTable : PySem.W.typeIn K (.ref A.NoTable) = some (.type "type")
  x_NoTable : PySem.W.excIn K A.NoTable [.type "ValueError", .type "Exception", .type "BaseException", .type "object"] "ValueError.__new__" = true
  g_Unlike : mg "Unlike" = some (.ref A.Unlike)
  g_TooMany : mg "TooMany" = some (.ref A.TooMany)
  g_NoOrder : mg "NoOrder" = some (.ref A.NoOrder)
  g_NoRows : mg "NoRows" = some (.ref A.NoRows)
  g_NoShares : mg "NoShares" = some (.ref A.NoShares)
  g_NoVotes : mg "NoVotes" = some (.ref A.NoVotes)
  g_Rule : mg "Rule" = some (.ref A.Rule)
  q_Rule : AskC K A.Rule
  bs_Rule : BaseC K A.Rule "__init__" A.a_Rule___init__
  cl_Rule : Cls K A.Rule
  mk_Rule : Mk K A.Rule A.a_Rule___init__
  i_Rule : InsC K A.Rule
  u_Rule_Own : PySem.W.subIn K (.ref A.Rule) (.ref A.Own) = some false
  u_Rule_Votes : PySem.W.subIn K (.ref A.Rule) (.ref A.Votes) = some false
  u_Rule_Plain : PySem.W.subIn K (.ref A.Rule) (.ref A.Plain) = some false
  u_Rule_Pairs : PySem.W.subIn K (.ref A.Rule) (.ref A.Pairs) = some false
  u_Rule_Rule : PySem.W.subIn K (.ref A.Rule) (.ref A.Rule) = some true
  u_Rule_Match : PySem.W.subIn K (.ref A.Rule) (.ref A.Match) = some false
  u_Rule_Net : PySem.W.subIn K (.ref A.Rule) (.ref A.Net) = some false
  m_Rule_hands : Meth K A.Rule "hands" A.a_Rule_hands
  m_Rule_earn : Meth K A.Rule "earn" A.a_Rule_earn
  m_Rule_reckoned : Meth K A.Rule "reckoned" A.a_Rule_reckoned
  n_Rule_many : NoAttr K A.Rule "many"
  g_Own : mg "Own" = some (.ref A.Own)
  q_Own : AskC K A.Own
  cl_Own : Cls K A.Own
  mk_Own : Mk K A.Own A.a_Own___init__
  i_Own : InsC K A.Own
  u_Own_Own : PySem.W.subIn K (.ref A.Own) (.ref A.Own) = some true
  u_Own_Votes : PySem.W.subIn K (.ref A.Own) (.ref A.Votes) = some false
  u_Own_Plain : PySem.W.subIn K (.ref A.Own) (.ref A.Plain) = some false
  u_Own_Pairs : PySem.W.subIn K (.ref A.Own) (.ref A.Pairs) = some false
  u_Own_Rule : PySem.W.subIn K (.ref A.Own) (.ref A.Rule) = some true
  u_Own_Match : PySem.W.subIn K (.ref A.Own) (.ref A.Match) = some false
  u_Own_Net : PySem.W.subIn K (.ref A.Own) (.ref A.Net) = some false
  m_Own_reckoned : Meth K A.Own "reckoned" A.a_Own_reckoned
  m_Own_hands : Meth K A.Own "hands" A.a_Rule_hands
  m_Own_earn : Meth K A.Own "earn" A.a_Rule_earn
  n_Own_numbers : NoAttr K A.Own "numbers"
  n_Own_many : NoAttr K A.Own "many"
  g_Pairs : mg "Pairs" = some (.ref A.Pairs)
  q_Pairs : AskC K A.Pairs
  cl_Pairs : Cls K A.Pairs
  mk_Pairs : Mk K A.Pairs A.a_Pairs___init__
  i_Pairs : InsC K A.Pairs
  u_Pairs_Own : PySem.W.subIn K (.ref A.Pairs) (.ref A.Own) = some false
  u_Pairs_Votes : PySem.W.subIn K (.ref A.Pairs) (.ref A.Votes) = some false
  u_Pairs_Plain : PySem.W.subIn K (.ref A.Pairs) (.ref A.Plain) = some false
  u_Pairs_Pairs : PySem.W.subIn K (.ref A.Pairs) (.ref A.Pairs) = some true
  u_Pairs_Rule : PySem.W.subIn K (.ref A.Pairs) (.ref A.Rule) = some true
  u_Pairs_Match : PySem.W.subIn K (.ref A.Pairs) (.ref A.Match) = some false
  u_Pairs_Net : PySem.W.subIn K (.ref A.Pairs) (.ref A.Net) = some false
  m_Pairs_reckoned : Meth K A.Pairs "reckoned" A.a_Pairs_reckoned
  m_Pairs_hands : Meth K A.Pairs "hands" A.a_Rule_hands
  m_Pairs_earn : Meth K A.Pairs "earn" A.a_Rule_earn
  n_Pairs_pairs : NoAttr K A.Pairs "pairs"
  n_Pairs_many : NoAttr K A.Pairs "many"
  g_Votes : mg "Votes" = some (.ref A.Votes)
  q_Votes : AskC K A.Votes
  cl_Votes : Cls K A.Votes
  mk_Votes : Mk K A.Votes A.a_Votes___init__
  i_Votes : InsC K A.Votes
  u_Votes_Own : PySem.W.subIn K (.ref A.Votes) (.ref A.Own) = some false
  u_Votes_Votes : PySem.W.subIn K (.ref A.Votes) (.ref A.Votes) = some true
  u_Votes_Plain : PySem.W.subIn K (.ref A.Votes) (.ref A.Plain) = some false
  u_Votes_Pairs : PySem.W.subIn K (.ref A.Votes) (.ref A.Pairs) = some false
  u_Votes_Rule : PySem.W.subIn K (.ref A.Votes) (.ref A.Rule) = some true
  u_Votes_Match : PySem.W.subIn K (.ref A.Votes) (.ref A.Match) = some false
  u_Votes_Net : PySem.W.subIn K (.ref A.Votes) (.ref A.Net) = some false
  m_Votes_reckoned : Meth K A.Votes "reckoned" A.a_Votes_reckoned
  m_Votes_hands : Meth K A.Votes "hands" A.a_Rule_hands
  m_Votes_earn : Meth K A.Votes "earn" A.a_Rule_earn
  n_Votes_quota : NoAttr K A.Votes "quota"
  n_Votes_prize : NoAttr K A.Votes "prize"
  n_Votes_weights : NoAttr K A.Votes "weights"
  n_Votes_many : NoAttr K A.Votes "many"
  g_Plain : mg "Plain" = some (.ref A.Plain)
  q_Plain : AskC K A.Plain
  cl_Plain : Cls K A.Plain
  mk_Plain : Mk K A.Plain A.a_Plain___init__
  i_Plain : InsC K A.Plain
  u_Plain_Own : PySem.W.subIn K (.ref A.Plain) (.ref A.Own) = some false
  u_Plain_Votes : PySem.W.subIn K (.ref A.Plain) (.ref A.Votes) = some false
  u_Plain_Plain : PySem.W.subIn K (.ref A.Plain) (.ref A.Plain) = some true
  u_Plain_Pairs : PySem.W.subIn K (.ref A.Plain) (.ref A.Pairs) = some false
  u_Plain_Rule : PySem.W.subIn K (.ref A.Plain) (.ref A.Rule) = some true
  u_Plain_Match : PySem.W.subIn K (.ref A.Plain) (.ref A.Match) = some false
  u_Plain_Net : PySem.W.subIn K (.ref A.Plain) (.ref A.Net) = some false
  m_Plain_reckoned : Meth K A.Plain "reckoned" A.a_Plain_reckoned
  m_Plain_hands : Meth K A.Plain "hands" A.a_Rule_hands
  m_Plain_earn : Meth K A.Plain "earn" A.a_Rule_earn
  n_Plain_row : NoAttr K A.Plain "row"
  n_Plain_many : NoAttr K A.Plain "many"
  g_Match : mg "Match" = some (.ref A.Match)
  q_Match : AskC K A.Match
  cl_Match : Cls K A.Match
  mk_Match : Mk K A.Match A.a_Match___init__
  i_Match : InsC K A.Match
  u_Match_Own : PySem.W.subIn K (.ref A.Match) (.ref A.Own) = some false
  u_Match_Votes : PySem.W.subIn K (.ref A.Match) (.ref A.Votes) = some false
  u_Match_Plain : PySem.W.subIn K (.ref A.Match) (.ref A.Plain) = some false
  u_Match_Pairs : PySem.W.subIn K (.ref A.Match) (.ref A.Pairs) = some false
  u_Match_Rule : PySem.W.subIn K (.ref A.Match) (.ref A.Rule) = some true
  u_Match_Match : PySem.W.subIn K (.ref A.Match) (.ref A.Match) = some true
  u_Match_Net : PySem.W.subIn K (.ref A.Match) (.ref A.Net) = some false
  m_Match_reckoned : Meth K A.Match "reckoned" A.a_Match_reckoned
  m_Match_hands : Meth K A.Match "hands" A.a_Rule_hands
  m_Match_earn : Meth K A.Match "earn" A.a_Rule_earn
  n_Match_pairs : NoAttr K A.Match "pairs"
  n_Match_prices : NoAttr K A.Match "prices"
  n_Match_sums : NoAttr K A.Match "sums"
  n_Match_many : NoAttr K A.Match "many"
  g_Net : mg "Net" = some (.ref A.Net)
  q_Net : AskC K A.Net
  cl_Net : Cls K A.Net
  mk_Net : Mk K A.Net A.a_Net___init__
  i_Net : InsC K A.Net
  u_Net_Own : PySem.W.subIn K (.ref A.Net) (.ref A.Own) = some false
  u_Net_Votes : PySem.W.subIn K (.ref A.Net) (.ref A.Votes) = some false
  u_Net_Plain : PySem.W.subIn K (.ref A.Net) (.ref A.Plain) = some false
  u_Net_Pairs : PySem.W.subIn K (.ref A.Net) (.ref A.Pairs) = some false
  u_Net_Rule : PySem.W.subIn K (.ref A.Net) (.ref A.Rule) = some true
  u_Net_Match : PySem.W.subIn K (.ref A.Net) (.ref A.Match) = some false
  u_Net_Net : PySem.W.subIn K (.ref A.Net) (.ref A.Net) = some true
  m_Net_reckoned : Meth K A.Net "reckoned" A.a_Net_reckoned
  m_Net_hands : Meth K A.Net "hands" A.a_Rule_hands
  m_Net_earn : Meth K A.Net "earn" A.a_Rule_earn
  n_Net_costs : NoAttr K A.Net "costs"
  n_Net_ropes : NoAttr K A.Net "ropes"
  n_Net_many : NoAttr K A.Net "many"
  q_NoGroup : AskC K A.NoGroup
  q_NoNumber : AskC K A.NoNumber
  q_NoOrder : AskC K A.NoOrder
  q_NoRows : AskC K A.NoRows
  q_NoRule : AskC K A.NoRule
  q_NoShares : AskC K A.NoShares
  q_NoTable : AskC K A.NoTable
  q_NoText : AskC K A.NoText
  q_NoVotes : AskC K A.NoVotes
  q_ShareError : AskC K A.ShareError
  q_TooMany : AskC K A.TooMany
  q_Unlike : AskC K A.Unlike
  X_NoGroup : ExcC K A.NoGroup
  u_NoGroup_NoGroup : PySem.W.subIn K (.ref A.NoGroup) (.ref A.NoGroup) = some true
  u_NoGroup_NoNumber : PySem.W.subIn K (.ref A.NoGroup) (.ref A.NoNumber) = some false
  u_NoGroup_NoOrder : PySem.W.subIn K (.ref A.NoGroup) (.ref A.NoOrder) = some false
  u_NoGroup_NoRows : PySem.W.subIn K (.ref A.NoGroup) (.ref A.NoRows) = some false
  u_NoGroup_NoRule : PySem.W.subIn K (.ref A.NoGroup) (.ref A.NoRule) = some false
  u_NoGroup_NoShares : PySem.W.subIn K (.ref A.NoGroup) (.ref A.NoShares) = some false
  u_NoGroup_NoTable : PySem.W.subIn K (.ref A.NoGroup) (.ref A.NoTable) = some false
  u_NoGroup_NoText : PySem.W.subIn K (.ref A.NoGroup) (.ref A.NoText) = some false
  u_NoGroup_NoVotes : PySem.W.subIn K (.ref A.NoGroup) (.ref A.NoVotes) = some false
  u_NoGroup_ShareError : PySem.W.subIn K (.ref A.NoGroup) (.ref A.ShareError) = some true
  u_NoGroup_TooMany : PySem.W.subIn K (.ref A.NoGroup) (.ref A.TooMany) = some false
  u_NoGroup_Unlike : PySem.W.subIn K (.ref A.NoGroup) (.ref A.Unlike) = some false
  v_NoGroup : PySem.W.subIn K (.ref A.NoGroup) (.type "ValueError") = some true
  h_NoGroup_ShareError : PySem.W.exmOne K (.ref A.NoGroup) (.ref A.ShareError) = some true
  X_NoTable : ExcC K A.NoTable
  u_NoTable_NoGroup : PySem.W.subIn K (.ref A.NoTable) (.ref A.NoGroup) = some false
  u_NoTable_NoNumber : PySem.W.subIn K (.ref A.NoTable) (.ref A.NoNumber) = some false
  u_NoTable_NoOrder : PySem.W.subIn K (.ref A.NoTable) (.ref A.NoOrder) = some false
  u_NoTable_NoRows : PySem.W.subIn K (.ref A.NoTable) (.ref A.NoRows) = some false
  u_NoTable_NoRule : PySem.W.subIn K (.ref A.NoTable) (.ref A.NoRule) = some false
  u_NoTable_NoShares : PySem.W.subIn K (.ref A.NoTable) (.ref A.NoShares) = some false
  u_NoTable_NoTable : PySem.W.subIn K (.ref A.NoTable) (.ref A.NoTable) = some true
  u_NoTable_NoText : PySem.W.subIn K (.ref A.NoTable) (.ref A.NoText) = some false
  u_NoTable_NoVotes : PySem.W.subIn K (.ref A.NoTable) (.ref A.NoVotes) = some false
  u_NoTable_ShareError : PySem.W.subIn K (.ref A.NoTable) (.ref A.ShareError) = some true
  u_NoTable_TooMany : PySem.W.subIn K (.ref A.NoTable) (.ref A.TooMany) = some false
  u_NoTable_Unlike : PySem.W.subIn K (.ref A.NoTable) (.ref A.Unlike) = some false
  v_NoTable : PySem.W.subIn K (.ref A.NoTable) (.type "ValueError") = some true
  h_NoTable_ShareError : PySem.W.exmOne K (.ref A.NoTable) (.ref A.ShareError) = some true
  X_NoRule : ExcC K A.NoRule
  u_NoRule_NoGroup : PySem.W.subIn K (.ref A.NoRule) (.ref A.NoGroup) = some false
  u_NoRule_NoNumber : PySem.W.subIn K (.ref A.NoRule) (.ref A.NoNumber) = some false
  u_NoRule_NoOrder : PySem.W.subIn K (.ref A.NoRule) (.ref A.NoOrder) = some false
  u_NoRule_NoRows : PySem.W.subIn K (.ref A.NoRule) (.ref A.NoRows) = some false
  u_NoRule_NoRule : PySem.W.subIn K (.ref A.NoRule) (.ref A.NoRule) = some true
  u_NoRule_NoShares : PySem.W.subIn K (.ref A.NoRule) (.ref A.NoShares) = some false
  u_NoRule_NoTable : PySem.W.subIn K (.ref A.NoRule) (.ref A.NoTable) = some false
  u_NoRule_NoText : PySem.W.subIn K (.ref A.NoRule) (.ref A.NoText) = some false
  u_NoRule_NoVotes : PySem.W.subIn K (.ref A.NoRule) (.ref A.NoVotes) = some false
  u_NoRule_ShareError : PySem.W.subIn K (.ref A.NoRule) (.ref A.ShareError) = some true
  u_NoRule_TooMany : PySem.W.subIn K (.ref A.NoRule) (.ref A.TooMany) = some false
  u_NoRule_Unlike : PySem.W.subIn K (.ref A.NoRule) (.ref A.Unlike) = some false
  v_NoRule : PySem.W.subIn K (.ref A.NoRule) (.type "ValueError") = some true
  h_NoRule_ShareError : PySem.W.exmOne K (.ref A.NoRule) (.ref A.ShareError) = some true
  c_MOST : mg "MOST" = some (.int 6 A.t_MOST)
  z_ValueError : mg "ValueError" = none
  z_abs : mg "abs" = none
  z_bool : mg "bool" = none
  z_int : mg "int" = none
  z_isinstance : mg "isinstance" = none
  z_len : mg "len" = none
  z_list : mg "list" = none
  z_max : mg "max" = none
  z_min : mg "min" = none
  z_range : mg "range" = none
  z_sorted : mg "sorted" = none
  z_sum : mg "sum" = none
  z_tuple : mg "tuple" = none
inductive RuleAt (A : Ads) (K : PySem.W.Frag) (H : Hp) (a : Addr) (m : Nat) (f : Nat → Int) : Prop
  | kRule (h : BaseAt A.Rule K H a m f) : RuleAt A K H a m f
  | kOwn (h : OwnAt A.Own K H a m f) : RuleAt A K H a m f
  | kVotes (h : VotesAt A.Votes K H a m f) : RuleAt A K H a m f
  | kPlain (h : PlainAt A.Plain K H a m f) : RuleAt A K H a m f
  | kPairs (h : PairsAt A.Pairs K H a m f) : RuleAt A K H a m f
  | kMatch (h : MatchAt A.Match K H a m f) : RuleAt A K H a m f
  | kNet (h : NetAt A.Net K H a m f) : RuleAt A K H a m f
theorem RuleAt.same {A : Ads} {K : PySem.W.Frag} {H H' : Hp} {a : Addr} {m : Nat} {f : Nat → Int} (h : RuleAt A K H a m f) (s : Same H H') : RuleAt A K H' a m f := by
  cases h with
  | kRule h => exact .kRule (h.same s)
  | kOwn h => exact .kOwn (h.same s)
  | kVotes h => exact .kVotes (h.same s)
  | kPlain h => exact .kPlain (h.same s)
  | kPairs h => exact .kPairs (h.same s)
  | kMatch h => exact .kMatch (h.same s)
  | kNet h => exact .kNet (h.same s)
theorem RuleAt.ins {A : Ads} {K : PySem.W.Frag} {mg : Str → Option Value} {H : Hp} {a : Addr} {m : Nat} {f : Nat → Int} (T : Txt K mg A) (h : RuleAt A K H a m f) : ∃ C dx fs, InsF H a C dx fs m ∧ Cls K C ∧ NoAttr K C "many" := by
  cases h with
  | kRule h => obtain ⟨dx, fs, i⟩ := h.ins; exact ⟨_, dx, fs, i, T.cl_Rule, T.n_Rule_many⟩
  | kOwn h => obtain ⟨dx, fs, i⟩ := h.ins; exact ⟨_, dx, fs, i, T.cl_Own, T.n_Own_many⟩
  | kVotes h => obtain ⟨dx, fs, i⟩ := h.ins; exact ⟨_, dx, fs, i, T.cl_Votes, T.n_Votes_many⟩
  | kPlain h => obtain ⟨dx, fs, i⟩ := h.ins; exact ⟨_, dx, fs, i, T.cl_Plain, T.n_Plain_many⟩
  | kPairs h => obtain ⟨dx, fs, i⟩ := h.ins; exact ⟨_, dx, fs, i, T.cl_Pairs, T.n_Pairs_many⟩
  | kMatch h => obtain ⟨dx, fs, i⟩ := h.ins; exact ⟨_, dx, fs, i, T.cl_Match, T.n_Match_many⟩
  | kNet h => obtain ⟨dx, fs, i⟩ := h.ins; exact ⟨_, dx, fs, i, T.cl_Net, T.n_Net_many⟩

inductive RlAt (A : Ads) (K : PySem.W.Frag) (H : Hp) (a : Addr) (m : Nat) : RuleD → Prop
  | kRule (h : BaseE A.Rule K H a m) : RlAt A K H a m (.none)
  | kOwn {ns : List Int} (h : OwnE A.Own K H a m ns) : RlAt A K H a m (.own ns)
  | kVotes {q p : Int} {ws : List Int} (h : VotesE A.Votes K H a m q p ws) : RlAt A K H a m (.votes q p ws)
  | kPlain {ns : List Int} (h : PlainE A.Plain K H a m ns) : RlAt A K H a m (.table ns)
  | kPairs {fs : List Tr} (h : PairsE A.Pairs K H a m fs) : RlAt A K H a m (.pairs fs)
  | kMatch {fs : List Tr} (h : MatchE A.Match K H a m fs) : RlAt A K H a m (.best fs)
  | kNet {cs : List Int} {fs : List Tr} (h : NetE A.Net K H a m cs fs) : RlAt A K H a m (.net cs fs)
theorem RlAt.same {A : Ads} {K : PySem.W.Frag} {H H' : Hp} {a : Addr} {m : Nat} {r : RuleD} (h : RlAt A K H a m r) (s : Same H H') : RlAt A K H' a m r := by
  cases h with
  | kRule h => exact .kRule (h.same s)
  | kOwn h => exact .kOwn (h.same s)
  | kVotes h => exact .kVotes (h.same s)
  | kPlain h => exact .kPlain (h.same s)
  | kPairs h => exact .kPairs (h.same s)
  | kMatch h => exact .kMatch (h.same s)
  | kNet h => exact .kNet (h.same s)
theorem RlAt.rule {A : Ads} {K : PySem.W.Frag} {H : Hp} {a : Addr} {m : Nat} {r : RuleD} (h : RlAt A K H a m r) : RuleAt A K H a m (r.earn m) := by
  cases h with
  | kRule h => exact .kRule h.at
  | kOwn h => exact .kOwn h.at
  | kVotes h => exact .kVotes h.at
  | kPlain h => exact .kPlain h.at
  | kPairs h => exact .kPairs h.at
  | kMatch h => exact .kMatch h.at
  | kNet h => exact .kNet h.at
theorem RlAt.fit {A : Ads} {K : PySem.W.Frag} {H : Hp} {a : Addr} {m : Nat} {r : RuleD} (h : RlAt A K H a m r) : r.fit m := by
  cases h with
  | kRule h => exact h.fit
  | kOwn h => exact h.fit
  | kVotes h => exact h.fit
  | kPlain h => exact h.fit
  | kPairs h => exact h.fit
  | kMatch h => exact h.fit
  | kNet h => exact h.fit

local macro_rules | `(tactic| walk_at "x") => `(tactic| repeat (first
  | with_reducible refine x_seq ?_ | with_reducible refine x_asg ?_ | with_reducible refine x_op ?_ | with_reducible refine x_un ?_ | ((with_reducible refine' x_var ?e ?_); (case e => rfl)) | with_reducible refine x_c ?_
  | with_reducible refine x_if ?_ | with_reducible refine x_test ?_ | with_reducible refine x_B ?_ | with_reducible refine x_ex ?_ | with_reducible refine x_exI ?_ | with_reducible refine x_ret ?_ | with_reducible refine x_drop ?_
  | with_reducible refine x_rev ?_ | with_reducible refine x_lstRg1 ?_ | with_reducible refine x_dIn ?_ | with_reducible refine x_dPut ?_ | with_reducible refine x_dNew ?_ | with_reducible refine x_par ?_ | with_reducible refine x_call ?_ | with_reducible refine x_callS ?_ | with_reducible refine x_cons ?_ | with_reducible refine x_nil ?_ | with_reducible refine x_cb ?_
  | with_reducible refine x_addI ?_ | with_reducible refine x_subI ?_ | with_reducible refine x_ltI ?_ | with_reducible refine x_leI ?_ | with_reducible refine x_gtI ?_ | with_reducible refine x_geI ?_ | with_reducible refine x_eqI ?_ | with_reducible refine x_neI ?_
  | with_reducible refine x_eqS ?_ | with_reducible refine x_eqB ?_ | with_reducible refine x_isX ?_ | with_reducible refine x_isN ?_ | with_reducible refine x_notN ?_ | with_reducible refine x_ipI ?_
  | with_reducible refine x_andI ?_ | with_reducible refine x_orI ?_ | with_reducible refine x_xorI ?_ | with_reducible refine x_U ?_
  | with_reducible refine x_and ?_ | with_reducible refine x_or ?_ | with_reducible refine x_not ?_ | with_reducible refine x_andV ?_ | with_reducible refine x_orV ?_ | with_reducible refine x_notV ?_ | with_reducible refine x_ifE ?_
  | with_reducible refine x_for ?_ | with_reducible refine x_iList ?_ | with_reducible refine x_iTup ?_ | with_reducible refine x_iR1 ?_ | with_reducible refine x_iR2 ?_ | with_reducible refine x_iZip ?_ | with_reducible refine x_iEnum ?_ | with_reducible refine x_iR3 ?_ | with_reducible refine x_ev ?_
  | with_reducible refine x_meth ?_ | with_reducible refine x_methS ?_ | with_reducible refine x_base ?_ | with_reducible refine x_fld ?_ | with_reducible refine x_sfld ?_ | with_reducible refine x_make ?_ | with_reducible refine x_dNewT ?_ | with_reducible refine x_dInT ?_ | with_reducible refine x_dPutT ?_ | with_reducible refine x_dGetT ?_
  | with_reducible refine x_sl ?_ | with_reducible refine x_noPart ?_ | with_reducible refine x_part ?_ | with_reducible refine x_asgS ?_ | with_reducible refine x_augS ?_ | ((with_reducible refine' x_aug ?e ?_); (case e => rfl))
  | with_reducible refine x_bm ?_ | with_reducible refine x_bm0 ?_ | with_reducible refine x_tup ?_ | with_reducible refine x_lst ?_ | with_reducible refine x_next ?_ | with_reducible refine x_retN ?_ | with_reducible refine x_brk ?_ | with_reducible refine x_ct ?_
  | with_reducible refine x_lc ?_ | with_reducible refine x_yes ?_ | with_reducible refine x_gn ?_ | with_reducible refine x_gc ?_ | with_reducible refine x_g0 ?_ | with_reducible refine x_abs ?_ | with_reducible refine x_max2 ?_ | with_reducible refine x_min2 ?_))
local macro_rules | `(tactic| walk_at "sq") => `(tactic| first
  | assumption | exact .inl (by assumption) | exact Own.sq (by assumption) 0 rfl | exact Own.sq (by assumption) 1 rfl | exact Own.sq (by assumption) 2 rfl | exact Own.sq (by assumption) 3 rfl
  | exact Own.seq (by assumption) (by first | assumption | exact .inl (by assumption)))
local macro_rules | `(tactic| walk_at "st") => `(tactic| try simp only [List.set_cons_zero, List.set_cons_succ])
section
variable {P : Program} {w : World} {K : PySem.W.Frag} {mg : Str → Option Value} {base : Heap} {A : Ads}
/-! ### is_whole -/
def sp_is_whole : Sp := fun vs H Q _ => ∃ v, vs = [v] ∧ Thing H v ∧ RetV (.bl (isI v)) H Q
theorem ok_is_whole (T : Txt K mg A) : FnOk P w K mg base (L2.CX P w) 1 A.a_is_whole A.d_is_whole ["thing"] sp_is_whole := by
  refine T.F_is_whole.okX sc_is_whole (fun vs H Q E h => ?_) (fun cdv A0 outer s H vs Q E hr h => ?_)
  · obtain ⟨v, rfl, _⟩ := h; rfl
  · obtain ⟨v, rfl, hv, k⟩ := h
    refine ⟨_, (pss_cons (ps_if (PW.pt (pw_or (pt_cmpR op_isX (pv 0) pe_bl (nomark _)) (pw_or1 (pt_cmpR op_isX (pv 0) pe_bl (nomark _))))) (pss_one (ps_ret pe_bl)) pss_nil)
      (pss_one (ps_ret (pe_callB (call_isiX (K := K) rfl) (by rfl) T.z_isinstance (by decide +kernel) (pa_cons (pv 0) (pa_cons (pe_bltn (v := .ty "int") (by rfl) T.z_int (by decide +kernel) rfl) pa_nil)))))), ?_⟩
    walk_at "x"
    have go : isB v = false → rIsi K [v, .ty "int"] H Q := fun e => x_isiInt hv (by rw [e, Bool.or_false]; exact k.go (Same.refl H))
    cases v with
    | bl b =>
      cases b
      · refine iteF ?_
        walk_at "x"
        exact iteT (k.go (Same.refl H))
      · exact iteT (iteT (k.go (Same.refl H)))
    | _ =>
      refine iteF ?_
      walk_at "x"
      refine iteF ?_
      walk_at "x"
      exact go rfl

/-! ### look_group -/
def sp_look_group (A : Ads) : Sp := fun vs H Q E => ∃ (v : V) (l g : Int), vs = [v, .int l, .int g] ∧ Thing H v ∧ (inR v l g → RetV .non H Q) ∧ (¬ inR v l g → ∀ H', Same H H' → E (.ref A.NoGroup) none H')
theorem ok_look_group (T : Txt K mg A) : FnOk P w K mg base (L2.CX P w) 2 A.a_look_group A.d_look_group ["group", "least", "greatest"] (sp_look_group A) := by
  refine T.F_look_group.okX sc_look_group (fun vs H Q E h => ?_) (fun cdv A0 outer s H vs Q E hr h => ?_)
  · obtain ⟨v, l, g, rfl, _⟩ := h; rfl
  · obtain ⟨v, l, g, rfl, hT, k, kE⟩ := h
    refine ⟨_, (pss_one (ps_if (PW.pt (pw_or (pt_not (pt_val (pe_call (ok_is_whole T) (hr.mono (by decide)) (by rfl) T.g_is_whole T.F_is_whole.kp T.b_is_whole .nil (passes_call (takes_of rfl rfl rfl rfl) (fun _ _ _ _ h => h)) (pa_cons (pv 0) pa_nil)))) (pw_or (pt_cmpR op_ltX (pv 0) (pv 1) (nomark _)) (pw_or1 (pt_cmpR op_gtX (pv 0) (pv 2) (nomark _)))))) (pss_one (ps_raise rfl (takes_of rfl rfl rfl rfl) (pmk_own PySem.F.excBase_ValueError T.x_NoGroup T.g_NoGroup T.k_NoGroup (raises_own T.e_NoGroup T.t_NoGroup) (by rfl)))) pss_nil)), ?_⟩
    walk_at "x"
    refine ⟨v, rfl, hT, fun H1 s1 => ?_⟩
    walk_at "x"
    cases hI : isI v with
    | false =>
      refine iteT ?_
      refine iteT (kE (fun ⟨z, e, _⟩ => ?_) H1 s1)
      rw [e] at hI; cases hI
    | true =>
      refine iteF ?_
      walk_at "x"
      obtain ⟨z, rfl⟩ : ∃ z, v = .int z := by
        cases v with
        | int z => exact ⟨z, rfl⟩
        | _ => cases hI
      walk_at "x"
      by_cases c1 : z < l
      · rw [decide_eq_true c1]
        refine iteT (iteT (kE (fun ⟨y, e, h1, h2⟩ => ?_) H1 s1))
        obtain rfl := V.int.inj e
        omega
      · rw [decide_eq_false c1]
        refine iteF ?_
        walk_at "x"
        by_cases c2 : g < z
        · rw [decide_eq_true c2]
          refine iteT (kE (fun ⟨y, e, h1, h2⟩ => ?_) H1 s1)
          obtain rfl := V.int.inj e
          omega
        · rw [decide_eq_false c2]
          refine iteF ?_
          walk_at "x"
          exact k ⟨z, rfl, by omega, by omega⟩ H1 s1

/-! ### whole_of -/
def sp_whole_of : Sp := fun vs H Q _ => ∃ k : Nat, vs = [.int (k : Int)] ∧ k ≤ 1000 ∧ RetV (.int (((2 ^ k : Nat) : Int) - 1)) H Q
theorem ok_whole_of (T : Txt K mg A) : FnOk P w K mg base (L2.CX P w) 1 A.a_whole_of A.d_whole_of ["many"] sp_whole_of := by
  refine T.F_whole_of.okX sc_whole_of (fun vs H Q E h => ?_) (fun cdv A0 outer s H vs Q E hr h => ?_)
  · obtain ⟨n, rfl, _⟩ := h; rfl
  · obtain ⟨n, rfl, hn, k⟩ := h
    refine ⟨_, (pss_one (ps_ret (pe_op op_subX (pe_op op_shlX pe_int (pv 0)) pe_int))), ?_⟩
    walk_at "x"
    refine x_shl ⟨by omega, by omega, by decide⟩ ?_
    rw [shl_nat]
    walk_at "x"
    exact k.go (Same.refl H)

/-! ### hands_of -/
def sp_hands_of (A : Ads) : Sp := fun vs H Q E => ∃ v : V, vs = [v] ∧ Thing H v ∧ (∀ g : Nat, v = .int (g : Int) → g < 64 → RetL ((handsM g).map vnat) H Q) ∧ (¬ inR v 0 63 → ∀ H', Same H H' → E (.ref A.NoGroup) none H')
theorem u_hands_of {H : Hp} {Q : VK} {E : XK} {g : Nat} (hg : g < 64) (q : RetL ((handsM g).map vnat) H Q) : sp_hands_of A [.int (g : Int)] H Q E :=
  ⟨_, rfl, .int _, fun g' e _ => by
    have : g = g' := by have := V.int.inj e; omega
    exact this ▸ q, fun h => absurd ⟨_, rfl, by omega, by omega⟩ h⟩
theorem ok_hands_of (T : Txt K mg A) : FnOk P w K mg base (L2.CX P w) 3 A.a_hands_of A.d_hands_of ["group"] (sp_hands_of A) := by
  refine T.F_hands_of.okX sc_hands_of (fun vs H Q E h => ?_) (fun cdv A0 outer s H vs Q E hr h => ?_)
  · obtain ⟨v, rfl, _⟩ := h; rfl
  · obtain ⟨v, rfl, hT, k, kE⟩ := h
    refine ⟨_, (pss_cons (ps_expr (pe_call (ok_look_group T) (hr.mono (by decide)) (by rfl) T.g_look_group T.F_look_group.kp T.b_look_group .nil (passes_call (takes_of rfl rfl rfl rfl) (fun _ _ _ _ h => h)) (pa_cons (pv 0) (pa_cons pe_int (pa_cons (pe_call (ok_whole_of T) (hr.mono (by decide)) (by rfl) T.g_whole_of T.F_whole_of.kp T.b_whole_of .nil (passes_call (takes_of rfl rfl rfl rfl) (fun _ _ _ _ h => h)) (pa_cons (pe_glob (v := .int 6) (by rfl) T.c_MOST ⟨_, rfl⟩) pa_nil)) pa_nil)))))
      (pss_one (ps_ret (pe_lc (own := [("hand", 1)]) rfl sc_hands_of.nd (pi_range1 (by rfl) T.z_range (pa_cons (pe_glob (v := .int 6) (by rfl) T.c_MOST ⟨_, rfl⟩) pa_nil)) (blkOk_by (own := [("hand", 1)]) (N := N_hands_of) (sc := defScope s_hands_of) (by decide +kernel)) (fun _ _ _ _ _ => (pg_name (i := 1) sc_hands_of.nd rfl (.inl rfl))) (fun _ _ _ _ _ => (pts_one (pt_cmpR (op_eqK (K := K) rfl hr.units) (pe_op op_andX (pe_op op_shrX (pv 0) (pv 1)) pe_int) pe_int (nomark _)))) (fun _ _ _ _ _ => (pv 1)))))), ?_⟩
    walk_at "x"
    refine ⟨6, rfl, by decide, fun H1 s1 => ?_⟩
    walk_at "x"
    refine ⟨v, 0, _, rfl, hT.same s1, fun hin H2 s2 => ?_, fun hn H2 s2 => kE hn H2 (s1.trans s2)⟩
    obtain ⟨z, rfl, h0, h1⟩ := hin
    have w : Own H [] H2 := Own.start.ext (s1.trans s2)
    obtain ⟨g, rfl⟩ := Int.eq_ofNat_of_zero_le h0
    have hg : g < 64 := by
      have : (((2 ^ 6 : Nat) : Int) - 1) = 63 := by decide
      omega
    walk_at "x"
    refine ⟨_, rfl, by decide, by decide, cp_r0 (n := 6) (fun i => ((List.range i).filter fun h => bitOn h g).map vnat) w rfl ?_ ?_⟩
    · intro D i H' hi p
      walk_at "x"
      refine ⟨rfl, ?_⟩
      walk_at "x"
      refine x_shr (by omega) ?_
      walk_at "x"
      rw [bit_int (by omega) hg]
      cases c : bitOn i g with
      | true =>
        refine iteT ?_
        walk_at "x"
        exact cp_fin p (filter_yes (p := fun h => bitOn h g) c vnat) (by rw [List.length_map]; have := filter_len (fun h => bitOn h g) i; omega)
      | false =>
        exact iteF (cp_no p (filter_no (p := fun h => bitOn h g) c vnat))
    · intro D H' w2
      exact (k g rfl hg).go w2

/-! ### look -/
def sp_look (A : Ads) : Sp := fun vs H Q E => ∃ (a : Addr) (xs : List V), vs = [.ref a] ∧ Rd H a (.lst xs) ∧ (∀ v ∈ xs, Thing H v) ∧
  (∀ n, lookM xs = some n → RetV (.int n) H Q) ∧ (lookM xs = none → ∀ H', Same H H' → E (.ref A.NoTable) none H')
theorem ok_look (T : Txt K mg A) : FnOk P w K mg base (L2.CX P w) 2 A.a_look A.d_look ["table"] (sp_look A) := by
  refine T.F_look.okX sc_look (fun vs H Q E h => ?_) (fun cdv A0 outer s H vs Q E hr h => ?_)
  · obtain ⟨a, xs, rfl, _⟩ := h; rfl
  · obtain ⟨a, xs, rfl, hR, hT, k, kE⟩ := h
    have hS : SqL K H a xs := .inl hR
    refine ⟨_, (pss_cons (ps_set (i := 1) sc_look.nd rfl (.inl rfl) pe_int)
      (pss_cons (ps_while (passes_of rfl) (PW.pt (pw_and (pt_cmpR op_ltX (pv 1) (pe_glob (v := .int 6) (by rfl) T.c_MOST ⟨_, rfl⟩) (nomark _)) (pw_and1 (pt_cmpR op_ltX (pe_op op_shlX pe_int (pv 1)) (pe_callB (call_lenK (K := K) rfl) (by rfl) T.z_len (by decide +kernel) (pa_cons (pv 0) pa_nil)) (nomark _))))) (pss_one (ps_set (i := 1) sc_look.nd rfl (.inl rfl) (pe_op op_addX (pv 1) pe_int))))
      (pss_cons (ps_if (pt_cmpR (op_neK (K := K) rfl hr.units) (pe_callB (call_lenK (K := K) rfl) (by rfl) T.z_len (by decide +kernel) (pa_cons (pv 0) pa_nil)) (pe_op op_shlX pe_int (pv 1)) (nomark _)) (pss_one (ps_raise rfl (takes_of rfl rfl rfl rfl) (pmk_own PySem.F.excBase_ValueError T.x_NoTable T.g_NoTable T.k_NoTable (raises_own T.e_NoTable T.t_NoTable) (by rfl)))) pss_nil)
      (pss_cons (ps_for (passes_of rfl) rfl (pi_listK (K := K) rfl (pv 0)) (pg_name (i := 2) sc_look.nd rfl (.inl rfl)) (pss_one (ps_if (pt_not (pt_val (pe_call (ok_is_whole T) (hr.mono (by decide)) (by rfl) T.g_is_whole T.F_is_whole.kp T.b_is_whole .nil (passes_call (takes_of rfl rfl rfl rfl) (fun _ _ _ _ h => h)) (pa_cons (pv 2) pa_nil)))) (pss_one (ps_raise rfl (takes_of rfl rfl rfl rfl) (pmk_own PySem.F.excBase_ValueError T.x_NoTable T.g_NoTable T.k_NoTable (raises_own T.e_NoTable T.t_NoTable) (by rfl)))) pss_nil)))
      (pss_cons (ps_if (pt_cmpR (op_neK (K := K) rfl hr.units) (pe_ix (ix_seqK (K := K) rfl) (pv 0) pe_int (fun _ _ => rfl)) pe_int (nomark _)) (pss_one (ps_raise rfl (takes_of rfl rfl rfl rfl) (pmk_own PySem.F.excBase_ValueError T.x_NoTable T.g_NoTable T.k_NoTable (raises_own T.e_NoTable T.t_NoTable) (by rfl)))) pss_nil)
      (pss_one (ps_ret (pv 1)))))))), ?_⟩
    walk_at "x"
    refine x_while (fun m σ' H' => ∃ k : Nat, σ' = [some (.ref a), some (.int k), none] ∧ H' = H ∧ m = 6 - k ∧ 1 ≤ k ∧ k ≤ 6 ∧ (k = 1 ∨ 2 ^ (k - 1) < xs.length)) 5 ⟨1, rfl, rfl, rfl, by decide, by decide, .inl rfl⟩ ?_
    rintro m σ' H' ⟨n, rfl, rfl, rfl, h1, h6, hlo⟩
    have out : (n = 6 ∨ xs.length ≤ 2 ^ n) → manyOf xs.length = n := fun h => manyOf_is h1 h6 hlo h
    walk_at "x"
    -- what stands behind the loop
    have fin : manyOf xs.length = n → tSeq
        (tIfS (tTest (tOp (rNeX K) (tCB (Sp.rLen K) (tCons (tVar 0) tNil)) (tOp rShl (tC (V.int 1)) (tVar 1)))) (fun x σ H => E (.ref A.NoTable) none H) tNext) (tSeq
        (tFor (iList K (tVar 0)) (gName 2) (tIfS (tNot (tB (tCall sp_is_whole [] E (tCons (tVar 2) tNil)))) (fun x σ H => E (.ref A.NoTable) none H) tNext)) (tSeq
        (tIfS (tTest (tOp (rNeX K) (tOp (rIx K) (tVar 0) (tC (V.int 0))) (tC (V.int 0)))) (fun x σ H => E (.ref A.NoTable) none H) tNext) (tRet (tVar 1))))
        { nx := fun _ H' => Q .non H', rt := Q } [some (.ref a), some (.int n), none] H' := fun en => by
      have bad' : ∀ H2, Same H' H2 → ¬ (xs.length = 2 ^ manyOf xs.length ∧ xs.all isI = true ∧ xs[0]? = some (.int 0)) → E (.ref A.NoTable) none H2 := fun H2 s2 z => kE (by unfold lookM; rw [if_neg z]) H2 s2
      walk_at "x"
      refine x_lenL hS ?_
      walk_at "x"
      refine x_shl ⟨by omega, by omega, by decide⟩ ?_
      walk_at "x"
      have e1 : (1 : Int) * 2 ^ (n : Int).toNat = ((2 ^ n : Nat) : Int) := by rw [Int.one_mul, Int.toNat_natCast, Int.natCast_pow] <;> rfl
      rw [e1]
      by_cases c1 : xs.length = 2 ^ n
      · rw [decide_eq_true (show (xs.length : Int) = ((2 ^ n : Nat) : Int) by omega)]
        refine iteF ?_
        walk_at "x"
        refine ⟨_, rfl, ⟨_, hS⟩, for_list (xs := xs) (fun i σ' H2 => (∃ v, σ' = [some (.ref a), some (.int n), v]) ∧ Same H' H2 ∧ (xs.take i).all isI = true) ⟨⟨_, rfl⟩, Same.refl _, rfl⟩ (fun i σ' H2 _ p => p.2.1.seq hS) ?_ ?_⟩
        · rintro i x σ' H2 hx ⟨⟨v, rfl⟩, s2, p⟩
          have hxm := List.mem_of_getElem? hx
          walk_at "x"
          refine ⟨x, rfl, (hT x hxm).same s2, fun H3 s3 => ?_⟩
          walk_at "x"
          cases hI : isI x with
          | false =>
            refine iteT (bad' H3 (s2.trans s3) fun z => ?_)
            have := List.all_eq_true.mp z.2.1 x hxm
            rw [hI] at this; cases this
          | true =>
            refine iteF ?_
            walk_at "x"
            refine ⟨⟨_, rfl⟩, s2.trans s3, ?_⟩
            rw [List.take_add_one, hx, List.all_append, p]
            simp [hI]
        · rintro σ' H2 ⟨⟨v, rfl⟩, s2, p⟩
          rw [List.take_length] at p
          walk_at "x"
          have h0 : 0 < xs.length := by rw [c1]; exact Nat.two_pow_pos n
          have hI := List.all_eq_true.mp p xs[0] (List.getElem_mem h0)
          obtain ⟨z, hz⟩ : ∃ z, xs[0] = .int z := by
            cases e : xs[0] with
            | int z => exact ⟨z, rfl⟩
            | _ => rw [e] at hI; cases hI
          have h0' : xs[0]? = some (.int z) := by rw [List.getElem?_eq_getElem h0, hz]
          refine x_ixXL (s2.seq hS) (atI_nat (j := 0) h0') ?_
          walk_at "x"
          by_cases ez : z = 0
          · rw [decide_eq_true ez]
            refine iteF ?_
            walk_at "x"
            refine k n (by unfold lookM; rw [en, if_pos ⟨c1, p, by rw [h0', ez]⟩]) _ s2
          · rw [decide_eq_false ez]
            refine iteT (bad' H2 s2 fun y => ez ?_)
            rw [h0'] at y
            exact V.int.inj (Option.some.inj y.2.2)
      · rw [decide_eq_false (show ¬ (xs.length : Int) = ((2 ^ n : Nat) : Int) by omega)]
        exact iteT (bad' H' (Same.refl _) fun z => c1 (by rw [en] at z; exact z.1))
    by_cases hk : (n : Int) < 6
    · rw [decide_eq_true hk]
      refine iteT ?_
      walk_at "x"
      refine x_shl ⟨by omega, by omega, by decide⟩ ?_
      walk_at "x"
      refine x_lenL hS ?_
      walk_at "x"
      have e1 : (1 : Int) * 2 ^ (n : Int).toNat = ((2 ^ n : Nat) : Int) := by rw [Int.one_mul, Int.toNat_natCast, Int.natCast_pow] <;> rfl
      rw [e1]
      refine ite2 (fun hl => ?_) (fun hl => ?_)
      · have hl := of_decide_eq_true hl
        refine x_N ?_
        walk_at "x"
        exact ⟨6 - (n + 1), by omega, n + 1, by rw [Int.natCast_add] <;> rfl, rfl, rfl, by omega, by omega, .inr (by rw [Nat.add_sub_cancel]; omega)⟩
      · exact fin (out (.inr (by have := mt decide_eq_true hl; omega)))
    · rw [decide_eq_false hk]
      exact iteF (fin (out (.inl (by omega))))

/-! ### look_numbers -/
def sp_look_numbers (A : Ads) (K : PySem.W.Frag) : Sp := fun vs H Q E => ∃ (a : Addr) (xs : List V), vs = [.ref a] ∧ (SqL K H a xs ∨ SqT K H a xs) ∧ (∀ y ∈ xs, Thing H y) ∧ (xs.all isI = true → RetV .non H Q) ∧ (xs.all isI = false → ∀ H', Same H H' → E (.ref A.NoRule) none H')
theorem ok_look_numbers (T : Txt K mg A) : FnOk P w K mg base (L2.CX P w) 2 A.a_look_numbers A.d_look_numbers ["numbers"] (sp_look_numbers A K) := by
  refine T.F_look_numbers.okX sc_look_numbers (fun vs H Q E h => ?_) (fun cdv A0 outer s H vs Q E hr h => ?_)
  · obtain ⟨a, xs, rfl, _⟩ := h; rfl
  · obtain ⟨a, xs, rfl, hS, hT, k, kE⟩ := h
    refine ⟨_, (pss_one (ps_for (passes_of rfl) rfl (pi_or2 (pi_listK (K := K) rfl (pv 0)) (pi_tupK (K := K) rfl (pv 0))) (pg_name (i := 1) sc_look_numbers.nd rfl (.inl rfl)) (pss_one (ps_if (pt_not (pt_val (pe_call (ok_is_whole T) (hr.mono (by decide)) (by rfl) T.g_is_whole T.F_is_whole.kp T.b_is_whole .nil (passes_call (takes_of rfl rfl rfl rfl) (fun _ _ _ _ h => h)) (pa_cons (pv 1) pa_nil)))) (pss_one (ps_raise rfl (takes_of rfl rfl rfl rfl) (pmk_own PySem.F.excBase_ValueError T.x_NoRule T.g_NoRule T.k_NoRule (raises_own T.e_NoRule T.t_NoRule) (by rfl)))) pss_nil)))), ?_⟩
    have turn : ∀ (i : Nat) (x : V) (σ' : L2.St) (H' : Hp), xs[i]? = some x → ((∃ v, σ' = [some (.ref a), v]) ∧ Same H H' ∧ (xs.take i).all isI = true) → gName 1 x σ' H' fun σ2 H2 => tIfS (tNot (tB (tCall sp_is_whole [] E (tCons (tVar 1) tNil)))) (fun _ _ H => E (.ref A.NoRule) none H) tNext
        { nx := fun σ' H' => (∃ v, σ' = [some (.ref a), v]) ∧ Same H H' ∧ (xs.take (i + 1)).all isI = true, rt := Q, ct := fun σ' H' => (∃ v, σ' = [some (.ref a), v]) ∧ Same H H' ∧ (xs.take (i + 1)).all isI = true, bk := fun _ H' => Q .non H' } σ2 H2 := by
      rintro i x σ' H' hx ⟨⟨v, rfl⟩, s1, p⟩
      walk_at "x"
      refine ⟨x, rfl, (hT x (List.mem_of_getElem? hx)).same s1, fun H2 s2 => ?_⟩
      walk_at "x"
      cases hI : isI x with
      | false =>
        refine iteT (kE ?_ H2 (s1.trans s2))
        rw [Bool.eq_false_iff]
        intro z
        have := List.all_eq_true.mp z x (List.mem_of_getElem? hx)
        rw [hI] at this; cases this
      | true =>
        refine iteF ?_
        refine ⟨⟨_, rfl⟩, s1.trans s2, ?_⟩
        rw [List.take_add_one, hx, List.all_append, p]
        simp [hI]
    have done : ∀ (σ' : L2.St) (H' : Hp), ((∃ v, σ' = [some (.ref a), v]) ∧ Same H H' ∧ (xs.take xs.length).all isI = true) → Q .non H' := by
      rintro σ' H' ⟨_, s1, p⟩
      rw [List.take_length] at p
      exact k p _ s1
    refine x_for ?_
    rcases hS with hS | hS
    · refine .inl ⟨.ref a, rfl, a, rfl, ⟨_, hS⟩, for_list (xs := xs) (fun i σ' H' => (∃ v, σ' = [some (.ref a), v]) ∧ Same H H' ∧ (xs.take i).all isI = true) ⟨⟨_, rfl⟩, Same.refl _, rfl⟩ (fun i σ' H' _ h => h.2.1.seq hS) turn done⟩
    · refine .inr ⟨.ref a, rfl, a, rfl, ⟨_, hS⟩, for_tup (xs := xs) (fun i σ' H' => (∃ v, σ' = [some (.ref a), v]) ∧ Same H H' ∧ (xs.take i).all isI = true) ⟨⟨_, rfl⟩, Same.refl _, rfl⟩ (fun i σ' H' _ h => same_sqT h.2.1 hS) turn done⟩

/-! ### one_pair -/
def sp_one_pair (A : Ads) (K : PySem.W.Frag) : Sp := fun vs H Q E => ∃ (m : Nat) (t : Addr) (ys : List V), vs = [.int (m : Int), .ref t] ∧ Rd H t (.tup ys) ∧ (∀ y ∈ ys, Thing H y) ∧
  (∀ f : Tr, ys = trV f → PairOk m f → RetT [.int (f.1 : Int), .int (f.2.1 : Int)] H Q) ∧ ((∀ f : Tr, ys = trV f → ¬ PairOk m f) → ∀ H', Same H H' → E (.ref A.NoRule) none H')
theorem ok_one_pair (T : Txt K mg A) : FnOk P w K mg base (L2.CX P w) 3 A.a_one_pair A.d_one_pair ["many", "pair"] (sp_one_pair A K) := by
  refine T.F_one_pair.okX sc_one_pair (fun vs H Q E h => ?_) (fun cdv A0 outer s H vs Q E hr h => ?_)
  · obtain ⟨m, t, ys, rfl, _⟩ := h; rfl
  · obtain ⟨m, t, ys, rfl, hR, hT, k, kE⟩ := h
    refine ⟨_, (pss_cons (ps_if (pt_cmpR (op_neK (K := K) rfl hr.units) (pe_callB (call_lenK (K := K) rfl) (by rfl) T.z_len (by decide +kernel) (pa_cons (pv 1) pa_nil)) pe_int (nomark _)) (pss_one (ps_raise rfl (takes_of rfl rfl rfl rfl) (pmk_own PySem.F.excBase_ValueError T.x_NoRule T.g_NoRule T.k_NoRule (raises_own T.e_NoRule T.t_NoRule) (by rfl)))) pss_nil)
      (pss_cons (ps_expr (pe_call (ok_look_numbers T) (hr.mono (by decide)) (by rfl) T.g_look_numbers T.F_look_numbers.kp T.b_look_numbers .nil (passes_call (takes_of rfl rfl rfl rfl) (fun _ _ _ _ h => h)) (pa_cons (pv 1) pa_nil)))
      (pss_cons (ps_if (PW.pt (pw_or (pt_cmpR op_ltX (pe_ix (ix_seqK (K := K) rfl) (pv 1) pe_int (fun _ _ => rfl)) pe_int (nomark _)) (pw_or (pt_cmpR op_geX (pe_ix (ix_seqK (K := K) rfl) (pv 1) pe_int (fun _ _ => rfl)) (pe_ix (ix_seqK (K := K) rfl) (pv 1) pe_int (fun _ _ => rfl)) (nomark _)) (pw_or1 (pt_cmpR op_geX (pe_ix (ix_seqK (K := K) rfl) (pv 1) pe_int (fun _ _ => rfl)) (pv 0) (nomark _)))))) (pss_one (ps_raise rfl (takes_of rfl rfl rfl rfl) (pmk_own PySem.F.excBase_ValueError T.x_NoRule T.g_NoRule T.k_NoRule (raises_own T.e_NoRule T.t_NoRule) (by rfl)))) pss_nil)
      (pss_one (ps_ret (pe_tup (pa_cons (pe_ix (ix_seqK (K := K) rfl) (pv 1) pe_int (fun _ _ => rfl)) (pa_cons (pe_ix (ix_seqK (K := K) rfl) (pv 1) pe_int (fun _ _ => rfl)) pa_nil)))))))), ?_⟩
    walk_at "x"
    refine x_lenT (.inl hR) ?_
    walk_at "x"
    by_cases c3 : ys.length = 3
    case neg =>
      rw [decide_eq_false (by omega)]
      exact iteT (kE (fun f e => absurd (by rw [e] <;> rfl) c3) H (Same.refl _))
    rw [decide_eq_true (by omega)]
    refine iteF ?_
    walk_at "x"
    refine ⟨t, ys, rfl, .inr (.inl hR), hT, fun hall H1 s1 => ?_, fun hn H1 s1 => kE (fun f e => by rw [e] at hn; cases hn) H1 s1⟩
    obtain ⟨a, b, c, rfl⟩ : ∃ a b c : Int, ys = [.int a, .int b, .int c] := by
      obtain ⟨ns, rfl⟩ := all_int hall
      rw [List.length_map] at c3
      match ns, c3 with
      | [a, b, c], _ => exact ⟨a, b, c, rfl⟩
    have hR1 := rd_same s1 hR
    have bad : ¬ (0 ≤ a ∧ a < b ∧ b < (m : Int)) → ∀ H', Same H1 H' → E (.ref A.NoRule) none H' := fun hn H' s' => kE (fun f e p => hn ?_) H' (s1.trans s')
    case refine_1 =>
      obtain ⟨p1, p2⟩ := p
      have e1 := V.int.inj (List.cons.inj e).1
      have e2 := V.int.inj (List.cons.inj (List.cons.inj e).2).1
      omega
    walk_at "x"
    refine x_ixXT (.inl hR1) (v := .int a) rfl ?_
    walk_at "x"
    by_cases c1 : a < 0
    · rw [decide_eq_true c1]
      exact iteT (iteT (bad (by omega) _ (Same.refl _)))
    rw [decide_eq_false c1]
    refine iteF ?_
    walk_at "x"
    refine x_ixXT (.inl hR1) (v := .int a) rfl ?_
    walk_at "x"
    refine x_ixXT (.inl hR1) (v := .int b) rfl ?_
    walk_at "x"
    by_cases c2 : b ≤ a
    · rw [decide_eq_true c2]
      exact iteT (iteT (bad (by omega) _ (Same.refl _)))
    rw [decide_eq_false c2]
    refine iteF ?_
    walk_at "x"
    refine x_ixXT (.inl hR1) (v := .int b) rfl ?_
    walk_at "x"
    by_cases c4 : (m : Int) ≤ b
    · rw [decide_eq_true c4]
      exact iteT (bad (by omega) _ (Same.refl _))
    rw [decide_eq_false c4]
    refine iteF ?_
    obtain ⟨i, rfl⟩ := Int.eq_ofNat_of_zero_le (show 0 ≤ a by omega)
    obtain ⟨j, rfl⟩ := Int.eq_ofNat_of_zero_le (show 0 ≤ b by omega)
    walk_at "x"
    refine x_ixXT (.inl hR1) (v := .int (i : Int)) rfl ?_
    walk_at "x"
    refine x_ixXT (.inl hR1) (v := .int (j : Int)) rfl ?_
    walk_at "x"
    refine ⟨(by show 2 ≤ sizeLine; decide), fun p np => ?_⟩
    exact k (i, j, c) rfl ⟨by show i < j; omega, by show j < m; omega⟩ p _ (s1.free np) (s1.trans (same_upd np)) upd_same

/-! ### pairs_of -/
def sp_pairs_of (A : Ads) (K : PySem.W.Frag) : Sp := fun vs H Q E => ∃ (m : Nat) (a : Addr) (ts : List Addr) (yss : List (List V)), vs = [.int (m : Int), .ref a] ∧ SqL K H a (ts.map V.ref) ∧ ts.length = yss.length ∧ ts.length ≤ 1000 ∧ (∀ (i : Nat) (t : Addr) (ys : List V), ts[i]? = some t → yss[i]? = some ys → Rd H t (.tup ys) ∧ ∀ y ∈ ys, Thing H y) ∧
  (∀ fs : List Tr, yss = fs.map trV → pairsOk m fs → ∀ gs : List Tr, gs.Perm fs → SortedT gs → RetTr gs H Q) ∧ ((∀ fs : List Tr, yss = fs.map trV → ¬ pairsOk m fs) → ∀ H', Same H H' → E (.ref A.NoRule) none H')
theorem trV_inj {f g : Tr} (h : trV f = trV g) : f = g := by
  obtain ⟨a, b, c⟩ := f
  obtain ⟨d, e, z⟩ := g
  have e1 := V.int.inj (List.cons.inj h).1
  have e2 := V.int.inj (List.cons.inj (List.cons.inj h).2).1
  have e3 := V.int.inj (List.cons.inj (List.cons.inj (List.cons.inj h).2).2).1
  dsimp only at e1 e2 e3
  have : a = d := by omega
  have : b = e := by omega
  subst_vars; rfl
theorem map_trV_inj : ∀ {fs gs : List Tr}, fs.map trV = gs.map trV → fs = gs
  | [], [], _ => rfl
  | [], _ :: _, h => by cases h
  | _ :: _, [], h => by cases h
  | f :: fs, g :: gs, h => by rw [List.map_cons, List.map_cons] at h; rw [trV_inj (List.cons.inj h).1, map_trV_inj (List.cons.inj h).2]
/-- pairs found by their hands, in the order of a sorted list of hands -/
theorem perm_lift {fs : List Tr} (nd : (fs.map trK).Nodup) : ∀ {ps : List (Int × Int)}, ps.Perm (fs.map trP) → ∃ gs : List Tr, gs.Perm fs ∧ ps = gs.map trP := by
  intro ps hp
  have key : ∀ (ps qs : List (Int × Int)), ps.Perm qs → ∀ fs : List Tr, qs = fs.map trP → ∃ gs : List Tr, gs.Perm fs ∧ ps = gs.map trP := by
    intro ps qs h
    induction h with
    | nil => intro fs e; exact ⟨fs, List.Perm.refl _, e⟩
    | cons x h ih =>
      intro fs e
      cases fs with
      | nil => cases e
      | cons f fs =>
        rw [List.map_cons] at e
        obtain ⟨e1, e2⟩ := List.cons.inj e
        obtain ⟨gs, h1, h2⟩ := ih fs e2
        exact ⟨f :: gs, h1.cons f, by rw [List.map_cons, ← h2, e1]⟩
    | swap x y l =>
      intro fs e
      match fs, e with
      | [], e => cases e
      | [f], e => cases e
      | f :: g :: fs, e =>
        rw [List.map_cons, List.map_cons] at e
        obtain ⟨e1, e2⟩ := List.cons.inj e
        obtain ⟨e3, e4⟩ := List.cons.inj e2
        exact ⟨g :: f :: fs, List.Perm.swap f g fs, by rw [List.map_cons, List.map_cons, ← e1, ← e3, ← e4]⟩
    | trans h1 h2 i1 i2 =>
      intro fs e
      obtain ⟨gs, a1, a2⟩ := i2 fs e
      obtain ⟨hs, b1, b2⟩ := i1 gs a2
      exact ⟨hs, b1.trans a1, b2⟩
  exact key ps _ hp fs rfl
theorem paired_at {α β : Type} {R : α → β → Prop} : ∀ {xs : List α} {ys : List β}, Paired R xs ys → ∀ {i : Nat} {x : α}, xs[i]? = some x → ∃ y, ys[i]? = some y ∧ R x y
  | _, _, .nil, i, _, h => by rw [List.getElem?_nil] at h; cases h
  | _, _, .cons a _, 0, x, e => by cases e; exact ⟨_, rfl, a⟩
  | _, _, .cons _ r, i + 1, x, e => paired_at r (i := i) (by simpa using e)
theorem ok_pairs_of (T : Txt K mg A) : FnOk P w K mg base (L2.CX P w) 4 A.a_pairs_of A.d_pairs_of ["many", "pairs"] (sp_pairs_of A K) := by
  refine T.F_pairs_of.okX sc_pairs_of (fun vs H Q E h => ?_) (fun cdv A0 outer s H vs Q E hr h => ?_)
  · obtain ⟨m, a, ts, yss, rfl, _⟩ := h; rfl
  · obtain ⟨m, a, ts, yss, rfl, hS, hl, hz, hR, k, kE⟩ := h
    refine ⟨_, (pss_cons (ps_set (i := 2) sc_pairs_of.nd rfl (.inr rfl) pe_dnewT)
      (pss_cons (ps_for (passes_of rfl) rfl (pi_listK (K := K) rfl (pv 1)) (pg_name (i := 3) sc_pairs_of.nd rfl (.inl rfl)) (pss_cons (ps_set (i := 4) sc_pairs_of.nd rfl (.inl rfl) (pe_call (ok_one_pair T) (hr.mono (by decide)) (by rfl) T.g_one_pair T.F_one_pair.kp T.b_one_pair .nil (passes_call (takes_of rfl rfl rfl rfl) (fun _ _ _ _ h => h)) (pa_cons (pv 0) (pa_cons (pv 3) pa_nil))))
      (pss_cons (ps_if (pt_cmp (pc_din (hu_of hr) (pv 4) (pv 2))) (pss_one (ps_raise rfl (takes_of rfl rfl rfl rfl) (pmk_own PySem.F.excBase_ValueError T.x_NoRule T.g_NoRule T.k_NoRule (raises_own T.e_NoRule T.t_NoRule) (by rfl)))) pss_nil)
      (pss_one (ps_dput (hu_of hr) (pv 2) (pv 4) (pe_ix (ix_seqK (K := K) rfl) (pv 3) pe_int (fun _ _ => rfl)) rfl)))))
      (pss_one (ps_ret (pe_lc (own := [("both", 4)]) rfl sc_pairs_of.nd (pi_listK (K := K) rfl (pe_callB (call_sortedDT rfl) (by rfl) T.z_sorted (by decide +kernel) (pa_cons (pv 2) pa_nil))) (blkOk_by (own := [("both", 4)]) (N := N_pairs_of) (sc := defScope s_pairs_of) (by decide +kernel)) (fun _ _ _ _ _ => (pg_name (i := 4) sc_pairs_of.nd rfl (.inl rfl))) (fun _ _ _ _ _ => pts_nil) (fun _ _ _ _ _ => (pe_tup (pa_cons (pe_ix (ix_seqK (K := K) rfl) (pv 4) pe_int (fun _ _ => rfl)) (pa_cons (pe_ix (ix_seqK (K := K) rfl) (pv 4) pe_int (fun _ _ => rfl)) (pa_cons (pe_dget (hu_of hr) (pv 2) (pv 4) (fun _ _ => rfl)) pa_nil)))))))))), ?_⟩
    walk_at "x"
    intro d nd
    have w0 := (Own.start (H := H)).new (o := .dT []) nd
    walk_at "x"
    refine ⟨a, rfl, ⟨_, w0.seq hS⟩, for_list (xs := ts.map V.ref) (fun i σ' H' => ∃ fs : List Tr, yss.take i = fs.map trV ∧ pairsOk m fs ∧ (∃ v3 v4, σ' = [some (.int (m : Int)), some (.ref a), some (.ref d), v3, v4]) ∧ Own H [(d, .dT (fs.map entT2))] H') ⟨[], rfl, ⟨fun _ h => (nomatch h), List.nodup_nil⟩, ⟨_, _, rfl⟩, w0⟩ (fun i σ' H' _ h => ?_) ?_ ?_⟩
    · obtain ⟨_, _, _, _, w⟩ := h; exact w.seq hS
    · rintro i x σ' H' hx ⟨fs, hfs, ok, ⟨v3, v4, rfl⟩, w⟩
      obtain ⟨t, ht, rfl⟩ := map_at hx
      have hi := (List.getElem?_eq_some_iff.mp ht).1
      have hy : yss[i]? = some yss[i] := List.getElem?_eq_getElem (by omega)
      obtain ⟨r1, r2⟩ := hR i t _ ht hy
      generalize yss[i] = ys at hy r1 r2
      have htk : yss.take (i + 1) = yss.take i ++ [ys] := by rw [List.take_add_one, hy] <;> rfl
      have hfl : fs.length = i := by
        have := congrArg List.length hfs
        rw [List.length_take, List.length_map] at this
        omega
      -- what all pairs would be
      have pre : ∀ gs : List Tr, yss = gs.map trV → ∃ f rest, gs = fs ++ f :: rest ∧ ys = trV f := fun gs e => by
        have e1 : (gs.take i).map trV = fs.map trV := by rw [List.map_take, ← e, hfs]
        have e2 := map_trV_inj e1
        have e3 : gs[i]?.map trV = some ys := by rw [← List.getElem?_map, ← e]; exact hy
        cases e4 : gs[i]? with
        | none => rw [e4] at e3; cases e3
        | some f =>
          rw [e4] at e3
          refine ⟨f, gs.drop (i + 1), ?_, (Option.some.inj e3).symm⟩
          obtain ⟨hi2, e5⟩ := List.getElem?_eq_some_iff.mp e4
          rw [← e2, ← e5, List.getElem_cons_drop, List.take_append_drop]
      walk_at "x"
      refine ⟨m, t, ys, rfl, rd_same w.ex r1, fun y hy => (r2 y hy).same w.ex, fun f ef hp p2 H2 n2 s2 c2 => ?_, fun hn H' s' => kE (fun gs e o => ?_) H' (w.ex.trans s')⟩
      case refine_2 =>
        obtain ⟨f, rest, e1, e2⟩ := pre gs e
        exact hn f e2 (o.1 f (by rw [e1]; exact List.mem_append_right _ (.head _)))
      have w2 := w.newE n2 s2 c2
      walk_at "x"
      refine ⟨d, _, rfl, DGet.t (k := trK f) (w2.get 1 rfl) c2, ?_⟩
      by_cases c : (valV (fs.map entT2) (trK f)).isSome = true
      · rw [c]
        refine ⟨true, rfl, iteT (kE (fun gs e o => ?_) _ w2.ex)⟩
        obtain ⟨u, hu, ek⟩ := valT_mem c
        obtain ⟨f', rest, e1, e2⟩ := pre gs e
        have ef' : f = f' := trV_inj (ef.symm.trans e2)
        subst ef'
        have nd2 := o.2
        rw [e1, List.map_append, List.map_cons, List.nodup_append] at nd2
        exact nd2.2.2 (trK u) (List.mem_map.mpr ⟨u, hu, rfl⟩) (trK f) (.head _) ek
      · have hne : ∀ u ∈ fs, trK u ≠ trK f := fun u hu e => c (by rw [← e, valT_some ok.2 hu] <;> rfl)
        rw [Bool.not_eq_true] at c
        rw [c]
        refine ⟨false, rfl, iteF ?_⟩
        walk_at "x"
        refine x_ixXT (.inl (rd_same w2.ex r1)) (v := .int f.2.2) (by rw [ef] <;> rfl) ?_
        walk_at "x"
        refine ⟨d, _, rfl, DPut.t (k := trK f) (w2.get 1 rfl) c2 (by rw [List.length_map]; exact Nat.lt_of_lt_of_le (show fs.length < 10000 by omega) (by decide)), ?_⟩
        rw [putT_new hne]
        have w3 := (w2.put (o' := .dT (fs.map entT2 ++ [(trK f, .int f.2.2)])) 1 rfl).pop
        refine ⟨fs ++ [f], by rw [htk, hfs, ef, List.map_append] <;> rfl, ⟨fun u hu => ?_, ?_⟩, ⟨_, _, rfl⟩, by rw [List.map_append]; exact w3⟩
        · rcases List.mem_append.mp hu with h | h
          · exact ok.1 u h
          · rw [List.mem_singleton] at h; subst h; exact hp
        · rw [List.map_append, List.nodup_append]
          refine ⟨ok.2, by simp, fun x hx y hy e => ?_⟩
          obtain ⟨u, hu, rfl⟩ := List.mem_map.mp hx
          simp at hy
          exact hne u hu (e.trans hy)
    · rintro σ' H' ⟨fs, hfs, ok, ⟨v3, v4, rfl⟩, w⟩
      rw [List.length_map, hl, List.take_length] at hfs
      have hfl : fs.length = ts.length := by rw [hl, hfs, List.length_map]
      walk_at "x"
      refine x_sortDT (w.get 0 rfl) (pk := fs.map trP) (by rw [List.map_map, List.map_map] <;> rfl) (fun bs ps p hp hs hb np => ?_)
      obtain ⟨gs, hg, rfl⟩ := perm_lift ok.2 hp
      have hgl : gs.length = fs.length := hg.length_eq
      have w1 := w.new (o := .lst (bs.map V.ref)) np
      have hbl : bs.length = gs.length := by have := Paired.length hb; rwa [List.length_map] at this
      have s1 := same_upd (o := .lst (bs.map V.ref)) np
      have okg := pairsOk_perm hg.symm ok
      have hb1 : ∀ {i : Nat} {b : Addr}, bs[i]? = some b → ∃ f : Tr, gs[i]? = some f ∧ upd H' p (.lst (bs.map V.ref)) b = some (.tup [.int (f.1 : Int), .int (f.2.1 : Int)]) := fun {i b} e => by
        obtain ⟨y, hy, r⟩ := paired_at hb e
        rw [List.getElem?_map] at hy
        cases e2 : gs[i]? with
        | none => rw [e2] at hy; cases hy
        | some f =>
          rw [e2] at hy
          cases hy
          exact ⟨f, rfl, s1 _ _ r⟩
      have hoff : ∀ t ∈ bs, t ∉ [(p, HO.lst (bs.map V.ref)), (d, HO.dT (fs.map entT2))].map (·.1) := fun t ht hm => by
        obtain ⟨i, hi, e⟩ := List.getElem_of_mem ht
        obtain ⟨f, _, hf⟩ := hb1 (i := i) (b := t) (by rw [List.getElem?_eq_getElem hi, e])
        simp only [List.map_cons, List.map_nil, List.mem_cons, List.not_mem_nil, or_false] at hm
        rcases hm with rfl | rfl
        · rw [w1.get 0 rfl] at hf; cases hf
        · rw [w1.get 1 rfl] at hf; cases hf
      obtain ⟨B1, sB1, hB1, w1⟩ := own_freezeA w1 bs hoff
      have hb2 : ∀ {i : Nat} {b : Addr}, bs[i]? = some b → ∃ f : Tr, gs[i]? = some f ∧ upd B1 p (.lst (bs.map V.ref)) b = some (.tup [.int (f.1 : Int), .int (f.2.1 : Int)]) := fun {i b} e => by
        obtain ⟨f, h1, h2⟩ := hb1 e
        have h3 := hB1 b (List.mem_of_getElem? e)
        rw [h2] at h3
        exact ⟨f, h1, same_upd (w1.none 0 rfl) _ _ h3⟩
      have wF := w1.freeze
      have sF : Same H (upd B1 p (.lst (bs.map V.ref))) := sB1.trans (same_upd (w1.none 0 rfl))
      have hp1 : SqL K (upd B1 p (.lst (bs.map V.ref))) p (bs.map V.ref) := SqL.of upd_same
      generalize upd B1 p (.lst (bs.map V.ref)) = BF at hb2 wF sF hp1
      refine ⟨_, rfl, ⟨_, wF.seq hp1⟩, cpE_list (xs := bs.map V.ref) (G := fun B2 i acc => ∃ us : List Addr, acc = us.map V.ref ∧ TrAll B2 us (gs.take i) ∧ ∀ t ∈ us, H t = none) wF hp1 ⟨[], rfl, .nil, fun _ h => nomatch h⟩ ?_ ?_⟩
      · rintro D i x H2 B2 acc hx sB ⟨us, rfl, hus, hn⟩ w2
        obtain ⟨b, hbx, rfl⟩ := map_at hx
        obtain ⟨f, hf, r⟩ := hb2 hbx
        have hi := (List.getElem?_eq_some_iff.mp hf).1
        have hul : us.length = i := by have := hus.len; rw [List.length_take] at this; omega
        have r2 := w2.ex _ _ (sB _ _ r)
        walk_at "x"
        refine ⟨rfl, ?_⟩
        walk_at "x"
        refine iteT ?_
        walk_at "x"
        refine x_ixXT (.inl (.inl r2)) (v := .int (f.1 : Int)) rfl ?_
        walk_at "x"
        refine x_ixXT (.inl (.inl r2)) (v := .int (f.2.1 : Int)) rfl ?_
        walk_at "x"
        have gv := DGet.t (k := trK f) (w2.get 1 rfl) r2
        rw [valT_some ok.2 (hg.mem_iff.mp (List.mem_of_getElem? hf))] at gv
        refine ⟨d, _, rfl, gv, ?_⟩
        walk_at "x"
        refine ⟨(by show 3 ≤ sizeLine; decide), fun t nt => ?_⟩
        have w3 := (w2.new (o := .tup (trV f)) nt).freeze
        have nB := w2.fresh nt
        have sB3 := same_upd (o := .tup (trV f)) nB
        refine cpE_fin w3 (sB.trans sB3) ⟨us ++ [t], by rw [List.map_append] <;> rfl, ?_, fun u hu => ?_⟩ (by rw [List.length_map]; omega)
        · rw [List.take_add_one, hf]
          exact (hus.same sB3).snoc upd_same
        · rcases List.mem_append.mp hu with h | h
          · exact hn u h
          · rw [List.mem_singleton] at h; subst h
            exact (sF.trans sB).free nB
      · rintro D H2 B2 acc sB ⟨us, rfl, hus, hn⟩ w2
        rw [List.length_map, hbl, List.take_length] at hus
        have sA := sF.trans sB
        refine k fs hfs ok gs hg ?_ D us H2 (sA.free (w2.none 0 rfl)) hn (sA.trans w2.ex) (w2.get 0 rfl) (hus.same w2.ex)
        exact hs

/-! ### Rule___init__ -/
def sp_Rule___init__ (A : Ads) (K : PySem.W.Frag) : Sp := fun vs H Q E => ∃ (p C dx : Addr) (v : V), vs = [.ref p, v] ∧ H p = some (.ins C dx []) ∧ Cls K C ∧ NoAttr K C "many" ∧ Thing H v ∧
  (∀ n : Nat, v = .int (n : Int) → 1 ≤ n → n ≤ 6 → RetX p (.ins C dx [("many", .int (n : Int))]) H Q) ∧ (¬ inR v 1 6 → ∀ H', Same H H' → E (.ref A.NoRule) none H')
theorem u_rule {K : PySem.W.Frag} {H : Hp} {Q : VK} {E : XK} {p C dx : Addr} {n : Nat} (e : H p = some (.ins C dx [])) (c : Cls K C) (na : NoAttr K C "many") (h1 : 1 ≤ n) (h6 : n ≤ 6) (q : RetX p (.ins C dx [("many", .int (n : Int))]) H Q) : sp_Rule___init__ A K [.ref p, .int (n : Int)] H Q E :=
  ⟨p, C, dx, _, rfl, e, c, na, .int _, fun n' en _ _ => by
    have : n = n' := by have := V.int.inj en; omega
    exact this ▸ q, fun h => absurd ⟨_, rfl, by omega, by omega⟩ h⟩
theorem ok_Rule___init__ (T : Txt K mg A) : FnOk P w K mg base (L2.CX P w) 2 A.a_Rule___init__ A.d_Rule___init__ ["self", "many"] (sp_Rule___init__ A K) := by
  refine T.F_Rule___init__.okX sc_Rule___init__ (fun vs H Q E h => ?_) (fun cdv A0 outer s H vs Q E hr h => ?_)
  · obtain ⟨p, C, dx, v, rfl, _⟩ := h; rfl
  · obtain ⟨p, C, dx, v, rfl, e, c, na, hT, k, kE⟩ := h
    refine ⟨_, (pss_cons (ps_if (PW.pt (pw_or (pt_not (pt_val (pe_call (ok_is_whole T) (hr.mono (by decide)) (by rfl) T.g_is_whole T.F_is_whole.kp T.b_is_whole .nil (passes_call (takes_of rfl rfl rfl rfl) (fun _ _ _ _ h => h)) (pa_cons (pv 1) pa_nil)))) (pw_or (pt_cmpR op_ltX (pv 1) pe_int (nomark _)) (pw_or1 (pt_cmpR op_gtX (pv 1) (pe_glob (v := .int 6) (by rfl) T.c_MOST ⟨_, rfl⟩) (nomark _)))))) (pss_one (ps_raise rfl (takes_of rfl rfl rfl rfl) (pmk_own PySem.F.excBase_ValueError T.x_NoRule T.g_NoRule T.k_NoRule (raises_own T.e_NoRule T.t_NoRule) (by rfl)))) pss_nil)
      (pss_one (ps_fld (pv 0) (pv 1) rfl))), ?_⟩
    walk_at "x"
    refine ⟨v, rfl, hT, fun H1 s1 => ?_⟩
    walk_at "x"
    cases hI : isI v with
    | false =>
      refine iteT (iteT (kE (fun ⟨z, ez, _⟩ => ?_) H1 s1))
      rw [ez] at hI; cases hI
    | true =>
      refine iteF ?_
      obtain ⟨z, rfl⟩ : ∃ z, v = .int z := by
        cases v with
        | int z => exact ⟨z, rfl⟩
        | _ => cases hI
      walk_at "x"
      by_cases c1 : z < 1
      · rw [decide_eq_true c1]
        refine iteT (iteT (kE (fun ⟨y, ey, h1, h2⟩ => ?_) H1 s1))
        obtain rfl := V.int.inj ey
        omega
      · rw [decide_eq_false c1]
        refine iteF ?_
        walk_at "x"
        by_cases c2 : 6 < z
        · rw [decide_eq_true c2]
          refine iteT (kE (fun ⟨y, ey, h1, h2⟩ => ?_) H1 s1)
          obtain rfl := V.int.inj ey
          omega
        · rw [decide_eq_false c2]
          refine iteF ?_
          obtain ⟨n, rfl⟩ := Int.eq_ofNat_of_zero_le (show 0 ≤ z by omega)
          walk_at "x"
          refine ⟨p, C, dx, [], rfl, s1 _ _ e, c, na, by decide, ?_⟩
          exact k n rfl (by omega) (by omega) _ (SameX.trans (Same.x s1) SameX.upd) upd_same
theorem u_mkRule {B H1 : Hp} {cs : Cells} {x d : Addr} {Q : VK} {E : XK} {m : Nat} (T : Txt K mg A) (w : Own B cs H1) (a0 : H1 x = none) (e0 : H1 d = none) (ne0 : d ≠ x) (h1 : 1 ≤ m) (h6 : m ≤ 6)
    (q : ∀ B2 H2, Same B B2 → Own B2 cs H2 → BaseE A.Rule K B2 x m → Q .non H2) : sp_Rule___init__ A K [.ref x, .int (m : Int)] (upd (upd H1 d (.own x)) x (.ins A.Rule d [])) Q E := by
  refine u_rule upd_same T.cl_Rule T.n_Rule_many h1 h6 fun J sx cx => ?_
  obtain ⟨B2, sB, w2, _, ex⟩ := own_mk w a0 e0 ne0 sx
  exact q B2 J sB w2 (.mk (ex.trans cx))

/-! ### Rule_hands -/
def sp_Rule_hands (A : Ads) (K : PySem.W.Frag) : Sp := fun vs H Q _ => ∃ (a : Addr) (m : Nat) (f : Nat → Int), vs = [.ref a] ∧ RuleAt A K H a m f ∧ RetV (.int (m : Int)) H Q
theorem ok_Rule_hands (T : Txt K mg A) : FnOk P w K mg base (L2.CX P w) 1 A.a_Rule_hands A.d_Rule_hands ["self"] (sp_Rule_hands A K) := by
  refine T.F_Rule_hands.okX sc_Rule_hands (fun vs H Q E h => ?_) (fun cdv A0 outer s H vs Q E hr h => ?_)
  · obtain ⟨a, m, f, rfl, _⟩ := h; rfl
  · obtain ⟨a, m, f, rfl, R, k⟩ := h
    obtain ⟨C, dx, fs, i, c, n⟩ := R.ins T
    refine ⟨_, (pss_one (ps_ret (pe_fldK (K := K) rfl (pv 0) rfl))), ?_⟩
    walk_at "x"
    exact ⟨a, C, dx, fs, _, rfl, i.e, c, n, i.many, k _ (Same.refl _)⟩

/-! ### Pairs_reckoned -/
def sp_Pairs_reckoned (A : Ads) (K : PySem.W.Frag) : Sp := fun vs H Q _ => ∃ (a : Addr) (m g : Nat) (f : Nat → Int), vs = [.ref a, .int (g : Int)] ∧ PairsAt A.Pairs K H a m f ∧ g < 2 ^ m ∧ m ≤ 6 ∧ RetV (.int (f g)) H Q
theorem ok_Pairs_reckoned (T : Txt K mg A) : FnOk P w K mg base (L2.CX P w) 1 A.a_Pairs_reckoned A.d_Pairs_reckoned ["self", "group"] (sp_Pairs_reckoned A K) := by
  refine T.F_Pairs_reckoned.okX sc_Pairs_reckoned (fun vs H Q E h => ?_) (fun cdv A0 outer s H vs Q E hr h => ?_)
  · obtain ⟨a, m, g, f, rfl, _⟩ := h; rfl
  · obtain ⟨a, m, g, f, rfl, R, hg, hm, k⟩ := h
    cases R with
    | @mk dx l ts fs e h hr2 hp hf =>
      have hg64 : g < 64 := Nat.lt_of_lt_of_le hg (pow6 hm)
      refine ⟨_, (pss_cons (ps_set (i := 2) sc_Pairs_reckoned.nd rfl (.inl rfl) pe_int)
      (pss_cons (ps_for (passes_of rfl) rfl (pi_listK (K := K) rfl (pe_fldK (K := K) rfl (pv 0) rfl)) (pg_tupK (K := K) (n := 3) rfl rfl (pgs_cons (pg_name (i := 3) sc_Pairs_reckoned.nd rfl (.inl rfl)) (pgs_cons (pg_name (i := 4) sc_Pairs_reckoned.nd rfl (.inl rfl)) (pgs_cons (pg_name (i := 5) sc_Pairs_reckoned.nd rfl (.inl rfl)) pgs_nil)))) (pss_one (ps_if (pt_cmpR (op_eqK (K := K) rfl hr.units) (pe_op op_andX (pe_op op_andX (pe_op op_shrX (pv 1) (pv 3)) (pe_op op_shrX (pv 1) (pv 4))) pe_int) pe_int (nomark _)) (pss_one (ps_aug (i := 2) sc_Pairs_reckoned.nd rfl (.inl rfl) (pv 5) ip_add)) pss_nil)))
      (pss_one (ps_ret (pv 2))))), ?_⟩
      walk_at "x"
      refine ⟨a, _, dx, _, .ref l, rfl, e, T.cl_Pairs, T.n_Pairs_pairs, rfl, ?_⟩
      refine ⟨l, rfl, ⟨_, h⟩, for_list (xs := ts.map V.ref) (fun i σ' H' => (∃ v3 v4 v5, σ' = [some (.ref a), some (.int (g : Int)), some (.int (pairsS (fs.take i) g)), v3, v4, v5]) ∧ H' = H) ⟨⟨_, _, _, rfl⟩, rfl⟩ (fun i σ' H' _ h' => by rw [h'.2]; exact h) ?_ ?_⟩
      · rintro i x σ' H' hx ⟨⟨v3, v4, v5, rfl⟩, rfl⟩
        obtain ⟨t, ht, rfl⟩ := map_at hx
        obtain ⟨tr, htr, hT⟩ := hr2.at ht
        obtain ⟨p1, p2⟩ := hp tr (List.mem_of_getElem? htr)
        refine x_gt (SqT.of hT) rfl ?_
        walk_at "x"
        refine x_shr (by omega) ?_
        walk_at "x"
        refine x_shr (by omega) ?_
        walk_at "x"
        rw [both_int (by omega) (by omega) hg64]
        have st := pairsS_step htr g
        unfold both at st
        cases c : (bitOn tr.1 g && bitOn tr.2.1 g) with
        | true =>
          rw [c, if_pos rfl] at st
          refine iteT ?_
          walk_at "x"
          rw [← st]
          exact ⟨⟨_, _, _, rfl⟩, rfl⟩
        | false =>
          rw [c, if_neg Bool.false_ne_true, Int.add_zero] at st
          refine iteF ?_
          rw [← st]
          exact ⟨⟨_, _, _, rfl⟩, rfl⟩
      · rintro σ' H' ⟨⟨v3, v4, v5, rfl⟩, rfl⟩
        rw [List.length_map, hr2.len, List.take_length]
        walk_at "x"
        rw [← hf g hg]
        exact k _ (Same.refl _)

/-! ### Match_reckoned -/
def sp_Match_reckoned (A : Ads) (K : PySem.W.Frag) : Sp := fun vs H Q _ => ∃ (a : Addr) (m g : Nat) (f : Nat → Int), vs = [.ref a, .int (g : Int)] ∧ MatchAt A.Match K H a m f ∧ g < 2 ^ m ∧ m ≤ 6 ∧ RetV (.int (f g)) H Q
theorem ok_Match_reckoned (T : Txt K mg A) : FnOk P w K mg base (L2.CX P w) 1 A.a_Match_reckoned A.d_Match_reckoned ["self", "group"] (sp_Match_reckoned A K) := by
  refine T.F_Match_reckoned.okX sc_Match_reckoned (fun vs H Q E h => ?_) (fun cdv A0 outer s H vs Q E hr h => ?_)
  · obtain ⟨a, m, g, f, rfl, _⟩ := h; rfl
  · obtain ⟨a, m, g, f, rfl, R, hg, hm, k⟩ := h
    cases R with
    | @mk fs x hf =>
      cases x with
      | @mk dx l d s' ts e h hr2 hd hs hp h1 h6 =>
      have hlen := bestL_len fs (2 ^ m - 1)
      refine ⟨_, (pss_one (ps_ret (pe_ix (ix_seqK (K := K) rfl) (pe_fldK (K := K) rfl (pv 0) rfl) (pv 1) (fun _ _ => rfl)))), ?_⟩
      walk_at "x"
      refine ⟨a, _, dx, _, .ref s', rfl, e, T.cl_Match, T.n_Match_sums, rfl, ?_⟩
      walk_at "x"
      refine x_ixXL hs (at_int (ns := bestL fs (2 ^ m - 1)) (by omega) (by omega)) ?_
      rw [← hf g hg]
      exact k _ (Same.refl _)

/-! ### ropes_from -/
def sp_ropes_from (K : PySem.W.Frag) : Sp := fun vs H Q _ => ∃ (cA rA jA : Addr) (h : Nat) (cs : List Int) (us : List Addr) (fs : List Tr) (js : List Nat), vs = [.ref cA, .ref rA, .ref jA, .int (h : Int)] ∧ SqL K H cA (cs.map V.int) ∧ h < cs.length ∧ SqL K H rA (us.map V.ref) ∧ TrAll H us fs ∧ SqL K H jA (js.map vnat) ∧ fs.length ≤ 64 ∧
  ∀ (p : Addr) (ts : List Addr) (H' : Hp), H p = none → Same H H' → H' p = some (.lst (ts.map V.ref)) → RpAll H' ts (ropesM cs fs js h) → Q (.ref p) H'
theorem ok_ropes_from (T : Txt K mg A) : FnOk P w K mg base (L2.CX P w) 1 A.a_ropes_from A.d_ropes_from ["costs", "ropes", "joined", "hand"] (sp_ropes_from K) := by
  refine T.F_ropes_from.okX sc_ropes_from (fun vs H Q E h => ?_) (fun cdv A0 outer st H vs Q E hr h => ?_)
  · obtain ⟨cA, rA, jA, h, cs, us, fs, js, rfl, _⟩ := h; rfl
  · obtain ⟨cA, rA, jA, h, cs, us, fs, js, rfl, hC, hh, hR, fa, hJ, hl, k⟩ := h
    refine ⟨_, (pss_cons (ps_set (i := 4) sc_ropes_from.nd rfl (.inl rfl) (pe_lst (pa_cons (pe_tup (pa_cons (pe_ix (ix_seqK (K := K) rfl) (pv 0) (pv 3) (fun _ _ => rfl)) (pa_cons (pv 3) (pa_cons (pv 3) pa_nil)))) pa_nil)))
      (pss_cons (ps_for (passes_of rfl) rfl (pi_listK (K := K) rfl (pv 1)) (pg_tupK (K := K) (n := 3) rfl rfl (pgs_cons (pg_name (i := 5) sc_ropes_from.nd rfl (.inl rfl)) (pgs_cons (pg_name (i := 6) sc_ropes_from.nd rfl (.inl rfl)) (pgs_cons (pg_name (i := 7) sc_ropes_from.nd rfl (.inl rfl)) pgs_nil)))) (pss_one (ps_if (PW.pt (pw_or (PW.pt (pw_and (pt_cmpR (op_eqK (K := K) rfl hr.units) (pv 5) (pv 3) (nomark _)) (pw_and1 (pt_cmpR (op_in_seqK (K := K) rfl) (pv 6) (pv 2) (by rfl))))) (pw_or1 (PW.pt (pw_and (pt_cmpR (op_eqK (K := K) rfl hr.units) (pv 6) (pv 3) (nomark _)) (pw_and1 (pt_cmpR (op_in_seqK (K := K) rfl) (pv 5) (pv 2) (by rfl)))))))) (pss_one (ps_expr (pe_bm PySem.F.plainAttrs_list PySem.F.slot_list_append PySem.F.type_list_append mt_append (pv 4) (pa_cons (pe_tup (pa_cons (pv 7) (pa_cons (pv 5) (pa_cons (pv 6) pa_nil)))) pa_nil)))) pss_nil)))
      (pss_one (ps_ret (pv 4))))), ?_⟩
    walk_at "x"
    refine x_ixXL hC (at_int (by omega) (by omega)) ?_
    walk_at "x"
    refine ⟨(by show 3 ≤ sizeLine; decide), fun t0 n0 => ?_⟩
    have w1 := (Own.start (H := H)).new (o := .tup [.int (gi cs (h : Int)), .int (h : Int), .int (h : Int)]) n0
    have w1 := w1.freeze
    have s1 := same_upd (o := .tup [.int (gi cs (h : Int)), .int (h : Int), .int (h : Int)]) n0
    have e0 : upd H t0 (.tup [.int (gi cs (h : Int)), .int (h : Int), .int (h : Int)]) t0 = some (.tup [.int (gi cs (h : Int)), .int (h : Int), .int (h : Int)]) := upd_same
    generalize upd H t0 (.tup [.int (gi cs (h : Int)), .int (h : Int), .int (h : Int)]) = B1 at *
    refine x_nil ?_
    refine ⟨(by show 1 ≤ sizeLine; decide), fun pF nF => ?_⟩
    have w2 := w1.new (o := .lst ([t0].map V.ref)) nF
    have nF := s1.free nF
    walk_at "x"
    have hul := fa.len
    refine ⟨rA, rfl, ⟨_, w2.seq (s1.seq hR)⟩, for_list (xs := us.map V.ref) (fun i σ' H' => ∃ (B : Hp) (ts : List Addr) (v5 v6 v7 : Option V), σ' = [some (.ref cA), some (.ref rA), some (.ref jA), some (.int (h : Int)), some (.ref pF), v5, v6, v7] ∧ Same H B ∧ RpAll B ts (ropesM cs (fs.take i) js h) ∧ Own B [(pF, .lst (ts.map V.ref))] H') ⟨B1, [t0], _, _, _, rfl, s1, .cons e0 .nil, w2⟩ (fun i σ' H' _ h => ?_) ?_ ?_⟩
    · obtain ⟨B, ts, _, _, _, _, sB, _, w⟩ := h
      exact w.seq (sB.seq hR)
    · rintro i u σ' H3 hx ⟨B, ts, v5, v6, v7, rfl, sB, hts, w⟩
      obtain ⟨u, hu, rfl⟩ := map_at hx
      obtain ⟨f, hf, hr⟩ := fa.at hu
      have hT : SqT K H3 u [.int (f.1 : Int), .int (f.2.1 : Int), .int f.2.2] := .inl (.inl ((sB.trans w.ex) _ _ hr))
      have hJ : SqL K H3 jA (js.map vnat) := w.seq (sB.seq hJ)
      have hi : i < fs.length := (List.getElem?_eq_some_iff.mp hf).1
      have yes : joinsR js h f = true → ropesM cs (fs.take (i + 1)) js h = ropesM cs (fs.take i) js h ++ [ropeW h f] := fun e => by
        unfold ropesM
        rw [List.take_add_one, hf, List.filter_append]
        show _ :: (_ ++ List.filter (joinsR js h) [f]).map (ropeW h) = _
        rw [List.filter_cons, if_pos e, List.map_append] <;> rfl
      have no : joinsR js h f = false → ropesM cs (fs.take (i + 1)) js h = ropesM cs (fs.take i) js h := fun e => by
        unfold ropesM
        rw [List.take_add_one, hf, List.filter_append]
        show _ :: (_ ++ List.filter (joinsR js h) [f]).map (ropeW h) = _
        rw [List.filter_cons, if_neg (by rw [e]; exact Bool.false_ne_true)]
        show _ :: (_ ++ []).map (ropeW h) = _
        rw [List.append_nil]
      refine x_gt hT rfl ?_
      have eqn : ∀ a : Nat, decide ((a : Int) = (h : Int)) = decide (a = h) := fun a => decide_eq_decide.mpr (by omega)
      walk_at "x"
      cases c1 : decide (f.1 = h) with
      | false =>
        rw [eqn, c1]
        refine iteF ?_
        refine iteF ?_
        walk_at "x"
        cases c3 : decide (f.2.1 = h) with
        | false =>
          rw [eqn, c3]
          refine iteF ?_
          refine iteF ?_
          exact x_next ⟨B, ts, _, _, _, rfl, sB, by rw [no (by unfold joinsR; rw [c1, Bool.false_and, c3]; rfl)]; exact hts, w⟩
        | true =>
          rw [eqn, c3]
          refine iteT ?_
          walk_at "x"
          refine x_inN hJ ?_
          walk_at "x"
          cases c4 : decide (f.1 ∈ js) with
          | false =>
            refine iteF ?_
            exact x_next ⟨B, ts, _, _, _, rfl, sB, by rw [no (by unfold joinsR; rw [c1, Bool.false_and, c3, c4]; rfl)]; exact hts, w⟩
          | true =>
            refine iteT ?_
            walk_at "x"
            refine ⟨x_tyL (w.get 0 rfl), ?_⟩
            walk_at "x"
            refine ⟨(by show 3 ≤ sizeLine; decide), fun t nt => ?_⟩
            have w3 := w.new (o := .tup [.int f.2.2, .int (f.1 : Int), .int (f.2.1 : Int)]) nt
            have nB := w3.none 0 rfl
            have w4 := w3.freeze
            have sN := same_upd (o := .tup [.int f.2.2, .int (f.1 : Int), .int (f.2.1 : Int)]) nB
            refine x_nil ?_
            refine x_append (w4.get 0 rfl) (by rw [List.length_map, hts.len]; unfold ropesM; rw [List.length_cons, List.length_map]; have := List.length_filter_le (joinsR js h) (fs.take i); rw [List.length_take] at this; exact Nat.lt_of_le_of_lt (show _ ≤ 100 by omega) (by decide)) ?_
            rw [show ts.map V.ref ++ [V.ref t] = (ts ++ [t]).map V.ref by rw [List.map_append] <;> rfl]
            exact ⟨_, ts ++ [t], _, _, _, rfl, sB.trans sN, by rw [yes (by unfold joinsR; rw [c1, Bool.false_and, c3, c4]; rfl)]; exact RpAll.snoc (w := ropeW h f) upd_same (hts.same sN), w4.put (o' := .lst ((ts ++ [t]).map V.ref)) 0 rfl⟩
      | true =>
        rw [eqn, c1]
        refine iteT ?_
        walk_at "x"
        refine x_inN hJ ?_
        walk_at "x"
        cases c2 : decide (f.2.1 ∈ js) with
        | true =>
          refine iteT ?_
          refine iteT ?_
          walk_at "x"
          refine ⟨x_tyL (w.get 0 rfl), ?_⟩
          walk_at "x"
          refine ⟨(by show 3 ≤ sizeLine; decide), fun t nt => ?_⟩
          have w3 := w.new (o := .tup [.int f.2.2, .int (f.1 : Int), .int (f.2.1 : Int)]) nt
          have nB := w3.none 0 rfl
          have w4 := w3.freeze
          have sN := same_upd (o := .tup [.int f.2.2, .int (f.1 : Int), .int (f.2.1 : Int)]) nB
          refine x_nil ?_
          refine x_append (w4.get 0 rfl) (by rw [List.length_map, hts.len]; unfold ropesM; rw [List.length_cons, List.length_map]; have := List.length_filter_le (joinsR js h) (fs.take i); rw [List.length_take] at this; exact Nat.lt_of_le_of_lt (show _ ≤ 100 by omega) (by decide)) ?_
          rw [show ts.map V.ref ++ [V.ref t] = (ts ++ [t]).map V.ref by rw [List.map_append] <;> rfl]
          exact ⟨_, ts ++ [t], _, _, _, rfl, sB.trans sN, by rw [yes (by unfold joinsR; rw [c1, c2]; rfl)]; exact RpAll.snoc (w := ropeW h f) upd_same (hts.same sN), w4.put (o' := .lst ((ts ++ [t]).map V.ref)) 0 rfl⟩
        | false =>
          refine iteF ?_
          walk_at "x"
          cases c3 : decide (f.2.1 = h) with
          | false =>
            rw [eqn, c3]
            refine iteF ?_
            refine iteF ?_
            exact x_next ⟨B, ts, _, _, _, rfl, sB, by rw [no (by unfold joinsR; rw [c1, c2, c3]; rfl)]; exact hts, w⟩
          | true =>
            rw [eqn, c3]
            refine iteT ?_
            walk_at "x"
            refine x_inN hJ ?_
            walk_at "x"
            cases c4 : decide (f.1 ∈ js) with
            | false =>
              refine iteF ?_
              exact x_next ⟨B, ts, _, _, _, rfl, sB, by rw [no (by unfold joinsR; rw [c1, c2, c3, c4]; rfl)]; exact hts, w⟩
            | true =>
              refine iteT ?_
              walk_at "x"
              refine ⟨x_tyL (w.get 0 rfl), ?_⟩
              walk_at "x"
              refine ⟨(by show 3 ≤ sizeLine; decide), fun t nt => ?_⟩
              have w3 := w.new (o := .tup [.int f.2.2, .int (f.1 : Int), .int (f.2.1 : Int)]) nt
              have nB := w3.none 0 rfl
              have w4 := w3.freeze
              have sN := same_upd (o := .tup [.int f.2.2, .int (f.1 : Int), .int (f.2.1 : Int)]) nB
              refine x_nil ?_
              refine x_append (w4.get 0 rfl) (by rw [List.length_map, hts.len]; unfold ropesM; rw [List.length_cons, List.length_map]; have := List.length_filter_le (joinsR js h) (fs.take i); rw [List.length_take] at this; exact Nat.lt_of_le_of_lt (show _ ≤ 100 by omega) (by decide)) ?_
              rw [show ts.map V.ref ++ [V.ref t] = (ts ++ [t]).map V.ref by rw [List.map_append] <;> rfl]
              exact ⟨_, ts ++ [t], _, _, _, rfl, sB.trans sN, by rw [yes (by unfold joinsR; rw [c1, c2, c3, c4]; rfl)]; exact RpAll.snoc (w := ropeW h f) upd_same (hts.same sN), w4.put (o' := .lst ((ts ++ [t]).map V.ref)) 0 rfl⟩
    · rintro σ' H3 ⟨B, ts, v5, v6, v7, rfl, sB, hts, w⟩
      rw [List.length_map, hul, List.take_length] at hts
      walk_at "x"
      exact k pF ts H3 nF (sB.trans w.ex) (w.get 0 rfl) (hts.same w.ex)

/-! ### cheapest -/
def sp_cheapest (A : Ads) (K : PySem.W.Frag) : Sp := fun vs H Q E => ∃ (cA rA : Addr) (g m : Nat) (cs : List Int) (us : List Addr) (fs : List Tr), vs = [.ref cA, .ref rA, .int (g : Int)] ∧ SqL K H cA (cs.map V.int) ∧ cs.length = m ∧ m ≤ 6 ∧ g < 2 ^ m ∧ SqL K H rA (us.map V.ref) ∧ TrAll H us fs ∧ fs.length ≤ 15 ∧
  ∀ (p : Addr) (ts : List Addr) (ws : List Way) (H' : Hp), H p = none → Same H H' → H' p = some (.lst (ts.map V.ref)) → RpAll H' ts ws → Run cs fs (handsM g) [] ws → Q (.ref p) H'
theorem hands_ltD : ∀ m, m < 7 → ∀ g, g < 2 ^ m → ((handsM g).all fun h => decide (h < m)) = true := by decide +kernel
theorem hands_ltC {g m h : Nat} (hg : g < 2 ^ m) (m6 : m ≤ 6) (hm : h ∈ handsM g) : h < m := by
  have := hands_ltD m (by omega) g hg
  exact of_decide_eq_true (List.all_eq_true.mp this h hm)
theorem hands_le6 : ∀ g, g < 64 → (handsM g).length ≤ 6 := by decide +kernel
theorem erase_int : ∀ (l : List Nat) (x : Nat), x ∈ l → ∃ j : Nat, (l.map fun g => ((g : Nat) : Int))[j]? = some (x : Int) ∧ (∀ m : Nat, m < j → (l.map fun g => ((g : Nat) : Int))[m]? ≠ some (x : Int)) ∧ (l.map fun g => ((g : Nat) : Int)).eraseIdx j = (l.erase x).map fun g => ((g : Nat) : Int)
  | [], _, h => nomatch h
  | y :: l, x, h => by
    by_cases c : y = x
    · subst c
      refine ⟨0, rfl, fun m hm => absurd hm (Nat.not_lt_zero m), ?_⟩
      rw [List.erase_cons_head] <;> rfl
    · have hx : x ∈ l := by
        rcases List.mem_cons.mp h with e | e
        · exact absurd e.symm c
        · exact e
      obtain ⟨j, h1, h2, h3⟩ := erase_int l x hx
      refine ⟨j + 1, by simpa using h1, fun m hm => ?_, ?_⟩
      · cases m with
        | zero => intro e; have e : ((y : Nat) : Int) = (x : Int) := Option.some.inj e; exact c (by omega)
        | succ m => have := h2 m (by omega); simpa using this
      · rw [List.erase_cons_tail (by simpa using c), List.map_cons, List.eraseIdx_cons_succ, h3] <;> rfl
theorem ok_cheapest (T : Txt K mg A) : FnOk P w K mg base (L2.CX P w) 4 A.a_cheapest A.d_cheapest ["costs", "ropes", "group"] (sp_cheapest A K) := by
  refine T.F_cheapest.okX sc_cheapest (fun vs H Q E h => ?_) (fun cdv A0 outer st H vs Q E hr h => ?_)
  · obtain ⟨cA, rA, g, m, cs, us, fs, rfl, _⟩ := h; rfl
  · obtain ⟨cA, rA, g, m, cs, us, fs, rfl, hC, hcl, m6, hg, hR, fa, hfl, k⟩ := h
    have h64 := pow6 m6
    refine ⟨_, (pss_cons (ps_set (i := 3) sc_cheapest.nd rfl (.inl rfl) (pe_call (ok_hands_of T) (hr.mono (by decide)) (by rfl) T.g_hands_of T.F_hands_of.kp T.b_hands_of .nil (passes_call (takes_of rfl rfl rfl rfl) (fun _ _ _ _ h => h)) (pa_cons (pv 2) pa_nil)))
      (pss_cons (ps_set (i := 4) sc_cheapest.nd rfl (.inl rfl) (pe_lst pa_nil))
      (pss_cons (ps_set (i := 5) sc_cheapest.nd rfl (.inl rfl) (pe_lst pa_nil))
      (pss_cons (ps_while (passes_of rfl) (pt_cmpR (op_neK (K := K) rfl hr.units) (pv 3) (pe_lst pa_nil) (nomark _)) (pss_cons (ps_set (i := 6) sc_cheapest.nd rfl (.inl rfl) (pe_lst pa_nil))
      (pss_cons (ps_for (passes_of rfl) rfl (pi_listK (K := K) rfl (pv 3)) (pg_name (i := 7) sc_cheapest.nd rfl (.inr rfl)) (pss_one (ps_aug (i := 6) sc_cheapest.nd rfl (.inl rfl) (pe_lc (own := [("rope", 8)]) rfl sc_cheapest.nd (pi_listK (K := K) rfl (pe_call (ok_ropes_from T) (hr.mono (by decide)) (by rfl) T.g_ropes_from T.F_ropes_from.kp T.b_ropes_from .nil (passes_call (takes_of rfl rfl rfl rfl) (fun _ _ _ _ h => h)) (pa_cons (pv 0) (pa_cons (pv 1) (pa_cons (pv 4) (pa_cons (pv 7) pa_nil)))))) (blkOk_by (own := [("rope", 8)]) (N := N_cheapest) (sc := defScope s_cheapest) (by decide +kernel)) (fun _ _ _ _ _ => (pg_name (i := 8) sc_cheapest.nd rfl (.inl rfl))) (fun _ _ _ _ _ => pts_nil) (fun _ _ _ _ _ => (pe_tup (pa_cons (pv 8) (pa_cons (pv 7) pa_nil))))) iop_ext)))
      (pss_cons (ps_asg (pe_callB (cr_minWK (K := K) rfl rfl hr.units) (by rfl) T.z_min (by decide +kernel) (pa_cons (pv 6) pa_nil)) (pg_tupK (K := K) (n := 2) rfl rfl (pgs_cons (pg_name (i := 8) sc_cheapest.nd rfl (.inl rfl)) (pgs_cons (pg_name (i := 7) sc_cheapest.nd rfl (.inr rfl)) pgs_nil))))
      (pss_cons (ps_expr (pe_bm PySem.F.plainAttrs_list PySem.F.slot_list_append PySem.F.type_list_append mt_append (pv 5) (pa_cons (pv 8) pa_nil)))
      (pss_cons (ps_expr (pe_bm PySem.F.plainAttrs_list PySem.F.slot_list_append PySem.F.type_list_append mt_append (pv 4) (pa_cons (pv 7) pa_nil)))
      (pss_one (ps_expr (pe_bm PySem.F.plainAttrs_list PySem.F.slot_list_remove PySem.F.type_list_remove mt_remove (pv 3) (pa_cons (pv 7) pa_nil))))))))))
      (pss_one (ps_ret (pv 5))))))), ?_⟩
    walk_at "x"
    refine u_hands_of (by omega) (fun pL H1 nL s1 cL => ?_)
    have w1 := (Own.start (H := H)).newE nL s1 cL
    walk_at "x"
    refine ⟨(by show 0 ≤ sizeLine; decide), fun pJ nJ => ?_⟩
    have w2 := w1.new (o := .lst (([] : List Nat).map vnat)) nJ
    walk_at "x"
    refine ⟨(by show 0 ≤ sizeLine; decide), fun pD nD => ?_⟩
    have w3 := w2.new (o := .lst (([] : List Addr).map V.ref)) nD
    have nD := w3.none 0 rfl
    dsimp only
    refine x_seq ?_
    refine x_while (fun n σ' H' => ∃ (B : Hp) (left js : List Nat) (ts : List Addr) (ws : List Way) (v6 v7 v8 : Option V), σ' = [some (.ref cA), some (.ref rA), some (.int (g : Int)), some (.ref pL), some (.ref pJ), some (.ref pD), v6, v7, v8] ∧ Same H B ∧ Own B [(pD, .lst (ts.map V.ref)), (pJ, .lst (js.map vnat)), (pL, .lst (left.map vnat))] H' ∧ RpAll B ts ws ∧ (∀ rest, Run cs fs left js rest → Run cs fs (handsM g) [] (ws ++ rest)) ∧ (∀ h ∈ left, h < m) ∧ left.length = n ∧ js.length + n ≤ 6 ∧ ts.length = js.length) (handsM g).length
      ⟨H, handsM g, [], [], [], _, _, _, rfl, Same.refl H, w3, .nil, fun _ h => h, fun h hm => hands_ltC hg m6 hm, rfl, by show 0 + _ ≤ 6; have := hands_le6 g (by omega); omega, rfl⟩ ?_
    rintro n σ' H4 ⟨B, left, js, ts, ws, v6, v7, v8, rfl, sB, w, hts, run, hlt, hn, hjs, htj⟩
    walk_at "x"
    refine ⟨(by show 0 ≤ sizeLine; decide), fun p0 n0 => ?_⟩
    have w0 := w.new (o := .lst []) n0
    have el : left.map vnat = (left.map fun g => ((g : Nat) : Int)).map V.int := by rw [List.map_map] <;> rfl
    refine x_neLI (ns := left.map fun g => ((g : Nat) : Int)) (ms := []) (by rw [← el]; exact w0.sq 3 rfl) (SqL.of (w0.get 0 rfl)) ?_
    have w := w0.pop
    walk_at "x"
    by_cases c0 : left = []
    · subst c0
      refine iteF ?_
      walk_at "x"
      refine k pD ts ws _ nD (sB.trans w.ex) (w.get 0 rfl) (hts.same w.ex) ?_
      have := run [] .done
      rwa [List.append_nil] at this
    · rw [decide_eq_false (show ¬ left.map (fun g => ((g : Nat) : Int)) = [] from fun e => c0 (List.map_eq_nil_iff.mp e))]
      refine iteT ?_
      refine x_N ?_
      walk_at "x"
      refine ⟨(by show 0 ≤ sizeLine; decide), fun pW nW => ?_⟩
      have w1 := w.new (o := .lst (([] : List Addr).map V.ref)) nW
      walk_at "x"
      refine ⟨pL, rfl, ⟨_, w1.sq 3 rfl⟩, for_list (xs := left.map vnat) (fun i σ' H' => ∃ (B2 : Hp) (qs : List Addr) (v7 v8 : Option V), σ' = [some (.ref cA), some (.ref rA), some (.int (g : Int)), some (.ref pL), some (.ref pJ), some (.ref pD), some (.ref pW), v7, v8] ∧ Same B B2 ∧ WyAll B2 qs (waysM cs fs js (left.take i)) ∧ Own B2 [(pW, .lst (qs.map V.ref)), (pD, .lst (ts.map V.ref)), (pJ, .lst (js.map vnat)), (pL, .lst (left.map vnat))] H') ⟨B, [], _, _, rfl, Same.refl B, .nil, w1⟩ (fun i σ' H' _ h => ?_) ?_ ?_⟩
      · obtain ⟨B2, qs, _, _, _, _, _, w⟩ := h
        exact w.sq 3 rfl
      · rintro i x σ' H6 hx ⟨B2, qs, v7, v8, rfl, sB2, hqs, w2⟩
        obtain ⟨h, hh, rfl⟩ := map_at hx
        have hm := hlt h (List.mem_of_getElem? hh)
        have sB' := sB.trans sB2
        have hil : i < left.length := (List.getElem?_eq_some_iff.mp hh).1
        walk_at "x"
        refine ⟨cA, rA, pJ, h, cs, us, fs, js, rfl, w2.seq (sB'.seq hC), by omega, w2.seq (sB'.seq hR), fa.same (sB'.trans w2.ex), w2.sq 2 rfl, by omega, fun p8 rs H8 n8 s8 c8 hrs => ?_⟩
        have w3 := w2.ext s8
        have hrl := hrs.len
        obtain ⟨B3, sB3, w4, hB3⟩ := own_frz w3 (Same.refl _)
        have c8' : B3 p8 = some (.lst (rs.map V.ref)) := (hB3 p8 (w2.off n8)).trans c8
        have offT : ∀ {q : Addr} {f : List V}, H8 q = some (.tup f) → B3 q = some (.tup f) := fun {q f} hq => (hB3 q fun hm => by
          have hm : q ∈ [pW, pD, pJ, pL] := hm
          simp only [List.mem_cons, List.not_mem_nil, or_false] at hm
          rcases hm with rfl | rfl | rfl | rfl
          · rw [w3.get 0 rfl] at hq; cases hq
          · rw [w3.get 1 rfl] at hq; cases hq
          · rw [w3.get 2 rfl] at hq; cases hq
          · rw [w3.get 3 rfl] at hq; cases hq).trans hq
        have hrs3 : RpAll B3 rs (ropesM cs fs js h) := hrs.move (fun e => offT e)
        refine ⟨p8, rfl, ⟨_, SqL.of c8⟩, cpb_list (xs := rs.map V.ref) (WyR (ropesM cs fs js h)) w4 (SqL.of c8') WyR.nil ?_ ?_⟩
        · intro D j x B4 ys H9 hx sB4 hR w5
          obtain ⟨r, hr1, rfl⟩ := map_at hx
          obtain ⟨wy, hwy, er⟩ := hrs3.at hr1
          have hwh := ropes_hand (List.mem_of_getElem? hwy)
          walk_at "x"
          refine ⟨rfl, ?_⟩
          walk_at "x"
          refine iteT ?_
          walk_at "x"
          refine ⟨(by show 2 ≤ sizeLine; decide), fun q nq => ?_⟩
          have w6 := w5.new (o := .tup [.ref r, .int (wy.h : Int)]) nq
          rw [hwh] at w6
          have nB := w6.none 0 rfl
          have w7 := w6.freeze
          have sN := same_upd (o := .tup [.ref r, .int (h : Int)]) nB
          exact pvb_fin (sB4.trans sN) (hR.snoc sN hwy (by rw [hwh]; exact upd_same) (sN _ _ (sB4 _ _ er))) w7 (by have := hR.len; have := ropes_len (cs := cs) (fs := fs) (js := js) (h := h); have := (List.getElem?_eq_some_iff.mp hwy).1; omega)
        · intro D B4 ys H9 sB4 hR w5
          obtain ⟨us2, rfl, f2⟩ := hR
          rw [List.length_map, hrl, List.take_length] at f2
          have hq2 := (hqs.same (sB3.trans sB4)).app f2
          have ew : waysM cs fs js (left.take (i + 1)) = waysM cs fs js (left.take i) ++ ropesM cs fs js h := by
            unfold waysM
            rw [List.take_add_one, hh, List.flatMap_append]
            show _ ++ (ropesM cs fs js h ++ []) = _
            rw [List.append_nil]
          rw [← ew] at hq2
          have l1 := hqs.len
          have l2 := f2.len
          have l3 := ways_len (cs := cs) (fs := fs) (js := js) (left.take i)
          have l4 := ropes_len (cs := cs) (fs := fs) (js := js) (h := h)
          have l5 : (left.take i).length * (fs.length + 1) ≤ 6 * 16 := Nat.mul_le_mul (by rw [List.length_take]; omega) (by omega)
          refine ⟨pW, D, qs.map V.ref, us2.map V.ref, rfl, rfl, w5.get 1 rfl, w5.get 0 rfl, Nat.le_trans (show _ ≤ 200 by rw [List.length_map, List.length_map]; omega) (by decide), ?_⟩
          rw [← List.map_append]
          have w6 := w5.put (o' := .lst ((qs ++ us2).map V.ref)) 1 rfl
          exact ⟨B4, qs ++ us2, _, _, rfl, (sB2.trans sB3).trans sB4, hq2, w6.sub (.cons _ (.cons_cons _ (.cons_cons _ (.cons_cons _ (.cons_cons _ .slnil)))))⟩
      · rintro σ' H6 ⟨B2, qs, v7, v8, rfl, sB2, hqs, w2⟩
        rw [List.length_map, List.take_length] at hqs
        obtain ⟨w0, ws', hws⟩ : ∃ w0 ws', waysM cs fs js left = w0 :: ws' := by
          cases left with
          | nil => exact absurd rfl c0
          | cons h l => exact ⟨_, _, rfl⟩
        have hqs' := hqs
        rw [hws] at hqs'
        have hmem := least_mem w0 ws'
        have hle := least_le w0 ws'
        have hll : leastW w0 ws' = leastL (waysM cs fs js left) := by rw [hws] <;> rfl
        rw [← hws] at hmem hle
        have hhl := ways_hand hmem
        walk_at "x"
        refine x_asgG ?_
        walk_at "x"
        refine ⟨pW, qs, w0, ws', rfl, w2.sq 0 rfl, (hqs'.same w2.ex).dp, fun i t ht hw => ?_⟩
        obtain ⟨u, et, eu⟩ := hqs'.at ht hw
        generalize leastW w0 ws' = lw at *
        refine x_gt (.inl (.inl (w2.ex _ _ et))) rfl ?_
        walk_at "x"
        have l6 : left.length ≤ 6 := by omega
        have tl6 : ts.length ≤ 6 := by omega
        refine ⟨x_tyL (w2.get 1 rfl), ?_⟩
        walk_at "x"
        refine x_append (w2.get 1 rfl) (by rw [List.length_map]; exact Nat.lt_of_le_of_lt (show _ ≤ 100 by omega) (by decide)) ?_
        rw [show ts.map V.ref ++ [V.ref u] = (ts ++ [u]).map V.ref by rw [List.map_append] <;> rfl]
        have w3 := w2.put (o' := .lst ((ts ++ [u]).map V.ref)) 1 rfl
        walk_at "x"
        refine ⟨x_tyL (w3.get 2 rfl), ?_⟩
        walk_at "x"
        refine x_append (w3.get 2 rfl) (by rw [List.length_map]; exact Nat.lt_of_le_of_lt (show _ ≤ 100 by omega) (by decide)) ?_
        rw [show js.map vnat ++ [V.int (lw.h : Int)] = (js ++ [lw.h]).map vnat by rw [List.map_append] <;> rfl]
        have w4 := w3.put (o' := .lst ((js ++ [lw.h]).map vnat)) 2 rfl
        walk_at "x"
        refine ⟨x_tyL (w4.get 3 rfl), ?_⟩
        walk_at "x"
        obtain ⟨j, j1, j2, j3⟩ := erase_int left lw.h hhl
        have el2 : left.map vnat = (left.map fun g => ((g : Nat) : Int)).map V.int := by rw [List.map_map] <;> rfl
        refine ⟨pL, left.map (fun g => ((g : Nat) : Int)), _, j, rfl, rfl, by rw [← el2]; exact w4.get 3 rfl, j1, j2, ?_⟩
        rw [j3]
        have el3 : ((left.erase lw.h).map fun g => ((g : Nat) : Int)).map V.int = (left.erase lw.h).map vnat := by rw [List.map_map] <;> rfl
        rw [el3]
        have w5 := w4.put (o' := .lst ((left.erase lw.h).map vnat)) 3 rfl
        have hel := List.length_erase_of_mem hhl
        have hpos := List.length_pos_of_mem hhl
        refine ⟨(left.erase lw.h).length, by omega, B2, left.erase lw.h, js ++ [lw.h], ts ++ [u], ws ++ [lw], _, _, _, rfl, sB.trans sB2, w5.sub (.cons _ (.cons_cons _ (.cons_cons _ (.cons_cons _ .slnil)))), (hts.same sB2).snoc eu, fun rest hr2 => ?_, fun h hm => hlt h (List.mem_of_mem_erase hm), rfl, by rw [List.length_append]; show _ + 1 + _ ≤ 6; omega, by rw [List.length_append, List.length_append, htj] <;> rfl⟩
        rw [List.append_assoc]
        exact run _ (.step hmem hle hll hr2)

/-! ### Net_reckoned -/
def sp_Net_reckoned (A : Ads) (K : PySem.W.Frag) : Sp := fun vs H Q _ => ∃ (a : Addr) (m g : Nat) (f : Nat → Int), vs = [.ref a, .int (g : Int)] ∧ NetAt A.Net K H a m f ∧ g < 2 ^ m ∧ m ≤ 6 ∧ RetV (.int (f g)) H Q
theorem ok_Net_reckoned (T : Txt K mg A) : FnOk P w K mg base (L2.CX P w) 5 A.a_Net_reckoned A.d_Net_reckoned ["self", "group"] (sp_Net_reckoned A K) := by
  refine T.F_Net_reckoned.okX sc_Net_reckoned (fun vs H Q E h => ?_) (fun cdv A0 outer s H vs Q E hr h => ?_)
  · obtain ⟨a, m, g, f, rfl, _⟩ := h; rfl
  · obtain ⟨a, m, g, f, rfl, R, hg, hm, k⟩ := h
    cases R with
    | @mk cs fs x hf =>
      cases x with
      | @mk dx l d us e h hs hr2 hl h1 h6 ok so c0 f0 h15 =>
      have h64 := pow6 h6
      refine ⟨_, (pss_one (ps_ret (pe_op op_subX pe_int (pe_callB (cr_sumK (K := K) rfl rfl) (by rfl) T.z_sum (by decide +kernel) (pa_cons (pe_lc (own := [("rope", 2)]) rfl sc_Net_reckoned.nd (pi_listK (K := K) rfl (pe_call (ok_cheapest T) (hr.mono (by decide)) (by rfl) T.g_cheapest T.F_cheapest.kp T.b_cheapest .nil (passes_call (takes_of rfl rfl rfl rfl) (fun _ _ _ _ h => h)) (pa_cons (pe_fldK (K := K) rfl (pv 0) rfl) (pa_cons (pe_fldK (K := K) rfl (pv 0) rfl) (pa_cons (pv 1) pa_nil))))) (blkOk_by (own := [("rope", 2)]) (N := N_Net_reckoned) (sc := defScope s_Net_reckoned) (by decide +kernel)) (fun _ _ _ _ _ => (pg_name (i := 2) sc_Net_reckoned.nd rfl (.inl rfl))) (fun _ _ _ _ _ => pts_nil) (fun _ _ _ _ _ => (pe_ix (ix_seqK (K := K) rfl) (pv 2) pe_int (fun _ _ => rfl)))) pa_nil))))), ?_⟩
      walk_at "x"
      refine ⟨a, _, dx, _, .ref l, rfl, e, T.cl_Net, T.n_Net_costs, rfl, ?_⟩
      walk_at "x"
      refine ⟨a, _, dx, _, .ref d, rfl, e, T.cl_Net, T.n_Net_ropes, rfl, ?_⟩
      walk_at "x"
      refine ⟨l, d, g, m, cs, us, fs, rfl, h, hl, h6, hg, hs, hr2, h15, fun p ts ws H1 n1 s1 c1 hA run => ?_⟩
      have hAl := hA.len
      have hlen : (handsM g).length ≤ 6 := hands_le6 g (by omega)
      have hwl : ws.length ≤ 6 := by
        rw [run.net 6 hlen]
        exact netM_len 6 _ _
      refine ⟨p, rfl, ⟨_, SqL.of c1⟩, cp_list (B := H1) (cs := []) (xs := ts.map V.ref) (fun i => ((ws.take i).map fun w => w.c).map V.int) Own.start (SqL.of c1) rfl ?_ ?_⟩
      · intro D i x H' hx w
        obtain ⟨u, hu', rfl⟩ := map_at hx
        obtain ⟨f, hf, hT'⟩ := hA.at hu'
        walk_at "x"
        refine ⟨rfl, ?_⟩
        walk_at "x"
        refine iteT ?_
        walk_at "x"
        refine x_ixXT (SqT.of (w.ex _ _ hT')) (v := .int f.c) rfl ?_
        exact cp_fin w (by rw [take_map hf, List.map_append] <;> rfl) (by rw [List.length_map, List.length_map, List.length_take]; omega)
      · intro D H' w2
        rw [List.length_map, hAl, List.take_length] at w2
        walk_at "x"
        refine x_sum (w2.sq 0 rfl) ?_
        walk_at "x"
        rw [run.cost hlen, ← hf g hg]
        exact k _ (s1.trans w2.ex)

/-! ### Votes_reckoned -/
def sp_Votes_reckoned (A : Ads) (K : PySem.W.Frag) : Sp := fun vs H Q _ => ∃ (a : Addr) (m g : Nat) (f : Nat → Int), vs = [.ref a, .int (g : Int)] ∧ VotesAt A.Votes K H a m f ∧ g < 2 ^ m ∧ m ≤ 6 ∧ RetV (.int (f g)) H Q
theorem ok_Votes_reckoned (T : Txt K mg A) : FnOk P w K mg base (L2.CX P w) 4 A.a_Votes_reckoned A.d_Votes_reckoned ["self", "group"] (sp_Votes_reckoned A K) := by
  refine T.F_Votes_reckoned.okX sc_Votes_reckoned (fun vs H Q E h => ?_) (fun cdv A0 outer s H vs Q E hr h => ?_)
  · obtain ⟨a, m, g, f, rfl, _⟩ := h; rfl
  · obtain ⟨a, m, g, f, rfl, R, hg, hm, k⟩ := h
    cases R with
    | @mk dx l qu pr ns e h hl hf =>
      have hg64 : g < 64 := Nat.lt_of_lt_of_le hg (pow6 hm)
      refine ⟨_, (pss_cons (ps_if (pt_cmpR op_geX (pe_callB (cr_sumK (K := K) rfl rfl) (by rfl) T.z_sum (by decide +kernel) (pa_cons (pe_lc (own := [("hand", 2)]) rfl sc_Votes_reckoned.nd (pi_listK (K := K) rfl (pe_call (ok_hands_of T) (hr.mono (by decide)) (by rfl) T.g_hands_of T.F_hands_of.kp T.b_hands_of .nil (passes_call (takes_of rfl rfl rfl rfl) (fun _ _ _ _ h => h)) (pa_cons (pv 1) pa_nil))) (blkOk_by (own := [("hand", 2)]) (N := N_Votes_reckoned) (sc := defScope s_Votes_reckoned) (by decide +kernel)) (fun _ _ _ _ _ => (pg_name (i := 2) sc_Votes_reckoned.nd rfl (.inl rfl))) (fun _ _ _ _ _ => pts_nil) (fun _ _ _ _ _ => (pe_ix (ix_seqK (K := K) rfl) (pe_fldK (K := K) rfl (pv 0) rfl) (pv 2) (fun _ _ => rfl)))) pa_nil)) (pe_fldK (K := K) rfl (pv 0) rfl) (nomark _)) (pss_one (ps_ret (pe_fldK (K := K) rfl (pv 0) rfl))) pss_nil)
      (pss_one (ps_ret pe_int))), ?_⟩
      walk_at "x"
      refine u_hands_of hg64 fun p1 H1 n1 s1 c1 => ?_
      have w := Own.start (H := H)
      have w1 := (w.newE n1 s1 c1).freeze
      have hB : SqL K (upd H p1 (.lst ((handsM g).map vnat))) p1 ((handsM g).map vnat) := SqL.of upd_same
      have sB := same_upd (o := .lst ((handsM g).map vnat)) n1
      walk_at "x"
      refine ⟨_, rfl, ⟨_, w1.seq hB⟩, cp_list (xs := (handsM g).map vnat) (fun i => ((handsM g).take i).map fun h : Nat => V.int (gi ns (h : Int))) w1 hB rfl ?_ ?_⟩
      · intro D i x H' hx p
        obtain ⟨z, hz, rfl⟩ := map_at hx
        have hzm := hands_lt hm hg (List.mem_of_getElem? hz)
        walk_at "x"
        refine ⟨rfl, ?_⟩
        walk_at "x"
        refine iteT ?_
        walk_at "x"
        refine ⟨a, _, dx, _, .ref l, rfl, Own.ext p (Same.refl _) |>.ex _ _ (sB _ _ e), T.cl_Votes, T.n_Votes_weights, rfl, ?_⟩
        walk_at "x"
        refine x_ixXL (Own.seq p (sB.seq h)) (at_int (by omega) (by omega)) ?_
        exact cp_fin p (take_map hz _) (by rw [List.length_map, List.length_take]; have := handsM_len g; omega)
      · intro D H' w2
        rw [List.length_map, List.take_length] at w2
        have e2 : ((handsM g).map fun h : Nat => V.int (gi ns (h : Int))) = ((handsM g).map fun h : Nat => gi ns (h : Int)).map V.int := by rw [List.map_map] <;> rfl
        rw [e2] at w2
        refine x_nil ?_
        refine x_sum (w2.sq 0 rfl) ?_
        rw [hands_sumS hl hm hg]
        have sA := sB.trans w2.ex
        walk_at "x"
        refine ⟨a, _, dx, _, .int qu, rfl, sA _ _ e, T.cl_Votes, T.n_Votes_quota, rfl, ?_⟩
        walk_at "x"
        have hfg := hf g hg
        refine ite2 (fun c => ?_) (fun c => ?_)
        · rw [if_pos (of_decide_eq_true c)] at hfg
          walk_at "x"
          refine ⟨a, _, dx, _, .int pr, rfl, sA _ _ e, T.cl_Votes, T.n_Votes_prize, rfl, ?_⟩
          rw [← hfg]
          exact k _ sA
        · rw [if_neg (fun z => c (decide_eq_true z))] at hfg
          walk_at "x"
          rw [← hfg]
          exact k _ sA

/-! ### Plain_reckoned -/
def sp_Plain_reckoned (A : Ads) (K : PySem.W.Frag) : Sp := fun vs H Q _ => ∃ (a : Addr) (m g : Nat) (f : Nat → Int), vs = [.ref a, .int (g : Int)] ∧ PlainAt A.Plain K H a m f ∧ g < 2 ^ m ∧ m ≤ 6 ∧ RetV (.int (f g)) H Q
theorem ok_Plain_reckoned (T : Txt K mg A) : FnOk P w K mg base (L2.CX P w) 1 A.a_Plain_reckoned A.d_Plain_reckoned ["self", "group"] (sp_Plain_reckoned A K) := by
  refine T.F_Plain_reckoned.okX sc_Plain_reckoned (fun vs H Q E h => ?_) (fun cdv A0 outer s H vs Q E hr h => ?_)
  · obtain ⟨a, m, g, f, rfl, _⟩ := h; rfl
  · obtain ⟨a, m, g, f, rfl, R, hg, hm, k⟩ := h
    cases R with
    | @mk dx l ns e h hl hf =>
      refine ⟨_, (pss_one (ps_ret (pe_ix (ix_seqK (K := K) rfl) (pe_fldK (K := K) rfl (pv 0) rfl) (pv 1) (fun _ _ => rfl)))), ?_⟩
      walk_at "x"
      refine ⟨a, _, dx, _, .ref l, rfl, e, T.cl_Plain, T.n_Plain_row, rfl, ?_⟩
      walk_at "x"
      refine x_ixXL h (at_int (by omega) (by omega)) ?_
      rw [show gi ns (g : Int) = f g from (hf g hg).symm]
      exact k _ (Same.refl _)

/-! ### Own_reckoned -/
def sp_Own_reckoned (A : Ads) (K : PySem.W.Frag) : Sp := fun vs H Q _ => ∃ (a : Addr) (m g : Nat) (f : Nat → Int), vs = [.ref a, .int (g : Int)] ∧ OwnAt A.Own K H a m f ∧ g < 2 ^ m ∧ m ≤ 6 ∧ RetV (.int (f g)) H Q
theorem ok_Own_reckoned (T : Txt K mg A) : FnOk P w K mg base (L2.CX P w) 4 A.a_Own_reckoned A.d_Own_reckoned ["self", "group"] (sp_Own_reckoned A K) := by
  refine T.F_Own_reckoned.okX sc_Own_reckoned (fun vs H Q E h => ?_) (fun cdv A0 outer s H vs Q E hr h => ?_)
  · obtain ⟨a, m, g, f, rfl, _⟩ := h; rfl
  · obtain ⟨a, m, g, f, rfl, R, hg, hm, k⟩ := h
    cases R with
    | @mk dx l ns e h hl hf =>
      have hg64 : g < 64 := Nat.lt_of_lt_of_le hg (pow6 hm)
      refine ⟨_, (pss_one (ps_ret (pe_callB (cr_sumK (K := K) rfl rfl) (by rfl) T.z_sum (by decide +kernel) (pa_cons (pe_lc (own := [("hand", 2)]) rfl sc_Own_reckoned.nd (pi_listK (K := K) rfl (pe_call (ok_hands_of T) (hr.mono (by decide)) (by rfl) T.g_hands_of T.F_hands_of.kp T.b_hands_of .nil (passes_call (takes_of rfl rfl rfl rfl) (fun _ _ _ _ h => h)) (pa_cons (pv 1) pa_nil))) (blkOk_by (own := [("hand", 2)]) (N := N_Own_reckoned) (sc := defScope s_Own_reckoned) (by decide +kernel)) (fun _ _ _ _ _ => (pg_name (i := 2) sc_Own_reckoned.nd rfl (.inl rfl))) (fun _ _ _ _ _ => pts_nil) (fun _ _ _ _ _ => (pe_ix (ix_seqK (K := K) rfl) (pe_fldK (K := K) rfl (pv 0) rfl) (pv 2) (fun _ _ => rfl)))) pa_nil)))), ?_⟩
      walk_at "x"
      refine u_hands_of hg64 fun p1 H1 n1 s1 c1 => ?_
      have w := Own.start (H := H)
      have w1 := (w.newE n1 s1 c1).freeze
      have hB : SqL K (upd H p1 (.lst ((handsM g).map vnat))) p1 ((handsM g).map vnat) := SqL.of upd_same
      have sB := same_upd (o := .lst ((handsM g).map vnat)) n1
      walk_at "x"
      refine ⟨_, rfl, ⟨_, w1.seq hB⟩, cp_list (xs := (handsM g).map vnat) (fun i => ((handsM g).take i).map fun h : Nat => V.int (gi ns (h : Int))) w1 hB rfl ?_ ?_⟩
      · intro D i x H' hx p
        obtain ⟨z, hz, rfl⟩ := map_at hx
        have hzm := hands_lt hm hg (List.mem_of_getElem? hz)
        walk_at "x"
        refine ⟨rfl, ?_⟩
        walk_at "x"
        refine iteT ?_
        walk_at "x"
        refine ⟨a, _, dx, _, .ref l, rfl, Own.ext p (Same.refl _) |>.ex _ _ (sB _ _ e), T.cl_Own, T.n_Own_numbers, rfl, ?_⟩
        walk_at "x"
        refine x_ixXL (Own.seq p (sB.seq h)) (at_int (by omega) (by omega)) ?_
        exact cp_fin p (take_map hz _) (by rw [List.length_map, List.length_take]; have := handsM_len g; omega)
      · intro D H' w2
        rw [List.length_map, List.take_length] at w2
        have e2 : ((handsM g).map fun h : Nat => V.int (gi ns (h : Int))) = ((handsM g).map fun h : Nat => gi ns (h : Int)).map V.int := by rw [List.map_map] <;> rfl
        rw [e2] at w2
        refine x_nil ?_
        refine x_sum (w2.sq 0 rfl) ?_
        rw [hands_sumS hl hm hg, ← hf g hg]
        exact k _ (sB.trans w2.ex)

/-! ### Rule_reckoned -/
def sp_Rule_reckoned (A : Ads) (K : PySem.W.Frag) : Sp := fun vs H Q _ => ∃ (a : Addr) (m g : Nat) (f : Nat → Int), vs = [.ref a, .int (g : Int)] ∧ BaseAt A.Rule K H a m f ∧ g < 2 ^ m ∧ m ≤ 6 ∧ RetV (.int (f g)) H Q
theorem ok_Rule_reckoned (T : Txt K mg A) : FnOk P w K mg base (L2.CX P w) 1 A.a_Rule_reckoned A.d_Rule_reckoned ["self", "group"] (sp_Rule_reckoned A K) := by
  refine T.F_Rule_reckoned.okX sc_Rule_reckoned (fun vs H Q E h => ?_) (fun cdv A0 outer s H vs Q E hr h => ?_)
  · obtain ⟨a, m, g, f, rfl, _⟩ := h; rfl
  · obtain ⟨a, m, g, f, rfl, R, hg, hm, k⟩ := h
    cases R with
    | mk e hf =>
      refine ⟨_, (pss_one (ps_ret pe_int)), ?_⟩
      walk_at "x"
      rw [hf g hg] at k
      exact k _ (Same.refl _)

/-! ### Rule_earn -/
def sp_Rule_earn (A : Ads) (K : PySem.W.Frag) : Sp := fun vs H Q E => ∃ (a : Addr) (m : Nat) (f : Nat → Int) (v : V), vs = [.ref a, v] ∧ RuleAt A K H a m f ∧ m ≤ 6 ∧ Thing H v ∧ (∀ g : Nat, v = .int (g : Int) → g < 2 ^ m → RetV (.int (f g)) H Q) ∧ (¬ inR v 0 (((2 ^ m : Nat) : Int) - 1) → ∀ H', Same H H' → E (.ref A.NoGroup) none H')
theorem u_earn {K : PySem.W.Frag} {H : Hp} {Q : VK} {E : XK} {a : Addr} {m g : Nat} {f : Nat → Int} (R : RuleAt A K H a m f) (hm : m ≤ 6) (hg : g < 2 ^ m) (q : RetV (.int (f g)) H Q) : sp_Rule_earn A K [.ref a, .int (g : Int)] H Q E :=
  ⟨a, m, f, _, rfl, R, hm, .int _, fun g' e _ => by
    have : g = g' := by have := V.int.inj e; omega
    exact this ▸ q, fun h => absurd ⟨_, rfl, by omega, by omega⟩ h⟩
theorem ok_Rule_earn (T : Txt K mg A) : FnOk P w K mg base (L2.CX P w) 6 A.a_Rule_earn A.d_Rule_earn ["self", "group"] (sp_Rule_earn A K) := by
  refine T.F_Rule_earn.okX sc_Rule_earn (fun vs H Q E h => ?_) (fun cdv A0 outer s H vs Q E hr h => ?_)
  · obtain ⟨a, m, f, v, rfl, _⟩ := h; rfl
  · obtain ⟨a, m, f, v, rfl, R, hm, hT, k, kE⟩ := h
    obtain ⟨C, dx, fs, i, c, n⟩ := R.ins T
    refine ⟨_, (pss_cons (ps_expr (pe_call (ok_look_group T) (hr.mono (by decide)) (by rfl) T.g_look_group T.F_look_group.kp T.b_look_group .nil (passes_call (takes_of rfl rfl rfl rfl) (fun _ _ _ _ h => h)) (pa_cons (pv 1) (pa_cons pe_int (pa_cons (pe_call (ok_whole_of T) (hr.mono (by decide)) (by rfl) T.g_whole_of T.F_whole_of.kp T.b_whole_of .nil (passes_call (takes_of rfl rfl rfl rfl) (fun _ _ _ _ h => h)) (pa_cons (pe_fldK (K := K) rfl (pv 0) rfl) pa_nil)) pa_nil)))))
      (pss_one (ps_ret (pe_or2 (pe_meth (pv 0) T.cl_Rule T.m_Rule_reckoned (ok_Rule_reckoned T) (hr.mono (by decide)) T.b_Rule_reckoned .nil (passes_call (takes_of rfl rfl rfl rfl) (fun _ _ _ _ h => h)) (pa_cons (pv 1) pa_nil)) (pe_or2 (pe_meth (pv 0) T.cl_Own T.m_Own_reckoned (ok_Own_reckoned T) (hr.mono (by decide)) T.b_Own_reckoned .nil (passes_call (takes_of rfl rfl rfl rfl) (fun _ _ _ _ h => h)) (pa_cons (pv 1) pa_nil)) (pe_or2 (pe_meth (pv 0) T.cl_Pairs T.m_Pairs_reckoned (ok_Pairs_reckoned T) (hr.mono (by decide)) T.b_Pairs_reckoned .nil (passes_call (takes_of rfl rfl rfl rfl) (fun _ _ _ _ h => h)) (pa_cons (pv 1) pa_nil)) (pe_or2 (pe_meth (pv 0) T.cl_Votes T.m_Votes_reckoned (ok_Votes_reckoned T) (hr.mono (by decide)) T.b_Votes_reckoned .nil (passes_call (takes_of rfl rfl rfl rfl) (fun _ _ _ _ h => h)) (pa_cons (pv 1) pa_nil)) (pe_or2 (pe_meth (pv 0) T.cl_Plain T.m_Plain_reckoned (ok_Plain_reckoned T) (hr.mono (by decide)) T.b_Plain_reckoned .nil (passes_call (takes_of rfl rfl rfl rfl) (fun _ _ _ _ h => h)) (pa_cons (pv 1) pa_nil)) (pe_or2 (pe_meth (pv 0) T.cl_Match T.m_Match_reckoned (ok_Match_reckoned T) (hr.mono (by decide)) T.b_Match_reckoned .nil (passes_call (takes_of rfl rfl rfl rfl) (fun _ _ _ _ h => h)) (pa_cons (pv 1) pa_nil)) (pe_meth (pv 0) T.cl_Net T.m_Net_reckoned (ok_Net_reckoned T) (hr.mono (by decide)) T.b_Net_reckoned .nil (passes_call (takes_of rfl rfl rfl rfl) (fun _ _ _ _ h => h)) (pa_cons (pv 1) pa_nil))))))))))), ?_⟩
    walk_at "x"
    refine ⟨a, C, dx, fs, _, rfl, i.e, c, n, i.many, ?_⟩
    walk_at "x"
    refine ⟨m, rfl, by omega, fun H1 s1 => ?_⟩
    walk_at "x"
    refine ⟨v, 0, _, rfl, hT.same s1, fun hin H2 s2 => ?_, fun hn H2 s2 => kE hn H2 (s1.trans s2)⟩
    obtain ⟨z, rfl, h0, h1⟩ := hin
    obtain ⟨g, rfl⟩ := Int.eq_ofNat_of_zero_le h0
    have s12 := s1.trans s2
    have hg : g < 2 ^ m := by omega
    have fin : ∀ H3, Same H2 H3 → Q (.int (f g)) H3 := fun H3 s3 => k g rfl hg H3 (s12.trans s3)
    walk_at "x"
    have R2 := R.same s12
    cases R2 with
    | kRule R =>
      obtain ⟨dx, fs, i⟩ := R.ins
      first | exact .inl (⟨_, rfl, a, dx, fs, rfl, i.e, i.c2, _, rfl, a, m, g, f, rfl, R, hg, hm, fin⟩) | exact ⟨a, dx, fs, rfl, i.e, i.c2, _, rfl, a, m, g, f, rfl, R, hg, hm, fin⟩
    | kOwn R =>
      obtain ⟨dx, fs, i⟩ := R.ins
      first | exact .inr (.inl (⟨_, rfl, a, dx, fs, rfl, i.e, i.c2, _, rfl, a, m, g, f, rfl, R, hg, hm, fin⟩)) | exact ⟨a, dx, fs, rfl, i.e, i.c2, _, rfl, a, m, g, f, rfl, R, hg, hm, fin⟩
    | kPairs R =>
      obtain ⟨dx, fs, i⟩ := R.ins
      first | exact .inr (.inr (.inl (⟨_, rfl, a, dx, fs, rfl, i.e, i.c2, _, rfl, a, m, g, f, rfl, R, hg, hm, fin⟩))) | exact ⟨a, dx, fs, rfl, i.e, i.c2, _, rfl, a, m, g, f, rfl, R, hg, hm, fin⟩
    | kVotes R =>
      obtain ⟨dx, fs, i⟩ := R.ins
      first | exact .inr (.inr (.inr (.inl (⟨_, rfl, a, dx, fs, rfl, i.e, i.c2, _, rfl, a, m, g, f, rfl, R, hg, hm, fin⟩)))) | exact ⟨a, dx, fs, rfl, i.e, i.c2, _, rfl, a, m, g, f, rfl, R, hg, hm, fin⟩
    | kPlain R =>
      obtain ⟨dx, fs, i⟩ := R.ins
      first | exact .inr (.inr (.inr (.inr (.inl (⟨_, rfl, a, dx, fs, rfl, i.e, i.c2, _, rfl, a, m, g, f, rfl, R, hg, hm, fin⟩))))) | exact ⟨a, dx, fs, rfl, i.e, i.c2, _, rfl, a, m, g, f, rfl, R, hg, hm, fin⟩
    | kMatch R =>
      obtain ⟨dx, fs, i⟩ := R.ins
      first | exact .inr (.inr (.inr (.inr (.inr (.inl (⟨_, rfl, a, dx, fs, rfl, i.e, i.c2, _, rfl, a, m, g, f, rfl, R, hg, hm, fin⟩)))))) | exact ⟨a, dx, fs, rfl, i.e, i.c2, _, rfl, a, m, g, f, rfl, R, hg, hm, fin⟩
    | kNet R =>
      obtain ⟨dx, fs, i⟩ := R.ins
      first | exact .inr (.inr (.inr (.inr (.inr (.inr (⟨_, rfl, a, dx, fs, rfl, i.e, i.c2, _, rfl, a, m, g, f, rfl, R, hg, hm, fin⟩)))))) | exact ⟨a, dx, fs, rfl, i.e, i.c2, _, rfl, a, m, g, f, rfl, R, hg, hm, fin⟩

/-! ### Own___init__ -/
def sp_Own___init__ (A : Ads) (K : PySem.W.Frag) : Sp := fun vs H Q E => ∃ (p C dx b : Addr) (xs : List V), vs = [.ref p, .ref b] ∧ H p = some (.ins C dx []) ∧ Cls K C ∧ NoAttr K C "many" ∧ NoAttr K C "numbers" ∧ SqL K H b xs ∧ b ≠ p ∧ (∀ y ∈ xs, Thing H y ∧ y ≠ .ref p) ∧
  (∀ (ns : List Int), xs = ns.map V.int → 1 ≤ ns.length → ns.length ≤ 6 → ∀ l H', H l = none → SameX p H H' → H' p = some (.ins C dx [("many", .int (ns.length : Int)), ("numbers", .ref l)]) → H' l = some (.lst (ns.map V.int)) → Q .non H') ∧
  (¬ (1 ≤ xs.length ∧ xs.length ≤ 6 ∧ xs.all isI = true) → ∀ H', SameX p H H' → E (.ref A.NoRule) none H')
theorem ok_Own___init__ (T : Txt K mg A) : FnOk P w K mg base (L2.CX P w) 3 A.a_Own___init__ A.d_Own___init__ ["self", "numbers"] (sp_Own___init__ A K) := by
  refine T.F_Own___init__.okX sc_Own___init__ (fun vs H Q E h => ?_) (fun cdv A0 outer s H vs Q E hr h => ?_)
  · obtain ⟨p, C, dx, b, xs, rfl, _⟩ := h; rfl
  · obtain ⟨p, C, dx, b, xs, rfl, e, c, na, nb, hS, hne, hT, k, kE⟩ := h
    refine ⟨_, (pss_cons (ps_expr (pe_base (pe_glob (v := .ref A.Rule) (by rfl) T.g_Rule rfl) T.bs_Rule (ok_Rule___init__ T) (hr.mono (by decide)) T.b_Rule___init__ (passes_call (takes_of rfl rfl rfl rfl) (fun _ _ _ _ h => h)) (pa_cons (pv 0) (pa_cons (pe_callB (call_lenK (K := K) rfl) (by rfl) T.z_len (by decide +kernel) (pa_cons (pv 1) pa_nil)) pa_nil))))
      (pss_cons (ps_expr (pe_call (ok_look_numbers T) (hr.mono (by decide)) (by rfl) T.g_look_numbers T.F_look_numbers.kp T.b_look_numbers .nil (passes_call (takes_of rfl rfl rfl rfl) (fun _ _ _ _ h => h)) (pa_cons (pv 1) pa_nil)))
      (pss_one (ps_fld (pv 0) (pe_callTy (call_listK (K := K) rfl) (by rfl) T.z_list (by decide +kernel) (pa_cons (pv 1) pa_nil)) rfl)))), ?_⟩
    walk_at "x"
    refine ⟨rfl, ?_⟩
    walk_at "x"
    refine x_lenL hS ?_
    walk_at "x"
    refine ⟨p, C, dx, _, rfl, e, c, na, .int _, fun n en h1 h6 H1 s1 c1 => ?_, fun hn H' s' => kE (fun ⟨a1, a2, _⟩ => hn ⟨_, rfl, by omega, by omega⟩) H' (Same.x s')⟩
    have hxl : xs.length = n := by have := V.int.inj en; omega
    walk_at "x"
    have hS1 := sqL_x s1 hS hne
    refine ⟨b, xs, rfl, .inl hS1, fun y hy => thing_x s1 (hT y hy).1 (hT y hy).2, fun hall H2 s2 => ?_, fun hn H' s' => kE (fun ⟨_, _, z⟩ => by rw [hn] at z; cases z) H' (s1.trans (Same.x s'))⟩
    obtain ⟨ns, rfl⟩ := all_int hall
    rw [List.length_map] at hxl
    walk_at "x"
    refine x_list (s2.seq hS1) (fun l nl => ?_)
    walk_at "x"
    have nlp : l ≠ p := fun z => by subst z; rw [s2 _ _ c1] at nl; cases nl
    have c3 : upd H2 l (.lst (ns.map V.int)) p = some (.ins C dx [("many", .int (n : Int))]) := by rw [upd_ne (Ne.symm nlp)]; exact s2 _ _ c1
    refine ⟨p, C, dx, _, rfl, c3, c, nb, by show 1 < 1000; decide, ?_⟩
    have sx : SameX p H (upd (upd H2 l (.lst (ns.map V.int))) p (.ins C dx (putF "numbers" (.ref l) [("many", .int (n : Int))]))) := fun q o hq h => by
      rw [upd_ne hq]
      have h2 := s2 _ _ (s1 q o hq h)
      rw [upd_ne (fun z => by subst z; rw [nl] at h2; cases h2)]
      exact h2
    refine k ns rfl (by omega) (by omega) l _ ?_ sx ?_ ?_
    · cases hl : H l with
      | none => rfl
      | some o => have := s2 _ _ (s1 l o nlp hl); rw [nl] at this; cases this
    · rw [upd_same, hxl] <;> rfl
    · rw [upd_ne nlp, upd_same]
theorem u_mkOwn {B H1 : Hp} {cs : Cells} {x d : Addr} {Q : VK} {E : XK} {m : Nat} (T : Txt K mg A) (w : Own B cs H1) (a0 : H1 x = none) (e0 : H1 d = none) (ne0 : d ≠ x) {l : Addr} {ns : List Int} (hS : Rd H1 l (.lst (ns.map V.int))) (hl : ns.length = m)
    (q : 1 ≤ m → m ≤ 6 → ∀ B2 H2, Same B B2 → Own B2 cs H2 → OwnE A.Own K B2 x m ns → Q .non H2) (qE : ¬ (1 ≤ m ∧ m ≤ 6) → ∀ H2, Same H1 H2 → E (.ref A.NoRule) none H2) : sp_Own___init__ A K [.ref x, .ref l] (upd (upd H1 d (.own x)) x (.ins A.Own d [])) Q E := by
  refine ⟨x, A.Own, d, l, _, rfl, upd_same, T.cl_Own, T.n_Own_many, T.n_Own_numbers, .inl (rd_same (same_mk a0 e0 ne0) hS), rd_neL hS a0, fun y hy => ?_, fun ns' ens g1 g6 l1 J nl sx cx cl => ?_, fun hn J sx => qE (fun h => hn ⟨by rw [List.length_map]; omega, by rw [List.length_map]; omega, all_isI ns⟩) J (sameX_mk a0 e0 ne0 sx)⟩
  · obtain ⟨z, _, rfl⟩ := List.mem_map.mp hy; exact ⟨.int _, fun h => nomatch h⟩
  · obtain rfl := map_int_inj ens
    obtain ⟨B2, sB, w2, ef, ex⟩ := own_mk w a0 e0 ne0 sx
    rw [hl] at cx g1 g6
    exact q g1 g6 B2 J sB w2 (.mk (ex.trans cx) (SqL.of ((ef _ nl).trans cl)) hl)

/-! ### Pairs___init__ -/
def sp_Pairs___init__ (A : Ads) (K : PySem.W.Frag) : Sp := fun vs H Q E => ∃ (p C dx b : Addr) (v : V) (ts : List Addr) (yss : List (List V)), vs = [.ref p, v, .ref b] ∧ H p = some (.ins C dx []) ∧ Cls K C ∧ NoAttr K C "many" ∧ NoAttr K C "pairs" ∧ Thing H v ∧ Rd H b (.lst (ts.map V.ref)) ∧
  ts.length = yss.length ∧ ts.length ≤ 1000 ∧ (∀ (i : Nat) (t : Addr) (ys : List V), ts[i]? = some t → yss[i]? = some ys → Rd H t (.tup ys) ∧ ∀ y ∈ ys, Thing H y) ∧
  (∀ (m : Nat) (fs : List Tr), v = .int (m : Int) → 1 ≤ m → m ≤ 6 → yss = fs.map trV → pairsOk m fs → ∀ gs : List Tr, gs.Perm fs → SortedT gs → ∀ (l : Addr) (us : List Addr) (H' : Hp), H l = none → (∀ u ∈ us, H u = none) → SameX p H H' → H' p = some (.ins C dx [("many", .int (m : Int)), ("pairs", .ref l)]) → H' l = some (.lst (us.map V.ref)) → TrAll H' us gs → Q .non H') ∧
  ((∀ (m : Nat) (fs : List Tr), v = .int (m : Int) → 1 ≤ m → m ≤ 6 → yss = fs.map trV → ¬ pairsOk m fs) → ∀ H', SameX p H H' → E (.ref A.NoRule) none H')
theorem ok_Pairs___init__ (T : Txt K mg A) : FnOk P w K mg base (L2.CX P w) 5 A.a_Pairs___init__ A.d_Pairs___init__ ["self", "many", "pairs"] (sp_Pairs___init__ A K) := by
  refine T.F_Pairs___init__.okX sc_Pairs___init__ (fun vs H Q E h => ?_) (fun cdv A0 outer s H vs Q E hr h => ?_)
  · obtain ⟨p, C, dx, b, v, ts, yss, rfl, _⟩ := h; rfl
  · obtain ⟨p, C, dx, b, v, ts, yss, rfl, e, c, na, nb, hT, hS, hl, hz, hR, k, kE⟩ := h
    have hbp := sqL_ne (K := K) e hS
    refine ⟨_, (pss_cons (ps_expr (pe_base (pe_glob (v := .ref A.Rule) (by rfl) T.g_Rule rfl) T.bs_Rule (ok_Rule___init__ T) (hr.mono (by decide)) T.b_Rule___init__ (passes_call (takes_of rfl rfl rfl rfl) (fun _ _ _ _ h => h)) (pa_cons (pv 0) (pa_cons (pv 1) pa_nil))))
      (pss_one (ps_fld (pv 0) (pe_call (ok_pairs_of T) (hr.mono (by decide)) (by rfl) T.g_pairs_of T.F_pairs_of.kp T.b_pairs_of .nil (passes_call (takes_of rfl rfl rfl rfl) (fun _ _ _ _ h => h)) (pa_cons (pv 1) (pa_cons (pv 2) pa_nil))) rfl))), ?_⟩
    walk_at "x"
    refine ⟨rfl, ?_⟩
    walk_at "x"
    refine ⟨p, C, dx, v, rfl, e, c, na, hT, fun m ev h1 h6 H1 s1 c1 => ?_, fun hn H' s' => kE (fun m fs ev h1 h6 _ _ => hn ⟨_, ev, by omega, by omega⟩) H' (Same.x s')⟩
    subst ev
    walk_at "x"
    refine ⟨m, b, ts, yss, rfl, .inl (rd_x s1 hS hbp), hl, hz, fun i t ys ht hy => ?_, fun fs ey ok gs hg hs l us H2 nl nu s2 c2 hu => ?_, fun hn H' s' => kE (fun m' fs ev h1 h6 ey ok => ?_) H' (s1.trans (Same.x s'))⟩
    · obtain ⟨r1, r2⟩ := hR i t ys ht hy
      exact ⟨rd_x s1 r1 (rdT_ne e r1), fun y hy => thing_x s1 (r2 y hy) (thing_ne e (r2 y hy))⟩
    case refine_3 =>
      have : m = m' := by have := V.int.inj ev; omega
      subst this
      exact hn fs ey ok
    walk_at "x"
    have nlp : l ≠ p := fun z => by subst z; rw [c1] at nl; cases nl
    refine ⟨p, C, dx, _, rfl, s2 _ _ c1, c, nb, by show 1 < 1000; decide, ?_⟩
    have back : ∀ q, q ≠ p → H1 q = none → H q = none := fun q hq hn => by
      cases e2 : H q with
      | none => rfl
      | some o => have := s1 q o hq e2; rw [hn] at this; cases this
    have nup : ∀ u ∈ us, u ≠ p := fun u hu z => by subst z; have := nu _ hu; rw [c1] at this; cases this
    refine k m fs rfl h1 h6 ey ok gs hg hs l us _ (back l nlp nl) (fun u hu => back u (nup u hu) (nu u hu)) ?_ ?_ ?_ ?_
    · intro q o hq h
      rw [upd_ne hq]
      exact s2 _ _ (s1 q o hq h)
    · rw [upd_same] <;> rfl
    · rw [upd_ne nlp]; exact c2
    · exact hu.congr fun t ht => upd_ne (nup t ht)
theorem u_mkPairs {B H1 : Hp} {cs : Cells} {x d : Addr} {Q : VK} {E : XK} {m : Nat} (T : Txt K mg A) (w : Own B cs H1) (a0 : H1 x = none) (e0 : H1 d = none) (ne0 : d ≠ x) {l : Addr} {ts : List Addr} {fs : List Tr} (hS : Rd H1 l (.lst (ts.map V.ref))) (hT : TrAll H1 ts fs) (hz : ts.length ≤ 1000) (h1 : 1 ≤ m) (h6 : m ≤ 6)
    (q : pairsOk m fs → ∀ gs : List Tr, gs.Perm fs → SortedT gs → pairsOk m gs → ∀ B2 H2, Same B B2 → Own B2 cs H2 → PairsE A.Pairs K B2 x m gs → Q .non H2) (qE : ¬ pairsOk m fs → ∀ H2, Same H1 H2 → E (.ref A.NoRule) none H2) : sp_Pairs___init__ A K [.ref x, .int (m : Int), .ref l] (upd (upd H1 d (.own x)) x (.ins A.Pairs d [])) Q E := by
  have sm := same_mk (C := A.Pairs) a0 e0 ne0
  refine ⟨x, A.Pairs, d, l, _, ts, fs.map trV, rfl, upd_same, T.cl_Pairs, T.n_Pairs_many, T.n_Pairs_pairs, .int _, rd_same sm hS, by rw [List.length_map]; exact hT.len, hz, fun i t ys ht hys => tr_thing (hT.same sm) ht hys, fun m' fs' em _ _ ef ok gs pm srt l0 us0 J nl nu sx cx cl tu => ?_, fun hn J sx => qE (fun ok => hn m fs rfl h1 h6 rfl ok) J (sameX_mk a0 e0 ne0 sx)⟩
  obtain rfl : m = m' := by have := V.int.inj em; omega
  obtain rfl := trVs_inj ef
  obtain ⟨B2, sB, w2, eq, ex⟩ := own_mk w a0 e0 ne0 sx
  have okg := pairsOk_perm pm.symm ok
  exact q ok gs pm srt okg B2 J sB w2 (.mk (ex.trans cx) (SqL.of ((eq _ nl).trans cl)) (tu.congr fun u hu => eq _ (nu u hu)) okg)

/-! ### Votes___init__ -/
def sp_Votes___init__ (A : Ads) (K : PySem.W.Frag) : Sp := fun vs H Q E => ∃ (p C dx b : Addr) (q r : V) (xs : List V), vs = [.ref p, q, r, .ref b] ∧ H p = some (.ins C dx []) ∧ Cls K C ∧ NoAttr K C "many" ∧ NoAttr K C "quota" ∧ NoAttr K C "prize" ∧ NoAttr K C "weights" ∧ Thing H q ∧ Thing H r ∧ Rd H b (.lst xs) ∧ (∀ y ∈ xs, Thing H y) ∧
  (∀ (qi ri : Int) (ns : List Int), q = .int qi → r = .int ri → 1 ≤ qi → xs = ns.map V.int → 1 ≤ ns.length → ns.length ≤ 6 → ∀ l H', H l = none → SameX p H H' → H' p = some (.ins C dx [("many", .int (ns.length : Int)), ("quota", .int qi), ("prize", .int ri), ("weights", .ref l)]) → H' l = some (.lst (ns.map V.int)) → Q .non H') ∧
  (¬ (1 ≤ xs.length ∧ xs.length ≤ 6 ∧ xs.all isI = true ∧ isI r = true ∧ ∃ qi, q = .int qi ∧ 1 ≤ qi) → ∀ H', SameX p H H' → E (.ref A.NoRule) none H')
theorem ok_Votes___init__ (T : Txt K mg A) : FnOk P w K mg base (L2.CX P w) 3 A.a_Votes___init__ A.d_Votes___init__ ["self", "quota", "prize", "weights"] (sp_Votes___init__ A K) := by
  refine T.F_Votes___init__.okX sc_Votes___init__ (fun vs H Q E h => ?_) (fun cdv A0 outer s H vs Q E hr h => ?_)
  · obtain ⟨p, C, dx, b, q, r, xs, rfl, _⟩ := h; rfl
  · obtain ⟨p, C, dx, b, q, r, xs, rfl, e, c, na, n1, n2, n3, hq, hr2, hR, hT, k, kE⟩ := h
    have hbp := sqL_ne (K := K) e hR
    refine ⟨_, (pss_cons (ps_expr (pe_base (pe_glob (v := .ref A.Rule) (by rfl) T.g_Rule rfl) T.bs_Rule (ok_Rule___init__ T) (hr.mono (by decide)) T.b_Rule___init__ (passes_call (takes_of rfl rfl rfl rfl) (fun _ _ _ _ h => h)) (pa_cons (pv 0) (pa_cons (pe_callB (call_lenK (K := K) rfl) (by rfl) T.z_len (by decide +kernel) (pa_cons (pv 3) pa_nil)) pa_nil))))
      (pss_cons (ps_expr (pe_call (ok_look_numbers T) (hr.mono (by decide)) (by rfl) T.g_look_numbers T.F_look_numbers.kp T.b_look_numbers .nil (passes_call (takes_of rfl rfl rfl rfl) (fun _ _ _ _ h => h)) (pa_cons (pe_lst (pa_cons (pv 1) (pa_cons (pv 2) pa_nil))) pa_nil)))
      (pss_cons (ps_expr (pe_call (ok_look_numbers T) (hr.mono (by decide)) (by rfl) T.g_look_numbers T.F_look_numbers.kp T.b_look_numbers .nil (passes_call (takes_of rfl rfl rfl rfl) (fun _ _ _ _ h => h)) (pa_cons (pv 3) pa_nil)))
      (pss_cons (ps_if (pt_cmpR op_ltX (pv 1) pe_int (nomark _)) (pss_one (ps_raise rfl (takes_of rfl rfl rfl rfl) (pmk_own PySem.F.excBase_ValueError T.x_NoRule T.g_NoRule T.k_NoRule (raises_own T.e_NoRule T.t_NoRule) (by rfl)))) pss_nil)
      (pss_cons (ps_fld (pv 0) (pv 1) rfl)
      (pss_cons (ps_fld (pv 0) (pv 2) rfl)
      (pss_one (ps_fld (pv 0) (pe_callTy (call_listK (K := K) rfl) (by rfl) T.z_list (by decide +kernel) (pa_cons (pv 3) pa_nil)) rfl)))))))), ?_⟩
    walk_at "x"
    refine ⟨rfl, ?_⟩
    walk_at "x"
    refine x_lenL (.inl hR) ?_
    walk_at "x"
    refine ⟨p, C, dx, _, rfl, e, c, na, .int _, fun n en h1 h6 H1 s1 c1 => ?_, fun hn H' s' => kE (fun ⟨a1, a2, _⟩ => hn ⟨_, rfl, by omega, by omega⟩) H' (Same.x s')⟩
    have hxl : xs.length = n := by have := V.int.inj en; omega
    walk_at "x"
    refine ⟨(by show 2 ≤ sizeLine; decide), fun p2 np2 => ?_⟩
    have s2 := same_upd (o := .lst [q, r]) np2
    have tq := thing_x s1 hq (thing_ne e hq)
    have tr := thing_x s1 hr2 (thing_ne e hr2)
    refine ⟨p2, [q, r], rfl, .inl (SqL.of upd_same), fun y hy => ?_, fun hall H3 s3 => ?_, fun hn H' s' => kE (fun ⟨_, _, _, z1, qi, z2, _⟩ => ?_) H' (s1.trans (Same.x (s2.trans s')))⟩
    · simp only [List.mem_cons, List.not_mem_nil, or_false] at hy
      rcases hy with rfl | rfl
      · exact tq.same s2
      · exact tr.same s2
    case refine_3 =>
      rw [z2, List.all_cons, List.all_cons, z1] at hn
      simp [isI] at hn
    obtain ⟨qr, hqr⟩ := all_int hall
    obtain ⟨qi, ri, rfl⟩ : ∃ qi ri, qr = [qi, ri] := by
      match qr, congrArg List.length hqr with
      | [a, b], _ => exact ⟨a, b, rfl⟩
    have eq1 : q = .int qi := (List.cons.inj hqr).1
    have eq2 : r = .int ri := (List.cons.inj (List.cons.inj hqr).2).1
    subst eq1 eq2
    have s3 := s2.trans s3
    have hR1 := rd_same s3 (rd_x s1 hR hbp)
    walk_at "x"
    refine ⟨b, xs, rfl, .inl (.inl hR1), fun y hy => (thing_x s1 (hT y hy) (thing_ne e (hT y hy))).same s3, fun hall H4 s4 => ?_, fun hn H' s' => kE (fun ⟨_, _, z, _⟩ => by rw [hn] at z; cases z) H' (s1.trans (Same.x (s3.trans s')))⟩
    obtain ⟨ns, rfl⟩ := all_int hall
    rw [List.length_map] at hxl
    have s4 := s3.trans s4
    walk_at "x"
    refine ite2 (fun cq => ?_) (fun cq => ?_)
    · have cq := of_decide_eq_true cq
      exact kE (fun ⟨_, _, _, _, qj, ej, hj⟩ => by have := V.int.inj ej; omega) _ (s1.trans (Same.x s4))
    have hq1 : 1 ≤ qi := by
      by_cases z : qi < 1
      · exact absurd (decide_eq_true z) cq
      · omega
    have e4 := s4 _ _ c1
    walk_at "x"
    refine ⟨p, C, dx, _, rfl, e4, c, n1, by show 1 < 1000; decide, ?_⟩
    walk_at "x"
    refine ⟨p, C, dx, _, rfl, upd_same, c, n2, by show 2 < 1000; decide, ?_⟩
    walk_at "x"
    have hS5 : SqL K H4 b (ns.map V.int) := .inl (rd_same s4 (rd_x s1 hR hbp))
    have hS6 : SqL K (upd (upd H4 p (.ins C dx (putF "quota" (.int qi) [("many", .int (n : Int))]))) p (.ins C dx (putF "prize" (.int ri) (putF "quota" (.int qi) [("many", .int (n : Int))])))) b (ns.map V.int) := sqL_x SameX.upd (sqL_x SameX.upd hS5 hbp) hbp
    refine x_list hS6 (fun l nl => ?_)
    walk_at "x"
    have nlp : l ≠ p := fun z => by subst z; rw [upd_same] at nl; cases nl
    rw [upd_ne nlp, upd_ne nlp] at nl
    refine ⟨p, C, dx, putF "prize" (.int ri) (putF "quota" (.int qi) [("many", .int (n : Int))]), rfl, by rw [upd_ne (Ne.symm nlp), upd_same], c, n3, by show 3 < 1000; decide, ?_⟩
    have sx : ∀ q o, q ≠ p → H q = some o → H4 q = some o := fun q o hq h => s4 _ _ (s1 q o hq h)
    refine k qi ri ns rfl rfl hq1 rfl (by omega) (by omega) l _ ?_ (fun q o hq h => ?_) ?_ ?_
    · cases hl2 : H l with
      | none => rfl
      | some o => have := sx l o nlp hl2; rw [nl] at this; cases this
    · have h2 := sx q o hq h
      rw [upd_ne hq, upd_ne (fun z => by subst z; rw [nl] at h2; cases h2), upd_ne hq, upd_ne hq]
      exact h2
    · rw [upd_same, hxl] <;> rfl
    · rw [upd_ne nlp, upd_same]
theorem u_mkVotes {B H1 : Hp} {cs : Cells} {x d : Addr} {Q : VK} {E : XK} {m : Nat} (T : Txt K mg A) (w : Own B cs H1) (a0 : H1 x = none) (e0 : H1 d = none) (ne0 : d ≠ x) {l : Addr} {qi pi : Int} {ns : List Int} (hS : Rd H1 l (.lst (ns.map V.int))) (hl : ns.length = m)
    (q : 1 ≤ m → m ≤ 6 → 1 ≤ qi → ∀ B2 H2, Same B B2 → Own B2 cs H2 → VotesE A.Votes K B2 x m qi pi ns → Q .non H2) (qE : ¬ (1 ≤ m ∧ m ≤ 6 ∧ 1 ≤ qi) → ∀ H2, Same H1 H2 → E (.ref A.NoRule) none H2) : sp_Votes___init__ A K [.ref x, .int qi, .int pi, .ref l] (upd (upd H1 d (.own x)) x (.ins A.Votes d [])) Q E := by
  refine ⟨x, A.Votes, d, l, _, _, _, rfl, upd_same, T.cl_Votes, T.n_Votes_many, T.n_Votes_quota, T.n_Votes_prize, T.n_Votes_weights, .int _, .int _, rd_same (same_mk a0 e0 ne0) hS, things_int, fun qj rj ns' eqi eri hq ens g1 g6 l1 J nl sx cx cl => ?_, fun hn J sx => qE (fun h => hn ⟨by rw [List.length_map]; omega, by rw [List.length_map]; omega, all_isI ns, rfl, qi, rfl, h.2.2⟩) J (sameX_mk a0 e0 ne0 sx)⟩
  obtain rfl := map_int_inj ens
  obtain rfl := V.int.inj eqi
  obtain rfl := V.int.inj eri
  obtain ⟨B2, sB, w2, ef, ex⟩ := own_mk w a0 e0 ne0 sx
  rw [hl] at cx g1 g6
  exact q g1 g6 hq B2 J sB w2 (.mk (ex.trans cx) (SqL.of ((ef _ nl).trans cl)) hl)

/-! ### Plain___init__ -/
def sp_Plain___init__ (A : Ads) (K : PySem.W.Frag) : Sp := fun vs H Q E => ∃ (p C dx b : Addr) (xs : List V), vs = [.ref p, .ref b] ∧ H p = some (.ins C dx []) ∧ Cls K C ∧ NoAttr K C "many" ∧ NoAttr K C "row" ∧ Rd H b (.lst xs) ∧ (∀ y ∈ xs, Thing H y) ∧
  (∀ (ns : List Int) (m : Nat), xs = ns.map V.int → Tab ns m → ∀ l H', H l = none → SameX p H H' → H' p = some (.ins C dx [("many", .int (m : Int)), ("row", .ref l)]) → H' l = some (.lst (ns.map V.int)) → Q .non H') ∧
  (lookM xs = none → ∀ H', SameX p H H' → E (.ref A.NoTable) none H')
theorem ok_Plain___init__ (T : Txt K mg A) : FnOk P w K mg base (L2.CX P w) 3 A.a_Plain___init__ A.d_Plain___init__ ["self", "table"] (sp_Plain___init__ A K) := by
  refine T.F_Plain___init__.okX sc_Plain___init__ (fun vs H Q E h => ?_) (fun cdv A0 outer s H vs Q E hr h => ?_)
  · obtain ⟨p, C, dx, b, xs, rfl, _⟩ := h; rfl
  · obtain ⟨p, C, dx, b, xs, rfl, e, c, na, nb, hR, hT, k, kE⟩ := h
    refine ⟨_, (pss_cons (ps_expr (pe_base (pe_glob (v := .ref A.Rule) (by rfl) T.g_Rule rfl) T.bs_Rule (ok_Rule___init__ T) (hr.mono (by decide)) T.b_Rule___init__ (passes_call (takes_of rfl rfl rfl rfl) (fun _ _ _ _ h => h)) (pa_cons (pv 0) (pa_cons (pe_call (ok_look T) (hr.mono (by decide)) (by rfl) T.g_look T.F_look.kp T.b_look .nil (passes_call (takes_of rfl rfl rfl rfl) (fun _ _ _ _ h => h)) (pa_cons (pv 1) pa_nil)) pa_nil))))
      (pss_one (ps_fld (pv 0) (pe_callTy (call_listK (K := K) rfl) (by rfl) T.z_list (by decide +kernel) (pa_cons (pv 1) pa_nil)) rfl))), ?_⟩
    have hbp : b ≠ p := fun z => by
      subst z
      rcases hR with h | ⟨o, h⟩ <;> rw [e] at h <;> cases h
    walk_at "x"
    refine ⟨rfl, ?_⟩
    walk_at "x"
    refine ⟨b, xs, rfl, hR, hT, fun n hn H1 s1 => ?_, fun hn H' s' => kE hn H' (Same.x s')⟩
    obtain ⟨ns, m, tb, rfl, rfl⟩ := look_tab hn
    have hlo := tb.lo
    have hhi := tb.hi
    walk_at "x"
    refine ⟨p, C, dx, _, rfl, s1 _ _ e, c, na, .int _, fun n en h1 h6 H2 s2 c2 => ?_, fun hn H' s' => absurd ⟨_, rfl, by omega, by omega⟩ hn⟩
    have hnm : m = n := by have := V.int.inj en; omega
    subst hnm
    have hS2 : SqL K H2 b (ns.map V.int) := by
      have r := rd_same s1 hR
      rcases r with r | ⟨o, r⟩
      · exact .inl (.inl (s2 _ _ hbp r))
      · exact .inl (.inr ⟨o, s2 _ _ hbp r⟩)
    walk_at "x"
    refine x_list hS2 (fun l nl => ?_)
    walk_at "x"
    have nlp : l ≠ p := fun z => by subst z; rw [c2] at nl; cases nl
    have c3 : upd H2 l (.lst (ns.map V.int)) p = some (.ins C dx [("many", .int (m : Int))]) := by rw [upd_ne (Ne.symm nlp)]; exact c2
    refine ⟨p, C, dx, _, rfl, c3, c, nb, by show 1 < 1000; decide, ?_⟩
    have sx : SameX p H (upd (upd H2 l (.lst (ns.map V.int))) p (.ins C dx (putF "row" (.ref l) [("many", .int (m : Int))]))) := fun q o hq h => by
      rw [upd_ne hq]
      have h2 := s2 _ _ hq (s1 q o h)
      rw [upd_ne (fun z => by subst z; rw [nl] at h2; cases h2)]
      exact h2
    refine k ns m rfl tb l _ ?_ sx ?_ ?_
    · cases hl : H l with
      | none => rfl
      | some o => have := s2 _ _ nlp (s1 l o hl); rw [nl] at this; cases this
    · rw [upd_same] <;> rfl
    · rw [upd_ne nlp, upd_same]
theorem u_mkPlain {B H1 : Hp} {cs : Cells} {x d : Addr} {Q : VK} {E : XK} (T : Txt K mg A) (w : Own B cs H1) (a0 : H1 x = none) (e0 : H1 d = none) (ne0 : d ≠ x) {l : Addr} {ns : List Int} (hS : Rd H1 l (.lst (ns.map V.int)))
    (q : ∀ m, Tab ns m → ∀ B2 H2, Same B B2 → Own B2 cs H2 → PlainE A.Plain K B2 x m ns → Q .non H2) (qE : (∀ m, ¬ Tab ns m) → ∀ H2, Same H1 H2 → E (.ref A.NoTable) none H2) : sp_Plain___init__ A K [.ref x, .ref l] (upd (upd H1 d (.own x)) x (.ins A.Plain d [])) Q E := by
  refine ⟨x, A.Plain, d, l, _, rfl, upd_same, T.cl_Plain, T.n_Plain_many, T.n_Plain_row, rd_same (same_mk a0 e0 ne0) hS, things_int, fun ns' m ens tb l1 J nl sx cx cl => ?_, fun hn J sx => qE (fun m tb => by rw [tb.look] at hn; cases hn) J (sameX_mk a0 e0 ne0 sx)⟩
  obtain rfl := map_int_inj ens
  obtain ⟨B2, sB, w2, ef, ex⟩ := own_mk w a0 e0 ne0 sx
  exact q m tb B2 J sB w2 (.mk (ex.trans cx) (SqL.of ((ef _ nl).trans cl)) tb.len (by
    have h0 := tb.zero
    unfold gi
    rw [List.getD_eq_getElem?_getD]
    show (ns[0]?).getD 0 = 0
    rw [h0] <;> rfl))

/-! ### split_off -/
def sp_split_off : Sp := fun vs H Q _ => ∃ g : Nat, vs = [.int (g : Int)] ∧ 0 < g ∧ g < 64 ∧ RetSplit g H Q
theorem ok_split_off (T : Txt K mg A) : FnOk P w K mg base (L2.CX P w) 4 A.a_split_off A.d_split_off ["group"] sp_split_off := by
  refine T.F_split_off.okX sc_split_off (fun vs H Q E h => ?_) (fun cdv A0 outer s H vs Q E hr h => ?_)
  · obtain ⟨g, rfl, _⟩ := h; rfl
  · obtain ⟨g, rfl, h0, h64, k⟩ := h
    have hL := off_least h64 h0
    obtain ⟨l1, l6⟩ := leastF g h64 h0
    refine ⟨_, (pss_cons (ps_set (i := 1) sc_split_off.nd rfl (.inl rfl) (pe_call (ok_hands_of T) (hr.mono (by decide)) (by rfl) T.g_hands_of T.F_hands_of.kp T.b_hands_of .nil (passes_call (takes_of rfl rfl rfl rfl) (fun _ _ _ _ h => h)) (pa_cons (pv 0) pa_nil)))
      (pss_one (ps_ret (pe_tup (pa_cons (pe_ix (ix_seqK (K := K) rfl) (pv 1) pe_int (fun _ _ => rfl)) (pa_cons (pe_slice (sl_listK (K := K) rfl) (pv 1) (po_some pe_int) po_none) (pa_cons (pe_op op_subX (pv 0) (pe_op op_shlX pe_int (pe_ix (ix_seqK (K := K) rfl) (pv 1) pe_int (fun _ _ => rfl)))) pa_nil))))))), ?_⟩
    walk_at "x"
    refine u_hands_of h64 fun p1 H1 n1 s1 c1 => ?_
    have w1 := (Own.start (H := H)).newE n1 s1 c1
    walk_at "x"
    refine x_ixXL (w1.sq 0 rfl) (atI_nat (j := 0) (by rw [List.getElem?_map, l1] <;> rfl)) ?_
    walk_at "x"
    refine ⟨p1, _, rfl, w1.sq 0 rfl, fun p2 n2 => ?_⟩
    rw [show (1 : Int) = ((1 : Nat) : Int) from rfl, cut_from, ← List.map_drop]
    have w2 := w1.new (o := .lst (((handsM g).drop 1).map vnat)) n2
    walk_at "x"
    refine x_ixXL (w2.sq 1 rfl) (atI_nat (j := 0) (by rw [List.getElem?_map, l1] <;> rfl)) ?_
    walk_at "x"
    refine x_shl ⟨by omega, by omega, by decide⟩ ?_
    rw [show ((1 : Nat) : Int) = 1 from rfl, shl_nat]
    walk_at "x"
    refine ⟨(by show 3 ≤ sizeLine; decide), fun p3 n3 => ?_⟩
    rw [show (g : Int) - ((2 ^ leastM g : Nat) : Int) = ((g - 2 ^ leastM g : Nat) : Int) by omega]
    have w3 := w2.new (o := .tup [vnat (leastM g), .ref p2, .int ((g - 2 ^ leastM g : Nat) : Int)]) n3
    exact k p3 p2 _ (w3.none 0 rfl) (w3.none 1 rfl) (fun z => by subst z; rw [upd_same] at n3; cases n3) w3.ex (w3.get 0 rfl) (w3.get 1 rfl)

/-! ### best_sums -/
def sp_best_sums : Sp := fun vs H Q _ => ∃ (m : Nat) (d : Addr) (fs : List Tr), vs = [.int (m : Int), .ref d] ∧ 1 ≤ m ∧ m ≤ 6 ∧ H d = some (.dT (fs.map entT2)) ∧ RetL ((bestL fs (2 ^ m - 1)).map V.int) H Q
theorem ok_best_sums (T : Txt K mg A) : FnOk P w K mg base (L2.CX P w) 5 A.a_best_sums A.d_best_sums ["many", "numbers"] sp_best_sums := by
  refine T.F_best_sums.okX sc_best_sums (fun vs H Q E h => ?_) (fun cdv A0 outer s H vs Q E hr h => ?_)
  · obtain ⟨m, d, fs, rfl, _⟩ := h; rfl
  · obtain ⟨m, d, fs, rfl, m1, m6, hd, k⟩ := h
    have hp := pow6 m6
    have hpp := Nat.two_pow_pos m
    refine ⟨_, (pss_cons (ps_set (i := 2) sc_best_sums.nd rfl (.inl rfl) (pe_lst (pa_cons pe_int pa_nil)))
      (pss_cons (ps_for (passes_of rfl) rfl (pi_range2 (by rfl) T.z_range (pa_cons pe_int (pa_cons (pe_op op_shlX pe_int (pv 0)) pa_nil))) (pg_name (i := 3) sc_best_sums.nd rfl (.inl rfl)) (pss_cons (ps_asg (pe_call (ok_split_off T) (hr.mono (by decide)) (by rfl) T.g_split_off T.F_split_off.kp T.b_split_off .nil (passes_call (takes_of rfl rfl rfl rfl) (fun _ _ _ _ h => h)) (pa_cons (pv 3) pa_nil)) (pg_tupK (K := K) (n := 3) rfl rfl (pgs_cons (pg_name (i := 4) sc_best_sums.nd rfl (.inl rfl)) (pgs_cons (pg_name (i := 5) sc_best_sums.nd rfl (.inl rfl)) (pgs_cons (pg_name (i := 6) sc_best_sums.nd rfl (.inl rfl)) pgs_nil)))))
      (pss_cons (ps_set (i := 7) sc_best_sums.nd rfl (.inl rfl) (pe_ix (ix_seqK (K := K) rfl) (pv 2) (pv 6) (fun _ _ => rfl)))
      (pss_cons (ps_for (passes_of rfl) rfl (pi_listK (K := K) rfl (pv 5)) (pg_name (i := 8) sc_best_sums.nd rfl (.inl rfl)) (pss_one (ps_if (pt_cmp (pc_din (hu_of hr) (pe_tup (pa_cons (pv 4) (pa_cons (pv 8) pa_nil))) (pv 1))) (pss_one (ps_set (i := 7) sc_best_sums.nd rfl (.inl rfl) (pe_callB (call_max2X rfl) (by rfl) T.z_max (by decide +kernel) (pa_cons (pv 7) (pa_cons (pe_op op_addX (pe_ix (ix_seqK (K := K) rfl) (pv 2) (pe_op op_subX (pv 6) (pe_op op_shlX pe_int (pv 8))) (fun _ _ => rfl)) (pe_dget (hu_of hr) (pv 1) (pe_tup (pa_cons (pv 4) (pa_cons (pv 8) pa_nil))) (fun _ _ => rfl))) pa_nil))))) pss_nil)))
      (pss_one (ps_expr (pe_bm PySem.F.plainAttrs_list PySem.F.slot_list_append PySem.F.type_list_append mt_append (pv 2) (pa_cons (pv 7) pa_nil))))))))
      (pss_one (ps_ret (pv 2))))), ?_⟩
    walk_at "x"
    refine ⟨(by show 1 ≤ sizeLine; decide), fun p1 n1 => ?_⟩
    have w1 := (Own.start (H := H)).new (o := .lst ([0].map V.int)) n1
    walk_at "x"
    refine x_shl ⟨by omega, by omega, by decide⟩ ?_
    rw [shl_nat]
    walk_at "x"
    refine ⟨_, _, rfl, ⟨by omega, by omega, by omega, by omega⟩, for_range (lo := 1) (n := (((2 ^ m : Nat) : Int) - 1).toNat) (fun i σ' H' => (∃ v3 v4 v5 v6 v7 v8, σ' = [some (.int (m : Int)), some (.ref d), some (.ref p1), v3, v4, v5, v6, v7, v8]) ∧ Own H [(p1, .lst ((bestL fs i).map V.int))] H') ⟨⟨_, _, _, _, _, _, rfl⟩, w1⟩ ?_ ?_⟩
    · rintro i σ' H' hi ⟨⟨v3, v4, v5, v6, v7, v8, rfl⟩, w⟩
      rw [show (1 : Int) + (i : Int) = ((i + 1 : Nat) : Int) by omega]
      have h64 : i + 1 < 64 := by omega
      have hL := off_least h64 (Nat.succ_pos i)
      have hbl := bestL_len fs i
      have hl1 := Nat.two_pow_pos (leastM (i + 1))
      walk_at "x"
      refine x_asgG ?_
      walk_at "x"
      refine ⟨i + 1, rfl, Nat.succ_pos i, h64, fun t l H2 nt nl ne s2 ct cl => ?_⟩
      have w2 := own_newSplit w nt nl ne s2 ct cl
      refine x_gt (w2.sqT 0 rfl) rfl ?_
      walk_at "x"
      refine x_ixXL (w2.sq 2 rfl) (at_int (ns := bestL fs i) (by omega) (by omega)) ?_
      walk_at "x"
      have w3 := w2.pop
      refine ⟨l, rfl, ⟨_, w3.sq 0 rfl⟩, for_list (xs := ((handsM (i + 1)).drop 1).map vnat) (fun j σ' H' => (∃ v8, σ' = [some (.int (m : Int)), some (.ref d), some (.ref p1), some (.int ((i + 1 : Nat) : Int)), some (vnat (leastM (i + 1))), some (.ref l), some (.int ((i + 1 - 2 ^ leastM (i + 1) : Nat) : Int)), some (.int ((((handsM (i + 1)).drop 1).take j).foldl (stepP fs (bestL fs i) (i + 1)) (gi (bestL fs i) ((i + 1 - 2 ^ leastM (i + 1) : Nat) : Int)))), v8]) ∧
        Own H [(l, .lst (((handsM (i + 1)).drop 1).map vnat)), (p1, .lst ((bestL fs i).map V.int))] H') ⟨⟨_, rfl⟩, w3⟩ (fun j σ' H' _ h => h.2.sq 0 rfl) ?_ ?_⟩
      · rintro j x σ' H' hx ⟨⟨v8, rfl⟩, w⟩
        obtain ⟨o, ho, rfl⟩ := map_at hx
        obtain ⟨o6, ol, oo⟩ := off_other h64 (Nat.succ_pos i) (List.mem_of_getElem? ho)
        have hl6 : leastM (i + 1) < 6 := by omega
        have ho1 := Nat.two_pow_pos o
        have st : (((handsM (i + 1)).drop 1).take (j + 1)).foldl (stepP fs (bestL fs i) (i + 1)) (gi (bestL fs i) ((i + 1 - 2 ^ leastM (i + 1) : Nat) : Int)) = stepP fs (bestL fs i) (i + 1) ((((handsM (i + 1)).drop 1).take j).foldl (stepP fs (bestL fs i) (i + 1)) (gi (bestL fs i) ((i + 1 - 2 ^ leastM (i + 1) : Nat) : Int))) o := by
          rw [List.take_add_one, ho, List.foldl_append] <;> rfl
        generalize (((handsM (i + 1)).drop 1).take j).foldl (stepP fs (bestL fs i) (i + 1)) (gi (bestL fs i) ((i + 1 - 2 ^ leastM (i + 1) : Nat) : Int)) = most at st ⊢
        rw [st]
        unfold stepP
        walk_at "x"
        refine ⟨(by show 2 ≤ sizeLine; decide), fun q1 k1 => ?_⟩
        have w4 := w.new (o := .tup [vnat (leastM (i + 1)), vnat o]) k1
        walk_at "x"
        refine ⟨d, _, rfl, DGet.t (k := [Sum.inl ((leastM (i + 1) : Nat) : Int), Sum.inl (o : Int)]) (w4.ex _ _ hd) (w4.get 0 rfl), ?_⟩
        rw [numOf_val]
        cases cn : numOf fs (leastM (i + 1)) o with
        | none =>
          refine ⟨false, rfl, iteF ?_⟩
          exact ⟨⟨_, rfl⟩, w4.pop⟩
        | some z =>
          refine ⟨true, rfl, iteT ?_⟩
          walk_at "x"
          refine x_shl ⟨by omega, by omega, by decide⟩ ?_
          rw [shl_nat]
          walk_at "x"
          rw [show ((i + 1 - 2 ^ leastM (i + 1) : Nat) : Int) - ((2 ^ o : Nat) : Int) = ((i + 1 - 2 ^ leastM (i + 1) - 2 ^ o : Nat) : Int) by omega]
          refine x_ixXL (w4.sq 2 rfl) (at_int (ns := bestL fs i) (by omega) (by omega)) ?_
          walk_at "x"
          refine ⟨(by show 2 ≤ sizeLine; decide), fun q2 k2 => ?_⟩
          have w5 := w4.new (o := .tup [vnat (leastM (i + 1)), vnat o]) k2
          walk_at "x"
          refine ⟨d, .int z, rfl, ?_, ?_⟩
          · have e := numOf_val fs (leastM (i + 1)) o
            rw [cn] at e
            have g := DGet.t (k := [Sum.inl ((leastM (i + 1) : Nat) : Int), Sum.inl (o : Int)]) (w5.ex _ _ hd) (w5.get 0 rfl)
            rw [e] at g
            exact g
          walk_at "x"
          exact ⟨⟨_, rfl⟩, w5.pop.pop⟩
      · rintro σ' H' ⟨⟨v8, rfl⟩, w⟩
        rw [List.length_map, List.take_length]
        walk_at "x"
        refine ⟨x_tyL (w.get 1 rfl), ?_⟩
        walk_at "x"
        refine x_append (w.get 1 rfl) (by rw [List.length_map, hbl]; exact Nat.lt_of_lt_of_le (show i + 1 < 1000 by omega) (by decide)) ?_
        rw [map_app_int]
        exact ⟨⟨_, _, _, _, _, _, rfl⟩, (w.put (o' := .lst ((bestL fs i ++ [stepB fs (bestL fs i) (i + 1)]).map V.int)) 1 rfl).sub (.cons _ (List.Sublist.refl _))⟩
    · rintro σ' H' ⟨⟨v3, v4, v5, v6, v7, v8, rfl⟩, w⟩
      walk_at "x"
      rw [show (((2 ^ m : Nat) : Int) - 1).toNat = 2 ^ m - 1 by omega] at w
      exact k.go w

/-! ### Match___init__ -/
def sp_Match___init__ (A : Ads) (K : PySem.W.Frag) : Sp := fun vs H Q E => ∃ (p C dx b : Addr) (v : V) (ts : List Addr) (yss : List (List V)), vs = [.ref p, v, .ref b] ∧ H p = some (.ins C dx []) ∧ Cls K C ∧ NoAttr K C "many" ∧ NoAttr K C "pairs" ∧ NoAttr K C "prices" ∧ NoAttr K C "sums" ∧ Thing H v ∧ Rd H b (.lst (ts.map V.ref)) ∧
  ts.length = yss.length ∧ ts.length ≤ 1000 ∧ (∀ (i : Nat) (t : Addr) (ys : List V), ts[i]? = some t → yss[i]? = some ys → Rd H t (.tup ys) ∧ ∀ y ∈ ys, Thing H y) ∧
  (∀ (m : Nat) (fs : List Tr), v = .int (m : Int) → 1 ≤ m → m ≤ 6 → yss = fs.map trV → pairsOk m fs → ∀ gs : List Tr, gs.Perm fs → SortedT gs → ∀ (l d s : Addr) (us : List Addr) (H' : Hp), H l = none → H d = none → H s = none → (∀ u ∈ us, H u = none) → SameX p H H' →
    H' p = some (.ins C dx [("many", .int (m : Int)), ("pairs", .ref l), ("prices", .ref d), ("sums", .ref s)]) → H' l = some (.lst (us.map V.ref)) → TrAll H' us gs → H' d = some (.dT (gs.map entT2)) → H' s = some (.lst ((bestL gs (2 ^ m - 1)).map V.int)) → Q .non H') ∧
  ((∀ (m : Nat) (fs : List Tr), v = .int (m : Int) → 1 ≤ m → m ≤ 6 → yss = fs.map trV → ¬ pairsOk m fs) → ∀ H', SameX p H H' → E (.ref A.NoRule) none H')
theorem ok_Match___init__ (T : Txt K mg A) : FnOk P w K mg base (L2.CX P w) 6 A.a_Match___init__ A.d_Match___init__ ["self", "many", "pairs"] (sp_Match___init__ A K) := by
  refine T.F_Match___init__.okX sc_Match___init__ (fun vs H Q E h => ?_) (fun cdv A0 outer s H vs Q E hr h => ?_)
  · obtain ⟨p, C, dx, b, v, ts, yss, rfl, _⟩ := h; rfl
  · obtain ⟨p, C, dx, b, v, ts, yss, rfl, e, c, na, nb, nc, nd, hT, hS, hl, hz, hR, k, kE⟩ := h
    have hbp := sqL_ne (K := K) e hS
    refine ⟨_, (pss_cons (ps_expr (pe_base (pe_glob (v := .ref A.Rule) (by rfl) T.g_Rule rfl) T.bs_Rule (ok_Rule___init__ T) (hr.mono (by decide)) T.b_Rule___init__ (passes_call (takes_of rfl rfl rfl rfl) (fun _ _ _ _ h => h)) (pa_cons (pv 0) (pa_cons (pv 1) pa_nil))))
      (pss_cons (ps_fld (pv 0) (pe_call (ok_pairs_of T) (hr.mono (by decide)) (by rfl) T.g_pairs_of T.F_pairs_of.kp T.b_pairs_of .nil (passes_call (takes_of rfl rfl rfl rfl) (fun _ _ _ _ h => h)) (pa_cons (pv 1) (pa_cons (pv 2) pa_nil))) rfl)
      (pss_cons (ps_fld (pv 0) pe_dnewT rfl)
      (pss_cons (ps_for (passes_of rfl) rfl (pi_listK (K := K) rfl (pe_fldK (K := K) rfl (pv 0) rfl)) (pg_tupK (K := K) (n := 3) rfl rfl (pgs_cons (pg_name (i := 3) sc_Match___init__.nd rfl (.inl rfl)) (pgs_cons (pg_name (i := 4) sc_Match___init__.nd rfl (.inl rfl)) (pgs_cons (pg_name (i := 5) sc_Match___init__.nd rfl (.inl rfl)) pgs_nil)))) (pss_one (ps_dput (hu_of hr) (pe_fldK (K := K) rfl (pv 0) rfl) (pe_tup (pa_cons (pv 3) (pa_cons (pv 4) pa_nil))) (pv 5) rfl)))
      (pss_one (ps_fld (pv 0) (pe_call (ok_best_sums T) (hr.mono (by decide)) (by rfl) T.g_best_sums T.F_best_sums.kp T.b_best_sums .nil (passes_call (takes_of rfl rfl rfl rfl) (fun _ _ _ _ h => h)) (pa_cons (pv 1) (pa_cons (pe_fldK (K := K) rfl (pv 0) rfl) pa_nil))) rfl)))))), ?_⟩
    walk_at "x"
    refine ⟨rfl, ?_⟩
    walk_at "x"
    refine ⟨p, C, dx, v, rfl, e, c, na, hT, fun m ev h1 h6 H1 s1 c1 => ?_, fun hn H' s' => kE (fun m fs ev h1 h6 _ _ => hn ⟨_, ev, by omega, by omega⟩) H' (Same.x s')⟩
    subst ev
    have w1 := (own_hole e).setX 0 rfl s1 c1
    walk_at "x"
    refine ⟨m, b, ts, yss, rfl, .inl (rd_x s1 hS hbp), hl, hz, fun i t ys ht hy => ?_, fun fs ey ok gs hg hs l us H2 nl nu s2 c2 hu => ?_, fun hn H' s' => kE (fun m' fs ev h1 h6 ey ok => ?_) H' (s1.trans (Same.x s'))⟩
    · obtain ⟨r1, r2⟩ := hR i t ys ht hy
      exact ⟨rd_x s1 r1 (rdT_ne e r1), fun y hy => thing_x s1 (r2 y hy) (thing_ne e (r2 y hy))⟩
    case refine_3 =>
      have : m = m' := by have := V.int.inj ev; omega
      subst this
      exact hn fs ey ok
    obtain ⟨B2, sB2, hu2, w2⟩ := own_newT w1 nl nu s2 c2 hu
    have back : ∀ q, q ≠ p → H1 q = none → H q = none := fun q hq hn => by
      cases e2 : H q with
      | none => rfl
      | some o => have := s1 q o hq e2; rw [hn] at this; cases this
    have nup : ∀ u ∈ us, u ≠ p := fun u hu z => by subst z; have := nu _ hu; rw [c1] at this; cases this
    have hul := hu2.len
    have hgl := hg.length_eq
    have hfl : fs.length = ts.length := by rw [hl, ey, List.length_map]
    have okg := pairsOk_perm hg.symm ok
    walk_at "x"
    refine ⟨p, C, dx, _, rfl, w2.get 1 rfl, c, nb, by show 1 < 1000; decide, ?_⟩
    have w3 := w2.put (o' := .ins C dx [("many", .int (m : Int)), ("pairs", .ref l)]) 1 rfl
    walk_at "x"
    intro d ned
    have w4 := w3.new (o := .dT []) ned
    walk_at "x"
    refine ⟨p, C, dx, _, rfl, w4.get 2 rfl, c, nc, by show 2 < 1000; decide, ?_⟩
    have w5 : Own B2 [(d, .dT (([] : List Tr).map entT2)), (l, .lst (us.map V.ref)), (p, .ins C dx [("many", .int (m : Int)), ("pairs", .ref l), ("prices", .ref d)])] _ := w4.put (o' := .ins C dx [("many", .int (m : Int)), ("pairs", .ref l), ("prices", .ref d)]) 2 rfl
    walk_at "x"
    refine ⟨p, C, dx, _, .ref l, rfl, w5.get 2 rfl, c, nb, rfl, ?_⟩
    refine ⟨l, rfl, ⟨_, w5.sq 1 rfl⟩, for_list (xs := us.map V.ref) (fun j σ' H' => (∃ v3 v4 v5, σ' = [some (.ref p), some (.int (m : Int)), some (.ref b), v3, v4, v5]) ∧ Own B2 [(d, .dT ((gs.take j).map entT2)), (l, .lst (us.map V.ref)), (p, .ins C dx [("many", .int (m : Int)), ("pairs", .ref l), ("prices", .ref d)])] H')
      ⟨⟨_, _, _, rfl⟩, w5⟩ (fun j σ' H' _ h => h.2.sq 1 rfl) ?_ ?_⟩
    · rintro j x σ' H' hx ⟨⟨v3, v4, v5, rfl⟩, w⟩
      obtain ⟨u, hu', rfl⟩ := map_at hx
      obtain ⟨f, hf, hT'⟩ := hu2.at hu'
      have hj := (List.getElem?_eq_some_iff.mp hf).1
      have hne : ∀ t ∈ gs.take j, trK t ≠ trK f := fun t ht e => by
        have nd := okg.2
        have eg : gs = gs.take j ++ (f :: gs.drop (j + 1)) := by
          obtain ⟨hi2, e5⟩ := List.getElem?_eq_some_iff.mp hf
          rw [← e5, List.getElem_cons_drop, List.take_append_drop]
        rw [eg, List.map_append, List.map_cons, List.nodup_append] at nd
        exact nd.2.2 (trK t) (List.mem_map.mpr ⟨t, ht, rfl⟩) (trK f) (.head _) e
      refine x_gt (SqT.of (w.ex _ _ hT')) rfl ?_
      walk_at "x"
      refine ⟨p, C, dx, _, .ref d, rfl, w.get 2 rfl, c, nc, rfl, ?_⟩
      walk_at "x"
      refine ⟨(by show 2 ≤ sizeLine; decide), fun q1 k1 => ?_⟩
      have w6 := w.new (o := .tup [vnat f.1, vnat f.2.1]) k1
      refine ⟨d, _, rfl, DPut.t (k := trK f) (w6.get 1 rfl) (w6.get 0 rfl) (by rw [List.length_map]; exact Nat.lt_of_le_of_lt (List.length_take_le j gs) (Nat.lt_of_lt_of_le (show j < 10000 by omega) (by decide))), ?_⟩
      rw [putT_new hne]
      have w7 := (w6.put (o' := .dT ((gs.take j).map entT2 ++ [(trK f, .int f.2.2)])) 1 rfl).pop
      refine ⟨⟨_, _, _, rfl⟩, ?_⟩
      rw [List.take_add_one, hf, List.map_append]
      exact w7
    · rintro σ' H' ⟨⟨v3, v4, v5, rfl⟩, w⟩
      rw [List.length_map, hul, List.take_length] at w
      walk_at "x"
      refine ⟨p, C, dx, _, .ref d, rfl, w.get 2 rfl, c, nc, rfl, ?_⟩
      refine ⟨m, d, gs, rfl, h1, h6, w.get 0 rfl, fun sq H8 n8 s8 c8 => ?_⟩
      have w8 := w.newE n8 s8 c8
      walk_at "x"
      refine ⟨p, C, dx, _, rfl, w8.get 3 rfl, c, nd, by show 3 < 1000; decide, ?_⟩
      have w9 : Own B2 [(sq, .lst ((bestL gs (2 ^ m - 1)).map V.int)), (d, .dT (gs.map entT2)), (l, .lst (us.map V.ref)), (p, .ins C dx [("many", .int (m : Int)), ("pairs", .ref l), ("prices", .ref d), ("sums", .ref sq)])] _ := w8.put (o' := .ins C dx [("many", .int (m : Int)), ("pairs", .ref l), ("prices", .ref d), ("sums", .ref sq)]) 3 rfl
      have ndp := w9.nd
      simp only [List.map_cons, List.map_nil, List.nodup_cons, List.mem_cons, List.not_mem_nil, or_false, not_or, not_false_eq_true, List.nodup_nil, and_true] at ndp
      have fr : ∀ q, B2 q = none → q ≠ p → H q = none := fun q h1 h2 => by
        cases e3 : H q with
        | none => rfl
        | some o => have := sB2 q o (by rw [hole_ne h2]; exact e3); rw [h1] at this; cases this
      exact k m fs rfl h1 h6 ey ok gs hg hs l d sq us _ (fr l (w9.none 2 rfl) ndp.2.2) (fr d (w9.none 1 rfl) ndp.2.1.2) (fr sq (w9.none 0 rfl) ndp.1.2.2) (fun u hu => back u (nup u hu) (nu u hu)) (sameX_hole sB2 w9.ex) (w9.get 3 rfl) (w9.get 2 rfl) (hu2.same w9.ex) (w9.get 1 rfl) (w9.get 0 rfl)
theorem u_mkMatch {B H1 : Hp} {cs : Cells} {x d : Addr} {Q : VK} {E : XK} {m : Nat} (T : Txt K mg A) (w : Own B cs H1) (a0 : H1 x = none) (e0 : H1 d = none) (ne0 : d ≠ x) {l : Addr} {ts : List Addr} {fs : List Tr} (hS : Rd H1 l (.lst (ts.map V.ref))) (hT : TrAll H1 ts fs) (hz : ts.length ≤ 1000) (h1 : 1 ≤ m) (h6 : m ≤ 6)
    (q : pairsOk m fs → ∀ gs : List Tr, gs.Perm fs → SortedT gs → pairsOk m gs → ∀ B2 H2, Same B B2 → Own B2 cs H2 → MatchE A.Match K B2 x m gs → Q .non H2) (qE : ¬ pairsOk m fs → ∀ H2, Same H1 H2 → E (.ref A.NoRule) none H2) : sp_Match___init__ A K [.ref x, .int (m : Int), .ref l] (upd (upd H1 d (.own x)) x (.ins A.Match d [])) Q E := by
  have sm := same_mk (C := A.Match) a0 e0 ne0
  refine ⟨x, A.Match, d, l, _, ts, fs.map trV, rfl, upd_same, T.cl_Match, T.n_Match_many, T.n_Match_pairs, T.n_Match_prices, T.n_Match_sums, .int _, rd_same sm hS, by rw [List.length_map]; exact hT.len, hz, fun i t ys ht hys => tr_thing (hT.same sm) ht hys, fun m' fs' em _ _ ef ok gs pm srt l0 d0 s0 us0 J nl nd ns nu sx cx cl tu cd cs' => ?_, fun hn J sx => qE (fun ok => hn m fs rfl h1 h6 rfl ok) J (sameX_mk a0 e0 ne0 sx)⟩
  obtain rfl : m = m' := by have := V.int.inj em; omega
  obtain rfl := trVs_inj ef
  obtain ⟨B2, sB, w2, eq, ex⟩ := own_mk w a0 e0 ne0 sx
  have okg := pairsOk_perm pm.symm ok
  exact q ok gs pm srt okg B2 J sB w2 (.mk (ex.trans cx) (SqL.of ((eq _ nl).trans cl)) (tu.congr fun u hu => eq _ (nu u hu)) ((eq _ nd).trans cd) (SqL.of ((eq _ ns).trans cs')) okg h1 h6)

/-! ### Net___init__ -/
def sp_Net___init__ (A : Ads) (K : PySem.W.Frag) : Sp := fun vs H Q E => ∃ (p C dx cA b : Addr) (xs : List V) (ts : List Addr) (yss : List (List V)), vs = [.ref p, .ref cA, .ref b] ∧ H p = some (.ins C dx []) ∧ Cls K C ∧ NoAttr K C "many" ∧ NoAttr K C "costs" ∧ NoAttr K C "ropes" ∧ Rd H cA (.lst xs) ∧ (∀ y ∈ xs, Thing H y) ∧ Rd H b (.lst (ts.map V.ref)) ∧
  ts.length = yss.length ∧ ts.length ≤ 1000 ∧ xs.length ≤ 1000 ∧ (∀ (i : Nat) (t : Addr) (ys : List V), ts[i]? = some t → yss[i]? = some ys → Rd H t (.tup ys) ∧ ∀ y ∈ ys, Thing H y) ∧
  (∀ (cs : List Int) (fs : List Tr), xs = cs.map V.int → 1 ≤ cs.length → cs.length ≤ 6 → yss = fs.map trV → pairsOk cs.length fs → (∀ c ∈ cs, 0 ≤ c) → (∀ f ∈ fs, 0 ≤ f.2.2) → ∀ gs : List Tr, gs.Perm fs → SortedT gs → ∀ (l d : Addr) (us : List Addr) (H' : Hp), H l = none → H d = none → (∀ u ∈ us, H u = none) → SameX p H H' →
    H' p = some (.ins C dx [("many", .int (cs.length : Int)), ("costs", .ref l), ("ropes", .ref d)]) → H' l = some (.lst (cs.map V.int)) → H' d = some (.lst (us.map V.ref)) → TrAll H' us gs → Q .non H') ∧
  ((∀ (cs : List Int) (fs : List Tr), xs = cs.map V.int → 1 ≤ cs.length → cs.length ≤ 6 → yss = fs.map trV → pairsOk cs.length fs → (∀ c ∈ cs, 0 ≤ c) → ¬ (∀ f ∈ fs, 0 ≤ f.2.2)) → ∀ H', SameX p H H' → E (.ref A.NoRule) none H')
theorem map_int_inj {a b : List Int} (h : a.map V.int = b.map V.int) : a = b := (List.map_inj_right fun _ _ e => V.int.inj e).mp h
theorem ok_Net___init__ (T : Txt K mg A) : FnOk P w K mg base (L2.CX P w) 5 A.a_Net___init__ A.d_Net___init__ ["self", "costs", "ropes"] (sp_Net___init__ A K) := by
  refine T.F_Net___init__.okX sc_Net___init__ (fun vs H Q E h => ?_) (fun cdv A0 outer s H vs Q E hr h => ?_)
  · obtain ⟨p, C, dx, cA, b, xs, ts, yss, rfl, _⟩ := h; rfl
  · obtain ⟨p, C, dx, cA, b, xs, ts, yss, rfl, e, c, na, nb, nc, hX, hT, hS, hl, hz, hxz, hR, k, kE⟩ := h
    refine ⟨_, (pss_cons (ps_expr (pe_base (pe_glob (v := .ref A.Rule) (by rfl) T.g_Rule rfl) T.bs_Rule (ok_Rule___init__ T) (hr.mono (by decide)) T.b_Rule___init__ (passes_call (takes_of rfl rfl rfl rfl) (fun _ _ _ _ h => h)) (pa_cons (pv 0) (pa_cons (pe_callB (call_lenK (K := K) rfl) (by rfl) T.z_len (by decide +kernel) (pa_cons (pv 1) pa_nil)) pa_nil))))
      (pss_cons (ps_expr (pe_call (ok_look_numbers T) (hr.mono (by decide)) (by rfl) T.g_look_numbers T.F_look_numbers.kp T.b_look_numbers .nil (passes_call (takes_of rfl rfl rfl rfl) (fun _ _ _ _ h => h)) (pa_cons (pv 1) pa_nil)))
      (pss_cons (ps_fld (pv 0) (pe_callTy (call_listK (K := K) rfl) (by rfl) T.z_list (by decide +kernel) (pa_cons (pv 1) pa_nil)) rfl)
      (pss_cons (ps_fld (pv 0) (pe_call (ok_pairs_of T) (hr.mono (by decide)) (by rfl) T.g_pairs_of T.F_pairs_of.kp T.b_pairs_of .nil (passes_call (takes_of rfl rfl rfl rfl) (fun _ _ _ _ h => h)) (pa_cons (pe_callB (call_lenK (K := K) rfl) (by rfl) T.z_len (by decide +kernel) (pa_cons (pv 1) pa_nil)) (pa_cons (pv 2) pa_nil))) rfl)
      (pss_one (ps_for (passes_of rfl) rfl (pi_listK (K := K) rfl (pe_op op_addX (pe_fldK (K := K) rfl (pv 0) rfl) (pe_lc (own := [("rope", 4)]) rfl sc_Net___init__.nd (pi_listK (K := K) rfl (pe_fldK (K := K) rfl (pv 0) rfl)) (blkOk_by (own := [("rope", 4)]) (N := N_Net___init__) (sc := defScope s_Net___init__) (by decide +kernel)) (fun _ _ _ _ _ => (pg_name (i := 4) sc_Net___init__.nd rfl (.inl rfl))) (fun _ _ _ _ _ => pts_nil) (fun _ _ _ _ _ => (pe_ix (ix_seqK (K := K) rfl) (pv 4) pe_int (fun _ _ => rfl)))))) (pg_name (i := 3) sc_Net___init__.nd rfl (.inl rfl)) (pss_one (ps_if (pt_cmpR op_ltX (pv 3) pe_int (nomark _)) (pss_one (ps_raise rfl (takes_of rfl rfl rfl rfl) (pmk_own PySem.F.excBase_ValueError T.x_NoRule T.g_NoRule T.k_NoRule (raises_own T.e_NoRule T.t_NoRule) (by rfl)))) pss_nil)))))))), ?_⟩
    have hcp := sqL_ne (K := K) e hX
    have hbp := sqL_ne (K := K) e hS
    walk_at "x"
    refine ⟨rfl, ?_⟩
    walk_at "x"
    refine x_lenL (.inl hX) ?_
    walk_at "x"
    refine ⟨p, C, dx, _, rfl, e, c, na, .int _, fun n en h1 h6 H1 s1 c1 => ?_, fun hn H' s' => kE (fun cs fs ex a1 a2 _ _ _ _ => hn ⟨_, rfl, by rw [ex, List.length_map]; omega, by rw [ex, List.length_map]; omega⟩) H' (Same.x s')⟩
    have hxl : xs.length = n := by have := V.int.inj en; omega
    walk_at "x"
    have hX1 := rd_x s1 hX hcp
    refine ⟨cA, xs, rfl, .inl (.inl hX1), fun y hy => thing_x s1 (hT y hy) (thing_ne e (hT y hy)), fun hall H2 s2 => ?_, fun hn H' s' => kE (fun cs fs ex _ _ _ _ _ => absurd hn (by rw [ex, List.all_map]; simp [isI])) H' (s1.trans (Same.x s'))⟩
    obtain ⟨cs, rfl⟩ := all_int hall
    rw [List.length_map] at hxl
    subst hxl
    have w1 := ((own_hole e).setX 0 rfl s1 c1).ext s2
    walk_at "x"
    refine x_list (s2.seq (.inl hX1)) (fun l nl => ?_)
    have w2 := w1.new (o := .lst (cs.map V.int)) nl
    walk_at "x"
    refine ⟨p, C, dx, _, rfl, w2.get 1 rfl, c, nb, by show 1 < 1000; decide, ?_⟩
    have w3 := w2.put (o' := .ins C dx [("many", .int (cs.length : Int)), ("costs", .ref l)]) 1 rfl
    walk_at "x"
    have sx3 := sameX_hole (Same.refl _) w3.ex
    have hS3 := rd_x sx3 hS hbp
    refine x_lenL (.inl (rd_x sx3 hX hcp)) ?_
    rw [List.length_map]
    walk_at "x"
    refine ⟨cs.length, b, ts, yss, rfl, .inl hS3, hl, hz, fun i t ys ht hy => ?_, fun fs ey ok gs hg hs d us H6 nd nu s6 c6 hu => ?_, fun hn H' s' => kE (fun cs' fs ex a1 a2 ey ok _ => ?_) H' (sx3.trans (Same.x s'))⟩
    · obtain ⟨r1, r2⟩ := hR i t ys ht hy
      exact ⟨rd_x sx3 r1 (rdT_ne e r1), fun y hy => thing_x sx3 (r2 y hy) (thing_ne e (r2 y hy))⟩
    case refine_3 =>
      have : cs = cs' := map_int_inj ex
      subst this
      exact absurd ok (hn fs ey)
    obtain ⟨B2, sB2, hu2, w4⟩ := own_newT w3 nd nu s6 c6 hu
    have hul := hu2.len
    have hgl := hg.length_eq
    have hfl : fs.length = ts.length := by rw [hl, ey, List.length_map]
    walk_at "x"
    refine ⟨p, C, dx, _, rfl, w4.get 2 rfl, c, nc, by show 2 < 1000; decide, ?_⟩
    have w5 : Own B2 [(d, .lst (us.map V.ref)), (l, .lst (cs.map V.int)), (p, .ins C dx [("many", .int (cs.length : Int)), ("costs", .ref l), ("ropes", .ref d)])] _ := w4.put (o' := .ins C dx [("many", .int (cs.length : Int)), ("costs", .ref l), ("ropes", .ref d)]) 2 rfl
    walk_at "x"
    refine ⟨p, C, dx, _, .ref l, rfl, w5.get 2 rfl, c, nb, rfl, ?_⟩
    walk_at "x"
    refine ⟨p, C, dx, _, .ref d, rfl, w5.get 2 rfl, c, nc, rfl, ?_⟩
    refine ⟨d, rfl, ⟨_, w5.sq 0 rfl⟩, cp_listO (xs := us.map V.ref) (fun i => ((gs.take i).map fun f => f.2.2).map V.int) w5 0 rfl rfl ?_ ?_⟩
    · intro D i x H' hx w
      obtain ⟨u, hu', rfl⟩ := map_at hx
      obtain ⟨f, hf, hT'⟩ := hu2.at hu'
      walk_at "x"
      refine ⟨rfl, ?_⟩
      walk_at "x"
      refine iteT ?_
      walk_at "x"
      refine x_ixXT (SqT.of (w.ex _ _ hT')) (v := .int f.2.2) rfl ?_
      exact cp_fin w (by rw [take_map hf, List.map_append] <;> rfl) (by rw [List.length_map, List.length_map, List.length_take]; omega)
    · intro D H' w6
      rw [List.length_map, hul, List.take_length] at w6
      refine x_addL (.inl (w6.get 2 rfl)) (.inl (w6.get 0 rfl)) (by rw [List.length_map, List.length_map, List.length_map]; exact Nat.le_trans (show _ ≤ 2000 by omega) (by decide)) (fun pS nS => ?_)
      rw [← List.map_append]
      have w7 := w6.new (o := .lst ((cs ++ gs.map fun f => f.2.2).map V.int)) nS
      refine ⟨pS, rfl, ⟨_, w7.sq 0 rfl⟩, for_list (xs := (cs ++ gs.map fun f => f.2.2).map V.int) (fun i σ' H' => (∃ v3 v4, σ' = [some (.ref p), some (.ref cA), some (.ref b), v3, v4]) ∧ Own B2 [(pS, .lst ((cs ++ gs.map fun f => f.2.2).map V.int)), (D, .lst ((gs.map fun f => f.2.2).map V.int)), (d, .lst (us.map V.ref)), (l, .lst (cs.map V.int)), (p, .ins C dx [("many", .int (cs.length : Int)), ("costs", .ref l), ("ropes", .ref d)])] H' ∧ ∀ z ∈ (cs ++ gs.map fun f => f.2.2).take i, 0 ≤ z) ⟨⟨_, _, rfl⟩, w7, fun _ h => nomatch h⟩ (fun i σ' H' _ h => h.2.1.sq 0 rfl) ?_ ?_⟩
      · rintro i x σ' H' hx ⟨⟨v3, v4, rfl⟩, w, hp⟩
        obtain ⟨z, hz, rfl⟩ := map_at hx
        walk_at "x"
        refine ite2 (fun cq => ?_) (fun cq => ?_)
        · have cq := of_decide_eq_true cq
          refine kE (fun cs' fs' ex _ _ ey' _ hc hf => ?_) _ (sameX_hole sB2 w.ex)
          have : cs = cs' := map_int_inj ex
          subst this
          have : fs = fs' := map_trV_inj (ey.symm.trans ey')
          subst this
          rcases List.mem_append.mp (List.mem_of_getElem? hz) with m | m
          · have := hc z m; omega
          · obtain ⟨f, hf', rfl⟩ := List.mem_map.mp m
            have := hf f (hg.mem_iff.mp hf'); omega
        · have h0 : 0 ≤ z := by
            by_cases c0 : z < 0
            · exact absurd (decide_eq_true c0) cq
            · omega
          refine ⟨⟨_, _, rfl⟩, w, fun y hy => ?_⟩
          rw [List.take_add_one, hz] at hy
          rcases List.mem_append.mp hy with m | m
          · exact hp y m
          · cases m with
            | head => exact h0
            | tail _ m => cases m
      · rintro σ' H' ⟨⟨v3, v4, rfl⟩, w, hp⟩
        rw [List.length_map, List.take_length] at hp
        have ndp := w.nd
        simp only [List.map_cons, List.map_nil, List.nodup_cons, List.mem_cons, List.not_mem_nil, or_false, not_or, not_false_eq_true, List.nodup_nil, and_true] at ndp
        have back : ∀ q, q ≠ p → H1 q = none → H q = none := fun q hq hn => by
          cases e2 : H q with
          | none => rfl
          | some o => have := s1 q o hq e2; rw [hn] at this; cases this
        have fr : ∀ q, B2 q = none → q ≠ p → H q = none := fun q h1 h2 => by
          cases e3 : H q with
          | none => rfl
          | some o => have := sB2 q o (by rw [hole_ne h2]; exact e3); rw [h1] at this; cases this
        have okg := pairsOk_perm hg.symm ok
        refine k cs fs rfl h1 h6 ey ok (fun c hc => hp c (List.mem_append.mpr (.inl hc))) (fun f hf => hp _ (List.mem_append.mpr (.inr (List.mem_map.mpr ⟨f, hg.mem_iff.mpr hf, rfl⟩)))) gs hg hs l d us _ (fr l (w.none 3 rfl) ndp.2.2.2) (fr d (w.none 2 rfl) ndp.2.2.1.2) (fun u hu' => ?_) (sameX_hole sB2 w.ex) (w.get 4 rfl) (w.get 3 rfl) (w.get 2 rfl) (hu2.same w.ex)
        have nu' := nu u hu'
        have hup : u ≠ p := fun z => by subst z; exact absurd ((w3.get 1 rfl).symm.trans nu') (fun h => nomatch h)
        have := w3.fresh nu'
        rwa [hole_ne hup] at this
theorem u_mkNet {B H1 : Hp} {cs : Cells} {x d : Addr} {Q : VK} {E : XK} {m : Nat} (T : Txt K mg A) (w : Own B cs H1) (a0 : H1 x = none) (e0 : H1 d = none) (ne0 : d ≠ x) {c l : Addr} {ns : List Int} {ts : List Addr} {fs : List Tr} (hC : Rd H1 c (.lst (ns.map V.int))) (hl : ns.length = m) (hS : Rd H1 l (.lst (ts.map V.ref))) (hT : TrAll H1 ts fs) (hz : ts.length ≤ 1000) (hz2 : ns.length ≤ 1000)
    (q : 1 ≤ m → m ≤ 6 → pairsOk m fs → (∀ c ∈ ns, 0 ≤ c) → (∀ f ∈ fs, 0 ≤ f.2.2) → ∀ gs : List Tr, gs.Perm fs → SortedT gs → pairsOk m gs → ∀ B2 H2, Same B B2 → Own B2 cs H2 → NetE A.Net K B2 x m ns gs → Q .non H2)
    (qE : ¬ (1 ≤ m ∧ m ≤ 6 ∧ pairsOk m fs ∧ (∀ c ∈ ns, 0 ≤ c) ∧ ∀ f ∈ fs, 0 ≤ f.2.2) → ∀ H2, Same H1 H2 → E (.ref A.NoRule) none H2) : sp_Net___init__ A K [.ref x, .ref c, .ref l] (upd (upd H1 d (.own x)) x (.ins A.Net d [])) Q E := by
  have sm := same_mk (C := A.Net) a0 e0 ne0
  subst hl
  refine ⟨x, A.Net, d, c, l, _, ts, fs.map trV, rfl, upd_same, T.cl_Net, T.n_Net_many, T.n_Net_costs, T.n_Net_ropes, rd_same sm hC, things_int, rd_same sm hS, by rw [List.length_map]; exact hT.len, hz, by rw [List.length_map]; exact hz2, fun i t ys ht hys => tr_thing (hT.same sm) ht hys, fun cs' fs' ec g1 g6 ef ok c0 f0 gs pm srt l0 d0 us0 J nl nd nu sx cx cl cd tu => ?_, fun hn J sx => qE (fun h => hn ns fs rfl h.1 h.2.1 rfl h.2.2.1 h.2.2.2.1 h.2.2.2.2) J (sameX_mk a0 e0 ne0 sx)⟩
  obtain rfl := map_int_inj ec
  obtain rfl := trVs_inj ef
  obtain ⟨B2, sB, w2, eq, ex⟩ := own_mk w a0 e0 ne0 sx
  have okg := pairsOk_perm pm.symm ok
  exact q g1 g6 ok c0 f0 gs pm srt okg B2 J sB w2 (.mk (ex.trans cx) (SqL.of ((eq _ nl).trans cl)) (SqL.of ((eq _ nd).trans cd)) (tu.congr fun u hu => eq _ (nu u hu)) rfl g1 g6 okg srt c0 (fun f hf => f0 f (pm.mem_iff.mp hf)) (pairsOk_len g6 okg))

/-! ### _law_whole -/
def sp__law_whole : Sp := fun vs H Q _ => ∃ v, vs = [v] ∧ Thing H v ∧ RetV (.bl (isI v)) H Q
theorem ok__law_whole (T : Txt K mg A) : FnOk P w K mg base (L2.CX P w) 1 A.a__law_whole A.d__law_whole ["_law_found"] sp__law_whole := by
  refine T.F__law_whole.okX sc__law_whole (fun vs H Q E h => ?_) (fun cdv A0 outer s H vs Q E hr h => ?_)
  · obtain ⟨v, rfl, _⟩ := h; rfl
  · obtain ⟨v, rfl, hv, k⟩ := h
    refine ⟨_, (pss_one (ps_ret (pe_and (pe_callB (call_isiX (K := K) rfl) (by rfl) T.z_isinstance (by decide +kernel) (pa_cons (pv 0) (pa_cons (pe_bltn (v := .ty "int") (by rfl) T.z_int (by decide +kernel) rfl) pa_nil))) (pe_one (pe_not (pe_callB (call_isiX (K := K) rfl) (by rfl) T.z_isinstance (by decide +kernel) (pa_cons (pv 0) (pa_cons (pe_bltn (v := .ty "bool") (by rfl) T.z_bool (by decide +kernel) rfl) pa_nil)))))))), ?_⟩
    walk_at "x"
    refine x_isiInt hv ?_
    walk_at "x"
    have e : isI v = ((isI v || isB v) && !isB v) := by cases v <;> rfl
    have k' := k.go (Same.refl H)
    rw [e] at k'
    cases c : (isI v || isB v) with
    | false => rw [c, Bool.false_and] at k'; exact iteF k'
    | true =>
      rw [c, Bool.true_and] at k'
      refine iteT ?_
      walk_at "x"
      refine x_isiBool hv ?_
      walk_at "x"
      exact k'

/-! ### _law_rule -/
def sp__law_rule (A : Ads) (K : PySem.W.Frag) : Sp := fun vs H Q E => ∃ (kd : Nat) (p : Addr) (ps : List V), vs = [.int (kd : Int), .ref p] ∧ SqL K H p ps ∧
  ((Bad H kd ps ∧ ∀ H', Same H H' → E (.ref (if kd = 3 then A.NoTable else A.NoRule)) none H') ∨
   (∃ m r, 1 ≤ m ∧ m ≤ 6 ∧ Good H m kd ps r ∧ ∀ x r' H', Same H H' → RlAt A K H' x m r' → kindD r' = kd → r'.earn m 0 = 0 → Q (.ref x) H'))
theorem ok__law_rule (T : Txt K mg A) : FnOk P w K mg base (L2.CX P w) 8 A.a__law_rule A.d__law_rule ["_law_kind", "_law_parts"] (sp__law_rule A K) := by
  refine T.F__law_rule.okX sc__law_rule (fun vs H Q E h => ?_) (fun cdv A0 outer s H vs Q E hr h => ?_)
  · obtain ⟨kd, p, ps, rfl, _⟩ := h; rfl
  · obtain ⟨kd, p, ps, rfl, hS, hB | ⟨m, r, m1, m6, hG, k⟩⟩ := h
    · obtain ⟨hB, kE⟩ := hB
      refine ⟨_, (pss_cons (ps_if (pt_cmpR (op_eqK (K := K) rfl hr.units) (pv 0) pe_int (nomark _)) (pss_one (ps_ret (pe_make T.mk_Rule (ok_Rule___init__ T) (hr.mono (by decide)) (by rfl) T.g_Rule T.b_Rule___init__ .nil (passes_call (takes_of rfl rfl rfl rfl) (fun _ _ _ _ h => h)) (pa_cons (pe_ix (ix_seqK (K := K) rfl) (pv 1) pe_int (fun _ _ => rfl)) pa_nil)))) pss_nil)
      (pss_cons (ps_if (pt_cmpR (op_eqK (K := K) rfl hr.units) (pv 0) pe_int (nomark _)) (pss_one (ps_ret (pe_make T.mk_Own (ok_Own___init__ T) (hr.mono (by decide)) (by rfl) T.g_Own T.b_Own___init__ .nil (passes_call (takes_of rfl rfl rfl rfl) (fun _ _ _ _ h => h)) (pa_cons (pe_ix (ix_seqK (K := K) rfl) (pv 1) pe_int (fun _ _ => rfl)) pa_nil)))) pss_nil)
      (pss_cons (ps_if (pt_cmpR (op_eqK (K := K) rfl hr.units) (pv 0) pe_int (nomark _)) (pss_one (ps_ret (pe_make T.mk_Votes (ok_Votes___init__ T) (hr.mono (by decide)) (by rfl) T.g_Votes T.b_Votes___init__ .nil (passes_call (takes_of rfl rfl rfl rfl) (fun _ _ _ _ h => h)) (pa_cons (pe_ix (ix_seqK (K := K) rfl) (pv 1) pe_int (fun _ _ => rfl)) (pa_cons (pe_ix (ix_seqK (K := K) rfl) (pv 1) pe_int (fun _ _ => rfl)) (pa_cons (pe_ix (ix_seqK (K := K) rfl) (pv 1) pe_int (fun _ _ => rfl)) pa_nil)))))) pss_nil)
      (pss_cons (ps_if (pt_cmpR (op_eqK (K := K) rfl hr.units) (pv 0) pe_int (nomark _)) (pss_one (ps_ret (pe_make T.mk_Plain (ok_Plain___init__ T) (hr.mono (by decide)) (by rfl) T.g_Plain T.b_Plain___init__ .nil (passes_call (takes_of rfl rfl rfl rfl) (fun _ _ _ _ h => h)) (pa_cons (pe_ix (ix_seqK (K := K) rfl) (pv 1) pe_int (fun _ _ => rfl)) pa_nil)))) pss_nil)
      (pss_cons (ps_if (pt_cmpR (op_eqK (K := K) rfl hr.units) (pv 0) pe_int (nomark _)) (pss_one (ps_ret (pe_make T.mk_Pairs (ok_Pairs___init__ T) (hr.mono (by decide)) (by rfl) T.g_Pairs T.b_Pairs___init__ .nil (passes_call (takes_of rfl rfl rfl rfl) (fun _ _ _ _ h => h)) (pa_cons (pe_ix (ix_seqK (K := K) rfl) (pv 1) pe_int (fun _ _ => rfl)) (pa_cons (pe_ix (ix_seqK (K := K) rfl) (pv 1) pe_int (fun _ _ => rfl)) pa_nil))))) pss_nil)
      (pss_cons (ps_if (pt_cmpR (op_eqK (K := K) rfl hr.units) (pv 0) pe_int (nomark _)) (pss_one (ps_ret (pe_make T.mk_Match (ok_Match___init__ T) (hr.mono (by decide)) (by rfl) T.g_Match T.b_Match___init__ .nil (passes_call (takes_of rfl rfl rfl rfl) (fun _ _ _ _ h => h)) (pa_cons (pe_ix (ix_seqK (K := K) rfl) (pv 1) pe_int (fun _ _ => rfl)) (pa_cons (pe_ix (ix_seqK (K := K) rfl) (pv 1) pe_int (fun _ _ => rfl)) pa_nil))))) pss_nil)
      (pss_one (ps_ret (pe_make T.mk_Net (ok_Net___init__ T) (hr.mono (by decide)) (by rfl) T.g_Net T.b_Net___init__ .nil (passes_call (takes_of rfl rfl rfl rfl) (fun _ _ _ _ h => h)) (pa_cons (pe_ix (ix_seqK (K := K) rfl) (pv 1) pe_int (fun _ _ => rfl)) (pa_cons (pe_ix (ix_seqK (K := K) rfl) (pv 1) pe_int (fun _ _ => rfl)) pa_nil))))))))))), ?_⟩
      cases hB with
      | @rule v t n =>
        walk_at "x"
        refine iteT ?_
        walk_at "x"
        refine x_ixXL hS (atI_nat (j := 0) rfl) ?_
        walk_at "x"
        intro x d a0 e0 ne0
        exact ⟨x, A.Rule, d, v, rfl, upd_same, T.cl_Rule, T.n_Rule_many, t.same (same_mk a0 e0 ne0), fun n' en g1 g6 => absurd ⟨_, en, by omega, by omega⟩ n, fun _ J sx => kE _ ((same_mk a0 e0 ne0).trans sx)⟩
      | @own b xs e t n =>
        walk_at "x"
        repeat (refine iteF ?_; walk_at "x")
        refine iteT ?_
        walk_at "x"
        refine x_ixXL hS (atI_nat (j := 0) rfl) ?_
        walk_at "x"
        intro x d a0 e0 ne0
        have sm := same_mk (C := A.Own) a0 e0 ne0
        exact ⟨x, A.Own, d, b, xs, rfl, upd_same, T.cl_Own, T.n_Own_many, T.n_Own_numbers, SqL.of (sm _ _ e), rd_neL (.inl e) a0, fun y hy => ⟨(t y hy).same sm, thing_ne upd_same ((t y hy).same sm)⟩, fun ns' e' g1 g6 => absurd ⟨by rw [e', List.length_map]; exact g1, by rw [e', List.length_map]; exact g6, by rw [e']; exact all_isI ns'⟩ n, fun _ J sx => kE J (sameX_mk a0 e0 ne0 sx)⟩
      | @votes q r b xs tq tr e t n =>
        walk_at "x"
        repeat (refine iteF ?_; walk_at "x")
        refine iteT ?_
        walk_at "x"
        refine x_ixXL hS (atI_nat (j := 0) rfl) ?_
        walk_at "x"
        refine x_ixXL hS (atI_nat (j := 1) rfl) ?_
        walk_at "x"
        refine x_ixXL hS (atI_nat (j := 2) rfl) ?_
        walk_at "x"
        intro x d a0 e0 ne0
        have sm := same_mk (C := A.Votes) a0 e0 ne0
        exact ⟨x, A.Votes, d, b, q, r, xs, rfl, upd_same, T.cl_Votes, T.n_Votes_many, T.n_Votes_quota, T.n_Votes_prize, T.n_Votes_weights, tq.same sm, tr.same sm, .inl (sm _ _ e), fun y hy => (t y hy).same sm, fun qi ri ns' e1 e2 g0 e' g1 g6 => absurd ⟨by rw [e', List.length_map]; exact g1, by rw [e', List.length_map]; exact g6, by rw [e']; exact all_isI ns', by rw [e2] <;> rfl, qi, e1, g0⟩ n, fun _ J sx => kE J (sameX_mk a0 e0 ne0 sx)⟩
      | @plain b xs e t n =>
        walk_at "x"
        repeat (refine iteF ?_; walk_at "x")
        refine iteT ?_
        walk_at "x"
        refine x_ixXL hS (atI_nat (j := 0) rfl) ?_
        walk_at "x"
        intro x d a0 e0 ne0
        have sm := same_mk (C := A.Plain) a0 e0 ne0
        exact ⟨x, A.Plain, d, b, xs, rfl, upd_same, T.cl_Plain, T.n_Plain_many, T.n_Plain_row, .inl (sm _ _ e), fun y hy => (t y hy).same sm, fun ns' m' e' tb => (by rw [e', tb.look] at n; cases n), fun _ J sx => kE J (sameX_mk a0 e0 ne0 sx)⟩
      | @pairs _ v b ts yss hk tv e t hl n =>
        rcases hk with rfl | rfl
        · walk_at "x"
          repeat (refine iteF ?_; walk_at "x")
          refine iteT ?_
          walk_at "x"
          refine x_ixXL hS (atI_nat (j := 0) rfl) ?_
          walk_at "x"
          refine x_ixXL hS (atI_nat (j := 1) rfl) ?_
          walk_at "x"
          intro x d a0 e0 ne0
          have sm := same_mk (C := A.Pairs) a0 e0 ne0
          exact ⟨x, A.Pairs, d, b, v, ts, yss, rfl, upd_same, T.cl_Pairs, T.n_Pairs_many, T.n_Pairs_pairs, tv.same sm, .inl (sm _ _ e), t.len, hl, (t.same sm).at, fun m fs e1 g1 g6 e2 ok => absurd ok (n m fs e1 g1 g6 e2), fun _ J sx => kE J (sameX_mk a0 e0 ne0 sx)⟩
        · walk_at "x"
          repeat (refine iteF ?_; walk_at "x")
          refine iteT ?_
          walk_at "x"
          refine x_ixXL hS (atI_nat (j := 0) rfl) ?_
          walk_at "x"
          refine x_ixXL hS (atI_nat (j := 1) rfl) ?_
          walk_at "x"
          intro x d a0 e0 ne0
          have sm := same_mk (C := A.Match) a0 e0 ne0
          exact ⟨x, A.Match, d, b, v, ts, yss, rfl, upd_same, T.cl_Match, T.n_Match_many, T.n_Match_pairs, T.n_Match_prices, T.n_Match_sums, tv.same sm, .inl (sm _ _ e), t.len, hl, (t.same sm).at, fun m fs e1 g1 g6 e2 ok => absurd ok (n m fs e1 g1 g6 e2), fun _ J sx => kE J (sameX_mk a0 e0 ne0 sx)⟩
      | @net c b xs ts yss ec tc e t hl hx n =>
        walk_at "x"
        repeat (refine iteF ?_; walk_at "x")
        refine x_ixXL hS (atI_nat (j := 0) rfl) ?_
        walk_at "x"
        refine x_ixXL hS (atI_nat (j := 1) rfl) ?_
        walk_at "x"
        intro x d a0 e0 ne0
        have sm := same_mk (C := A.Net) a0 e0 ne0
        exact ⟨x, A.Net, d, c, b, xs, ts, yss, rfl, upd_same, T.cl_Net, T.n_Net_many, T.n_Net_costs, T.n_Net_ropes, .inl (sm _ _ ec), fun y hy => (tc y hy).same sm, .inl (sm _ _ e), t.len, hl, hx, (t.same sm).at, fun cs fs e1 g1 g6 e2 ok c0 f0 => absurd f0 (n cs fs e1 g1 g6 e2 ok c0), fun _ J sx => kE J (sameX_mk a0 e0 ne0 sx)⟩
    · refine ⟨_, (pss_cons (ps_if (pt_cmpR (op_eqK (K := K) rfl hr.units) (pv 0) pe_int (nomark _)) (pss_one (ps_ret (pe_make T.mk_Rule (ok_Rule___init__ T) (hr.mono (by decide)) (by rfl) T.g_Rule T.b_Rule___init__ .nil (passes_call (takes_of rfl rfl rfl rfl) (fun _ _ _ _ h => h)) (pa_cons (pe_ix (ix_seqK (K := K) rfl) (pv 1) pe_int (fun _ _ => rfl)) pa_nil)))) pss_nil)
      (pss_cons (ps_if (pt_cmpR (op_eqK (K := K) rfl hr.units) (pv 0) pe_int (nomark _)) (pss_one (ps_ret (pe_make T.mk_Own (ok_Own___init__ T) (hr.mono (by decide)) (by rfl) T.g_Own T.b_Own___init__ .nil (passes_call (takes_of rfl rfl rfl rfl) (fun _ _ _ _ h => h)) (pa_cons (pe_ix (ix_seqK (K := K) rfl) (pv 1) pe_int (fun _ _ => rfl)) pa_nil)))) pss_nil)
      (pss_cons (ps_if (pt_cmpR (op_eqK (K := K) rfl hr.units) (pv 0) pe_int (nomark _)) (pss_one (ps_ret (pe_make T.mk_Votes (ok_Votes___init__ T) (hr.mono (by decide)) (by rfl) T.g_Votes T.b_Votes___init__ .nil (passes_call (takes_of rfl rfl rfl rfl) (fun _ _ _ _ h => h)) (pa_cons (pe_ix (ix_seqK (K := K) rfl) (pv 1) pe_int (fun _ _ => rfl)) (pa_cons (pe_ix (ix_seqK (K := K) rfl) (pv 1) pe_int (fun _ _ => rfl)) (pa_cons (pe_ix (ix_seqK (K := K) rfl) (pv 1) pe_int (fun _ _ => rfl)) pa_nil)))))) pss_nil)
      (pss_cons (ps_if (pt_cmpR (op_eqK (K := K) rfl hr.units) (pv 0) pe_int (nomark _)) (pss_one (ps_ret (pe_make T.mk_Plain (ok_Plain___init__ T) (hr.mono (by decide)) (by rfl) T.g_Plain T.b_Plain___init__ .nil (passes_call (takes_of rfl rfl rfl rfl) (fun _ _ _ _ h => h)) (pa_cons (pe_ix (ix_seqK (K := K) rfl) (pv 1) pe_int (fun _ _ => rfl)) pa_nil)))) pss_nil)
      (pss_cons (ps_if (pt_cmpR (op_eqK (K := K) rfl hr.units) (pv 0) pe_int (nomark _)) (pss_one (ps_ret (pe_make T.mk_Pairs (ok_Pairs___init__ T) (hr.mono (by decide)) (by rfl) T.g_Pairs T.b_Pairs___init__ .nil (passes_call (takes_of rfl rfl rfl rfl) (fun _ _ _ _ h => h)) (pa_cons (pe_ix (ix_seqK (K := K) rfl) (pv 1) pe_int (fun _ _ => rfl)) (pa_cons (pe_ix (ix_seqK (K := K) rfl) (pv 1) pe_int (fun _ _ => rfl)) pa_nil))))) pss_nil)
      (pss_cons (ps_if (pt_cmpR (op_eqK (K := K) rfl hr.units) (pv 0) pe_int (nomark _)) (pss_one (ps_ret (pe_make T.mk_Match (ok_Match___init__ T) (hr.mono (by decide)) (by rfl) T.g_Match T.b_Match___init__ .nil (passes_call (takes_of rfl rfl rfl rfl) (fun _ _ _ _ h => h)) (pa_cons (pe_ix (ix_seqK (K := K) rfl) (pv 1) pe_int (fun _ _ => rfl)) (pa_cons (pe_ix (ix_seqK (K := K) rfl) (pv 1) pe_int (fun _ _ => rfl)) pa_nil))))) pss_nil)
      (pss_one (ps_ret (pe_make T.mk_Net (ok_Net___init__ T) (hr.mono (by decide)) (by rfl) T.g_Net T.b_Net___init__ .nil (passes_call (takes_of rfl rfl rfl rfl) (fun _ _ _ _ h => h)) (pa_cons (pe_ix (ix_seqK (K := K) rfl) (pv 1) pe_int (fun _ _ => rfl)) (pa_cons (pe_ix (ix_seqK (K := K) rfl) (pv 1) pe_int (fun _ _ => rfl)) pa_nil))))))))))), ?_⟩
      have w := (Own.start (H := H))
      cases hG with
      | rule =>
        walk_at "x"
        refine iteT ?_
        walk_at "x"
        refine x_ixXL hS (atI_nat (j := 0) rfl) ?_
        walk_at "x"
        intro x d a0 e0 ne0
        refine u_mkRule T w a0 e0 ne0 m1 m6 fun B2 H2 sB w2 R => ⟨rfl, ?_⟩
        exact k x _ _ (sB.trans w2.ex) (.kRule (R.same w2.ex)) rfl rfl
      | @own b ns e hl =>
        walk_at "x"
        repeat (refine iteF ?_; walk_at "x")
        refine iteT ?_
        walk_at "x"
        refine x_ixXL hS (atI_nat (j := 0) rfl) ?_
        walk_at "x"
        intro x d a0 e0 ne0
        refine u_mkOwn T w a0 e0 ne0 (.inl e) hl (fun _ _ B2 H2 sB w2 R => ⟨rfl, ?_⟩) (fun h => absurd ⟨m1, m6⟩ h)
        exact k x _ _ (sB.trans w2.ex) (.kOwn (R.same w2.ex)) rfl (sumS_0 _)
      | @votes q pz b ns h1 e hl =>
        walk_at "x"
        repeat (refine iteF ?_; walk_at "x")
        refine iteT ?_
        walk_at "x"
        refine x_ixXL hS (atI_nat (j := 0) rfl) ?_
        walk_at "x"
        refine x_ixXL hS (atI_nat (j := 1) rfl) ?_
        walk_at "x"
        refine x_ixXL hS (atI_nat (j := 2) rfl) ?_
        walk_at "x"
        intro x d a0 e0 ne0
        refine u_mkVotes T w a0 e0 ne0 (.inl e) hl (fun _ _ _ B2 H2 sB w2 R => ⟨rfl, ?_⟩) (fun h => absurd ⟨m1, m6, h1⟩ h)
        exact k x _ _ (sB.trans w2.ex) (.kVotes (R.same w2.ex)) rfl (if_neg (by rw [sumS_0]; omega))
      | @plain b ns e tb =>
        walk_at "x"
        repeat (refine iteF ?_; walk_at "x")
        refine iteT ?_
        walk_at "x"
        refine x_ixXL hS (atI_nat (j := 0) rfl) ?_
        walk_at "x"
        intro x d a0 e0 ne0
        refine u_mkPlain T w a0 e0 ne0 (.inl e) (fun m' tb' B2 H2 sB w2 R => ⟨rfl, ?_⟩) (fun h => absurd tb (h m))
        obtain rfl : m = m' := tb.same tb'
        exact k x _ _ (sB.trans w2.ex) (.kPlain (R.same w2.ex)) rfl (by
          have := tb.zero
          show gi ns ((0 : Nat) : Int) = 0
          unfold gi
          rw [Int.toNat_natCast, List.getD_eq_getElem?_getD, this] <;> rfl)
      | @pairs b ts fs e t hl o =>
        walk_at "x"
        repeat (refine iteF ?_; walk_at "x")
        refine iteT ?_
        walk_at "x"
        refine x_ixXL hS (atI_nat (j := 0) rfl) ?_
        walk_at "x"
        refine x_ixXL hS (atI_nat (j := 1) rfl) ?_
        walk_at "x"
        intro x d a0 e0 ne0
        refine u_mkPairs T w a0 e0 ne0 (.inl e) t (by omega) m1 m6 (fun _ gs _ _ _ B2 H2 sB w2 R => ⟨rfl, ?_⟩) (fun h => absurd o h)
        exact k x _ _ (sB.trans w2.ex) (.kPairs (R.same w2.ex)) rfl (pairsS_0 _)
      | @best b ts fs e t hl o =>
        walk_at "x"
        repeat (refine iteF ?_; walk_at "x")
        refine iteT ?_
        walk_at "x"
        refine x_ixXL hS (atI_nat (j := 0) rfl) ?_
        walk_at "x"
        refine x_ixXL hS (atI_nat (j := 1) rfl) ?_
        walk_at "x"
        intro x d a0 e0 ne0
        refine u_mkMatch T w a0 e0 ne0 (.inl e) t (by omega) m1 m6 (fun _ gs _ _ _ B2 H2 sB w2 R => ⟨rfl, ?_⟩) (fun h => absurd o h)
        exact k x _ _ (sB.trans w2.ex) (.kMatch (R.same w2.ex)) rfl (best_0 _ _)
      | @net c b ns ts fs ec hn h0 e t hl o h2 =>
        walk_at "x"
        repeat (refine iteF ?_; walk_at "x")
        refine x_ixXL hS (atI_nat (j := 0) rfl) ?_
        walk_at "x"
        refine x_ixXL hS (atI_nat (j := 1) rfl) ?_
        walk_at "x"
        intro x d a0 e0 ne0
        refine u_mkNet T w a0 e0 ne0 (.inl ec) hn (.inl e) t (by omega) (by omega) (fun _ _ _ _ _ gs _ _ _ B2 H2 sB w2 R => ⟨rfl, ?_⟩) (fun h => absurd ⟨m1, m6, o, h0, h2⟩ h)
        exact k x _ _ (sB.trans w2.ex) (.kNet (R.same w2.ex)) rfl (netC_0 _ _)

/-! ### _law_kinds -/
def sp__law_kinds (A : Ads) (K : PySem.W.Frag) : Sp := fun vs H Q _ => ∃ (x : Addr) (m : Nat) (r : RuleD), vs = [.ref x] ∧ RlAt A K H x m r ∧ RetL ((List.range 7).map fun i => V.bl (decide (i = 0) || decide (i = kindD r))) H Q
theorem RlAt.asks {A : Ads} {K : PySem.W.Frag} {mg : Str → Option Value} {H : Hp} {x : Addr} {m : Nat} {r : RuleD} (T : Txt K mg A) (h : RlAt A K H x m r) : ∃ C dx fs b1 b2 b3 b4 b5 b6, H x = some (.ins C dx fs) ∧ InsC K C ∧ PySem.W.subIn K (.ref C) (.ref A.Rule) = some true ∧ PySem.W.subIn K (.ref C) (.ref A.Own) = some b1 ∧ PySem.W.subIn K (.ref C) (.ref A.Votes) = some b2 ∧ PySem.W.subIn K (.ref C) (.ref A.Plain) = some b3 ∧
    PySem.W.subIn K (.ref C) (.ref A.Pairs) = some b4 ∧ PySem.W.subIn K (.ref C) (.ref A.Match) = some b5 ∧ PySem.W.subIn K (.ref C) (.ref A.Net) = some b6 ∧ [true, b1, b2, b3, b4, b5, b6] = (List.range 7).map fun i => decide (i = 0) || decide (i = kindD r) := by
  cases h with
  | kRule h => cases h with | mk e => exact ⟨_, _, _, _, _, _, _, _, _, e, T.i_Rule, T.u_Rule_Rule, T.u_Rule_Own, T.u_Rule_Votes, T.u_Rule_Plain, T.u_Rule_Pairs, T.u_Rule_Match, T.u_Rule_Net, rfl⟩
  | kOwn h => cases h with | mk e => exact ⟨_, _, _, _, _, _, _, _, _, e, T.i_Own, T.u_Own_Rule, T.u_Own_Own, T.u_Own_Votes, T.u_Own_Plain, T.u_Own_Pairs, T.u_Own_Match, T.u_Own_Net, rfl⟩
  | kVotes h => cases h with | mk e => exact ⟨_, _, _, _, _, _, _, _, _, e, T.i_Votes, T.u_Votes_Rule, T.u_Votes_Own, T.u_Votes_Votes, T.u_Votes_Plain, T.u_Votes_Pairs, T.u_Votes_Match, T.u_Votes_Net, rfl⟩
  | kPlain h => cases h with | mk e => exact ⟨_, _, _, _, _, _, _, _, _, e, T.i_Plain, T.u_Plain_Rule, T.u_Plain_Own, T.u_Plain_Votes, T.u_Plain_Plain, T.u_Plain_Pairs, T.u_Plain_Match, T.u_Plain_Net, rfl⟩
  | kPairs h => cases h with | mk e => exact ⟨_, _, _, _, _, _, _, _, _, e, T.i_Pairs, T.u_Pairs_Rule, T.u_Pairs_Own, T.u_Pairs_Votes, T.u_Pairs_Plain, T.u_Pairs_Pairs, T.u_Pairs_Match, T.u_Pairs_Net, rfl⟩
  | kMatch h => cases h with | mk e => exact ⟨_, _, _, _, _, _, _, _, _, e, T.i_Match, T.u_Match_Rule, T.u_Match_Own, T.u_Match_Votes, T.u_Match_Plain, T.u_Match_Pairs, T.u_Match_Match, T.u_Match_Net, rfl⟩
  | kNet h => cases h with | mk e => exact ⟨_, _, _, _, _, _, _, _, _, e, T.i_Net, T.u_Net_Rule, T.u_Net_Own, T.u_Net_Votes, T.u_Net_Plain, T.u_Net_Pairs, T.u_Net_Match, T.u_Net_Net, rfl⟩
theorem ok__law_kinds (T : Txt K mg A) : FnOk P w K mg base (L2.CX P w) 1 A.a__law_kinds A.d__law_kinds ["_law_rule_here"] (sp__law_kinds A K) := by
  refine T.F__law_kinds.okX sc__law_kinds (fun vs H Q E h => ?_) (fun cdv A0 outer s H vs Q E hr h => ?_)
  · obtain ⟨x, m, r, rfl, _⟩ := h; rfl
  · obtain ⟨x, m, r, rfl, hR, k⟩ := h
    refine ⟨_, (pss_cons (ps_set (i := 1) sc__law_kinds.nd rfl (.inl rfl) (pe_lst (pa_cons (pe_callB (call_isiX (K := K) rfl) (by rfl) T.z_isinstance (by decide +kernel) (pa_cons (pv 0) (pa_cons (pe_glob (v := .ref A.Own) (by rfl) T.g_Own rfl) pa_nil))) (pa_cons (pe_callB (call_isiX (K := K) rfl) (by rfl) T.z_isinstance (by decide +kernel) (pa_cons (pv 0) (pa_cons (pe_glob (v := .ref A.Votes) (by rfl) T.g_Votes rfl) pa_nil))) (pa_cons (pe_callB (call_isiX (K := K) rfl) (by rfl) T.z_isinstance (by decide +kernel) (pa_cons (pv 0) (pa_cons (pe_glob (v := .ref A.Plain) (by rfl) T.g_Plain rfl) pa_nil))) (pa_cons (pe_callB (call_isiX (K := K) rfl) (by rfl) T.z_isinstance (by decide +kernel) (pa_cons (pv 0) (pa_cons (pe_glob (v := .ref A.Pairs) (by rfl) T.g_Pairs rfl) pa_nil))) pa_nil))))))
      (pss_one (ps_ret (pe_op op_addX (pe_op op_addX (pe_lst (pa_cons (pe_callB (call_isiX (K := K) rfl) (by rfl) T.z_isinstance (by decide +kernel) (pa_cons (pv 0) (pa_cons (pe_glob (v := .ref A.Rule) (by rfl) T.g_Rule rfl) pa_nil))) pa_nil)) (pv 1)) (pe_lst (pa_cons (pe_callB (call_isiX (K := K) rfl) (by rfl) T.z_isinstance (by decide +kernel) (pa_cons (pv 0) (pa_cons (pe_glob (v := .ref A.Match) (by rfl) T.g_Match rfl) pa_nil))) (pa_cons (pe_callB (call_isiX (K := K) rfl) (by rfl) T.z_isinstance (by decide +kernel) (pa_cons (pv 0) (pa_cons (pe_glob (v := .ref A.Net) (by rfl) T.g_Net rfl) pa_nil))) pa_nil))))))), ?_⟩
    obtain ⟨C, dx, fs, b1, b2, b3, b4, b5, b6, e, ic, u0, u1, u2, u3, u4, u5, u6, hb⟩ := hR.asks T
    walk_at "x"
    refine x_isiC e ic T.q_Own u1 ?_
    walk_at "x"
    refine x_isiC e ic T.q_Votes u2 ?_
    walk_at "x"
    refine x_isiC e ic T.q_Plain u3 ?_
    walk_at "x"
    refine x_isiC e ic T.q_Pairs u4 ?_
    walk_at "x"
    refine ⟨(by show 4 ≤ sizeLine; decide), fun p1 n1 => ?_⟩
    have w1 := (Own.start (H := H)).new (o := .lst [.bl b1, .bl b2, .bl b3, .bl b4]) n1
    walk_at "x"
    refine x_isiC (w1.ex _ _ e) ic T.q_Rule u0 ?_
    walk_at "x"
    refine ⟨(by show 1 ≤ sizeLine; decide), fun p2 n2 => ?_⟩
    have w2 := w1.new (o := .lst [.bl true]) n2
    walk_at "x"
    refine x_addL (.inl (w2.get 0 rfl)) (.inl (w2.get 1 rfl)) (by show 5 ≤ sizeLine; decide) fun p3 n3 => ?_
    have w3 := w2.new (o := .lst ([.bl true] ++ [.bl b1, .bl b2, .bl b3, .bl b4])) n3
    walk_at "x"
    refine x_isiC (w3.ex _ _ e) ic T.q_Match u5 ?_
    walk_at "x"
    refine x_isiC (w3.ex _ _ e) ic T.q_Net u6 ?_
    walk_at "x"
    refine ⟨(by show 2 ≤ sizeLine; decide), fun p4 n4 => ?_⟩
    have w4 := w3.new (o := .lst [.bl b5, .bl b6]) n4
    walk_at "x"
    refine x_addL (.inl (w4.get 1 rfl)) (.inl (w4.get 0 rfl)) (by show 7 ≤ sizeLine; decide) fun p5 n5 => ?_
    have w5 := w4.new (o := .lst ([.bl true] ++ [.bl b1, .bl b2, .bl b3, .bl b4] ++ [.bl b5, .bl b6])) n5
    rw [show [V.bl true] ++ [.bl b1, .bl b2, .bl b3, .bl b4] ++ [.bl b5, .bl b6] = (List.range 7).map fun i => V.bl (decide (i = 0) || decide (i = kindD r)) by
      rw [show ((List.range 7).map fun i => V.bl (decide (i = 0) || decide (i = kindD r))) = ((List.range 7).map fun i => decide (i = 0) || decide (i = kindD r)).map V.bl by rw [List.map_map] <;> rfl, ← hb] <;> rfl] at w5 ⊢
    exact k _ _ (w5.none 0 rfl) w5.ex (w5.get 0 rfl)

/-! ### _law_refused -/
def sp__law_refused (A : Ads) (K : PySem.W.Frag) : Sp := fun vs H Q _ => ∃ (kd : Nat) (p : Addr) (ps : List V), vs = [.int (kd : Int), .ref p] ∧ SqL K H p ps ∧ Bad H kd ps ∧ RetV (.bl true) H Q
theorem ok__law_refused (T : Txt K mg A) : FnOk P w K mg base (L2.CX P w) 9 A.a__law_refused A.d__law_refused ["_law_kind", "_law_parts"] (sp__law_refused A K) := by
  refine T.F__law_refused.okX sc__law_refused (fun vs H Q E h => ?_) (fun cdv A0 outer s H vs Q E hr h => ?_)
  · obtain ⟨kd, p, ps, rfl, _⟩ := h; rfl
  · obtain ⟨kd, p, ps, rfl, hS, hB, k⟩ := h
    refine ⟨_, (pss_cons (ps_set (i := 2) sc__law_refused.nd rfl (.inl rfl) pe_bl)
      (pss_cons (ps_try_as (i := 3) (Wout := fun _ _ _ _ => False) rfl rfl sc__law_refused.nd rfl rfl ⟨rfl, by decide, Or.inl T.g_ShareError⟩ takes0 (fun W pn xe tk _ => (pss_one (ps_expr (pe_callS (ok__law_rule T) (hr.mono (by decide)) (by rfl) T.g__law_rule T.F__law_rule.kp T.b__law_rule (fun σ => passAt tk σ) (pa_cons (pv 0) (pa_cons (pv 1) pa_nil)))))) (fun a oe cls d pn hz hf => (pss_cons (ps_set (i := 2) sc__law_refused.nd rfl (.inl rfl) (pe_or (pe_and (pe_callB (call_isEX (K := K) rfl hz hf) (by rfl) T.z_isinstance (by decide +kernel) (pa_cons (pv 3) (pa_cons (pe_glob (v := .ref A.NoRule) (by rfl) T.g_NoRule rfl) pa_nil))) (pe_one (pe_cmpR (op_neK (K := K) rfl hr.units) (pv 0) pe_int (nomark _)))) (pe_one (pe_and (pe_callB (call_isEX (K := K) rfl hz hf) (by rfl) T.z_isinstance (by decide +kernel) (pa_cons (pv 3) (pa_cons (pe_glob (v := .ref A.NoTable) (by rfl) T.g_NoTable rfl) pa_nil))) (pe_one (pe_cmpR (op_eqK (K := K) rfl hr.units) (pv 0) pe_int (nomark _)))))))
      (pss_cons (ps_set (i := 2) sc__law_refused.nd rfl (.inl rfl) (pe_and (pv 2) (pe_and (pe_not (pe_and (pe_callB (call_isEX (K := K) rfl hz hf) (by rfl) T.z_isinstance (by decide +kernel) (pa_cons (pv 3) (pa_cons (pe_glob (v := .ref A.NoRule) (by rfl) T.g_NoRule rfl) pa_nil))) (pe_one (pe_callB (call_isEX (K := K) rfl hz hf) (by rfl) T.z_isinstance (by decide +kernel) (pa_cons (pv 3) (pa_cons (pe_glob (v := .ref A.NoTable) (by rfl) T.g_NoTable rfl) pa_nil)))))) (pe_one (pe_callB (call_isEX (K := K) rfl hz hf) (by rfl) T.z_isinstance (by decide +kernel) (pa_cons (pv 3) (pa_cons (pe_bltn (v := .ty "ValueError") (by rfl) T.z_ValueError (by decide +kernel) rfl) pa_nil)))))))
      (pss_cons (ps_set (i := 2) sc__law_refused.nd rfl (.inl rfl) (pe_and (pv 2) (pe_one (pe_not (pe_callB (call_isETX (K := K) rfl hz hf) (by rfl) T.z_isinstance (by decide +kernel) (pa_cons (pv 3) (pa_cons (pe_tup (pa_cons (pe_glob (v := .ref A.NoGroup) (by rfl) T.g_NoGroup rfl) (pa_cons (pe_glob (v := .ref A.NoNumber) (by rfl) T.g_NoNumber rfl) (pa_cons (pe_glob (v := .ref A.NoOrder) (by rfl) T.g_NoOrder rfl) (pa_cons (pe_glob (v := .ref A.NoRows) (by rfl) T.g_NoRows rfl) (pa_cons (pe_glob (v := .ref A.NoShares) (by rfl) T.g_NoShares rfl) pa_nil)))))) pa_nil)))))))
      (pss_one (ps_set (i := 2) sc__law_refused.nd rfl (.inl rfl) (pe_and (pv 2) (pe_one (pe_not (pe_callB (call_isETX (K := K) rfl hz hf) (by rfl) T.z_isinstance (by decide +kernel) (pa_cons (pv 3) (pa_cons (pe_tup (pa_cons (pe_glob (v := .ref A.NoText) (by rfl) T.g_NoText rfl) (pa_cons (pe_glob (v := .ref A.NoVotes) (by rfl) T.g_NoVotes rfl) (pa_cons (pe_glob (v := .ref A.TooMany) (by rfl) T.g_TooMany rfl) (pa_cons (pe_glob (v := .ref A.Unlike) (by rfl) T.g_Unlike rfl) pa_nil))))) pa_nil)))))))))))))
      (pss_one (ps_ret (pv 2))))), ?_⟩
    rw [show L2.start N__law_refused [V.int (kd : Int), V.ref p] = [some (.int (kd : Int)), some (.ref p), none, none] from rfl]
    by_cases c3 : kd = 3
    · subst c3
      walk_at "x"
      refine ⟨3, p, ps, rfl, hS, .inl ⟨hB, fun H1 s1 => ?_⟩⟩
      rw [if_pos rfl]
      refine ⟨true, T.h_NoTable_ShareError, fun _ a0 ha0 => ?_, fun q => nomatch q⟩
      have w := Own.start.ext s1
      walk_at "x"
      refine x_isE T.X_NoTable T.q_NoRule T.u_NoTable_NoRule ?_
      refine ⟨false, rfl, iteF ⟨false, rfl, iteF ?_⟩⟩
      walk_at "x"
      refine x_isE T.X_NoTable T.q_NoTable T.u_NoTable_NoTable ?_
      refine ⟨true, rfl, iteT ?_⟩
      walk_at "x"
      refine iteT ?_
      walk_at "x"
      refine x_isE T.X_NoTable T.q_NoRule T.u_NoTable_NoRule ?_
      refine ⟨false, rfl, iteF ?_⟩
      walk_at "x"
      refine iteT ?_
      walk_at "x"
      refine x_isEV T.X_NoTable T.v_NoTable ?_
      walk_at "x"
      refine iteT ?_
      walk_at "x"
      refine ⟨(by show 5 ≤ sizeLine; decide), fun p1 n1 => ?_⟩
      have w1 := w.new (o := .tup [.ref A.NoGroup, .ref A.NoNumber, .ref A.NoOrder, .ref A.NoRows, .ref A.NoShares]) n1
      walk_at "x"
      refine x_isET (Cs := [A.NoGroup, A.NoNumber, A.NoOrder, A.NoRows, A.NoShares]) T.X_NoTable (w1.get 0 rfl) (kit_no (kit_own T.q_NoGroup T.u_NoTable_NoGroup) (kit_no (kit_own T.q_NoNumber T.u_NoTable_NoNumber) (kit_no (kit_own T.q_NoOrder T.u_NoTable_NoOrder) (kit_no (kit_own T.q_NoRows T.u_NoTable_NoRows) (kit_no (kit_own T.q_NoShares T.u_NoTable_NoShares) rfl))))) ?_
      walk_at "x"
      refine iteT ?_
      walk_at "x"
      refine ⟨(by show 4 ≤ sizeLine; decide), fun p2 n2 => ?_⟩
      have w2 := w1.new (o := .tup [.ref A.NoText, .ref A.NoVotes, .ref A.TooMany, .ref A.Unlike]) n2
      walk_at "x"
      refine x_isET (Cs := [A.NoText, A.NoVotes, A.TooMany, A.Unlike]) T.X_NoTable (w2.get 0 rfl) (kit_no (kit_own T.q_NoText T.u_NoTable_NoText) (kit_no (kit_own T.q_NoVotes T.u_NoTable_NoVotes) (kit_no (kit_own T.q_TooMany T.u_NoTable_TooMany) (kit_no (kit_own T.q_Unlike T.u_NoTable_Unlike) rfl)))) ?_
      walk_at "x"
      exact k _ w2.ex
    · walk_at "x"
      refine ⟨kd, p, ps, rfl, hS, .inl ⟨hB, fun H1 s1 => ?_⟩⟩
      rw [if_neg c3]
      refine ⟨true, T.h_NoRule_ShareError, fun _ a0 ha0 => ?_, fun q => nomatch q⟩
      have w := Own.start.ext s1
      walk_at "x"
      refine x_isE T.X_NoRule T.q_NoRule T.u_NoRule_NoRule ?_
      refine ⟨true, rfl, iteT ?_⟩
      walk_at "x"
      rw [decide_eq_false (show ¬ (kd : Int) = 3 by omega)]
      refine iteT ?_
      walk_at "x"
      refine iteT ?_
      walk_at "x"
      refine x_isE T.X_NoRule T.q_NoRule T.u_NoRule_NoRule ?_
      refine ⟨true, rfl, iteT ?_⟩
      walk_at "x"
      refine x_isE T.X_NoRule T.q_NoTable T.u_NoRule_NoTable ?_
      walk_at "x"
      refine iteT ?_
      walk_at "x"
      refine x_isEV T.X_NoRule T.v_NoRule ?_
      walk_at "x"
      refine iteT ?_
      walk_at "x"
      refine ⟨(by show 5 ≤ sizeLine; decide), fun p1 n1 => ?_⟩
      have w1 := w.new (o := .tup [.ref A.NoGroup, .ref A.NoNumber, .ref A.NoOrder, .ref A.NoRows, .ref A.NoShares]) n1
      walk_at "x"
      refine x_isET (Cs := [A.NoGroup, A.NoNumber, A.NoOrder, A.NoRows, A.NoShares]) T.X_NoRule (w1.get 0 rfl) (kit_no (kit_own T.q_NoGroup T.u_NoRule_NoGroup) (kit_no (kit_own T.q_NoNumber T.u_NoRule_NoNumber) (kit_no (kit_own T.q_NoOrder T.u_NoRule_NoOrder) (kit_no (kit_own T.q_NoRows T.u_NoRule_NoRows) (kit_no (kit_own T.q_NoShares T.u_NoRule_NoShares) rfl))))) ?_
      walk_at "x"
      refine iteT ?_
      walk_at "x"
      refine ⟨(by show 4 ≤ sizeLine; decide), fun p2 n2 => ?_⟩
      have w2 := w1.new (o := .tup [.ref A.NoText, .ref A.NoVotes, .ref A.TooMany, .ref A.Unlike]) n2
      walk_at "x"
      refine x_isET (Cs := [A.NoText, A.NoVotes, A.TooMany, A.Unlike]) T.X_NoRule (w2.get 0 rfl) (kit_no (kit_own T.q_NoText T.u_NoRule_NoText) (kit_no (kit_own T.q_NoVotes T.u_NoRule_NoVotes) (kit_no (kit_own T.q_TooMany T.u_NoRule_TooMany) (kit_no (kit_own T.q_Unlike T.u_NoRule_Unlike) rfl)))) ?_
      walk_at "x"
      exact k _ w2.ex

/-! ### _law_copy -/
def sp__law_copy (K : PySem.W.Frag) : Sp := fun vs H Q _ => ∃ (p : Addr) (ps : List V), vs = [.ref p] ∧ SqL K H p ps ∧ ps.length ≤ 100 ∧ (∀ v ∈ ps, PartV H v) ∧ ∀ q qs H', Same H H' → H' q = some (.lst qs) → Cpys H' ps qs → Q (.ref q) H'
theorem ok__law_copy (T : Txt K mg A) : FnOk P w K mg base (L2.CX P w) 1 A.a__law_copy A.d__law_copy ["_law_parts"] (sp__law_copy K) := by
  refine T.F__law_copy.okX sc__law_copy (fun vs H Q E h => ?_) (fun cdv A0 outer s H vs Q E hr h => ?_)
  · obtain ⟨p, ps, rfl, _⟩ := h; rfl
  · obtain ⟨p, ps, rfl, hS, hl, hP, k⟩ := h
    refine ⟨_, (pss_cons (ps_set (i := 1) sc__law_copy.nd rfl (.inl rfl) (pe_lst pa_nil))
      (pss_cons (ps_for (passes_of rfl) rfl (pi_listK (K := K) rfl (pv 0)) (pg_name (i := 2) sc__law_copy.nd rfl (.inl rfl)) (pss_cons (ps_if (pt_val (pe_callB (call_isiX (K := K) rfl) (by rfl) T.z_isinstance (by decide +kernel) (pa_cons (pv 2) (pa_cons (pe_bltn (v := .ty "list") (by rfl) T.z_list (by decide +kernel) rfl) pa_nil)))) (pss_one (ps_set (i := 2) sc__law_copy.nd rfl (.inl rfl) (pe_callTy (call_listK (K := K) rfl) (by rfl) T.z_list (by decide +kernel) (pa_cons (pv 2) pa_nil)))) pss_nil)
      (pss_one (ps_expr (pe_bm PySem.F.plainAttrs_list PySem.F.slot_list_append PySem.F.type_list_append mt_append (pv 1) (pa_cons (pv 2) pa_nil))))))
      (pss_one (ps_ret (pv 1))))), ?_⟩
    walk_at "x"
    refine ⟨(by show 0 ≤ sizeLine; decide), fun q n0 => ?_⟩
    have w0 := (Own.start (H := H)).new (o := .lst []) n0
    walk_at "x"
    refine ⟨_, rfl, ⟨_, w0.seq hS⟩, for_list (xs := ps) (fun i σ' H' => ∃ (B : Hp) (qs : List V), (∃ v2, σ' = [some (.ref p), some (.ref q), v2]) ∧ Same H B ∧ Own B [(q, .lst qs)] H' ∧ Cpys B (ps.take i) qs) ⟨H, [], ⟨_, rfl⟩, .refl _, w0, .nil⟩ (fun i σ' H' _ h => by obtain ⟨B, qs, _, sB, w, _⟩ := h; exact w.seq (sB.seq hS)) ?_ ?_⟩
    · rintro i x σ' H' hx ⟨B, qs, ⟨v2, rfl⟩, sB, w, hC⟩
      have hpx := (hP x (List.mem_of_getElem? hx)).same sB
      have hql := Paired.length hC
      have hil := (List.getElem?_eq_some_iff.mp hx).1
      rw [List.length_take, Nat.min_eq_left (by omega)] at hql
      walk_at "x"
      rcases hpx.2 with ⟨t, n⟩ | ⟨b, xs, rfl, e, hf⟩
      · refine x_isiListN (t.same w.ex) (fun ⟨a, zs, e, hr⟩ => ?_) ?_
        · rcases ((hpx.same w.ex).2) with ⟨_, n2⟩ | ⟨b, xs, e3, e4, hf⟩
          · exact n2 ⟨a, zs, e, hr⟩
          · subst e
            cases t with
            | lst e => exact n ⟨_, _, rfl, e⟩
            | tup e1 => obtain rfl := V.ref.inj e3; rcases e1 with e1 | ⟨o, e1⟩ <;> (rw [w.ex _ _ e1] at e4; cases e4)
            | dic e1 => obtain rfl := V.ref.inj e3; rw [w.ex _ _ e1] at e4; cases e4
        walk_at "x"
        refine iteF ?_
        walk_at "x"
        refine ⟨x_tyL (w.get 0 rfl), ?_⟩
        walk_at "x"
        refine x_append (w.get 0 rfl) (Nat.lt_of_lt_of_le (show qs.length < 1000 by omega) (by decide)) ?_
        have w2 := w.put (o' := .lst (qs ++ [x])) 0 rfl
        exact ⟨B, qs ++ [x], ⟨_, rfl⟩, sB, w2, by rw [take_snoc hx]; exact hC.snoc (.same hpx.1 n)⟩
      · refine x_isiListL (.inl (w.ex _ _ e)) ?_
        walk_at "x"
        refine iteT ?_
        walk_at "x"
        refine x_list (SqL.of (w.ex _ _ e)) (fun r m => ?_)
        have nB := w.fresh m
        have w1 := (w.new (o := .lst xs) m).freeze
        have sB2 := same_upd (o := .lst xs) nB
        have er : upd B r (.lst xs) r = some (.lst xs) := upd_same
        generalize upd B r (.lst xs) = B2 at *
        walk_at "x"
        refine ⟨x_tyL (w1.get 0 rfl), ?_⟩
        walk_at "x"
        refine x_append (w1.get 0 rfl) (Nat.lt_of_lt_of_le (show qs.length < 1000 by omega) (by decide)) ?_
        have w2 := w1.put (o' := .lst (qs ++ [.ref r])) 0 rfl
        refine ⟨B2, qs ++ [V.ref r], ⟨_, rfl⟩, sB.trans sB2, w2, ?_⟩
        rw [take_snoc hx]
        exact (Cpys.mono sB2 (fun v hv => (hP v (List.mem_of_mem_take hv)).same sB) hC).snoc (.lst (sB2 _ _ e) er hf)
    · rintro σ' H' ⟨B, qs, ⟨v2, rfl⟩, sB, w, hC⟩
      rw [List.take_length] at hC
      walk_at "x"
      exact k q qs _ (sB.trans w.ex) (w.get 0 rfl) (Cpys.mono w.ex (fun v hv => (hP v hv).same sB) hC)

/-! ### _law_numbers -/
def sp__law_numbers (K : PySem.W.Frag) : Sp := fun vs H Q _ => ∃ (m : Nat) (c : Int), vs = [.int (m : Int), .int c] ∧ m ≤ 63 ∧ 0 ≤ c ∧ c < 2 ^ 32 ∧ ∀ ns : List Int, ns.length = m → RetL (ns.map V.int) H Q
theorem ok__law_numbers (T : Txt K mg A) : FnOk P w K mg base (L2.CX P w) 1 A.a__law_numbers A.d__law_numbers ["_law_many", "_law_number"] (sp__law_numbers K) := by
  refine T.F__law_numbers.okX sc__law_numbers (fun vs H Q E h => ?_) (fun cdv A0 outer s H vs Q E hr h => ?_)
  · obtain ⟨m, c, rfl, _⟩ := h; rfl
  · obtain ⟨m, c, rfl, hm, c0, c1, k⟩ := h
    refine ⟨_, (pss_one (ps_ret (pe_lc (own := [("_law_k", 2)]) rfl sc__law_numbers.nd (pi_range1 (by rfl) T.z_range (pa_cons (pv 0) pa_nil)) (blkOk_by (own := [("_law_k", 2)]) (N := N__law_numbers) (sc := defScope s__law_numbers) (by decide +kernel)) (fun _ _ _ _ _ => (pg_name (i := 2) sc__law_numbers.nd rfl (.inl rfl))) (fun _ _ _ _ _ => pts_nil) (fun _ _ _ _ _ => (pe_op op_subX (pe_op op_modX (pe_op op_mulX (pe_op op_mulX (pe_op op_addX (pv 1) pe_int) (pe_op op_addX (pe_op op_mulX (pv 2) (pv 2)) pe_int)) pe_int) (pe_op op_addX (pe_op op_mulX pe_int (pe_op op_powX pe_int pe_int)) pe_int)) (pe_op op_powX pe_int pe_int)))))), ?_⟩
    walk_at "x"
    refine ⟨_, rfl, by omega, by omega, cp_range (lo := 0) (n := ((m : Int)).toNat) (fun i => (List.range i).map fun j : Nat => V.int ((c + 11) * ((j : Int) * (j : Int) + 29) * 8731400069621 % (2 * 10 ^ 18 + 1) - 10 ^ 18)) (Own.start (H := H)) rfl ?_ ?_⟩
    · intro D i H' hi pc
      rw [Int.toNat_natCast] at hi
      walk_at "x"
      refine ⟨rfl, ?_⟩
      walk_at "x"
      refine iteT ?_
      walk_at "x"
      rw [Int.zero_add]
      refine x_mulI (.of_left (intBits_le_64 (by omega) (by omega))) ?_
      walk_at "x"
      have h1 : (i : Int) * (i : Int) ≤ 63 * 63 := Int.mul_le_mul (by omega) (by omega) (by omega) (by omega)
      have h2 : 0 ≤ (i : Int) * (i : Int) := Int.mul_nonneg (by omega) (by omega)
      refine x_mulI (.of_left (intBits_le_64 (by omega) (by omega))) ?_
      walk_at "x"
      refine x_mulI (.of_right (by decide)) ?_
      walk_at "x"
      refine x_powN ⟨by decide, by decide, by decide⟩ ?_
      rw [show (10 : Int) ^ (18 : Int).toNat = 10 ^ 18 from rfl]
      walk_at "x"
      refine x_mulI (.of_left (by decide)) ?_
      walk_at "x"
      refine x_modP (by decide) ?_
      walk_at "x"
      refine x_powN ⟨by decide, by decide, by decide⟩ ?_
      rw [show (10 : Int) ^ (18 : Int).toNat = 10 ^ 18 from rfl]
      walk_at "x"
      exact cp_fin (F := fun i => (List.range i).map fun j : Nat => V.int ((c + 11) * ((j : Int) * (j : Int) + 29) * 8731400069621 % (2 * 10 ^ 18 + 1) - 10 ^ 18)) pc (Sp.range_map _ _) (by rw [List.length_map, List.length_range]; omega)
    intro D H1 w1
    rw [Int.toNat_natCast, show ((List.range m).map fun j : Nat => V.int ((c + 11) * ((j : Int) * (j : Int) + 29) * 8731400069621 % (2 * 10 ^ 18 + 1) - 10 ^ 18)) = ((List.range m).map fun j : Nat => (c + 11) * ((j : Int) * (j : Int) + 29) * 8731400069621 % (2 * 10 ^ 18 + 1) - 10 ^ 18).map V.int by rw [List.map_map] <;> rfl] at w1
    exact (k _ (by rw [List.length_map, List.length_range])).go w1

/-! ### _law_pairs -/
def sp__law_pairs : Sp := fun vs H Q _ => ∃ (m : Nat) (c : Int), vs = [.int (m : Int), .int c] ∧ m ≤ 6 ∧ 0 ≤ c ∧ c < 2 ^ 32 ∧ ∀ p ts fs H', Same H H' → H' p = some (.lst (ts.map V.ref)) → TrAll H' ts fs → pairsOk m fs → Q (.ref p) H'
theorem ok__law_pairs (T : Txt K mg A) : FnOk P w K mg base (L2.CX P w) 1 A.a__law_pairs A.d__law_pairs ["_law_many", "_law_number"] sp__law_pairs := by
  refine T.F__law_pairs.okX sc__law_pairs (fun vs H Q E h => ?_) (fun cdv A0 outer s H vs Q E hr h => ?_)
  · obtain ⟨m, c, rfl, _⟩ := h; rfl
  · obtain ⟨m, c, rfl, m6, c0, c1, k⟩ := h
    refine ⟨_, (pss_cons (ps_set (i := 2) sc__law_pairs.nd rfl (.inl rfl) (pe_lst pa_nil))
      (pss_cons (ps_for (passes_of rfl) rfl (pi_range1 (by rfl) T.z_range (pa_cons (pv 0) pa_nil)) (pg_name (i := 3) sc__law_pairs.nd rfl (.inl rfl)) (pss_one (ps_for (passes_of rfl) rfl (pi_range1 (by rfl) T.z_range (pa_cons (pv 3) pa_nil)) (pg_name (i := 4) sc__law_pairs.nd rfl (.inl rfl)) (pss_cons (ps_set (i := 5) sc__law_pairs.nd rfl (.inl rfl) (pe_op op_modX (pe_op op_mulX (pe_op op_mulX (pe_op op_addX (pv 1) pe_int) (pe_op op_addX (pe_op op_addX (pe_op op_mulX (pv 4) pe_int) (pe_op op_mulX (pv 3) (pv 3))) pe_int)) pe_int) pe_int))
      (pss_one (ps_if (pt_cmpR op_gtX (pe_op op_modX (pe_op op_fdivX (pv 5) pe_int) pe_int) pe_int (nomark _)) (pss_one (ps_expr (pe_bm PySem.F.plainAttrs_list PySem.F.slot_list_append PySem.F.type_list_append mt_append (pv 2) (pa_cons (pe_tup (pa_cons (pv 4) (pa_cons (pv 3) (pa_cons (pe_op op_subX (pv 5) (pe_op op_powX pe_int pe_int)) pa_nil)))) pa_nil)))) pss_nil))))))
      (pss_cons (ps_set (i := 6) sc__law_pairs.nd rfl (.inl rfl) (pe_op op_modX (pv 1) (pe_op op_addX (pe_callB (call_lenK (K := K) rfl) (by rfl) T.z_len (by decide +kernel) (pa_cons (pv 2) pa_nil)) pe_int)))
      (pss_one (ps_ret (pe_op op_addX (pe_slice (sl_listK (K := K) rfl) (pv 2) (po_some (pv 6)) po_none) (pe_slice (sl_listK (K := K) rfl) (pv 2) po_none (po_some (pv 6))))))))), ?_⟩
    rw [show L2.start N__law_pairs [V.int (m : Int), V.int c] = [some (.int (m : Int)), some (.int c), none, none, none, none, none] from rfl]
    walk_at "x"
    refine ⟨(by show 0 ≤ sizeLine; decide), fun p n0 => ?_⟩
    have w0 := (Own.start (H := H)).new (o := .lst ([].map V.ref)) n0
    walk_at "x"
    refine ⟨_, rfl, by omega, by omega, for_r0 (n := (m : Int)) (fun i σ' H' => ∃ (B : Hp) (ts : List Addr) (fs : List Tr), (∃ v3 v4 v5 v6, σ' = [some (.int (m : Int)), some (.int c), some (.ref p), v3, v4, v5, v6]) ∧ Same H B ∧ Own B [(p, .lst (ts.map V.ref))] H' ∧ TrAll B ts fs ∧ AheadC m 0 i fs)
      ⟨H, [], [], ⟨_, _, _, _, rfl⟩, .refl _, w0, .nil, ⟨fun _ h => (nomatch h), List.nodup_nil⟩⟩ ?_ ?_⟩
    · rintro i σ' H' hi ⟨B, ts, fs, ⟨v3, v4, v5, v6, rfl⟩, sB, w, hA, ah⟩
      have hi6 : i < 6 := by omega
      walk_at "x"
      refine ⟨_, rfl, by omega, by omega, for_r0 (n := (i : Int)) (fun j σ' H' => ∃ (B : Hp) (ts : List Addr) (fs : List Tr), (∃ v4 v5 v6, σ' = [some (.int (m : Int)), some (.int c), some (.ref p), some (.int (i : Int)), v4, v5, v6]) ∧ Same H B ∧ Own B [(p, .lst (ts.map V.ref))] H' ∧ TrAll B ts fs ∧ AheadC m j i fs)
        ⟨B, ts, fs, ⟨_, _, _, rfl⟩, sB, w, hA, ah⟩ ?_ ?_⟩
      · rintro j σ' H' hj ⟨B, ts, fs, ⟨v4, v5, v6, rfl⟩, sB, w, hA, ah⟩
        have hj6 : j < i := by omega
        have h15 := pairsOk_len m6 ah.ok
        have htl := hA.len
        walk_at "x"
        refine x_mulI (.of_right (by decide)) ?_
        walk_at "x"
        refine x_mulI (.of_left (intBits_le_64 (by omega) (by omega))) ?_
        walk_at "x"
        have h1 : (i : Int) * (i : Int) ≤ 6 * 6 := Int.mul_le_mul (by omega) (by omega) (by omega) (by omega)
        have h2 : 0 ≤ (i : Int) * (i : Int) := Int.mul_nonneg (by omega) (by omega)
        refine x_mulI (.of_left (intBits_le_64 (by omega) (by omega))) ?_
        walk_at "x"
        refine x_mulI (.of_right (by decide)) ?_
        walk_at "x"
        refine x_modP (by decide) ?_
        generalize (c + 5) * ((j : Int) * 7 + (i : Int) * (i : Int) + 3) * 48271 % 2147483629 = d
        walk_at "x"
        refine x_divP (by decide) (by decide) ?_
        walk_at "x"
        refine x_modP (by decide) ?_
        walk_at "x"
        refine ite2 (fun _ => ?_) (fun _ => x_next ?_)
        · walk_at "x"
          refine ⟨x_tyL (w.get 0 rfl), ?_⟩
          walk_at "x"
          refine x_powN ⟨by decide, by decide, by decide⟩ ?_
          walk_at "x"
          generalize d - (10 : Int) ^ (9 : Int).toNat = z
          refine ⟨(by show 3 ≤ sizeLine; decide), fun t nt => ?_⟩
          have nB := w.fresh nt
          have w1 := (w.new (o := .tup (trV (j, i, z))) nt).freeze
          have sB2 := same_upd (o := .tup (trV (j, i, z))) nB
          refine x_nil ?_
          refine x_append (w1.get 0 rfl) (by rw [List.length_map]; exact Nat.lt_of_lt_of_le (show ts.length < 1000 by omega) (by decide)) ?_
          have w2 := w1.put (o' := .lst (ts.map V.ref ++ [.ref t])) 0 rfl
          refine ⟨_, ts ++ [t], fs ++ [(j, i, z)], ⟨_, _, _, rfl⟩, sB.trans sB2, by rw [List.map_append]; exact w2, (hA.same sB2).snoc upd_same, ah.snoc hj6 (by omega) z⟩
        · exact ⟨B, ts, fs, ⟨_, _, _, rfl⟩, sB, w, hA, ah.skip⟩
      · rintro σ' H' ⟨B, ts, fs, ⟨v4, v5, v6, rfl⟩, sB, w, hA, ah⟩
        rw [show ((i : Int)).toNat = i from Int.toNat_natCast i] at ah
        exact ⟨B, ts, fs, ⟨_, _, _, _, rfl⟩, sB, w, hA, ah.next⟩
    · rintro σ' H' ⟨B, ts, fs, ⟨v3, v4, v5, v6, rfl⟩, sB, w, hA, ah⟩
      have h15 := pairsOk_len m6 ah.ok
      have htl := hA.len
      walk_at "x"
      refine x_lenL (w.sq 0 rfl) ?_
      walk_at "x"
      rw [List.length_map]
      refine x_modP (by omega) ?_
      obtain ⟨e, he⟩ := Int.eq_ofNat_of_zero_le (Int.emod_nonneg c (show ((ts.length : Int) + 1) ≠ 0 by omega))
      rw [he]
      walk_at "x"
      refine x_slL (w.sq 0 rfl) fun p1 n1 => ?_
      rw [cut_from]
      have w1 := w.new (o := .lst ((ts.map V.ref).drop e)) n1
      walk_at "x"
      refine x_slL (w1.sq 1 rfl) fun p2 n2 => ?_
      rw [cut_to]
      have w2 := w1.new (o := .lst ((ts.map V.ref).take e)) n2
      refine x_addL (.inl (w2.get 1 rfl)) (.inl (w2.get 0 rfl)) (by rw [List.length_drop, List.length_take, List.length_map]; exact Nat.le_trans (show _ ≤ 100 by omega) (by decide)) fun p3 n3 => ?_
      have w3 := w2.new (o := .lst ((ts.map V.ref).drop e ++ (ts.map V.ref).take e)) n3
      have ee : (ts.map V.ref).drop e ++ (ts.map V.ref).take e = (ts.drop e ++ ts.take e).map V.ref := by rw [List.map_append, List.map_drop, List.map_take]
      have hA3 := hA.same w3.ex
      refine k p3 (ts.drop e ++ ts.take e) (fs.drop e ++ fs.take e) _ (sB.trans w3.ex) (by rw [← ee]; exact w3.get 0 rfl) ((hA3.drop e).app (hA3.take e)) (pairsOk_perm ?_ ah.ok)
      have := (List.perm_append_comm (l₁ := fs.take e) (l₂ := fs.drop e))
      rwa [List.take_append_drop] at this

/-! ### _law_good -/
def sp__law_good (K : PySem.W.Frag) : Sp := fun vs H Q _ => ∃ (kd m : Nat) (c : Int), vs = [.int (kd : Int), .int (m : Int), .int c] ∧ kd ≤ 6 ∧ 1 ≤ m ∧ m ≤ 6 ∧ 0 ≤ c ∧ c < 2 ^ 32 ∧ ∀ p ps r H', Same H H' → H' p = some (.lst ps) → Good H' m kd ps r → (∀ v ∈ ps, PartV H' v) → ps.length ≤ 3 → Q (.ref p) H'
theorem abs_nn (z : Int) : 0 ≤ (if z < 0 then -z else z) := by split <;> omega
theorem ok__law_good (T : Txt K mg A) : FnOk P w K mg base (L2.CX P w) 2 A.a__law_good A.d__law_good ["_law_kind", "_law_many", "_law_number"] (sp__law_good K) := by
  refine T.F__law_good.okX sc__law_good (fun vs H Q E h => ?_) (fun cdv A0 outer s H vs Q E hr h => ?_)
  · obtain ⟨kd, m, c, rfl, _⟩ := h; rfl
  · obtain ⟨kd, m, c, rfl, h6, m1, m6, c0, c1, k⟩ := h
    refine ⟨_, (pss_cons (ps_if (pt_cmpR (op_eqK (K := K) rfl hr.units) (pv 0) pe_int (nomark _)) (pss_one (ps_ret (pe_lst (pa_cons (pv 1) pa_nil)))) pss_nil)
      (pss_cons (ps_set (i := 3) sc__law_good.nd rfl (.inl rfl) (pe_call (ok__law_numbers T) (hr.mono (by decide)) (by rfl) T.g__law_numbers T.F__law_numbers.kp T.b__law_numbers .nil (passes_call (takes_of rfl rfl rfl rfl) (fun _ _ _ _ h => h)) (pa_cons (pv 1) (pa_cons (pv 2) pa_nil))))
      (pss_cons (ps_if (pt_cmpR (op_eqK (K := K) rfl hr.units) (pv 0) pe_int (nomark _)) (pss_one (ps_ret (pe_lst (pa_cons (pv 3) pa_nil)))) pss_nil)
      (pss_cons (ps_if (pt_cmpR (op_eqK (K := K) rfl hr.units) (pv 0) pe_int (nomark _)) (pss_one (ps_ret (pe_lst (pa_cons (pe_op op_addX pe_int (pe_op op_modX (pv 2) pe_int)) (pa_cons (pe_op op_subX (pe_ix (ix_seqK (K := K) rfl) (pv 3) pe_int (fun _ _ => rfl)) (pv 2)) (pa_cons (pv 3) pa_nil)))))) pss_nil)
      (pss_cons (ps_if (pt_cmpR (op_eqK (K := K) rfl hr.units) (pv 0) pe_int (nomark _)) (pss_cons (ps_set (i := 4) sc__law_good.nd rfl (.inl rfl) (pe_ix (ix_seqK (K := K) rfl) (pe_lst (pa_cons pe_int (pa_cons pe_int (pa_cons pe_int (pa_cons pe_int (pa_cons pe_int (pa_cons pe_int pa_nil))))))) (pe_op op_subX (pv 1) pe_int) (fun _ _ => rfl)))
      (pss_one (ps_ret (pe_lst (pa_cons (pe_op op_addX (pe_lst (pa_cons pe_int pa_nil)) (pe_call (ok__law_numbers T) (hr.mono (by decide)) (by rfl) T.g__law_numbers T.F__law_numbers.kp T.b__law_numbers .nil (passes_call (takes_of rfl rfl rfl rfl) (fun _ _ _ _ h => h)) (pa_cons (pe_op op_subX (pv 4) pe_int) (pa_cons (pv 2) pa_nil)))) pa_nil))))) pss_nil)
      (pss_cons (ps_set (i := 5) sc__law_good.nd rfl (.inl rfl) (pe_call (ok__law_pairs T) (hr.mono (by decide)) (by rfl) T.g__law_pairs T.F__law_pairs.kp T.b__law_pairs .nil (passes_call (takes_of rfl rfl rfl rfl) (fun _ _ _ _ h => h)) (pa_cons (pv 1) (pa_cons (pv 2) pa_nil))))
      (pss_cons (ps_if (pt_cmpR (op_eqK (K := K) rfl hr.units) (pv 0) pe_int (nomark _)) (pss_cons (ps_setLc (i := 5) (own := [("_law_one", 6), ("_law_other", 7), ("_law_cost", 8)]) rfl sc__law_good.nd rfl rfl (sw_true rfl rfl rfl (by decide +kernel)) (pi_listK (K := K) rfl (pv 5)) (blkOk_by (own := [("_law_one", 6), ("_law_other", 7), ("_law_cost", 8)]) (N := N__law_good) (sc := defScope s__law_good) (by decide +kernel)) (fun _ _ _ _ _ => (pg_tupK (K := K) (n := 3) rfl rfl (pgs_cons (pg_name (i := 6) sc__law_good.nd rfl (.inl rfl)) (pgs_cons (pg_name (i := 7) sc__law_good.nd rfl (.inl rfl)) (pgs_cons (pg_name (i := 8) sc__law_good.nd rfl (.inl rfl)) pgs_nil))))) (fun _ _ _ _ _ => pts_nil) (fun _ _ _ _ _ => (pe_tup (pa_cons (pv 6) (pa_cons (pv 7) (pa_cons (pe_callB call_absX (by rfl) T.z_abs (by decide +kernel) (pa_cons (pv 8) pa_nil)) pa_nil))))))
      (pss_one (ps_ret (pe_lst (pa_cons (pe_lc (own := [("_law_cost", 8)]) rfl sc__law_good.nd (pi_listK (K := K) rfl (pv 3)) (blkOk_by (own := [("_law_cost", 8)]) (N := N__law_good) (sc := defScope s__law_good) (by decide +kernel)) (fun _ _ _ _ _ => (pg_name (i := 8) sc__law_good.nd rfl (.inl rfl))) (fun _ _ _ _ _ => pts_nil) (fun _ _ _ _ _ => (pe_callB call_absX (by rfl) T.z_abs (by decide +kernel) (pa_cons (pv 8) pa_nil)))) (pa_cons (pv 5) pa_nil)))))) pss_nil)
      (pss_one (ps_ret (pe_lst (pa_cons (pv 1) (pa_cons (pv 5) pa_nil)))))))))))), ?_⟩
    rw [show L2.start N__law_good [V.int (kd : Int), V.int (m : Int), V.int c] = [some (.int (kd : Int)), some (.int (m : Int)), some (.int c), none, none, none, none, none, none] from rfl]
    have hk : kd = 0 ∨ kd = 1 ∨ kd = 2 ∨ kd = 3 ∨ kd = 4 ∨ kd = 5 ∨ kd = 6 := by omega
    rcases hk with rfl | rfl | rfl | rfl | rfl | rfl | rfl
    · walk_at "x"
      refine iteT ?_
      walk_at "x"
      refine ⟨(by show 1 ≤ sizeLine; decide), fun p n => ?_⟩
      have w1 := (Own.start (H := H)).new (o := .lst [.int (m : Int)]) n
      refine k p _ _ _ w1.ex (w1.get 0 rfl) .rule (fun v hv => ?_) (by show 1 ≤ 3; omega)
      rw [List.mem_singleton.mp hv]; exact partV_int _
    · walk_at "x"
      refine iteF ?_
      walk_at "x"
      refine ⟨m, c, rfl, by omega, c0, c1, fun ns hl p1 H1 n1 s1 e1 => ?_⟩
      have w1 := (Own.start (H := H)).newE n1 s1 e1
      walk_at "x"
      repeat (refine iteF ?_; walk_at "x")
      refine iteT ?_
      walk_at "x"
      refine ⟨(by show 1 ≤ sizeLine; decide), fun p n => ?_⟩
      have w2 := w1.new (o := .lst [.ref p1]) n
      refine k p _ _ _ w2.ex (w2.get 0 rfl) (.own (w2.get 1 rfl) hl) (fun v hv => ?_) (by show 1 ≤ 3; omega)
      rw [List.mem_singleton.mp hv]; exact partV_lst (w2.get 1 rfl) flt_int
    · walk_at "x"
      refine iteF ?_
      walk_at "x"
      refine ⟨m, c, rfl, by omega, c0, c1, fun ns hl p1 H1 n1 s1 e1 => ?_⟩
      have w1 := (Own.start (H := H)).newE n1 s1 e1
      walk_at "x"
      repeat (refine iteF ?_; walk_at "x")
      refine iteT ?_
      walk_at "x"
      refine x_modP (by decide) ?_
      have y0 := Int.emod_nonneg c (show (1000003 : Int) ≠ 0 by decide)
      generalize c % 1000003 = y at y0 ⊢
      walk_at "x"
      refine x_ixXL (w1.sq 0 rfl) (at_int (ns := ns) (by omega) (by omega)) ?_
      walk_at "x"
      refine ⟨(by show 3 ≤ sizeLine; decide), fun p n => ?_⟩
      have w2 := w1.new (o := .lst [.int (1 + y), .int (gi ns 0 - c), .ref p1]) n
      refine k p _ _ _ w2.ex (w2.get 0 rfl) (.votes (by omega) (w2.get 1 rfl) hl) (fun v hv => ?_) (by show 3 ≤ 3; omega)
      simp only [List.mem_cons, List.not_mem_nil, or_false] at hv
      rcases hv with rfl | rfl | rfl
      · exact partV_int _
      · exact partV_int _
      · exact partV_lst (w2.get 1 rfl) flt_int
    · walk_at "x"
      refine iteF ?_
      walk_at "x"
      refine ⟨m, c, rfl, by omega, c0, c1, fun ns hl p1 H1 n1 s1 e1 => ?_⟩
      have w1 := (Own.start (H := H)).newE n1 s1 e1
      walk_at "x"
      repeat (refine iteF ?_; walk_at "x")
      refine iteT ?_
      walk_at "x"
      refine ⟨(by show 6 ≤ sizeLine; decide), fun p2 n2 => ?_⟩
      have w2 := w1.new (o := .lst (([2, 4, 8, 16, 32, 64] : List Int).map V.int)) n2
      walk_at "x"
      have esz : atI (([2, 4, 8, 16, 32, 64] : List Int).map V.int) ((m : Int) - 1) = some (.int ((2 ^ m : Nat) : Int)) := by
        have : m = 1 ∨ m = 2 ∨ m = 3 ∨ m = 4 ∨ m = 5 ∨ m = 6 := by omega
        rcases this with rfl | rfl | rfl | rfl | rfl | rfl <;> rfl
      have hp2 : 2 ≤ 2 ^ m ∧ 2 ^ m ≤ 64 := ⟨Nat.pow_le_pow_right (n := 2) (by decide) m1, pow6 m6⟩
      refine x_ixXL (w2.sq 0 rfl) esz ?_
      walk_at "x"
      refine ⟨(by show 1 ≤ sizeLine; decide), fun p3 n3 => ?_⟩
      have w3 := w2.new (o := .lst (([0] : List Int).map V.int)) n3
      walk_at "x"
      rw [show (((2 ^ m : Nat) : Int) - 1) = ((2 ^ m - 1 : Nat) : Int) by omega]
      refine ⟨2 ^ m - 1, c, rfl, by omega, c0, c1, fun zs hl2 p4 H4 n4 s4 e4 => ?_⟩
      have w4 := w3.newE n4 s4 e4
      refine x_addL (.inl (w4.get 1 rfl)) (.inl (w4.get 0 rfl)) (by rw [List.length_map, List.length_map, hl2]; exact Nat.le_trans (show 1 + (2 ^ m - 1) ≤ 100 by omega) (by decide)) fun p5 n5 => ?_
      rw [← List.map_append]
      have w5 := w4.new (o := .lst (([0] ++ zs).map V.int)) n5
      walk_at "x"
      refine ⟨(by show 1 ≤ sizeLine; decide), fun p n => ?_⟩
      have w6 := w5.new (o := .lst [.ref p5]) n
      refine k p _ _ _ w6.ex (w6.get 0 rfl) (.plain (w6.get 1 rfl) ⟨by rw [List.length_append, hl2]; show 1 + (2 ^ m - 1) = 2 ^ m; omega, m1, m6, rfl⟩) (fun v hv => ?_) (by show 1 ≤ 3; omega)
      rw [List.mem_singleton.mp hv]; exact partV_lst (w6.get 1 rfl) flt_int
    · walk_at "x"
      refine iteF ?_
      walk_at "x"
      refine ⟨m, c, rfl, by omega, c0, c1, fun ns hl p1 H1 n1 s1 e1 => ?_⟩
      have w1 := (Own.start (H := H)).newE n1 s1 e1
      walk_at "x"
      repeat (refine iteF ?_; walk_at "x")
      refine ⟨m, c, rfl, by omega, c0, c1, fun p2 ts fs H2 s2 e2 hA ok => ?_⟩
      have w2 := w1.ext s2
      have h15 := pairsOk_len m6 ok
      have htl := hA.len
      walk_at "x"
      refine iteF ?_
      walk_at "x"
      refine ⟨(by show 2 ≤ sizeLine; decide), fun p n => ?_⟩
      have w3 := w2.new (o := .lst [.int (m : Int), .ref p2]) n
      have s3 := same_upd (o := .lst [.int (m : Int), .ref p2]) n
      refine k p _ _ _ w3.ex (w3.get 0 rfl) (.pairs (s3 _ _ e2) (hA.same s3) (by omega) ok) (fun v hv => ?_) (by show 2 ≤ 3; omega)
      simp only [List.mem_cons, List.not_mem_nil, or_false] at hv
      rcases hv with rfl | rfl
      · exact partV_int _
      · exact partV_lst (s3 _ _ e2) flt_ref
    · walk_at "x"
      refine iteF ?_
      walk_at "x"
      refine ⟨m, c, rfl, by omega, c0, c1, fun ns hl p1 H1 n1 s1 e1 => ?_⟩
      have w1 := (Own.start (H := H)).newE n1 s1 e1
      walk_at "x"
      repeat (refine iteF ?_; walk_at "x")
      refine ⟨m, c, rfl, by omega, c0, c1, fun p2 ts fs H2 s2 e2 hA ok => ?_⟩
      have w2 := w1.ext s2
      have h15 := pairsOk_len m6 ok
      have htl := hA.len
      walk_at "x"
      refine iteF ?_
      walk_at "x"
      refine ⟨(by show 2 ≤ sizeLine; decide), fun p n => ?_⟩
      have w3 := w2.new (o := .lst [.int (m : Int), .ref p2]) n
      have s3 := same_upd (o := .lst [.int (m : Int), .ref p2]) n
      refine k p _ _ _ w3.ex (w3.get 0 rfl) (.best (s3 _ _ e2) (hA.same s3) (by omega) ok) (fun v hv => ?_) (by show 2 ≤ 3; omega)
      simp only [List.mem_cons, List.not_mem_nil, or_false] at hv
      rcases hv with rfl | rfl
      · exact partV_int _
      · exact partV_lst (s3 _ _ e2) flt_ref
    · walk_at "x"
      refine iteF ?_
      walk_at "x"
      refine ⟨m, c, rfl, by omega, c0, c1, fun ns hl p1 H1 n1 s1 e1 => ?_⟩
      have w1 := (Own.start (H := H)).newE n1 s1 e1
      walk_at "x"
      repeat (refine iteF ?_; walk_at "x")
      refine ⟨m, c, rfl, by omega, c0, c1, fun p2 ts fs H2 s2 e2 hA ok => ?_⟩
      have h15 := pairsOk_len m6 ok
      have htl := hA.len
      have ns1 : H2 p1 = some (.lst (ns.map V.int)) := s2 _ _ (w1.get 0 rfl)
      have sH := w1.ex.trans s2
      have w2 := (Own.start (H := H2))
      walk_at "x"
      refine iteT ?_
      walk_at "x"
      refine ⟨p2, rfl, ⟨_, SqL.of e2⟩, cpE_list (xs := ts.map V.ref) (G := fun B2 i acc => ∃ us : List Addr, acc = us.map V.ref ∧ TrAll B2 us ((fs.take i).map fun f => (f.1, f.2.1, if f.2.2 < 0 then -f.2.2 else f.2.2))) w2 (SqL.of e2) ⟨[], rfl, .nil⟩ ?_ ?_⟩
      · rintro D i x H3 B2 acc hx sB ⟨us, rfl, hus⟩ w3
        obtain ⟨t, ht, rfl⟩ := map_at hx
        obtain ⟨f, hf, hT⟩ := hA.at ht
        have hi := (List.getElem?_eq_some_iff.mp hf).1
        have hul : us.length = i := by have := hus.len; rw [List.length_map, List.length_take] at this; omega
        refine x_gt (SqT.of (w3.ex _ _ (sB _ _ hT))) rfl ?_
        walk_at "x"
        refine ⟨rfl, ?_⟩
        walk_at "x"
        refine iteT ?_
        walk_at "x"
        refine ⟨(by show 3 ≤ sizeLine; decide), fun t2 nt => ?_⟩
        have nB := w3.fresh nt
        have w4 := (w3.new (o := .tup (trV (f.1, f.2.1, if f.2.2 < 0 then -f.2.2 else f.2.2))) nt).freeze
        have sB3 := same_upd (o := .tup (trV (f.1, f.2.1, if f.2.2 < 0 then -f.2.2 else f.2.2))) nB
        refine cpE_fin w4 (sB.trans sB3) ⟨us ++ [t2], by rw [List.map_append] <;> rfl, ?_⟩ (by rw [List.length_map]; omega)
        rw [List.take_add_one, hf, List.map_append]
        exact (hus.same sB3).snoc upd_same
      rintro D H3 B2 acc sB ⟨us, rfl, hus⟩ w3
      rw [List.length_map, htl, List.take_length] at hus
      have ns3 := w3.ex _ _ (sB _ _ ns1)
      have ok3 : pairsOk m (fs.map fun f => (f.1, f.2.1, if f.2.2 < 0 then -f.2.2 else f.2.2)) := by
        refine ⟨fun t ht => ?_, ?_⟩
        · obtain ⟨f, hf, rfl⟩ := List.mem_map.mp ht
          exact ok.1 f hf
        · rw [List.map_map]
          exact ok.2
      have pos3 : ∀ f ∈ (fs.map fun f : Tr => ((f.1, f.2.1, if f.2.2 < 0 then -f.2.2 else f.2.2) : Tr)), 0 ≤ f.2.2 := fun t ht => by
        obtain ⟨f, hf, rfl⟩ := List.mem_map.mp ht
        exact abs_nn _
      have hl3 := hus.len
      rw [List.length_map] at hl3
      generalize (fs.map fun f : Tr => ((f.1, f.2.1, if f.2.2 < 0 then -f.2.2 else f.2.2) : Tr)) = gs at hus ok3 pos3
      have eD := w3.get 0 rfl
      have sH3 := (sH.trans sB).trans w3.ex
      have hus3 := hus.same w3.ex
      have w4 := (Own.start (H := H3))
      walk_at "x"
      refine ⟨p1, rfl, ⟨_, SqL.of ns3⟩, cp_list (xs := ns.map V.int) (fun i => (ns.take i).map fun z => V.int (if z < 0 then -z else z)) w4 (SqL.of ns3) rfl ?_ ?_⟩
      · intro D2 i x H' hx pc
        obtain ⟨z, hzi, rfl⟩ := map_at hx
        walk_at "x"
        refine ⟨rfl, ?_⟩
        walk_at "x"
        refine iteT ?_
        walk_at "x"
        exact cp_fin (F := fun i => (ns.take i).map fun z => V.int (if z < 0 then -z else z)) pc (take_map hzi _) (by rw [List.length_map, List.length_take]; omega)
      intro D2 H5 w5
      rw [List.length_map, List.take_length, show (ns.map fun z => V.int (if z < 0 then -z else z)) = (ns.map fun z => if z < 0 then -z else z).map V.int by rw [List.map_map] <;> rfl] at w5
      walk_at "x"
      refine ⟨(by show 2 ≤ sizeLine; decide), fun p n => ?_⟩
      have w6 := w5.new (o := .lst [.ref D2, .ref D]) n
      refine k p _ _ _ (sH3.trans w6.ex) (w6.get 0 rfl) (.net (w6.get 1 rfl) (by rw [List.length_map, hl]) (fun c hc => ?_) (w6.ex _ _ eD) (hus3.same w6.ex) (by omega) ok3 pos3) (fun v hv => ?_) (by show 2 ≤ 3; omega)
      · obtain ⟨z, _, rfl⟩ := List.mem_map.mp hc
        exact abs_nn z
      · simp only [List.mem_cons, List.not_mem_nil, or_false] at hv
        rcases hv with rfl | rfl
        · exact partV_lst (w6.get 1 rfl) flt_int
        · exact partV_lst (w6.ex _ _ eD) flt_ref

/-! ### _law_odd -/
def sp__law_odd (K : PySem.W.Frag) : Sp := fun vs H Q _ => ∃ (c : Int), vs = [.int c] ∧ ∀ v H', Same H H' → OddV H H' v → Q v H'
theorem ok__law_odd (T : Txt K mg A) : FnOk P w K mg base (L2.CX P w) 1 A.a__law_odd A.d__law_odd ["_law_number"] (sp__law_odd K) := by
  refine T.F__law_odd.okX sc__law_odd (fun vs H Q E h => ?_) (fun cdv A0 outer s H vs Q E hr h => ?_)
  · obtain ⟨c, rfl, _⟩ := h; rfl
  · obtain ⟨c, rfl, k⟩ := h
    refine ⟨_, (pss_one (ps_ret (pe_ix (ix_seqK (K := K) rfl) (pe_lst (pa_cons pe_non (pa_cons pe_bl (pa_cons pe_bl (pa_cons pe_str (pa_cons (pe_tup (pa_cons pe_int pa_nil)) (pa_cons (pe_lst (pa_cons pe_int pa_nil)) (pa_cons pe_dnewK (pa_cons pe_str pa_nil))))))))) (pe_op op_modX (pv 0) pe_int) (fun _ _ => rfl)))), ?_⟩
    walk_at "x"
    refine ⟨(by show 1 ≤ sizeLine; decide), fun q6 m6 => ?_⟩
    have x6 := (Own.start (H := H)).new (o := .tup [.int 1]) m6
    refine ⟨(by show 1 ≤ sizeLine; decide), fun q7 m7 => ?_⟩
    have x7 := x6.new (o := .lst [.int 2]) m7
    intro q8 m8
    have x8 := x7.new (o := .dK []) m8
    refine ⟨(by show 8 ≤ sizeLine; decide), fun q9 m9 => ?_⟩
    have x9 := x8.new (o := .lst [.non, .bl true, .bl false, .str "1", .ref q6, .ref q7, .ref q8, .str ""]) m9
    walk_at "x"
    refine x_modP (by decide) ?_
    obtain ⟨v, ev, hv⟩ := at_mem (xs := [.non, .bl true, .bl false, .str "1", .ref q6, .ref q7, .ref q8, .str ""]) (i := c % 8) (by omega) (by show c % 8 < 8; omega)
    refine x_ixXL (x9.sq 0 rfl) ev ?_
    have f6 := x9.none 3 rfl
    have f7 := x9.none 2 rfl
    have f8 := x9.none 1 rfl
    have e6 := x9.get 3 rfl
    have e7 := x9.get 2 rfl
    have e8 := x9.get 1 rfl
    refine k v _ x9.ex ?_
    simp only [List.mem_cons, List.not_mem_nil, or_false] at hv
    rcases hv with rfl | rfl | rfl | rfl | rfl | rfl | rfl | rfl
    · exact ⟨.non, rfl, ⟨.non, .inl ⟨.non, fun ⟨_, _, e, _⟩ => nomatch e⟩⟩, fun _ e => nomatch e⟩
    · exact ⟨.bl _, rfl, ⟨.bl _, .inl ⟨.bl _, fun ⟨_, _, e, _⟩ => nomatch e⟩⟩, fun _ e => nomatch e⟩
    · exact ⟨.bl _, rfl, ⟨.bl _, .inl ⟨.bl _, fun ⟨_, _, e, _⟩ => nomatch e⟩⟩, fun _ e => nomatch e⟩
    · exact ⟨.str _, rfl, ⟨.str _, .inl ⟨.str _, fun ⟨_, _, e, _⟩ => nomatch e⟩⟩, fun _ e => nomatch e⟩
    · exact ⟨.tup (.inl e6), rfl, ⟨.ref _, .inl ⟨.tup (.inl e6), fun ⟨a, xs, e, hr⟩ => by
        obtain rfl := V.ref.inj e
        rcases hr with g | ⟨o2, g⟩ <;> (rw [e6] at g; cases g)⟩⟩, fun a e => by obtain rfl := V.ref.inj e; exact f6⟩
    · exact ⟨.lst (.inl e7), rfl, partV_lst e7 (fun y hy => by rw [List.mem_singleton.mp hy]; exact .int _), fun a e => by obtain rfl := V.ref.inj e; exact f7⟩
    · exact ⟨.dic e8, rfl, ⟨.ref _, .inl ⟨.dic e8, fun ⟨a, xs, e, hr⟩ => by
        obtain rfl := V.ref.inj e
        rcases hr with g | ⟨o2, g⟩ <;> (rw [e8] at g; cases g)⟩⟩, fun a e => by obtain rfl := V.ref.inj e; exact f8⟩
    · exact ⟨.str _, rfl, ⟨.str _, .inl ⟨.str _, fun ⟨_, _, e, _⟩ => nomatch e⟩⟩, fun _ e => nomatch e⟩

/-! ### _law_far -/
def sp__law_far : Sp := fun vs H Q _ => ∃ (c : Int), vs = [.int c] ∧ 0 ≤ c ∧ ∀ z H', 0 ≤ z → Same H H' → Q (.int z) H'
theorem ok__law_far (T : Txt K mg A) : FnOk P w K mg base (L2.CX P w) 1 A.a__law_far A.d__law_far ["_law_number"] sp__law_far := by
  refine T.F__law_far.okX sc__law_far (fun vs H Q E h => ?_) (fun cdv A0 outer s H vs Q E hr h => ?_)
  · obtain ⟨c, rfl, _⟩ := h; rfl
  · obtain ⟨c, rfl, c0, k⟩ := h
    refine ⟨_, (pss_cons (ps_if (pt_cmpR (op_eqK (K := K) rfl hr.units) (pe_op op_modX (pv 0) pe_int) pe_int (nomark _)) (pss_one (ps_ret pe_int)) pss_nil)
      (pss_one (ps_ret (pe_op op_modX (pe_op op_mulX (pe_op op_fdivX (pv 0) pe_int) pe_int) (pe_op op_powX pe_int pe_int))))), ?_⟩
    walk_at "x"
    refine x_modP (by decide) ?_
    walk_at "x"
    refine ite2 (fun _ => ?_) (fun _ => x_next ?_)
    · walk_at "x"
      exact k 0 _ (by omega) (.refl _)
    walk_at "x"
    refine x_divP (by decide) (by decide) ?_
    walk_at "x"
    refine x_mulI (.of_right (by decide)) ?_
    walk_at "x"
    refine x_powN ⟨by decide, by decide, by decide⟩ ?_
    rw [show (10 : Int) ^ (18 : Int).toNat = 1000000000000000000 by decide]
    refine x_modP (by decide) ?_
    exact k _ _ (Int.emod_nonneg _ (by decide)) (.refl _)

/-! ### _law_many_off -/
def sp__law_many_off : Sp := fun vs H Q _ => ∃ (c : Int), vs = [.int c] ∧ 0 ≤ c ∧ ∀ v H', Same H H' → Thing H' v → PartV H' v → ¬ inR v 1 6 → Q v H'
theorem ok__law_many_off (T : Txt K mg A) : FnOk P w K mg base (L2.CX P w) 2 A.a__law_many_off A.d__law_many_off ["_law_number"] sp__law_many_off := by
  refine T.F__law_many_off.okX sc__law_many_off (fun vs H Q E h => ?_) (fun cdv A0 outer s H vs Q E hr h => ?_)
  · obtain ⟨c, rfl, _⟩ := h; rfl
  · obtain ⟨c, rfl, c0, k⟩ := h
    refine ⟨_, (pss_cons (ps_set (i := 1) sc__law_many_off.nd rfl (.inl rfl) (pe_call (ok__law_far T) (hr.mono (by decide)) (by rfl) T.g__law_far T.F__law_far.kp T.b__law_far .nil (passes_call (takes_of rfl rfl rfl rfl) (fun _ _ _ _ h => h)) (pa_cons (pe_op op_fdivX (pv 0) pe_int) pa_nil)))
      (pss_one (ps_ret (pe_ix (ix_seqK (K := K) rfl) (pe_lst (pa_cons pe_int (pa_cons pe_int (pa_cons (pe_op op_addX pe_int (pv 1)) (pa_cons (pe_op op_subX (pe_op op_subX pe_int pe_int) (pv 1)) (pa_cons (pe_call (ok__law_odd T) (hr.mono (by decide)) (by rfl) T.g__law_odd T.F__law_odd.kp T.b__law_odd .nil (passes_call (takes_of rfl rfl rfl rfl) (fun _ _ _ _ h => h)) (pa_cons (pe_op op_fdivX (pv 0) pe_int) pa_nil)) (pa_cons (pe_call (ok__law_odd T) (hr.mono (by decide)) (by rfl) T.g__law_odd T.F__law_odd.kp T.b__law_odd .nil (passes_call (takes_of rfl rfl rfl rfl) (fun _ _ _ _ h => h)) (pa_cons (pe_op op_fdivX (pv 0) pe_int) pa_nil)) pa_nil))))))) (pe_op op_modX (pv 0) pe_int) (fun _ _ => rfl))))), ?_⟩
    walk_at "x"
    refine x_divP (by decide) (by decide) ?_
    refine ⟨c / 16, rfl, by omega, fun z H1 z0 s1 => ?_⟩
    have w1 := (Own.start (H := H)).ext s1
    walk_at "x"
    refine x_divP (by decide) (by decide) ?_
    refine ⟨c / 4, rfl, fun v H2 s2 o2 => ?_⟩
    have w2 := w1.ext s2
    walk_at "x"
    refine x_divP (by decide) (by decide) ?_
    refine ⟨c / 4, rfl, fun v3 H3 s3 o3 => ?_⟩
    have w3 := w2.ext s3
    refine ⟨(by show 6 ≤ sizeLine; decide), fun q m => ?_⟩
    have w4 := w3.new (o := .lst [.int 0, .int 7, .int (7 + z), .int (0 - 1 - z), v, v3]) m
    walk_at "x"
    refine x_modP (by decide) ?_
    obtain ⟨u, eu, hu⟩ := at_mem (xs := [.int 0, .int 7, .int (7 + z), .int (0 - 1 - z), v, v3]) (i := c % 6) (by omega) (by show c % 6 < 6; omega)
    refine x_ixXL (w4.sq 0 rfl) eu ?_
    have s4 := same_upd (o := .lst [.int 0, .int 7, .int (7 + z), .int (0 - 1 - z), v, v3]) m
    have s24 := s3.trans s4
    refine k u _ w4.ex ?_ ?_ ?_
    · simp only [List.mem_cons, List.not_mem_nil, or_false] at hu
      rcases hu with rfl | rfl | rfl | rfl | rfl | rfl
      · exact .int _
      · exact .int _
      · exact .int _
      · exact .int _
      · exact o2.th.same s24
      · exact o3.th.same s4
    · simp only [List.mem_cons, List.not_mem_nil, or_false] at hu
      rcases hu with rfl | rfl | rfl | rfl | rfl | rfl
      · exact partV_int _
      · exact partV_int _
      · exact partV_int _
      · exact partV_int _
      · exact o2.pt.same s24
      · exact o3.pt.same s4
    · simp only [List.mem_cons, List.not_mem_nil, or_false] at hu
      rcases hu with rfl | rfl | rfl | rfl | rfl | rfl
      · rintro ⟨y, ey, hy⟩; have := V.int.inj ey; omega
      · rintro ⟨y, ey, hy⟩; have := V.int.inj ey; omega
      · rintro ⟨y, ey, hy⟩; have := V.int.inj ey; omega
      · rintro ⟨y, ey, hy⟩; have := V.int.inj ey; omega
      · exact odd_inR o2.no
      · exact odd_inR o3.no

/-! ### _law_list_off -/
def sp__law_list_off (K : PySem.W.Frag) : Sp := fun vs H Q _ => ∃ (a : Addr) (ns : List Int) (c : Int) (lo : V), vs = [.ref a, .int c, lo] ∧ H a = some (.lst (ns.map V.int)) ∧ 1 ≤ ns.length ∧ ns.length ≤ 6 ∧ 0 ≤ c ∧ (lo = .non ∨ lo = .int 0) ∧
  ∀ p xs H', Same H H' → H' p = some (.lst xs) → (∀ y ∈ xs, Thing H' y) → xs.length ≤ 100 → (¬ (1 ≤ xs.length ∧ xs.length ≤ 6 ∧ xs.all isI = true) ∨ (lo = .int 0 ∧ ∃ zs : List Int, xs = zs.map V.int ∧ ∃ z ∈ zs, z < 0)) → Q (.ref p) H'
theorem ok__law_list_off (T : Txt K mg A) : FnOk P w K mg base (L2.CX P w) 2 A.a__law_list_off A.d__law_list_off ["_law_row", "_law_number", "_law_low"] (sp__law_list_off K) := by
  refine T.F__law_list_off.okX sc__law_list_off (fun vs H Q E h => ?_) (fun cdv A0 outer s H vs Q E hr h => ?_)
  · obtain ⟨a, ns, c, lo, rfl, _⟩ := h; rfl
  · obtain ⟨a, ns, c, lo, rfl, eS, l1, l6, c0, hlo, k⟩ := h
    have hS : SqL K H a (ns.map V.int) := SqL.of eS
    refine ⟨_, (pss_cons (ps_set (i := 3) sc__law_list_off.nd rfl (.inl rfl) (pe_op op_modX (pe_op op_fdivX (pv 1) pe_int) (pe_callB (call_lenK (K := K) rfl) (by rfl) T.z_len (by decide +kernel) (pa_cons (pv 0) pa_nil))))
      (pss_cons (ps_set (i := 4) sc__law_list_off.nd rfl (.inl rfl) (pe_op op_modX (pv 1) pe_int))
      (pss_cons (ps_if (pt_cmpR (op_eqK (K := K) rfl hr.units) (pv 4) pe_int (nomark _)) (pss_one (ps_ret (pe_lst pa_nil))) pss_nil)
      (pss_cons (ps_if (pt_cmpR (op_eqK (K := K) rfl hr.units) (pv 4) pe_int (nomark _)) (pss_one (ps_ret (pe_op op_addX (pv 0) (pe_lc (own := [("_law_k", 5)]) rfl sc__law_list_off.nd (pi_range1 (by rfl) T.z_range (pa_cons (pe_op op_addX (pe_op op_subX pe_int (pe_callB (call_lenK (K := K) rfl) (by rfl) T.z_len (by decide +kernel) (pa_cons (pv 0) pa_nil))) (pe_op op_modX (pe_op op_fdivX (pv 1) pe_int) pe_int)) pa_nil)) (blkOk_by (own := [("_law_k", 5)]) (N := N__law_list_off) (sc := defScope s__law_list_off) (by decide +kernel)) (fun _ _ _ _ _ => (pg_name (i := 5) sc__law_list_off.nd rfl (.inl rfl))) (fun _ _ _ _ _ => pts_nil) (fun _ _ _ _ _ => pe_int))))) pss_nil)
      (pss_cons (ps_if (PW.pt (pw_and (pt_cmpR op_ltX (pv 4) pe_int (nomark _)) (pw_and1 (pt_cmpR op_notNX (pv 2) pe_non (nomark _))))) (pss_one (ps_ret (pe_op op_addX (pe_op op_addX (pe_slice (sl_listK (K := K) rfl) (pv 0) po_none (po_some (pv 3))) (pe_lst (pa_cons (pe_op op_subX (pe_op op_subX (pv 2) pe_int) (pe_call (ok__law_far T) (hr.mono (by decide)) (by rfl) T.g__law_far T.F__law_far.kp T.b__law_far .nil (passes_call (takes_of rfl rfl rfl rfl) (fun _ _ _ _ h => h)) (pa_cons (pe_op op_fdivX (pv 1) pe_int) pa_nil))) pa_nil))) (pe_slice (sl_listK (K := K) rfl) (pv 0) (po_some (pe_op op_addX (pv 3) pe_int)) po_none)))) pss_nil)
      (pss_one (ps_ret (pe_op op_addX (pe_op op_addX (pe_slice (sl_listK (K := K) rfl) (pv 0) po_none (po_some (pv 3))) (pe_lst (pa_cons (pe_call (ok__law_odd T) (hr.mono (by decide)) (by rfl) T.g__law_odd T.F__law_odd.kp T.b__law_odd .nil (passes_call (takes_of rfl rfl rfl rfl) (fun _ _ _ _ h => h)) (pa_cons (pe_op op_fdivX (pv 1) pe_int) pa_nil)) pa_nil))) (pe_slice (sl_listK (K := K) rfl) (pv 0) (po_some (pe_op op_addX (pv 3) pe_int)) po_none))))))))), ?_⟩
    have w := (Own.start (H := H))
    have hT : ∀ {H' : Hp} (y : V), y ∈ ns.map V.int → Thing H' y := fun y hy => by
      obtain ⟨z, _, rfl⟩ := List.mem_map.mp hy
      exact .int z
    walk_at "x"
    refine x_divP (by decide) (by decide) ?_
    walk_at "x"
    refine x_lenL hS ?_
    rw [List.length_map]
    refine x_modP (by omega) ?_
    obtain ⟨i, hi⟩ := Int.eq_ofNat_of_zero_le (Int.emod_nonneg (c / 8) (show (ns.length : Int) ≠ 0 by omega))
    have hil : i < ns.length := by have := Int.emod_lt_of_pos (c / 8) (show (0 : Int) < ns.length by omega); omega
    rw [hi]
    walk_at "x"
    refine x_modP (by decide) ?_
    have y0 := Int.emod_nonneg c (show (8 : Int) ≠ 0 by decide)
    generalize c % 8 = y at y0 ⊢
    walk_at "x"
    refine ite2 (fun _ => ?_) (fun c0' => x_next ?_)
    · walk_at "x"
      refine ⟨(by show 0 ≤ sizeLine; decide), fun p n => ?_⟩
      have w1 := w.new (o := .lst []) n
      exact k p _ _ w1.ex (w1.get 0 rfl) (fun _ h => nomatch h) (by show 0 ≤ 100; omega) (.inl fun h => absurd h.1 (by show ¬ 1 ≤ 0; omega))
    walk_at "x"
    refine ite2 (fun _ => ?_) (fun c1' => x_next ?_)
    · walk_at "x"
      refine x_lenL hS ?_
      rw [List.length_map]
      walk_at "x"
      refine x_divP (by decide) (by decide) ?_
      walk_at "x"
      refine x_modP (by decide) ?_
      obtain ⟨e, he⟩ := Int.eq_ofNat_of_zero_le (Int.emod_nonneg (c / 8) (show (3 : Int) ≠ 0 by decide))
      have he3 : e < 3 := by have := Int.emod_lt_of_pos (c / 8) (show (0 : Int) < 3 by decide); omega
      rw [he]
      walk_at "x"
      rw [show (7 : Int) - (ns.length : Int) + (e : Int) = ((7 - ns.length + e : Nat) : Int) by omega]
      have hj : 7 - ns.length + e ≤ 10 := by omega
      have hj7 : 7 ≤ ns.length + (7 - ns.length + e) := by omega
      generalize 7 - ns.length + e = j at hj hj7 ⊢
      refine ⟨_, rfl, by omega, by omega, cp_range (lo := 0) (n := ((j : Int)).toNat) (fun i => (List.replicate i (3 : Int)).map V.int) w rfl ?_ ?_⟩
      · intro D i H' hi pc
        rw [Int.toNat_natCast] at hi
        walk_at "x"
        refine ⟨rfl, ?_⟩
        walk_at "x"
        refine iteT ?_
        walk_at "x"
        exact cp_fin (F := fun i => (List.replicate i (3 : Int)).map V.int) pc (by
          show (List.replicate (i + 1) (3 : Int)).map V.int = _
          rw [List.replicate_succ', List.map_append] <;> rfl) (by rw [List.length_map, List.length_replicate]; omega)
      intro D H1 w1
      rw [Int.toNat_natCast] at w1
      walk_at "x"
      refine x_addL (.inl (w1.ex _ _ eS)) (.inl (w1.get 0 rfl)) (by rw [List.length_map, List.length_map, List.length_replicate]; exact Nat.le_trans (show _ ≤ 100 by omega) (by decide)) fun p n => ?_
      have w2 := w1.new (o := .lst (ns.map V.int ++ (List.replicate j (3 : Int)).map V.int)) n
      refine k p _ _ w2.ex (w2.get 0 rfl) (fun y hy => ?_) (by rw [List.length_append, List.length_map, List.length_map, List.length_replicate]; omega) (.inl fun h => ?_)
      · rw [← List.map_append] at hy
        obtain ⟨z, _, rfl⟩ := List.mem_map.mp hy
        exact .int z
      · have := h.2.1
        rw [List.length_append, List.length_map, List.length_map, List.length_replicate] at this
        omega
    dsimp only
    refine x_seqJ (fun σ' H' => σ' = [some (.ref a), some (.int c), some lo, some (.int (i : Int)), some (.int y), none] ∧ H' = H) ?_ ?_
    · rintro σ' H' ⟨rfl, rfl⟩
      walk_at "x"
      refine x_slL hS fun p1 n1 => ?_
      rw [cut_to]
      have w1 := w.new (o := .lst ((ns.map V.int).take i)) n1
      walk_at "x"
      refine x_divP (by decide) (by decide) ?_
      refine ⟨_, rfl, fun v H2 s2 o2 => ?_⟩
      have w2 := w1.ext s2
      walk_at "x"
      refine ⟨(by show 1 ≤ sizeLine; decide), fun p3 n3 => ?_⟩
      have w3 := w2.new (o := .lst [v]) n3
      have o3 := o2.th.same (same_upd (o := .lst [v]) n3)
      have ltake : ((ns.map V.int).take i).length ≤ 6 := by rw [List.length_take, List.length_map]; omega
      refine x_addL (.inl (w3.get 1 rfl)) (.inl (w3.get 0 rfl)) (Nat.le_trans (show _ + 1 ≤ 65 by omega) (by decide)) fun p4 n4 => ?_
      have w4 := w3.new (o := .lst ((ns.map V.int).take i ++ [v])) n4
      have o4 := o3.same (same_upd (o := .lst ((ns.map V.int).take i ++ [v])) n4)
      walk_at "x"
      refine x_slL (w4.seq hS) fun p5 n5 => ?_
      rw [show (i : Int) + 1 = ((i + 1 : Nat) : Int) from rfl, cut_from]
      have w5 := w4.new (o := .lst ((ns.map V.int).drop (i + 1))) n5
      have o5 := o4.same (same_upd (o := .lst ((ns.map V.int).drop (i + 1))) n5)
      have ldrop : ((ns.map V.int).drop (i + 1)).length ≤ 6 := by rw [List.length_drop, List.length_map]; omega
      refine x_addL (.inl (w5.get 1 rfl)) (.inl (w5.get 0 rfl)) (by rw [List.length_append]; exact Nat.le_trans (show _ + 1 + _ ≤ 129 by omega) (by decide)) fun p6 n6 => ?_
      have w6 := w5.new (o := .lst ((ns.map V.int).take i ++ [v] ++ (ns.map V.int).drop (i + 1))) n6
      have o6 := o5.same (same_upd (o := .lst ((ns.map V.int).take i ++ [v] ++ (ns.map V.int).drop (i + 1))) n6)
      refine k p6 _ _ w6.ex (w6.get 0 rfl) (fun y hy => ?_) (by rw [List.length_append, List.length_append]; show _ + 1 + _ ≤ 100; omega) (.inl fun h => ?_)
      · rcases List.mem_append.mp hy with hy | hy
        · rcases List.mem_append.mp hy with hy | hy
          · exact hT y (List.mem_of_mem_take hy)
          · rw [List.mem_singleton.mp hy]; exact o6
        · exact hT y (List.mem_of_mem_drop hy)
      · have := h.2.2
        rw [all_isI_set o2.no] at this
        cases this
    · intro rest
      walk_at "x"
      refine ite2 (fun _ => ?_) (fun _ => ?_)
      · rcases hlo with rfl | rfl
        · walk_at "x"
          refine iteF ?_
          exact x_next (rest _ _ ⟨rfl, rfl⟩)
        · walk_at "x"
          refine iteT ?_
          walk_at "x"
          refine x_slL hS fun p1 n1 => ?_
          rw [cut_to]
          have w1 := w.new (o := .lst ((ns.map V.int).take i)) n1
          walk_at "x"
          refine x_divP (by decide) (by decide) ?_
          refine ⟨_, rfl, by omega, fun z H2 z0 s2 => ?_⟩
          have w2 := w1.ext s2
          walk_at "x"
          refine ⟨(by show 1 ≤ sizeLine; decide), fun p3 n3 => ?_⟩
          have w3 := w2.new (o := .lst [.int (0 - 1 - z)]) n3
          have ltake : ((ns.map V.int).take i).length ≤ 6 := by rw [List.length_take, List.length_map]; omega
          refine x_addL (.inl (w3.get 1 rfl)) (.inl (w3.get 0 rfl)) (Nat.le_trans (show _ + 1 ≤ 65 by omega) (by decide)) fun p4 n4 => ?_
          have w4 := w3.new (o := .lst ((ns.map V.int).take i ++ [.int (0 - 1 - z)])) n4
          walk_at "x"
          refine x_slL (w4.seq hS) fun p5 n5 => ?_
          rw [show (i : Int) + 1 = ((i + 1 : Nat) : Int) from rfl, cut_from]
          have w5 := w4.new (o := .lst ((ns.map V.int).drop (i + 1))) n5
          have ldrop : ((ns.map V.int).drop (i + 1)).length ≤ 6 := by rw [List.length_drop, List.length_map]; omega
          refine x_addL (.inl (w5.get 1 rfl)) (.inl (w5.get 0 rfl)) (by rw [List.length_append]; exact Nat.le_trans (show _ + 1 + _ ≤ 129 by omega) (by decide)) fun p6 n6 => ?_
          have w6 := w5.new (o := .lst ((ns.map V.int).take i ++ [.int (0 - 1 - z)] ++ (ns.map V.int).drop (i + 1))) n6
          have e : (ns.map V.int).take i ++ [.int (0 - 1 - z)] ++ (ns.map V.int).drop (i + 1) = (ns.take i ++ [0 - 1 - z] ++ ns.drop (i + 1)).map V.int := by
            rw [List.map_append, List.map_append, List.map_take, List.map_drop] <;> rfl
          refine k p6 _ _ w6.ex (w6.get 0 rfl) (fun y hy => ?_) (by rw [List.length_append, List.length_append]; show _ + 1 + _ ≤ 100; omega) (.inr ⟨rfl, _, e, 0 - 1 - z, by simp, by omega⟩)
          rw [e] at hy
          obtain ⟨u, _, rfl⟩ := List.mem_map.mp hy
          exact .int u
      · exact x_next (rest _ _ ⟨rfl, rfl⟩)

/-! ### _law_table_off -/
def sp__law_table_off (K : PySem.W.Frag) : Sp := fun vs H Q _ => ∃ (a : Addr) (ns : List Int) (m : Nat) (c : Int), vs = [.ref a, .int c] ∧ H a = some (.lst (ns.map V.int)) ∧ Tab ns m ∧ 0 ≤ c ∧
  ∀ p xs H', Same H H' → H' p = some (.lst xs) → (∀ y ∈ xs, Thing H' y) → lookM xs = none → Q (.ref p) H'
theorem no_pow : ∀ m, m < 7 → ∀ k, k < 7 → (decide (k = 0) || decide (m = 0) || (2 ^ m - 1 != 2 ^ k && 2 ^ m + 1 != 2 ^ k && 0 != 2 ^ k && 128 != 2 ^ k)) = true := by decide
theorem no_pow2 {m k : Nat} (h1 : 1 ≤ m) (h6 : m ≤ 6) (k1 : 1 ≤ k) (k6 : k ≤ 6) : 2 ^ m - 1 ≠ 2 ^ k ∧ 2 ^ m + 1 ≠ 2 ^ k ∧ 0 ≠ 2 ^ k ∧ 128 ≠ 2 ^ k := by
  have h := no_pow m (by omega) k (by omega)
  rw [decide_eq_false (by omega), decide_eq_false (by omega), Bool.false_or, Bool.false_or] at h
  simp only [Bool.and_eq_true, bne_iff_ne] at h
  exact ⟨h.1.1.1, h.1.1.2, h.1.2, h.2⟩
theorem ok__law_table_off (T : Txt K mg A) : FnOk P w K mg base (L2.CX P w) 2 A.a__law_table_off A.d__law_table_off ["_law_row", "_law_number"] (sp__law_table_off K) := by
  refine T.F__law_table_off.okX sc__law_table_off (fun vs H Q E h => ?_) (fun cdv A0 outer s H vs Q E hr h => ?_)
  · obtain ⟨a, ns, m, c, rfl, _⟩ := h; rfl
  · obtain ⟨a, ns, m, c, rfl, eS, tb, c0, k⟩ := h
    refine ⟨_, (pss_cons (ps_set (i := 2) sc__law_table_off.nd rfl (.inl rfl) (pe_op op_modX (pe_op op_fdivX (pv 1) pe_int) (pe_callB (call_lenK (K := K) rfl) (by rfl) T.z_len (by decide +kernel) (pa_cons (pv 0) pa_nil))))
      (pss_cons (ps_set (i := 3) sc__law_table_off.nd rfl (.inl rfl) (pe_op op_modX (pv 1) pe_int))
      (pss_cons (ps_if (pt_cmpR (op_eqK (K := K) rfl hr.units) (pv 3) pe_int (nomark _)) (pss_one (ps_ret (pe_slice (sl_listK (K := K) rfl) (pv 0) po_none (po_some (pe_un un_neg pe_int))))) pss_nil)
      (pss_cons (ps_if (pt_cmpR (op_eqK (K := K) rfl hr.units) (pv 3) pe_int (nomark _)) (pss_one (ps_ret (pe_op op_addX (pv 0) (pe_lst (pa_cons (pv 1) pa_nil))))) pss_nil)
      (pss_cons (ps_if (pt_cmpR (op_eqK (K := K) rfl hr.units) (pv 3) pe_int (nomark _)) (pss_one (ps_ret (pe_op op_addX (pe_lst (pa_cons (pe_op op_addX pe_int (pe_op op_fdivX (pv 1) pe_int)) pa_nil)) (pe_slice (sl_listK (K := K) rfl) (pv 0) (po_some pe_int) po_none)))) pss_nil)
      (pss_cons (ps_if (PW.pt (pw_and (pt_cmpR (op_eqK (K := K) rfl hr.units) (pv 3) pe_int (nomark _)) (pw_and1 (pt_cmpR (op_eqK (K := K) rfl hr.units) (pe_callB (call_lenK (K := K) rfl) (by rfl) T.z_len (by decide +kernel) (pa_cons (pv 0) pa_nil)) pe_int (nomark _))))) (pss_one (ps_ret (pe_op op_addX (pv 0) (pv 0)))) pss_nil)
      (pss_one (ps_ret (pe_op op_addX (pe_op op_addX (pe_slice (sl_listK (K := K) rfl) (pv 0) po_none (po_some (pv 2))) (pe_lst (pa_cons (pe_call (ok__law_odd T) (hr.mono (by decide)) (by rfl) T.g__law_odd T.F__law_odd.kp T.b__law_odd .nil (passes_call (takes_of rfl rfl rfl rfl) (fun _ _ _ _ h => h)) (pa_cons (pe_op op_fdivX (pv 1) pe_int) pa_nil)) pa_nil))) (pe_slice (sl_listK (K := K) rfl) (pv 0) (po_some (pe_op op_addX (pv 2) pe_int)) po_none)))))))))), ?_⟩
    rw [show L2.start N__law_table_off [V.ref a, V.int c] = [some (.ref a), some (.int c), none, none] from rfl]
    have hS : SqL K H a (ns.map V.int) := SqL.of eS
    have w := (Own.start (H := H))
    have hp := tb.pos
    have ht := tb.len
    have np := fun k (k1 : 1 ≤ k) k6 => no_pow2 tb.lo tb.hi k1 k6
    have hT : ∀ {H' : Hp} (y : V), y ∈ ns.map V.int → Thing H' y := fun y hy => by
      obtain ⟨z, _, rfl⟩ := List.mem_map.mp hy
      exact .int z
    walk_at "x"
    refine x_divP (by decide) (by decide) ?_
    walk_at "x"
    refine x_lenL hS ?_
    rw [List.length_map]
    refine x_modP (by omega) ?_
    obtain ⟨i, hi⟩ := Int.eq_ofNat_of_zero_le (Int.emod_nonneg (c / 8) (show (ns.length : Int) ≠ 0 by omega))
    have hil : i < ns.length := by have := Int.emod_lt_of_pos (c / 8) (show (0 : Int) < ns.length by omega); omega
    rw [hi]
    walk_at "x"
    refine x_modP (by decide) ?_
    have y0 := Int.emod_nonneg c (show (8 : Int) ≠ 0 by decide)
    generalize c % 8 = y at y0 ⊢
    walk_at "x"
    refine ite2 (fun _ => ?_) (fun c0' => x_next ?_)
    · walk_at "x"
      refine x_slL hS fun p n => ?_
      rw [cut_m1]
      have w1 := w.new (o := .lst ((ns.map V.int).take ((ns.map V.int).length - 1))) n
      refine k p _ _ w1.ex (w1.get 0 rfl) (fun y hy => hT y (List.mem_of_mem_take hy)) (look_len fun k k1 k6 => ?_)
      rw [List.length_take, List.length_map, ht]
      have := (np k k1 k6).1
      omega
    walk_at "x"
    refine ite2 (fun _ => ?_) (fun c1' => x_next ?_)
    · walk_at "x"
      refine ⟨(by show 1 ≤ sizeLine; decide), fun p n => ?_⟩
      have w1 := w.new (o := .lst [.int c]) n
      refine x_addL (.inl (w1.ex _ _ eS)) (.inl (w1.get 0 rfl)) (by rw [List.length_map]; exact Nat.le_trans (show ns.length + 1 ≤ 65 by omega) (by decide)) fun p2 n2 => ?_
      have w2 := w1.new (o := .lst (ns.map V.int ++ [.int c])) n2
      refine k p2 _ _ w2.ex (w2.get 0 rfl) (fun y hy => ?_) (look_len fun k k1 k6 => ?_)
      · rcases List.mem_append.mp hy with hy | hy
        · exact hT y hy
        · rw [List.mem_singleton.mp hy]; exact .int _
      · rw [List.length_append, List.length_map, ht]
        exact (np k k1 k6).2.1
    walk_at "x"
    refine ite2 (fun _ => ?_) (fun c2' => x_next ?_)
    · walk_at "x"
      refine x_divP (by decide) (by decide) ?_
      walk_at "x"
      refine ⟨(by show 1 ≤ sizeLine; decide), fun p n => ?_⟩
      have w1 := w.new (o := .lst [.int (1 + c / 8)]) n
      walk_at "x"
      refine x_slL (w1.seq hS) fun p2 n2 => ?_
      rw [show (1 : Int) = ((1 : Nat) : Int) from rfl, cut_from]
      have w2 := w1.new (o := .lst ((ns.map V.int).drop 1)) n2
      refine x_addL (.inl (w2.get 1 rfl)) (.inl (w2.get 0 rfl)) (by rw [List.length_drop, List.length_map]; exact Nat.le_trans (show 1 + (ns.length - 1) ≤ 65 by omega) (by decide)) fun p3 n3 => ?_
      have w3 := w2.new (o := .lst ([.int (1 + c / 8)] ++ (ns.map V.int).drop 1)) n3
      refine k p3 _ _ w3.ex (w3.get 0 rfl) (fun y hy => ?_) (look_first (z := 1 + c / 8) rfl (by omega))
      rcases List.mem_append.mp hy with hy | hy
      · rw [List.mem_singleton.mp hy]; exact .int _
      · exact hT y (List.mem_of_mem_drop hy)
    dsimp only
    refine x_seqJ (fun σ' H' => σ' = [some (.ref a), some (.int c), some (.int (i : Int)), some (.int y)] ∧ H' = H) ?_ ?_
    · rintro σ' H' ⟨rfl, rfl⟩
      walk_at "x"
      refine x_slL hS fun p1 n1 => ?_
      rw [cut_to]
      have w1 := w.new (o := .lst ((ns.map V.int).take i)) n1
      walk_at "x"
      refine x_divP (by decide) (by decide) ?_
      refine ⟨_, rfl, fun v H2 s2 o2 => ?_⟩
      have w2 := w1.ext s2
      walk_at "x"
      refine ⟨(by show 1 ≤ sizeLine; decide), fun p3 n3 => ?_⟩
      have w3 := w2.new (o := .lst [v]) n3
      have o3 := o2.th.same (same_upd (o := .lst [v]) n3)
      have ltake : ((ns.map V.int).take i).length ≤ 64 := by rw [List.length_take, List.length_map]; omega
      refine x_addL (.inl (w3.get 1 rfl)) (.inl (w3.get 0 rfl)) (Nat.le_trans (show _ + 1 ≤ 65 by omega) (by decide)) fun p4 n4 => ?_
      have w4 := w3.new (o := .lst ((ns.map V.int).take i ++ [v])) n4
      have o4 := o3.same (same_upd (o := .lst ((ns.map V.int).take i ++ [v])) n4)
      walk_at "x"
      refine x_slL (w4.seq hS) fun p5 n5 => ?_
      rw [show (i : Int) + 1 = ((i + 1 : Nat) : Int) from rfl, cut_from]
      have w5 := w4.new (o := .lst ((ns.map V.int).drop (i + 1))) n5
      have o5 := o4.same (same_upd (o := .lst ((ns.map V.int).drop (i + 1))) n5)
      have ldrop : ((ns.map V.int).drop (i + 1)).length ≤ 64 := by rw [List.length_drop, List.length_map]; omega
      refine x_addL (.inl (w5.get 1 rfl)) (.inl (w5.get 0 rfl)) (by rw [List.length_append]; exact Nat.le_trans (show _ + 1 + _ ≤ 129 by omega) (by decide)) fun p6 n6 => ?_
      have w6 := w5.new (o := .lst ((ns.map V.int).take i ++ [v] ++ (ns.map V.int).drop (i + 1))) n6
      have o6 := o5.same (same_upd (o := .lst ((ns.map V.int).take i ++ [v] ++ (ns.map V.int).drop (i + 1))) n6)
      refine k p6 _ _ w6.ex (w6.get 0 rfl) (fun y hy => ?_) (look_odd (v := v) (List.mem_append.mpr (.inl (List.mem_append.mpr (.inr (.head _))))) o2.no)
      rcases List.mem_append.mp hy with hy | hy
      · rcases List.mem_append.mp hy with hy | hy
        · exact hT y (List.mem_of_mem_take hy)
        · rw [List.mem_singleton.mp hy]; exact o6
      · exact hT y (List.mem_of_mem_drop hy)
    · intro rest
      walk_at "x"
      refine ite2 (fun _ => ?_) (fun _ => x_next (rest _ _ ⟨rfl, rfl⟩))
      walk_at "x"
      refine x_lenL hS ?_
      rw [List.length_map]
      walk_at "x"
      refine ite2 (fun h64 => ?_) (fun _ => x_next (rest _ _ ⟨rfl, rfl⟩))
      have h64 := of_decide_eq_true h64
      walk_at "x"
      refine x_addL (.inl eS) (.inl eS) (by rw [List.length_map]; exact Nat.le_trans (show ns.length + ns.length ≤ 129 by omega) (by decide)) fun p1 n1 => ?_
      have w1 := w.new (o := .lst (ns.map V.int ++ ns.map V.int)) n1
      refine k p1 _ _ w1.ex (w1.get 0 rfl) (fun y hy => ?_) (look_len fun k k1 k6 => ?_)
      · rcases List.mem_append.mp hy with hy | hy
        · exact hT y hy
        · exact hT y hy
      · rw [List.length_append, List.length_map, show ns.length + ns.length = 128 by omega]
        exact (np k k1 k6).2.2.2

/-! ### _law_pair_off -/
def sp__law_pair_off (K : PySem.W.Frag) : Sp := fun vs H Q _ => ∃ (m : Nat) (c : Int) (lo : V), vs = [.int (m : Int), .int c, lo] ∧ 1 ≤ m ∧ m ≤ 6 ∧ 0 ≤ c ∧ (lo = .non ∨ lo = .int 0) ∧
  ∀ t ys H', Same H H' → H' t = some (.tup ys) → (∀ y ∈ ys, Thing H' y) → (∀ f, ys = trV f → PairOk m f → lo = .int 0 ∧ f.2.2 < 0) → Q (.ref t) H'
theorem ok__law_pair_off (T : Txt K mg A) : FnOk P w K mg base (L2.CX P w) 2 A.a__law_pair_off A.d__law_pair_off ["_law_many", "_law_number", "_law_low"] (sp__law_pair_off K) := by
  refine T.F__law_pair_off.okX sc__law_pair_off (fun vs H Q E h => ?_) (fun cdv A0 outer s H vs Q E hr h => ?_)
  · obtain ⟨m, c, lo, rfl, _⟩ := h; rfl
  · obtain ⟨m, c, lo, rfl, m1, m6, c0, hlo, k⟩ := h
    refine ⟨_, (pss_cons (ps_set (i := 3) sc__law_pair_off.nd rfl (.inl rfl) (pe_lst (pa_cons pe_int (pa_cons (pe_callB (call_max2X rfl) (by rfl) T.z_max (by decide +kernel) (pa_cons pe_int (pa_cons (pe_op op_subX (pv 0) pe_int) pa_nil))) (pa_cons (pe_op op_addX pe_int (pe_op op_modX (pv 1) (pe_op op_powX pe_int pe_int))) pa_nil)))))
      (pss_cons (ps_set (i := 4) sc__law_pair_off.nd rfl (.inl rfl) (pe_call (ok__law_far T) (hr.mono (by decide)) (by rfl) T.g__law_far T.F__law_far.kp T.b__law_far .nil (passes_call (takes_of rfl rfl rfl rfl) (fun _ _ _ _ h => h)) (pa_cons (pe_op op_fdivX (pv 1) pe_int) pa_nil)))
      (pss_cons (ps_set (i := 5) sc__law_pair_off.nd rfl (.inl rfl) (pe_op op_modX (pv 1) pe_int))
      (pss_cons (ps_if (pt_cmpR op_ltX (pv 5) pe_int (nomark _)) (pss_one (ps_asg (pe_call (ok__law_odd T) (hr.mono (by decide)) (by rfl) T.g__law_odd T.F__law_odd.kp T.b__law_odd .nil (passes_call (takes_of rfl rfl rfl rfl) (fun _ _ _ _ h => h)) (pa_cons (pe_op op_fdivX (pv 1) pe_int) pa_nil)) (pg_sub (pv 3) (pv 5) set_list))) pss_nil)
      (pss_cons (ps_if (pt_cmpR (op_eqK (K := K) rfl hr.units) (pv 5) pe_int (nomark _)) (pss_one (ps_asg (pe_op op_subX (pe_op op_subX pe_int pe_int) (pv 4)) (pg_sub (pv 3) pe_int set_list))) pss_nil)
      (pss_cons (ps_if (pt_cmpR (op_eqK (K := K) rfl hr.units) (pv 5) pe_int (nomark _)) (pss_one (ps_asg (pe_op op_addX (pv 0) (pv 4)) (pg_sub (pv 3) pe_int set_list))) pss_nil)
      (pss_cons (ps_if (pt_cmpR (op_eqK (K := K) rfl hr.units) (pv 5) pe_int (nomark _)) (pss_one (ps_asg (pe_ix (ix_seqK (K := K) rfl) (pv 3) (pe_op op_modX (pe_op op_fdivX (pv 1) pe_int) pe_int) (fun _ _ => rfl)) (pg_sub (pv 3) (pe_op op_subX pe_int (pe_op op_modX (pe_op op_fdivX (pv 1) pe_int) pe_int)) set_list))) pss_nil)
      (pss_cons (ps_if (pt_cmpR (op_eqK (K := K) rfl hr.units) (pv 5) pe_int (nomark _)) (pss_one (ps_set (i := 3) sc__law_pair_off.nd rfl (.inl rfl) (pe_lst (pa_cons (pe_ix (ix_seqK (K := K) rfl) (pv 3) pe_int (fun _ _ => rfl)) (pa_cons (pe_ix (ix_seqK (K := K) rfl) (pv 3) pe_int (fun _ _ => rfl)) (pa_cons (pe_ix (ix_seqK (K := K) rfl) (pv 3) pe_int (fun _ _ => rfl)) pa_nil)))))) pss_nil)
      (pss_cons (ps_if (pt_cmpR (op_eqK (K := K) rfl hr.units) (pv 5) pe_int (nomark _)) (pss_one (ps_set (i := 3) sc__law_pair_off.nd rfl (.inl rfl) (pe_slice (sl_listK (K := K) rfl) (pv 3) po_none (po_some pe_int)))) pss_nil)
      (pss_cons (ps_if (PW.pt (pw_and (pt_cmpR (op_eqK (K := K) rfl hr.units) (pv 5) pe_int (nomark _)) (pw_and1 (PW.pt (pw_or (pt_cmpR op_isNX (pv 2) pe_non (nomark _)) (pw_or1 (pt_cmpR (op_eqK (K := K) rfl hr.units) (pe_op op_modX (pe_op op_fdivX (pv 1) pe_int) pe_int) pe_int (nomark _)))))))) (pss_one (ps_expr (pe_bm PySem.F.plainAttrs_list PySem.F.slot_list_append PySem.F.type_list_append mt_append (pv 3) (pa_cons pe_int pa_nil)))) (pss_one (ps_if (pt_cmpR (op_eqK (K := K) rfl hr.units) (pv 5) pe_int (nomark _)) (pss_one (ps_asg (pe_op op_subX (pe_op op_subX (pv 2) pe_int) (pv 4)) (pg_sub (pv 3) pe_int set_list))) pss_nil)))
      (pss_one (ps_ret (pe_callTy call_tuple_of (by rfl) T.z_tuple (by decide +kernel) (pa_cons (pv 3) pa_nil)))))))))))))), ?_⟩
    rw [show L2.start N__law_pair_off [V.int (m : Int), V.int c, lo] = [some (.int (m : Int)), some (.int c), some lo, none, none, none] from rfl]
    walk_at "x"
    obtain ⟨M, hM, hM1⟩ : ∃ M : Int, (if (m : Int) - 1 > 1 then (m : Int) - 1 else 1) = M ∧ 1 ≤ M := ⟨_, rfl, by split <;> omega⟩
    rw [hM]
    refine x_powN ⟨by decide, by decide, by decide⟩ ?_
    rw [show (10 : Int) ^ (6 : Int).toNat = 1000000 by decide]
    refine x_modP (by decide) ?_
    walk_at "x"
    generalize 4 + c % 1000000 = N
    refine ⟨(by show 3 ≤ sizeLine; decide), fun p n => ?_⟩
    have w1 := (Own.start (H := H)).new (o := .lst [.int 0, .int M, .int N]) n
    walk_at "x"
    refine x_divP (by decide) (by decide) ?_
    refine ⟨c / 18, rfl, by omega, fun z H2 z0 s2 => ?_⟩
    have w2 := w1.ext s2
    walk_at "x"
    refine x_modP (by decide) ?_
    obtain ⟨y, hy⟩ := Int.eq_ofNat_of_zero_le (Int.emod_nonneg c (show (9 : Int) ≠ 0 by decide))
    have hy9 : y < 9 := by have := Int.emod_lt_of_pos c (show (0 : Int) < 9 by decide); omega
    rw [hy]
    have fin : ∀ (q : Addr) (xs : List V) (H' : Hp), Same H H' → H' q = some (.lst xs) → (∀ v ∈ xs, Thing H' v) → (∀ f, xs = trV f → PairOk m f → lo = .int 0 ∧ f.2.2 < 0) → ∃ r zs, [V.ref q] = [.ref r] ∧ ((SqL K H' r zs ∧ ∀ l, H' l = none → Q (.ref l) (upd H' l (.tup zs))) ∨ (SqT K H' r zs ∧ Q (.ref r) H')) := fun q xs H' sH e ht hb => ⟨q, xs, rfl, .inl ⟨SqL.of e, fun l nl =>
      k l xs _ (sH.trans (same_upd nl)) upd_same (fun v hv => (ht v hv).same (same_upd nl)) hb⟩⟩
    have hk : y = 0 ∨ y = 1 ∨ y = 2 ∨ y = 3 ∨ y = 4 ∨ y = 5 ∨ y = 6 ∨ y = 7 ∨ y = 8 := by omega
    rcases hk with rfl | rfl | rfl | rfl | rfl | rfl | rfl | rfl | rfl
    · walk_at "x"
      refine iteT ?_
      walk_at "x"
      refine x_divP (by decide) (by decide) ?_
      refine ⟨_, rfl, fun v H3 s3 o3 => ?_⟩
      have w3 := w2.ext s3
      walk_at "x"
      refine x_setL (k := 0) (j := 0) (w3.get 0 rfl) rfl ?_
      have nv : v ≠ .ref p := fun e => by
        have := o3.fr p e
        rw [w2.get 0 rfl] at this
        cases this
      have w4 := w3.put (o' := .lst [v, .int M, .int N]) 0 rfl
      have tv : Thing (upd H3 p (.lst [v, .int M, .int N])) v := thing_upd o3.th nv
      walk_at "x"
      repeat (refine iteF ?_; walk_at "x")
      refine fin p [v, .int M, .int N] _ w4.ex (w4.get 0 rfl) (fun u hu => ?_) (fun f e _ => ?_)
      · simp only [List.mem_cons, List.not_mem_nil, or_false] at hu
        rcases hu with rfl | rfl | rfl
        · exact tv
        · exact .int _
        · exact .int _
      · obtain ⟨e1, e2, e3⟩ := trV_fst e
        rw [e1] at o3
        have h0 := o3.no
        cases h0
    · walk_at "x"
      refine iteT ?_
      walk_at "x"
      refine x_divP (by decide) (by decide) ?_
      refine ⟨_, rfl, fun v H3 s3 o3 => ?_⟩
      have w3 := w2.ext s3
      walk_at "x"
      refine x_setL (k := 1) (j := 1) (w3.get 0 rfl) rfl ?_
      have nv : v ≠ .ref p := fun e => by
        have := o3.fr p e
        rw [w2.get 0 rfl] at this
        cases this
      have w4 := w3.put (o' := .lst [.int 0, v, .int N]) 0 rfl
      have tv : Thing (upd H3 p (.lst [.int 0, v, .int N])) v := thing_upd o3.th nv
      walk_at "x"
      repeat (refine iteF ?_; walk_at "x")
      refine fin p [.int 0, v, .int N] _ w4.ex (w4.get 0 rfl) (fun u hu => ?_) (fun f e _ => ?_)
      · simp only [List.mem_cons, List.not_mem_nil, or_false] at hu
        rcases hu with rfl | rfl | rfl
        · exact .int _
        · exact tv
        · exact .int _
      · obtain ⟨e1, e2, e3⟩ := trV_fst e
        rw [e2] at o3
        have h0 := o3.no
        cases h0
    · walk_at "x"
      refine iteT ?_
      walk_at "x"
      refine x_divP (by decide) (by decide) ?_
      refine ⟨_, rfl, fun v H3 s3 o3 => ?_⟩
      have w3 := w2.ext s3
      walk_at "x"
      refine x_setL (k := 2) (j := 2) (w3.get 0 rfl) rfl ?_
      have nv : v ≠ .ref p := fun e => by
        have := o3.fr p e
        rw [w2.get 0 rfl] at this
        cases this
      have w4 := w3.put (o' := .lst [.int 0, .int M, v]) 0 rfl
      have tv : Thing (upd H3 p (.lst [.int 0, .int M, v])) v := thing_upd o3.th nv
      walk_at "x"
      repeat (refine iteF ?_; walk_at "x")
      refine fin p [.int 0, .int M, v] _ w4.ex (w4.get 0 rfl) (fun u hu => ?_) (fun f e _ => ?_)
      · simp only [List.mem_cons, List.not_mem_nil, or_false] at hu
        rcases hu with rfl | rfl | rfl
        · exact .int _
        · exact .int _
        · exact tv
      · obtain ⟨e1, e2, e3⟩ := trV_fst e
        rw [e3] at o3
        have h0 := o3.no
        cases h0
    · walk_at "x"
      repeat (refine iteF ?_; walk_at "x")
      refine iteT ?_
      walk_at "x"
      refine x_setL (k := 0) (j := 0) (w2.get 0 rfl) rfl ?_
      have w4 := w2.put (o' := .lst [.int (0 - 1 - z), .int M, .int N]) 0 rfl
      walk_at "x"
      repeat (refine iteF ?_; walk_at "x")
      refine fin p [.int (0 - 1 - z), .int M, .int N] _ w4.ex (w4.get 0 rfl) (fun u hu => ?_) (fun f e ok => ?_)
      · simp only [List.mem_cons, List.not_mem_nil, or_false] at hu
        rcases hu with rfl | rfl | rfl <;> exact .int _
      · obtain ⟨e1, e2, e3⟩ := trV_fst e
        have e1 := V.int.inj e1
        have e2 := V.int.inj e2
        have e3 := V.int.inj e3
        have o1 := ok.1
        have o2 := ok.2
        omega
    · walk_at "x"
      repeat (refine iteF ?_; walk_at "x")
      refine iteT ?_
      walk_at "x"
      refine x_setL (k := 1) (j := 1) (w2.get 0 rfl) rfl ?_
      have w4 := w2.put (o' := .lst [.int 0, .int ((m : Int) + z), .int N]) 0 rfl
      walk_at "x"
      repeat (refine iteF ?_; walk_at "x")
      refine fin p [.int 0, .int ((m : Int) + z), .int N] _ w4.ex (w4.get 0 rfl) (fun u hu => ?_) (fun f e ok => ?_)
      · simp only [List.mem_cons, List.not_mem_nil, or_false] at hu
        rcases hu with rfl | rfl | rfl <;> exact .int _
      · obtain ⟨e1, e2, e3⟩ := trV_fst e
        have e1 := V.int.inj e1
        have e2 := V.int.inj e2
        have e3 := V.int.inj e3
        have o1 := ok.1
        have o2 := ok.2
        omega
    · walk_at "x"
      repeat (refine iteF ?_; walk_at "x")
      refine iteT ?_
      walk_at "x"
      refine x_divP (by decide) (by decide) ?_
      walk_at "x"
      refine x_modP (by decide) ?_
      have hz : c / 9 % 2 = 0 ∨ c / 9 % 2 = 1 := by omega
      rcases hz with hz | hz <;> rw [hz]
      · refine x_ixXL (w2.sq 0 rfl) (v := .int 0) rfl ?_
        walk_at "x"
        refine x_divP (by decide) (by decide) ?_
        walk_at "x"
        refine x_modP (by decide) ?_
        rw [hz]
        walk_at "x"
        refine x_setL (k := 1) (j := 1) (w2.get 0 rfl) rfl ?_
        have w4 := w2.put (o' := .lst [.int 0, .int 0, .int N]) 0 rfl
        walk_at "x"
        repeat (refine iteF ?_; walk_at "x")
        refine fin p [.int 0, .int 0, .int N] _ w4.ex (w4.get 0 rfl) (fun u hu => ?_) (fun f e ok => ?_)
        · simp only [List.mem_cons, List.not_mem_nil, or_false] at hu
          rcases hu with rfl | rfl | rfl <;> exact .int _
        · obtain ⟨e1, e2, e3⟩ := trV_fst e
          have e1 := V.int.inj e1
          have e2 := V.int.inj e2
          have o1 := ok.1
          omega
      · refine x_ixXL (w2.sq 0 rfl) (v := .int M) rfl ?_
        walk_at "x"
        refine x_divP (by decide) (by decide) ?_
        walk_at "x"
        refine x_modP (by decide) ?_
        rw [hz]
        walk_at "x"
        refine x_setL (k := 0) (j := 0) (w2.get 0 rfl) rfl ?_
        have w4 := w2.put (o' := .lst [.int M, .int M, .int N]) 0 rfl
        walk_at "x"
        repeat (refine iteF ?_; walk_at "x")
        refine fin p [.int M, .int M, .int N] _ w4.ex (w4.get 0 rfl) (fun u hu => ?_) (fun f e ok => ?_)
        · simp only [List.mem_cons, List.not_mem_nil, or_false] at hu
          rcases hu with rfl | rfl | rfl <;> exact .int _
        · obtain ⟨e1, e2, e3⟩ := trV_fst e
          have e1 := V.int.inj e1
          have e2 := V.int.inj e2
          have o1 := ok.1
          omega
    · walk_at "x"
      repeat (refine iteF ?_; walk_at "x")
      refine iteT ?_
      walk_at "x"
      refine x_ixXL (w2.sq 0 rfl) (v := .int M) rfl ?_
      walk_at "x"
      refine x_ixXL (w2.sq 0 rfl) (v := .int 0) rfl ?_
      walk_at "x"
      refine x_ixXL (w2.sq 0 rfl) (v := .int N) rfl ?_
      walk_at "x"
      refine ⟨(by show 3 ≤ sizeLine; decide), fun p3 n3 => ?_⟩
      have w4 := w2.new (o := .lst [.int M, .int 0, .int N]) n3
      walk_at "x"
      repeat (refine iteF ?_; walk_at "x")
      refine fin p3 [.int M, .int 0, .int N] _ w4.ex (w4.get 0 rfl) (fun u hu => ?_) (fun f e ok => ?_)
      · simp only [List.mem_cons, List.not_mem_nil, or_false] at hu
        rcases hu with rfl | rfl | rfl <;> exact .int _
      · obtain ⟨e1, e2, e3⟩ := trV_fst e
        have e1 := V.int.inj e1
        have e2 := V.int.inj e2
        have o1 := ok.1
        omega
    · walk_at "x"
      repeat (refine iteF ?_; walk_at "x")
      refine iteT ?_
      walk_at "x"
      refine x_slL (w2.sq 0 rfl) fun p3 n3 => ?_
      rw [show (2 : Int) = ((2 : Nat) : Int) from rfl, cut_to]
      have w4 := w2.new (o := .lst [.int 0, .int M]) n3
      walk_at "x"
      repeat (refine iteF ?_; walk_at "x")
      refine fin p3 [.int 0, .int M] _ w4.ex (w4.get 0 rfl) (fun u hu => ?_) (fun f e ok => ?_)
      · simp only [List.mem_cons, List.not_mem_nil, or_false] at hu
        rcases hu with rfl | rfl <;> exact .int _
      · have := trV_len e
        cases this
    · have four : ∀ H', Own H [(p, .lst [.int 0, .int M, .int N, .int 1])] H' → ∃ r zs, [V.ref p] = [.ref r] ∧ ((SqL K H' r zs ∧ ∀ l, H' l = none → Q (.ref l) (upd H' l (.tup zs))) ∨ (SqT K H' r zs ∧ Q (.ref r) H')) := fun H' w4 => by
        refine fin p [.int 0, .int M, .int N, .int 1] _ w4.ex (w4.get 0 rfl) (fun u hu => ?_) (fun f e ok => ?_)
        · simp only [List.mem_cons, List.not_mem_nil, or_false] at hu
          rcases hu with rfl | rfl | rfl | rfl <;> exact .int _
        · have := trV_len e
          cases this
      walk_at "x"
      repeat (refine iteF ?_; walk_at "x")
      refine iteT ?_
      rcases hlo with rfl | rfl
      · walk_at "x"
        refine iteT ?_
        walk_at "x"
        refine iteT ?_
        walk_at "x"
        refine ⟨x_tyL (w2.get 0 rfl), ?_⟩
        walk_at "x"
        refine x_append (w2.get 0 rfl) (by show 3 < sizeLine; decide) ?_
        have w4 := w2.put (o' := .lst [.int 0, .int M, .int N, .int 1]) 0 rfl
        walk_at "x"
        exact four _ w4
      · walk_at "x"
        refine iteF ?_
        walk_at "x"
        refine x_divP (by decide) (by decide) ?_
        walk_at "x"
        refine x_modP (by decide) ?_
        walk_at "x"
        refine ite2 (fun _ => ?_) (fun _ => ?_)
        · walk_at "x"
          refine ⟨x_tyL (w2.get 0 rfl), ?_⟩
          walk_at "x"
          refine x_append (w2.get 0 rfl) (by show 3 < sizeLine; decide) ?_
          have w4 := w2.put (o' := .lst [.int 0, .int M, .int N, .int 1]) 0 rfl
          walk_at "x"
          exact four _ w4
        · walk_at "x"
          refine iteT ?_
          walk_at "x"
          refine x_setL (k := 2) (j := 2) (w2.get 0 rfl) rfl ?_
          have w4 := w2.put (o' := .lst [.int 0, .int M, .int (0 - 1 - z)]) 0 rfl
          walk_at "x"
          refine fin p [.int 0, .int M, .int (0 - 1 - z)] _ w4.ex (w4.get 0 rfl) (fun u hu => ?_) (fun f e ok => ⟨rfl, ?_⟩)
          · simp only [List.mem_cons, List.not_mem_nil, or_false] at hu
            rcases hu with rfl | rfl | rfl <;> exact .int _
          · obtain ⟨e1, e2, e3⟩ := trV_fst e
            have e3 := V.int.inj e3
            omega

/-! ### _law_pairs_off -/
def sp__law_pairs_off (K : PySem.W.Frag) : Sp := fun vs H Q _ => ∃ (a : Addr) (ts : List Addr) (fs : List Tr) (m : Nat) (c : Int) (lo : V), vs = [.int (m : Int), .ref a, .int c, lo] ∧ H a = some (.lst (ts.map V.ref)) ∧ TrAll H ts fs ∧ ts.length ≤ 15 ∧ 1 ≤ m ∧ m ≤ 6 ∧ 0 ≤ c ∧ (lo = .non ∨ lo = .int 0) ∧
  ∀ p us yss H', Same H H' → H' p = some (.lst (us.map V.ref)) → Tps H' us yss → us.length ≤ 100 → (∀ gs : List Tr, yss = gs.map trV → pairsOk m gs → lo = .int 0 ∧ ∃ f ∈ gs, f.2.2 < 0) → Q (.ref p) H'
theorem ok__law_pairs_off (T : Txt K mg A) : FnOk P w K mg base (L2.CX P w) 3 A.a__law_pairs_off A.d__law_pairs_off ["_law_many", "_law_pairs_here", "_law_number", "_law_low"] (sp__law_pairs_off K) := by
  refine T.F__law_pairs_off.okX sc__law_pairs_off (fun vs H Q E h => ?_) (fun cdv A0 outer s H vs Q E hr h => ?_)
  · obtain ⟨a, ts, fs, m, c, lo, rfl, _⟩ := h; rfl
  · obtain ⟨a, ts, fs, m, c, lo, rfl, eS, hA, h15, m1, m6, c0, hlo, k⟩ := h
    refine ⟨_, (pss_cons (ps_set (i := 4) sc__law_pairs_off.nd rfl (.inl rfl) (pe_op op_modX (pe_op op_fdivX (pv 2) pe_int) (pe_op op_addX (pe_callB (call_lenK (K := K) rfl) (by rfl) T.z_len (by decide +kernel) (pa_cons (pv 1) pa_nil)) pe_int)))
      (pss_cons (ps_set (i := 5) sc__law_pairs_off.nd rfl (.inl rfl) (pe_call (ok__law_pair_off T) (hr.mono (by decide)) (by rfl) T.g__law_pair_off T.F__law_pair_off.kp T.b__law_pair_off .nil (passes_call (takes_of rfl rfl rfl rfl) (fun _ _ _ _ h => h)) (pa_cons (pv 0) (pa_cons (pe_op op_fdivX (pv 2) pe_int) (pa_cons (pv 3) pa_nil)))))
      (pss_cons (ps_if (PW.pt (pw_and (pt_cmpR (op_eqK (K := K) rfl hr.units) (pe_op op_modX (pv 2) pe_int) pe_int (nomark _)) (pw_and1 (pt_cmpR (op_neK (K := K) rfl hr.units) (pv 1) (pe_lst pa_nil) (nomark _))))) (pss_cons (ps_set (i := 5) sc__law_pairs_off.nd rfl (.inl rfl) (pe_ix (ix_seqK (K := K) rfl) (pv 1) (pe_op op_modX (pe_op op_fdivX (pv 2) pe_int) (pe_callB (call_lenK (K := K) rfl) (by rfl) T.z_len (by decide +kernel) (pa_cons (pv 1) pa_nil))) (fun _ _ => rfl)))
      (pss_one (ps_set (i := 5) sc__law_pairs_off.nd rfl (.inl rfl) (pe_tup (pa_cons (pe_ix (ix_seqK (K := K) rfl) (pv 5) pe_int (fun _ _ => rfl)) (pa_cons (pe_ix (ix_seqK (K := K) rfl) (pv 5) pe_int (fun _ _ => rfl)) (pa_cons (pe_op op_addX (pe_ix (ix_seqK (K := K) rfl) (pv 5) pe_int (fun _ _ => rfl)) (pe_op op_modX (pv 2) pe_int)) pa_nil))))))) pss_nil)
      (pss_one (ps_ret (pe_op op_addX (pe_op op_addX (pe_slice (sl_listK (K := K) rfl) (pv 1) po_none (po_some (pv 4))) (pe_lst (pa_cons (pv 5) pa_nil))) (pe_slice (sl_listK (K := K) rfl) (pv 1) (po_some (pv 4)) po_none))))))), ?_⟩
    rw [show L2.start N__law_pairs_off [V.int (m : Int), V.ref a, V.int c, lo] = [some (.int (m : Int)), some (.ref a), some (.int c), some lo, none, none] from rfl]
    have hS : SqL K H a (ts.map V.ref) := SqL.of eS
    have w := (Own.start (H := H))
    have htl := hA.len
    walk_at "x"
    refine x_divP (by decide) (by decide) ?_
    walk_at "x"
    refine x_lenL hS ?_
    rw [List.length_map]
    walk_at "x"
    refine x_modP (by omega) ?_
    obtain ⟨e, he⟩ := Int.eq_ofNat_of_zero_le (Int.emod_nonneg (c / 5) (show ((ts.length : Int) + 1) ≠ 0 by omega))
    have hel : e ≤ ts.length := by have := Int.emod_lt_of_pos (c / 5) (show (0 : Int) < (ts.length : Int) + 1 by omega); omega
    rw [he]
    walk_at "x"
    refine x_divP (by decide) (by decide) ?_
    walk_at "x"
    refine ⟨m, c / 7, lo, rfl, m1, m6, by omega, hlo, fun t ys H1 s1 et ht hbad => ?_⟩
    have w1 := w.ext s1
    refine x_gn ?_
    dsimp only
    refine x_seqJ (fun σ' H' => ∃ t ys, σ' = [some (.int (m : Int)), some (.ref a), some (.int c), some lo, some (.int (e : Int)), some (.ref t)] ∧ Same H H' ∧ H' t = some (.tup ys) ∧ (∀ y ∈ ys, Thing H' y) ∧ ∀ gs : List Tr, (fs.take e).map trV ++ [ys] ++ (fs.drop e).map trV = gs.map trV → pairsOk m gs → lo = .int 0 ∧ ∃ f ∈ gs, f.2.2 < 0) ?_ ?_
    · rintro σ' H' ⟨t, ys, rfl, s, et, ht, hbad⟩
      have w2 := w.ext s
      walk_at "x"
      refine x_slL (w2.seq hS) fun p1 n1 => ?_
      rw [cut_to]
      have w3 := w2.new (o := .lst ((ts.map V.ref).take e)) n1
      walk_at "x"
      refine ⟨(by show 1 ≤ sizeLine; decide), fun p2 n2 => ?_⟩
      have w4 := w3.new (o := .lst [.ref t]) n2
      have ltake : ((ts.map V.ref).take e).length ≤ 15 := by rw [List.length_take, List.length_map]; omega
      refine x_addL (.inl (w4.get 1 rfl)) (.inl (w4.get 0 rfl)) (Nat.le_trans (show _ + 1 ≤ 65 by omega) (by decide)) fun p3 n3 => ?_
      have w5 := w4.new (o := .lst ((ts.map V.ref).take e ++ [.ref t])) n3
      walk_at "x"
      refine x_slL (w5.seq hS) fun p4 n4 => ?_
      rw [cut_from]
      have w6 := w5.new (o := .lst ((ts.map V.ref).drop e)) n4
      have ldrop : ((ts.map V.ref).drop e).length ≤ 15 := by rw [List.length_drop, List.length_map]; omega
      refine x_addL (.inl (w6.get 1 rfl)) (.inl (w6.get 0 rfl)) (by rw [List.length_append]; exact Nat.le_trans (show _ + 1 + _ ≤ 129 by omega) (by decide)) fun p5 n5 => ?_
      have w7 := w6.new (o := .lst ((ts.map V.ref).take e ++ [.ref t] ++ (ts.map V.ref).drop e)) n5
      have sA : Same H' _ := ((((same_upd (o := .lst ((ts.map V.ref).take e)) n1).trans (same_upd (o := .lst [.ref t]) n2)).trans (same_upd (o := .lst ((ts.map V.ref).take e ++ [.ref t])) n3)).trans (same_upd (o := .lst ((ts.map V.ref).drop e)) n4)).trans (same_upd (o := .lst ((ts.map V.ref).take e ++ [.ref t] ++ (ts.map V.ref).drop e)) n5)
      have ee : (ts.map V.ref).take e ++ [.ref t] ++ (ts.map V.ref).drop e = (ts.take e ++ [t] ++ ts.drop e).map V.ref := by rw [List.map_append, List.map_append, List.map_take, List.map_drop] <;> rfl
      have hA7 := hA.same w7.ex
      refine k p5 (ts.take e ++ [t] ++ ts.drop e) _ _ w7.ex (by rw [← ee]; exact w7.get 0 rfl) (((Tps.of (hA7.take e)).app (.cons ⟨sA _ _ et, fun y hy => (ht y hy).same sA⟩ .nil)).app (Tps.of (hA7.drop e))) ?_ hbad
      rw [List.length_append, List.length_append, List.length_take, List.length_drop]
      show _ + 1 + _ ≤ 100
      omega
    · intro rest
      have none : ∀ H', Same H1 H' → ∃ t ys, [some (V.int (m : Int)), some (.ref a), some (.int c), some lo, some (.int (e : Int)), some (.ref t)] = [some (V.int (m : Int)), some (.ref a), some (.int c), some lo, some (.int (e : Int)), some (.ref t)] ∧ Same H H' ∧ H' t = some (.tup ys) ∧ (∀ y ∈ ys, Thing H' y) ∧ ∀ gs : List Tr, (fs.take e).map trV ++ [ys] ++ (fs.drop e).map trV = gs.map trV → pairsOk m gs → lo = .int 0 ∧ ∃ f ∈ gs, f.2.2 < 0 := fun H' s' => ⟨t, ys, rfl, s1.trans s', s' _ _ et, fun y hy => (ht y hy).same s', fun gs hg ok => by
        obtain ⟨f, rfl, _, hf⟩ := amid_bad (m := m) hg
        obtain ⟨h1, h2⟩ := hbad f rfl (ok.1 f hf)
        exact ⟨h1, f, hf, h2⟩⟩
      walk_at "x"
      refine x_modP (by decide) ?_
      walk_at "x"
      have done : ∀ H', Same H1 H' → (fun σ' H' => ∃ t ys, σ' = [some (V.int (m : Int)), some (.ref a), some (.int c), some lo, some (.int (e : Int)), some (.ref t)] ∧ Same H H' ∧ H' t = some (.tup ys) ∧ (∀ y ∈ ys, Thing H' y) ∧ ∀ gs : List Tr, (fs.take e).map trV ++ [ys] ++ (fs.drop e).map trV = gs.map trV → pairsOk m gs → lo = .int 0 ∧ ∃ f ∈ gs, f.2.2 < 0) [some (V.int (m : Int)), some (.ref a), some (.int c), some lo, some (.int (e : Int)), some (.ref t)] H' := fun H' s' => ⟨t, ys, rfl, s1.trans s', s' _ _ et, fun y hy => (ht y hy).same s', fun gs hg ok => by
        obtain ⟨f, rfl, _, hf⟩ := amid_bad (m := m) hg
        obtain ⟨h1, h2⟩ := hbad f rfl (ok.1 f hf)
        exact ⟨h1, f, hf, h2⟩⟩
      refine ite2 (fun _ => ?_) (fun _ => x_next (rest _ _ (done _ (.refl _))))
      walk_at "x"
      refine ⟨(by show 0 ≤ sizeLine; decide), fun p2 n2 => ?_⟩
      have w2 := w1.new (o := .lst []) n2
      have hA2 := hA.same w2.ex
      refine x_neTr0 (w2.seq hS) hA2 (w2.sq 0 rfl) ?_
      walk_at "x"
      by_cases hf0 : fs = []
      · rw [decide_eq_true hf0]
        exact iteF (x_next (rest _ _ (done _ (same_upd n2))))
      rw [decide_eq_false hf0]
      refine iteT ?_
      have hfl : 0 < fs.length := List.length_pos_iff.mpr hf0
      walk_at "x"
      refine x_divP (by decide) (by decide) ?_
      walk_at "x"
      refine x_lenL (w2.seq hS) ?_
      rw [List.length_map]
      refine x_modP (by omega) ?_
      obtain ⟨j, hj⟩ := Int.eq_ofNat_of_zero_le (Int.emod_nonneg (c / 35) (show (ts.length : Int) ≠ 0 by omega))
      have hjl : j < ts.length := by have := Int.emod_lt_of_pos (c / 35) (show (0 : Int) < (ts.length : Int) by omega); omega
      rw [hj]
      obtain ⟨f, hf⟩ : ∃ f, fs[j]? = some f := ⟨_, List.getElem?_eq_getElem (by omega)⟩
      obtain ⟨t3, ht3, hT3⟩ := hA2.tup hf
      refine x_ixXL (w2.seq hS) (atI_nat (j := j) (v := .ref t3) (by rw [List.getElem?_map, ht3] <;> rfl)) ?_
      walk_at "x"
      refine x_ixXT (.inl (.inl hT3)) (v := .int (f.1 : Int)) rfl ?_
      walk_at "x"
      refine x_ixXT (.inl (.inl hT3)) (v := .int (f.2.1 : Int)) rfl ?_
      walk_at "x"
      refine x_ixXT (.inl (.inl hT3)) (v := .int f.2.2) rfl ?_
      walk_at "x"
      refine x_modP (by decide) ?_
      walk_at "x"
      refine ⟨(by show 3 ≤ sizeLine; decide), fun t4 n4 => ?_⟩
      have w4 := w2.new (o := .tup (trV (f.1, f.2.1, f.2.2 + c % 2))) n4
      refine x_next (rest _ _ ⟨t4, trV (f.1, f.2.1, f.2.2 + c % 2), rfl, w4.ex, w4.get 0 rfl, fun y hy => ?_, fun gs hg ok => ?_⟩)
      · simp only [trV, List.mem_cons, List.not_mem_nil, or_false] at hy
        rcases hy with rfl | rfl | rfl <;> exact .int _
      · exfalso
        obtain ⟨f2, e2, hp, _⟩ := amid_bad (m := m) hg
        obtain rfl := tr_same e2
        have nd := (hp.map trK).nodup_iff.mp ok.2
        rw [List.map_cons, List.nodup_cons] at nd
        exact nd.1 (List.mem_map.mpr ⟨f, List.mem_of_getElem? hf, rfl⟩)

/-! ### _law_votes_off -/
def sp__law_votes_off (K : PySem.W.Frag) : Sp := fun vs H Q _ => ∃ (p b : Addr) (q r : Int) (ns : List Int) (c : Int), vs = [.ref p, .int c] ∧ SqL K H p [.int q, .int r, .ref b] ∧ H b = some (.lst (ns.map V.int)) ∧ 1 ≤ ns.length ∧ ns.length ≤ 6 ∧ 0 ≤ c ∧
  ∀ p' ps H', Same H H' → H' p' = some (.lst ps) → Bad H' 2 ps → (∀ v ∈ ps, PartV H' v) → ps.length ≤ 3 → Q (.ref p') H'
theorem ok__law_votes_off (T : Txt K mg A) : FnOk P w K mg base (L2.CX P w) 3 A.a__law_votes_off A.d__law_votes_off ["_law_parts", "_law_number"] (sp__law_votes_off K) := by
  refine T.F__law_votes_off.okX sc__law_votes_off (fun vs H Q E h => ?_) (fun cdv A0 outer s H vs Q E hr h => ?_)
  · obtain ⟨p, b, q, r, ns, c, rfl, _⟩ := h; rfl
  · obtain ⟨p, b, q, r, ns, c, rfl, hS, eb, l1, l6, c0, k⟩ := h
    refine ⟨_, (pss_cons (ps_set (i := 2) sc__law_votes_off.nd rfl (.inl rfl) (pe_op op_modX (pv 1) pe_int))
      (pss_cons (ps_if (pt_cmpR (op_eqK (K := K) rfl hr.units) (pv 2) pe_int (nomark _)) (pss_one (ps_ret (pe_lst (pa_cons (pe_call (ok__law_odd T) (hr.mono (by decide)) (by rfl) T.g__law_odd T.F__law_odd.kp T.b__law_odd .nil (passes_call (takes_of rfl rfl rfl rfl) (fun _ _ _ _ h => h)) (pa_cons (pe_op op_fdivX (pv 1) pe_int) pa_nil)) (pa_cons (pe_ix (ix_seqK (K := K) rfl) (pv 0) pe_int (fun _ _ => rfl)) (pa_cons (pe_ix (ix_seqK (K := K) rfl) (pv 0) pe_int (fun _ _ => rfl)) pa_nil)))))) pss_nil)
      (pss_cons (ps_if (pt_cmpR (op_eqK (K := K) rfl hr.units) (pv 2) pe_int (nomark _)) (pss_one (ps_ret (pe_lst (pa_cons (pe_ix (ix_seqK (K := K) rfl) (pv 0) pe_int (fun _ _ => rfl)) (pa_cons (pe_call (ok__law_odd T) (hr.mono (by decide)) (by rfl) T.g__law_odd T.F__law_odd.kp T.b__law_odd .nil (passes_call (takes_of rfl rfl rfl rfl) (fun _ _ _ _ h => h)) (pa_cons (pe_op op_fdivX (pv 1) pe_int) pa_nil)) (pa_cons (pe_ix (ix_seqK (K := K) rfl) (pv 0) pe_int (fun _ _ => rfl)) pa_nil)))))) pss_nil)
      (pss_cons (ps_if (pt_cmpR (op_eqK (K := K) rfl hr.units) (pv 2) pe_int (nomark _)) (pss_one (ps_ret (pe_lst (pa_cons (pe_op op_subX pe_int (pe_call (ok__law_far T) (hr.mono (by decide)) (by rfl) T.g__law_far T.F__law_far.kp T.b__law_far .nil (passes_call (takes_of rfl rfl rfl rfl) (fun _ _ _ _ h => h)) (pa_cons (pe_op op_fdivX (pv 1) pe_int) pa_nil))) (pa_cons (pe_ix (ix_seqK (K := K) rfl) (pv 0) pe_int (fun _ _ => rfl)) (pa_cons (pe_ix (ix_seqK (K := K) rfl) (pv 0) pe_int (fun _ _ => rfl)) pa_nil)))))) pss_nil)
      (pss_one (ps_ret (pe_lst (pa_cons (pe_ix (ix_seqK (K := K) rfl) (pv 0) pe_int (fun _ _ => rfl)) (pa_cons (pe_ix (ix_seqK (K := K) rfl) (pv 0) pe_int (fun _ _ => rfl)) (pa_cons (pe_call (ok__law_list_off T) (hr.mono (by decide)) (by rfl) T.g__law_list_off T.F__law_list_off.kp T.b__law_list_off .nil (passes_call (takes_of rfl rfl rfl rfl) (fun _ _ _ _ h => h)) (pa_cons (pe_ix (ix_seqK (K := K) rfl) (pv 0) pe_int (fun _ _ => rfl)) (pa_cons (pe_op op_fdivX (pv 1) pe_int) (pa_cons pe_non pa_nil)))) pa_nil)))))))))), ?_⟩
    rw [show L2.start N__law_votes_off [V.ref p, V.int c] = [some (.ref p), some (.int c), none] from rfl]
    have w := (Own.start (H := H))
    have ti : ∀ {H' : Hp}, ∀ y ∈ ns.map V.int, Thing H' y := fun y hy => by
      obtain ⟨z, _, rfl⟩ := List.mem_map.mp hy
      exact .int z
    walk_at "x"
    refine x_modP (by decide) ?_
    walk_at "x"
    refine ite2 (fun _ => ?_) (fun _ => x_next ?_)
    · walk_at "x"
      refine x_divP (by decide) (by decide) ?_
      refine ⟨_, rfl, fun v H1 s1 o1 => ?_⟩
      have w1 := w.ext s1
      walk_at "x"
      refine x_ixXL (w1.seq hS) (v := .int r) rfl ?_
      walk_at "x"
      refine x_ixXL (w1.seq hS) (v := .ref b) rfl ?_
      walk_at "x"
      refine ⟨(by show 3 ≤ sizeLine; decide), fun p2 n2 => ?_⟩
      have w2 := w1.new (o := .lst [v, .int r, .ref b]) n2
      have s2 := same_upd (o := .lst [v, .int r, .ref b]) n2
      have eb2 := w2.ex _ _ eb
      refine k p2 _ _ w2.ex (w2.get 0 rfl) (.votes (o1.th.same s2) (.int _) eb2 ti fun ⟨_, _, _, _, qi, e, _⟩ => ?_) (fun u hu => ?_) (by show 3 ≤ 3; omega)
      · have := o1.no
        rw [e] at this
        cases this
      · simp only [List.mem_cons, List.not_mem_nil, or_false] at hu
        rcases hu with rfl | rfl | rfl
        · exact o1.pt.same s2
        · exact partV_int _
        · exact partV_lst eb2 flt_int
    walk_at "x"
    refine ite2 (fun _ => ?_) (fun _ => x_next ?_)
    · walk_at "x"
      refine x_ixXL hS (v := .int q) rfl ?_
      walk_at "x"
      refine x_divP (by decide) (by decide) ?_
      refine ⟨_, rfl, fun v H1 s1 o1 => ?_⟩
      have w1 := w.ext s1
      walk_at "x"
      refine x_ixXL (w1.seq hS) (v := .ref b) rfl ?_
      walk_at "x"
      refine ⟨(by show 3 ≤ sizeLine; decide), fun p2 n2 => ?_⟩
      have w2 := w1.new (o := .lst [.int q, v, .ref b]) n2
      have s2 := same_upd (o := .lst [.int q, v, .ref b]) n2
      have eb2 := w2.ex _ _ eb
      refine k p2 _ _ w2.ex (w2.get 0 rfl) (.votes (.int _) (o1.th.same s2) eb2 ti fun ⟨_, _, _, e, _⟩ => ?_) (fun u hu => ?_) (by show 3 ≤ 3; omega)
      · have := o1.no
        rw [e] at this
        cases this
      · simp only [List.mem_cons, List.not_mem_nil, or_false] at hu
        rcases hu with rfl | rfl | rfl
        · exact partV_int _
        · exact o1.pt.same s2
        · exact partV_lst eb2 flt_int
    walk_at "x"
    refine ite2 (fun _ => ?_) (fun _ => x_next ?_)
    · walk_at "x"
      refine x_divP (by decide) (by decide) ?_
      refine ⟨_, rfl, by omega, fun z H1 z0 s1 => ?_⟩
      have w1 := w.ext s1
      walk_at "x"
      refine x_ixXL (w1.seq hS) (v := .int r) rfl ?_
      walk_at "x"
      refine x_ixXL (w1.seq hS) (v := .ref b) rfl ?_
      walk_at "x"
      refine ⟨(by show 3 ≤ sizeLine; decide), fun p2 n2 => ?_⟩
      have w2 := w1.new (o := .lst [.int (0 - z), .int r, .ref b]) n2
      have eb2 := w2.ex _ _ eb
      refine k p2 _ _ w2.ex (w2.get 0 rfl) (.votes (.int _) (.int _) eb2 ti fun ⟨_, _, _, _, qi, e, g⟩ => ?_) (fun u hu => ?_) (by show 3 ≤ 3; omega)
      · have := V.int.inj e
        omega
      · simp only [List.mem_cons, List.not_mem_nil, or_false] at hu
        rcases hu with rfl | rfl | rfl
        · exact partV_int _
        · exact partV_int _
        · exact partV_lst eb2 flt_int
    walk_at "x"
    refine x_ixXL hS (v := .int q) rfl ?_
    walk_at "x"
    refine x_ixXL hS (v := .int r) rfl ?_
    walk_at "x"
    refine x_ixXL hS (v := .ref b) rfl ?_
    walk_at "x"
    refine x_divP (by decide) (by decide) ?_
    walk_at "x"
    refine ⟨b, ns, c / 4, .non, rfl, eb, l1, l6, by omega, .inl rfl, fun b2 xs H1 s1 e1 t1 hx bad => ?_⟩
    have w1 := w.ext s1
    refine ⟨(by show 3 ≤ sizeLine; decide), fun p2 n2 => ?_⟩
    have w2 := w1.new (o := .lst [.int q, .int r, .ref b2]) n2
    have s2 := same_upd (o := .lst [.int q, .int r, .ref b2]) n2
    refine k p2 _ _ w2.ex (w2.get 0 rfl) (.votes (.int _) (.int _) (s2 _ _ e1) (fun y hy => (t1 y hy).same s2) fun ⟨a1, a2, a3, _⟩ => ?_) (fun u hu => ?_) (by show 3 ≤ 3; omega)
    · rcases bad with bad | ⟨e, _⟩
      · exact bad ⟨a1, a2, a3⟩
      · cases e
    · simp only [List.mem_cons, List.not_mem_nil, or_false] at hu
      rcases hu with rfl | rfl | rfl
      · exact partV_int _
      · exact partV_int _
      · exact partV_lst (s2 _ _ e1) (flt_things fun y hy => (t1 y hy).same s2)

/-! ### _law_off -/
def sp__law_off (K : PySem.W.Frag) : Sp := fun vs H Q _ => ∃ (kd m : Nat) (p : Addr) (ps : List V) (r : RuleD) (c : Int), vs = [.int (kd : Int), .int (m : Int), .ref p, .int c] ∧ SqL K H p ps ∧ Good H m kd ps r ∧ 1 ≤ m ∧ m ≤ 6 ∧ 0 ≤ c ∧
  ∀ p' qs H', Same H H' → H' p' = some (.lst qs) → Bad H' kd qs → (∀ v ∈ qs, PartV H' v) → qs.length ≤ 3 → Q (.ref p') H'
theorem bad_two {H : Hp} {u v : V} (h1 : PartV H u) (h2 : PartV H v) : ∀ w ∈ [u, v], PartV H w := fun w hw => by
  simp only [List.mem_cons, List.not_mem_nil, or_false] at hw
  rcases hw with rfl | rfl
  · exact h1
  · exact h2
theorem bad_one {H : Hp} {u : V} (h1 : PartV H u) : ∀ w ∈ [u], PartV H w := fun w hw => by
  rw [List.mem_singleton.mp hw]; exact h1
theorem things_ints {H : Hp} {ns : List Int} : ∀ y ∈ ns.map V.int, Thing H y := fun y hy => by
  obtain ⟨z, _, rfl⟩ := List.mem_map.mp hy
  exact .int z
theorem ok__law_off (T : Txt K mg A) : FnOk P w K mg base (L2.CX P w) 4 A.a__law_off A.d__law_off ["_law_kind", "_law_many", "_law_parts", "_law_number"] (sp__law_off K) := by
  refine T.F__law_off.okX sc__law_off (fun vs H Q E h => ?_) (fun cdv A0 outer s H vs Q E hr h => ?_)
  · obtain ⟨kd, m, p, ps, r, c, rfl, _⟩ := h; rfl
  · obtain ⟨kd, m, p, ps, r, c, rfl, hS, hG, m1, m6, c0, k⟩ := h
    refine ⟨_, (pss_cons (ps_if (pt_cmpR (op_eqK (K := K) rfl hr.units) (pv 0) pe_int (nomark _)) (pss_one (ps_ret (pe_lst (pa_cons (pe_call (ok__law_many_off T) (hr.mono (by decide)) (by rfl) T.g__law_many_off T.F__law_many_off.kp T.b__law_many_off .nil (passes_call (takes_of rfl rfl rfl rfl) (fun _ _ _ _ h => h)) (pa_cons (pv 3) pa_nil)) pa_nil)))) pss_nil)
      (pss_cons (ps_if (pt_cmpR (op_eqK (K := K) rfl hr.units) (pv 0) pe_int (nomark _)) (pss_one (ps_ret (pe_lst (pa_cons (pe_call (ok__law_list_off T) (hr.mono (by decide)) (by rfl) T.g__law_list_off T.F__law_list_off.kp T.b__law_list_off .nil (passes_call (takes_of rfl rfl rfl rfl) (fun _ _ _ _ h => h)) (pa_cons (pe_ix (ix_seqK (K := K) rfl) (pv 2) pe_int (fun _ _ => rfl)) (pa_cons (pv 3) (pa_cons pe_non pa_nil)))) pa_nil)))) pss_nil)
      (pss_cons (ps_if (pt_cmpR (op_eqK (K := K) rfl hr.units) (pv 0) pe_int (nomark _)) (pss_one (ps_ret (pe_call (ok__law_votes_off T) (hr.mono (by decide)) (by rfl) T.g__law_votes_off T.F__law_votes_off.kp T.b__law_votes_off .nil (passes_call (takes_of rfl rfl rfl rfl) (fun _ _ _ _ h => h)) (pa_cons (pv 2) (pa_cons (pv 3) pa_nil))))) pss_nil)
      (pss_cons (ps_if (pt_cmpR (op_eqK (K := K) rfl hr.units) (pv 0) pe_int (nomark _)) (pss_one (ps_ret (pe_lst (pa_cons (pe_call (ok__law_table_off T) (hr.mono (by decide)) (by rfl) T.g__law_table_off T.F__law_table_off.kp T.b__law_table_off .nil (passes_call (takes_of rfl rfl rfl rfl) (fun _ _ _ _ h => h)) (pa_cons (pe_ix (ix_seqK (K := K) rfl) (pv 2) pe_int (fun _ _ => rfl)) (pa_cons (pv 3) pa_nil))) pa_nil)))) pss_nil)
      (pss_cons (ps_if (PW.pt (pw_and (pt_cmpR (op_eqK (K := K) rfl hr.units) (pv 0) pe_int (nomark _)) (pw_and1 (pt_cmpR (op_eqK (K := K) rfl hr.units) (pe_op op_modX (pv 3) pe_int) pe_int (nomark _))))) (pss_one (ps_ret (pe_lst (pa_cons (pe_call (ok__law_list_off T) (hr.mono (by decide)) (by rfl) T.g__law_list_off T.F__law_list_off.kp T.b__law_list_off .nil (passes_call (takes_of rfl rfl rfl rfl) (fun _ _ _ _ h => h)) (pa_cons (pe_ix (ix_seqK (K := K) rfl) (pv 2) pe_int (fun _ _ => rfl)) (pa_cons (pe_op op_fdivX (pv 3) pe_int) (pa_cons pe_int pa_nil)))) (pa_cons (pe_ix (ix_seqK (K := K) rfl) (pv 2) pe_int (fun _ _ => rfl)) pa_nil))))) pss_nil)
      (pss_cons (ps_if (pt_cmpR (op_eqK (K := K) rfl hr.units) (pv 0) pe_int (nomark _)) (pss_one (ps_ret (pe_lst (pa_cons (pe_ix (ix_seqK (K := K) rfl) (pv 2) pe_int (fun _ _ => rfl)) (pa_cons (pe_call (ok__law_pairs_off T) (hr.mono (by decide)) (by rfl) T.g__law_pairs_off T.F__law_pairs_off.kp T.b__law_pairs_off .nil (passes_call (takes_of rfl rfl rfl rfl) (fun _ _ _ _ h => h)) (pa_cons (pv 1) (pa_cons (pe_ix (ix_seqK (K := K) rfl) (pv 2) pe_int (fun _ _ => rfl)) (pa_cons (pe_op op_fdivX (pv 3) pe_int) (pa_cons pe_int pa_nil))))) pa_nil))))) pss_nil)
      (pss_cons (ps_if (pt_cmpR (op_eqK (K := K) rfl hr.units) (pe_op op_modX (pv 3) pe_int) pe_int (nomark _)) (pss_one (ps_ret (pe_lst (pa_cons (pe_call (ok__law_many_off T) (hr.mono (by decide)) (by rfl) T.g__law_many_off T.F__law_many_off.kp T.b__law_many_off .nil (passes_call (takes_of rfl rfl rfl rfl) (fun _ _ _ _ h => h)) (pa_cons (pe_op op_fdivX (pv 3) pe_int) pa_nil)) (pa_cons (pe_ix (ix_seqK (K := K) rfl) (pv 2) pe_int (fun _ _ => rfl)) pa_nil))))) pss_nil)
      (pss_one (ps_ret (pe_lst (pa_cons (pe_ix (ix_seqK (K := K) rfl) (pv 2) pe_int (fun _ _ => rfl)) (pa_cons (pe_call (ok__law_pairs_off T) (hr.mono (by decide)) (by rfl) T.g__law_pairs_off T.F__law_pairs_off.kp T.b__law_pairs_off .nil (passes_call (takes_of rfl rfl rfl rfl) (fun _ _ _ _ h => h)) (pa_cons (pv 1) (pa_cons (pe_ix (ix_seqK (K := K) rfl) (pv 2) pe_int (fun _ _ => rfl)) (pa_cons (pe_op op_fdivX (pv 3) pe_int) (pa_cons pe_non pa_nil))))) pa_nil)))))))))))), ?_⟩
    rw [show L2.start N__law_off [V.int (kd : Int), V.int (m : Int), V.ref p, V.int c] = [some (.int (kd : Int)), some (.int (m : Int)), some (.ref p), some (.int c)] from rfl]
    have w := (Own.start (H := H))
    cases hG with
    | rule =>
      walk_at "x"
      refine iteT ?_
      walk_at "x"
      refine ⟨c, rfl, c0, fun v H1 s1 t1 p1 h1 => ?_⟩
      have w1 := w.ext s1
      walk_at "x"
      refine ⟨(by show 1 ≤ sizeLine; decide), fun p2 n2 => ?_⟩
      have w2 := w1.new (o := .lst [v]) n2
      have s2 := same_upd (o := .lst [v]) n2
      exact k p2 _ _ w2.ex (w2.get 0 rfl) (.rule (t1.same s2) h1) (bad_one (p1.same s2)) (by show 1 ≤ 3; omega)
    | @own b ns e hl =>
      walk_at "x"
      repeat (refine iteF ?_; walk_at "x")
      refine iteT ?_
      walk_at "x"
      refine x_ixXL hS (v := .ref b) rfl ?_
      walk_at "x"
      refine ⟨b, ns, c, .non, rfl, e, by omega, by omega, c0, .inl rfl, fun b2 xs H1 s1 e1 t1 hx bad => ?_⟩
      have w1 := w.ext s1
      walk_at "x"
      refine ⟨(by show 1 ≤ sizeLine; decide), fun p2 n2 => ?_⟩
      have w2 := w1.new (o := .lst [.ref b2]) n2
      have s2 := same_upd (o := .lst [.ref b2]) n2
      refine k p2 _ _ w2.ex (w2.get 0 rfl) (.own (s2 _ _ e1) (fun y hy => (t1 y hy).same s2) ?_) (bad_one (partV_lst (s2 _ _ e1) (flt_things t1))) (by show 1 ≤ 3; omega)
      rcases bad with bad | ⟨e, _⟩
      · exact bad
      · cases e
    | @votes q pz b ns h1 e hl =>
      walk_at "x"
      repeat (refine iteF ?_; walk_at "x")
      refine iteT ?_
      walk_at "x"
      exact ⟨p, b, q, pz, ns, c, rfl, hS, e, by omega, by omega, c0, k⟩
    | @plain b ns e tb =>
      walk_at "x"
      repeat (refine iteF ?_; walk_at "x")
      refine iteT ?_
      walk_at "x"
      refine x_ixXL hS (v := .ref b) rfl ?_
      walk_at "x"
      refine ⟨b, ns, m, c, rfl, e, tb, c0, fun b2 xs H1 s1 e1 t1 bad => ?_⟩
      have w1 := w.ext s1
      walk_at "x"
      refine ⟨(by show 1 ≤ sizeLine; decide), fun p2 n2 => ?_⟩
      have w2 := w1.new (o := .lst [.ref b2]) n2
      have s2 := same_upd (o := .lst [.ref b2]) n2
      exact k p2 _ _ w2.ex (w2.get 0 rfl) (.plain (s2 _ _ e1) (fun y hy => (t1 y hy).same s2) bad) (bad_one (partV_lst (s2 _ _ e1) (flt_things t1))) (by show 1 ≤ 3; omega)
    | @pairs b ts fs e t hl o =>
      walk_at "x"
      repeat (refine iteF ?_; walk_at "x")
      refine x_modP (by decide) ?_
      walk_at "x"
      refine ite2 (fun _ => ?_) (fun _ => x_next ?_)
      · walk_at "x"
        refine x_divP (by decide) (by decide) ?_
        refine ⟨c / 8, rfl, by omega, fun v H1 s1 t1 p1 h1 => ?_⟩
        have w1 := w.ext s1
        walk_at "x"
        refine x_ixXL (w1.seq hS) (v := .ref b) rfl ?_
        walk_at "x"
        refine ⟨(by show 2 ≤ sizeLine; decide), fun p2 n2 => ?_⟩
        have w2 := w1.new (o := .lst [v, .ref b]) n2
        have s2 := same_upd (o := .lst [v, .ref b]) n2
        have eb2 := w2.ex _ _ e
        exact k p2 _ _ w2.ex (w2.get 0 rfl) (.pairs (.inl rfl) (t1.same s2) eb2 (.of (t.same w2.ex)) (by omega) fun m' gs e3 g1 g6 _ _ => absurd ⟨_, e3, by omega, by omega⟩ h1) (bad_two (p1.same s2) (partV_lst eb2 flt_ref)) (by show 2 ≤ 3; omega)
      · walk_at "x"
        refine x_ixXL hS (v := .int (m : Int)) rfl ?_
        walk_at "x"
        refine x_ixXL hS (v := .ref b) rfl ?_
        walk_at "x"
        refine x_divP (by decide) (by decide) ?_
        walk_at "x"
        refine ⟨b, ts, fs, m, c / 8, .non, rfl, e, t, hl, m1, m6, by omega, .inl rfl, fun b2 us yss H1 s1 e1 t1 hx bad => ?_⟩
        have w1 := w.ext s1
        walk_at "x"
        refine ⟨(by show 2 ≤ sizeLine; decide), fun p2 n2 => ?_⟩
        have w2 := w1.new (o := .lst [.int (m : Int), .ref b2]) n2
        have s2 := same_upd (o := .lst [.int (m : Int), .ref b2]) n2
        refine k p2 _ _ w2.ex (w2.get 0 rfl) (.pairs (.inl rfl) (.int _) (s2 _ _ e1) (t1.same s2) (by omega) ?_) (bad_two (partV_int _) (partV_lst (s2 _ _ e1) flt_ref)) (by show 2 ≤ 3; omega)
        intro m' gs e3 g1 g6 e4 ok
        obtain rfl : m = m' := by have := V.int.inj e3; omega
        obtain ⟨e5, _⟩ := bad gs e4 ok
        cases e5
    | @best b ts fs e t hl o =>
      walk_at "x"
      repeat (refine iteF ?_; walk_at "x")
      refine x_modP (by decide) ?_
      walk_at "x"
      refine ite2 (fun _ => ?_) (fun _ => x_next ?_)
      · walk_at "x"
        refine x_divP (by decide) (by decide) ?_
        refine ⟨c / 8, rfl, by omega, fun v H1 s1 t1 p1 h1 => ?_⟩
        have w1 := w.ext s1
        walk_at "x"
        refine x_ixXL (w1.seq hS) (v := .ref b) rfl ?_
        walk_at "x"
        refine ⟨(by show 2 ≤ sizeLine; decide), fun p2 n2 => ?_⟩
        have w2 := w1.new (o := .lst [v, .ref b]) n2
        have s2 := same_upd (o := .lst [v, .ref b]) n2
        have eb2 := w2.ex _ _ e
        exact k p2 _ _ w2.ex (w2.get 0 rfl) (.pairs (.inr rfl) (t1.same s2) eb2 (.of (t.same w2.ex)) (by omega) fun m' gs e3 g1 g6 _ _ => absurd ⟨_, e3, by omega, by omega⟩ h1) (bad_two (p1.same s2) (partV_lst eb2 flt_ref)) (by show 2 ≤ 3; omega)
      · walk_at "x"
        refine x_ixXL hS (v := .int (m : Int)) rfl ?_
        walk_at "x"
        refine x_ixXL hS (v := .ref b) rfl ?_
        walk_at "x"
        refine x_divP (by decide) (by decide) ?_
        walk_at "x"
        refine ⟨b, ts, fs, m, c / 8, .non, rfl, e, t, hl, m1, m6, by omega, .inl rfl, fun b2 us yss H1 s1 e1 t1 hx bad => ?_⟩
        have w1 := w.ext s1
        walk_at "x"
        refine ⟨(by show 2 ≤ sizeLine; decide), fun p2 n2 => ?_⟩
        have w2 := w1.new (o := .lst [.int (m : Int), .ref b2]) n2
        have s2 := same_upd (o := .lst [.int (m : Int), .ref b2]) n2
        refine k p2 _ _ w2.ex (w2.get 0 rfl) (.pairs (.inr rfl) (.int _) (s2 _ _ e1) (t1.same s2) (by omega) ?_) (bad_two (partV_int _) (partV_lst (s2 _ _ e1) flt_ref)) (by show 2 ≤ 3; omega)
        intro m' gs e3 g1 g6 e4 ok
        obtain rfl : m = m' := by have := V.int.inj e3; omega
        obtain ⟨e5, _⟩ := bad gs e4 ok
        cases e5
    | @net cA b ns ts fs ec hn h0 e t hl o h2 =>
      walk_at "x"
      repeat (refine iteF ?_; walk_at "x")
      refine iteT ?_
      walk_at "x"
      refine x_modP (by decide) ?_
      walk_at "x"
      refine ite2 (fun _ => ?_) (fun _ => x_next ?_)
      · walk_at "x"
        refine x_ixXL hS (v := .ref cA) rfl ?_
        walk_at "x"
        refine x_divP (by decide) (by decide) ?_
        walk_at "x"
        refine ⟨cA, ns, c / 2, .int 0, rfl, ec, by omega, by omega, by omega, .inr rfl, fun b2 xs H1 s1 e1 t1 hx bad => ?_⟩
        have w1 := w.ext s1
        walk_at "x"
        refine x_ixXL (w1.seq hS) (v := .ref b) rfl ?_
        walk_at "x"
        refine ⟨(by show 2 ≤ sizeLine; decide), fun p2 n2 => ?_⟩
        have w2 := w1.new (o := .lst [.ref b2, .ref b]) n2
        have s2 := same_upd (o := .lst [.ref b2, .ref b]) n2
        have eb2 := w2.ex _ _ e
        refine k p2 _ _ w2.ex (w2.get 0 rfl) (.net (s2 _ _ e1) (fun y hy => (t1 y hy).same s2) eb2 (.of (t.same w2.ex)) (by omega) (by omega) ?_) (bad_two (partV_lst (s2 _ _ e1) (flt_things t1)) (partV_lst eb2 flt_ref)) (by show 2 ≤ 3; omega)
        intro cs gs e3 g1 g6 _ _ c3
        rcases bad with bad | ⟨_, zs, e4, z, hz, hz0⟩
        · exact absurd ⟨by rw [e3, List.length_map]; exact g1, by rw [e3, List.length_map]; exact g6, by rw [e3]; exact all_isI cs⟩ bad
        · rw [e3] at e4
          obtain rfl := map_int_inj e4
          have := c3 z hz
          omega
      · walk_at "x"
        repeat (refine iteF ?_; walk_at "x")
        refine iteT ?_
        walk_at "x"
        refine x_ixXL hS (v := .ref cA) rfl ?_
        walk_at "x"
        refine x_ixXL hS (v := .ref b) rfl ?_
        walk_at "x"
        refine x_divP (by decide) (by decide) ?_
        walk_at "x"
        refine ⟨b, ts, fs, m, c / 2, .int 0, rfl, e, t, hl, m1, m6, by omega, .inr rfl, fun b2 us yss H1 s1 e1 t1 hx bad => ?_⟩
        have w1 := w.ext s1
        walk_at "x"
        refine ⟨(by show 2 ≤ sizeLine; decide), fun p2 n2 => ?_⟩
        have w2 := w1.new (o := .lst [.ref cA, .ref b2]) n2
        have s2 := same_upd (o := .lst [.ref cA, .ref b2]) n2
        have ec2 := w2.ex _ _ ec
        refine k p2 _ _ w2.ex (w2.get 0 rfl) (.net ec2 things_ints (s2 _ _ e1) (t1.same s2) (by omega) (by rw [List.length_map]; omega) ?_) (bad_two (partV_lst ec2 flt_int) (partV_lst (s2 _ _ e1) flt_ref)) (by show 2 ≤ 3; omega)
        intro cs gs e3 g1 g6 e4 ok _ c3
        obtain rfl := map_int_inj e3
        rw [hn] at ok
        obtain ⟨_, f, hf, hf0⟩ := bad gs e4 ok
        have := c3 f hf
        omega

/-! ### law -/
def sp_law (K : PySem.W.Frag) : Sp := fun vs H Q _ => ∃ (a : Addr) (ns : List Int), vs = [.ref a] ∧ SqL K H a (ns.map V.int) ∧ ns.length ≤ 63 ∧ ∀ H', Q (.bl true) H'
theorem kinds_step {kd i : Nat} {b : Bool} (hb : b = (decide (i = 0) || decide (i = kd))) : ((List.range (i + 1)).map fun j => decide (j = 0) || decide (j = kd)).map V.bl = ((List.range i).map fun j => decide (j = 0) || decide (j = kd)).map V.bl ++ [V.bl b] := by
  subst hb
  rw [List.range_succ, List.map_append, List.map_append] <;> rfl
theorem ok_law (T : Txt K mg A) : FnOk P w K mg base (L2.CX P w) 10 A.a_law A.d_law ["_law_script"] (sp_law K) := by
  refine T.F_law.okX sc_law (fun vs H Q E h => ?_) (fun cdv A0 outer s H vs Q E hr h => ?_)
  · obtain ⟨a, ns, rfl, _⟩ := h; rfl
  · obtain ⟨a, ns, rfl, hS, hl, k⟩ := h
    refine ⟨_, (pss_cons (ps_for (passes_of rfl) rfl (pi_listK (K := K) rfl (pe_op (op_catK (K := K) rfl) (pv 0) (pe_lst (pa_cons pe_int pa_nil)))) (pg_name (i := 1) sc_law.nd rfl (.inl rfl)) (pss_cons (ps_set (i := 2) sc_law.nd rfl (.inl rfl) (pe_op op_modX (pe_op op_mulX (pv 1) pe_int) pe_int))
      (pss_cons (ps_set (i := 3) sc_law.nd rfl (.inr rfl) (pe_op op_modX (pv 1) pe_int))
      (pss_cons (ps_set (i := 4) sc_law.nd rfl (.inl rfl) (pe_op op_addX pe_int (pe_op op_modX (pe_op op_fdivX (pv 2) pe_int) (pe_ix (ix_seqK (K := K) rfl) (pe_lst (pa_cons pe_int (pa_cons pe_int (pa_cons pe_int (pa_cons pe_int (pa_cons pe_int (pa_cons pe_int (pa_cons pe_int pa_nil)))))))) (pv 3) (fun _ _ => rfl)))))
      (pss_cons (ps_set (i := 5) sc_law.nd rfl (.inl rfl) (pe_call (ok__law_good T) (hr.mono (by decide)) (by rfl) T.g__law_good T.F__law_good.kp T.b__law_good .nil (passes_call (takes_of rfl rfl rfl rfl) (fun _ _ _ _ h => h)) (pa_cons (pv 3) (pa_cons (pv 4) (pa_cons (pe_op op_fdivX (pv 2) pe_int) pa_nil)))))
      (pss_cons (ps_set (i := 6) sc_law.nd rfl (.inl rfl) (pe_call (ok__law_off T) (hr.mono (by decide)) (by rfl) T.g__law_off T.F__law_off.kp T.b__law_off .nil (passes_call (takes_of rfl rfl rfl rfl) (fun _ _ _ _ h => h)) (pa_cons (pv 3) (pa_cons (pv 4) (pa_cons (pv 5) (pa_cons (pe_op op_fdivX (pv 2) pe_int) pa_nil))))))
      (pss_cons (ps_set (i := 7) sc_law.nd rfl (.inl rfl) (pe_call (ok__law_copy T) (hr.mono (by decide)) (by rfl) T.g__law_copy T.F__law_copy.kp T.b__law_copy .nil (passes_call (takes_of rfl rfl rfl rfl) (fun _ _ _ _ h => h)) (pa_cons (pv 6) pa_nil)))
      (pss_cons (ps_if (PW.pt (pw_or (pt_not (pt_val (pe_call (ok__law_refused T) (hr.mono (by decide)) (by rfl) T.g__law_refused T.F__law_refused.kp T.b__law_refused .nil (passes_call (takes_of rfl rfl rfl rfl) (fun _ _ _ _ h => h)) (pa_cons (pv 3) (pa_cons (pv 7) pa_nil))))) (pw_or1 (pt_cmpR (op_neCK (K := K) rfl hr.units) (pv 7) (pv 6) (nomark _))))) (pss_one (ps_ret pe_bl)) pss_nil)
      (pss_cons (ps_set (i := 7) sc_law.nd rfl (.inl rfl) (pe_call (ok__law_copy T) (hr.mono (by decide)) (by rfl) T.g__law_copy T.F__law_copy.kp T.b__law_copy .nil (passes_call (takes_of rfl rfl rfl rfl) (fun _ _ _ _ h => h)) (pa_cons (pv 5) pa_nil)))
      (pss_cons (ps_set (i := 8) sc_law.nd rfl (.inl rfl) (pe_call (ok__law_rule T) (hr.mono (by decide)) (by rfl) T.g__law_rule T.F__law_rule.kp T.b__law_rule .nil (passes_call (takes_of rfl rfl rfl rfl) (fun _ _ _ _ h => h)) (pa_cons (pv 3) (pa_cons (pv 7) pa_nil))))
      (pss_cons (ps_setLc (i := 9) (own := [("_law_k", 10)]) rfl sc_law.nd rfl rfl (sw_true rfl rfl rfl (by decide +kernel)) (pi_range1 (by rfl) T.z_range (pa_cons pe_int pa_nil)) (blkOk_by (own := [("_law_k", 10)]) (N := N_law) (sc := defScope s_law) (by decide +kernel)) (fun _ _ _ _ _ => (pg_name (i := 10) sc_law.nd rfl (.inl rfl))) (fun _ _ _ _ _ => pts_nil) (fun _ _ _ _ _ => (pe_or (pe_cmpR (op_eqK (K := K) rfl hr.units) (pv 10) pe_int (nomark _)) (pe_one (pe_cmpR (op_eqK (K := K) rfl hr.units) (pv 10) (pv 3) (nomark _))))))
      (pss_cons (ps_if (PW.pt (pw_or (pt_cmpR (op_neK (K := K) rfl hr.units) (pe_call (ok__law_kinds T) (hr.mono (by decide)) (by rfl) T.g__law_kinds T.F__law_kinds.kp T.b__law_kinds .nil (passes_call (takes_of rfl rfl rfl rfl) (fun _ _ _ _ h => h)) (pa_cons (pv 8) pa_nil)) (pv 9) (nomark _)) (pw_or (pt_cmpR (op_neCK (K := K) rfl hr.units) (pv 7) (pv 5) (nomark _)) (pw_or (pt_not (pt_val (pe_call (ok__law_whole T) (hr.mono (by decide)) (by rfl) T.g__law_whole T.F__law_whole.kp T.b__law_whole .nil (passes_call (takes_of rfl rfl rfl rfl) (fun _ _ _ _ h => h)) (pa_cons (pe_or2 (pe_meth0 (pv 8) T.cl_Rule T.m_Rule_hands (ok_Rule_hands T) (hr.mono (by decide)) T.b_Rule_hands .nil (passes_call (takes_of rfl rfl rfl rfl) (fun _ _ _ _ h => h))) (pe_or2 (pe_meth0 (pv 8) T.cl_Own T.m_Own_hands (ok_Rule_hands T) (hr.mono (by decide)) T.b_Rule_hands .nil (passes_call (takes_of rfl rfl rfl rfl) (fun _ _ _ _ h => h))) (pe_or2 (pe_meth0 (pv 8) T.cl_Pairs T.m_Pairs_hands (ok_Rule_hands T) (hr.mono (by decide)) T.b_Rule_hands .nil (passes_call (takes_of rfl rfl rfl rfl) (fun _ _ _ _ h => h))) (pe_or2 (pe_meth0 (pv 8) T.cl_Votes T.m_Votes_hands (ok_Rule_hands T) (hr.mono (by decide)) T.b_Rule_hands .nil (passes_call (takes_of rfl rfl rfl rfl) (fun _ _ _ _ h => h))) (pe_or2 (pe_meth0 (pv 8) T.cl_Plain T.m_Plain_hands (ok_Rule_hands T) (hr.mono (by decide)) T.b_Rule_hands .nil (passes_call (takes_of rfl rfl rfl rfl) (fun _ _ _ _ h => h))) (pe_or2 (pe_meth0 (pv 8) T.cl_Match T.m_Match_hands (ok_Rule_hands T) (hr.mono (by decide)) T.b_Rule_hands .nil (passes_call (takes_of rfl rfl rfl rfl) (fun _ _ _ _ h => h))) (pe_meth0 (pv 8) T.cl_Net T.m_Net_hands (ok_Rule_hands T) (hr.mono (by decide)) T.b_Rule_hands .nil (passes_call (takes_of rfl rfl rfl rfl) (fun _ _ _ _ h => h))))))))) pa_nil)))) (pw_or1 (pt_cmpR (op_neK (K := K) rfl hr.units) (pe_or2 (pe_meth0 (pv 8) T.cl_Rule T.m_Rule_hands (ok_Rule_hands T) (hr.mono (by decide)) T.b_Rule_hands .nil (passes_call (takes_of rfl rfl rfl rfl) (fun _ _ _ _ h => h))) (pe_or2 (pe_meth0 (pv 8) T.cl_Own T.m_Own_hands (ok_Rule_hands T) (hr.mono (by decide)) T.b_Rule_hands .nil (passes_call (takes_of rfl rfl rfl rfl) (fun _ _ _ _ h => h))) (pe_or2 (pe_meth0 (pv 8) T.cl_Pairs T.m_Pairs_hands (ok_Rule_hands T) (hr.mono (by decide)) T.b_Rule_hands .nil (passes_call (takes_of rfl rfl rfl rfl) (fun _ _ _ _ h => h))) (pe_or2 (pe_meth0 (pv 8) T.cl_Votes T.m_Votes_hands (ok_Rule_hands T) (hr.mono (by decide)) T.b_Rule_hands .nil (passes_call (takes_of rfl rfl rfl rfl) (fun _ _ _ _ h => h))) (pe_or2 (pe_meth0 (pv 8) T.cl_Plain T.m_Plain_hands (ok_Rule_hands T) (hr.mono (by decide)) T.b_Rule_hands .nil (passes_call (takes_of rfl rfl rfl rfl) (fun _ _ _ _ h => h))) (pe_or2 (pe_meth0 (pv 8) T.cl_Match T.m_Match_hands (ok_Rule_hands T) (hr.mono (by decide)) T.b_Rule_hands .nil (passes_call (takes_of rfl rfl rfl rfl) (fun _ _ _ _ h => h))) (pe_meth0 (pv 8) T.cl_Net T.m_Net_hands (ok_Rule_hands T) (hr.mono (by decide)) T.b_Rule_hands .nil (passes_call (takes_of rfl rfl rfl rfl) (fun _ _ _ _ h => h))))))))) (pv 4) (nomark _))))))) (pss_one (ps_ret pe_bl)) pss_nil)
      (pss_one (ps_if (PW.pt (pw_or (pt_not (pt_val (pe_call (ok__law_whole T) (hr.mono (by decide)) (by rfl) T.g__law_whole T.F__law_whole.kp T.b__law_whole .nil (passes_call (takes_of rfl rfl rfl rfl) (fun _ _ _ _ h => h)) (pa_cons (pe_or2 (pe_meth (pv 8) T.cl_Rule T.m_Rule_earn (ok_Rule_earn T) (hr.mono (by decide)) T.b_Rule_earn .nil (passes_call (takes_of rfl rfl rfl rfl) (fun _ _ _ _ h => h)) (pa_cons pe_int pa_nil)) (pe_or2 (pe_meth (pv 8) T.cl_Own T.m_Own_earn (ok_Rule_earn T) (hr.mono (by decide)) T.b_Rule_earn .nil (passes_call (takes_of rfl rfl rfl rfl) (fun _ _ _ _ h => h)) (pa_cons pe_int pa_nil)) (pe_or2 (pe_meth (pv 8) T.cl_Pairs T.m_Pairs_earn (ok_Rule_earn T) (hr.mono (by decide)) T.b_Rule_earn .nil (passes_call (takes_of rfl rfl rfl rfl) (fun _ _ _ _ h => h)) (pa_cons pe_int pa_nil)) (pe_or2 (pe_meth (pv 8) T.cl_Votes T.m_Votes_earn (ok_Rule_earn T) (hr.mono (by decide)) T.b_Rule_earn .nil (passes_call (takes_of rfl rfl rfl rfl) (fun _ _ _ _ h => h)) (pa_cons pe_int pa_nil)) (pe_or2 (pe_meth (pv 8) T.cl_Plain T.m_Plain_earn (ok_Rule_earn T) (hr.mono (by decide)) T.b_Rule_earn .nil (passes_call (takes_of rfl rfl rfl rfl) (fun _ _ _ _ h => h)) (pa_cons pe_int pa_nil)) (pe_or2 (pe_meth (pv 8) T.cl_Match T.m_Match_earn (ok_Rule_earn T) (hr.mono (by decide)) T.b_Rule_earn .nil (passes_call (takes_of rfl rfl rfl rfl) (fun _ _ _ _ h => h)) (pa_cons pe_int pa_nil)) (pe_meth (pv 8) T.cl_Net T.m_Net_earn (ok_Rule_earn T) (hr.mono (by decide)) T.b_Rule_earn .nil (passes_call (takes_of rfl rfl rfl rfl) (fun _ _ _ _ h => h)) (pa_cons pe_int pa_nil)))))))) pa_nil)))) (pw_or1 (pt_cmpR (op_neK (K := K) rfl hr.units) (pe_or2 (pe_meth (pv 8) T.cl_Rule T.m_Rule_earn (ok_Rule_earn T) (hr.mono (by decide)) T.b_Rule_earn .nil (passes_call (takes_of rfl rfl rfl rfl) (fun _ _ _ _ h => h)) (pa_cons pe_int pa_nil)) (pe_or2 (pe_meth (pv 8) T.cl_Own T.m_Own_earn (ok_Rule_earn T) (hr.mono (by decide)) T.b_Rule_earn .nil (passes_call (takes_of rfl rfl rfl rfl) (fun _ _ _ _ h => h)) (pa_cons pe_int pa_nil)) (pe_or2 (pe_meth (pv 8) T.cl_Pairs T.m_Pairs_earn (ok_Rule_earn T) (hr.mono (by decide)) T.b_Rule_earn .nil (passes_call (takes_of rfl rfl rfl rfl) (fun _ _ _ _ h => h)) (pa_cons pe_int pa_nil)) (pe_or2 (pe_meth (pv 8) T.cl_Votes T.m_Votes_earn (ok_Rule_earn T) (hr.mono (by decide)) T.b_Rule_earn .nil (passes_call (takes_of rfl rfl rfl rfl) (fun _ _ _ _ h => h)) (pa_cons pe_int pa_nil)) (pe_or2 (pe_meth (pv 8) T.cl_Plain T.m_Plain_earn (ok_Rule_earn T) (hr.mono (by decide)) T.b_Rule_earn .nil (passes_call (takes_of rfl rfl rfl rfl) (fun _ _ _ _ h => h)) (pa_cons pe_int pa_nil)) (pe_or2 (pe_meth (pv 8) T.cl_Match T.m_Match_earn (ok_Rule_earn T) (hr.mono (by decide)) T.b_Rule_earn .nil (passes_call (takes_of rfl rfl rfl rfl) (fun _ _ _ _ h => h)) (pa_cons pe_int pa_nil)) (pe_meth (pv 8) T.cl_Net T.m_Net_earn (ok_Rule_earn T) (hr.mono (by decide)) T.b_Rule_earn .nil (passes_call (takes_of rfl rfl rfl rfl) (fun _ _ _ _ h => h)) (pa_cons pe_int pa_nil)))))))) pe_int (nomark _))))) (pss_one (ps_ret pe_bl)) pss_nil))))))))))))))
      (pss_one (ps_ret pe_bl))), ?_⟩
    rw [show L2.start N_law [V.ref a] = [some (.ref a), none, none, none, none, none, none, none, none, none, none] from rfl]
    walk_at "x"
    refine ⟨(by show 1 ≤ sizeLine; decide), fun p0 n0 => ?_⟩
    have w0 := (Own.start (H := H)).new (o := .lst (([53] : List Int).map V.int)) n0
    refine x_cat (w0.seq hS) (w0.sq 0 rfl) (by rw [List.length_map]; exact Nat.le_trans (Nat.add_le_add_right hl 1) (by show 64 ≤ sizeLine; decide)) (fun p1 n1 => ?_)
    rw [← List.map_append]
    have w1 := w0.new (o := .lst ((ns ++ [53]).map V.int)) n1
    generalize ns ++ [53] = zs at w1 ⊢
    have e1 : upd (upd H p0 (.lst [V.int 53])) p1 (.lst (zs.map V.int)) p1 = some (.lst (zs.map V.int)) := w1.get 0 rfl
    generalize upd (upd H p0 (.lst [V.int 53])) p1 (.lst (zs.map V.int)) = H1 at e1 ⊢
    clear w1 w0
    walk_at "x"
    refine ⟨p1, rfl, ⟨_, SqL.of e1⟩, for_list (xs := zs.map V.int) (fun i σ' H' => (∃ v1 v2 v3 v4 v5 v6 v7 v8 v9 v10, σ' = [some (.ref a), v1, v2, v3, v4, v5, v6, v7, v8, v9, v10]) ∧ Same H1 H') ⟨⟨_, _, _, _, _, _, _, _, _, _, rfl⟩, .refl _⟩ (fun i σ' H' _ h => SqL.of (h.2 _ _ e1)) ?_ ?_⟩
    · rintro i x σ' H2 hx ⟨⟨v1, v2, v3, v4, v5, v6, v7, v8, v9, v10, rfl⟩, s2⟩
      obtain ⟨z, hz, rfl⟩ := map_at hx
      walk_at "x"
      refine x_mulI (.of_right (by decide)) ?_
      walk_at "x"
      refine x_modP (by decide) ?_
      have y0 := Int.emod_nonneg (z * 48271) (show (2147483647 : Int) ≠ 0 by decide)
      have y1 := Int.emod_lt_of_pos (z * 48271) (show (0 : Int) < 2147483647 by decide)
      generalize z * 48271 % 2147483647 = y at y0 y1 ⊢
      walk_at "x"
      refine x_modP (by decide) ?_
      obtain ⟨kd, hkd⟩ := Int.eq_ofNat_of_zero_le (Int.emod_nonneg z (show (7 : Int) ≠ 0 by decide))
      have hk7 : kd < 7 := by have := Int.emod_lt_of_pos z (show (0 : Int) < 7 by decide); omega
      rw [hkd]
      walk_at "x"
      refine x_divP (by decide) (by decide) ?_
      walk_at "x"
      refine ⟨(by show 7 ≤ sizeLine; decide), fun p3 n3 => ?_⟩
      have w3 := ((Own.start (H := H1)).ext s2).new (o := .lst (([6, 6, 6, 6, 6, 5, 6] : List Int).map V.int)) n3
      walk_at "x"
      obtain ⟨b, hb, b5⟩ : ∃ b : Int, atI (([6, 6, 6, 6, 6, 5, 6] : List Int).map V.int) (kd : Int) = some (.int b) ∧ (b = 5 ∨ b = 6) := by
        have : kd = 0 ∨ kd = 1 ∨ kd = 2 ∨ kd = 3 ∨ kd = 4 ∨ kd = 5 ∨ kd = 6 := by omega
        rcases this with rfl | rfl | rfl | rfl | rfl | rfl | rfl
        all_goals first | exact ⟨6, rfl, .inr rfl⟩ | exact ⟨5, rfl, .inl rfl⟩
      refine x_ixXL (w3.sq 0 rfl) hb ?_
      have s3 := w3.ex
      clear w3
      walk_at "x"
      refine x_modP (by omega) ?_
      obtain ⟨m, hm⟩ := Int.eq_ofNat_of_zero_le (show 0 ≤ 1 + y / 7 % b by have := Int.emod_nonneg (y / 7) (show b ≠ 0 by omega); omega)
      have hmm : 1 ≤ m ∧ m ≤ 6 := by
        have h1 := Int.emod_nonneg (y / 7) (show b ≠ 0 by omega)
        have h2 := Int.emod_lt_of_pos (y / 7) (show 0 < b by omega)
        omega
      obtain ⟨m1, m6⟩ := hmm
      walk_at "x"
      rw [hm]
      refine x_divP (by decide) (by decide) ?_
      refine ⟨kd, m, y / 42, rfl, by omega, m1, m6, by omega, by omega, fun p5 ps r H5 s5 e5 hG hP hL => ?_⟩
      have s5 := s3.trans s5
      walk_at "x"
      refine x_divP (by decide) (by decide) ?_
      refine ⟨kd, m, p5, ps, r, y / 42, rfl, SqL.of e5, hG, m1, m6, by omega, fun p6 qs H6 s6 e6 hB hPq hLq => ?_⟩
      walk_at "x"
      refine ⟨p6, qs, rfl, SqL.of e6, by omega, hPq, fun p7 qs7 H7 s7 e7 hC7 => ?_⟩
      walk_at "x"
      refine ⟨kd, p7, qs7, rfl, SqL.of e7, (hB.same s7).copy hC7, fun H8 s8 => ?_⟩
      walk_at "x"
      refine iteF ?_
      walk_at "x"
      refine x_neC (s8 _ _ e7) (s8 _ _ (s7 _ _ e6)) (Cops.mono s8 hC7.copsR) ?_
      walk_at "x"
      refine iteF ?_
      have s58 := (s6.trans s7).trans s8
      have e58 := s58 _ _ e5
      have hP8 : ∀ v ∈ ps, PartV H8 v := fun v hv => (hP v hv).same s58
      have hG8 := hG.same s58
      have s18 := s5.trans s58
      clear hB hPq hC7 e7 e6 s6 s7 s8
      walk_at "x"
      refine ⟨p5, ps, rfl, SqL.of e58, by omega, hP8, fun p9 ps9 H9 s9 e9 hC9 => ?_⟩
      walk_at "x"
      refine ⟨kd, p9, ps9, rfl, SqL.of e9, .inr ⟨m, r, m1, m6, (hG8.same s9).copy hC9, fun x r' H10 s10 R hk0 h0 => ?_⟩⟩
      walk_at "x"
      refine ⟨_, rfl, by decide, by decide, cp_range (lo := 0) (n := 7) (fun i => ((List.range i).map fun j => decide (j = 0) || decide (j = kd)).map V.bl) (Own.start (H := H10)) rfl ?_ ?_⟩
      · intro D i H' hi pc
        walk_at "x"
        refine ⟨rfl, ?_⟩
        walk_at "x"
        refine iteT ?_
        walk_at "x"
        rw [Int.zero_add]
        by_cases ci : i = 0
        · rw [decide_eq_true (show (i : Int) = 0 by omega)]
          refine iteT ?_
          exact cp_fin (F := fun i => ((List.range i).map fun j => decide (j = 0) || decide (j = kd)).map V.bl) pc (kinds_step (b := true) (by rw [decide_eq_true ci] <;> rfl)) (by rw [List.length_map, List.length_map, List.length_range]; omega)
        · rw [decide_eq_false (show ¬ (i : Int) = 0 by omega)]
          refine iteF ?_
          walk_at "x"
          exact cp_fin (F := fun i => ((List.range i).map fun j => decide (j = 0) || decide (j = kd)).map V.bl) pc (kinds_step (by rw [decide_eq_false ci, Bool.false_or]; exact decide_eq_decide.mpr ⟨fun h => by omega, fun h => by omega⟩)) (by rw [List.length_map, List.length_map, List.length_range]; omega)
      intro D H11 w11
      have eD := w11.get 0 rfl
      have s11 := w11.ex
      clear w11
      walk_at "x"
      refine ⟨x, m, r', rfl, R.same s11, fun p12 H12 n12 s12 e12 => ?_⟩
      have s1012 := s11.trans s12
      rw [show ((List.range 7).map fun i => V.bl (decide (i = 0) || decide (i = kindD r'))) = ((List.range 7).map fun j => decide (j = 0) || decide (j = kd)).map V.bl by rw [List.map_map, hk0] <;> rfl] at e12
      walk_at "x"
      refine x_neD (.lst (SqL.of e12) dpAll_bl) (.lst (SqL.of (s12 _ _ eD)) dpAll_bl) (lay_bl _) ?_
      walk_at "x"
      refine iteF ?_
      walk_at "x"
      have s912 := s10.trans s1012
      refine x_neC (s912 _ _ e9) ((s9.trans s912) _ _ e58) (Cops.mono s912 hC9.copsR) ?_
      walk_at "x"
      refine iteF ?_
      have R12 := (R.same s1012).rule
      have s112 := (s18.trans s9).trans s912
      have h0 : r'.earn m 0 = 0 := h0
      generalize r'.earn m = f at R12 h0
      clear hG8 hG hP8 hP hC9 R e9 e58 eD e12 e5
      walk_at "x"
      cases R12 with
      | kRule h =>
        have Rr : RuleAt A K H12 x m f := .kRule h
        obtain ⟨dx, fl, i⟩ := h.ins
        refine .inl ((x_meth (x_var rfl ⟨x, dx, fl, rfl, i.e, i.c3, x_nil ⟨x, m, f, rfl, Rr, fun H13 s13 => ?_⟩⟩)))
        walk_at "x"
        refine ⟨_, rfl, .int _, fun H14 s14 => ?_⟩
        have s14 := s13.trans s14
        walk_at "x"
        refine iteF ?_
        walk_at "x"
        refine .inl ((x_meth (x_var rfl ⟨x, dx, fl, rfl, s14 _ _ i.e, i.c3, x_nil ⟨x, m, f, rfl, Rr.same s14, fun H15 s15 => ?_⟩⟩)))
        have s15 := s14.trans s15
        walk_at "x"
        rw [decide_eq_true (rfl : (m : Int) = (m : Int))]
        walk_at "x"
        refine iteF ?_
        walk_at "x"
        refine .inl ((x_meth (x_var rfl ⟨x, dx, fl, rfl, s15 _ _ i.e, i.c1, x_cons (x_c (x_nil (u_earn (g := 0) (Rr.same s15) m6 (Nat.two_pow_pos m) fun H16 s16 => ?_)))⟩)))
        have s16 := s15.trans s16
        walk_at "x"
        refine ⟨_, rfl, .int _, fun H17 s17 => ?_⟩
        have s17 := s16.trans s17
        walk_at "x"
        refine iteF ?_
        walk_at "x"
        refine .inl ((x_meth (x_var rfl ⟨x, dx, fl, rfl, s17 _ _ i.e, i.c1, x_cons (x_c (x_nil (u_earn (g := 0) (Rr.same s17) m6 (Nat.two_pow_pos m) fun H18 s18 => ?_)))⟩)))
        rw [h0]
        walk_at "x"
        refine iteF ?_
        exact x_next ⟨⟨_, _, _, _, _, _, _, _, _, _, rfl⟩, s112.trans (s17.trans s18)⟩
      | kOwn h =>
        have Rr : RuleAt A K H12 x m f := .kOwn h
        obtain ⟨dx, fl, i⟩ := h.ins
        refine .inr (.inl ((x_meth (x_var rfl ⟨x, dx, fl, rfl, i.e, i.c3, x_nil ⟨x, m, f, rfl, Rr, fun H13 s13 => ?_⟩⟩))))
        walk_at "x"
        refine ⟨_, rfl, .int _, fun H14 s14 => ?_⟩
        have s14 := s13.trans s14
        walk_at "x"
        refine iteF ?_
        walk_at "x"
        refine .inr (.inl ((x_meth (x_var rfl ⟨x, dx, fl, rfl, s14 _ _ i.e, i.c3, x_nil ⟨x, m, f, rfl, Rr.same s14, fun H15 s15 => ?_⟩⟩))))
        have s15 := s14.trans s15
        walk_at "x"
        rw [decide_eq_true (rfl : (m : Int) = (m : Int))]
        walk_at "x"
        refine iteF ?_
        walk_at "x"
        refine .inr (.inl ((x_meth (x_var rfl ⟨x, dx, fl, rfl, s15 _ _ i.e, i.c1, x_cons (x_c (x_nil (u_earn (g := 0) (Rr.same s15) m6 (Nat.two_pow_pos m) fun H16 s16 => ?_)))⟩))))
        have s16 := s15.trans s16
        walk_at "x"
        refine ⟨_, rfl, .int _, fun H17 s17 => ?_⟩
        have s17 := s16.trans s17
        walk_at "x"
        refine iteF ?_
        walk_at "x"
        refine .inr (.inl ((x_meth (x_var rfl ⟨x, dx, fl, rfl, s17 _ _ i.e, i.c1, x_cons (x_c (x_nil (u_earn (g := 0) (Rr.same s17) m6 (Nat.two_pow_pos m) fun H18 s18 => ?_)))⟩))))
        rw [h0]
        walk_at "x"
        refine iteF ?_
        exact x_next ⟨⟨_, _, _, _, _, _, _, _, _, _, rfl⟩, s112.trans (s17.trans s18)⟩
      | kPairs h =>
        have Rr : RuleAt A K H12 x m f := .kPairs h
        obtain ⟨dx, fl, i⟩ := h.ins
        refine .inr (.inr (.inl ((x_meth (x_var rfl ⟨x, dx, fl, rfl, i.e, i.c3, x_nil ⟨x, m, f, rfl, Rr, fun H13 s13 => ?_⟩⟩)))))
        walk_at "x"
        refine ⟨_, rfl, .int _, fun H14 s14 => ?_⟩
        have s14 := s13.trans s14
        walk_at "x"
        refine iteF ?_
        walk_at "x"
        refine .inr (.inr (.inl ((x_meth (x_var rfl ⟨x, dx, fl, rfl, s14 _ _ i.e, i.c3, x_nil ⟨x, m, f, rfl, Rr.same s14, fun H15 s15 => ?_⟩⟩)))))
        have s15 := s14.trans s15
        walk_at "x"
        rw [decide_eq_true (rfl : (m : Int) = (m : Int))]
        walk_at "x"
        refine iteF ?_
        walk_at "x"
        refine .inr (.inr (.inl ((x_meth (x_var rfl ⟨x, dx, fl, rfl, s15 _ _ i.e, i.c1, x_cons (x_c (x_nil (u_earn (g := 0) (Rr.same s15) m6 (Nat.two_pow_pos m) fun H16 s16 => ?_)))⟩)))))
        have s16 := s15.trans s16
        walk_at "x"
        refine ⟨_, rfl, .int _, fun H17 s17 => ?_⟩
        have s17 := s16.trans s17
        walk_at "x"
        refine iteF ?_
        walk_at "x"
        refine .inr (.inr (.inl ((x_meth (x_var rfl ⟨x, dx, fl, rfl, s17 _ _ i.e, i.c1, x_cons (x_c (x_nil (u_earn (g := 0) (Rr.same s17) m6 (Nat.two_pow_pos m) fun H18 s18 => ?_)))⟩)))))
        rw [h0]
        walk_at "x"
        refine iteF ?_
        exact x_next ⟨⟨_, _, _, _, _, _, _, _, _, _, rfl⟩, s112.trans (s17.trans s18)⟩
      | kVotes h =>
        have Rr : RuleAt A K H12 x m f := .kVotes h
        obtain ⟨dx, fl, i⟩ := h.ins
        refine .inr (.inr (.inr (.inl ((x_meth (x_var rfl ⟨x, dx, fl, rfl, i.e, i.c3, x_nil ⟨x, m, f, rfl, Rr, fun H13 s13 => ?_⟩⟩))))))
        walk_at "x"
        refine ⟨_, rfl, .int _, fun H14 s14 => ?_⟩
        have s14 := s13.trans s14
        walk_at "x"
        refine iteF ?_
        walk_at "x"
        refine .inr (.inr (.inr (.inl ((x_meth (x_var rfl ⟨x, dx, fl, rfl, s14 _ _ i.e, i.c3, x_nil ⟨x, m, f, rfl, Rr.same s14, fun H15 s15 => ?_⟩⟩))))))
        have s15 := s14.trans s15
        walk_at "x"
        rw [decide_eq_true (rfl : (m : Int) = (m : Int))]
        walk_at "x"
        refine iteF ?_
        walk_at "x"
        refine .inr (.inr (.inr (.inl ((x_meth (x_var rfl ⟨x, dx, fl, rfl, s15 _ _ i.e, i.c1, x_cons (x_c (x_nil (u_earn (g := 0) (Rr.same s15) m6 (Nat.two_pow_pos m) fun H16 s16 => ?_)))⟩))))))
        have s16 := s15.trans s16
        walk_at "x"
        refine ⟨_, rfl, .int _, fun H17 s17 => ?_⟩
        have s17 := s16.trans s17
        walk_at "x"
        refine iteF ?_
        walk_at "x"
        refine .inr (.inr (.inr (.inl ((x_meth (x_var rfl ⟨x, dx, fl, rfl, s17 _ _ i.e, i.c1, x_cons (x_c (x_nil (u_earn (g := 0) (Rr.same s17) m6 (Nat.two_pow_pos m) fun H18 s18 => ?_)))⟩))))))
        rw [h0]
        walk_at "x"
        refine iteF ?_
        exact x_next ⟨⟨_, _, _, _, _, _, _, _, _, _, rfl⟩, s112.trans (s17.trans s18)⟩
      | kPlain h =>
        have Rr : RuleAt A K H12 x m f := .kPlain h
        obtain ⟨dx, fl, i⟩ := h.ins
        refine .inr (.inr (.inr (.inr (.inl ((x_meth (x_var rfl ⟨x, dx, fl, rfl, i.e, i.c3, x_nil ⟨x, m, f, rfl, Rr, fun H13 s13 => ?_⟩⟩)))))))
        walk_at "x"
        refine ⟨_, rfl, .int _, fun H14 s14 => ?_⟩
        have s14 := s13.trans s14
        walk_at "x"
        refine iteF ?_
        walk_at "x"
        refine .inr (.inr (.inr (.inr (.inl ((x_meth (x_var rfl ⟨x, dx, fl, rfl, s14 _ _ i.e, i.c3, x_nil ⟨x, m, f, rfl, Rr.same s14, fun H15 s15 => ?_⟩⟩)))))))
        have s15 := s14.trans s15
        walk_at "x"
        rw [decide_eq_true (rfl : (m : Int) = (m : Int))]
        walk_at "x"
        refine iteF ?_
        walk_at "x"
        refine .inr (.inr (.inr (.inr (.inl ((x_meth (x_var rfl ⟨x, dx, fl, rfl, s15 _ _ i.e, i.c1, x_cons (x_c (x_nil (u_earn (g := 0) (Rr.same s15) m6 (Nat.two_pow_pos m) fun H16 s16 => ?_)))⟩)))))))
        have s16 := s15.trans s16
        walk_at "x"
        refine ⟨_, rfl, .int _, fun H17 s17 => ?_⟩
        have s17 := s16.trans s17
        walk_at "x"
        refine iteF ?_
        walk_at "x"
        refine .inr (.inr (.inr (.inr (.inl ((x_meth (x_var rfl ⟨x, dx, fl, rfl, s17 _ _ i.e, i.c1, x_cons (x_c (x_nil (u_earn (g := 0) (Rr.same s17) m6 (Nat.two_pow_pos m) fun H18 s18 => ?_)))⟩)))))))
        rw [h0]
        walk_at "x"
        refine iteF ?_
        exact x_next ⟨⟨_, _, _, _, _, _, _, _, _, _, rfl⟩, s112.trans (s17.trans s18)⟩
      | kMatch h =>
        have Rr : RuleAt A K H12 x m f := .kMatch h
        obtain ⟨dx, fl, i⟩ := h.ins
        refine .inr (.inr (.inr (.inr (.inr (.inl ((x_meth (x_var rfl ⟨x, dx, fl, rfl, i.e, i.c3, x_nil ⟨x, m, f, rfl, Rr, fun H13 s13 => ?_⟩⟩))))))))
        walk_at "x"
        refine ⟨_, rfl, .int _, fun H14 s14 => ?_⟩
        have s14 := s13.trans s14
        walk_at "x"
        refine iteF ?_
        walk_at "x"
        refine .inr (.inr (.inr (.inr (.inr (.inl ((x_meth (x_var rfl ⟨x, dx, fl, rfl, s14 _ _ i.e, i.c3, x_nil ⟨x, m, f, rfl, Rr.same s14, fun H15 s15 => ?_⟩⟩))))))))
        have s15 := s14.trans s15
        walk_at "x"
        rw [decide_eq_true (rfl : (m : Int) = (m : Int))]
        walk_at "x"
        refine iteF ?_
        walk_at "x"
        refine .inr (.inr (.inr (.inr (.inr (.inl ((x_meth (x_var rfl ⟨x, dx, fl, rfl, s15 _ _ i.e, i.c1, x_cons (x_c (x_nil (u_earn (g := 0) (Rr.same s15) m6 (Nat.two_pow_pos m) fun H16 s16 => ?_)))⟩))))))))
        have s16 := s15.trans s16
        walk_at "x"
        refine ⟨_, rfl, .int _, fun H17 s17 => ?_⟩
        have s17 := s16.trans s17
        walk_at "x"
        refine iteF ?_
        walk_at "x"
        refine .inr (.inr (.inr (.inr (.inr (.inl ((x_meth (x_var rfl ⟨x, dx, fl, rfl, s17 _ _ i.e, i.c1, x_cons (x_c (x_nil (u_earn (g := 0) (Rr.same s17) m6 (Nat.two_pow_pos m) fun H18 s18 => ?_)))⟩))))))))
        rw [h0]
        walk_at "x"
        refine iteF ?_
        exact x_next ⟨⟨_, _, _, _, _, _, _, _, _, _, rfl⟩, s112.trans (s17.trans s18)⟩
      | kNet h =>
        have Rr : RuleAt A K H12 x m f := .kNet h
        obtain ⟨dx, fl, i⟩ := h.ins
        refine .inr (.inr (.inr (.inr (.inr (.inr ((x_meth (x_var rfl ⟨x, dx, fl, rfl, i.e, i.c3, x_nil ⟨x, m, f, rfl, Rr, fun H13 s13 => ?_⟩⟩))))))))
        walk_at "x"
        refine ⟨_, rfl, .int _, fun H14 s14 => ?_⟩
        have s14 := s13.trans s14
        walk_at "x"
        refine iteF ?_
        walk_at "x"
        refine .inr (.inr (.inr (.inr (.inr (.inr ((x_meth (x_var rfl ⟨x, dx, fl, rfl, s14 _ _ i.e, i.c3, x_nil ⟨x, m, f, rfl, Rr.same s14, fun H15 s15 => ?_⟩⟩))))))))
        have s15 := s14.trans s15
        walk_at "x"
        rw [decide_eq_true (rfl : (m : Int) = (m : Int))]
        walk_at "x"
        refine iteF ?_
        walk_at "x"
        refine .inr (.inr (.inr (.inr (.inr (.inr ((x_meth (x_var rfl ⟨x, dx, fl, rfl, s15 _ _ i.e, i.c1, x_cons (x_c (x_nil (u_earn (g := 0) (Rr.same s15) m6 (Nat.two_pow_pos m) fun H16 s16 => ?_)))⟩))))))))
        have s16 := s15.trans s16
        walk_at "x"
        refine ⟨_, rfl, .int _, fun H17 s17 => ?_⟩
        have s17 := s16.trans s17
        walk_at "x"
        refine iteF ?_
        walk_at "x"
        refine .inr (.inr (.inr (.inr (.inr (.inr ((x_meth (x_var rfl ⟨x, dx, fl, rfl, s17 _ _ i.e, i.c1, x_cons (x_c (x_nil (u_earn (g := 0) (Rr.same s17) m6 (Nat.two_pow_pos m) fun H18 s18 => ?_)))⟩))))))))
        rw [h0]
        walk_at "x"
        refine iteF ?_
        exact x_next ⟨⟨_, _, _, _, _, _, _, _, _, _, rfl⟩, s112.trans (s17.trans s18)⟩
    · rintro σ' H2 ⟨⟨v1, v2, v3, v4, v5, v6, v7, v8, v9, v10, rfl⟩, s2⟩
      walk_at "x"
      exact k _

end
theorem all_mk2 {l : PySem.W.OpenLaw} {w : World} {K : PySem.W.Frag} {h : Heap} {mg : Str → Option Value} {fa f_is_whole f_look_group f_whole_of f_hands_of f_look f_look_numbers f_one_pair f_pairs_of f_Rule___init__ f_Rule_hands f_Rule_earn f_Rule_reckoned f_Own___init__ f_Own_reckoned f_Pairs___init__ f_Pairs_reckoned f_Votes___init__ f_Votes_reckoned f_Plain___init__ f_Plain_reckoned f_split_off f_best_sums f_Match___init__ f_Match_reckoned f_ropes_from f_cheapest f_Net___init__ f_Net_reckoned f__law_whole f__law_rule f__law_kinds f__law_refused f__law_copy f__law_numbers f__law_pairs f__law_good f__law_odd f__law_far f__law_many_off f__law_list_off f__law_table_off f__law_pair_off f__law_pairs_off f__law_votes_off f__law_off f_law C_ShareError C_NoNumber C_NoGroup C_NoRule C_NoText C_NoTable C_Unlike C_TooMany C_NoOrder C_NoRows C_NoShares C_NoVotes C_Rule C_Own C_Pairs C_Votes C_Plain C_Match C_Net : Addr} (X : K.In h) (G : h.Ns mainGlobals mg) (hfa : mg "law" = some (.ref fa))
    {t_MOST : Tok} {d_is_whole d_look_group d_whole_of d_hands_of d_look d_look_numbers d_one_pair d_pairs_of d_Rule___init__ d_Rule_hands d_Rule_earn d_Rule_reckoned d_Own___init__ d_Own_reckoned d_Pairs___init__ d_Pairs_reckoned d_Votes___init__ d_Votes_reckoned d_Plain___init__ d_Plain_reckoned d_split_off d_best_sums d_Match___init__ d_Match_reckoned d_ropes_from d_cheapest d_Net___init__ d_Net_reckoned d__law_whole d__law_rule d__law_kinds d__law_refused d__law_copy d__law_numbers d__law_pairs d__law_good d__law_odd d__law_far d__law_many_off d__law_list_off d__law_table_off d__law_pair_off d__law_pairs_off d__law_votes_off d__law_off d_law : FuncData}
    (F_is_whole : Fun K "is_whole" "is_whole" s_is_whole f_is_whole d_is_whole)
    (F_look_group : Fun K "look_group" "look_group" s_look_group f_look_group d_look_group)
    (F_whole_of : Fun K "whole_of" "whole_of" s_whole_of f_whole_of d_whole_of)
    (F_hands_of : Fun K "hands_of" "hands_of" s_hands_of f_hands_of d_hands_of)
    (F_look : Fun K "look" "look" s_look f_look d_look)
    (F_look_numbers : Fun K "look_numbers" "look_numbers" s_look_numbers f_look_numbers d_look_numbers)
    (F_one_pair : Fun K "one_pair" "one_pair" s_one_pair f_one_pair d_one_pair)
    (F_pairs_of : Fun K "pairs_of" "pairs_of" s_pairs_of f_pairs_of d_pairs_of)
    (F_Rule___init__ : Fun K "__init__" "Rule.__init__" s_Rule___init__ f_Rule___init__ d_Rule___init__)
    (F_Rule_hands : Fun K "hands" "Rule.hands" s_Rule_hands f_Rule_hands d_Rule_hands)
    (F_Rule_earn : Fun K "earn" "Rule.earn" s_Rule_earn f_Rule_earn d_Rule_earn)
    (F_Rule_reckoned : Fun K "reckoned" "Rule.reckoned" s_Rule_reckoned f_Rule_reckoned d_Rule_reckoned)
    (F_Own___init__ : Fun K "__init__" "Own.__init__" s_Own___init__ f_Own___init__ d_Own___init__)
    (F_Own_reckoned : Fun K "reckoned" "Own.reckoned" s_Own_reckoned f_Own_reckoned d_Own_reckoned)
    (F_Pairs___init__ : Fun K "__init__" "Pairs.__init__" s_Pairs___init__ f_Pairs___init__ d_Pairs___init__)
    (F_Pairs_reckoned : Fun K "reckoned" "Pairs.reckoned" s_Pairs_reckoned f_Pairs_reckoned d_Pairs_reckoned)
    (F_Votes___init__ : Fun K "__init__" "Votes.__init__" s_Votes___init__ f_Votes___init__ d_Votes___init__)
    (F_Votes_reckoned : Fun K "reckoned" "Votes.reckoned" s_Votes_reckoned f_Votes_reckoned d_Votes_reckoned)
    (F_Plain___init__ : Fun K "__init__" "Plain.__init__" s_Plain___init__ f_Plain___init__ d_Plain___init__)
    (F_Plain_reckoned : Fun K "reckoned" "Plain.reckoned" s_Plain_reckoned f_Plain_reckoned d_Plain_reckoned)
    (F_split_off : Fun K "split_off" "split_off" s_split_off f_split_off d_split_off)
    (F_best_sums : Fun K "best_sums" "best_sums" s_best_sums f_best_sums d_best_sums)
    (F_Match___init__ : Fun K "__init__" "Match.__init__" s_Match___init__ f_Match___init__ d_Match___init__)
    (F_Match_reckoned : Fun K "reckoned" "Match.reckoned" s_Match_reckoned f_Match_reckoned d_Match_reckoned)
    (F_ropes_from : Fun K "ropes_from" "ropes_from" s_ropes_from f_ropes_from d_ropes_from)
    (F_cheapest : Fun K "cheapest" "cheapest" s_cheapest f_cheapest d_cheapest)
    (F_Net___init__ : Fun K "__init__" "Net.__init__" s_Net___init__ f_Net___init__ d_Net___init__)
    (F_Net_reckoned : Fun K "reckoned" "Net.reckoned" s_Net_reckoned f_Net_reckoned d_Net_reckoned)
    (F__law_whole : Fun K "_law_whole" "_law_whole" s__law_whole f__law_whole d__law_whole)
    (F__law_rule : Fun K "_law_rule" "_law_rule" s__law_rule f__law_rule d__law_rule)
    (F__law_kinds : Fun K "_law_kinds" "_law_kinds" s__law_kinds f__law_kinds d__law_kinds)
    (F__law_refused : Fun K "_law_refused" "_law_refused" s__law_refused f__law_refused d__law_refused)
    (F__law_copy : Fun K "_law_copy" "_law_copy" s__law_copy f__law_copy d__law_copy)
    (F__law_numbers : Fun K "_law_numbers" "_law_numbers" s__law_numbers f__law_numbers d__law_numbers)
    (F__law_pairs : Fun K "_law_pairs" "_law_pairs" s__law_pairs f__law_pairs d__law_pairs)
    (F__law_good : Fun K "_law_good" "_law_good" s__law_good f__law_good d__law_good)
    (F__law_odd : Fun K "_law_odd" "_law_odd" s__law_odd f__law_odd d__law_odd)
    (F__law_far : Fun K "_law_far" "_law_far" s__law_far f__law_far d__law_far)
    (F__law_many_off : Fun K "_law_many_off" "_law_many_off" s__law_many_off f__law_many_off d__law_many_off)
    (F__law_list_off : Fun K "_law_list_off" "_law_list_off" s__law_list_off f__law_list_off d__law_list_off)
    (F__law_table_off : Fun K "_law_table_off" "_law_table_off" s__law_table_off f__law_table_off d__law_table_off)
    (F__law_pair_off : Fun K "_law_pair_off" "_law_pair_off" s__law_pair_off f__law_pair_off d__law_pair_off)
    (F__law_pairs_off : Fun K "_law_pairs_off" "_law_pairs_off" s__law_pairs_off f__law_pairs_off d__law_pairs_off)
    (F__law_votes_off : Fun K "_law_votes_off" "_law_votes_off" s__law_votes_off f__law_votes_off d__law_votes_off)
    (F__law_off : Fun K "_law_off" "_law_off" s__law_off f__law_off d__law_off)
    (F_law : Fun K "law" "law" s_law f_law d_law)
    (a_is_whole : PySem.W.nsIn K mainGlobals "is_whole" = some (some (.ref f_is_whole)))
    (k_is_whole : PySem.W.keepIn K (.ref f_is_whole) = true)
    (a_look_group : PySem.W.nsIn K mainGlobals "look_group" = some (some (.ref f_look_group)))
    (k_look_group : PySem.W.keepIn K (.ref f_look_group) = true)
    (a_whole_of : PySem.W.nsIn K mainGlobals "whole_of" = some (some (.ref f_whole_of)))
    (k_whole_of : PySem.W.keepIn K (.ref f_whole_of) = true)
    (a_hands_of : PySem.W.nsIn K mainGlobals "hands_of" = some (some (.ref f_hands_of)))
    (k_hands_of : PySem.W.keepIn K (.ref f_hands_of) = true)
    (a_look : PySem.W.nsIn K mainGlobals "look" = some (some (.ref f_look)))
    (k_look : PySem.W.keepIn K (.ref f_look) = true)
    (a_look_numbers : PySem.W.nsIn K mainGlobals "look_numbers" = some (some (.ref f_look_numbers)))
    (k_look_numbers : PySem.W.keepIn K (.ref f_look_numbers) = true)
    (a_one_pair : PySem.W.nsIn K mainGlobals "one_pair" = some (some (.ref f_one_pair)))
    (k_one_pair : PySem.W.keepIn K (.ref f_one_pair) = true)
    (a_pairs_of : PySem.W.nsIn K mainGlobals "pairs_of" = some (some (.ref f_pairs_of)))
    (k_pairs_of : PySem.W.keepIn K (.ref f_pairs_of) = true)
    (a_Rule___init__ : PySem.W.findIn K (.ref C_Rule) "__init__" = some (some (.ref f_Rule___init__)))
    (i_Rule___init__ : PySem.W.isFn K (.ref f_Rule___init__) = true)
    (k_Rule___init__ : PySem.W.keepIn K (.ref f_Rule___init__) = true)
    (a_Rule_hands : PySem.W.findIn K (.ref C_Rule) "hands" = some (some (.ref f_Rule_hands)))
    (i_Rule_hands : PySem.W.isFn K (.ref f_Rule_hands) = true)
    (k_Rule_hands : PySem.W.keepIn K (.ref f_Rule_hands) = true)
    (a_Rule_earn : PySem.W.findIn K (.ref C_Rule) "earn" = some (some (.ref f_Rule_earn)))
    (i_Rule_earn : PySem.W.isFn K (.ref f_Rule_earn) = true)
    (k_Rule_earn : PySem.W.keepIn K (.ref f_Rule_earn) = true)
    (a_Rule_reckoned : PySem.W.findIn K (.ref C_Rule) "reckoned" = some (some (.ref f_Rule_reckoned)))
    (i_Rule_reckoned : PySem.W.isFn K (.ref f_Rule_reckoned) = true)
    (k_Rule_reckoned : PySem.W.keepIn K (.ref f_Rule_reckoned) = true)
    (a_Own___init__ : PySem.W.findIn K (.ref C_Own) "__init__" = some (some (.ref f_Own___init__)))
    (i_Own___init__ : PySem.W.isFn K (.ref f_Own___init__) = true)
    (k_Own___init__ : PySem.W.keepIn K (.ref f_Own___init__) = true)
    (a_Own_reckoned : PySem.W.findIn K (.ref C_Own) "reckoned" = some (some (.ref f_Own_reckoned)))
    (i_Own_reckoned : PySem.W.isFn K (.ref f_Own_reckoned) = true)
    (k_Own_reckoned : PySem.W.keepIn K (.ref f_Own_reckoned) = true)
    (a_Pairs___init__ : PySem.W.findIn K (.ref C_Pairs) "__init__" = some (some (.ref f_Pairs___init__)))
    (i_Pairs___init__ : PySem.W.isFn K (.ref f_Pairs___init__) = true)
    (k_Pairs___init__ : PySem.W.keepIn K (.ref f_Pairs___init__) = true)
    (a_Pairs_reckoned : PySem.W.findIn K (.ref C_Pairs) "reckoned" = some (some (.ref f_Pairs_reckoned)))
    (i_Pairs_reckoned : PySem.W.isFn K (.ref f_Pairs_reckoned) = true)
    (k_Pairs_reckoned : PySem.W.keepIn K (.ref f_Pairs_reckoned) = true)
    (a_Votes___init__ : PySem.W.findIn K (.ref C_Votes) "__init__" = some (some (.ref f_Votes___init__)))
    (i_Votes___init__ : PySem.W.isFn K (.ref f_Votes___init__) = true)
    (k_Votes___init__ : PySem.W.keepIn K (.ref f_Votes___init__) = true)
    (a_Votes_reckoned : PySem.W.findIn K (.ref C_Votes) "reckoned" = some (some (.ref f_Votes_reckoned)))
    (i_Votes_reckoned : PySem.W.isFn K (.ref f_Votes_reckoned) = true)
    (k_Votes_reckoned : PySem.W.keepIn K (.ref f_Votes_reckoned) = true)
    (a_Plain___init__ : PySem.W.findIn K (.ref C_Plain) "__init__" = some (some (.ref f_Plain___init__)))
    (i_Plain___init__ : PySem.W.isFn K (.ref f_Plain___init__) = true)
    (k_Plain___init__ : PySem.W.keepIn K (.ref f_Plain___init__) = true)
    (a_Plain_reckoned : PySem.W.findIn K (.ref C_Plain) "reckoned" = some (some (.ref f_Plain_reckoned)))
    (i_Plain_reckoned : PySem.W.isFn K (.ref f_Plain_reckoned) = true)
    (k_Plain_reckoned : PySem.W.keepIn K (.ref f_Plain_reckoned) = true)
    (a_split_off : PySem.W.nsIn K mainGlobals "split_off" = some (some (.ref f_split_off)))
    (k_split_off : PySem.W.keepIn K (.ref f_split_off) = true)
    (a_best_sums : PySem.W.nsIn K mainGlobals "best_sums" = some (some (.ref f_best_sums)))
    (k_best_sums : PySem.W.keepIn K (.ref f_best_sums) = true)
    (a_Match___init__ : PySem.W.findIn K (.ref C_Match) "__init__" = some (some (.ref f_Match___init__)))
    (i_Match___init__ : PySem.W.isFn K (.ref f_Match___init__) = true)
    (k_Match___init__ : PySem.W.keepIn K (.ref f_Match___init__) = true)
    (a_Match_reckoned : PySem.W.findIn K (.ref C_Match) "reckoned" = some (some (.ref f_Match_reckoned)))
    (i_Match_reckoned : PySem.W.isFn K (.ref f_Match_reckoned) = true)
    (k_Match_reckoned : PySem.W.keepIn K (.ref f_Match_reckoned) = true)
    (a_ropes_from : PySem.W.nsIn K mainGlobals "ropes_from" = some (some (.ref f_ropes_from)))
    (k_ropes_from : PySem.W.keepIn K (.ref f_ropes_from) = true)
    (a_cheapest : PySem.W.nsIn K mainGlobals "cheapest" = some (some (.ref f_cheapest)))
    (k_cheapest : PySem.W.keepIn K (.ref f_cheapest) = true)
    (a_Net___init__ : PySem.W.findIn K (.ref C_Net) "__init__" = some (some (.ref f_Net___init__)))
    (i_Net___init__ : PySem.W.isFn K (.ref f_Net___init__) = true)
    (k_Net___init__ : PySem.W.keepIn K (.ref f_Net___init__) = true)
    (a_Net_reckoned : PySem.W.findIn K (.ref C_Net) "reckoned" = some (some (.ref f_Net_reckoned)))
    (i_Net_reckoned : PySem.W.isFn K (.ref f_Net_reckoned) = true)
    (k_Net_reckoned : PySem.W.keepIn K (.ref f_Net_reckoned) = true)
    (a__law_whole : PySem.W.nsIn K mainGlobals "_law_whole" = some (some (.ref f__law_whole)))
    (k__law_whole : PySem.W.keepIn K (.ref f__law_whole) = true)
    (a__law_rule : PySem.W.nsIn K mainGlobals "_law_rule" = some (some (.ref f__law_rule)))
    (k__law_rule : PySem.W.keepIn K (.ref f__law_rule) = true)
    (a__law_kinds : PySem.W.nsIn K mainGlobals "_law_kinds" = some (some (.ref f__law_kinds)))
    (k__law_kinds : PySem.W.keepIn K (.ref f__law_kinds) = true)
    (a__law_refused : PySem.W.nsIn K mainGlobals "_law_refused" = some (some (.ref f__law_refused)))
    (k__law_refused : PySem.W.keepIn K (.ref f__law_refused) = true)
    (a__law_copy : PySem.W.nsIn K mainGlobals "_law_copy" = some (some (.ref f__law_copy)))
    (k__law_copy : PySem.W.keepIn K (.ref f__law_copy) = true)
    (a__law_numbers : PySem.W.nsIn K mainGlobals "_law_numbers" = some (some (.ref f__law_numbers)))
    (k__law_numbers : PySem.W.keepIn K (.ref f__law_numbers) = true)
    (a__law_pairs : PySem.W.nsIn K mainGlobals "_law_pairs" = some (some (.ref f__law_pairs)))
    (k__law_pairs : PySem.W.keepIn K (.ref f__law_pairs) = true)
    (a__law_good : PySem.W.nsIn K mainGlobals "_law_good" = some (some (.ref f__law_good)))
    (k__law_good : PySem.W.keepIn K (.ref f__law_good) = true)
    (a__law_odd : PySem.W.nsIn K mainGlobals "_law_odd" = some (some (.ref f__law_odd)))
    (k__law_odd : PySem.W.keepIn K (.ref f__law_odd) = true)
    (a__law_far : PySem.W.nsIn K mainGlobals "_law_far" = some (some (.ref f__law_far)))
    (k__law_far : PySem.W.keepIn K (.ref f__law_far) = true)
    (a__law_many_off : PySem.W.nsIn K mainGlobals "_law_many_off" = some (some (.ref f__law_many_off)))
    (k__law_many_off : PySem.W.keepIn K (.ref f__law_many_off) = true)
    (a__law_list_off : PySem.W.nsIn K mainGlobals "_law_list_off" = some (some (.ref f__law_list_off)))
    (k__law_list_off : PySem.W.keepIn K (.ref f__law_list_off) = true)
    (a__law_table_off : PySem.W.nsIn K mainGlobals "_law_table_off" = some (some (.ref f__law_table_off)))
    (k__law_table_off : PySem.W.keepIn K (.ref f__law_table_off) = true)
    (a__law_pair_off : PySem.W.nsIn K mainGlobals "_law_pair_off" = some (some (.ref f__law_pair_off)))
    (k__law_pair_off : PySem.W.keepIn K (.ref f__law_pair_off) = true)
    (a__law_pairs_off : PySem.W.nsIn K mainGlobals "_law_pairs_off" = some (some (.ref f__law_pairs_off)))
    (k__law_pairs_off : PySem.W.keepIn K (.ref f__law_pairs_off) = true)
    (a__law_votes_off : PySem.W.nsIn K mainGlobals "_law_votes_off" = some (some (.ref f__law_votes_off)))
    (k__law_votes_off : PySem.W.keepIn K (.ref f__law_votes_off) = true)
    (a__law_off : PySem.W.nsIn K mainGlobals "_law_off" = some (some (.ref f__law_off)))
    (k__law_off : PySem.W.keepIn K (.ref f__law_off) = true)
    (a_law : PySem.W.nsIn K mainGlobals "law" = some (some (.ref f_law)))
    (k_law : PySem.W.keepIn K (.ref f_law) = true)
    (ac_ShareError : PySem.W.nsIn K mainGlobals "ShareError" = some (some (.ref C_ShareError)))
    (tc_ShareError : PySem.W.typeIn K (.ref C_ShareError) = some (.type "type"))
    (ec_ShareError : PySem.W.subIn K (.ref C_ShareError) (.type "BaseException") = some true)
    (ac_NoNumber : PySem.W.nsIn K mainGlobals "NoNumber" = some (some (.ref C_NoNumber)))
    (tc_NoNumber : PySem.W.typeIn K (.ref C_NoNumber) = some (.type "type"))
    (ec_NoNumber : PySem.W.subIn K (.ref C_NoNumber) (.type "BaseException") = some true)
    (ac_NoGroup : PySem.W.nsIn K mainGlobals "NoGroup" = some (some (.ref C_NoGroup)))
    (kc_NoGroup : PySem.W.keepIn K (.ref C_NoGroup) = true)
    (ec_NoGroup : PySem.W.subIn K (.ref C_NoGroup) (.type "BaseException") = some true)
    (tc_NoGroup : PySem.W.typeIn K (.ref C_NoGroup) = some (.type "type"))
    (xc_NoGroup : PySem.W.excIn K C_NoGroup [.type "ValueError", .type "Exception", .type "BaseException", .type "object"] "ValueError.__new__" = true)
    (ac_NoRule : PySem.W.nsIn K mainGlobals "NoRule" = some (some (.ref C_NoRule)))
    (kc_NoRule : PySem.W.keepIn K (.ref C_NoRule) = true)
    (ec_NoRule : PySem.W.subIn K (.ref C_NoRule) (.type "BaseException") = some true)
    (tc_NoRule : PySem.W.typeIn K (.ref C_NoRule) = some (.type "type"))
    (xc_NoRule : PySem.W.excIn K C_NoRule [.type "ValueError", .type "Exception", .type "BaseException", .type "object"] "ValueError.__new__" = true)
    (ac_NoText : PySem.W.nsIn K mainGlobals "NoText" = some (some (.ref C_NoText)))
    (tc_NoText : PySem.W.typeIn K (.ref C_NoText) = some (.type "type"))
    (ec_NoText : PySem.W.subIn K (.ref C_NoText) (.type "BaseException") = some true)
    (ac_NoTable : PySem.W.nsIn K mainGlobals "NoTable" = some (some (.ref C_NoTable)))
    (kc_NoTable : PySem.W.keepIn K (.ref C_NoTable) = true)
    (ec_NoTable : PySem.W.subIn K (.ref C_NoTable) (.type "BaseException") = some true)
    (tc_NoTable : PySem.W.typeIn K (.ref C_NoTable) = some (.type "type"))
    (xc_NoTable : PySem.W.excIn K C_NoTable [.type "ValueError", .type "Exception", .type "BaseException", .type "object"] "ValueError.__new__" = true)
    (ac_Unlike : PySem.W.nsIn K mainGlobals "Unlike" = some (some (.ref C_Unlike)))
    (tc_Unlike : PySem.W.typeIn K (.ref C_Unlike) = some (.type "type"))
    (ec_Unlike : PySem.W.subIn K (.ref C_Unlike) (.type "BaseException") = some true)
    (ac_TooMany : PySem.W.nsIn K mainGlobals "TooMany" = some (some (.ref C_TooMany)))
    (tc_TooMany : PySem.W.typeIn K (.ref C_TooMany) = some (.type "type"))
    (ec_TooMany : PySem.W.subIn K (.ref C_TooMany) (.type "BaseException") = some true)
    (ac_NoOrder : PySem.W.nsIn K mainGlobals "NoOrder" = some (some (.ref C_NoOrder)))
    (tc_NoOrder : PySem.W.typeIn K (.ref C_NoOrder) = some (.type "type"))
    (ec_NoOrder : PySem.W.subIn K (.ref C_NoOrder) (.type "BaseException") = some true)
    (ac_NoRows : PySem.W.nsIn K mainGlobals "NoRows" = some (some (.ref C_NoRows)))
    (tc_NoRows : PySem.W.typeIn K (.ref C_NoRows) = some (.type "type"))
    (ec_NoRows : PySem.W.subIn K (.ref C_NoRows) (.type "BaseException") = some true)
    (ac_NoShares : PySem.W.nsIn K mainGlobals "NoShares" = some (some (.ref C_NoShares)))
    (tc_NoShares : PySem.W.typeIn K (.ref C_NoShares) = some (.type "type"))
    (ec_NoShares : PySem.W.subIn K (.ref C_NoShares) (.type "BaseException") = some true)
    (ac_NoVotes : PySem.W.nsIn K mainGlobals "NoVotes" = some (some (.ref C_NoVotes)))
    (tc_NoVotes : PySem.W.typeIn K (.ref C_NoVotes) = some (.type "type"))
    (ec_NoVotes : PySem.W.subIn K (.ref C_NoVotes) (.type "BaseException") = some true)
    (ac_Rule : PySem.W.nsIn K mainGlobals "Rule" = some (some (.ref C_Rule)))
    (ic_Rule : PySem.W.isClsIn K C_Rule = true)
    (tc_Rule : PySem.W.typeIn K (.ref C_Rule) = some (.type "type"))
    (sc_Rule : PySem.W.subIn K (.ref C_Rule) (.ref C_Rule) = some true)
    (ba_Rule : PySem.W.specialIn K (.ref C_Rule) "__getattribute__" = some (some (.builtin "type.__getattribute__")))
    (br_Rule : PySem.W.readsIn K C_Rule (.type "type") = true)
    (bf_Rule : PySem.W.findCls K (.ref C_Rule) (.type "type") "__init__" = some (.val (.ref f_Rule___init__)))
    (kc_Rule : PySem.W.keepIn K (.ref C_Rule) = true)
    (pg_Rule : PySem.W.plainGet K C_Rule Str.empty = true)
    (hd_Rule : PySem.W.hasDictIn K C_Rule = true)
    (po_Rule : PySem.W.plainOver K C_Rule = true)
    (sa_Rule : PySem.W.findIn K (.ref C_Rule) "__setattr__" = some (some (.builtin "object.__setattr__")))
    (mk_Rule : PySem.W.makesIn K C_Rule = true)
    (yn : PySem.W.specialIn K (.builtin "object.__class__") "__get__" = some (some (.builtin "getset_descriptor.__get__")))
    (yt : PySem.W.takesIn K (.builtin "object.__class__") = some true)
    (ya_Rule : PySem.W.findIn K (.ref C_Rule) "__class__" = some (some (.builtin "object.__class__")))
    (ym_Rule : PySem.W.mroIn K C_Rule (.type "object") = some true)
    (us_Rule_Own : PySem.W.subIn K (.ref C_Rule) (.ref C_Own) = some false)
    (us_Rule_Votes : PySem.W.subIn K (.ref C_Rule) (.ref C_Votes) = some false)
    (us_Rule_Plain : PySem.W.subIn K (.ref C_Rule) (.ref C_Plain) = some false)
    (us_Rule_Pairs : PySem.W.subIn K (.ref C_Rule) (.ref C_Pairs) = some false)
    (us_Rule_Rule : PySem.W.subIn K (.ref C_Rule) (.ref C_Rule) = some true)
    (us_Rule_Match : PySem.W.subIn K (.ref C_Rule) (.ref C_Match) = some false)
    (us_Rule_Net : PySem.W.subIn K (.ref C_Rule) (.ref C_Net) = some false)
    (na_Rule_many : PySem.W.findIn K (.ref C_Rule) "many" = some none)
    (ac_Own : PySem.W.nsIn K mainGlobals "Own" = some (some (.ref C_Own)))
    (ic_Own : PySem.W.isClsIn K C_Own = true)
    (tc_Own : PySem.W.typeIn K (.ref C_Own) = some (.type "type"))
    (sc_Own : PySem.W.subIn K (.ref C_Own) (.ref C_Own) = some true)
    (kc_Own : PySem.W.keepIn K (.ref C_Own) = true)
    (pg_Own : PySem.W.plainGet K C_Own Str.empty = true)
    (hd_Own : PySem.W.hasDictIn K C_Own = true)
    (po_Own : PySem.W.plainOver K C_Own = true)
    (sa_Own : PySem.W.findIn K (.ref C_Own) "__setattr__" = some (some (.builtin "object.__setattr__")))
    (mk_Own : PySem.W.makesIn K C_Own = true)
    (ya_Own : PySem.W.findIn K (.ref C_Own) "__class__" = some (some (.builtin "object.__class__")))
    (ym_Own : PySem.W.mroIn K C_Own (.type "object") = some true)
    (us_Own_Own : PySem.W.subIn K (.ref C_Own) (.ref C_Own) = some true)
    (us_Own_Votes : PySem.W.subIn K (.ref C_Own) (.ref C_Votes) = some false)
    (us_Own_Plain : PySem.W.subIn K (.ref C_Own) (.ref C_Plain) = some false)
    (us_Own_Pairs : PySem.W.subIn K (.ref C_Own) (.ref C_Pairs) = some false)
    (us_Own_Rule : PySem.W.subIn K (.ref C_Own) (.ref C_Rule) = some true)
    (us_Own_Match : PySem.W.subIn K (.ref C_Own) (.ref C_Match) = some false)
    (us_Own_Net : PySem.W.subIn K (.ref C_Own) (.ref C_Net) = some false)
    (in_Own_hands : PySem.W.findIn K (.ref C_Own) "hands" = some (some (.ref f_Rule_hands)))
    (in_Own_earn : PySem.W.findIn K (.ref C_Own) "earn" = some (some (.ref f_Rule_earn)))
    (na_Own_numbers : PySem.W.findIn K (.ref C_Own) "numbers" = some none)
    (na_Own_many : PySem.W.findIn K (.ref C_Own) "many" = some none)
    (ac_Pairs : PySem.W.nsIn K mainGlobals "Pairs" = some (some (.ref C_Pairs)))
    (ic_Pairs : PySem.W.isClsIn K C_Pairs = true)
    (tc_Pairs : PySem.W.typeIn K (.ref C_Pairs) = some (.type "type"))
    (sc_Pairs : PySem.W.subIn K (.ref C_Pairs) (.ref C_Pairs) = some true)
    (kc_Pairs : PySem.W.keepIn K (.ref C_Pairs) = true)
    (pg_Pairs : PySem.W.plainGet K C_Pairs Str.empty = true)
    (hd_Pairs : PySem.W.hasDictIn K C_Pairs = true)
    (po_Pairs : PySem.W.plainOver K C_Pairs = true)
    (sa_Pairs : PySem.W.findIn K (.ref C_Pairs) "__setattr__" = some (some (.builtin "object.__setattr__")))
    (mk_Pairs : PySem.W.makesIn K C_Pairs = true)
    (ya_Pairs : PySem.W.findIn K (.ref C_Pairs) "__class__" = some (some (.builtin "object.__class__")))
    (ym_Pairs : PySem.W.mroIn K C_Pairs (.type "object") = some true)
    (us_Pairs_Own : PySem.W.subIn K (.ref C_Pairs) (.ref C_Own) = some false)
    (us_Pairs_Votes : PySem.W.subIn K (.ref C_Pairs) (.ref C_Votes) = some false)
    (us_Pairs_Plain : PySem.W.subIn K (.ref C_Pairs) (.ref C_Plain) = some false)
    (us_Pairs_Pairs : PySem.W.subIn K (.ref C_Pairs) (.ref C_Pairs) = some true)
    (us_Pairs_Rule : PySem.W.subIn K (.ref C_Pairs) (.ref C_Rule) = some true)
    (us_Pairs_Match : PySem.W.subIn K (.ref C_Pairs) (.ref C_Match) = some false)
    (us_Pairs_Net : PySem.W.subIn K (.ref C_Pairs) (.ref C_Net) = some false)
    (in_Pairs_hands : PySem.W.findIn K (.ref C_Pairs) "hands" = some (some (.ref f_Rule_hands)))
    (in_Pairs_earn : PySem.W.findIn K (.ref C_Pairs) "earn" = some (some (.ref f_Rule_earn)))
    (na_Pairs_pairs : PySem.W.findIn K (.ref C_Pairs) "pairs" = some none)
    (na_Pairs_many : PySem.W.findIn K (.ref C_Pairs) "many" = some none)
    (ac_Votes : PySem.W.nsIn K mainGlobals "Votes" = some (some (.ref C_Votes)))
    (ic_Votes : PySem.W.isClsIn K C_Votes = true)
    (tc_Votes : PySem.W.typeIn K (.ref C_Votes) = some (.type "type"))
    (sc_Votes : PySem.W.subIn K (.ref C_Votes) (.ref C_Votes) = some true)
    (kc_Votes : PySem.W.keepIn K (.ref C_Votes) = true)
    (pg_Votes : PySem.W.plainGet K C_Votes Str.empty = true)
    (hd_Votes : PySem.W.hasDictIn K C_Votes = true)
    (po_Votes : PySem.W.plainOver K C_Votes = true)
    (sa_Votes : PySem.W.findIn K (.ref C_Votes) "__setattr__" = some (some (.builtin "object.__setattr__")))
    (mk_Votes : PySem.W.makesIn K C_Votes = true)
    (ya_Votes : PySem.W.findIn K (.ref C_Votes) "__class__" = some (some (.builtin "object.__class__")))
    (ym_Votes : PySem.W.mroIn K C_Votes (.type "object") = some true)
    (us_Votes_Own : PySem.W.subIn K (.ref C_Votes) (.ref C_Own) = some false)
    (us_Votes_Votes : PySem.W.subIn K (.ref C_Votes) (.ref C_Votes) = some true)
    (us_Votes_Plain : PySem.W.subIn K (.ref C_Votes) (.ref C_Plain) = some false)
    (us_Votes_Pairs : PySem.W.subIn K (.ref C_Votes) (.ref C_Pairs) = some false)
    (us_Votes_Rule : PySem.W.subIn K (.ref C_Votes) (.ref C_Rule) = some true)
    (us_Votes_Match : PySem.W.subIn K (.ref C_Votes) (.ref C_Match) = some false)
    (us_Votes_Net : PySem.W.subIn K (.ref C_Votes) (.ref C_Net) = some false)
    (in_Votes_hands : PySem.W.findIn K (.ref C_Votes) "hands" = some (some (.ref f_Rule_hands)))
    (in_Votes_earn : PySem.W.findIn K (.ref C_Votes) "earn" = some (some (.ref f_Rule_earn)))
    (na_Votes_quota : PySem.W.findIn K (.ref C_Votes) "quota" = some none)
    (na_Votes_prize : PySem.W.findIn K (.ref C_Votes) "prize" = some none)
    (na_Votes_weights : PySem.W.findIn K (.ref C_Votes) "weights" = some none)
    (na_Votes_many : PySem.W.findIn K (.ref C_Votes) "many" = some none)
    (ac_Plain : PySem.W.nsIn K mainGlobals "Plain" = some (some (.ref C_Plain)))
    (ic_Plain : PySem.W.isClsIn K C_Plain = true)
    (tc_Plain : PySem.W.typeIn K (.ref C_Plain) = some (.type "type"))
    (sc_Plain : PySem.W.subIn K (.ref C_Plain) (.ref C_Plain) = some true)
    (kc_Plain : PySem.W.keepIn K (.ref C_Plain) = true)
    (pg_Plain : PySem.W.plainGet K C_Plain Str.empty = true)
    (hd_Plain : PySem.W.hasDictIn K C_Plain = true)
    (po_Plain : PySem.W.plainOver K C_Plain = true)
    (sa_Plain : PySem.W.findIn K (.ref C_Plain) "__setattr__" = some (some (.builtin "object.__setattr__")))
    (mk_Plain : PySem.W.makesIn K C_Plain = true)
    (ya_Plain : PySem.W.findIn K (.ref C_Plain) "__class__" = some (some (.builtin "object.__class__")))
    (ym_Plain : PySem.W.mroIn K C_Plain (.type "object") = some true)
    (us_Plain_Own : PySem.W.subIn K (.ref C_Plain) (.ref C_Own) = some false)
    (us_Plain_Votes : PySem.W.subIn K (.ref C_Plain) (.ref C_Votes) = some false)
    (us_Plain_Plain : PySem.W.subIn K (.ref C_Plain) (.ref C_Plain) = some true)
    (us_Plain_Pairs : PySem.W.subIn K (.ref C_Plain) (.ref C_Pairs) = some false)
    (us_Plain_Rule : PySem.W.subIn K (.ref C_Plain) (.ref C_Rule) = some true)
    (us_Plain_Match : PySem.W.subIn K (.ref C_Plain) (.ref C_Match) = some false)
    (us_Plain_Net : PySem.W.subIn K (.ref C_Plain) (.ref C_Net) = some false)
    (in_Plain_hands : PySem.W.findIn K (.ref C_Plain) "hands" = some (some (.ref f_Rule_hands)))
    (in_Plain_earn : PySem.W.findIn K (.ref C_Plain) "earn" = some (some (.ref f_Rule_earn)))
    (na_Plain_row : PySem.W.findIn K (.ref C_Plain) "row" = some none)
    (na_Plain_many : PySem.W.findIn K (.ref C_Plain) "many" = some none)
    (ac_Match : PySem.W.nsIn K mainGlobals "Match" = some (some (.ref C_Match)))
    (ic_Match : PySem.W.isClsIn K C_Match = true)
    (tc_Match : PySem.W.typeIn K (.ref C_Match) = some (.type "type"))
    (sc_Match : PySem.W.subIn K (.ref C_Match) (.ref C_Match) = some true)
    (kc_Match : PySem.W.keepIn K (.ref C_Match) = true)
    (pg_Match : PySem.W.plainGet K C_Match Str.empty = true)
    (hd_Match : PySem.W.hasDictIn K C_Match = true)
    (po_Match : PySem.W.plainOver K C_Match = true)
    (sa_Match : PySem.W.findIn K (.ref C_Match) "__setattr__" = some (some (.builtin "object.__setattr__")))
    (mk_Match : PySem.W.makesIn K C_Match = true)
    (ya_Match : PySem.W.findIn K (.ref C_Match) "__class__" = some (some (.builtin "object.__class__")))
    (ym_Match : PySem.W.mroIn K C_Match (.type "object") = some true)
    (us_Match_Own : PySem.W.subIn K (.ref C_Match) (.ref C_Own) = some false)
    (us_Match_Votes : PySem.W.subIn K (.ref C_Match) (.ref C_Votes) = some false)
    (us_Match_Plain : PySem.W.subIn K (.ref C_Match) (.ref C_Plain) = some false)
    (us_Match_Pairs : PySem.W.subIn K (.ref C_Match) (.ref C_Pairs) = some false)
    (us_Match_Rule : PySem.W.subIn K (.ref C_Match) (.ref C_Rule) = some true)
    (us_Match_Match : PySem.W.subIn K (.ref C_Match) (.ref C_Match) = some true)
    (us_Match_Net : PySem.W.subIn K (.ref C_Match) (.ref C_Net) = some false)
    (in_Match_hands : PySem.W.findIn K (.ref C_Match) "hands" = some (some (.ref f_Rule_hands)))
    (in_Match_earn : PySem.W.findIn K (.ref C_Match) "earn" = some (some (.ref f_Rule_earn)))
    (na_Match_pairs : PySem.W.findIn K (.ref C_Match) "pairs" = some none)
    (na_Match_prices : PySem.W.findIn K (.ref C_Match) "prices" = some none)
    (na_Match_sums : PySem.W.findIn K (.ref C_Match) "sums" = some none)
    (na_Match_many : PySem.W.findIn K (.ref C_Match) "many" = some none)
    (ac_Net : PySem.W.nsIn K mainGlobals "Net" = some (some (.ref C_Net)))
    (ic_Net : PySem.W.isClsIn K C_Net = true)
    (tc_Net : PySem.W.typeIn K (.ref C_Net) = some (.type "type"))
    (sc_Net : PySem.W.subIn K (.ref C_Net) (.ref C_Net) = some true)
    (kc_Net : PySem.W.keepIn K (.ref C_Net) = true)
    (pg_Net : PySem.W.plainGet K C_Net Str.empty = true)
    (hd_Net : PySem.W.hasDictIn K C_Net = true)
    (po_Net : PySem.W.plainOver K C_Net = true)
    (sa_Net : PySem.W.findIn K (.ref C_Net) "__setattr__" = some (some (.builtin "object.__setattr__")))
    (mk_Net : PySem.W.makesIn K C_Net = true)
    (ya_Net : PySem.W.findIn K (.ref C_Net) "__class__" = some (some (.builtin "object.__class__")))
    (ym_Net : PySem.W.mroIn K C_Net (.type "object") = some true)
    (us_Net_Own : PySem.W.subIn K (.ref C_Net) (.ref C_Own) = some false)
    (us_Net_Votes : PySem.W.subIn K (.ref C_Net) (.ref C_Votes) = some false)
    (us_Net_Plain : PySem.W.subIn K (.ref C_Net) (.ref C_Plain) = some false)
    (us_Net_Pairs : PySem.W.subIn K (.ref C_Net) (.ref C_Pairs) = some false)
    (us_Net_Rule : PySem.W.subIn K (.ref C_Net) (.ref C_Rule) = some true)
    (us_Net_Match : PySem.W.subIn K (.ref C_Net) (.ref C_Match) = some false)
    (us_Net_Net : PySem.W.subIn K (.ref C_Net) (.ref C_Net) = some true)
    (in_Net_hands : PySem.W.findIn K (.ref C_Net) "hands" = some (some (.ref f_Rule_hands)))
    (in_Net_earn : PySem.W.findIn K (.ref C_Net) "earn" = some (some (.ref f_Rule_earn)))
    (na_Net_costs : PySem.W.findIn K (.ref C_Net) "costs" = some none)
    (na_Net_ropes : PySem.W.findIn K (.ref C_Net) "ropes" = some none)
    (na_Net_many : PySem.W.findIn K (.ref C_Net) "many" = some none)
    (ic_NoGroup : PySem.W.isClsIn K C_NoGroup = true)
    (sc_NoGroup : PySem.W.subIn K (.ref C_NoGroup) (.ref C_NoGroup) = some true)
    (ic_NoNumber : PySem.W.isClsIn K C_NoNumber = true)
    (sc_NoNumber : PySem.W.subIn K (.ref C_NoNumber) (.ref C_NoNumber) = some true)
    (ic_NoOrder : PySem.W.isClsIn K C_NoOrder = true)
    (sc_NoOrder : PySem.W.subIn K (.ref C_NoOrder) (.ref C_NoOrder) = some true)
    (ic_NoRows : PySem.W.isClsIn K C_NoRows = true)
    (sc_NoRows : PySem.W.subIn K (.ref C_NoRows) (.ref C_NoRows) = some true)
    (ic_NoRule : PySem.W.isClsIn K C_NoRule = true)
    (sc_NoRule : PySem.W.subIn K (.ref C_NoRule) (.ref C_NoRule) = some true)
    (ic_NoShares : PySem.W.isClsIn K C_NoShares = true)
    (sc_NoShares : PySem.W.subIn K (.ref C_NoShares) (.ref C_NoShares) = some true)
    (ic_NoTable : PySem.W.isClsIn K C_NoTable = true)
    (sc_NoTable : PySem.W.subIn K (.ref C_NoTable) (.ref C_NoTable) = some true)
    (ic_NoText : PySem.W.isClsIn K C_NoText = true)
    (sc_NoText : PySem.W.subIn K (.ref C_NoText) (.ref C_NoText) = some true)
    (ic_NoVotes : PySem.W.isClsIn K C_NoVotes = true)
    (sc_NoVotes : PySem.W.subIn K (.ref C_NoVotes) (.ref C_NoVotes) = some true)
    (ic_ShareError : PySem.W.isClsIn K C_ShareError = true)
    (sc_ShareError : PySem.W.subIn K (.ref C_ShareError) (.ref C_ShareError) = some true)
    (ic_TooMany : PySem.W.isClsIn K C_TooMany = true)
    (sc_TooMany : PySem.W.subIn K (.ref C_TooMany) (.ref C_TooMany) = some true)
    (ic_Unlike : PySem.W.isClsIn K C_Unlike = true)
    (sc_Unlike : PySem.W.subIn K (.ref C_Unlike) (.ref C_Unlike) = some true)
    (xg_NoGroup : PySem.W.findIn K (.ref C_NoGroup) "__getattribute__" = some (some (.builtin "BaseException.__getattribute__")))
    (xk_NoGroup : PySem.W.findIn K (.ref C_NoGroup) "__getattr__" = some none)
    (xh_NoGroup : PySem.W.hasDictIn K C_NoGroup = true)
    (xa_NoGroup : PySem.W.findIn K (.ref C_NoGroup) "__class__" = some (some (.builtin "object.__class__")))
    (xm_NoGroup : PySem.W.mroIn K C_NoGroup (.type "object") = some true)
    (xn : PySem.W.specialIn K (.builtin "object.__class__") "__get__" = some (some (.builtin "getset_descriptor.__get__")))
    (xt : PySem.W.takesIn K (.builtin "object.__class__") = some true)
    (us_NoGroup_NoGroup : PySem.W.subIn K (.ref C_NoGroup) (.ref C_NoGroup) = some true)
    (us_NoGroup_NoNumber : PySem.W.subIn K (.ref C_NoGroup) (.ref C_NoNumber) = some false)
    (us_NoGroup_NoOrder : PySem.W.subIn K (.ref C_NoGroup) (.ref C_NoOrder) = some false)
    (us_NoGroup_NoRows : PySem.W.subIn K (.ref C_NoGroup) (.ref C_NoRows) = some false)
    (us_NoGroup_NoRule : PySem.W.subIn K (.ref C_NoGroup) (.ref C_NoRule) = some false)
    (us_NoGroup_NoShares : PySem.W.subIn K (.ref C_NoGroup) (.ref C_NoShares) = some false)
    (us_NoGroup_NoTable : PySem.W.subIn K (.ref C_NoGroup) (.ref C_NoTable) = some false)
    (us_NoGroup_NoText : PySem.W.subIn K (.ref C_NoGroup) (.ref C_NoText) = some false)
    (us_NoGroup_NoVotes : PySem.W.subIn K (.ref C_NoGroup) (.ref C_NoVotes) = some false)
    (us_NoGroup_ShareError : PySem.W.subIn K (.ref C_NoGroup) (.ref C_ShareError) = some true)
    (us_NoGroup_TooMany : PySem.W.subIn K (.ref C_NoGroup) (.ref C_TooMany) = some false)
    (us_NoGroup_Unlike : PySem.W.subIn K (.ref C_NoGroup) (.ref C_Unlike) = some false)
    (uv_NoGroup : PySem.W.subIn K (.ref C_NoGroup) (.type "ValueError") = some true)
    (hh_NoGroup_ShareError : PySem.W.hasDictIn K C_ShareError = true)
    (xg_NoTable : PySem.W.findIn K (.ref C_NoTable) "__getattribute__" = some (some (.builtin "BaseException.__getattribute__")))
    (xk_NoTable : PySem.W.findIn K (.ref C_NoTable) "__getattr__" = some none)
    (xh_NoTable : PySem.W.hasDictIn K C_NoTable = true)
    (xa_NoTable : PySem.W.findIn K (.ref C_NoTable) "__class__" = some (some (.builtin "object.__class__")))
    (xm_NoTable : PySem.W.mroIn K C_NoTable (.type "object") = some true)
    (us_NoTable_NoGroup : PySem.W.subIn K (.ref C_NoTable) (.ref C_NoGroup) = some false)
    (us_NoTable_NoNumber : PySem.W.subIn K (.ref C_NoTable) (.ref C_NoNumber) = some false)
    (us_NoTable_NoOrder : PySem.W.subIn K (.ref C_NoTable) (.ref C_NoOrder) = some false)
    (us_NoTable_NoRows : PySem.W.subIn K (.ref C_NoTable) (.ref C_NoRows) = some false)
    (us_NoTable_NoRule : PySem.W.subIn K (.ref C_NoTable) (.ref C_NoRule) = some false)
    (us_NoTable_NoShares : PySem.W.subIn K (.ref C_NoTable) (.ref C_NoShares) = some false)
    (us_NoTable_NoTable : PySem.W.subIn K (.ref C_NoTable) (.ref C_NoTable) = some true)
    (us_NoTable_NoText : PySem.W.subIn K (.ref C_NoTable) (.ref C_NoText) = some false)
    (us_NoTable_NoVotes : PySem.W.subIn K (.ref C_NoTable) (.ref C_NoVotes) = some false)
    (us_NoTable_ShareError : PySem.W.subIn K (.ref C_NoTable) (.ref C_ShareError) = some true)
    (us_NoTable_TooMany : PySem.W.subIn K (.ref C_NoTable) (.ref C_TooMany) = some false)
    (us_NoTable_Unlike : PySem.W.subIn K (.ref C_NoTable) (.ref C_Unlike) = some false)
    (uv_NoTable : PySem.W.subIn K (.ref C_NoTable) (.type "ValueError") = some true)
    (hh_NoTable_ShareError : PySem.W.hasDictIn K C_ShareError = true)
    (xg_NoRule : PySem.W.findIn K (.ref C_NoRule) "__getattribute__" = some (some (.builtin "BaseException.__getattribute__")))
    (xk_NoRule : PySem.W.findIn K (.ref C_NoRule) "__getattr__" = some none)
    (xh_NoRule : PySem.W.hasDictIn K C_NoRule = true)
    (xa_NoRule : PySem.W.findIn K (.ref C_NoRule) "__class__" = some (some (.builtin "object.__class__")))
    (xm_NoRule : PySem.W.mroIn K C_NoRule (.type "object") = some true)
    (us_NoRule_NoGroup : PySem.W.subIn K (.ref C_NoRule) (.ref C_NoGroup) = some false)
    (us_NoRule_NoNumber : PySem.W.subIn K (.ref C_NoRule) (.ref C_NoNumber) = some false)
    (us_NoRule_NoOrder : PySem.W.subIn K (.ref C_NoRule) (.ref C_NoOrder) = some false)
    (us_NoRule_NoRows : PySem.W.subIn K (.ref C_NoRule) (.ref C_NoRows) = some false)
    (us_NoRule_NoRule : PySem.W.subIn K (.ref C_NoRule) (.ref C_NoRule) = some true)
    (us_NoRule_NoShares : PySem.W.subIn K (.ref C_NoRule) (.ref C_NoShares) = some false)
    (us_NoRule_NoTable : PySem.W.subIn K (.ref C_NoRule) (.ref C_NoTable) = some false)
    (us_NoRule_NoText : PySem.W.subIn K (.ref C_NoRule) (.ref C_NoText) = some false)
    (us_NoRule_NoVotes : PySem.W.subIn K (.ref C_NoRule) (.ref C_NoVotes) = some false)
    (us_NoRule_ShareError : PySem.W.subIn K (.ref C_NoRule) (.ref C_ShareError) = some true)
    (us_NoRule_TooMany : PySem.W.subIn K (.ref C_NoRule) (.ref C_TooMany) = some false)
    (us_NoRule_Unlike : PySem.W.subIn K (.ref C_NoRule) (.ref C_Unlike) = some false)
    (uv_NoRule : PySem.W.subIn K (.ref C_NoRule) (.type "ValueError") = some true)
    (hh_NoRule_ShareError : PySem.W.hasDictIn K C_ShareError = true)
    (z_ValueError : PySem.W.nsIn K mainGlobals "ValueError" = some none)
    (z_abs : PySem.W.nsIn K mainGlobals "abs" = some none)
    (z_bool : PySem.W.nsIn K mainGlobals "bool" = some none)
    (z_int : PySem.W.nsIn K mainGlobals "int" = some none)
    (z_isinstance : PySem.W.nsIn K mainGlobals "isinstance" = some none)
    (z_len : PySem.W.nsIn K mainGlobals "len" = some none)
    (z_list : PySem.W.nsIn K mainGlobals "list" = some none)
    (z_max : PySem.W.nsIn K mainGlobals "max" = some none)
    (z_min : PySem.W.nsIn K mainGlobals "min" = some none)
    (z_range : PySem.W.nsIn K mainGlobals "range" = some none)
    (z_sorted : PySem.W.nsIn K mainGlobals "sorted" = some none)
    (z_sum : PySem.W.nsIn K mainGlobals "sum" = some none)
    (z_tuple : PySem.W.nsIn K mainGlobals "tuple" = some none)
    (cm_MOST : mg "MOST" = some (.int 6 t_MOST))
    : ∃ fd : FuncData, (∀ (s : Shared) (v : Value), BindsTo s fd ⟨[v], []⟩ [("_law_script", v)]) ∧ ∀ base : Heap, K.In base → base.Ns mainGlobals mg → FnOk l.prog w K mg base (L2.CX l.prog w) 10 fa fd ["_law_script"] (sp_law K) := by
  have e := hfa.symm.trans (PySem.W.mg_of X G a_law)
  cases e
  obtain ⟨oc, od, kV, doc, pm, an, cdv, ct, osl, rfl, lk, hcd⟩ := id F_law.ex
  have T : Txt K mg ⟨f_is_whole, d_is_whole, f_look_group, d_look_group, f_whole_of, d_whole_of, f_hands_of, d_hands_of, f_look, d_look, f_look_numbers, d_look_numbers, f_one_pair, d_one_pair, f_pairs_of, d_pairs_of, f_Rule___init__, d_Rule___init__, f_Rule_hands, d_Rule_hands, f_Rule_earn, d_Rule_earn, f_Rule_reckoned, d_Rule_reckoned, f_Own___init__, d_Own___init__, f_Own_reckoned, d_Own_reckoned, f_Pairs___init__, d_Pairs___init__, f_Pairs_reckoned, d_Pairs_reckoned, f_Votes___init__, d_Votes___init__, f_Votes_reckoned, d_Votes_reckoned, f_Plain___init__, d_Plain___init__, f_Plain_reckoned, d_Plain_reckoned, f_split_off, d_split_off, f_best_sums, d_best_sums, f_Match___init__, d_Match___init__, f_Match_reckoned, d_Match_reckoned, f_ropes_from, d_ropes_from, f_cheapest, d_cheapest, f_Net___init__, d_Net___init__, f_Net_reckoned, d_Net_reckoned, f__law_whole, d__law_whole, f__law_rule, d__law_rule, f__law_kinds, d__law_kinds, f__law_refused, d__law_refused, f__law_copy, d__law_copy, f__law_numbers, d__law_numbers, f__law_pairs, d__law_pairs, f__law_good, d__law_good, f__law_odd, d__law_odd, f__law_far, d__law_far, f__law_many_off, d__law_many_off, f__law_list_off, d__law_list_off, f__law_table_off, d__law_table_off, f__law_pair_off, d__law_pair_off, f__law_pairs_off, d__law_pairs_off, f__law_votes_off, d__law_votes_off, f__law_off, d__law_off, fa, _, C_ShareError, C_NoNumber, C_NoGroup, C_NoRule, C_NoText, C_NoTable, C_Unlike, C_TooMany, C_NoOrder, C_NoRows, C_NoShares, C_NoVotes, C_Rule, C_Own, C_Pairs, C_Votes, C_Plain, C_Match, C_Net, t_MOST⟩ := {
    F_is_whole := F_is_whole
    b_is_whole := F_is_whole.binds (ps := ["thing"]) fun _ _ _ _ _ _ us hl => match us, hl with | [_], _ => rfl
    g_is_whole := PySem.W.mg_of X G a_is_whole
    F_look_group := F_look_group
    b_look_group := F_look_group.binds (ps := ["group", "least", "greatest"]) fun _ _ _ _ _ _ us hl => match us, hl with | [_, _, _], _ => rfl
    g_look_group := PySem.W.mg_of X G a_look_group
    F_whole_of := F_whole_of
    b_whole_of := F_whole_of.binds (ps := ["many"]) fun _ _ _ _ _ _ us hl => match us, hl with | [_], _ => rfl
    g_whole_of := PySem.W.mg_of X G a_whole_of
    F_hands_of := F_hands_of
    b_hands_of := F_hands_of.binds (ps := ["group"]) fun _ _ _ _ _ _ us hl => match us, hl with | [_], _ => rfl
    g_hands_of := PySem.W.mg_of X G a_hands_of
    F_look := F_look
    b_look := F_look.binds (ps := ["table"]) fun _ _ _ _ _ _ us hl => match us, hl with | [_], _ => rfl
    g_look := PySem.W.mg_of X G a_look
    F_look_numbers := F_look_numbers
    b_look_numbers := F_look_numbers.binds (ps := ["numbers"]) fun _ _ _ _ _ _ us hl => match us, hl with | [_], _ => rfl
    g_look_numbers := PySem.W.mg_of X G a_look_numbers
    F_one_pair := F_one_pair
    b_one_pair := F_one_pair.binds (ps := ["many", "pair"]) fun _ _ _ _ _ _ us hl => match us, hl with | [_, _], _ => rfl
    g_one_pair := PySem.W.mg_of X G a_one_pair
    F_pairs_of := F_pairs_of
    b_pairs_of := F_pairs_of.binds (ps := ["many", "pairs"]) fun _ _ _ _ _ _ us hl => match us, hl with | [_, _], _ => rfl
    g_pairs_of := PySem.W.mg_of X G a_pairs_of
    F_Rule___init__ := F_Rule___init__
    b_Rule___init__ := F_Rule___init__.binds (ps := ["self", "many"]) fun _ _ _ _ _ _ us hl => match us, hl with | [_, _], _ => rfl
    F_Rule_hands := F_Rule_hands
    b_Rule_hands := F_Rule_hands.binds (ps := ["self"]) fun _ _ _ _ _ _ us hl => match us, hl with | [_], _ => rfl
    F_Rule_earn := F_Rule_earn
    b_Rule_earn := F_Rule_earn.binds (ps := ["self", "group"]) fun _ _ _ _ _ _ us hl => match us, hl with | [_, _], _ => rfl
    F_Rule_reckoned := F_Rule_reckoned
    b_Rule_reckoned := F_Rule_reckoned.binds (ps := ["self", "group"]) fun _ _ _ _ _ _ us hl => match us, hl with | [_, _], _ => rfl
    F_Own___init__ := F_Own___init__
    b_Own___init__ := F_Own___init__.binds (ps := ["self", "numbers"]) fun _ _ _ _ _ _ us hl => match us, hl with | [_, _], _ => rfl
    F_Own_reckoned := F_Own_reckoned
    b_Own_reckoned := F_Own_reckoned.binds (ps := ["self", "group"]) fun _ _ _ _ _ _ us hl => match us, hl with | [_, _], _ => rfl
    F_Pairs___init__ := F_Pairs___init__
    b_Pairs___init__ := F_Pairs___init__.binds (ps := ["self", "many", "pairs"]) fun _ _ _ _ _ _ us hl => match us, hl with | [_, _, _], _ => rfl
    F_Pairs_reckoned := F_Pairs_reckoned
    b_Pairs_reckoned := F_Pairs_reckoned.binds (ps := ["self", "group"]) fun _ _ _ _ _ _ us hl => match us, hl with | [_, _], _ => rfl
    F_Votes___init__ := F_Votes___init__
    b_Votes___init__ := F_Votes___init__.binds (ps := ["self", "quota", "prize", "weights"]) fun _ _ _ _ _ _ us hl => match us, hl with | [_, _, _, _], _ => rfl
    F_Votes_reckoned := F_Votes_reckoned
    b_Votes_reckoned := F_Votes_reckoned.binds (ps := ["self", "group"]) fun _ _ _ _ _ _ us hl => match us, hl with | [_, _], _ => rfl
    F_Plain___init__ := F_Plain___init__
    b_Plain___init__ := F_Plain___init__.binds (ps := ["self", "table"]) fun _ _ _ _ _ _ us hl => match us, hl with | [_, _], _ => rfl
    F_Plain_reckoned := F_Plain_reckoned
    b_Plain_reckoned := F_Plain_reckoned.binds (ps := ["self", "group"]) fun _ _ _ _ _ _ us hl => match us, hl with | [_, _], _ => rfl
    F_split_off := F_split_off
    b_split_off := F_split_off.binds (ps := ["group"]) fun _ _ _ _ _ _ us hl => match us, hl with | [_], _ => rfl
    g_split_off := PySem.W.mg_of X G a_split_off
    F_best_sums := F_best_sums
    b_best_sums := F_best_sums.binds (ps := ["many", "numbers"]) fun _ _ _ _ _ _ us hl => match us, hl with | [_, _], _ => rfl
    g_best_sums := PySem.W.mg_of X G a_best_sums
    F_Match___init__ := F_Match___init__
    b_Match___init__ := F_Match___init__.binds (ps := ["self", "many", "pairs"]) fun _ _ _ _ _ _ us hl => match us, hl with | [_, _, _], _ => rfl
    F_Match_reckoned := F_Match_reckoned
    b_Match_reckoned := F_Match_reckoned.binds (ps := ["self", "group"]) fun _ _ _ _ _ _ us hl => match us, hl with | [_, _], _ => rfl
    F_ropes_from := F_ropes_from
    b_ropes_from := F_ropes_from.binds (ps := ["costs", "ropes", "joined", "hand"]) fun _ _ _ _ _ _ us hl => match us, hl with | [_, _, _, _], _ => rfl
    g_ropes_from := PySem.W.mg_of X G a_ropes_from
    F_cheapest := F_cheapest
    b_cheapest := F_cheapest.binds (ps := ["costs", "ropes", "group"]) fun _ _ _ _ _ _ us hl => match us, hl with | [_, _, _], _ => rfl
    g_cheapest := PySem.W.mg_of X G a_cheapest
    F_Net___init__ := F_Net___init__
    b_Net___init__ := F_Net___init__.binds (ps := ["self", "costs", "ropes"]) fun _ _ _ _ _ _ us hl => match us, hl with | [_, _, _], _ => rfl
    F_Net_reckoned := F_Net_reckoned
    b_Net_reckoned := F_Net_reckoned.binds (ps := ["self", "group"]) fun _ _ _ _ _ _ us hl => match us, hl with | [_, _], _ => rfl
    F__law_whole := F__law_whole
    b__law_whole := F__law_whole.binds (ps := ["_law_found"]) fun _ _ _ _ _ _ us hl => match us, hl with | [_], _ => rfl
    g__law_whole := PySem.W.mg_of X G a__law_whole
    F__law_rule := F__law_rule
    b__law_rule := F__law_rule.binds (ps := ["_law_kind", "_law_parts"]) fun _ _ _ _ _ _ us hl => match us, hl with | [_, _], _ => rfl
    g__law_rule := PySem.W.mg_of X G a__law_rule
    F__law_kinds := F__law_kinds
    b__law_kinds := F__law_kinds.binds (ps := ["_law_rule_here"]) fun _ _ _ _ _ _ us hl => match us, hl with | [_], _ => rfl
    g__law_kinds := PySem.W.mg_of X G a__law_kinds
    F__law_refused := F__law_refused
    b__law_refused := F__law_refused.binds (ps := ["_law_kind", "_law_parts"]) fun _ _ _ _ _ _ us hl => match us, hl with | [_, _], _ => rfl
    g__law_refused := PySem.W.mg_of X G a__law_refused
    F__law_copy := F__law_copy
    b__law_copy := F__law_copy.binds (ps := ["_law_parts"]) fun _ _ _ _ _ _ us hl => match us, hl with | [_], _ => rfl
    g__law_copy := PySem.W.mg_of X G a__law_copy
    F__law_numbers := F__law_numbers
    b__law_numbers := F__law_numbers.binds (ps := ["_law_many", "_law_number"]) fun _ _ _ _ _ _ us hl => match us, hl with | [_, _], _ => rfl
    g__law_numbers := PySem.W.mg_of X G a__law_numbers
    F__law_pairs := F__law_pairs
    b__law_pairs := F__law_pairs.binds (ps := ["_law_many", "_law_number"]) fun _ _ _ _ _ _ us hl => match us, hl with | [_, _], _ => rfl
    g__law_pairs := PySem.W.mg_of X G a__law_pairs
    F__law_good := F__law_good
    b__law_good := F__law_good.binds (ps := ["_law_kind", "_law_many", "_law_number"]) fun _ _ _ _ _ _ us hl => match us, hl with | [_, _, _], _ => rfl
    g__law_good := PySem.W.mg_of X G a__law_good
    F__law_odd := F__law_odd
    b__law_odd := F__law_odd.binds (ps := ["_law_number"]) fun _ _ _ _ _ _ us hl => match us, hl with | [_], _ => rfl
    g__law_odd := PySem.W.mg_of X G a__law_odd
    F__law_far := F__law_far
    b__law_far := F__law_far.binds (ps := ["_law_number"]) fun _ _ _ _ _ _ us hl => match us, hl with | [_], _ => rfl
    g__law_far := PySem.W.mg_of X G a__law_far
    F__law_many_off := F__law_many_off
    b__law_many_off := F__law_many_off.binds (ps := ["_law_number"]) fun _ _ _ _ _ _ us hl => match us, hl with | [_], _ => rfl
    g__law_many_off := PySem.W.mg_of X G a__law_many_off
    F__law_list_off := F__law_list_off
    b__law_list_off := F__law_list_off.binds (ps := ["_law_row", "_law_number", "_law_low"]) fun _ _ _ _ _ _ us hl => match us, hl with | [_, _, _], _ => rfl
    g__law_list_off := PySem.W.mg_of X G a__law_list_off
    F__law_table_off := F__law_table_off
    b__law_table_off := F__law_table_off.binds (ps := ["_law_row", "_law_number"]) fun _ _ _ _ _ _ us hl => match us, hl with | [_, _], _ => rfl
    g__law_table_off := PySem.W.mg_of X G a__law_table_off
    F__law_pair_off := F__law_pair_off
    b__law_pair_off := F__law_pair_off.binds (ps := ["_law_many", "_law_number", "_law_low"]) fun _ _ _ _ _ _ us hl => match us, hl with | [_, _, _], _ => rfl
    g__law_pair_off := PySem.W.mg_of X G a__law_pair_off
    F__law_pairs_off := F__law_pairs_off
    b__law_pairs_off := F__law_pairs_off.binds (ps := ["_law_many", "_law_pairs_here", "_law_number", "_law_low"]) fun _ _ _ _ _ _ us hl => match us, hl with | [_, _, _, _], _ => rfl
    g__law_pairs_off := PySem.W.mg_of X G a__law_pairs_off
    F__law_votes_off := F__law_votes_off
    b__law_votes_off := F__law_votes_off.binds (ps := ["_law_parts", "_law_number"]) fun _ _ _ _ _ _ us hl => match us, hl with | [_, _], _ => rfl
    g__law_votes_off := PySem.W.mg_of X G a__law_votes_off
    F__law_off := F__law_off
    b__law_off := F__law_off.binds (ps := ["_law_kind", "_law_many", "_law_parts", "_law_number"]) fun _ _ _ _ _ _ us hl => match us, hl with | [_, _, _, _], _ => rfl
    g__law_off := PySem.W.mg_of X G a__law_off
    F_law := F_law
    b_law := F_law.binds (ps := ["_law_script"]) fun _ _ _ _ _ _ us hl => match us, hl with | [_], _ => rfl
    g_law := PySem.W.mg_of X G a_law
    g_ShareError := PySem.W.mg_of X G ac_ShareError
    g_NoNumber := PySem.W.mg_of X G ac_NoNumber
    g_NoGroup := PySem.W.mg_of X G ac_NoGroup
    k_NoGroup := kc_NoGroup
    e_NoGroup := ec_NoGroup
    t_NoGroup := tc_NoGroup
    x_NoGroup := xc_NoGroup
    g_NoRule := PySem.W.mg_of X G ac_NoRule
    k_NoRule := kc_NoRule
    e_NoRule := ec_NoRule
    t_NoRule := tc_NoRule
    x_NoRule := xc_NoRule
    g_NoText := PySem.W.mg_of X G ac_NoText
    g_NoTable := PySem.W.mg_of X G ac_NoTable
    k_NoTable := kc_NoTable
    e_NoTable := ec_NoTable
    t_NoTable := tc_NoTable
    x_NoTable := xc_NoTable
    g_Unlike := PySem.W.mg_of X G ac_Unlike
    g_TooMany := PySem.W.mg_of X G ac_TooMany
    g_NoOrder := PySem.W.mg_of X G ac_NoOrder
    g_NoRows := PySem.W.mg_of X G ac_NoRows
    g_NoShares := PySem.W.mg_of X G ac_NoShares
    g_NoVotes := PySem.W.mg_of X G ac_NoVotes
    g_Rule := PySem.W.mg_of X G ac_Rule
    q_Rule := ⟨ic_Rule, tc_Rule, sc_Rule⟩
    bs_Rule := ⟨ba_Rule, br_Rule, bf_Rule, k_Rule___init__⟩
    cl_Rule := ⟨pg_Rule, hd_Rule, po_Rule, sa_Rule⟩
    mk_Rule := ⟨mk_Rule, a_Rule___init__, i_Rule___init__, kc_Rule⟩
    i_Rule := ⟨⟨pg_Rule, hd_Rule, po_Rule, sa_Rule⟩, ya_Rule, yn, yt, ym_Rule⟩
    u_Rule_Own := us_Rule_Own
    u_Rule_Votes := us_Rule_Votes
    u_Rule_Plain := us_Rule_Plain
    u_Rule_Pairs := us_Rule_Pairs
    u_Rule_Rule := us_Rule_Rule
    u_Rule_Match := us_Rule_Match
    u_Rule_Net := us_Rule_Net
    m_Rule_hands := ⟨a_Rule_hands, i_Rule_hands, k_Rule_hands⟩
    m_Rule_earn := ⟨a_Rule_earn, i_Rule_earn, k_Rule_earn⟩
    m_Rule_reckoned := ⟨a_Rule_reckoned, i_Rule_reckoned, k_Rule_reckoned⟩
    n_Rule_many := na_Rule_many
    g_Own := PySem.W.mg_of X G ac_Own
    q_Own := ⟨ic_Own, tc_Own, sc_Own⟩
    cl_Own := ⟨pg_Own, hd_Own, po_Own, sa_Own⟩
    mk_Own := ⟨mk_Own, a_Own___init__, i_Own___init__, kc_Own⟩
    i_Own := ⟨⟨pg_Own, hd_Own, po_Own, sa_Own⟩, ya_Own, yn, yt, ym_Own⟩
    u_Own_Own := us_Own_Own
    u_Own_Votes := us_Own_Votes
    u_Own_Plain := us_Own_Plain
    u_Own_Pairs := us_Own_Pairs
    u_Own_Rule := us_Own_Rule
    u_Own_Match := us_Own_Match
    u_Own_Net := us_Own_Net
    m_Own_reckoned := ⟨a_Own_reckoned, i_Own_reckoned, k_Own_reckoned⟩
    m_Own_hands := ⟨in_Own_hands, i_Rule_hands, k_Rule_hands⟩
    m_Own_earn := ⟨in_Own_earn, i_Rule_earn, k_Rule_earn⟩
    n_Own_numbers := na_Own_numbers
    n_Own_many := na_Own_many
    g_Pairs := PySem.W.mg_of X G ac_Pairs
    q_Pairs := ⟨ic_Pairs, tc_Pairs, sc_Pairs⟩
    cl_Pairs := ⟨pg_Pairs, hd_Pairs, po_Pairs, sa_Pairs⟩
    mk_Pairs := ⟨mk_Pairs, a_Pairs___init__, i_Pairs___init__, kc_Pairs⟩
    i_Pairs := ⟨⟨pg_Pairs, hd_Pairs, po_Pairs, sa_Pairs⟩, ya_Pairs, yn, yt, ym_Pairs⟩
    u_Pairs_Own := us_Pairs_Own
    u_Pairs_Votes := us_Pairs_Votes
    u_Pairs_Plain := us_Pairs_Plain
    u_Pairs_Pairs := us_Pairs_Pairs
    u_Pairs_Rule := us_Pairs_Rule
    u_Pairs_Match := us_Pairs_Match
    u_Pairs_Net := us_Pairs_Net
    m_Pairs_reckoned := ⟨a_Pairs_reckoned, i_Pairs_reckoned, k_Pairs_reckoned⟩
    m_Pairs_hands := ⟨in_Pairs_hands, i_Rule_hands, k_Rule_hands⟩
    m_Pairs_earn := ⟨in_Pairs_earn, i_Rule_earn, k_Rule_earn⟩
    n_Pairs_pairs := na_Pairs_pairs
    n_Pairs_many := na_Pairs_many
    g_Votes := PySem.W.mg_of X G ac_Votes
    q_Votes := ⟨ic_Votes, tc_Votes, sc_Votes⟩
    cl_Votes := ⟨pg_Votes, hd_Votes, po_Votes, sa_Votes⟩
    mk_Votes := ⟨mk_Votes, a_Votes___init__, i_Votes___init__, kc_Votes⟩
    i_Votes := ⟨⟨pg_Votes, hd_Votes, po_Votes, sa_Votes⟩, ya_Votes, yn, yt, ym_Votes⟩
    u_Votes_Own := us_Votes_Own
    u_Votes_Votes := us_Votes_Votes
    u_Votes_Plain := us_Votes_Plain
    u_Votes_Pairs := us_Votes_Pairs
    u_Votes_Rule := us_Votes_Rule
    u_Votes_Match := us_Votes_Match
    u_Votes_Net := us_Votes_Net
    m_Votes_reckoned := ⟨a_Votes_reckoned, i_Votes_reckoned, k_Votes_reckoned⟩
    m_Votes_hands := ⟨in_Votes_hands, i_Rule_hands, k_Rule_hands⟩
    m_Votes_earn := ⟨in_Votes_earn, i_Rule_earn, k_Rule_earn⟩
    n_Votes_quota := na_Votes_quota
    n_Votes_prize := na_Votes_prize
    n_Votes_weights := na_Votes_weights
    n_Votes_many := na_Votes_many
    g_Plain := PySem.W.mg_of X G ac_Plain
    q_Plain := ⟨ic_Plain, tc_Plain, sc_Plain⟩
    cl_Plain := ⟨pg_Plain, hd_Plain, po_Plain, sa_Plain⟩
    mk_Plain := ⟨mk_Plain, a_Plain___init__, i_Plain___init__, kc_Plain⟩
    i_Plain := ⟨⟨pg_Plain, hd_Plain, po_Plain, sa_Plain⟩, ya_Plain, yn, yt, ym_Plain⟩
    u_Plain_Own := us_Plain_Own
    u_Plain_Votes := us_Plain_Votes
    u_Plain_Plain := us_Plain_Plain
    u_Plain_Pairs := us_Plain_Pairs
    u_Plain_Rule := us_Plain_Rule
    u_Plain_Match := us_Plain_Match
    u_Plain_Net := us_Plain_Net
    m_Plain_reckoned := ⟨a_Plain_reckoned, i_Plain_reckoned, k_Plain_reckoned⟩
    m_Plain_hands := ⟨in_Plain_hands, i_Rule_hands, k_Rule_hands⟩
    m_Plain_earn := ⟨in_Plain_earn, i_Rule_earn, k_Rule_earn⟩
    n_Plain_row := na_Plain_row
    n_Plain_many := na_Plain_many
    g_Match := PySem.W.mg_of X G ac_Match
    q_Match := ⟨ic_Match, tc_Match, sc_Match⟩
    cl_Match := ⟨pg_Match, hd_Match, po_Match, sa_Match⟩
    mk_Match := ⟨mk_Match, a_Match___init__, i_Match___init__, kc_Match⟩
    i_Match := ⟨⟨pg_Match, hd_Match, po_Match, sa_Match⟩, ya_Match, yn, yt, ym_Match⟩
    u_Match_Own := us_Match_Own
    u_Match_Votes := us_Match_Votes
    u_Match_Plain := us_Match_Plain
    u_Match_Pairs := us_Match_Pairs
    u_Match_Rule := us_Match_Rule
    u_Match_Match := us_Match_Match
    u_Match_Net := us_Match_Net
    m_Match_reckoned := ⟨a_Match_reckoned, i_Match_reckoned, k_Match_reckoned⟩
    m_Match_hands := ⟨in_Match_hands, i_Rule_hands, k_Rule_hands⟩
    m_Match_earn := ⟨in_Match_earn, i_Rule_earn, k_Rule_earn⟩
    n_Match_pairs := na_Match_pairs
    n_Match_prices := na_Match_prices
    n_Match_sums := na_Match_sums
    n_Match_many := na_Match_many
    g_Net := PySem.W.mg_of X G ac_Net
    q_Net := ⟨ic_Net, tc_Net, sc_Net⟩
    cl_Net := ⟨pg_Net, hd_Net, po_Net, sa_Net⟩
    mk_Net := ⟨mk_Net, a_Net___init__, i_Net___init__, kc_Net⟩
    i_Net := ⟨⟨pg_Net, hd_Net, po_Net, sa_Net⟩, ya_Net, yn, yt, ym_Net⟩
    u_Net_Own := us_Net_Own
    u_Net_Votes := us_Net_Votes
    u_Net_Plain := us_Net_Plain
    u_Net_Pairs := us_Net_Pairs
    u_Net_Rule := us_Net_Rule
    u_Net_Match := us_Net_Match
    u_Net_Net := us_Net_Net
    m_Net_reckoned := ⟨a_Net_reckoned, i_Net_reckoned, k_Net_reckoned⟩
    m_Net_hands := ⟨in_Net_hands, i_Rule_hands, k_Rule_hands⟩
    m_Net_earn := ⟨in_Net_earn, i_Rule_earn, k_Rule_earn⟩
    n_Net_costs := na_Net_costs
    n_Net_ropes := na_Net_ropes
    n_Net_many := na_Net_many
    q_NoGroup := ⟨ic_NoGroup, tc_NoGroup, sc_NoGroup⟩
    q_NoNumber := ⟨ic_NoNumber, tc_NoNumber, sc_NoNumber⟩
    q_NoOrder := ⟨ic_NoOrder, tc_NoOrder, sc_NoOrder⟩
    q_NoRows := ⟨ic_NoRows, tc_NoRows, sc_NoRows⟩
    q_NoRule := ⟨ic_NoRule, tc_NoRule, sc_NoRule⟩
    q_NoShares := ⟨ic_NoShares, tc_NoShares, sc_NoShares⟩
    q_NoTable := ⟨ic_NoTable, tc_NoTable, sc_NoTable⟩
    q_NoText := ⟨ic_NoText, tc_NoText, sc_NoText⟩
    q_NoVotes := ⟨ic_NoVotes, tc_NoVotes, sc_NoVotes⟩
    q_ShareError := ⟨ic_ShareError, tc_ShareError, sc_ShareError⟩
    q_TooMany := ⟨ic_TooMany, tc_TooMany, sc_TooMany⟩
    q_Unlike := ⟨ic_Unlike, tc_Unlike, sc_Unlike⟩
    X_NoGroup := ⟨xg_NoGroup, xk_NoGroup, ec_NoGroup, xh_NoGroup, xa_NoGroup, xn, xt, xm_NoGroup⟩
    u_NoGroup_NoGroup := us_NoGroup_NoGroup
    u_NoGroup_NoNumber := us_NoGroup_NoNumber
    u_NoGroup_NoOrder := us_NoGroup_NoOrder
    u_NoGroup_NoRows := us_NoGroup_NoRows
    u_NoGroup_NoRule := us_NoGroup_NoRule
    u_NoGroup_NoShares := us_NoGroup_NoShares
    u_NoGroup_NoTable := us_NoGroup_NoTable
    u_NoGroup_NoText := us_NoGroup_NoText
    u_NoGroup_NoVotes := us_NoGroup_NoVotes
    u_NoGroup_ShareError := us_NoGroup_ShareError
    u_NoGroup_TooMany := us_NoGroup_TooMany
    u_NoGroup_Unlike := us_NoGroup_Unlike
    v_NoGroup := uv_NoGroup
    h_NoGroup_ShareError := PySem.W.exm_ref ec_ShareError hh_NoGroup_ShareError tc_ShareError us_NoGroup_ShareError
    X_NoTable := ⟨xg_NoTable, xk_NoTable, ec_NoTable, xh_NoTable, xa_NoTable, xn, xt, xm_NoTable⟩
    u_NoTable_NoGroup := us_NoTable_NoGroup
    u_NoTable_NoNumber := us_NoTable_NoNumber
    u_NoTable_NoOrder := us_NoTable_NoOrder
    u_NoTable_NoRows := us_NoTable_NoRows
    u_NoTable_NoRule := us_NoTable_NoRule
    u_NoTable_NoShares := us_NoTable_NoShares
    u_NoTable_NoTable := us_NoTable_NoTable
    u_NoTable_NoText := us_NoTable_NoText
    u_NoTable_NoVotes := us_NoTable_NoVotes
    u_NoTable_ShareError := us_NoTable_ShareError
    u_NoTable_TooMany := us_NoTable_TooMany
    u_NoTable_Unlike := us_NoTable_Unlike
    v_NoTable := uv_NoTable
    h_NoTable_ShareError := PySem.W.exm_ref ec_ShareError hh_NoTable_ShareError tc_ShareError us_NoTable_ShareError
    X_NoRule := ⟨xg_NoRule, xk_NoRule, ec_NoRule, xh_NoRule, xa_NoRule, xn, xt, xm_NoRule⟩
    u_NoRule_NoGroup := us_NoRule_NoGroup
    u_NoRule_NoNumber := us_NoRule_NoNumber
    u_NoRule_NoOrder := us_NoRule_NoOrder
    u_NoRule_NoRows := us_NoRule_NoRows
    u_NoRule_NoRule := us_NoRule_NoRule
    u_NoRule_NoShares := us_NoRule_NoShares
    u_NoRule_NoTable := us_NoRule_NoTable
    u_NoRule_NoText := us_NoRule_NoText
    u_NoRule_NoVotes := us_NoRule_NoVotes
    u_NoRule_ShareError := us_NoRule_ShareError
    u_NoRule_TooMany := us_NoRule_TooMany
    u_NoRule_Unlike := us_NoRule_Unlike
    v_NoRule := uv_NoRule
    h_NoRule_ShareError := PySem.W.exm_ref ec_ShareError hh_NoRule_ShareError tc_ShareError us_NoRule_ShareError
    c_MOST := cm_MOST
    z_ValueError := PySem.W.mg_none_of X G z_ValueError
    z_abs := PySem.W.mg_none_of X G z_abs
    z_bool := PySem.W.mg_none_of X G z_bool
    z_int := PySem.W.mg_none_of X G z_int
    z_isinstance := PySem.W.mg_none_of X G z_isinstance
    z_len := PySem.W.mg_none_of X G z_len
    z_list := PySem.W.mg_none_of X G z_list
    z_max := PySem.W.mg_none_of X G z_max
    z_min := PySem.W.mg_none_of X G z_min
    z_range := PySem.W.mg_none_of X G z_range
    z_sorted := PySem.W.mg_none_of X G z_sorted
    z_sum := PySem.W.mg_none_of X G z_sum
    z_tuple := PySem.W.mg_none_of X G z_tuple
  }
  exact ⟨_, fun s v => .of_eq rfl, fun base _ _ => ok_law T⟩
theorem facts_w {l : PySem.W.OpenLaw} {w : World} {K : PySem.W.Frag} {h : Heap} {mg : Str → Option Value} {fa : Addr} (X : K.In h) (G : h.Ns mainGlobals mg) (hfa : mg "law" = some (.ref fa)) (c : SaysW K)
    : ∃ fd : FuncData, (∀ (s : Shared) (v : Value), BindsTo s fd ⟨[v], []⟩ [("_law_script", v)]) ∧ ∀ base : Heap, K.In base → base.Ns mainGlobals mg → FnOk l.prog w K mg base (L2.CX l.prog w) 10 fa fd ["_law_script"] (sp_law K) := by
  have F_is_whole := Classical.choose_spec (fun_ex (x := "is_whole") (qual := "is_whole") (st := s_is_whole) (f := He.fAd K ("is_whole", none)) (fn_at c 0 rfl) (exA_0 c 1 rfl))
  have F_look_group := Classical.choose_spec (fun_ex (x := "look_group") (qual := "look_group") (st := s_look_group) (f := He.fAd K ("look_group", none)) (fn_at c 1 rfl) (exA_0 c 3 rfl))
  have F_whole_of := Classical.choose_spec (fun_ex (x := "whole_of") (qual := "whole_of") (st := s_whole_of) (f := He.fAd K ("whole_of", none)) (fn_at c 2 rfl) (exA_0 c 5 rfl))
  have F_hands_of := Classical.choose_spec (fun_ex (x := "hands_of") (qual := "hands_of") (st := s_hands_of) (f := He.fAd K ("hands_of", none)) (fn_at c 3 rfl) (exA_0 c 7 rfl))
  have F_look := Classical.choose_spec (fun_ex (x := "look") (qual := "look") (st := s_look) (f := He.fAd K ("look", none)) (fn_at c 4 rfl) (exA_0 c 9 rfl))
  have F_look_numbers := Classical.choose_spec (fun_ex (x := "look_numbers") (qual := "look_numbers") (st := s_look_numbers) (f := He.fAd K ("look_numbers", none)) (fn_at c 5 rfl) (exA_0 c 11 rfl))
  have F_one_pair := Classical.choose_spec (fun_ex (x := "one_pair") (qual := "one_pair") (st := s_one_pair) (f := He.fAd K ("one_pair", none)) (fn_at c 6 rfl) (exA_0 c 13 rfl))
  have F_pairs_of := Classical.choose_spec (fun_ex (x := "pairs_of") (qual := "pairs_of") (st := s_pairs_of) (f := He.fAd K ("pairs_of", none)) (fn_at c 7 rfl) (exA_0 c 15 rfl))
  have F_Rule___init__ := Classical.choose_spec (fun_ex (x := "__init__") (qual := "Rule.__init__") (st := s_Rule___init__) (f := He.fAd K ("Rule", some "__init__")) (fn_at c 8 rfl) (exA_0 c 18 rfl))
  have F_Rule_hands := Classical.choose_spec (fun_ex (x := "hands") (qual := "Rule.hands") (st := s_Rule_hands) (f := He.fAd K ("Rule", some "hands")) (fn_at c 9 rfl) (exA_0 c 21 rfl))
  have F_Rule_earn := Classical.choose_spec (fun_ex (x := "earn") (qual := "Rule.earn") (st := s_Rule_earn) (f := He.fAd K ("Rule", some "earn")) (fn_at c 10 rfl) (exA_0 c 24 rfl))
  have F_Rule_reckoned := Classical.choose_spec (fun_ex (x := "reckoned") (qual := "Rule.reckoned") (st := s_Rule_reckoned) (f := He.fAd K ("Rule", some "reckoned")) (fn_at c 11 rfl) (exA_0 c 27 rfl))
  have F_Own___init__ := Classical.choose_spec (fun_ex (x := "__init__") (qual := "Own.__init__") (st := s_Own___init__) (f := He.fAd K ("Own", some "__init__")) (fn_at c 12 rfl) (exA_0 c 30 rfl))
  have F_Own_reckoned := Classical.choose_spec (fun_ex (x := "reckoned") (qual := "Own.reckoned") (st := s_Own_reckoned) (f := He.fAd K ("Own", some "reckoned")) (fn_at c 13 rfl) (exA_0 c 33 rfl))
  have F_Pairs___init__ := Classical.choose_spec (fun_ex (x := "__init__") (qual := "Pairs.__init__") (st := s_Pairs___init__) (f := He.fAd K ("Pairs", some "__init__")) (fn_at c 14 rfl) (exA_0 c 36 rfl))
  have F_Pairs_reckoned := Classical.choose_spec (fun_ex (x := "reckoned") (qual := "Pairs.reckoned") (st := s_Pairs_reckoned) (f := He.fAd K ("Pairs", some "reckoned")) (fn_at c 15 rfl) (exA_0 c 39 rfl))
  have F_Votes___init__ := Classical.choose_spec (fun_ex (x := "__init__") (qual := "Votes.__init__") (st := s_Votes___init__) (f := He.fAd K ("Votes", some "__init__")) (fn_at c 16 rfl) (exA_1 c 2 rfl))
  have F_Votes_reckoned := Classical.choose_spec (fun_ex (x := "reckoned") (qual := "Votes.reckoned") (st := s_Votes_reckoned) (f := He.fAd K ("Votes", some "reckoned")) (fn_at c 17 rfl) (exA_1 c 5 rfl))
  have F_Plain___init__ := Classical.choose_spec (fun_ex (x := "__init__") (qual := "Plain.__init__") (st := s_Plain___init__) (f := He.fAd K ("Plain", some "__init__")) (fn_at c 18 rfl) (exA_1 c 8 rfl))
  have F_Plain_reckoned := Classical.choose_spec (fun_ex (x := "reckoned") (qual := "Plain.reckoned") (st := s_Plain_reckoned) (f := He.fAd K ("Plain", some "reckoned")) (fn_at c 19 rfl) (exA_1 c 11 rfl))
  have F_split_off := Classical.choose_spec (fun_ex (x := "split_off") (qual := "split_off") (st := s_split_off) (f := He.fAd K ("split_off", none)) (fn_at c 20 rfl) (exA_1 c 13 rfl))
  have F_best_sums := Classical.choose_spec (fun_ex (x := "best_sums") (qual := "best_sums") (st := s_best_sums) (f := He.fAd K ("best_sums", none)) (fn_at c 21 rfl) (exA_1 c 15 rfl))
  have F_Match___init__ := Classical.choose_spec (fun_ex (x := "__init__") (qual := "Match.__init__") (st := s_Match___init__) (f := He.fAd K ("Match", some "__init__")) (fn_at c 22 rfl) (exA_1 c 18 rfl))
  have F_Match_reckoned := Classical.choose_spec (fun_ex (x := "reckoned") (qual := "Match.reckoned") (st := s_Match_reckoned) (f := He.fAd K ("Match", some "reckoned")) (fn_at c 23 rfl) (exA_1 c 21 rfl))
  have F_ropes_from := Classical.choose_spec (fun_ex (x := "ropes_from") (qual := "ropes_from") (st := s_ropes_from) (f := He.fAd K ("ropes_from", none)) (fn_at c 24 rfl) (exA_1 c 23 rfl))
  have F_cheapest := Classical.choose_spec (fun_ex (x := "cheapest") (qual := "cheapest") (st := s_cheapest) (f := He.fAd K ("cheapest", none)) (fn_at c 25 rfl) (exA_1 c 25 rfl))
  have F_Net___init__ := Classical.choose_spec (fun_ex (x := "__init__") (qual := "Net.__init__") (st := s_Net___init__) (f := He.fAd K ("Net", some "__init__")) (fn_at c 26 rfl) (exA_1 c 28 rfl))
  have F_Net_reckoned := Classical.choose_spec (fun_ex (x := "reckoned") (qual := "Net.reckoned") (st := s_Net_reckoned) (f := He.fAd K ("Net", some "reckoned")) (fn_at c 27 rfl) (exA_1 c 31 rfl))
  have F__law_whole := Classical.choose_spec (fun_ex (x := "_law_whole") (qual := "_law_whole") (st := s__law_whole) (f := He.fAd K ("_law_whole", none)) (fn_at c 28 rfl) (exA_1 c 33 rfl))
  have F__law_rule := Classical.choose_spec (fun_ex (x := "_law_rule") (qual := "_law_rule") (st := s__law_rule) (f := He.fAd K ("_law_rule", none)) (fn_at c 29 rfl) (exA_1 c 35 rfl))
  have F__law_kinds := Classical.choose_spec (fun_ex (x := "_law_kinds") (qual := "_law_kinds") (st := s__law_kinds) (f := He.fAd K ("_law_kinds", none)) (fn_at c 30 rfl) (exA_1 c 37 rfl))
  have F__law_refused := Classical.choose_spec (fun_ex (x := "_law_refused") (qual := "_law_refused") (st := s__law_refused) (f := He.fAd K ("_law_refused", none)) (fn_at c 31 rfl) (exA_1 c 39 rfl))
  have F__law_copy := Classical.choose_spec (fun_ex (x := "_law_copy") (qual := "_law_copy") (st := s__law_copy) (f := He.fAd K ("_law_copy", none)) (fn_at c 32 rfl) (exA_2 c 1 rfl))
  have F__law_numbers := Classical.choose_spec (fun_ex (x := "_law_numbers") (qual := "_law_numbers") (st := s__law_numbers) (f := He.fAd K ("_law_numbers", none)) (fn_at c 33 rfl) (exA_2 c 3 rfl))
  have F__law_pairs := Classical.choose_spec (fun_ex (x := "_law_pairs") (qual := "_law_pairs") (st := s__law_pairs) (f := He.fAd K ("_law_pairs", none)) (fn_at c 34 rfl) (exA_2 c 5 rfl))
  have F__law_good := Classical.choose_spec (fun_ex (x := "_law_good") (qual := "_law_good") (st := s__law_good) (f := He.fAd K ("_law_good", none)) (fn_at c 35 rfl) (exA_2 c 7 rfl))
  have F__law_odd := Classical.choose_spec (fun_ex (x := "_law_odd") (qual := "_law_odd") (st := s__law_odd) (f := He.fAd K ("_law_odd", none)) (fn_at c 36 rfl) (exA_2 c 9 rfl))
  have F__law_far := Classical.choose_spec (fun_ex (x := "_law_far") (qual := "_law_far") (st := s__law_far) (f := He.fAd K ("_law_far", none)) (fn_at c 37 rfl) (exA_2 c 11 rfl))
  have F__law_many_off := Classical.choose_spec (fun_ex (x := "_law_many_off") (qual := "_law_many_off") (st := s__law_many_off) (f := He.fAd K ("_law_many_off", none)) (fn_at c 38 rfl) (exA_2 c 13 rfl))
  have F__law_list_off := Classical.choose_spec (fun_ex (x := "_law_list_off") (qual := "_law_list_off") (st := s__law_list_off) (f := He.fAd K ("_law_list_off", none)) (fn_at c 39 rfl) (exA_2 c 15 rfl))
  have F__law_table_off := Classical.choose_spec (fun_ex (x := "_law_table_off") (qual := "_law_table_off") (st := s__law_table_off) (f := He.fAd K ("_law_table_off", none)) (fn_at c 40 rfl) (exA_2 c 17 rfl))
  have F__law_pair_off := Classical.choose_spec (fun_ex (x := "_law_pair_off") (qual := "_law_pair_off") (st := s__law_pair_off) (f := He.fAd K ("_law_pair_off", none)) (fn_at c 41 rfl) (exA_2 c 19 rfl))
  have F__law_pairs_off := Classical.choose_spec (fun_ex (x := "_law_pairs_off") (qual := "_law_pairs_off") (st := s__law_pairs_off) (f := He.fAd K ("_law_pairs_off", none)) (fn_at c 42 rfl) (exA_2 c 21 rfl))
  have F__law_votes_off := Classical.choose_spec (fun_ex (x := "_law_votes_off") (qual := "_law_votes_off") (st := s__law_votes_off) (f := He.fAd K ("_law_votes_off", none)) (fn_at c 43 rfl) (exA_2 c 23 rfl))
  have F__law_off := Classical.choose_spec (fun_ex (x := "_law_off") (qual := "_law_off") (st := s__law_off) (f := He.fAd K ("_law_off", none)) (fn_at c 44 rfl) (exA_2 c 25 rfl))
  have F_law := Classical.choose_spec (fun_ex (x := "law") (qual := "law") (st := s_law) (f := He.fAd K ("law", none)) (fn_at c 45 rfl) (exA_2 c 27 rfl))
  have cm_MOST := Classical.choose_spec (He.int_ok X G (exA_10 c 14 rfl : (He.Fa.int "MOST" 6).ok K = true))
  exact all_mk2 (f_is_whole := He.fAd K ("is_whole", none)) (f_look_group := He.fAd K ("look_group", none)) (f_whole_of := He.fAd K ("whole_of", none)) (f_hands_of := He.fAd K ("hands_of", none)) (f_look := He.fAd K ("look", none)) (f_look_numbers := He.fAd K ("look_numbers", none)) (f_one_pair := He.fAd K ("one_pair", none)) (f_pairs_of := He.fAd K ("pairs_of", none)) (f_Rule___init__ := He.fAd K ("Rule", some "__init__")) (f_Rule_hands := He.fAd K ("Rule", some "hands")) (f_Rule_earn := He.fAd K ("Rule", some "earn")) (f_Rule_reckoned := He.fAd K ("Rule", some "reckoned")) (f_Own___init__ := He.fAd K ("Own", some "__init__")) (f_Own_reckoned := He.fAd K ("Own", some "reckoned")) (f_Pairs___init__ := He.fAd K ("Pairs", some "__init__")) (f_Pairs_reckoned := He.fAd K ("Pairs", some "reckoned")) (f_Votes___init__ := He.fAd K ("Votes", some "__init__")) (f_Votes_reckoned := He.fAd K ("Votes", some "reckoned")) (f_Plain___init__ := He.fAd K ("Plain", some "__init__")) (f_Plain_reckoned := He.fAd K ("Plain", some "reckoned")) (f_split_off := He.fAd K ("split_off", none)) (f_best_sums := He.fAd K ("best_sums", none)) (f_Match___init__ := He.fAd K ("Match", some "__init__")) (f_Match_reckoned := He.fAd K ("Match", some "reckoned")) (f_ropes_from := He.fAd K ("ropes_from", none)) (f_cheapest := He.fAd K ("cheapest", none)) (f_Net___init__ := He.fAd K ("Net", some "__init__")) (f_Net_reckoned := He.fAd K ("Net", some "reckoned")) (f__law_whole := He.fAd K ("_law_whole", none)) (f__law_rule := He.fAd K ("_law_rule", none)) (f__law_kinds := He.fAd K ("_law_kinds", none)) (f__law_refused := He.fAd K ("_law_refused", none)) (f__law_copy := He.fAd K ("_law_copy", none)) (f__law_numbers := He.fAd K ("_law_numbers", none)) (f__law_pairs := He.fAd K ("_law_pairs", none)) (f__law_good := He.fAd K ("_law_good", none)) (f__law_odd := He.fAd K ("_law_odd", none)) (f__law_far := He.fAd K ("_law_far", none)) (f__law_many_off := He.fAd K ("_law_many_off", none)) (f__law_list_off := He.fAd K ("_law_list_off", none)) (f__law_table_off := He.fAd K ("_law_table_off", none)) (f__law_pair_off := He.fAd K ("_law_pair_off", none)) (f__law_pairs_off := He.fAd K ("_law_pairs_off", none)) (f__law_votes_off := He.fAd K ("_law_votes_off", none)) (f__law_off := He.fAd K ("_law_off", none)) (f_law := He.fAd K ("law", none)) (C_ShareError := He.ga K "ShareError") (C_NoNumber := He.ga K "NoNumber") (C_NoGroup := He.ga K "NoGroup") (C_NoRule := He.ga K "NoRule") (C_NoText := He.ga K "NoText") (C_NoTable := He.ga K "NoTable") (C_Unlike := He.ga K "Unlike") (C_TooMany := He.ga K "TooMany") (C_NoOrder := He.ga K "NoOrder") (C_NoRows := He.ga K "NoRows") (C_NoShares := He.ga K "NoShares") (C_NoVotes := He.ga K "NoVotes") (C_Rule := He.ga K "Rule") (C_Own := He.ga K "Own") (C_Pairs := He.ga K "Pairs") (C_Votes := He.ga K "Votes") (C_Plain := He.ga K "Plain") (C_Match := He.ga K "Match") (C_Net := He.ga K "Net") X G hfa F_is_whole F_look_group F_whole_of F_hands_of F_look F_look_numbers F_one_pair F_pairs_of F_Rule___init__ F_Rule_hands F_Rule_earn F_Rule_reckoned F_Own___init__ F_Own_reckoned F_Pairs___init__ F_Pairs_reckoned F_Votes___init__ F_Votes_reckoned F_Plain___init__ F_Plain_reckoned F_split_off F_best_sums F_Match___init__ F_Match_reckoned F_ropes_from F_cheapest F_Net___init__ F_Net_reckoned F__law_whole F__law_rule F__law_kinds F__law_refused F__law_copy F__law_numbers F__law_pairs F__law_good F__law_odd F__law_far F__law_many_off F__law_list_off F__law_table_off F__law_pair_off F__law_pairs_off F__law_votes_off F__law_off F_law (of_decide_eq_true (exA_0 c 0 rfl)) (exA_0 c 1 rfl) (of_decide_eq_true (exA_0 c 2 rfl)) (exA_0 c 3 rfl) (of_decide_eq_true (exA_0 c 4 rfl)) (exA_0 c 5 rfl) (of_decide_eq_true (exA_0 c 6 rfl)) (exA_0 c 7 rfl) (of_decide_eq_true (exA_0 c 8 rfl)) (exA_0 c 9 rfl) (of_decide_eq_true (exA_0 c 10 rfl)) (exA_0 c 11 rfl) (of_decide_eq_true (exA_0 c 12 rfl)) (exA_0 c 13 rfl) (of_decide_eq_true (exA_0 c 14 rfl)) (exA_0 c 15 rfl) (of_decide_eq_true (exA_0 c 16 rfl)) (exA_0 c 17 rfl) (exA_0 c 18 rfl) (of_decide_eq_true (exA_0 c 19 rfl)) (exA_0 c 20 rfl) (exA_0 c 21 rfl) (of_decide_eq_true (exA_0 c 22 rfl)) (exA_0 c 23 rfl) (exA_0 c 24 rfl) (of_decide_eq_true (exA_0 c 25 rfl)) (exA_0 c 26 rfl) (exA_0 c 27 rfl) (of_decide_eq_true (exA_0 c 28 rfl)) (exA_0 c 29 rfl) (exA_0 c 30 rfl) (of_decide_eq_true (exA_0 c 31 rfl)) (exA_0 c 32 rfl) (exA_0 c 33 rfl) (of_decide_eq_true (exA_0 c 34 rfl)) (exA_0 c 35 rfl) (exA_0 c 36 rfl) (of_decide_eq_true (exA_0 c 37 rfl)) (exA_0 c 38 rfl) (exA_0 c 39 rfl) (of_decide_eq_true (exA_1 c 0 rfl)) (exA_1 c 1 rfl) (exA_1 c 2 rfl) (of_decide_eq_true (exA_1 c 3 rfl)) (exA_1 c 4 rfl) (exA_1 c 5 rfl) (of_decide_eq_true (exA_1 c 6 rfl)) (exA_1 c 7 rfl) (exA_1 c 8 rfl) (of_decide_eq_true (exA_1 c 9 rfl)) (exA_1 c 10 rfl) (exA_1 c 11 rfl) (of_decide_eq_true (exA_1 c 12 rfl)) (exA_1 c 13 rfl) (of_decide_eq_true (exA_1 c 14 rfl)) (exA_1 c 15 rfl) (of_decide_eq_true (exA_1 c 16 rfl)) (exA_1 c 17 rfl) (exA_1 c 18 rfl) (of_decide_eq_true (exA_1 c 19 rfl)) (exA_1 c 20 rfl) (exA_1 c 21 rfl) (of_decide_eq_true (exA_1 c 22 rfl)) (exA_1 c 23 rfl) (of_decide_eq_true (exA_1 c 24 rfl)) (exA_1 c 25 rfl) (of_decide_eq_true (exA_1 c 26 rfl)) (exA_1 c 27 rfl) (exA_1 c 28 rfl) (of_decide_eq_true (exA_1 c 29 rfl)) (exA_1 c 30 rfl) (exA_1 c 31 rfl) (of_decide_eq_true (exA_1 c 32 rfl)) (exA_1 c 33 rfl) (of_decide_eq_true (exA_1 c 34 rfl)) (exA_1 c 35 rfl) (of_decide_eq_true (exA_1 c 36 rfl)) (exA_1 c 37 rfl) (of_decide_eq_true (exA_1 c 38 rfl)) (exA_1 c 39 rfl) (of_decide_eq_true (exA_2 c 0 rfl)) (exA_2 c 1 rfl) (of_decide_eq_true (exA_2 c 2 rfl)) (exA_2 c 3 rfl) (of_decide_eq_true (exA_2 c 4 rfl)) (exA_2 c 5 rfl) (of_decide_eq_true (exA_2 c 6 rfl)) (exA_2 c 7 rfl) (of_decide_eq_true (exA_2 c 8 rfl)) (exA_2 c 9 rfl) (of_decide_eq_true (exA_2 c 10 rfl)) (exA_2 c 11 rfl) (of_decide_eq_true (exA_2 c 12 rfl)) (exA_2 c 13 rfl) (of_decide_eq_true (exA_2 c 14 rfl)) (exA_2 c 15 rfl) (of_decide_eq_true (exA_2 c 16 rfl)) (exA_2 c 17 rfl) (of_decide_eq_true (exA_2 c 18 rfl)) (exA_2 c 19 rfl) (of_decide_eq_true (exA_2 c 20 rfl)) (exA_2 c 21 rfl) (of_decide_eq_true (exA_2 c 22 rfl)) (exA_2 c 23 rfl) (of_decide_eq_true (exA_2 c 24 rfl)) (exA_2 c 25 rfl) (of_decide_eq_true (exA_2 c 26 rfl)) (exA_2 c 27 rfl) (of_decide_eq_true (exA_2 c 28 rfl)) (of_decide_eq_true (exA_2 c 29 rfl)) (of_decide_eq_true (exA_2 c 30 rfl)) (of_decide_eq_true (exA_2 c 31 rfl)) (of_decide_eq_true (exA_2 c 32 rfl)) (of_decide_eq_true (exA_2 c 33 rfl)) (of_decide_eq_true (exA_2 c 34 rfl)) (exA_2 c 35 rfl) (of_decide_eq_true (exA_2 c 36 rfl)) (of_decide_eq_true (exA_2 c 37 rfl)) (exA_2 c 38 rfl) (of_decide_eq_true (exA_2 c 39 rfl)) (exA_3 c 0 rfl) (of_decide_eq_true (exA_3 c 1 rfl)) (of_decide_eq_true (exA_3 c 2 rfl)) (exA_3 c 3 rfl) (of_decide_eq_true (exA_3 c 4 rfl)) (of_decide_eq_true (exA_3 c 5 rfl)) (of_decide_eq_true (exA_3 c 6 rfl)) (of_decide_eq_true (exA_3 c 7 rfl)) (exA_3 c 8 rfl) (of_decide_eq_true (exA_3 c 9 rfl)) (of_decide_eq_true (exA_3 c 10 rfl)) (exA_3 c 11 rfl) (of_decide_eq_true (exA_3 c 12 rfl)) (of_decide_eq_true (exA_3 c 13 rfl)) (of_decide_eq_true (exA_3 c 14 rfl)) (of_decide_eq_true (exA_3 c 15 rfl)) (of_decide_eq_true (exA_3 c 16 rfl)) (of_decide_eq_true (exA_3 c 17 rfl)) (of_decide_eq_true (exA_3 c 18 rfl)) (of_decide_eq_true (exA_3 c 19 rfl)) (of_decide_eq_true (exA_3 c 20 rfl)) (of_decide_eq_true (exA_3 c 21 rfl)) (of_decide_eq_true (exA_3 c 22 rfl)) (of_decide_eq_true (exA_3 c 23 rfl)) (of_decide_eq_true (exA_3 c 24 rfl)) (of_decide_eq_true (exA_3 c 25 rfl)) (of_decide_eq_true (exA_3 c 26 rfl)) (of_decide_eq_true (exA_3 c 27 rfl)) (of_decide_eq_true (exA_3 c 28 rfl)) (of_decide_eq_true (exA_3 c 29 rfl)) (of_decide_eq_true (exA_3 c 30 rfl)) (exA_3 c 31 rfl) (of_decide_eq_true (exA_3 c 32 rfl)) (of_decide_eq_true (exA_3 c 33 rfl)) (of_decide_eq_true (exA_3 c 34 rfl)) (exA_3 c 35 rfl) (fcB_ok (exA_3 c 36 rfl)) (exA_3 c 37 rfl) (exA_3 c 38 rfl) (exA_3 c 39 rfl) (exA_4 c 0 rfl) (of_decide_eq_true (exA_4 c 1 rfl)) (exA_4 c 2 rfl) (of_decide_eq_true (exA_4 c 3 rfl)) (of_decide_eq_true (exA_4 c 4 rfl)) (of_decide_eq_true (exA_4 c 5 rfl)) (of_decide_eq_true (exA_4 c 6 rfl)) (of_decide_eq_true (exA_4 c 7 rfl)) (of_decide_eq_true (exA_4 c 8 rfl)) (of_decide_eq_true (exA_4 c 9 rfl)) (of_decide_eq_true (exA_4 c 10 rfl)) (of_decide_eq_true (exA_4 c 11 rfl)) (of_decide_eq_true (exA_4 c 12 rfl)) (of_decide_eq_true (exA_4 c 13 rfl)) (of_decide_eq_true (exA_4 c 14 rfl)) (of_decide_eq_true (exA_4 c 15 rfl)) (exA_4 c 16 rfl) (of_decide_eq_true (exA_4 c 17 rfl)) (of_decide_eq_true (exA_4 c 18 rfl)) (exA_4 c 19 rfl) (exA_4 c 20 rfl) (exA_4 c 21 rfl) (exA_4 c 22 rfl) (of_decide_eq_true (exA_4 c 23 rfl)) (exA_4 c 24 rfl) (of_decide_eq_true (exA_4 c 25 rfl)) (of_decide_eq_true (exA_4 c 26 rfl)) (of_decide_eq_true (exA_4 c 27 rfl)) (of_decide_eq_true (exA_4 c 28 rfl)) (of_decide_eq_true (exA_4 c 29 rfl)) (of_decide_eq_true (exA_4 c 30 rfl)) (of_decide_eq_true (exA_4 c 31 rfl)) (of_decide_eq_true (exA_4 c 32 rfl)) (of_decide_eq_true (exA_4 c 33 rfl)) (of_decide_eq_true (exA_4 c 34 rfl)) (of_decide_eq_true (exA_4 c 35 rfl)) (of_decide_eq_true (exA_4 c 36 rfl)) (of_decide_eq_true (exA_4 c 37 rfl)) (of_decide_eq_true (exA_4 c 38 rfl)) (exA_4 c 39 rfl) (of_decide_eq_true (exA_5 c 0 rfl)) (of_decide_eq_true (exA_5 c 1 rfl)) (exA_5 c 2 rfl) (exA_5 c 3 rfl) (exA_5 c 4 rfl) (exA_5 c 5 rfl) (of_decide_eq_true (exA_5 c 6 rfl)) (exA_5 c 7 rfl) (of_decide_eq_true (exA_5 c 8 rfl)) (of_decide_eq_true (exA_5 c 9 rfl)) (of_decide_eq_true (exA_5 c 10 rfl)) (of_decide_eq_true (exA_5 c 11 rfl)) (of_decide_eq_true (exA_5 c 12 rfl)) (of_decide_eq_true (exA_5 c 13 rfl)) (of_decide_eq_true (exA_5 c 14 rfl)) (of_decide_eq_true (exA_5 c 15 rfl)) (of_decide_eq_true (exA_5 c 16 rfl)) (of_decide_eq_true (exA_5 c 17 rfl)) (of_decide_eq_true (exA_5 c 18 rfl)) (of_decide_eq_true (exA_5 c 19 rfl)) (of_decide_eq_true (exA_5 c 20 rfl)) (of_decide_eq_true (exA_5 c 21 rfl)) (exA_5 c 22 rfl) (of_decide_eq_true (exA_5 c 23 rfl)) (of_decide_eq_true (exA_5 c 24 rfl)) (exA_5 c 25 rfl) (exA_5 c 26 rfl) (exA_5 c 27 rfl) (exA_5 c 28 rfl) (of_decide_eq_true (exA_5 c 29 rfl)) (exA_5 c 30 rfl) (of_decide_eq_true (exA_5 c 31 rfl)) (of_decide_eq_true (exA_5 c 32 rfl)) (of_decide_eq_true (exA_5 c 33 rfl)) (of_decide_eq_true (exA_5 c 34 rfl)) (of_decide_eq_true (exA_5 c 35 rfl)) (of_decide_eq_true (exA_5 c 36 rfl)) (of_decide_eq_true (exA_5 c 37 rfl)) (of_decide_eq_true (exA_5 c 38 rfl)) (of_decide_eq_true (exA_5 c 39 rfl)) (of_decide_eq_true (exA_6 c 0 rfl)) (of_decide_eq_true (exA_6 c 1 rfl)) (of_decide_eq_true (exA_6 c 2 rfl)) (of_decide_eq_true (exA_6 c 3 rfl)) (of_decide_eq_true (exA_6 c 4 rfl)) (of_decide_eq_true (exA_6 c 5 rfl)) (of_decide_eq_true (exA_6 c 6 rfl)) (exA_6 c 7 rfl) (of_decide_eq_true (exA_6 c 8 rfl)) (of_decide_eq_true (exA_6 c 9 rfl)) (exA_6 c 10 rfl) (exA_6 c 11 rfl) (exA_6 c 12 rfl) (exA_6 c 13 rfl) (of_decide_eq_true (exA_6 c 14 rfl)) (exA_6 c 15 rfl) (of_decide_eq_true (exA_6 c 16 rfl)) (of_decide_eq_true (exA_6 c 17 rfl)) (of_decide_eq_true (exA_6 c 18 rfl)) (of_decide_eq_true (exA_6 c 19 rfl)) (of_decide_eq_true (exA_6 c 20 rfl)) (of_decide_eq_true (exA_6 c 21 rfl)) (of_decide_eq_true (exA_6 c 22 rfl)) (of_decide_eq_true (exA_6 c 23 rfl)) (of_decide_eq_true (exA_6 c 24 rfl)) (of_decide_eq_true (exA_6 c 25 rfl)) (of_decide_eq_true (exA_6 c 26 rfl)) (of_decide_eq_true (exA_6 c 27 rfl)) (of_decide_eq_true (exA_6 c 28 rfl)) (of_decide_eq_true (exA_6 c 29 rfl)) (exA_6 c 30 rfl) (of_decide_eq_true (exA_6 c 31 rfl)) (of_decide_eq_true (exA_6 c 32 rfl)) (exA_6 c 33 rfl) (exA_6 c 34 rfl) (exA_6 c 35 rfl) (exA_6 c 36 rfl) (of_decide_eq_true (exA_6 c 37 rfl)) (exA_6 c 38 rfl) (of_decide_eq_true (exA_6 c 39 rfl)) (of_decide_eq_true (exA_7 c 0 rfl)) (of_decide_eq_true (exA_7 c 1 rfl)) (of_decide_eq_true (exA_7 c 2 rfl)) (of_decide_eq_true (exA_7 c 3 rfl)) (of_decide_eq_true (exA_7 c 4 rfl)) (of_decide_eq_true (exA_7 c 5 rfl)) (of_decide_eq_true (exA_7 c 6 rfl)) (of_decide_eq_true (exA_7 c 7 rfl)) (of_decide_eq_true (exA_7 c 8 rfl)) (of_decide_eq_true (exA_7 c 9 rfl)) (of_decide_eq_true (exA_7 c 10 rfl)) (of_decide_eq_true (exA_7 c 11 rfl)) (of_decide_eq_true (exA_7 c 12 rfl)) (of_decide_eq_true (exA_7 c 13 rfl)) (of_decide_eq_true (exA_7 c 14 rfl)) (exA_7 c 15 rfl) (of_decide_eq_true (exA_7 c 16 rfl)) (of_decide_eq_true (exA_7 c 17 rfl)) (exA_7 c 18 rfl) (exA_7 c 19 rfl) (exA_7 c 20 rfl) (exA_7 c 21 rfl) (of_decide_eq_true (exA_7 c 22 rfl)) (exA_7 c 23 rfl) (of_decide_eq_true (exA_7 c 24 rfl)) (of_decide_eq_true (exA_7 c 25 rfl)) (of_decide_eq_true (exA_7 c 26 rfl)) (of_decide_eq_true (exA_7 c 27 rfl)) (of_decide_eq_true (exA_7 c 28 rfl)) (of_decide_eq_true (exA_7 c 29 rfl)) (of_decide_eq_true (exA_7 c 30 rfl)) (of_decide_eq_true (exA_7 c 31 rfl)) (of_decide_eq_true (exA_7 c 32 rfl)) (of_decide_eq_true (exA_7 c 33 rfl)) (of_decide_eq_true (exA_7 c 34 rfl)) (of_decide_eq_true (exA_7 c 35 rfl)) (of_decide_eq_true (exA_7 c 36 rfl)) (of_decide_eq_true (exA_7 c 37 rfl)) (exA_7 c 38 rfl) (of_decide_eq_true (exA_7 c 39 rfl)) (exA_8 c 0 rfl) (of_decide_eq_true (exA_8 c 1 rfl)) (exA_8 c 2 rfl) (of_decide_eq_true (exA_8 c 3 rfl)) (exA_8 c 4 rfl) (of_decide_eq_true (exA_8 c 5 rfl)) (exA_8 c 6 rfl) (of_decide_eq_true (exA_8 c 7 rfl)) (exA_8 c 8 rfl) (of_decide_eq_true (exA_8 c 9 rfl)) (exA_8 c 10 rfl) (of_decide_eq_true (exA_8 c 11 rfl)) (exA_8 c 12 rfl) (of_decide_eq_true (exA_8 c 13 rfl)) (exA_8 c 14 rfl) (of_decide_eq_true (exA_8 c 15 rfl)) (exA_8 c 16 rfl) (of_decide_eq_true (exA_8 c 17 rfl)) (exA_8 c 18 rfl) (of_decide_eq_true (exA_8 c 19 rfl)) (exA_8 c 20 rfl) (of_decide_eq_true (exA_8 c 21 rfl)) (of_decide_eq_true (exA_8 c 22 rfl)) (of_decide_eq_true (exA_8 c 23 rfl)) (exA_8 c 24 rfl) (of_decide_eq_true (exA_8 c 25 rfl)) (of_decide_eq_true (exA_8 c 26 rfl)) (of_decide_eq_true (exA_8 c 27 rfl)) (of_decide_eq_true (exA_8 c 28 rfl)) (of_decide_eq_true (exA_8 c 29 rfl)) (of_decide_eq_true (exA_8 c 30 rfl)) (of_decide_eq_true (exA_8 c 31 rfl)) (of_decide_eq_true (exA_8 c 32 rfl)) (of_decide_eq_true (exA_8 c 33 rfl)) (of_decide_eq_true (exA_8 c 34 rfl)) (of_decide_eq_true (exA_8 c 35 rfl)) (of_decide_eq_true (exA_8 c 36 rfl)) (of_decide_eq_true (exA_8 c 37 rfl)) (of_decide_eq_true (exA_8 c 38 rfl)) (of_decide_eq_true (exA_8 c 39 rfl)) (of_decide_eq_true (exA_9 c 0 rfl)) (of_decide_eq_true (exA_9 c 1 rfl)) (exA_9 c 2 rfl) (of_decide_eq_true (exA_9 c 3 rfl)) (of_decide_eq_true (exA_9 c 4 rfl)) (exA_9 c 5 rfl) (of_decide_eq_true (exA_9 c 6 rfl)) (of_decide_eq_true (exA_9 c 7 rfl)) (of_decide_eq_true (exA_9 c 8 rfl)) (of_decide_eq_true (exA_9 c 9 rfl)) (of_decide_eq_true (exA_9 c 10 rfl)) (of_decide_eq_true (exA_9 c 11 rfl)) (of_decide_eq_true (exA_9 c 12 rfl)) (of_decide_eq_true (exA_9 c 13 rfl)) (of_decide_eq_true (exA_9 c 14 rfl)) (of_decide_eq_true (exA_9 c 15 rfl)) (of_decide_eq_true (exA_9 c 16 rfl)) (of_decide_eq_true (exA_9 c 17 rfl)) (of_decide_eq_true (exA_9 c 18 rfl)) (of_decide_eq_true (exA_9 c 19 rfl)) (of_decide_eq_true (exA_9 c 20 rfl)) (exA_9 c 21 rfl) (of_decide_eq_true (exA_9 c 22 rfl)) (of_decide_eq_true (exA_9 c 23 rfl)) (exA_9 c 24 rfl) (of_decide_eq_true (exA_9 c 25 rfl)) (of_decide_eq_true (exA_9 c 26 rfl)) (of_decide_eq_true (exA_9 c 27 rfl)) (of_decide_eq_true (exA_9 c 28 rfl)) (of_decide_eq_true (exA_9 c 29 rfl)) (of_decide_eq_true (exA_9 c 30 rfl)) (of_decide_eq_true (exA_9 c 31 rfl)) (of_decide_eq_true (exA_9 c 32 rfl)) (of_decide_eq_true (exA_9 c 33 rfl)) (of_decide_eq_true (exA_9 c 34 rfl)) (of_decide_eq_true (exA_9 c 35 rfl)) (of_decide_eq_true (exA_9 c 36 rfl)) (of_decide_eq_true (exA_9 c 37 rfl)) (of_decide_eq_true (exA_9 c 38 rfl)) (of_decide_eq_true (exA_9 c 39 rfl)) (exA_10 c 0 rfl) (of_decide_eq_true (exA_10 c 1 rfl)) (of_decide_eq_true (exA_10 c 2 rfl)) (of_decide_eq_true (exA_10 c 3 rfl)) (of_decide_eq_true (exA_10 c 4 rfl)) (of_decide_eq_true (exA_10 c 5 rfl)) (of_decide_eq_true (exA_10 c 6 rfl)) (of_decide_eq_true (exA_10 c 7 rfl)) (of_decide_eq_true (exA_10 c 8 rfl)) (of_decide_eq_true (exA_10 c 9 rfl)) (of_decide_eq_true (exA_10 c 10 rfl)) (of_decide_eq_true (exA_10 c 11 rfl)) (of_decide_eq_true (exA_10 c 12 rfl)) (of_decide_eq_true (exA_10 c 13 rfl)) cm_MOST
theorem walk_w {l : PySem.W.OpenLaw} {n k : Nat} {q : Program} {loose : List Str} {XP : (Str → Option Value) → Heap → Prop} {YP : World → Heap → Prop} {d : DefRec} {CX : World → CXT} {x : Str} (hn : l.most = some n) (hn2 : n ≤ sizeLine) (hdf : d.params.defaults = []) (hr : Room k callerA) (F : ∀ (w : World) (mg : Str → Option Value) (fa : Addr) (h : Heap), YP w h → h.Ns mainGlobals mg → mg d.name = some (.ref fa) → ∃ (K : PySem.W.Frag) (fd : FuncData) (sp : Sp), K.In h ∧ (∀ (s : Shared) (u : Value), BindsTo s fd ⟨[u], []⟩ [(x, u)]) ∧ (∀ (H : Hp) (a : Addr) (ns : List Int), ns.length ≤ n → Only H → SqL K H a (ns.map V.int) → sp [.ref a] H (fun v _ => v = .bl true) fun _ _ _ => False) ∧ ∀ base : Heap, K.In base → base.Ns mainGlobals mg → FnOk l.prog w K mg base (CX w) k fa fd [x] sp) (hCX : ∀ (w : World) (H : Hp) (s : Shared) (e : Value) (s' : Shared), CX w [] H s (fun _ _ _ => False) e s' → False) : PySem.W.WalkO q loose XP YP l.row.toRowW d [] (fun f vs => PySem.call f vs) := by
  refine Att.attach_call hn hdf fun w z0 z1 mg mb fa o pm cd doc a vs ns G Y ho hd hcd hmg hobj hints hlen hg => ?_
  obtain ⟨K, fd, sp, KX, hb, hs, hF⟩ := F w mg fa _ Y G.T.g hmg
  exact law_call KX G.T.g G.T.b G.T.builtins G.T.nolimit hg hobj hints (Nat.le_trans hlen hn2) hr hF hb (fun H hO hS => hs H a ns hlen hO hS) fun H e q' => hCX w H z1 e q'
end Lw
open PySem PySem.W PySem.Calls PyProof.Rows
set_option maxHeartbeats 0 in
theorem PySem.Challenge.cw_shareparley_k10_rules_refused_holds : PySem.Challenge.rw_shareparley_k10_rules_refused.Holds := by
  refine Lw.holds_if ?hc
  case hc =>
    refine Lw.walk_w (l := PySem.Challenge.rw_shareparley_k10_rules_refused) (n := 63) (k := 10) (x := "_law_script") (CX := fun w => L2.CX PySem.Challenge.rw_shareparley_k10_rules_refused.prog w) rfl (by decide) (by kernel_rfl) ⟨rfl, by decide, by decide⟩ ?F (fun _ _ _ _ _ h => Sp.cx_none h)
    intro w mg fa h Y G hmg0
    obtain ⟨K, KX, c⟩ := Y
    have hmg : mg ("law" : PySem.Str) = some (.ref fa) := by
      have e : (HandSHeadRun.topDef (OpenLaw.row PySem.Challenge.rw_shareparley_k10_rules_refused).prog 58).name = ("law" : PySem.Str) := by kernel_rfl
      rw [← e]
      exact hmg0
    obtain ⟨fd, hb, hF⟩ := Lw.facts_w (l := PySem.Challenge.rw_shareparley_k10_rules_refused) (w := w) KX G hmg c
    exact ⟨K, fd, Lw.sp_law K, KX, hb, fun H a ns hl _ hS => ⟨a, ns, rfl, hS, hl, fun _ => rfl⟩, hF⟩
