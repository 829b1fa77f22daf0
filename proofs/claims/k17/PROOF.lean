import PyProof.Rows.All
import Wide.All
import OpenK.AllK
import Wide.FinOn
import HandS.ForMost
import HandS.Deep
import HandS.Defaults
import HandS.IsInst
import HandS.Walk
import HandS.Zip
import HandS.TupAny
import KE.SortData
import PySem.Challenge.RW_meadshares_k17_whole_late_claims_move_fe
import HandS.SetFor
import HandS.Strs
import KE.GoesNew
import HandS.Style
import KE.KDictCopyH
import KE.KDictZip
import HandS.DictTup
import HandS.TupLen
import HandS.WordsDict
import HandS.Exc
import HandS.ExcOwn
import HandS.ExcInit
import HandS.ExcField
import HandS.ExcIs
import HandS.WordsExc
import HandS.Codes
import HandS.Lambda
import HandS.EndTab
import HandS.HeadHook4
import HandS.HotCalls
import KE.KExcIs
import HandS.Head0
import HandS.Head1
import HandS.Head2
import HandS.HeadHook1
import HandS.HeadHook2
import HandS.HeadHook3
import HandS.HeadWalk
set_option Elab.async false
set_option linter.all false
/-! the text by its places -/
namespace Mead
open PySem PySem.Spec PyProof.Rows L2
set_option maxRecDepth 100000
def top (i : Nat) : Stmt := PySem.Challenge.pw_meadshares_k17_whole_late_claims_move_fe.main.body.getD i (.Pass ⟨0, 0, 0, 0⟩)
abbrev s_is_from : Stmt := top 27
abbrev s_rises : Stmt := top 28
abbrev s_places_of : Stmt := top 29
abbrev s_is_mead : Stmt := top 30
abbrev s_need_mead : Stmt := top 31
abbrev s_cells_in : Stmt := top 32
abbrev s_worth_in : Stmt := top 33
abbrev s_beside : Stmt := top 34
abbrev s_is_custom : Stmt := top 41
abbrev s_is_claim : Stmt := top 42
abbrev s_are_claims : Stmt := top 43
abbrev s_need_custom : Stmt := top 44
abbrev s_need_claim : Stmt := top 45
abbrev s_need_claims : Stmt := top 46
abbrev s_stand : Stmt := top 47
abbrev s_holders_in : Stmt := top 48
abbrev s_need_holder : Stmt := top 49
abbrev s_counted : Stmt := top 50
abbrev s_counted_all : Stmt := top 51
abbrev s_laid : Stmt := top 52
abbrev s_denied : Stmt := top 53
abbrev s_joined : Stmt := top 54
abbrev s_piece_from : Stmt := top 56
abbrev s_is_whole : Stmt := top 57
abbrev s_lies_at_road : Stmt := top 58
abbrev s_is_plea : Stmt := top 61
abbrev s_need_plea : Stmt := top 62
abbrev s_due_in : Stmt := top 63
abbrev s_is_worth : Stmt := top 64
abbrev s_fits_due : Stmt := top 65
abbrev s_is_fit : Stmt := top 66
abbrev s_lands_of : Stmt := top 67
abbrev s_fit_in : Stmt := top 68
abbrev s_land_by_holder : Stmt := top 70
abbrev s_is_parted : Stmt := top 71
abbrev s_is_parting : Stmt := top 72
abbrev s_dealt_on : Stmt := top 74
abbrev s_begun_by : Stmt := top 75
abbrev s_gone_on : Stmt := top 76
abbrev s_partings_in : Stmt := top 77
abbrev s_first_parting : Stmt := top 78
abbrev s_is_house : Stmt := top 82
abbrev s_are_houses : Stmt := top 83
abbrev s_need_houses : Stmt := top 84
abbrev s_is_dealt : Stmt := top 96
abbrev s_need_dealt : Stmt := top 97
abbrev s_need_other : Stmt := top 98
abbrev s_fences_in : Stmt := top 99
abbrev s_fences_of : Stmt := top 100
abbrev s_unlike : Stmt := top 101
abbrev s_fences_moved : Stmt := top 102
abbrev s_least_moved : Stmt := top 103
abbrev s_fewest_moved : Stmt := top 104
abbrev s__law_cell : Stmt := top 108
abbrev s__law_pen : Stmt := top 109
abbrev s__law_draw : Stmt := top 110
abbrev s__law_pick : Stmt := top 111
abbrev s__law_word : Stmt := top 112
abbrev s__law_came : Stmt := top 113
abbrev s__law_mead : Stmt := top 114
abbrev s__law_custom : Stmt := top 115
abbrev s__law_claims : Stmt := top 116
abbrev s__law_cells : Stmt := top 117
abbrev s__law_next_to : Stmt := top 118
abbrev s__law_fences : Stmt := top 119
abbrev s__law_houses : Stmt := top 120
abbrev s__law_call : Stmt := top 121
abbrev s__law_base : Stmt := top 122
abbrev s__law_late : Stmt := top 123
abbrev s_law : Stmt := top 124
def meth (i j : Nat) : Stmt := (C8.clsBody (top i)).getD j (.Pass ⟨0, 0, 0, 0⟩)
abbrev m_tm : Stmt := meth 19 0
abbrev m___init__ : Stmt := meth 106 0
abbrev m_fences : Stmt := meth 106 1
abbrev m_turn : Stmt := meth 106 2
abbrev m_plea_by : Stmt := meth 106 3
abbrev m_claim_anew : Stmt := meth 106 4
abbrev m_lay : Stmt := meth 106 5
abbrev m_deny : Stmt := meth 106 6
abbrev m_merge : Stmt := meth 106 7
abbrev m_part : Stmt := meth 106 8
abbrev m_undo : Stmt := meth 106 11
abbrev m_claims_now : Stmt := meth 106 13
abbrev m_parting_now : Stmt := meth 106 14
abbrev m_plea_now : Stmt := meth 106 15
def kinds16 : List Str := ["NoMead", "NoPlace", "NoLand", "NoCustom", "NoClaim", "NoClaims", "NoHolder", "There", "Missing", "NoPlea", "NoParting", "NoWill", "NoHouses", "NoOdd", "NoUndo", "TooMany"]
end Mead
/-! what the head leaves, told as facts; its run -/
namespace MeadHead
set_option maxRecDepth 100000
set_option maxHeartbeats 0
open PySem PySem.Spec PyProof.Rows L2 Mead
/-! ### the looks -/
def excCB (K : PySem.W.Frag) (D : Addr) : Bool := He.eqO (PySem.W.findIn K (.ref D) "__getattribute__") (some (some (.builtin "BaseException.__getattribute__"))) && (He.eqO (PySem.W.findIn K (.ref D) "__getattr__") (some none) && (decide (PySem.W.subIn K (.ref D) (.type "BaseException") = some true) && (PySem.W.hasDictIn K D &&
  (He.eqO (PySem.W.findIn K (.ref D) "__class__") (some (some (.builtin "object.__class__"))) && (He.eqO (PySem.W.specialIn K (.builtin "object.__class__") "__get__") (some (some (.builtin "getset_descriptor.__get__"))) && (decide (PySem.W.takesIn K (.builtin "object.__class__") = some true) && decide (PySem.W.mroIn K D (.type "object") = some true)))))))
def xwB (K : PySem.W.Frag) (x : Str) : Bool := excCB K (He.ga K x) && ((kinds16.all fun y => decide (PySem.W.kitOne K (.ref (He.ga K x)) (.ref (He.ga K y)) = some (decide (x = y)))) && decide (PySem.W.kitOne K (.ref (He.ga K x)) (.type "ValueError") = some true))
def oexB (K : PySem.W.Frag) (C : Addr) : Bool := (match K.lookup C with
  | some ⟨.type "type", _, .cls cd, sl⟩ => (match cd.mro, sl.toList with
    | .ref C' :: bm, [_, _, _, _, some (.builtin n), _] => C' == C && (n == "ValueError.__new__" && (cd.hasDict && (!cd.hasDel && PySem.HandSPX.refsVE bm)))
    | _, _ => false)
  | _ => false) && (He.eqO (PySem.W.findIn K (.ref C) "__setattr__") (some (some (.builtin "object.__setattr__"))) && (decide (PySem.W.subIn K (.ref C) (.type "BaseException") = some true) && (decide (PySem.W.typeIn K (.ref C) = some (.type "type")) && PySem.W.keepIn K (.ref C))))
def xtmB (K : PySem.W.Frag) (C : Addr) : Bool := oexB K C && (He.eqO (PySem.W.findIn K (.ref C) "__init__") (some (some (.ref (He.ma K C "__init__")))) && (decide (PySem.W.typeIn K (.ref (He.ma K C "__init__")) = some (.type "function")) && (He.eqO (PySem.W.findIn K (.ref C) "many") (some none) && (He.eqO (PySem.W.findIn K (.ref C) "most") (some none) && xfB K C))))
abbrev cLaw (K : PySem.W.Frag) : Addr × Addr := He.cT K ("law", none)
abbrev cLate (K : PySem.W.Frag) : Addr × Addr := He.cT K ("_law_late", none)
def exB (K : PySem.W.Frag) : Bool := xwB K "NoParting" && (xwB K "NoHolder" && (xwB K "TooMany" && (xtmB K (He.ga K "TooMany") && !decide ((cLaw K).2 = (cLate K).2))))
/-! ### the defs, the facts -/
def D_is_from : He.DefD := ⟨("is_from", none), "is_from", "is_from", defArgs s_is_from, defBody s_is_from, defScope s_is_from, [], []⟩
def D_rises : He.DefD := ⟨("rises", none), "rises", "rises", defArgs s_rises, defBody s_rises, defScope s_rises, [], []⟩
def D_places_of : He.DefD := ⟨("places_of", none), "places_of", "places_of", defArgs s_places_of, defBody s_places_of, defScope s_places_of, [], []⟩
def D_is_mead : He.DefD := ⟨("is_mead", none), "is_mead", "is_mead", defArgs s_is_mead, defBody s_is_mead, defScope s_is_mead, [], []⟩
def D_need_mead : He.DefD := ⟨("need_mead", none), "need_mead", "need_mead", defArgs s_need_mead, defBody s_need_mead, defScope s_need_mead, [], []⟩
def D_cells_in : He.DefD := ⟨("cells_in", none), "cells_in", "cells_in", defArgs s_cells_in, defBody s_cells_in, defScope s_cells_in, [], []⟩
def D_worth_in : He.DefD := ⟨("worth_in", none), "worth_in", "worth_in", defArgs s_worth_in, defBody s_worth_in, defScope s_worth_in, [], []⟩
def D_beside : He.DefD := ⟨("beside", none), "beside", "beside", defArgs s_beside, defBody s_beside, defScope s_beside, [], []⟩
def D_is_custom : He.DefD := ⟨("is_custom", none), "is_custom", "is_custom", defArgs s_is_custom, defBody s_is_custom, defScope s_is_custom, [], []⟩
def D_is_claim : He.DefD := ⟨("is_claim", none), "is_claim", "is_claim", defArgs s_is_claim, defBody s_is_claim, defScope s_is_claim, [], []⟩
def D_are_claims : He.DefD := ⟨("are_claims", none), "are_claims", "are_claims", defArgs s_are_claims, defBody s_are_claims, defScope s_are_claims, [], []⟩
def D_need_custom : He.DefD := ⟨("need_custom", none), "need_custom", "need_custom", defArgs s_need_custom, defBody s_need_custom, defScope s_need_custom, [], []⟩
def D_need_claim : He.DefD := ⟨("need_claim", none), "need_claim", "need_claim", defArgs s_need_claim, defBody s_need_claim, defScope s_need_claim, [], []⟩
def D_need_claims : He.DefD := ⟨("need_claims", none), "need_claims", "need_claims", defArgs s_need_claims, defBody s_need_claims, defScope s_need_claims, [], []⟩
def D_stand : He.DefD := ⟨("stand", none), "stand", "stand", defArgs s_stand, defBody s_stand, defScope s_stand, [], []⟩
def D_holders_in : He.DefD := ⟨("holders_in", none), "holders_in", "holders_in", defArgs s_holders_in, defBody s_holders_in, defScope s_holders_in, [], []⟩
def D_need_holder : He.DefD := ⟨("need_holder", none), "need_holder", "need_holder", defArgs s_need_holder, defBody s_need_holder, defScope s_need_holder, [], []⟩
def D_counted : He.DefD := ⟨("counted", none), "counted", "counted", defArgs s_counted, defBody s_counted, defScope s_counted, [], []⟩
def D_counted_all : He.DefD := ⟨("counted_all", none), "counted_all", "counted_all", defArgs s_counted_all, defBody s_counted_all, defScope s_counted_all, [], []⟩
def D_laid : He.DefD := ⟨("laid", none), "laid", "laid", defArgs s_laid, defBody s_laid, defScope s_laid, [], []⟩
def D_denied : He.DefD := ⟨("denied", none), "denied", "denied", defArgs s_denied, defBody s_denied, defScope s_denied, [], []⟩
def D_joined : He.DefD := ⟨("joined", none), "joined", "joined", defArgs s_joined, defBody s_joined, defScope s_joined, [], []⟩
def D_piece_from : He.DefD := ⟨("piece_from", none), "piece_from", "piece_from", defArgs s_piece_from, defBody s_piece_from, defScope s_piece_from, [], []⟩
def D_is_whole : He.DefD := ⟨("is_whole", none), "is_whole", "is_whole", defArgs s_is_whole, defBody s_is_whole, defScope s_is_whole, [], []⟩
def D_lies_at_road : He.DefD := ⟨("lies_at_road", none), "lies_at_road", "lies_at_road", defArgs s_lies_at_road, defBody s_lies_at_road, defScope s_lies_at_road, [], []⟩
def D_is_plea : He.DefD := ⟨("is_plea", none), "is_plea", "is_plea", defArgs s_is_plea, defBody s_is_plea, defScope s_is_plea, [], []⟩
def D_need_plea : He.DefD := ⟨("need_plea", none), "need_plea", "need_plea", defArgs s_need_plea, defBody s_need_plea, defScope s_need_plea, [], []⟩
def D_due_in : He.DefD := ⟨("due_in", none), "due_in", "due_in", defArgs s_due_in, defBody s_due_in, defScope s_due_in, [], []⟩
def D_is_worth : He.DefD := ⟨("is_worth", none), "is_worth", "is_worth", defArgs s_is_worth, defBody s_is_worth, defScope s_is_worth, [], []⟩
def D_fits_due : He.DefD := ⟨("fits_due", none), "fits_due", "fits_due", defArgs s_fits_due, defBody s_fits_due, defScope s_fits_due, [], []⟩
def D_is_fit : He.DefD := ⟨("is_fit", none), "is_fit", "is_fit", defArgs s_is_fit, defBody s_is_fit, defScope s_is_fit, [], []⟩
def D_lands_of : He.DefD := ⟨("lands_of", none), "lands_of", "lands_of", defArgs s_lands_of, defBody s_lands_of, defScope s_lands_of, [], []⟩
def D_fit_in : He.DefD := ⟨("fit_in", none), "fit_in", "fit_in", defArgs s_fit_in, defBody s_fit_in, defScope s_fit_in, [], []⟩
def D_land_by_holder : He.DefD := ⟨("land_by_holder", none), "land_by_holder", "land_by_holder", defArgs s_land_by_holder, defBody s_land_by_holder, defScope s_land_by_holder, [], []⟩
def D_is_parted : He.DefD := ⟨("is_parted", none), "is_parted", "is_parted", defArgs s_is_parted, defBody s_is_parted, defScope s_is_parted, [], []⟩
def D_is_parting : He.DefD := ⟨("is_parting", none), "is_parting", "is_parting", defArgs s_is_parting, defBody s_is_parting, defScope s_is_parting, [], []⟩
def D_dealt_on : He.DefD := ⟨("dealt_on", none), "dealt_on", "dealt_on", defArgs s_dealt_on, defBody s_dealt_on, defScope s_dealt_on, [], []⟩
def D_begun_by : He.DefD := ⟨("begun_by", none), "begun_by", "begun_by", defArgs s_begun_by, defBody s_begun_by, defScope s_begun_by, [], []⟩
def D_gone_on : He.DefD := ⟨("gone_on", none), "gone_on", "gone_on", defArgs s_gone_on, defBody s_gone_on, defScope s_gone_on, [], []⟩
def D_partings_in : He.DefD := ⟨("partings_in", none), "partings_in", "partings_in", defArgs s_partings_in, defBody s_partings_in, defScope s_partings_in, [], []⟩
def D_first_parting : He.DefD := ⟨("first_parting", none), "first_parting", "first_parting", defArgs s_first_parting, defBody s_first_parting, defScope s_first_parting, [], []⟩
def D_is_house : He.DefD := ⟨("is_house", none), "is_house", "is_house", defArgs s_is_house, defBody s_is_house, defScope s_is_house, [], []⟩
def D_are_houses : He.DefD := ⟨("are_houses", none), "are_houses", "are_houses", defArgs s_are_houses, defBody s_are_houses, defScope s_are_houses, [], []⟩
def D_need_houses : He.DefD := ⟨("need_houses", none), "need_houses", "need_houses", defArgs s_need_houses, defBody s_need_houses, defScope s_need_houses, [], []⟩
def D_is_dealt : He.DefD := ⟨("is_dealt", none), "is_dealt", "is_dealt", defArgs s_is_dealt, defBody s_is_dealt, defScope s_is_dealt, [], []⟩
def D_need_dealt : He.DefD := ⟨("need_dealt", none), "need_dealt", "need_dealt", defArgs s_need_dealt, defBody s_need_dealt, defScope s_need_dealt, [], []⟩
def D_need_other : He.DefD := ⟨("need_other", none), "need_other", "need_other", defArgs s_need_other, defBody s_need_other, defScope s_need_other, [], []⟩
def D_fences_in : He.DefD := ⟨("fences_in", none), "fences_in", "fences_in", defArgs s_fences_in, defBody s_fences_in, defScope s_fences_in, [], []⟩
def D_fences_of : He.DefD := ⟨("fences_of", none), "fences_of", "fences_of", defArgs s_fences_of, defBody s_fences_of, defScope s_fences_of, [], []⟩
def D_unlike : He.DefD := ⟨("unlike", none), "unlike", "unlike", defArgs s_unlike, defBody s_unlike, defScope s_unlike, [], []⟩
def D_fences_moved : He.DefD := ⟨("fences_moved", none), "fences_moved", "fences_moved", defArgs s_fences_moved, defBody s_fences_moved, defScope s_fences_moved, [], []⟩
def D_least_moved : He.DefD := ⟨("least_moved", none), "least_moved", "least_moved", defArgs s_least_moved, defBody s_least_moved, defScope s_least_moved, [], []⟩
def D_fewest_moved : He.DefD := ⟨("fewest_moved", none), "fewest_moved", "fewest_moved", defArgs s_fewest_moved, defBody s_fewest_moved, defScope s_fewest_moved, [], []⟩
def D__law_cell : He.DefD := ⟨("_law_cell", none), "_law_cell", "_law_cell", defArgs s__law_cell, defBody s__law_cell, defScope s__law_cell, [], []⟩
def D__law_pen : He.DefD := ⟨("_law_pen", none), "_law_pen", "_law_pen", defArgs s__law_pen, defBody s__law_pen, defScope s__law_pen, [], []⟩
def D__law_draw : He.DefD := ⟨("_law_draw", none), "_law_draw", "_law_draw", defArgs s__law_draw, defBody s__law_draw, defScope s__law_draw, [], []⟩
def D__law_pick : He.DefD := ⟨("_law_pick", none), "_law_pick", "_law_pick", defArgs s__law_pick, defBody s__law_pick, defScope s__law_pick, [], []⟩
def D__law_word : He.DefD := ⟨("_law_word", none), "_law_word", "_law_word", defArgs s__law_word, defBody s__law_word, defScope s__law_word, [], []⟩
def D__law_came : He.DefD := ⟨("_law_came", none), "_law_came", "_law_came", defArgs s__law_came, defBody s__law_came, defScope s__law_came, [], []⟩
def D__law_mead : He.DefD := ⟨("_law_mead", none), "_law_mead", "_law_mead", defArgs s__law_mead, defBody s__law_mead, defScope s__law_mead, [], []⟩
def D__law_custom : He.DefD := ⟨("_law_custom", none), "_law_custom", "_law_custom", defArgs s__law_custom, defBody s__law_custom, defScope s__law_custom, [], []⟩
def D__law_claims : He.DefD := ⟨("_law_claims", none), "_law_claims", "_law_claims", defArgs s__law_claims, defBody s__law_claims, defScope s__law_claims, [], []⟩
def D__law_cells : He.DefD := ⟨("_law_cells", none), "_law_cells", "_law_cells", defArgs s__law_cells, defBody s__law_cells, defScope s__law_cells, [], []⟩
def D__law_next_to : He.DefD := ⟨("_law_next_to", none), "_law_next_to", "_law_next_to", defArgs s__law_next_to, defBody s__law_next_to, defScope s__law_next_to, [], []⟩
def D__law_fences : He.DefD := ⟨("_law_fences", none), "_law_fences", "_law_fences", defArgs s__law_fences, defBody s__law_fences, defScope s__law_fences, [], []⟩
def D__law_houses : He.DefD := ⟨("_law_houses", none), "_law_houses", "_law_houses", defArgs s__law_houses, defBody s__law_houses, defScope s__law_houses, [], []⟩
def D__law_call : He.DefD := ⟨("_law_call", none), "_law_call", "_law_call", defArgs s__law_call, defBody s__law_call, defScope s__law_call, [], []⟩
def D__law_base : He.DefD := ⟨("_law_base", none), "_law_base", "_law_base", defArgs s__law_base, defBody s__law_base, defScope s__law_base, [], []⟩
def D__law_late : He.DefD := ⟨("_law_late", none), "_law_late", "_law_late", defArgs s__law_late, defBody s__law_late, defScope s__law_late, [], []⟩
def D_law : He.DefD := ⟨("law", none), "law", "law", defArgs s_law, defBody s_law, defScope s_law, [], []⟩
def M_fences : He.DefD := ⟨("Book", some "fences"), "fences", "Book.fences", defArgs m_fences, defBody m_fences, defScope m_fences, [], []⟩
def M_turn : He.DefD := ⟨("Book", some "turn"), "turn", "Book.turn", defArgs m_turn, defBody m_turn, defScope m_turn, [], []⟩
def M_plea_by : He.DefD := ⟨("Book", some "plea_by"), "plea_by", "Book.plea_by", defArgs m_plea_by, defBody m_plea_by, defScope m_plea_by, [], []⟩
def M_claim_anew : He.DefD := ⟨("Book", some "claim_anew"), "claim_anew", "Book.claim_anew", defArgs m_claim_anew, defBody m_claim_anew, defScope m_claim_anew, [], []⟩
def M_lay : He.DefD := ⟨("Book", some "lay"), "lay", "Book.lay", defArgs m_lay, defBody m_lay, defScope m_lay, [], []⟩
def M_deny : He.DefD := ⟨("Book", some "deny"), "deny", "Book.deny", defArgs m_deny, defBody m_deny, defScope m_deny, [], []⟩
def M_merge : He.DefD := ⟨("Book", some "merge"), "merge", "Book.merge", defArgs m_merge, defBody m_merge, defScope m_merge, [], []⟩
def M_part : He.DefD := ⟨("Book", some "part"), "part", "Book.part", defArgs m_part, defBody m_part, defScope m_part, [], []⟩
def M_undo : He.DefD := ⟨("Book", some "undo"), "undo", "Book.undo", defArgs m_undo, defBody m_undo, defScope m_undo, [], []⟩
def M_claims_now : He.DefD := ⟨("Book", some "claims_now"), "claims_now", "Book.claims_now", defArgs m_claims_now, defBody m_claims_now, defScope m_claims_now, [], []⟩
def M_parting_now : He.DefD := ⟨("Book", some "parting_now"), "parting_now", "Book.parting_now", defArgs m_parting_now, defBody m_parting_now, defScope m_parting_now, [], []⟩
def M_plea_now : He.DefD := ⟨("Book", some "plea_now"), "plea_now", "Book.plea_now", defArgs m_plea_now, defBody m_plea_now, defScope m_plea_now, [], []⟩
def M_init : He.DefD := ⟨("Book", some "__init__"), "__init__", "Book.__init__", defArgs m___init__, defBody m___init__, defScope m___init__, [], []⟩
def M_tm : He.DefD := ⟨("TooMany", some "__init__"), "__init__", "TooMany.__init__", defArgs m_tm, defBody m_tm, defScope m_tm, [], []⟩
def fn0 : List He.DefD := [D_is_from, D_rises, D_places_of, D_is_mead, D_need_mead, D_cells_in, D_worth_in, D_beside, D_is_custom, D_is_claim, D_are_claims, D_need_custom, D_need_claim, D_need_claims, D_stand, D_holders_in, D_need_holder, D_counted, D_counted_all, D_laid, D_denied, D_joined, D_piece_from, D_is_whole, D_lies_at_road, D_is_plea, D_need_plea, D_due_in, D_is_worth, D_fits_due]
def fn1 : List He.DefD := [D_is_fit, D_lands_of, D_fit_in, D_land_by_holder, D_is_parted, D_is_parting, D_dealt_on, D_begun_by, D_gone_on, D_partings_in, D_first_parting, D_is_house, D_are_houses, D_need_houses, D_is_dealt, D_need_dealt, D_need_other, D_fences_in, D_fences_of, D_unlike, D_fences_moved, D_least_moved, D_fewest_moved, D__law_cell, D__law_pen, D__law_draw, D__law_pick, D__law_word, D__law_came, D__law_mead]
def fn2 : List He.DefD := [D__law_custom, D__law_claims, D__law_cells, D__law_next_to, D__law_fences, D__law_houses, D__law_call, D__law_base, D__law_late, D_law, M_fences, M_turn, M_plea_by, M_claim_anew, M_lay, M_deny, M_merge, M_part, M_undo, M_claims_now, M_parting_now, M_plea_now, M_init, M_tm]
def fn : List He.DefD := fn0 ++ fn1 ++ fn2
def fa0 : List He.Fa := [.glo "is_from", .glo "rises", .glo "places_of", .glo "is_mead", .glo "need_mead", .glo "cells_in", .glo "worth_in", .glo "beside", .glo "is_custom", .glo "is_claim", .glo "are_claims", .glo "need_custom", .glo "need_claim", .glo "need_claims", .glo "stand", .glo "holders_in", .glo "need_holder", .glo "counted", .glo "counted_all", .glo "laid", .glo "denied", .glo "joined", .glo "piece_from", .glo "is_whole", .glo "lies_at_road", .glo "is_plea", .glo "need_plea", .glo "due_in", .glo "is_worth", .glo "fits_due"]
def fa1 : List He.Fa := [.glo "is_fit", .glo "lands_of", .glo "fit_in", .glo "land_by_holder", .glo "is_parted", .glo "is_parting", .glo "dealt_on", .glo "begun_by", .glo "gone_on", .glo "partings_in", .glo "first_parting", .glo "is_house", .glo "are_houses", .glo "need_houses", .glo "is_dealt", .glo "need_dealt", .glo "need_other", .glo "fences_in", .glo "fences_of", .glo "unlike", .glo "fences_moved", .glo "least_moved", .glo "fewest_moved", .glo "_law_cell", .glo "_law_pen", .glo "_law_draw", .glo "_law_pick", .glo "_law_word", .glo "_law_came", .glo "_law_mead"]
def fa2 : List He.Fa := [.glo "_law_custom", .glo "_law_claims", .glo "_law_cells", .glo "_law_next_to", .glo "_law_fences", .glo "_law_houses", .glo "_law_call", .glo "_law_base", .glo "_law_late", .glo "law", .glo "NoMead", .glo "NoPlace", .glo "NoLand", .glo "NoCustom", .glo "NoClaim", .glo "NoClaims", .glo "NoHolder", .glo "There", .glo "Missing", .glo "NoPlea", .glo "NoParting", .glo "NoWill", .glo "NoHouses", .glo "NoOdd", .glo "NoUndo", .glo "TooMany", .glo "MeadError", .glo "Book", .int "MOST_ROWS" (4), .int "MOST_COLUMNS" (6)]
def fa3 : List He.Fa := [.int "MOST_CELLS" (10), .int "MOST_WORTH" (99), .int "ROAD" (-1), .int "WATER" (-2), .int "MOST_SORTS" (6), .int "MOST_COUNT" (100), .int "MOST_HOLDER_claims" (3), .int "MOST_RIGHTS" (20), .int "MOST_CLAIMS" (12), .int "MOST_ODD" (999), .int "MANY" (4), .int "FAR" (99), .int "MOST_HOLDER_fences" (3), .free "len", .free "all", .free "any", .free "sum", .free "abs", .free "int", .free "tuple", .free "sorted", .free "set", .free "isinstance", .free "bool", .free "range", .free "enumerate", .free "zip", .free "dict", .free "list", .free "ValueError"]
def fa4 : List He.Fa := [.cls "Book", .noat "Book" "mead", .noat "Book" "custom", .noat "Book" "odd", .noat "Book" "houses", .noat "Book" "stood", .noat "Book" "past", .meth "Book" "fences", .meth "Book" "turn", .meth "Book" "plea_by", .meth "Book" "claim_anew", .meth "Book" "lay", .meth "Book" "deny", .meth "Book" "merge", .meth "Book" "part", .meth "Book" "undo", .meth "Book" "claims_now", .meth "Book" "parting_now", .meth "Book" "plea_now", .mkr "Book", .exc "NoHolder", .exc "NoParting", .exm "NoHolder" "MeadError" true, .exm "NoParting" "MeadError" true, .exm "TooMany" "MeadError" true]
def fa : List He.Fa := fa0 ++ fa1 ++ fa2 ++ fa3 ++ fa4
def tf : List He.Defn := [("law", none), ("_law_late", none)]
abbrev R : PySem.W.OpenRow := PySem.W.OpenLaw.row PySem.Challenge.rw_meadshares_k17_whole_late_claims_move_fe
abbrev qv : Program := PySem.W.view R.prog [124]
/-! ### what is looked at: the module's names, their code, the classes' names and their code -/
def valsOf (g : Addr → Option Obj) (a : Addr) : List Addr := match g a with
  | some ⟨_, _, .dict es _, _⟩ => es.toList.flatMap fun e => He.refV e.val
  | _ => []
def nextOf (g : Addr → Option Obj) (a : Addr) : List Addr := match g a with
  | some ⟨_, _, .func fd, _⟩ => He.refV fd.code
  | some ⟨_, _, .cls cd, _⟩ => [cd.ns]
  | _ => []
def as3 (g : Addr → Option Obj) (l0 l1 l2 : List Addr) : List Addr := mainGlobals :: (l0 ++ (l1 ++ (l2 ++ l2.flatMap (nextOf g))))
def as2 (g : Addr → Option Obj) (l0 l1 : List Addr) : List Addr := as3 g l0 l1 (l1.flatMap (valsOf g))
def as1 (g : Addr → Option Obj) (l0 : List Addr) : List Addr := as2 g l0 (l0.flatMap (nextOf g))
def asM (g : Addr → Option Obj) : List Addr := as1 g (valsOf g mainGlobals)
def obsK (g : Addr → Option Obj) (K : PySem.W.Frag) : He.AlX := (He.obsT fa fn [] K, exB K && He.tabsB g tf K)
def obsM (g : Addr → Option Obj) : He.AlX := obsK g (He.frT g (asM g))
theorem saysM_of {w : World} {h : Heap} (e : obsM h.get? = He.valX fn [] w) : He.SaysX fa fn [] tf exB w h (He.frT h.get? (asM h.get?)) := by
  have e1 : He.obsT fa fn [] (He.frT h.get? (asM h.get?)) = He.valT fn [] w := congrArg Prod.fst e
  have e2 : (exB (He.frT h.get? (asM h.get?)) && He.tabsB h.get? tf (He.frT h.get? (asM h.get?))) = true := congrArg Prod.snd e
  obtain ⟨q1, q2⟩ := He.ba e2
  have one : ∀ p ∈ tf, PySem.W.codeHdIn (He.frT h.get? (asM h.get?)) (He.cT (He.frT h.get? (asM h.get?)) p).1 (He.cT (He.frT h.get? (asM h.get?)) p).2 = true ∧ ∃ o, h.get? (He.cT (He.frT h.get? (asM h.get?)) p).2 = some o ∧ He.emptyTab o = true := fun p hp => by
    obtain ⟨q3, q4⟩ := He.ba (List.all_eq_true.mp q2 p hp)
    refine ⟨q3, ?_⟩
    cases q5 : h.get? (He.cT (He.frT h.get? (asM h.get?)) p).2 with
    | none =>
      rw [q5] at q4
      cases q4
    | some o =>
      rw [q5] at q4
      exact ⟨o, rfl, q4⟩
  exact ⟨e1, q1, fun p hp => (one p hp).1, fun p hp => (let ⟨_, _, q5, q6⟩ := one p hp; He.frT_none q5 q6), fun p hp => (let ⟨_, _, q5, q6⟩ := one p hp; by rw [q5, He.emptyTab_eq q6])⟩
def hk : PySem.W.Hook where
  α := He.AlX
  obs := fun s => obsM s.heap.get?
  val := fun w => He.valX fn [] w
  says := fun w h => ∃ K : PySem.W.Frag, K.In h ∧ He.SaysX fa fn [] tf exB w h K
  of := fun _ _ e => ⟨_, He.frT_in, saysM_of e⟩
  keeps := fun _ _ _ ⟨K, hK, c⟩ k => ⟨K, PySem.W.Frag.In.keeps hK k, ⟨c.t, c.more, c.hd, c.out, fun p hp => k _ _ (c.empty p hp)⟩⟩
def ob (s : PySem.W.SharedT) : He.AlX := obsM (HandSHeadRun.getT s)
theorem ob_eq (s : PySem.W.SharedT) : ob s = hk.obs s.abs := by
  have e : HandSHeadRun.getT s = s.abs.heap.get? := funext fun a => HandSHeadRun.getT_eq s a
  show obsM (HandSHeadRun.getT s) = obsM s.abs.heap.get?
  rw [e]
def names0 : List PySem.Str := ["_wall", "MeadError", "NoMead", "NoPlace", "NoLand", "NoCustom", "NoClaim", "NoClaims", "NoHolder", "There", "Missing", "NoPlea", "NoParting", "NoHouses", "NoDealt", "NoWill", "NoOdd", "NoUndo", "TooMany", "MOST_ROWS", "MOST_COLUMNS", "MOST_CELLS", "MOST_WORTH", "ROAD", "WATER", "is_from", "rises", "places_of", "is_mead", "need_mead"]
def names1 : List PySem.Str := ["cells_in", "worth_in", "beside", "MOST_SORTS", "MOST_COUNT", "MOST_HOLDER_claims", "MOST_RIGHTS", "MOST_CLAIMS", "is_custom", "is_claim", "are_claims", "need_custom", "need_claim", "need_claims", "stand", "holders_in", "need_holder", "counted", "counted_all", "laid", "denied", "joined", "piece_from", "is_whole", "lies_at_road", "MOST_ODD", "is_plea", "need_plea", "due_in", "is_worth"]
def names2 : List PySem.Str := ["fits_due", "is_fit", "lands_of", "fit_in", "land_by_holder", "is_parted", "is_parting", "need_parting", "dealt_on", "begun_by", "gone_on", "partings_in", "first_parting", "MANY", "FAR", "is_house", "are_houses", "need_houses", "way_to", "way_of", "longest_way", "nearest_in", "swapped", "both_would", "need_two", "exchanged", "MOST_HOLDER_fences", "is_dealt", "need_dealt", "need_other"]
def names3 : List PySem.Str := ["fences_in", "fences_of", "unlike", "fences_moved", "least_moved", "fewest_moved", "Book", "_law_cell", "_law_pen", "_law_draw", "_law_pick", "_law_word", "_law_came", "_law_mead", "_law_custom", "_law_claims", "_law_cells", "_law_next_to", "_law_fences", "_law_houses", "_law_call", "_law_base", "_law_late"]
def names : List PySem.Str := names0 ++ names1 ++ names2 ++ names3
theorem run (w : World) : HandSHeadRun.RunEq R qv hk ob 60000 names w := by
  intro os
  kernel_rfl
end MeadHead

set_option maxRecDepth 100000
set_option maxHeartbeats 4000000
/-! the ground: pure data over the heap, what an expression comes to -/
namespace Mead
open PySem PySem.Spec PyProof.Rows L2

/-! ### pure data: numbers, truths, texts, None, tuples of such -/
mutual
inductive Im (H : Hp) : V → PyData → Prop
  | non : Im H .non .none
  | bl (b : Bool) : Im H (.bl b) (.bool b)
  | int (i : Int) : Im H (.int i) (.int i)
  | str (x : Str) : Im H (.str x) (.str x)
  | tup {a : Addr} {xs : List V} {ds : List PyData} : H a = some (.tup xs) → ImA H xs ds → Im H (.ref a) (.tuple ds)
inductive ImA (H : Hp) : List V → List PyData → Prop
  | nil : ImA H [] []
  | cons {v : V} {vs : List V} {d : PyData} {ds : List PyData} : Im H v d → ImA H vs ds → ImA H (v :: vs) (d :: ds)
end
/-- the tuples stay -/
def TK (H H' : Hp) : Prop := ∀ a xs, H a = some (.tup xs) → H' a = some (.tup xs)
theorem TK.of {H H' : Hp} (s : Same H H') : TK H H' := fun a xs h => s a _ h
theorem TK.refl (H : Hp) : TK H H := fun _ _ h => h
theorem TK.trans {H H1 H2 : Hp} (a : TK H H1) (b : TK H1 H2) : TK H H2 := fun c xs h => b c xs (a c xs h)
theorem TK.mut {H : Hp} {p : Addr} {o o' : HO} (h : H p = some o) (ho : ∀ xs, o ≠ .tup xs) : TK H (upd H p o') := fun a xs e => by
  rw [upd_ne (fun z => by subst z; rw [h] at e; exact ho xs (Option.some.inj e))]
  exact e
mutual
theorem Im.keep {H H' : Hp} (k : TK H H') : ∀ (d : PyData) (v : V), Im H v d → Im H' v d
  | .none, _, h => by cases h; exact .non
  | .bool b, _, h => by cases h; exact .bl b
  | .int i, _, h => by cases h; exact .int i
  | .str x, _, h => by cases h; exact .str x
  | .list _, _, h => by cases h
  | .dict _, _, h => by cases h
  | .tuple ds, _, h => by
    cases h with
    | tup e r => exact .tup (k _ _ e) (ImA.keep k ds _ r)
theorem ImA.keep {H H' : Hp} (k : TK H H') : ∀ (ds : List PyData) (vs : List V), ImA H vs ds → ImA H' vs ds
  | [], _, h => by cases h; exact .nil
  | d :: ds, _, h => by
    cases h with
    | cons a r => exact .cons (Im.keep k d _ a) (ImA.keep k ds _ r)
end
mutual
theorem Im.dp {K : PySem.W.Frag} {H : Hp} : ∀ (d : PyData) (v : V), Im H v d → Dp K H v d
  | .none, _, h => by cases h; exact .non
  | .bool b, _, h => by cases h; exact .bl b
  | .int i, _, h => by cases h; exact .int i
  | .str x, _, h => by cases h; exact .str x
  | .list _, _, h => by cases h
  | .dict _, _, h => by cases h
  | .tuple ds, _, h => by
    cases h with
    | tup e r => exact .tup (SqT.of e) (ImA.dp ds _ r)
theorem ImA.dp {K : PySem.W.Frag} {H : Hp} : ∀ (ds : List PyData) (vs : List V), ImA H vs ds → DpAll K H vs ds
  | [], _, h => by cases h; exact .nil
  | d :: ds, _, h => by
    cases h with
    | cons a r => exact .cons (Im.dp d _ a) (ImA.dp ds _ r)
end
section
variable {H H' : Hp} {v : V} {vs ws : List V} {d : PyData} {ds es : List PyData}
theorem Im.tk (h : Im H v d) (k : TK H H') : Im H' v d := Im.keep k d v h
theorem ImA.tk (h : ImA H vs ds) (k : TK H H') : ImA H' vs ds := ImA.keep k ds vs h
theorem Im.up (h : Im H v d) (k : Same H H') : Im H' v d := h.tk (.of k)
theorem ImA.up (h : ImA H vs ds) (k : Same H H') : ImA H' vs ds := h.tk (.of k)
theorem ImA.len : ∀ {vs : List V} {ds : List PyData}, ImA H vs ds → vs.length = ds.length
  | _, _, .nil => rfl
  | _, _, .cons _ r => congrArg (· + 1) (ImA.len r)
theorem ImA.get : ∀ {ds : List PyData} {vs : List V} {i : Nat} {d : PyData}, ImA H vs ds → ds[i]? = some d → ∃ v, vs[i]? = some v ∧ Im H v d
  | _, _, _, _, .nil, e => by simp at e
  | _, _, 0, _, .cons a _, e => by simp at e; subst e; exact ⟨_, rfl, a⟩
  | _, _, i + 1, _, .cons _ r, e => by
    obtain ⟨v, h1, h2⟩ := ImA.get (i := i) r (by simpa using e)
    exact ⟨v, by simpa using h1, h2⟩
theorem ImA.getV : ∀ {vs : List V} {ds : List PyData} {i : Nat} {v : V}, ImA H vs ds → vs[i]? = some v → ∃ d, ds[i]? = some d ∧ Im H v d
  | _, _, _, _, .nil, e => by simp at e
  | _, _, 0, _, .cons a _, e => by simp at e; subst e; exact ⟨_, rfl, a⟩
  | _, _, i + 1, _, .cons _ r, e => by
    obtain ⟨v, h1, h2⟩ := ImA.getV (i := i) r (by simpa using e)
    exact ⟨v, by simpa using h1, h2⟩
theorem ImA.app : ∀ {vs : List V} {ds : List PyData}, ImA H vs ds → ImA H ws es → ImA H (vs ++ ws) (ds ++ es)
  | _, _, .nil, s => s
  | _, _, .cons a r, s => .cons a (ImA.app r s)
theorem ImA.one (h : Im H v d) : ImA H [v] [d] := .cons h .nil
theorem ImA.drop : ∀ (n : Nat) {vs : List V} {ds : List PyData}, ImA H vs ds → ImA H (vs.drop n) (ds.drop n)
  | 0, _, _, h => h
  | _ + 1, _, _, .nil => .nil
  | n + 1, _, _, .cons _ r => ImA.drop n r
theorem ImA.take : ∀ (n : Nat) {vs : List V} {ds : List PyData}, ImA H vs ds → ImA H (vs.take n) (ds.take n)
  | 0, _, _, _ => .nil
  | _ + 1, _, _, .nil => .nil
  | n + 1, _, _, .cons a r => .cons a (ImA.take n r)
theorem ImA.ints : ∀ {ns : List Int} {vs : List V}, ImA H vs (ns.map .int) → vs = ns.map V.int
  | [], _, h => by cases h; rfl
  | n :: ns, _, h => by
    have h' : ImA H _ (.int n :: ns.map .int) := h
    cases h' with
    | cons a r => cases a; rw [ImA.ints r]; rfl
theorem ImA.bools : ∀ {ns : List Bool} {vs : List V}, ImA H vs (ns.map .bool) → vs = ns.map V.bl
  | [], _, h => by cases h; rfl
  | n :: ns, _, h => by
    have h' : ImA H _ (.bool n :: ns.map .bool) := h
    cases h' with
    | cons a r => cases a; rw [ImA.bools r]; rfl
theorem ImA.ofInts : ∀ (ns : List Int), ImA H (ns.map V.int) (ns.map .int)
  | [] => .nil
  | n :: ns => .cons (.int n) (ImA.ofInts ns)
theorem Im.isInt {i : Int} (h : Im H v (.int i)) : v = .int i := by cases h; rfl
theorem Im.isBl {b : Bool} (h : Im H v (.bool b)) : v = .bl b := by cases h; rfl
theorem Im.isNon (h : Im H v .none) : v = .non := by cases h; rfl
theorem Im.isStr {x : Str} (h : Im H v (.str x)) : v = .str x := by cases h; rfl
theorem Im.isTup (h : Im H v (.tuple ds)) : ∃ a xs, v = .ref a ∧ H a = some (.tup xs) ∧ ImA H xs ds := by
  cases h with
  | tup e r => exact ⟨_, _, rfl, e, r⟩
end
/-- a list of pure data -/
def Ls (H : Hp) (p : Addr) (ds : List PyData) : Prop := ∃ vs, H p = some (.lst vs) ∧ ImA H vs ds
theorem Ls.up {H H' : Hp} {p : Addr} {ds : List PyData} (h : Ls H p ds) (k : Same H H') : Ls H' p ds :=
  let ⟨vs, e, r⟩ := h
  ⟨vs, k _ _ e, r.up k⟩
theorem Ls.dp {K : PySem.W.Frag} {H : Hp} {p : Addr} {ds : List PyData} (h : Ls H p ds) : Dp K H (.ref p) (.list ds) :=
  let ⟨_, e, r⟩ := h
  .lst (SqL.of e) (ImA.dp _ _ r)
theorem Ls.sql {K : PySem.W.Frag} {H : Hp} {p : Addr} {ds : List PyData} (h : Ls H p ds) : ∃ vs, SqL K H p vs ∧ ImA H vs ds :=
  let ⟨vs, e, r⟩ := h
  ⟨vs, SqL.of e, r⟩

/-! ### what is told of a value -/
inductive Ar where
  | d (x : PyData)
  | l (ds : List PyData)
/-- as it stands -/
def Ar.rep (H : Hp) (v : V) : Ar → Prop
  | .d x => Im H v x
  | .l ds => ∃ p, v = .ref p ∧ Ls H p ds
/-- as a result: a list is a new one -/
def Ar.res (H1 : Hp) (v : V) (H2 : Hp) : Ar → Prop
  | .d x => Im H2 v x
  | .l ds => ∃ p, v = .ref p ∧ H1 p = none ∧ Ls H2 p ds
theorem Ar.rep_up {H H' : Hp} {v : V} : ∀ {r : Ar}, r.rep H v → Same H H' → r.rep H' v
  | .d _, h, k => Im.up h k
  | .l _, ⟨p, e, h⟩, k => ⟨p, e, h.up k⟩
theorem Ar.res_rep {H1 H2 : Hp} {v : V} : ∀ {r : Ar}, r.res H1 v H2 → r.rep H2 v
  | .d _, h => h
  | .l _, ⟨p, e, _, h⟩ => ⟨p, e, h⟩
theorem Ar.res_back {H0 H1 H2 : Hp} {v : V} (k : Same H0 H1) : ∀ {r : Ar}, r.res H1 v H2 → r.res H0 v H2
  | .d _, h => h
  | .l _, ⟨p, e, n, h⟩ => ⟨p, e, k.free n, h⟩
theorem Ar.res_up {H1 H2 H3 : Hp} {v : V} (k : Same H2 H3) : ∀ {r : Ar}, r.res H1 v H2 → r.res H1 v H3
  | .d _, h => Im.up h k
  | .l _, ⟨p, e, n, h⟩ => ⟨p, e, n, h.up k⟩
inductive Reps (H : Hp) : List V → List Ar → Prop
  | nil : Reps H [] []
  | cons {v : V} {vs : List V} {r : Ar} {rs : List Ar} : r.rep H v → Reps H vs rs → Reps H (v :: vs) (r :: rs)
theorem Reps.up {H H' : Hp} (k : Same H H') : ∀ {vs : List V} {rs : List Ar}, Reps H vs rs → Reps H' vs rs
  | _, _, .nil => .nil
  | _, _, .cons a r => .cons (Ar.rep_up a k) (r.up k)
theorem Reps.len {H : Hp} : ∀ {vs : List V} {rs : List Ar}, Reps H vs rs → vs.length = rs.length
  | _, _, .nil => rfl
  | _, _, .cons _ r => congrArg (· + 1) r.len
theorem Reps.im {H : Hp} : ∀ {vs : List V} {ds : List PyData}, Reps H vs (ds.map .d) → ImA H vs ds
  | _, [], h => by cases h; exact .nil
  | _, d :: ds, h => by
    have h' : Reps H _ (.d d :: ds.map .d) := h
    cases h' with
    | cons a r => exact .cons a (Reps.im r)

/-! ### the weakest readings -/
section
variable (X : Cx)
def jE (e : Expr) : TE := fun σ H Q => ∀ (pins : List (Addr × Obj)) (s : Shared), Inv X pins σ H s → wpAny (model X.prog X.w) X.A (eval e X.env) (EP X pins σ Q) X.xe s
def jT (e : Expr) : TT := fun σ H Q => ∀ (pins : List (Addr × Obj)) (s : Shared), Inv X pins σ H s → wpAny (model X.prog X.w) X.A (isTrue e X.env (eval e X.env)) (TP X pins σ Q) X.xe s
def jW (e : Expr) : TT := fun σ H Q => ∀ (wh : Sem Value) (pins : List (Addr × Obj)) (s : Shared), Inv X pins σ H s → wpAny (model X.prog X.w) X.A (isTrue e X.env wh) (TP X pins σ Q) X.xe s
def jA (es : List Expr) : TA := fun σ H Q => ∀ (pos : Pos) (pins : List (Addr × Obj)) (s : Shared), Inv X pins σ H s → wpAny (model X.prog X.w) X.A (spliced (backTo pos (starEach es X.env))) (AP X pins σ Q) X.xe s
def jS (st : Stmt) : TS := fun D σ H => ∀ (pins : List (Addr × Obj)) (s : Shared), Inv X pins σ H s → wpAny (model X.prog X.w) X.A (exec st X.env) (SP X pins D) X.xe s
def jSs (sts : List Stmt) : TS := fun D σ H => ∀ (pins : List (Addr × Obj)) (s : Shared), Inv X pins σ H s → wpAny (model X.prog X.w) X.A (execs sts X.env) (SP X pins D) X.xe s
end
section
variable {X : Cx} {e : Expr} {es : List Expr} {st : Stmt} {sts : List Stmt} {σ : L2.St} {H : Hp}
theorem pe_j : PE X e (jE X e) := ⟨fun pins s _ _ _ I h => h pins s I⟩
theorem pt_j : PT X e (jT X e) := ⟨fun pins s _ _ _ I h => h pins s I⟩
theorem pw_j : PW X e (jW X e) := ⟨fun wh pins s _ _ _ I h => h wh pins s I⟩
theorem pa_j : PA X es (jA X es) := ⟨fun pos pins s _ _ _ I h => h pos pins s I⟩
theorem ps_j : PS X st (jS X st) := ⟨fun pins s _ _ _ I h => h pins s I⟩
theorem pss_j : PSs X sts (jSs X sts) := ⟨fun pins s _ _ _ I h => h pins s I⟩
theorem je_of {t : TE} {Q : VK} (h : PE X e t) (q : t σ H Q) : jE X e σ H Q := fun pins s I => h.run pins s σ H Q I q
theorem jt_of {t : TT} {Q : Bool → Hp → Prop} (h : PT X e t) (q : t σ H Q) : jT X e σ H Q := fun pins s I => h.run pins s σ H Q I q
theorem jw_of {t : TT} {Q : Bool → Hp → Prop} (h : PW X e t) (q : t σ H Q) : jW X e σ H Q := fun wh pins s I => h.run wh pins s σ H Q I q
theorem ja_of {t : TA} {Q : List V → Hp → Prop} (h : PA X es t) (q : t σ H Q) : jA X es σ H Q := fun pos pins s I => h.run pos pins s σ H Q I q
theorem js_of {t : TS} {D : Ends} (h : PS X st t) (q : t D σ H) : jS X st D σ H := fun pins s I => h.run pins s σ H D I q
theorem jss_of {t : TS} {D : Ends} (h : PSs X sts t) (q : t D σ H) : jSs X sts D σ H := fun pins s I => h.run pins s σ H D I q
theorem je_mono {Q Q' : VK} (h : jE X e σ H Q) (k : ∀ v H', Q v H' → Q' v H') : jE X e σ H Q' := fun pins s I =>
  thn (h pins s I) fun _ _ ⟨v, H', I', r, q⟩ => ⟨v, H', I', r, k _ _ q⟩
theorem jt_mono {Q Q' : Bool → Hp → Prop} (h : jT X e σ H Q) (k : ∀ v H', Q v H' → Q' v H') : jT X e σ H Q' := fun pins s I =>
  thn (h pins s I) fun _ _ ⟨H', I', q⟩ => ⟨H', I', k _ _ q⟩
theorem jw_mono {Q Q' : Bool → Hp → Prop} (h : jW X e σ H Q) (k : ∀ v H', Q v H' → Q' v H') : jW X e σ H Q' := fun wh pins s I =>
  thn (h wh pins s I) fun _ _ ⟨H', I', q⟩ => ⟨H', I', k _ _ q⟩
theorem ja_mono {Q Q' : List V → Hp → Prop} (h : jA X es σ H Q) (k : ∀ v H', Q v H' → Q' v H') : jA X es σ H Q' := fun pos pins s I =>
  thn (h pos pins s I) fun _ _ ⟨v, H', I', r, q⟩ => ⟨v, H', I', r, k _ _ q⟩
end

/-! ### what an expression comes to, from a base on -/
def EX (X : Cx) (e : Expr) (σ : L2.St) (B : Hp) (P : Hp → V → Hp → Prop) : Prop := ∀ H1, Same B H1 → jE X e σ H1 fun v H2 => Same H1 H2 ∧ P H1 v H2
abbrev JA (X : Cx) (e : Expr) (σ : L2.St) (B : Hp) (r : Ar) : Prop := EX X e σ B fun H1 v H2 => r.res H1 v H2
abbrev JR (X : Cx) (e : Expr) (σ : L2.St) (B : Hp) (r : Ar) : Prop := EX X e σ B fun _ v H2 => r.rep H2 v
/-- a value that is known -/
abbrev JV (X : Cx) (e : Expr) (σ : L2.St) (B : Hp) (v : V) : Prop := EX X e σ B fun _ u _ => u = v
def JT (X : Cx) (e : Expr) (σ : L2.St) (B : Hp) (b : Bool) : Prop := ∀ H1, Same B H1 → jT X e σ H1 fun c H2 => Same H1 H2 ∧ c = b
def JW (X : Cx) (e : Expr) (σ : L2.St) (B : Hp) (b : Bool) : Prop := ∀ H1, Same B H1 → jW X e σ H1 fun c H2 => Same H1 H2 ∧ c = b
def JRs (X : Cx) (es : List Expr) (σ : L2.St) (B : Hp) (rs : List Ar) : Prop := ∀ H1, Same B H1 → jA X es σ H1 fun vs H2 => Same H1 H2 ∧ Reps H2 vs rs
section
variable {X : Cx} {e : Expr} {es : List Expr} {σ : L2.St} {B B' : Hp} {r : Ar}
theorem EX.up {P : Hp → V → Hp → Prop} (h : EX X e σ B P) (k : Same B B') : EX X e σ B' P := fun H1 s => h H1 (k.trans s)
theorem EX.imp {P P' : Hp → V → Hp → Prop} (h : EX X e σ B P) (k : ∀ H1 v H2, P H1 v H2 → P' H1 v H2) : EX X e σ B P' := fun H1 s => je_mono (h H1 s) fun _ _ q => ⟨q.1, k _ _ _ q.2⟩
theorem JA.toR (h : JA X e σ B r) : JR X e σ B r := EX.imp h fun _ _ _ q => Ar.res_rep q
theorem JR.toA {x : PyData} (h : JR X e σ B (.d x)) : JA X e σ B (.d x) := h
theorem JV.toR {v : V} (h : JV X e σ B v) (q : r.rep B v) : JR X e σ B r := fun H1 s => je_mono (h H1 s) fun _ _ ⟨k, eq⟩ => ⟨k, by rw [eq]; exact Ar.rep_up q (s.trans k)⟩
theorem JT.up {b : Bool} (h : JT X e σ B b) (k : Same B B') : JT X e σ B' b := fun H1 s => h H1 (k.trans s)
theorem JRs.up {rs : List Ar} (h : JRs X es σ B rs) (k : Same B B') : JRs X es σ B' rs := fun H1 s => h H1 (k.trans s)
end
end Mead

set_option maxRecDepth 100000
set_option maxHeartbeats 4000000
/-! the context of a def's body or of a comprehension's block; the rules by what is told of values -/
namespace Mead
open PySem PySem.Spec PyProof.Rows L2

/-- what the whole law stands over -/
structure Tx where
  P : Program
  w : World
  K : PySem.W.Frag
  mg : Str → Option Value
  base : Heap
/-- a body that runs: names N, scope sc, room for k calls, no exception leaves -/
structure BCx (T : Tx) (N : List Str) (sc : Scope) (k : Nat) (X : Cx) : Prop where
  prog : X.prog = T.P
  w : X.w = T.w
  K : X.K = T.K
  mg : X.mg = T.mg
  base : X.base = T.base
  calm : X.calm = true
  hN : X.N = N
  hs : X.env.scope = sc
  fk : sc.kind = .function
  nd : N.Nodup
  room : Room k X.A
  xe : X.xe = fun _ _ => False
def vis (sc : Scope) (x : Str) : Bool := match sc.names.lookup x with
  | some .local => !(x == ("__debug__" : Str)) && !(x == ("__classdict__" : Str))
  | some .cell => !(x == ("__debug__" : Str)) && !(x == ("__classdict__" : Str))
  | some .free => !(x == ("__debug__" : Str)) && !(x == ("__classdict__" : Str))
  | _ => false
def glo (sc : Scope) (x : Str) : Bool := match sc.names.lookup x with
  | some .globalImplicit => !(x == ("__debug__" : Str)) && !(x == ("__name__" : Str))
  | _ => false
def loc (sc : Scope) (x : Str) : Bool := match sc.names.lookup x with
  | some .local => true
  | _ => false
theorem vis_of {sc : Scope} {x : Str} (h : vis sc x = true) : Vis sc x ∧ (x == ("__debug__" : Str)) = false ∧ (x == ("__classdict__" : Str)) = false := by
  unfold vis at h
  unfold Vis
  split at h <;> first | cases h | (rename_i e; simp only [Bool.and_eq_true, Bool.not_eq_true'] at h; exact ⟨by simp [e], h.1, h.2⟩)
theorem glo_of {sc : Scope} {x : Str} (h : glo sc x = true) : sc.names.lookup x = some .globalImplicit ∧ (x == ("__debug__" : Str)) = false ∧ x ≠ ("__name__" : Str) := by
  unfold glo at h
  split at h
  · rename_i e
    simp only [Bool.and_eq_true, Bool.not_eq_true'] at h
    exact ⟨e, h.1, by simpa using h.2⟩
  · cases h
theorem loc_of {sc : Scope} {x : Str} (h : loc sc x = true) : sc.names.lookup x = some .local := by
  unfold loc at h
  split at h
  · assumption
  · cases h
section
variable {T : Tx} {N : List Str} {sc : Scope} {k : Nat} {X : Cx} {σ : L2.St} {B : Hp}
theorem BCx.vis (c : BCx T N sc k X) {x : Str} (h : vis sc x = true) : Vis X.env.scope x := by rw [c.hs]; exact (vis_of h).1
theorem BCx.gl (c : BCx T N sc k X) {x : Str} (h : glo sc x = true) : Gl X x := by unfold Gl Env.kindOf; rw [c.hs]; exact (glo_of h).1
theorem BCx.hu (c : BCx T N sc k X) : X.A.units + 1 < cLine := hu_of c.room
theorem BCx.never (c : BCx T N sc k X) : PassesOwn (model X.prog X.w) X.A X.env X.xe := by rw [c.xe]; exact PassesOwn.never

/-! ### names and constants -/
theorem jv_var (c : BCx T N sc k X) {i : Nat} {x : Str} {pos : Pos} {v : V} (hN : N[i]? = some x) (hv : Mead.vis sc x = true) (hs : σ[i]? = some (some v)) : JV X (.Name x pos) σ B v := fun H1 _ =>
  je_of (pe_var (i := i) (by rw [c.hN]; exact hN) (c.vis hv) (vis_of hv).2.1 (vis_of hv).2.2) ⟨v, hs, Same.refl H1, rfl⟩
theorem jr_var (c : BCx T N sc k X) {i : Nat} {x : Str} {pos : Pos} {v : V} {r : Ar} (hN : N[i]? = some x) (hv : Mead.vis sc x = true) (hs : σ[i]? = some (some v)) (h : r.rep B v) : JR X (.Name x pos) σ B r := (jv_var c hN hv hs).toR h
theorem ja_int {i : Int} {j pos} : JA X (.Constant (.int i) j pos) σ B (.d (.int i)) := fun H1 _ => je_of pe_int ⟨Same.refl H1, .int i⟩
theorem ja_bl {i : Bool} {j pos} : JA X (.Constant (.bool i) j pos) σ B (.d (.bool i)) := fun H1 _ => je_of pe_bl ⟨Same.refl H1, .bl i⟩
theorem ja_non {j pos} : JA X (.Constant .none j pos) σ B (.d .none) := fun H1 _ => je_of pe_non ⟨Same.refl H1, .non⟩
theorem ja_str {i : Str} {j pos} : JA X (.Constant (.str i) j pos) σ B (.d (.str i)) := fun H1 _ => je_of pe_str ⟨Same.refl H1, .str i⟩
/-- a module's number -/
theorem ja_num (c : BCx T N sc k X) {x : Str} {i : Int} {pos : Pos} (hg : glo sc x = true) (hm : ∃ t, T.mg x = some (.int i t)) : JA X (.Name x pos) σ B (.d (.int i)) := by
  obtain ⟨t, hm⟩ := hm
  exact fun H1 _ => je_of (pe_glob (v := .int i) (c.gl hg) (by rw [c.mg]; exact hm) ⟨t, rfl⟩ (glo_of hg).2.1) ⟨Same.refl H1, .int i⟩

/-! ### operators -/
variable {a b : Expr} {es : List Expr} {pos : Pos} {x y : PyData}
theorem j_op {r : R2} {op : Operator} {P Pa Pb : Hp → V → Hp → Prop} (ho : OpR X (binaryOp op) r) (ha : EX X a σ B Pa) (hb : EX X b σ B Pb)
    (h : ∀ H1 v H2 u H3, Same B H1 → Same H1 H2 → Same H2 H3 → Pa H1 v H2 → Pb H2 u H3 → r v u H3 fun z H4 => Same H1 H4 ∧ P H1 z H4) : EX X (.BinOp a op b pos) σ B P := fun H1 s =>
  je_of (pe_op ho pe_j pe_j) (je_mono (ha H1 s) fun v H2 ⟨s2, p2⟩ => je_mono (hb H2 (s.trans s2)) fun u H3 ⟨s3, p3⟩ => h H1 v H2 u H3 s s2 s3 p2 p3)
theorem j_cmp {r : R2} {op : CmpOp} {P Pa Pb : Hp → V → Hp → Prop} (ho : OpR X (compareOp op) r) (hm : behindInMarks op b = false) (ha : EX X a σ B Pa) (hb : EX X b σ B Pb)
    (h : ∀ H1 v H2 u H3, Same B H1 → Same H1 H2 → Same H2 H3 → Pa H1 v H2 → Pb H2 u H3 → r v u H3 fun z H4 => Same H1 H4 ∧ P H1 z H4) : EX X (.Compare a [op] [b] pos) σ B P := fun H1 s =>
  je_of (pe_cmpR ho pe_j pe_j hm) (je_mono (ha H1 s) fun v H2 ⟨s2, p2⟩ => je_mono (hb H2 (s.trans s2)) fun u H3 ⟨s3, p3⟩ => h H1 v H2 u H3 s s2 s3 p2 p3)
theorem ja_opI {g : Int → Int → Int} {op : Operator} {m n : Int} (ho : OpR X (binaryOp op) (rI0 fun i j => .int (g i j))) (ha : JR X a σ B (.d (.int m))) (hb : JR X b σ B (.d (.int n))) : JA X (.BinOp a op b pos) σ B (.d (.int (g m n))) :=
  j_op ho ha hb fun H1 v H2 u H3 _ s2 s3 p2 p3 => ⟨m, n, Im.isInt p2, Im.isInt p3, s2.trans s3, .int _⟩
theorem ja_add {m n : Int} (ha : JR X a σ B (.d (.int m))) (hb : JR X b σ B (.d (.int n))) : JA X (.BinOp a .Add b pos) σ B (.d (.int (m + n))) := ja_opI op_add ha hb
theorem ja_sub {m n : Int} (ha : JR X a σ B (.d (.int m))) (hb : JR X b σ B (.d (.int n))) : JA X (.BinOp a .Sub b pos) σ B (.d (.int (m - n))) := ja_opI op_sub ha hb
theorem ja_mul {m n : Int} (hl : CMul m n) (ha : JR X a σ B (.d (.int m))) (hb : JR X b σ B (.d (.int n))) : JA X (.BinOp a .Mult b pos) σ B (.d (.int (m * n))) :=
  j_op op_mul ha hb fun H1 v H2 u H3 _ s2 s3 p2 p3 => ⟨m, n, Im.isInt p2, Im.isInt p3, hl, s2.trans s3, .int _⟩
theorem ja_neg {m : Int} (ha : JR X a σ B (.d (.int m))) : JA X (.UnaryOp .USub a pos) σ B (.d (.int (-m))) := fun H1 s =>
  je_of (pe_un un_neg pe_j) (je_mono (ha H1 s) fun v H2 ⟨s2, p2⟩ => ⟨m, Im.isInt p2, s2, .int _⟩)
theorem ja_cmpI {g : Int → Int → Bool} {op : CmpOp} {m n : Int} (ho : OpR X (compareOp op) (rI0 fun i j => .bl (g i j))) (hm : behindInMarks op b = false) (ha : JR X a σ B (.d (.int m))) (hb : JR X b σ B (.d (.int n))) :
    JA X (.Compare a [op] [b] pos) σ B (.d (.bool (g m n))) := j_cmp ho hm ha hb fun H1 v H2 u H3 _ s2 s3 p2 p3 => ⟨m, n, Im.isInt p2, Im.isInt p3, s2.trans s3, .bl _⟩
theorem ja_lt {m n : Int} (ha : JR X a σ B (.d (.int m))) (hb : JR X b σ B (.d (.int n))) : JA X (.Compare a [.Lt] [b] pos) σ B (.d (.bool (decide (m < n)))) := ja_cmpI (g := fun i j => decide (i < j)) op_lt (nomark _) ha hb
theorem ja_le {m n : Int} (ha : JR X a σ B (.d (.int m))) (hb : JR X b σ B (.d (.int n))) : JA X (.Compare a [.LtE] [b] pos) σ B (.d (.bool (decide (m ≤ n)))) := ja_cmpI (g := fun i j => decide (i ≤ j)) op_le (nomark _) ha hb
theorem ja_gt {m n : Int} (ha : JR X a σ B (.d (.int m))) (hb : JR X b σ B (.d (.int n))) : JA X (.Compare a [.Gt] [b] pos) σ B (.d (.bool (decide (n < m)))) := ja_cmpI (g := fun i j => decide (j < i)) op_gt (nomark _) ha hb
theorem ja_ge {m n : Int} (ha : JR X a σ B (.d (.int m))) (hb : JR X b σ B (.d (.int n))) : JA X (.Compare a [.GtE] [b] pos) σ B (.d (.bool (decide (n ≤ m)))) := ja_cmpI (g := fun i j => decide (j ≤ i)) op_ge (nomark _) ha hb
/-- a <= b <= c -/
theorem ja_le2 {d : Expr} {m n q : Int} (ha : JR X a σ B (.d (.int m))) (hb : JR X b σ B (.d (.int n))) (hd : JR X d σ B (.d (.int q))) (hm : lastMarks [.LtE, .LtE] [b, d] = false := by rfl) : JA X (.Compare a [.LtE, .LtE] [b, d] pos) σ B (.d (.bool (decide (m ≤ n ∧ n ≤ q)))) := fun H1 s =>
  je_of (pe_chain op_le op_le pe_j pe_j pe_j (hm := hm)) (je_mono (ha H1 s) fun v H2 ⟨s2, p2⟩ => je_mono (hb H2 (s.trans s2)) fun u H3 ⟨s3, p3⟩ => by
    refine ⟨m, n, Im.isInt p2, Im.isInt p3, decide (m ≤ n), rfl, ?_⟩
    by_cases h : m ≤ n
    · rw [decide_eq_true h]
      refine iteT (je_mono (hd H3 ((s.trans s2).trans s3)) fun w H4 ⟨s4, p4⟩ => ⟨n, q, Im.isInt p3, Im.isInt p4, (s2.trans s3).trans s4, ?_⟩)
      have e : decide (m ≤ n ∧ n ≤ q) = decide (n ≤ q) := by simp [h]
      rw [e]
      exact .bl _
    · rw [decide_eq_false h]
      refine iteF ⟨s2.trans s3, ?_⟩
      have e : decide (m ≤ n ∧ n ≤ q) = false := by simp [h]
      rw [e]
      exact .bl _)

/-! ### tests -/
theorem jt_of_ja {c : Bool} (h : JR X a σ B (.d (.bool c))) (he : ∀ whole, isTrue a X.env whole = (do let v ← whole; standAt a.pos; holding [v] (truthy v)) := by intro _; rfl) : JT X a σ B c := fun H1 s =>
  jt_of (pt_val pe_j he) (je_mono (h H1 s) fun v H2 ⟨s2, p2⟩ => ⟨c, Im.isBl p2, s2, rfl⟩)
theorem ja_and {rest : List Expr} {c d : Bool} (ha : JR X a σ B (.d (.bool c))) (hb : c = true → JR X (.BoolOp .And (b :: rest) pos) σ B (.d (.bool d))) : JA X (.BoolOp .And (a :: b :: rest) pos) σ B (.d (.bool (c && d))) := fun H1 s =>
  je_of (pe_and pe_j pe_j) (je_mono (ha H1 s) fun v H2 ⟨s2, p2⟩ => ⟨c, Im.isBl p2, by
    cases c with
    | true => exact iteT (je_mono (hb rfl H2 (s.trans s2)) fun u H3 ⟨s3, p3⟩ => ⟨s2.trans s3, p3⟩)
    | false => exact iteF ⟨s2, .bl false⟩⟩)
theorem ja_or {rest : List Expr} {c d : Bool} (ha : JR X a σ B (.d (.bool c))) (hb : c = false → JR X (.BoolOp .Or (b :: rest) pos) σ B (.d (.bool d))) : JA X (.BoolOp .Or (a :: b :: rest) pos) σ B (.d (.bool (c || d))) := fun H1 s =>
  je_of (pe_or pe_j pe_j) (je_mono (ha H1 s) fun v H2 ⟨s2, p2⟩ => ⟨c, Im.isBl p2, by
    cases c with
    | true => exact iteT ⟨s2, .bl true⟩
    | false => exact iteF (je_mono (hb rfl H2 (s.trans s2)) fun u H3 ⟨s3, p3⟩ => ⟨s2.trans s3, p3⟩)⟩)
theorem ja_one {op : BoolOp} {r : Ar} (h : JR X a σ B r) : JR X (.BoolOp op [a] pos) σ B r := fun H1 s => je_of (pe_one pe_j) (h H1 s)
theorem ja_not {c : Bool} (h : JR X a σ B (.d (.bool c))) : JA X (.UnaryOp .Not a pos) σ B (.d (.bool (!c))) := fun H1 s =>
  je_of (pe_not pe_j) (je_mono (h H1 s) fun v H2 ⟨s2, p2⟩ => ⟨c, Im.isBl p2, s2, .bl _⟩)
theorem jt_not {c : Bool} (h : JT X a σ B c) : JT X (.UnaryOp .Not a pos) σ B (!c) := fun H1 s =>
  jt_of (pt_not pt_j) (jt_mono (h H1 s) fun _ H2 ⟨s2, e⟩ => ⟨s2, by rw [e]⟩)
theorem jw_and1 {c : Bool} (h : JT X a σ B c) : JW X (.BoolOp .And [a] pos) σ B c := fun H1 s => jw_of (pw_and1 pt_j) (h H1 s)
theorem jw_or1 {c : Bool} (h : JT X a σ B c) : JW X (.BoolOp .Or [a] pos) σ B c := fun H1 s => jw_of (pw_or1 pt_j) (h H1 s)
theorem jw_and {rest : List Expr} {c d : Bool} (ha : JT X a σ B c) (hb : c = true → JW X (.BoolOp .And (b :: rest) pos) σ B d) : JW X (.BoolOp .And (a :: b :: rest) pos) σ B (c && d) := fun H1 s =>
  jw_of (pw_and pt_j pw_j) (jt_mono (ha H1 s) fun z H2 ⟨s2, e⟩ => by
    rw [e]
    cases c with
    | true => exact iteT (jw_mono (hb rfl H2 (s.trans s2)) fun u H3 ⟨s3, p3⟩ => ⟨s2.trans s3, p3⟩)
    | false => exact iteF ⟨s2, rfl⟩)
theorem jw_or {rest : List Expr} {c d : Bool} (ha : JT X a σ B c) (hb : c = false → JW X (.BoolOp .Or (b :: rest) pos) σ B d) : JW X (.BoolOp .Or (a :: b :: rest) pos) σ B (c || d) := fun H1 s =>
  jw_of (pw_or pt_j pw_j) (jt_mono (ha H1 s) fun z H2 ⟨s2, e⟩ => by
    rw [e]
    cases c with
    | true => exact iteT ⟨s2, rfl⟩
    | false => exact iteF (jw_mono (hb rfl H2 (s.trans s2)) fun u H3 ⟨s3, p3⟩ => ⟨s2.trans s3, p3⟩))
theorem JW.t {c : Bool} (h : JW X a σ B c) : JT X a σ B c := fun H1 s pins t I => h H1 s _ pins t I
end
end Mead

set_option maxRecDepth 100000
set_option maxHeartbeats 4000000
/-! comparisons, tuples, lists, items, calls -/
namespace Mead
open PySem PySem.Spec PyProof.Rows L2

/-! ### shapes -/
/-- plain data of a depth -/
def Sh (n : Nat) (d : PyData) : Prop := d.canLay0 = true ∧ d.depth ≤ n
theorem Sh.ok {n : Nat} {d : PyData} (h : Sh n d) (hn : n ≤ 64) : SeqAt.shaped d = true := by
  unfold SeqAt.shaped
  rw [h.1, Bool.true_and]
  exact decide_eq_true (Nat.le_trans h.2 hn)
theorem sh_int {n : Nat} (i : Int) : Sh n (.int i) := ⟨by simp [PyData.canLay0], by simp [PyData.depth]⟩
theorem sh_bool {n : Nat} (i : Bool) : Sh n (.bool i) := ⟨by simp [PyData.canLay0], by simp [PyData.depth]⟩
theorem sh_none {n : Nat} : Sh n .none := ⟨by simp [PyData.canLay0], by simp [PyData.depth]⟩
theorem sh_all {n : Nat} : ∀ {ds : List PyData}, (∀ d ∈ ds, Sh n d) → PyData.canLayAll0 ds = true ∧ PyData.depthAll ds ≤ n
  | [], _ => ⟨by simp [PyData.canLayAll0], by simp [PyData.depthAll]⟩
  | d :: ds, h => by
    have h1 := h d (List.mem_cons_self ..)
    have h2 := sh_all (ds := ds) fun e he => h e (List.mem_cons_of_mem _ he)
    exact ⟨by simp [PyData.canLayAll0, h1.1, h2.1], by simp only [PyData.depthAll]; exact Nat.max_le.mpr ⟨h1.2, h2.2⟩⟩
theorem sh_tup {n : Nat} {ds : List PyData} (h : ∀ d ∈ ds, Sh n d) : Sh (n + 1) (.tuple ds) :=
  ⟨by simp only [PyData.canLay0]; exact (sh_all h).1, by simp only [PyData.depth]; exact Nat.succ_le_succ (sh_all h).2⟩
theorem sh_lst {n : Nat} {ds : List PyData} (h : ∀ d ∈ ds, Sh n d) : Sh (n + 1) (.list ds) :=
  ⟨by simp only [PyData.canLay0]; exact (sh_all h).1, by simp only [PyData.depth]; exact Nat.succ_le_succ (sh_all h).2⟩
theorem Sh.mono {m n : Nat} {d : PyData} (h : Sh m d) (l : m ≤ n) : Sh n d := ⟨h.1, Nat.le_trans h.2 l⟩
theorem sh_map {α : Type} {n : Nat} {f : α → PyData} {l : List α} (h : ∀ a, Sh n (f a)) : ∀ d ∈ l.map f, Sh n d := fun d hd => by
  obtain ⟨a, _, rfl⟩ := List.mem_map.mp hd
  exact h a
theorem sh_nil {n : Nat} : ∀ d ∈ ([] : List PyData), Sh n d := fun d hd => by cases hd
theorem sh_cons {n : Nat} {d : PyData} {ds : List PyData} (h : Sh n d) (hs : ∀ e ∈ ds, Sh n e) : ∀ e ∈ d :: ds, Sh n e := fun e he => by
  rcases List.mem_cons.mp he with rfl | he
  · exact h
  · exact hs e he

section
variable {T : Tx} {N : List Str} {sc : Scope} {k : Nat} {X : Cx} {σ : L2.St} {B : Hp} {a b e : Expr} {es : List Expr} {pos : Pos} {x y d : PyData} {ds : List PyData}

/-! ### comparisons, as a value or as a test -/
def CmpA (X : Cx) (op : CmpOp) (B : Hp) (Pa Pb : V → Hp → Prop) (c : Bool) : Prop :=
  ∃ r : R2, OpR X (compareOp op) r ∧ ∀ H1 v H2 u H3, Same B H1 → Same H1 H2 → Same H2 H3 → Pa v H2 → Pb u H3 → ∀ Q : VK, Q (.bl c) H3 → r v u H3 Q
abbrev Rp (r : Ar) : V → Hp → Prop := fun v H => r.rep H v
theorem ja_cmp {op : CmpOp} {Pa Pb : V → Hp → Prop} {c : Bool} (h : CmpA X op B Pa Pb c) (ha : EX X a σ B fun _ v H => Pa v H) (hb : EX X b σ B fun _ v H => Pb v H) (hm : behindInMarks op b = false := by first | exact nomark _ | rfl) :
    JA X (.Compare a [op] [b] pos) σ B (.d (.bool c)) := by
  obtain ⟨r, ho, hr⟩ := h
  exact fun H1 s => je_of (pe_cmpR ho pe_j pe_j hm) (je_mono (ha H1 s) fun v H2 ⟨s2, p2⟩ => je_mono (hb H2 (s.trans s2)) fun u H3 ⟨s3, p3⟩ => hr H1 v H2 u H3 s s2 s3 p2 p3 _ ⟨s2.trans s3, .bl c⟩)
theorem jt_cmp {op : CmpOp} {Pa Pb : V → Hp → Prop} {c : Bool} (h : CmpA X op B Pa Pb c) (ha : EX X a σ B fun _ v H => Pa v H) (hb : EX X b σ B fun _ v H => Pb v H) (hm : behindInMarks op b = false := by first | exact nomark _ | rfl) :
    JT X (.Compare a [op] [b] pos) σ B c := by
  obtain ⟨r, ho, hr⟩ := h
  exact fun H1 s => jt_of (pt_cmpR ho pe_j pe_j hm) (je_mono (ha H1 s) fun v H2 ⟨s2, p2⟩ => je_mono (hb H2 (s.trans s2)) fun u H3 ⟨s3, p3⟩ => hr H1 v H2 u H3 s s2 s3 p2 p3 _ ⟨c, rfl, s2.trans s3, rfl⟩)
theorem cm_int {op : CmpOp} {g : Int → Int → Bool} {m n : Int} (ho : OpR X (compareOp op) (rI0 fun i j => .bl (g i j))) : CmpA X op B (Rp (.d (.int m))) (Rp (.d (.int n))) (g m n) :=
  ⟨_, ho, fun H1 v H2 u H3 _ s2 s3 p2 p3 Q q => ⟨m, n, Im.isInt p2, Im.isInt p3, q⟩⟩
theorem cm_lt {m n : Int} : CmpA X .Lt B (Rp (.d (.int m))) (Rp (.d (.int n))) (decide (m < n)) := cm_int (g := fun i j => decide (i < j)) op_lt
theorem cm_le {m n : Int} : CmpA X .LtE B (Rp (.d (.int m))) (Rp (.d (.int n))) (decide (m ≤ n)) := cm_int (g := fun i j => decide (i ≤ j)) op_le
theorem cm_gt {m n : Int} : CmpA X .Gt B (Rp (.d (.int m))) (Rp (.d (.int n))) (decide (n < m)) := cm_int (g := fun i j => decide (j < i)) op_gt
theorem cm_ge {m n : Int} : CmpA X .GtE B (Rp (.d (.int m))) (Rp (.d (.int n))) (decide (n ≤ m)) := cm_int (g := fun i j => decide (j ≤ i)) op_ge
/-- what is compared, as a whole -/
def Ar.pd : Ar → PyData
  | .d x => x
  | .l ds => .list ds
theorem Ar.dp {K : PySem.W.Frag} {H : Hp} {v : V} : ∀ {r : Ar}, r.rep H v → Dp K H v r.pd
  | .d _, h => Im.dp _ _ h
  | .l _, ⟨p, e, h⟩ => by
    rw [e]
    exact h.dp
theorem cm_eq (c : BCx T N sc k X) {r q : Ar} (hr : Sh 60 r.pd) (hq : Sh 60 q.pd) : CmpA X .Eq B (Rp r) (Rp q) (PyData.eqv r.pd q.pd) :=
  ⟨_, op_eqD c.room.units, fun H1 v H2 u H3 _ s2 s3 p2 p3 Q z => ⟨_, _, Ar.dp (Ar.rep_up p2 s3), Ar.dp p3, hr.ok (by decide), hq.ok (by decide), z⟩⟩
theorem cm_ne (c : BCx T N sc k X) {r q : Ar} (hr : Sh 60 r.pd) (hq : Sh 60 q.pd) : CmpA X .NotEq B (Rp r) (Rp q) (!PyData.eqv r.pd q.pd) :=
  ⟨_, op_neD c.room.units, fun H1 v H2 u H3 _ s2 s3 p2 p3 Q z => ⟨_, _, Ar.dp (Ar.rep_up p2 s3), Ar.dp p3, hr.ok (by decide), hq.ok (by decide), z⟩⟩
/-- in, not in a list or a tuple -/
def rInA (K : PySem.W.Frag) (neg : Bool) : R2 := fun x y H Q => ∃ d ds, Dp K H x d ∧ (Dp K H y (.list ds) ∨ Dp K H y (.tuple ds)) ∧ SeqAt.shaped d = true ∧ SeqAt.shaped (.list ds) = true ∧ Q (.bl (if neg then !ds.any fun z => PyData.eqv z d else ds.any fun z => PyData.eqv z d)) H
theorem op_inA (hu : X.A.units + 65 < cLine) : OpR X (compareOp .In) (rInA X.K false) := by
  intro pins s σ H x y v u Q I rx ry h
  obtain ⟨d, ds, hd, he, sd, se, q⟩ := h
  obtain ⟨as, r1⟩ := Dp.reads I d x v hd rx
  have room : X.A.units + 1 + min (PyData.depthAll ds) d.depth < cLine := room_in_shaped sd hu
  rcases he with he | he
  · obtain ⟨bs, r2⟩ := Dp.reads I (.list ds) y u he ry
    exact SeqAt.in_list_reads r2 r1 (SeqAt.canLay_of_shaped se) (SeqAt.canLay_of_shaped sd) room ⟨.bl _, H, I, rfl, q⟩
  · obtain ⟨bs, r2⟩ := Dp.reads I (.tuple ds) y u he ry
    exact SeqAt.in_tuple_reads r2 r1 (by simpa [PyData.canLay0] using SeqAt.canLay_of_shaped se) (SeqAt.canLay_of_shaped sd) room ⟨.bl _, H, I, rfl, q⟩
theorem op_niA (hu : X.A.units + 65 < cLine) : OpR X (compareOp .NotIn) (rInA X.K true) := by
  intro pins s σ H x y v u Q I rx ry h
  obtain ⟨d, ds, hd, he, sd, se, q⟩ := h
  obtain ⟨as, r1⟩ := Dp.reads I d x v hd rx
  have room : X.A.units + 1 + min (PyData.depthAll ds) d.depth < cLine := room_in_shaped sd hu
  rcases he with he | he
  · obtain ⟨bs, r2⟩ := Dp.reads I (.list ds) y u he ry
    exact SeqAt.notIn_list_reads r2 r1 (SeqAt.canLay_of_shaped se) (SeqAt.canLay_of_shaped sd) room ⟨.bl _, H, I, rfl, q⟩
  · obtain ⟨bs, r2⟩ := Dp.reads I (.tuple ds) y u he ry
    exact SeqAt.notIn_tuple_reads r2 r1 (by simpa [PyData.canLay0] using SeqAt.canLay_of_shaped se) (SeqAt.canLay_of_shaped sd) room ⟨.bl _, H, I, rfl, q⟩
theorem units65 {A : Around} {j : Nat} (r : Room (j + 1) A) : A.units + 65 < cLine := by have := r.un; omega
theorem cm_inL (c : BCx T N sc (k + 1) X) (hr : Sh 60 x) (hq : Sh 60 (.list ds)) : CmpA X .In B (Rp (.d x)) (Rp (.l ds)) (ds.any fun z => PyData.eqv z x) :=
  ⟨_, op_inA (units65 c.room), fun H1 v H2 u H3 _ s2 s3 p2 p3 Q z => ⟨x, ds, Im.dp _ _ (Im.up p2 s3), .inl (Ar.dp p3), hr.ok (by decide), hq.ok (by decide), z⟩⟩
theorem cm_niL (c : BCx T N sc (k + 1) X) (hr : Sh 60 x) (hq : Sh 60 (.list ds)) : CmpA X .NotIn B (Rp (.d x)) (Rp (.l ds)) (!ds.any fun z => PyData.eqv z x) :=
  ⟨_, op_niA (units65 c.room), fun H1 v H2 u H3 _ s2 s3 p2 p3 Q z => ⟨x, ds, Im.dp _ _ (Im.up p2 s3), .inl (Ar.dp p3), hr.ok (by decide), hq.ok (by decide), z⟩⟩
theorem cm_inT (c : BCx T N sc (k + 1) X) (hr : Sh 60 x) (hq : Sh 60 (.list ds)) : CmpA X .In B (Rp (.d x)) (Rp (.d (.tuple ds))) (ds.any fun z => PyData.eqv z x) :=
  ⟨_, op_inA (units65 c.room), fun H1 v H2 u H3 _ s2 s3 p2 p3 Q z => ⟨x, ds, Im.dp _ _ (Im.up p2 s3), .inr (Im.dp _ _ p3), hr.ok (by decide), hq.ok (by decide), z⟩⟩
theorem cm_niT (c : BCx T N sc (k + 1) X) (hr : Sh 60 x) (hq : Sh 60 (.list ds)) : CmpA X .NotIn B (Rp (.d x)) (Rp (.d (.tuple ds))) (!ds.any fun z => PyData.eqv z x) :=
  ⟨_, op_niA (units65 c.room), fun H1 v H2 u H3 _ s2 s3 p2 p3 Q z => ⟨x, ds, Im.dp _ _ (Im.up p2 s3), .inr (Im.dp _ _ p3), hr.ok (by decide), hq.ok (by decide), z⟩⟩
/-- a < b of data that are alike -/
def rLtD (K : PySem.W.Frag) : R2 := fun x y H Q => ∃ d e, Dp K H x d ∧ Dp K H y e ∧ PySem.W.alike d e = true ∧ d ≠ .none ∧ d.depth ≤ 64 ∧ Q (.bl (PySem.W.dataLt d e)) H
theorem op_ltD (hu : X.A.units + 64 < cLine) : OpR X (compareOp .Lt) (rLtD X.K) := by
  intro pins s σ H x y v u Q I rx ry h
  obtain ⟨d, e, hd, he, al, nn, dp, q⟩ := h
  obtain ⟨as, r1⟩ := Dp.reads I d x v hd rx
  obtain ⟨bs, r2⟩ := Dp.reads I e y u he ry
  exact PySem.W.rcLt_alike d e X.A s v u as bs r1 r2 al nn (by have : min d.depth e.depth ≤ d.depth := Nat.min_le_left _ _; omega) X.prog X.w X.xe _ ⟨.bl _, H, I, rfl, q⟩
theorem cm_ltD (c : BCx T N sc k X) (hx : Sh 60 x) (al : PySem.W.alike x y = true) (nn : x ≠ .none) : CmpA X .Lt B (Rp (.d x)) (Rp (.d y)) (PySem.W.dataLt x y) :=
  ⟨_, op_ltD c.room.units, fun H1 v H2 u H3 _ s2 s3 p2 p3 Q z => ⟨x, y, Im.dp _ _ (Im.up p2 s3), Im.dp _ _ p3, al, nn, Nat.le_trans hx.2 (by decide), z⟩⟩
/-- is None -/
theorem cm_isN {r : Ar} {i : Bool} (hi : ∀ v H, r.rep H v → decide (v = .non) = i) : CmpA X .Is B (Rp r) (Rp (.d .none)) i :=
  ⟨_, op_isN, fun H1 v H2 u H3 _ s2 s3 p2 p3 Q z => ⟨Im.isNon p3, by rw [hi v H2 p2]; exact z⟩⟩
theorem cm_notN {r : Ar} {i : Bool} (hi : ∀ v H, r.rep H v → decide (v = .non) = i) : CmpA X .IsNot B (Rp r) (Rp (.d .none)) (!i) :=
  ⟨_, op_notN, fun H1 v H2 u H3 _ s2 s3 p2 p3 Q z => ⟨Im.isNon p3, by rw [hi v H2 p2]; exact z⟩⟩

/-! ### argument lists, tuples, lists -/
theorem jrs_nil : JRs X [] σ B [] := fun H1 s => ja_of pa_nil ⟨Same.refl H1, .nil⟩
theorem jrs_cons {r : Ar} {rs : List Ar} (h : JR X e σ B r) (hr : JRs X es σ B rs) (hs : starEach (e :: es) X.env = (false, eval e X.env) :: starEach es X.env := by rfl) : JRs X (e :: es) σ B (r :: rs) := fun H1 s =>
  ja_of (pa_cons pe_j pa_j hs) (je_mono (h H1 s) fun v H2 ⟨s2, p2⟩ => ja_mono (hr H2 (s.trans s2)) fun vs H3 ⟨s3, p3⟩ => ⟨s2.trans s3, .cons (Ar.rep_up p2 s3) p3⟩)
theorem small_line {n : Nat} (h : n ≤ 1000000) : n ≤ sizeLine := Nat.le_trans h (by decide)
theorem ja_tup {z1} (h : JRs X es σ B (ds.map .d)) (hl : ds.length ≤ 1000000 := by exact Nat.le_of_ble_eq_true rfl) : JA X (.Tuple es z1 pos) σ B (.d (.tuple ds)) := fun H1 s =>
  je_of (pe_tup pa_j) (ja_mono (h H1 s) fun vs H2 ⟨s2, p2⟩ => ⟨by rw [Reps.im p2 |>.len]; exact small_line hl, fun p hp => ⟨s2.trans (fun b o hb => by rw [upd_ne (ne_of_none hb hp)]; exact hb), .tup upd_same ((Reps.im p2).tk (fun b xs hb => by rw [upd_ne (ne_of_none hb hp)]; exact hb))⟩⟩)
theorem Same.new {H : Hp} {p : Addr} {o : HO} (hp : H p = none) : Same H (upd H p o) := fun b u hb => by
  rw [upd_ne (ne_of_none hb hp)]
  exact hb
theorem ja_lst (h : JRs X es σ B (ds.map .d)) (hl : ds.length ≤ 1000000 := by exact Nat.le_of_ble_eq_true rfl) : JA X (.List es pos) σ B (.l ds) := fun H1 s =>
  je_of (pe_lst pa_j) (ja_mono (h H1 s) fun vs H2 ⟨s2, p2⟩ => ⟨by rw [Reps.im p2 |>.len]; exact small_line hl, fun p hp => ⟨s2.trans (Same.new hp), p, rfl, s2.free hp, vs, upd_same, (Reps.im p2).up (Same.new hp)⟩⟩)
/-- an item by its place -/
theorem atI_im {H : Hp} {xs : List V} {i : Int} (h : ImA H xs ds) (hi : atI ds i = some d) : ∃ v, atI xs i = some v ∧ Im H v d := by
  unfold atI at hi ⊢
  rw [h.len]
  obtain ⟨j, h1, h2⟩ := Option.bind_eq_some_iff.mp hi
  rw [h1]
  exact h.get h2
theorem ja_ixT {i : Int} (ha : JR X a σ B (.d (.tuple ds))) (hb : JR X b σ B (.d (.int i))) (hi : atI ds i = some d) (hp : PlainIx b := by exact fun _ _ => rfl) : JA X (.Subscript a b pos) σ B (.d d) := fun H1 s =>
  je_of (pe_ix ix_tup pe_j pe_j hp) (je_mono (ha H1 s) fun v H2 ⟨s2, p2⟩ => je_mono (hb H2 (s.trans s2)) fun u H3 ⟨s3, p3⟩ => by
    obtain ⟨p, xs, e, h1, h2⟩ := Im.isTup (Im.up p2 s3)
    obtain ⟨z, q1, q2⟩ := atI_im h2 hi
    exact ⟨p, xs, i, z, e, Im.isInt p3, SqT.of h1, q1, s2.trans s3, q2⟩)
theorem ja_ixL {i : Int} (ha : JR X a σ B (.l ds)) (hb : JR X b σ B (.d (.int i))) (hi : atI ds i = some d) (hp : PlainIx b := by exact fun _ _ => rfl) : JA X (.Subscript a b pos) σ B (.d d) := fun H1 s =>
  je_of (pe_ix ix_list pe_j pe_j hp) (je_mono (ha H1 s) fun v H2 ⟨s2, p2⟩ => je_mono (hb H2 (s.trans s2)) fun u H3 ⟨s3, p3⟩ => by
    obtain ⟨p, e, xs, h1, h2⟩ := p2
    obtain ⟨z, q1, q2⟩ := atI_im (h2.up s3) hi
    exact ⟨p, xs, i, z, e, Im.isInt p3, SqL.of (s3 _ _ h1), q1, s2.trans s3, q2⟩)
/-- a if t else b -/
theorem ja_if {t : Expr} {c : Bool} {P : Hp → V → Hp → Prop} (ht : JT X t σ B c) (h1 : c = true → EX X a σ B P) (h2 : c = false → EX X b σ B P) (back : ∀ H0 H1 v H2, Same H0 H1 → P H1 v H2 → P H0 v H2) : EX X (.IfExp t a b pos) σ B P := fun H1 s =>
  je_of (pe_ifExp pt_j pe_j pe_j) (jt_mono (ht H1 s) fun z H2 ⟨s2, e⟩ => by
    rw [e]
    cases c with
    | true => exact iteT (je_mono (h1 rfl H2 (s.trans s2)) fun v H3 ⟨s3, p⟩ => ⟨s2.trans s3, back _ _ _ _ s2 p⟩)
    | false => exact iteF (je_mono (h2 rfl H2 (s.trans s2)) fun v H3 ⟨s3, p⟩ => ⟨s2.trans s3, back _ _ _ _ s2 p⟩))
theorem ja_eq (c : BCx T N sc k X) {r q : Ar} (ha : JR X a σ B r) (hb : JR X b σ B q) (hr : Sh 60 r.pd) (hq : Sh 60 q.pd) (hm : behindInMarks .Eq b = false := by first | exact nomark _ | rfl) : JA X (.Compare a [.Eq] [b] pos) σ B (.d (.bool (PyData.eqv r.pd q.pd))) := ja_cmp (cm_eq c hr hq) ha hb hm
theorem jt_eq (c : BCx T N sc k X) {r q : Ar} (ha : JR X a σ B r) (hb : JR X b σ B q) (hr : Sh 60 r.pd) (hq : Sh 60 q.pd) (hm : behindInMarks .Eq b = false := by first | exact nomark _ | rfl) : JT X (.Compare a [.Eq] [b] pos) σ B (PyData.eqv r.pd q.pd) := jt_cmp (cm_eq c hr hq) ha hb hm
theorem ja_ne (c : BCx T N sc k X) {r q : Ar} (ha : JR X a σ B r) (hb : JR X b σ B q) (hr : Sh 60 r.pd) (hq : Sh 60 q.pd) (hm : behindInMarks .NotEq b = false := by first | exact nomark _ | rfl) : JA X (.Compare a [.NotEq] [b] pos) σ B (.d (.bool (!PyData.eqv r.pd q.pd))) := ja_cmp (cm_ne c hr hq) ha hb hm
theorem jt_ne (c : BCx T N sc k X) {r q : Ar} (ha : JR X a σ B r) (hb : JR X b σ B q) (hr : Sh 60 r.pd) (hq : Sh 60 q.pd) (hm : behindInMarks .NotEq b = false := by first | exact nomark _ | rfl) : JT X (.Compare a [.NotEq] [b] pos) σ B (!PyData.eqv r.pd q.pd) := jt_cmp (cm_ne c hr hq) ha hb hm
theorem ja_inL (c : BCx T N sc (k + 1) X) (ha : JR X a σ B (.d x)) (hb : JR X b σ B (.l ds)) (hr : Sh 60 x) (hq : Sh 60 (.list ds)) (hm : behindInMarks .In b = false := by first | exact nomark _ | rfl) : JA X (.Compare a [.In] [b] pos) σ B (.d (.bool (ds.any fun z => PyData.eqv z x))) := ja_cmp (cm_inL c hr hq) ha hb hm
theorem jt_inL (c : BCx T N sc (k + 1) X) (ha : JR X a σ B (.d x)) (hb : JR X b σ B (.l ds)) (hr : Sh 60 x) (hq : Sh 60 (.list ds)) (hm : behindInMarks .In b = false := by first | exact nomark _ | rfl) : JT X (.Compare a [.In] [b] pos) σ B (ds.any fun z => PyData.eqv z x) := jt_cmp (cm_inL c hr hq) ha hb hm
theorem ja_niL (c : BCx T N sc (k + 1) X) (ha : JR X a σ B (.d x)) (hb : JR X b σ B (.l ds)) (hr : Sh 60 x) (hq : Sh 60 (.list ds)) (hm : behindInMarks .NotIn b = false := by first | exact nomark _ | rfl) : JA X (.Compare a [.NotIn] [b] pos) σ B (.d (.bool (!ds.any fun z => PyData.eqv z x))) := ja_cmp (cm_niL c hr hq) ha hb hm
theorem jt_niL (c : BCx T N sc (k + 1) X) (ha : JR X a σ B (.d x)) (hb : JR X b σ B (.l ds)) (hr : Sh 60 x) (hq : Sh 60 (.list ds)) (hm : behindInMarks .NotIn b = false := by first | exact nomark _ | rfl) : JT X (.Compare a [.NotIn] [b] pos) σ B (!ds.any fun z => PyData.eqv z x) := jt_cmp (cm_niL c hr hq) ha hb hm
theorem ja_inT (c : BCx T N sc (k + 1) X) (ha : JR X a σ B (.d x)) (hb : JR X b σ B (.d (.tuple ds))) (hr : Sh 60 x) (hq : Sh 60 (.list ds)) (hm : behindInMarks .In b = false := by first | exact nomark _ | rfl) : JA X (.Compare a [.In] [b] pos) σ B (.d (.bool (ds.any fun z => PyData.eqv z x))) := ja_cmp (cm_inT c hr hq) ha hb hm
theorem jt_inT (c : BCx T N sc (k + 1) X) (ha : JR X a σ B (.d x)) (hb : JR X b σ B (.d (.tuple ds))) (hr : Sh 60 x) (hq : Sh 60 (.list ds)) (hm : behindInMarks .In b = false := by first | exact nomark _ | rfl) : JT X (.Compare a [.In] [b] pos) σ B (ds.any fun z => PyData.eqv z x) := jt_cmp (cm_inT c hr hq) ha hb hm
theorem ja_niT (c : BCx T N sc (k + 1) X) (ha : JR X a σ B (.d x)) (hb : JR X b σ B (.d (.tuple ds))) (hr : Sh 60 x) (hq : Sh 60 (.list ds)) (hm : behindInMarks .NotIn b = false := by first | exact nomark _ | rfl) : JA X (.Compare a [.NotIn] [b] pos) σ B (.d (.bool (!ds.any fun z => PyData.eqv z x))) := ja_cmp (cm_niT c hr hq) ha hb hm
theorem jt_niT (c : BCx T N sc (k + 1) X) (ha : JR X a σ B (.d x)) (hb : JR X b σ B (.d (.tuple ds))) (hr : Sh 60 x) (hq : Sh 60 (.list ds)) (hm : behindInMarks .NotIn b = false := by first | exact nomark _ | rfl) : JT X (.Compare a [.NotIn] [b] pos) σ B (!ds.any fun z => PyData.eqv z x) := jt_cmp (cm_niT c hr hq) ha hb hm
theorem ja_ltD (c : BCx T N sc k X) (ha : JR X a σ B (.d x)) (hb : JR X b σ B (.d y)) (hx : Sh 60 x) (al : PySem.W.alike x y = true) (nn : x ≠ .none) (hm : behindInMarks .Lt b = false := by first | exact nomark _ | rfl) : JA X (.Compare a [.Lt] [b] pos) σ B (.d (.bool (PySem.W.dataLt x y))) := ja_cmp (cm_ltD c hx al nn) ha hb hm
theorem jt_ltD (c : BCx T N sc k X) (ha : JR X a σ B (.d x)) (hb : JR X b σ B (.d y)) (hx : Sh 60 x) (al : PySem.W.alike x y = true) (nn : x ≠ .none) (hm : behindInMarks .Lt b = false := by first | exact nomark _ | rfl) : JT X (.Compare a [.Lt] [b] pos) σ B (PySem.W.dataLt x y) := jt_cmp (cm_ltD c hx al nn) ha hb hm
end
end Mead

set_option maxRecDepth 100000
set_option maxHeartbeats 4000000
/-! defs and their promises; statements; loops and comprehensions -/
namespace Mead
open PySem PySem.Spec PyProof.Rows L2

/-! ### a base grows -/
/-- the base behind a step: what is new is in it, what was left out of it (but tuples) stays out -/
def gB (B H H1 : Hp) : Hp := fun a => match B a, H a with
  | none, some (.tup _) => H1 a
  | none, some _ => none
  | _, _ => H1 a
structure Grow (B H B1 H1 : Hp) : Prop where
  base : Same B B1
  ins : Same B1 H1
  up : Same H H1
  out : ∀ a o, B a = none → H a = some o → (∀ xs, o ≠ .tup xs) → B1 a = none
  tk : TK H1 B1
  new : ∀ a o, H a = none → H1 a = some o → B1 a = some o
theorem grow {B H H1 : Hp} (h : Same B H) (k : Same H H1) : Grow B H (gB B H H1) H1 := by
  refine ⟨fun a o e => ?_, fun a o e => ?_, k, fun a o e1 e2 hn => ?_, fun a xs e => ?_, fun a o e1 e2 => ?_⟩
  · unfold gB
    rw [e]
    have q := h a o e
    rw [q]
    exact k a o q
  · unfold gB at e
    split at e
    · exact e
    · cases e
    · exact e
  · unfold gB
    rw [e1, e2]
    cases o <;> first | rfl | exact absurd rfl (hn _)
  · unfold gB
    cases e1 : B a with
    | some o => cases H a <;> exact e
    | none =>
      cases e2 : H a with
      | none => exact e
      | some o =>
        have q := k a _ e2
        rw [e] at q
        cases q
        exact e
  · unfold gB
    rw [e1]
    cases B a <;> exact e2
theorem Grow.res {B H B1 H1 : Hp} {v : V} (g : Grow B H B1 H1) : ∀ {r : Ar}, r.res H v H1 → r.rep B1 v
  | .d _, h => Im.tk h g.tk
  | .l _, ⟨p, e, n, vs, q, r⟩ => ⟨p, e, vs, g.new p _ n q, r.tk g.tk⟩
theorem Grow.refl {B H : Hp} (h : Same B H) : Grow B H (gB B H H) H := grow h (Same.refl H)

/-- a def's own body: its cells are its own -/
structure DCx (T : Tx) (N : List Str) (sc : Scope) (k : Nat) (X : Cx) : Prop extends BCx T N sc k X where
  fn : ∀ z, X.fn z = true
/-! ### defs -/
def spA (R : List Ar → Ar → Prop) : Sp := fun vs H Q _ => ∃ rs r, Reps H vs rs ∧ R rs r ∧ ∀ v H', Same H H' → r.res H v H' → Q v H'
/-- a def that keeps a promise -/
def Fn (T : Tx) (x : Str) (k : Nat) (sp : Sp) : Prop :=
  ∃ f fd ps, FnOk T.P T.w T.K T.mg T.base CX0 k f fd ps sp ∧ T.mg x = some (.ref f) ∧ PySem.W.keepIn T.K (.ref f) = true ∧ Binds T.K fd ps []
theorem Fn.mono {T : Tx} {x : Str} {j k : Nat} {sp : Sp} (F : Fn T x j sp) (h : j ≤ k) : Fn T x k sp :=
  let ⟨f, fd, ps, a, r⟩ := F
  ⟨f, fd, ps, a.mono h, r⟩
/-- a def as the top leaves it -/
def Def (T : Tx) (x : Str) (st : Stmt) : Prop := ∃ f fd, FunD T.K x x (defArgs st) (defBody st) (defScope st) [] [] f fd ∧ T.mg x = some (.ref f)
theorem fn_mk {T : Tx} {x : Str} {st : Stmt} {N ps : List Str} {k : Nat} {sp : Sp} (D : Def T x st) (S : FnScope N ps (defScope st)) (len : ∀ vs H Q E, sp vs H Q E → vs.length = ps.length)
    (hb : ∀ (kV doc pm : Value) (an : Option Addr) (cdv ct : Value) (us : List Value), us.length = ps.length → bindArgs (PySem.W.fnOf x x (defArgs st) (defBody st) (defScope st) .none kV doc pm an cdv ct) ⟨us, []⟩ = pure (ps.zip us))
    (body : ∀ X, DCx T N (defScope st) k X → ∀ vs H Q E, sp vs H Q E → jSs X (defBody st) { nx := fun _ H' => Q .non H', rt := Q } (start N vs) H) : Fn T x (k + 1) sp := by
  obtain ⟨f, fd, F, hm⟩ := D
  refine ⟨f, fd, ps, F.ok S len fun cdv A outer s H vs Q E hr h => ⟨_, PSs.nox pss_j, body _ ⟨⟨rfl, rfl, rfl, rfl, rfl, rfl, rfl, rfl, S.kind, S.nd, hr, rfl⟩, fun _ => rfl⟩ vs H Q E h⟩, hm, F.kp, F.bindsN hb⟩

section
variable {T : Tx} {N : List Str} {sc : Scope} {k : Nat} {X : Cx} {σ : L2.St} {B H : Hp} {a b e : Expr} {es : List Expr} {st : Stmt} {sts body : List Stmt} {pos : Pos} {D : Ends} {x y d : PyData} {ds : List PyData}

theorem j_callG (c : BCx T N sc k X) {f : Str} {j : Nat} {sp : Sp} {p : Pos} {rs : List Ar} {P : Hp → V → Hp → Prop} (F : Fn T f j sp) (hk : j ≤ k) (hg : glo sc f = true) (ha : JRs X (e :: es) σ B rs)
    (h : ∀ H1 vs H2 E, Same B H1 → Same H1 H2 → Reps H2 vs rs → sp vs H2 (fun v H3 => Same H1 H3 ∧ P H1 v H3) E)
    (he : starEach (e :: es) X.env = (false, eval e X.env) :: starEach es X.env := by rfl) (hpl : (backTo pos (starEach es X.env)).any (·.1) = false := by rfl) : EX X (.Call (.Name f p) (e :: es) [] pos) σ B P := by
  obtain ⟨fa, fd, ps, F, hm, hkp, hb⟩ := F
  have F' : FnOk X.prog X.w X.K X.mg X.base CX0 k fa fd ps sp := by
    rw [c.prog, c.w, c.K, c.mg, c.base]
    exact F.mono hk
  exact fun H1 s => je_of (pe_call F' c.room (c.gl hg) (by rw [c.mg]; exact hm) (by rw [c.K]; exact hkp) (by rw [c.K]; exact hb) .nil pass0 pa_j (glo_of hg).2.1 he hpl)
    (ja_mono (ha H1 s) fun vs H2 ⟨s2, p2⟩ => by
      rw [List.append_nil]
      exact h H1 vs H2 E0 s s2 p2)
theorem ja_call (c : BCx T N sc k X) {f : Str} {j : Nat} {R : List Ar → Ar → Prop} {p : Pos} {rs : List Ar} {r : Ar} (F : Fn T f j (spA R)) (hk : j ≤ k) (hg : glo sc f = true) (ha : JRs X (e :: es) σ B rs) (hR : R rs r)
    (he : starEach (e :: es) X.env = (false, eval e X.env) :: starEach es X.env := by rfl) (hpl : (backTo pos (starEach es X.env)).any (·.1) = false := by rfl) : JA X (.Call (.Name f p) (e :: es) [] pos) σ B r :=
  j_callG c F hk hg ha (fun H1 vs H2 E s s2 hv => ⟨rs, r, hv, hR, fun v H3 s3 q => ⟨s2.trans s3, Ar.res_back s2 q⟩⟩) he hpl

/-! ### statements -/
theorem jss_nil (h : D.nx σ H) : jSs X [] D σ H := jss_of pss_nil h
theorem jss_cons (h : jS X st { D with nx := jSs X sts D } σ H) : jSs X (st :: sts) D σ H := jss_of (pss_cons ps_j pss_j) h
theorem jss_one (h : jS X st D σ H) : jSs X [st] D σ H := jss_of (pss_one ps_j) h
theorem js_ret {P : Hp → V → Hp → Prop} (h : EX X e σ B P) (hB : Same B H) (q : ∀ v H1, Same H H1 → P H v H1 → D.rt v H1) : jS X (.Return (some e) pos) D σ H :=
  js_of (ps_ret pe_j) (je_mono (h H hB) fun v H1 ⟨s, p⟩ => q v H1 s p)
def lc (sc : Scope) (x : Str) : Bool := match sc.names.lookup x with
  | some .local => true
  | some .cell => true
  | _ => false
theorem lc_of {sc : Scope} {x : Str} (h : lc sc x = true) : L2.Loc sc x := by
  unfold lc at h
  unfold L2.Loc
  split at h
  · rename_i e; exact .inl e
  · rename_i e; exact .inr e
  · cases h
theorem DCx.loc (c : DCx T N sc k X) {z : Str} (h : lc sc z = true) : L2.Loc X.env.scope z := by
  rw [c.hs]
  exact lc_of h
theorem js_set (c : DCx T N sc k X) {i : Nat} {z : Str} {p' : Pos} {P : Hp → V → Hp → Prop} (hN : N[i]? = some z) (hl : lc sc z = true) (h : EX X e σ B P) (hB : Same B H) (q : ∀ v H1, Same H H1 → P H v H1 → D.nx (σ.set i (some v)) H1)
    (hs : swapsWith e (some (.Name z p')) pos.line X.env = pure false := by rfl) : jS X (.Assign [.Name z p'] e pos) D σ H :=
  js_of (ps_set (i := i) (by rw [c.hN]; exact c.nd) (by rw [c.hN]; exact hN) (c.loc hl) pe_j hs (.inl (c.fn z))) (je_mono (h H hB) fun v H1 ⟨s, p⟩ => q v H1 s p)
/-- .. the base with it -/
theorem js_setB (c : DCx T N sc k X) {i : Nat} {z : Str} {p' : Pos} {r : Ar} (hN : N[i]? = some z) (hl : lc sc z = true) (h : JA X e σ B r) (hB : Same B H) (q : ∀ v B1 H1, Grow B H B1 H1 → r.rep B1 v → D.nx (σ.set i (some v)) H1)
    (hs : swapsWith e (some (.Name z p')) pos.line X.env = pure false := by rfl) : jS X (.Assign [.Name z p'] e pos) D σ H :=
  js_set c hN hl h hB (fun v H1 s p => q v _ H1 (grow hB s) ((grow hB s).res p)) hs
theorem js_if {t : Expr} {p q : List Stmt} {i : Bool} (h : JT X t σ B i) (hB : Same B H) (h1 : i = true → ∀ H1, Same H H1 → jSs X p D σ H1) (h2 : i = false → ∀ H1, Same H H1 → jSs X q D σ H1) : jS X (.If t p q pos) D σ H :=
  js_of (ps_if pt_j pss_j pss_j) (jt_mono (h H hB) fun z H1 ⟨s, e⟩ => by
    rw [e]
    cases i with
    | true => exact iteT (h1 rfl H1 s)
    | false => exact iteF (h2 rfl H1 s))
theorem js_expr {P : Hp → V → Hp → Prop} (h : EX X e σ B P) (hB : Same B H) (q : ∀ v H1, Same H H1 → P H v H1 → D.nx σ H1) (hs : swapsWith e none pos.line X.env = pure false := by rfl) : jS X (.Expr e pos) D σ H :=
  js_of (ps_expr pe_j hs) (je_mono (h H hB) fun v H1 ⟨s, p⟩ => q v H1 s p)

/-! ### targets -/
def jG (X : Cx) (tg : Expr) : TG := fun v σ H Q => ∀ (pins : List (Addr × Obj)) (s : Shared) (u : Value), Inv X pins σ H s → RelV v u → wpAny (model X.prog X.w) X.A (assign tg X.env u) (fun _ s' => ∃ σ' H', Inv X pins σ' H' s' ∧ Q σ' H') X.xe s
theorem pg_j {tg : Expr} : PG X tg (jG X tg) := ⟨fun pins s _ _ _ u _ I r h => h pins s u I r⟩
theorem jg_of {tg : Expr} {g : TG} {v : V} {Q : L2.St → Hp → Prop} (h : PG X tg g) (q : g v σ H Q) : jG X tg v σ H Q := fun pins s u I r => h.run pins s σ H v u Q I r q
theorem jg_name (c : DCx T N sc k X) {i : Nat} {z : Str} {v : V} {Q : L2.St → Hp → Prop} (hN : N[i]? = some z) (hl : lc sc z = true) (q : Q (σ.set i (some v)) H) : jG X (.Name z pos) v σ H Q :=
  jg_of (pg_name (i := i) (by rw [c.hN]; exact c.nd) (by rw [c.hN]; exact hN) (c.loc hl) (.inl (c.fn z))) q
/-- in a block: its own names -/
theorem jg_nameB (c : BCx T N sc k X) {i : Nat} {z : Str} {v : V} {Q : L2.St → Hp → Prop} (hN : N[i]? = some z) (hl : loc sc z = true) (q : Q (σ.set i (some v)) H) : jG X (.Name z pos) v σ H Q :=
  jg_of (pg_name (i := i) (by rw [c.hN]; exact c.nd) (by rw [c.hN]; exact hN) (by rw [c.hs]; exact .inl (loc_of hl)) (.inr (by rw [c.hs]; exact loc_of hl))) q
theorem jg_cellB (c : BCx T N sc k X) {i : Nat} {z : Str} {v : V} {Q : L2.St → Hp → Prop} (hN : N[i]? = some z) (hl : lc sc z = true) (hf : X.fn z = true) (q : Q (σ.set i (some v)) H) : jG X (.Name z pos) v σ H Q :=
  jg_of (pg_name (i := i) (by rw [c.hN]; exact c.nd) (by rw [c.hN]; exact hN) (by rw [c.hs]; exact lc_of hl) (.inl hf)) q
/-- several names at once -/
def jGs (X : Cx) (tgs : List Expr) : TGs := fun vs σ H Q => ∀ (pins : List (Addr × Obj)) (s : Shared) (us : List Value), Inv X pins σ H s → Vals vs us →
  wpAny (model X.prog X.w) X.A (assignInOrder ((assignEach tgs X.env).map (·.2)) us) (fun _ s' => ∃ σ' H', Inv X pins σ' H' s' ∧ Q σ' H') X.xe s
theorem pgs_j {tgs : List Expr} : PGs X tgs (jGs X tgs) := ⟨fun pins s _ _ _ us _ I r h => h pins s us I r⟩
theorem jgs_of {tgs : List Expr} {g : TGs} {vs : List V} {Q : L2.St → Hp → Prop} (h : PGs X tgs g) (q : g vs σ H Q) : jGs X tgs vs σ H Q := fun pins s us I r => h.run pins s σ H vs us Q I r q
theorem jgs_nil {Q : L2.St → Hp → Prop} (q : Q σ H) : jGs X [] [] σ H Q := jgs_of pgs_nil ⟨rfl, q⟩
theorem jgs_cons {tg : Expr} {tgs : List Expr} {v : V} {vs : List V} {Q : L2.St → Hp → Prop} (q : jG X tg v σ H fun σ1 H1 => jGs X tgs vs σ1 H1 Q)
    (hs : (assignEach (tg :: tgs) X.env).map (·.2) = assign tg X.env :: (assignEach tgs X.env).map (·.2) := by rfl) : jGs X (tg :: tgs) (v :: vs) σ H Q := jgs_of (pgs_cons pg_j pgs_j hs) ⟨v, vs, rfl, q⟩
/-- a tuple to several targets -/
theorem jg_tup (c : BCx T N sc k X) {tgs : List Expr} {kk : Nat} {v : V} {Q : L2.St → Hp → Prop} {n : Nat} (h : Im H v (.tuple ds)) (hl : ds.length = n) (q : ∀ vs, ImA H vs ds → jGs X tgs vs σ H Q)
    (hn : (assignEach tgs X.env).length = n := by rfl) (hst : (assignEach tgs X.env).findIdx? (·.1) = none := by rfl) : jG X (.Tuple tgs kk pos) v σ H Q := by
  obtain ⟨p, xs, rfl, h1, h2⟩ := Im.isTup h
  exact jg_of (pg_tup c.calm pgs_j hn hst) ⟨p, xs, rfl, SqT.of h1, by rw [h2.len, hl], q xs h2⟩

/-! ### what is walked -/
/-- iter gives the data ds, one by one, for the target tg -/
def SRC (X : Cx) (tg iter : Expr) (σ : L2.St) (B : Hp) (ds : List PyData) : Prop :=
  ∃ wi, PI X tg iter wi ∧ ∀ H, Same B H → ∀ R : It → Hp → Prop,
    (∀ J B1 H1, Grow B H B1 H1 → Walk J ds.length (fun H' => Same B1 H') (fun i H' v H'' => Same H' H'' ∧ ∃ d, ds[i]? = some d ∧ Im H'' v d) → R J H1) → wi σ H R
/-- a list that stands, a new one -/
def JLB (X : Cx) (e : Expr) (σ : L2.St) (B : Hp) (ds : List PyData) : Prop := ∀ H, Same B H → jE X e σ H fun v H1 => ∃ p B1, v = .ref p ∧ Grow B H B1 H1 ∧ Ls B1 p ds
theorem jlb_new (h : JA X e σ B (.l ds)) : JLB X e σ B ds := fun H s => je_mono (h H s) fun v H1 ⟨s1, p, e, n, q⟩ =>
  ⟨p, _, e, grow s s1, by
    obtain ⟨p', e', q'⟩ := (grow s s1).res (r := .l ds) ⟨p, e, n, q⟩
    rw [e] at e'
    cases e'
    exact q'⟩
theorem jlb_var {p : Addr} (h : JV X e σ B (.ref p)) (q : Ls B p ds) : JLB X e σ B ds := fun H s => je_mono (h H s) fun v H1 ⟨s1, e⟩ => ⟨p, _, e, grow s s1, q.up (grow s s1).base⟩
theorem src_list {tg : Expr} (h : JLB X e σ B ds) : SRC X tg e σ B ds := by
  refine ⟨_, pi_list pe_j, fun H s R hR => je_mono (h H s) fun v H1 ⟨p, B1, e, g, q⟩ => ?_⟩
  obtain ⟨vs, q1, q2⟩ := q
  refine ⟨p, e, ⟨vs, SqL.of (g.ins _ _ q1)⟩, hR _ B1 H1 g ?_⟩
  have w := walk_list (K := X.K) (a := p) (xs := vs)
  rw [q2.len] at w
  exact w.mono (fun H' k => SqL.of (k _ _ q1)) fun i H' v H'' _ k ⟨e, hv⟩ => by
    subst e
    obtain ⟨d, h1, h2⟩ := q2.getV hv
    exact ⟨Same.refl _, d, h1, h2.up k⟩
theorem src_tup {tg : Expr} (h : JR X e σ B (.d (.tuple ds))) : SRC X tg e σ B ds := by
  refine ⟨_, pi_tup pe_j, fun H s R hR => je_mono (h H s) fun v H1 ⟨s1, q⟩ => ?_⟩
  have g := grow s s1
  obtain ⟨p, xs, e, q1, q2⟩ := Im.isTup (Im.tk q g.tk)
  refine ⟨p, e, ⟨xs, SqT.of (g.ins _ _ q1)⟩, hR _ _ H1 g ?_⟩
  have w := walk_tup (K := X.K) (a := p) (xs := xs)
  rw [q2.len] at w
  exact w.mono (fun H' k => SqT.of (k _ _ q1)) fun i H' v H'' _ k ⟨e, hv⟩ => by
    subst e
    obtain ⟨d, h1, h2⟩ := q2.getV hv
    exact ⟨Same.refl _, d, h1, h2.up k⟩
theorem src_range {tg : Expr} {n : Int} {p : Pos} (c : BCx T N sc k X) (hg : glo sc "range" = true) (hm : T.mg "range" = none) (h : JR X e σ B (.d (.int n))) (hn : 0 ≤ n ∧ n ≤ 1000000) (hs : starEach [e] X.env = [(false, eval e X.env)] := by rfl) :
    SRC X tg (.Call (.Name "range" p) [e] [] pos) σ B ((List.range n.toNat).map fun i => .int (i : Nat)) := by
  refine ⟨_, pi_range1 (c.gl hg) (by rw [c.mg]; exact hm) (pa_cons pe_j pa_nil hs) hs, fun H s R hR => je_mono (h H s) fun v H1 ⟨s1, q⟩ => ?_⟩
  refine ⟨n, by rw [Im.isInt q], by omega, by omega, hR _ _ H1 (grow s s1) ?_⟩
  have w := walk_range (lo := 0) (n := n.toNat)
  rw [List.length_map, List.length_range]
  exact w.mono (fun _ _ => trivial) fun i H' v H'' hi k ⟨e, hv⟩ => by
    subst e
    refine ⟨Same.refl _, .int (i : Nat), by simp [hi], ?_⟩
    have hv : v = V.int (0 + (i : Int)) := hv
    rw [hv, Int.zero_add]
    exact .int _

/-! ### for -/
theorem js_for (c : BCx T N sc k X) {tg iter : Expr} (S : SRC X tg iter σ B ds) (hB : Same B H)
    (h : ∀ B1 H1, Grow B H B1 H1 → ∃ Pv : Nat → L2.St → Hp → Prop, Pv 0 σ H1 ∧ (∀ i σ' H', Pv i σ' H' → Same B1 H') ∧
      (∀ i d σ' H' v B2 H'', ds[i]? = some d → Pv i σ' H' → Grow B1 H' B2 H'' → Im B2 v d → jG X tg v σ' H'' fun σ2 H2 => jSs X body { D with nx := Pv (i + 1), ct := Pv (i + 1), bk := D.nx } σ2 H2) ∧
      (∀ σ' H', Pv ds.length σ' H' → D.nx σ' H'))
    (hf : ∀ z, foldedSetIterable iter X.env z = pure z := by intro _; rfl) : jS X (.For tg iter body [] pos) D σ H := by
  obtain ⟨wi, hi, hw⟩ := S
  refine js_of (ps_for c.never c.calm hi pg_j pss_j hf) (hw H hB _ fun J B1 H1 g w => ?_)
  obtain ⟨Pv, h0, hS, ht, hd⟩ := h B1 H1 g
  refine for_it w Pv h0 (fun i σ' H' _ p => hS i σ' H' p) (fun i v σ' H' H'' hi p ⟨s, d, h1, h2⟩ => ?_) hd
  have g2 := grow (hS i σ' H' p) s
  exact ht i d σ' H' v _ H'' h1 p g2 (h2.tk g2.tk)

/-! ### list comprehensions -/
theorem BCx.blk (c : BCx T N sc k X) {scope : Scope} (hk : scope.kind = .function) (s : Shared) (H : Hp) (C : Addr) (cl : List (Str × Addr)) (fp : List Addr) :
    BCx T N (relS scope sc) k (X.blk s H scope (compEnvC scope cl C X.env) fp) := ⟨c.prog, c.w, c.K, c.mg, c.base, c.calm, c.hN, by rw [← c.hs]; rfl, hk, c.nd, c.room, rfl⟩
end
end Mead

set_option maxRecDepth 100000
set_option maxHeartbeats 4000000
/-! comprehensions -/
namespace Mead
open PySem PySem.Spec PyProof.Rows L2

/-- the target takes v: the slots are then σ2 -/
def TGT (X : Cx) (tg : Expr) (v : V) (σ : L2.St) (B : Hp) (σ2 : L2.St) : Prop := ∀ H Q, Same B H → Q σ2 H → jG X tg v σ H Q
def TGTs (X : Cx) (tgs : List Expr) (vs : List V) (σ : L2.St) (B : Hp) (σ2 : L2.St) : Prop := ∀ H Q, Same B H → Q σ2 H → jGs X tgs vs σ H Q
/-- a clause's tests -/
def jIf (X : Cx) (ifs : List Expr) : TT := fun σ H Q => ∀ (pins : List (Addr × Obj)) (s : Shared), Inv X pins σ H s →
  wpAny (model X.prog X.w) X.A (forIn ifs true fun c r => if r = true then do let ok ← isTrue c X.env (eval c X.env); pure (ForInStep.yield ok) else pure (ForInStep.yield r)) (TP X pins σ Q) X.xe s
def JIf (X : Cx) (ifs : List Expr) (σ : L2.St) (B : Hp) (b : Bool) : Prop := ∀ H1, Same B H1 → jIf X ifs σ H1 fun c H2 => Same H1 H2 ∧ c = b
section
variable {T : Tx} {N : List Str} {sc : Scope} {k : Nat} {X : Cx} {σ σ1 σ2 : L2.St} {B H : Hp} {a b e : Expr} {es : List Expr} {pos : Pos} {x y d : PyData} {ds : List PyData}
theorem pts_j {ifs : List Expr} : PTs X ifs (jIf X ifs) := ⟨fun pins s _ _ _ I h => h pins s I⟩
theorem jif_mono {ifs : List Expr} {Q Q' : Bool → Hp → Prop} (h : jIf X ifs σ H Q) (k : ∀ v H', Q v H' → Q' v H') : jIf X ifs σ H Q' := fun pins s I =>
  thn (h pins s I) fun _ _ ⟨H', I', q⟩ => ⟨H', I', k _ _ q⟩
theorem jif_nil : JIf X [] σ B true := fun H1 s pins st I => pts_nil.run pins st σ H1 _ I ⟨Same.refl H1, rfl⟩
theorem jif_one {i : Bool} (h : JT X e σ B i) : JIf X [e] σ B i := fun H1 s pins st I => (pts_one pt_j).run pins st σ H1 _ I (h H1 s)
theorem tgt_name (c : DCx T N sc k X) {i : Nat} {z : Str} {v : V} (hN : N[i]? = some z) (hl : lc sc z = true) : TGT X (.Name z pos) v σ B (σ.set i (some v)) := fun _ _ _ q => jg_name c hN hl q
theorem tgt_nameB (c : BCx T N sc k X) {i : Nat} {z : Str} {v : V} (hN : N[i]? = some z) (hl : loc sc z = true) : TGT X (.Name z pos) v σ B (σ.set i (some v)) := fun _ _ _ q => jg_nameB c hN hl q
theorem tgt_cellB (c : BCx T N sc k X) {i : Nat} {z : Str} {v : V} (hN : N[i]? = some z) (hl : lc sc z = true) (hf : X.fn z = true) : TGT X (.Name z pos) v σ B (σ.set i (some v)) := fun _ _ _ q => jg_cellB c hN hl hf q
theorem tgts_nil : TGTs X [] [] σ B σ := fun _ _ _ q => jgs_nil q
theorem tgts_cons {tg : Expr} {tgs : List Expr} {v : V} {vs : List V} (h : TGT X tg v σ B σ1) (hr : TGTs X tgs vs σ1 B σ2) (hs : (assignEach (tg :: tgs) X.env).map (·.2) = assign tg X.env :: (assignEach tgs X.env).map (·.2) := by rfl) :
    TGTs X (tg :: tgs) (v :: vs) σ B σ2 := fun H Q s q => jgs_cons (h H _ s (hr H Q s q)) hs
theorem tgt_tup (c : BCx T N sc k X) {tgs : List Expr} {kk : Nat} {p : Addr} {xs : List V} {n : Nat} (hp : B p = some (.tup xs)) (hl : xs.length = n) (h : TGTs X tgs xs σ B σ2)
    (hn : (assignEach tgs X.env).length = n := by rfl) (hst : (assignEach tgs X.env).findIdx? (·.1) = none := by rfl) : TGT X (.Tuple tgs kk pos) (.ref p) σ B σ2 := fun H Q s q =>
  jg_of (pg_tup c.calm pgs_j hn hst) ⟨p, xs, rfl, SqT.of (s _ _ hp), hl, h H Q s q⟩

/-- the context of a comprehension's block -/
def Blk (X : Cx) (scope : Scope) (X' : Cx) : Prop := ∃ (s : Shared) (H : Hp) (C : Addr) (cl : List (Str × Addr)) (fp : List Addr), X' = X.blk s H scope (compEnvC scope cl C X.env) fp
def bG (X : Cx) (scope : Scope) (tg : Expr) : TG := fun v σ H Q => ∀ X', Blk X scope X' → jG X' tg v σ H Q
def bT (X : Cx) (scope : Scope) (ifs : List Expr) : TT := fun σ H Q => ∀ X', Blk X scope X' → jIf X' ifs σ H Q
def bE (X : Cx) (scope : Scope) (elt : Expr) : TE := fun σ H Q => ∀ X', Blk X scope X' → jE X' elt σ H Q
theorem take_at {α : Type} {l : List α} {i : Nat} {z : α} (h : l[i]? = some z) : l.take (i + 1) = l.take i ++ [z] := by
  rw [List.take_add_one, h]
  rfl
theorem paired_app {α β : Type} {R : α → β → Prop} {l1 l2 : List α} {m1 m2 : List β} (h1 : Paired R l1 m1) (h2 : Paired R l2 m2) : Paired R (l1 ++ l2) (m1 ++ m2) := by
  induction h1 with
  | nil => exact h2
  | cons r _ ih => exact .cons r ih
theorem paired_imp {α β : Type} {R R' : α → β → Prop} {l : List α} {m : List β} (h : Paired R l m) (k : ∀ a b, R a b → R' a b) : Paired R' l m := by
  induction h with
  | nil => exact .nil
  | cons r _ ih => exact .cons (k _ _ r) ih
theorem paired_len {α β : Type} {R : α → β → Prop} {l : List α} {m : List β} (h : Paired R l m) : l.length = m.length := by
  induction h with
  | nil => rfl
  | cons _ _ ih => exact congrArg (· + 1) ih

/-- the reading of a comprehension -/
theorem lc_read (c : BCx T N sc k X) {α : Type} {as : List α} {enc : α → PyData} {p : α → Bool} {Pe : α → V → Hp → Prop} {tg iter elt : Expr} {ifs : List Expr} {scope : Scope} {own : List (Str × Nat)}
    (up : ∀ a v B1 B2, Same B1 B2 → Pe a v B1 → Pe a v B2) (S : SRC X tg iter σ B (as.map enc)) (hb : blkC N sc scope own = true) (hz : as.length ≤ 1000000)
    (turn : ∀ (i : Nat) (a : α) (v : V) (B2 : Hp), as[i]? = some a → Same B B2 → Im B2 v (enc a) → ∃ σ2, wipe σ2 (own.map (·.2)) = wipe σ (own.map (·.2)) ∧ ∀ X', BCx T N (relS scope sc) k X' → X'.fn = (fun z => scope.names.lookup z == some .cell) →
      TGT X' tg v (wipe σ (own.map (·.2))) B2 σ2 ∧ JIf X' ifs σ2 B2 (p a) ∧ (p a = true → EX X' elt σ2 B2 fun H1 u H2 => ∀ B3, Grow B2 H1 B3 H2 → Pe a u B3)) :
    ∃ wi, PI X tg iter wi ∧ ∀ H, Same B H → ∀ Q : VK, (∀ q acc H2, Same H H2 → H q = none → H2 q = some (.lst acc) → Paired (fun a u => Pe a u H2) (as.filter p) acc → Q (.ref q) H2) → tLc wi (bG X scope tg) (bT X scope ifs) (bE X scope elt) (own.map (·.2)) σ H Q := by
  have hbk : BlkOk X.N X.env.scope scope own := by
    rw [c.hN, c.hs]
    exact blkOk_by hb
  obtain ⟨wi, hi, hw⟩ := S
  refine ⟨wi, hi, fun H s Q hQ => ?_⟩
  have hX : ∀ {X'}, Blk X scope X' → BCx T N (relS scope sc) k X' ∧ X'.fn = (fun z => scope.names.lookup z == some .cell) := fun {X'} ⟨s, H, C, cl, fp, e⟩ => by
    subst e
    exact ⟨c.blk hbk.kind s H C cl fp, rfl⟩
  refine hw H s _ fun J B1 H1 g w D hD => ?_
  have hlen : (as.map enc).length = as.length := List.length_map ..
  rw [hlen] at w
  -- the base at turn i
  have nD : B1 D = none := g.ins.free hD
  refine lc_it (g := bG X scope tg) (tt := bT X scope ifs) (te := bE X scope elt) (vs := own.map (·.2)) (σ := σ) w (fun i H' => ∃ Bi acc, Same B1 Bi ∧ Same Bi H' ∧ Bi D = none ∧ H' D = some (.lst acc) ∧ Paired (fun a u => Pe a u Bi) ((as.take i).filter p) acc ∧ acc.length ≤ i ∧ Same H H')
    ⟨B1, [], Same.refl _, g.ins.trans (Same.new hD), nD, upd_same, .nil, Nat.le_refl _, g.up.trans (Same.new hD)⟩ (fun i H' _ ⟨Bi, acc, h1, h2, _⟩ => h1.trans h2) ?_ ?_
  · rintro i v H' H'' hi ⟨Bi, acc, h1, h2, h3, h4, h5, h6, h7⟩ ⟨s1, d, e1, e2⟩
    obtain ⟨a, ha, rfl⟩ : ∃ a, as[i]? = some a ∧ enc a = d := by
      rw [List.getElem?_map] at e1
      exact Option.map_eq_some_iff.mp e1
    have g2 := grow h2 s1
    have nD2 : gB Bi H' H'' D = none := g2.out D _ h3 h4 (fun xs z => by cases z)
    have h8 : H'' D = some (.lst acc) := s1 _ _ h4
    obtain ⟨σ2, e3, q⟩ := turn i a v _ ha (g.base.trans (h1.trans g2.base)) (e2.tk g2.tk)
    intro X' hX'
    refine (q X' (hX hX').1 (hX hX').2).1 H'' _ g2.ins ⟨e3, fun X2 hX2 => ?_⟩
    refine jif_mono ((q X2 (hX hX2).1 (hX hX2).2).2.1 H'' g2.ins) fun z H3 ⟨s3, ez⟩ => ?_
    rw [ez]
    cases hp : p a with
    | false =>
      refine iteF ⟨gB Bi H' H'', acc, h1.trans g2.base, g2.ins.trans s3, nD2, s3 _ _ h8, ?_, Nat.le_succ_of_le h6, h7.trans (s1.trans s3)⟩
      rw [take_at ha, List.filter_append, List.filter_cons, if_neg (by rw [hp]; decide)]
      rw [List.filter_nil, List.append_nil]
      exact paired_imp h5 fun a u hu => up _ _ _ _ g2.base hu
    | true =>
      refine iteT fun X3 hX3 => je_mono ((q X3 (hX hX3).1 (hX hX3).2).2.2 hp H3 (g2.ins.trans s3)) fun u H4 ⟨s4, pu⟩ => ?_
      have g4 := grow (g2.ins.trans s3) s4
      have nD4 : gB (gB Bi H' H'') H3 H4 D = none := g4.out D _ nD2 (s3 _ _ h8) (fun xs z => by cases z)
      have h9 : H4 D = some (.lst acc) := s4 _ _ (s3 _ _ h8)
      have hal : acc.length < 1000000 := by have := (List.getElem?_eq_some_iff.mp ha).1; omega
      refine ⟨acc, h9, Nat.lt_of_lt_of_le hal (by decide), gB (gB Bi H' H'') H3 H4, acc ++ [u], (h1.trans g2.base).trans g4.base, fun b o hb => ?_, nD4, upd_same, ?_, by simp; omega, fun b o hb => ?_⟩
      · rw [upd_ne (ne_of_none hb nD4)]
        exact g4.ins b o hb
      · rw [take_at ha, List.filter_append, List.filter_cons, if_pos (by rw [hp])]
        exact paired_app (paired_imp h5 fun a u hu => up _ _ _ _ (g2.base.trans g4.base) hu) (.cons (pu _ g4) .nil)
      · rw [upd_ne (fun z => by subst z; rw [g.up.free hD] at hb; cases hb)]
        exact s4 _ _ (s3 _ _ (s1 _ _ (h7 _ _ hb)))
  · rintro H' ⟨Bi, acc, h1, h2, h3, h4, h5, h6, h7⟩
    rw [List.take_length] at h5
    exact hQ D acc H' h7 (g.up.free hD) h4 (paired_imp h5 fun a u hu => up _ _ _ _ h2 hu)
theorem j_lcG (c : BCx T N sc k X) {α : Type} {as : List α} {enc : α → PyData} {p : α → Bool} {Pe : α → V → Hp → Prop} {tg iter elt : Expr} {ifs : List Expr} {scope : Scope} {own : List (Str × Nat)}
    (up : ∀ a v B1 B2, Same B1 B2 → Pe a v B1 → Pe a v B2) (S : SRC X tg iter σ B (as.map enc)) (hb : blkC N sc scope own = true) (hz : as.length ≤ 1000000)
    (turn : ∀ (i : Nat) (a : α) (v : V) (B2 : Hp), as[i]? = some a → Same B B2 → Im B2 v (enc a) → ∃ σ2, wipe σ2 (own.map (·.2)) = wipe σ (own.map (·.2)) ∧ ∀ X', BCx T N (relS scope sc) k X' → X'.fn = (fun z => scope.names.lookup z == some .cell) →
      TGT X' tg v (wipe σ (own.map (·.2))) B2 σ2 ∧ JIf X' ifs σ2 B2 (p a) ∧ (p a = true → EX X' elt σ2 B2 fun H1 u H2 => ∀ B3, Grow B2 H1 B3 H2 → Pe a u B3))
    (hf : ∀ z, foldedSetIterable iter X.env z = pure z := by intro _; rfl) :
    EX X (.ListComp elt [⟨tg, iter, ifs, 0⟩] scope pos) σ B fun H1 v H2 => ∃ q acc, v = .ref q ∧ H1 q = none ∧ H2 q = some (.lst acc) ∧ Paired (fun a u => Pe a u H2) (as.filter p) acc := by
  have hbk : BlkOk X.N X.env.scope scope own := by
    rw [c.hN, c.hs]
    exact blkOk_by hb
  obtain ⟨wi, hi, hw⟩ := lc_read c up S hb hz turn
  exact fun H s => je_of (pe_lc (own := own) (g := bG X scope tg) (tt := bT X scope ifs) (te := bE X scope elt)
    c.calm (by rw [c.hN]; exact c.nd) hi hbk (fun s H C cl fp => ⟨fun pins st σ _ v u Q I r h => h _ ⟨s, H, C, cl, fp, rfl⟩ pins st u I r⟩) (fun s H C cl fp => ⟨fun pins st σ _ Q I h => h _ ⟨s, H, C, cl, fp, rfl⟩ pins st I⟩)
    (fun s H C cl fp => ⟨fun pins st σ _ Q I h => h _ ⟨s, H, C, cl, fp, rfl⟩ pins st I⟩) hf) (hw H s _ fun q acc H2 s2 n e h => ⟨s2, q, acc, rfl, n, e, h⟩)
theorem sw_with {e : Expr} {t : Option Expr} {l : Nat} {env : Env} {sc : Scope} (h : env.scope = sc) : swapsWith e t l env = swapsWith e t l { env with scope := sc } := by
  subst h
  rfl
/-- name = [..] on one line -/
theorem js_setLcG (c : BCx T N sc k X) {α : Type} {as : List α} {enc : α → PyData} {p : α → Bool} {Pe : α → V → Hp → Prop} {tg iter elt : Expr} {ifs : List Expr} {scope : Scope} {own : List (Str × Nat)} {i : Nat} {z : Str} {pz spos : Pos} {D : Ends}
    (hN : N[i]? = some z) (hl : loc sc z = true)
    (up : ∀ a v B1 B2, Same B1 B2 → Pe a v B1 → Pe a v B2) (S : SRC X tg iter σ B (as.map enc)) (hb : blkC N sc scope own = true) (hz : as.length ≤ 1000000)
    (turn : ∀ (i : Nat) (a : α) (v : V) (B2 : Hp), as[i]? = some a → Same B B2 → Im B2 v (enc a) → ∃ σ2, wipe σ2 (own.map (·.2)) = wipe σ (own.map (·.2)) ∧ ∀ X', BCx T N (relS scope sc) k X' → X'.fn = (fun z => scope.names.lookup z == some .cell) →
      TGT X' tg v (wipe σ (own.map (·.2))) B2 σ2 ∧ JIf X' ifs σ2 B2 (p a) ∧ (p a = true → EX X' elt σ2 B2 fun H1 u H2 => ∀ B3, Grow B2 H1 B3 H2 → Pe a u B3))
    (hB : Same B H) (fin : ∀ q acc H2, Same H H2 → H q = none → H2 q = some (.lst acc) → Paired (fun a u => Pe a u H2) (as.filter p) acc → D.nx (σ.set i (some (.ref q))) H2)
    (hsw : swapsWith (.ListComp elt [⟨tg, iter, ifs, 0⟩] scope pos) (some (.Name z pz)) spos.line { X.env with scope := sc } = pure true := by rfl)
    (hf : ∀ z, foldedSetIterable iter X.env z = pure z := by intro _; rfl) : jS X (.Assign [.Name z pz] (.ListComp elt [⟨tg, iter, ifs, 0⟩] scope pos) spos) D σ H := by
  have hbk : BlkOk X.N X.env.scope scope own := by
    rw [c.hN, c.hs]
    exact blkOk_by hb
  obtain ⟨wi, hi, hw⟩ := lc_read c up S hb hz turn
  exact js_of (ps_setLc (i := i) (own := own) (g := bG X scope tg) (tt := bT X scope ifs) (te := bE X scope elt) c.calm (by rw [c.hN]; exact c.nd) (by rw [c.hN]; exact hN) (by rw [c.hs]; exact loc_of hl) ((sw_with c.hs).trans hsw) hi hbk
    (fun s H C cl fp => ⟨fun pins st σ _ v u Q I r h => h _ ⟨s, H, C, cl, fp, rfl⟩ pins st u I r⟩) (fun s H C cl fp => ⟨fun pins st σ _ Q I h => h _ ⟨s, H, C, cl, fp, rfl⟩ pins st I⟩)
    (fun s H C cl fp => ⟨fun pins st σ _ Q I h => h _ ⟨s, H, C, cl, fp, rfl⟩ pins st I⟩) hf) (hw H hB _ fun q acc H2 s2 n e h => fin q acc H2 s2 n e h)
end
end Mead

set_option maxRecDepth 100000
set_option maxHeartbeats 4000000
/-! sorted of data, of a set of numbers -/
namespace PySem.W
open PySem PySem.SeqAt PySem.Calls PyProof.Rows
/-- a tuple's own order, asked by sorting -/
theorem mead_tup_lt {A : Around} {s : Shared} {prog : Program} {w : World} {E Q : Value → Shared → Prop} {p q : Addr} {us vs : Array Value} {e r : Nat → Bool} (hp : s.heap.IsTuple p us) (hq : s.heap.IsTuple q vs)
    (he : ∀ j (u1 : j < us.size) (u2 : j < vs.size), EqAt A.in1 s us[j] vs[j] (e j)) (hr : ∀ j (u1 : j < us.size) (u2 : j < vs.size), e j = false → RcLt A.in1 s us[j] vs[j] (r j))
    (k : Q (.bool (firstLt e r (decide (us.size < vs.size)) (List.range (min us.size vs.size)))) s) : wpAny (model prog w) A (call (.builtin "tuple.__lt__") [.ref p, .ref q]) Q E s := by
  obtain ⟨⟨k1, k2, k3, k4⟩, ho, hc, n, hd⟩ := id hp
  obtain ⟨⟨l1, l2, l3, l4⟩, ho2, hc2, n2, hd2⟩ := id hq
  dsimp only at hc hd hc2 hd2
  subst hc; subst hd; subst hc2; subst hd2
  exact call_meets PySem.F.slot_tuple_lt ⟨_, ho, rfl⟩ PySem.F.entry_tuple_lt (PySem.F.args_tuple_lt_2 _ _) (PySem.SeqAt.tuple_ltAt p q us vs n n2 k2 l2 k4 l4 e r) ⟨ho, ho2, he, hr, k⟩
/-- one tuple against another, both known to be of one kind -/
theorem mead_one_lt {prog : Program} {w : World} {A : Around} {E : Value → Shared → Prop} {s : Shared} {xs ys : List PyData} {a b : Value} {as bs : List Addr} {Q : Bool → Shared → Prop} (ra : Reads s.heap a (.tuple xs) as) (rb : Reads s.heap b (.tuple ys) bs)
    (h : alike (.tuple xs) (.tuple ys) = true) (hu : A.units + min (PyData.tuple xs).depth (PyData.tuple ys).depth < cLine) (hq : Q (dataLt (.tuple xs) (.tuple ys)) s) : wpAny (model prog w) A (oneLt' true a b) Q E s := by
  have hal : alikeAll xs ys = true := by simpa [alike] using h
  cases ra with
  | @tuple l o vs n _ as1 h1 h2 h3 h4 =>
    cases rb with
    | @tuple l' o' vs' n' _ bs1 k1 k2 k3 k4 =>
      have n1 : vs.size = xs.length := by simpa using SeqAt.ReadsAll.length _ _ _ h4
      have n2 : vs'.size = ys.length := by simpa using SeqAt.ReadsAll.length _ _ _ k4
      rw [dataLt_tuple, ← firstLt_toks xs ys hal, ← n1, ← n2] at hq
      rw [oneLt'_eq, if_pos rfl]
      refine wpAny_bind (wpAny_cRoomFor (SeqAt.room_here hu) (wpAny_bind (wpAny_callSpecialIfBound?_slot (T := "tuple") ⟨_, h1, h2⟩ PySem.F.slot_tuple_lt (mead_tup_lt (e := pairEq xs ys) (r := fun j => dataLt (xs.getD j .none) (ys.getD j .none)) ⟨_, h1, h2, _, h3⟩ ⟨_, k1, k2, _, k3⟩ (fun j j1 j2 => ?_) (fun j j1 j2 hj => ?_) (wpAny_truthy_bool hq)))))
      · have z := eqAt_alikeAll xs ys A.in1 s vs.toList vs'.toList _ _ h4 k4 hal (SeqAt.room_in hu) j (by simpa using j1) (by simpa using j2)
        simpa using z
      · have z := rcLt_alikeAll xs ys A.in1 s vs.toList vs'.toList _ _ h4 k4 hal (SeqAt.room_in hu) j (by simpa using j1) (by simpa using j2) hj
        simpa using z
theorem mead_mapM {M : Model} {A : Around} {E : Value → Shared → Prop} {s : Shared} {α β : Type} {f : α → Sem β} {g : α → β} : ∀ (l : List α) {Q : List β → Shared → Prop}, (∀ v ∈ l, ∀ (Q' : β → Shared → Prop), Q' (g v) s → wpAny M A (f v) Q' E s) → Q (l.map g) s → wpAny M A (l.mapM f) Q E s
  | [], _, _, h => by rw [List.mapM_nil]; exact wpAny_pure h
  | x :: l, Q, hf, h => by
    rw [List.mapM_cons]
    exact wpAny_bind (hf x (.head _) _ (wpAny_bind (mead_mapM l (fun v hv => hf v (.tail _ hv)) (wpAny_pure h))))
/-- the first of a tuple's items, where it has one -/
def firstOf (h : Heap) (v : Value) : Option Value := match v with
  | .ref a => match h.get? a with
    | some ⟨_, _, .seq its _, _⟩ => its[0]?
    | _ => none
  | _ => none
/-- tuples of which the first is empty -/
theorem mead_kind {M : Model} {A : Around} {E : Value → Shared → Prop} {s : Shared} {v0 : Value} {vs : List Value} {Q : SortKind → Shared → Prop} (h0 : ∃ as, Reads s.heap v0 (.tuple []) as) (hT : ∀ v ∈ vs, ∃ xs as, Reads s.heap v (.tuple xs) as) (h : Q oneType' s) :
    wpAny M A (keyKind' (v0 :: vs).toArray) Q E s := by
  have one : ∀ v ∈ v0 :: vs, ∃ xs as, Reads s.heap v (.tuple xs) as := fun v hv => by
    rcases List.mem_cons.mp hv with rfl | hv
    · obtain ⟨as, r⟩ := h0
      exact ⟨_, as, r⟩
    · exact hT v hv
  have ty : ∀ v ∈ v0 :: vs, Looks M s.heap (typeOf v) (.type "tuple") := fun v hv => by
    obtain ⟨xs, as, r⟩ := one v hv
    exact looks_reads r
  rw [keyKind'_eq, List.mapM_toArray, map_eq_pure_bind]
  refine wpAny_bind (wpAny_bind (mead_mapM (g := firstOf s.heap) _ (fun v hv Q' hq => ?_) (wpAny_pure ?_)))
  · obtain ⟨xs, as, r⟩ := one v hv
    have t := ty v hv
    cases r with
    | @tuple l o us n _ as1 h1 h2 h3 h4 =>
      obtain ⟨oc, od, odt, osl⟩ := o
      dsimp only at h2 h3
      subst h2; subst h3
      rw [kas_first_eq]
      refine wpAny_bind (t.here ?_)
      rw [if_neg (by decide)]
      refine wpAny_bind (listItems_at h1 rfl (wpAny_pure ?_))
      have e : firstOf s.heap (.ref l) = us[0]? := by unfold firstOf; dsimp only; rw [h1]
      rw [e] at hq
      exact hq
  · have e0 : firstOf s.heap v0 = none := by
      obtain ⟨as, r⟩ := h0
      cases r with
      | @tuple l o us n _ as1 h1 h2 h3 h4 =>
        have e : us.toList = [] := List.eq_nil_of_length_eq_zero (by simpa using SeqAt.ReadsAll.length _ _ _ h4)
        obtain ⟨oc, od, odt, osl⟩ := o
        dsimp only at h3
        subst h3
        unfold firstOf
        dsimp only
        rw [h1]
        show us[0]? = none
        rw [← Array.getElem?_toList, e]
        rfl
    rw [if_neg (by rw [List.map_cons, e0]; simp), if_neg (by rw [List.map_cons, e0]; simp)]
    rw [oneTypeOnly'_eq, List.mapM_toArray, map_eq_pure_bind]
    refine wpAny_bind (wpAny_bind (wpAny_bind (mead_mapM (g := fun _ => Value.type "tuple") _ (fun v hv Q' hq => (ty v hv).here hq) (wpAny_pure ?_))))
    have a : ((List.map (fun _ => Value.type "tuple") (v0 :: vs)).toArray.all fun x => x == Value.type "tuple") = true := by
      simp only [List.all_toArray, List.all_map, List.all_eq_true]
      intro _ _; rfl
    have z : (List.map (fun _ => Value.type "tuple") (v0 :: vs)).toArray[0]? = some (Value.type "tuple") := by simp
    rw [z]
    simp only [a, if_true]
    exact wpAny_pure (wpAny_pure h)
/-- alike tuples, the first of them empty, can be sorted -/
theorem mead_sorts {prog : Program} {w : World} {A : Around} {s : Shared} {vs : List Value} {ds : List PyData} (e : EachIs (fun v d => ∃ as, Reads s.heap v d as) vs (.tuple [] :: ds)) (hal : AllAlike (.tuple [] :: ds)) (ht : ∀ d ∈ ds, ∃ xs, d = .tuple xs)
    (hu : ∀ d, d ∈ PyData.tuple [] :: ds → A.units + d.depth < cLine) : SortsAt prog w A s (dataKind s.heap (.tuple [] :: ds)) vs := by
  have all : ∀ d ∈ PyData.tuple [] :: ds, ∃ xs, d = .tuple xs := fun d hd => by
    rcases List.mem_cons.mp hd with rfl | hd
    · exact ⟨_, rfl⟩
    · exact ht d hd
  refine ⟨fun v hv => ?_, oneType', fun E x y a b Q ha hb hq => ?_, fun _ E Q hq => ?_⟩
  · obtain ⟨d, hd, as, r⟩ := e.left v hv
    exact ⟨_, dataKind_some hal hd r⟩
  · obtain ⟨d, as, hd, ra, rfl⟩ := dataKind_inv ha
    obtain ⟨d', as', hd', rb, rfl⟩ := dataKind_inv hb
    obtain ⟨xs, rfl⟩ := all d hd
    obtain ⟨ys, rfl⟩ := all d' hd'
    rw [keyLt'_oneType]
    exact mead_one_lt ra rb (hal _ hd _ hd') (Nat.lt_of_le_of_lt (Nat.add_le_add_left (Nat.min_le_left _ _) _) (hu _ hd)) hq
  · cases e with
    | cons h0 er =>
      exact mead_kind h0 (fun v hv => by
        obtain ⟨d, hd, as, r⟩ := er.left v hv
        obtain ⟨xs, rfl⟩ := ht d hd
        exact ⟨xs, as, r⟩) hq
/-- what can be sorted here -/
def SortOk (ds : List PyData) : Prop := AllAlike ds ∧ (Sortable ds ∨ ∃ es, ds = .tuple [] :: es ∧ ∀ d ∈ es, ∃ xs, d = .tuple xs)
theorem SortOk.at {prog : Program} {w : World} {A : Around} {s : Shared} {vs : List Value} {ds : List PyData} (h : SortOk ds) (e : EachIs (fun v d => ∃ as, Reads s.heap v d as) vs ds) (hu : ∀ d, d ∈ ds → A.units + d.depth < cLine) : SortsAt prog w A s (dataKind s.heap ds) vs := by
  rcases h.2 with q | ⟨es, rfl, q⟩
  · exact SortsAt.data e h.1 q hu
  · exact mead_sorts e h.1 q hu
theorem mead_sorted {prog : Program} {w : World} {A : Around} {E : Value → Shared → Prop} {s : Shared} {β : Type} {vs : List Value} {bs : List β} {enc : β → PyData} {R : Value → β → Prop} {l : Addr} {Q : Value → Shared → Prop} (hl : s.heap.IsList l vs.toArray)
    (e : EachIs R vs bs) (er : EachIs (fun v b => ∃ as, Reads s.heap v (enc b) as) vs bs) (hk : SortOk (bs.map enc)) (hL : bs.length ≤ sizeLine) (hu : ∀ b, b ∈ bs → A.units + 2 + (enc b).depth < cLine)
    (h : ∀ out, out.length = bs.length → EachIs R out (bs.mergeSort (dataLe false enc)) → Q (.ref (s.heap.objs.size + 1)) { s with heap := sortedAll s.heap vs (List.toArray out) }) : wpAny (model prog w) A (call (.builtin "sorted") [.ref l]) Q E s := by
  have er2 : EachIs (fun v b => ∃ as, Reads (sortingHeap (copyHeap s.heap vs) (s.heap.objs.size + 1) vs) v (enc b) as) vs bs := er.mono fun _ _ ⟨as, r⟩ => ⟨as, PyProof.Rows.Reads.keeps (fun _ _ => sorting_copy_old) r⟩
  refine sorted_vals hl (SortOk.at (s := { s with heap := sortingHeap (copyHeap s.heap vs) (s.heap.objs.size + 1) vs }) hk (each_map (R := fun v d => ∃ as, Reads (sortingHeap (copyHeap s.heap vs) (s.heap.objs.size + 1) vs) v d as) enc er2) (bound_map hu)) (by rw [e.length]; exact hL) ?_
  exact h _ (by rw [sortVals_length false rfl]; exact e.length) (sortVals_data false e er2 hk.1)
end PySem.W

namespace Mead
open PySem PySem.Spec PyProof.Rows L2
/-- the data in their order -/
abbrev srt {β : Type} (enc : β → PyData) (bs : List β) : List β := bs.mergeSort (PySem.W.dataLe false enc)
theorem each_im {X : Cx} {pins : List (Addr × Obj)} {σ : L2.St} {H : Hp} {s : Shared} (I : Inv X pins σ H s) {β : Type} (enc : β → PyData) : ∀ {xs : List V} {us : List Value} {bs : List β}, ImA H xs (bs.map enc) → Vals xs us →
    PySem.W.EachIs (fun u b => ∃ x, RelV x u ∧ Im H x (enc b)) us bs ∧ PySem.W.EachIs (fun u b => ∃ as, Reads s.heap u (enc b) as) us bs
  | _, _, [], h, r => by
    cases h
    cases r
    exact ⟨.nil, .nil⟩
  | _, _, b :: bs, h, r => by
    have h' : ImA H _ (enc b :: bs.map enc) := h
    cases h' with
    | cons h1 h2 =>
      cases r with
      | cons r1 r2 =>
        obtain ⟨q1, q2⟩ := each_im I enc h2 r2
        obtain ⟨as, z⟩ := Dp.reads I _ _ _ (Im.dp (K := X.K) _ _ h1) r1
        exact ⟨.cons ⟨_, r1, h1⟩ q1, .cons ⟨as, z⟩ q2⟩
theorem im_each {H : Hp} {β : Type} (enc : β → PyData) : ∀ {us : List Value} {bs : List β}, PySem.W.EachIs (fun u b => ∃ x, RelV x u ∧ Im H x (enc b)) us bs → ∃ xs, Vals xs us ∧ ImA H xs (bs.map enc)
  | _, _, .nil => ⟨[], .nil, .nil⟩
  | _, _, .cons ⟨x, r, h⟩ t => by
    obtain ⟨xs, q1, q2⟩ := im_each enc t
    exact ⟨x :: xs, .cons r q1, .cons h q2⟩
def rSortD {β : Type} (enc : β → PyData) (bs : List β) : List V → Hp → VK → Prop := fun vs H Q => ∃ (a : Addr) (xs : List V), vs = [V.ref a] ∧ H a = some (.lst xs) ∧ ImA H xs (bs.map enc) ∧ PySem.W.SortOk (bs.map enc) ∧ (∀ b, (enc b).depth ≤ 60) ∧
  ∀ ys p, H p = none → ImA H ys ((srt enc bs).map enc) → Q (.ref p) (upd H p (.lst ys))
theorem cr_sortD {X : Cx} {β : Type} {enc : β → PyData} {bs : List β} (hu : X.A.units + 64 < cLine) : CallR X (.builtin "sorted") (rSortD enc bs) := by
  intro pins s σ H vs us Q I r h
  obtain ⟨a, xs, rfl, ha, hx, ok, hd, q⟩ := h
  obtain ⟨its, rv, hl, hz⟩ := I.list (SqL.of (K := X.K) ha)
  obtain ⟨e1, e2⟩ := each_im I enc hx rv
  rw [Vals.ref1 r]
  have hlb : bs.length ≤ sizeLine := by
    have := hx.len
    rw [List.length_map] at this
    omega
  refine PySem.W.mead_sorted hl.isList e1 e2 ok hlb (fun b _ => by have := hd b; omega) fun out ho he => ?_
  obtain ⟨ys, q1, q2⟩ := im_each enc he
  obtain ⟨ep, he'⟩ := PyProof.Rows.sortedAll_at s.heap its out.toArray
  have hn := I.hok.fresh (Nat.le_succ s.heap.objs.size)
  refine ⟨.ref _, upd H (s.heap.objs.size + 1) (.lst ys), I.laid (t' := s.toks) (fun _ _ => PyProof.Rows.sortedAll_old) (Nat.le_succ _) ⟨by have z := q1.length; omega, out, ep, q1, by simpa using he'⟩, rfl, q ys _ hn q2⟩
end Mead

set_option maxRecDepth 100000
set_option maxHeartbeats 8000000
/-! a set of a list of numbers, sorted -/
namespace L2
open PySem PySem.Spec PyProof.Rows
/-- an empty set as it is laid -/
abbrev set00 (w : World) : Obj := { cls := .type "set", dict := none, data := .set #[] 0 (.fresh 0 0 (!w.params.followText "set-order")) }
set_option maxRecDepth 100000 in
theorem mead_set_list {P : Program} {w : World} {A : Around} {E Q : Value → Shared → Prop} {s : Shared} {q : Addr} {us : Array Value} (ns : List Int) (hand : A.handled = none) (hq : s.heap.IsList q us) (hu : IntsAre us.toList ns) (hb : ns.length + 1 < scanBound)
    (k : ∀ (h2 : Heap) (tk c : Nat), SetR w h2 s.heap.objs.size (fun j => decide (j ∈ ns)) c → c ≤ ns.length → (∀ b o, s.heap.get? b = some o → h2.get? b = some o) → Q (.ref s.heap.objs.size) { s with heap := h2, toks := tk }) :
    wpAny (model P w) A (call (.type "set") [.ref q]) Q E s := by
  have usz : us.size = ns.length := (Array.length_toList (xs := us)).symm.trans (IntsAre.length hu)
  obtain ⟨c, tl, mro⟩ := F.called_set.mro
  have md := F.called_set.made; have sb := F.called_set.sub
  refine wpAny_call (codeAny_of_tree (show wpAny _ _ (callAny (.type "set") _) _ _ _ from wpAny_pure ⟨Code.quiet_builtin _ (by decide +kernel), codeAny_builtin F.entry_type_call ?_⟩))
  rw [Around.under_plain (weight_type_call_type "set" [.ref q] []) rfl]
  have t1 := F.called_set.notType; have t2 := F.called_set.canCreate; have t3 := F.typeCall_set_1 (.ref q)
  repeat' (first | assumption | wp_step)
  refine codeAny_mono (code_set_led1 (.ref q) (E := E) (Q₁ := fun x s1 => x = .ref s.heap.objs.size ∧ s1 = { s with heap := s.heap.push (set00 w) }) ⟨rfl, rfl⟩) fun r s1 hr => ?_
  rcases r with x | fl
  · exact hr
  cases fl with
  | ret x =>
    obtain ⟨rfl, rfl⟩ := hr
    have g0 : (s.heap.push (set00 w)).get? s.heap.objs.size = some (set00 w) := Heap.get?_push_size _ rfl
    have ty : Shared.TypeIs { s with heap := s.heap.push (set00 w) } (.ref s.heap.objs.size) "set" := ⟨_, g0, rfl⟩
    have i1 := F.called_set.init.lookup; have i2 := F.called_set.init.bind (.ref s.heap.objs.size)
    repeat' (first | assumption | wp_step)
    refine codeAny_mono (codeAny_call_builtin (R := wants (fun r s2 => r = .none ∧ ∃ h2 tk c, s2 = { s with heap := h2, toks := tk } ∧ SetR w h2 s.heap.objs.size (fun j => decide (j ∈ ns)) c ∧ c ≤ ns.length ∧ (∀ b o, s.heap.get? b = some o → h2.get? b = some o)) E)
      F.called_set.init.plain F.entry_set_init (check_set_init_1 ty ?_)) fun r2 s2 hr2 => ?_
    · obtain ⟨⟨c1, c2, c3, c4⟩, o1, o2, nl, o3⟩ := hq
      dsimp only at o2 o3
      subst o2; subst o3
      have o4 : (s.heap.push (set00 w)).get? q = some { cls := .type "list", dict := c2, data := .seq us nl, slots := c4 } := Heap.get?_push_of_some _ o1
      have z1 := F.sub_list_set; have z2 := F.sub_list_frozenset
      have z3 : (Value.type "list" == Value.type "dict") = false := by decide
      have ql : (s.heap.push (set00 w)).IsList q us := ⟨_, o4, rfl, nl, rfl⟩
      unfold Builtin.«set.__init__» noKeywords Builtin.Frozenset.updateFrom
      generalize hPI : pyIter = PI
      wp_walk
      subst hPI
      refine wpAny_pyIter_list ql (wpAny_bind (wpAny_runValue ?_))
      have qS : q < s.heap.objs.size := Heap.lt_size o1
      have h3 : A.in1.in1.in1.handled = none := by simp [hand]
      have n1 : q ≠ (s.heap.push (set00 w)).objs.size := by
        rw [Heap.size_push]
        exact Nat.ne_of_lt (Nat.lt_succ_of_lt qS)
      have n2 : s.heap.objs.size ∉ [(s.heap.push (set00 w)).objs.size, q] := by
        rw [Heap.size_push]
        simp only [List.mem_cons, List.not_mem_nil, or_false, not_or]
        exact ⟨Nat.ne_of_lt (Nat.lt_succ_self _), Nat.ne_of_gt qS⟩
      have vals : ∀ (i : Nat) (v : Value), us[i]? = some v → ∃ k t, ns[i]? = some k ∧ v = .int k t := fun i v hv => by
        have hi : i < ns.length := by rw [← usz]; exact (Array.getElem?_eq_some_iff.mp hv).1
        obtain ⟨t, e⟩ := PyProof.Rows.IntsAre.int_at hu i v (by rw [Array.getElem?_toList]; exact hv)
        exact ⟨ns[i], t, List.getElem?_eq_getElem hi, by rw [e, List.getD_eq_getElem?_getD, List.getElem?_eq_getElem hi] <;> rfl⟩
      refine set_update_ints ((Walks.list h3 _ q n1 us).toS) s.heap.objs.size n2 ns usz hb vals (us.size - 0) 0 _ (by omega) (Nat.zero_le _) ⟨⟨_, Heap.get?_push_size _ rfl, rfl, rfl⟩, (ql.push _)⟩ ⟨0, Nat.le_refl 0, setR_new_at (Heap.get?_push_of_some _ g0)⟩ ?_
      intro s3 c3 mv c3le r3
      obtain ⟨h2, g2, d2, tk2, os2⟩ := s3
      obtain rfl : g2 = s.gens := mv.gens
      obtain rfl : d2 = s.drawn := mv.drawn
      obtain rfl : os2 = s.os := mv.os
      rw [usz] at c3le
      refine wpAny_pure (wpAny_pure ⟨rfl, h2, tk2, c3, rfl, r3, c3le, fun b o e => ?_⟩)
      have b1 : b ≠ s.heap.objs.size := Nat.ne_of_lt (Heap.lt_size e)
      have b2 : b ≠ (s.heap.push (set00 w)).objs.size := by
        rw [Heap.size_push]
        exact Nat.ne_of_lt (Nat.lt_succ_of_lt (Heap.lt_size e))
      exact mv.heap b o (by simp only [List.mem_cons, List.not_mem_nil, or_false, not_or]; exact ⟨b1, b2⟩) (Heap.get?_push_of_some _ (Heap.get?_push_of_some _ e))
    · rcases r2 with x | fl2
      · exact hr2
      cases fl2 with
      | ret x =>
        obtain ⟨rfl, h2, tk, c3, rfl, r3, c3le, kk⟩ := hr2
        repeat' (first | assumption | wp_step)
        exact k _ _ _ r3 c3le kk
      | _ => exact hr2.elim
  | _ => exact hr.elim
/-- set(xs), xs numbers -/
def rSetLs (K : PySem.W.Frag) (w : World) : List V → Hp → VK → Prop := fun vs H Q => ∃ (a : Addr) (ns : List Int), vs = [V.ref a] ∧ SqL K H a (ns.map V.int) ∧ ns.length < 1000 ∧ ∀ p c, H p = none → c ≤ ns.length → Q (.ref p) (upd H p (SetO w p (fun j => decide (j ∈ ns)) c))
theorem cr_setLs {X : Cx} (hc : X.calm = true) : CallR X (.type "set") (rSetLs X.K X.w) := by
  intro pins s σ H vs us Q I r h
  obtain ⟨a, ns, rfl, hs, hz, q⟩ := h
  obtain ⟨its, rv, hl, _⟩ := I.list hs
  rw [Vals.ref1 r]
  refine mead_set_list (w := X.w) ns (I.ok.hd hc) hl.isList rv.ints (by unfold scanBound; omega) fun h2 tk c R cl kk => ?_
  exact ⟨.ref _, upd H s.heap.objs.size (SetO X.w s.heap.objs.size _ c), I.laid (t' := tk) kk (Nat.le_refl _) (setO_new R), rfl, q _ c (I.hok.fresh (Nat.le_refl _)) cl⟩
end L2

set_option maxRecDepth 100000
set_option maxHeartbeats 4000000
/-! comprehensions of data; built-ins; lists that grow -/
namespace Mead
open PySem PySem.Spec PyProof.Rows L2
section
variable {T : Tx} {N : List Str} {sc : Scope} {k : Nat} {X : Cx} {σ σ1 σ2 : L2.St} {B H : Hp} {a b e : Expr} {es : List Expr} {pos : Pos} {x y d : PyData} {ds : List PyData} {D : Ends}
theorem im_of_paired {α : Type} {f : α → PyData} : ∀ {as : List α} {us : List V}, Paired (fun a u => Im H u (f a)) as us → ImA H us (as.map f)
  | _, _, .nil => .nil
  | _, _, .cons r t => .cons r (im_of_paired t)
/-- [elt for tg in iter if ..] of data -/
theorem ja_lc (c : BCx T N sc k X) {α : Type} {as : List α} {enc : α → PyData} {p : α → Bool} {f : α → PyData} {tg iter elt : Expr} {ifs : List Expr} {scope : Scope} {own : List (Str × Nat)}
    (S : SRC X tg iter σ B (as.map enc)) (hb : blkC N sc scope own = true) (hz : as.length ≤ 1000000)
    (turn : ∀ (i : Nat) (a : α) (v : V) (B2 : Hp), as[i]? = some a → Same B B2 → Im B2 v (enc a) → ∃ σ2, wipe σ2 (own.map (·.2)) = wipe σ (own.map (·.2)) ∧ ∀ X', BCx T N (relS scope sc) k X' → X'.fn = (fun z => scope.names.lookup z == some .cell) →
      TGT X' tg v (wipe σ (own.map (·.2))) B2 σ2 ∧ JIf X' ifs σ2 B2 (p a) ∧ (p a = true → JR X' elt σ2 B2 (.d (f a))))
    (hf : ∀ z, foldedSetIterable iter X.env z = pure z := by intro _; rfl) :
    JA X (.ListComp elt [⟨tg, iter, ifs, 0⟩] scope pos) σ B (.l ((as.filter p).map f)) := by
  refine EX.imp (j_lcG c (Pe := fun a v H => Im H v (f a)) (fun a v B1 B2 s h => h.up s) S hb hz (fun i a v B2 ha s hv => ?_) hf) fun H1 v H2 ⟨q, acc, e1, e2, e3, e4⟩ => ⟨q, e1, e2, acc, e3, im_of_paired e4⟩
  obtain ⟨σ2, w, t⟩ := turn i a v B2 ha s hv
  exact ⟨σ2, w, fun X' c' f' => ⟨(t X' c' f').1, (t X' c' f').2.1, fun hp => EX.imp ((t X' c' f').2.2 hp) fun H1 u H2 q B3 g => Im.tk q g.tk⟩⟩
/-- .. without a test -/
theorem ja_lc0 (c : BCx T N sc k X) {α : Type} {as : List α} {enc : α → PyData} {f : α → PyData} {tg iter elt : Expr} {scope : Scope} {own : List (Str × Nat)}
    (S : SRC X tg iter σ B (as.map enc)) (hb : blkC N sc scope own = true) (hz : as.length ≤ 1000000)
    (turn : ∀ (i : Nat) (a : α) (v : V) (B2 : Hp), as[i]? = some a → Same B B2 → Im B2 v (enc a) → ∃ σ2, wipe σ2 (own.map (·.2)) = wipe σ (own.map (·.2)) ∧ ∀ X', BCx T N (relS scope sc) k X' → X'.fn = (fun z => scope.names.lookup z == some .cell) →
      TGT X' tg v (wipe σ (own.map (·.2))) B2 σ2 ∧ JR X' elt σ2 B2 (.d (f a)))
    (hf : ∀ z, foldedSetIterable iter X.env z = pure z := by intro _; rfl) :
    JA X (.ListComp elt [⟨tg, iter, [], 0⟩] scope pos) σ B (.l (as.map f)) := by
  have h := ja_lc (p := fun _ => true) (ifs := []) (pos := pos) c S hb hz (fun i a v B2 ha s hv => by
    obtain ⟨σ2, w, t⟩ := turn i a v B2 ha s hv
    exact ⟨σ2, w, fun X' c' f' => ⟨(t X' c' f').1, jif_nil, fun _ => (t X' c' f').2⟩⟩) hf
  rw [List.filter_eq_self.mpr fun _ _ => rfl] at h
  exact h

/-! ### built-ins -/
theorem j_bltn (c : BCx T N sc k X) {z : Str} {id : String} {r : List V → Hp → VK → Prop} {p : Pos} {rs : List Ar} {P : Hp → V → Hp → Prop} (hr : CallR X (.builtin id) r) (hg : glo sc z = true) (hm : T.mg z = none) (hv : bootBuiltins z = some (.builtin id)) (ha : JRs X (e :: es) σ B rs)
    (h : ∀ H1 vs H2, Same B H1 → Same H1 H2 → Reps H2 vs rs → r vs H2 fun v H3 => Same H1 H3 ∧ P H1 v H3)
    (he : starEach (e :: es) X.env = (false, eval e X.env) :: starEach es X.env := by rfl) (hpl : (backTo pos (starEach es X.env)).any (·.1) = false := by rfl) : EX X (.Call (.Name z p) (e :: es) [] pos) σ B P := fun H1 s =>
  je_of (pe_callB hr (c.gl hg) (by rw [c.mg]; exact hm) hv pa_j (glo_of hg).2.2 (glo_of hg).2.1 he hpl) (ja_mono (ha H1 s) fun vs H2 ⟨s2, p2⟩ => h H1 vs H2 s s2 p2)
theorem j_bltT (c : BCx T N sc k X) {z : Str} {id : String} {r : List V → Hp → VK → Prop} {p : Pos} {rs : List Ar} {P : Hp → V → Hp → Prop} (hr : CallR X (.type id) r) (hg : glo sc z = true) (hm : T.mg z = none) (hv : bootBuiltins z = some (.type id)) (ha : JRs X (e :: es) σ B rs)
    (h : ∀ H1 vs H2, Same B H1 → Same H1 H2 → Reps H2 vs rs → r vs H2 fun v H3 => Same H1 H3 ∧ P H1 v H3)
    (he : starEach (e :: es) X.env = (false, eval e X.env) :: starEach es X.env := by rfl) (hpl : (backTo pos (starEach es X.env)).any (·.1) = false := by rfl) : EX X (.Call (.Name z p) (e :: es) [] pos) σ B P := fun H1 s =>
  je_of (pe_callTy hr (c.gl hg) (by rw [c.mg]; exact hm) hv pa_j (glo_of hg).2.2 (glo_of hg).2.1 he hpl) (ja_mono (ha H1 s) fun vs H2 ⟨s2, p2⟩ => h H1 vs H2 s s2 p2)
theorem reps1 {r : Ar} {vs : List V} (h : Reps H vs [r]) : ∃ v, vs = [v] ∧ r.rep H v := by
  cases h with
  | cons h1 h2 => cases h2; exact ⟨_, rfl, h1⟩
theorem reps2 {r q : Ar} {vs : List V} (h : Reps H vs [r, q]) : ∃ v u, vs = [v, u] ∧ r.rep H v ∧ q.rep H u := by
  cases h with
  | cons h1 h2 => cases h2 with
    | cons h3 h4 => cases h4; exact ⟨_, _, rfl, h1, h3⟩
theorem jrs_one {r : Ar} (h : JR X e σ B r) (hs : starEach [e] X.env = (false, eval e X.env) :: starEach [] X.env := by rfl) : JRs X [e] σ B [r] := jrs_cons h jrs_nil hs
theorem ja_lenL (c : BCx T N sc k X) {p : Pos} (hg : glo sc "len" = true) (hm : T.mg "len" = none) (h : JR X e σ B (.l ds)) (hs : starEach [e] X.env = (false, eval e X.env) :: starEach [] X.env := by rfl) : JA X (.Call (.Name "len" p) [e] [] pos) σ B (.d (.int ds.length)) :=
  j_bltn (he := hs) c call_len_seq hg hm boot_len (jrs_one h hs) fun H1 vs H2 s s2 hv => by
    obtain ⟨v, rfl, q, rfl, us, h1, h2⟩ := reps1 hv
    exact ⟨q, us, rfl, .inl (SqL.of h1), s2, by rw [h2.len]; exact .int _⟩
theorem ja_lenT (c : BCx T N sc k X) {p : Pos} (hg : glo sc "len" = true) (hm : T.mg "len" = none) (h : JR X e σ B (.d (.tuple ds))) (hs : starEach [e] X.env = (false, eval e X.env) :: starEach [] X.env := by rfl) : JA X (.Call (.Name "len" p) [e] [] pos) σ B (.d (.int ds.length)) :=
  j_bltn (he := hs) c call_len_seq hg hm boot_len (jrs_one h hs) fun H1 vs H2 s s2 hv => by
    obtain ⟨v, rfl, q⟩ := reps1 hv
    obtain ⟨p, us, rfl, h1, h2⟩ := Im.isTup q
    exact ⟨p, us, rfl, .inr (SqT.of h1), s2, by rw [h2.len]; exact .int _⟩
theorem ja_all (c : BCx T N sc k X) {p : Pos} {bs : List Bool} (hg : glo sc "all" = true) (hm : T.mg "all" = none) (h : JR X e σ B (.l (bs.map .bool))) (hs : starEach [e] X.env = (false, eval e X.env) :: starEach [] X.env := by rfl) : JA X (.Call (.Name "all" p) [e] [] pos) σ B (.d (.bool (bs.all id))) :=
  j_bltn (he := hs) c (cr_all c.calm) hg hm (by decide +kernel) (jrs_one h hs) fun H1 vs H2 s s2 hv => by
    obtain ⟨v, rfl, q, rfl, us, h1, h2⟩ := reps1 hv
    exact ⟨q, bs, rfl, SqL.of (by rw [h1, h2.bools]), s2, .bl _⟩
theorem ja_any (c : BCx T N sc k X) {p : Pos} {bs : List Bool} (hg : glo sc "any" = true) (hm : T.mg "any" = none) (h : JR X e σ B (.l (bs.map .bool))) (hs : starEach [e] X.env = (false, eval e X.env) :: starEach [] X.env := by rfl) : JA X (.Call (.Name "any" p) [e] [] pos) σ B (.d (.bool (bs.any id))) :=
  j_bltn (he := hs) c (cr_any c.calm) hg hm (by decide +kernel) (jrs_one h hs) fun H1 vs H2 s s2 hv => by
    obtain ⟨v, rfl, q, rfl, us, h1, h2⟩ := reps1 hv
    exact ⟨q, bs, rfl, SqL.of (by rw [h1, h2.bools]), s2, .bl _⟩
theorem ja_sum (c : BCx T N sc k X) {p : Pos} {ns : List Int} (hg : glo sc "sum" = true) (hm : T.mg "sum" = none) (h : JR X e σ B (.l (ns.map .int))) (hs : starEach [e] X.env = (false, eval e X.env) :: starEach [] X.env := by rfl) : JA X (.Call (.Name "sum" p) [e] [] pos) σ B (.d (.int ns.sum)) :=
  j_bltn (he := hs) c (cr_sum c.calm) hg hm (by decide +kernel) (jrs_one h hs) fun H1 vs H2 s s2 hv => by
    obtain ⟨v, rfl, q, rfl, us, h1, h2⟩ := reps1 hv
    exact ⟨q, ns, rfl, SqL.of (by rw [h1, h2.ints]), s2, .int _⟩
theorem ja_abs (c : BCx T N sc k X) {p : Pos} {n : Int} (hg : glo sc "abs" = true) (hm : T.mg "abs" = none) (h : JR X e σ B (.d (.int n))) (hs : starEach [e] X.env = (false, eval e X.env) :: starEach [] X.env := by rfl) : JA X (.Call (.Name "abs" p) [e] [] pos) σ B (.d (.int (if n < 0 then -n else n))) :=
  j_bltn (he := hs) c call_abs hg hm (by decide +kernel) (jrs_one h hs) fun H1 vs H2 s s2 hv => by
    obtain ⟨v, rfl, q⟩ := reps1 hv
    exact ⟨n, by rw [Im.isInt q], s2, .int _⟩
theorem ja_intB (c : BCx T N sc k X) {p : Pos} {i : Bool} (hg : glo sc "int" = true) (hm : T.mg "int" = none) (h : JR X e σ B (.d (.bool i))) (hs : starEach [e] X.env = (false, eval e X.env) :: starEach [] X.env := by rfl) : JA X (.Call (.Name "int" p) [e] [] pos) σ B (.d (.int (if i then 1 else 0))) :=
  j_bltT (he := hs) c call_int1 hg hm boot_int (jrs_one h hs) fun H1 vs H2 s s2 hv => by
    obtain ⟨v, rfl, q⟩ := reps1 hv
    exact .inr ⟨i, by rw [Im.isBl q], s2, .int _⟩
/-- tuple(xs) -/
theorem ja_tuple (c : BCx T N sc k X) {p : Pos} (hg : glo sc "tuple" = true) (hm : T.mg "tuple" = none) (h : JR X e σ B (.l ds)) (hs : starEach [e] X.env = (false, eval e X.env) :: starEach [] X.env := by rfl) : JA X (.Call (.Name "tuple" p) [e] [] pos) σ B (.d (.tuple ds)) :=
  j_bltT (he := hs) c call_tuple_of hg hm (by decide +kernel) (jrs_one h hs) fun H1 vs H2 s s2 hv => by
    obtain ⟨v, rfl, q, rfl, us, h1, h2⟩ := reps1 hv
    exact ⟨q, us, rfl, .inl ⟨SqL.of h1, fun l hl => ⟨s2.trans (Same.new hl), .tup upd_same (h2.up (Same.new hl))⟩⟩⟩
/-- sorted(xs) -/
theorem ja_sorted (c : BCx T N sc k X) {p : Pos} {β : Type} {enc : β → PyData} {bs : List β} (hg : glo sc "sorted" = true) (hm : T.mg "sorted" = none) (h : JR X e σ B (.l (bs.map enc))) (ok : PySem.W.SortOk (bs.map enc)) (hd : ∀ b, (enc b).depth ≤ 60)
    (hs : starEach [e] X.env = (false, eval e X.env) :: starEach [] X.env := by rfl) : JA X (.Call (.Name "sorted" p) [e] [] pos) σ B (.l ((srt enc bs).map enc)) :=
  j_bltn (he := hs) c (cr_sortD (enc := enc) (bs := bs) c.room.units) hg hm (by decide +kernel) (jrs_one h hs) fun H1 vs H2 s s2 hv => by
    obtain ⟨v, rfl, q, rfl, us, h1, h2⟩ := reps1 hv
    exact ⟨q, us, rfl, h1, h2, ok, hd, fun ys p hp hy => ⟨s2.trans (Same.new hp), p, rfl, s2.free hp, ys, upd_same, hy.up (Same.new hp)⟩⟩
/-- sorted(set(xs)), numbers -/
theorem ja_sortedSet (c : BCx T N sc k X) {p p2 pos2 : Pos} {ns : List Int} (hg : glo sc "sorted" = true) (hm : T.mg "sorted" = none) (hg2 : glo sc "set" = true) (hm2 : T.mg "set" = none) (h : JR X e σ B (.l (ns.map .int))) (hz : ns.length < 60)
    (hs : starEach [e] X.env = (false, eval e X.env) :: starEach [] X.env := by rfl) (hs2 : starEach [.Call (.Name "set" p2) [e] [] pos2] X.env = (false, eval (.Call (.Name "set" p2) [e] [] pos2) X.env) :: starEach [] X.env := by rfl) :
    EX X (.Call (.Name "sorted" p) [.Call (.Name "set" p2) [e] [] pos2] [] pos) σ B fun H1 v H2 => ∃ (q : Addr) (ms : List Int), v = .ref q ∧ H1 q = none ∧ Ls H2 q (ms.map .int) ∧ ms.Pairwise (· < ·) ∧ ∀ j, j ∈ ms ↔ j ∈ ns := fun H1 s =>
  je_of (pe_callB (cr_sortedSet c.calm) (c.gl hg) (by rw [c.mg]; exact hm) (by decide +kernel) (pa_cons (pe_callTy (cr_setLs c.calm) (c.gl hg2) (by rw [c.mg]; exact hm2) (by decide +kernel) (pa_cons pe_j pa_nil hs) (glo_of hg2).2.2 (glo_of hg2).2.1 hs rfl) pa_nil hs2) (glo_of hg).2.2 (glo_of hg).2.1 hs2 rfl)
    (je_mono (h H1 s) fun v H2 ⟨s2, q, e, us, h1, h2⟩ => ⟨q, ns, by rw [e], SqL.of (by rw [h1, h2.ints]), by omega, fun t n ht hn => ⟨t, _, n, rfl, upd_same, by omega, fun ms r hpw hmem hlen hr =>
      ⟨s2.trans ((Same.new ht).trans (Same.new hr)), r, ms, rfl, s2.free ((Same.new ht).free hr), ⟨_, upd_same, ImA.ofInts ms⟩, hpw, fun j => by rw [hmem]; exact decide_eq_true_iff⟩⟩⟩)
/-- isinstance(x, T) -/
theorem ja_isi (c : BCx T N sc k X) {z : Str} {ty t2 : String} {p p2 : Pos} {r : Ar} {i : Bool} (hg : glo sc "isinstance" = true) (hm : T.mg "isinstance" = none) (hg2 : glo sc z = true) (hm2 : T.mg z = none) (hv : bootBuiltins z = some (.type t2)) (h : JR X e σ B r)
    (hty : ∀ v H, r.rep H v → TyX T.K H v (.type ty)) (hk : kitB ty t2 = some i)
    (hs : starEach [e, .Name z p2] X.env = (false, eval e X.env) :: starEach [.Name z p2] X.env := by rfl) (hs2 : starEach [.Name z p2] X.env = (false, eval (.Name z p2) X.env) :: starEach [] X.env := by rfl) (hs3 : (backTo pos (starEach [.Name z p2] X.env)).any (·.1) = false := by rfl) :
    JA X (.Call (.Name "isinstance" p) [e, .Name z p2] [] pos) σ B (.d (.bool i)) := fun H1 s =>
  je_of (pe_callB call_isi (c.gl hg) (by rw [c.mg]; exact hm) (by decide +kernel) (pa_cons pe_j (pa_cons (pe_bltn (v := .ty t2) (c.gl hg2) (by rw [c.mg]; exact hm2) hv rfl (glo_of hg2).2.2 (glo_of hg2).2.1) pa_nil hs2) hs) (glo_of hg).2.2 (glo_of hg).2.1 hs hs3)
    (je_mono (h H1 s) fun v H2 ⟨s2, q⟩ => ⟨v, .ty t2, .type ty, .type t2, i, rfl, .ty t2, by rw [c.K]; exact hty v H2 q, kit_ty hk, s2, .bl i⟩)
theorem tyx_int {K : PySem.W.Frag} {n : Int} : ∀ v H, (Ar.d (.int n)).rep H v → TyX K H v (.type "int") := fun v H q => by
  rw [Im.isInt q]
  exact .base (.int n)
theorem tyx_tup {K : PySem.W.Frag} : ∀ v H, (Ar.d (.tuple ds)).rep H v → TyX K H v (.type "tuple") := fun v H q => by
  obtain ⟨p, us, rfl, h1, _⟩ := Im.isTup q
  exact .base (.tup h1)

/-! ### + and slices of tuples, + of lists -/
theorem ja_catT {ms ns : List PyData} (ha : JR X a σ B (.d (.tuple ms))) (hb : JR X b σ B (.d (.tuple ns))) (hl : ms.length + ns.length ≤ 1000000) : JA X (.BinOp a .Add b pos) σ B (.d (.tuple (ms ++ ns))) :=
  j_op op_catA ha hb fun H1 v H2 u H3 _ s2 s3 p2 p3 => by
    obtain ⟨p, us, rfl, h1, h2⟩ := Im.isTup (Im.up p2 s3)
    obtain ⟨q, ws, rfl, h3, h4⟩ := Im.isTup p3
    have l1 := h2.len
    have l2 := h4.len
    refine ⟨p, q, us, ws, rfl, rfl, SqT.of h1, SqT.of h3, small_line (by omega), fun z => ?_, fun _ z => ?_, fun _ _ r hr => ⟨(s2.trans s3).trans (Same.new hr), .tup upd_same ((h2.app h4).up (Same.new hr))⟩⟩
    · have e : ms = [] := List.eq_nil_of_length_eq_zero (by rw [← l1, z]; rfl)
      rw [e]
      exact ⟨s2.trans s3, p3⟩
    · have e : ns = [] := List.eq_nil_of_length_eq_zero (by rw [← l2, z]; rfl)
      rw [e, List.append_nil]
      exact ⟨s2.trans s3, Im.up p2 s3⟩
theorem ja_catL {ms ns : List PyData} (ha : JR X a σ B (.l ms)) (hb : JR X b σ B (.l ns)) (hl : ms.length + ns.length ≤ 1000000) : JA X (.BinOp a .Add b pos) σ B (.l (ms ++ ns)) :=
  j_op op_cat ha hb fun H1 v H2 u H3 _ s2 s3 p2 p3 => by
    obtain ⟨p, rfl, us, h1, h2⟩ := Ar.rep_up p2 s3
    obtain ⟨q, rfl, ws, h3, h4⟩ := p3
    have l1 := h2.len
    have l2 := h4.len
    exact ⟨p, q, us, ws, rfl, rfl, h1, h3, small_line (by omega), fun r hr => ⟨(s2.trans s3).trans (Same.new hr), r, rfl, (s2.trans s3).free hr, _, upd_same, (h2.app h4).up (Same.new hr)⟩⟩
/-- a part of a slice -/
def JO (X : Cx) (e : Option Expr) (σ : L2.St) (B : Hp) (o : Option Int) : Prop := ∃ t, PO X e t ∧ ∀ H1, Same B H1 → ∀ Q : Option Int → Hp → Prop, (∀ H2, Same H1 H2 → Q o H2) → t σ H1 Q
theorem jo_none : JO X none σ B none := ⟨_, po_none, fun H1 _ Q q => q H1 (Same.refl H1)⟩
theorem jo_some {n : Int} (h : JR X e σ B (.d (.int n))) : JO X (some e) σ B (some n) := ⟨_, po_some pe_j, fun H1 s Q q => je_mono (h H1 s) fun v H2 ⟨s2, p⟩ => ⟨n, Im.isInt p, q H2 s2⟩⟩
def cutD (ds : List PyData) (lo hi : Option Int) : List PyData := (ds.drop (HT.sIx ds.length 0 lo)).take (HT.sIx ds.length ds.length hi - HT.sIx ds.length 0 lo)
theorem ja_slT {lo hi : Option Expr} {l u : Option Int} {p2 : Pos} (ha : JR X a σ B (.d (.tuple ds))) (hl : JO X lo σ B l) (hh : JO X hi σ B u) : JA X (.Subscript a (.Slice lo hi none p2) pos) σ B (.d (.tuple (cutD ds l u))) := by
  obtain ⟨t1, r1, q1⟩ := hl
  obtain ⟨t2, r2, q2⟩ := hh
  refine fun H1 s => je_of (pe_slice sl_tupA pe_j r1 r2) (je_mono (ha H1 s) fun v H2 ⟨s2, pv⟩ => q1 H2 (s.trans s2) _ fun H3 s3 => q2 H3 ((s.trans s2).trans s3) _ fun H4 s4 => ?_)
  obtain ⟨p, us, rfl, h1, h2⟩ := Im.isTup (Im.up pv (s3.trans s4))
  have e := h2.len
  refine ⟨p, us, rfl, SqT.of h1, fun ⟨z1, z2⟩ => ⟨(s2.trans s3).trans s4, ?_⟩, fun _ r hr => ⟨((s2.trans s3).trans s4).trans (Same.new hr), .tup upd_same ?_⟩⟩
  · unfold cutD
    rw [← e, z1, z2, List.drop_zero, Nat.sub_zero, e, List.take_length]
    exact .tup h1 h2
  · unfold cutV cutD
    rw [← e]
    exact ((h2.drop _).take _).up (Same.new hr)

/-! ### a list that grows -/
/-- xs.extend(e) -/
theorem js_extendH (c : BCx T N sc k X) {o : Expr} {apos cpos : Pos} {p : Addr} {vs : List V} (ho : JV X o σ B (.ref p)) (hB : Same B H) (hp : H p = some (.lst vs)) (h : JA X e σ H (.l ds)) (hl : vs.length + ds.length ≤ 1000000)
    (q : ∀ us B1 H1, Grow B H B1 H1 → H1 p = some (.lst vs) → ImA B1 us ds → D.nx σ (upd H1 p (.lst (vs ++ us))))
    (hbase : attributeBase o "extend" X.env (eval o X.env) = eval o X.env := by rfl)
    (hfew : ((backTo cpos (starEach [e] X.env)).all (fun x => !x.1) && (backToKw cpos (keywordEach [] X.env)).all (fun x => x.1.isSome) && decide ([e].length + ([] : List Keyword).length + (if ([] : List Keyword).isEmpty then 0 else 1) < 30)) = true := by rfl)
    (hline : (apos.endLine == cpos.line) = true := by rfl) (hs : starEach [e] X.env = (false, eval e X.env) :: starEach [] X.env := by rfl) : jS X (.Expr (.Call (.Attribute o "extend" apos) [e] [] cpos) pos) D σ H :=
  js_of (ps_expr (pe_bm PySem.F.plainAttrs_list PySem.F.slot_list_extend PySem.F.type_list_extend mt_extend pe_j (pa_cons pe_j pa_nil hs) hbase hfew hline hs rfl) rfl)
    (je_mono (ho H hB) fun v H1 ⟨s1, e1⟩ => by
      subst e1
      refine ⟨.inl ⟨rfl, vs, SqL.of (s1 _ _ hp)⟩, je_mono (h H1 s1) fun u H2 ⟨s2, p2⟩ => ?_⟩
      obtain ⟨b, rfl, nb, us, h1, h2⟩ := p2
      have g := grow hB (s1.trans s2)
      refine ⟨p, b, vs, us, rfl, rfl, s2 _ _ (s1 _ _ hp), h1, small_line (by rw [h2.len]; exact hl), q us _ H2 g (s2 _ _ (s1 _ _ hp)) (h2.tk g.tk)⟩)
/-- xs.extend(e) -/
theorem js_extend (c : BCx T N sc k X) {o : Expr} {apos cpos : Pos} {p : Addr} {vs : List V} (ho : JV X o σ B (.ref p)) (hB : Same B H) (hp : H p = some (.lst vs)) (h : JA X e σ B (.l ds)) (hl : vs.length + ds.length ≤ 1000000)
    (q : ∀ us B1 H1, Grow B H B1 H1 → H1 p = some (.lst vs) → ImA B1 us ds → D.nx σ (upd H1 p (.lst (vs ++ us))))
    (hbase : attributeBase o "extend" X.env (eval o X.env) = eval o X.env := by rfl)
    (hfew : ((backTo cpos (starEach [e] X.env)).all (fun x => !x.1) && (backToKw cpos (keywordEach [] X.env)).all (fun x => x.1.isSome) && decide ([e].length + ([] : List Keyword).length + (if ([] : List Keyword).isEmpty then 0 else 1) < 30)) = true := by rfl)
    (hline : (apos.endLine == cpos.line) = true := by rfl) (hs : starEach [e] X.env = (false, eval e X.env) :: starEach [] X.env := by rfl) : jS X (.Expr (.Call (.Attribute o "extend" apos) [e] [] cpos) pos) D σ H :=
  js_extendH c ho hB hp (h.up hB) hl q hbase hfew hline hs
/-- xs.append(e) -/
theorem js_appendH (c : BCx T N sc k X) {o : Expr} {apos cpos : Pos} {p : Addr} {vs : List V} (ho : JV X o σ B (.ref p)) (hB : Same B H) (hp : H p = some (.lst vs)) (h : JR X e σ H (.d d)) (hl : vs.length < 1000000)
    (q : ∀ u B1 H1, Grow B H B1 H1 → H1 p = some (.lst vs) → Im B1 u d → D.nx σ (upd H1 p (.lst (vs ++ [u]))))
    (hbase : attributeBase o "append" X.env (eval o X.env) = eval o X.env := by rfl)
    (hfew : ((backTo cpos (starEach [e] X.env)).all (fun x => !x.1) && (backToKw cpos (keywordEach [] X.env)).all (fun x => x.1.isSome) && decide ([e].length + ([] : List Keyword).length + (if ([] : List Keyword).isEmpty then 0 else 1) < 30)) = true := by rfl)
    (hline : (apos.endLine == cpos.line) = true := by rfl) (hs : starEach [e] X.env = (false, eval e X.env) :: starEach [] X.env := by rfl) : jS X (.Expr (.Call (.Attribute o "append" apos) [e] [] cpos) pos) D σ H :=
  js_of (ps_expr (pe_bm PySem.F.plainAttrs_list PySem.F.slot_list_append PySem.F.type_list_append mt_append pe_j (pa_cons pe_j pa_nil hs) hbase hfew hline hs rfl) rfl)
    (je_mono (ho H hB) fun v H1 ⟨s1, e1⟩ => by
      subst e1
      refine ⟨.inl ⟨rfl, vs, SqL.of (s1 _ _ hp)⟩, je_mono (h H1 s1) fun u H2 ⟨s2, p2⟩ => ?_⟩
      have g := grow hB (s1.trans s2)
      exact ⟨p, vs, u, rfl, rfl, s2 _ _ (s1 _ _ hp), Nat.lt_of_lt_of_le hl (by decide), q u _ H2 g (s2 _ _ (s1 _ _ hp)) (Im.tk p2 g.tk)⟩)
/-- xs.append(e) -/
theorem js_append (c : BCx T N sc k X) {o : Expr} {apos cpos : Pos} {p : Addr} {vs : List V} (ho : JV X o σ B (.ref p)) (hB : Same B H) (hp : H p = some (.lst vs)) (h : JR X e σ B (.d d)) (hl : vs.length < 1000000)
    (q : ∀ u B1 H1, Grow B H B1 H1 → H1 p = some (.lst vs) → Im B1 u d → D.nx σ (upd H1 p (.lst (vs ++ [u]))))
    (hbase : attributeBase o "append" X.env (eval o X.env) = eval o X.env := by rfl)
    (hfew : ((backTo cpos (starEach [e] X.env)).all (fun x => !x.1) && (backToKw cpos (keywordEach [] X.env)).all (fun x => x.1.isSome) && decide ([e].length + ([] : List Keyword).length + (if ([] : List Keyword).isEmpty then 0 else 1) < 30)) = true := by rfl)
    (hline : (apos.endLine == cpos.line) = true := by rfl) (hs : starEach [e] X.env = (false, eval e X.env) :: starEach [] X.env := by rfl) : jS X (.Expr (.Call (.Attribute o "append" apos) [e] [] cpos) pos) D σ H :=
  js_appendH c ho hB hp (h.up hB) hl q hbase hfew hline hs
end
end Mead
namespace Mead
open PySem PySem.Spec PyProof.Rows L2
theorem reps3 {H : Hp} {r q t : Ar} {vs : List V} (h : Reps H vs [r, q, t]) : ∃ v u w, vs = [v, u, w] ∧ r.rep H v ∧ q.rep H u ∧ t.rep H w := by
  cases h with
  | cons h1 h2 =>
    obtain ⟨u, w, rfl, a, b⟩ := reps2 h2
    exact ⟨_, u, w, rfl, h1, a, b⟩
theorem reps4 {H : Hp} {r q t z : Ar} {vs : List V} (h : Reps H vs [r, q, t, z]) : ∃ v u w x, vs = [v, u, w, x] ∧ r.rep H v ∧ q.rep H u ∧ t.rep H w ∧ z.rep H x := by
  cases h with
  | cons h1 h2 =>
    obtain ⟨u, w, x, rfl, a, b, c⟩ := reps3 h2
    exact ⟨_, u, w, x, rfl, h1, a, b, c⟩
theorem im1 {H : Hp} {v : V} {d1 : PyData} (h : Im H v (.tuple [d1])) : ∃ p v1, v = .ref p ∧ H p = some (.tup [v1]) ∧ Im H v1 d1 := by
  obtain ⟨p, us, rfl, h1, h2⟩ := Im.isTup h
  cases h2 with
  | cons a b => cases b; exact ⟨p, _, rfl, h1, a⟩
theorem im2 {H : Hp} {v : V} {d1 d2 : PyData} (h : Im H v (.tuple [d1, d2])) : ∃ p v1 v2, v = .ref p ∧ H p = some (.tup [v1, v2]) ∧ Im H v1 d1 ∧ Im H v2 d2 := by
  obtain ⟨p, us, rfl, h1, h2⟩ := Im.isTup h
  cases h2 with
  | cons a b => cases b with
    | cons a2 b => cases b; exact ⟨p, _, _, rfl, h1, a, a2⟩
theorem im3 {H : Hp} {v : V} {d1 d2 d3 : PyData} (h : Im H v (.tuple [d1, d2, d3])) : ∃ p v1 v2 v3, v = .ref p ∧ H p = some (.tup [v1, v2, v3]) ∧ Im H v1 d1 ∧ Im H v2 d2 ∧ Im H v3 d3 := by
  obtain ⟨p, us, rfl, h1, h2⟩ := Im.isTup h
  cases h2 with
  | cons a b => cases b with
    | cons a2 b => cases b with
      | cons a3 b => cases b; exact ⟨p, _, _, _, rfl, h1, a, a2, a3⟩
theorem im4 {H : Hp} {v : V} {d1 d2 d3 d4 : PyData} (h : Im H v (.tuple [d1, d2, d3, d4])) : ∃ p v1 v2 v3 v4, v = .ref p ∧ H p = some (.tup [v1, v2, v3, v4]) ∧ Im H v1 d1 ∧ Im H v2 d2 ∧ Im H v3 d3 ∧ Im H v4 d4 := by
  obtain ⟨p, us, rfl, h1, h2⟩ := Im.isTup h
  cases h2 with
  | cons a b => cases b with
    | cons a2 b => cases b with
      | cons a3 b => cases b with
        | cons a4 b => cases b; exact ⟨p, _, _, _, _, rfl, h1, a, a2, a3, a4⟩
end Mead

set_option maxRecDepth 100000
set_option maxHeartbeats 4000000
/-! enumerate of a tuple; zip of a list and a tuple -/
namespace Mead
open PySem PySem.Spec PyProof.Rows L2

/-! ### enumerate(tuple) -/
theorem mead_meets_enum {v : Value} {o : Obj} {H : Heap → Prop} (B : Begins v o H) :
    Meets (Builtin.«enumerate.__new__» ⟨[.type "enumerate", v], []⟩) (fun _ R s => H s.heap ∧
      R (.ok (.ret (.ref (s.heap.push o).objs.size))) { s with heap := (s.heap.push o).push { cls := .type "enumerate", data := .fields #[.none, .bool false, .ref s.heap.objs.size, rawInt 0, .none, .none] } }) :=
  .of_wp fun prog w A R s h => by
    obtain ⟨hp, g, d, tk, os⟩ := s; obtain ⟨h1, h⟩ := h
    have hsub := sub_enumerate
    have q1 : ∀ {A' : Around} {E : Value → Shared → Prop} {Q : Value → Shared → Prop}, Q (.ref hp.objs.size) ⟨hp.push o, g, d, tk, os⟩ → wpAny (model prog w) A' (pyIter v) Q E ⟨hp, g, d, tk, os⟩ :=
      fun q => B.iter prog w _ _ ⟨hp, g, d, tk, os⟩ _ h1 q
    wp_walk using q1
    refine wpAny_stack_any fun st => wpAny_pure ?_
    split
    · rename_i c _ _ _ _ _
      cases (c == Value.type "enumerate")
      · wp_walk using q1
        exact ⟨_, rfl, h⟩
      · wp_walk using q1
        exact ⟨_, rfl, h⟩
    · wp_walk using q1
      exact ⟨_, rfl, h⟩
theorem mead_call_enum {prog : Program} {w : World} {A : Around} {E : Value → Shared → Prop} {s : Shared} {v : Value} {o : Obj} {H : Heap → Prop} {Q : Value → Shared → Prop} (B : Begins v o H) (h1 : H s.heap)
    (h : ∀ h', IsEnum h' (s.heap.objs.size + 1) s.heap.objs.size 0 .none → h'.get? s.heap.objs.size = some o → h'.objs.size = s.heap.objs.size + 2 →
      (∀ b o, s.heap.get? b = some o → h'.get? b = some o) → Q (.ref (s.heap.objs.size + 1)) { s with heap := h' }) :
    wpAny (model prog w) A (call (.type "enumerate") [v]) Q E s := by
  refine callType_new F.called_enumerate (by decide) (F.typeCall_enumerate_1 _) (F.newCall_enumerate_1 _) (fun obj => F.args_object_init_2 obj _) F.entry_enumerate_new
    (mead_meets_enum B) ⟨h1, ?_⟩
  have hz : (s.heap.push o).objs.size = s.heap.objs.size + 1 := Heap.size_push ..
  show _ ∧ _
  rw [hz]
  have he : IsEnum ((s.heap.push o).push { cls := .type "enumerate", data := .fields #[.none, .bool false, .ref s.heap.objs.size, rawInt 0, .none, .none] }) (s.heap.objs.size + 1) s.heap.objs.size 0 .none := by
    have := Heap.get?_push_size (s.heap.push o) (o := { cls := .type "enumerate", data := .fields #[.none, .bool false, .ref s.heap.objs.size, rawInt 0, .none, .none] }) rfl
    rw [hz] at this; exact this
  refine ⟨⟨_, he, rfl⟩, h _ he (Heap.get?_push_of_some _ (Heap.get?_push_size _ B.free)) (by rw [Heap.size_push, hz]) fun b o x => Heap.get?_push_of_some _ (Heap.get?_push_of_some _ x)⟩
/-- the tuple at a, each item in a new pair behind its place -/
def ItT (K : PySem.W.Frag) (a : Addr) : It :=
  ⟨fun i H => ∃ (xs : List V) (x : V), SqT K H a xs ∧ xs[i]? = some x, fun i H v H' => ∃ T x, v = .ref T ∧ H T = none ∧ H' = upd H T (.tup [.int (i : Nat), x]) ∧ ∀ xs, SqT K H a xs → xs[i]? = some x, fun i H => ∃ xs : List V, SqT K H a xs ∧ xs.length = i⟩
theorem turn_enumT {P : Program} {w : World} {K : PySem.W.Frag} {elts : List Expr} {kk : Nat} {tpos : Pos} (a e it : Addr) :
    Turn P w K (.Tuple elts kk tpos) (ItT K a) [e, it] e (fun i h => (∃ old, IsEnum h e it ((i : Nat) : Int) old) ∧ h.IsTupleIter it a i ∧ e ≠ it ∧ e ≠ a ∧ it ≠ a) where
  mem := by simp
  obj := fun i h st b hb => by
    obtain ⟨⟨old, he⟩, ⟨o, ho, hc, hd⟩, _⟩ := st
    have e' : b = e ∨ b = it := by simpa using hb
    rcases e' with z | z
    · rw [z]; exact ⟨_, he, fun v q => nomatch q⟩
    · rw [z]; exact ⟨o, ho, fun v q => by rw [hd] at q; cases q⟩
  keep := fun i h h' st k => let ⟨⟨old, he⟩, hi, hne⟩ := st; ⟨⟨old, k e (by simp) _ he⟩, hi.at fun o q => k it (by simp) o q, hne⟩
  item := by
    intro X hP hw hK hc i pins s σ H E I hf st hg
    subst hP hw hK
    obtain ⟨⟨old, he⟩, hit, hne, hea, hia⟩ := st
    obtain ⟨xs, x, hq, hx⟩ := hg
    obtain ⟨its, rv, p, hz⟩ := I.tuple hq
    obtain ⟨u, hu, ru⟩ := rv.get hx
    have G := GoesN.enumFrom (elts := elts) (x1 := kk) (pos := tpos) 0 (Draws.tuple (prog := X.prog) (w := X.w) (A := X.A.in1) (I.ok.hd hc) it a (Ne.symm hia) its.toArray) e hne (by simp [hne, hea]) (by simp)
    refine G.goes i s _ E (by simpa using (List.getElem?_eq_some_iff.mp hu).1) ⟨⟨old, by rw [Int.zero_add]; exact he⟩, hit, p⟩ fun v h' tk hY st' hk htk => ?_
    obtain ⟨T, t, x', rfl, hn, hx', hT⟩ := hY
    obtain ⟨⟨old', he'⟩, hit', _⟩ := st'
    have hxu : x' = u := by
      have q : its.toArray[i]? = some u := by simpa using hu
      exact Option.some.inj (hx'.symm.trans q)
    subst hxu
    have new : ObjOk X.prog X.w (upd H T (.tup [.int (i : Nat), x])) h' T (.tup [.int (i : Nat), x]) :=
      ⟨by show 2 ≤ sizeLine; decide, [.int (0 + (i : Int)) t, x'], .cons ⟨t, by rw [Int.zero_add]⟩ (.cons ru .nil), hT⟩
    have I1 : Inv X pins σ (upd H T (.tup [.int (i : Nat), x])) { s with heap := h', toks := tk } := I.turnedNew (ch := [e, it]) hk hf hn new
    refine ⟨.ref T, _, I1, rfl, ⟨_, x, rfl, I.hok.fresh hn, rfl, fun ys hy => by rw [I.tuple_inj hy hq]; exact hx⟩, ⟨⟨old', ?_⟩, hit', hne, hea, hia⟩, fun b hb => ?_⟩
    · rw [Int.zero_add] at he'; exact he'
    · have hb' : b < s.heap.objs.size := by
        have e' : b = e ∨ b = it := by simpa using hb
        rcases e' with z | z
        · rw [z]; exact Heap.lt_size he
        · rw [z]; obtain ⟨_, q, _⟩ := hit; exact Heap.lt_size q
      rw [upd_ne (Nat.ne_of_lt (Nat.lt_of_lt_of_le hb' hn))]
      exact (hf b hb).1
  done := by
    intro X hP hw hK hc i pins s σ H E I hf st hg
    subst hP hw hK
    obtain ⟨⟨old, he⟩, hit, hne, hea, hia⟩ := st
    obtain ⟨xs, hq, hx⟩ := hg
    obtain ⟨its, rv, p, hz⟩ := I.tuple hq
    have hl := rv.length
    have G := GoesN.enumFrom (elts := elts) (x1 := kk) (pos := tpos) 0 (Draws.tuple (prog := X.prog) (w := X.w) (A := X.A.in1) (I.ok.hd hc) it a (Ne.symm hia) its.toArray) e hne (by simp [hne, hea]) (by simp)
    have hn : its.toArray.size = i := by simp; omega
    refine G.stops s _ E (by rw [hn]; exact ⟨⟨old, by rw [Int.zero_add]; exact he⟩, hit, p⟩) fun h' tk hk htk => I.turnedL (ch := [e, it]) hk hf
  self := fun A i s Q E st h => let ⟨⟨_, he⟩, _⟩ := st; wpAny_pyIter_enum he h
def iEnumT (K : PySem.W.Frag) (ta : TA) : TI := fun σ H R => ta σ H fun vs H1 => ∃ a xs, vs = [.ref a] ∧ SqT K H1 a xs ∧ R (ItT K a) H1
theorem pi_enumT {X : Cx} {e : Expr} {ta : TA} {p pos tpos : Pos} {elts : List Expr} {kk : Nat} (hg : Gl X "enumerate") (hm : X.mg "enumerate" = none) (ha : PA X [e] ta) (hs : starEach [e] X.env = [(false, eval e X.env)] := by rfl) :
    PI X (.Tuple elts kk tpos) (.Call (.Name "enumerate" p) [e] [] pos) (iEnumT X.K ta) := by
  refine ⟨fun pins s σ H R I h => ?_⟩
  refine Call_ (ld_blt I hg hm boot_enumerate (PyProof.Rows.callWith_type1 (thn (ha.run pos pins s σ H _ I h) fun us s1 ⟨vs, H1, I1, r1, q1⟩ => ?_) hs rfl))
  obtain ⟨a, xs, ex, hq, q⟩ := q1
  subst ex
  cases r1 with
  | cons r rr =>
    cases rr
    cases r
    obtain ⟨its, rv, p', hz⟩ := I1.tuple hq
    refine mead_call_enum (begins_tuple a its.toArray) p' fun h' he hit hsz hk => wpAny_pyIter_enum he ?_
    have I2 : Inv X pins σ H1 { s1 with heap := h' } := I1.kept (t' := s1.toks) hk
    have hal : a < s1.heap.objs.size := by obtain ⟨o1, ho1, _⟩ := id p'; exact Heap.lt_size ho1
    refine ⟨s1.heap.objs.size + 1, [s1.heap.objs.size + 1, s1.heap.objs.size], _, _, H1, rfl, I2, turn_enumT a (s1.heap.objs.size + 1) s1.heap.objs.size, ⟨⟨.none, he⟩, ⟨_, hit, rfl, rfl⟩, Nat.succ_ne_self _, Nat.ne_of_gt (Nat.lt_succ_of_lt hal), Nat.ne_of_gt hal⟩, fun b hb => ?_, q⟩
    have e' : b = s1.heap.objs.size + 1 ∨ b = s1.heap.objs.size := by simpa using hb
    have hle : s1.heap.objs.size ≤ b := by
      rcases e' with z | z
      · rw [z]; exact Nat.le_add_right _ _
      · rw [z]; exact Nat.le_refl _
    exact I1.fpOk hle (I1.hok.fresh hle)

/-! ### zip(list, tuple) -/
def ItZ (K : PySem.W.Frag) (a b : Addr) : It :=
  ⟨fun i H => ∃ (xs ys : List V) (x y : V), SqL K H a xs ∧ SqT K H b ys ∧ xs[i]? = some x ∧ ys[i]? = some y,
    fun i H v H' => ∃ T x y, v = .ref T ∧ H T = none ∧ H' = upd H T (.tup [x, y]) ∧ (∀ xs, SqL K H a xs → xs[i]? = some x) ∧ ∀ ys, SqT K H b ys → ys[i]? = some y,
    fun i H => ∃ xs ys : List V, SqL K H a xs ∧ SqT K H b ys ∧ xs.length = i ∧ ys.length = i⟩
structure ZApart (z TI TO i1 i2 a b : Addr) : Prop where
  sep : ZipSep2 z TI TO i1 i2 [i1, a] [i2, b]
  n1 : a ≠ i1
  n2 : b ≠ i2
theorem zapart {N a b : Addr} (ha : a < N) (hb : b < N) : ZApart (N + 4) (N + 2) (N + 3) N (N + 1) a b :=
  ⟨zip_sep2 (fp1 := [a]) (fp2 := [b]) (by simpa using ha) (by simpa using hb), Nat.ne_of_lt ha, Nat.ne_of_lt (Nat.lt_succ_of_lt hb)⟩
theorem turn_zipLT {P : Program} {w : World} {K : PySem.W.Frag} {elts : List Expr} {kk : Nat} {tpos : Pos} {a b z TI TO i1 i2 : Addr} (D : ZApart z TI TO i1 i2 a b) :
    Turn P w K (.Tuple elts kk tpos) (ItZ K a b) [z, TI, TO, i1, i2] z (fun i h => IsZip h z TI TO .none ∧ IsTupOf2 h TI (.ref i1) (.ref i2) ∧ (∃ x y, IsTupOf2 h TO x y) ∧ h.IsListIter i1 a i ∧ h.IsTupleIter i2 b i) where
  mem := by simp
  obj := fun i h st c hc => by
    obtain ⟨hz, hTI, ⟨x, y, hTO⟩, ⟨o1, e1, _, d1⟩, ⟨o2, e2, _, d2⟩⟩ := st
    have e' : c = z ∨ c = TI ∨ c = TO ∨ c = i1 ∨ c = i2 := by simpa using hc
    rcases e' with q | q | q | q | q
    · rw [q]; exact ⟨_, hz, fun v q => nomatch q⟩
    · rw [q]; exact ⟨_, hTI, fun v q => nomatch q⟩
    · rw [q]; exact ⟨_, hTO, fun v q => nomatch q⟩
    · rw [q]; exact ⟨o1, e1, fun v q => by rw [d1] at q; cases q⟩
    · rw [q]; exact ⟨o2, e2, fun v q => by rw [d2] at q; cases q⟩
  keep := fun i h h' st k => by
    obtain ⟨hz, hTI, ⟨x, y, hTO⟩, h1, h2⟩ := st
    exact ⟨k z (by simp) _ hz, k TI (by simp) _ hTI, ⟨x, y, k TO (by simp) _ hTO⟩, h1.at fun o q => k i1 (by simp) o q, h2.at fun o q => k i2 (by simp) o q⟩
  item := by
    intro X hP hw hK hc i pins s σ H E I hf st hg
    subst hP hw hK
    obtain ⟨hz, hTI, hTO, h1, h2⟩ := st
    obtain ⟨xs, ys, x, y, hqx, hqy, hx, hy⟩ := hg
    obtain ⟨its, rv, p, _⟩ := I.list hqx
    obtain ⟨its2, rv2, p2, _⟩ := I.tuple hqy
    obtain ⟨u, hu, ru⟩ := rv.get hx
    obtain ⟨u2, hu2, ru2⟩ := rv2.get hy
    have G := GoesN.zip2 (elts := elts) (x1 := kk) (pos := tpos) D.sep (Draws.list (prog := X.prog) (w := X.w) (A := X.A.in1) (I.ok.hd hc) i1 a D.n1 its.toArray) (Draws.tuple (prog := X.prog) (w := X.w) (A := X.A.in1) (I.ok.hd hc) i2 b D.n2 its2.toArray)
    have l1 := (List.getElem?_eq_some_iff.mp hu).1
    have l2 := (List.getElem?_eq_some_iff.mp hu2).1
    refine G.goes i s _ E (by rw [List.size_toArray, List.size_toArray]; exact Nat.lt_min.mpr ⟨l1, l2⟩) ⟨hz, hTI, hTO, ⟨h1, p.isList⟩, h2, p2⟩ fun v h' tk hY st' hk htk => ?_
    obtain ⟨T, x', y', rfl, hn, hx', hy', hT⟩ := hY
    have hxu : x' = u := by
      have q : its.toArray[i]? = some u := by simpa using hu
      exact Option.some.inj (hx'.symm.trans q)
    have hyu : y' = u2 := by
      have q : its2.toArray[i]? = some u2 := by simpa using hu2
      exact Option.some.inj (hy'.symm.trans q)
    subst hxu hyu
    have new : ObjOk X.prog X.w (upd H T (.tup [x, y])) h' T (.tup [x, y]) := ⟨by show 2 ≤ sizeLine; decide, [x', y'], .cons ru (.cons ru2 .nil), hT⟩
    have hk' : ∀ c o, c ∉ [z, TI, TO, i1, i2] → s.heap.get? c = some o → h'.get? c = some o := fun c o hc => hk c o (fun q => hc (by rcases List.mem_cons.mp q with r | r <;> simp_all))
    have I1 : Inv X pins σ (upd H T (.tup [x, y])) { s with heap := h', toks := tk } := I.turnedNew (ch := [z, TI, TO, i1, i2]) hk' hf hn new
    obtain ⟨z', TI', TO', ⟨h1', _⟩, h2', _⟩ := st'
    refine ⟨.ref T, _, I1, rfl, ⟨_, x, y, rfl, I.hok.fresh hn, rfl, fun l hl => by rw [I.list_inj hl hqx]; exact hx, fun l hl => by rw [I.tuple_inj hl hqy]; exact hy⟩, ⟨z', TI', TO', h1', h2'⟩, fun c hcm => ?_⟩
    have hlt : c < s.heap.objs.size := by
      obtain ⟨x0, y0, hTO⟩ := hTO
      have e' : c = z ∨ c = TI ∨ c = TO ∨ c = i1 ∨ c = i2 := by simpa using hcm
      rcases e' with q | q | q | q | q
      · rw [q]; exact Heap.lt_size hz
      · rw [q]; exact Heap.lt_size hTI
      · rw [q]; exact Heap.lt_size hTO
      · rw [q]; obtain ⟨_, e1, _⟩ := h1; exact Heap.lt_size e1
      · rw [q]; obtain ⟨_, e2, _⟩ := h2; exact Heap.lt_size e2
    rw [upd_ne (Nat.ne_of_lt (Nat.lt_of_lt_of_le hlt hn))]
    exact (hf c hcm).1
  done := by
    intro X hP hw hK hc i pins s σ H E I hf st hg
    subst hP hw hK
    obtain ⟨hz, hTI, hTO, h1, h2⟩ := st
    obtain ⟨xs, ys, hqx, hqy, e1, e2⟩ := hg
    obtain ⟨its, rv, p, _⟩ := I.list hqx
    obtain ⟨its2, rv2, p2, _⟩ := I.tuple hqy
    have l1 := rv.length
    have l2 := rv2.length
    have G := GoesN.zip2 (elts := elts) (x1 := kk) (pos := tpos) D.sep (Draws.list (prog := X.prog) (w := X.w) (A := X.A.in1) (I.ok.hd hc) i1 a D.n1 its.toArray) (Draws.tuple (prog := X.prog) (w := X.w) (A := X.A.in1) (I.ok.hd hc) i2 b D.n2 its2.toArray)
    have hn : min its.toArray.size its2.toArray.size = i := by rw [List.size_toArray, List.size_toArray]; omega
    refine G.stops s _ E (by rw [hn]; exact ⟨hz, hTI, hTO, ⟨h1, p.isList⟩, h2, p2⟩) fun h' tk hk htk => I.turnedL (ch := [z, TI, TO, i1, i2]) (fun c o hc => hk c o (fun q => hc (by rcases List.mem_cons.mp q with r | r <;> simp_all))) hf
  self := fun A i s Q E st h => wpAny_pyIter_zip st.1 h
def iZipLT (K : PySem.W.Frag) (ta : TA) : TI := fun σ H R => ta σ H fun vs H1 => ∃ a b xs ys, vs = [.ref a, .ref b] ∧ SqL K H1 a xs ∧ SqT K H1 b ys ∧ R (ItZ K a b) H1
theorem pi_zipLT {X : Cx} {e e2 : Expr} {ta : TA} {p pos tpos : Pos} {elts : List Expr} {kk : Nat} (hg : Gl X "zip") (hm : X.mg "zip" = none) (ha : PA X [e, e2] ta)
    (hs : starEach [e, e2] X.env = (false, eval e X.env) :: starEach [e2] X.env := by rfl) (hpl : (backTo pos (starEach [e2] X.env)).any (·.1) = false := by rfl) :
    PI X (.Tuple elts kk tpos) (.Call (.Name "zip" p) [e, e2] [] pos) (iZipLT X.K ta) := by
  refine ⟨fun pins s σ H R I h => ?_⟩
  refine Call_ (ld_blt I hg hm PyProof.Rows.boot_zip (PyProof.Rows.callWith_type1 (thn (ha.run pos pins s σ H _ I h) fun us s1 ⟨vs, H1, I1, r1, q1⟩ => ?_) hs hpl))
  obtain ⟨a, b, xs, ys, ex, hqx, hqy, q⟩ := q1
  subst ex
  cases r1 with
  | cons r rr =>
    cases rr with
    | cons r' rr =>
      cases rr
      cases r
      cases r'
      have fresh5 : ∀ c, c ∈ [s1.heap.objs.size + 4, s1.heap.objs.size + 2, s1.heap.objs.size + 3, s1.heap.objs.size, s1.heap.objs.size + 1] → FpOk X pins H1 c := fun c hcm => by
        have e' : c = s1.heap.objs.size + 4 ∨ c = s1.heap.objs.size + 2 ∨ c = s1.heap.objs.size + 3 ∨ c = s1.heap.objs.size ∨ c = s1.heap.objs.size + 1 := by simpa using hcm
        have hle : s1.heap.objs.size ≤ c := by
          rcases e' with z | z | z | z | z
          · rw [z]; exact Nat.le_add_right _ _
          · rw [z]; exact Nat.le_add_right _ _
          · rw [z]; exact Nat.le_add_right _ _
          · rw [z]; exact Nat.le_refl _
          · rw [z]; exact Nat.le_add_right _ _
        exact I1.fpOk hle (I1.hok.fresh hle)
      obtain ⟨its, rv, p1, _⟩ := I1.list hqx
      obtain ⟨its2, rv2, p2, _⟩ := I1.tuple hqy
      obtain ⟨o2, ho2, _⟩ := id p2
      refine zip_begins2 (begins_list a its.toArray) (begins_tuple b its2.toArray) p1.isList p2 fun h' hz hTI hTO h1 h2 hsz hk => wpAny_pyIter_zip hz ?_
      have I2 : Inv X pins σ H1 { s1 with heap := h' } := I1.kept (t' := s1.toks) hk
      exact ⟨s1.heap.objs.size + 4, [s1.heap.objs.size + 4, s1.heap.objs.size + 2, s1.heap.objs.size + 3, s1.heap.objs.size, s1.heap.objs.size + 1], _, _, H1, rfl, I2, turn_zipLT (zapart p1.lt (Heap.lt_size ho2)), ⟨hz, hTI, ⟨_, _, hTO⟩, ⟨_, h1, rfl, rfl⟩, ⟨_, h2, rfl, rfl⟩⟩, fresh5, q⟩
end Mead

set_option maxRecDepth 100000
set_option maxHeartbeats 4000000
/-! enumerate and zip as what is walked; more statements -/
namespace Mead
open PySem PySem.Spec PyProof.Rows L2
def enumD (ds : List PyData) : List PyData := ds.mapIdx fun i d => .tuple [.int (i : Nat), d]
def zipD (ds es : List PyData) : List PyData := List.zipWith (fun d e => .tuple [d, e]) ds es
section
variable {T : Tx} {N : List Str} {sc : Scope} {k : Nat} {X : Cx} {σ σ1 σ2 : L2.St} {B H : Hp} {a b e : Expr} {es : List Expr} {pos : Pos} {x y d : PyData} {ds : List PyData} {D : Ends} {st : Stmt} {sts body : List Stmt}
theorem im_pair {H : Hp} {p : Addr} {x y : V} {d e : PyData} (hp : H p = none) (hx : Im H x d) (hy : Im H y e) : Im (upd H p (.tup [x, y])) (.ref p) (.tuple [d, e]) :=
  .tup upd_same (.cons (hx.up (Same.new hp)) (.cons (hy.up (Same.new hp)) .nil))
theorem src_enumT (c : BCx T N sc k X) {elts : List Expr} {kk : Nat} {tpos p : Pos} (hg : glo sc "enumerate" = true) (hm : T.mg "enumerate" = none) (h : JR X e σ B (.d (.tuple ds))) (hs : starEach [e] X.env = [(false, eval e X.env)] := by rfl) :
    SRC X (.Tuple elts kk tpos) (.Call (.Name "enumerate" p) [e] [] pos) σ B (enumD ds) := by
  refine ⟨_, pi_enumT (c.gl hg) (by rw [c.mg]; exact hm) (pa_cons pe_j pa_nil hs) hs, fun H s R hR => je_mono (h H s) fun v H1 ⟨s1, q⟩ => ?_⟩
  have g := grow s s1
  obtain ⟨a, xs, e, q1, q2⟩ := Im.isTup (Im.tk q g.tk)
  refine ⟨a, xs, by rw [e], SqT.of (g.ins _ _ q1), hR _ _ H1 g ?_⟩
  have hl : (enumD ds).length = xs.length := by rw [enumD, List.length_mapIdx, q2.len]
  rw [hl]
  refine ⟨fun i H' hi k => ⟨xs, xs[i], SqT.of (k _ _ q1), List.getElem?_eq_getElem hi⟩, fun H' k => ⟨xs, SqT.of (k _ _ q1), rfl⟩, fun i H' v H'' hi k y => ?_⟩
  obtain ⟨p', x, rfl, hp, rfl, hx⟩ := y
  obtain ⟨d, h1, h2⟩ := q2.getV (hx xs (SqT.of (k _ _ q1)))
  refine ⟨Same.new hp, .tuple [.int (i : Nat), d], by rw [enumD, List.getElem?_mapIdx, h1]; rfl, im_pair hp (.int _) (h2.up k)⟩
theorem src_zipLT (c : BCx T N sc k X) {ms : List PyData} {elts : List Expr} {kk : Nat} {tpos p : Pos} (hg : glo sc "zip" = true) (hm : T.mg "zip" = none) (h : JA X a σ B (.l ds)) (h2 : JR X b σ B (.d (.tuple ms))) (hlen : ds.length = ms.length)
    (hs : starEach [a, b] X.env = (false, eval a X.env) :: starEach [b] X.env := by rfl) (hs2 : starEach [b] X.env = (false, eval b X.env) :: starEach [] X.env := by rfl) (hpl : (backTo pos (starEach [b] X.env)).any (·.1) = false := by rfl) :
    SRC X (.Tuple elts kk tpos) (.Call (.Name "zip" p) [a, b] [] pos) σ B (zipD ds ms) := by
  refine ⟨_, pi_zipLT (c.gl hg) (by rw [c.mg]; exact hm) (pa_cons pe_j (pa_cons pe_j pa_nil hs2) hs) hs hpl, fun H s R hR => je_mono (h H s) fun v H1 ⟨s1, q⟩ => je_mono (h2 H1 (s.trans s1)) fun u H2 ⟨s2, r⟩ => ?_⟩
  have g := grow s (s1.trans s2)
  have q' : (Ar.l ds).res H v H2 := by
    obtain ⟨p, e, n, vs, w1, w2⟩ := q
    exact ⟨p, e, n, vs, s2 _ _ w1, w2.up s2⟩
  obtain ⟨p1, e1, xs, q1, q2⟩ := g.res q'
  obtain ⟨p2, ys, e2, r1, r2⟩ := Im.isTup (Im.tk r g.tk)
  refine ⟨p1, p2, xs, ys, by rw [e1, e2], SqL.of (g.ins _ _ q1), SqT.of (g.ins _ _ r1), hR _ _ H2 g ?_⟩
  have l1 := q2.len
  have l2 := r2.len
  have hl : (zipD ds ms).length = xs.length := by rw [zipD, List.length_zipWith]; omega
  rw [hl]
  refine ⟨fun i H' hi k => ⟨xs, ys, xs[i], ys[i]'(by omega), SqL.of (k _ _ q1), SqT.of (k _ _ r1), List.getElem?_eq_getElem hi, List.getElem?_eq_getElem (by omega)⟩,
    fun H' k => ⟨xs, ys, SqL.of (k _ _ q1), SqT.of (k _ _ r1), rfl, by omega⟩, fun i H' v H'' hi k y => ?_⟩
  obtain ⟨p', x, y, rfl, hp, rfl, hx, hy⟩ := y
  obtain ⟨d, h1, h2⟩ := q2.getV (hx xs (SqL.of (k _ _ q1)))
  obtain ⟨d', h3, h4⟩ := r2.getV (hy ys (SqT.of (k _ _ r1)))
  exact ⟨Same.new hp, .tuple [d, d'], by rw [zipD, List.getElem?_zipWith, h1, h3], im_pair hp (h2.up k) (h4.up k)⟩
/-- a <= b <= c as a test -/
theorem jt_le2 {f : Expr} {m n q : Int} (ha : JR X a σ B (.d (.int m))) (hb : JR X b σ B (.d (.int n))) (hd : JR X f σ B (.d (.int q))) (hm : lastMarks [.LtE, .LtE] [b, f] = false := by rfl) : JT X (.Compare a [.LtE, .LtE] [b, f] pos) σ B (decide (m ≤ n ∧ n ≤ q)) := fun H1 s =>
  jt_of (pt_chain op_le op_le pe_j pe_j pe_j (hm := hm)) (je_mono (ha H1 s) fun v H2 ⟨s2, p2⟩ => je_mono (hb H2 (s.trans s2)) fun u H3 ⟨s3, p3⟩ => by
    refine ⟨m, n, Im.isInt p2, Im.isInt p3, decide (m ≤ n), rfl, ?_⟩
    by_cases h : m ≤ n
    · rw [decide_eq_true h]
      refine iteT (je_mono (hd H3 ((s.trans s2).trans s3)) fun w H4 ⟨s4, p4⟩ => ⟨n, q, Im.isInt p3, Im.isInt p4, _, rfl, (s2.trans s3).trans s4, ?_⟩)
      simp [h]
    · rw [decide_eq_false h]
      refine iteF ⟨_, rfl, s2.trans s3, ?_⟩
      simp [h])

/-! ### statements -/
theorem js_never (h : False) : jS X st D σ H := h.elim
/-- y = [elt for ..] on one line with its own block -/
theorem js_while (c : BCx T N sc k X) {t : Expr} (Pv : L2.St → Hp → Prop) (μ : L2.St → Hp → Nat) (h0 : Pv σ H) (hs : ∀ σ' H', Pv σ' H' → jT X t σ' H' fun i H2 => if i = true then jSs X body { D with nx := fun σ2 H3 => Pv σ2 H3 ∧ μ σ2 H3 < μ σ' H', ct := fun σ2 H3 => Pv σ2 H3 ∧ μ σ2 H3 < μ σ' H', bk := D.nx } σ' H2 else D.nx σ' H2) : jS X (.While t body [] pos) D σ H := by
  refine js_of (ps_while c.never pt_j pss_j) ⟨fun m σ' H' => m = μ σ' H' ∧ Pv σ' H', ⟨_, rfl, h0⟩, ?_⟩
  rintro m σ' H' ⟨rfl, p⟩
  refine jt_mono (hs σ' H' p) fun i H2 q => ?_
  cases i with
  | true => exact ⟨fun σ2 H3 => Pv σ2 H3 ∧ μ σ2 H3 < μ σ' H', fun σ2 H3 ⟨q1, q2⟩ => ⟨_, q2, rfl, q1⟩, q⟩
  | false => exact q
/-- the end of a statement that gives a value to several names, or to one -/
theorem js_asg {tg : Expr} {P : Hp → V → Hp → Prop} (h : EX X e σ B P) (hB : Same B H) (q : ∀ v H1, Same H H1 → P H v H1 → jG X tg v σ H1 D.nx)
    (hs : swapsWithSole [tg] e pos.line X.env = pure false := by rfl) (hw : swappedStores [tg] e X.env = pure none := by rfl) (h1 : (assignEach [tg] X.env).map (·.2) = [assign tg X.env] := by rfl) : jS X (.Assign [tg] e pos) D σ H :=
  js_of (ps_asg pe_j pg_j hs hw h1) (je_mono (h H hB) fun v H1 ⟨s, p⟩ => q v H1 s p)
/-- arguments, the lists among them new -/
def JNs (X : Cx) (es : List Expr) (σ : L2.St) (B : Hp) (rs : List Ar) : Prop := ∀ H1, Same B H1 → jA X es σ H1 fun vs H2 => Same H1 H2 ∧ Paired (fun v (r : Ar) => r.res H1 v H2) vs rs
theorem jns_nil : JNs X [] σ B [] := fun H1 s => ja_of pa_nil ⟨Same.refl H1, .nil⟩
theorem jns_cons {r : Ar} {rs : List Ar} (h : JA X e σ B r) (hr : JNs X es σ B rs) (hs : starEach (e :: es) X.env = (false, eval e X.env) :: starEach es X.env := by rfl) : JNs X (e :: es) σ B (r :: rs) := fun H1 s =>
  ja_of (pa_cons pe_j pa_j hs) (je_mono (h H1 s) fun v H2 ⟨s2, p2⟩ => ja_mono (hr H2 (s.trans s2)) fun vs H3 ⟨s3, p3⟩ => ⟨s2.trans s3, .cons (Ar.res_up s3 p2) (paired_imp p3 fun _ _ q => Ar.res_back s2 q)⟩)
theorem sw_scope {ts : List Expr} {v : Expr} {env : Env} {sc : Scope} (h : env.scope = sc) : swappedStores ts v env = swappedStores ts v { env with scope := sc } := by
  subst h
  rfl
/-- x, y = a, b -/
theorem js_par (c : BCx T N sc k X) {i j : Nat} {z w : Str} {px py pt : Pos} {kt k2 pt2} {r1 r2 : Ar} (hi : N[i]? = some z) (hj : N[j]? = some w) (hij : i ≠ j) (hx : loc sc z = true) (hy : loc sc w = true) (h : JNs X [a, b] σ B [r1, r2]) (hB : Same B H)
    (q : ∀ v u H1, Same H H1 → r1.res H v H1 → r2.res H u H1 → D.nx ((σ.set i (some v)).set j (some u)) H1) (hw : swappedStores [.Tuple [.Name z px, .Name w py] kt pt] (.Tuple [a, b] k2 pt2) { X.env with scope := sc } = pure (some [z, w]))
    (hs : swapsWithSole [.Tuple [.Name z px, .Name w py] kt pt] (.Tuple [a, b] k2 pt2) pos.line X.env = pure false := by rfl) : jS X (.Assign [.Tuple [.Name z px, .Name w py] kt pt] (.Tuple [a, b] k2 pt2) pos) D σ H :=
  js_of (ps_par c.calm (by rw [c.hN]; exact c.nd) (by rw [c.hN]; exact hi) (by rw [c.hN]; exact hj) hij (by rw [c.hs]; exact loc_of hx) (by rw [c.hs]; exact loc_of hy) pa_j ((sw_scope c.hs).trans hw) hs) (ja_mono (h H hB) fun vs H1 ⟨s, p⟩ => by
    cases p with
    | cons p1 p => cases p with
      | cons p2 p => cases p; exact ⟨_, _, rfl, q _ _ H1 s p1 p2⟩)
/-- x, y, z = a, b, c -/
theorem js_par3 (c : BCx T N sc k X) {i j l : Nat} {z w u : Str} {f : Expr} {px py pz pt : Pos} {kt k2 pt2} {r1 r2 r3 : Ar} (hi : N[i]? = some z) (hj : N[j]? = some w) (hl : N[l]? = some u) (hij : i ≠ j) (hil : i ≠ l) (hjl : j ≠ l) (hx : loc sc z = true) (hy : loc sc w = true) (hz : loc sc u = true) (h : JNs X [a, b, f] σ B [r1, r2, r3]) (hB : Same B H)
    (q : ∀ v1 v2 v3 H1, Same H H1 → r1.res H v1 H1 → r2.res H v2 H1 → r3.res H v3 H1 → D.nx (((σ.set i (some v1)).set j (some v2)).set l (some v3)) H1) (hw : swappedStores [.Tuple [.Name z px, .Name w py, .Name u pz] kt pt] (.Tuple [a, b, f] k2 pt2) { X.env with scope := sc } = pure (some [z, w, u]))
    (hs : swapsWithSole [.Tuple [.Name z px, .Name w py, .Name u pz] kt pt] (.Tuple [a, b, f] k2 pt2) pos.line X.env = pure false := by rfl) : jS X (.Assign [.Tuple [.Name z px, .Name w py, .Name u pz] kt pt] (.Tuple [a, b, f] k2 pt2) pos) D σ H :=
  js_of (ps_par3 c.calm (by rw [c.hN]; exact c.nd) (by rw [c.hN]; exact hi) (by rw [c.hN]; exact hj) (by rw [c.hN]; exact hl) hij hil hjl (by rw [c.hs]; exact loc_of hx) (by rw [c.hs]; exact loc_of hy) (by rw [c.hs]; exact loc_of hz) pa_j ((sw_scope c.hs).trans hw) hs) (ja_mono (h H hB) fun vs H1 ⟨s, p⟩ => by
    cases p with
    | cons p1 p => cases p with
      | cons p2 p => cases p with
        | cons p3 p => cases p; exact ⟨_, _, _, rfl, q _ _ _ H1 s p1 p2 p3⟩)
end
end Mead

set_option maxRecDepth 100000
set_option maxHeartbeats 4000000
/-! loops with a base that grows; a loop that fills a list -/
namespace Mead
open PySem PySem.Spec PyProof.Rows L2
section
variable {T : Tx} {N : List Str} {sc : Scope} {k : Nat} {X : Cx} {σ σ1 σ2 : L2.St} {B H : Hp} {a b e : Expr} {es : List Expr} {pos : Pos} {x y d : PyData} {ds : List PyData} {D : Ends} {st : Stmt} {sts body : List Stmt}
/-- the state of a loop with its base -/
def LpS (B : Hp) (Iv : Hp → L2.St → Hp → Prop) : L2.St → Hp → Prop := fun σ' H' => ∃ Bi, Same B Bi ∧ Same Bi H' ∧ Iv Bi σ' H'
theorem js_forG (c : BCx T N sc k X) {tg iter : Expr} (S : SRC X tg iter σ B ds) (hB : Same B H) (Iv : Nat → Hp → L2.St → Hp → Prop)
    (stay : ∀ i Bi B2 σ' H' H'', Same B Bi → Same Bi H' → Grow Bi H' B2 H'' → Iv i Bi σ' H' → Iv i B2 σ' H'')
    (h0 : Iv 0 B σ H)
    (turn : ∀ B1, Same B B1 → ∀ i d σ' H' v Bi, ds[i]? = some d → Same B1 Bi → Same Bi H' → Iv i Bi σ' H' → Im Bi v d → jG X tg v σ' H' fun σ2 H2 => jSs X body { D with nx := LpS B1 (Iv (i + 1)), ct := LpS B1 (Iv (i + 1)), bk := D.nx } σ2 H2)
    (fin : ∀ σ' H' Bi, Same B Bi → Same Bi H' → Iv ds.length Bi σ' H' → D.nx σ' H')
    (hf : ∀ z, foldedSetIterable iter X.env z = pure z := by intro _; rfl) : jS X (.For tg iter body [] pos) D σ H := by
  refine js_for c S hB (fun B1 H1 g => ⟨fun i σ' H' => ∃ Bi, Same B1 Bi ∧ Same Bi H' ∧ Iv i Bi σ' H', ⟨B1, Same.refl _, g.ins, stay 0 B B1 σ H H1 (Same.refl _) hB g h0⟩, fun i σ' H' ⟨Bi, h1, h2, _⟩ => h1.trans h2, ?_, ?_⟩) hf
  · rintro i d σ' H' v B2 H'' hd ⟨Bi, h1, h2, h3⟩ g2 hv
    have g3 := grow h2 g2.up
    exact turn B1 g.base i d σ' H'' v (gB Bi H' H'') hd (h1.trans g3.base) g3.ins (stay i Bi _ σ' H' H'' (g.base.trans h1) h2 g3 h3) ((hv.up g2.ins).tk g3.tk)
  · rintro σ' H' ⟨Bi, h1, h2, h3⟩
    exact fin σ' H' Bi (g.base.trans h1) h2 h3
/-- a list that a loop fills -/
def Fl (p : Addr) (F : List PyData) (B H : Hp) : Prop := B p = none ∧ ∃ vs, H p = some (.lst vs) ∧ ImA B vs F
theorem Fl.grow {p : Addr} {F : List PyData} {B2 H' : Hp} (h : Fl p F B H) (g : Grow B H B2 H') : Fl p F B2 H' :=
  let ⟨h1, vs, h2, h3⟩ := h
  ⟨g.out p _ h1 h2 (fun xs z => by cases z), vs, g.up _ _ h2, h3.up g.base⟩
theorem Fl.new {p : Addr} (h : Same B H) (hp : H p = none) : Fl p [] B (upd H p (.lst [])) := ⟨h.free hp, [], upd_same, .nil⟩
theorem Fl.res {p : Addr} {H2 : Hp} (h : Same B H) (r : (Ar.l []).res H (.ref p) H2) : Fl p [] B H2 := by
  obtain ⟨q, e, n, vs, h1, h2⟩ := r
  cases e
  cases h2
  exact ⟨h.free n, [], h1, .nil⟩
/-- for tg in it: ..., the list at p filled -/
theorem js_forA (c : BCx T N sc k X) {tg iter : Expr} (S : SRC X tg iter σ B ds) (hB : Same B H) (p : Addr) (F : Nat → List PyData) (Iv : Nat → L2.St → Prop) (h0 : Fl p (F 0) B H) (i0 : Iv 0 σ)
    (turn : ∀ B1, Same B B1 → ∀ i d σ' H' v Bi, ds[i]? = some d → Same B1 Bi → Same Bi H' → Fl p (F i) Bi H' → Iv i σ' → Im Bi v d → jG X tg v σ' H' fun σ2 H2 => jSs X body { D with nx := LpS B1 (fun Bi σ' H' => Fl p (F (i + 1)) Bi H' ∧ Iv (i + 1) σ'), ct := LpS B1 (fun Bi σ' H' => Fl p (F (i + 1)) Bi H' ∧ Iv (i + 1) σ'), bk := D.nx } σ2 H2)
    (fin : ∀ σ' H' Bi, Same B Bi → Same Bi H' → Fl p (F ds.length) Bi H' → Iv ds.length σ' → D.nx σ' H')
    (hf : ∀ z, foldedSetIterable iter X.env z = pure z := by intro _; rfl) : jS X (.For tg iter body [] pos) D σ H :=
  js_forG c S hB (fun i Bi σ' H' => Fl p (F i) Bi H' ∧ Iv i σ') (fun _ _ _ _ _ _ _ _ g ⟨q1, q2⟩ => ⟨q1.grow g, q2⟩) ⟨h0, i0⟩ (fun B1 s i d σ' H' v Bi hd h1 h2 ⟨q1, q2⟩ hv => turn B1 s i d σ' H' v Bi hd h1 h2 q1 q2 hv) (fun σ' H' Bi h1 h2 ⟨q1, q2⟩ => fin σ' H' Bi h1 h2 q1 q2) hf
/-- p.extend(e) at a turn -/
theorem js_extFH (c : BCx T N sc k X) {o : Expr} {apos cpos : Pos} {p : Addr} {F : List PyData} (ho : JV X o σ B (.ref p)) (hB : Same B H) (hF : Fl p F B H) (h : JA X e σ H (.l ds)) (hl : F.length + ds.length ≤ 1000000)
    (q : ∀ B1 H1, Same B B1 → Same B1 H1 → Fl p (F ++ ds) B1 H1 → D.nx σ H1)
    (hbase : attributeBase o "extend" X.env (eval o X.env) = eval o X.env := by rfl)
    (hfew : ((backTo cpos (starEach [e] X.env)).all (fun x => !x.1) && (backToKw cpos (keywordEach [] X.env)).all (fun x => x.1.isSome) && decide ([e].length + ([] : List Keyword).length + (if ([] : List Keyword).isEmpty then 0 else 1) < 30)) = true := by rfl)
    (hline : (apos.endLine == cpos.line) = true := by rfl) (hs : starEach [e] X.env = (false, eval e X.env) :: starEach [] X.env := by rfl) : jS X (.Expr (.Call (.Attribute o "extend" apos) [e] [] cpos) pos) D σ H := by
  obtain ⟨h1, vs, h2, h3⟩ := hF
  refine js_extendH c ho hB h2 h (by rw [h3.len]; exact hl) (fun us B1 H1 g h4 h5 => q B1 _ g.base (fun b o hb => ?_) ⟨g.out p _ h1 h2 (fun xs z => by cases z), _, upd_same, (h3.up g.base).app h5⟩) hbase hfew hline hs
  rw [upd_ne (ne_of_none hb (g.out p _ h1 h2 (fun xs z => by cases z)))]
  exact g.ins b o hb
theorem js_extF (c : BCx T N sc k X) {o : Expr} {apos cpos : Pos} {p : Addr} {F : List PyData} (ho : JV X o σ B (.ref p)) (hB : Same B H) (hF : Fl p F B H) (h : JA X e σ B (.l ds)) (hl : F.length + ds.length ≤ 1000000)
    (q : ∀ B1 H1, Same B B1 → Same B1 H1 → Fl p (F ++ ds) B1 H1 → D.nx σ H1)
    (hbase : attributeBase o "extend" X.env (eval o X.env) = eval o X.env := by rfl)
    (hfew : ((backTo cpos (starEach [e] X.env)).all (fun x => !x.1) && (backToKw cpos (keywordEach [] X.env)).all (fun x => x.1.isSome) && decide ([e].length + ([] : List Keyword).length + (if ([] : List Keyword).isEmpty then 0 else 1) < 30)) = true := by rfl)
    (hline : (apos.endLine == cpos.line) = true := by rfl) (hs : starEach [e] X.env = (false, eval e X.env) :: starEach [] X.env := by rfl) : jS X (.Expr (.Call (.Attribute o "extend" apos) [e] [] cpos) pos) D σ H :=
  js_extFH c ho hB hF (h.up hB) hl q hbase hfew hline hs
/-- p.append(e) at a turn -/
theorem js_appFH (c : BCx T N sc k X) {o : Expr} {apos cpos : Pos} {p : Addr} {F : List PyData} (ho : JV X o σ B (.ref p)) (hB : Same B H) (hF : Fl p F B H) (h : JR X e σ H (.d d)) (hl : F.length < 1000000)
    (q : ∀ B1 H1, Same B B1 → Same B1 H1 → Fl p (F ++ [d]) B1 H1 → D.nx σ H1)
    (hbase : attributeBase o "append" X.env (eval o X.env) = eval o X.env := by rfl)
    (hfew : ((backTo cpos (starEach [e] X.env)).all (fun x => !x.1) && (backToKw cpos (keywordEach [] X.env)).all (fun x => x.1.isSome) && decide ([e].length + ([] : List Keyword).length + (if ([] : List Keyword).isEmpty then 0 else 1) < 30)) = true := by rfl)
    (hline : (apos.endLine == cpos.line) = true := by rfl) (hs : starEach [e] X.env = (false, eval e X.env) :: starEach [] X.env := by rfl) : jS X (.Expr (.Call (.Attribute o "append" apos) [e] [] cpos) pos) D σ H := by
  obtain ⟨h1, vs, h2, h3⟩ := hF
  refine js_appendH c ho hB h2 h (by rw [h3.len]; exact hl) (fun u B1 H1 g h4 h5 => q B1 _ g.base (fun b o hb => ?_) ⟨g.out p _ h1 h2 (fun xs z => by cases z), _, upd_same, (h3.up g.base).app (.one h5)⟩) hbase hfew hline hs
  rw [upd_ne (ne_of_none hb (g.out p _ h1 h2 (fun xs z => by cases z)))]
  exact g.ins b o hb
theorem js_appF (c : BCx T N sc k X) {o : Expr} {apos cpos : Pos} {p : Addr} {F : List PyData} (ho : JV X o σ B (.ref p)) (hB : Same B H) (hF : Fl p F B H) (h : JR X e σ B (.d d)) (hl : F.length < 1000000)
    (q : ∀ B1 H1, Same B B1 → Same B1 H1 → Fl p (F ++ [d]) B1 H1 → D.nx σ H1)
    (hbase : attributeBase o "append" X.env (eval o X.env) = eval o X.env := by rfl)
    (hfew : ((backTo cpos (starEach [e] X.env)).all (fun x => !x.1) && (backToKw cpos (keywordEach [] X.env)).all (fun x => x.1.isSome) && decide ([e].length + ([] : List Keyword).length + (if ([] : List Keyword).isEmpty then 0 else 1) < 30)) = true := by rfl)
    (hline : (apos.endLine == cpos.line) = true := by rfl) (hs : starEach [e] X.env = (false, eval e X.env) :: starEach [] X.env := by rfl) : jS X (.Expr (.Call (.Attribute o "append" apos) [e] [] cpos) pos) D σ H :=
  js_appFH c ho hB hF (h.up hB) hl q hbase hfew hline hs
end
end Mead

set_option maxRecDepth 100000
set_option maxHeartbeats 4000000
/-! the text by its places; what the top leaves -/
namespace Mead
open PySem PySem.Spec PyProof.Rows L2
theorem sc_is_from : FnScope ["thing", "least", "most"] ["thing", "least", "most"] (defScope s_is_from) := ⟨rfl, rfl, rfl, by decide +kernel, rfl, by decide +kernel, by decide +kernel⟩
theorem sc_rises : FnScope ["thing", "at"] ["thing"] (defScope s_rises) := ⟨rfl, rfl, rfl, by decide +kernel, rfl, by decide +kernel, by decide +kernel⟩
theorem sc_places_of : FnScope ["mead", "least", "most", "found", "row", "numbers", "column", "number"] ["mead", "least", "most"] (defScope s_places_of) := ⟨rfl, rfl, rfl, by decide +kernel, rfl, by decide +kernel, by decide +kernel⟩
theorem sc_is_mead : FnScope ["thing", "row", "number"] ["thing"] (defScope s_is_mead) := ⟨rfl, rfl, rfl, by decide +kernel, rfl, by decide +kernel, by decide +kernel⟩
theorem sc_need_mead : FnScope ["mead"] ["mead"] (defScope s_need_mead) := ⟨rfl, rfl, rfl, by decide +kernel, rfl, by decide +kernel, by decide +kernel⟩
theorem sc_cells_in : FnScope ["mead"] ["mead"] (defScope s_cells_in) := ⟨rfl, rfl, rfl, by decide +kernel, rfl, by decide +kernel, by decide +kernel⟩
theorem sc_worth_in : FnScope ["mead", "places", "row", "column"] ["mead", "places"] (defScope s_worth_in) := ⟨rfl, rfl, rfl, by decide +kernel, rfl, by decide +kernel, by decide +kernel⟩
theorem sc_beside : FnScope ["place", "row", "column"] ["place"] (defScope s_beside) := ⟨rfl, rfl, rfl, by decide +kernel, rfl, by decide +kernel, by decide +kernel⟩
theorem sc_is_custom : FnScope ["thing", "count"] ["thing"] (defScope s_is_custom) := ⟨rfl, rfl, rfl, by decide +kernel, rfl, by decide +kernel, by decide +kernel⟩
theorem sc_is_claim : FnScope ["thing"] ["thing"] (defScope s_is_claim) := ⟨rfl, rfl, rfl, by decide +kernel, rfl, by decide +kernel, by decide +kernel⟩
theorem sc_are_claims : FnScope ["thing", "one"] ["thing"] (defScope s_are_claims) := ⟨rfl, rfl, rfl, by decide +kernel, rfl, by decide +kernel, by decide +kernel⟩
theorem sc_need_custom : FnScope ["custom"] ["custom"] (defScope s_need_custom) := ⟨rfl, rfl, rfl, by decide +kernel, rfl, by decide +kernel, by decide +kernel⟩
theorem sc_need_claim : FnScope ["claim"] ["claim"] (defScope s_need_claim) := ⟨rfl, rfl, rfl, by decide +kernel, rfl, by decide +kernel, by decide +kernel⟩
theorem sc_need_claims : FnScope ["claims"] ["claims"] (defScope s_need_claims) := ⟨rfl, rfl, rfl, by decide +kernel, rfl, by decide +kernel, by decide +kernel⟩
theorem sc_stand : FnScope ["custom", "claims", "holder", "sort", "many"] ["custom", "claims"] (defScope s_stand) := ⟨rfl, rfl, rfl, by decide +kernel, rfl, by decide +kernel, by decide +kernel⟩
theorem sc_holders_in : FnScope ["claims", "one"] ["claims"] (defScope s_holders_in) := ⟨rfl, rfl, rfl, by decide +kernel, rfl, by decide +kernel, by decide +kernel⟩
theorem sc_need_holder : FnScope ["claims", "holder"] ["claims", "holder"] (defScope s_need_holder) := ⟨rfl, rfl, rfl, by decide +kernel, rfl, by decide +kernel, by decide +kernel⟩
theorem sc_counted : FnScope ["custom", "claims", "holder", "one", "sort", "many"] ["custom", "claims", "holder"] (defScope s_counted) := ⟨rfl, rfl, rfl, by decide +kernel, rfl, by decide +kernel, by decide +kernel⟩
theorem sc_counted_all : FnScope ["custom", "claims", "one", "sort", "many"] ["custom", "claims"] (defScope s_counted_all) := ⟨rfl, rfl, rfl, by decide +kernel, rfl, by decide +kernel, by decide +kernel⟩
theorem sc_laid : FnScope ["claims", "claim", "one"] ["claims", "claim"] (defScope s_laid) := ⟨rfl, rfl, rfl, by decide +kernel, rfl, by decide +kernel, by decide +kernel⟩
theorem sc_denied : FnScope ["claims", "claim", "one"] ["claims", "claim"] (defScope s_denied) := ⟨rfl, rfl, rfl, by decide +kernel, rfl, by decide +kernel, by decide +kernel⟩
theorem sc_joined : FnScope ["claims", "one", "other", "rights", "holder", "sort", "many", "owner", "found"] ["claims", "one", "other"] (defScope s_joined) := ⟨rfl, rfl, rfl, by decide +kernel, rfl, by decide +kernel, by decide +kernel⟩
theorem sc_piece_from : FnScope ["land", "place", "line", "at", "one"] ["land", "place"] (defScope s_piece_from) := ⟨rfl, rfl, rfl, by decide +kernel, rfl, by decide +kernel, by decide +kernel⟩
theorem sc_is_whole : FnScope ["land"] ["land"] (defScope s_is_whole) := ⟨rfl, rfl, rfl, by decide +kernel, rfl, by decide +kernel, by decide +kernel⟩
theorem sc_lies_at_road : FnScope ["mead", "land", "roads", "place", "one"] ["mead", "land"] (defScope s_lies_at_road) := ⟨rfl, rfl, rfl, by decide +kernel, rfl, by decide +kernel, by decide +kernel⟩
theorem sc_is_plea : FnScope ["thing"] ["thing"] (defScope s_is_plea) := ⟨rfl, rfl, rfl, by decide +kernel, rfl, by decide +kernel, by decide +kernel⟩
theorem sc_need_plea : FnScope ["plea"] ["plea"] (defScope s_need_plea) := ⟨rfl, rfl, rfl, by decide +kernel, rfl, by decide +kernel, by decide +kernel⟩
theorem sc_due_in : FnScope ["plea", "holder", "mead", "custom", "claims", "odd"] ["plea", "holder"] (defScope s_due_in) := ⟨rfl, rfl, rfl, by decide +kernel, rfl, by decide +kernel, by decide +kernel⟩
theorem sc_is_worth : FnScope ["plea", "due", "land", "top", "bottom"] ["plea", "due", "land"] (defScope s_is_worth) := ⟨rfl, rfl, rfl, by decide +kernel, rfl, by decide +kernel, by decide +kernel⟩
theorem sc_fits_due : FnScope ["plea", "due", "land"] ["plea", "due", "land"] (defScope s_fits_due) := ⟨rfl, rfl, rfl, by decide +kernel, rfl, by decide +kernel, by decide +kernel⟩
theorem sc_is_fit : FnScope ["plea", "holder", "land"] ["plea", "holder", "land"] (defScope s_is_fit) := ⟨rfl, rfl, rfl, by decide +kernel, rfl, by decide +kernel, by decide +kernel⟩
theorem sc_lands_of : FnScope ["mead", "found", "cell", "land"] ["mead"] (defScope s_lands_of) := ⟨rfl, rfl, rfl, by decide +kernel, rfl, by decide +kernel, by decide +kernel⟩
theorem sc_fit_in : FnScope ["plea", "holder", "due", "land"] ["plea", "holder"] (defScope s_fit_in) := ⟨rfl, rfl, rfl, by decide +kernel, rfl, by decide +kernel, by decide +kernel⟩
theorem sc_land_by_holder : FnScope ["plea", "parting", "holder", "cell", "own"] ["plea", "parting", "holder"] (defScope s_land_by_holder) := ⟨rfl, rfl, rfl, by decide +kernel, rfl, by decide +kernel, by decide +kernel⟩
theorem sc_is_parted : FnScope ["plea", "thing", "holders", "holder", "own"] ["plea", "thing"] (defScope s_is_parted) := ⟨rfl, rfl, rfl, by decide +kernel, rfl, by decide +kernel, by decide +kernel⟩
theorem sc_is_parting : FnScope ["plea", "thing"] ["plea", "thing"] (defScope s_is_parting) := ⟨rfl, rfl, rfl, by decide +kernel, rfl, by decide +kernel, by decide +kernel⟩
theorem sc_dealt_on : FnScope ["owners", "land", "holder", "later", "cell"] ["owners", "land", "holder"] (defScope s_dealt_on) := ⟨rfl, rfl, rfl, by decide +kernel, rfl, by decide +kernel, by decide +kernel⟩
theorem sc_begun_by : FnScope ["lands", "found", "land"] ["lands"] (defScope s_begun_by) := ⟨rfl, rfl, rfl, by decide +kernel, rfl, by decide +kernel, by decide +kernel⟩
theorem sc_gone_on : FnScope ["cells", "begun", "owners", "used", "left", "found", "holder", "some", "cell", "land", "one"] ["cells", "begun", "owners", "used"] (defScope s_gone_on) := ⟨rfl, rfl, rfl, by decide +kernel, rfl, by decide +kernel, by decide +kernel⟩
theorem sc_partings_in : FnScope ["plea", "cells", "lines", "begun", "holder", "turn", "later", "owners", "used", "cell"] ["plea"] (defScope s_partings_in) := ⟨rfl, rfl, rfl, by decide +kernel, rfl, by decide +kernel, by decide +kernel⟩
theorem sc_first_parting : FnScope ["plea", "found"] ["plea"] (defScope s_first_parting) := ⟨rfl, rfl, rfl, by decide +kernel, rfl, by decide +kernel, by decide +kernel⟩
theorem sc_is_house : FnScope ["thing", "one"] ["thing"] (defScope s_is_house) := ⟨rfl, rfl, rfl, by decide +kernel, rfl, by decide +kernel, by decide +kernel⟩
theorem sc_are_houses : FnScope ["thing", "one"] ["thing"] (defScope s_are_houses) := ⟨rfl, rfl, rfl, by decide +kernel, rfl, by decide +kernel, by decide +kernel⟩
theorem sc_need_houses : FnScope ["houses"] ["houses"] (defScope s_need_houses) := ⟨rfl, rfl, rfl, by decide +kernel, rfl, by decide +kernel, by decide +kernel⟩
theorem sc_is_dealt : FnScope ["thing", "one"] ["thing"] (defScope s_is_dealt) := ⟨rfl, rfl, rfl, by decide +kernel, rfl, by decide +kernel, by decide +kernel⟩
theorem sc_need_dealt : FnScope ["dealt"] ["dealt"] (defScope s_need_dealt) := ⟨rfl, rfl, rfl, by decide +kernel, rfl, by decide +kernel, by decide +kernel⟩
theorem sc_need_other : FnScope ["mead", "dealt"] ["mead", "dealt"] (defScope s_need_other) := ⟨rfl, rfl, rfl, by decide +kernel, rfl, by decide +kernel, by decide +kernel⟩
theorem sc_fences_in : FnScope ["mead", "numbers", "by", "found", "place", "one"] ["mead", "numbers"] (defScope s_fences_in) := ⟨rfl, rfl, rfl, by decide +kernel, rfl, by decide +kernel, by decide +kernel⟩
theorem sc_fences_of : FnScope ["dealt"] ["dealt"] (defScope s_fences_of) := ⟨rfl, rfl, rfl, by decide +kernel, rfl, by decide +kernel, by decide +kernel⟩
theorem sc_unlike : FnScope ["one", "other", "thing"] ["one", "other"] (defScope s_unlike) := ⟨rfl, rfl, rfl, by decide +kernel, rfl, by decide +kernel, by decide +kernel⟩
theorem sc_fences_moved : FnScope ["one", "other"] ["one", "other"] (defScope s_fences_moved) := ⟨rfl, rfl, rfl, by decide +kernel, rfl, by decide +kernel, by decide +kernel⟩
theorem sc_least_moved : FnScope ["plea", "numbers", "mead", "best", "own", "parting", "here"] ["plea", "numbers"] (defScope s_least_moved) := ⟨rfl, rfl, rfl, by decide +kernel, rfl, by decide +kernel, by decide +kernel⟩
theorem sc_fewest_moved : FnScope ["plea", "dealt"] ["plea", "dealt"] (defScope s_fewest_moved) := ⟨rfl, rfl, rfl, by decide +kernel, rfl, by decide +kernel, by decide +kernel⟩
theorem sc__law_cell : FnScope ["_law_script", "_law_k"] ["_law_script", "_law_k"] (defScope s__law_cell) := ⟨rfl, rfl, rfl, by decide +kernel, rfl, by decide +kernel, by decide +kernel⟩
theorem sc__law_pen : FnScope ["_law_cell_here"] ["_law_cell_here"] (defScope s__law_pen) := ⟨rfl, rfl, rfl, by decide +kernel, rfl, by decide +kernel, by decide +kernel⟩
theorem sc__law_draw : FnScope ["_law_pen_here", "_law_bound", "_law_drawn"] ["_law_pen_here", "_law_bound"] (defScope s__law_draw) := ⟨rfl, rfl, rfl, by decide +kernel, rfl, by decide +kernel, by decide +kernel⟩
theorem sc__law_pick : FnScope ["_law_pen_here", "_law_things"] ["_law_pen_here", "_law_things"] (defScope s__law_pick) := ⟨rfl, rfl, rfl, by decide +kernel, rfl, by decide +kernel, by decide +kernel⟩
theorem sc__law_word : FnScope ["_law_e", "_law_marks", "_law_kinds"] ["_law_e"] (defScope s__law_word) := ⟨rfl, rfl, rfl, by decide +kernel, rfl, by decide +kernel, by decide +kernel⟩
theorem sc__law_came : FnScope ["_law_call_here", "_law_e"] ["_law_call_here"] (defScope s__law_came) := ⟨rfl, rfl, rfl, by decide +kernel, rfl, by decide +kernel, by decide +kernel⟩
theorem sc__law_mead : FnScope ["_law_pen_here", "_law_most", "_law_high", "_law_wide", "_law_many", "_law_rows", "_law_turn", "_law_row", "_law_place", "_law_number"] ["_law_pen_here", "_law_most"] (defScope s__law_mead) := ⟨rfl, rfl, rfl, by decide +kernel, rfl, by decide +kernel, by decide +kernel⟩
theorem sc__law_custom : FnScope ["_law_pen_here", "_law_turn"] ["_law_pen_here"] (defScope s__law_custom) := ⟨rfl, rfl, rfl, by decide +kernel, rfl, by decide +kernel, by decide +kernel⟩
theorem sc__law_claims : FnScope ["_law_pen_here", "_law_custom_here", "_law_holders", "_law_rights", "_law_turn", "_law_holder", "_law_sort", "_law_pair", "_law_many"] ["_law_pen_here", "_law_custom_here", "_law_holders"] (defScope s__law_claims) := ⟨rfl, rfl, rfl, by decide +kernel, rfl, by decide +kernel, by decide +kernel⟩
theorem sc__law_cells : FnScope ["_law_mead_here", "_law_places", "_law_row", "_law_column"] ["_law_mead_here"] (defScope s__law_cells) := ⟨rfl, rfl, rfl, by decide +kernel, rfl, by decide +kernel, by decide +kernel⟩
theorem sc__law_next_to : FnScope ["_law_one", "_law_other"] ["_law_one", "_law_other"] (defScope s__law_next_to) := ⟨rfl, rfl, rfl, by decide +kernel, rfl, by decide +kernel, by decide +kernel⟩
theorem sc__law_fences : FnScope ["_law_mead_here", "_law_numbers", "_law_rows", "_law_every", "_law_one", "_law_mine", "_law_other", "_law_theirs"] ["_law_mead_here", "_law_numbers"] (defScope s__law_fences) := ⟨rfl, rfl, rfl, by decide +kernel, rfl, by decide +kernel, by decide +kernel⟩
theorem sc__law_houses : FnScope ["_law_pen_here", "_law_holder"] ["_law_pen_here"] (defScope s__law_houses) := ⟨rfl, rfl, rfl, by decide +kernel, rfl, by decide +kernel, by decide +kernel⟩
theorem sc__law_call : FnScope ["_law_book", "_law_deed"] ["_law_book", "_law_deed"] (defScope s__law_call) := ⟨rfl, rfl, rfl, by decide +kernel, rfl, by decide +kernel, by decide +kernel⟩
theorem sc__law_base : FnScope ["_law_pen_here", "_law_most", "_law_odd"] ["_law_pen_here", "_law_most"] (defScope s__law_base) := ⟨rfl, rfl, rfl, by decide +kernel, rfl, by decide +kernel, by decide +kernel⟩
theorem sc__law_late : FnScope ["_law_book", "_law_mead_here", "_law_deed", "_law_ahead", "_law_stood", "_law_told", "_law_later", "_law_plea", "_law_best"] ["_law_book", "_law_mead_here", "_law_deed"] (defScope s__law_late) := ⟨rfl, rfl, rfl, by decide +kernel, rfl, by decide +kernel, by decide +kernel⟩
theorem sc_law : FnScope ["_law_script", "_law_cell_here", "_law_pen_here", "_law_base_here", "_law_book", "_law_claims_here", "_law_claim", "_law_plea", "_law_first", "_law_told", "_law_late_here", "_law_deeds", "_law_deed"] ["_law_script"] (defScope s_law) := ⟨rfl, rfl, rfl, by decide +kernel, rfl, by decide +kernel, by decide +kernel⟩
/-- what the top leaves, by names -/
structure Top (T : Tx) : Prop where
  d_is_from : Def T "is_from" s_is_from
  d_rises : Def T "rises" s_rises
  d_places_of : Def T "places_of" s_places_of
  d_is_mead : Def T "is_mead" s_is_mead
  d_need_mead : Def T "need_mead" s_need_mead
  d_cells_in : Def T "cells_in" s_cells_in
  d_worth_in : Def T "worth_in" s_worth_in
  d_beside : Def T "beside" s_beside
  d_is_custom : Def T "is_custom" s_is_custom
  d_is_claim : Def T "is_claim" s_is_claim
  d_are_claims : Def T "are_claims" s_are_claims
  d_need_custom : Def T "need_custom" s_need_custom
  d_need_claim : Def T "need_claim" s_need_claim
  d_need_claims : Def T "need_claims" s_need_claims
  d_stand : Def T "stand" s_stand
  d_holders_in : Def T "holders_in" s_holders_in
  d_need_holder : Def T "need_holder" s_need_holder
  d_counted : Def T "counted" s_counted
  d_counted_all : Def T "counted_all" s_counted_all
  d_laid : Def T "laid" s_laid
  d_denied : Def T "denied" s_denied
  d_joined : Def T "joined" s_joined
  d_piece_from : Def T "piece_from" s_piece_from
  d_is_whole : Def T "is_whole" s_is_whole
  d_lies_at_road : Def T "lies_at_road" s_lies_at_road
  d_is_plea : Def T "is_plea" s_is_plea
  d_need_plea : Def T "need_plea" s_need_plea
  d_due_in : Def T "due_in" s_due_in
  d_is_worth : Def T "is_worth" s_is_worth
  d_fits_due : Def T "fits_due" s_fits_due
  d_is_fit : Def T "is_fit" s_is_fit
  d_lands_of : Def T "lands_of" s_lands_of
  d_fit_in : Def T "fit_in" s_fit_in
  d_land_by_holder : Def T "land_by_holder" s_land_by_holder
  d_is_parted : Def T "is_parted" s_is_parted
  d_is_parting : Def T "is_parting" s_is_parting
  d_dealt_on : Def T "dealt_on" s_dealt_on
  d_begun_by : Def T "begun_by" s_begun_by
  d_gone_on : Def T "gone_on" s_gone_on
  d_partings_in : Def T "partings_in" s_partings_in
  d_first_parting : Def T "first_parting" s_first_parting
  d_is_house : Def T "is_house" s_is_house
  d_are_houses : Def T "are_houses" s_are_houses
  d_need_houses : Def T "need_houses" s_need_houses
  d_is_dealt : Def T "is_dealt" s_is_dealt
  d_need_dealt : Def T "need_dealt" s_need_dealt
  d_need_other : Def T "need_other" s_need_other
  d_fences_in : Def T "fences_in" s_fences_in
  d_fences_of : Def T "fences_of" s_fences_of
  d_unlike : Def T "unlike" s_unlike
  d_fences_moved : Def T "fences_moved" s_fences_moved
  d_least_moved : Def T "least_moved" s_least_moved
  d_fewest_moved : Def T "fewest_moved" s_fewest_moved
  d__law_cell : Def T "_law_cell" s__law_cell
  d__law_pen : Def T "_law_pen" s__law_pen
  d__law_draw : Def T "_law_draw" s__law_draw
  d__law_pick : Def T "_law_pick" s__law_pick
  d__law_word : Def T "_law_word" s__law_word
  d__law_came : Def T "_law_came" s__law_came
  d__law_mead : Def T "_law_mead" s__law_mead
  d__law_custom : Def T "_law_custom" s__law_custom
  d__law_claims : Def T "_law_claims" s__law_claims
  d__law_cells : Def T "_law_cells" s__law_cells
  d__law_next_to : Def T "_law_next_to" s__law_next_to
  d__law_fences : Def T "_law_fences" s__law_fences
  d__law_houses : Def T "_law_houses" s__law_houses
  d__law_call : Def T "_law_call" s__law_call
  d__law_base : Def T "_law_base" s__law_base
  d__law_late : Def T "_law_late" s__law_late
  d_law : Def T "law" s_law
  n_MOST_ROWS : ∃ t, T.mg "MOST_ROWS" = some (.int (4) t)
  n_MOST_COLUMNS : ∃ t, T.mg "MOST_COLUMNS" = some (.int (6) t)
  n_MOST_CELLS : ∃ t, T.mg "MOST_CELLS" = some (.int (10) t)
  n_MOST_WORTH : ∃ t, T.mg "MOST_WORTH" = some (.int (99) t)
  n_ROAD : ∃ t, T.mg "ROAD" = some (.int (-1) t)
  n_WATER : ∃ t, T.mg "WATER" = some (.int (-2) t)
  n_MOST_SORTS : ∃ t, T.mg "MOST_SORTS" = some (.int (6) t)
  n_MOST_COUNT : ∃ t, T.mg "MOST_COUNT" = some (.int (100) t)
  n_MOST_HOLDER_claims : ∃ t, T.mg "MOST_HOLDER_claims" = some (.int (3) t)
  n_MOST_RIGHTS : ∃ t, T.mg "MOST_RIGHTS" = some (.int (20) t)
  n_MOST_CLAIMS : ∃ t, T.mg "MOST_CLAIMS" = some (.int (12) t)
  n_MOST_ODD : ∃ t, T.mg "MOST_ODD" = some (.int (999) t)
  n_MANY : ∃ t, T.mg "MANY" = some (.int (4) t)
  n_FAR : ∃ t, T.mg "FAR" = some (.int (99) t)
  n_MOST_HOLDER_fences : ∃ t, T.mg "MOST_HOLDER_fences" = some (.int (3) t)
  f_len : T.mg "len" = none
  f_all : T.mg "all" = none
  f_any : T.mg "any" = none
  f_sum : T.mg "sum" = none
  f_abs : T.mg "abs" = none
  f_int : T.mg "int" = none
  f_tuple : T.mg "tuple" = none
  f_sorted : T.mg "sorted" = none
  f_set : T.mg "set" = none
  f_isinstance : T.mg "isinstance" = none
  f_bool : T.mg "bool" = none
  f_range : T.mg "range" = none
  f_enumerate : T.mg "enumerate" = none
  f_zip : T.mg "zip" = none
  f_dict : T.mg "dict" = none
  f_list : T.mg "list" = none
  f_ValueError : T.mg "ValueError" = none
end Mead

set_option maxRecDepth 100000
set_option maxHeartbeats 4000000
/-! what the defs compute, in plain Lean -/
namespace Mead
open PySem PySem.Spec PyProof.Rows L2
abbrev Pl := Int × Int
def eP (p : Pl) : PyData := .tuple [.int p.1, .int p.2]
def eL (l : List Pl) : PyData := .tuple (l.map eP)
def eR (l : List Int) : PyData := .tuple (l.map .int)
def eM (m : List (List Int)) : PyData := .tuple (m.map eR)
abbrev Cl := Int × Int × Int
def eC (c : Cl) : PyData := .tuple [.int c.1, .int c.2.1, .int c.2.2]
def eCs (cs : List Cl) : PyData := .tuple (cs.map eC)
structure Plea where
  mead : List (List Int)
  custom : List Int
  claims : List Cl
  odd : Int
def ePl (p : Plea) : PyData := .tuple [eM p.mead, eR p.custom, eCs p.claims, .int p.odd]

/-! ### the mead -/
def rowP (l u : Int) (r : Nat) (row : List Int) : List Pl := ((row.mapIdx fun c n => ((c, n) : Nat × Int)).filter fun x => decide (l ≤ x.2 ∧ x.2 ≤ u)).map fun x => ((r : Int), (x.1 : Int))
def placesOf (m : List (List Int)) (l u : Int) : List Pl := (m.mapIdx (rowP l u)).flatten
def cellsIn (m : List (List Int)) : List Pl := placesOf m 0 99
def atM (m : List (List Int)) (p : Pl) : Int := (m.getD p.1.toNat []).getD p.2.toNat 0
def worthIn (m : List (List Int)) (ps : List Pl) : Int := (ps.map (atM m)).sum
def beside (p : Pl) : List Pl := [(p.1 - 1, p.2), (p.1, p.2 - 1), (p.1, p.2 + 1), (p.1 + 1, p.2)]
/-! ### claims -/
def counted (cu : List Int) (cs : List Cl) (h : Int) : Int := ((cs.filter fun c => decide (c.1 = h)).map fun c => cu.getD c.2.1.toNat 0 * c.2.2).sum
def countedAll (cu : List Int) (cs : List Cl) : Int := (cs.map fun c => cu.getD c.2.1.toNat 0 * c.2.2).sum
def holdersIn (cs : List Cl) : List Int := [0, 1, 2, 3].filter fun h => cs.any fun c => decide (c.1 = h)
/-! ### lands -/
def pieceGo (land : List Pl) : Nat → List Pl → Nat → List Pl
  | 0, line, _ => line
  | f + 1, line, i => match line[i]? with
    | none => line
    | some q => pieceGo land f (line ++ (beside q).filter fun o => decide (o ∈ land) && !decide (o ∈ line)) (i + 1)
def pieceFrom (land : List Pl) (p : Pl) : List Pl := srt eP (pieceGo land (land.length + 1) [p] 0)
def isWhole : List Pl → Bool
  | [] => false
  | p :: r => decide ((pieceFrom (p :: r) p).length = (p :: r).length)
def liesAtRoad (m : List (List Int)) (land : List Pl) : Bool := land.any fun p => (beside p).any fun o => decide (o ∈ placesOf m (-1) (-1))
/-! ### pleas -/
def dueIn (p : Plea) (h : Int) : Int × Int := (worthIn p.mead (cellsIn p.mead) * counted p.custom p.claims h, countedAll p.custom p.claims)
def absI (n : Int) : Int := if n < 0 then -n else n
def isWorth (p : Plea) (due : Int × Int) (land : List Pl) : Bool := decide (absI (worthIn p.mead land * due.2 - due.1) ≤ p.odd * due.2)
def fitsDue (p : Plea) (due : Int × Int) (land : List Pl) : Bool := isWorth p due land && (liesAtRoad p.mead land && isWhole land)
def landsRaw (cells : List Pl) : List (List Pl) := cells.foldl (fun found c => found ++ found.map (· ++ [c])) [[]]
def landsOf (m : List (List Int)) : List (List Pl) := srt eL (landsRaw (cellsIn m))
def fitIn (p : Plea) (h : Int) : List (List Pl) := (landsOf p.mead).filter (fitsDue p (dueIn p h))
def landBy (p : Plea) (t : List Int) (h : Int) : List Pl := (((cellsIn p.mead).zip t).filter fun x => decide (x.2 = h)).map (·.1)
def isParted (p : Plea) (t : List Int) : Bool := decide (t.length = (cellsIn p.mead).length) && (t.all (fun o => decide (o ∈ holdersIn p.claims)) && (holdersIn p.claims).all fun h => fitsDue p (dueIn p h) (landBy p t h))

/-! ### what is good data -/
structure VM (m : List (List Int)) : Prop where
  rows : 1 ≤ m.length ∧ m.length ≤ 4
  wide : ∀ r ∈ m, 1 ≤ r.length ∧ r.length ≤ 6 ∧ r.length = (m.getD 0 []).length
  nums : ∀ r ∈ m, ∀ n ∈ r, -2 ≤ n ∧ n ≤ 99
  cells : 1 ≤ (cellsIn m).length ∧ (cellsIn m).length ≤ 5
def VCu (cu : List Int) : Prop := (1 ≤ cu.length ∧ cu.length ≤ 6) ∧ ∀ n ∈ cu, 1 ≤ n ∧ n ≤ 100
def VC (c : Cl) : Prop := (0 ≤ c.1 ∧ c.1 ≤ 3) ∧ (0 ≤ c.2.1 ∧ c.2.1 ≤ 5) ∧ 1 ≤ c.2.2 ∧ c.2.2 ≤ 20
def keyC (c : Cl) : Pl := (c.1, c.2.1)
def keyLt (a b : Cl) : Prop := a.1 < b.1 ∨ a.1 = b.1 ∧ a.2.1 < b.2.1
structure VCs (cs : List Cl) : Prop where
  len : 1 ≤ cs.length ∧ cs.length ≤ 12
  each : ∀ c ∈ cs, VC c
  up : cs.Pairwise keyLt
structure VPl (p : Plea) : Prop where
  mead : VM p.mead
  custom : VCu p.custom
  claims : VCs p.claims
  stand : ∀ c ∈ p.claims, c.2.1 < p.custom.length
  odd : 0 ≤ p.odd ∧ p.odd ≤ 999

theorem pw_at {α : Type} {R : α → α → Prop} : ∀ {l : List α}, l.Pairwise R → ∀ (z : α) (i j : Nat), i < j → j < l.length → R (l.getD i z) (l.getD j z)
  | [], _, _, _, _, _, h => by simp at h
  | a :: l, p, z, 0, j + 1, _, h => by
    have h' : j < l.length := by simpa using h
    simpa [List.getD, h'] using (List.pairwise_cons.mp p).1 _ (List.getElem_mem h')
  | a :: l, p, z, i + 1, j + 1, hij, h => by
    simpa using pw_at (List.pairwise_cons.mp p).2 z i j (by omega) (by simpa using h)
theorem VCs.rise {cs : List Cl} (h : VCs cs) : ∀ i, i + 1 < (cs.map keyC).length → PySem.W.dataLt (eP ((cs.map keyC).getD i default)) (eP ((cs.map keyC).getD (i + 1) default)) = true := fun i hi => by
  rw [List.length_map] at hi
  have e : ∀ j, j < cs.length → (cs.map keyC).getD j default = keyC (cs.getD j default) := fun j hj => by simp [List.getD, hj]
  rw [e i (by omega), e (i + 1) hi]
  unfold eP
  rw [PySem.W.dataLt_ii]
  exact decide_eq_true (pw_at h.up default i (i + 1) (by omega) hi)
theorem rising_eq : ∀ {l m : List Int}, l.Pairwise (· < ·) → m.Pairwise (· < ·) → (∀ j, j ∈ l ↔ j ∈ m) → l = m
  | [], [], _, _, _ => rfl
  | [], b :: m, _, _, h => by have := (h b).mpr (List.mem_cons_self ..); cases this
  | a :: l, [], _, _, h => by have := (h a).mp (List.mem_cons_self ..); cases this
  | a :: l, b :: m, p, q, h => by
    obtain ⟨p1, p2⟩ := List.pairwise_cons.mp p
    obtain ⟨q1, q2⟩ := List.pairwise_cons.mp q
    have e : a = b := by
      rcases List.mem_cons.mp ((h a).mp (List.mem_cons_self ..)) with e | e
      · exact e
      · rcases List.mem_cons.mp ((h b).mpr (List.mem_cons_self ..)) with e' | e'
        · exact e'.symm
        · have := q1 a e
          have := p1 b e'
          omega
    subst e
    rw [rising_eq p2 q2 fun j => ?_]
    constructor
    · intro hj
      rcases List.mem_cons.mp ((h j).mp (List.mem_cons_of_mem _ hj)) with e | e
      · have := p1 j hj
        omega
      · exact e
    · intro hj
      rcases List.mem_cons.mp ((h j).mpr (List.mem_cons_of_mem _ hj)) with e | e
      · have := q1 j hj
        omega
      · exact e
theorem holdersIn_pw (cs : List Cl) : (holdersIn cs).Pairwise (· < ·) := List.Pairwise.filter _ (by decide)
theorem mem_holdersIn {cs : List Cl} (h : ∀ c ∈ cs, VC c) (j : Int) : j ∈ holdersIn cs ↔ j ∈ cs.map (·.1) := by
  unfold holdersIn
  rw [List.mem_filter, List.any_eq_true, List.mem_map]
  constructor
  · rintro ⟨_, c, hc, e⟩
    exact ⟨c, hc, of_decide_eq_true e⟩
  · rintro ⟨c, hc, e⟩
    refine ⟨?_, c, hc, decide_eq_true e⟩
    have h1 := (h c hc).1
    rw [e] at h1
    have : j = 0 ∨ j = 1 ∨ j = 2 ∨ j = 3 := by omega
    rcases this with e | e | e | e <;> simp [e]
theorem VM.y1 {m : List (List Int)} (h : VM m) : m.length ≤ 10 := Nat.le_trans h.rows.2 (by decide)
theorem VM.y2 {m : List (List Int)} (h : VM m) : ∀ r ∈ m, r.length ≤ 10 := fun r hr => Nat.le_trans (h.wide r hr).2.1 (by decide)
/-! ### shapes -/
theorem sh_eP {n : Nat} (h : 1 ≤ n) (p : Pl) : Sh n (eP p) := (sh_tup (n := 0) (sh_cons (sh_int _) (sh_cons (sh_int _) sh_nil))).mono h
theorem sh_eR {n : Nat} (h : 1 ≤ n) (p : List Int) : Sh n (eR p) := (sh_tup (n := 0) (sh_map fun _ => sh_int _)).mono h
theorem sh_eL {n : Nat} (h : 2 ≤ n) (p : List Pl) : Sh n (eL p) := (sh_tup (n := 1) (sh_map fun _ => sh_eP (Nat.le_refl _) _)).mono h
theorem sh_eM {n : Nat} (h : 2 ≤ n) (p : List (List Int)) : Sh n (eM p) := (sh_tup (n := 1) (sh_map fun _ => sh_eR (Nat.le_refl _) _)).mono h
theorem sh_eC {n : Nat} (h : 1 ≤ n) (p : Cl) : Sh n (eC p) := (sh_tup (n := 0) (sh_cons (sh_int _) (sh_cons (sh_int _) (sh_cons (sh_int _) sh_nil)))).mono h
theorem sh_eCs {n : Nat} (h : 2 ≤ n) (p : List Cl) : Sh n (eCs p) := (sh_tup (n := 1) (sh_map fun _ => sh_eC (Nat.le_refl _) _)).mono h

/-! ### equality of data -/
theorem eqv_int (a b : Int) : PyData.eqv (.int a) (.int b) = decide (a = b) := by
  simp only [PyData.eqv]
  by_cases h : a = b <;> simp [h]
theorem eqvAll_map {α : Type} [DecidableEq α] {f : α → PyData} (h : ∀ a b, PyData.eqv (f a) (f b) = decide (a = b)) : ∀ l m : List α, PyData.eqvAll (l.map f) (m.map f) = decide (l = m)
  | [], [] => by simp [PyData.eqvAll]
  | [], _ :: _ => by simp [PyData.eqvAll]
  | _ :: _, [] => by simp [PyData.eqvAll]
  | a :: l, b :: m => by
    simp only [List.map_cons, PyData.eqvAll, h, eqvAll_map h l m, List.cons.injEq, Bool.decide_and]
theorem eqv_tup (l m : List PyData) : PyData.eqv (.tuple l) (.tuple m) = PyData.eqvAll l m := by simp only [PyData.eqv]
theorem eqv_lst (l m : List PyData) : PyData.eqv (.list l) (.list m) = PyData.eqvAll l m := by simp only [PyData.eqv]
theorem eqv_eP (p q : Pl) : PyData.eqv (eP p) (eP q) = decide (p = q) := by
  obtain ⟨a, b⟩ := p
  obtain ⟨c, d⟩ := q
  simp only [eP, eqv_tup, PyData.eqvAll, eqv_int, Bool.and_true, Prod.mk.injEq, Bool.decide_and]
theorem eqv_eR (p q : List Int) : PyData.eqv (eR p) (eR q) = decide (p = q) := by rw [eR, eR, eqv_tup, eqvAll_map eqv_int]
theorem eqv_eL (p q : List Pl) : PyData.eqv (eL p) (eL q) = decide (p = q) := by rw [eL, eL, eqv_tup, eqvAll_map eqv_eP]
theorem eqv_eM (p q : List (List Int)) : PyData.eqv (eM p) (eM q) = decide (p = q) := by rw [eM, eM, eqv_tup, eqvAll_map eqv_eR]
theorem eqv_eC (p q : Cl) : PyData.eqv (eC p) (eC q) = decide (p = q) := by
  obtain ⟨a, b, c⟩ := p
  obtain ⟨d, e, f⟩ := q
  simp only [eC, eqv_tup, PyData.eqvAll, eqv_int, Bool.and_true, Prod.mk.injEq, Bool.decide_and]
theorem eqv_eCs (p q : List Cl) : PyData.eqv (eCs p) (eCs q) = decide (p = q) := by rw [eCs, eCs, eqv_tup, eqvAll_map eqv_eC]
theorem any_eqv {α : Type} [DecidableEq α] {f : α → PyData} (h : ∀ a b, PyData.eqv (f a) (f b) = decide (a = b)) (l : List α) (a : α) [inst : Decidable (a ∈ l)] : ((l.map f).any fun z => PyData.eqv z (f a)) = decide (a ∈ l) := by
  rw [Bool.eq_iff_iff, decide_eq_true_eq, List.any_map, List.any_eq_true]
  simp [h]
theorem enumD_map {α : Type} (f : α → PyData) (l : List α) : enumD (l.map f) = (l.mapIdx fun i a => ((i, a) : Nat × α)).map fun x => .tuple [.int x.1, f x.2] := by
  unfold enumD
  apply List.ext_getElem?
  intro i
  simp [List.getElem?_mapIdx]
  cases l[i]? <;> rfl
theorem rowP_len (l u : Int) (r : Nat) (row : List Int) : (rowP l u r row).length ≤ row.length := by
  unfold rowP
  rw [List.length_map]
  refine Nat.le_trans (List.length_filter_le _ _) ?_
  rw [List.length_mapIdx]
  exact Nat.le_refl _
end Mead

set_option maxRecDepth 100000
set_option maxHeartbeats 4000000
namespace Mead
open PySem PySem.Spec PyProof.Rows L2
theorem fn_mkA {T : Tx} {x : Str} {st : Stmt} {N ps : List Str} {k : Nat} {R : List Ar → Ar → Prop} (D : Def T x st) (S : FnScope N ps (defScope st)) (len : ∀ rs r, R rs r → rs.length = ps.length)
    (hb : ∀ (kV doc pm : Value) (an : Option Addr) (cdv ct : Value) (us : List Value), us.length = ps.length → bindArgs (PySem.W.fnOf x x (defArgs st) (defBody st) (defScope st) .none kV doc pm an cdv ct) ⟨us, []⟩ = pure (ps.zip us))
    (body : ∀ X, DCx T N (defScope st) k X → ∀ vs H rs r (Q : VK), Reps H vs rs → R rs r → (∀ v H', Same H H' → r.res H v H' → Q v H') → jSs X (defBody st) { nx := fun _ H' => Q .non H', rt := Q } (start N vs) H) : Fn T x (k + 1) (spA R) :=
  fn_mk D S (fun vs H Q E ⟨rs, r, hv, hR, _⟩ => hv.len.trans (len rs r hR)) hb fun X c vs H Q E ⟨rs, r, hv, hR, hQ⟩ => body X c vs H rs r Q hv hR hQ
theorem flat_len {α : Type} (n : Nat) : ∀ (L : List (List α)), (∀ l ∈ L, l.length ≤ n) → L.flatten.length ≤ n * L.length
  | [], _ => by simp
  | l :: L, h => by
    have h1 := h l (List.mem_cons_self ..)
    have h2 := flat_len n L fun x hx => h x (List.mem_cons_of_mem _ hx)
    simp only [List.flatten_cons, List.length_append, List.length_cons, Nat.mul_succ]
    omega
theorem mapIdx_mem {α β : Type} {f : Nat → α → β} {l : List α} {b : β} (h : b ∈ l.mapIdx f) : ∃ i a, l[i]? = some a ∧ f i a = b := by
  obtain ⟨i, hi, e⟩ := List.mem_iff_getElem.mp h
  rw [List.length_mapIdx] at hi
  exact ⟨i, l[i], List.getElem?_eq_getElem hi, by simpa using e⟩
theorem placesOf_len {m : List (List Int)} {n : Nat} (h : ∀ r ∈ m, r.length ≤ n) (l u : Int) : (m.mapIdx (rowP l u)).flatten.length ≤ n * m.length := by
  have := flat_len n (m.mapIdx (rowP l u)) fun x hx => by
    obtain ⟨i, a, h1, rfl⟩ := mapIdx_mem hx
    exact Nat.le_trans (rowP_len l u i a) (h a (List.mem_of_getElem? h1))
  rwa [List.length_mapIdx] at this
theorem of_map_at {α β : Type} {f : α → β} {l : List α} {i : Nat} {d : β} (h : (l.map f)[i]? = some d) : ∃ a, l[i]? = some a ∧ f a = d := by
  rw [List.getElem?_map] at h
  exact Option.map_eq_some_iff.mp h
theorem paired2 {α β : Type} {R : α → β → Prop} {l : List α} {a b : β} (h : Paired R l [a, b]) : ∃ x y, l = [x, y] ∧ R x a ∧ R y b := by
  cases h with
  | cons p h => cases h with
    | cons q h => cases h; exact ⟨_, _, rfl, p, q⟩
theorem paired3 {α β : Type} {R : α → β → Prop} {l : List α} {a b c : β} (h : Paired R l [a, b, c]) : ∃ x y z, l = [x, y, z] ∧ R x a ∧ R y b ∧ R z c := by
  cases h with
  | cons p h =>
    obtain ⟨y, z, rfl, q, r⟩ := paired2 h
    exact ⟨_, y, z, rfl, p, q, r⟩
theorem paired4 {α β : Type} {R : α → β → Prop} {l : List α} {a b c d : β} (h : Paired R l [a, b, c, d]) : ∃ x y z w, l = [x, y, z, w] ∧ R x a ∧ R y b ∧ R z c ∧ R w d := by
  cases h with
  | cons p h =>
    obtain ⟨y, z, w, rfl, q, r, t⟩ := paired3 h
    exact ⟨_, y, z, w, rfl, p, q, r, t⟩
section
variable {T : Tx} {N : List Str} {sc : Scope} {k : Nat} {X : Cx} {σ σ1 σ2 : L2.St} {B H : Hp} {a b e : Expr} {es : List Expr} {pos : Pos} {x y d : PyData} {ds : List PyData} {D : Ends} {st : Stmt} {sts body : List Stmt}
theorem src_enumM (c : BCx T N sc k X) {α : Type} {f : α → PyData} {l : List α} {elts : List Expr} {kk : Nat} {tpos p : Pos} (hg : glo sc "enumerate" = true) (hm : T.mg "enumerate" = none) (h : JR X e σ B (.d (.tuple (l.map f)))) (hs : starEach [e] X.env = [(false, eval e X.env)] := by rfl) :
    SRC X (.Tuple elts kk tpos) (.Call (.Name "enumerate" p) [e] [] pos) σ B ((l.mapIdx fun i a => ((i, a) : Nat × α)).map fun x => .tuple [.int (x.1 : Nat), f x.2]) := by
  rw [← enumD_map]
  exact src_enumT c hg hm h hs
theorem src_zipM (c : BCx T N sc k X) {α β : Type} {f : α → PyData} {g : β → PyData} {l : List α} {m : List β} {elts : List Expr} {kk : Nat} {tpos p : Pos} (hg : glo sc "zip" = true) (hm : T.mg "zip" = none) (h : JA X a σ B (.l (l.map f))) (h2 : JR X b σ B (.d (.tuple (m.map g)))) (hlen : l.length = m.length)
    (hs : starEach [a, b] X.env = (false, eval a X.env) :: starEach [b] X.env := by rfl) (hs2 : starEach [b] X.env = (false, eval b X.env) :: starEach [] X.env := by rfl) (hpl : (backTo pos (starEach [b] X.env)).any (·.1) = false := by rfl) :
    SRC X (.Tuple elts kk tpos) (.Call (.Name "zip" p) [a, b] [] pos) σ B ((l.zip m).map fun x => .tuple [f x.1, g x.2]) := by
  have e : (l.zip m).map (fun x => (PyData.tuple [f x.1, g x.2])) = zipD (l.map f) (m.map g) := by
    rw [zipD, List.zipWith_map, List.zip, List.map_zipWith]
  rw [e]
  exact src_zipLT c hg hm h h2 (by simpa using hlen) hs hs2 hpl
theorem jds_nil : JRs X [] σ B (List.map Ar.d []) := jrs_nil
theorem jds_cons (h : JR X e σ B (.d d)) (hr : JRs X es σ B (List.map Ar.d ds)) (hs : starEach (e :: es) X.env = (false, eval e X.env) :: starEach es X.env := by rfl) : JRs X (e :: es) σ B (List.map Ar.d (d :: ds)) := jrs_cons h hr hs
/-- the i-th of mapped things -/
theorem atI_map {α : Type} {f : α → PyData} {l : List α} {i : Int} {z : α} (h : 0 ≤ i ∧ i < l.length) : atI (l.map f) i = some (f (l.getD i.toNat z)) := by
  unfold atI
  have hi : i.toNat < l.length := by omega
  have e : ixN (l.map f).length i = some i.toNat := by
    unfold ixN
    rw [List.length_map, if_pos h.1, if_pos h.2]
  rw [e]
  simp [List.getD, hi]
theorem ja_ixTm {α : Type} {f : α → PyData} {l : List α} {i : Int} (z : α) (ha : JR X a σ B (.d (.tuple (l.map f)))) (hb : JR X b σ B (.d (.int i))) (hi : 0 ≤ i ∧ i < l.length) (hp : PlainIx b := by exact fun _ _ => rfl) : JA X (.Subscript a b pos) σ B (.d (f (l.getD i.toNat z))) := ja_ixT ha hb (atI_map hi) hp
theorem ja_ixLm {α : Type} {f : α → PyData} {l : List α} {i : Int} (z : α) (ha : JR X a σ B (.l (l.map f))) (hb : JR X b σ B (.d (.int i))) (hi : 0 ≤ i ∧ i < l.length) (hp : PlainIx b := by exact fun _ _ => rfl) : JA X (.Subscript a b pos) σ B (.d (f (l.getD i.toNat z))) := ja_ixL ha hb (atI_map hi) hp
theorem atI_last {α : Type} {f : α → PyData} {l : List α} {z : α} (h : l ≠ []) : atI (l.map f) (-1) = some (f (l.getLastD z)) := by
  unfold atI ixN
  have hl : 0 < l.length := List.length_pos_iff.mpr h
  rw [List.length_map, if_neg (by omega), if_pos (by omega)]
  have e : ((-1 : Int) + (l.length : Int)).toNat = l.length - 1 := by omega
  rw [e]
  simp only [Option.bind_some, List.getElem?_map]
  rw [← List.getLast?_eq_getElem?, List.getLast?_eq_some_getLast h, List.getLastD_eq_getLast?, List.getLast?_eq_some_getLast h]
  rfl
theorem ja_ixTlast {α : Type} {f : α → PyData} {l : List α} {i : Int} (z : α) (ha : JR X a σ B (.d (.tuple (l.map f)))) (hb : JR X b σ B (.d (.int i))) (hi : i = -1) (hl : l ≠ []) (hp : PlainIx b := by exact fun _ _ => rfl) : JA X (.Subscript a b pos) σ B (.d (f (l.getLastD z))) := ja_ixT ha hb (by rw [hi]; exact atI_last hl) hp
theorem ja_ixLlast {α : Type} {f : α → PyData} {l : List α} {i : Int} (z : α) (ha : JR X a σ B (.l (l.map f))) (hb : JR X b σ B (.d (.int i))) (hi : i = -1) (hl : l ≠ []) (hp : PlainIx b := by exact fun _ _ => rfl) : JA X (.Subscript a b pos) σ B (.d (f (l.getLastD z))) := ja_ixL ha hb (by rw [hi]; exact atI_last hl) hp
/-- a slice, what it comes to -/
theorem ja_slE {lo hi : Option Expr} {l u : Option Int} {p2 : Pos} {es : List PyData} (ha : JR X a σ B (.d (.tuple ds))) (hl : JO X lo σ B l) (hh : JO X hi σ B u) (e : cutD ds l u = es) : JA X (.Subscript a (.Slice lo hi none p2) pos) σ B (.d (.tuple es)) := by
  subst e
  exact ja_slT ha hl hh
/-- x, y, .. = a, b, .. by a tuple -/
theorem js_tup (c : BCx T N sc k X) {tgs : List Expr} {kt k2 : Nat} {pt pt2 : Pos} {rs : List Ar} {n : Nat} (h : JNs X es σ B rs) (hB : Same B H) (hl : rs.length = n) (hz : n ≤ 1000000) (q : ∀ vs H1, Same H H1 → Paired (fun v (r : Ar) => r.res H v H1) vs rs → jGs X tgs vs σ H1 D.nx)
    (hn : (assignEach tgs X.env).length = n := by rfl) (hst : (assignEach tgs X.env).findIdx? (·.1) = none := by rfl)
    (hs : swapsWithSole [.Tuple tgs kt pt] (.Tuple es k2 pt2) pos.line X.env = pure false := by rfl) (hw : swappedStores [.Tuple tgs kt pt] (.Tuple es k2 pt2) { X.env with scope := sc } = pure none := by rfl) (h1 : (assignEach [.Tuple tgs kt pt] X.env).map (·.2) = [assign (.Tuple tgs kt pt) X.env] := by rfl) :
    jS X (.Assign [.Tuple tgs kt pt] (.Tuple es k2 pt2) pos) D σ H :=
  js_of (ps_asg (pe_tup pa_j) (pg_tup c.calm pgs_j hn hst) hs ((sw_scope c.hs).trans hw) h1) (ja_mono (h H hB) fun vs H1 ⟨s, p⟩ => ⟨by rw [paired_len p, hl]; exact small_line hz, fun a ha => ⟨a, vs, rfl, SqT.of upd_same, by rw [paired_len p, hl], q vs _ (s.trans (Same.new ha)) (paired_imp p fun v r z => Ar.res_up (Same.new ha) z)⟩⟩)
theorem rfl1 {H : Hp} : Same H H := Same.refl H
theorem ja_allM (c : BCx T N sc k X) {α : Type} {as : List α} {g : α → Bool} {p : Pos} (hg : glo sc "all" = true) (hm : T.mg "all" = none) (h : JR X e σ B (.l (as.map fun a => .bool (g a)))) (hs : starEach [e] X.env = (false, eval e X.env) :: starEach [] X.env := by rfl) : JA X (.Call (.Name "all" p) [e] [] pos) σ B (.d (.bool (as.all g))) := by
  have q := ja_all (pos := pos) (p := p) (bs := as.map g) c hg hm (by rw [List.map_map]; exact h) hs
  rw [List.all_map] at q
  exact q
theorem ja_anyM (c : BCx T N sc k X) {α : Type} {as : List α} {g : α → Bool} {p : Pos} (hg : glo sc "any" = true) (hm : T.mg "any" = none) (h : JR X e σ B (.l (as.map fun a => .bool (g a)))) (hs : starEach [e] X.env = (false, eval e X.env) :: starEach [] X.env := by rfl) : JA X (.Call (.Name "any" p) [e] [] pos) σ B (.d (.bool (as.any g))) := by
  have q := ja_any (pos := pos) (p := p) (bs := as.map g) c hg hm (by rw [List.map_map]; exact h) hs
  rw [List.any_map] at q
  exact q
theorem ja_sumM (c : BCx T N sc k X) {α : Type} {as : List α} {g : α → Int} {p : Pos} (hg : glo sc "sum" = true) (hm : T.mg "sum" = none) (h : JR X e σ B (.l (as.map fun a => .int (g a)))) (hs : starEach [e] X.env = (false, eval e X.env) :: starEach [] X.env := by rfl) : JA X (.Call (.Name "sum" p) [e] [] pos) σ B (.d (.int (as.map g).sum)) :=
  ja_sum (pos := pos) (p := p) (ns := as.map g) c hg hm (by rw [List.map_map]; exact h) hs
theorem js_ifF {t : Expr} {p q : List Stmt} {i : Bool} (h : JT X t σ B i) (hi : i = false) (hB : Same B H) (h2 : ∀ H1, Same H H1 → jSs X q D σ H1) : jS X (.If t p q pos) D σ H :=
  js_if h hB (fun z => by rw [hi] at z; cases z) fun _ => h2
theorem js_ifF0 {t : Expr} {p : List Stmt} {i : Bool} (h : JT X t σ B i) (hi : i = false) (hB : Same B H) (h2 : ∀ H1, Same H H1 → D.nx σ H1) : jS X (.If t p [] pos) D σ H :=
  js_ifF h hi hB fun H1 s => jss_nil (h2 H1 s)
theorem js_ifT {t : Expr} {p q : List Stmt} {i : Bool} (h : JT X t σ B i) (hi : i = true) (hB : Same B H) (h1 : ∀ H1, Same H H1 → jSs X p D σ H1) : jS X (.If t p q pos) D σ H :=
  js_if h hB (fun _ => h1) fun z => by rw [hi] at z; cases z
theorem rq {r r' : Ar} {H0 : Hp} {Q : VK} (hQ : ∀ v H', Same H0 H' → r.res H0 v H' → Q v H') (e : r' = r) : ∀ v H', Same H0 H' → r'.res H0 v H' → Q v H' := fun v H' s q => hQ v H' s (e ▸ q)
/-- a result later on -/
theorem rqs {r r' : Ar} {H0 : Hp} {Q : VK} (s0 : Same H0 H) (hQ : ∀ v H', Same H0 H' → r.res H0 v H' → Q v H') (e : r' = r) : ∀ v H', Same H H' → r'.res H v H' → Q v H' := fun v H' s q => hQ v H' (s0.trans s) (Ar.res_back s0 (e ▸ q))
theorem rb {b b' : Bool} (e : b' = b) : Ar.d (.bool b') = Ar.d (.bool b) := by rw [e]
theorem ri {b b' : Int} (e : b' = b) : Ar.d (.int b') = Ar.d (.int b) := by rw [e]
theorem ja_ssM (c : BCx T N sc k X) {p p2 pos2 : Pos} {α : Type} {as : List α} {g : α → Int} {ms : List Int} (hg : glo sc "sorted" = true) (hm : T.mg "sorted" = none) (hg2 : glo sc "set" = true) (hm2 : T.mg "set" = none) (h : JA X e σ B (.l (as.map fun a => .int (g a)))) (hz : as.length < 60)
    (hp : ms.Pairwise (· < ·)) (hmem : ∀ j, j ∈ ms ↔ j ∈ as.map g)
    (hs : starEach [e] X.env = (false, eval e X.env) :: starEach [] X.env := by rfl) (hs2 : starEach [.Call (.Name "set" p2) [e] [] pos2] X.env = (false, eval (.Call (.Name "set" p2) [e] [] pos2) X.env) :: starEach [] X.env := by rfl) :
    JA X (.Call (.Name "sorted" p) [.Call (.Name "set" p2) [e] [] pos2] [] pos) σ B (.l (ms.map .int)) :=
  EX.imp (ja_sortedSet (ns := as.map g) c hg hm hg2 hm2 (JA.toR (by rw [List.map_map]; exact h)) (by rw [List.length_map]; exact hz) hs hs2) fun H1 v H2 ⟨q, ns, e1, e2, e3, e4, e5⟩ => by
    have e6 := rising_eq e4 hp fun j => (e5 j).trans (hmem j).symm
    subst e6
    exact ⟨q, e1, e2, e3⟩
theorem Fl.next {p : Addr} {F : List PyData} {H' : Hp} (h : Fl p F B H) (s : Same H H') : Fl p F B H' :=
  let ⟨h1, vs, h2, h3⟩ := h
  ⟨h1, vs, s _ _ h2, h3⟩
/-- a list, newly made of what stood -/
theorem Fl.of {p : Addr} {F : List PyData} (h : Same B H) (hp : B p = none) (q : Ls H p F) : ∃ B2, Same B B2 ∧ Same B2 H ∧ Fl p F B2 H := by
  obtain ⟨vs, q1, q2⟩ := q
  refine ⟨fun a => match B a with | some o => some o | none => match H a with | some (.tup ys) => some (.tup ys) | _ => none, fun a o e => by simp only [e], fun a o e => ?_, ?_, vs, q1, q2.tk fun a xs e => ?_⟩
  · cases e1 : B a with
    | some o' =>
      simp only [e1] at e
      cases e
      exact h _ _ e1
    | none =>
      simp only [e1] at e
      cases e2 : H a with
      | none => simp [e2] at e
      | some o' =>
        cases o' <;> simp only [e2] at e <;> first | (cases e; rfl) | cases e
  · simp only [hp, q1]
  · cases e1 : B a with
    | some o' => simp only; rw [h _ _ e1] at e; cases e; rfl
    | none => simp only [e]
/-- return xs, a list that this def has filled -/
theorem js_retF {p : Addr} {F : List PyData} {Q : VK} {H0 : Hp} (h : JV X e σ B (.ref p)) (hB : Same B H) (h0 : Same H0 B) (hF : Fl p F B H) (hQ : ∀ v H', Same H0 H' → (Ar.l F).res H0 v H' → Q v H') (hD : D.rt = Q) : jS X (.Return (some e) pos) D σ H := by
  refine js_ret h hB fun v H1 s e1 => ?_
  subst e1
  rw [hD]
  obtain ⟨n, vs, h1, h2⟩ := hF
  exact hQ _ _ (h0.trans (hB.trans s)) ⟨p, rfl, h0.free n, vs, s _ _ h1, (h2.up hB).up s⟩
end
end Mead

set_option maxRecDepth 100000
set_option maxHeartbeats 4000000
/-! sorted of a tuple -/
namespace PySem.W
open PySem PySem.Spec PyProof.Rows
section
variable {prog : Program} {w : World} {A : Around} {E : Value → Shared → Prop} {s : Shared}
theorem mead_collect_tup {l : Addr} {vs : List Value} {Q : List Value → Shared → Prop} (hl : s.heap.IsTuple l vs.toArray)
    (h : Q vs { s with heap := (s.heap.push (seqObj "list" #[] 0)).update s.heap.objs.size (Obj.mapSeq (· ++ vs.toArray)) }) (hsz : vs.length ≤ sizeLine) :
    wpAny (model prog w) A (collect (.ref l)) Q E s := by
  obtain ⟨o, ho, hc, n, hd⟩ := id hl
  unfold collect
  refine wpAny_bind (wpAny_runValue (codeAny_builtin entry_proto_collect' ?_))
  show wpAny _ _ (do again (.builtin "list.__iadd__" ⟨[← newList [], .ref l], []⟩)) _ _ s
  refine wpAny_bind (wpAny_newList (wpAny_pure ⟨Code.quiet_builtin _ (by decide +kernel), codeAny_builtin entry_list_iadd' ?_⟩))
  show wpAny _ _ (Builtin.List.listExtendWith (.ref s.heap.objs.size) (.ref l) (.ref s.heap.objs.size)) _ _ { s with heap := s.heap.push (seqObj "list" #[] 0) }
  unfold Builtin.List.listExtendWith
  have ho' : (s.heap.push (seqObj "list" #[] 0)).get? l = some o := Heap.get?_push_of_some _ ho
  refine wpAny_bind (wpAny_typeOf (T := "tuple") ⟨o, ho', hc⟩ ?_)
  have ht : (Value.type "tuple" == Value.type "tuple") = true := by rfl
  rw [if_pos (by rw [ht]; simp)]
  refine wpAny_bind (listItems_at ho' hd ?_)
  refine wpAny_bind (listItems_at (xs := #[]) (n := 0) (Heap.get?_push_size _ rfl) rfl ?_)
  rw [if_neg (by simp)]
  refine wpAny_bind (listUpdate_at (xs := #[]) (n := 0) (Heap.get?_push_size _ rfl) rfl ?_ (Nat.zero_le _) (by show (#[] ++ vs.toArray).size ≤ sizeLine + 1; simp only [Array.size_append, List.size_toArray, List.length_nil]; omega))
  refine wpAny_pure ?_
  show wpAny (model prog w) A (do
      let o ← load s.heap.objs.size
      match o.data with
      | .seq xs _ => pure xs.toList
      | _ => unsupported "internal:collect") Q E { s with heap := (s.heap.push (seqObj "list" #[] 0)).update s.heap.objs.size (Obj.mapSeq (· ++ vs.toArray)) }
  refine wpAny_bind (wpAny_load (get?_update_seq (Heap.get?_push_size _ rfl) _) ?_)
  show wpAny _ _ (pure ((#[] : Array Value) ++ vs.toArray).toList) Q E _
  rw [show ((#[] : Array Value) ++ vs.toArray).toList = vs by simp]
  exact wpAny_pure h
theorem mead_sorted_ofT {l : Addr} {vs : List Value} {Q : Value → Shared → Prop} (hl : s.heap.IsTuple l vs.toArray) (hL : vs.length ≤ sizeLine)
    (body : ∀ E' : Value → Shared → Prop, wpAny (model prog w) A.in1.in1 (Builtin.«list.sort» ⟨[.ref (s.heap.objs.size + 1)], []⟩) (fun f s' => f = .done (.ret .none) ∧ Q (.ref (s.heap.objs.size + 1)) s') E' { s with heap := copyHeap s.heap vs }) :
    wpAny (model prog w) A (call (.builtin "sorted") [.ref l]) Q E s := by
  refine call_function_entry_kw kind_sorted plain_sorted entry_sorted (args_sorted1 _) ?_
  unfold Builtin.«sorted»
  refine wpAny_bind (m := checkCount "sorted" 1 1 _) (wpAny_pure ?_)
  refine wpAny_bind (mead_collect_tup hl ?_ hL)
  refine wpAny_bind (wpAny_newList ?_ hL)
  have hsz : ((s.heap.push (seqObj "list" #[] 0)).update s.heap.objs.size (Obj.mapSeq (· ++ vs.toArray))).objs.size = s.heap.objs.size + 1 := by
    rw [Heap.size_update, size_push']
  show wpAny _ _ _ _ _ { s with heap := copyHeap s.heap vs }
  rw [hsz]
  refine wpAny_bind (wpAny_holding (wpAny_call_entry_kw slot_list_sort ⟨_, copyHeap_at s.heap vs, rfl⟩ entry_list_sort ?body (args_list_sort _)))
  case body =>
    show wpAny (model prog w) A.in1.in1 (Builtin.«list.sort» ⟨[.ref (s.heap.objs.size + 1)], []⟩) _ _ _
    refine wpAny_mono (body _) (fun f s' hf => ?_) fun _ _ e => e
    obtain ⟨rfl, hq⟩ := hf
    exact ⟨_, rfl, wpAny_pure ⟨_, rfl, hq⟩⟩
theorem mead_sortedT {β : Type} {vs : List Value} {bs : List β} {enc : β → PyData} {R : Value → β → Prop} {l : Addr} {Q : Value → Shared → Prop} (hl : s.heap.IsTuple l vs.toArray)
    (e : EachIs R vs bs) (er : EachIs (fun v b => ∃ as, Reads s.heap v (enc b) as) vs bs) (hk : SortOk (bs.map enc)) (hL : bs.length ≤ sizeLine) (hu : ∀ b, b ∈ bs → A.units + 2 + (enc b).depth < cLine)
    (h : ∀ out, out.length = bs.length → EachIs R out (bs.mergeSort (dataLe false enc)) → Q (.ref (s.heap.objs.size + 1)) { s with heap := sortedAll s.heap vs (List.toArray out) }) : wpAny (model prog w) A (call (.builtin "sorted") [.ref l]) Q E s := by
  have er2 : EachIs (fun v b => ∃ as, Reads (sortingHeap (copyHeap s.heap vs) (s.heap.objs.size + 1) vs) v (enc b) as) vs bs := er.mono fun _ _ ⟨as, r⟩ => ⟨as, PyProof.Rows.Reads.keeps (fun _ _ => sorting_copy_old) r⟩
  have S := SortOk.at (prog := prog) (w := w) (A := A.in1.in1) (s := { s with heap := sortingHeap (copyHeap s.heap vs) (s.heap.objs.size + 1) vs }) hk (each_map (R := fun v d => ∃ as, Reads (sortingHeap (copyHeap s.heap vs) (s.heap.objs.size + 1) vs) v d as) enc er2) (bound_map hu)
  refine mead_sorted_ofT hl (by rw [e.length]; exact hL) fun _ => list_sort_vals (s := { s with heap := copyHeap s.heap vs }) (copyHeap_at s.heap vs) S (by rw [e.length]; exact hL) ⟨rfl, ?_⟩
  exact h _ (by rw [sortVals_length false rfl]; exact e.length) (sortVals_data false e er2 hk.1)
end
end PySem.W
namespace Mead
open PySem PySem.Spec PyProof.Rows L2
def rSortT {β : Type} (enc : β → PyData) (bs : List β) : List V → Hp → VK → Prop := fun vs H Q => ∃ (a : Addr) (xs : List V), vs = [V.ref a] ∧ H a = some (.tup xs) ∧ ImA H xs (bs.map enc) ∧ PySem.W.SortOk (bs.map enc) ∧ (∀ b, (enc b).depth ≤ 60) ∧
  ∀ ys p, H p = none → ImA H ys ((srt enc bs).map enc) → Q (.ref p) (upd H p (.lst ys))
theorem cr_sortT {X : Cx} {β : Type} {enc : β → PyData} {bs : List β} (hu : X.A.units + 64 < cLine) : CallR X (.builtin "sorted") (rSortT enc bs) := by
  intro pins s σ H vs us Q I r h
  obtain ⟨a, xs, rfl, ha, hx, ok, hd, q⟩ := h
  obtain ⟨its, rv, hl, hz⟩ := I.tuple (SqT.of (K := X.K) ha)
  obtain ⟨e1, e2⟩ := each_im I enc hx rv
  rw [Vals.ref1 r]
  have hlb : bs.length ≤ sizeLine := by
    have := hx.len
    rw [List.length_map] at this
    omega
  refine PySem.W.mead_sortedT hl e1 e2 ok hlb (fun b _ => by have := hd b; omega) fun out ho he => ?_
  obtain ⟨ys, q1, q2⟩ := im_each enc he
  obtain ⟨ep, he'⟩ := PyProof.Rows.sortedAll_at s.heap its out.toArray
  have hn := I.hok.fresh (Nat.le_succ s.heap.objs.size)
  refine ⟨.ref _, upd H (s.heap.objs.size + 1) (.lst ys), I.laid (t' := s.toks) (fun _ _ => PyProof.Rows.sortedAll_old) (Nat.le_succ _) ⟨by have z := q1.length; omega, out, ep, q1, by simpa using he'⟩, rfl, q ys _ hn q2⟩
theorem ja_snocT {X : Cx} {σ : L2.St} {B : Hp} {a b : Expr} {pos : Pos} {α : Type} {f : α → PyData} {l : List α} {z : α} (ha : JR X a σ B (.d (.tuple (l.map f)))) (hb : JR X b σ B (.d (.tuple [f z]))) (hl : l.length < 1000000) : JA X (.BinOp a .Add b pos) σ B (.d (.tuple ((l ++ [z]).map f))) := by
  rw [List.map_append]
  exact ja_catT ha hb (by rw [List.length_map]; exact hl)
theorem ja_sortedT {T : Tx} {N : List Str} {sc : Scope} {k : Nat} {X : Cx} {σ : L2.St} {B : Hp} {e : Expr} {pos : Pos} (c : BCx T N sc k X) {p : Pos} {β : Type} {enc : β → PyData} {bs : List β} (hg : glo sc "sorted" = true) (hm : T.mg "sorted" = none) (h : JR X e σ B (.d (.tuple (bs.map enc)))) (ok : PySem.W.SortOk (bs.map enc)) (hd : ∀ b, (enc b).depth ≤ 60)
    (hs : starEach [e] X.env = (false, eval e X.env) :: starEach [] X.env := by rfl) : JA X (.Call (.Name "sorted" p) [e] [] pos) σ B (.l ((srt enc bs).map enc)) :=
  j_bltn (he := hs) c (cr_sortT (enc := enc) (bs := bs) c.room.units) hg hm (by decide +kernel) (jrs_one h hs) fun H1 vs H2 s s2 hv => by
    obtain ⟨v, rfl, q⟩ := reps1 hv
    obtain ⟨a, us, rfl, h1, h2⟩ := Im.isTup q
    exact ⟨a, us, rfl, h1, h2, ok, hd, fun ys p hp hy => ⟨s2.trans (Same.new hp), p, rfl, s2.free hp, ys, upd_same, hy.up (Same.new hp)⟩⟩
end Mead

set_option maxRecDepth 100000
set_option maxHeartbeats 4000000
/-! what can be sorted -/
namespace Mead
open PySem PySem.Spec PyProof.Rows L2
def eF (x : Pl × Pl) : PyData := .tuple [eP x.1, eP x.2]
theorem sh_eF {n : Nat} (h : 2 ≤ n) (p : Pl × Pl) : Sh n (eF p) := (sh_tup (n := 1) (sh_cons (sh_eP (Nat.le_refl _) _) (sh_cons (sh_eP (Nat.le_refl _) _) sh_nil))).mono h
theorem alikeAll_map {α : Type} {f : α → PyData} (h : ∀ a b, PySem.W.alike (f a) (f b) = true) : ∀ l m : List α, PySem.W.alikeAll (l.map f) (m.map f) = true
  | [], _ => by simp [PySem.W.alikeAll]
  | _ :: _, [] => by simp [PySem.W.alikeAll]
  | a :: l, b :: m => by simp [PySem.W.alikeAll, h, alikeAll_map h l m]
theorem al_eP (a b : Pl) : PySem.W.alike (eP a) (eP b) = true := by simp [eP, PySem.W.alike, PySem.W.alikeAll]
theorem al_eC (a b : Cl) : PySem.W.alike (eC a) (eC b) = true := by simp [eC, PySem.W.alike, PySem.W.alikeAll]
theorem al_eF (a b : Pl × Pl) : PySem.W.alike (eF a) (eF b) = true := by simp [eF, PySem.W.alike, PySem.W.alikeAll, al_eP]
theorem al_int (a b : Int) : PySem.W.alike (.int a) (.int b) = true := by simp [PySem.W.alike]
theorem al_eR (a b : List Int) : PySem.W.alike (eR a) (eR b) = true := by
  unfold eR
  simp only [PySem.W.alike]
  exact alikeAll_map al_int a b
theorem al_eL (a b : List Pl) : PySem.W.alike (eL a) (eL b) = true := by
  unfold eL
  simp only [PySem.W.alike]
  exact alikeAll_map al_eP a b
theorem all_alike {α : Type} {f : α → PyData} (h : ∀ a b, PySem.W.alike (f a) (f b) = true) (l : List α) : PySem.W.AllAlike (l.map f) := fun d hd d' hd' => by
  obtain ⟨a, _, rfl⟩ := List.mem_map.mp hd
  obtain ⟨b, _, rfl⟩ := List.mem_map.mp hd'
  exact h a b
theorem sortable_of {α : Type} {f : α → PyData} {l : List α} (h : ∀ a ∈ l, ∃ x r, f a = .tuple (x :: r)) : PySem.W.Sortable (l.map f) := .inl fun d hd => by
  obtain ⟨a, ha, rfl⟩ := List.mem_map.mp hd
  exact h a ha
theorem sok_eP (l : List Pl) : PySem.W.SortOk (l.map eP) := ⟨all_alike al_eP l, .inl (sortable_of fun _ _ => ⟨_, _, rfl⟩)⟩
theorem sok_eC (l : List Cl) : PySem.W.SortOk (l.map eC) := ⟨all_alike al_eC l, .inl (sortable_of fun _ _ => ⟨_, _, rfl⟩)⟩
theorem sok_eF (l : List (Pl × Pl)) : PySem.W.SortOk (l.map eF) := ⟨all_alike al_eF l, .inl (sortable_of fun _ _ => ⟨_, _, rfl⟩)⟩
theorem sok_eR {l : List (List Int)} (h : ∀ t ∈ l, t ≠ []) : PySem.W.SortOk (l.map eR) := ⟨all_alike al_eR l, .inl (sortable_of fun a ha => by
  cases a with
  | nil => exact absurd rfl (h _ ha)
  | cons x r => exact ⟨.int x, r.map .int, rfl⟩)⟩
theorem sok_eL (l : List (List Pl)) : PySem.W.SortOk (([] :: l).map eL) := ⟨all_alike al_eL _, .inr ⟨l.map eL, rfl, fun d hd => by
  obtain ⟨a, _, rfl⟩ := List.mem_map.mp hd
  exact ⟨_, rfl⟩⟩⟩
theorem dep_eP (p : Pl) : (eP p).depth ≤ 60 := (sh_eP (n := 60) (by decide) p).2
theorem dep_eC (p : Cl) : (eC p).depth ≤ 60 := (sh_eC (n := 60) (by decide) p).2
theorem dep_eF (p : Pl × Pl) : (eF p).depth ≤ 60 := (sh_eF (n := 60) (by decide) p).2
theorem dep_eR (p : List Int) : (eR p).depth ≤ 60 := (sh_eR (n := 60) (by decide) p).2
theorem dep_eL (p : List Pl) : (eL p).depth ≤ 60 := (sh_eL (n := 60) (by decide) p).2
theorem srt_mem {β : Type} {enc : β → PyData} {l : List β} {a : β} : a ∈ srt enc l ↔ a ∈ l := (List.mergeSort_perm l _).mem_iff
theorem srt_len {β : Type} {enc : β → PyData} {l : List β} : (srt enc l).length = l.length := List.length_mergeSort l
theorem srt_perm {β : Type} {enc : β → PyData} (l : List β) : (srt enc l).Perm l := List.mergeSort_perm l _
theorem eqv_eF (p q : Pl × Pl) : PyData.eqv (eF p) (eF q) = decide (p = q) := by
  obtain ⟨a, b⟩ := p
  obtain ⟨c, d⟩ := q
  simp only [eF, eqv_tup, PyData.eqvAll, eqv_eP, Bool.and_true, Prod.mk.injEq, Bool.decide_and]
end Mead

set_option maxRecDepth 100000
set_option maxHeartbeats 4000000
/-! a piece grows -/
namespace Mead
open PySem PySem.Spec PyProof.Rows L2
theorem nodup_len {α : Type} [DecidableEq α] : ∀ {l m : List α}, l.Nodup → (∀ a ∈ l, a ∈ m) → l.length ≤ m.length
  | [], _, _, _ => Nat.zero_le _
  | a :: l, m, h, s => by
    obtain ⟨h1, h2⟩ := List.nodup_cons.mp h
    have ha := s a (List.mem_cons_self ..)
    have q := nodup_len (m := m.erase a) h2 fun b hb => (List.mem_erase_of_ne (fun e : b = a => h1 (by rw [← e]; exact hb))).mpr (s b (List.mem_cons_of_mem _ hb))
    rw [List.length_erase_of_mem ha] at q
    have : 0 < m.length := List.length_pos_of_mem ha
    simp only [List.length_cons]
    omega
theorem beside_nodup (p : Pl) : (beside p).Nodup := by
  obtain ⟨a, b⟩ := p
  simp only [beside, List.nodup_cons, List.mem_cons, List.not_mem_nil, Prod.mk.injEq, or_false, not_or, not_and, not_false_eq_true, List.nodup_nil, and_true]
  omega
def stepP (land line : List Pl) (q : Pl) : List Pl := (beside q).filter fun o => decide (o ∈ land) && !decide (o ∈ line)
theorem pieceGo_step {land line : List Pl} {f i : Nat} {q : Pl} (h : line[i]? = some q) : pieceGo land (f + 1) line i = pieceGo land f (line ++ stepP land line q) (i + 1) := by
  rw [pieceGo, h]
  rfl
theorem pieceGo_end {land line : List Pl} {f i : Nat} (h : line[i]? = none) : pieceGo land f line i = line := by
  cases f with
  | zero => rfl
  | succ f => rw [pieceGo, h]
structure PieceI (land : List Pl) (p : Pl) (line : List Pl) (i : Nat) : Prop where
  go : pieceGo land (land.length + 1 - i) line i = pieceGo land (land.length + 1) [p] 0
  nd : line.Nodup
  sub : ∀ q ∈ line, q ∈ p :: land
  le : i ≤ line.length
theorem PieceI.start (land : List Pl) (p : Pl) : PieceI land p [p] 0 := ⟨rfl, by simp, fun q hq => by simpa using Or.inl (by simpa using hq), by simp⟩
theorem PieceI.len {land line : List Pl} {p : Pl} {i : Nat} (h : PieceI land p line i) : line.length ≤ land.length + 1 := nodup_len h.nd h.sub
theorem PieceI.step {land line : List Pl} {p q : Pl} {i : Nat} (h : PieceI land p line i) (hq : line[i]? = some q) : PieceI land p (line ++ stepP land line q) (i + 1) := by
  have hi := (List.getElem?_eq_some_iff.mp hq).1
  have hl := h.len
  refine ⟨?_, ?_, fun o ho => ?_, by simp; omega⟩
  · have e : land.length + 1 - i = (land.length + 1 - (i + 1)) + 1 := by omega
    rw [← h.go, e, pieceGo_step hq]
  · refine List.nodup_append.mpr ⟨h.nd, List.Pairwise.filter _ (beside_nodup q), fun a ha b hb e => ?_⟩
    subst e
    have := (List.mem_filter.mp hb).2
    simp [ha] at this
  · rcases List.mem_append.mp ho with ho | ho
    · exact h.sub o ho
    · have := (List.mem_filter.mp ho).2
      simp only [Bool.and_eq_true, decide_eq_true_eq] at this
      exact List.mem_cons_of_mem _ this.1
theorem PieceI.fin {land line : List Pl} {p : Pl} {i : Nat} (h : PieceI land p line i) (hi : ¬ i < line.length) : pieceFrom land p = srt eP line := by
  unfold pieceFrom
  rw [← h.go, pieceGo_end (List.getElem?_eq_none (by omega))]
theorem stepP_len (land line : List Pl) (q : Pl) : (stepP land line q).length ≤ 4 := List.length_filter_le _ _
end Mead

set_option maxRecDepth 100000
set_option maxHeartbeats 4000000
/-! about cells, lands, sums -/
namespace Mead
open PySem PySem.Spec PyProof.Rows L2
theorem mem_placesOf {m : List (List Int)} {l u : Int} {p : Pl} : p ∈ placesOf m l u ↔ ∃ (i j : Nat) (row : List Int) (n : Int), m[i]? = some row ∧ row[j]? = some n ∧ (l ≤ n ∧ n ≤ u) ∧ p = ((i : Int), (j : Int)) := by
  unfold placesOf
  rw [List.mem_flatten]
  constructor
  · rintro ⟨x, hx, hp⟩
    obtain ⟨i, row, h1, rfl⟩ := mapIdx_mem hx
    obtain ⟨y, hy, rfl⟩ := List.mem_map.mp hp
    obtain ⟨hy, hc⟩ := List.mem_filter.mp hy
    obtain ⟨j, n, h2, rfl⟩ := mapIdx_mem hy
    exact ⟨i, j, row, n, h1, h2, of_decide_eq_true hc, rfl⟩
  · rintro ⟨i, j, row, n, h1, h2, h3, rfl⟩
    refine ⟨rowP l u i row, List.mem_of_getElem? (i := i) (by rw [List.getElem?_mapIdx, h1]; rfl), List.mem_map.mpr ⟨(j, n), List.mem_filter.mpr ⟨List.mem_of_getElem? (i := j) (by rw [List.getElem?_mapIdx, h2]; rfl), decide_eq_true h3⟩, rfl⟩⟩
theorem cell_ix {m : List (List Int)} {p : Pl} (h : p ∈ cellsIn m) : (0 ≤ p.1 ∧ p.1 < m.length) ∧ 0 ≤ p.2 ∧ p.2 < (m.getD p.1.toNat []).length := by
  obtain ⟨i, j, row, n, h1, h2, h3, rfl⟩ := mem_placesOf.mp h
  have z1 := (List.getElem?_eq_some_iff.mp h1).1
  have z2 := (List.getElem?_eq_some_iff.mp h2).1
  have e : m.getD i [] = row := by rw [List.getD, h1]; rfl
  simp only [Int.toNat_natCast, e]
  omega
theorem cell_val {m : List (List Int)} {p : Pl} (h : p ∈ cellsIn m) : 0 ≤ atM m p ∧ atM m p ≤ 99 := by
  obtain ⟨i, j, row, n, h1, h2, h3, rfl⟩ := mem_placesOf.mp h
  have e : m.getD i [] = row := by rw [List.getD, h1]; rfl
  have e2 : row.getD j 0 = n := by rw [List.getD, h2]; rfl
  simp only [atM, Int.toNat_natCast, e, e2]
  exact h3
theorem sum_range {α : Type} {f : α → Int} {lo hi : Int} : ∀ {l : List α}, (∀ a ∈ l, lo ≤ f a ∧ f a ≤ hi) → lo * l.length ≤ (l.map f).sum ∧ (l.map f).sum ≤ hi * l.length
  | [], _ => by simp
  | a :: l, h => by
    have h1 := h a (List.mem_cons_self ..)
    have h2 := sum_range (l := l) fun b hb => h b (List.mem_cons_of_mem _ hb)
    simp only [List.map_cons, List.sum_cons, List.length_cons]
    have e3 : ((l.length + 1 : Nat) : Int) = (l.length : Int) + 1 := by omega
    rw [e3, Int.mul_add, Int.mul_one, Int.mul_add, Int.mul_one]
    omega
theorem worth_small {m : List (List Int)} {ps : List Pl} (h : ∀ p ∈ ps, p ∈ cellsIn m) (hl : ps.length ≤ 10) : 0 ≤ worthIn m ps ∧ worthIn m ps ≤ 990 := by
  have := sum_range (f := atM m) (lo := 0) (hi := 99) fun p hp => cell_val (h p hp)
  unfold worthIn
  omega
theorem VPl.at {p : Plea} (v : VPl p) {c : Cl} (hc : c ∈ p.claims) : (0 ≤ c.2.1 ∧ c.2.1 < p.custom.length) ∧ 1 ≤ p.custom.getD c.2.1.toNat 0 ∧ p.custom.getD c.2.1.toNat 0 ≤ 100 := by
  have h1 := (v.claims.each c hc).2.1
  have h2 := v.stand c hc
  have h3 : c.2.1.toNat < p.custom.length := by omega
  have h4 := v.custom.2 _ (List.getElem_mem h3)
  rw [List.getD, List.getElem?_eq_getElem h3]
  exact ⟨⟨h1.1, h2⟩, h4⟩
theorem VPl.one {p : Plea} (v : VPl p) {c : Cl} (hc : c ∈ p.claims) : 0 ≤ p.custom.getD c.2.1.toNat 0 * c.2.2 ∧ p.custom.getD c.2.1.toNat 0 * c.2.2 ≤ 2000 := by
  have h1 := (v.at hc).2
  have h2 := (v.claims.each c hc).2.2
  refine ⟨Int.mul_nonneg (by omega) (by omega), ?_⟩
  have := Int.mul_le_mul h1.2 h2.2 (by omega) (by omega)
  omega
theorem VPl.cu {p : Plea} (v : VPl p) : (∀ c ∈ p.claims, CMul (p.custom.getD c.2.1.toNat 0) c.2.2) ∧ (∀ c ∈ p.claims, 0 ≤ c.2.1 ∧ c.2.1 < p.custom.length) :=
  ⟨fun c hc => .inr (by have := (v.claims.each c hc).2.2; omega), fun c hc => (v.at hc).1⟩
theorem VPl.counted {p : Plea} (v : VPl p) (h : Int) : 0 ≤ counted p.custom p.claims h ∧ counted p.custom p.claims h ≤ 24000 := by
  have q := sum_range (l := p.claims.filter fun c => decide (c.1 = h)) (f := fun c => p.custom.getD c.2.1.toNat 0 * c.2.2) (lo := 0) (hi := 2000) fun c hc => v.one (List.mem_filter.mp hc).1
  have q2 := List.length_filter_le (fun c : Cl => decide (c.1 = h)) p.claims
  have q3 := v.claims.len
  unfold Mead.counted
  omega
theorem VPl.all {p : Plea} (v : VPl p) : 0 ≤ countedAll p.custom p.claims ∧ countedAll p.custom p.claims ≤ 24000 := by
  have q := sum_range (l := p.claims) (f := fun c => p.custom.getD c.2.1.toNat 0 * c.2.2) (lo := 0) (hi := 2000) fun c hc => v.one hc
  have q3 := v.claims.len
  unfold countedAll
  omega
/-! ### lands -/
theorem landsRaw_snoc (cells : List Pl) (c : Pl) : landsRaw (cells ++ [c]) = landsRaw cells ++ (landsRaw cells).map (· ++ [c]) := by
  unfold landsRaw
  rw [List.foldl_append]
  rfl
theorem snoc_ind {α : Type} {P : List α → Prop} (h0 : P []) (h1 : ∀ l a, P l → P (l ++ [a])) (l : List α) : P l := by
  have : ∀ n (l : List α), l.length = n → P l := by
    intro n
    induction n with
    | zero => intro l hl; rw [List.eq_nil_of_length_eq_zero hl]; exact h0
    | succ n ih =>
      intro l hl
      have hne : l ≠ [] := fun e => by subst e; simp at hl
      rw [← List.dropLast_concat_getLast hne]
      exact h1 _ _ (ih _ (by simp [hl]))
  exact this _ l rfl
theorem landsRaw_head (cells : List Pl) : ∃ r, landsRaw cells = [] :: r := by
  induction cells using snoc_ind with
  | h0 => exact ⟨[], rfl⟩
  | h1 l a ih =>
    obtain ⟨r, e⟩ := ih
    rw [landsRaw_snoc, e]
    exact ⟨_, rfl⟩
theorem landsRaw_len (cells : List Pl) : (landsRaw cells).length = 2 ^ cells.length := by
  induction cells using snoc_ind with
  | h0 => rfl
  | h1 l a ih => rw [landsRaw_snoc, List.length_append, List.length_map, ih, List.length_append, List.length_singleton, Nat.pow_succ]; omega
theorem landsRaw_sub (cells : List Pl) : ∀ land ∈ landsRaw cells, land.Sublist cells := by
  induction cells using snoc_ind with
  | h0 => intro land h; rw [show landsRaw [] = [[]] from rfl, List.mem_singleton] at h; subst h; exact List.Sublist.refl _
  | h1 l a ih =>
    intro land h
    rw [landsRaw_snoc] at h
    rcases List.mem_append.mp h with h | h
    · exact (ih land h).trans (List.sublist_append_left l [a])
    · obtain ⟨x, hx, rfl⟩ := List.mem_map.mp h
      exact (ih x hx).append (List.Sublist.refl _)
/-- a land of this mead -/
def LandOk (m : List (List Int)) (land : List Pl) : Prop := land.Sublist (cellsIn m)
theorem LandOk.len {m : List (List Int)} {land : List Pl} (v : VM m) (h : LandOk m land) : land.length ≤ 5 := Nat.le_trans h.length_le v.cells.2
theorem LandOk.mem {m : List (List Int)} {land : List Pl} (h : LandOk m land) : ∀ p ∈ land, p ∈ cellsIn m := fun p hp => h.subset hp
theorem landsOf_ok {m : List (List Int)} {land : List Pl} (h : land ∈ landsOf m) : LandOk m land := landsRaw_sub _ land (srt_mem.mp h)
theorem zip_fst_sub {α β : Type} : ∀ (l : List α) (t : List β), ((l.zip t).map (·.1)).Sublist l
  | [], _ => by simp
  | _ :: _, [] => by simp
  | a :: l, b :: t => by
    simp only [List.zip_cons_cons, List.map_cons]
    exact (zip_fst_sub l t).cons₂ a
theorem landBy_ok (p : Plea) (t : List Int) (h : Int) : LandOk p.mead (landBy p t h) := by
  unfold LandOk landBy
  have h1 : ((((cellsIn p.mead).zip t).filter fun x => decide (x.2 = h)).map (·.1)).Sublist (((cellsIn p.mead).zip t).map (·.1)) := (List.filter_sublist).map _
  exact h1.trans (zip_fst_sub _ _)
theorem isParted_at {p : Plea} {t : List Int} (hp : isParted p t = true) : t.length = (cellsIn p.mead).length ∧ (∀ o ∈ t, o ∈ holdersIn p.claims) ∧ ∀ h ∈ holdersIn p.claims, fitsDue p (dueIn p h) (landBy p t h) = true := by
  unfold isParted at hp
  simp only [Bool.and_eq_true, decide_eq_true_eq, List.all_eq_true] at hp
  exact hp
theorem le_last {l : List Int} (h : l.Pairwise (· < ·)) {a : Int} (ha : a ∈ l) : a ≤ l.getLastD 0 := by
  induction l using snoc_ind with
  | h0 => cases ha
  | h1 l b ih =>
    rw [List.getLastD_concat]
    rcases List.mem_append.mp ha with ha | ha
    · exact Int.le_of_lt ((List.pairwise_append.mp h).2.2 a ha b (List.mem_singleton.mpr rfl))
    · rw [List.mem_singleton.mp ha]; exact Int.le_refl _
end Mead

set_option maxRecDepth 100000
set_option maxHeartbeats 4000000
/-! dicts with tuple keys: dict(d), setdefault, items -/
namespace L2
open PySem PySem.Spec PyProof.Rows
section
variable {prog : Program} {w : World} {K : Type} [DecidableEq K] {knd : HeapKind prog w K} {A : Around} {E : Value → Shared → Prop} {s : Shared}
theorem mead_dictH {o : Addr} {more : List (K × Addr × Value)} {Q : Value → Shared → Prop} (hu : knd.room A.in1.in1) (hoS : (o == sysModules) = false) (ho : s.heap.DictOfH knd o more) (hty : ∀ x ∈ more, s.TypeIs (.ref x.2.1) "tuple") (hap : (more.map fun x => knd.hash x.1).Nodup) (hsz : more.length ≤ sizeLine)
    (hst : ∀ h' : Heap, (∀ b o, s.heap.get? b = some o → h'.get? b = some o) → h'.DictOfH knd o more)
    (h : ∀ h', h'.DictOfH knd s.heap.objs.size more → (∀ b o, s.heap.get? b = some o → h'.get? b = some o) → Q (.ref s.heap.objs.size) { s with heap := h' }) :
    wpAny (model prog w) A (call (.type "dict") [.ref o]) Q E s := by
  refine callType_codes (Q₁ := fun obj s₁ => obj = .ref s.heap.objs.size ∧ s₁ = { s with heap := s.heap.push { cls := .type "dict", data := .dict #[] } }) F.kt_called_dict (F.kt_typeCall_dict_1 _) F.entry_dict_init (kt_code_dict_new _ ⟨rfl, rfl⟩) ?_
  rintro obj s₁ ⟨rfl, rfl⟩
  have hT : Shared.TypeIs { s with heap := s.heap.push { cls := .type "dict", data := .dict #[] } } (.ref s.heap.objs.size) "dict" := ⟨_, Heap.get?_push_size _ rfl, rfl⟩
  refine ⟨hT, F.args_dict_init_2 _ _, ?_⟩
  unfold Builtin.«dict.__init__»
  refine wpAny_bind ?_
  unfold Builtin.Dict.selfAndRest
  refine wpAny_bind (wpAny_notOrdered_dict hT ?_)
  show wpAny _ _ (pure (s.heap.objs.size, [Value.ref o])) _ _ _
  refine wpAny_pure ?_
  have hdo : s.heap.objs.size ≠ o := by
    obtain ⟨_, _, _, hg, _⟩ := ho
    exact fun e => absurd (Heap.lt_size hg) (by rw [e]; exact Nat.lt_irrefl _)
  refine updateFrom_dictH (A := A.in1) (knd := knd) (kvs := []) .none hu hdo hoS (Heap.DictOfH.new s.heap) (hst _ fun b o e => Heap.get?_push_of_some _ e) (.inr ⟨fun x hx => ?_, hap⟩) (by simpa using hsz) fun h' hd' _ hs' => ⟨rfl, h h' ?_ fun b o e => ?_⟩
  · obtain ⟨o', ho', hc'⟩ := hty x hx
    exact ⟨o', Heap.get?_push_of_some _ ho', hc'⟩
  · rw [storedAllH_nil_of_nodup more ho.nodup] at hd'
    exact hd'
  · exact (hs'.2 b (Nat.ne_of_lt (Heap.lt_size e))).trans (Heap.get?_push_of_some _ e)
end
/-- the hash of a key that is a tuple -/
def hashT (w : World) (k : List Key) : Int := reduceHash (Builtin.Tuple.tupleHashOf (k.map (keyH w)))
section
variable {X : Cx} {pins : List (Addr × Obj)} {σ : St} {H : Hp} {s : Shared} {a b : Addr} {kvs : List (List Key × V)} {k : List Key} {u : Value} {A : Around} {E : Value → Shared → Prop}
theorem kt_fst {H : Hp} : ∀ {kvs : List (List Key × V)} {xs : List (List Key × Addr × Value)}, KT H kvs xs → kvs.map (·.1) = xs.map (·.1)
  | _, _, .nil => rfl
  | _, _, .cons h t => by rw [List.map_cons, List.map_cons, h.1, kt_fst t]
theorem kt_at {H : Hp} : ∀ {kvs : List (List Key × V)} {xs : List (List Key × Addr × Value)}, KT H kvs xs → ∀ x ∈ xs, ∃ q ∈ kvs, q.1 = x.1 ∧ H x.2.1 = some (.tup (x.1.map kV))
  | _, _, .cons (a := p) h t, x, hx => by
    rcases List.mem_cons.mp hx with e | hx
    · subst e
      exact ⟨p, List.mem_cons_self .., h.1, by rw [← h.1]; exact h.2.1⟩
    · obtain ⟨q, h1, h2⟩ := kt_at t x hx
      exact ⟨q, List.mem_cons_of_mem _ h1, h2⟩
/-- dict(d), the keys tuples -/
theorem d_copyT {Q : Value → Shared → Prop} (hu : A.units + 2 < cLine) (I : Inv X pins σ H s) (e : Rd H a (.dT kvs)) (hap : (kvs.map fun x => hashT X.w x.1).Nodup) (h : ∀ p s', H p = none → Inv X pins σ (upd H p (.dT kvs)) s' → Q (.ref p) s') : wpAny (model X.prog X.w) A (call (.type "dict") [.ref a]) Q E s := by
  obtain ⟨z, hd, xs, rel, dd⟩ := dt_rd I.hok e
  have hl : kvs.length = xs.length := Paired.length rel
  have hap' : (xs.map fun x => (tupleKind (mixKind X.prog X.w)).hash x.1).Nodup := by
    have e1 : (xs.map fun x => (tupleKind (mixKind X.prog X.w)).hash x.1) = (xs.map (·.1)).map (hashT X.w) := by rw [List.map_map]; rfl
    have e2 : (kvs.map fun x => hashT X.w x.1) = (kvs.map (·.1)).map (hashT X.w) := by rw [List.map_map]; rfl
    rw [e1, ← kt_fst rel, ← e2]
    exact hap
  refine mead_dictH (knd := tupleKind (mixKind X.prog X.w)) (tupleKind_room_in1 (A := A.in1) hu) hd dd (fun x hx => ?_) hap' (by rw [← hl]; exact z) (fun h' hk => ?_) fun h' dd' hk => ?_
  · obtain ⟨q, _, _, e2⟩ := kt_at rel x hx
    obtain ⟨_, its, _, o, h1, h2, _⟩ := (show ObjOk X.prog X.w H s.heap x.2.1 (.tup (x.1.map kV)) from I.hok _ _ e2)
    exact ⟨o, h1, h2⟩
  · obtain ⟨o, es, ep, h1, h2, h3, h4, h5, h6⟩ := dd
    refine ⟨o, es, ep, hk _ _ h1, h2, h3, h4, fun x hx => ?_, h6⟩
    obtain ⟨o', its, n, g1, g2, g3, g4⟩ := h5 x hx
    exact ⟨o', its, n, hk _ _ g1, g2, g3, g4⟩
  · have hn := I.hok.fresh (Nat.le_refl s.heap.objs.size)
    refine h _ _ hn (I.laid (a := s.heap.objs.size) (o := .dT kvs) (t' := s.toks) hk (Nat.le_refl _) ?_)
    obtain ⟨o, es, ep, h1, h2, h3, h4, h5, h6⟩ := dd'
    exact ⟨z, beq_eq_false_iff_ne.mpr (Ne.symm (Nat.ne_of_lt I.big)), xs, rel.keeps fun c ys ec => by rw [upd_ne (ne_of_none ec hn)]; exact ec, o, es, ep, h1, h2, h3, h4, h6⟩
/-- d.setdefault(k, x), the key a tuple -/
theorem d_setdT {d : V} {x : Value} {Q : Value → Shared → Prop} (hu : A.units + 1 < cLine) (I : Inv X pins σ H s) (e : H a = some (.dT kvs)) (eb : H b = some (.tup (k.map kV))) (hl : kvs.length < sizeLine) (rd : RelV d x)
    (h1 : ∀ v, valV kvs k = some v → ∀ w' s', Inv X pins σ H s' → RelV v w' → Q w' s') (h2 : valV kvs k = none → ∀ s', Inv X pins σ (upd H a (.dT (putK kvs k d))) s' → Q x s') :
    wpAny (model X.prog X.w) A (call (.builtin "dict.setdefault") [.ref a, .ref b, x]) Q E s := by
  obtain ⟨z, hd, xs, rel, dd⟩ := dt_of I.hok e
  have hz : xs.length ≤ sizeLine := by rw [← Paired.length rel]; exact z
  refine call_setdefault_heap (hsz := hz) (tupleKind_room_in1 hu) (key_of I.hok eb) hd dd (fun p hp => ?_) fun hn h' dd' hs => ?_
  · have q := rel.val k
    rw [hp] at q
    cases q0 : valV kvs k with
    | none => rw [q0] at q; exact (show False from q).elim
    | some v0 => rw [q0] at q; exact h1 v0 q0 _ _ (I.tok _) q
  · have q := rel.val k
    rw [hn] at q
    cases q0 : valV kvs k with
    | some v0 => rw [q0] at q; exact (show False from q).elim
    | none =>
      have hl2 : (putK kvs k d).length ≤ sizeLine := by have := length_putK kvs k d; omega
      obtain ⟨q, es, ep, hq, g2, g3, g4, _, g5⟩ := dd'
      refine h2 q0 _ (d_write I (by rw [e]; exact True.intro) hs ⟨q, hq⟩ ⟨hl2, hd, _, (rel.put k eb rd).keeps fun c ys ec => ?_, q, es, ep, hq, g2, g3, g4, g5⟩)
      rw [upd_ne (ne_of ec e (fun z => nomatch z))]
      exact ec
end
end L2

set_option maxRecDepth 100000
set_option maxHeartbeats 4000000
/-! zip, its tuples kept; dict(zip(..)), list(zip(..)) -/
namespace PySem
open PySem.Spec PyProof.Rows
section
variable {prog : Program} {w : World} {A : Around} {E : Value → Shared → Prop} {s : Shared} {z TI TO i1 i2 : Addr} {fp1 fp2 : List Addr} {n1 n2 i : Nat} {P1 P2 : Nat → Value → Prop} {St1 St2 : Nat → Heap → Prop} {a1 a2 : Value}
/-- the next of a zip whose tuple is still out -/
theorem mead_zip_held {T : Addr} {f : Bool} {oT : Obj} {Q : Value → Shared → Prop} (S : ZipSep2 z TI TO i1 i2 fp1 fp2) (D1 : Draws prog w A i1 fp1 n1 P1 St1) (D2 : Draws prog w A i2 fp2 n2 P2 St2)
    (hz : IsZipHeld s.heap z TI TO T f) (hT : s.heap.get? T = some oT) (hTI : IsTupOf2 s.heap TI (.ref i1) (.ref i2)) (st1 : St1 i s.heap) (st2 : St2 i s.heap) (lt1 : i < n1) (lt2 : i < n2)
    (hQ : ∀ x y h' tk, P1 i x → P2 i y → IsZipHeld h' z TI TO T true → St1 (i + 1) h' → St2 (i + 1) h' → IsTupOf2 h' s.heap.objs.size x y → h'.objs.size = s.heap.objs.size + 1 →
      (∀ c o, c ≠ z → c ≠ i1 → c ≠ i2 → s.heap.get? c = some o → h'.get? c = some o) → Q (.ref s.heap.objs.size) { s with heap := h', toks := tk }) :
    wpAny (model prog w) A (Builtin.«zip.__next__» ⟨[.ref z], []⟩) (fun fin s' => ∃ v, fin = .done (.ret v) ∧ Q v s') E s := by
  obtain ⟨hp, g, d, tk0, os⟩ := s
  show wpAny _ _ (field (.ref z) 2 >>= _) _ _ _; refine wpAny_bind (wpAny_field hz rfl (x := .bool false) rfl ?_)
  show wpAny _ _ (field (.ref z) 3 >>= _) _ _ _; refine wpAny_bind (wpAny_field hz rfl (x := .ref TI) rfl (wpAny_bind (wpAny_seqItems hTI rfl ?_)))
  show wpAny _ _ (Builtin.SmallTypes.ownedTupleIsFree (.ref z) >>= _) _ _ _; refine wpAny_bind (wpAny_tupleHeld_zip hz hT fun g0 hz0 hs0 => ?_)
  replace hs0 : Heap.SameBut z hp g0 := hs0
  simp only [Bool.false_eq_true, if_false]; refine wpAny_bind ?_
  rw [← Array.forIn_toList]; simp only [List.forIn_cons, List.forIn_nil]
  refine wpAny_bind (wpAny_bind (wpAny_holding ?_)); show wpAny _ _ (Builtin.SmallTypes.nextOf (.ref i1) >>= _) _ _ ⟨g0, g, d, tk0, os⟩
  refine wpAny_bind (D1.item i _ _ _ lt1 (D1.over st1 hs0 S.zf1) fun x p1 tk1 hx sn1 hp1 => wpAny_pure (wpAny_pure ?_))
  replace hp1 : Heap.SameBut i1 g0 p1 := hp1
  refine wpAny_bind (wpAny_bind (wpAny_holding ?_)); show wpAny _ _ (Builtin.SmallTypes.nextOf (.ref i2) >>= _) _ _ ⟨p1, g, d, tk1, os⟩
  refine wpAny_bind (D2.item i _ _ _ lt2 (D2.over (D2.over st2 hs0 S.zf2) hp1 S.sep1_2) fun y p2 tk2 hy sn2 hp2 => wpAny_pure (wpAny_pure (wpAny_pure ?_)))
  replace hp2 : Heap.SameBut i2 p1 p2 := hp2
  show wpAny _ _ (newTuple [x, y] >>= _) _ _ _
  have e1 : p2.objs.size = hp.objs.size := by rw [hp2.1, hp1.1, hs0.1]
  have old : ∀ c o, c ≠ z → c ≠ i1 → c ≠ i2 → hp.get? c = some o → p2.get? c = some o := fun c o c1 c2 c3 e => hp2.extBut _ _ c3 (hp1.extBut _ _ c2 (hs0.extBut _ _ c1 e))
  have zz : IsZipHeld p2 z TI TO T true := hp2.extBut _ _ S.zi2 (hp1.extBut _ _ S.zi1 hz0)
  have u1 : St1 (i + 1) p2 := D1.over sn1 hp2 S.sep2_1
  refine wpAny_bind (wpAny_newTuple (wpAny_pure ⟨_, rfl, ?_⟩))
  show Q (.ref p2.objs.size) _
  have tt : IsTupOf2 (p2.push { cls := .type "tuple", data := .seq #[x, y] }) p2.objs.size x y := Heap.get?_push_size _ rfl
  have e2 : (p2.push { cls := .type "tuple", data := .seq #[x, y] }).objs.size = p2.objs.size + 1 := Heap.size_push ..
  rw [e1] at tt e2 ⊢
  exact hQ x y _ tk2 hx hy (Heap.get?_push_of_some _ zz) (D1.frame _ _ _ u1 fun b _ o e => Heap.get?_push_of_some _ e) (D2.frame _ _ _ sn2 fun b _ o e => Heap.get?_push_of_some _ e) tt e2 fun c o c1 c2 c3 e => Heap.get?_push_of_some _ (old c o c1 c2 c3 e)
/-- .. both at their end at once -/
theorem mead_zip_held_end {T : Addr} {f : Bool} {oT : Obj} {Q : PySem.Fin → Shared → Prop} (S : ZipSep2 z TI TO i1 i2 fp1 fp2) (D1 : Draws prog w A i1 fp1 n1 P1 St1)
    (hz : IsZipHeld s.heap z TI TO T f) (hT : s.heap.get? T = some oT) (hTI : IsTupOf2 s.heap TI (.ref i1) (.ref i2)) (st1 : St1 n1 s.heap)
    (hE : ∀ h' tk e, (∀ c o, c ≠ z → c ≠ i1 → s.heap.get? c = some o → h'.get? c = some o) → (∃ o, h'.get? e = some o ∧ o.cls = .type "StopIteration") → E (.ref e) { s with heap := h', toks := tk }) :
    wpAny (model prog w) A (Builtin.«zip.__next__» ⟨[.ref z], []⟩) Q E s := by
  obtain ⟨hp, g, d, tk0, os⟩ := s
  show wpAny _ _ (field (.ref z) 2 >>= _) _ _ _; refine wpAny_bind (wpAny_field hz rfl (x := .bool false) rfl ?_)
  show wpAny _ _ (field (.ref z) 3 >>= _) _ _ _; refine wpAny_bind (wpAny_field hz rfl (x := .ref TI) rfl (wpAny_bind (wpAny_seqItems hTI rfl ?_)))
  show wpAny _ _ (Builtin.SmallTypes.ownedTupleIsFree (.ref z) >>= _) _ _ _; refine wpAny_bind (wpAny_tupleHeld_zip hz hT fun g0 hz0 hs0 => ?_)
  replace hs0 : Heap.SameBut z hp g0 := hs0
  simp only [Bool.false_eq_true, if_false]; refine wpAny_bind ?_
  rw [← Array.forIn_toList]; simp only [List.forIn_cons, List.forIn_nil]
  refine wpAny_bind (wpAny_bind (wpAny_holding ?_)); show wpAny _ _ (Builtin.SmallTypes.nextOf (.ref i1) >>= _) _ _ ⟨g0, g, d, tk0, os⟩
  refine wpAny_bind (D1.done _ _ _ (D1.over st1 hs0 S.zf1) fun h' e hk he => ?_)
  exact hE h' _ e (fun c o c1 c2 x => hk _ _ c2 (hs0.extBut _ _ c1 x)) he
/-- the state of a zip that has given i pairs -/
def ZipAt (z TI TO i1 i2 d : Addr) (St1 St2 : Nat → Heap → Prop) (i : Nat) (h : Heap) : Prop :=
  IsTupOf2 h TI (.ref i1) (.ref i2) ∧ St1 i h ∧ St2 i h ∧ ((IsZip h z TI TO .none ∧ ∃ a b, IsTupOf2 h TO a b) ∨ ∃ T f oT, IsZipHeld h z TI TO T f ∧ h.get? T = some oT ∧ T ∉ [z, TO, i1, i2, d])
theorem mead_zip_item {d : Addr} (hd : d < s.heap.objs.size) {Q : Option Value → Shared → Prop} (S : ZipSep2 z TI TO i1 i2 fp1 fp2) (D1 : Draws prog w A.in1 i1 fp1 n1 P1 St1) (D2 : Draws prog w A.in1 i2 fp2 n2 P2 St2) (hi : i < n1) (hi2 : i < n2) (st : ZipAt z TI TO i1 i2 d St1 St2 i s.heap)
    (hQ : ∀ x y h' tk, P1 i x → P2 i y → ZipAt z TI TO i1 i2 d St1 St2 (i + 1) h' → (∃ o, h'.get? s.heap.objs.size = some o ∧ o = { cls := .type "tuple", data := .seq #[x, y] }) → (∀ c o, c ∉ [z, TO, i1, i2] → s.heap.get? c = some o → h'.get? c = some o) → s.heap.objs.size < h'.objs.size → Q (some (.ref s.heap.objs.size)) { s with heap := h', toks := tk }) :
    wpAny (model prog w) A (pyNext (.ref z)) Q E s := by
  obtain ⟨hTI, st1, st2, hz⟩ := st
  have lt : ∀ {c o}, s.heap.get? c = some o → s.heap.objs.size ≠ c := fun e => Nat.ne_of_gt (Heap.lt_size e)
  have m1 := let ⟨_, e⟩ := D1.live _ _ st1; lt e
  have m2 := let ⟨_, e⟩ := D2.live _ _ st2; lt e
  rcases hz with ⟨hz, a, b, hTO⟩ | ⟨T, f, oT, hz, hT, hn⟩
  · have hTy : s.TypeIs (.ref z) "zip" := ⟨_, hz, rfl⟩
    unfold pyNext
    refine wpAny_bind (wpAny_attempt (wpAny_callSpecial?_slot (name := Str.ofString "__next__") hTy F.slot_zip_next (wpAny_call_entry F.slot_zip_next hTy F.entry_zip_next
      (zipD2_next_item S D1 D2 hz hTI hTO st1 st2 hi hi2 fun x y h' tk hx hy z' t' s1 s2 tt sz k => wpAny_pure (hQ x y h' tk hx hy ⟨k _ _ S.TIz S.TITO S.TIi1 S.TIi2 hTI, s1, s2, .inr ⟨_, false, _, z', tt, by simp only [List.mem_cons, List.not_mem_nil, or_false, not_or]; exact ⟨lt hz, lt hTO, m1, m2, Nat.ne_of_gt hd⟩⟩⟩ ⟨_, tt, rfl⟩ (fun c o hc => k c o (fun e => hc (by simp [e])) (fun e => hc (by simp [e])) (fun e => hc (by simp [e])) (fun e => hc (by simp [e]))) (by rw [sz]; exact Nat.lt_succ_self _))) (F.args_zip_next_1 _))))
  · have hTy : s.TypeIs (.ref z) "zip" := ⟨_, hz, rfl⟩
    simp only [List.mem_cons, List.not_mem_nil, or_false, not_or] at hn
    unfold pyNext
    refine wpAny_bind (wpAny_attempt (wpAny_callSpecial?_slot (name := Str.ofString "__next__") hTy F.slot_zip_next (wpAny_call_entry F.slot_zip_next hTy F.entry_zip_next
      (mead_zip_held S D1 D2 hz hT hTI st1 st2 hi hi2 fun x y h' tk hx hy z' s1 s2 tt sz k => wpAny_pure (hQ x y h' tk hx hy ⟨k _ _ S.TIz S.TIi1 S.TIi2 hTI, s1, s2, .inr ⟨T, true, oT, z', k _ _ hn.1 hn.2.2.1 hn.2.2.2.1 hT, by simp only [List.mem_cons, List.not_mem_nil, or_false, not_or]; exact hn⟩⟩ ⟨_, tt, rfl⟩ (fun c o hc => k c o (fun e => hc (by simp [e])) (fun e => hc (by simp [e])) (fun e => hc (by simp [e]))) (by rw [sz]; exact Nat.lt_succ_self _))) (F.args_zip_next_1 _))))
theorem mead_zip_end {d : Addr} {Q : Option Value → Shared → Prop} (S : ZipSep2 z TI TO i1 i2 fp1 fp2) (D1 : Draws prog w A.in1 i1 fp1 n1 P1 St1) (D2 : Draws prog w A.in1 i2 fp2 n1 P2 St2) (st : ZipAt z TI TO i1 i2 d St1 St2 n1 s.heap)
    (hQ : ∀ h' tk, (∀ c o, c ∉ [z, TO, i1, i2] → s.heap.get? c = some o → h'.get? c = some o) → Q none { s with heap := h', toks := tk }) : wpAny (model prog w) A (pyNext (.ref z)) Q E s := by
  obtain ⟨hTI, st1, st2, hz⟩ := st
  have fin : ∀ h' tk e, (∃ o, h'.get? e = some o ∧ o.cls = .type "StopIteration") → (∀ c o, c ∉ [z, TO, i1, i2] → s.heap.get? c = some o → h'.get? c = some o) →
      wpAny (model prog w) A (do let b ← isInstance (.ref e) (.type "StopIteration"); if b = true then pure none else throw (.ref e)) Q E { s with heap := h', toks := tk } := fun h' tk e he hk => by
    obtain ⟨o, ho, hc⟩ := he
    refine wpAny_bind (wpAny_isInstance (T := "StopIteration") (b := true) ⟨o, ho, hc⟩ isSubtype_stop ?_)
    exact wpAny_pure (hQ h' tk hk)
  rcases hz with ⟨hz, a, b, hTO⟩ | ⟨T, f, oT, hz, hT, hn⟩
  · have hTy : s.TypeIs (.ref z) "zip" := ⟨_, hz, rfl⟩
    unfold pyNext
    exact wpAny_bind (wpAny_attempt (wpAny_callSpecial?_slot (name := Str.ofString "__next__") hTy F.slot_zip_next (wpAny_call_entry F.slot_zip_next hTy F.entry_zip_next
      (zipD2_next_end S D1 D2 hz hTI hTO st1 st2 (Nat.le_refl _) (Nat.le_refl _) (.inl rfl) fun h' tk e k he => fin h' tk e he fun c o hc => k c o (fun e => hc (by simp [e])) (fun e => hc (by simp [e])) (fun e => hc (by simp [e])) (fun e => hc (by simp [e]))) (F.args_zip_next_1 _))))
  · have hTy : s.TypeIs (.ref z) "zip" := ⟨_, hz, rfl⟩
    unfold pyNext
    exact wpAny_bind (wpAny_attempt (wpAny_callSpecial?_slot (name := Str.ofString "__next__") hTy F.slot_zip_next (wpAny_call_entry F.slot_zip_next hTy F.entry_zip_next
      (mead_zip_held_end S D1 hz hT hTI st1 fun h' tk e k he => fin h' tk e he fun c o hc => k c o (fun e => hc (by simp [e])) (fun e => hc (by simp [e]))) (F.args_zip_next_1 _))))
end
end PySem

set_option maxRecDepth 100000
set_option maxHeartbeats 4000000
namespace PySem
open PySem.Spec PyProof.Rows
section
variable {prog : Program} {w : World}
/-- zip(list, tuple) as the argument of dict -/
theorem mead_pairArg (z TI TO i1 i2 a b : Addr) (D : Mead.ZApart z TI TO i1 i2 a b) (hab : a ≠ TI ∧ b ≠ TI) (xs ys : Array Value) (hl : xs.size = ys.size) :
    PairArg prog w "zip" z [z, TI, TO, i1, i2, a, b] [z, TO, i1, i2] xs.size (fun i k v => xs[i]? = some k ∧ ys[i]? = some v)
      (fun h => IsZip h z TI TO .none ∧ IsTupOf2 h TI (.ref i1) (.ref i2) ∧ (∃ x y, IsTupOf2 h TO x y) ∧ (h.IsListIter i1 a 0 ∧ h.IsList a xs) ∧ h.IsTupleIter i2 b 0 ∧ h.IsTuple b ys) where
  type := fun s ok => ⟨_, ok.1, rfl⟩
  notDict := by decide
  keep := fun h h' ok hk => by
    obtain ⟨hz, hTI, ⟨x, y, hTO⟩, ⟨h1, l1⟩, h2, l2⟩ := ok
    exact ⟨hk _ _ hz, hk _ _ hTI, ⟨x, y, hk _ _ hTO⟩, ⟨h1.at fun o e => hk _ o e, l1.at fun o e => hk _ o e⟩, h2.at fun o e => hk _ o e, l2.at fun o e => hk _ o e⟩
  there := fun h ok c hc => by
    obtain ⟨hz, hTI, ⟨x, y, hTO⟩, ⟨⟨o1, h1, _⟩, ⟨o3, l1, _⟩⟩, ⟨o2, h2, _⟩, ⟨o4, l2, _⟩⟩ := ok
    have e' : c = z ∨ c = TI ∨ c = TO ∨ c = i1 ∨ c = i2 ∨ c = a ∨ c = b := by simpa using hc
    rcases e' with q | q | q | q | q | q | q <;> rw [q]
    · exact ⟨_, hz⟩
    · exact ⟨_, hTI⟩
    · exact ⟨_, hTO⟩
    · exact ⟨_, h1⟩
    · exact ⟨_, h2⟩
    · exact ⟨_, l1⟩
    · exact ⟨_, l2⟩
  sub := fun c hc => by
    have e' : c = z ∨ c = TO ∨ c = i1 ∨ c = i2 := by simpa using hc
    rcases e' with q | q | q | q <;> simp [q]
  noKeys := fun A s Q E hA ok h => getAttrOr_miss_zip ok.1 rfl rfl rfl zip_no_keys (by decide +kernel) hA h
  iter := fun A s d Q E hA ok hd hdf h => by
    obtain ⟨hz, hTI, hTO, h1, h2⟩ := ok
    have dn : d ≠ z ∧ d ≠ TI ∧ d ≠ TO ∧ d ≠ i1 ∧ d ≠ i2 ∧ d ≠ a ∧ d ≠ b := by simpa [not_or] using hdf
    have S := D.sep
    have D1 := Draws.list (prog := prog) (w := w) (A := A.in1) hA i1 a D.n1 xs
    have D2 := Draws.tuple (prog := prog) (w := w) (A := A.in1) hA i2 b D.n2 ys
    rw [← hl] at D2
    refine wpAny_pyIter_zip hz (h z [z, TO, i1, i2] (fun i h => ZipAt z TI TO i1 i2 d (fun i h => h.IsListIter i1 a i ∧ h.IsList a xs) (fun i h => h.IsTupleIter i2 b i ∧ h.IsTuple b ys) i h) s.heap s.toks ?_
      ⟨hTI, h1, h2, .inl ⟨hz, hTO⟩⟩ (fun _ _ e => e) fun c hc => .inl hc)
    exact {
        off := fun hm => by
          have e' : d = z ∨ d = TO ∨ d = i1 ∨ d = i2 := by simpa using hm
          rcases e' with q | q | q | q
          · exact dn.1 q
          · exact dn.2.2.1 q
          · exact dn.2.2.2.1 q
          · exact dn.2.2.2.2.1 q
        frame := fun i g g' st hk => by
          obtain ⟨t, ⟨s1, l1⟩, ⟨s2, l2⟩, zz⟩ := st
          have k : ∀ c o, c ≠ d → g.get? c = some o → g'.get? c = some o := fun c o hc e => hk c o hc e
          refine ⟨k _ _ dn.2.1.symm t, ⟨s1.at fun o e => k _ o dn.2.2.2.1.symm e, l1.at fun o e => k _ o dn.2.2.2.2.2.1.symm e⟩, ⟨s2.at fun o e => k _ o dn.2.2.2.2.1.symm e, l2.at fun o e => k _ o dn.2.2.2.2.2.2.symm e⟩, ?_⟩
          rcases zz with ⟨zz, x, y, tt⟩ | ⟨T, f, oT, zz, tt, nn⟩
          · exact .inl ⟨k _ _ dn.1.symm zz, x, y, k _ _ dn.2.2.1.symm tt⟩
          · refine .inr ⟨T, f, oT, k _ _ dn.1.symm zz, k _ _ ?_ tt, nn⟩
            simp only [List.mem_cons, List.not_mem_nil, or_false, not_or] at nn
            exact nn.2.2.2.2
        item := fun i s₁ Q₁ E₁ hi st hds hQ => by
          refine mead_zip_item hds S D1 D2 hi hi st fun x y h' tk hx hy st' tt hk hlt => ?_
          obtain ⟨o, ho, rfl⟩ := tt
          exact hQ _ x y h' tk ⟨hx, hy⟩ (.inl ⟨_, ho, rfl, _, rfl⟩) st' hk
        done := fun s₁ Q₁ E₁ st hQ => mead_zip_end S D1 D2 st fun h' tk hk => hQ h' tk hk }
end
end PySem

set_option maxRecDepth 100000
set_option maxHeartbeats 4000000
namespace Mead
open PySem PySem.Spec PyProof.Rows L2
/-- a place as a key -/
def kP (p : Pl) : List Key := [.inl p.1, .inl p.2]
def eKV (x : Pl × Int) : List Key × V := (kP x.1, .int x.2)
theorem kP_inj {p q : Pl} (h : kP p = kP q) : p = q := by
  obtain ⟨a, b⟩ := p
  obtain ⟨c, d⟩ := q
  simp [kP] at h
  rw [h.1, h.2]
theorem im_kP {H : Hp} {v : V} {p : Pl} (h : Im H v (eP p)) : ∃ b, v = .ref b ∧ H b = some (.tup ((kP p).map kV)) := by
  obtain ⟨b, v1, v2, e, hb, h1, h2⟩ := im2 h
  rw [Im.isInt h1, Im.isInt h2] at hb
  exact ⟨b, e, hb⟩
theorem mk_ps {H : Hp} : ∀ {cells : List Pl} {nums : List Int} {xs : List V} {us ws : List Value}, ImA H xs (cells.map eP) → Vals xs us → Vals (nums.map V.int) ws → cells.length = nums.length →
    ∃ ps : List (List Key × Addr × Value), KT H ((cells.zip nums).map eKV) ps ∧ ps.length = cells.length ∧ ∀ (i : Nat) (k v : Value), us[i]? = some k → ws[i]? = some v → ∃ (q : List Key) (b : Addr), ps[i]? = some (q, b, v) ∧ k = Value.ref b
  | [], [], _, _, _, h, r, _, _ => by
    cases h
    cases r
    exact ⟨[], .nil, rfl, fun i k v e => by simp at e⟩
  | [], _ :: _, _, _, _, _, _, _, e => by simp at e
  | _ :: _, [], _, _, _, _, _, _, e => by simp at e
  | c :: cells, n :: nums, _, _, _, h, r, t, e => by
    have h' : ImA H _ (eP c :: cells.map eP) := h
    have t' : Vals (V.int n :: nums.map V.int) _ := t
    cases h' with
    | cons h1 h2 => cases r with
      | cons r1 r2 => cases t' with
        | cons t1 t2 =>
          obtain ⟨ps, q1, q2, q3⟩ := mk_ps h2 r2 t2 (by simpa using e)
          obtain ⟨b, rfl, hb⟩ := im_kP h1
          cases r1
          refine ⟨(kP c, b, _) :: ps, .cons ⟨rfl, hb, t1⟩ q1, by simp [q2], fun i k v e1 e2 => ?_⟩
          cases i with
          | zero =>
            simp at e1 e2
            subst e1; subst e2
            exact ⟨_, b, rfl, rfl⟩
          | succ i => simpa using q3 i k v (by simpa using e1) (by simpa using e2)
/-- dict(zip(cells, numbers)) -/
def tDictZip (ta : TA) : TE := fun σ H Q => ta σ H fun vs H1 => ∃ (a b : Addr) (xs ys : List V) (cells : List Pl) (nums : List Int), vs = [.ref a, .ref b] ∧ H1 a = some (.lst xs) ∧ ImA H1 xs (cells.map eP) ∧ H1 b = some (.tup ys) ∧ ImA H1 ys (nums.map .int) ∧ cells.Nodup ∧ cells.length = nums.length ∧ cells.length ≤ 1000 ∧
  ∀ p, H1 p = none → Q (.ref p) (upd H1 p (.dT ((cells.zip nums).map eKV)))
theorem pe_dictzip {X : Cx} {e e2 : Expr} {ta : TA} {p p2 pos pos2 : Pos} (hc : X.calm = true) (hu : X.A.units + 2 < cLine) (hg1 : Gl X "dict") (hm1 : X.mg "dict" = none) (hg : Gl X "zip") (hm : X.mg "zip" = none) (ha : PA X [e, e2] ta)
    (hs : starEach [e, e2] X.env = (false, eval e X.env) :: starEach [e2] X.env := by rfl) (hpl : (backTo pos2 (starEach [e2] X.env)).any (·.1) = false := by rfl)
    (hs1 : starEach [.Call (.Name "zip" p2) [e, e2] [] pos2] X.env = (false, eval (.Call (.Name "zip" p2) [e, e2] [] pos2) X.env) :: starEach [] X.env := by rfl)
    (hbt : backTo pos (starEach [.Call (.Name "zip" p2) [e, e2] [] pos2] X.env) = [(false, eval (.Call (.Name "zip" p2) [e, e2] [] pos2) X.env)] := by rfl) :
    PE X (.Call (.Name "dict" p) [.Call (.Name "zip" p2) [e, e2] [] pos2] [] pos) (tDictZip ta) := by
  refine ⟨fun pins s σ H Q I h => ?_⟩
  refine Call_ (ld_blt I hg1 hm1 PyProof.Rows.boot_dict (PyProof.Rows.callWith_type1 ?_ hs1 rfl))
  rw [hbt]
  refine Calls.spliced_cons ?_
  refine Call_ (ld_blt I hg hm PyProof.Rows.boot_zip (PyProof.Rows.callWith_type1 (thn (ha.run pos2 pins s σ H _ I h) fun us s1 ⟨vs, H1, I1, r1, q1⟩ => ?_) hs hpl))
  obtain ⟨a, b, xs, ys, cells, nums, ex, ha1, ha2, hb1, hb2, hnd, hlen, hsz, q⟩ := q1
  subst ex
  cases r1 with
  | cons r rr =>
    cases rr with
    | cons r' rr =>
      cases rr
      cases r
      cases r'
      have fresh4 : ∀ c, c ∈ [s1.heap.objs.size + 4, s1.heap.objs.size + 3, s1.heap.objs.size, s1.heap.objs.size + 1] → FpOk X pins H1 c := fun c hcm => by
        have e' : c = s1.heap.objs.size + 4 ∨ c = s1.heap.objs.size + 3 ∨ c = s1.heap.objs.size ∨ c = s1.heap.objs.size + 1 := by simpa using hcm
        have hle : s1.heap.objs.size ≤ c := by
          rcases e' with z | z | z | z <;> rw [z] <;> first | exact Nat.le_refl _ | exact Nat.le_add_right _ _
        exact I1.fpOk hle (I1.hok.fresh hle)
      obtain ⟨its, rv, p1, _⟩ := I1.list (SqL.of (K := X.K) ha1)
      obtain ⟨its2, rv2, p3, _⟩ := I1.tuple (SqT.of (K := X.K) hb1)
      obtain ⟨o2, ho2, _⟩ := id p3
      have hbl := Heap.lt_size ho2
      have hal := p1.lt
      refine zip_begins2 (begins_list a its.toArray) (begins_tuple b its2.toArray) p1.isList p3 fun h' hz hTI hTO h1 h2 hsz' hk => Calls.spliced_nil ?_
      have I2 : Inv X pins σ H1 { s1 with heap := h' } := I1.kept (t' := s1.toks) hk
      have l1 : its.length = cells.length := by have := rv.length; have := ha2.len; rw [List.length_map] at this; omega
      have l2 : its2.length = nums.length := by have := rv2.length; have := hb2.len; rw [List.length_map] at this; omega
      have ey := hb2.ints
      subst ey
      obtain ⟨ps, k1, k2, k3⟩ := mk_ps ha2 rv rv2 hlen
      have hsz1 : its.toArray.size = its2.toArray.size := by rw [List.size_toArray, List.size_toArray]; omega
      have P := mead_pairArg (prog := X.prog) (w := X.w) (s1.heap.objs.size + 4) (s1.heap.objs.size + 2) (s1.heap.objs.size + 3) s1.heap.objs.size (s1.heap.objs.size + 1) a b (zapart hal hbl) ⟨Nat.ne_of_lt (Nat.lt_of_lt_of_le hal (Nat.le_add_right _ _)), Nat.ne_of_lt (Nat.lt_of_lt_of_le hbl (Nat.le_add_right _ _))⟩ its.toArray its2.toArray hsz1
      have notwr : ∀ c u, H1 c = some u → c ∉ [s1.heap.objs.size + 4, s1.heap.objs.size + 3, s1.heap.objs.size, s1.heap.objs.size + 1] := fun c u e hm => by
        have := (fresh4 c hm).1
        rw [e] at this
        cases this
      refine call_dict_pairsH (s := { s1 with heap := h' }) (knd := tupleKind (mixKind X.prog X.w)) (ps := ps) P (I.ok.hd hc) (tupleKind_room_in1 (A := X.A.in1) hu) ⟨hz, hTI, ⟨_, _, hTO⟩, ⟨⟨_, h1, rfl, rfl⟩, p1.isList.at fun o e => hk _ o e⟩, ⟨_, h2, rfl, rfl⟩, (show s1.heap.IsTuple b its2.toArray from p3).at fun o e => hk _ o e⟩ ⟨by rw [k2, List.size_toArray, l1], fun i key v ⟨e1, e2⟩ => k3 i key v (by simpa using e1) (by simpa using e2)⟩ (fun g' kk x hx => ?_) (by rw [List.size_toArray, l1]; exact Nat.le_trans hsz (by decide)) fun g' tk dd kk => ?_
      · obtain ⟨_, _, _, e2⟩ := kt_at k1 x hx
        obtain ⟨o, its', n, g1, g2, g3, g4⟩ := key_of I2.hok e2
        exact ⟨o, its', n, kk _ _ (Nat.ne_of_lt (Heap.lt_size g1)) (notwr _ _ e2) g1, g2, g3, g4⟩
      · have hn := I2.hok.fresh (Nat.le_refl h'.objs.size)
        have e3 : storedAllH [] ps = ps := storedAllH_nil_of_nodup ps (by
          rw [← kt_fst k1, List.map_map]
          have e4 : ((cells.zip nums).map ((fun x => x.1) ∘ eKV)) = (cells.map kP) := by
            rw [show ((fun x : List Key × V => x.1) ∘ eKV) = kP ∘ Prod.fst from rfl, ← List.map_map, List.map_fst_zip (by omega)]
          rw [e4]
          exact List.Pairwise.map _ (fun x y hxy e5 => hxy (kP_inj e5)) hnd)
        rw [e3] at dd
        obtain ⟨o, es, ep, g1, g2, g3, g4, g5, g6⟩ := dd
        refine ⟨.ref h'.objs.size, upd H1 h'.objs.size (.dT ((cells.zip nums).map eKV)), I2.turnedNew (ch := [s1.heap.objs.size + 4, s1.heap.objs.size + 3, s1.heap.objs.size, s1.heap.objs.size + 1]) (t' := tk) (fun c o hc e => kk c o hc e) fresh4 (Nat.le_refl _) ⟨?_, beq_eq_false_iff_ne.mpr (Ne.symm (Nat.ne_of_lt I2.big)), ps, k1.keeps fun c zs ec => by rw [upd_ne (ne_of_none ec hn)]; exact ec, o, es, ep, g1, g2, g3, g4, g6⟩, rfl, q _ hn⟩
        rw [List.length_map, List.length_zip]
        exact Nat.le_trans (Nat.min_le_left _ _) (Nat.le_trans hsz (by decide))
end Mead

set_option maxRecDepth 100000
set_option maxHeartbeats 4000000
/-! list(zip(list, tuple)) -/
namespace PySem
open PySem.Spec PyProof.Rows
theorem mead_zip_len : typeLookup (.type "zip") "__len__" = pure none := by rw [typeLookup_type, builtinLookup_eq_fast]; kernel_rfl
theorem mead_zip_hint : typeLookup (.type "zip") "__length_hint__" = pure none := by rw [typeLookup_type, builtinLookup_eq_fast]; kernel_rfl
section
variable {prog : Program} {w : World} {A : Around} {z TI TO i1 i2 : Addr} {fp1 fp2 : List Addr} {n : Nat} {P1 P2 : Nat → Value → Prop} {St1 St2 : Nat → Heap → Prop}
/-- what has come so far -/
def PairsSo (P1 P2 : Nat → Value → Prop) (av : List Addr) (lo : Nat) (h : Heap) (acc : Array Value) (i : Nat) : Prop :=
  ∃ Ts : List Addr, acc = (Ts.map Value.ref).toArray ∧ Ts.length = i ∧ Ts.Pairwise (fun a b : Nat => a < b) ∧ ∀ j T, Ts[j]? = some T → lo ≤ T ∧ T ∉ av ∧ ∃ x y, P1 j x ∧ P2 j y ∧ h.get? T = some { cls := .type "tuple", data := .seq #[x, y] }
theorem mead_ext_zip {R : Result → Shared → Prop} (S : ZipSep2 z TI TO i1 i2 fp1 fp2) (D1 : Draws prog w A.in1.in1 i1 fp1 n P1 St1) (D2 : Draws prog w A.in1.in1 i2 fp2 n P2 St2) (hn : n ≤ sizeLine) (L : Addr) (lo : Nat) (hTl : TO < lo) (hL1 : L ∉ fp1) (hL2 : L ∉ fp2) (hLz : L ∉ [z, TI, TO, i1, i2]) (res : Value) :
    ∀ (k i : Nat) (s : Shared) (acc : Array Value) (c : Nat), n - i = k → i ≤ n → lo ≤ s.heap.objs.size → ZipAt z TI TO i1 i2 L St1 St2 i s.heap → s.heap.get? L = some { cls := .type "list", dict := none, data := .seq acc c, slots := #[] } → PairsSo P1 P2 [z, TO, i1, i2, L] lo s.heap acc i →
    (∀ h' tk acc' c', (∀ b o, b ∉ [z, TO, i1, i2, L] → s.heap.get? b = some o → h'.get? b = some o) → h'.get? L = some { cls := .type "list", dict := none, data := .seq acc' c', slots := #[] } → PairsSo P1 P2 [z, TO, i1, i2, L] lo h' acc' n → R (.ok (.ret res)) { s with heap := h', toks := tk }) →
    codeAny (model prog w) A (.builtin "list.extend.loop" ⟨[.ref L, .ref z, res], []⟩) R s := by
  have hL : L ≠ z ∧ L ≠ TI ∧ L ≠ TO ∧ L ≠ i1 ∧ L ≠ i2 := by simpa [not_or] using hLz
  have hL4 : L ∉ [z, TO, i1, i2] := by simp only [List.mem_cons, List.not_mem_nil, or_false, not_or]; exact ⟨hL.1, hL.2.2.1, hL.2.2.2.1, hL.2.2.2.2⟩
  intro k
  induction k with
  | zero =>
    intro i s acc c hk hi hlo st hS hacc hR
    have hin : i = n := by omega
    subst hin
    refine codeAny_builtin F.entry_extend_loop ?_
    rw [Around.under_plainId F.plain_extend_loop _]
    show wpAny _ A.in1 (pyNext (.ref z) >>= _) _ _ s
    refine wpAny_bind (mead_zip_end S D1 D2 st fun h' tk hm => wpAny_pure (hR h' tk acc c (fun b o hb e => hm b o (fun q => hb (by rcases List.mem_cons.mp q with q | q <;> simp_all)) e) (hm _ _ hL4 hS) ?_))
    obtain ⟨Ts, a1, a2, a3, a4⟩ := hacc
    refine ⟨Ts, a1, a2, a3, fun j T e => ?_⟩
    obtain ⟨q1, q2, x, y, q3, q4, q5⟩ := a4 j T e
    exact ⟨q1, q2, x, y, q3, q4, hm _ _ (fun q => q2 (by rcases List.mem_cons.mp q with q | q <;> simp_all)) q5⟩
  | succ k ih =>
    intro i s acc c hk hi hlo st hS hacc hR
    have hlt : i < n := by omega
    refine codeAny_builtin F.entry_extend_loop ?_
    rw [Around.under_plainId F.plain_extend_loop _]
    show wpAny _ A.in1 (pyNext (.ref z) >>= _) _ _ s
    have hLs := Heap.lt_size hS
    have asz : acc.size = i := by
      obtain ⟨Ts, a1, a2, _⟩ := hacc
      rw [a1]
      simp [a2]
    refine wpAny_bind (mead_zip_item hLs S D1 D2 hlt hlt st fun x y h' tk hx hy st' tt hm hlt' => ?_)
    obtain ⟨o, ho, rfl⟩ := tt
    have hS' := hm _ _ hL4 hS
    have nT : s.heap.objs.size ∉ [z, TO, i1, i2, L] := by
      obtain ⟨t1, s1, s2, zz⟩ := st
      have lt : ∀ {c o}, s.heap.get? c = some o → s.heap.objs.size ≠ c := fun e => Nat.ne_of_gt (Heap.lt_size e)
      have m1 := let ⟨_, e⟩ := D1.live _ _ s1; lt e
      have m2 := let ⟨_, e⟩ := D2.live _ _ s2; lt e
      have mz : s.heap.objs.size ≠ z := by rcases zz with ⟨q, _⟩ | ⟨_, _, _, q, _⟩ <;> exact lt q
      have mT : s.heap.objs.size ≠ TO := Nat.ne_of_gt (Nat.lt_of_lt_of_le hTl hlo)
      simp only [List.mem_cons, List.not_mem_nil, or_false, not_or]
      exact ⟨mz, mT, m1, m2, Nat.ne_of_gt hLs⟩
    show wpAny _ A.in1 (updateSeq L (·.push (.ref s.heap.objs.size)) >>= _) _ _ _
    refine wpAny_bind ?_
    have oth : ∀ b o, b ≠ L → h'.get? b = some o → (h'.update L (Obj.mapSeq (·.push (.ref s.heap.objs.size)))).get? b = some o := fun b o hb e => (Heap.get?_update_other _ _ (Ne.symm hb)).trans e
    have sb : Heap.SameBut L h' (h'.update L (Obj.mapSeq (·.push (.ref s.heap.objs.size)))) := Heap.SameBut.update ..
    refine wpAny_updateSeq hS' rfl (wpAny_pure ⟨plainId_quiet F.plain_extend_loop _, ih (i + 1) _ (acc.push (.ref s.heap.objs.size)) _ (by omega) hlt (by show lo ≤ (h'.update L _).objs.size; rw [Heap.size_update]; omega) ?_ (Heap.get?_update_self _ hS' rfl) ?_ fun g' tk' acc' c' kk hS'' hacc' => ?_⟩) (by rw [asz]; omega) (by show (acc.push _).size ≤ sizeLine + 1; rw [Array.size_push, asz]; omega)
    · obtain ⟨t1, s1, s2, zz⟩ := st'
      refine ⟨oth _ _ hL.2.1.symm t1, D1.over s1 sb hL1, D2.over s2 sb hL2, ?_⟩
      rcases zz with ⟨zz, a, b, t⟩ | ⟨T, f, oT, zz, t, nn⟩
      · exact .inl ⟨oth _ _ hL.1.symm zz, a, b, oth _ _ hL.2.2.1.symm t⟩
      · refine .inr ⟨T, f, oT, oth _ _ hL.1.symm zz, oth _ _ ?_ t, nn⟩
        simp only [List.mem_cons, List.not_mem_nil, or_false, not_or] at nn
        exact nn.2.2.2.2
    · obtain ⟨Ts, a1, a2, a3, a4⟩ := hacc
      have nL : s.heap.objs.size ≠ L := by simp only [List.mem_cons, List.not_mem_nil, or_false, not_or] at nT; exact nT.2.2.2.2
      refine ⟨Ts ++ [s.heap.objs.size], by rw [a1]; simp, by simp [a2], List.pairwise_append.mpr ⟨a3, List.pairwise_singleton _ _, fun a ha b hb => ?_⟩, fun j T e => ?_⟩
      · rw [List.mem_singleton] at hb
        obtain ⟨j, hj⟩ := List.mem_iff_getElem?.mp ha
        obtain ⟨_, _, _, _, _, _, q5⟩ := a4 j a hj
        rw [hb]
        exact Heap.lt_size q5
      · by_cases hj : j < Ts.length
        · rw [List.getElem?_append_left hj] at e
          obtain ⟨q1, q2, x', y', q3, q4, q5⟩ := a4 j T e
          have q7 : T ≠ L := by simp only [List.mem_cons, List.not_mem_nil, or_false, not_or] at q2; exact q2.2.2.2.2
          exact ⟨q1, q2, x', y', q3, q4, oth _ _ q7 (hm _ _ (fun q => q2 (by rcases List.mem_cons.mp q with q | q <;> simp_all)) q5)⟩
        · rw [List.getElem?_append_right (by omega)] at e
          have e0 : j - Ts.length = 0 := by
            have := (List.getElem?_eq_some_iff.mp e).1
            simp at this
            omega
          rw [e0] at e
          have eT : s.heap.objs.size = T := by simpa using e
          have ej : j = i := by omega
          subst eT
          rw [ej]
          exact ⟨hlo, nT, x, y, hx, hy, oth _ _ nL ho⟩
    · exact hR g' tk' acc' c' (fun b o hb e => kk b o hb (oth b o (fun q => hb (by simp [q])) (hm b o (fun q => hb (by rcases List.mem_cons.mp q with q | q <;> simp_all)) e))) hS'' hacc'
theorem mead_list_zip {E : Value → Shared → Prop} {s : Shared} {Q : Value → Shared → Prop} (hh : A.handled = none) (S : ZipSep2 z TI TO i1 i2 fp1 fp2) (D1 : ∀ A' : Around, A'.handled = none → Draws prog w A' i1 fp1 n P1 St1) (D2 : ∀ A' : Around, A'.handled = none → Draws prog w A' i2 fp2 n P2 St2) (hn : n ≤ sizeLine)
    (hlt : ∀ b ∈ z :: TI :: TO :: i1 :: i2 :: (fp1 ++ fp2), b < s.heap.objs.size) (hz : IsZip s.heap z TI TO .none) (hTI : IsTupOf2 s.heap TI (.ref i1) (.ref i2)) (hTO : ∃ a b, IsTupOf2 s.heap TO a b) (s1 : St1 0 s.heap) (s2 : St2 0 s.heap)
    (hQ : ∀ h' tk acc' c', (∀ b o, b ∉ [z, TO, i1, i2] → s.heap.get? b = some o → h'.get? b = some o) → h'.get? s.heap.objs.size = some { cls := .type "list", dict := none, data := .seq acc' c', slots := #[] } → PairsSo P1 P2 [z, TO, i1, i2, s.heap.objs.size] s.heap.objs.size h' acc' n → Q (.ref s.heap.objs.size) { s with heap := h', toks := tk }) :
    wpAny (model prog w) A (call (.type "list") [.ref z]) Q E s := by
  refine callType_codes (Q₁ := fun obj s₁ => obj = .ref s.heap.objs.size ∧ s₁ = { s with heap := s.heap.push { cls := .type "list", data := .seq #[] } }) PySem.F.called_list (PySem.F.typeCall_list_1 _) PySem.F.entry_list_init (code_list_new _ ⟨rfl, rfl⟩) fun obj s₁ h₁ => ?_
  obtain ⟨rfl, rfl⟩ := h₁
  have hS : (s.heap.push { cls := .type "list", data := .seq #[] }).get? s.heap.objs.size = some { cls := .type "list", data := .seq #[] } := Heap.get?_push_size _ rfl
  have lt : ∀ b, b ∈ z :: TI :: TO :: i1 :: i2 :: (fp1 ++ fp2) → s.heap.objs.size ≠ b := fun b hb => Nat.ne_of_gt (hlt b hb)
  have nz := lt z (by simp)
  have nTI := lt TI (by simp)
  have nTO := lt TO (by simp)
  have n1 := lt i1 (by simp)
  have n2 := lt i2 (by simp)
  have nf1 : s.heap.objs.size ∉ fp1 := fun hm => lt _ (by simp [hm]) rfl
  have nf2 : s.heap.objs.size ∉ fp2 := fun hm => lt _ (by simp [hm]) rfl
  refine ⟨⟨_, hS, rfl⟩, PySem.F.args_list_init_2 _ _, ?_⟩
  show wpAny _ _ (do let old ← Builtin.List.listItems (.ref s.heap.objs.size); Builtin.List.listUpdate (.ref s.heap.objs.size) (fun _ => #[]); letGo old.toList.reverse; Builtin.List.listExtendWith (.ref s.heap.objs.size) (.ref z) .none) _ _ _
  refine wpAny_bind ?_
  unfold Builtin.List.listItems
  refine wpAny_bind (wpAny_seqItems hS rfl (wpAny_pure ?_))
  refine wpAny_bind (m := updateSeq s.heap.objs.size (fun _ => #[])) (wpAny_updateSeq hS rfl ?_)
  have hS₂ := Heap.get?_update_self (Obj.mapSeq (fun _ => (#[] : Array Value))) hS rfl
  have oth : ∀ b o, b ≠ s.heap.objs.size → s.heap.get? b = some o → ((s.heap.push { cls := .type "list", data := .seq #[] }).update s.heap.objs.size (Obj.mapSeq (fun _ => (#[] : Array Value)))).get? b = some o :=
    fun b o hb e => (Heap.get?_update_other _ _ (Ne.symm hb)).trans (Heap.get?_push_of_some _ e)
  have zr : ((s.heap.push { cls := .type "list", data := .seq #[] }).update s.heap.objs.size (Obj.mapSeq (fun _ => (#[] : Array Value)))).objs.size = s.heap.objs.size + 1 := by rw [Heap.size_update, Heap.size_push]
  generalize hg : (s.heap.push { cls := .type "list", data := .seq #[] }).update s.heap.objs.size (Obj.mapSeq (fun _ => (#[] : Array Value))) = g at *
  refine wpAny_bind (wpAny_letGo ?_)
  have zT : Shared.TypeIs { s with heap := g } (.ref z) "zip" := ⟨_, oth _ _ nz.symm hz, rfl⟩
  unfold Builtin.List.listExtendWith
  refine wpAny_bind (wpAny_typeOf zT ?_)
  have e1 : Builtin.List.listSameRef (.ref s.heap.objs.size) (.ref z) = false := by simp [Builtin.List.listSameRef, nz]
  have e2 : (Value.type "zip" == Value.type "list") = false := by decide
  have e3 : (Value.type "zip" == Value.type "tuple") = false := by decide
  simp only [e1, e2, e3, Bool.or_false, Bool.false_eq_true, if_false]
  refine wpAny_bind (wpAny_pyIter_zip (oth _ _ nz.symm hz) ?_)
  refine wpAny_bind (wpAny_holding ?_)
  unfold Builtin.List.listLengthHint
  refine wpAny_bind (wpAny_specialOf zT mead_zip_len ?_)
  show wpAny _ _ (specialOf (Value.ref z) (Str.ofString "__length_hint__") >>= _) _ _ _
  refine wpAny_bind (wpAny_specialOf zT mead_zip_hint (wpAny_pure ?_))
  show wpAny _ _ (rule "list.extend.makes-room" >>= fun _ => Builtin.List.listTouch (.ref s.heap.objs.size) >>= fun _ => again (.builtin "list.extend.loop" ⟨[.ref s.heap.objs.size, .ref z, .none], []⟩)) _ _ _
  refine wpAny_bind (wpAny_rule (wpAny_bind ?_))
  show wpAny _ _ (updateSeq s.heap.objs.size (·.push .none) >>= fun _ => updateSeq s.heap.objs.size (·.pop)) _ _ _
  refine wpAny_bind (wpAny_updateSeq hS₂ rfl ?_)
  have hS₃ := Heap.get?_update_self (Obj.mapSeq (·.push Value.none)) hS₂ rfl
  refine wpAny_updateSeq hS₃ rfl ?_
  have hS₄ := Heap.get?_update_self (Obj.mapSeq (·.pop)) hS₃ rfl
  have oth2 : ∀ b o, b ≠ s.heap.objs.size → s.heap.get? b = some o → ((g.update s.heap.objs.size (Obj.mapSeq (·.push Value.none))).update s.heap.objs.size (Obj.mapSeq (·.pop))).get? b = some o :=
    fun b o hb e => (Heap.get?_update_other _ _ (Ne.symm hb)).trans ((Heap.get?_update_other _ _ (Ne.symm hb)).trans (oth b o hb e))
  have st0 : ZipAt z TI TO i1 i2 s.heap.objs.size St1 St2 0 ((g.update s.heap.objs.size (Obj.mapSeq (·.push Value.none))).update s.heap.objs.size (Obj.mapSeq (·.pop))) := by
    obtain ⟨a, b, t⟩ := hTO
    exact ⟨oth2 _ _ nTI.symm hTI, (D1 A hh).frame _ _ _ s1 fun b hb o e => oth2 b o (fun q => nf1 (q ▸ hb)) e, (D2 A hh).frame _ _ _ s2 fun b hb o e => oth2 b o (fun q => nf2 (q ▸ hb)) e, .inl ⟨oth2 _ _ nz.symm hz, a, b, oth2 _ _ nTO.symm t⟩⟩
  refine wpAny_pure ⟨plainId_quiet F.plain_extend_loop _, ?_⟩
  refine mead_ext_zip (n := n) S (D1 _ (by simpa using hh)) (D2 _ (by simpa using hh)) hn s.heap.objs.size s.heap.objs.size (hlt TO (by simp)) nf1 nf2 (by simp only [List.mem_cons, List.not_mem_nil, or_false, not_or]; exact ⟨nz, nTI, nTO, n1, n2⟩) .none n 0 _ #[] _ rfl (Nat.zero_le _) (by show s.heap.objs.size ≤ (Heap.update _ _ _).objs.size; rw [Heap.size_update, Heap.size_update, zr]; exact Nat.le_succ _) st0 hS₄ ⟨[], rfl, rfl, List.Pairwise.nil, fun j T e => by simp at e⟩ fun h' tk acc' c' kk hS' hacc => ?_
  exact ⟨rfl, hQ h' tk acc' c' (fun b o hb e => kk b o (fun q => by
    have e' : b = z ∨ b = TO ∨ b = i1 ∨ b = i2 ∨ b = s.heap.objs.size := by simpa using q
    rcases e' with q | q | q | q | q
    · exact hb (by simp [q])
    · exact hb (by simp [q])
    · exact hb (by simp [q])
    · exact hb (by simp [q])
    · rw [q] at e
      exact absurd (Heap.lt_size e) (Nat.lt_irrefl _)) (oth2 b o (Nat.ne_of_lt (Heap.lt_size e)) e)) hS' hacc⟩
end
end PySem

set_option maxRecDepth 100000
set_option maxHeartbeats 4000000
namespace Mead
open PySem PySem.Spec PyProof.Rows L2
def eKN (x : Pl × Int) : PyData := .tuple [eP x.1, .int x.2]
theorem ima_at {H : Hp} : ∀ {vs : List V} {ds : List PyData}, vs.length = ds.length → (∀ (i : Nat) (v : V) (d : PyData), vs[i]? = some v → ds[i]? = some d → Im H v d) → ImA H vs ds
  | [], [], _, _ => .nil
  | [], _ :: _, h, _ => by simp at h
  | _ :: _, [], h, _ => by simp at h
  | v :: vs, d :: ds, h, k => .cons (k 0 v d rfl rfl) (ima_at (by simpa using h) fun i v d h1 h2 => k (i + 1) v d (by simpa using h1) (by simpa using h2))
def tListZip (ta : TA) : TE := fun σ H Q => ta σ H fun vs H1 => ∃ (a b : Addr) (xs ys : List V) (cells : List Pl) (nums : List Int), vs = [.ref a, .ref b] ∧ H1 a = some (.lst xs) ∧ ImA H1 xs (cells.map eP) ∧ H1 b = some (.tup ys) ∧ ImA H1 ys (nums.map .int) ∧ cells.length = nums.length ∧ cells.length ≤ 1000 ∧
  ∀ p H2, Same H1 H2 → H1 p = none → Ls H2 p ((cells.zip nums).map eKN) → Q (.ref p) H2
theorem pe_listzip {X : Cx} {e e2 : Expr} {ta : TA} {p p2 pos pos2 : Pos} (hc : X.calm = true) (hg1 : Gl X "list") (hm1 : X.mg "list" = none) (hg : Gl X "zip") (hm : X.mg "zip" = none) (ha : PA X [e, e2] ta)
    (hs : starEach [e, e2] X.env = (false, eval e X.env) :: starEach [e2] X.env := by rfl) (hpl : (backTo pos2 (starEach [e2] X.env)).any (·.1) = false := by rfl)
    (hs1 : starEach [.Call (.Name "zip" p2) [e, e2] [] pos2] X.env = (false, eval (.Call (.Name "zip" p2) [e, e2] [] pos2) X.env) :: starEach [] X.env := by rfl)
    (hbt : backTo pos (starEach [.Call (.Name "zip" p2) [e, e2] [] pos2] X.env) = [(false, eval (.Call (.Name "zip" p2) [e, e2] [] pos2) X.env)] := by rfl) :
    PE X (.Call (.Name "list" p) [.Call (.Name "zip" p2) [e, e2] [] pos2] [] pos) (tListZip ta) := by
  refine ⟨fun pins s σ H Q I h => ?_⟩
  refine Call_ (ld_blt I hg1 hm1 PyProof.Rows.boot_list (PyProof.Rows.callWith_type1 ?_ hs1 rfl))
  rw [hbt]
  refine Calls.spliced_cons ?_
  refine Call_ (ld_blt I hg hm PyProof.Rows.boot_zip (PyProof.Rows.callWith_type1 (thn (ha.run pos2 pins s σ H _ I h) fun us s1 ⟨vs, H1, I1, r1, q1⟩ => ?_) hs hpl))
  obtain ⟨a, b, xs, ys, cells, nums, ex, ha1, ha2, hb1, hb2, hlen, hsz, q⟩ := q1
  subst ex
  cases r1 with
  | cons r rr =>
    cases rr with
    | cons r' rr =>
      cases rr
      cases r
      cases r'
      have fresh4 : ∀ c, c ∈ [s1.heap.objs.size + 4, s1.heap.objs.size + 3, s1.heap.objs.size, s1.heap.objs.size + 1] → FpOk X pins H1 c := fun c hcm => by
        have e' : c = s1.heap.objs.size + 4 ∨ c = s1.heap.objs.size + 3 ∨ c = s1.heap.objs.size ∨ c = s1.heap.objs.size + 1 := by simpa using hcm
        have hle : s1.heap.objs.size ≤ c := by
          rcases e' with z | z | z | z <;> rw [z] <;> first | exact Nat.le_refl _ | exact Nat.le_add_right _ _
        exact I1.fpOk hle (I1.hok.fresh hle)
      obtain ⟨its, rv, p1, _⟩ := I1.list (SqL.of (K := X.K) ha1)
      obtain ⟨its2, rv2, p3, _⟩ := I1.tuple (SqT.of (K := X.K) hb1)
      obtain ⟨o2, ho2, _⟩ := id p3
      have hbl : b < s1.heap.objs.size := Heap.lt_size ho2
      have hal : a < s1.heap.objs.size := p1.lt
      refine zip_begins2 (begins_list a its.toArray) (begins_tuple b its2.toArray) p1.isList p3 fun h' hz hTI hTO h1 h2 hsz' hk => Calls.spliced_nil ?_
      have I2 : Inv X pins σ H1 { s1 with heap := h' } := I1.kept (t' := s1.toks) hk
      have l1 : its.length = cells.length := by have := rv.length; have := ha2.len; rw [List.length_map] at this; omega
      have l2 : its2.length = nums.length := by have := rv2.length; have := hb2.len; rw [List.length_map] at this; omega
      have S := (zapart hal hbl).sep
      have hn : its.toArray.size ≤ sizeLine := by rw [List.size_toArray, l1]; exact Nat.le_trans hsz (by decide)
      have es : its2.toArray.size = its.toArray.size := by rw [List.size_toArray, List.size_toArray]; omega
      have ltn : ∀ j, j < 5 → s1.heap.objs.size + j < h'.objs.size := fun j hj => by rw [hsz']; exact Nat.add_lt_add_left hj _
      refine mead_list_zip (s := { s1 with heap := h' }) (n := its.toArray.size) (St1 := fun i h => h.IsListIter s1.heap.objs.size a i ∧ h.IsList a its.toArray) (St2 := fun i h => h.IsTupleIter (s1.heap.objs.size + 1) b i ∧ h.IsTuple b its2.toArray) (P1 := fun i v => its.toArray[i]? = some v) (P2 := fun i v => its2.toArray[i]? = some v) (I.ok.hd hc) S (fun A' hA => Draws.list hA _ a (zapart hal hbl).n1 its.toArray) (fun A' hA => by have D := Draws.tuple (prog := X.prog) (w := X.w) (A := A') hA (s1.heap.objs.size + 1) b (zapart hal hbl).n2 its2.toArray; rw [es] at D; exact D) hn ?_ hz hTI ⟨_, _, hTO⟩ ⟨⟨_, h1, rfl, rfl⟩, p1.isList.at fun o e => hk _ o e⟩ ⟨⟨_, h2, rfl, rfl⟩, (show s1.heap.IsTuple b its2.toArray from p3).at fun o e => hk _ o e⟩ fun g tk acc c kk hL hp => ?_
      · intro c hc
        have e' : c = s1.heap.objs.size + 4 ∨ c = s1.heap.objs.size + 2 ∨ c = s1.heap.objs.size + 3 ∨ c = s1.heap.objs.size ∨ c = s1.heap.objs.size + 1 ∨ c = a ∨ c = b := by
          simp only [List.mem_cons, List.mem_append, List.not_mem_nil, or_false] at hc
          rcases hc with q | q | q | q | q | (q | q) | q | q <;> simp [q]
        have hal' : a < h'.objs.size := Nat.lt_of_lt_of_le hal (by rw [hsz']; exact Nat.le_add_right _ _)
        have hbl' : b < h'.objs.size := Nat.lt_of_lt_of_le hbl (by rw [hsz']; exact Nat.le_add_right _ _)
        rcases e' with z | z | z | z | z | z | z <;> rw [z]
        · exact ltn 4 (by decide)
        · exact ltn 2 (by decide)
        · exact ltn 3 (by decide)
        · exact ltn 0 (by decide)
        · exact ltn 1 (by decide)
        · exact hal'
        · exact hbl'
      · have I3 : Inv X pins σ H1 { s1 with heap := g, toks := tk } := I2.turnedL (s := { s1 with heap := h' }) (t' := tk) (ch := [s1.heap.objs.size + 4, s1.heap.objs.size + 3, s1.heap.objs.size, s1.heap.objs.size + 1]) kk fresh4
        obtain ⟨Ts, eacc, lTs, pw, at_⟩ := hp
        have nd : Ts.Nodup := List.Pairwise.imp (fun h => Nat.ne_of_lt h) pw
        have ey := hb2.ints
        have val : ∀ j T, Ts[j]? = some T → ∃ (c : Pl) (n : Int) (v : V), cells[j]? = some c ∧ nums[j]? = some n ∧ xs[j]? = some v ∧ ys[j]? = some (V.int n) ∧ ∀ H2, ObjOk X.prog X.w H2 g T (.tup [v, V.int n]) := fun j T e => by
          obtain ⟨_, _, x, y, q3, q4, q5⟩ := at_ j T e
          have q3' : its[j]? = some x := by simpa using q3
          have q4' : its2[j]? = some y := by simpa using q4
          have hj : j < cells.length := by rw [← l1]; exact (List.getElem?_eq_some_iff.mp q3').1
          have hj2 : j < nums.length := by omega
          have hx : xs[j]? = some (xs[j]'(by have := rv.length; omega)) := List.getElem?_eq_getElem _
          have hy : ys[j]? = some (.int nums[j]) := by rw [ey, List.getElem?_map, List.getElem?_eq_getElem hj2]; rfl
          obtain ⟨u, hu, ru⟩ := rv.get hx
          obtain ⟨u2, hu2, ru2⟩ := rv2.get hy
          have hu' : its[j]? = some u := hu
          have hu2' : its2[j]? = some u2 := hu2
          have e1 : u = x := Option.some.inj (hu'.symm.trans q3')
          have e2 : u2 = y := Option.some.inj (hu2'.symm.trans q4')
          subst e1; subst e2
          exact ⟨_, _, _, List.getElem?_eq_getElem hj, List.getElem?_eq_getElem hj2, hx, hy, fun H2 => ⟨by show 2 ≤ sizeLine; decide, [u, u2], .cons ru (.cons ru2 .nil), ⟨_, q5, rfl, _, rfl⟩⟩⟩
        have hLn : H1 h'.objs.size = none := I2.hok.fresh (Nat.le_refl _)
        have rl : ∀ l : List Addr, Vals (l.map V.ref) (l.map Value.ref) := fun l => by
          induction l with
          | nil => exact .nil
          | cons t ts ih => exact .cons rfl ih
        have I4 : Inv X pins σ (upd H1 h'.objs.size (.lst (Ts.map V.ref))) { s1 with heap := g, toks := tk } := I3.take (h' := g) (t' := tk) (fun b ob _ e => e) (I2.fpOk (Nat.le_refl _) hLn) ⟨by rw [List.length_map, lTs]; exact hn, Ts.map Value.ref, c, rl Ts, by rw [eacc] at hL; exact hL⟩
        obtain ⟨H2, I5, sm, al⟩ := L2.DX.takeT (P := fun T vs => ∃ j, Ts[j]? = some T ∧ ∃ (n : Int) (v : V), nums[j]? = some n ∧ xs[j]? = some v ∧ vs = [v, V.int n]) (s := { s1 with heap := h' }) I2 Ts _ I4 nd fun T hT => by
          obtain ⟨j, hj⟩ := List.mem_iff_getElem?.mp hT
          obtain ⟨lo, nv, x, y, _, _, q5⟩ := at_ j T hj
          obtain ⟨c, n, v, _, c2, c3, c4, c5⟩ := val j T hj
          exact ⟨lo, by rw [upd_ne (fun z => nv (by rw [z]; simp))]; exact I2.hok.fresh lo, _, ⟨j, hj, n, v, c2, c3, rfl⟩, c5⟩
        have Sm : Same H1 H2 := (Same.new hLn).trans sm
        refine ⟨.ref h'.objs.size, _, I5, rfl, q _ _ Sm hLn ⟨_, sm _ _ upd_same, ?_⟩⟩
        refine ima_at (by rw [List.length_map, List.length_map, List.length_zip, lTs, List.size_toArray]; omega) fun i v d e1 e2 => ?_
        rw [List.getElem?_map] at e1 e2
        obtain ⟨T, eT, rfl⟩ := Option.map_eq_some_iff.mp e1
        obtain ⟨x, ex, rfl⟩ := Option.map_eq_some_iff.mp e2
        obtain ⟨vs, ⟨j, hj, n, v, c1, c2, rfl⟩, hT⟩ := al T (List.mem_of_getElem? eT)
        have ej : j = i := by
          have h1 := (List.getElem?_eq_some_iff.mp hj)
          have h2 := (List.getElem?_eq_some_iff.mp eT)
          exact (List.getElem_inj nd).mp (h1.2.trans h2.2.symm)
        subst ej
        obtain ⟨z1, z2⟩ := List.getElem?_zip_eq_some.mp ex
        obtain ⟨d, w1, w2⟩ := ha2.getV c2
        rw [List.getElem?_map, z1] at w1
        cases w1
        rw [z2] at c1
        cases c1
        exact Im.tup hT (.cons (w2.up Sm) (.cons (.int _) .nil))
end Mead

set_option maxRecDepth 100000
set_option maxHeartbeats 4000000
/-! items of a dict with tuple keys, locked -/
namespace L2
open PySem PySem.Spec PyProof.Rows
theorem Inv.frzV {X : Cx} {pins : List (Addr × Obj)} {σ : St} {H : Hp} {s : Shared} {d : Addr} {o : Obj} {kvs : List (List Key × V)} (I : Inv X pins σ H s) (h : H d = some (.frz o (.dT kvs))) :
    (d == sysModules) = false ∧ s.heap.get? d = some o ∧ o.ExactDict ∧ ∃ (es : Array DictEntry) (ep : Nat), o.data = .dict es ep ∧ es.size = kvs.length ∧
      ∀ (i : Nat) (k : List Key) (v : V), kvs[i]? = some (k, v) → ∃ (en : DictEntry) (q : Addr), es[i]? = some en ∧ en.key = .ref q ∧ H q = some (.tup (k.map kV)) ∧ RelV v en.val := by
  obtain ⟨hd, z, hs, xs, pr, o', es, ep, ho, hx, hdt, he, _⟩ := I.hok d _ h
  rw [hd] at ho
  cases ho
  refine ⟨hs, hd, hx, es, ep, hdt, ?_, fun i k v e => ?_⟩
  · have l1 : es.size = xs.length := size_of_entries he
    have l2 : kvs.length = xs.length := Paired.length pr
    omega
  · obtain ⟨b, hb, e1, e2, e3⟩ := paired_get pr e
    have q := entry_at he i
    rw [hb] at q
    exact ⟨_, b.2.1, q, rfl, e2, e3⟩
def ItI (d : Addr) (o : Obj) (kvs : List (List Key × V)) : It :=
  ⟨fun i H => H d = some (.frz o (.dT kvs)) ∧ i < kvs.length, fun i H x H' => ∃ (T q : Addr) (k : List Key) (v : V), kvs[i]? = some (k, v) ∧ x = .ref T ∧ H T = none ∧ H q = some (.tup (k.map kV)) ∧ H' = upd H T (.tup [.ref q, v]), fun i H => H d = some (.frz o (.dT kvs)) ∧ kvs.length ≤ i⟩
theorem turn_itemsT {P : Program} {w : World} {K : PySem.W.Frag} {elts : List Expr} {kk : Nat} {tpos : Pos} {d : Addr} {o : Obj} {es : Array DictEntry} {ep : Nat} {kvs : List (List Key × V)} (it : Addr) (hod : o.data = .dict es ep) :
    Turn P w K (.Tuple elts kk tpos) (ItI d o kvs) [it] it (fun i h => ∃ ok ov, IsItemIter h it d i kvs.length ep ok ov) where
  mem := by simp
  obj := fun i h st b hb => by
    have e : b = it := by simpa using hb
    subst e
    obtain ⟨ok, ov, e⟩ := st
    exact ⟨_, e, fun v z => nomatch z⟩
  keep := fun i h h' st k => let ⟨ok, ov, e⟩ := st; ⟨ok, ov, k it (by simp) _ e⟩
  item := by
    intro X hP hw hK hc i pins s σ H E I hf st hg
    subst hP hw hK
    obtain ⟨hd, hi⟩ := hg
    obtain ⟨hs, hgd, hx, es', ep', hdt, hsz, ent⟩ := I.frzV hd
    obtain ⟨rfl, rfl⟩ := dict_ep hod hdt
    obtain ⟨⟨k, v⟩, hkv⟩ : ∃ p, kvs[i]? = some p := ⟨kvs[i], List.getElem?_eq_getElem hi⟩
    obtain ⟨en, q, hen, hkey, hq, rv⟩ := ent i k v hkv
    obtain ⟨ok, ov, he⟩ := st
    rw [← hsz] at he
    have hlt : it < s.heap.objs.size := Heap.lt_size he
    have hie : i < es'.size := by rw [hsz]; exact hi
    have een : es'[i] = en := by
      have := Array.getElem?_eq_getElem hie
      rw [hen] at this
      exact (Option.some.inj this).symm
    refine DT.nextI he ⟨o, hgd, hx, hdt⟩ hie fun h' ho hT hz hk => ?_
    rw [een] at hT ho
    refine ⟨_, rfl, wpAny_letOwnedTupleGo_items (s := { s with heap := h' }) ho fun h'' he' sb => ?_⟩
    have hT2 : h''.get? s.heap.objs.size = some { cls := .type "tuple", data := .seq #[en.key, en.val] } := (sb.2 _ (Nat.ne_of_gt hlt)).trans hT
    have new : ObjOk X.prog X.w (upd H s.heap.objs.size (.tup [.ref q, v])) h'' s.heap.objs.size (.tup [.ref q, v]) :=
      ⟨by show 2 ≤ sizeLine; decide, [en.key, en.val], .cons hkey (.cons rv .nil), ⟨_, hT2, rfl, _, rfl⟩⟩
    have I1 : Inv X pins σ (upd H s.heap.objs.size (.tup [.ref q, v])) { s with heap := h'' } :=
      I.turnedNew (t' := s.toks) (ch := [it]) (fun b ob hb e => (sb.2 b (by simpa using hb)).trans (hk b ob (by simpa using hb) e)) hf (Nat.le_refl _) new
    refine ⟨.ref s.heap.objs.size, _, I1, rfl, ⟨_, q, k, v, hkv, rfl, I.hok.fresh (Nat.le_refl _), hq, rfl⟩, ⟨en.key, en.val, ?_⟩, fun b hb => ?_⟩
    · rw [← hsz]; exact he'
    · have e : b = it := by simpa using hb
      rw [e, upd_ne (Nat.ne_of_lt hlt)]
      exact (hf it (by simp)).1
  done := by
    intro X hP hw hK hc i pins s σ H E I hf st hg
    subst hP hw hK
    obtain ⟨hd, hi⟩ := hg
    obtain ⟨f0, f1, f2, f3, f4, f5⟩ := hf it (by simp)
    obtain ⟨hs, hgd, hx, es', ep', hdt, hsz, ent⟩ := I.frzV hd
    obtain ⟨rfl, rfl⟩ := dict_ep hod hdt
    obtain ⟨ok, ov, he⟩ := st
    rw [← hsz] at he
    exact DT.endI (I.ok.hd hc) he ⟨o, hgd, hx, hdt⟩ (by rw [hsz]; exact hi) fun h' eb => ⟨rfl, I.turned (t' := s.toks) (fun b ob hb e => eb b ob hb e) f0 f1 f3 f4 f5⟩
  self := fun A i s Q E st h => let ⟨_, _, e⟩ := st; PySem.W.kcp_self e h
def iItemsT (td : TE) : TI := fun σ H R => td σ H fun x H1 => ∃ d o kvs, x = .ref d ∧ H1 d = some (.frz o (.dT kvs)) ∧ R (ItI d o kvs) H1
theorem pi_itemsT {X : Cx} {e : Expr} {td : TE} {apos cpos : Pos} {elts : List Expr} {kk : Nat} {tpos : Pos} (he : PE X e td) (hbase : attributeBase e "items" X.env (eval e X.env) = eval e X.env := by rfl) (hline : (apos.endLine == cpos.line) = true := by rfl) :
    PI X (.Tuple elts kk tpos) (.Call (.Attribute e "items" apos) [] [] cpos) (iItemsT td) := by
  refine ⟨fun pins s σ H R I h => ?_⟩
  refine wpAny_Call_method (T := "dict") (id := "dict.items") hbase rfl hline F.plainAttrs_dict F.slot_dict_items F.type_dict_items (thn (he.run pins s σ H _ I h) fun u s1 ⟨x, H1, I1, rx, d, o, kvs, ex, hd, q⟩ => ?_)
  subst ex
  obtain rfl : u = Value.ref d := rx
  obtain ⟨hs, hgd, hx, es, ep, hdt, hsz, ent⟩ := I1.frzV hd
  have raw : DT.Raw s1.heap d es ep := ⟨o, hgd, hx, hdt⟩
  refine ⟨raw.typeIs, (fun a ea => by cases ea; exact ⟨o, hgd, hx.2.1⟩), ?_⟩
  have I2 : Inv X pins σ H1 { s1 with heap := s1.heap.push { cls := .type "dict_items", data := .fields #[.ref d] } } := I1.kept (t' := s1.toks) fun b ob q => Heap.get?_push_of_some _ q
  have fin : wpAny (model X.prog X.w) X.A (pyIter (.ref s1.heap.objs.size)) (PIE X pins σ (.Tuple elts kk tpos) R) X.xe { s1 with heap := s1.heap.push { cls := .type "dict_items", data := .fields #[.ref d] } } := by
    refine DT.iterI (d := d) ⟨_, Heap.get?_push_size _ rfl, rfl, rfl⟩ (raw.push _) (pi_one (tk := s1.toks) I2 _ (turn_itemsT _ hdt) ⟨.none, .none, ?_⟩ q)
    rw [← hsz]
    exact Heap.get?_push_size _ rfl
  show wpAny _ _ (callWith cpos (.builtin "dict.items") [.ref d] [] []) _ X.xe s1
  exact method_meetsIn F.slot_dict_items F.entry_dict_items rfl (PySem.evalArgs_none ⟨rfl, raw.typeIs, F.args_dict_items_1 _, _, DT.meetsItems (es := es) (ep := ep) hs, raw, fin⟩)
end L2

set_option maxRecDepth 100000
set_option maxHeartbeats 4000000
/-! dicts, by what is told of values -/
namespace Mead
open PySem PySem.Spec PyProof.Rows L2
theorem rd_up {B H : Hp} {q : Addr} {u : HO} (h : Rd B q u) (s : Same B H) : Rd H q u := by
  rcases h with h | ⟨o, h⟩
  · exact .inl (s _ _ h)
  · exact .inr ⟨o, s _ _ h⟩
theorem dgetT {H : Hp} {q : Addr} {kvs : List (List Key × V)} {v : V} {p : Pl} (h : Rd H q (.dT kvs)) (hv : Im H v (eP p)) : DGet H q v (valV kvs (kP p)) := by
  obtain ⟨b, rfl, hb⟩ := im_kP hv
  exact .inr ⟨kvs, kP p, b, h, rfl, hb, rfl⟩
theorem dgetK {H : Hp} {q : Addr} {kvs : List (Key × V)} {v : V} {i : Int} (h : Rd H q (.dK kvs)) (hv : Im H v (.int i)) : DGet H q v (valV kvs (.inl i)) :=
  .inl ⟨kvs, .inl i, h, by rw [Im.isInt hv]; rfl, rfl⟩
theorem isD_of {H : Hp} {q : Addr} {kvs : List (List Key × V)} (h : Rd H q (.dT kvs)) : IsD H q := .inr ⟨kvs, h⟩
section
variable {T : Tx} {N : List Str} {sc : Scope} {k : Nat} {X : Cx} {σ σ1 σ2 : L2.St} {B H : Hp} {a b e f o : Expr} {es : List Expr} {pos : Pos} {x y d : PyData} {ds : List PyData} {D : Ends} {st : Stmt} {sts body : List Stmt} {q : Addr} {p : Pl} {kvs : List (List Key × V)}
theorem jt_dinT (c : BCx T N sc k X) (hx : JR X a σ B (.d (eP p))) (hd : JV X b σ B (.ref q)) (hr : Rd B q (.dT kvs)) (hm : behindInMarks .In b = false := by rfl) : JT X (.Compare a [.In] [b] pos) σ B (valV kvs (kP p)).isSome := fun H1 s =>
  jt_of (pt_cmp (pc_din c.hu pe_j pe_j) hm) (je_mono (hx H1 s) fun v H2 ⟨s2, p2⟩ => je_mono (hd H2 (s.trans s2)) fun u H3 ⟨s3, e3⟩ => ⟨q, _, e3, dgetT (rd_up hr ((s.trans s2).trans s3)) (Im.up p2 s3), _, rfl, s2.trans s3, rfl⟩)
theorem jt_dniT (c : BCx T N sc k X) (hx : JR X a σ B (.d (eP p))) (hd : JV X b σ B (.ref q)) (hr : Rd B q (.dT kvs)) (hm : behindInMarks .NotIn b = false := by rfl) : JT X (.Compare a [.NotIn] [b] pos) σ B (!(valV kvs (kP p)).isSome) := fun H1 s =>
  jt_of (pt_cmp (pc_dnotin c.hu pe_j pe_j) hm) (je_mono (hx H1 s) fun v H2 ⟨s2, p2⟩ => je_mono (hd H2 (s.trans s2)) fun u H3 ⟨s3, e3⟩ => ⟨q, _, e3, dgetT (rd_up hr ((s.trans s2).trans s3)) (Im.up p2 s3), _, rfl, s2.trans s3, rfl⟩)
theorem ja_dinT (c : BCx T N sc k X) (hx : JR X a σ B (.d (eP p))) (hd : JV X b σ B (.ref q)) (hr : Rd B q (.dT kvs)) (hm : behindInMarks .In b = false := by rfl) : JA X (.Compare a [.In] [b] pos) σ B (.d (.bool (valV kvs (kP p)).isSome)) := fun H1 s =>
  je_of (pe_cmp (pc_din c.hu pe_j pe_j) hm) (je_mono (hx H1 s) fun v H2 ⟨s2, p2⟩ => je_mono (hd H2 (s.trans s2)) fun u H3 ⟨s3, e3⟩ => ⟨q, _, e3, dgetT (rd_up hr ((s.trans s2).trans s3)) (Im.up p2 s3), s2.trans s3, .bl _⟩)
/-- d[x] -/
theorem jv_dgetT (c : BCx T N sc k X) {v : V} (hd : JV X a σ B (.ref q)) (hx : JR X b σ B (.d (eP p))) (hr : Rd B q (.dT kvs)) (hv : valV kvs (kP p) = some v) (hs : NoSl b := by exact fun _ _ => rfl) : JV X (.Subscript a b pos) σ B v := fun H1 s =>
  je_of (pe_dget c.hu pe_j pe_j hs) (je_mono (hd H1 s) fun u H2 ⟨s2, e2⟩ => je_mono (hx H2 (s.trans s2)) fun y H3 ⟨s3, p3⟩ => ⟨q, v, e2, by rw [← hv]; exact dgetT (rd_up hr ((s.trans s2).trans s3)) p3, s2.trans s3, rfl⟩)
theorem ja_dgetT (c : BCx T N sc k X) {n : Int} (hd : JV X a σ B (.ref q)) (hx : JR X b σ B (.d (eP p))) (hr : Rd B q (.dT kvs)) (hv : valV kvs (kP p) = some (.int n)) (hs : NoSl b := by exact fun _ _ => rfl) : JA X (.Subscript a b pos) σ B (.d (.int n)) :=
  EX.imp (jv_dgetT c hd hx hr hv hs) fun _ _ _ e => by rw [e]; exact .int n
theorem jv_dgetK (c : BCx T N sc k X) {v : V} {i : Int} {kvs : List (Key × V)} (hd : JV X a σ B (.ref q)) (hx : JR X b σ B (.d (.int i))) (hr : Rd B q (.dK kvs)) (hv : valV kvs (.inl i) = some v) (hs : NoSl b := by exact fun _ _ => rfl) : JV X (.Subscript a b pos) σ B v := fun H1 s =>
  je_of (pe_dget c.hu pe_j pe_j hs) (je_mono (hd H1 s) fun u H2 ⟨s2, e2⟩ => je_mono (hx H2 (s.trans s2)) fun y H3 ⟨s3, p3⟩ => ⟨q, v, e2, by rw [← hv]; exact dgetK (rd_up hr ((s.trans s2).trans s3)) p3, s2.trans s3, rfl⟩)
/-- d.get(x, z) -/
theorem j_dget2T (c : BCx T N sc k X) {apos cpos : Pos} {P P2 : Hp → V → Hp → Prop} (hd : JV X o σ B (.ref q)) (hx : JR X e σ B (.d (eP p))) (hf : EX X f σ B P) (hr : Rd B q (.dT kvs)) (m : M2 X o "get" apos e f cpos)
    (h1 : ∀ v, valV kvs (kP p) = some v → ∀ H1 H2, Same B H1 → Same H1 H2 → P2 H1 v H2) (h2 : valV kvs (kP p) = none → ∀ H1 H2 v H3, Same B H1 → Same H1 H2 → P H2 v H3 → Same H2 H3 → P2 H1 v H3) : EX X (.Call (.Attribute o "get" apos) [e, f] [] cpos) σ B P2 := fun H1 s =>
  je_of (pe_dget2 c.hu pe_j pe_j pe_j m) (je_mono (hd H1 s) fun u H2 ⟨s2, e2⟩ => ⟨q, e2, isD_of (rd_up hr (s.trans s2)), je_mono (hx H2 (s.trans s2)) fun y H3 ⟨s3, p3⟩ => je_mono (hf H3 ((s.trans s2).trans s3)) fun z H4 ⟨s4, p4⟩ => ⟨_, dgetT (rd_up hr (((s.trans s2).trans s3).trans s4)) (Im.up p3 s4), by
    refine ⟨(s2.trans s3).trans s4, ?_⟩
    cases e5 : valV kvs (kP p) with
    | some v => exact h1 v e5 H1 H4 s ((s2.trans s3).trans s4)
    | none => exact h2 e5 H1 H3 z H4 s (s2.trans s3) p4 s4⟩⟩)
theorem ja_dget2T (c : BCx T N sc k X) {apos cpos : Pos} {n : Int} {g : Option Int} (hd : JV X o σ B (.ref q)) (hx : JR X e σ B (.d (eP p))) (hf : JR X f σ B (.d (.int n))) (hr : Rd B q (.dT kvs)) (hg : valV kvs (kP p) = g.map V.int) (m : M2 X o "get" apos e f cpos) : JA X (.Call (.Attribute o "get" apos) [e, f] [] cpos) σ B (.d (.int (g.getD n))) :=
  j_dget2T c hd hx hf hr m (fun v hv H1 H2 _ _ => by
    rw [hg] at hv
    cases g with
    | none => cases hv
    | some i => cases hv; exact .int i) fun hn H1 H2 v H3 _ _ pv _ => by
    rw [hg] at hn
    cases g with
    | none => exact pv
    | some i => cases hn
/-- d[x] = e, the dict out of the base -/
theorem js_dputT (c : BCx T N sc k X) {p' : Pos} {v : Expr} {P : Hp → V → Hp → Prop} (hB : Same B H) (hv : EX X v σ B P) (hd : JV X o σ B (.ref q)) (hx : JR X e σ B (.d (eP p))) (hq : H q = some (.dT kvs)) (hl : kvs.length < 1000000)
    (h : ∀ u H1, Same H H1 → P H u H1 → ∀ H2, Same H1 H2 → D.nx σ (upd H2 q (.dT (putK kvs (kP p) u))))
    (hs : swapsWith v (some (.Subscript o e p')) pos.line X.env = pure false := by rfl) : jS X (.Assign [.Subscript o e p'] v pos) D σ H :=
  js_of (ps_dput c.hu pe_j pe_j pe_j hs) (je_mono (hv H hB) fun u H1 ⟨s1, p1⟩ => je_mono (hd H1 (hB.trans s1)) fun z H2 ⟨s2, e2⟩ => je_mono (hx H2 ((hB.trans s1).trans s2)) fun y H3 ⟨s3, p3⟩ => by
    obtain ⟨b, rfl, hb⟩ := im_kP p3
    exact ⟨q, _, e2, DPut.t (s3 _ _ (s2 _ _ (s1 _ _ hq))) hb (Nat.lt_of_lt_of_le hl (by decide)), h u H1 s1 p1 H3 (s2.trans s3)⟩)
theorem js_dputK (c : BCx T N sc k X) {p' : Pos} {v : Expr} {P : Hp → V → Hp → Prop} {i : Int} {kvs : List (Key × V)} (hB : Same B H) (hv : EX X v σ B P) (hd : JV X o σ B (.ref q)) (hx : JR X e σ B (.d (.int i))) (hq : H q = some (.dK kvs)) (hl : kvs.length < 1000000)
    (h : ∀ u H1, Same H H1 → P H u H1 → ∀ H2, Same H1 H2 → D.nx σ (upd H2 q (.dK (putK kvs (.inl i) u))))
    (hs : swapsWith v (some (.Subscript o e p')) pos.line X.env = pure false := by rfl) : jS X (.Assign [.Subscript o e p'] v pos) D σ H :=
  js_of (ps_dput c.hu pe_j pe_j pe_j hs) (je_mono (hv H hB) fun u H1 ⟨s1, p1⟩ => je_mono (hd H1 (hB.trans s1)) fun z H2 ⟨s2, e2⟩ => je_mono (hx H2 ((hB.trans s1).trans s2)) fun y H3 ⟨s3, p3⟩ => by
    rw [Im.isInt p3]
    exact ⟨q, _, e2, DPut.k (k := .inl i) (s3 _ _ (s2 _ _ (s1 _ _ hq))) (Nat.lt_of_lt_of_le hl (by decide)), h u H1 s1 p1 H3 (s2.trans s3)⟩)
/-- a dict that is written no more -/
theorem jss_freeze (hq : H q = some (.dT kvs)) (h : ∀ od, jSs X sts D σ (upd H q (.frz od (.dT kvs)))) : jSs X sts D σ H := fun pins s I =>
  let ⟨od, I1⟩ := I.lock hq True.intro
  h od pins s I1
theorem jss_freezeK {kvs : List (Key × V)} (hq : H q = some (.dK kvs)) (h : ∀ od, jSs X sts D σ (upd H q (.frz od (.dK kvs)))) : jSs X sts D σ H := fun pins s I =>
  let ⟨od, I1⟩ := I.lock hq True.intro
  h od pins s I1
/-- {} -/
theorem ex_newT : EX X (.Dict [] [] pos) σ B fun H1 v H2 => ∃ q, v = .ref q ∧ H1 q = none ∧ H2 = upd H1 q (.dT []) := fun H1 s =>
  je_of pe_dnewT fun p hp => ⟨Same.new hp, p, rfl, hp, rfl⟩
theorem ex_newK : EX X (.Dict [] [] pos) σ B fun H1 v H2 => ∃ q, v = .ref q ∧ H1 q = none ∧ H2 = upd H1 q (.dK []) := fun H1 s =>
  je_of pe_dnewK fun p hp => ⟨Same.new hp, p, rfl, hp, rfl⟩
/-- dict(d) -/
theorem cr_copyT {X : Cx} (hu : X.A.units + 2 < cLine) : CallR X (.type "dict") (fun vs H Q => ∃ q kvs, vs = [.ref q] ∧ Rd H q (.dT kvs) ∧ (kvs.map fun x => hashT X.w x.1).Nodup ∧ ∀ p, H p = none → Q (.ref p) (upd H p (.dT kvs))) := by
  intro pins s σ H vs us Q I r h
  obtain ⟨q, kvs, rfl, hq, hn, k⟩ := h
  rw [Vals.ref1 r]
  exact d_copyT hu I hq hn fun p s' hp I' => ⟨.ref p, _, I', rfl, k p hp⟩
theorem ex_copyT (c : BCx T N sc k X) {pp : Pos} (hg : glo sc "dict" = true) (hm : T.mg "dict" = none) (h : JV X e σ B (.ref q)) (hr : Rd B q (.dT kvs)) (hn : (kvs.map fun x => hashT T.w x.1).Nodup) (hs : starEach [e] X.env = (false, eval e X.env) :: starEach [] X.env := by rfl) :
    EX X (.Call (.Name "dict" pp) [e] [] pos) σ B fun H1 v H2 => ∃ q, v = .ref q ∧ H1 q = none ∧ H2 q = some (.dT kvs) := fun H1 s =>
  je_of (pe_callTy (cr_copyT (by have := c.room.units; omega)) (c.gl hg) (by rw [c.mg]; exact hm) (by decide +kernel) (pa_cons pe_j pa_nil hs) (glo_of hg).2.2 (glo_of hg).2.1 hs rfl) (je_mono (h H1 s) fun v H2 ⟨s2, e2⟩ => ⟨q, kvs, by rw [e2], rd_up hr (s.trans s2), by rw [c.w]; exact hn, fun p hp => ⟨s2.trans (Same.new hp), p, rfl, s2.free hp, upd_same⟩⟩)
/-- len(d) -/
theorem cr_lenKR {X : Cx} : CallR X (.builtin "len") (fun vs H Q => ∃ (q : Addr) (kvs : List (Key × V)), vs = [.ref q] ∧ Rd H q (.dK kvs) ∧ Q (.int (kvs.length : Nat)) H) := by
  intro pins s σ H vs us Q I r h
  obtain ⟨q, kvs, rfl, hq, k⟩ := h
  rw [Vals.ref1 r]
  exact d_len I hq fun t s' I' => ⟨.int _, H, I', ⟨t, rfl⟩, k⟩
theorem ja_lenK (c : BCx T N sc k X) {pp : Pos} {kvs : List (Key × V)} (hg : glo sc "len" = true) (hm : T.mg "len" = none) (h : JV X e σ B (.ref q)) (hr : Rd B q (.dK kvs)) (hs : starEach [e] X.env = (false, eval e X.env) :: starEach [] X.env := by rfl) : JA X (.Call (.Name "len" pp) [e] [] pos) σ B (.d (.int (kvs.length : Nat))) := fun H1 s =>
  je_of (pe_callB cr_lenKR (c.gl hg) (by rw [c.mg]; exact hm) boot_len (pa_cons pe_j pa_nil hs) (glo_of hg).2.2 (glo_of hg).2.1 hs rfl) (je_mono (h H1 s) fun v H2 ⟨s2, e2⟩ => ⟨q, kvs, by rw [e2], rd_up hr (s.trans s2), s2, .int _⟩)
theorem ja_lenDT (c : BCx T N sc k X) {pp : Pos} (hg : glo sc "len" = true) (hm : T.mg "len" = none) (h : JV X e σ B (.ref q)) (hr : B q = some (.dT kvs)) (hs : starEach [e] X.env = (false, eval e X.env) :: starEach [] X.env := by rfl) : JA X (.Call (.Name "len" pp) [e] [] pos) σ B (.d (.int (kvs.length : Nat))) := fun H1 s =>
  je_of (pe_callB call_len_dT (c.gl hg) (by rw [c.mg]; exact hm) boot_len (pa_cons pe_j pa_nil hs) (glo_of hg).2.2 (glo_of hg).2.1 hs rfl) (je_mono (h H1 s) fun v H2 ⟨s2, e2⟩ => ⟨q, kvs, by rw [e2], s2 _ _ (s _ _ hr), s2, .int _⟩)
/-! ### what is walked -/
theorem src_keysT {tg : Expr} {od : Obj} {l : List (Pl × Int)} (h : JV X e σ B (.ref q)) (hq : B q = some (.frz od (.dT (l.map eKV)))) : SRC X tg e σ B ((l.map Prod.fst).map eP) := by
  refine ⟨_, pi_keys pe_j, fun H s R hR => je_mono (h H s) fun v H1 ⟨s1, e1⟩ => ?_⟩
  have g := grow s s1
  refine ⟨q, od, e1, .inr ⟨_, s1 _ _ (s _ _ hq), hR _ _ H1 g ?_⟩⟩
  have w := walk_keysT (d := q) (o := od) (kvs := l.map eKV)
  have e2 : ((l.map Prod.fst).map eP).length = (l.map eKV).length := by rw [List.length_map, List.length_map, List.length_map]
  rw [e2]
  refine w.mono (fun H' k => k _ _ (g.base _ _ hq)) fun i H' v H'' _ k ⟨e, kk, vv, b, h1, h2, h3⟩ => ?_
  subst e; subst h2
  rw [List.getElem?_map] at h1
  obtain ⟨x, hx, e3⟩ := Option.map_eq_some_iff.mp h1
  cases e3
  exact ⟨Same.refl _, eP x.1, by rw [List.getElem?_map, List.getElem?_map, hx]; rfl, .tup h3 (.cons (.int _) (.cons (.int _) .nil))⟩
theorem src_itemsT {elts : List Expr} {kk : Nat} {tpos apos cpos : Pos} {od : Obj} {l : List (Pl × Int)} (h : JV X e σ B (.ref q)) (hq : B q = some (.frz od (.dT (l.map eKV)))) (hbase : attributeBase e "items" X.env (eval e X.env) = eval e X.env := by rfl) (hline : (apos.endLine == cpos.line) = true := by rfl) :
    SRC X (.Tuple elts kk tpos) (.Call (.Attribute e "items" apos) [] [] cpos) σ B (l.map eKN) := by
  refine ⟨_, pi_itemsT pe_j hbase hline, fun H s R hR => je_mono (h H s) fun v H1 ⟨s1, e1⟩ => ?_⟩
  have g := grow s s1
  refine ⟨q, od, _, e1, s1 _ _ (s _ _ hq), hR _ _ H1 g ?_⟩
  have e2 : (l.map eKN).length = (l.map eKV).length := by rw [List.length_map, List.length_map]
  rw [e2]
  refine ⟨fun i H' hi k => ⟨k _ _ (g.base _ _ hq), hi⟩, fun H' k => ⟨k _ _ (g.base _ _ hq), Nat.le_refl _⟩, fun i H' v H'' hi k y => ?_⟩
  obtain ⟨T, b, kk, vv, h1, rfl, hT, hb, rfl⟩ := y
  rw [List.getElem?_map] at h1
  obtain ⟨x, hx, e3⟩ := Option.map_eq_some_iff.mp h1
  cases e3
  exact ⟨Same.new hT, eKN x, by rw [List.getElem?_map, hx]; rfl, im_pair hT (.tup hb (.cons (.int _) (.cons (.int _) .nil))) (.int _)⟩
theorem src_keysK {tg : Expr} {od : Obj} {kvs : List (Key × V)} {hs : List Int} (h : JV X e σ B (.ref q)) (hq : B q = some (.frz od (.dK kvs))) (hk : kvs.map (·.1) = hs.map Sum.inl) : SRC X tg e σ B (hs.map .int) := by
  refine ⟨_, pi_keys pe_j, fun H s R hR => je_mono (h H s) fun v H1 ⟨s1, e1⟩ => ?_⟩
  have g := grow s s1
  refine ⟨q, od, e1, .inl ⟨_, s1 _ _ (s _ _ hq), hR _ _ H1 g ?_⟩⟩
  have e2 : (hs.map PyData.int).length = kvs.length := by
    have := congrArg List.length hk
    rw [List.length_map, List.length_map] at this
    rw [List.length_map, this]
  rw [e2]
  refine ⟨fun i H' hi k => ⟨k _ _ (g.base _ _ hq), hi⟩, fun H' k => ⟨k _ _ (g.base _ _ hq), Nat.le_refl _⟩, fun i H' v H'' hi k y => ?_⟩
  obtain ⟨e, kk, vv, h1, rfl⟩ := y
  subst e
  have e3 := congrArg (fun l => l[i]?) hk
  simp only [List.getElem?_map, h1] at e3
  obtain ⟨n, hn, e4⟩ := Option.map_eq_some_iff.mp e3.symm
  cases e4
  exact ⟨Same.refl _, .int n, by rw [List.getElem?_map, hn]; rfl, .int n⟩
end
end Mead

set_option maxRecDepth 100000
set_option maxHeartbeats 4000000
/-! dicts from places to numbers -/
namespace Mead
open PySem PySem.Spec PyProof.Rows L2
def look (l : List (Pl × Int)) (p : Pl) : Option Int := (l.find? fun x => decide (x.1 = p)).map (·.2)
theorem valV_eKV (l : List (Pl × Int)) (p : Pl) : valV (l.map eKV) (kP p) = (look l p).map V.int := by
  unfold valV look
  induction l with
  | nil => rfl
  | cons x l ih =>
    rw [List.map_cons]
    by_cases h : x.1 = p
    · have e : (eKV x).1 = kP p := by rw [← h]; rfl
      simp [List.find?_cons, e, h, eKV]
    · have e : ¬ (eKV x).1 = kP p := fun z => h (kP_inj z)
      simp only [List.find?_cons, e, h, decide_false]
      exact ih
def DI (B : Hp) (q : Addr) (l : List (Pl × Int)) : Prop := Rd B q (.dT (l.map eKV))
theorem DI.up {B H : Hp} {q : Addr} {l : List (Pl × Int)} (h : DI B q l) (s : Same B H) : DI H q l := rd_up h s
theorem look_mem {l : List (Pl × Int)} {p : Pl} : (look l p).isSome = true ↔ p ∈ l.map Prod.fst := by
  unfold look
  rw [Option.isSome_map, List.find?_isSome, List.mem_map]
  constructor
  · rintro ⟨x, h1, h2⟩
    exact ⟨x, h1, of_decide_eq_true h2⟩
  · rintro ⟨x, h1, h2⟩
    exact ⟨x, h1, decide_eq_true h2⟩
theorem look_eq {l : List (Pl × Int)} {p : Pl} {n : Int} (hn : (l.map Prod.fst).Nodup) (h : (p, n) ∈ l) : look l p = some n := by
  induction l with
  | nil => cases h
  | cons x l ih =>
    rw [List.map_cons, List.nodup_cons] at hn
    unfold look
    rw [List.find?_cons]
    rcases List.mem_cons.mp h with e | h
    · subst e
      simp
    · have hx : ¬ x.1 = p := fun e => hn.1 (by rw [e]; exact List.mem_map_of_mem (f := Prod.fst) h)
      simp only [hx, decide_false]
      exact ih hn.2 h
section
variable {T : Tx} {N : List Str} {sc : Scope} {k : Nat} {X : Cx} {σ σ1 σ2 : L2.St} {B H : Hp} {a b e f o : Expr} {es : List Expr} {pos : Pos} {x y d : PyData} {ds : List PyData} {D : Ends} {q : Addr} {p : Pl} {l : List (Pl × Int)}
theorem isSome_map' {o : Option Int} : (o.map V.int).isSome = o.isSome := by cases o <;> rfl
theorem jt_dinI (c : BCx T N sc k X) (hx : JR X a σ B (.d (eP p))) (hd : JV X b σ B (.ref q)) (hr : DI B q l) (hm : behindInMarks .In b = false := by rfl) : JT X (.Compare a [.In] [b] pos) σ B (look l p).isSome := by
  have h := jt_dinT (pos := pos) c hx hd hr hm
  rw [valV_eKV, isSome_map'] at h
  exact h
theorem jt_dniI (c : BCx T N sc k X) (hx : JR X a σ B (.d (eP p))) (hd : JV X b σ B (.ref q)) (hr : DI B q l) (hm : behindInMarks .NotIn b = false := by rfl) : JT X (.Compare a [.NotIn] [b] pos) σ B (!(look l p).isSome) := by
  have h := jt_dniT (pos := pos) c hx hd hr hm
  rw [valV_eKV, isSome_map'] at h
  exact h
theorem ja_dinI (c : BCx T N sc k X) (hx : JR X a σ B (.d (eP p))) (hd : JV X b σ B (.ref q)) (hr : DI B q l) (hm : behindInMarks .In b = false := by rfl) : JA X (.Compare a [.In] [b] pos) σ B (.d (.bool (look l p).isSome)) := by
  have h := ja_dinT (pos := pos) c hx hd hr hm
  rw [valV_eKV, isSome_map'] at h
  exact h
theorem ja_dgetI (c : BCx T N sc k X) (hd : JV X a σ B (.ref q)) (hx : JR X b σ B (.d (eP p))) (hr : DI B q l) (hv : (look l p).isSome = true) (hs : NoSl b := by exact fun _ _ => rfl) : JA X (.Subscript a b pos) σ B (.d (.int ((look l p).getD 0))) :=
  ja_dgetT c hd hx hr (by
    rw [valV_eKV]
    cases e : look l p with
    | none => rw [e] at hv; cases hv
    | some n => rfl) hs
/-- dict(zip(cells, numbers)) -/
theorem ex_dictzip (c : BCx T N sc k X) {p1 p2 pos2 : Pos} {cells : List Pl} {nums : List Int} (hg1 : glo sc "dict" = true) (hm1 : T.mg "dict" = none) (hg2 : glo sc "zip" = true) (hm2 : T.mg "zip" = none) (ha : JA X a σ B (.l (cells.map eP))) (hb : JR X b σ B (.d (eR nums))) (hnd : cells.Nodup) (hlen : cells.length = nums.length) (hz : cells.length ≤ 1000)
    (hs : starEach [a, b] X.env = (false, eval a X.env) :: starEach [b] X.env := by rfl) (hs2 : starEach [b] X.env = (false, eval b X.env) :: starEach [] X.env := by rfl) (hpl : (backTo pos2 (starEach [b] X.env)).any (·.1) = false := by rfl)
    (hs1 : starEach [.Call (.Name "zip" p2) [a, b] [] pos2] X.env = (false, eval (.Call (.Name "zip" p2) [a, b] [] pos2) X.env) :: starEach [] X.env := by rfl)
    (hbt : backTo pos (starEach [.Call (.Name "zip" p2) [a, b] [] pos2] X.env) = [(false, eval (.Call (.Name "zip" p2) [a, b] [] pos2) X.env)] := by rfl) :
    EX X (.Call (.Name "dict" p1) [.Call (.Name "zip" p2) [a, b] [] pos2] [] pos) σ B fun H1 v H2 => ∃ q, v = .ref q ∧ H1 q = none ∧ H2 q = some (.dT ((cells.zip nums).map eKV)) := fun H1 s =>
  je_of (pe_dictzip c.calm (by have := c.room.units; omega) (c.gl hg1) (by rw [c.mg]; exact hm1) (c.gl hg2) (by rw [c.mg]; exact hm2) (pa_cons pe_j (pa_cons pe_j pa_nil hs2) hs) hs hpl hs1 hbt)
    (je_mono (ha H1 s) fun v H2 ⟨s2, q1, e1, n1, xs, h1, h2⟩ => je_mono (hb H2 (s.trans s2)) fun u H3 ⟨s3, p3⟩ => by
      obtain ⟨q2, ys, e2, h3, h4⟩ := Im.isTup p3
      exact ⟨q1, q2, xs, ys, cells, nums, by rw [e1, e2], s3 _ _ h1, h2.up s3, h3, h4, hnd, hlen, hz, fun r hr => ⟨(s2.trans s3).trans (Same.new hr), r, rfl, (s2.trans s3).free hr, upd_same⟩⟩)
theorem ja_listzip (c : BCx T N sc k X) {p1 p2 pos2 : Pos} {cells : List Pl} {nums : List Int} (hg1 : glo sc "list" = true) (hm1 : T.mg "list" = none) (hg2 : glo sc "zip" = true) (hm2 : T.mg "zip" = none) (ha : JA X a σ B (.l (cells.map eP))) (hb : JR X b σ B (.d (eR nums))) (hlen : cells.length = nums.length) (hz : cells.length ≤ 1000)
    (hs : starEach [a, b] X.env = (false, eval a X.env) :: starEach [b] X.env := by rfl) (hs2 : starEach [b] X.env = (false, eval b X.env) :: starEach [] X.env := by rfl) (hpl : (backTo pos2 (starEach [b] X.env)).any (·.1) = false := by rfl)
    (hs1 : starEach [.Call (.Name "zip" p2) [a, b] [] pos2] X.env = (false, eval (.Call (.Name "zip" p2) [a, b] [] pos2) X.env) :: starEach [] X.env := by rfl)
    (hbt : backTo pos (starEach [.Call (.Name "zip" p2) [a, b] [] pos2] X.env) = [(false, eval (.Call (.Name "zip" p2) [a, b] [] pos2) X.env)] := by rfl) :
    JA X (.Call (.Name "list" p1) [.Call (.Name "zip" p2) [a, b] [] pos2] [] pos) σ B (.l ((cells.zip nums).map eKN)) := fun H1 s =>
  je_of (pe_listzip c.calm (c.gl hg1) (by rw [c.mg]; exact hm1) (c.gl hg2) (by rw [c.mg]; exact hm2) (pa_cons pe_j (pa_cons pe_j pa_nil hs2) hs) hs hpl hs1 hbt)
    (je_mono (ha H1 s) fun v H2 ⟨s2, q1, e1, n1, xs, h1, h2⟩ => je_mono (hb H2 (s.trans s2)) fun u H3 ⟨s3, p3⟩ => by
      obtain ⟨q2, ys, e2, h3, h4⟩ := Im.isTup p3
      exact ⟨q1, q2, xs, ys, cells, nums, by rw [e1, e2], s3 _ _ h1, h2.up s3, h3, h4, hlen, hz, fun r H4 s4 hr hL => ⟨(s2.trans s3).trans s4, r, rfl, (s2.trans s3).free hr, hL⟩⟩)
end
/-! ### fences -/
def ltP (p o : Pl) : Bool := PySem.W.dataLt (eP p) (eP o)
def fenceAt (l : List (Pl × Int)) (p : Pl) : List (Pl × Pl) := ((beside p).filter fun o => ltP p o && ((look l o).isSome && !decide ((look l o).getD 0 = (look l p).getD 0))).map fun o => (p, o)
def fencesIn (m : List (List Int)) (nums : List Int) : List (Pl × Pl) := srt eF ((((cellsIn m).zip nums).map Prod.fst).map (fenceAt ((cellsIn m).zip nums))).flatten
def unlikeN (l m : List (Pl × Pl)) : Int := ((l.filter fun t => !decide (t ∈ m)).length : Int) + (m.filter fun t => !decide (t ∈ l)).length
theorem rowP_nodup (l u : Int) (r : Nat) (row : List Int) : (rowP l u r row).Nodup := by
  unfold rowP
  refine List.Pairwise.map _ (R := fun x y : Nat × Int => x.1 ≠ y.1) (fun x y h e => h ?_) (List.Pairwise.filter _ ?_)
  · have e1 : (x.1 : Int) = (y.1 : Int) := congrArg Prod.snd e
    omega
  · rw [List.pairwise_iff_getElem]
    intro i j hi hj hij
    simp only [List.getElem_mapIdx]
    omega
theorem placesOf_nodup (m : List (List Int)) (l u : Int) : (placesOf m l u).Nodup := by
  unfold placesOf List.Nodup
  rw [List.pairwise_flatten]
  refine ⟨fun x hx => ?_, ?_⟩
  · obtain ⟨i, a, _, rfl⟩ := mapIdx_mem hx
    exact rowP_nodup l u i a
  · rw [List.pairwise_iff_getElem]
    intro i j hi hj hij x hx y hy e
    simp only [List.getElem_mapIdx] at hx hy
    obtain ⟨a, _, ea⟩ := List.mem_map.mp hx
    obtain ⟨b, _, eb⟩ := List.mem_map.mp hy
    have e1 : x.1 = (i : Int) := by rw [← ea]
    have e2 : y.1 = (j : Int) := by rw [← eb]
    rw [e] at e1
    omega
theorem cellsIn_nodup (m : List (List Int)) : (cellsIn m).Nodup := placesOf_nodup m 0 99
end Mead

set_option maxRecDepth 100000
set_option maxHeartbeats 4000000
/-! owners of cells -/
namespace Mead
open PySem PySem.Spec PyProof.Rows L2
def hashP (p : Pl) : Int := reduceHash (Builtin.Tuple.tupleHashOf [hashInt p.1, hashInt p.2])
theorem hashT_kP (w : World) (p : Pl) : hashT w (kP p) = hashP p := rfl
def gridL : List Pl := [0, 1, 2, 3].flatMap fun r => [0, 1, 2, 3, 4, 5].map fun c => ((r : Int), (c : Int))
theorem grid_hash : ∀ p ∈ gridL, ∀ q ∈ gridL, hashP p = hashP q → p = q := by decide +kernel
def InGrid (p : Pl) : Prop := (0 ≤ p.1 ∧ p.1 ≤ 3) ∧ 0 ≤ p.2 ∧ p.2 ≤ 5
theorem InGrid.mem {p : Pl} (h : InGrid p) : p ∈ gridL := by
  obtain ⟨a, b⟩ := p
  obtain ⟨⟨h1, h2⟩, h3, h4⟩ := h
  have h1 : 0 ≤ a := h1
  have h2 : a ≤ 3 := h2
  have h3 : 0 ≤ b := h3
  have h4 : b ≤ 5 := h4
  have ea : a = 0 ∨ a = 1 ∨ a = 2 ∨ a = 3 := by omega
  have eb : b = 0 ∨ b = 1 ∨ b = 2 ∨ b = 3 ∨ b = 4 ∨ b = 5 := by omega
  rcases ea with rfl | rfl | rfl | rfl <;> rcases eb with rfl | rfl | rfl | rfl | rfl | rfl <;> decide
theorem hash_nodup {w : World} {l : List (Pl × Int)} (h1 : ∀ x ∈ l, InGrid x.1) (h2 : (l.map Prod.fst).Nodup) : ((l.map eKV).map fun x => hashT w x.1).Nodup := by
  rw [List.map_map]
  have e : ((fun x : List Key × V => hashT w x.1) ∘ eKV) = fun x => hashP x.1 := rfl
  rw [e]
  unfold List.Nodup at h2 ⊢
  rw [List.pairwise_map] at h2 ⊢
  refine List.Pairwise.imp_of_mem (fun {a b} ha hb h e => h ?_) h2
  exact grid_hash _ (h1 a ha).mem _ (h1 b hb).mem e
theorem cell_grid {m : List (List Int)} (v : VM m) {p : Pl} (h : p ∈ cellsIn m) : InGrid p := by
  obtain ⟨h1, h2⟩ := cell_ix h
  have r := v.rows
  have e : m.getD p.1.toNat [] ∈ m := by
    have : p.1.toNat < m.length := by omega
    rw [List.getD, List.getElem?_eq_getElem this]
    exact List.getElem_mem this
  have w := v.wide _ e
  unfold InGrid
  omega
def dealtOn (l : List (Pl × Int)) (land : List Pl) (ho : Int) : Option (List (Pl × Int)) := if (land.any fun c => (look l c).isSome) = true then none else some (l ++ land.map fun c => (c, ho))
theorem look_none {l : List (Pl × Int)} {p : Pl} : look l p = none ↔ p ∉ l.map Prod.fst := by
  rw [← look_mem]
  cases look l p <;> simp
theorem put_new {l : List (Pl × Int)} {p : Pl} {n : Int} (h : p ∉ l.map Prod.fst) : putK (l.map eKV) (kP p) (.int n) = (l ++ [(p, n)]).map eKV := by
  rw [putK_new _ (by rw [valV_eKV, look_none.mpr h]; rfl), List.map_append]
  rfl
/-- a dict of owners, or None -/
def OwnO (H : Hp) (v : V) : Option (List (Pl × Int)) → Prop
  | none => v = .non
  | some l => ∃ q, v = .ref q ∧ H q = some (.dT (l.map eKV))
theorem OwnO.up {H H' : Hp} {v : V} : ∀ {o : Option (List (Pl × Int))}, OwnO H v o → Same H H' → OwnO H' v o
  | none, h, _ => h
  | some _, ⟨q, e, h⟩, s => ⟨q, e, s _ _ h⟩
/-- .. a new one -/
def OwnN (H1 : Hp) (v : V) (H2 : Hp) : Option (List (Pl × Int)) → Prop
  | none => v = .non
  | some l => ∃ q, v = .ref q ∧ H1 q = none ∧ H2 q = some (.dT (l.map eKV))
theorem OwnN.back {H0 H1 H2 : Hp} {v : V} (s : Same H0 H1) : ∀ {o : Option (List (Pl × Int))}, OwnN H1 v H2 o → OwnN H0 v H2 o
  | none, h => h
  | some _, ⟨q, e, n, h⟩ => ⟨q, e, s.free n, h⟩
theorem OwnN.base {B H B1 H1 : Hp} {v : V} (g : Grow B H B1 H1) : ∀ {o : Option (List (Pl × Int))}, OwnN H v H1 o → OwnO B1 v o
  | none, h => h
  | some _, ⟨q, e, n, h⟩ => ⟨q, e, g.new _ _ n h⟩
structure OwnOk (l : List (Pl × Int)) (land : List Pl) : Prop where
  grid : ∀ x ∈ l, InGrid x.1
  nd : (l.map Prod.fst).Nodup
  nd2 : land.Nodup
  small : l.length ≤ 100 ∧ land.length ≤ 100
end Mead

set_option maxRecDepth 100000
set_option maxHeartbeats 4000000
/-! d.setdefault(k, []).append(x) -/
namespace Mead
open PySem PySem.Spec PyProof.Rows L2
def tDSetdT (td ty tx : TE) : TE := fun σ H Q => td σ H fun x H1 => ∃ a, x = .ref a ∧ IsD H1 a ∧ ty σ H1 fun y H2 => tx σ H2 fun z H3 => ∃ (kvs : List (List Key × V)) (k : List Key) (b : Addr), H3 a = some (.dT kvs) ∧ y = .ref b ∧ H3 b = some (.tup (k.map kV)) ∧ kvs.length < sizeLine ∧
  (∀ v, valV kvs k = some v → Q v H3) ∧ (valV kvs k = none → Q z (upd H3 a (.dT (putK kvs k z))))
theorem pe_dsetdT {X : Cx} {o e f : Expr} {td ty tx : TE} {apos cpos : Pos} (hu : X.A.units + 1 < cLine) (ho : PE X o td) (he : PE X e ty) (hf : PE X f tx) (m : M2 X o "setdefault" apos e f cpos) : PE X (.Call (.Attribute o "setdefault" apos) [e, f] [] cpos) (tDSetdT td ty tx) := by
  refine ⟨fun pins s σ H Q I h => ?_⟩
  refine wpAny_Call_method m.base m.few m.line PySem.F.plainAttrs_dict PySem.F.slot_dict_setdefault PySem.F.type_dict_setdefault (thn (ho.run pins s σ H _ I h) fun u s1 ⟨x, H1, I1, rx, a, ex, d, q1⟩ => ?_)
  subst ex
  obtain rfl : u = Value.ref a := rx
  obtain ⟨t1, t2, _⟩ := isD_at I1 d
  refine ⟨t1, t2, ?_⟩
  rw [m.trees]
  refine Calls.callWith_builtin rfl (Calls.evalArgs_plain (Calls.spliced_cons (thn (he.run pins s1 σ H1 _ I1 q1) fun iv s2 ⟨y, H2, I2, ry, q2⟩ => Calls.spliced_cons (thn (hf.run pins s2 σ H2 _ I2 q2) fun fv s3 ⟨z, H3, I3, rz, kvs, k, b, ea, ey, eb, hl, q3, q4⟩ => Calls.spliced_nil ?_))))
  subst ey
  obtain rfl : iv = Value.ref b := ry
  exact d_setdT hu I3 ea eb hl rz (fun v hv w' s4 I4 rw' => ⟨v, _, I4, rw', q3 v hv⟩) fun hn s4 I4 => ⟨z, _, I4, rz, q4 hn⟩
section
variable {T : Tx} {N : List Str} {sc : Scope} {k : Nat} {X : Cx} {σ σ1 σ2 : L2.St} {B H : Hp} {e o x : Expr} {pos : Pos} {dx : PyData} {D : Ends} {a : Addr} {p : Pl} {kvs : List (List Key × V)}
theorem js_setdApp (c : BCx T N sc k X) {ap1 ap2 cp1 cp2 lp : Pos} (hd : JV X o σ B (.ref a)) (hB : Same B H) (hBa : B a = none) (ha : H a = some (.dT kvs)) (he : JR X e σ B (.d (eP p))) (hx : JR X x σ B (.d dx)) (hl : kvs.length < 1000000)
    (h1 : ∀ v, valV kvs (kP p) = some v → ∃ r us, v = .ref r ∧ B r = none ∧ H r = some (.lst us) ∧ us.length < 1000000 ∧ ∀ u H1, Same H H1 → Im H1 u dx → D.nx σ (upd H1 r (.lst (us ++ [u]))))
    (h2 : valV kvs (kP p) = none → ∀ r u H4, H r = none → (∀ b o, b ≠ a → H b = some o → H4 b = some o) → H4 a = some (.dT (kvs ++ [(kP p, .ref r)])) → H4 r = some (.lst []) → Im H4 u dx → D.nx σ (upd H4 r (.lst [u])))
    (m : M2 X o "setdefault" ap1 e (.List [] lp) cp1)
    (hbase : attributeBase (.Call (.Attribute o "setdefault" ap1) [e, .List [] lp] [] cp1) "append" X.env (eval (.Call (.Attribute o "setdefault" ap1) [e, .List [] lp] [] cp1) X.env) = eval (.Call (.Attribute o "setdefault" ap1) [e, .List [] lp] [] cp1) X.env := by rfl)
    (hfew : ((backTo cp2 (starEach [x] X.env)).all (fun x => !x.1) && (backToKw cp2 (keywordEach [] X.env)).all (fun x => x.1.isSome) && decide ([x].length + ([] : List Keyword).length + (if ([] : List Keyword).isEmpty then 0 else 1) < 30)) = true := by rfl)
    (hline : (ap2.endLine == cp2.line) = true := by rfl) (hs : starEach [x] X.env = (false, eval x X.env) :: starEach [] X.env := by rfl)
    (hsw : swapsWith (.Call (.Attribute (.Call (.Attribute o "setdefault" ap1) [e, .List [] lp] [] cp1) "append" ap2) [x] [] cp2) none pos.line X.env = pure false := by rfl) :
    jS X (.Expr (.Call (.Attribute (.Call (.Attribute o "setdefault" ap1) [e, .List [] lp] [] cp1) "append" ap2) [x] [] cp2) pos) D σ H := by
  refine js_of (ps_expr (pe_bm PySem.F.plainAttrs_list PySem.F.slot_list_append PySem.F.type_list_append mt_append (pe_dsetdT c.hu pe_j pe_j (pe_lst pa_nil) m) (pa_cons pe_j pa_nil hs) hbase hfew hline hs rfl) hsw) ?_
  refine je_mono (hd H hB) fun v H1 ⟨s1, e1⟩ => ⟨a, e1, .inr ⟨kvs, .inl (s1 _ _ ha)⟩, je_mono (he H1 (hB.trans s1)) fun y H2 ⟨s2, p2⟩ => ⟨by show (0 : Nat) ≤ sizeLine; exact Nat.zero_le _, fun q hq => ?_⟩⟩
  obtain ⟨b, rfl, hb⟩ := im_kP p2
  have s12 := s1.trans s2
  have ha2 : upd H2 q (.lst []) a = some (.dT kvs) := by rw [upd_ne (ne_of_none (s12 _ _ ha) hq)]; exact s12 _ _ ha
  have nq : H q = none := s12.free hq
  refine ⟨kvs, kP p, b, ha2, rfl, by rw [upd_ne (ne_of_none hb hq)]; exact hb, Nat.lt_of_lt_of_le hl (by decide), fun v hv => ?_, fun hv => ?_⟩
  · obtain ⟨r, us, rfl, hBr, hr, hz, fin⟩ := h1 v hv
    have sn : Same H (upd H2 q (.lst [])) := s12.trans (Same.new hq)
    refine ⟨.inl ⟨rfl, us, SqL.of (sn _ _ hr)⟩, je_mono (hx _ (hB.trans sn)) fun u H3 ⟨s3, p3⟩ => ?_⟩
    exact ⟨r, us, u, rfl, rfl, s3 _ _ (sn _ _ hr), Nat.lt_of_lt_of_le hz (by decide), fin u H3 (sn.trans s3) p3⟩
  · have nqa : q ≠ a := fun z => by rw [z, ha] at nq; cases nq
    have key : ∀ H4, Same (upd (upd H2 q (.lst [])) a (.dT (putK kvs (kP p) (.ref q)))) H4 → ∀ b o, b ≠ a → H b = some o → H4 b = some o := fun H4 s4 b o hb' e => s4 _ _ (by rw [upd_ne hb', upd_ne (ne_of_none (s12 _ _ e) hq)]; exact s12 _ _ e)
    have sB : Same B (upd (upd H2 q (.lst [])) a (.dT (putK kvs (kP p) (.ref q)))) := fun b' o e' => by
      have nb : b' ≠ a := fun z => by rw [z, hBa] at e'; cases e'
      rw [upd_ne nb, upd_ne (ne_of_none (s12 _ _ (hB _ _ e')) hq)]
      exact s12 _ _ (hB _ _ e')
    have lq : upd (upd H2 q (.lst [])) a (.dT (putK kvs (kP p) (.ref q))) q = some (.lst []) := by rw [upd_ne nqa, upd_same]
    refine ⟨.inl ⟨rfl, [], SqL.of lq⟩, je_mono (hx _ sB) fun u H3 ⟨s3, p3⟩ => ?_⟩
    refine ⟨q, [], u, rfl, rfl, s3 _ _ lq, by show (0 : Nat) < sizeLine; decide, h2 hv q u H3 nq (key H3 s3) ?_ (s3 _ _ lq) p3⟩
    rw [← putK_new _ hv]
    exact s3 _ _ upd_same
end
/-! ### lands by their first cell -/
def hd (c : Pl) (land : List Pl) : Bool := decide (land.head? = some c)
def eLn (x : Pl × Addr) : List Key × V := (kP x.1, .ref x.2)
/-- begun_by's dict as it stands -/
def Bgn (H : Hp) (a : Addr) (lands : List (List Pl)) : Prop :=
  ∃ L : List (Pl × Addr), H a = some (.dT (L.map eLn)) ∧ (∀ x ∈ L, Ls H x.2 ((lands.filter (hd x.1)).map eL)) ∧ ∀ c, c ∉ L.map Prod.fst → lands.filter (hd c) = []
theorem Bgn.up {H H' : Hp} {a : Addr} {lands : List (List Pl)} (h : Bgn H a lands) (s : Same H H') : Bgn H' a lands :=
  let ⟨L, h1, h2, h3⟩ := h
  ⟨L, s _ _ h1, fun x hx => (h2 x hx).up s, h3⟩
/-- .. as it is made -/
def BgI (B H : Hp) (a : Addr) (lands : List (List Pl)) : Prop :=
  B a = none ∧ ∃ L : List (Pl × Addr), H a = some (.dT (L.map eLn)) ∧ L.length ≤ lands.length ∧ (L.map Prod.fst).Nodup ∧ (L.map Prod.snd).Nodup ∧ (∀ x ∈ L, Fl x.2 ((lands.filter (hd x.1)).map eL) B H) ∧ ∀ c, c ∉ L.map Prod.fst → lands.filter (hd c) = []
theorem BgI.grow {B H B2 H' : Hp} {a : Addr} {lands : List (List Pl)} (h : BgI B H a lands) (g : Grow B H B2 H') : BgI B2 H' a lands :=
  let ⟨h0, L, h1, h2, h3, h4, h5, h6⟩ := h
  ⟨g.out a _ h0 h1 (fun xs z => by cases z), L, g.up _ _ h1, h2, h3, h4, fun x hx => (h5 x hx).grow g, h6⟩
theorem valV_L (L : List (Pl × Addr)) (p : Pl) : valV (L.map eLn) (kP p) = (L.find? fun x => decide (x.1 = p)).map fun x => V.ref x.2 := by
  unfold valV
  induction L with
  | nil => rfl
  | cons x L ih =>
    rw [List.map_cons]
    by_cases h : x.1 = p
    · have e : (eLn x).1 = kP p := by rw [← h]; rfl
      simp [List.find?_cons, e, h, eLn]
    · have e : ¬ (eLn x).1 = kP p := fun z => h (kP_inj z)
      simp only [List.find?_cons, e, h, decide_false]
      exact ih
end Mead

set_option maxRecDepth 100000
set_option maxHeartbeats 4000000
/-! begun_by's steps -/
namespace Mead
open PySem PySem.Spec PyProof.Rows L2
/-- the base with the tuples -/
def tB (B H : Hp) : Hp := fun a => match B a with | some o => some o | none => match H a with | some (.tup ys) => some (.tup ys) | _ => none
theorem tB_ge {B H : Hp} : Same B (tB B H) := fun a o e => by simp only [tB, e]
theorem tB_le {B H : Hp} (h : Same B H) : Same (tB B H) H := fun a o e => by
  unfold tB at e
  cases e1 : B a with
  | some o' =>
    simp only [e1] at e
    cases e
    exact h _ _ e1
  | none =>
    simp only [e1] at e
    cases e2 : H a with
    | none => simp [e2] at e
    | some o' => cases o' <;> simp only [e2] at e <;> first | (cases e; rfl) | cases e
theorem tB_tk {B H : Hp} (h : Same B H) : TK H (tB B H) := fun a xs e => by
  unfold tB
  cases e1 : B a with
  | some o' => simp only; rw [h _ _ e1] at e; cases e; rfl
  | none => simp only [e]
theorem tB_none {B H : Hp} {a : Addr} {o : HO} (h : B a = none) (e : H a = some o) (hn : ∀ xs, o ≠ .tup xs) : tB B H a = none := by
  unfold tB
  rw [h]
  simp only [e]
  cases o <;> first | rfl | exact absurd rfl (hn _)
theorem hd_iff {c : Pl} {land : List Pl} (hne : land ≠ []) : hd c land = decide (land.getD 0 default = c) := by
  cases land with
  | nil => exact absurd rfl hne
  | cons a r => simp [hd]
theorem filter_snoc {α : Type} (P : α → Bool) (l : List α) (a : α) : (l ++ [a]).filter P = l.filter P ++ (if P a = true then [a] else []) := by
  rw [List.filter_append, List.filter_cons]
  by_cases h : P a = true <;> simp [h]
section
variable {B H H1 : Hp} {a : Addr} {lands : List (List Pl)} {land : List Pl} {u : V}
theorem find_snd {L : List (Pl × Addr)} {c : Pl} {r : Addr} (h : (L.find? fun x => decide (x.1 = c)).map (fun x => V.ref x.2) = some (.ref r)) : (c, r) ∈ L := by
  obtain ⟨x, hx, e⟩ := Option.map_eq_some_iff.mp h
  cases e
  have h1 := List.mem_of_find?_eq_some hx
  have h2 := List.find?_some hx
  have h2 : x.1 = c := of_decide_eq_true h2
  rw [← h2]
  exact h1
theorem BgI.step1 {L : List (Pl × Addr)} {c : Pl} {r : Addr} {us : List V} (hB : Same B H) (hBa : B a = none) (hL : H a = some (.dT (L.map eLn))) (len : L.length ≤ lands.length) (n1 : (L.map Prod.fst).Nodup) (n2 : (L.map Prod.snd).Nodup) (fl : ∀ x ∈ L, Fl x.2 ((lands.filter (hd x.1)).map eL) B H) (no : ∀ c, c ∉ L.map Prod.fst → lands.filter (hd c) = [])
    (hne : land ≠ []) (hc : land.getD 0 default = c) (hm : (c, r) ∈ L) (hr : H r = some (.lst us)) (s : Same H H1) (hu : Im H1 u (eL land)) : Same (tB B H1) (upd H1 r (.lst (us ++ [u]))) ∧ BgI (tB B H1) (upd H1 r (.lst (us ++ [u]))) a (lands ++ [land]) := by
  have hB1 := hB.trans s
  have nr : tB B H1 r = none := tB_none (fl _ hm).1 (s _ _ hr) (fun xs z => by cases z)
  have na : a ≠ r := fun z => by rw [z, hr] at hL; cases hL
  have S2 : Same (tB B H1) (upd H1 r (.lst (us ++ [u]))) := fun b o e => by
    rw [upd_ne (ne_of_none e nr)]
    exact tB_le hB1 _ _ e
  refine ⟨S2, tB_none hBa (s _ _ hL) (fun xs z => by cases z), L, by rw [upd_ne na]; exact s _ _ hL, by rw [List.length_append, List.length_singleton]; omega, n1, n2, fun x hx => ?_, fun c' hc' => ?_⟩
  · rw [filter_snoc, hd_iff hne, hc]
    by_cases e : x.2 = r
    · have ex : x = (c, r) := by
        have i1 := List.mem_iff_getElem?.mp hx
        have i2 := List.mem_iff_getElem?.mp hm
        obtain ⟨i, hi⟩ := i1
        obtain ⟨j, hj⟩ := i2
        have z1 := List.getElem?_eq_some_iff.mp hi
        have z2 := List.getElem?_eq_some_iff.mp hj
        have z3 : (L.map Prod.snd)[i]'(by rw [List.length_map]; exact z1.1) = (L.map Prod.snd)[j]'(by rw [List.length_map]; exact z2.1) := by
          rw [List.getElem_map, List.getElem_map, z1.2, z2.2]
          exact e
        have z4 := (List.getElem_inj n2).mp z3
        subst z4
        exact Option.some.inj (hi.symm.trans hj)
      subst ex
      obtain ⟨q1, vs, q2, q3⟩ := fl _ hm
      have ev : vs = us := by rw [hr] at q2; cases q2; rfl
      subst ev
      refine ⟨nr, _, upd_same, ?_⟩
      simp only [decide_true, if_true, List.map_append, List.map_cons, List.map_nil]
      exact (q3.up tB_ge).app (.one (hu.tk (tB_tk hB1)))
    · have ne : ¬ c = x.1 := fun z => by
        have : x = (c, r) := by
          obtain ⟨i, hi⟩ := List.mem_iff_getElem?.mp hx
          obtain ⟨j, hj⟩ := List.mem_iff_getElem?.mp hm
          have z1 := List.getElem?_eq_some_iff.mp hi
          have z2 := List.getElem?_eq_some_iff.mp hj
          have z3 : (L.map Prod.fst)[i]'(by rw [List.length_map]; exact z1.1) = (L.map Prod.fst)[j]'(by rw [List.length_map]; exact z2.1) := by
            rw [List.getElem_map, List.getElem_map, z1.2, z2.2]
            exact z.symm
          have z4 := (List.getElem_inj n1).mp z3
          subst z4
          exact Option.some.inj (hi.symm.trans hj)
        exact e (by rw [this])
      obtain ⟨q1, vs, q2, q3⟩ := fl x hx
      simp only [ne, decide_false, Bool.false_eq_true, if_false, List.append_nil]
      exact ⟨tB_none q1 (s _ _ q2) (fun xs z => by cases z), vs, by rw [upd_ne e]; exact s _ _ q2, q3.up tB_ge⟩
  · rw [filter_snoc, hd_iff hne, hc, no c' hc']
    have : ¬ c = c' := fun z => hc' (by rw [← z]; exact List.mem_map_of_mem (f := Prod.fst) hm)
    simp [this]
theorem BgI.step2 {L : List (Pl × Addr)} {c : Pl} {r : Addr} (hB : Same B H) (hBa : B a = none) (hL : H a = some (.dT (L.map eLn))) (len : L.length ≤ lands.length) (n1 : (L.map Prod.fst).Nodup) (n2 : (L.map Prod.snd).Nodup) (fl : ∀ x ∈ L, Fl x.2 ((lands.filter (hd x.1)).map eL) B H) (no : ∀ c, c ∉ L.map Prod.fst → lands.filter (hd c) = [])
    (hne : land ≠ []) (hc : land.getD 0 default = c) (hm : c ∉ L.map Prod.fst) (hr : H r = none) (s : ∀ b o, b ≠ a → H b = some o → H1 b = some o) (ha1 : H1 a = some (.dT (L.map eLn ++ [(kP c, .ref r)]))) (hr1 : H1 r = some (.lst [])) (hu : Im H1 u (eL land)) :
    Same (tB B H1) (upd H1 r (.lst [u])) ∧ BgI (tB B H1) (upd H1 r (.lst [u])) a (lands ++ [land]) := by
  have hB1 : Same B H1 := fun b o e => s b o (fun z => by rw [z, hBa] at e; cases e) (hB _ _ e)
  have nr : tB B H1 r = none := tB_none (hB.free hr) hr1 (fun xs z => by cases z)
  have na : a ≠ r := fun z => by rw [z, hr] at hL; cases hL
  have S2 : Same (tB B H1) (upd H1 r (.lst [u])) := fun b o e => by
    rw [upd_ne (ne_of_none e nr)]
    exact tB_le hB1 _ _ e
  refine ⟨S2, tB_none hBa ha1 (fun xs z => by cases z), L ++ [(c, r)], by rw [upd_ne na, List.map_append]; exact ha1, by simp only [List.length_append, List.length_singleton]; omega, ?_, ?_, fun x hx => ?_, fun c' hc' => ?_⟩
  · rw [List.map_append]
    refine List.nodup_append.mpr ⟨n1, by simp, fun x hx y hy e => hm ?_⟩
    have : y = c := by simpa using hy
    rw [← this, ← e]
    exact hx
  · rw [List.map_append]
    refine List.nodup_append.mpr ⟨n2, by simp, fun x hx y hy e => ?_⟩
    have hy : y = r := by simpa using hy
    obtain ⟨z, hz, rfl⟩ := List.mem_map.mp hx
    obtain ⟨_, vs, q2, _⟩ := fl z hz
    rw [e, hy, hr] at q2
    cases q2
  · rw [filter_snoc, hd_iff hne, hc]
    rcases List.mem_append.mp hx with hx | hx
    · have ne : ¬ c = x.1 := fun z => hm (by rw [z]; exact List.mem_map_of_mem (f := Prod.fst) hx)
      obtain ⟨q1, vs, q2, q3⟩ := fl x hx
      have e1 : x.2 ≠ r := fun z => by rw [z, hr] at q2; cases q2
      have e2 : x.2 ≠ a := fun z => by rw [z, hL] at q2; cases q2
      simp only [ne, decide_false, Bool.false_eq_true, if_false, List.append_nil]
      exact ⟨tB_none q1 (s _ _ e2 q2) (fun xs z => by cases z), vs, by rw [upd_ne e1]; exact s _ _ e2 q2, q3.up tB_ge⟩
    · have ex : x = (c, r) := by simpa using hx
      subst ex
      rw [no c hm]
      refine ⟨nr, _, upd_same, ?_⟩
      simp only [decide_true, if_true, List.nil_append, List.map_cons, List.map_nil]
      exact .one (hu.tk (tB_tk hB1))
  · rw [List.map_append, List.mem_append, not_or] at hc'
    rw [filter_snoc, hd_iff hne, hc, no c' hc'.1]
    have : ¬ c = c' := fun z => hc'.2 (by simp [z])
    simp [this]
end
end Mead

set_option maxRecDepth 100000
set_option maxHeartbeats 4000000
/-! walks over lists of things that are not data alone -/
namespace Mead
open PySem PySem.Spec PyProof.Rows L2
def SRCw {α : Type} (X : Cx) (tg iter : Expr) (σ : L2.St) (B : Hp) (Pv : α → V → Hp → Prop) (as : List α) : Prop :=
  ∃ wi, PI X tg iter wi ∧ ∀ H, Same B H → ∀ R : It → Hp → Prop,
    (∀ J B1 H1, Grow B H B1 H1 → Walk J as.length (fun H' => Same B1 H') (fun i H' v H'' => Same H' H'' ∧ ∃ a, as[i]? = some a ∧ ∀ B', Same B1 B' → TK H'' B' → Pv a v B') → R J H1) → wi σ H R
def LsG {α : Type} (H : Hp) (p : Addr) (Pv : α → V → Hp → Prop) (as : List α) : Prop := ∃ vs, H p = some (.lst vs) ∧ Paired (fun a v => Pv a v H) as vs
section
variable {T : Tx} {N : List Str} {sc : Scope} {k : Nat} {X : Cx} {σ σ1 σ2 : L2.St} {B H : Hp} {a b e : Expr} {es : List Expr} {pos : Pos} {x y d : PyData} {ds : List PyData} {D : Ends} {body : List Stmt} {α : Type} {Pv : α → V → Hp → Prop} {as : List α}
theorem src_w {enc : α → PyData} {tg iter : Expr} (h : SRC X tg iter σ B (as.map enc)) : SRCw X tg iter σ B (fun a v H => Im H v (enc a)) as := by
  obtain ⟨wi, hi, hw⟩ := h
  refine ⟨wi, hi, fun H s R hR => hw H s R fun J B1 H1 g w => hR J B1 H1 g ?_⟩
  rw [List.length_map] at w
  refine w.mono (fun _ k => k) fun i H' v H'' _ _ ⟨s1, d, e1, e2⟩ => ?_
  rw [List.getElem?_map] at e1
  obtain ⟨a, ha, rfl⟩ := Option.map_eq_some_iff.mp e1
  exact ⟨s1, a, ha, fun B' _ k => e2.tk k⟩
theorem paired_get' {β : Type} {R : α → β → Prop} : ∀ {l : List α} {m : List β} {i : Nat} {y : β}, Paired R l m → m[i]? = some y → ∃ a, l[i]? = some a ∧ R a y
  | _, _, _, _, .nil, e => by simp at e
  | _, _, 0, _, .cons r _, e => by simp at e; subst e; exact ⟨_, rfl, r⟩
  | _, _, i + 1, _, .cons _ t, e => by
    obtain ⟨a, h1, h2⟩ := paired_get' (i := i) t (by simpa using e)
    exact ⟨a, by simpa using h1, h2⟩
/-- a list that stands, in the base or out of it -/
theorem src_lw {tg : Expr} {p : Addr} (up : ∀ a v B1 B2, Same B1 B2 → Pv a v B1 → Pv a v B2) (h : JV X e σ B (.ref p)) (q : LsG B p Pv as) : SRCw X tg e σ B Pv as := by
  obtain ⟨vs, q1, q2⟩ := q
  refine ⟨_, pi_list pe_j, fun H s R hR => je_mono (h H s) fun v H1 ⟨s1, e1⟩ => ?_⟩
  have g := grow s s1
  refine ⟨p, e1, ⟨vs, SqL.of (s1 _ _ (s _ _ q1))⟩, hR _ _ H1 g ?_⟩
  have w := walk_list (K := X.K) (a := p) (xs := vs)
  rw [← paired_len q2] at w
  refine w.mono (fun H' k => SqL.of (k _ _ (g.base _ _ q1))) fun i H' v H'' _ k ⟨e, hv⟩ => ?_
  subst e
  obtain ⟨a, h1, h2⟩ := paired_get' q2 hv
  exact ⟨Same.refl _, a, h1, fun B' s' _ => up _ _ _ _ (g.base.trans s') h2⟩
/-- the reading of a comprehension -/
theorem lc_readW (c : BCx T N sc k X) {α : Type} {as : List α} {Pv : α → V → Hp → Prop} {p : α → Bool} {Pe : α → V → Hp → Prop} {tg iter elt : Expr} {ifs : List Expr} {scope : Scope} {own : List (Str × Nat)}
    (up : ∀ a v B1 B2, Same B1 B2 → Pe a v B1 → Pe a v B2) (S : SRCw X tg iter σ B Pv as) (hb : blkC N sc scope own = true) (hz : as.length ≤ sizeLine)
    (turn : ∀ (i : Nat) (a : α) (v : V) (B2 : Hp), as[i]? = some a → Same B B2 → Pv a v B2 → ∃ σ2, wipe σ2 (own.map (·.2)) = wipe σ (own.map (·.2)) ∧ ∀ X', BCx T N (relS scope sc) k X' → X'.fn = (fun z => scope.names.lookup z == some .cell) →
      TGT X' tg v (wipe σ (own.map (·.2))) B2 σ2 ∧ JIf X' ifs σ2 B2 (p a) ∧ (p a = true → EX X' elt σ2 B2 fun H1 u H2 => ∀ B3, Grow B2 H1 B3 H2 → Pe a u B3)) :
    ∃ wi, PI X tg iter wi ∧ ∀ H, Same B H → ∀ Q : VK, (∀ q acc H2 B2, Same B B2 → Same B2 H2 → Same H H2 → H q = none → B2 q = none → H2 q = some (.lst acc) → (∀ a o, B a = none → H a = some o → (∀ xs, o ≠ .tup xs) → B2 a = none) → Paired (fun a u => Pe a u B2) (as.filter p) acc → Q (.ref q) H2) → tLc wi (bG X scope tg) (bT X scope ifs) (bE X scope elt) (own.map (·.2)) σ H Q := by
  have hbk : BlkOk X.N X.env.scope scope own := by
    rw [c.hN, c.hs]
    exact blkOk_by hb
  obtain ⟨wi, hi, hw⟩ := S
  refine ⟨wi, hi, fun H s Q hQ => ?_⟩
  have hX : ∀ {X'}, Blk X scope X' → BCx T N (relS scope sc) k X' ∧ X'.fn = (fun z => scope.names.lookup z == some .cell) := fun {X'} ⟨s, H, C, cl, fp, e⟩ => by
    subst e
    exact ⟨c.blk hbk.kind s H C cl fp, rfl⟩
  refine hw H s _ fun J B1 H1 g w D hD => ?_
  -- the base at turn i
  have nD : B1 D = none := g.ins.free hD
  refine lc_it (g := bG X scope tg) (tt := bT X scope ifs) (te := bE X scope elt) (vs := own.map (·.2)) (σ := σ) w (fun i H' => ∃ Bi acc, Same B1 Bi ∧ Same Bi H' ∧ Bi D = none ∧ H' D = some (.lst acc) ∧ Paired (fun a u => Pe a u Bi) ((as.take i).filter p) acc ∧ acc.length ≤ i ∧ Same H H' ∧ ∀ a o, B a = none → H a = some o → (∀ xs, o ≠ .tup xs) → Bi a = none)
    ⟨B1, [], Same.refl _, g.ins.trans (Same.new hD), nD, upd_same, .nil, Nat.le_refl _, g.up.trans (Same.new hD), g.out⟩ (fun i H' _ ⟨Bi, acc, h1, h2, _⟩ => h1.trans h2) ?_ ?_
  · rintro i v H' H'' hi ⟨Bi, acc, h1, h2, h3, h4, h5, h6, h7, h0⟩ ⟨s1, a, ha, e2⟩
    have g2 := grow h2 s1
    have o2 : ∀ a o, B a = none → H a = some o → (∀ xs, o ≠ .tup xs) → gB Bi H' H'' a = none := fun a o e1 e2 e3 => g2.out a o (h0 a o e1 e2 e3) (h7 _ _ e2) e3
    have nD2 : gB Bi H' H'' D = none := g2.out D _ h3 h4 (fun xs z => by cases z)
    have h8 : H'' D = some (.lst acc) := s1 _ _ h4
    obtain ⟨σ2, e3, q⟩ := turn i a v _ ha (g.base.trans (h1.trans g2.base)) (e2 _ (h1.trans g2.base) g2.tk)
    intro X' hX'
    refine (q X' (hX hX').1 (hX hX').2).1 H'' _ g2.ins ⟨e3, fun X2 hX2 => ?_⟩
    refine jif_mono ((q X2 (hX hX2).1 (hX hX2).2).2.1 H'' g2.ins) fun z H3 ⟨s3, ez⟩ => ?_
    rw [ez]
    cases hp : p a with
    | false =>
      refine iteF ⟨gB Bi H' H'', acc, h1.trans g2.base, g2.ins.trans s3, nD2, s3 _ _ h8, ?_, Nat.le_succ_of_le h6, h7.trans (s1.trans s3), o2⟩
      rw [take_at ha, List.filter_append, List.filter_cons, if_neg (by rw [hp]; decide)]
      rw [List.filter_nil, List.append_nil]
      exact paired_imp h5 fun a u hu => up _ _ _ _ g2.base hu
    | true =>
      refine iteT fun X3 hX3 => je_mono ((q X3 (hX hX3).1 (hX hX3).2).2.2 hp H3 (g2.ins.trans s3)) fun u H4 ⟨s4, pu⟩ => ?_
      have g4 := grow (g2.ins.trans s3) s4
      have nD4 : gB (gB Bi H' H'') H3 H4 D = none := g4.out D _ nD2 (s3 _ _ h8) (fun xs z => by cases z)
      have h9 : H4 D = some (.lst acc) := s4 _ _ (s3 _ _ h8)
      have hal : acc.length < sizeLine := by have := (List.getElem?_eq_some_iff.mp ha).1; omega
      refine ⟨acc, h9, hal, gB (gB Bi H' H'') H3 H4, acc ++ [u], (h1.trans g2.base).trans g4.base, fun b o hb => ?_, nD4, upd_same, ?_, by simp; omega, fun b o hb => ?_, fun a o e1 e2 e3 => g4.out a o (o2 a o e1 e2 e3) (s3 _ _ (s1 _ _ (h7 _ _ e2))) e3⟩
      · rw [upd_ne (ne_of_none hb nD4)]
        exact g4.ins b o hb
      · rw [take_at ha, List.filter_append, List.filter_cons, if_pos (by rw [hp])]
        exact paired_app (paired_imp h5 fun a u hu => up _ _ _ _ (g2.base.trans g4.base) hu) (.cons (pu _ g4) .nil)
      · rw [upd_ne (fun z => by subst z; rw [g.up.free hD] at hb; cases hb)]
        exact s4 _ _ (s3 _ _ (s1 _ _ (h7 _ _ hb)))
  · rintro H' ⟨Bi, acc, h1, h2, h3, h4, h5, h6, h7, h0⟩
    rw [List.take_length] at h5
    exact hQ D acc H' Bi (g.base.trans h1) h2 h7 (g.up.free hD) h3 h4 h0 h5

theorem j_lcW (c : BCx T N sc k X) {α : Type} {as : List α} {Pv : α → V → Hp → Prop} {p : α → Bool} {Pe : α → V → Hp → Prop} {tg iter elt : Expr} {ifs : List Expr} {scope : Scope} {own : List (Str × Nat)}
    (up : ∀ a v B1 B2, Same B1 B2 → Pe a v B1 → Pe a v B2) (S : SRCw X tg iter σ B Pv as) (hb : blkC N sc scope own = true) (hz : as.length ≤ sizeLine)
    (turn : ∀ (i : Nat) (a : α) (v : V) (B2 : Hp), as[i]? = some a → Same B B2 → Pv a v B2 → ∃ σ2, wipe σ2 (own.map (·.2)) = wipe σ (own.map (·.2)) ∧ ∀ X', BCx T N (relS scope sc) k X' → X'.fn = (fun z => scope.names.lookup z == some .cell) →
      TGT X' tg v (wipe σ (own.map (·.2))) B2 σ2 ∧ JIf X' ifs σ2 B2 (p a) ∧ (p a = true → EX X' elt σ2 B2 fun H1 u H2 => ∀ B3, Grow B2 H1 B3 H2 → Pe a u B3))
    (hf : ∀ z, foldedSetIterable iter X.env z = pure z := by intro _; rfl) :
    EX X (.ListComp elt [⟨tg, iter, ifs, 0⟩] scope pos) σ B fun H1 v H2 => ∃ q acc, v = .ref q ∧ H1 q = none ∧ H2 q = some (.lst acc) ∧ Paired (fun a u => Pe a u H2) (as.filter p) acc := by
  have hbk : BlkOk X.N X.env.scope scope own := by
    rw [c.hN, c.hs]
    exact blkOk_by hb
  obtain ⟨wi, hi, hw⟩ := lc_readW c up S hb hz turn
  exact fun H s => je_of (pe_lc (own := own) (g := bG X scope tg) (tt := bT X scope ifs) (te := bE X scope elt)
    c.calm (by rw [c.hN]; exact c.nd) hi hbk (fun s H C cl fp => ⟨fun pins st σ _ v u Q I r h => h _ ⟨s, H, C, cl, fp, rfl⟩ pins st u I r⟩) (fun s H C cl fp => ⟨fun pins st σ _ Q I h => h _ ⟨s, H, C, cl, fp, rfl⟩ pins st I⟩)
    (fun s H C cl fp => ⟨fun pins st σ _ Q I h => h _ ⟨s, H, C, cl, fp, rfl⟩ pins st I⟩) hf) (hw H s _ fun q acc H2 B2 _ b2 s2 n _ e _ h => ⟨s2, q, acc, rfl, n, e, paired_imp h fun a u hu => up _ _ _ _ b2 hu⟩)
/-- data of things -/
theorem ja_lcW (c : BCx T N sc k X) {p : α → Bool} {f : α → PyData} {tg iter elt : Expr} {ifs : List Expr} {scope : Scope} {own : List (Str × Nat)}
    (S : SRCw X tg iter σ B Pv as) (hb : blkC N sc scope own = true) (hz : as.length ≤ sizeLine)
    (turn : ∀ (i : Nat) (a : α) (v : V) (B2 : Hp), as[i]? = some a → Same B B2 → Pv a v B2 → ∃ σ2, wipe σ2 (own.map (·.2)) = wipe σ (own.map (·.2)) ∧ ∀ X', BCx T N (relS scope sc) k X' → X'.fn = (fun z => scope.names.lookup z == some .cell) →
      TGT X' tg v (wipe σ (own.map (·.2))) B2 σ2 ∧ JIf X' ifs σ2 B2 (p a) ∧ (p a = true → JR X' elt σ2 B2 (.d (f a))))
    (hf : ∀ z, foldedSetIterable iter X.env z = pure z := by intro _; rfl) :
    JA X (.ListComp elt [⟨tg, iter, ifs, 0⟩] scope pos) σ B (.l ((as.filter p).map f)) := by
  refine EX.imp (j_lcW c (Pe := fun a v H => Im H v (f a)) (fun a v B1 B2 s h => h.up s) S hb hz (fun i a v B2 ha s hv => ?_) hf) fun H1 v H2 ⟨q, acc, e1, e2, e3, e4⟩ => ⟨q, e1, e2, acc, e3, im_of_paired e4⟩
  obtain ⟨σ2, w, t⟩ := turn i a v B2 ha s hv
  exact ⟨σ2, w, fun X' c' f' => ⟨(t X' c' f').1, (t X' c' f').2.1, fun hp => EX.imp ((t X' c' f').2.2 hp) fun H1 u H2 q B3 g => Im.tk q g.tk⟩⟩
/-- name = [..] of data, on one line -/
theorem js_setLc (c : BCx T N sc k X) {enc : α → PyData} {p : α → Bool} {f : α → PyData} {tg iter elt : Expr} {ifs : List Expr} {scope : Scope} {own : List (Str × Nat)} {i : Nat} {z : Str} {pz spos : Pos} (hN : N[i]? = some z) (hl : loc sc z = true)
    (S : SRC X tg iter σ B (as.map enc)) (hb : blkC N sc scope own = true) (hz : as.length ≤ 1000000)
    (turn : ∀ (i : Nat) (a : α) (v : V) (B2 : Hp), as[i]? = some a → Same B B2 → Im B2 v (enc a) → ∃ σ2, wipe σ2 (own.map (·.2)) = wipe σ (own.map (·.2)) ∧ ∀ X', BCx T N (relS scope sc) k X' → X'.fn = (fun z => scope.names.lookup z == some .cell) →
      TGT X' tg v (wipe σ (own.map (·.2))) B2 σ2 ∧ JIf X' ifs σ2 B2 (p a) ∧ (p a = true → JR X' elt σ2 B2 (.d (f a))))
    (hB : Same B H) (fin : ∀ v B1 H1, Grow B H B1 H1 → (Ar.l ((as.filter p).map f)).rep B1 v → D.nx (σ.set i (some v)) H1)
    (hsw : swapsWith (.ListComp elt [⟨tg, iter, ifs, 0⟩] scope pos) (some (.Name z pz)) spos.line { X.env with scope := sc } = pure true := by rfl)
    (hf : ∀ z, foldedSetIterable iter X.env z = pure z := by intro _; rfl) : jS X (.Assign [.Name z pz] (.ListComp elt [⟨tg, iter, ifs, 0⟩] scope pos) spos) D σ H := by
  refine js_setLcG c hN hl (Pe := fun a v H => Im H v (f a)) (fun a v B1 B2 s h => h.up s) S hb hz (fun i a v B2 ha s hv => ?_) hB (fun q acc H2 s2 n e h => fin _ _ H2 (grow hB s2) ((grow hB s2).res (r := .l ((as.filter p).map f)) ⟨q, rfl, n, acc, e, im_of_paired h⟩)) hsw hf
  obtain ⟨σ2, w, t⟩ := turn i a v B2 ha s hv
  exact ⟨σ2, w, fun X' c' f' => ⟨(t X' c' f').1, (t X' c' f').2.1, fun hp => EX.imp ((t X' c' f').2.2 hp) fun H1 u H2 q B3 g => Im.tk q g.tk⟩⟩
/-- for over such a list -/
theorem js_forW (c : BCx T N sc k X) {tg iter : Expr} (S : SRCw X tg iter σ B Pv as) (hB : Same B H) (Iv : Nat → Hp → L2.St → Hp → Prop)
    (stay : ∀ i Bi B2 σ' H' H'', Same B Bi → Same Bi H' → Grow Bi H' B2 H'' → Iv i Bi σ' H' → Iv i B2 σ' H'')
    (h0 : Iv 0 B σ H)
    (turn : ∀ B1, Same B B1 → ∀ i a σ' H' v Bi, as[i]? = some a → Same B1 Bi → Same Bi H' → Iv i Bi σ' H' → Pv a v Bi → jG X tg v σ' H' fun σ2 H2 => jSs X body { D with nx := LpS B1 (Iv (i + 1)), ct := LpS B1 (Iv (i + 1)), bk := D.nx } σ2 H2)
    (fin : ∀ σ' H' Bi, Same B Bi → Same Bi H' → Iv as.length Bi σ' H' → D.nx σ' H')
    (hf : ∀ z, foldedSetIterable iter X.env z = pure z := by intro _; rfl) : jS X (.For tg iter body [] pos) D σ H := by
  obtain ⟨wi, hi, hw⟩ := S
  refine js_of (ps_for c.never c.calm hi pg_j pss_j hf) (hw H hB _ fun J B1 H1 g w => ?_)
  refine for_it w (fun i σ' H' => ∃ Bi, Same B1 Bi ∧ Same Bi H' ∧ Iv i Bi σ' H') ⟨B1, Same.refl _, g.ins, stay 0 B B1 σ H H1 (Same.refl _) hB g h0⟩ (fun i σ' H' _ ⟨Bi, h1, h2, _⟩ => h1.trans h2) ?_ ?_
  · rintro i v σ' H' H'' hi ⟨Bi, h1, h2, h3⟩ ⟨s, a, ha, hv⟩
    have g3 := grow h2 s
    exact turn B1 g.base i a σ' H'' v (gB Bi H' H'') ha (h1.trans g3.base) g3.ins (stay i Bi _ σ' H' H'' (g.base.trans h1) h2 g3 h3) (hv _ (h1.trans g3.base) g3.tk)
  · rintro σ' H' ⟨Bi, h1, h2, h3⟩
    exact fin σ' H' Bi (g.base.trans h1) h2 h3
/-- name = [..] of things, on one line -/
theorem js_setLcW (c : BCx T N sc k X) {p : α → Bool} {Pe : α → V → Hp → Prop} {tg iter elt : Expr} {ifs : List Expr} {scope : Scope} {own : List (Str × Nat)} {i : Nat} {z : Str} {pz spos : Pos} (hN : N[i]? = some z) (hl : loc sc z = true)
    (up : ∀ a v B1 B2, Same B1 B2 → Pe a v B1 → Pe a v B2) (S : SRCw X tg iter σ B Pv as) (hb : blkC N sc scope own = true) (hz : as.length ≤ sizeLine)
    (turn : ∀ (i : Nat) (a : α) (v : V) (B2 : Hp), as[i]? = some a → Same B B2 → Pv a v B2 → ∃ σ2, wipe σ2 (own.map (·.2)) = wipe σ (own.map (·.2)) ∧ ∀ X', BCx T N (relS scope sc) k X' → X'.fn = (fun z => scope.names.lookup z == some .cell) →
      TGT X' tg v (wipe σ (own.map (·.2))) B2 σ2 ∧ JIf X' ifs σ2 B2 (p a) ∧ (p a = true → EX X' elt σ2 B2 fun H1 u H2 => ∀ B3, Grow B2 H1 B3 H2 → Pe a u B3))
    (hB : Same B H) (fin : ∀ q B2 H2, Same B B2 → Same B2 H2 → Same H H2 → LsG B2 q Pe (as.filter p) → (∀ a o, B a = none → H a = some o → (∀ xs, o ≠ .tup xs) → B2 a = none) → D.nx (σ.set i (some (.ref q))) H2)
    (hsw : swapsWith (.ListComp elt [⟨tg, iter, ifs, 0⟩] scope pos) (some (.Name z pz)) spos.line { X.env with scope := sc } = pure true := by rfl)
    (hf : ∀ z, foldedSetIterable iter X.env z = pure z := by intro _; rfl) : jS X (.Assign [.Name z pz] (.ListComp elt [⟨tg, iter, ifs, 0⟩] scope pos) spos) D σ H := by
  have hbk : BlkOk X.N X.env.scope scope own := by
    rw [c.hN, c.hs]
    exact blkOk_by hb
  obtain ⟨wi, hi, hw⟩ := lc_readW c up S hb hz turn
  refine js_of (ps_setLc (i := i) (own := own) (g := bG X scope tg) (tt := bT X scope ifs) (te := bE X scope elt) c.calm (by rw [c.hN]; exact c.nd) (by rw [c.hN]; exact hN) (by rw [c.hs]; exact loc_of hl) ((sw_with c.hs).trans hsw) hi hbk
    (fun s H C cl fp => ⟨fun pins st σ _ v u Q I r h => h _ ⟨s, H, C, cl, fp, rfl⟩ pins st u I r⟩) (fun s H C cl fp => ⟨fun pins st σ _ Q I h => h _ ⟨s, H, C, cl, fp, rfl⟩ pins st I⟩)
    (fun s H C cl fp => ⟨fun pins st σ _ Q I h => h _ ⟨s, H, C, cl, fp, rfl⟩ pins st I⟩) hf) (hw H hB _ fun q acc H2 B2 b1 b2 s2 n n2 e o h => ?_)
  refine fin q (upd B2 q (.lst acc)) H2 (b1.trans (Same.new n2)) (fun a u ea => ?_) s2 ⟨acc, upd_same, paired_imp h fun a u hu => up _ _ _ _ (Same.new n2) hu⟩ (fun a u e1 e2 e3 => ?_)
  · by_cases ha : a = q
    · subst ha
      rw [upd_same] at ea
      cases ea
      exact e
    · rw [upd_ne ha] at ea
      exact b2 _ _ ea
  · rw [upd_ne (ne_of_none e2 n)]
    exact o a u e1 e2 e3
end
end Mead

set_option maxRecDepth 100000
set_option maxHeartbeats 4000000
/-! lines of a parting that is searched -/
namespace Mead
open PySem PySem.Spec PyProof.Rows L2
abbrev Line := List (Pl × Int) × List Int
/-- H0: where the dict was not yet -/
def PeLn (H0 : Hp) (a : Line) (v : V) (H : Hp) : Prop := ∃ p d u, v = .ref p ∧ H p = some (.tup [.ref d, u]) ∧ H0 d = none ∧ H d = some (.dT (a.1.map eKV)) ∧ Im H u (eR a.2)
theorem PeLn.up {H0 : Hp} {a : Line} {v : V} {B1 B2 : Hp} (s : Same B1 B2) (h : PeLn H0 a v B1) : PeLn H0 a v B2 :=
  let ⟨p, d, u, e, h1, h0, h2, h3⟩ := h
  ⟨p, d, u, e, s _ _ h1, h0, s _ _ h2, h3.up s⟩
theorem PeLn.grow {B H1 B3 H2 : Hp} {a : Line} {v : V} (g : Grow B H1 B3 H2) (h : PeLn H1 a v H2) : PeLn (fun _ => none) a v B3 :=
  let ⟨p, d, u, e, h1, h0, h2, h3⟩ := h
  ⟨p, d, u, e, g.tk _ _ h1, rfl, g.new _ _ h0 h2, h3.tk g.tk⟩
theorem PeLn.back {H0 H1 H2 : Hp} {a : Line} {v : V} (s : Same H0 H1) (h : PeLn H1 a v H2) : PeLn H0 a v H2 :=
  let ⟨p, d, u, e, h1, h0, h2, h3⟩ := h
  ⟨p, d, u, e, h1, s.free h0, h2, h3⟩
/-- the dict known at a base -/
def PeLnB (Bd H0 : Hp) (a : Line) (v : V) (H : Hp) : Prop := ∃ p d u, v = .ref p ∧ H p = some (.tup [.ref d, u]) ∧ H0 d = none ∧ Bd d = some (.dT (a.1.map eKV)) ∧ Im H u (eR a.2)
theorem PeLnB.up {Bd H0 : Hp} {a : Line} {v : V} {B1 B2 : Hp} (s : Same B1 B2) (h : PeLnB Bd H0 a v B1) : PeLnB Bd H0 a v B2 :=
  let ⟨p, d, u, e, h1, h0, h2, h3⟩ := h
  ⟨p, d, u, e, s _ _ h1, h0, h2, h3.up s⟩
theorem PeLnB.to {Bd H0 H2 B3 : Hp} {a : Line} {v : V} (s : Same Bd B3) (k : TK H2 B3) (h : PeLnB Bd H0 a v H2) : PeLn H0 a v B3 :=
  let ⟨p, d, u, e, h1, h0, h2, h3⟩ := h
  ⟨p, d, u, e, k _ _ h1, h0, s _ _ h2, h3.tk k⟩
def OwnO0 (H0 H : Hp) (v : V) : Option (List (Pl × Int)) → Prop
  | none => v = .non
  | some l => ∃ q, v = .ref q ∧ H0 q = none ∧ H q = some (.dT (l.map eKV))
theorem OwnO0.up {H0 H H' : Hp} {v : V} : ∀ {o : Option (List (Pl × Int))}, OwnO0 H0 H v o → Same H H' → OwnO0 H0 H' v o
  | none, h, _ => h
  | some _, ⟨q, e, n, h⟩, s => ⟨q, e, n, s _ _ h⟩
theorem OwnN.base0 {H0 B H B1 H1 : Hp} {v : V} (s : Same H0 H) (g : Grow B H B1 H1) : ∀ {o : Option (List (Pl × Int))}, OwnN H v H1 o → OwnO0 H0 B1 v o
  | none, h => h
  | some _, ⟨q, e, n, h⟩ => ⟨q, e, s.free n, g.new _ _ n h⟩
def BegF (B : Hp) (a : Addr) (hs : List Int) (lf : Int → List (List Pl)) : Prop :=
  ∃ od kvs, B a = some (.frz od (.dK kvs)) ∧ kvs.map (·.1) = hs.map Sum.inl ∧ ∀ h ∈ hs, ∃ r, valV kvs (.inl h) = some (.ref r) ∧ Bgn B r (lf h)
theorem BegF.up {B H : Hp} {a : Addr} {hs : List Int} {lf : Int → List (List Pl)} (h : BegF B a hs lf) (s : Same B H) : BegF H a hs lf :=
  let ⟨od, kvs, h1, h2, h3⟩ := h
  ⟨od, kvs, s _ _ h1, h2, fun i hi => let ⟨r, q1, q2⟩ := h3 i hi; ⟨r, q1, q2.up s⟩⟩
theorem paired_map {α β γ : Type} {R : β → γ → Prop} {f : α → β} : ∀ {l : List α} {m : List γ}, Paired (fun a v => R (f a) v) l m → Paired R (l.map f) m
  | _, _, .nil => .nil
  | _, _, .cons r t => .cons r (paired_map t)
theorem paired_of_map {α β γ : Type} {R : β → γ → Prop} {f : α → β} : ∀ {l : List α} {m : List γ}, Paired R (l.map f) m → Paired (fun a v => R (f a) v) l m
  | [], _, h => by cases h; exact .nil
  | a :: l, _, h => by
    have h' : Paired R (f a :: l.map f) _ := h
    cases h' with
    | cons r t => exact .cons r (paired_of_map t)
def goneAt (lf : Int → List (List Pl)) (ln : Line) (c0 : Pl) (h : Int) : List Line :=
  if h ∈ ln.2 then [] else ((((lf h).filter (hd c0)).map fun land => dealtOn ln.1 land h).filter Option.isSome).map fun o => (o.getD [], ln.2 ++ [h])
def leftOf (cells : List Pl) (ln : Line) : List Pl := cells.filter fun c => !(look ln.1 c).isSome
def goneOn (cells : List Pl) (hs : List Int) (lf : Int → List (List Pl)) (ln : Line) : List Line :=
  match leftOf cells ln with
  | [] => []
  | c0 :: _ => (hs.map (goneAt lf ln c0)).flatten
/-- a list of lines that is filled -/
def FlL (H0 : Hp) (p : Addr) (F : List Line) (B H : Hp) : Prop := B p = none ∧ ∃ vs, H p = some (.lst vs) ∧ Paired (fun a v => PeLn H0 a v B) F vs
theorem FlL.grow {H0 : Hp} {p : Addr} {F : List Line} {B H B2 H' : Hp} (h : FlL H0 p F B H) (g : Grow B H B2 H') : FlL H0 p F B2 H' :=
  let ⟨h1, vs, h2, h3⟩ := h
  ⟨g.out p _ h1 h2 (fun xs z => by cases z), vs, g.up _ _ h2, paired_imp h3 fun _ _ q => q.up g.base⟩
section
variable {T : Tx} {N : List Str} {sc : Scope} {k : Nat} {X : Cx} {σ σ1 σ2 : L2.St} {B H : Hp} {a b e o : Expr} {es : List Expr} {pos : Pos} {x y d : PyData} {ds : List PyData} {D : Ends}
theorem jlb_or (h : EX X e σ B fun H1 v H2 => ∃ p, v = .ref p ∧ (Ls B p ds ∨ (H1 p = none ∧ Ls H2 p ds))) : JLB X e σ B ds := fun H s => je_mono (h H s) fun v H1 ⟨s1, p, e, q⟩ => by
  have g := grow s s1
  rcases q with q | ⟨n, q⟩
  · exact ⟨p, _, e, g, q.up g.base⟩
  · obtain ⟨p', e', q'⟩ := g.res (r := .l ds) ⟨p, e, n, q⟩
    rw [e] at e'
    cases e'
    exact ⟨p, _, e, g, q'⟩
theorem cm_nonV {v : V} : CmpA X .IsNot B (fun u _ => u = v) (Rp (.d .none)) (!decide (v = .non)) :=
  ⟨_, op_notN, fun H1 u H2 w H3 _ s2 s3 p2 p3 Q z => ⟨Im.isNon p3, by rw [p2]; exact z⟩⟩
theorem cm_isV {v : V} : CmpA X .Is B (fun u _ => u = v) (Rp (.d .none)) (decide (v = .non)) :=
  ⟨_, op_isN, fun H1 u H2 w H3 _ s2 s3 p2 p3 Q z => ⟨Im.isNon p3, by rw [p2]; exact z⟩⟩
/-- xs.extend(e), of lines -/
theorem js_extL (c : BCx T N sc k X) {apos cpos : Pos} {H0 : Hp} {p : Addr} {F G : List Line} (ho : JV X o σ B (.ref p)) (hB : Same B H) (hF : FlL H0 p F B H) (h : EX X e σ B fun H1 v H2 => ∃ b us, v = .ref b ∧ H1 b = none ∧ H2 b = some (.lst us) ∧ ∀ B3, Grow B H1 B3 H2 → Paired (fun a u => PeLn H0 a u B3) G us) (hl : F.length + G.length ≤ sizeLine)
    (q : ∀ B1 H1, Same B B1 → Same B1 H1 → FlL H0 p (F ++ G) B1 H1 → D.nx σ H1)
    (hbase : attributeBase o "extend" X.env (eval o X.env) = eval o X.env := by rfl)
    (hfew : ((backTo cpos (starEach [e] X.env)).all (fun x => !x.1) && (backToKw cpos (keywordEach [] X.env)).all (fun x => x.1.isSome) && decide ([e].length + ([] : List Keyword).length + (if ([] : List Keyword).isEmpty then 0 else 1) < 30)) = true := by rfl)
    (hline : (apos.endLine == cpos.line) = true := by rfl) (hs : starEach [e] X.env = (false, eval e X.env) :: starEach [] X.env := by rfl) : jS X (.Expr (.Call (.Attribute o "extend" apos) [e] [] cpos) pos) D σ H := by
  obtain ⟨h1, vs, h2, h3⟩ := hF
  refine js_of (ps_expr (pe_bm PySem.F.plainAttrs_list PySem.F.slot_list_extend PySem.F.type_list_extend mt_extend pe_j (pa_cons pe_j pa_nil hs) hbase hfew hline hs rfl) rfl) ?_
  refine je_mono (ho H hB) fun v H1 ⟨s1, e1⟩ => ?_
  subst e1
  refine ⟨.inl ⟨rfl, vs, SqL.of (s1 _ _ h2)⟩, je_mono (h H1 (hB.trans s1)) fun u H2 ⟨s2, b, us, e2, n, h4, h5⟩ => ?_⟩
  subst e2
  have g := grow (hB.trans s1) s2
  have n1 : gB B H1 H2 p = none := g.out p _ h1 (s1 _ _ h2) (fun xs z => by cases z)
  have h6 := h5 _ g
  have hz : (vs ++ us).length ≤ sizeLine := by rw [List.length_append, ← paired_len h3, ← paired_len h6]; exact hl
  rw [List.length_append] at hz
  refine ⟨p, b, vs, us, rfl, rfl, s2 _ _ (s1 _ _ h2), h4, hz, q _ _ g.base (fun c o ec => ?_) ⟨n1, _, upd_same, paired_app (paired_imp h3 fun _ _ w => w.up g.base) h6⟩⟩
  rw [upd_ne (ne_of_none ec n1)]
  exact g.ins _ _ ec
theorem ex_at {P : Hp → V → Hp → Prop} (h : EX X e σ B P) {H1 : Hp} (s : Same B H1) : jE X e σ H1 fun v H2 => Same H1 H2 ∧ P H1 v H2 := h H1 s
/-- a pair of a dict of owners and the names used -/
theorem ex_pairL (c : BCx T N sc k X) {H0 : Hp} {z1 : Nat} {q : Addr} {l : List (Pl × Int)} {us : List Int} (h0 : H0 q = none) (h1 : JV X a σ B (.ref q)) (hq : B q = some (.dT (l.map eKV))) (h2 : JR X b σ B (.d (eR us)))
    (hs : starEach [a, b] X.env = (false, eval a X.env) :: starEach [b] X.env := by rfl) (hs2 : starEach [b] X.env = (false, eval b X.env) :: starEach [] X.env := by rfl) : EX X (.Tuple [a, b] z1 pos) σ B fun H1 v H2 => ∀ B3, Grow B H1 B3 H2 → PeLn H0 (l, us) v B3 := fun H1 s =>
  je_of (pe_tup (pa_cons pe_j (pa_cons pe_j pa_nil hs2) hs)) (je_mono (h1 H1 s) fun v H2 ⟨s2, e2⟩ => by
    subst e2
    exact je_mono (h2 H2 (s.trans s2)) fun u H3 ⟨s3, p3⟩ => ⟨by show (2 : Nat) ≤ sizeLine; decide, fun r hr => ⟨(s2.trans s3).trans (Same.new hr), fun B3 g => ⟨r, q, u, rfl, g.new _ _ ((s2.trans s3).free hr) upd_same, h0, g.base _ _ hq, (p3.up (Same.new hr)).tk g.tk⟩⟩⟩)
theorem ex_pairB (c : BCx T N sc k X) {Bd H0 : Hp} {z1 : Nat} {q : Addr} {l : List (Pl × Int)} {us : List Int} (h0 : H0 q = none) (hq : Bd q = some (.dT (l.map eKV))) (h1 : JV X a σ B (.ref q)) (h2 : JR X b σ B (.d (eR us)))
    (hs : starEach [a, b] X.env = (false, eval a X.env) :: starEach [b] X.env := by rfl) (hs2 : starEach [b] X.env = (false, eval b X.env) :: starEach [] X.env := by rfl) : EX X (.Tuple [a, b] z1 pos) σ B fun H1 v H2 => ∀ B3, Grow B H1 B3 H2 → PeLnB Bd H0 (l, us) v B3 := fun H1 s =>
  je_of (pe_tup (pa_cons pe_j (pa_cons pe_j pa_nil hs2) hs)) (je_mono (h1 H1 s) fun v H2 ⟨s2, e2⟩ => by
    subst e2
    exact je_mono (h2 H2 (s.trans s2)) fun u H3 ⟨s3, p3⟩ => ⟨by show (2 : Nat) ≤ sizeLine; decide, fun r hr => ⟨(s2.trans s3).trans (Same.new hr), fun B3 g => ⟨r, q, u, rfl, g.new _ _ ((s2.trans s3).free hr) upd_same, h0, hq, (p3.up (Same.new hr)).tk g.tk⟩⟩⟩)
/-- arguments, each told by its own word -/
def JPs (X : Cx) (es : List Expr) (σ : L2.St) (B : Hp) (Ps : List (V → Hp → Prop)) : Prop := ∀ H1, Same B H1 → jA X es σ H1 fun vs H2 => Same H1 H2 ∧ Paired (fun v (P : V → Hp → Prop) => P v H2) vs Ps
def Up (P : V → Hp → Prop) : Prop := ∀ v H H', Same H H' → P v H → P v H'
theorem jps_nil : JPs X [] σ B [] := fun H1 s => ja_of pa_nil ⟨Same.refl H1, .nil⟩
theorem jps_cons {P : V → Hp → Prop} {Ps : List (V → Hp → Prop)} (up : Up P) (h : EX X e σ B fun _ v H => P v H) (hr : JPs X es σ B Ps) (hs : starEach (e :: es) X.env = (false, eval e X.env) :: starEach es X.env := by rfl) : JPs X (e :: es) σ B (P :: Ps) := fun H1 s =>
  ja_of (pa_cons pe_j pa_j hs) (je_mono (h H1 s) fun v H2 ⟨s2, p2⟩ => ja_mono (hr H2 (s.trans s2)) fun vs H3 ⟨s3, p3⟩ => ⟨s2.trans s3, .cons (up _ _ _ s3 p2) p3⟩)
theorem jps_d (h : JR X e σ B (.d d)) {Ps : List (V → Hp → Prop)} (hr : JPs X es σ B Ps) (hs : starEach (e :: es) X.env = (false, eval e X.env) :: starEach es X.env := by rfl) : JPs X (e :: es) σ B ((fun v H => Im H v d) :: Ps) := jps_cons (fun _ _ _ s q => Im.up q s) h hr hs
theorem jps_v {w : V} (h : JV X e σ B w) {Ps : List (V → Hp → Prop)} (hr : JPs X es σ B Ps) (hs : starEach (e :: es) X.env = (false, eval e X.env) :: starEach es X.env := by rfl) : JPs X (e :: es) σ B ((fun v _ => v = w) :: Ps) := jps_cons (fun _ _ _ _ q => q) h hr hs
theorem jps_l (h : JR X e σ B (.l ds)) {Ps : List (V → Hp → Prop)} (hr : JPs X es σ B Ps) (hs : starEach (e :: es) X.env = (false, eval e X.env) :: starEach es X.env := by rfl) : JPs X (e :: es) σ B ((fun v H => ∃ p, v = .ref p ∧ Ls H p ds) :: Ps) := jps_cons (fun _ _ _ s ⟨p, e, q⟩ => ⟨p, e, q.up s⟩) h hr hs
theorem j_callP (c : BCx T N sc k X) {f : Str} {j : Nat} {sp : Sp} {p : Pos} {Ps : List (V → Hp → Prop)} {P : Hp → V → Hp → Prop} (F : Fn T f j sp) (hk : j ≤ k) (hg : glo sc f = true) (ha : JPs X (e :: es) σ B Ps)
    (h : ∀ H1 vs H2 E, Same B H1 → Same H1 H2 → Paired (fun v (P : V → Hp → Prop) => P v H2) vs Ps → sp vs H2 (fun v H3 => Same H1 H3 ∧ P H1 v H3) E)
    (he : starEach (e :: es) X.env = (false, eval e X.env) :: starEach es X.env := by rfl) (hpl : (backTo pos (starEach es X.env)).any (·.1) = false := by rfl) : EX X (.Call (.Name f p) (e :: es) [] pos) σ B P := by
  obtain ⟨fa, fd, ps, F, hm, hkp, hb⟩ := F
  have F' : FnOk X.prog X.w X.K X.mg X.base CX0 k fa fd ps sp := by
    rw [c.prog, c.w, c.K, c.mg, c.base]
    exact F.mono hk
  exact fun H1 s => je_of (pe_call F' c.room (c.gl hg) (by rw [c.mg]; exact hm) (by rw [c.K]; exact hkp) (by rw [c.K]; exact hb) .nil pass0 pa_j (glo_of hg).2.1 he hpl)
    (ja_mono (ha H1 s) fun vs H2 ⟨s2, p2⟩ => by
      rw [List.append_nil]
      exact h H1 vs H2 E0 s s2 p2)
end
end Mead

set_option maxRecDepth 100000
set_option maxHeartbeats 4000000
/-! the search of partings, in plain Lean -/
namespace Mead
open PySem PySem.Spec PyProof.Rows L2
def linesOf (cells : List Pl) (hs : List Int) (lf : Int → List (List Pl)) : Nat → List Line
  | 0 => [([], [])]
  | n + 1 => ((linesOf cells hs lf n).map (goneOn cells hs lf)).flatten
def partOf (cells : List Pl) (ln : Line) : List Int := cells.map fun c => (look ln.1 c).getD 0
def partingsIn (p : Plea) : List (List Int) :=
  srt eR (((linesOf (cellsIn p.mead) (holdersIn p.claims) (fitIn p) (holdersIn p.claims).length).filter fun ln => decide (ln.1.length = (cellsIn p.mead).length)).map (partOf (cellsIn p.mead)))
/-- what holds of each line -/
structure LInv (cells : List Pl) (hs : List Int) (lf : Int → List (List Pl)) (n : Nat) (ln : Line) : Prop where
  nd : (ln.1.map Prod.fst).Nodup
  keys : ∀ x ∈ ln.1, x.1 ∈ cells ∧ x.2 ∈ ln.2
  und : ln.2.Nodup
  uhs : ∀ h ∈ ln.2, h ∈ hs
  len : ln.2.length = n
  land : ∀ h ∈ ln.2, (ln.1.filter fun x => decide (x.2 = h)).map Prod.fst ∈ lf h
theorem mem_goneAt {lf : Int → List (List Pl)} {ln ln' : Line} {c0 : Pl} {h : Int} (hm : ln' ∈ goneAt lf ln c0 h) : h ∉ ln.2 ∧ ∃ land, land ∈ lf h ∧ hd c0 land = true ∧ (∀ c ∈ land, c ∉ ln.1.map Prod.fst) ∧ ln' = (ln.1 ++ land.map fun c => (c, h), ln.2 ++ [h]) := by
  unfold goneAt at hm
  split at hm
  · cases hm
  · rename_i hn
    obtain ⟨o, ho, rfl⟩ := List.mem_map.mp hm
    obtain ⟨h1, h2⟩ := List.mem_filter.mp ho
    obtain ⟨land, h3, rfl⟩ := List.mem_map.mp h1
    obtain ⟨h4, h5⟩ := List.mem_filter.mp h3
    refine ⟨hn, land, h4, h5, ?_⟩
    unfold dealtOn at h2 ⊢
    by_cases hc : (land.any fun c => (look ln.1 c).isSome) = true
    · rw [if_pos hc] at h2
      cases h2
    · rw [if_neg hc]
      refine ⟨fun c hcm hk => hc ?_, rfl⟩
      exact List.any_eq_true.mpr ⟨c, hcm, look_mem.mpr hk⟩
theorem mem_goneOn {cells : List Pl} {hs : List Int} {lf : Int → List (List Pl)} {ln ln' : Line} (hm : ln' ∈ goneOn cells hs lf ln) : ∃ h c0, h ∈ hs ∧ ln' ∈ goneAt lf ln c0 h := by
  unfold goneOn at hm
  split at hm
  · cases hm
  · rename_i c0 _ _
    obtain ⟨l, hl, h2⟩ := List.mem_flatten.mp hm
    obtain ⟨h, hh, rfl⟩ := List.mem_map.mp hl
    exact ⟨h, c0, hh, h2⟩
theorem LInv.step {cells : List Pl} {hs : List Int} {lf : Int → List (List Pl)} {n : Nat} {ln ln' : Line} (hl : ∀ h ∈ hs, ∀ land ∈ lf h, land.Nodup ∧ ∀ c ∈ land, c ∈ cells) (i : LInv cells hs lf n ln) (hm : ln' ∈ goneOn cells hs lf ln) : LInv cells hs lf (n + 1) ln' := by
  obtain ⟨h, c0, hh, hm⟩ := mem_goneOn hm
  obtain ⟨hn, land, h1, _, h3, rfl⟩ := mem_goneAt hm
  obtain ⟨l1, l2⟩ := hl h hh land h1
  refine ⟨?_, fun x hx => ?_, ?_, fun h' hh' => ?_, by simp [i.len], fun h' hh' => ?_⟩
  · rw [List.map_append, List.map_map]
    refine List.nodup_append.mpr ⟨i.nd, ?_, fun a ha b hb e => ?_⟩
    · rw [show ((fun x : Pl × Int => x.1) ∘ fun c => (c, h)) = id from rfl, List.map_id]
      exact l1
    · obtain ⟨c, hc, e2⟩ := List.mem_map.mp hb
      have e2 : c = b := e2
      rw [e, ← e2] at ha
      exact h3 c hc ha
  · rcases List.mem_append.mp hx with hx | hx
    · exact ⟨(i.keys x hx).1, List.mem_append_left _ (i.keys x hx).2⟩
    · obtain ⟨c, hc, rfl⟩ := List.mem_map.mp hx
      exact ⟨l2 c hc, by simp⟩
  · refine List.nodup_append.mpr ⟨i.und, by simp, fun a ha b hb e => hn ?_⟩
    have : b = h := by simpa using hb
    rw [← this, ← e]
    exact ha
  · rcases List.mem_append.mp hh' with hh' | hh'
    · exact i.uhs h' hh'
    · have : h' = h := by simpa using hh'
      rw [this]
      exact hh
  · rw [List.filter_append, List.map_append]
    rcases List.mem_append.mp hh' with hh' | hh'
    · have e : (land.map fun c => ((c, h) : Pl × Int)).filter (fun x => decide (x.2 = h')) = [] := by
        rw [List.filter_eq_nil_iff]
        intro x hx
        obtain ⟨c, _, rfl⟩ := List.mem_map.mp hx
        have : h ≠ h' := fun z => hn (by rw [z]; exact hh')
        simpa using this
      rw [e, List.map_nil, List.append_nil]
      exact i.land h' hh'
    · have eh : h' = h := by simpa using hh'
      subst eh
      have e1 : ln.1.filter (fun x => decide (x.2 = h')) = [] := by
        rw [List.filter_eq_nil_iff]
        intro x hx z
        exact hn (by rw [← of_decide_eq_true z]; exact (i.keys x hx).2)
      have e2 : (land.map fun c => ((c, h') : Pl × Int)).filter (fun x => decide (x.2 = h')) = land.map fun c => (c, h') := by
        rw [List.filter_eq_self]
        intro x hx
        obtain ⟨c, _, rfl⟩ := List.mem_map.mp hx
        simp
      rw [e1, e2, List.map_nil, List.nil_append, List.map_map, show ((fun x : Pl × Int => x.1) ∘ fun c => (c, h')) = id from rfl, List.map_id]
      exact h1
theorem LInv.start (cells : List Pl) (hs : List Int) (lf : Int → List (List Pl)) : LInv cells hs lf 0 ([], []) :=
  ⟨List.nodup_nil, fun _ h => (by cases h), List.nodup_nil, fun _ h => (by cases h), rfl, fun _ h => (by cases h)⟩
theorem lines_inv {cells : List Pl} {hs : List Int} {lf : Int → List (List Pl)} (hl : ∀ h ∈ hs, ∀ land ∈ lf h, land.Nodup ∧ ∀ c ∈ land, c ∈ cells) : ∀ n, ∀ ln ∈ linesOf cells hs lf n, LInv cells hs lf n ln
  | 0, ln, h => by
    have : ln = ([], []) := by simpa [linesOf] using h
    rw [this]
    exact LInv.start _ _ _
  | n + 1, ln, h => by
    obtain ⟨l, hl1, h2⟩ := List.mem_flatten.mp h
    obtain ⟨ln0, h3, rfl⟩ := List.mem_map.mp hl1
    exact (lines_inv hl n ln0 h3).step hl h2
theorem fit_lands {p : Plea} {h : Int} {land : List Pl} (hm : land ∈ fitIn p h) : LandOk p.mead land ∧ land.Nodup ∧ (∀ c ∈ land, c ∈ cellsIn p.mead) ∧ land ≠ [] ∧ fitsDue p (dueIn p h) land = true := by
  obtain ⟨h1, h2⟩ := List.mem_filter.mp hm
  have h3 := landsOf_ok h1
  refine ⟨h3, h3.nodup (cellsIn_nodup _), h3.mem, fun e => ?_, h2⟩
  subst e
  simp [fitsDue, isWhole] at h2
theorem sub_filter {α : Type} [DecidableEq α] : ∀ {l m : List α}, l.Sublist m → m.Nodup → l = m.filter fun a => decide (a ∈ l)
  | _, _, .slnil, _ => rfl
  | l, a :: m, .cons _ s, h => by
    obtain ⟨h1, h2⟩ := List.nodup_cons.mp h
    have : a ∉ l := fun z => h1 (s.subset z)
    rw [List.filter_cons, if_neg (by simpa using this)]
    exact sub_filter s h2
  | _ :: l, a :: m, .cons₂ _ s, h => by
    obtain ⟨h1, h2⟩ := List.nodup_cons.mp h
    rw [List.filter_cons, if_pos (by simp)]
    congr 1
    rw [sub_filter s h2]
    refine List.filter_congr fun b hb => ?_
    have : b ≠ a := fun z => h1 (by rw [← z]; exact hb)
    simp only [List.mem_filter, List.mem_cons, this, false_or, hb, true_and, decide_eq_true_eq]
theorem sub_eq {α : Type} [DecidableEq α] {l k m : List α} (h1 : l.Sublist m) (h2 : k.Sublist m) (hn : m.Nodup) (h : ∀ a, a ∈ l ↔ a ∈ k) : l = k := by
  rw [sub_filter h1 hn, sub_filter h2 hn]
  exact List.filter_congr fun a _ => by rw [Bool.eq_iff_iff, decide_eq_true_eq, decide_eq_true_eq]; exact h a
end Mead

set_option maxRecDepth 100000
set_option maxHeartbeats 4000000
namespace Mead
open PySem PySem.Spec PyProof.Rows L2
theorem nodup_all {α : Type} [DecidableEq α] {l m : List α} (h1 : l.Nodup) (h2 : ∀ a ∈ l, a ∈ m) (h3 : m.length ≤ l.length) (hm : m.Nodup) : ∀ a ∈ m, a ∈ l := fun a ha => by
  by_cases hc : a ∈ l
  · exact hc
  · have h4 : (a :: l).Nodup := List.nodup_cons.mpr ⟨hc, h1⟩
    have h5 := nodup_len h4 (m := m) fun b hb => by
      rcases List.mem_cons.mp hb with e | hb
      · rw [e]; exact ha
      · exact h2 b hb
    simp only [List.length_cons] at h5
    omega
theorem look_of {l : List (Pl × Int)} {c : Pl} (h : c ∈ l.map Prod.fst) : ∃ n, look l c = some n ∧ (c, n) ∈ l := by
  have := look_mem.mpr h
  unfold look at this ⊢
  rw [Option.isSome_map] at this
  obtain ⟨x, hx⟩ := Option.isSome_iff_exists.mp this
  have h1 := List.mem_of_find?_eq_some hx
  have h2 : x.1 = c := by
    have := List.find?_some hx
    simpa using this
  rw [hx]
  refine ⟨x.2, rfl, ?_⟩
  rw [← h2]
  exact h1
theorem zip_map_self {α β : Type} (f : α → β) : ∀ l : List α, l.zip (l.map f) = l.map fun a => (a, f a)
  | [] => rfl
  | a :: l => by simp [zip_map_self f l]
theorem partOf_ok {p : Plea} (v : VPl p) {ln : Line} (i : LInv (cellsIn p.mead) (holdersIn p.claims) (fitIn p) (holdersIn p.claims).length ln) (hlen : ln.1.length = (cellsIn p.mead).length) : isParted p (partOf (cellsIn p.mead) ln) = true := by
  have cn := cellsIn_nodup p.mead
  have hn : (holdersIn p.claims).Nodup := List.Pairwise.imp (fun h => Int.ne_of_lt h) (holdersIn_pw p.claims)
  have all : ∀ c ∈ cellsIn p.mead, c ∈ ln.1.map Prod.fst := nodup_all i.nd (fun a ha => by
    obtain ⟨x, hx, rfl⟩ := List.mem_map.mp ha
    exact (i.keys x hx).1) (by rw [List.length_map]; omega) cn
  have allh : ∀ h ∈ holdersIn p.claims, h ∈ ln.2 := nodup_all i.und i.uhs (by rw [i.len]; exact Nat.le_refl _) hn
  unfold isParted
  simp only [Bool.and_eq_true, decide_eq_true_eq, List.all_eq_true]
  refine ⟨by rw [partOf, List.length_map], fun o ho => ?_, fun h hh => ?_⟩
  · obtain ⟨c, hc, rfl⟩ := List.mem_map.mp ho
    obtain ⟨n, h1, h2⟩ := look_of (all c hc)
    rw [h1]
    exact i.uhs _ (i.keys _ h2).2
  · have hl := i.land h (allh h hh)
    have e : landBy p (partOf (cellsIn p.mead) ln) h = (ln.1.filter fun x => decide (x.2 = h)).map Prod.fst := by
      refine sub_eq (landBy_ok p _ h) (fit_lands hl).1 cn fun c => ?_
      unfold landBy partOf
      rw [zip_map_self, List.mem_map, List.mem_map]
      constructor
      · rintro ⟨x, hx, rfl⟩
        obtain ⟨h1, h2⟩ := List.mem_filter.mp hx
        obtain ⟨c, hc, rfl⟩ := List.mem_map.mp h1
        obtain ⟨n, q1, q2⟩ := look_of (all c hc)
        simp only [q1, Option.getD_some, decide_eq_true_eq] at h2
        exact ⟨(c, n), List.mem_filter.mpr ⟨q2, decide_eq_true h2⟩, rfl⟩
      · rintro ⟨x, hx, rfl⟩
        obtain ⟨h1, h2⟩ := List.mem_filter.mp hx
        refine ⟨(x.1, (look ln.1 x.1).getD 0), List.mem_filter.mpr ⟨List.mem_map.mpr ⟨x.1, (i.keys x h1).1, rfl⟩, ?_⟩, rfl⟩
        have q1 : look ln.1 x.1 = some x.2 := look_eq i.nd h1
        rw [q1]
        exact h2
    rw [e]
    exact (fit_lands hl).2.2.2.2
theorem fit_all (p : Plea) : ∀ h ∈ holdersIn p.claims, ∀ land ∈ fitIn p h, land.Nodup ∧ ∀ c ∈ land, c ∈ cellsIn p.mead := fun h _ land hm => ⟨(fit_lands hm).2.1, (fit_lands hm).2.2.1⟩
/-- what is searched out is a parting -/
theorem partingsIn_ok {p : Plea} (v : VPl p) : ∀ t ∈ partingsIn p, isParted p t = true := fun t ht => by
  unfold partingsIn at ht
  obtain ⟨ln, h1, rfl⟩ := List.mem_map.mp (srt_mem.mp ht)
  obtain ⟨h2, h3⟩ := List.mem_filter.mp h1
  exact partOf_ok v (lines_inv (fit_all p) _ ln h2) (of_decide_eq_true h3)
/-! ### how many -/
theorem landsRaw_head2 (cells : List Pl) : ∃ r, landsRaw cells = [] :: r ∧ ∀ x ∈ r, x ≠ [] := by
  induction cells using snoc_ind with
  | h0 => exact ⟨[], rfl, fun _ h => (by cases h)⟩
  | h1 l a ih =>
    obtain ⟨r, e, hr⟩ := ih
    rw [landsRaw_snoc, e]
    refine ⟨r ++ List.map (· ++ [a]) ([] :: r), rfl, fun x hx => ?_⟩
    rcases List.mem_append.mp hx with hx | hx
    · exact hr x hx
    · obtain ⟨y, _, rfl⟩ := List.mem_map.mp hx
      simp
theorem count_head (c : Pl) (cells : List Pl) (hn : cells.Nodup) : ((landsRaw cells).filter (hd c)).length ≤ 2 ^ (cells.length - 1) ∧ (c ∉ cells → (landsRaw cells).filter (hd c) = []) := by
  induction cells using snoc_ind with
  | h0 => exact ⟨by simp [landsRaw, hd], fun _ => by simp [landsRaw, hd]⟩
  | h1 l a ih =>
    have hn2 := List.nodup_append.mp hn
    obtain ⟨i1, i2⟩ := ih hn2.1
    obtain ⟨r, er, hr⟩ := landsRaw_head2 l
    have key : ((landsRaw l).map (· ++ [a])).filter (hd c) = (if a = c then [[a]] else []) ++ ((landsRaw l).filter (hd c)).map (· ++ [a]) := by
      have gen : ∀ r : List (List Pl), (∀ x ∈ r, x ≠ []) → (r.map (· ++ [a])).filter (hd c) = (r.filter (hd c)).map (· ++ [a]) := fun r hr => by
        rw [List.filter_map]
        congr 1
        refine List.filter_congr fun x hx => ?_
        cases x with
        | nil => exact absurd rfl (hr _ hx)
        | cons y ys => simp [hd]
      rw [er, List.map_cons, List.filter_cons, gen r hr, List.filter_cons]
      by_cases h : a = c
      · simp [hd, h]
      · simp [hd, h]
    rw [landsRaw_snoc, List.filter_append, key]
    by_cases h : a = c
    · have hc : c ∉ l := fun z => hn2.2.2 c z a (by simp) h.symm
      have e := i2 hc
      rw [e, if_pos h]
      refine ⟨?_, fun z => absurd (by rw [h]; simp) z⟩
      simp only [List.nil_append, List.map_nil, List.append_nil, List.length_cons, List.length_nil]
      exact Nat.one_le_two_pow
    · rw [if_neg h, List.nil_append]
      refine ⟨?_, fun z => ?_⟩
      · by_cases hl : l = []
        · subst hl
          rw [i2 (by simp)]
          simp
        · have : 0 < l.length := List.length_pos_iff.mpr hl
          have e2 : (l ++ [a]).length - 1 = (l.length - 1) + 1 := by simp; omega
          rw [e2, Nat.pow_succ, List.length_append, List.length_map]
          omega
      · rw [i2 (fun y => z (List.mem_append_left _ y))]
        rfl
theorem fit_head {p : Plea} (v : VM p.mead) (h : Int) (c : Pl) : ((fitIn p h).filter (hd c)).length ≤ 16 := by
  have h1 : ((fitIn p h).filter (hd c)).length ≤ ((landsOf p.mead).filter (hd c)).length := by
    unfold fitIn
    rw [List.filter_filter]
    have : (List.filter (fun a => hd c a && fitsDue p (dueIn p h) a) (landsOf p.mead)) = ((landsOf p.mead).filter (hd c)).filter (fitsDue p (dueIn p h)) := by
      rw [List.filter_filter]
      exact List.filter_congr fun x _ => Bool.and_comm _ _
    rw [this]
    exact List.length_filter_le _ _
  have h2 : ((landsOf p.mead).filter (hd c)).length = ((landsRaw (cellsIn p.mead)).filter (hd c)).length := ((srt_perm (landsRaw (cellsIn p.mead))).filter _).length_eq
  have h3 := (count_head c (cellsIn p.mead) (cellsIn_nodup _)).1
  have h4 : 2 ^ ((cellsIn p.mead).length - 1) ≤ 2 ^ 4 := Nat.pow_le_pow_right (by decide) (by have := v.cells.2; omega)
  omega
theorem goneAt_len {lf : Int → List (List Pl)} {ln : Line} {c0 : Pl} {h : Int} {k : Nat} (hk : ((lf h).filter (hd c0)).length ≤ k) : (goneAt lf ln c0 h).length ≤ if h ∈ ln.2 then 0 else k := by
  unfold goneAt
  by_cases e : h ∈ ln.2
  · rw [if_pos e, if_pos e]
    exact Nat.zero_le _
  · rw [if_neg e, if_neg e, List.length_map]
    refine Nat.le_trans (List.length_filter_le _ _) ?_
    rw [List.length_map]
    exact hk
theorem flat_free {lf : Int → List (List Pl)} {ln : Line} {c0 : Pl} {k : Nat} : ∀ {hs : List Int}, (∀ h ∈ hs, ((lf h).filter (hd c0)).length ≤ k) → ((hs.map (goneAt lf ln c0)).flatten).length ≤ (hs.filter fun h => !decide (h ∈ ln.2)).length * k
  | [], _ => by simp
  | h :: hs, hk => by
    have h1 := goneAt_len (ln := ln) (hk h (List.mem_cons_self ..))
    have h2 := flat_free (ln := ln) (hs := hs) fun x hx => hk x (List.mem_cons_of_mem _ hx)
    simp only [List.map_cons, List.flatten_cons, List.length_append, List.filter_cons]
    by_cases e : h ∈ ln.2
    · rw [if_pos e] at h1
      simp only [e, decide_true, Bool.not_true, Bool.false_eq_true, if_false]
      omega
    · rw [if_neg e] at h1
      simp only [e, decide_false, Bool.not_false, if_true, List.length_cons, Nat.succ_mul]
      omega
theorem free_count {hs used : List Int} (h1 : hs.Nodup) (h2 : used.Nodup) (h3 : ∀ h ∈ used, h ∈ hs) : (hs.filter fun h => !decide (h ∈ used)).length + used.length ≤ hs.length := by
  have h4 : ((hs.filter fun h => !decide (h ∈ used)) ++ used).Nodup := List.nodup_append.mpr ⟨List.Pairwise.filter _ h1, h2, fun a ha b hb e => by
    have := (List.mem_filter.mp ha).2
    rw [e] at this
    simp [hb] at this⟩
  have h5 := nodup_len h4 (m := hs) fun a ha => by
    rcases List.mem_append.mp ha with ha | ha
    · exact (List.mem_filter.mp ha).1
    · exact h3 a ha
  rw [List.length_append] at h5
  exact h5
theorem goneOn_len {cells : List Pl} {hs : List Int} {lf : Int → List (List Pl)} {n k : Nat} {ln : Line} (i : LInv cells hs lf n ln) (hn : hs.Nodup) (hk : ∀ h ∈ hs, ∀ c, ((lf h).filter (hd c)).length ≤ k) : (goneOn cells hs lf ln).length ≤ (hs.length - n) * k := by
  unfold goneOn
  split
  · exact Nat.zero_le _
  · rename_i c0 _ _
    have h1 := flat_free (lf := lf) (ln := ln) (c0 := c0) (hs := hs) fun h hh => hk h hh c0
    have h2 := free_count hn i.und i.uhs
    rw [i.len] at h2
    exact Nat.le_trans h1 (Nat.mul_le_mul_right _ (by omega))
def lineMost (n m : Nat) : Nat → Nat
  | 0 => 1
  | i + 1 => ((n - i) * m) * lineMost n m i
theorem lines_len {cells : List Pl} {hs : List Int} {lf : Int → List (List Pl)} {k : Nat} (hl : ∀ h ∈ hs, ∀ land ∈ lf h, land.Nodup ∧ ∀ c ∈ land, c ∈ cells) (hn : hs.Nodup) (hk : ∀ h ∈ hs, ∀ c, ((lf h).filter (hd c)).length ≤ k) : ∀ i, (linesOf cells hs lf i).length ≤ lineMost hs.length k i
  | 0 => Nat.le_refl _
  | i + 1 => by
    have h1 := flat_len ((hs.length - i) * k) ((linesOf cells hs lf i).map (goneOn cells hs lf)) fun x hx => by
      obtain ⟨ln, hln, rfl⟩ := List.mem_map.mp hx
      exact goneOn_len (lines_inv hl i ln hln) hn hk
    rw [List.length_map] at h1
    exact Nat.le_trans h1 (Nat.mul_le_mul_left _ (lines_len hl hn hk i))
theorem lineMost_le : ∀ n, n ≤ 4 → ∀ i, i ≤ n → lineMost n 16 i ≤ 1572864 := by decide
end Mead

set_option maxRecDepth 100000
set_option maxHeartbeats 4000000
namespace Mead
open PySem PySem.Spec PyProof.Rows L2
theorem Bgn.upd_ne {H : Hp} {r a : Addr} {lands : List (List Pl)} {kvs : List (Key × V)} {u : HO} (h : Bgn H r lands) (ha : H a = some (.dK kvs)) : Bgn (upd H a u) r lands := by
  obtain ⟨L, h1, h2, h3⟩ := h
  have ne : ∀ b o, H b = some o → (∀ k, o ≠ .dK k) → b ≠ a := fun b o e hn z => by
    rw [z, ha] at e
    cases e
    exact hn _ rfl
  have tk : TK H (upd H a u) := fun b xs e => by
    rw [L2.upd_ne (ne b _ e (fun k z => by cases z))]
    exact e
  refine ⟨L, by rw [L2.upd_ne (ne r _ h1 (fun k z => by cases z))]; exact h1, fun x hx => ?_, h3⟩
  obtain ⟨us, q1, q2⟩ := h2 x hx
  exact ⟨us, by rw [L2.upd_ne (ne x.2 _ q1 (fun k z => by cases z))]; exact q1, q2.tk tk⟩
theorem flat_take_le {α β : Type} (f : α → List β) : ∀ (l : List α) (j : Nat), ((l.take j).map f).flatten.length ≤ (l.map f).flatten.length
  | [], j => by simp
  | a :: l, 0 => by simp
  | a :: l, j + 1 => by
    have := flat_take_le f l j
    simp only [List.take_succ_cons, List.map_cons, List.flatten_cons, List.length_append]
    omega
theorem nodup_take {α : Type} {l : List α} {i : Nat} {a : α} (h : l.Nodup) (hi : l[i]? = some a) : a ∉ l.take i := fun hm => by
  obtain ⟨j, hj⟩ := List.mem_iff_getElem?.mp hm
  rw [List.getElem?_take] at hj
  split at hj
  · rename_i hlt
    have h1 := List.getElem?_eq_some_iff.mp hj
    have h2 := List.getElem?_eq_some_iff.mp hi
    have := (List.getElem_inj h).mp (h1.2.trans h2.2.symm)
    omega
  · cases hj
theorem LsG.up' {α : Type} {H H' : Hp} {p : Addr} {Pv : α → V → Hp → Prop} {as : List α} (up : ∀ a v B1 B2, Same B1 B2 → Pv a v B1 → Pv a v B2) (h : LsG H p Pv as) (s : Same H H') : LsG H' p Pv as :=
  let ⟨vs, h1, h2⟩ := h
  ⟨vs, s _ _ h1, paired_imp h2 fun _ _ q => up _ _ _ _ s q⟩
theorem valV_snoc' {kvs : List (Key × V)} {k : Key} {v : V} {j : Key} (h : valV kvs k = none) : valV (kvs ++ [(k, v)]) j = if j = k then some v else valV kvs j := valV_snoc k j v kvs h
theorem valV_keys {kvs : List (Key × V)} {k : Key} : valV kvs k = none ↔ k ∉ kvs.map (·.1) := by
  unfold valV
  rw [Option.map_eq_none_iff, List.find?_eq_none, List.mem_map]
  constructor
  · rintro h ⟨x, hx, e⟩
    exact h x hx (decide_eq_true e)
  · intro h x hx e
    exact h ⟨x, hx, of_decide_eq_true e⟩
section
variable {T : Tx} {N : List Str} {sc : Scope} {k : Nat} {X : Cx} {σ σ1 σ2 : L2.St} {B H : Hp} {a b e o : Expr} {es : List Expr} {pos : Pos} {x y d : PyData} {ds : List PyData} {D : Ends}
theorem js_tup3G (c : BCx T N sc k X) {e1 e2 e3 : Expr} {tgs : List Expr} {kt k2 : Nat} {pt pt2 : Pos}
    (h : jE X e1 σ H fun v1 H1 => jE X e2 σ H1 fun v2 H2 => jE X e3 σ H2 fun v3 H3 => ∀ a, H3 a = none → jGs X tgs [v1, v2, v3] σ (upd H3 a (.tup [v1, v2, v3])) D.nx)
    (hn : (assignEach tgs X.env).length = 3 := by rfl) (hst : (assignEach tgs X.env).findIdx? (·.1) = none := by rfl)
    (q1 : starEach [e1, e2, e3] X.env = (false, eval e1 X.env) :: starEach [e2, e3] X.env := by rfl) (q2 : starEach [e2, e3] X.env = (false, eval e2 X.env) :: starEach [e3] X.env := by rfl) (q3 : starEach [e3] X.env = (false, eval e3 X.env) :: starEach [] X.env := by rfl)
    (hs : swapsWithSole [.Tuple tgs kt pt] (.Tuple [e1, e2, e3] k2 pt2) pos.line X.env = pure false := by rfl) (hw : swappedStores [.Tuple tgs kt pt] (.Tuple [e1, e2, e3] k2 pt2) { X.env with scope := sc } = pure none := by rfl) (h1 : (assignEach [.Tuple tgs kt pt] X.env).map (·.2) = [assign (.Tuple tgs kt pt) X.env] := by rfl) :
    jS X (.Assign [.Tuple tgs kt pt] (.Tuple [e1, e2, e3] k2 pt2) pos) D σ H :=
  js_of (ps_asg (pe_tup (pa_cons pe_j (pa_cons pe_j (pa_cons pe_j pa_nil q3) q2) q1)) (pg_tup c.calm pgs_j hn hst) hs ((sw_scope c.hs).trans hw) h1)
    (je_mono h fun v1 H1 h => je_mono h fun v2 H2 h => je_mono h fun v3 H3 h => ⟨by show (3 : Nat) ≤ sizeLine; decide, fun a ha => ⟨a, [v1, v2, v3], rfl, SqT.of upd_same, rfl, h a ha⟩⟩)
theorem ex_line0 {p1 p2 p3 : Pos} {k2 k3 : Nat} (q1 : starEach [.Dict [] [] p1, .Tuple [] k2 p2] X.env = (false, eval (.Dict [] [] p1) X.env) :: starEach [.Tuple [] k2 p2] X.env := by rfl) (q2 : starEach [.Tuple [] k2 p2] X.env = (false, eval (.Tuple [] k2 p2) X.env) :: starEach [] X.env := by rfl)
    (q3 : starEach [.Tuple [.Dict [] [] p1, .Tuple [] k2 p2] k3 p3] X.env = (false, eval (.Tuple [.Dict [] [] p1, .Tuple [] k2 p2] k3 p3) X.env) :: starEach [] X.env := by rfl) :
    EX X (.List [.Tuple [.Dict [] [] p1, .Tuple [] k2 p2] k3 p3] pos) σ B fun H1 v H2 => ∃ q, v = .ref q ∧ H1 q = none ∧ LsG H2 q (fun a v H => PeLn (fun _ => none) a v H) [([], [])] := fun H1 s => by
  refine je_of (pe_lst (pa_cons (pe_tup (pa_cons pe_dnewT (pa_cons (pe_tup pa_nil) pa_nil q2) q1)) pa_nil q3)) ?_
  intro d hd
  refine ⟨by show (0 : Nat) ≤ sizeLine; exact Nat.zero_le _, fun t ht => ⟨by show (2 : Nat) ≤ sizeLine; decide, fun p hp => ⟨by show (1 : Nat) ≤ sizeLine; decide, fun q hq => ?_⟩⟩⟩
  have s1 := Same.new (o := HO.dT []) hd
  have s2 := Same.new (o := HO.tup []) ht
  have s3 := Same.new (o := HO.tup [.ref d, .ref t]) hp
  have s4 := Same.new (o := HO.lst [.ref p]) hq
  refine ⟨((s1.trans s2).trans s3).trans s4, q, rfl, ((s1.trans s2).trans s3).free hq, _, upd_same, .cons ⟨p, d, .ref t, rfl, s4 _ _ upd_same, rfl, s4 _ _ (s3 _ _ (s2 _ _ upd_same)), .tup (s4 _ _ (s3 _ _ upd_same)) .nil⟩ .nil⟩
end
end Mead

set_option maxRecDepth 100000
set_option maxHeartbeats 4000000
namespace Mead
open PySem PySem.Spec PyProof.Rows L2
section
variable {T : Tx} (h : Top T)
include h
/-- is_from, of numbers -/
def R_is_from : List Ar → Ar → Prop := fun as r => ∃ t l m : Int, as = [.d (.int t), .d (.int l), .d (.int m)] ∧ r = .d (.bool (decide (l ≤ t ∧ t ≤ m)))
theorem fn_is_from : Fn T "is_from" 2 (spA R_is_from) := by
  refine fn_mk h.d_is_from sc_is_from (fun vs H Q E ⟨rs, r, hv, ⟨t, l, m, e1, e2⟩, _⟩ => by subst e1; exact hv.len) (fun _ _ _ _ _ _ us hl => match us, hl with | [_, _, _], _ => rfl) fun X c vs H Q E ⟨rs, r, hv, ⟨t, l, m, e1, e2⟩, hQ⟩ => ?_
  subst e1; subst e2
  obtain ⟨v1, v2, v3, rfl, h1, h2, h3⟩ := reps3 hv
  have b := c.toBCx
  have e : decide (l ≤ t ∧ t ≤ m) = (true && (!false && decide (l ≤ t ∧ t ≤ m))) := by simp
  rw [e] at hQ
  exact jss_one (js_ret (ja_and (ja_isi b (ty := "int") (t2 := "int") (by decide +kernel) h.f_isinstance (by decide +kernel) h.f_int (by decide +kernel) (jr_var (i := 0) b rfl (by decide +kernel) rfl h1) tyx_int (by decide +kernel)) fun hb1 => ja_and (ja_not (ja_isi b (ty := "int") (t2 := "bool") (by decide +kernel) h.f_isinstance (by decide +kernel) h.f_bool (by decide +kernel) (jr_var (i := 0) b rfl (by decide +kernel) rfl h1) tyx_int (by decide +kernel))) fun hb2 => ja_one (ja_le2 (jr_var (i := 1) b rfl (by decide +kernel) rfl h2) (jr_var (i := 0) b rfl (by decide +kernel) rfl h1) (jr_var (i := 2) b rfl (by decide +kernel) rfl h3) (by with_unfolding_all rfl))) (Same.refl H) hQ)
end
end Mead

set_option maxRecDepth 100000
set_option maxHeartbeats 4000000
namespace Mead
open PySem PySem.Spec PyProof.Rows L2
local macro_rules | `(tactic| walk_at "hl") => `(tactic| first | assumption | (simp only [List.length_mapIdx, List.length_map] at *; omega))
section
variable {T : Tx} (h : Top T)
include h
def R_places_of : List Ar → Ar → Prop := fun as r => ∃ m l u, as = [.d (eM m), .d (.int l), .d (.int u)] ∧ m.length ≤ 10 ∧ (∀ r ∈ m, r.length ≤ 10) ∧ r = .l ((placesOf m l u).map eP)
theorem fn_places_of : Fn T "places_of" 2 (spA R_places_of) := by
  refine fn_mkA h.d_places_of sc_places_of (fun rs r ⟨_, _, _, e, _⟩ => by subst e; rfl) (fun _ _ _ _ _ _ us hl => match us, hl with | [_, _, _], _ => rfl) fun X c vs H rs r Q hv ⟨m, l, u, e1, z1, z2, e2⟩ hQ => ?_
  subst e1; subst e2
  obtain ⟨v1, v2, v3, rfl, h1, h2, h3⟩ := reps3 hv
  have b := c.toBCx
  refine jss_cons (js_set (i := 3) c rfl (by decide +kernel) (ja_lst jds_nil) (Same.refl H) fun v H1 s1 q => ?_)
  obtain ⟨p, rfl, np, _⟩ := id q
  refine jss_cons (js_forA b (src_enumM b (by decide +kernel) h.f_enumerate (jr_var (r := .d _) (i := 0) b rfl (by decide +kernel) rfl h1)) s1 p (fun i => ((m.take i).mapIdx (rowP l u)).flatten.map eP) (fun i σ' => ∃ a b z w, σ' = [some v1, some v2, some v3, some (.ref p), a, b, z, w]) (Fl.res (Same.refl H) q) ⟨_, _, _, _, rfl⟩ ?_ ?_)
  · rintro B1 s i d σ' H' v Bi hd t1 t2 hF ⟨_, _, _, _, rfl⟩ hv
    have hd' : ((m.mapIdx fun i a => ((i, a) : Nat × List Int)).map fun x => PyData.tuple [.int (x.1 : Nat), eR x.2])[i]? = some d := hd
    obtain ⟨row, hr, rfl⟩ : ∃ row, m[i]? = some row ∧ d = .tuple [.int (i : Nat), eR row] := by
      simp only [List.getElem?_map, List.getElem?_mapIdx] at hd'
      cases e : m[i]? with
      | none => rw [e] at hd'; cases hd'
      | some row => rw [e] at hd'; exact ⟨row, rfl, (Option.some.inj hd').symm⟩
    have zr : row.length ≤ 10 := z2 row (List.mem_of_getElem? hr)
    obtain ⟨phv, v1_0, v1_1, rfl, hphv, hv_0, hv_1⟩ := im2 hv
    refine (tgt_tup b hphv rfl (tgts_cons (tgt_name (i := 4) c rfl (by decide +kernel)) (tgts_cons (tgt_name (i := 5) c rfl (by decide +kernel)) (tgts_nil)))) _ _ t2 ?_
    have eF : ((m.take (i + 1)).mapIdx (rowP l u)).flatten.map eP = ((m.take i).mapIdx (rowP l u)).flatten.map eP ++ (rowP l u i row).map eP := by
      rw [take_at hr, List.mapIdx_append, List.flatten_append, List.map_append]
      have : (m.take i).length = i := by rw [List.length_take]; have := (List.getElem?_eq_some_iff.mp hr).1; omega
      simp [this]
    refine jss_one (js_extF b (jv_var (i := 3) b rfl (by decide +kernel) rfl) t2 hF (ja_lc (own := [("column", 6), ("number", 7)]) b (src_enumM b (by decide +kernel) h.f_enumerate (jr_var (r := .d _) (i := 5) b rfl (by decide +kernel) rfl hv_1)) (by decide +kernel) (by walk_at "hl") (fun i2 a2 v2 B2 ha2 s2 hv2 => by obtain ⟨phv2, v2_0, v2_1, rfl, hphv2, hv2_0, hv2_1⟩ := im2 hv2; exact ⟨_, by rfl, fun X2 c2 f2 => ⟨tgt_tup c2 hphv2 rfl (tgts_cons (tgt_nameB (i := 6) c2 rfl (by decide +kernel)) (tgts_cons (tgt_nameB (i := 7) c2 rfl (by decide +kernel)) (tgts_nil))), jif_one (jt_le2 (jr_var (r := .d _) (i := 1) c2 rfl (by decide +kernel) rfl ((h2.up (s.trans t1)).up s2)) (jr_var (r := .d _) (i := 7) c2 rfl (by decide +kernel) rfl hv2_1) (jr_var (r := .d _) (i := 2) c2 rfl (by decide +kernel) rfl ((h3.up (s.trans t1)).up s2)) (by with_unfolding_all rfl)), fun hi2 => ja_tup (jds_cons (jr_var (r := .d _) (i := 4) c2 rfl (by decide +kernel) rfl (hv_0.up s2)) (jds_cons (jr_var (r := .d _) (i := 6) c2 rfl (by decide +kernel) rfl hv2_0) jds_nil))⟩⟩)) ?_ fun B2 H2 s2 s3 hF2 => ⟨B2, t1.trans s2, s3, ?_, _, _, _, _, rfl⟩)
    · have z3 := placesOf_len (n := 10) (m := m.take i) (fun r hr => z2 r (List.mem_of_mem_take hr)) l u
      have z4 : (m.take i).length ≤ 10 := by rw [List.length_take]; omega
      have z5 := List.length_filter_le (fun x : Nat × Int => decide (l ≤ x.2 ∧ x.2 ≤ u)) (row.mapIdx fun i a => (i, a))
      rw [List.length_mapIdx] at z5
      simp only [List.length_map]
      omega
    · show Fl p _ B2 H2
      rw [eF, rowP, List.map_map]
      exact hF2
  · rintro σ' H' Bi t1 t2 hF ⟨_, _, _, _, rfl⟩
    refine jss_one (js_retF (jv_var (i := 3) b rfl (by decide +kernel) rfl) t2 t1 hF ?_ rfl)
    simp only [List.length_map, List.length_mapIdx, List.take_length]
    exact hQ
def R_cells_in : List Ar → Ar → Prop := fun as r => ∃ m, as = [.d (eM m)] ∧ m.length ≤ 10 ∧ (∀ r ∈ m, r.length ≤ 10) ∧ r = .l ((cellsIn m).map eP)
theorem fn_cells_in : Fn T "cells_in" 3 (spA R_cells_in) := by
  refine fn_mkA h.d_cells_in sc_cells_in (fun rs r ⟨_, e, _⟩ => by subst e; rfl) (fun _ _ _ _ _ _ us hl => match us, hl with | [_], _ => rfl) fun X c vs H rs r Q hv ⟨m, e1, z1, z2, e2⟩ hQ => ?_
  subst e1; subst e2
  obtain ⟨v1, rfl, h1⟩ := reps1 hv
  have b := c.toBCx
  exact jss_one (js_ret (ja_call b (fn_places_of h) (by decide) (by decide +kernel) (jrs_cons (jr_var (r := .d _) (i := 0) b rfl (by decide +kernel) rfl h1) (jrs_cons (ja_int (i := 0)) (jrs_cons (ja_num b (by decide +kernel) h.n_MOST_WORTH) jrs_nil))) ⟨_, _, _, rfl, z1, z2, rfl⟩) (Same.refl H) hQ)
end
end Mead

set_option maxRecDepth 100000
set_option maxHeartbeats 4000000
namespace Mead
open PySem PySem.Spec PyProof.Rows L2
local macro_rules | `(tactic| walk_at "hl") => `(tactic| first | assumption | omega | (simp only [List.length_mapIdx, List.length_map] at *; omega))
local macro_rules | `(tactic| walk_at "pc") => `(tactic| first | assumption | exact Nat.le_refl _ | omega)
section
variable {T : Tx} (h : Top T)
include h
def R_beside : List Ar → Ar → Prop := fun as r => ∃ p : Pl, as = [.d (eP p)] ∧ r = .l ((beside p).map eP)
theorem fn_beside : Fn T "beside" 2 (spA R_beside) := by
  refine fn_mkA h.d_beside sc_beside (fun rs r ⟨_, e, _⟩ => by subst e; rfl) (fun _ _ _ _ _ _ us hl => match us, hl with | [_], _ => rfl) fun X c vs H rs r Q hv ⟨p, e1, e2⟩ hQ => ?_
  subst e1; subst e2
  obtain ⟨v1, rfl, h1⟩ := reps1 hv
  have b := c.toBCx
  refine jss_cons (js_asg (P := fun _ v H => Im H v (eP p)) (jr_var (r := .d _) (i := 0) b rfl (by decide +kernel) rfl h1) (Same.refl H) fun v H1 s q => ?_)
  have q : Im H1 v (eP p) := q
  obtain ⟨pq, v1_0, v1_1, rfl, hpq, q_0, q_1⟩ := im2 q
  refine (tgt_tup b hpq rfl (tgts_cons (tgt_name (i := 1) c rfl (by decide +kernel)) (tgts_cons (tgt_name (i := 2) c rfl (by decide +kernel)) (tgts_nil)))) _ _ rfl1 ?_
  exact jss_one (js_ret (ja_lst (jds_cons (ja_tup (jds_cons (ja_sub (jr_var (r := .d _) (i := 1) b rfl (by decide +kernel) rfl q_0) (ja_int (i := 1))) (jds_cons (jr_var (r := .d _) (i := 2) b rfl (by decide +kernel) rfl q_1) jds_nil))) (jds_cons (ja_tup (jds_cons (jr_var (r := .d _) (i := 1) b rfl (by decide +kernel) rfl q_0) (jds_cons (ja_sub (jr_var (r := .d _) (i := 2) b rfl (by decide +kernel) rfl q_1) (ja_int (i := 1))) jds_nil))) (jds_cons (ja_tup (jds_cons (jr_var (r := .d _) (i := 1) b rfl (by decide +kernel) rfl q_0) (jds_cons (ja_add (jr_var (r := .d _) (i := 2) b rfl (by decide +kernel) rfl q_1) (ja_int (i := 1))) jds_nil))) (jds_cons (ja_tup (jds_cons (ja_add (jr_var (r := .d _) (i := 1) b rfl (by decide +kernel) rfl q_0) (ja_int (i := 1))) (jds_cons (jr_var (r := .d _) (i := 2) b rfl (by decide +kernel) rfl q_1) jds_nil))) jds_nil))))) (Same.refl H1) fun v H2 s2 r => hQ v H2 (s.trans s2) (Ar.res_back s r))
def R_worth_in : List Ar → Ar → Prop := fun as r => ∃ m : List (List Int), ∃ ps : List Pl, ∃ a : Ar, as = [.d (eM m), a] ∧ (a = .l (ps.map eP) ∨ a = .d (eL ps)) ∧ (ps.length ≤ 1000) ∧ (∀ p ∈ ps, (0 ≤ p.1 ∧ p.1 < m.length) ∧ 0 ≤ p.2 ∧ p.2 < (m.getD p.1.toNat []).length) ∧ r = .d (.int (worthIn m ps))
theorem fn_worth_in : Fn T "worth_in" 2 (spA R_worth_in) := by
  refine fn_mkA h.d_worth_in sc_worth_in (fun rs r ⟨_, _, _, e, _⟩ => by subst e; rfl) (fun _ _ _ _ _ _ us hl => match us, hl with | [_, _], _ => rfl) fun X c vs H rs r Q hv ⟨m, ps, a, e1, ea, z1, z2, e2⟩ hQ => ?_
  subst e1; subst e2
  obtain ⟨v1, v2, rfl, h1, h2⟩ := reps2 hv
  have b := c.toBCx
  rcases ea with rfl | rfl
  · obtain ⟨p2, rfl, h2⟩ := h2
    exact jss_one (js_ret (ja_sumM b (by decide +kernel) h.f_sum (JA.toR (ja_lc0 (own := [("row", 2), ("column", 3)]) b (src_list (jlb_var (jv_var (i := 1) b rfl (by decide +kernel) rfl) h2)) (by decide +kernel) (by walk_at "hl") (fun i1 a1 v1 B1 ha1 s1 hv1 => by obtain ⟨phv1, v1_0, v1_1, rfl, hphv1, hv1_0, hv1_1⟩ := im2 hv1; exact ⟨_, by rfl, fun X1 c1 f1 => ⟨tgt_tup c1 hphv1 rfl (tgts_cons (tgt_nameB (i := 2) c1 rfl (by decide +kernel)) (tgts_cons (tgt_nameB (i := 3) c1 rfl (by decide +kernel)) (tgts_nil))), ja_ixTm (f := PyData.int) 0 (ja_ixTm (f := eR) [] (jr_var (r := .d _) (i := 0) c1 rfl (by decide +kernel) rfl (h1.up s1)) (jr_var (r := .d _) (i := 2) c1 rfl (by decide +kernel) rfl hv1_0) (by first | exact (z2 _ (List.mem_of_getElem? (by assumption))).1 | exact (z2 _ (List.mem_of_getElem? (by assumption))).2)) (jr_var (r := .d _) (i := 3) c1 rfl (by decide +kernel) rfl hv1_1) (by first | exact (z2 _ (List.mem_of_getElem? (by assumption))).1 | exact (z2 _ (List.mem_of_getElem? (by assumption))).2)⟩⟩)))) (Same.refl H) hQ)
  · exact jss_one (js_ret (ja_sumM b (by decide +kernel) h.f_sum (JA.toR (ja_lc0 (own := [("row", 2), ("column", 3)]) b (src_tup (jr_var (r := .d _) (i := 1) b rfl (by decide +kernel) rfl h2)) (by decide +kernel) (by walk_at "hl") (fun i2 a2 v2 B2 ha2 s2 hv2 => by obtain ⟨phv2, v2_0, v2_1, rfl, hphv2, hv2_0, hv2_1⟩ := im2 hv2; exact ⟨_, by rfl, fun X2 c2 f2 => ⟨tgt_tup c2 hphv2 rfl (tgts_cons (tgt_nameB (i := 2) c2 rfl (by decide +kernel)) (tgts_cons (tgt_nameB (i := 3) c2 rfl (by decide +kernel)) (tgts_nil))), ja_ixTm (f := PyData.int) 0 (ja_ixTm (f := eR) [] (jr_var (r := .d _) (i := 0) c2 rfl (by decide +kernel) rfl (h1.up s2)) (jr_var (r := .d _) (i := 2) c2 rfl (by decide +kernel) rfl hv2_0) (by first | exact (z2 _ (List.mem_of_getElem? (by assumption))).1 | exact (z2 _ (List.mem_of_getElem? (by assumption))).2)) (jr_var (r := .d _) (i := 3) c2 rfl (by decide +kernel) rfl hv2_1) (by first | exact (z2 _ (List.mem_of_getElem? (by assumption))).1 | exact (z2 _ (List.mem_of_getElem? (by assumption))).2)⟩⟩)))) (Same.refl H) hQ)
end
end Mead

set_option maxRecDepth 100000
set_option maxHeartbeats 4000000
namespace Mead
open PySem PySem.Spec PyProof.Rows L2
local macro_rules | `(tactic| walk_at "hl") => `(tactic| first | assumption | omega | (simp only [List.length_map]; omega) | exact Nat.le_of_ble_eq_true rfl | (simp only [List.length_map, List.length_mapIdx, List.length_range]; omega) | (simp only [List.length_mapIdx, List.length_map] at *; omega) | fail)
local macro_rules | `(tactic| walk_at "pc") => `(tactic| first | assumption | exact Nat.le_refl _ | omega)
local macro_rules | `(tactic| walk_at "sh") => `(tactic| first | exact sh_int _ | exact sh_bool _ | exact sh_none | exact sh_eP (by decide) _ | exact sh_eR (by decide) _ | exact sh_eL (by decide) _ | exact sh_eM (by decide) _ | exact sh_eC (by decide) _ | exact sh_eCs (by decide) _ | exact (sh_lst (n := 59) (sh_map fun _ => sh_eP (by decide) _)) | exact (sh_lst (n := 59) (sh_map fun _ => sh_eC (by decide) _)) | exact (sh_lst (n := 59) (sh_map fun _ => sh_eL (by decide) _)) | exact (sh_lst (n := 59) (sh_map fun _ => sh_int _)) | exact (sh_lst (n := 59) sh_nil) | exact (sh_tup (n := 59) sh_nil) | exact sh_tup (n := 59) (sh_cons (sh_int _) (sh_cons (sh_int _) sh_nil)) | exact sh_lst (n := 59) (sh_map fun _ => sh_tup (n := 58) (sh_cons (sh_int _) (sh_cons (sh_int _) sh_nil))) | fail)
local macro_rules | `(tactic| walk_at "al") => `(tactic| first | rfl | simp [PySem.W.alike, PySem.W.alikeAll, eP] | fail)
local macro_rules | `(tactic| walk_at "nn") => `(tactic| intro z; cases z)
section
variable {T : Tx} (h : Top T)
include h
/-- rises, of keys that rise -/
def R_rises : List Ar → Ar → Prop := fun as r => ∃ ks : List Pl, ∃ ds : List PyData, as = [.l ds] ∧ (ds = ks.map eP) ∧ (1 ≤ ks.length ∧ ks.length ≤ 100) ∧ (∀ i, i + 1 < ks.length → PySem.W.dataLt (eP (ks.getD i default)) (eP (ks.getD (i + 1) default)) = true) ∧ r = .d (.bool true)
theorem fn_rises : Fn T "rises" 2 (spA R_rises) := by
  refine fn_mkA h.d_rises sc_rises (fun rs r ⟨_, _, e, _⟩ => by subst e; rfl) (fun _ _ _ _ _ _ us hl => match us, hl with | [_], _ => rfl) fun X c vs H rs r Q hv ⟨ks, ds, e1, zd, z1, z2, e2⟩ hQ => ?_
  subst e1; subst e2
  obtain ⟨v1, rfl, h1⟩ := reps1 hv
  have b := c.toBCx
  obtain ⟨p1, rfl, h1⟩ := h1
  subst zd
  exact jss_one (js_ret (ja_allM b (by decide +kernel) h.f_all (JA.toR (ja_lc0 (own := [("at", 1)]) b (src_range b (by decide +kernel) h.f_range (ja_sub (ja_lenL b (by decide +kernel) h.f_len (jr_var (r := .l _) (i := 0) b rfl (by decide +kernel) rfl (⟨_, rfl, h1⟩))) (ja_int (i := 1))) (by walk_at "hl")) (by decide +kernel) (by walk_at "hl") (fun i1 a1 v1 B1 ha1 s1 hv1 => by exact ⟨_, by rfl, fun X1 c1 f1 => ⟨tgt_nameB (i := 1) c1 rfl (by decide +kernel), ja_ltD c1 (ja_ixLm (f := eP) default (jr_var (r := .l _) (i := 0) c1 rfl (by decide +kernel) rfl (⟨_, rfl, (h1.up s1)⟩)) (jr_var (r := .d _) (i := 1) c1 rfl (by decide +kernel) rfl hv1) (by (have zi := List.mem_of_getElem? (by assumption); have zj := List.mem_range.mp zi; rw [List.length_map] at zj; omega))) (ja_ixLm (f := eP) default (jr_var (r := .l _) (i := 0) c1 rfl (by decide +kernel) rfl (⟨_, rfl, (h1.up s1)⟩)) (ja_add (jr_var (r := .d _) (i := 1) c1 rfl (by decide +kernel) rfl hv1) (ja_int (i := 1))) (by (have zi := List.mem_of_getElem? (by assumption); have zj := List.mem_range.mp zi; rw [List.length_map] at zj; omega))) (by walk_at "sh") (by walk_at "al") (by walk_at "nn")⟩⟩)))) (Same.refl H) (rq hQ (rb (by
    rw [List.all_eq_true]
    intro i hi
    have zj := List.mem_range.mp hi
    rw [List.length_map] at zj
    have e : ((i : Int) + 1).toNat = i + 1 := by omega
    simp only [Int.toNat_natCast, e]
    exact z2 i (by omega)))))
def R_is_mead : List Ar → Ar → Prop := fun as r => ∃ m : List (List Int), as = [.d (eM m)] ∧ (VM m) ∧ r = .d (.bool true)
theorem fn_is_mead : Fn T "is_mead" 3 (spA R_is_mead) := by
  refine fn_mkA h.d_is_mead sc_is_mead (fun rs r ⟨_, e, _⟩ => by subst e; rfl) (fun _ _ _ _ _ _ us hl => match us, hl with | [_], _ => rfl) fun X c vs H rs r Q hv ⟨m, e1, z, e2⟩ hQ => ?_
  subst e1; subst e2
  obtain ⟨v1, rfl, h1⟩ := reps1 hv
  have b := c.toBCx
  have z1 := z.rows
  have y1 := z.y1
  have y2 := z.y2
  refine jss_cons (js_ifF0 (JW.t (jw_or (jt_not (jt_of_ja (ja_isi b (i := true) (ty := "tuple") (t2 := "tuple") (by decide +kernel) h.f_isinstance (by decide +kernel) h.f_tuple (by decide +kernel) (jr_var (r := .d _) (i := 0) b rfl (by decide +kernel) rfl h1) tyx_tup (by decide +kernel)))) fun hb1 => jw_or1 (jt_not (jt_le2 (ja_int (i := 1)) (ja_lenT b (by decide +kernel) h.f_len (jr_var (r := .d _) (i := 0) b rfl (by decide +kernel) rfl h1)) (ja_num b (by decide +kernel) h.n_MOST_ROWS) (by with_unfolding_all rfl))))) (by simp; omega) (Same.refl H) fun H1 s1 => jss_cons (js_forG b (src_tup (jr_var (r := .d _) (i := 0) b rfl (by decide +kernel) rfl h1)) s1 (fun _ _ σ' _ => ∃ a b, σ' = [some v1, a, b]) (fun _ _ _ _ _ _ _ _ _ q => q) ⟨_, _, rfl⟩ ?_ ?_))
  · rintro B1 s i d σ' H' v Bi hd t1 t2 ⟨_, _, rfl⟩ hv
    obtain ⟨row, hr, rfl⟩ := of_map_at hd
    have zr := List.mem_of_getElem? hr
    have z2 := z.wide row zr
    have z3 := z.nums row zr
    refine (tgt_name (i := 1) c rfl (by decide +kernel)) _ _ t2 ?_
    refine jss_cons (js_ifF0 (JW.t (jw_or (jt_not (jt_of_ja (ja_isi b (i := true) (ty := "tuple") (t2 := "tuple") (by decide +kernel) h.f_isinstance (by decide +kernel) h.f_tuple (by decide +kernel) (jr_var (r := .d _) (i := 1) b rfl (by decide +kernel) rfl hv) tyx_tup (by decide +kernel)))) fun hb3 => jw_or (jt_not (jt_le2 (ja_int (i := 1)) (ja_lenT b (by decide +kernel) h.f_len (jr_var (r := .d _) (i := 1) b rfl (by decide +kernel) rfl hv)) (ja_num b (by decide +kernel) h.n_MOST_COLUMNS) (by with_unfolding_all rfl))) fun hb4 => jw_or1 (jt_ne (r := .d _) (q := .d _) b (ja_lenT b (by decide +kernel) h.f_len (jr_var (r := .d _) (i := 1) b rfl (by decide +kernel) rfl hv)) (ja_lenT b (by decide +kernel) h.f_len (ja_ixTm (f := eR) [] (jr_var (r := .d _) (i := 0) b rfl (by decide +kernel) rfl (h1.up (s.trans t1))) (ja_int (i := 0)) (by omega))) (by walk_at "sh") (by walk_at "sh")))) ?_ t2 fun H2 s2 => jss_one (js_ifF0 (jt_not (jt_of_ja (ja_allM b (by decide +kernel) h.f_all (JA.toR (ja_lc0 (own := [("number", 2)]) b (src_tup (jr_var (r := .d _) (i := 1) b rfl (by decide +kernel) rfl hv)) (by decide +kernel) (by walk_at "hl") (fun i5 a5 v5 B5 ha5 s5 hv5 => by exact ⟨_, by rfl, fun X5 c5 f5 => ⟨tgt_nameB (i := 2) c5 rfl (by decide +kernel), ja_call c5 (fn_is_from h) (by decide) (by decide +kernel) (jrs_cons (jr_var (r := .d _) (i := 2) c5 rfl (by decide +kernel) rfl hv5) (jrs_cons (ja_num c5 (by decide +kernel) h.n_WATER) (jrs_cons (ja_num c5 (by decide +kernel) h.n_MOST_WORTH) jrs_nil))) ⟨_, _, _, rfl, rfl⟩⟩⟩)))))) ?_ (t2.trans s2) fun H3 s3 => ⟨Bi, t1, (t2.trans s2).trans s3, _, _, rfl⟩))
    · have z4 := z2.2.2
      rw [List.getD_eq_getElem?_getD] at z4
      simp [eqv_int, Ar.pd]
      omega
    · simp only [Bool.not_eq_false', List.all_eq_true]
      intro n hn
      exact decide_eq_true (z3 n hn)
  · rintro σ' H' Bi t1 t2 ⟨_, _, rfl⟩
    refine jss_one (js_ret (ja_le2 (ja_int (i := 1)) (ja_lenL b (by decide +kernel) h.f_len (JA.toR (ja_call b (fn_places_of h) (by decide) (by decide +kernel) (jrs_cons (jr_var (r := .d _) (i := 0) b rfl (by decide +kernel) rfl (h1.up t1)) (jrs_cons (ja_int (i := 0)) (jrs_cons (ja_num b (by decide +kernel) h.n_MOST_WORTH) jrs_nil))) ⟨_, _, _, rfl, (by walk_at "pc"), (by walk_at "pc"), rfl⟩))) (ja_num b (by decide +kernel) h.n_MOST_CELLS) (by with_unfolding_all rfl)) t2 (rqs (t1.trans t2) hQ (rb ?_)))
    exact decide_eq_true (by have z8 := z.cells; rw [List.length_map]; show 1 ≤ ((cellsIn m).length : Int) ∧ ((cellsIn m).length : Int) ≤ 10; omega)
def R_need_mead : List Ar → Ar → Prop := fun as r => ∃ m : List (List Int), as = [.d (eM m)] ∧ (VM m) ∧ r = .d .none
theorem fn_need_mead : Fn T "need_mead" 4 (spA R_need_mead) := by
  refine fn_mkA h.d_need_mead sc_need_mead (fun rs r ⟨_, e, _⟩ => by subst e; rfl) (fun _ _ _ _ _ _ us hl => match us, hl with | [_], _ => rfl) fun X c vs H rs r Q hv ⟨m, e1, z, e2⟩ hQ => ?_
  subst e1; subst e2
  obtain ⟨v1, rfl, h1⟩ := reps1 hv
  have b := c.toBCx
  exact jss_one (js_ifF0 (jt_not (jt_of_ja (ja_call b (fn_is_mead h) (by decide) (by decide +kernel) (jrs_cons (jr_var (r := .d _) (i := 0) b rfl (by decide +kernel) rfl h1) jrs_nil) ⟨_, rfl, (by walk_at "pc"), rfl⟩))) rfl (Same.refl H) fun H1 s1 => hQ _ _ s1 .non)
def R_is_custom : List Ar → Ar → Prop := fun as r => ∃ cu : List Int, as = [.d (eR cu)] ∧ (VCu cu) ∧ r = .d (.bool true)
theorem fn_is_custom : Fn T "is_custom" 3 (spA R_is_custom) := by
  refine fn_mkA h.d_is_custom sc_is_custom (fun rs r ⟨_, e, _⟩ => by subst e; rfl) (fun _ _ _ _ _ _ us hl => match us, hl with | [_], _ => rfl) fun X c vs H rs r Q hv ⟨cu, e1, z, e2⟩ hQ => ?_
  subst e1; subst e2
  obtain ⟨v1, rfl, h1⟩ := reps1 hv
  have b := c.toBCx
  have z1 := z.1
  refine jss_cons (js_ifF0 (JW.t (jw_or (jt_not (jt_of_ja (ja_isi b (i := true) (ty := "tuple") (t2 := "tuple") (by decide +kernel) h.f_isinstance (by decide +kernel) h.f_tuple (by decide +kernel) (jr_var (r := .d _) (i := 0) b rfl (by decide +kernel) rfl h1) tyx_tup (by decide +kernel)))) fun hb1 => jw_or1 (jt_not (jt_le2 (ja_int (i := 1)) (ja_lenT b (by decide +kernel) h.f_len (jr_var (r := .d _) (i := 0) b rfl (by decide +kernel) rfl h1)) (ja_num b (by decide +kernel) h.n_MOST_SORTS) (by with_unfolding_all rfl))))) (by simp; omega) (Same.refl H) fun H1 s1 => jss_one (js_ret (ja_allM b (by decide +kernel) h.f_all (JA.toR (ja_lc0 (own := [("count", 1)]) b (src_tup (jr_var (r := .d _) (i := 0) b rfl (by decide +kernel) rfl h1)) (by decide +kernel) (by walk_at "hl") (fun i2 a2 v2 B2 ha2 s2 hv2 => by exact ⟨_, by rfl, fun X2 c2 f2 => ⟨tgt_nameB (i := 1) c2 rfl (by decide +kernel), ja_call c2 (fn_is_from h) (by decide) (by decide +kernel) (jrs_cons (jr_var (r := .d _) (i := 1) c2 rfl (by decide +kernel) rfl hv2) (jrs_cons (ja_int (i := 1)) (jrs_cons (ja_num c2 (by decide +kernel) h.n_MOST_COUNT) jrs_nil))) ⟨_, _, _, rfl, rfl⟩⟩⟩)))) s1 (rqs s1 hQ (rb ?_))))
  rw [List.all_eq_true]
  exact fun n hn => decide_eq_true (z.2 n hn)
def R_need_custom : List Ar → Ar → Prop := fun as r => ∃ cu : List Int, as = [.d (eR cu)] ∧ (VCu cu) ∧ r = .d .none
theorem fn_need_custom : Fn T "need_custom" 4 (spA R_need_custom) := by
  refine fn_mkA h.d_need_custom sc_need_custom (fun rs r ⟨_, e, _⟩ => by subst e; rfl) (fun _ _ _ _ _ _ us hl => match us, hl with | [_], _ => rfl) fun X c vs H rs r Q hv ⟨cu, e1, z, e2⟩ hQ => ?_
  subst e1; subst e2
  obtain ⟨v1, rfl, h1⟩ := reps1 hv
  have b := c.toBCx
  exact jss_one (js_ifF0 (jt_not (jt_of_ja (ja_call b (fn_is_custom h) (by decide) (by decide +kernel) (jrs_cons (jr_var (r := .d _) (i := 0) b rfl (by decide +kernel) rfl h1) jrs_nil) ⟨_, rfl, (by walk_at "pc"), rfl⟩))) rfl (Same.refl H) fun H1 s1 => hQ _ _ s1 .non)
def R_is_claim : List Ar → Ar → Prop := fun as r => ∃ cl : Cl, as = [.d (eC cl)] ∧ (VC cl) ∧ r = .d (.bool true)
theorem fn_is_claim : Fn T "is_claim" 3 (spA R_is_claim) := by
  refine fn_mkA h.d_is_claim sc_is_claim (fun rs r ⟨_, e, _⟩ => by subst e; rfl) (fun _ _ _ _ _ _ us hl => match us, hl with | [_], _ => rfl) fun X c vs H rs r Q hv ⟨cl, e1, z, e2⟩ hQ => ?_
  subst e1; subst e2
  obtain ⟨v1, rfl, h1⟩ := reps1 hv
  have b := c.toBCx
  have z1 := z.1
  have z2 := z.2.1
  have z3 := z.2.2
  refine jss_cons (js_ifF0 (JW.t (jw_or (jt_not (jt_of_ja (ja_isi b (i := true) (ty := "tuple") (t2 := "tuple") (by decide +kernel) h.f_isinstance (by decide +kernel) h.f_tuple (by decide +kernel) (jr_var (r := .d _) (i := 0) b rfl (by decide +kernel) rfl h1) tyx_tup (by decide +kernel)))) fun hb1 => jw_or (jt_ne (r := .d _) (q := .d _) b (ja_lenT b (by decide +kernel) h.f_len (jr_var (r := .d _) (i := 0) b rfl (by decide +kernel) rfl h1)) (ja_int (i := 3)) (by walk_at "sh") (by walk_at "sh")) fun hb2 => jw_or1 (jt_not (jt_of_ja (ja_call b (fn_is_from h) (by decide) (by decide +kernel) (jrs_cons (ja_ixT (jr_var (r := .d _) (i := 0) b rfl (by decide +kernel) rfl h1) (ja_int (i := 0)) rfl) (jrs_cons (ja_int (i := 0)) (jrs_cons (ja_num b (by decide +kernel) h.n_MOST_HOLDER_claims) jrs_nil))) ⟨_, _, _, rfl, rfl⟩))))) (by simp [eqv_int, Ar.pd]; omega) (Same.refl H) fun H1 s1 => jss_one (js_ret (ja_and (ja_call b (fn_is_from h) (by decide) (by decide +kernel) (jrs_cons (ja_ixT (jr_var (r := .d _) (i := 0) b rfl (by decide +kernel) rfl h1) (ja_int (i := 1)) rfl) (jrs_cons (ja_int (i := 0)) (jrs_cons (ja_sub (ja_num b (by decide +kernel) h.n_MOST_SORTS) (ja_int (i := 1))) jrs_nil))) ⟨_, _, _, rfl, rfl⟩) fun hb3 => ja_one (ja_call b (fn_is_from h) (by decide) (by decide +kernel) (jrs_cons (ja_ixT (jr_var (r := .d _) (i := 0) b rfl (by decide +kernel) rfl h1) (ja_int (i := 2)) rfl) (jrs_cons (ja_int (i := 1)) (jrs_cons (ja_num b (by decide +kernel) h.n_MOST_RIGHTS) jrs_nil))) ⟨_, _, _, rfl, rfl⟩)) s1 (rqs s1 hQ (rb ?_))))
  simp
  omega
def R_need_claim : List Ar → Ar → Prop := fun as r => ∃ cl : Cl, as = [.d (eC cl)] ∧ (VC cl) ∧ r = .d .none
theorem fn_need_claim : Fn T "need_claim" 4 (spA R_need_claim) := by
  refine fn_mkA h.d_need_claim sc_need_claim (fun rs r ⟨_, e, _⟩ => by subst e; rfl) (fun _ _ _ _ _ _ us hl => match us, hl with | [_], _ => rfl) fun X c vs H rs r Q hv ⟨cl, e1, z, e2⟩ hQ => ?_
  subst e1; subst e2
  obtain ⟨v1, rfl, h1⟩ := reps1 hv
  have b := c.toBCx
  exact jss_one (js_ifF0 (jt_not (jt_of_ja (ja_call b (fn_is_claim h) (by decide) (by decide +kernel) (jrs_cons (jr_var (r := .d _) (i := 0) b rfl (by decide +kernel) rfl h1) jrs_nil) ⟨_, rfl, (by walk_at "pc"), rfl⟩))) rfl (Same.refl H) fun H1 s1 => hQ _ _ s1 .non)
end
end Mead

set_option maxRecDepth 100000
set_option maxHeartbeats 4000000
namespace Mead
open PySem PySem.Spec PyProof.Rows L2
local macro_rules | `(tactic| walk_at "hl") => `(tactic| first | assumption | omega | (simp only [List.length_map]; omega) | exact Nat.le_of_ble_eq_true rfl | (simp only [List.length_map, List.length_mapIdx, List.length_range]; omega) | (simp only [List.length_mapIdx, List.length_map] at *; omega) | fail)
local macro_rules | `(tactic| walk_at "pc") => `(tactic| first | assumption | exact Nat.le_refl _ | omega)
local macro_rules | `(tactic| walk_at "sh") => `(tactic| first | exact sh_int _ | exact sh_bool _ | exact sh_none | exact sh_eP (by decide) _ | exact sh_eR (by decide) _ | exact sh_eL (by decide) _ | exact sh_eM (by decide) _ | exact sh_eC (by decide) _ | exact sh_eCs (by decide) _ | exact (sh_lst (n := 59) (sh_map fun _ => sh_eP (by decide) _)) | exact (sh_lst (n := 59) (sh_map fun _ => sh_eC (by decide) _)) | exact (sh_lst (n := 59) (sh_map fun _ => sh_eL (by decide) _)) | exact (sh_lst (n := 59) (sh_map fun _ => sh_int _)) | exact (sh_lst (n := 59) sh_nil) | exact (sh_tup (n := 59) sh_nil) | exact sh_tup (n := 59) (sh_cons (sh_int _) (sh_cons (sh_int _) sh_nil)) | exact sh_lst (n := 59) (sh_map fun _ => sh_tup (n := 58) (sh_cons (sh_int _) (sh_cons (sh_int _) sh_nil))) | fail)
local macro_rules | `(tactic| walk_at "al") => `(tactic| first | rfl | simp [PySem.W.alike, PySem.W.alikeAll, eP] | fail)
local macro_rules | `(tactic| walk_at "nn") => `(tactic| intro z; cases z)
section
variable {T : Tx} (h : Top T)
include h
def R_are_claims : List Ar → Ar → Prop := fun as r => ∃ cs : List Cl, as = [.d (eCs cs)] ∧ (VCs cs) ∧ r = .d (.bool true)
theorem fn_are_claims : Fn T "are_claims" 4 (spA R_are_claims) := by
  refine fn_mkA h.d_are_claims sc_are_claims (fun rs r ⟨_, e, _⟩ => by subst e; rfl) (fun _ _ _ _ _ _ us hl => match us, hl with | [_], _ => rfl) fun X c vs H rs r Q hv ⟨cs, e1, z, e2⟩ hQ => ?_
  subst e1; subst e2
  obtain ⟨v1, rfl, h1⟩ := reps1 hv
  have b := c.toBCx
  have z1 := z.len
  refine jss_cons (js_ifF0 (JW.t (jw_or (jt_not (jt_of_ja (ja_isi b (i := true) (ty := "tuple") (t2 := "tuple") (by decide +kernel) h.f_isinstance (by decide +kernel) h.f_tuple (by decide +kernel) (jr_var (r := .d _) (i := 0) b rfl (by decide +kernel) rfl h1) tyx_tup (by decide +kernel)))) fun hb1 => jw_or (jt_not (jt_le2 (ja_int (i := 1)) (ja_lenT b (by decide +kernel) h.f_len (jr_var (r := .d _) (i := 0) b rfl (by decide +kernel) rfl h1)) (ja_num b (by decide +kernel) h.n_MOST_CLAIMS) (by with_unfolding_all rfl))) fun hb2 => jw_or1 (jt_not (jt_of_ja (ja_allM b (by decide +kernel) h.f_all (JA.toR (ja_lc0 (own := [("one", 1)]) b (src_tup (jr_var (r := .d _) (i := 0) b rfl (by decide +kernel) rfl h1)) (by decide +kernel) (by walk_at "hl") (fun i3 a3 v3 B3 ha3 s3 hv3 => by exact ⟨_, by rfl, fun X3 c3 f3 => ⟨tgt_nameB (i := 1) c3 rfl (by decide +kernel), ja_call c3 (fn_is_claim h) (by decide) (by decide +kernel) (jrs_cons (jr_var (r := .d _) (i := 1) c3 rfl (by decide +kernel) rfl hv3) jrs_nil) ⟨_, rfl, (by exact z.each _ (List.mem_of_getElem? (by assumption))), rfl⟩⟩⟩)))))))) (by simp; omega) (Same.refl H) fun H1 s1 => jss_one (js_ret (ja_call b (fn_rises h) (by decide) (by decide +kernel) (jrs_cons (JA.toR (ja_lc0 (own := [("one", 1)]) b (src_tup (jr_var (r := .d _) (i := 0) b rfl (by decide +kernel) rfl h1)) (by decide +kernel) (by walk_at "hl") (fun i4 a4 v4 B4 ha4 s4 hv4 => by exact ⟨_, by rfl, fun X4 c4 f4 => ⟨tgt_nameB (i := 1) c4 rfl (by decide +kernel), ja_slT (jr_var (r := .d _) (i := 1) c4 rfl (by decide +kernel) rfl hv4) jo_none (jo_some (ja_int (i := 2)))⟩⟩))) jrs_nil) ⟨cs.map keyC, _, rfl, by rw [List.map_map]; rfl, by simp; omega, z.rise, rfl⟩) s1 (rqs s1 hQ rfl)))
def R_need_claims : List Ar → Ar → Prop := fun as r => ∃ cs : List Cl, as = [.d (eCs cs)] ∧ (VCs cs) ∧ r = .d .none
theorem fn_need_claims : Fn T "need_claims" 5 (spA R_need_claims) := by
  refine fn_mkA h.d_need_claims sc_need_claims (fun rs r ⟨_, e, _⟩ => by subst e; rfl) (fun _ _ _ _ _ _ us hl => match us, hl with | [_], _ => rfl) fun X c vs H rs r Q hv ⟨cs, e1, z, e2⟩ hQ => ?_
  subst e1; subst e2
  obtain ⟨v1, rfl, h1⟩ := reps1 hv
  have b := c.toBCx
  exact jss_one (js_ifF0 (jt_not (jt_of_ja (ja_call b (fn_are_claims h) (by decide) (by decide +kernel) (jrs_cons (jr_var (r := .d _) (i := 0) b rfl (by decide +kernel) rfl h1) jrs_nil) ⟨_, rfl, (by assumption), rfl⟩))) rfl (Same.refl H) fun H1 s1 => hQ _ _ s1 .non)
def R_stand : List Ar → Ar → Prop := fun as r => ∃ cu : List Int, ∃ cs : List Cl, as = [.d (eR cu), .d (eCs cs)] ∧ (∀ c ∈ cs, c.2.1 < cu.length) ∧ (cs.length ≤ 100) ∧ r = .d (.bool true)
theorem fn_stand : Fn T "stand" 2 (spA R_stand) := by
  refine fn_mkA h.d_stand sc_stand (fun rs r ⟨_, _, e, _⟩ => by subst e; rfl) (fun _ _ _ _ _ _ us hl => match us, hl with | [_, _], _ => rfl) fun X c vs H rs r Q hv ⟨cu, cs, e1, z, zl, e2⟩ hQ => ?_
  subst e1; subst e2
  obtain ⟨v1, v2, rfl, h1, h2⟩ := reps2 hv
  have b := c.toBCx
  refine jss_one (js_ret (ja_allM b (by decide +kernel) h.f_all (JA.toR (ja_lc0 (own := [("holder", 2), ("sort", 3), ("many", 4)]) b (src_tup (jr_var (r := .d _) (i := 1) b rfl (by decide +kernel) rfl h2)) (by decide +kernel) (by walk_at "hl") (fun i1 a1 v1 B1 ha1 s1 hv1 => by obtain ⟨phv1, v1_0, v1_1, v1_2, rfl, hphv1, hv1_0, hv1_1, hv1_2⟩ := im3 hv1; exact ⟨_, by rfl, fun X1 c1 f1 => ⟨tgt_tup c1 hphv1 rfl (tgts_cons (tgt_nameB (i := 2) c1 rfl (by decide +kernel)) (tgts_cons (tgt_nameB (i := 3) c1 rfl (by decide +kernel)) (tgts_cons (tgt_nameB (i := 4) c1 rfl (by decide +kernel)) (tgts_nil)))), ja_cmp cm_lt (jr_var (r := .d _) (i := 3) c1 rfl (by decide +kernel) rfl hv1_1) (ja_lenT c1 (by decide +kernel) h.f_len (jr_var (r := .d _) (i := 0) c1 rfl (by decide +kernel) rfl (h1.up s1)))⟩⟩)))) (Same.refl H) (rq hQ (rb ?_)))
  rw [List.all_eq_true]
  exact fun n hn => decide_eq_true (by rw [List.length_map]; exact z n hn)
def R_holders_in : List Ar → Ar → Prop := fun as r => ∃ cs : List Cl, as = [.d (eCs cs)] ∧ (VCs cs) ∧ r = .l ((holdersIn cs).map .int)
theorem fn_holders_in : Fn T "holders_in" 2 (spA R_holders_in) := by
  refine fn_mkA h.d_holders_in sc_holders_in (fun rs r ⟨_, e, _⟩ => by subst e; rfl) (fun _ _ _ _ _ _ us hl => match us, hl with | [_], _ => rfl) fun X c vs H rs r Q hv ⟨cs, e1, z, e2⟩ hQ => ?_
  subst e1; subst e2
  obtain ⟨v1, rfl, h1⟩ := reps1 hv
  have b := c.toBCx
  have z1 := z.len
  exact jss_one (js_ret (ja_ssM b (by decide +kernel) h.f_sorted (by decide +kernel) h.f_set (ja_lc0 (own := [("one", 1)]) b (src_tup (jr_var (r := .d _) (i := 0) b rfl (by decide +kernel) rfl h1)) (by decide +kernel) (by walk_at "hl") (fun i1 a1 v1 B1 ha1 s1 hv1 => by exact ⟨_, by rfl, fun X1 c1 f1 => ⟨tgt_nameB (i := 1) c1 rfl (by decide +kernel), ja_ixT (jr_var (r := .d _) (i := 1) c1 rfl (by decide +kernel) rfl hv1) (ja_int (i := 0)) rfl⟩⟩)) (by walk_at "hl") (by exact holdersIn_pw cs) (by exact mem_holdersIn z.each)) (Same.refl H) hQ)
def R_need_holder : List Ar → Ar → Prop := fun as r => ∃ cs : List Cl, ∃ ho : Int, as = [.d (eCs cs), .d (.int ho)] ∧ (VCs cs) ∧ (ho ∈ holdersIn cs) ∧ r = .d .none
theorem fn_need_holder : Fn T "need_holder" 3 (spA R_need_holder) := by
  refine fn_mkA h.d_need_holder sc_need_holder (fun rs r ⟨_, _, e, _⟩ => by subst e; rfl) (fun _ _ _ _ _ _ us hl => match us, hl with | [_, _], _ => rfl) fun X c vs H rs r Q hv ⟨cs, ho, e1, z, zo, e2⟩ hQ => ?_
  subst e1; subst e2
  obtain ⟨v1, v2, rfl, h1, h2⟩ := reps2 hv
  have b := c.toBCx
  have z1 : 0 ≤ ho ∧ ho ≤ 3 := by
    obtain ⟨c, hc, e⟩ := List.mem_map.mp ((mem_holdersIn z.each ho).mp zo)
    subst e
    exact (z.each c hc).1
  refine jss_one (js_ifF0 (JW.t (jw_or (jt_not (jt_of_ja (ja_call b (fn_is_from h) (by decide) (by decide +kernel) (jrs_cons (jr_var (r := .d _) (i := 1) b rfl (by decide +kernel) rfl h2) (jrs_cons (ja_int (i := 0)) (jrs_cons (ja_num b (by decide +kernel) h.n_MOST_HOLDER_claims) jrs_nil))) ⟨_, _, _, rfl, rfl⟩))) fun hb1 => jw_or1 (jt_niL b (jr_var (r := .d _) (i := 1) b rfl (by decide +kernel) rfl h2) (JA.toR (ja_call b (fn_holders_in h) (by decide) (by decide +kernel) (jrs_cons (jr_var (r := .d _) (i := 0) b rfl (by decide +kernel) rfl h1) jrs_nil) ⟨_, rfl, (by walk_at "pc"), rfl⟩)) (by walk_at "sh") (by walk_at "sh")))) ?_ (Same.refl H) fun H1 s1 => hQ _ _ s1 .non)
  rw [any_eqv eqv_int]
  simp [zo]
  omega
def CuOk (cu : List Int) (cs : List Cl) : Prop := (∀ c ∈ cs, CMul (cu.getD c.2.1.toNat 0) c.2.2) ∧ (∀ c ∈ cs, 0 ≤ c.2.1 ∧ c.2.1 < cu.length)
def R_counted : List Ar → Ar → Prop := fun as r => ∃ cu : List Int, ∃ cs : List Cl, ∃ ho : Int, as = [.d (eR cu), .d (eCs cs), .d (.int ho)] ∧ (CuOk cu cs) ∧ (cs.length ≤ 100) ∧ r = .d (.int (counted cu cs ho))
theorem fn_counted : Fn T "counted" 2 (spA R_counted) := by
  refine fn_mkA h.d_counted sc_counted (fun rs r ⟨_, _, _, e, _⟩ => by subst e; rfl) (fun _ _ _ _ _ _ us hl => match us, hl with | [_, _, _], _ => rfl) fun X c vs H rs r Q hv ⟨cu, cs, ho, e1, z, zl, e2⟩ hQ => ?_
  subst e1; subst e2
  obtain ⟨v1, v2, v3, rfl, h1, h2, h3⟩ := reps3 hv
  have b := c.toBCx
  refine jss_one (js_ret (ja_sumM b (by decide +kernel) h.f_sum (JA.toR (ja_lc (own := [("one", 3), ("sort", 4), ("many", 5)]) b (src_tup (jr_var (r := .d _) (i := 1) b rfl (by decide +kernel) rfl h2)) (by decide +kernel) (by walk_at "hl") (fun i1 a1 v1 B1 ha1 s1 hv1 => by obtain ⟨phv1, v1_0, v1_1, v1_2, rfl, hphv1, hv1_0, hv1_1, hv1_2⟩ := im3 hv1; exact ⟨_, by rfl, fun X1 c1 f1 => ⟨tgt_tup c1 hphv1 rfl (tgts_cons (tgt_nameB (i := 3) c1 rfl (by decide +kernel)) (tgts_cons (tgt_nameB (i := 4) c1 rfl (by decide +kernel)) (tgts_cons (tgt_nameB (i := 5) c1 rfl (by decide +kernel)) (tgts_nil)))), jif_one (jt_eq (r := .d _) (q := .d _) c1 (jr_var (r := .d _) (i := 3) c1 rfl (by decide +kernel) rfl hv1_0) (jr_var (r := .d _) (i := 2) c1 rfl (by decide +kernel) rfl (h3.up s1)) (by walk_at "sh") (by walk_at "sh")), fun hi1 => ja_mul (by first | exact z.1 _ (List.mem_of_getElem? (by assumption))) (ja_ixTm (f := PyData.int) 0 (jr_var (r := .d _) (i := 0) c1 rfl (by decide +kernel) rfl (h1.up s1)) (jr_var (r := .d _) (i := 4) c1 rfl (by decide +kernel) rfl hv1_1) (by first | omega | exact z.2 _ (List.mem_of_getElem? (by assumption)) | exact z.2 _ (List.mem_filter.mp (List.mem_of_getElem? (by assumption))).1)) (jr_var (r := .d _) (i := 5) c1 rfl (by decide +kernel) rfl hv1_2)⟩⟩)))) (Same.refl H) (rq hQ (ri ?_)))
  simp only [Ar.pd, eqv_int]
  rfl
def R_counted_all : List Ar → Ar → Prop := fun as r => ∃ cu : List Int, ∃ cs : List Cl, as = [.d (eR cu), .d (eCs cs)] ∧ (CuOk cu cs) ∧ (cs.length ≤ 100) ∧ r = .d (.int (countedAll cu cs))
theorem fn_counted_all : Fn T "counted_all" 2 (spA R_counted_all) := by
  refine fn_mkA h.d_counted_all sc_counted_all (fun rs r ⟨_, _, e, _⟩ => by subst e; rfl) (fun _ _ _ _ _ _ us hl => match us, hl with | [_, _], _ => rfl) fun X c vs H rs r Q hv ⟨cu, cs, e1, z, zl, e2⟩ hQ => ?_
  subst e1; subst e2
  obtain ⟨v1, v2, rfl, h1, h2⟩ := reps2 hv
  have b := c.toBCx
  exact jss_one (js_ret (ja_sumM b (by decide +kernel) h.f_sum (JA.toR (ja_lc0 (own := [("one", 2), ("sort", 3), ("many", 4)]) b (src_tup (jr_var (r := .d _) (i := 1) b rfl (by decide +kernel) rfl h2)) (by decide +kernel) (by walk_at "hl") (fun i1 a1 v1 B1 ha1 s1 hv1 => by obtain ⟨phv1, v1_0, v1_1, v1_2, rfl, hphv1, hv1_0, hv1_1, hv1_2⟩ := im3 hv1; exact ⟨_, by rfl, fun X1 c1 f1 => ⟨tgt_tup c1 hphv1 rfl (tgts_cons (tgt_nameB (i := 2) c1 rfl (by decide +kernel)) (tgts_cons (tgt_nameB (i := 3) c1 rfl (by decide +kernel)) (tgts_cons (tgt_nameB (i := 4) c1 rfl (by decide +kernel)) (tgts_nil)))), ja_mul (by first | exact z.1 _ (List.mem_of_getElem? (by assumption))) (ja_ixTm (f := PyData.int) 0 (jr_var (r := .d _) (i := 0) c1 rfl (by decide +kernel) rfl (h1.up s1)) (jr_var (r := .d _) (i := 3) c1 rfl (by decide +kernel) rfl hv1_1) (by first | omega | exact z.2 _ (List.mem_of_getElem? (by assumption)))) (jr_var (r := .d _) (i := 4) c1 rfl (by decide +kernel) rfl hv1_2)⟩⟩)))) (Same.refl H) hQ)
end
end Mead

set_option maxRecDepth 100000
set_option maxHeartbeats 4000000
namespace Mead
open PySem PySem.Spec PyProof.Rows L2
local macro_rules | `(tactic| walk_at "hl") => `(tactic| first | assumption | omega | (simp only [List.length_map]; omega) | exact Nat.le_of_ble_eq_true rfl | (simp only [List.length_map, List.length_mapIdx, List.length_range]; omega) | (simp only [List.length_mapIdx, List.length_map] at *; omega) | fail)
local macro_rules | `(tactic| walk_at "pc") => `(tactic| first | assumption | exact Nat.le_refl _ | omega)
local macro_rules | `(tactic| walk_at "sh") => `(tactic| first | exact sh_int _ | exact sh_bool _ | exact sh_none | exact sh_eP (by decide) _ | exact sh_eR (by decide) _ | exact sh_eL (by decide) _ | exact sh_eM (by decide) _ | exact sh_eC (by decide) _ | exact sh_eCs (by decide) _ | exact (sh_lst (n := 59) (sh_map fun _ => sh_eP (by decide) _)) | exact (sh_lst (n := 59) (sh_map fun _ => sh_eC (by decide) _)) | exact (sh_lst (n := 59) (sh_map fun _ => sh_eL (by decide) _)) | exact (sh_lst (n := 59) (sh_map fun _ => sh_int _)) | exact (sh_lst (n := 59) sh_nil) | exact (sh_tup (n := 59) sh_nil) | exact sh_tup (n := 59) (sh_cons (sh_int _) (sh_cons (sh_int _) sh_nil)) | exact sh_lst (n := 59) (sh_map fun _ => sh_tup (n := 58) (sh_cons (sh_int _) (sh_cons (sh_int _) sh_nil))) | fail)
local macro_rules | `(tactic| walk_at "al") => `(tactic| first | rfl | simp [PySem.W.alike, PySem.W.alikeAll, eP] | fail)
local macro_rules | `(tactic| walk_at "nn") => `(tactic| intro z; cases z)
section
variable {T : Tx} (h : Top T)
include h
def R_laid : List Ar → Ar → Prop := fun as r => ∃ cs : List Cl, ∃ cl : Cl, as = [.d (eCs cs), .d (eC cl)] ∧ (VCs cs) ∧ (VC cl) ∧ (keyC cl ∉ cs.map keyC) ∧ (cs.length < 12) ∧ r = .d (eCs (srt eC (cs ++ [cl])))
theorem fn_laid : Fn T "laid" 6 (spA R_laid) := by
  refine fn_mkA h.d_laid sc_laid (fun rs r ⟨_, _, e, _⟩ => by subst e; rfl) (fun _ _ _ _ _ _ us hl => match us, hl with | [_, _], _ => rfl) fun X c vs H rs r Q hv ⟨cs, cl, e1, z, zc, zn, zl, e2⟩ hQ => ?_
  subst e1; subst e2
  obtain ⟨v1, v2, rfl, h1, h2⟩ := reps2 hv
  have b := c.toBCx
  have z1 := z.len
  refine jss_cons (js_expr (ja_call b (fn_need_claims h) (by decide) (by decide +kernel) (jrs_cons (jr_var (r := .d _) (i := 0) b rfl (by decide +kernel) rfl h1) jrs_nil) ⟨_, rfl, (by walk_at "pc"), rfl⟩) rfl1 fun _ H1 s1 _ => jss_cons (js_expr (ja_call b (fn_need_claim h) (by decide) (by decide +kernel) (jrs_cons (jr_var (r := .d _) (i := 1) b rfl (by decide +kernel) rfl h2) jrs_nil) ⟨_, rfl, (by walk_at "pc"), rfl⟩) s1 fun _ H2 s2 _ => ?_))
  refine jss_cons (js_ifF0 (jt_inL b (ja_slT (jr_var (r := .d _) (i := 1) b rfl (by decide +kernel) rfl h2) jo_none (jo_some (ja_int (i := 2)))) (JA.toR (ja_lc0 (own := [("one", 2)]) b (src_tup (jr_var (r := .d _) (i := 0) b rfl (by decide +kernel) rfl h1)) (by decide +kernel) (by walk_at "hl") (fun i2 a2 v2 B2 ha2 s2 hv2 => by exact ⟨_, by rfl, fun X2 c2 f2 => ⟨tgt_nameB (i := 2) c2 rfl (by decide +kernel), ja_slT (jr_var (r := .d _) (i := 2) c2 rfl (by decide +kernel) rfl hv2) jo_none (jo_some (ja_int (i := 2)))⟩⟩))) (by walk_at "sh") (by walk_at "sh")) ?_ (s1.trans s2) fun H3 s3 => jss_cons (js_ifF0 (jt_eq (r := .d _) (q := .d _) b (ja_lenT b (by decide +kernel) h.f_len (jr_var (r := .d _) (i := 0) b rfl (by decide +kernel) rfl h1)) (ja_num b (by decide +kernel) h.n_MOST_CLAIMS) (by walk_at "sh") (by walk_at "sh")) ?_ ((s1.trans s2).trans s3) fun H4 s4 => jss_one (js_ret (ja_tuple b (by decide +kernel) h.f_tuple (JA.toR (ja_sortedT b (by decide +kernel) h.f_sorted (ja_snocT (jr_var (r := .d _) (i := 0) b rfl (by decide +kernel) rfl h1) (ja_tup (jds_cons (jr_var (r := .d _) (i := 1) b rfl (by decide +kernel) rfl h2) jds_nil)) (by walk_at "hl")) (by exact sok_eC _) (by exact dep_eC)))) (((s1.trans s2).trans s3).trans s4) (rqs (((s1.trans s2).trans s3).trans s4) hQ rfl))))
  · have q := any_eqv eqv_eP (cs.map keyC) (keyC cl)
    rw [List.map_map] at q
    exact q.trans (decide_eq_false zn)
  · simp [eqv_int, Ar.pd]
    omega
def R_denied : List Ar → Ar → Prop := fun as r => ∃ cs : List Cl, ∃ cl : Cl, as = [.d (eCs cs), .d (eC cl)] ∧ (VCs cs) ∧ (VC cl) ∧ (cl ∈ cs) ∧ (cs.length ≠ 1) ∧ r = .d (eCs (cs.filter fun o => !decide (o = cl)))
theorem fn_denied : Fn T "denied" 6 (spA R_denied) := by
  refine fn_mkA h.d_denied sc_denied (fun rs r ⟨_, _, e, _⟩ => by subst e; rfl) (fun _ _ _ _ _ _ us hl => match us, hl with | [_, _], _ => rfl) fun X c vs H rs r Q hv ⟨cs, cl, e1, z, zc, zn, zl, e2⟩ hQ => ?_
  subst e1; subst e2
  obtain ⟨v1, v2, rfl, h1, h2⟩ := reps2 hv
  have b := c.toBCx
  have z1 := z.len
  refine jss_cons (js_expr (ja_call b (fn_need_claims h) (by decide) (by decide +kernel) (jrs_cons (jr_var (r := .d _) (i := 0) b rfl (by decide +kernel) rfl h1) jrs_nil) ⟨_, rfl, (by walk_at "pc"), rfl⟩) rfl1 fun _ H1 s1 _ => jss_cons (js_expr (ja_call b (fn_need_claim h) (by decide) (by decide +kernel) (jrs_cons (jr_var (r := .d _) (i := 1) b rfl (by decide +kernel) rfl h2) jrs_nil) ⟨_, rfl, (by walk_at "pc"), rfl⟩) s1 fun _ H2 s2 _ => ?_))
  refine jss_cons (js_ifF0 (jt_niT b (jr_var (r := .d _) (i := 1) b rfl (by decide +kernel) rfl h2) (jr_var (r := .d _) (i := 0) b rfl (by decide +kernel) rfl h1) (by walk_at "sh") (by walk_at "sh")) ?_ (s1.trans s2) fun H3 s3 => jss_cons (js_ifF0 (jt_eq (r := .d _) (q := .d _) b (ja_lenT b (by decide +kernel) h.f_len (jr_var (r := .d _) (i := 0) b rfl (by decide +kernel) rfl h1)) (ja_int (i := 1)) (by walk_at "sh") (by walk_at "sh")) ?_ ((s1.trans s2).trans s3) fun H4 s4 => jss_one (js_ret (ja_tuple b (by decide +kernel) h.f_tuple (JA.toR (ja_lc (own := [("one", 2)]) b (src_tup (jr_var (r := .d _) (i := 0) b rfl (by decide +kernel) rfl h1)) (by decide +kernel) (by walk_at "hl") (fun i1 a1 v1 B1 ha1 s1 hv1 => by exact ⟨_, by rfl, fun X1 c1 f1 => ⟨tgt_nameB (i := 2) c1 rfl (by decide +kernel), jif_one (jt_ne (r := .d _) (q := .d _) c1 (jr_var (r := .d _) (i := 2) c1 rfl (by decide +kernel) rfl hv1) (jr_var (r := .d _) (i := 1) c1 rfl (by decide +kernel) rfl (h2.up s1)) (by walk_at "sh") (by walk_at "sh")), fun hi1 => jr_var (r := .d _) (i := 2) c1 rfl (by decide +kernel) rfl hv1⟩⟩)))) (((s1.trans s2).trans s3).trans s4) (rqs (((s1.trans s2).trans s3).trans s4) hQ ?_))))
  · rw [any_eqv eqv_eC]
    simp [zn]
  · simp [eqv_int, Ar.pd]
    omega
  · simp only [Ar.pd, eqv_eC, eCs]
def R_lies_at_road : List Ar → Ar → Prop := fun as r => ∃ m : List (List Int), ∃ land : List Pl, as = [.d (eM m), .d (eL land)] ∧ (m.length ≤ 10) ∧ (∀ r ∈ m, r.length ≤ 10) ∧ (land.length ≤ 100) ∧ r = .d (.bool (liesAtRoad m land))
theorem fn_lies_at_road : Fn T "lies_at_road" 3 (spA R_lies_at_road) := by
  refine fn_mkA h.d_lies_at_road sc_lies_at_road (fun rs r ⟨_, _, e, _⟩ => by subst e; rfl) (fun _ _ _ _ _ _ us hl => match us, hl with | [_, _], _ => rfl) fun X c vs H rs r Q hv ⟨m, land, e1, y1, y2, zl, e2⟩ hQ => ?_
  subst e1; subst e2
  obtain ⟨v1, v2, rfl, h1, h2⟩ := reps2 hv
  have b := c.toBCx
  refine jss_cons (js_setB c (i := 2) rfl (by decide +kernel) (ja_call b (fn_places_of h) (by decide) (by decide +kernel) (jrs_cons (jr_var (r := .d _) (i := 0) b rfl (by decide +kernel) rfl h1) (jrs_cons (ja_num b (by decide +kernel) h.n_ROAD) (jrs_cons (ja_num b (by decide +kernel) h.n_ROAD) jrs_nil))) ⟨_, _, _, rfl, (by walk_at "pc"), (by walk_at "pc"), rfl⟩) rfl1 fun v B1 H1 g q => ?_)
  obtain ⟨p, rfl, q⟩ := q
  refine jss_one (js_ret (ja_anyM b (by decide +kernel) h.f_any (JA.toR (ja_lc0 (own := [("place", 3)]) b (src_tup (jr_var (r := .d _) (i := 1) b rfl (by decide +kernel) rfl (h2.up g.base))) (by decide +kernel) (by walk_at "hl") (fun i1 a1 v1 B1 ha1 s1 hv1 => by exact ⟨_, by rfl, fun X1 c1 f1 => ⟨tgt_nameB (i := 3) c1 rfl (by decide +kernel), ja_anyM c1 (by decide +kernel) h.f_any (JA.toR (ja_lc0 (own := [("one", 4)]) c1 (src_list (jlb_new (ja_call c1 (fn_beside h) (by decide) (by decide +kernel) (jrs_cons (jr_var (r := .d _) (i := 3) c1 rfl (by decide +kernel) rfl hv1) jrs_nil) ⟨_, rfl, rfl⟩))) (by decide +kernel) (by walk_at "hl") (fun i2 a2 v2 B2 ha2 s2 hv2 => by exact ⟨_, by rfl, fun X2 c2 f2 => ⟨tgt_nameB (i := 4) c2 rfl (by decide +kernel), ja_inL c2 (jr_var (r := .d _) (i := 4) c2 rfl (by decide +kernel) rfl hv2) (jr_var (r := .l _) (i := 2) c2 rfl (by decide +kernel) rfl (⟨_, rfl, ((q.up s1).up s2)⟩)) (by walk_at "sh") (by walk_at "sh")⟩⟩)))⟩⟩)))) g.ins (rqs g.up hQ (rb ?_)))
  simp only [any_eqv eqv_eP]
  rfl
end
end Mead

set_option maxRecDepth 100000
set_option maxHeartbeats 4000000
namespace Mead
open PySem PySem.Spec PyProof.Rows L2
local macro_rules | `(tactic| walk_at "hl") => `(tactic| first | assumption | omega | (simp only [List.length_map]; omega) | exact Nat.le_of_ble_eq_true rfl | (simp only [List.length_map, List.length_mapIdx, List.length_range]; omega) | (simp only [List.length_mapIdx, List.length_map] at *; omega) | fail)
local macro_rules | `(tactic| walk_at "pc") => `(tactic| first | assumption | exact Nat.le_refl _ | omega)
local macro_rules | `(tactic| walk_at "sh") => `(tactic| first | exact sh_int _ | exact sh_bool _ | exact sh_none | exact sh_eP (by decide) _ | exact sh_eR (by decide) _ | exact sh_eL (by decide) _ | exact sh_eM (by decide) _ | exact sh_eC (by decide) _ | exact sh_eCs (by decide) _ | exact (sh_lst (n := 59) (sh_map fun _ => sh_eP (by decide) _)) | exact (sh_lst (n := 59) (sh_map fun _ => sh_eC (by decide) _)) | exact (sh_lst (n := 59) (sh_map fun _ => sh_eL (by decide) _)) | exact (sh_lst (n := 59) (sh_map fun _ => sh_int _)) | exact (sh_lst (n := 59) sh_nil) | exact (sh_tup (n := 59) sh_nil) | exact sh_tup (n := 59) (sh_cons (sh_int _) (sh_cons (sh_int _) sh_nil)) | exact sh_lst (n := 59) (sh_map fun _ => sh_tup (n := 58) (sh_cons (sh_int _) (sh_cons (sh_int _) sh_nil))) | fail)
local macro_rules | `(tactic| walk_at "al") => `(tactic| first | rfl | simp [PySem.W.alike, PySem.W.alikeAll, eP] | fail)
local macro_rules | `(tactic| walk_at "nn") => `(tactic| intro z; cases z)
section
variable {T : Tx} (h : Top T)
include h
def pieceMu (n : Nat) (σ : L2.St) : Nat := match σ with
  | [_, _, _, some (.int i), _] => n + 1 - i.toNat
  | _ => 0
def R_piece_from : List Ar → Ar → Prop := fun as r => ∃ land : List Pl, ∃ pl : Pl, as = [.d (eL land), .d (eP pl)] ∧ (land.length ≤ 100) ∧ r = .d (eL (pieceFrom land pl))
theorem fn_piece_from : Fn T "piece_from" 3 (spA R_piece_from) := by
  refine fn_mkA h.d_piece_from sc_piece_from (fun rs r ⟨_, _, e, _⟩ => by subst e; rfl) (fun _ _ _ _ _ _ us hl => match us, hl with | [_, _], _ => rfl) fun X c vs H rs r Q hv ⟨land, pl, e1, zl, e2⟩ hQ => ?_
  subst e1; subst e2
  obtain ⟨v1, v2, rfl, h1, h2⟩ := reps2 hv
  have b := c.toBCx
  refine jss_cons (js_tup b (jns_cons (ja_lst (jds_cons (jr_var (r := .d _) (i := 1) b rfl (by decide +kernel) rfl h2) jds_nil)) (jns_cons (ja_int (i := 0)) jns_nil)) rfl1 (n := 2) rfl (by decide) fun vs H1 s1 hp => ?_)
  obtain ⟨w1, w2, rfl, q, q2⟩ := paired2 hp
  obtain ⟨p, e, np, q⟩ := q
  subst e
  have e := Im.isInt q2
  subst e
  obtain ⟨B0, y1, y2, F0⟩ := Fl.of s1 np q
  refine jgs_cons (jg_name (i := 2) c rfl (by decide +kernel) (jgs_cons (jg_name (i := 3) c rfl (by decide +kernel) (jgs_nil ?_))))
  refine jss_cons (js_while b (fun σ' H' => ∃ Bi line, ∃ i : Nat, σ' = [some v1, some v2, some (.ref p), some (.int i), none] ∧ Same H Bi ∧ Same Bi H' ∧ Fl p (line.map eP) Bi H' ∧ PieceI land pl line i) (fun σ' _ => pieceMu land.length σ') ⟨_, [pl], 0, rfl, y1, y2, F0, PieceI.start land pl⟩ ?_)
  rintro σ' H' ⟨Bi, line, i, rfl, t1, t2, hF, I⟩
  obtain ⟨n1, us, n2, n3⟩ := id hF
  have hL : Ls H' p (line.map eP) := ⟨us, n2, n3.up t2⟩
  have zl2 := I.len
  refine jt_mono ((jt_cmp cm_lt (jr_var (r := .d _) (i := 3) b rfl (by decide +kernel) rfl (Im.int _)) (ja_lenL b (by decide +kernel) h.f_len (jr_var (r := .l _) (i := 2) b rfl (by decide +kernel) rfl (⟨_, rfl, hL⟩)))) H' rfl1) fun z H2 ⟨s2, ez⟩ => ?_
  rw [ez, List.length_map]
  by_cases hi : i < line.length
  · have hi' : decide ((i : Int) < line.length) = true := decide_eq_true (by omega)
    rw [hi', if_pos rfl]
    have g2 := grow t2 s2
    refine jss_cons (js_extFH b (jv_var (i := 2) b rfl (by decide +kernel) rfl) g2.ins (hF.grow g2) (ja_lc (own := [("one", 4)]) b (src_list (jlb_new (ja_call b (fn_beside h) (by decide) (by decide +kernel) (jrs_cons (ja_ixLm (f := eP) default (jr_var (r := .l _) (i := 2) b rfl (by decide +kernel) rfl (⟨_, rfl, (hL.up s2)⟩)) (jr_var (r := .d _) (i := 3) b rfl (by decide +kernel) rfl (Im.int _)) (by (have zi := hi; omega))) jrs_nil) ⟨_, rfl, rfl⟩))) (by decide +kernel) (by walk_at "hl") (fun i1 a1 v1 B1 ha1 s1 hv1 => by exact ⟨_, by rfl, fun X1 c1 f1 => ⟨tgt_nameB (i := 4) c1 rfl (by decide +kernel), jif_one (JW.t (jw_and (jt_inT c1 (jr_var (r := .d _) (i := 4) c1 rfl (by decide +kernel) rfl hv1) (jr_var (r := .d _) (i := 0) c1 rfl (by decide +kernel) rfl (((h1.up (t1.trans t2)).up s2).up s1)) (by walk_at "sh") (by walk_at "sh")) fun hb2 => jw_and1 (jt_niL c1 (jr_var (r := .d _) (i := 4) c1 rfl (by decide +kernel) rfl hv1) (jr_var (r := .l _) (i := 2) c1 rfl (by decide +kernel) rfl (⟨_, rfl, ((hL.up s2).up s1)⟩)) (by walk_at "sh") (by walk_at "sh")))), fun hi1 => jr_var (r := .d _) (i := 4) c1 rfl (by decide +kernel) rfl hv1⟩⟩)) ?_ fun B3 H3 s3 s4 hF3 => jss_one (js_set c (i := 3) rfl (by decide +kernel) (ja_add (jr_var (r := .d _) (i := 3) b rfl (by decide +kernel) rfl (Im.int _)) (ja_int (i := 1))) s4 fun v H4 s5 q => ⟨⟨B3, line ++ stepP land line (line.getD i default), i + 1, ?_, (t1.trans g2.base).trans s3, s4.trans s5, ?_, ?_⟩, ?_⟩))
    · have zf : ∀ (P : Pl → Bool) (l : List Pl), (List.map eP (List.filter P l)).length ≤ l.length := fun P l => by
        rw [List.length_map]
        exact List.length_filter_le _ _
      refine Nat.le_trans (Nat.add_le_add_left (zf _ _) _) ?_
      rw [List.length_map]
      show line.length + 4 ≤ 1000000
      omega
    · have e := Im.isInt q
      subst e
      rfl
    · refine (Fl.next ?_ s5)
      rw [List.map_append]
      simp only [any_eqv eqv_eP] at hF3
      exact hF3
    · exact I.step (by rw [List.getD, List.getElem?_eq_getElem hi]; rfl)
    · have e := Im.isInt q
      subst e
      show land.length + 1 - ((i : Int) + 1).toNat < land.length + 1 - (i : Int).toNat
      omega
  · have hi' : decide ((i : Int) < line.length) = false := decide_eq_false (by omega)
    rw [hi', if_neg Bool.false_ne_true]
    refine jss_one (js_ret (ja_tuple b (by decide +kernel) h.f_tuple (JA.toR (ja_sorted b (by decide +kernel) h.f_sorted (jr_var (r := .l _) (i := 2) b rfl (by decide +kernel) rfl (⟨_, rfl, (hL.up s2)⟩)) (by exact sok_eP _) (by exact dep_eP)))) rfl1 (rqs ((t1.trans t2).trans s2) hQ ?_))
    rw [I.fin hi]
    rfl
def R_is_whole : List Ar → Ar → Prop := fun as r => ∃ land : List Pl, as = [.d (eL land)] ∧ (land.length ≤ 100) ∧ r = .d (.bool (isWhole land))
theorem fn_is_whole : Fn T "is_whole" 4 (spA R_is_whole) := by
  refine fn_mkA h.d_is_whole sc_is_whole (fun rs r ⟨_, e, _⟩ => by subst e; rfl) (fun _ _ _ _ _ _ us hl => match us, hl with | [_], _ => rfl) fun X c vs H rs r Q hv ⟨land, e1, zl, e2⟩ hQ => ?_
  subst e1; subst e2
  obtain ⟨v1, rfl, h1⟩ := reps1 hv
  have b := c.toBCx
  cases land with
  | nil => exact jss_one (js_ret (ja_and (c := false) (d := false) (ja_ne (r := .d _) (q := .d _) b (jr_var (r := .d _) (i := 0) b rfl (by decide +kernel) rfl h1) (ja_tup jds_nil) (by walk_at "sh") (by walk_at "sh")) fun z => by cases z) rfl1 hQ)
  | cons a r =>
    refine jss_one (js_ret (ja_and (ja_ne (r := .d _) (q := .d _) b (jr_var (r := .d _) (i := 0) b rfl (by decide +kernel) rfl h1) (ja_tup jds_nil) (by walk_at "sh") (by walk_at "sh")) fun hb1 => ja_one (ja_eq (r := .d _) (q := .d _) b (ja_lenT b (by decide +kernel) h.f_len (ja_call b (fn_piece_from h) (by decide) (by decide +kernel) (jrs_cons (jr_var (r := .d _) (i := 0) b rfl (by decide +kernel) rfl h1) (jrs_cons (ja_ixTm (f := eP) default (jr_var (r := .d _) (i := 0) b rfl (by decide +kernel) rfl h1) (ja_int (i := 0)) (by (simp only [List.length_cons]; omega))) jrs_nil)) ⟨_, _, rfl, (by walk_at "pc"), rfl⟩)) (ja_lenT b (by decide +kernel) h.f_len (jr_var (r := .d _) (i := 0) b rfl (by decide +kernel) rfl h1)) (by walk_at "sh") (by walk_at "sh"))) rfl1 (rqs rfl1 hQ (rb ?_)))
    simp only [Ar.pd, eqv_int, List.length_map, isWhole]
    simp [eL, eqv_tup, PyData.eqvAll]
    omega
end
end Mead

set_option maxRecDepth 100000
set_option maxHeartbeats 4000000
namespace Mead
open PySem PySem.Spec PyProof.Rows L2
local macro_rules | `(tactic| walk_at "hl") => `(tactic| first | assumption | omega | (simp only [List.length_map]; omega) | exact Nat.le_of_ble_eq_true rfl | (simp only [List.length_map, List.length_mapIdx, List.length_range]; omega) | (simp only [List.length_mapIdx, List.length_map] at *; omega) | fail)
local macro_rules | `(tactic| walk_at "pc") => `(tactic| first | assumption | exact Nat.le_refl _ | omega)
local macro_rules | `(tactic| walk_at "sh") => `(tactic| first | exact sh_int _ | exact sh_bool _ | exact sh_none | exact sh_eP (by decide) _ | exact sh_eR (by decide) _ | exact sh_eL (by decide) _ | exact sh_eM (by decide) _ | exact sh_eC (by decide) _ | exact sh_eCs (by decide) _ | exact (sh_lst (n := 59) (sh_map fun _ => sh_eP (by decide) _)) | exact (sh_lst (n := 59) (sh_map fun _ => sh_eC (by decide) _)) | exact (sh_lst (n := 59) (sh_map fun _ => sh_eL (by decide) _)) | exact (sh_lst (n := 59) (sh_map fun _ => sh_int _)) | exact (sh_lst (n := 59) sh_nil) | exact (sh_tup (n := 59) sh_nil) | exact sh_tup (n := 59) (sh_cons (sh_int _) (sh_cons (sh_int _) sh_nil)) | exact sh_lst (n := 59) (sh_map fun _ => sh_tup (n := 58) (sh_cons (sh_int _) (sh_cons (sh_int _) sh_nil))) | fail)
local macro_rules | `(tactic| walk_at "al") => `(tactic| first | rfl | simp [PySem.W.alike, PySem.W.alikeAll, eP] | fail)
local macro_rules | `(tactic| walk_at "nn") => `(tactic| intro z; cases z)
section
variable {T : Tx} (h : Top T)
include h
def R_is_plea : List Ar → Ar → Prop := fun as r => ∃ p : Plea, as = [.d (ePl p)] ∧ (VPl p) ∧ r = .d (.bool true)
theorem fn_is_plea : Fn T "is_plea" 5 (spA R_is_plea) := by
  refine fn_mkA h.d_is_plea sc_is_plea (fun rs r ⟨_, e, _⟩ => by subst e; rfl) (fun _ _ _ _ _ _ us hl => match us, hl with | [_], _ => rfl) fun X c vs H rs r Q hv ⟨p, e1, z, e2⟩ hQ => ?_
  subst e1; subst e2
  obtain ⟨v1, rfl, h1⟩ := reps1 hv
  have b := c.toBCx
  have z1 := z.odd
  have z2 := z.claims.len
  refine jss_cons (js_ifF0 (JW.t (jw_or (jt_not (jt_of_ja (ja_isi b (i := true) (ty := "tuple") (t2 := "tuple") (by decide +kernel) h.f_isinstance (by decide +kernel) h.f_tuple (by decide +kernel) (jr_var (r := .d _) (i := 0) b rfl (by decide +kernel) rfl h1) tyx_tup (by decide +kernel)))) fun hb1 => jw_or (jt_ne (r := .d _) (q := .d _) b (ja_lenT b (by decide +kernel) h.f_len (jr_var (r := .d _) (i := 0) b rfl (by decide +kernel) rfl h1)) (ja_int (i := 4)) (by walk_at "sh") (by walk_at "sh")) fun hb2 => jw_or (jt_not (jt_of_ja (ja_call b (fn_is_mead h) (by decide) (by decide +kernel) (jrs_cons (ja_ixT (jr_var (r := .d _) (i := 0) b rfl (by decide +kernel) rfl h1) (ja_int (i := 0)) rfl) jrs_nil) ⟨_, rfl, (by first | exact z.mead | exact z.custom | exact z.claims | exact z.stand | exact Nat.le_trans z2.2 (by decide)), rfl⟩))) fun hb3 => jw_or1 (jt_not (jt_of_ja (ja_call b (fn_is_custom h) (by decide) (by decide +kernel) (jrs_cons (ja_ixT (jr_var (r := .d _) (i := 0) b rfl (by decide +kernel) rfl h1) (ja_int (i := 1)) rfl) jrs_nil) ⟨_, rfl, (by first | exact z.mead | exact z.custom | exact z.claims | exact z.stand | exact Nat.le_trans z2.2 (by decide)), rfl⟩))))) rfl rfl1 fun H1 s1 => jss_one (js_ret (ja_and (ja_call b (fn_are_claims h) (by decide) (by decide +kernel) (jrs_cons (ja_ixT (jr_var (r := .d _) (i := 0) b rfl (by decide +kernel) rfl h1) (ja_int (i := 2)) rfl) jrs_nil) ⟨_, rfl, (by first | exact z.mead | exact z.custom | exact z.claims | exact z.stand | exact Nat.le_trans z2.2 (by decide)), rfl⟩) fun hb4 => ja_and (ja_call b (fn_stand h) (by decide) (by decide +kernel) (jrs_cons (ja_ixT (jr_var (r := .d _) (i := 0) b rfl (by decide +kernel) rfl h1) (ja_int (i := 1)) rfl) (jrs_cons (ja_ixT (jr_var (r := .d _) (i := 0) b rfl (by decide +kernel) rfl h1) (ja_int (i := 2)) rfl) jrs_nil)) ⟨_, _, rfl, (by first | exact z.mead | exact z.custom | exact z.claims | exact z.stand | exact Nat.le_trans z2.2 (by decide)), (by first | exact z.mead | exact z.custom | exact z.claims | exact z.stand | exact Nat.le_trans z2.2 (by decide)), rfl⟩) fun hb5 => ja_one (ja_call b (fn_is_from h) (by decide) (by decide +kernel) (jrs_cons (ja_ixT (jr_var (r := .d _) (i := 0) b rfl (by decide +kernel) rfl h1) (ja_int (i := 3)) rfl) (jrs_cons (ja_int (i := 0)) (jrs_cons (ja_num b (by decide +kernel) h.n_MOST_ODD) jrs_nil))) ⟨_, _, _, rfl, rfl⟩)) s1 (rqs s1 hQ (rb ?_))))
  simp
  omega
def R_need_plea : List Ar → Ar → Prop := fun as r => ∃ p : Plea, as = [.d (ePl p)] ∧ (VPl p) ∧ r = .d .none
theorem fn_need_plea : Fn T "need_plea" 6 (spA R_need_plea) := by
  refine fn_mkA h.d_need_plea sc_need_plea (fun rs r ⟨_, e, _⟩ => by subst e; rfl) (fun _ _ _ _ _ _ us hl => match us, hl with | [_], _ => rfl) fun X c vs H rs r Q hv ⟨p, e1, z, e2⟩ hQ => ?_
  subst e1; subst e2
  obtain ⟨v1, rfl, h1⟩ := reps1 hv
  have b := c.toBCx
  exact jss_one (js_ifF0 (jt_not (jt_of_ja (ja_call b (fn_is_plea h) (by decide) (by decide +kernel) (jrs_cons (jr_var (r := .d _) (i := 0) b rfl (by decide +kernel) rfl h1) jrs_nil) ⟨_, rfl, (by assumption), rfl⟩))) rfl rfl1 fun H1 s1 => hQ _ _ s1 .non)
def R_due_in : List Ar → Ar → Prop := fun as r => ∃ p : Plea, ∃ ho : Int, as = [.d (ePl p), .d (.int ho)] ∧ (VPl p) ∧ r = .d (eP (dueIn p ho))
theorem fn_due_in : Fn T "due_in" 4 (spA R_due_in) := by
  refine fn_mkA h.d_due_in sc_due_in (fun rs r ⟨_, _, e, _⟩ => by subst e; rfl) (fun _ _ _ _ _ _ us hl => match us, hl with | [_, _], _ => rfl) fun X c vs H rs r Q hv ⟨p, ho, e1, z, e2⟩ hQ => ?_
  subst e1; subst e2
  obtain ⟨v1, v2, rfl, h1, h2⟩ := reps2 hv
  have b := c.toBCx
  refine jss_cons (js_asg (P := fun _ v H => Im H v (ePl p)) (jr_var (r := .d _) (i := 0) b rfl (by decide +kernel) rfl h1) rfl1 fun v H1 s q => ?_)
  have q : Im H1 v (ePl p) := q
  obtain ⟨pq, v1_0, v1_1, v1_2, v1_3, rfl, hpq, q_0, q_1, q_2, q_3⟩ := im4 q
  refine (tgt_tup b hpq rfl (tgts_cons (tgt_name (i := 2) c rfl (by decide +kernel)) (tgts_cons (tgt_name (i := 3) c rfl (by decide +kernel)) (tgts_cons (tgt_name (i := 4) c rfl (by decide +kernel)) (tgts_cons (tgt_name (i := 5) c rfl (by decide +kernel)) (tgts_nil)))))) _ _ rfl1 ?_
  have w1 := worth_small (m := p.mead) (fun q hq => hq) (Nat.le_trans z.mead.cells.2 (by decide))
  have w2 := z.claims.len
  have y1 := z.mead.y1
  have y2 := z.mead.y2
  exact jss_one (js_ret (ja_tup (jds_cons (ja_mul (by first | (exact .inl (by omega))) (ja_call b (fn_worth_in h) (by decide) (by decide +kernel) (jrs_cons (jr_var (r := .d _) (i := 2) b rfl (by decide +kernel) rfl q_0) (jrs_cons (JA.toR (ja_call b (fn_cells_in h) (by decide) (by decide +kernel) (jrs_cons (jr_var (r := .d _) (i := 2) b rfl (by decide +kernel) rfl q_0) jrs_nil) ⟨_, rfl, (by first | assumption | exact .inl rfl | exact z.cu | exact fun _ hp => cell_ix hp | exact Nat.le_trans z.mead.cells.2 (by decide) | exact Nat.le_trans w2.2 (by decide)), (by first | assumption | exact .inl rfl | exact z.cu | exact fun _ hp => cell_ix hp | exact Nat.le_trans z.mead.cells.2 (by decide) | exact Nat.le_trans w2.2 (by decide)), rfl⟩)) jrs_nil)) ⟨_, _, _, rfl, (by first | assumption | exact .inl rfl | exact z.cu | exact fun _ hp => cell_ix hp | exact Nat.le_trans z.mead.cells.2 (by decide) | exact Nat.le_trans w2.2 (by decide)), (by first | assumption | exact .inl rfl | exact z.cu | exact fun _ hp => cell_ix hp | exact Nat.le_trans z.mead.cells.2 (by decide) | exact Nat.le_trans w2.2 (by decide)), (by first | assumption | exact .inl rfl | exact z.cu | exact fun _ hp => cell_ix hp | exact Nat.le_trans z.mead.cells.2 (by decide) | exact Nat.le_trans w2.2 (by decide)), rfl⟩) (ja_call b (fn_counted h) (by decide) (by decide +kernel) (jrs_cons (jr_var (r := .d _) (i := 3) b rfl (by decide +kernel) rfl q_1) (jrs_cons (jr_var (r := .d _) (i := 4) b rfl (by decide +kernel) rfl q_2) (jrs_cons (jr_var (r := .d _) (i := 1) b rfl (by decide +kernel) rfl (h2.up s)) jrs_nil))) ⟨_, _, _, rfl, (by first | assumption | exact .inl rfl | exact z.cu | exact fun _ hp => cell_ix hp | exact Nat.le_trans z.mead.cells.2 (by decide) | exact Nat.le_trans w2.2 (by decide)), (by first | assumption | exact .inl rfl | exact z.cu | exact fun _ hp => cell_ix hp | exact Nat.le_trans z.mead.cells.2 (by decide) | exact Nat.le_trans w2.2 (by decide)), rfl⟩)) (jds_cons (ja_call b (fn_counted_all h) (by decide) (by decide +kernel) (jrs_cons (jr_var (r := .d _) (i := 3) b rfl (by decide +kernel) rfl q_1) (jrs_cons (jr_var (r := .d _) (i := 4) b rfl (by decide +kernel) rfl q_2) jrs_nil)) ⟨_, _, rfl, (by first | assumption | exact .inl rfl | exact z.cu | exact fun _ hp => cell_ix hp | exact Nat.le_trans z.mead.cells.2 (by decide) | exact Nat.le_trans w2.2 (by decide)), (by first | assumption | exact .inl rfl | exact z.cu | exact fun _ hp => cell_ix hp | exact Nat.le_trans z.mead.cells.2 (by decide) | exact Nat.le_trans w2.2 (by decide)), rfl⟩) jds_nil))) rfl1 (rqs s hQ rfl))
def R_is_worth : List Ar → Ar → Prop := fun as r => ∃ p : Plea, ∃ due : Int × Int, ∃ land : List Pl, as = [.d (ePl p), .d (eP due), .d (eL land)] ∧ (VPl p) ∧ (0 ≤ due.2 ∧ due.2 ≤ 24000) ∧ (LandOk p.mead land) ∧ r = .d (.bool (isWorth p due land))
theorem fn_is_worth : Fn T "is_worth" 3 (spA R_is_worth) := by
  refine fn_mkA h.d_is_worth sc_is_worth (fun rs r ⟨_, _, _, e, _⟩ => by subst e; rfl) (fun _ _ _ _ _ _ us hl => match us, hl with | [_, _, _], _ => rfl) fun X c vs H rs r Q hv ⟨p, due, land, e1, z, zd, zl, e2⟩ hQ => ?_
  subst e1; subst e2
  obtain ⟨v1, v2, v3, rfl, h1, h2, h3⟩ := reps3 hv
  have b := c.toBCx
  refine jss_cons (js_asg (P := fun _ v H => Im H v (eP due)) (jr_var (r := .d _) (i := 1) b rfl (by decide +kernel) rfl h2) rfl1 fun v H1 s q => ?_)
  have q : Im H1 v (eP due) := q
  obtain ⟨pq, v1_0, v1_1, rfl, hpq, q_0, q_1⟩ := im2 q
  refine (tgt_tup b hpq rfl (tgts_cons (tgt_name (i := 3) c rfl (by decide +kernel)) (tgts_cons (tgt_name (i := 4) c rfl (by decide +kernel)) (tgts_nil)))) _ _ rfl1 ?_
  have w1 := zl.len z.mead
  exact jss_one (js_ret (ja_cmp cm_le (ja_abs b (by decide +kernel) h.f_abs (ja_sub (ja_mul (by exact .inr (by omega)) (ja_call b (fn_worth_in h) (by decide) (by decide +kernel) (jrs_cons (ja_ixT (jr_var (r := .d _) (i := 0) b rfl (by decide +kernel) rfl (h1.up s)) (ja_int (i := 0)) rfl) (jrs_cons (jr_var (r := .d _) (i := 2) b rfl (by decide +kernel) rfl (h3.up s)) jrs_nil)) ⟨_, _, _, rfl, (by first | assumption | exact .inr rfl | exact fun _ hp => cell_ix (zl.mem _ hp) | omega), (by first | assumption | exact .inr rfl | exact fun _ hp => cell_ix (zl.mem _ hp) | omega), (by first | assumption | exact .inr rfl | exact fun _ hp => cell_ix (zl.mem _ hp) | omega), rfl⟩) (jr_var (r := .d _) (i := 4) b rfl (by decide +kernel) rfl q_1)) (jr_var (r := .d _) (i := 3) b rfl (by decide +kernel) rfl q_0))) (ja_mul (by exact .inr (by omega)) (ja_ixT (jr_var (r := .d _) (i := 0) b rfl (by decide +kernel) rfl (h1.up s)) (ja_int (i := 3)) rfl) (jr_var (r := .d _) (i := 4) b rfl (by decide +kernel) rfl q_1))) rfl1 (rqs s hQ rfl))
def R_fits_due : List Ar → Ar → Prop := fun as r => ∃ p : Plea, ∃ due : Int × Int, ∃ land : List Pl, as = [.d (ePl p), .d (eP due), .d (eL land)] ∧ (VPl p) ∧ (0 ≤ due.2 ∧ due.2 ≤ 24000) ∧ (LandOk p.mead land) ∧ r = .d (.bool (fitsDue p due land))
theorem fn_fits_due : Fn T "fits_due" 5 (spA R_fits_due) := by
  refine fn_mkA h.d_fits_due sc_fits_due (fun rs r ⟨_, _, _, e, _⟩ => by subst e; rfl) (fun _ _ _ _ _ _ us hl => match us, hl with | [_, _, _], _ => rfl) fun X c vs H rs r Q hv ⟨p, due, land, e1, z, zd, zl, e2⟩ hQ => ?_
  subst e1; subst e2
  obtain ⟨v1, v2, v3, rfl, h1, h2, h3⟩ := reps3 hv
  have b := c.toBCx
  have w1 := zl.len z.mead
  have y1 := z.mead.y1
  have y2 := z.mead.y2
  exact jss_one (js_ret (ja_and (ja_call b (fn_is_worth h) (by decide) (by decide +kernel) (jrs_cons (jr_var (r := .d _) (i := 0) b rfl (by decide +kernel) rfl h1) (jrs_cons (jr_var (r := .d _) (i := 1) b rfl (by decide +kernel) rfl h2) (jrs_cons (jr_var (r := .d _) (i := 2) b rfl (by decide +kernel) rfl h3) jrs_nil))) ⟨_, _, _, rfl, (by first | assumption | omega), (by first | assumption | omega), (by first | assumption | omega), rfl⟩) fun hb1 => ja_and (ja_call b (fn_lies_at_road h) (by decide) (by decide +kernel) (jrs_cons (ja_ixT (jr_var (r := .d _) (i := 0) b rfl (by decide +kernel) rfl h1) (ja_int (i := 0)) rfl) (jrs_cons (jr_var (r := .d _) (i := 2) b rfl (by decide +kernel) rfl h3) jrs_nil)) ⟨_, _, rfl, (by first | assumption | omega), (by first | assumption | omega), (by first | assumption | omega), rfl⟩) fun hb2 => ja_one (ja_call b (fn_is_whole h) (by decide) (by decide +kernel) (jrs_cons (jr_var (r := .d _) (i := 2) b rfl (by decide +kernel) rfl h3) jrs_nil) ⟨_, rfl, (by first | assumption | omega), rfl⟩)) rfl1 hQ)
def R_is_fit : List Ar → Ar → Prop := fun as r => ∃ p : Plea, ∃ ho : Int, ∃ land : List Pl, as = [.d (ePl p), .d (.int ho), .d (eL land)] ∧ (VPl p) ∧ (LandOk p.mead land) ∧ r = .d (.bool (fitsDue p (dueIn p ho) land))
theorem fn_is_fit : Fn T "is_fit" 6 (spA R_is_fit) := by
  refine fn_mkA h.d_is_fit sc_is_fit (fun rs r ⟨_, _, _, e, _⟩ => by subst e; rfl) (fun _ _ _ _ _ _ us hl => match us, hl with | [_, _, _], _ => rfl) fun X c vs H rs r Q hv ⟨p, ho, land, e1, z, zl, e2⟩ hQ => ?_
  subst e1; subst e2
  obtain ⟨v1, v2, v3, rfl, h1, h2, h3⟩ := reps3 hv
  have b := c.toBCx
  have w1 := z.all
  exact jss_one (js_ret (ja_call b (fn_fits_due h) (by decide) (by decide +kernel) (jrs_cons (jr_var (r := .d _) (i := 0) b rfl (by decide +kernel) rfl h1) (jrs_cons (ja_call b (fn_due_in h) (by decide) (by decide +kernel) (jrs_cons (jr_var (r := .d _) (i := 0) b rfl (by decide +kernel) rfl h1) (jrs_cons (jr_var (r := .d _) (i := 1) b rfl (by decide +kernel) rfl h2) jrs_nil)) ⟨_, _, rfl, (by first | assumption | exact w1), rfl⟩) (jrs_cons (jr_var (r := .d _) (i := 2) b rfl (by decide +kernel) rfl h3) jrs_nil))) ⟨_, _, _, rfl, (by first | assumption | exact w1), (by first | assumption | exact w1), (by first | assumption | exact w1), rfl⟩) rfl1 hQ)
end
end Mead

set_option maxRecDepth 100000
set_option maxHeartbeats 4000000
namespace Mead
open PySem PySem.Spec PyProof.Rows L2
local macro_rules | `(tactic| walk_at "hl") => `(tactic| first | assumption | omega | (simp only [List.length_map]; omega) | exact Nat.le_of_ble_eq_true rfl | (simp only [List.length_map, List.length_mapIdx, List.length_range]; omega) | (simp only [List.length_mapIdx, List.length_map] at *; omega) | fail)
local macro_rules | `(tactic| walk_at "pc") => `(tactic| first | assumption | exact Nat.le_refl _ | omega)
local macro_rules | `(tactic| walk_at "sh") => `(tactic| first | exact sh_int _ | exact sh_bool _ | exact sh_none | exact sh_eP (by decide) _ | exact sh_eR (by decide) _ | exact sh_eL (by decide) _ | exact sh_eM (by decide) _ | exact sh_eC (by decide) _ | exact sh_eCs (by decide) _ | exact (sh_lst (n := 59) (sh_map fun _ => sh_eP (by decide) _)) | exact (sh_lst (n := 59) (sh_map fun _ => sh_eC (by decide) _)) | exact (sh_lst (n := 59) (sh_map fun _ => sh_eL (by decide) _)) | exact (sh_lst (n := 59) (sh_map fun _ => sh_int _)) | exact (sh_lst (n := 59) sh_nil) | exact (sh_tup (n := 59) sh_nil) | exact sh_tup (n := 59) (sh_cons (sh_int _) (sh_cons (sh_int _) sh_nil)) | exact sh_lst (n := 59) (sh_map fun _ => sh_tup (n := 58) (sh_cons (sh_int _) (sh_cons (sh_int _) sh_nil))) | fail)
local macro_rules | `(tactic| walk_at "al") => `(tactic| first | rfl | simp [PySem.W.alike, PySem.W.alikeAll, eP] | fail)
local macro_rules | `(tactic| walk_at "nn") => `(tactic| intro z; cases z)
section
variable {T : Tx} (h : Top T)
include h
def R_lands_of : List Ar → Ar → Prop := fun as r => ∃ m : List (List Int), as = [.d (eM m)] ∧ (m.length ≤ 10) ∧ (∀ r ∈ m, r.length ≤ 10) ∧ ((cellsIn m).length ≤ 5) ∧ r = .l ((landsOf m).map eL)
theorem fn_lands_of : Fn T "lands_of" 4 (spA R_lands_of) := by
  refine fn_mkA h.d_lands_of sc_lands_of (fun rs r ⟨_, e, _⟩ => by subst e; rfl) (fun _ _ _ _ _ _ us hl => match us, hl with | [_], _ => rfl) fun X c vs H rs r Q hv ⟨m, e1, y1, y2, zc, e2⟩ hQ => ?_
  subst e1; subst e2
  obtain ⟨v1, rfl, h1⟩ := reps1 hv
  have b := c.toBCx
  refine jss_cons (js_setB c (i := 1) rfl (by decide +kernel) (ja_lst (jds_cons (ja_tup jds_nil) jds_nil)) rfl1 fun v B1 H1 g q => ?_)
  obtain ⟨p, rfl, q⟩ := q
  refine jss_cons (js_forG b (src_list (jlb_new (ja_call b (fn_cells_in h) (by decide) (by decide +kernel) (jrs_cons (jr_var (r := .d _) (i := 0) b rfl (by decide +kernel) rfl (h1.up g.base)) jrs_nil) ⟨_, rfl, (by walk_at "pc"), (by walk_at "pc"), rfl⟩))) g.ins (fun i Bi σ' _ => ∃ q a w, σ' = [some v1, some (.ref q), a, w] ∧ Ls Bi q ((landsRaw ((cellsIn m).take i)).map eL)) (fun _ _ _ _ _ _ _ _ g ⟨q, a, w, e, l⟩ => ⟨q, a, w, e, l.up g.base⟩) ⟨p, _, _, rfl, q⟩ ?_ ?_)
  · rintro B2 s i d σ' H' v Bi hd t1 t2 ⟨q, _, _, rfl, hq⟩ hv
    obtain ⟨cell, hr, rfl⟩ := of_map_at hd
    refine (tgt_name (i := 2) c rfl (by decide +kernel)) _ _ t2 ?_
    have w1 := landsRaw_len ((cellsIn m).take i)
    have w2 : ((cellsIn m).take i).length ≤ 5 := by rw [List.length_take]; omega
    have w3 : 2 ^ ((cellsIn m).take i).length ≤ 2 ^ 5 := Nat.pow_le_pow_right (by decide) w2
    have w4 : (landsRaw ((cellsIn m).take i)).length ≤ 32 := by rw [w1]; exact w3
    refine jss_one (js_setB c (i := 1) rfl (by decide +kernel) (ja_catL (jr_var (r := .l _) (i := 1) b rfl (by decide +kernel) rfl (⟨_, rfl, hq⟩)) (JA.toR (ja_lc0 (own := [("land", 3)]) b (src_list (jlb_var (jv_var (i := 1) b rfl (by decide +kernel) rfl) hq)) (by decide +kernel) (by first | assumption | omega | (simp only [List.length_map]; omega) | (have zz := (landsRaw_sub _ _ (List.mem_of_getElem? (by assumption))).length_le; omega)) (fun i2 a2 v2 B2 ha2 s2 hv2 => by exact ⟨_, by rfl, fun X2 c2 f2 => ⟨tgt_nameB (i := 3) c2 rfl (by decide +kernel), ja_snocT (jr_var (r := .d _) (i := 3) c2 rfl (by decide +kernel) rfl hv2) (ja_tup (jds_cons (jr_var (r := .d _) (i := 2) c2 rfl (by decide +kernel) rfl (hv.up s2)) jds_nil)) (by first | assumption | omega | (simp only [List.length_map]; omega) | (have zz := (landsRaw_sub _ _ (List.mem_of_getElem? (by assumption))).length_le; omega))⟩⟩))) (by first | assumption | omega | (simp only [List.length_map]; omega) | (have zz := (landsRaw_sub _ _ (List.mem_of_getElem? (by assumption))).length_le; omega))) t2 fun v2 B3 H3 g3 q3 => ?_)
    obtain ⟨p3, rfl, q3⟩ := q3
    refine ⟨B3, t1.trans g3.base, g3.ins, p3, _, _, rfl, ?_⟩
    rw [take_at hr, landsRaw_snoc, List.map_append, List.map_map]
    exact q3
  · rintro σ' H' Bi t1 t2 ⟨q, _, _, rfl, hq⟩
    rw [List.length_map, List.take_length] at hq
    exact jss_one (js_ret (ja_sorted b (by decide +kernel) h.f_sorted (jr_var (r := .l _) (i := 1) b rfl (by decide +kernel) rfl (⟨_, rfl, hq⟩)) (by obtain ⟨r, e⟩ := landsRaw_head (cellsIn m); rw [e]; exact sok_eL r) (by exact dep_eL)) t2 (rqs ((g.base.trans t1).trans t2) hQ rfl))
def R_fit_in : List Ar → Ar → Prop := fun as r => ∃ p : Plea, ∃ ho : Int, as = [.d (ePl p), .d (.int ho)] ∧ (VPl p) ∧ r = .l ((fitIn p ho).map eL)
theorem fn_fit_in : Fn T "fit_in" 6 (spA R_fit_in) := by
  refine fn_mkA h.d_fit_in sc_fit_in (fun rs r ⟨_, _, e, _⟩ => by subst e; rfl) (fun _ _ _ _ _ _ us hl => match us, hl with | [_, _], _ => rfl) fun X c vs H rs r Q hv ⟨p, ho, e1, z, e2⟩ hQ => ?_
  subst e1; subst e2
  obtain ⟨v1, v2, rfl, h1, h2⟩ := reps2 hv
  have b := c.toBCx
  refine jss_cons (js_setB c (i := 2) rfl (by decide +kernel) (ja_call b (fn_due_in h) (by decide) (by decide +kernel) (jrs_cons (jr_var (r := .d _) (i := 0) b rfl (by decide +kernel) rfl h1) (jrs_cons (jr_var (r := .d _) (i := 1) b rfl (by decide +kernel) rfl h2) jrs_nil)) ⟨_, _, rfl, (by first | assumption | exact z.mead.y1 | exact z.mead.y2 | exact z.mead.cells.2 | exact z.all | exact landsOf_ok (List.mem_of_getElem? (by assumption))), rfl⟩) rfl1 fun v B1 H1 g q => ?_)
  have w1 : (landsOf p.mead).length ≤ 32 := by
    have w2 : 2 ^ (cellsIn p.mead).length ≤ 2 ^ 5 := Nat.pow_le_pow_right (by decide) z.mead.cells.2
    unfold landsOf
    rw [srt_len, landsRaw_len]
    exact w2
  exact jss_one (js_ret (ja_lc (own := [("land", 3)]) b (src_list (jlb_new (ja_call b (fn_lands_of h) (by decide) (by decide +kernel) (jrs_cons (ja_ixT (jr_var (r := .d _) (i := 0) b rfl (by decide +kernel) rfl (h1.up g.base)) (ja_int (i := 0)) rfl) jrs_nil) ⟨_, rfl, (by first | assumption | exact z.mead.y1 | exact z.mead.y2 | exact z.mead.cells.2 | exact z.all | exact landsOf_ok (List.mem_of_getElem? (by assumption))), (by first | assumption | exact z.mead.y1 | exact z.mead.y2 | exact z.mead.cells.2 | exact z.all | exact landsOf_ok (List.mem_of_getElem? (by assumption))), (by first | assumption | exact z.mead.y1 | exact z.mead.y2 | exact z.mead.cells.2 | exact z.all | exact landsOf_ok (List.mem_of_getElem? (by assumption))), rfl⟩))) (by decide +kernel) (by walk_at "hl") (fun i1 a1 v1 B1 ha1 s1 hv1 => by exact ⟨_, by rfl, fun X1 c1 f1 => ⟨tgt_nameB (i := 3) c1 rfl (by decide +kernel), jif_one (jt_of_ja (ja_call c1 (fn_fits_due h) (by decide) (by decide +kernel) (jrs_cons (jr_var (r := .d _) (i := 0) c1 rfl (by decide +kernel) rfl ((h1.up g.base).up s1)) (jrs_cons (jr_var (r := .d _) (i := 2) c1 rfl (by decide +kernel) rfl (q.up s1)) (jrs_cons (jr_var (r := .d _) (i := 3) c1 rfl (by decide +kernel) rfl hv1) jrs_nil))) ⟨_, _, _, rfl, (by first | assumption | exact z.mead.y1 | exact z.mead.y2 | exact z.mead.cells.2 | exact z.all | exact landsOf_ok (List.mem_of_getElem? (by assumption))), (by first | assumption | exact z.mead.y1 | exact z.mead.y2 | exact z.mead.cells.2 | exact z.all | exact landsOf_ok (List.mem_of_getElem? (by assumption))), (by first | assumption | exact z.mead.y1 | exact z.mead.y2 | exact z.mead.cells.2 | exact z.all | exact landsOf_ok (List.mem_of_getElem? (by assumption))), rfl⟩)), fun hi1 => jr_var (r := .d _) (i := 3) c1 rfl (by decide +kernel) rfl hv1⟩⟩)) g.ins (rqs g.up hQ rfl))
def R_land_by_holder : List Ar → Ar → Prop := fun as r => ∃ p : Plea, ∃ t : List Int, ∃ ho : Int, as = [.d (ePl p), .d (eR t), .d (.int ho)] ∧ (VPl p) ∧ (t.length = (cellsIn p.mead).length) ∧ r = .d (eL (landBy p t ho))
theorem fn_land_by_holder : Fn T "land_by_holder" 4 (spA R_land_by_holder) := by
  refine fn_mkA h.d_land_by_holder sc_land_by_holder (fun rs r ⟨_, _, _, e, _⟩ => by subst e; rfl) (fun _ _ _ _ _ _ us hl => match us, hl with | [_, _, _], _ => rfl) fun X c vs H rs r Q hv ⟨p, t, ho, e1, z, zt, e2⟩ hQ => ?_
  subst e1; subst e2
  obtain ⟨v1, v2, v3, rfl, h1, h2, h3⟩ := reps3 hv
  have b := c.toBCx
  have y3 := z.mead.cells.2
  refine jss_one (js_ret (ja_tuple b (by decide +kernel) h.f_tuple (JA.toR (ja_lc (own := [("cell", 3), ("own", 4)]) b (src_zipM b (by decide +kernel) h.f_zip (ja_call b (fn_cells_in h) (by decide) (by decide +kernel) (jrs_cons (ja_ixT (jr_var (r := .d _) (i := 0) b rfl (by decide +kernel) rfl h1) (ja_int (i := 0)) rfl) jrs_nil) ⟨_, rfl, (by first | exact z.mead.y1 | exact z.mead.y2), (by first | exact z.mead.y1 | exact z.mead.y2), rfl⟩) (jr_var (r := .d _) (i := 1) b rfl (by decide +kernel) rfl h2) (by first | exact zt.symm | (simp only [List.length_zip]; omega))) (by decide +kernel) (by first | exact zt.symm | (simp only [List.length_zip]; omega)) (fun i1 a1 v1 B1 ha1 s1 hv1 => by obtain ⟨phv1, v1_0, v1_1, rfl, hphv1, hv1_0, hv1_1⟩ := im2 hv1; exact ⟨_, by rfl, fun X1 c1 f1 => ⟨tgt_tup c1 hphv1 rfl (tgts_cons (tgt_nameB (i := 3) c1 rfl (by decide +kernel)) (tgts_cons (tgt_nameB (i := 4) c1 rfl (by decide +kernel)) (tgts_nil))), jif_one (jt_eq (r := .d _) (q := .d _) c1 (jr_var (r := .d _) (i := 4) c1 rfl (by decide +kernel) rfl hv1_1) (jr_var (r := .d _) (i := 2) c1 rfl (by decide +kernel) rfl (h3.up s1)) (by walk_at "sh") (by walk_at "sh")), fun hi1 => jr_var (r := .d _) (i := 3) c1 rfl (by decide +kernel) rfl hv1_0⟩⟩)))) rfl1 (rqs rfl1 hQ ?_))
  simp only [Ar.pd, eqv_int, eL, landBy, List.map_map]
  rfl
def R_is_parted : List Ar → Ar → Prop := fun as r => ∃ p : Plea, ∃ t : List Int, as = [.d (ePl p), .d (eR t)] ∧ (VPl p) ∧ (isParted p t = true) ∧ r = .d (.bool true)
theorem fn_is_parted : Fn T "is_parted" 7 (spA R_is_parted) := by
  refine fn_mkA h.d_is_parted sc_is_parted (fun rs r ⟨_, _, e, _⟩ => by subst e; rfl) (fun _ _ _ _ _ _ us hl => match us, hl with | [_, _], _ => rfl) fun X c vs H rs r Q hv ⟨p, t, e1, z, zp, e2⟩ hQ => ?_
  subst e1; subst e2
  obtain ⟨v1, v2, rfl, h1, h2⟩ := reps2 hv
  have b := c.toBCx
  obtain ⟨z1, z2, z3⟩ := isParted_at zp
  have y3 := z.mead.cells
  have z4 : ∀ o ∈ holdersIn p.claims, 0 ≤ o := fun o ho => by
    obtain ⟨c, hc, e⟩ := List.mem_map.mp ((mem_holdersIn z.claims.each o).mp ho)
    subst e
    exact (z.claims.each c hc).1.1
  have z5 : holdersIn p.claims ≠ [] := fun e => by
    obtain ⟨o, r, e2⟩ := List.exists_cons_of_length_pos (l := t) (by omega)
    have := z2 o (by rw [e2]; exact List.mem_cons_self ..)
    rw [e] at this
    cases this
  refine jss_cons (js_ifF0 (JW.t (jw_or (jt_not (jt_of_ja (ja_isi b (i := true) (ty := "tuple") (t2 := "tuple") (by decide +kernel) h.f_isinstance (by decide +kernel) h.f_tuple (by decide +kernel) (jr_var (r := .d _) (i := 1) b rfl (by decide +kernel) rfl h2) tyx_tup (by decide +kernel)))) fun hb1 => jw_or1 (jt_ne (r := .d _) (q := .d _) b (ja_lenT b (by decide +kernel) h.f_len (jr_var (r := .d _) (i := 1) b rfl (by decide +kernel) rfl h2)) (ja_lenL b (by decide +kernel) h.f_len (JA.toR (ja_call b (fn_cells_in h) (by decide) (by decide +kernel) (jrs_cons (ja_ixT (jr_var (r := .d _) (i := 0) b rfl (by decide +kernel) rfl h1) (ja_int (i := 0)) rfl) jrs_nil) ⟨_, rfl, (by first | assumption | exact z.claims | exact z.mead.y1 | exact z.mead.y2 | exact landBy_ok _ _ _), (by first | assumption | exact z.claims | exact z.mead.y1 | exact z.mead.y2 | exact landBy_ok _ _ _), rfl⟩))) (by walk_at "sh") (by walk_at "sh")))) ?_ rfl1 fun H1 s1 => jss_cons (js_setB c (i := 2) rfl (by decide +kernel) (ja_call b (fn_holders_in h) (by decide) (by decide +kernel) (jrs_cons (ja_ixT (jr_var (r := .d _) (i := 0) b rfl (by decide +kernel) rfl h1) (ja_int (i := 2)) rfl) jrs_nil) ⟨_, rfl, (by first | assumption | exact z.claims | exact z.mead.y1 | exact z.mead.y2 | exact landBy_ok _ _ _), rfl⟩) s1 fun v B1 H2 g q => ?_))
  · simp [eqv_int, Ar.pd, z1]
  obtain ⟨p5, rfl, q⟩ := q
  have y4 : (holdersIn p.claims).length ≤ 4 := List.length_filter_le _ _
  refine jss_cons (js_ifF0 (jt_not (jt_of_ja (ja_allM b (by decide +kernel) h.f_all (JA.toR (ja_lc0 (own := [("own", 4)]) b (src_tup (jr_var (r := .d _) (i := 1) b rfl (by decide +kernel) rfl (h2.up g.base))) (by decide +kernel) (by walk_at "hl") (fun i2 a2 v2 B2 ha2 s2 hv2 => by exact ⟨_, by rfl, fun X2 c2 f2 => ⟨tgt_nameB (i := 4) c2 rfl (by decide +kernel), ja_and (ja_call c2 (fn_is_from h) (by decide) (by decide +kernel) (jrs_cons (jr_var (r := .d _) (i := 4) c2 rfl (by decide +kernel) rfl hv2) (jrs_cons (ja_int (i := 0)) (jrs_cons (ja_ixLlast (f := PyData.int) 0 (jr_var (r := .l _) (i := 2) c2 rfl (by decide +kernel) rfl (⟨_, rfl, (q.up s2)⟩)) (ja_neg (ja_int (i := 1))) rfl (by exact z5)) jrs_nil))) ⟨_, _, _, rfl, rfl⟩) fun hb3 => ja_one (ja_inL c2 (jr_var (r := .d _) (i := 4) c2 rfl (by decide +kernel) rfl hv2) (jr_var (r := .l _) (i := 2) c2 rfl (by decide +kernel) rfl (⟨_, rfl, (q.up s2)⟩)) (by walk_at "sh") (by walk_at "sh"))⟩⟩)))))) ?_ g.ins fun H3 s3 => jss_one (js_ret (ja_allM b (by decide +kernel) h.f_all (JA.toR (ja_lc0 (own := [("holder", 3)]) b (src_list (jlb_var (jv_var (i := 2) b rfl (by decide +kernel) rfl) q)) (by decide +kernel) (by walk_at "hl") (fun i4 a4 v4 B4 ha4 s4 hv4 => by exact ⟨_, by rfl, fun X4 c4 f4 => ⟨tgt_nameB (i := 3) c4 rfl (by decide +kernel), ja_call c4 (fn_is_fit h) (by decide) (by decide +kernel) (jrs_cons (jr_var (r := .d _) (i := 0) c4 rfl (by decide +kernel) rfl ((h1.up g.base).up s4)) (jrs_cons (jr_var (r := .d _) (i := 3) c4 rfl (by decide +kernel) rfl hv4) (jrs_cons (ja_call c4 (fn_land_by_holder h) (by decide) (by decide +kernel) (jrs_cons (jr_var (r := .d _) (i := 0) c4 rfl (by decide +kernel) rfl ((h1.up g.base).up s4)) (jrs_cons (jr_var (r := .d _) (i := 1) c4 rfl (by decide +kernel) rfl ((h2.up g.base).up s4)) (jrs_cons (jr_var (r := .d _) (i := 3) c4 rfl (by decide +kernel) rfl hv4) jrs_nil))) ⟨_, _, _, rfl, (by first | assumption | exact z.claims | exact z.mead.y1 | exact z.mead.y2 | exact landBy_ok _ _ _), (by first | assumption | exact z.claims | exact z.mead.y1 | exact z.mead.y2 | exact landBy_ok _ _ _), rfl⟩) jrs_nil))) ⟨_, _, _, rfl, (by first | assumption | exact z.claims | exact z.mead.y1 | exact z.mead.y2 | exact landBy_ok _ _ _), (by first | assumption | exact z.claims | exact z.mead.y1 | exact z.mead.y2 | exact landBy_ok _ _ _), rfl⟩⟩⟩)))) (g.ins.trans s3) (rqs ((s1.trans g.up).trans s3) hQ (rb ?_))))
  · simp only [any_eqv eqv_int, Bool.not_eq_false', List.all_eq_true]
    intro o ho
    have q1 := z2 o ho
    have q2 := z4 o q1
    have q3 := le_last (holdersIn_pw p.claims) q1
    rw [List.getLastD_eq_getLast?] at q3
    simp [q1, q2, q3]
  · rw [List.all_eq_true]
    exact z3
def R_is_parting : List Ar → Ar → Prop := fun as r => ∃ p : Plea, ∃ t : List Int, as = [.d (ePl p), .d (eR t)] ∧ (VPl p) ∧ (isParted p t = true) ∧ r = .d (.bool true)
theorem fn_is_parting : Fn T "is_parting" 8 (spA R_is_parting) := by
  refine fn_mkA h.d_is_parting sc_is_parting (fun rs r ⟨_, _, e, _⟩ => by subst e; rfl) (fun _ _ _ _ _ _ us hl => match us, hl with | [_, _], _ => rfl) fun X c vs H rs r Q hv ⟨p, t, e1, z, zp, e2⟩ hQ => ?_
  subst e1; subst e2
  obtain ⟨v1, v2, rfl, h1, h2⟩ := reps2 hv
  have b := c.toBCx
  exact jss_cons (js_expr (ja_call b (fn_need_plea h) (by decide) (by decide +kernel) (jrs_cons (jr_var (r := .d _) (i := 0) b rfl (by decide +kernel) rfl h1) jrs_nil) ⟨_, rfl, (by first | assumption), rfl⟩) rfl1 fun _ H1 s1 _ => jss_one (js_ret (ja_call b (fn_is_parted h) (by decide) (by decide +kernel) (jrs_cons (jr_var (r := .d _) (i := 0) b rfl (by decide +kernel) rfl h1) (jrs_cons (jr_var (r := .d _) (i := 1) b rfl (by decide +kernel) rfl h2) jrs_nil)) ⟨_, _, rfl, (by first | assumption), (by first | assumption), rfl⟩) s1 (rqs s1 hQ rfl)))
end
end Mead

set_option maxRecDepth 100000
set_option maxHeartbeats 4000000
namespace Mead
open PySem PySem.Spec PyProof.Rows L2
local macro_rules | `(tactic| walk_at "hl") => `(tactic| first | assumption | omega | (simp only [List.length_map]; omega) | exact Nat.le_of_ble_eq_true rfl | (simp only [List.length_map, List.length_mapIdx, List.length_range]; omega) | (simp only [List.length_mapIdx, List.length_map] at *; omega) | fail)
local macro_rules | `(tactic| walk_at "pc") => `(tactic| first | assumption | exact Nat.le_refl _ | omega)
local macro_rules | `(tactic| walk_at "sh") => `(tactic| first | exact sh_int _ | exact sh_bool _ | exact sh_none | exact sh_eP (by decide) _ | exact sh_eR (by decide) _ | exact sh_eL (by decide) _ | exact sh_eM (by decide) _ | exact sh_eC (by decide) _ | exact sh_eCs (by decide) _ | exact (sh_lst (n := 59) (sh_map fun _ => sh_eP (by decide) _)) | exact (sh_lst (n := 59) (sh_map fun _ => sh_eC (by decide) _)) | exact (sh_lst (n := 59) (sh_map fun _ => sh_eL (by decide) _)) | exact (sh_lst (n := 59) (sh_map fun _ => sh_int _)) | exact (sh_lst (n := 59) sh_nil) | exact (sh_tup (n := 59) sh_nil) | exact sh_tup (n := 59) (sh_cons (sh_int _) (sh_cons (sh_int _) sh_nil)) | exact sh_lst (n := 59) (sh_map fun _ => sh_tup (n := 58) (sh_cons (sh_int _) (sh_cons (sh_int _) sh_nil))) | fail)
local macro_rules | `(tactic| walk_at "al") => `(tactic| first | rfl | simp [PySem.W.alike, PySem.W.alikeAll, eP] | fail)
local macro_rules | `(tactic| walk_at "nn") => `(tactic| intro z; cases z)
section
variable {T : Tx} (h : Top T)
include h
def R_fences_in : List Ar → Ar → Prop := fun as r => ∃ m : List (List Int), ∃ t : List Int, as = [.d (eM m), .d (eR t)] ∧ (m.length ≤ 10) ∧ (∀ r ∈ m, r.length ≤ 10) ∧ ((cellsIn m).length ≤ 5) ∧ (t.length = (cellsIn m).length) ∧ r = .l ((fencesIn m t).map eF)
theorem fn_fences_in : Fn T "fences_in" 4 (spA R_fences_in) := by
  refine fn_mkA h.d_fences_in sc_fences_in (fun rs r ⟨_, _, e, _⟩ => by subst e; rfl) (fun _ _ _ _ _ _ us hl => match us, hl with | [_, _], _ => rfl) fun X c vs H rs r Q hv ⟨m, t, e1, y1, y2, zc, zt, e2⟩ hQ => ?_
  subst e1; subst e2
  obtain ⟨v1, v2, rfl, h1, h2⟩ := reps2 hv
  have b := c.toBCx
  refine jss_cons (js_set c (i := 2) rfl (by decide +kernel) (ex_dictzip b (by decide +kernel) h.f_dict (by decide +kernel) h.f_zip (ja_call b (fn_cells_in h) (by decide) (by decide +kernel) (jrs_cons (jr_var (r := .d _) (i := 0) b rfl (by decide +kernel) rfl h1) jrs_nil) ⟨_, rfl, (by walk_at "pc"), (by walk_at "pc"), rfl⟩) (jr_var (r := .d _) (i := 1) b rfl (by decide +kernel) rfl h2) (cellsIn_nodup m) zt.symm (by omega)) rfl1 fun v H1 s1 ⟨q, e, nq, hq⟩ => ?_)
  subst e
  refine jss_freeze hq fun od => ?_
  have s2 : Same H (upd H1 q (.frz od (.dT (((cellsIn m).zip t).map eKV)))) := fun a o e => by
    rw [upd_ne (ne_of_none e nq)]
    exact s1 _ _ e
  have hD : DI (upd H1 q (.frz od (.dT (((cellsIn m).zip t).map eKV)))) q ((cellsIn m).zip t) := .inr ⟨od, upd_same⟩
  refine jss_cons (js_set c (i := 3) rfl (by decide +kernel) (ja_lst jds_nil) rfl1 fun v H2 s3 qq => ?_)
  obtain ⟨p, rfl, np, _⟩ := id qq
  have zl : (((cellsIn m).zip t).map Prod.fst).length ≤ 5 := by rw [List.length_map, List.length_zip]; omega
  refine jss_cons (js_forA b (src_keysT (jv_var (i := 2) b rfl (by decide +kernel) rfl) upd_same) s3 p (fun i => (((((cellsIn m).zip t).map Prod.fst).take i).map (fenceAt ((cellsIn m).zip t))).flatten.map eF) (fun i σ' => ∃ a w, σ' = [some v1, some v2, some (.ref q), some (.ref p), a, w]) (Fl.res rfl1 qq) ⟨_, _, rfl⟩ ?_ ?_)
  · rintro B1 s i d σ' H' v Bi hd t1 t2 hF ⟨_, _, rfl⟩ hv
    obtain ⟨pl, hr, rfl⟩ := of_map_at hd
    refine (tgt_name (i := 4) c rfl (by decide +kernel)) _ _ t2 ?_
    have hk : (look ((cellsIn m).zip t) pl).isSome = true := look_mem.mpr (List.mem_of_getElem? hr)
    refine jss_one (js_extF b (jv_var (i := 3) b rfl (by decide +kernel) rfl) t2 hF (ja_lc (own := [("one", 5)]) b (src_list (jlb_new (ja_call b (fn_beside h) (by decide) (by decide +kernel) (jrs_cons (jr_var (r := .d _) (i := 4) b rfl (by decide +kernel) rfl hv) jrs_nil) ⟨_, rfl, rfl⟩))) (by decide +kernel) (by walk_at "hl") (fun i2 a2 v2 B2 ha2 s2 hv2 => by exact ⟨_, by rfl, fun X2 c2 f2 => ⟨tgt_nameB (i := 5) c2 rfl (by decide +kernel), jif_one (JW.t (jw_and (jt_ltD c2 (jr_var (r := .d _) (i := 4) c2 rfl (by decide +kernel) rfl (hv.up s2)) (jr_var (r := .d _) (i := 5) c2 rfl (by decide +kernel) rfl hv2) (by walk_at "sh") (by exact al_eP _ _) (by walk_at "nn")) fun hb3 => jw_and (jt_dinI c2 (jr_var (r := .d _) (i := 5) c2 rfl (by decide +kernel) rfl hv2) (jv_var (i := 2) c2 rfl (by decide +kernel) rfl) ((hD.up (s.trans t1)).up s2)) fun hb4 => jw_and1 (jt_ne (r := .d _) (q := .d _) c2 (ja_dgetI c2 (jv_var (i := 2) c2 rfl (by decide +kernel) rfl) (jr_var (r := .d _) (i := 5) c2 rfl (by decide +kernel) rfl hv2) ((hD.up (s.trans t1)).up s2) (by first | assumption | exact hk)) (ja_dgetI c2 (jv_var (i := 2) c2 rfl (by decide +kernel) rfl) (jr_var (r := .d _) (i := 4) c2 rfl (by decide +kernel) rfl (hv.up s2)) ((hD.up (s.trans t1)).up s2) (by first | assumption | exact hk)) (by walk_at "sh") (by walk_at "sh")))), fun hi2 => ja_tup (jds_cons (jr_var (r := .d _) (i := 4) c2 rfl (by decide +kernel) rfl (hv.up s2)) (jds_cons (jr_var (r := .d _) (i := 5) c2 rfl (by decide +kernel) rfl hv2) jds_nil))⟩⟩)) ?_ fun B2 H3 s4 s5 hF2 => ⟨B2, t1.trans s4, s5, ?_, _, _, rfl⟩)
    · have zf : ∀ (P : Pl → Bool) (f : Pl → PyData) (l : List Pl), (List.map f (List.filter P l)).length ≤ l.length := fun P f l => by
        rw [List.length_map]
        exact List.length_filter_le _ _
      refine Nat.le_trans (Nat.add_le_add_left (zf _ _ _) _) ?_
      have zg := flat_len 4 (((((cellsIn m).zip t).map Prod.fst).take i).map (fenceAt ((cellsIn m).zip t))) fun x hx => by
        obtain ⟨y, _, rfl⟩ := List.mem_map.mp hx
        unfold fenceAt
        rw [List.length_map]
        exact List.length_filter_le _ (beside y)
      rw [List.length_map, List.length_take] at zg
      rw [List.length_map]
      show _ + 4 ≤ 1000000
      omega
    · show Fl p _ B2 H3
      rw [take_at hr, List.map_append, List.flatten_append, List.map_append]
      simp only [Ar.pd, eqv_int] at hF2
      simp only [List.map_cons, List.map_nil, List.flatten_cons, List.flatten_nil, List.append_nil, fenceAt, List.map_map] at hF2 ⊢
      exact hF2
  · rintro σ' H' Bi t1 t2 hF ⟨_, _, rfl⟩
    rw [List.length_map, List.take_length] at hF
    obtain ⟨_, us, n2, n3⟩ := id hF
    have hL : Ls H' p _ := ⟨us, n2, n3.up t2⟩
    exact jss_one (js_ret (ja_sorted b (by decide +kernel) h.f_sorted (jr_var (r := .l _) (i := 3) b rfl (by decide +kernel) rfl (⟨_, rfl, hL⟩)) (by exact sok_eF _) (by exact dep_eF)) rfl1 (rqs ((s2.trans t1).trans t2) hQ rfl))
def R_unlike : List Ar → Ar → Prop := fun as r => ∃ l : List (Pl × Pl), ∃ k : List (Pl × Pl), as = [.l (l.map eF), .l (k.map eF)] ∧ (l.length ≤ 1000) ∧ (k.length ≤ 1000) ∧ r = .d (.int (unlikeN l k))
theorem fn_unlike : Fn T "unlike" 2 (spA R_unlike) := by
  refine fn_mkA h.d_unlike sc_unlike (fun rs r ⟨_, _, e, _⟩ => by subst e; rfl) (fun _ _ _ _ _ _ us hl => match us, hl with | [_, _], _ => rfl) fun X c vs H rs r Q hv ⟨l, k, e1, z1, z2, e2⟩ hQ => ?_
  subst e1; subst e2
  obtain ⟨v1, v2, rfl, h1, h2⟩ := reps2 hv
  have b := c.toBCx
  obtain ⟨p1, rfl, h1⟩ := h1
  obtain ⟨p2, rfl, h2⟩ := h2
  refine jss_one (js_ret (ja_add (ja_lenL b (by decide +kernel) h.f_len (JA.toR (ja_lc (own := [("thing", 2)]) b (src_list (jlb_var (jv_var (i := 0) b rfl (by decide +kernel) rfl) h1)) (by decide +kernel) (by walk_at "hl") (fun i1 a1 v1 B1 ha1 s1 hv1 => by exact ⟨_, by rfl, fun X1 c1 f1 => ⟨tgt_nameB (i := 2) c1 rfl (by decide +kernel), jif_one (jt_niL c1 (jr_var (r := .d _) (i := 2) c1 rfl (by decide +kernel) rfl hv1) (jr_var (r := .l _) (i := 1) c1 rfl (by decide +kernel) rfl (⟨_, rfl, (h2.up s1)⟩)) (by first | exact sh_eF (by decide) _ | exact (sh_lst (n := 59) (sh_map fun _ => sh_eF (by decide) _))) (by first | exact sh_eF (by decide) _ | exact (sh_lst (n := 59) (sh_map fun _ => sh_eF (by decide) _)))), fun hi1 => jr_var (r := .d _) (i := 2) c1 rfl (by decide +kernel) rfl hv1⟩⟩)))) (ja_lenL b (by decide +kernel) h.f_len (JA.toR (ja_lc (own := [("thing", 2)]) b (src_list (jlb_var (jv_var (i := 1) b rfl (by decide +kernel) rfl) h2)) (by decide +kernel) (by walk_at "hl") (fun i2 a2 v2 B2 ha2 s2 hv2 => by exact ⟨_, by rfl, fun X2 c2 f2 => ⟨tgt_nameB (i := 2) c2 rfl (by decide +kernel), jif_one (jt_niL c2 (jr_var (r := .d _) (i := 2) c2 rfl (by decide +kernel) rfl hv2) (jr_var (r := .l _) (i := 0) c2 rfl (by decide +kernel) rfl (⟨_, rfl, (h1.up s2)⟩)) (by first | exact sh_eF (by decide) _ | exact (sh_lst (n := 59) (sh_map fun _ => sh_eF (by decide) _))) (by first | exact sh_eF (by decide) _ | exact (sh_lst (n := 59) (sh_map fun _ => sh_eF (by decide) _)))), fun hi2 => jr_var (r := .d _) (i := 2) c2 rfl (by decide +kernel) rfl hv2⟩⟩))))) rfl1 (rqs rfl1 hQ (ri ?_)))
  simp only [any_eqv eqv_eF, List.length_map]
  rfl
end
end Mead

set_option maxRecDepth 100000
set_option maxHeartbeats 4000000
namespace Mead
open PySem PySem.Spec PyProof.Rows L2
local macro_rules | `(tactic| walk_at "hl") => `(tactic| first | assumption | omega | (simp only [List.length_map]; omega) | exact Nat.le_of_ble_eq_true rfl | (simp only [List.length_map, List.length_mapIdx, List.length_range]; omega) | (simp only [List.length_mapIdx, List.length_map] at *; omega) | fail)
local macro_rules | `(tactic| walk_at "pc") => `(tactic| first | assumption | exact Nat.le_refl _ | omega)
local macro_rules | `(tactic| walk_at "sh") => `(tactic| first | exact sh_int _ | exact sh_bool _ | exact sh_none | exact sh_eP (by decide) _ | exact sh_eR (by decide) _ | exact sh_eL (by decide) _ | exact sh_eM (by decide) _ | exact sh_eC (by decide) _ | exact sh_eCs (by decide) _ | exact (sh_lst (n := 59) (sh_map fun _ => sh_eP (by decide) _)) | exact (sh_lst (n := 59) (sh_map fun _ => sh_eC (by decide) _)) | exact (sh_lst (n := 59) (sh_map fun _ => sh_eL (by decide) _)) | exact (sh_lst (n := 59) (sh_map fun _ => sh_int _)) | exact (sh_lst (n := 59) sh_nil) | exact (sh_tup (n := 59) sh_nil) | exact sh_tup (n := 59) (sh_cons (sh_int _) (sh_cons (sh_int _) sh_nil)) | exact sh_lst (n := 59) (sh_map fun _ => sh_tup (n := 58) (sh_cons (sh_int _) (sh_cons (sh_int _) sh_nil))) | fail)
local macro_rules | `(tactic| walk_at "al") => `(tactic| first | rfl | simp [PySem.W.alike, PySem.W.alikeAll, eP] | fail)
local macro_rules | `(tactic| walk_at "nn") => `(tactic| intro z; cases z)
/-- four houses -/
def eHs (l : List Pl) : PyData := .tuple (l.map eP)
def VHs (l : List Pl) : Prop := l.length = 4 ∧ ∀ p ∈ l, (-99 ≤ p.1 ∧ p.1 ≤ 99) ∧ -99 ≤ p.2 ∧ p.2 ≤ 99
def eDl (m : List (List Int)) (t : List Int) : PyData := .tuple [eM m, eR t]
structure VDl (m : List (List Int)) (t : List Int) : Prop where
  mead : VM m
  len : t.length = (cellsIn m).length
  each : ∀ o ∈ t, 0 ≤ o ∧ o ≤ 3
theorem fenceAt_len (l : List (Pl × Int)) (p : Pl) : (fenceAt l p).length ≤ 4 := by
  unfold fenceAt
  rw [List.length_map]
  exact List.length_filter_le _ (beside p)
theorem fencesIn_len {m : List (List Int)} {t : List Int} (h : (cellsIn m).length ≤ 5) : (fencesIn m t).length ≤ 20 := by
  unfold fencesIn
  rw [srt_len]
  have zg := flat_len 4 ((((cellsIn m).zip t).map Prod.fst).map (fenceAt ((cellsIn m).zip t))) fun x hx => by
    obtain ⟨y, _, rfl⟩ := List.mem_map.mp hx
    exact fenceAt_len _ _
  rw [List.length_map, List.length_map, List.length_zip] at zg
  omega
section
variable {T : Tx} (h : Top T)
include h
def R_is_house : List Ar → Ar → Prop := fun as r => ∃ p : Pl, as = [.d (eP p)] ∧ ((-99 ≤ p.1 ∧ p.1 ≤ 99) ∧ -99 ≤ p.2 ∧ p.2 ≤ 99) ∧ r = .d (.bool true)
theorem fn_is_house : Fn T "is_house" 3 (spA R_is_house) := by
  refine fn_mkA h.d_is_house sc_is_house (fun rs r ⟨_, e, _⟩ => by subst e; rfl) (fun _ _ _ _ _ _ us hl => match us, hl with | [_], _ => rfl) fun X c vs H rs r Q hv ⟨p, e1, z, e2⟩ hQ => ?_
  subst e1; subst e2
  obtain ⟨v1, rfl, h1⟩ := reps1 hv
  have b := c.toBCx
  have h1' : Im H v1 (eR [p.1, p.2]) := h1
  refine jss_one (js_ret (ja_and (ja_isi b (i := true) (ty := "tuple") (t2 := "tuple") (by decide +kernel) h.f_isinstance (by decide +kernel) h.f_tuple (by decide +kernel) (jr_var (r := .d _) (i := 0) b rfl (by decide +kernel) rfl h1') tyx_tup (by decide +kernel)) fun hb1 => ja_and (ja_eq (r := .d _) (q := .d _) b (ja_lenT b (by decide +kernel) h.f_len (jr_var (r := .d _) (i := 0) b rfl (by decide +kernel) rfl h1')) (ja_int (i := 2)) (by walk_at "sh") (by walk_at "sh")) fun hb2 => ja_one (ja_allM b (by decide +kernel) h.f_all (JA.toR (ja_lc0 (own := [("one", 1)]) b (src_tup (jr_var (r := .d _) (i := 0) b rfl (by decide +kernel) rfl h1')) (by decide +kernel) (by exact Nat.le_of_ble_eq_true rfl) (fun i3 a3 v3 B3 ha3 s3 hv3 => by exact ⟨_, by rfl, fun X3 c3 f3 => ⟨tgt_nameB (i := 1) c3 rfl (by decide +kernel), ja_call c3 (fn_is_from h) (by decide) (by decide +kernel) (jrs_cons (jr_var (r := .d _) (i := 1) c3 rfl (by decide +kernel) rfl hv3) (jrs_cons (ja_neg (ja_num c3 (by decide +kernel) h.n_FAR)) (jrs_cons (ja_num c3 (by decide +kernel) h.n_FAR) jrs_nil))) ⟨_, _, _, rfl, rfl⟩⟩⟩))))) rfl1 (rqs rfl1 hQ (rb ?_)))
  simp [eqv_int, Ar.pd]
  omega
def R_are_houses : List Ar → Ar → Prop := fun as r => ∃ hs : List Pl, as = [.d (eHs hs)] ∧ (VHs hs) ∧ r = .d (.bool true)
theorem fn_are_houses : Fn T "are_houses" 4 (spA R_are_houses) := by
  refine fn_mkA h.d_are_houses sc_are_houses (fun rs r ⟨_, e, _⟩ => by subst e; rfl) (fun _ _ _ _ _ _ us hl => match us, hl with | [_], _ => rfl) fun X c vs H rs r Q hv ⟨hs, e1, z, e2⟩ hQ => ?_
  subst e1; subst e2
  obtain ⟨v1, rfl, h1⟩ := reps1 hv
  have b := c.toBCx
  have z1 := z.1
  refine jss_one (js_ret (ja_and (ja_isi b (i := true) (ty := "tuple") (t2 := "tuple") (by decide +kernel) h.f_isinstance (by decide +kernel) h.f_tuple (by decide +kernel) (jr_var (r := .d _) (i := 0) b rfl (by decide +kernel) rfl h1) tyx_tup (by decide +kernel)) fun hb1 => ja_and (ja_eq (r := .d _) (q := .d _) b (ja_lenT b (by decide +kernel) h.f_len (jr_var (r := .d _) (i := 0) b rfl (by decide +kernel) rfl h1)) (ja_num b (by decide +kernel) h.n_MANY) (by walk_at "sh") (by walk_at "sh")) fun hb2 => ja_one (ja_allM b (by decide +kernel) h.f_all (JA.toR (ja_lc0 (own := [("one", 1)]) b (src_tup (jr_var (r := .d _) (i := 0) b rfl (by decide +kernel) rfl h1)) (by decide +kernel) (by walk_at "hl") (fun i3 a3 v3 B3 ha3 s3 hv3 => by exact ⟨_, by rfl, fun X3 c3 f3 => ⟨tgt_nameB (i := 1) c3 rfl (by decide +kernel), ja_call c3 (fn_is_house h) (by decide) (by decide +kernel) (jrs_cons (jr_var (r := .d _) (i := 1) c3 rfl (by decide +kernel) rfl hv3) jrs_nil) ⟨_, rfl, (by exact z.2 _ (List.mem_of_getElem? (by assumption))), rfl⟩⟩⟩))))) rfl1 (rqs rfl1 hQ (rb ?_)))
  simp [eqv_int, Ar.pd, z1]
def R_need_houses : List Ar → Ar → Prop := fun as r => ∃ hs : List Pl, as = [.d (eHs hs)] ∧ (VHs hs) ∧ r = .d .none
theorem fn_need_houses : Fn T "need_houses" 5 (spA R_need_houses) := by
  refine fn_mkA h.d_need_houses sc_need_houses (fun rs r ⟨_, e, _⟩ => by subst e; rfl) (fun _ _ _ _ _ _ us hl => match us, hl with | [_], _ => rfl) fun X c vs H rs r Q hv ⟨hs, e1, z, e2⟩ hQ => ?_
  subst e1; subst e2
  obtain ⟨v1, rfl, h1⟩ := reps1 hv
  have b := c.toBCx
  exact jss_one (js_ifF0 (jt_not (jt_of_ja (ja_call b (fn_are_houses h) (by decide) (by decide +kernel) (jrs_cons (jr_var (r := .d _) (i := 0) b rfl (by decide +kernel) rfl h1) jrs_nil) ⟨_, rfl, (by walk_at "pc"), rfl⟩))) rfl rfl1 fun H1 s1 => hQ _ _ s1 .non)
def R_is_dealt : List Ar → Ar → Prop := fun as r => ∃ m : List (List Int), ∃ t : List Int, as = [.d (eDl m t)] ∧ (VDl m t) ∧ r = .d (.bool true)
theorem fn_is_dealt : Fn T "is_dealt" 4 (spA R_is_dealt) := by
  refine fn_mkA h.d_is_dealt sc_is_dealt (fun rs r ⟨_, _, e, _⟩ => by subst e; rfl) (fun _ _ _ _ _ _ us hl => match us, hl with | [_], _ => rfl) fun X c vs H rs r Q hv ⟨m, t, e1, z, e2⟩ hQ => ?_
  subst e1; subst e2
  obtain ⟨v1, rfl, h1⟩ := reps1 hv
  have b := c.toBCx
  have z1 := z.mead
  have y1 := z.mead.y1
  have y2 := z.mead.y2
  have z2 := z.len
  have z3 := z.mead.cells
  refine jss_cons (js_ifF0 (JW.t (jw_or (jt_not (jt_of_ja (ja_isi b (i := true) (ty := "tuple") (t2 := "tuple") (by decide +kernel) h.f_isinstance (by decide +kernel) h.f_tuple (by decide +kernel) (jr_var (r := .d _) (i := 0) b rfl (by decide +kernel) rfl h1) tyx_tup (by decide +kernel)))) fun hb1 => jw_or (jt_ne (r := .d _) (q := .d _) b (ja_lenT b (by decide +kernel) h.f_len (jr_var (r := .d _) (i := 0) b rfl (by decide +kernel) rfl h1)) (ja_int (i := 2)) (by walk_at "sh") (by walk_at "sh")) fun hb2 => jw_or (jt_not (jt_of_ja (ja_call b (fn_is_mead h) (by decide) (by decide +kernel) (jrs_cons (ja_ixT (jr_var (r := .d _) (i := 0) b rfl (by decide +kernel) rfl h1) (ja_int (i := 0)) rfl) jrs_nil) ⟨_, rfl, (by walk_at "pc"), rfl⟩))) fun hb3 => jw_or1 (jt_not (jt_of_ja (ja_isi b (i := true) (ty := "tuple") (t2 := "tuple") (by decide +kernel) h.f_isinstance (by decide +kernel) h.f_tuple (by decide +kernel) (ja_ixT (jr_var (r := .d _) (i := 0) b rfl (by decide +kernel) rfl h1) (ja_int (i := 1)) rfl) tyx_tup (by decide +kernel)))))) rfl rfl1 fun H1 s1 => jss_one (js_ret (ja_and (ja_eq (r := .d _) (q := .d _) b (ja_lenT b (by decide +kernel) h.f_len (ja_ixT (jr_var (r := .d _) (i := 0) b rfl (by decide +kernel) rfl h1) (ja_int (i := 1)) rfl)) (ja_lenL b (by decide +kernel) h.f_len (JA.toR (ja_call b (fn_cells_in h) (by decide) (by decide +kernel) (jrs_cons (ja_ixT (jr_var (r := .d _) (i := 0) b rfl (by decide +kernel) rfl h1) (ja_int (i := 0)) rfl) jrs_nil) ⟨_, rfl, (by walk_at "pc"), (by walk_at "pc"), rfl⟩))) (by walk_at "sh") (by walk_at "sh")) fun hb4 => ja_one (ja_allM b (by decide +kernel) h.f_all (JA.toR (ja_lc0 (own := [("one", 1)]) b (src_tup (ja_ixT (jr_var (r := .d _) (i := 0) b rfl (by decide +kernel) rfl h1) (ja_int (i := 1)) rfl)) (by decide +kernel) (by walk_at "hl") (fun i5 a5 v5 B5 ha5 s5 hv5 => by exact ⟨_, by rfl, fun X5 c5 f5 => ⟨tgt_nameB (i := 1) c5 rfl (by decide +kernel), ja_call c5 (fn_is_from h) (by decide) (by decide +kernel) (jrs_cons (jr_var (r := .d _) (i := 1) c5 rfl (by decide +kernel) rfl hv5) (jrs_cons (ja_int (i := 0)) (jrs_cons (ja_num c5 (by decide +kernel) h.n_MOST_HOLDER_fences) jrs_nil))) ⟨_, _, _, rfl, rfl⟩⟩⟩))))) s1 (rqs s1 hQ (rb ?_))))
  simp [eqv_int, Ar.pd, z2]
  exact fun o ho => z.each o ho
def R_need_dealt : List Ar → Ar → Prop := fun as r => ∃ m : List (List Int), ∃ t : List Int, as = [.d (eDl m t)] ∧ (VDl m t) ∧ r = .d .none
theorem fn_need_dealt : Fn T "need_dealt" 5 (spA R_need_dealt) := by
  refine fn_mkA h.d_need_dealt sc_need_dealt (fun rs r ⟨_, _, e, _⟩ => by subst e; rfl) (fun _ _ _ _ _ _ us hl => match us, hl with | [_], _ => rfl) fun X c vs H rs r Q hv ⟨m, t, e1, z, e2⟩ hQ => ?_
  subst e1; subst e2
  obtain ⟨v1, rfl, h1⟩ := reps1 hv
  have b := c.toBCx
  exact jss_one (js_ifF0 (jt_not (jt_of_ja (ja_call b (fn_is_dealt h) (by decide) (by decide +kernel) (jrs_cons (jr_var (r := .d _) (i := 0) b rfl (by decide +kernel) rfl h1) jrs_nil) ⟨_, _, rfl, (by walk_at "pc"), rfl⟩))) rfl rfl1 fun H1 s1 => hQ _ _ s1 .non)
def R_need_other : List Ar → Ar → Prop := fun as r => ∃ m : List (List Int), ∃ t : List Int, as = [.d (eM m), .d (eDl m t)] ∧ (VDl m t) ∧ r = .d .none
theorem fn_need_other : Fn T "need_other" 6 (spA R_need_other) := by
  refine fn_mkA h.d_need_other sc_need_other (fun rs r ⟨_, _, e, _⟩ => by subst e; rfl) (fun _ _ _ _ _ _ us hl => match us, hl with | [_, _], _ => rfl) fun X c vs H rs r Q hv ⟨m, t, e1, z, e2⟩ hQ => ?_
  subst e1; subst e2
  obtain ⟨v1, v2, rfl, h1, h2⟩ := reps2 hv
  have b := c.toBCx
  refine jss_cons (js_expr (ja_call b (fn_need_dealt h) (by decide) (by decide +kernel) (jrs_cons (jr_var (r := .d _) (i := 1) b rfl (by decide +kernel) rfl h2) jrs_nil) ⟨_, _, rfl, (by walk_at "pc"), rfl⟩) rfl1 fun _ H1 s1 _ => jss_one (js_ifF0 (jt_ne (r := .d _) (q := .d _) b (ja_ixT (jr_var (r := .d _) (i := 1) b rfl (by decide +kernel) rfl h2) (ja_int (i := 0)) rfl) (jr_var (r := .d _) (i := 0) b rfl (by decide +kernel) rfl h1) (by walk_at "sh") (by walk_at "sh")) ?_ s1 fun H2 s2 => hQ _ _ (s1.trans s2) .non))
  simp [eqv_eM, Ar.pd]
def R_fences_of : List Ar → Ar → Prop := fun as r => ∃ m : List (List Int), ∃ t : List Int, as = [.d (eDl m t)] ∧ (VDl m t) ∧ r = .l ((fencesIn m t).map eF)
theorem fn_fences_of : Fn T "fences_of" 6 (spA R_fences_of) := by
  refine fn_mkA h.d_fences_of sc_fences_of (fun rs r ⟨_, _, e, _⟩ => by subst e; rfl) (fun _ _ _ _ _ _ us hl => match us, hl with | [_], _ => rfl) fun X c vs H rs r Q hv ⟨m, t, e1, z, e2⟩ hQ => ?_
  subst e1; subst e2
  obtain ⟨v1, rfl, h1⟩ := reps1 hv
  have b := c.toBCx
  exact jss_cons (js_expr (ja_call b (fn_need_dealt h) (by decide) (by decide +kernel) (jrs_cons (jr_var (r := .d _) (i := 0) b rfl (by decide +kernel) rfl h1) jrs_nil) ⟨_, _, rfl, (by first | assumption | exact z.mead.y1 | exact z.mead.y2 | exact z.mead.cells.2 | exact z.len), rfl⟩) rfl1 fun _ H1 s1 _ => jss_one (js_ret (ja_call b (fn_fences_in h) (by decide) (by decide +kernel) (jrs_cons (ja_ixT (jr_var (r := .d _) (i := 0) b rfl (by decide +kernel) rfl h1) (ja_int (i := 0)) rfl) (jrs_cons (ja_ixT (jr_var (r := .d _) (i := 0) b rfl (by decide +kernel) rfl h1) (ja_int (i := 1)) rfl) jrs_nil)) ⟨_, _, rfl, (by first | assumption | exact z.mead.y1 | exact z.mead.y2 | exact z.mead.cells.2 | exact z.len), (by first | assumption | exact z.mead.y1 | exact z.mead.y2 | exact z.mead.cells.2 | exact z.len), (by first | assumption | exact z.mead.y1 | exact z.mead.y2 | exact z.mead.cells.2 | exact z.len), (by first | assumption | exact z.mead.y1 | exact z.mead.y2 | exact z.mead.cells.2 | exact z.len), rfl⟩) s1 (rqs s1 hQ rfl)))
def R_fences_moved : List Ar → Ar → Prop := fun as r => ∃ m : List (List Int), ∃ t : List Int, ∃ u : List Int, as = [.d (eDl m t), .d (eDl m u)] ∧ (VDl m t) ∧ (VDl m u) ∧ r = .d (.int (unlikeN (fencesIn m t) (fencesIn m u)))
theorem fn_fences_moved : Fn T "fences_moved" 7 (spA R_fences_moved) := by
  refine fn_mkA h.d_fences_moved sc_fences_moved (fun rs r ⟨_, _, _, e, _⟩ => by subst e; rfl) (fun _ _ _ _ _ _ us hl => match us, hl with | [_, _], _ => rfl) fun X c vs H rs r Q hv ⟨m, t, u, e1, z, z2, e2⟩ hQ => ?_
  subst e1; subst e2
  obtain ⟨v1, v2, rfl, h1, h2⟩ := reps2 hv
  have b := c.toBCx
  have w1 : ∀ t, (fencesIn m t).length ≤ 1000 := fun t => Nat.le_trans (fencesIn_len z.mead.cells.2) (by decide)
  exact jss_cons (js_expr (ja_call b (fn_need_dealt h) (by decide) (by decide +kernel) (jrs_cons (jr_var (r := .d _) (i := 0) b rfl (by decide +kernel) rfl h1) jrs_nil) ⟨_, _, rfl, (by first | assumption | exact w1 _), rfl⟩) rfl1 fun _ H1 s1 _ => jss_cons (js_expr (ja_call b (fn_need_other h) (by decide) (by decide +kernel) (jrs_cons (ja_ixT (jr_var (r := .d _) (i := 0) b rfl (by decide +kernel) rfl h1) (ja_int (i := 0)) rfl) (jrs_cons (jr_var (r := .d _) (i := 1) b rfl (by decide +kernel) rfl h2) jrs_nil)) ⟨_, _, rfl, (by first | assumption | exact w1 _), rfl⟩) s1 fun _ H2 s2 _ => jss_one (js_ret (ja_call b (fn_unlike h) (by decide) (by decide +kernel) (jrs_cons (JA.toR (ja_call b (fn_fences_of h) (by decide) (by decide +kernel) (jrs_cons (jr_var (r := .d _) (i := 0) b rfl (by decide +kernel) rfl h1) jrs_nil) ⟨_, _, rfl, (by first | assumption | exact w1 _), rfl⟩)) (jrs_cons (JA.toR (ja_call b (fn_fences_of h) (by decide) (by decide +kernel) (jrs_cons (jr_var (r := .d _) (i := 1) b rfl (by decide +kernel) rfl h2) jrs_nil) ⟨_, _, rfl, (by first | assumption | exact w1 _), rfl⟩)) jrs_nil)) ⟨_, _, rfl, (by first | assumption | exact w1 _), (by first | assumption | exact w1 _), rfl⟩) (s1.trans s2) (rqs (s1.trans s2) hQ rfl))))
end
end Mead

set_option maxRecDepth 100000
set_option maxHeartbeats 4000000
namespace Mead
open PySem PySem.Spec PyProof.Rows L2
local macro_rules | `(tactic| walk_at "hl") => `(tactic| first | assumption | omega | (simp only [List.length_map]; omega) | exact Nat.le_of_ble_eq_true rfl | (simp only [List.length_map, List.length_mapIdx, List.length_range]; omega) | (simp only [List.length_mapIdx, List.length_map] at *; omega) | fail)
local macro_rules | `(tactic| walk_at "pc") => `(tactic| first | assumption | exact Nat.le_refl _ | omega)
local macro_rules | `(tactic| walk_at "sh") => `(tactic| first | exact sh_int _ | exact sh_bool _ | exact sh_none | exact sh_eP (by decide) _ | exact sh_eR (by decide) _ | exact sh_eL (by decide) _ | exact sh_eM (by decide) _ | exact sh_eC (by decide) _ | exact sh_eCs (by decide) _ | exact (sh_lst (n := 59) (sh_map fun _ => sh_eP (by decide) _)) | exact (sh_lst (n := 59) (sh_map fun _ => sh_eC (by decide) _)) | exact (sh_lst (n := 59) (sh_map fun _ => sh_eL (by decide) _)) | exact (sh_lst (n := 59) (sh_map fun _ => sh_int _)) | exact (sh_lst (n := 59) sh_nil) | exact (sh_tup (n := 59) sh_nil) | exact sh_tup (n := 59) (sh_cons (sh_int _) (sh_cons (sh_int _) sh_nil)) | exact sh_lst (n := 59) (sh_map fun _ => sh_tup (n := 58) (sh_cons (sh_int _) (sh_cons (sh_int _) sh_nil))) | fail)
local macro_rules | `(tactic| walk_at "al") => `(tactic| first | rfl | simp [PySem.W.alike, PySem.W.alikeAll, eP] | fail)
local macro_rules | `(tactic| walk_at "nn") => `(tactic| intro z; cases z)
section
variable {T : Tx} (h : Top T)
include h
def sp_dealt_on : Sp := fun vs H Q _ => ∃ (d : Addr) (v2 : V) (l : List (Pl × Int)) (land : List Pl) (ho : Int), vs = [.ref d, v2, .int ho] ∧ H d = some (.dT (l.map eKV)) ∧ Im H v2 (eL land) ∧ OwnOk l land ∧ ∀ v H', Same H H' → OwnN H v H' (dealtOn l land ho) → Q v H'
theorem fn_dealt_on : Fn T "dealt_on" 2 sp_dealt_on := by
  refine fn_mk h.d_dealt_on sc_dealt_on (fun vs H Q E ⟨_, _, _, _, _, e, _⟩ => by subst e; rfl) (fun _ _ _ _ _ _ us hl => match us, hl with | [_, _, _], _ => rfl) fun X c vs H Q E ⟨d, v2, l, land, ho, e, hd, h2, ok, hQ⟩ => ?_
  subst e
  have b := c.toBCx
  have hD : DI H d l := .inl hd
  have z := ok.small
  refine jss_cons (js_if (jt_of_ja (ja_anyM b (by decide +kernel) h.f_any (JA.toR (ja_lc0 (own := [("cell", 4)]) b (src_tup (jr_var (r := .d _) (i := 1) b rfl (by decide +kernel) rfl h2)) (by decide +kernel) (by walk_at "hl") (fun i1 a1 v1 B1 ha1 s1 hv1 => by exact ⟨_, by rfl, fun X1 c1 f1 => ⟨tgt_nameB (i := 4) c1 rfl (by decide +kernel), ja_dinI c1 (jr_var (r := .d _) (i := 4) c1 rfl (by decide +kernel) rfl hv1) (jv_var (i := 0) c1 rfl (by decide +kernel) rfl) (hD.up s1)⟩⟩))))) rfl1 (fun hb H1 s1 => ?_) fun hb H1 s1 => ?_)
  · refine jss_one (js_ret (ja_non) s1 fun v H2 s2 q => hQ v H2 (s1.trans s2) ?_)
    rw [dealtOn, if_pos hb]
    exact Im.isNon q
  · refine jss_nil (jss_cons (js_set c (i := 3) rfl (by decide +kernel) (ex_copyT b (by decide +kernel) h.f_dict (jv_var (i := 0) b rfl (by decide +kernel) rfl) hD (hash_nodup ok.grid ok.nd)) s1 fun v H2 s2 ⟨q, e, nq, hq⟩ => ?_))
    subst e
    have nq0 : H q = none := s1.free nq
    have s12 := s1.trans s2
    refine jss_cons (js_forG b (src_tup (jr_var (r := .d _) (i := 1) b rfl (by decide +kernel) rfl h2)) s12 (fun i Bi σ' H' => Bi q = none ∧ H' q = some (.dT ((l ++ (land.take i).map fun c => (c, ho)).map eKV)) ∧ ∃ w, σ' = [some (.ref d), some v2, some (.int ho), some (.ref q), w]) (fun i Bi B2 σ' H' H'' _ _ g ⟨q1, q2, q3⟩ => ⟨g.out q _ q1 q2 (fun xs z => by cases z), g.up _ _ q2, q3⟩) ⟨nq0, by simpa using hq, _, rfl⟩ ?_ ?_)
    · rintro B1 s i d' σ' H' v Bi hd' t1 t2 ⟨q1, q2, _, rfl⟩ hv
      obtain ⟨pl, hr, rfl⟩ := of_map_at hd'
      refine (tgt_name (i := 4) c rfl (by decide +kernel)) _ _ t2 ?_
      have hn : pl ∉ (l ++ (land.take i).map fun c => (c, ho)).map Prod.fst := by
        rw [List.map_append, List.map_map, List.mem_append, not_or]
        constructor
        · have hb' : (land.any fun c => (look l c).isSome) = false := hb
          rw [List.any_eq_false] at hb'
          have := hb' pl (List.mem_of_getElem? hr)
          rw [look_mem] at this
          exact this
        · intro hm
          obtain ⟨x, hx, e⟩ := List.mem_map.mp hm
          have e : x = pl := e
          subst e
          obtain ⟨j, hj⟩ := List.mem_iff_getElem?.mp hx
          rw [List.getElem?_take] at hj
          split at hj
          · rename_i hlt
            have h1 := List.getElem?_eq_some_iff.mp hj
            have h2 := List.getElem?_eq_some_iff.mp hr
            have := (List.getElem_inj ok.nd2).mp (h1.2.trans h2.2.symm)
            omega
          · cases hj
      refine jss_one (js_dputT b t2 (jr_var (r := .d _) (i := 2) b rfl (by decide +kernel) rfl (Im.int _)) (jv_var (i := 3) b rfl (by decide +kernel) rfl) (jr_var (r := .d _) (i := 4) b rfl (by decide +kernel) rfl hv) q2 ?_ fun u H3 s3 pu H4 s4 => ?_)
      · rw [List.length_map, List.length_append, List.length_map, List.length_take]
        omega
      · have e := Im.isInt pu
        subst e
        rw [put_new hn]
        refine ⟨Bi, t1, fun a o ha => ?_, q1, ?_, _, rfl⟩
        · rw [upd_ne (ne_of_none ha q1)]
          exact s4 _ _ (s3 _ _ (t2 _ _ ha))
        · rw [take_at hr, upd_same]
          simp [List.map_append, List.append_assoc]
    · rintro σ' H' Bi t1 t2 ⟨q1, q2, _, rfl⟩
      refine jss_one (js_ret (jv_var (i := 3) b rfl (by decide +kernel) rfl) t2 fun v H2 s2 e => ?_)
      subst e
      refine hQ _ _ ((t1.trans t2).trans s2) ?_
      rw [dealtOn, if_neg (by intro z; have hb' : (land.any fun c => (look l c).isSome) = false := hb; rw [hb'] at z; cases z)]
      rw [List.length_map, List.take_length] at q2
      exact ⟨q, rfl, nq0, s2 _ _ q2⟩
end
end Mead

set_option maxRecDepth 100000
set_option maxHeartbeats 4000000
namespace Mead
open PySem PySem.Spec PyProof.Rows L2
local macro_rules | `(tactic| walk_at "hl") => `(tactic| first | assumption | omega | (simp only [List.length_map]; omega) | exact Nat.le_of_ble_eq_true rfl | (simp only [List.length_map, List.length_mapIdx, List.length_range]; omega) | (simp only [List.length_mapIdx, List.length_map] at *; omega) | fail)
local macro_rules | `(tactic| walk_at "pc") => `(tactic| first | assumption | exact Nat.le_refl _ | omega)
local macro_rules | `(tactic| walk_at "sh") => `(tactic| first | exact sh_int _ | exact sh_bool _ | exact sh_none | exact sh_eP (by decide) _ | exact sh_eR (by decide) _ | exact sh_eL (by decide) _ | exact sh_eM (by decide) _ | exact sh_eC (by decide) _ | exact sh_eCs (by decide) _ | exact (sh_lst (n := 59) (sh_map fun _ => sh_eP (by decide) _)) | exact (sh_lst (n := 59) (sh_map fun _ => sh_eC (by decide) _)) | exact (sh_lst (n := 59) (sh_map fun _ => sh_eL (by decide) _)) | exact (sh_lst (n := 59) (sh_map fun _ => sh_int _)) | exact (sh_lst (n := 59) sh_nil) | exact (sh_tup (n := 59) sh_nil) | exact sh_tup (n := 59) (sh_cons (sh_int _) (sh_cons (sh_int _) sh_nil)) | exact sh_lst (n := 59) (sh_map fun _ => sh_tup (n := 58) (sh_cons (sh_int _) (sh_cons (sh_int _) sh_nil))) | fail)
local macro_rules | `(tactic| walk_at "al") => `(tactic| first | rfl | simp [PySem.W.alike, PySem.W.alikeAll, eP] | fail)
local macro_rules | `(tactic| walk_at "nn") => `(tactic| intro z; cases z)
section
variable {T : Tx} (h : Top T)
include h
def sp_begun_by : Sp := fun vs H Q _ => ∃ (p0 : Addr) (lands : List (List Pl)), vs = [.ref p0] ∧ Ls H p0 (lands.map eL) ∧ (∀ l ∈ lands, l ≠ []) ∧ lands.length ≤ 100 ∧ ∀ a H', Same H H' → H a = none → Bgn H' a lands → Q (.ref a) H'
theorem fn_begun_by : Fn T "begun_by" 2 sp_begun_by := by
  refine fn_mk h.d_begun_by sc_begun_by (fun vs H Q E ⟨_, _, e, _⟩ => by subst e; rfl) (fun _ _ _ _ _ _ us hl => match us, hl with | [_], _ => rfl) fun X c vs H Q E ⟨p0, lands, e, h1, hne, zl, hQ⟩ => ?_
  subst e
  have b := c.toBCx
  refine jss_cons (js_set c (i := 1) rfl (by decide +kernel) ex_newT rfl1 fun v H1 s1 ⟨a, e, na, eH⟩ => ?_)
  subst e; subst eH
  refine jss_cons (js_forG b (src_list (jlb_var (jv_var (i := 0) b rfl (by decide +kernel) rfl) h1)) s1 (fun i Bi σ' H' => BgI Bi H' a (lands.take i) ∧ ∃ w, σ' = [some (.ref p0), some (.ref a), w]) (fun i Bi B2 σ' H' H'' _ _ g ⟨q1, q2⟩ => ⟨q1.grow g, q2⟩) ⟨⟨na, [], upd_same, Nat.zero_le _, List.nodup_nil, List.nodup_nil, fun x hx => (by cases hx), fun c _ => rfl⟩, _, rfl⟩ ?_ ?_)
  · rintro B1 s i d' σ' H' v Bi hd' t1 t2 ⟨⟨q0, L, q1, q2, q3, q4, q5, q6⟩, _, rfl⟩ hv
    obtain ⟨land, hr, rfl⟩ := of_map_at hd'
    refine (tgt_name (i := 2) c rfl (by decide +kernel)) _ _ t2 ?_
    have nel := hne land (List.mem_of_getElem? hr)
    have lt : (lands.take i).length ≤ 100 := by rw [List.length_take]; omega
    have pos : 0 < land.length := List.length_pos_iff.mpr nel
    refine jss_one (js_setdApp b (jv_var (i := 1) b rfl (by decide +kernel) rfl) t2 q0 q1 (ja_ixTm (f := eP) default (jr_var (r := .d _) (i := 2) b rfl (by decide +kernel) rfl hv) (ja_int (i := 0)) (by omega)) (jr_var (r := .d _) (i := 2) b rfl (by decide +kernel) rfl hv) (by rw [List.length_map]; omega) (fun v hv => ?_) (fun hv r u H4 nr s4 ha4 hr4 pu => ?_) ⟨rfl, rfl, rfl, rfl⟩)
    · rw [valV_L] at hv
      obtain ⟨x, hx, e⟩ := Option.map_eq_some_iff.mp hv
      subst e
      have hm := find_snd hv
      obtain ⟨w1, us, w2, w3⟩ := q5 _ hm
      refine ⟨x.2, us, rfl, w1, w2, by rw [w3.len, List.length_map]; exact Nat.lt_of_le_of_lt (List.length_filter_le _ _) (by omega), fun u H1 s4 pu => ?_⟩
      obtain ⟨r1, r2⟩ := BgI.step1 (land := land) t2 q0 q1 q2 q3 q4 q5 q6 nel rfl hm w2 s4 pu
      exact ⟨_, t1.trans tB_ge, r1, by rw [take_at hr]; exact r2, _, rfl⟩
    · rw [valV_L] at hv
      have hm : land.getD 0 default ∉ L.map Prod.fst := fun hm => by
        obtain ⟨x, hx, e⟩ := List.mem_map.mp hm
        have hn := Option.map_eq_none_iff.mp hv
        have := List.find?_eq_none.mp hn x hx
        exact this (decide_eq_true e)
      obtain ⟨r1, r2⟩ := BgI.step2 (land := land) t2 q0 q1 q2 q3 q4 q5 q6 nel rfl hm nr s4 ha4 hr4 pu
      exact ⟨_, t1.trans tB_ge, r1, by rw [take_at hr]; exact r2, _, rfl⟩
  · rintro σ' H' Bi t1 t2 ⟨q, _, rfl⟩
    rw [List.length_map, List.take_length] at q
    obtain ⟨q0, L, q1, q2, q3, q4, q5, q6⟩ := q
    refine jss_one (js_ret (jv_var (i := 1) b rfl (by decide +kernel) rfl) t2 fun v H2 s2 e => ?_)
    subst e
    refine hQ _ _ ((t1.trans t2).trans s2) na ⟨L, s2 _ _ q1, fun x hx => ?_, q6⟩
    obtain ⟨_, us, w2, w3⟩ := q5 x hx
    exact ⟨us, s2 _ _ w2, (w3.up t2).up s2⟩
end
end Mead

set_option maxRecDepth 100000
set_option maxHeartbeats 4000000
namespace Mead
open PySem PySem.Spec PyProof.Rows L2
local macro_rules | `(tactic| walk_at "hl") => `(tactic| first | assumption | omega | (simp only [List.length_map]; omega) | exact Nat.le_of_ble_eq_true rfl | (simp only [List.length_map, List.length_mapIdx, List.length_range]; omega) | (simp only [List.length_mapIdx, List.length_map] at *; omega) | fail)
local macro_rules | `(tactic| walk_at "pc") => `(tactic| first | assumption | exact Nat.le_refl _ | omega)
local macro_rules | `(tactic| walk_at "sh") => `(tactic| first | exact sh_int _ | exact sh_bool _ | exact sh_none | exact sh_eP (by decide) _ | exact sh_eR (by decide) _ | exact sh_eL (by decide) _ | exact sh_eM (by decide) _ | exact sh_eC (by decide) _ | exact sh_eCs (by decide) _ | exact (sh_lst (n := 59) (sh_map fun _ => sh_eP (by decide) _)) | exact (sh_lst (n := 59) (sh_map fun _ => sh_eC (by decide) _)) | exact (sh_lst (n := 59) (sh_map fun _ => sh_eL (by decide) _)) | exact (sh_lst (n := 59) (sh_map fun _ => sh_int _)) | exact (sh_lst (n := 59) sh_nil) | exact (sh_tup (n := 59) sh_nil) | exact sh_tup (n := 59) (sh_cons (sh_int _) (sh_cons (sh_int _) sh_nil)) | exact sh_lst (n := 59) (sh_map fun _ => sh_tup (n := 58) (sh_cons (sh_int _) (sh_cons (sh_int _) sh_nil))) | fail)
local macro_rules | `(tactic| walk_at "al") => `(tactic| first | rfl | simp [PySem.W.alike, PySem.W.alikeAll, eP] | fail)
local macro_rules | `(tactic| walk_at "nn") => `(tactic| intro z; cases z)
structure GoneOk (cells : List Pl) (hs : List Int) (lf : Int → List (List Pl)) (ln : Line) : Prop where
  lands : ∀ h ∈ hs, ∀ land ∈ lf h, OwnOk ln.1 land
  small : cells.length ≤ 10 ∧ hs.length ≤ 4 ∧ ln.2.length ≤ 10
  each : ∀ h ∈ hs, (lf h).length ≤ 32
section
variable {T : Tx} (h : Top T)
include h
def sp_gone_on : Sp := fun vs H Q _ => ∃ (pc pb d : Addr) (u : V) (cells : List Pl) (hs : List Int) (lf : Int → List (List Pl)) (ln : Line), vs = [.ref pc, .ref pb, .ref d, u] ∧ Ls H pc (cells.map eP) ∧ BegF H pb hs lf ∧ H d = some (.dT (ln.1.map eKV)) ∧ Im H u (eR ln.2) ∧ GoneOk cells hs lf ln ∧
  ∀ b us H', Same H H' → H b = none → H' b = some (.lst us) → Paired (fun a u => PeLn H a u H') (goneOn cells hs lf ln) us → Q (.ref b) H'
theorem fn_gone_on : Fn T "gone_on" 3 sp_gone_on := by
  refine fn_mk h.d_gone_on sc_gone_on (fun vs H Q E ⟨_, _, _, _, _, _, _, _, e, _⟩ => by subst e; rfl) (fun _ _ _ _ _ _ us hl => match us, hl with | [_, _, _, _], _ => rfl) fun X c vs H Q E ⟨pc, pb, d, u, cells, hs, lf, ln, e, h1, h2, hdo, h4, ok, hQ⟩ => ?_
  subst e
  have b := c.toBCx
  have hD : DI H d ln.1 := .inl hdo
  have zz := ok.small
  refine jss_cons (js_setLc b (i := 4) (own := [("cell", 8)]) (enc := eP) (as := cells) rfl (by decide +kernel) (src_list (jlb_var (jv_var (i := 0) b rfl (by decide +kernel) rfl) h1)) (by decide +kernel) (by omega) (p := fun c => !(look ln.1 c).isSome) (f := eP) (fun i a v B2 ha s hv => ⟨_, by rfl, fun X' c' f' => ⟨tgt_nameB (i := 8) c' rfl (by decide +kernel) , ?_, fun _ => ?_⟩⟩) rfl1 (fun v B1 H1 g q => ?_))
  · exact jif_one (jt_dniI c' (jr_var (r := .d _) (i := 8) c' rfl (by decide +kernel) rfl hv) (jv_var (i := 2) c' rfl (by decide +kernel) rfl) (hD.up s))
  · exact jr_var (r := .d _) (i := 8) c' rfl (by decide +kernel) rfl hv
  obtain ⟨pl, rfl, q⟩ := q
  have e0 : cells.filter (fun c => !(look ln.1 c).isSome) = leftOf cells ln := rfl
  rw [e0] at q
  cases el : leftOf cells ln with
  | nil =>
    refine jss_cons (js_ifT (jt_eq (r := .l _) (q := .l _) b (jr_var (r := .l _) (i := 4) b rfl (by decide +kernel) rfl (⟨_, rfl, q⟩)) (JA.toR (ja_lst jds_nil)) (by walk_at "sh") (by walk_at "sh")) ?_ g.ins fun H2 s2 => jss_one (js_ret (ja_lst jds_nil) (g.ins.trans s2) fun v H3 s3 q3 => ?_))
    · rw [el]
      simp [Ar.pd, eqv_lst, PyData.eqvAll]
    · obtain ⟨p3, rfl, n3, us, h5, h6⟩ := q3
      cases h6
      refine hQ p3 [] H3 ((g.up.trans s2).trans s3) ((g.up.trans s2).free n3) h5 ?_
      rw [goneOn, el]
      exact .nil
  | cons c0 rest =>
    have hleft : (leftOf cells ln).getD (0 : Int).toNat default = c0 := by rw [el]; rfl
    have hpos : 0 < (leftOf cells ln).length := by rw [el]; simp
    refine jss_cons (js_ifF0 (jt_eq (r := .l _) (q := .l _) b (jr_var (r := .l _) (i := 4) b rfl (by decide +kernel) rfl (⟨_, rfl, q⟩)) (JA.toR (ja_lst jds_nil)) (by walk_at "sh") (by walk_at "sh")) ?_ g.ins fun H2 s2 => jss_cons (js_set c (i := 5) rfl (by decide +kernel) (ja_lst jds_nil) (g.ins.trans s2) fun v H3 s3 q3 => ?_))
    · rw [el]
      simp [Ar.pd, eqv_lst, PyData.eqvAll]
    obtain ⟨p3, rfl, n3, us, h5, h6⟩ := q3
    cases h6
    obtain ⟨od, kvs, hb1, hb2, hb3⟩ := id h2
    have s13 := (g.ins.trans s2).trans s3
    have n30 : H p3 = none := (g.up.trans s2).free n3
    have nB : B1 p3 = none := (g.ins.trans s2).free n3
    refine jss_cons (js_forG b (src_keysK (jv_var (i := 1) b rfl (by decide +kernel) rfl) (g.base _ _ hb1) hb2) s13 (fun i Bi σ' H' => FlL H p3 ((hs.take i).map (goneAt lf ln c0)).flatten Bi H' ∧ ∃ w6 w7, σ' = [some (.ref pc), some (.ref pb), some (.ref d), some u, some (.ref pl), some (.ref p3), w6, w7, none, none, none]) (fun i Bi B2 σ' H' H'' _ _ g ⟨q1, q2⟩ => ⟨q1.grow g, q2⟩) ⟨⟨nB, [], h5, .nil⟩, _, _, rfl⟩ ?_ ?_)
    · rintro B2 s i d' σ' H' v Bi hd' t1 t2 ⟨hF, _, _, rfl⟩ hv
      obtain ⟨ho, hr, rfl⟩ := of_map_at hd'
      have hm := List.mem_of_getElem? hr
      have eF : ((hs.take (i + 1)).map (goneAt lf ln c0)).flatten = ((hs.take i).map (goneAt lf ln c0)).flatten ++ goneAt lf ln c0 ho := by
        rw [take_at hr, List.map_append, List.flatten_append]
        simp
      refine (tgt_name (i := 6) c rfl (by decide +kernel)) _ _ t2 ?_
      have ev := Im.isInt hv
      subst ev
      refine jss_one (js_if (jt_niT b (jr_var (r := .d _) (i := 6) b rfl (by decide +kernel) rfl hv) (jr_var (r := .d _) (i := 3) b rfl (by decide +kernel) rfl ((h4.up g.base).up (s.trans t1))) (by walk_at "sh") (by walk_at "sh")) t2 (fun hb H4 s4 => ?_) fun hb H4 s4 => jss_nil ?_)
      · rw [any_eqv eqv_int] at hb
        have hnot : ¬ ho ∈ ln.2 := by simpa using hb
        obtain ⟨r, hv1, hv2⟩ := hb3 ho hm
        obtain ⟨L, w1, w2, w3⟩ := id hv2
        have kb : Same H Bi := g.base.trans (s.trans t1)
        have kz := ok.each ho hm
        have g4 := grow t2 s4
        have hF4 := hF.grow g4
        refine jss_cons (js_setLcW b (i := 7) (own := [("land", 9)]) (p := fun _ => true) (Pe := fun land v H' => OwnO0 H H' v (dealtOn ln.1 land ho)) rfl (by decide +kernel) (fun a v B1 B2 s q => q.up s)
          (src_w (enc := eL) (as := (lf ho).filter (hd c0)) (src_list (jlb_or (j_dget2T (P := fun H1 v H2 => (Ar.l []).res H1 v H2) b (jv_dgetK b (jv_var (i := 1) b rfl (by decide +kernel) rfl) (jr_var (r := .d _) (i := 6) b rfl (by decide +kernel) rfl (Im.int _)) (.inr ⟨od, g4.base _ _ (kb _ _ hb1)⟩) hv1) (ja_ixLm (f := eP) default (jr_var (r := .l _) (i := 4) b rfl (by decide +kernel) rfl (⟨_, rfl, ((q.up (s.trans t1)).up g4.base)⟩)) (ja_int (i := 0)) (by (rw [el]; simp))) (ja_lst jds_nil) (.inl (g4.base _ _ (kb _ _ w1))) ⟨rfl, rfl, rfl, rfl⟩ ?_ ?_)))) (by decide +kernel) ?_ ?_ g4.ins ?_)
        · intro v hv H5 H6 s5 s6
          rw [hleft, valV_L] at hv
          obtain ⟨x, hx, e⟩ := Option.map_eq_some_iff.mp hv
          subst e
          have hm2 := find_snd hv
          exact ⟨x.2, rfl, .inl ((w2 _ hm2).up (kb.trans g4.base))⟩
        · intro hn H5 H6 v H7 s5 s6 ⟨q, e, n, hq⟩ s7
          rw [hleft, valV_L] at hn
          have hm2 : c0 ∉ L.map Prod.fst := fun hm2 => by
            obtain ⟨x, hx, e⟩ := List.mem_map.mp hm2
            exact List.find?_eq_none.mp (Option.map_eq_none_iff.mp hn) x hx (decide_eq_true e)
          refine ⟨q, e, .inr ⟨s6.free n, ?_⟩⟩
          rw [w3 c0 hm2]
          exact hq
        · exact small_line (Nat.le_trans (List.length_filter_le _ _) (Nat.le_trans kz (by decide)))
        · refine fun i land v5 B5 ha s5 hv5 => ⟨_, by rfl, fun X' c' f' => ⟨tgt_nameB (i := 9) c' rfl (by decide +kernel), jif_nil, fun _ H5 s6 => ?_⟩⟩
          have hok : OwnOk ln.1 land := ok.lands ho hm land (List.mem_filter.mp (List.mem_of_getElem? ha)).1
          have kd : H d = some (.dT (ln.1.map eKV)) := hdo
          refine je_mono (ex_at (j_callP c' (P := fun H1 u H2 => OwnN H1 u H2 (dealtOn ln.1 land ho)) (fn_dealt_on h) (by decide) (by decide +kernel) (jps_v (w := .ref d) (jv_var (i := 2) c' rfl (by decide +kernel) rfl) (jps_d (d := eL land) (jr_var (r := .d _) (i := 9) c' rfl (by decide +kernel) rfl hv5) (jps_v (w := .int ho) (jv_var (i := 6) c' rfl (by decide +kernel) rfl) jps_nil))) (fun H6 vs H7 E s7 s8 hp => ?_)) s6) fun u H6 ⟨s7, q⟩ => ⟨s7, fun B6 g6 => OwnN.base0 ((kb.trans g4.base).trans (s5.trans s6)) g6 q⟩
          obtain ⟨x1, x2, x3, rfl, e1, e2, e3⟩ := paired3 hp
          exact ⟨d, x2, ln.1, land, ho, by rw [e1, e3], s8 _ _ (s7 _ _ (s5 _ _ (g4.base _ _ (kb _ _ kd)))), e2, hok, fun v8 H8 s9 q => ⟨s8.trans s9, q.back s8⟩⟩
        · intro q B5 H5 b5 b6 s5 hL out5
          have hF5 : FlL H p3 ((hs.take i).map (goneAt lf ln c0)).flatten B5 H5 := by
            obtain ⟨f1, vs5, f2, f3⟩ := hF4
            exact ⟨out5 _ _ f1 f2 (fun xs z => by cases z), vs5, s5 _ _ f2, paired_imp f3 fun _ _ w => w.up b5⟩
          have hL2 : LsG B5 q (fun o v H' => OwnO0 H H' v o) (((lf ho).filter (hd c0)).map fun land => dealtOn ln.1 land ho) := by
            obtain ⟨vs5, f2, f3⟩ := hL
            rw [List.filter_eq_self.mpr (fun _ _ => rfl)] at f3
            exact ⟨vs5, f2, paired_map (R := fun o v => OwnO0 H B5 v o) f3⟩
          have lenA : (((lf ho).filter (hd c0)).map fun land => dealtOn ln.1 land ho).length ≤ 32 := by
            rw [List.length_map]
            exact Nat.le_trans (List.length_filter_le _ _) kz
          have lenF : ((hs.take i).map (goneAt lf ln c0)).flatten.length ≤ 32 * 4 := by
            refine Nat.le_trans (flat_len 32 _ fun x hx => ?_) (Nat.mul_le_mul_left _ ?_)
            · obtain ⟨y, hy, rfl⟩ := List.mem_map.mp hx
              unfold goneAt
              split
              · exact Nat.zero_le _
              · rw [List.length_map]
                refine Nat.le_trans (List.length_filter_le _ _) ?_
                rw [List.length_map]
                exact Nat.le_trans (List.length_filter_le _ _) (ok.each y (List.mem_of_mem_take hy))
            · rw [List.length_map, List.length_take]
              omega
          have hG : goneAt lf ln c0 ho = ((((lf ho).filter (hd c0)).map fun land => dealtOn ln.1 land ho).filter Option.isSome).map fun o => (o.getD [], ln.2 ++ [ho]) := by rw [goneAt, if_neg hnot]
          refine jss_one (js_extL (F := ((hs.take i).map (goneAt lf ln c0)).flatten) (G := goneAt lf ln c0 ho) b (jv_var (i := 5) b rfl (by decide +kernel) rfl) b6 hF5 (EX.imp (P := fun H1 v H2 => ∃ q acc, v = .ref q ∧ H1 q = none ∧ H2 q = some (.lst acc) ∧ ∀ B3, Grow B5 H1 B3 H2 → Paired (fun o v => PeLn H (o.getD [], ln.2 ++ [ho]) v B3) ((((lf ho).filter (hd c0)).map fun land => dealtOn ln.1 land ho).filter Option.isSome) acc) ?_ fun H6 v6 H7 ⟨q6, acc, e6, n6, r6, w6⟩ => ⟨q6, acc, e6, n6, r6, fun B3 g3 => by rw [hG]; exact paired_map (R := fun a u => PeLn H a u B3) (w6 B3 g3)⟩) ?_ fun B6 H6 s6 s7 hF6 => ⟨B6, ((t1.trans g4.base).trans b5).trans s6, s7, by rw [eF]; exact hF6, _, _, rfl⟩)
          · refine EX.imp (j_lcW (own := [("one", 10)]) b (Pv := fun o v _ => OwnO0 H B5 v o) (p := Option.isSome) (Pe := fun o v H' => PeLnB B5 H (o.getD [], ln.2 ++ [ho]) v H') (fun a v B1 B2 s q => q.up s) (src_lw (fun a v B1 B2 s q => q) (jv_var (i := 7) b rfl (by decide +kernel) rfl) hL2) (by decide +kernel) (small_line (by omega)) fun i o v6 B6 ha s6 hv6 => ⟨_, by rfl, fun X' c' f' => ⟨tgt_nameB (i := 10) c' rfl (by decide +kernel), ?_, fun hs => ?_⟩⟩) fun H6 v6 H7 ⟨q6, acc, e6, n6, r6, w6⟩ => ⟨q6, acc, e6, n6, r6, fun B3 g3 => paired_imp w6 fun _ _ w => w.to g3.base g3.tk⟩
            · have hv : Option.isSome o = !decide (v6 = .non) := by
                cases o with
                | none => rw [show v6 = .non from hv6]; rfl
                | some l => obtain ⟨q', e', _⟩ := hv6; rw [e']; rfl
              rw [hv]
              exact jif_one (jt_cmp cm_nonV (jv_var (i := 10) c' rfl (by decide +kernel) rfl) ja_non)
            · cases o with
              | none => cases hs
              | some l =>
                obtain ⟨q', e', n', r'⟩ := hv6
                subst e'
                exact ex_pairB c' n' r' (jv_var (i := 10) c' rfl (by decide +kernel) rfl) (ja_snocT (jr_var (r := .d _) (i := 3) c' rfl (by decide +kernel) rfl (((((h4.up g.base).up (s.trans t1)).up g4.base).up b5).up s6)) (ja_tup (jds_cons (jr_var (r := .d _) (i := 6) c' rfl (by decide +kernel) rfl (Im.int _)) jds_nil)) (by walk_at "hl"))
          · rw [hG, List.length_map]
            have := List.length_filter_le Option.isSome (((lf ho).filter (hd c0)).map fun land => dealtOn ln.1 land ho)
            exact small_line (by omega)
      · rw [any_eqv eqv_int] at hb
        have hin : ho ∈ ln.2 := by simpa using hb
        have g4 := grow t2 s4
        refine ⟨gB Bi H' H4, t1.trans g4.base, g4.ins, ?_, _, _, rfl⟩
        rw [eF, goneAt, if_pos hin, List.append_nil]
        exact hF.grow g4
    · rintro σ' H' Bi t1 t2 ⟨hF, _, _, rfl⟩
      rw [List.length_map, List.take_length] at hF
      obtain ⟨f1, vs5, f2, f3⟩ := hF
      refine jss_one (js_ret (jv_var (i := 5) b rfl (by decide +kernel) rfl) t2 fun v6 H6 s6 e6 => ?_)
      subst e6
      refine hQ p3 vs5 H6 ((g.base.trans (t1.trans t2)).trans s6) n30 (s6 _ _ f2) ?_
      rw [goneOn, el]
      exact paired_imp f3 fun _ _ w => (w.up t2).up s6
end
end Mead

set_option maxRecDepth 100000
set_option maxHeartbeats 4000000
namespace Mead
open PySem PySem.Spec PyProof.Rows L2
local macro_rules | `(tactic| walk_at "hl") => `(tactic| first | assumption | omega | (simp only [List.length_map]; omega) | exact Nat.le_of_ble_eq_true rfl | (simp only [List.length_map, List.length_mapIdx, List.length_range]; omega) | (simp only [List.length_mapIdx, List.length_map] at *; omega) | fail)
local macro_rules | `(tactic| walk_at "pc") => `(tactic| first | assumption | exact Nat.le_refl _ | omega)
local macro_rules | `(tactic| walk_at "sh") => `(tactic| first | exact sh_int _ | exact sh_bool _ | exact sh_none | exact sh_eP (by decide) _ | exact sh_eR (by decide) _ | exact sh_eL (by decide) _ | exact sh_eM (by decide) _ | exact sh_eC (by decide) _ | exact sh_eCs (by decide) _ | exact (sh_lst (n := 59) (sh_map fun _ => sh_eP (by decide) _)) | exact (sh_lst (n := 59) (sh_map fun _ => sh_eC (by decide) _)) | exact (sh_lst (n := 59) (sh_map fun _ => sh_eL (by decide) _)) | exact (sh_lst (n := 59) (sh_map fun _ => sh_int _)) | exact (sh_lst (n := 59) sh_nil) | exact (sh_tup (n := 59) sh_nil) | exact sh_tup (n := 59) (sh_cons (sh_int _) (sh_cons (sh_int _) sh_nil)) | exact sh_lst (n := 59) (sh_map fun _ => sh_tup (n := 58) (sh_cons (sh_int _) (sh_cons (sh_int _) sh_nil))) | fail)
local macro_rules | `(tactic| walk_at "al") => `(tactic| first | rfl | simp [PySem.W.alike, PySem.W.alikeAll, eP] | fail)
local macro_rules | `(tactic| walk_at "nn") => `(tactic| intro z; cases z)
section
variable {T : Tx} (h : Top T)
include h
def R_partings_in : List Ar → Ar → Prop := fun as r => ∃ p : Plea, as = [.d (ePl p)] ∧ VPl p ∧ r = .l ((partingsIn p).map eR)
theorem fn_partings_in : Fn T "partings_in" 7 (spA R_partings_in) := by
  refine fn_mkA h.d_partings_in sc_partings_in (fun rs r ⟨_, e, _⟩ => by subst e; rfl) (fun _ _ _ _ _ _ us hl => match us, hl with | [_], _ => rfl) fun X c vs H rs r Q hv ⟨p, e1, z, e2⟩ hQ => ?_
  subst e1; subst e2
  obtain ⟨v1, rfl, h1⟩ := reps1 hv
  have b := c.toBCx
  have y1 := z.mead.y1
  have y2 := z.mead.y2
  have zc := z.mead.cells
  have hsn : (holdersIn p.claims).Nodup := List.Pairwise.imp (fun h => Int.ne_of_lt h) (holdersIn_pw p.claims)
  have hs4 : (holdersIn p.claims).length ≤ 4 := List.length_filter_le _ _
  refine jss_cons (js_tup3G b (je_mono (ex_at (ja_call b (fn_cells_in h) (by decide) (by decide +kernel) (jrs_cons (ja_ixT (jr_var (r := .d _) (i := 0) b rfl (by decide +kernel) rfl h1) (ja_int (i := 0)) rfl) jrs_nil) ⟨_, rfl, (by walk_at "pc"), (by walk_at "pc"), rfl⟩) rfl1) fun w1 H1 ⟨s1, q1⟩ => je_mono (ex_at (ex_line0 (σ := L2.start _ _) (B := H1)) rfl1) fun w2 H2 ⟨s2, q2⟩ => je_mono (ex_at (ex_newK (σ := L2.start _ _) (B := H2)) rfl1) fun w3 H3 ⟨s3, q3⟩ => fun a0 ha0 => ?_))
  obtain ⟨pc, rfl, nc, hc⟩ := q1
  obtain ⟨pl, rfl, nl, hl⟩ := q2
  obtain ⟨pb, rfl, nb, rfl⟩ := q3
  refine jgs_cons (jg_name (i := 1) c rfl (by decide +kernel) (jgs_cons (jg_name (i := 2) c rfl (by decide +kernel) (jgs_cons (jg_name (i := 3) c rfl (by decide +kernel) (jgs_nil ?_))))))
  have s12 : Same H H2 := s1.trans s2
  have sH2 : Same H2 (upd (upd H2 pb (.dK [])) a0 (.tup [.ref pc, .ref pl, .ref pb])) := (Same.new nb).trans (Same.new ha0)
  have hc2 : Ls H2 pc ((cellsIn p.mead).map eP) := hc.up s2
  have kb : upd (upd H2 pb (.dK [])) a0 (.tup [.ref pc, .ref pl, .ref pb]) pb = some (.dK []) := by
    rw [upd_ne (fun e => by rw [← e, upd_same] at ha0; cases ha0), upd_same]
  refine jss_cons (js_forG b (src_list (jlb_new (ja_call b (fn_holders_in h) (by decide) (by decide +kernel) (jrs_cons (ja_ixT (jr_var (r := .d _) (i := 0) b rfl (by decide +kernel) rfl (h1.up s12)) (ja_int (i := 2)) rfl) jrs_nil) ⟨_, rfl, (by exact z.claims), rfl⟩))) sH2 (fun i Bi σ' H' => Bi pb = none ∧ (∃ kvs : List (Key × V), H' pb = some (.dK kvs) ∧ kvs.map (·.1) = ((holdersIn p.claims).take i).map Sum.inl ∧ ∀ ho ∈ (holdersIn p.claims).take i, ∃ r, valV kvs (.inl ho) = some (.ref r) ∧ Bgn H' r (fitIn p ho)) ∧ ∃ w, σ' = [some v1, some (.ref pc), some (.ref pl), some (.ref pb), w, none, none, none, none, none]) (fun i Bi B2 σ' H' H'' _ _ g ⟨q0, ⟨kvs, q1, q2, q3⟩, q4⟩ => ⟨g.out pb _ q0 q1 (fun xs z => by cases z), ⟨kvs, g.up _ _ q1, q2, fun ho hm => let ⟨r, w1, w2⟩ := q3 ho hm; ⟨r, w1, w2.up g.up⟩⟩, q4⟩) ⟨nb, ⟨[], kb, rfl, fun _ hm => (by cases hm)⟩, _, rfl⟩ ?_ ?_)
  · rintro B1 s i d' σ' H' v Bi hd' t1 t2 ⟨q0, ⟨kvs, q1, q2, q3⟩, _, rfl⟩ hv
    obtain ⟨ho, hr, rfl⟩ := of_map_at hd'
    have hm := List.mem_of_getElem? hr
    have nk : valV kvs (.inl ho) = none := by
      rw [valV_keys, q2]
      intro hk
      obtain ⟨x, hx, e⟩ := List.mem_map.mp hk
      cases e
      exact nodup_take hsn hr hx
    refine (tgt_name (i := 4) c rfl (by decide +kernel)) _ _ t2 ?_
    have ev := Im.isInt hv
    subst ev
    have kl : kvs.length ≤ 4 := by
      have := congrArg List.length q2
      rw [List.length_map, List.length_map, List.length_take] at this
      omega
    have fl : (fitIn p ho).length ≤ 32 := by
      refine Nat.le_trans (List.length_filter_le _ _) ?_
      rw [landsOf, srt_len, landsRaw_len]
      exact Nat.pow_le_pow_right (by decide) zc.2
    refine jss_one (js_dputK b t2 (j_callP b (P := fun H1 v H2 => ∃ r, v = .ref r ∧ H1 r = none ∧ Bgn H2 r (fitIn p ho)) (fn_begun_by h) (by decide) (by decide +kernel) (jps_l (JA.toR (ja_call b (fn_fit_in h) (by decide) (by decide +kernel) (jrs_cons (jr_var (r := .d _) (i := 0) b rfl (by decide +kernel) rfl ((h1.up s12).up (s.trans t1))) (jrs_cons (jr_var (r := .d _) (i := 4) b rfl (by decide +kernel) rfl hv) jrs_nil)) ⟨_, _, rfl, (by exact z), rfl⟩)) jps_nil) (fun H4 vs H5 E s4 s5 hp => ?_)) (jv_var (i := 3) b rfl (by decide +kernel) rfl) (jr_var (r := .d _) (i := 4) b rfl (by decide +kernel) rfl hv) q1 (by omega) (fun u H4 s4 ⟨r, e, nr, hr'⟩ H5 s5 => ?_))
    · obtain ⟨x, hx, e⟩ : ∃ x, vs = [x] ∧ ∃ q, x = .ref q ∧ Ls H5 q ((fitIn p ho).map eL) := by
        cases hp with
        | cons w1 w2 => cases w2; exact ⟨_, rfl, w1⟩
      obtain ⟨q, rfl, hq⟩ := e
      exact ⟨q, fitIn p ho, hx, hq, fun l hl => (fit_lands hl).2.2.2.1, by omega, fun a H6 s6 na hb => ⟨s5.trans s6, a, rfl, s5.free na, hb⟩⟩
    · subst e
      have Sx : Same Bi (upd H5 pb (.dK (putK kvs (.inl ho) (.ref r)))) := fun a o ea => by
        rw [upd_ne (ne_of_none ea q0)]
        exact s5 _ _ (s4 _ _ (t2 _ _ ea))
      have q5 : H5 pb = some (.dK kvs) := s5 _ _ (s4 _ _ q1)
      refine ⟨Bi, t1, Sx, q0, ⟨kvs ++ [(.inl ho, .ref r)], by rw [upd_same, putK_new _ nk], ?_, fun h2 hm2 => ?_⟩, _, rfl⟩
      · rw [List.map_append, q2, take_at hr, List.map_append]
        rfl
      · rw [take_at hr] at hm2
        rw [valV_snoc' nk]
        rcases List.mem_append.mp hm2 with hm2 | hm2
        · obtain ⟨r2, w1, w2⟩ := q3 h2 hm2
          have ne : ¬ (Sum.inl h2 : Key) = .inl ho := fun e => by
            cases e
            exact nodup_take hsn hr hm2
          rw [if_neg ne]
          exact ⟨r2, w1, (w2.up (s4.trans s5)).upd_ne q5⟩
        · have e : h2 = ho := by simpa using hm2
          subst e
          rw [if_pos rfl]
          exact ⟨r, rfl, (hr'.up s5).upd_ne q5⟩
  · rintro σ' H' Bi t1 t2 ⟨q0, ⟨kvs, q1, q2, q3⟩, _, rfl⟩
    rw [List.length_map, List.take_length] at q2 q3
    refine jss_freezeK q1 fun od => ?_
    have SB : Same Bi (upd H' pb (.frz od (.dK kvs))) := fun a o ea => by
      rw [upd_ne (ne_of_none ea q0)]
      exact t2 _ _ ea
    have S2f : Same H2 (upd H' pb (.frz od (.dK kvs))) := t1.trans SB
    have bf : BegF (upd H' pb (.frz od (.dK kvs))) pb (holdersIn p.claims) (fitIn p) := ⟨od, kvs, upd_same, q2, fun ho hm => let ⟨r, w1, w2⟩ := q3 ho hm; ⟨r, w1, w2.upd_ne q1⟩⟩
    have kl : kvs.length = (holdersIn p.claims).length := by
      have := congrArg List.length q2
      rw [List.length_map, List.length_map] at this
      exact this
    have pup : ∀ (a : Line) (v : V) (B1 B2 : Hp), Same B1 B2 → PeLn (fun _ => none) a v B1 → PeLn (fun _ => none) a v B2 := fun _ _ _ _ s q => q.up s
    generalize hHf : upd H' pb (.frz od (.dK kvs)) = Hf at SB S2f bf
    have hlf : Rd Hf pb (.dK kvs) := by rw [← hHf]; exact .inr ⟨od, upd_same⟩
    have linv := lines_inv (fit_all p)
    have llen := lines_len (k := 16) (fit_all p) hsn fun ho _ c0 => fit_head z.mead ho c0
    have lmost : ∀ i, i ≤ (holdersIn p.claims).length → (linesOf (cellsIn p.mead) (holdersIn p.claims) (fitIn p) i).length ≤ 1572864 := fun i hi => Nat.le_trans (llen i) (lineMost_le _ hs4 i hi)
    refine jss_cons (js_forG b (src_range b (by decide +kernel) h.f_range (ja_lenK b (by decide +kernel) h.f_len (jv_var (i := 3) b rfl (by decide +kernel) rfl) hlf) (by omega)) rfl1 (fun i Bi σ' _ => ∃ pl', LsG Bi pl' (fun a v H => PeLn (fun _ => none) a v H) (linesOf (cellsIn p.mead) (holdersIn p.claims) (fitIn p) i) ∧ ∃ w4 w5 w6 w7 w8, σ' = [some v1, some (.ref pc), some (.ref pl'), some (.ref pb), w4, w5, w6, w7, w8, none]) (fun i Bi B2 σ' H' H'' _ _ g ⟨pl', q1, q2⟩ => ⟨pl', q1.up' pup g.base, q2⟩) ⟨pl, (hl.up' pup S2f), _, _, _, _, _, rfl⟩ ?_ ?_)
    · rintro B1 s i d' σ' H' v Bi hd' t1 t2 ⟨pl', hL, w4, w5, w6, w7, w8, rfl⟩ hv
      have hin : i < (holdersIn p.claims).length := by
        have := (List.getElem?_eq_some_iff.mp hd').1
        simp at this
        omega
      refine (tgt_name (i := 5) c rfl (by decide +kernel)) _ _ t2 ?_
      refine jss_cons (js_set c (i := 6) rfl (by decide +kernel) (ja_lst jds_nil) t2 fun v6 H4 s4 q => ?_)
      obtain ⟨p6, rfl, n6, us, h5, h6⟩ := q
      cases h6
      have nB6 : Bi p6 = none := t2.free n6
      refine jss_cons (js_forW b (src_lw pup (jv_var (i := 2) b rfl (by decide +kernel) rfl) hL) (t2.trans s4) (fun j B' σ'' H'' => FlL (fun _ => none) p6 (((linesOf (cellsIn p.mead) (holdersIn p.claims) (fitIn p) i).take j).map (goneOn (cellsIn p.mead) (holdersIn p.claims) (fitIn p))).flatten B' H'' ∧ ∃ x7 x8, σ'' = [some v1, some (.ref pc), some (.ref pl'), some (.ref pb), w4, some v, some (.ref p6), x7, x8, none]) (fun j Bi B2 σ' H' H'' _ _ g ⟨q1, q2⟩ => ⟨q1.grow g, q2⟩) ⟨⟨nB6, [], h5, .nil⟩, _, _, rfl⟩ ?_ ?_)
      · rintro B2 s2 j ln σ'' H'' v' Bj hj t3 t4 ⟨hF, _, _, rfl⟩ ⟨q, d, u, rfl, r1, _, r3, r4⟩
        refine (tgt_tup b r1 rfl (tgts_cons (tgt_name (i := 7) c rfl (by decide +kernel)) (tgts_cons (tgt_name (i := 8) c rfl (by decide +kernel)) tgts_nil))) _ _ t4 ?_
        have SBj : Same Hf Bj := (s.trans t1).trans (s2.trans t3)
        have li := linv i ln (List.mem_of_getElem? hj)
        have l1 : ln.1.length ≤ 5 := by
          have := nodup_len li.nd (m := cellsIn p.mead) fun a ha => by
            obtain ⟨x, hx, rfl⟩ := List.mem_map.mp ha
            exact (li.keys x hx).1
          rw [List.length_map] at this
          omega
        have l2 : ln.2.length ≤ 4 := Nat.le_trans (nodup_len li.und li.uhs) hs4
        have ok : GoneOk (cellsIn p.mead) (holdersIn p.claims) (fitIn p) ln := ⟨fun ho _ land hm => ⟨fun x hx => cell_grid z.mead (li.keys x hx).1, li.nd, (fit_lands hm).2.1, by have := (fit_lands hm).1.len z.mead; omega⟩, by omega, fun ho _ => by
          refine Nat.le_trans (List.length_filter_le _ _) ?_
          rw [landsOf, srt_len, landsRaw_len]
          exact Nat.pow_le_pow_right (by decide) zc.2⟩
        refine jss_one (js_extL (H0 := fun _ => none) (G := goneOn (cellsIn p.mead) (holdersIn p.claims) (fitIn p) ln) b (jv_var (i := 6) b rfl (by decide +kernel) rfl) t4 hF (fun H7 s7 => je_mono (ex_at (j_callP b (P := fun H1 v H2 => ∃ b us, v = .ref b ∧ H1 b = none ∧ H2 b = some (.lst us) ∧ Paired (fun a u => PeLn H1 a u H2) (goneOn (cellsIn p.mead) (holdersIn p.claims) (fitIn p) ln) us) (fn_gone_on h) (by decide) (by decide +kernel) (jps_l (ds := (cellsIn p.mead).map eP) (jr_var (r := .l _) (i := 1) b rfl (by decide +kernel) rfl ⟨pc, rfl, hc2.up (S2f.trans SBj)⟩) (jps_v (w := .ref pb) (jv_var (i := 3) b rfl (by decide +kernel) rfl) (jps_v (w := .ref d) (jv_var (i := 7) b rfl (by decide +kernel) rfl) (jps_d (d := eR ln.2) (jr_var (r := .d _) (i := 8) b rfl (by decide +kernel) rfl r4) jps_nil)))) ?_) s7) fun v H8 ⟨s8, b', us', e', n', hb', hp'⟩ => ⟨s8, b', us', e', n', hb', fun B3 g3 => paired_imp hp' fun _ _ w => w.grow g3⟩) ?_ fun B6 H6 s6 s7 hF6 => ⟨B6, t3.trans s6, s7, ?_, _, _, rfl⟩)
        · intro H8 vs8 H9 E s8 s9 hp
          obtain ⟨x1, x2, x3, x4, rfl, ⟨q1, e1, g1⟩, e2, e3, g4⟩ := paired4 hp
          exact ⟨q1, pb, d, x4, cellsIn p.mead, holdersIn p.claims, fitIn p, ln, by rw [e1, e2, e3], g1, bf.up (SBj.trans (s8.trans s9)), s9 _ _ (s8 _ _ r3), g4, ok, fun b' us' H' s10 n' hb' hp' => ⟨s9.trans s10, b', us', rfl, s9.free n', hb', paired_imp hp' fun _ _ w => w.back s9⟩⟩
        · have e3 : ((((linesOf (cellsIn p.mead) (holdersIn p.claims) (fitIn p) i).take j).map (goneOn (cellsIn p.mead) (holdersIn p.claims) (fitIn p))).flatten ++ goneOn (cellsIn p.mead) (holdersIn p.claims) (fitIn p) ln) = (((linesOf (cellsIn p.mead) (holdersIn p.claims) (fitIn p) i).take (j + 1)).map (goneOn (cellsIn p.mead) (holdersIn p.claims) (fitIn p))).flatten := by
            rw [take_at hj, List.map_append, List.flatten_append]
            simp
          rw [← List.length_append, e3]
          exact Nat.le_trans (flat_take_le _ _ _) (Nat.le_trans (lmost (i + 1) hin) (by decide))
        · rw [take_at hj, List.map_append, List.flatten_append]
          simpa using hF6
      · rintro σ'' H'' Bj t3 t4 ⟨hF, _, _, rfl⟩
        rw [List.take_length] at hF
        obtain ⟨f1, vs6, f2, f3⟩ := hF
        refine jss_one (js_set c (i := 2) rfl (by decide +kernel) (jv_var (i := 6) b rfl (by decide +kernel) rfl) t4 fun v2 H5 s5 e => ?_)
        subst e
        refine ⟨upd Bj p6 (.lst vs6), (t1.trans t3).trans (Same.new f1), fun a o ea => ?_, p6, ⟨vs6, upd_same, paired_imp f3 fun _ _ w => w.up (Same.new f1)⟩, _, _, _, _, _, rfl⟩
        by_cases hap : a = p6
        · subst hap
          rw [upd_same] at ea
          cases ea
          exact s5 _ _ f2
        · rw [upd_ne hap] at ea
          exact s5 _ _ (t4 _ _ ea)
    · rintro σ' H' Bi t1 t2 ⟨pl', hL, w4, w5, w6, w7, w8, rfl⟩
      have en : ((List.range ((kvs.length : Int)).toNat).map fun i => PyData.int ((i : Nat) : Int)).length = (holdersIn p.claims).length := by
        rw [List.length_map, List.length_range, Int.toNat_natCast, kl]
      rw [en] at hL
      have hcl : Ls Bi pc ((cellsIn p.mead).map eP) := hc2.up (S2f.trans t1)
      refine jss_one (js_ret (ja_sorted (enc := eR) (bs := ((linesOf (cellsIn p.mead) (holdersIn p.claims) (fitIn p) (holdersIn p.claims).length).filter fun ln => decide (ln.1.length = (cellsIn p.mead).length)).map (partOf (cellsIn p.mead))) b (by decide +kernel) h.f_sorted (JA.toR (by
        rw [List.map_map]
        refine ja_lcW (own := [("owners", 7), ("used", 8)]) b (src_lw pup (jv_var (i := 2) b rfl (by decide +kernel) rfl) hL) (by decide +kernel) (Nat.le_trans (lmost _ (Nat.le_refl _)) (by decide)) fun i ln v B2 ha s hv => ?_
        obtain ⟨q, d, u, rfl, r1, _, r3, r4⟩ := hv
        have li := linv _ ln (List.mem_of_getElem? ha)
        refine ⟨_, by rfl, fun X' c' f' => ⟨tgt_tup c' r1 rfl (tgts_cons (tgt_cellB (i := 7) c' rfl (by decide +kernel) (by rw [f']; rfl)) (tgts_cons (tgt_nameB (i := 8) c' rfl (by decide +kernel)) tgts_nil)), ?_, fun hp => ?_⟩⟩
        · have e : PyData.eqv (Ar.d (.int ((ln.1.map eKV).length : Nat))).pd (Ar.d (.int (((cellsIn p.mead).map eP).length : Nat))).pd = decide (ln.1.length = (cellsIn p.mead).length) := by
            simp [Ar.pd, eqv_int]
            omega
          rw [← e]
          exact jif_one (jt_eq (r := .d _) (q := .d _) c' (ja_lenDT c' (by decide +kernel) h.f_len (jv_var (i := 7) c' rfl (by decide +kernel) rfl) r3) (ja_lenL c' (by decide +kernel) h.f_len (jr_var (r := .l _) (i := 1) c' rfl (by decide +kernel) rfl ⟨pc, rfl, hcl.up s⟩)) (sh_int _) (sh_int _))
        · have e2 : (eR ∘ partOf (cellsIn p.mead)) ln = .tuple ((cellsIn p.mead).map fun pl => .int ((look ln.1 pl).getD 0)) := by
            simp [eR, partOf]
          rw [e2]
          refine ja_tuple c' (by decide +kernel) h.f_tuple (JA.toR (ja_lc0 (own := [("cell", 9)]) c' (src_list (jlb_var (jv_var (i := 1) c' rfl (by decide +kernel) rfl) (hcl.up s))) (by decide +kernel) (by omega) fun i2 cl v2 B3 ha2 s2 hv2 => ⟨_, by rfl, fun X2 c2 f2 => ⟨tgt_nameB (i := 9) c2 rfl (by decide +kernel), ?_⟩⟩))
          refine ja_dgetI c2 (jv_var (i := 7) c2 rfl (by decide +kernel) rfl) (jr_var (r := .d _) (i := 9) c2 rfl (by decide +kernel) rfl hv2) (.inl (s2 _ _ r3)) ?_
          rw [look_mem]
          refine nodup_all li.nd (fun a ha => ?_) ?_ (cellsIn_nodup _) cl (List.mem_of_getElem? ha2)
          · obtain ⟨x, hx, rfl⟩ := List.mem_map.mp ha
            exact (li.keys x hx).1
          · rw [List.length_map]
            have := of_decide_eq_true hp
            omega)) (sok_eR fun t ht => ?_) dep_eR) t2 (rqs ((s12.trans S2f).trans (t1.trans t2)) hQ rfl))
      obtain ⟨ln, _, rfl⟩ := List.mem_map.mp ht
      intro e
      have h0 : (cellsIn p.mead).length = 0 := by
        have := congrArg List.length e
        rwa [partOf, List.length_map] at this
      omega
end
end Mead

set_option maxRecDepth 100000
set_option maxHeartbeats 4000000
namespace Mead
open PySem PySem.Spec PyProof.Rows L2
local macro_rules | `(tactic| walk_at "hl") => `(tactic| first | assumption | omega | (simp only [List.length_map]; omega) | exact Nat.le_of_ble_eq_true rfl | (simp only [List.length_map, List.length_mapIdx, List.length_range]; omega) | (simp only [List.length_mapIdx, List.length_map] at *; omega) | fail)
local macro_rules | `(tactic| walk_at "pc") => `(tactic| first | assumption | exact Nat.le_refl _ | omega)
local macro_rules | `(tactic| walk_at "sh") => `(tactic| first | exact sh_int _ | exact sh_bool _ | exact sh_none | exact sh_eP (by decide) _ | exact sh_eR (by decide) _ | exact sh_eL (by decide) _ | exact sh_eM (by decide) _ | exact sh_eC (by decide) _ | exact sh_eCs (by decide) _ | exact (sh_lst (n := 59) (sh_map fun _ => sh_eP (by decide) _)) | exact (sh_lst (n := 59) (sh_map fun _ => sh_eC (by decide) _)) | exact (sh_lst (n := 59) (sh_map fun _ => sh_eL (by decide) _)) | exact (sh_lst (n := 59) (sh_map fun _ => sh_int _)) | exact (sh_lst (n := 59) sh_nil) | exact (sh_tup (n := 59) sh_nil) | exact sh_tup (n := 59) (sh_cons (sh_int _) (sh_cons (sh_int _) sh_nil)) | exact sh_lst (n := 59) (sh_map fun _ => sh_tup (n := 58) (sh_cons (sh_int _) (sh_cons (sh_int _) sh_nil))) | fail)
local macro_rules | `(tactic| walk_at "al") => `(tactic| first | rfl | simp [PySem.W.alike, PySem.W.alikeAll, eP] | fail)
local macro_rules | `(tactic| walk_at "nn") => `(tactic| intro z; cases z)
def optR : Option (List Int) → PyData
  | none => .none
  | some t => eR t
def eB (x : Int × List Int) : PyData := .tuple [.int x.1, eR x.2]
def optB : Option (Int × List Int) → PyData
  | none => .none
  | some x => eB x
def ltB (x y : Int × List Int) : Bool := PySem.W.dataLt (eB x) (eB y)
def bestStep (own : List (Pl × Pl)) (m : List (List Int)) (best : Option (Int × List Int)) (t : List Int) : Option (Int × List Int) :=
  match best with
  | none => some (unlikeN own (fencesIn m t), t)
  | some x => if ltB (unlikeN own (fencesIn m t), t) x = true then some (unlikeN own (fencesIn m t), t) else some x
def leastMoved (p : Plea) (nums : List Int) : Option (Int × List Int) := (partingsIn p).foldl (bestStep (fencesIn p.mead nums) p.mead) none
theorem al_eB (a b : Int × List Int) : PySem.W.alike (eB a) (eB b) = true := by simp [eB, PySem.W.alike, PySem.W.alikeAll, al_eR]
theorem sh_eB (a : Int × List Int) : Sh 60 (eB a) := sh_tup (n := 59) (sh_cons (sh_int _) (sh_cons (sh_eR (by decide) _) sh_nil))
section
variable {T : Tx} (h : Top T)
include h
def R_first_parting : List Ar → Ar → Prop := fun as r => ∃ p : Plea, as = [.d (ePl p)] ∧ (VPl p) ∧ r = .d (optR (partingsIn p).head?)
theorem fn_first_parting : Fn T "first_parting" 8 (spA R_first_parting) := by
  refine fn_mkA h.d_first_parting sc_first_parting (fun rs r ⟨_, e, _⟩ => by subst e; rfl) (fun _ _ _ _ _ _ us hl => match us, hl with | [_], _ => rfl) fun X c vs H rs r Q hv ⟨p, e1, z, e2⟩ hQ => ?_
  subst e1; subst e2
  obtain ⟨v1, rfl, h1⟩ := reps1 hv
  have b := c.toBCx
  refine jss_cons (js_expr (ja_call b (fn_need_plea h) (by decide) (by decide +kernel) (jrs_cons (jr_var (r := .d _) (i := 0) b rfl (by decide +kernel) rfl h1) jrs_nil) ⟨_, rfl, (by walk_at "pc"), rfl⟩) rfl1 fun _ H1 s1 _ => jss_cons (js_setB c (i := 1) rfl (by decide +kernel) (ja_call b (fn_partings_in h) (by decide) (by decide +kernel) (jrs_cons (jr_var (r := .d _) (i := 0) b rfl (by decide +kernel) rfl h1) jrs_nil) ⟨_, rfl, (by walk_at "pc"), rfl⟩) s1 fun v B1 H2 g q => ?_))
  obtain ⟨p2, rfl, q⟩ := q
  refine jss_one (js_ret (P := fun H1 v H2 => (Ar.d (optR (partingsIn p).head?)).res H1 v H2) (ja_if (jt_ne (r := .l _) (q := .l _) b (jr_var (r := .l _) (i := 1) b rfl (by decide +kernel) rfl (⟨_, rfl, q⟩)) (JA.toR (ja_lst jds_nil)) (by first | exact (sh_lst (n := 59) (sh_map fun _ => sh_eR (by decide) _)) | exact (sh_lst (n := 59) sh_nil)) (by first | exact (sh_lst (n := 59) (sh_map fun _ => sh_eR (by decide) _)) | exact (sh_lst (n := 59) sh_nil))) (fun hb => ?_) (fun hb => ?_) (fun _ _ _ _ s q => Ar.res_back s q)) g.ins (rqs (s1.trans g.up) hQ rfl))
  · cases e : partingsIn p with
    | nil => rw [e] at hb; simp [Ar.pd, eqv_lst, PyData.eqvAll] at hb
    | cons t r =>
      have hpos : 0 < (partingsIn p).length := by rw [e]; simp
      have e2 : (partingsIn p).getD (0 : Int).toNat [] = t := by rw [e]; rfl
      refine EX.imp (ja_ixLm (f := eR) [] (jr_var (r := .l _) (i := 1) b rfl (by decide +kernel) rfl (⟨_, rfl, q⟩)) (ja_int (i := 0)) (by omega)) fun H3 v H4 q => ?_
      rw [e2] at q
      exact q
  · cases e : partingsIn p with
    | nil => exact ja_non
    | cons t r => rw [e] at hb; simp [Ar.pd, eqv_lst, eqv_eR, PyData.eqvAll] at hb
def R_least_moved : List Ar → Ar → Prop := fun as r => ∃ p : Plea, ∃ nums : List Int, as = [.d (ePl p), .d (eR nums)] ∧ (VPl p) ∧ (nums.length = (cellsIn p.mead).length) ∧ r = .d (optB (leastMoved p nums))
theorem fn_least_moved : Fn T "least_moved" 8 (spA R_least_moved) := by
  refine fn_mkA h.d_least_moved sc_least_moved (fun rs r ⟨_, _, e, _⟩ => by subst e; rfl) (fun _ _ _ _ _ _ us hl => match us, hl with | [_, _], _ => rfl) fun X c vs H rs r Q hv ⟨p, nums, e1, z, zn, e2⟩ hQ => ?_
  subst e1; subst e2
  obtain ⟨v1, v2, rfl, h1, h2⟩ := reps2 hv
  have b := c.toBCx
  have y1 := z.mead.y1
  have y2 := z.mead.y2
  have y3 := z.mead.cells.2
  have w1 : ∀ t, (fencesIn p.mead t).length ≤ 1000 := fun t => Nat.le_trans (fencesIn_len z.mead.cells.2) (by decide)
  refine jss_cons (js_par b (i := 2) (j := 3) rfl rfl (by decide) (by decide +kernel) (by decide +kernel) (jns_cons (ja_ixT (jr_var (r := .d _) (i := 0) b rfl (by decide +kernel) rfl h1) (ja_int (i := 0)) rfl) (jns_cons (ja_non) jns_nil)) rfl1 (fun vm vn H1 s1 q1 q2 => ?_) (by with_unfolding_all rfl))
  have q1 : Im H1 vm (eM p.mead) := q1
  have e := Im.isNon q2
  subst e
  refine jss_cons (js_setB c (i := 4) rfl (by decide +kernel) (ja_call b (fn_fences_in h) (by decide) (by decide +kernel) (jrs_cons (jr_var (r := .d _) (i := 2) b rfl (by decide +kernel) rfl q1) (jrs_cons (jr_var (r := .d _) (i := 1) b rfl (by decide +kernel) rfl (h2.up s1)) jrs_nil)) ⟨_, _, rfl, (by walk_at "pc"), (by walk_at "pc"), (by walk_at "pc"), (by walk_at "pc"), rfl⟩) rfl1 fun v B1 H2 g q => ?_)
  obtain ⟨po, rfl, q⟩ := q
  refine jss_cons (js_forG b (src_list (jlb_new (ja_call b (fn_partings_in h) (by decide) (by decide +kernel) (jrs_cons (jr_var (r := .d _) (i := 0) b rfl (by decide +kernel) rfl ((h1.up s1).up g.base)) jrs_nil) ⟨_, rfl, (by walk_at "pc"), rfl⟩))) g.ins (fun i Bi σ' _ => ∃ vb w5 w6, σ' = [some v1, some v2, some vm, some vb, some (.ref po), w5, w6] ∧ Im Bi vb (optB (((partingsIn p).take i).foldl (bestStep (fencesIn p.mead nums) p.mead) none))) (fun _ _ _ _ _ _ _ _ g ⟨vb, w5, w6, e, q⟩ => ⟨vb, w5, w6, e, q.up g.base⟩) ⟨.non, _, _, rfl, .non⟩ ?_ ?_)
  · rintro B2 s i d σ' H' v Bi hd' t1 t2 ⟨vb, w5, w6, rfl, hb⟩ hv
    obtain ⟨t, hr, rfl⟩ := of_map_at hd'
    refine (tgt_name (i := 5) c rfl (by decide +kernel)) _ _ t2 ?_
    have zt : t.length = (cellsIn p.mead).length := (isParted_at (partingsIn_ok z t (List.mem_of_getElem? hr))).1
    refine jss_cons (js_setB c (i := 6) rfl (by decide +kernel) (ja_tup (jds_cons (ja_call b (fn_unlike h) (by decide) (by decide +kernel) (jrs_cons (jr_var (r := .l _) (i := 4) b rfl (by decide +kernel) rfl (⟨_, rfl, (q.up (s.trans t1))⟩)) (jrs_cons (JA.toR (ja_call b (fn_fences_in h) (by decide) (by decide +kernel) (jrs_cons (jr_var (r := .d _) (i := 2) b rfl (by decide +kernel) rfl ((q1.up g.base).up (s.trans t1))) (jrs_cons (jr_var (r := .d _) (i := 5) b rfl (by decide +kernel) rfl hv) jrs_nil)) ⟨_, _, rfl, (by first | assumption | exact w1 _), (by first | assumption | exact w1 _), (by first | assumption | exact w1 _), (by first | assumption | exact w1 _), rfl⟩)) jrs_nil)) ⟨_, _, rfl, (by first | assumption | exact w1 _), (by first | assumption | exact w1 _), rfl⟩) (jds_cons (jr_var (r := .d _) (i := 5) b rfl (by decide +kernel) rfl hv) jds_nil))) t2 fun v6 B3 H3 g3 q6 => ?_)
    have q6 : Im B3 v6 (eB (unlikeN (fencesIn p.mead nums) (fencesIn p.mead t), t)) := q6
    have fs : ((partingsIn p).take (i + 1)).foldl (bestStep (fencesIn p.mead nums) p.mead) none = bestStep (fencesIn p.mead nums) p.mead (((partingsIn p).take i).foldl (bestStep (fencesIn p.mead nums) p.mead) none) t := by
      rw [take_at hr, List.foldl_append]
      rfl
    generalize hbest : ((partingsIn p).take i).foldl (bestStep (fencesIn p.mead nums) p.mead) none = best at hb fs
    have hb3 := hb.up g3.base
    cases best with
    | none =>
      have eb := Im.isNon hb3
      subst eb
      refine jss_one (js_ifT (JW.t (jw_or (d := true) (jt_cmp (cm_isV (v := .non)) (jv_var (i := 3) b rfl (by decide +kernel) rfl) ja_non) fun hb => by cases hb)) rfl g3.ins fun H4 s4 => jss_one (js_set c (i := 3) rfl (by decide +kernel) (jv_var (v := v6) (i := 6) b rfl (by decide +kernel) rfl) (g3.ins.trans s4) fun v7 H5 s5 e7 => ?_))
      subst e7
      exact ⟨B3, t1.trans g3.base, (g3.ins.trans s4).trans s5, _, _, _, rfl, by rw [fs]; exact q6⟩
    | some x =>
      have hb4 : Im B3 vb (eB x) := hb3
      have hv0 : decide (vb = .non) = false := by
        obtain ⟨a, xs, rfl, _⟩ := Im.isTup hb4
        rfl
      have hb5 : Im B3 vb (.tuple [.int x.1, eR x.2]) := hb3
      refine jss_one (js_if (JW.t (jw_or (jt_cmp (cm_isV (v := vb)) (jv_var (i := 3) b rfl (by decide +kernel) rfl) ja_non) fun hb => jw_or1 (jt_ltD b (jr_var (r := .d _) (i := 6) b rfl (by decide +kernel) rfl q6) (jr_var (r := .d _) (i := 3) b rfl (by decide +kernel) rfl hb5) (by exact sh_eB (_, _)) (by exact al_eB (_, _) (_, _)) (by walk_at "nn")))) g3.ins (fun hc H4 s4 => ?_) fun hc H4 s4 => ?_)
      · rw [hv0, Bool.false_or] at hc
        refine jss_one (js_set c (i := 3) rfl (by decide +kernel) (jv_var (v := v6) (i := 6) b rfl (by decide +kernel) rfl) (g3.ins.trans s4) fun v7 H5 s5 e7 => ?_)
        subst e7
        refine ⟨B3, t1.trans g3.base, (g3.ins.trans s4).trans s5, _, _, _, rfl, ?_⟩
        have e9 : ltB (unlikeN (fencesIn p.mead nums) (fencesIn p.mead t), t) x = true := hc
        rw [fs, bestStep, if_pos e9]
        exact q6
      · rw [hv0, Bool.false_or] at hc
        refine jss_nil ⟨B3, t1.trans g3.base, g3.ins.trans s4, _, _, _, rfl, ?_⟩
        have e9 : ¬ ltB (unlikeN (fencesIn p.mead nums) (fencesIn p.mead t), t) x = true := fun z => by
          have hc' : ltB (unlikeN (fencesIn p.mead nums) (fencesIn p.mead t), t) x = false := hc
          rw [hc'] at z
          cases z
        rw [fs, bestStep, if_neg e9]
        exact hb4
  · rintro σ' H' Bi t1 t2 ⟨vb, w5, w6, rfl, hb⟩
    rw [List.length_map, List.take_length] at hb
    exact jss_one (js_ret (jv_var (v := vb) (i := 3) b rfl (by decide +kernel) rfl) t2 fun v2 H2 s2 e => by
      subst e
      exact hQ _ _ ((((s1.trans g.base).trans t1).trans t2).trans s2) ((hb.up t2).up s2))
def R_fewest_moved : List Ar → Ar → Prop := fun as r => ∃ p : Plea, ∃ nums : List Int, as = [.d (ePl p), .d (eDl p.mead nums)] ∧ (VPl p) ∧ (VDl p.mead nums) ∧ r = .d (optB (leastMoved p nums))
theorem fn_fewest_moved : Fn T "fewest_moved" 9 (spA R_fewest_moved) := by
  refine fn_mkA h.d_fewest_moved sc_fewest_moved (fun rs r ⟨_, _, e, _⟩ => by subst e; rfl) (fun _ _ _ _ _ _ us hl => match us, hl with | [_, _], _ => rfl) fun X c vs H rs r Q hv ⟨p, nums, e1, z, zd, e2⟩ hQ => ?_
  subst e1; subst e2
  obtain ⟨v1, v2, rfl, h1, h2⟩ := reps2 hv
  have b := c.toBCx
  exact jss_cons (js_expr (ja_call b (fn_need_plea h) (by decide) (by decide +kernel) (jrs_cons (jr_var (r := .d _) (i := 0) b rfl (by decide +kernel) rfl h1) jrs_nil) ⟨_, rfl, (by first | assumption | exact zd.len), rfl⟩) rfl1 fun _ H1 s1 _ => jss_cons (js_expr (ja_call b (fn_need_other h) (by decide) (by decide +kernel) (jrs_cons (ja_ixT (jr_var (r := .d _) (i := 0) b rfl (by decide +kernel) rfl h1) (ja_int (i := 0)) rfl) (jrs_cons (jr_var (r := .d _) (i := 1) b rfl (by decide +kernel) rfl h2) jrs_nil)) ⟨_, _, rfl, (by first | assumption | exact zd.len), rfl⟩) s1 fun _ H2 s2 _ => jss_one (js_ret (ja_call b (fn_least_moved h) (by decide) (by decide +kernel) (jrs_cons (jr_var (r := .d _) (i := 0) b rfl (by decide +kernel) rfl h1) (jrs_cons (ja_ixT (jr_var (r := .d _) (i := 1) b rfl (by decide +kernel) rfl h2) (ja_int (i := 1)) rfl) jrs_nil)) ⟨_, _, rfl, (by first | assumption | exact zd.len), (by first | assumption | exact zd.len), rfl⟩) (s1.trans s2) (rqs (s1.trans s2) hQ rfl))))
end
end Mead

set_option maxRecDepth 100000
set_option maxHeartbeats 4000000
/-! the pen: a list of a number and a mark, known only as such -/
namespace Mead
open PySem PySem.Spec PyProof.Rows L2
def penO (p : Addr) : HO := .ext fun h => ∃ (x f : Int) (its : List Value) (n : Nat), (f = 0 ∨ f = 1) ∧ Vals [.int x, .int f] its ∧ h.get? p = some { cls := .type "list", data := .seq its.toArray n }
section
variable {X : Cx} {σ : L2.St} {H : Hp} {p : Addr} {sts : List Stmt} {D : Ends} {pins : List (Addr × Obj)} {s : Shared}
theorem pen_open (I : Inv X pins σ H s) (hp : H p = some (penO p)) : ∃ x f : Int, (f = 0 ∨ f = 1) ∧ Inv X pins σ (upd H p (.lst [.int x, .int f])) s := by
  have x := I.hok p _ hp
  obtain ⟨⟨x, f, its, n, hf, hv, he⟩, _, _⟩ := x
  refine ⟨x, f, hf, I.write (x := p) (e := p) (t' := s.toks) (h' := s.heap) (by rw [hp]; exact True.intro) (.inl rfl) (fun b v _ q => q) ⟨_, he⟩ ?_⟩
  exact ⟨by show (2 : Nat) ≤ sizeLine; decide, its, n, hv, he⟩
theorem pen_close (I : Inv X pins σ H s) {x f : Int} (hf : f = 0 ∨ f = 1) (hp : H p = some (.lst [.int x, .int f])) : Inv X pins σ (upd H p (penO p)) s := by
  have y := I.hok p _ hp
  obtain ⟨_, its, n, hv, he⟩ := y
  refine I.write (x := p) (e := p) (t' := s.toks) (h' := s.heap) (by rw [hp]; exact True.intro) (.inl rfl) (fun b v _ q => q) ⟨_, he⟩ ?_
  exact ⟨⟨x, f, its, n, hf, hv, he⟩, ⟨_, he⟩, fun h1 h2 ⟨x, f, its, n, hf, hv, he⟩ k => ⟨x, f, its, n, hf, hv, k _ he⟩⟩
theorem jss_penOpen (hp : H p = some (penO p)) (h : ∀ x f : Int, (f = 0 ∨ f = 1) → jSs X sts D σ (upd H p (.lst [.int x, .int f]))) : jSs X sts D σ H := fun pins s I =>
  let ⟨x, f, hf, I1⟩ := pen_open I hp
  h x f hf pins s I1
/-- only the return is left -/
theorem jss_penClose {nx : L2.St → Hp → Prop} {Q : VK} (hn : ∀ σ' H', ¬ nx σ' H') (h : jSs X sts { nx := nx, rt := fun v H' => ∃ x f : Int, (f = 0 ∨ f = 1) ∧ H' p = some (.lst [.int x, .int f]) ∧ Q v (upd H' p (penO p)) } σ H) {nx' : L2.St → Hp → Prop} : jSs X sts { nx := nx', rt := Q } σ H := fun pins s I =>
  thn (h pins s I) fun o s' q => by
    cases o with
    | next => obtain ⟨σ', H', _, z⟩ := q; exact absurd z (hn _ _)
    | brk => obtain ⟨σ', H', _, z⟩ := q; exact z.elim
    | cont => obtain ⟨σ', H', _, z⟩ := q; exact z.elim
    | ret u =>
      obtain ⟨v, σ', H', I', r, x, f, hf, hp, z⟩ := q
      exact ⟨v, σ', _, pen_close I' hf hp, r, z⟩
end
section
variable {T : Tx} {N : List Str} {sc : Scope} {k : Nat} {X : Cx} {σ : L2.St} {B H : Hp} {a b e o : Expr} {es : List Expr} {pos : Pos} {D : Ends} {p : Addr}
theorem ja_mod {m n : Int} (hl : 0 < n) (ha : JR X a σ B (.d (.int m))) (hb : JR X b σ B (.d (.int n))) : JA X (.BinOp a .Mod b pos) σ B (.d (.int (m % n))) :=
  j_op op_mod ha hb fun H1 v H2 u H3 _ s2 s3 p2 p3 => ⟨m, n, Im.isInt p2, Im.isInt p3, hl, s2.trans s3, .int _⟩
theorem ja_fdiv {m n : Int} (hl : 0 < n ∧ n < 1073741824) (ha : JR X a σ B (.d (.int m))) (hb : JR X b σ B (.d (.int n))) : JA X (.BinOp a .FloorDiv b pos) σ B (.d (.int (m / n))) :=
  j_op op_fdiv ha hb fun H1 v H2 u H3 _ s2 s3 p2 p3 => ⟨m, n, Im.isInt p2, Im.isInt p3, hl, s2.trans s3, .int _⟩
theorem ja_pow {m n : Int} (hl : CPow m n) (ha : JR X a σ B (.d (.int m))) (hb : JR X b σ B (.d (.int n))) : JA X (.BinOp a .Pow b pos) σ B (.d (.int (m ^ n.toNat))) :=
  j_op op_pow ha hb fun H1 v H2 u H3 _ s2 s3 p2 p3 => ⟨m, n, Im.isInt p2, Im.isInt p3, hl, s2.trans s3, .int _⟩
/-- xs[k] = a value, of a list -/
theorem js_setL {P : Hp → V → Hp → Prop} {p' : Pos} {xs : List V} {i : Int} {j : Nat} (hB : Same B H) (hv : EX X e σ B P) (ho : JV X o σ B (.ref p)) (hi : JR X a σ B (.d (.int i))) (hp : H p = some (.lst xs)) (hj : ixN xs.length i = some j)
    (q : ∀ v H1 H2, Same H H1 → P H v H1 → Same H1 H2 → D.nx σ (upd H2 p (.lst (xs.set j v))))
    (hc : X.env.scope = sc) (hs : swapsWithSole [.Subscript o a p'] e pos.line X.env = pure false := by rfl) (hw : swappedStores [.Subscript o a p'] e { X.env with scope := sc } = pure none := by rfl) (h1 : (assignEach [.Subscript o a p'] X.env).map (·.2) = [assign (.Subscript o a p') X.env] := by rfl)
    (ha : ∀ v, assign (.Subscript o a p') X.env v = (do
      let ov ← holding [v] (eval o X.env)
      let iv ← holding [v, ov] (eval a X.env)
      standAt p'
      holding [v, ov, iv] (setItem ov iv v)
      release [v, ov, iv] []) := by intro _; rfl) :
    jS X (.Assign [.Subscript o a p'] e pos) D σ H :=
  js_of (ps_asg pe_j (pg_sub pe_j pe_j set_list ha) hs ((sw_scope hc).trans hw) h1) (je_mono (hv H hB) fun v H1 ⟨s1, p1⟩ => je_mono (ho H1 (hB.trans s1)) fun z H2 ⟨s2, e2⟩ => je_mono (hi H2 ((hB.trans s1).trans s2)) fun y H3 ⟨s3, p3⟩ =>
    ⟨p, xs, i, j, e2, Im.isInt p3, s3 _ _ (s2 _ _ (s1 _ _ hp)), hj, q v H1 H3 s1 p1 (s2.trans s3)⟩)
/-- the list that stands there -/
theorem ls_pen {x f : Int} : Ls (upd H p (.lst [.int x, .int f])) p [.int x, .int f] := ⟨_, upd_same, .cons (.int x) (.cons (.int f) .nil)⟩
end
end Mead

set_option maxRecDepth 100000
set_option maxHeartbeats 4000000
namespace Mead
open PySem PySem.Spec PyProof.Rows L2
local macro_rules | `(tactic| walk_at "hl") => `(tactic| first | assumption | omega | (simp only [List.length_map]; omega) | exact Nat.le_of_ble_eq_true rfl | (simp only [List.length_map, List.length_mapIdx, List.length_range]; omega) | (simp only [List.length_mapIdx, List.length_map] at *; omega) | fail)
local macro_rules | `(tactic| walk_at "pc") => `(tactic| first | assumption | exact Nat.le_refl _ | omega)
local macro_rules | `(tactic| walk_at "sh") => `(tactic| first | exact sh_int _ | exact sh_bool _ | exact sh_none | exact sh_eP (by decide) _ | exact sh_eR (by decide) _ | exact sh_eL (by decide) _ | exact sh_eM (by decide) _ | exact sh_eC (by decide) _ | exact sh_eCs (by decide) _ | exact (sh_lst (n := 59) (sh_map fun _ => sh_eP (by decide) _)) | exact (sh_lst (n := 59) (sh_map fun _ => sh_eC (by decide) _)) | exact (sh_lst (n := 59) (sh_map fun _ => sh_eL (by decide) _)) | exact (sh_lst (n := 59) (sh_map fun _ => sh_int _)) | exact (sh_lst (n := 59) sh_nil) | exact (sh_tup (n := 59) sh_nil) | exact sh_tup (n := 59) (sh_cons (sh_int _) (sh_cons (sh_int _) sh_nil)) | exact sh_lst (n := 59) (sh_map fun _ => sh_tup (n := 58) (sh_cons (sh_int _) (sh_cons (sh_int _) sh_nil))) | fail)
local macro_rules | `(tactic| walk_at "al") => `(tactic| first | rfl | simp [PySem.W.alike, PySem.W.alikeAll, eP] | fail)
local macro_rules | `(tactic| walk_at "nn") => `(tactic| intro z; cases z)
section
variable {T : Tx} (h : Top T)
include h
def sp_draw : Sp := fun vs H Q _ => ∃ (p : Addr) (n : Int), vs = [.ref p, .int n] ∧ H p = some (penO p) ∧ 0 < n ∧ n < 1000 ∧ ∀ r H', Same H H' → 0 ≤ r → r < n → Q (.int r) H'
omit h in
theorem same_pen {H H1 : Hp} {p : Addr} (hp : H p = some (penO p)) (h : ∀ b o, b ≠ p → H b = some o → H1 b = some o) : Same H (upd H1 p (penO p)) := fun b o e => by
  by_cases hb : b = p
  · subst hb; rw [upd_same, ← hp]; exact e
  · rw [upd_ne hb]; exact h b o hb e
omit h in
theorem emod_rng {a n : Int} (h : 0 < n) : 0 ≤ a % n ∧ a % n < n := ⟨Int.emod_nonneg _ (by omega), Int.emod_lt_of_pos _ h⟩
theorem fn__law_draw : Fn T "_law_draw" 2 sp_draw := by
  refine fn_mk h.d__law_draw sc__law_draw (fun vs H Q E ⟨_, _, e, _⟩ => by subst e; rfl) (fun _ _ _ _ _ _ us hl => match us, hl with | [_, _], _ => rfl) fun X c vs H Q E ⟨p, n, e, hp, n0, n1, hQ⟩ => ?_
  subst e
  have b := c.toBCx
  refine jss_penClose (p := p) (nx := fun _ _ => False) (fun _ _ z => z) (jss_penOpen hp fun x f hf => ?_)
  have hn : Im (upd H p (.lst [.int x, .int f])) (.int n) (.int n) := .int n
  have l0 : Ls (upd H p (.lst [.int x, .int f])) p (([x, f] : List Int).map .int) := ls_pen
  have k0 : ∀ b o, b ≠ p → H b = some o → upd H p (.lst [.int x, .int f]) b = some o := fun b o hb e => by rw [upd_ne hb]; exact e
  refine jss_cons (js_if (jt_eq (r := .d _) (q := .d _) b (ja_ixLm (f := PyData.int) 0 (jr_var (r := .l _) (i := 0) b rfl (by decide +kernel) rfl (⟨_, rfl, l0⟩)) (ja_int (i := 1)) (by simp)) (ja_int (i := 1)) (by walk_at "sh") (by walk_at "sh")) rfl1 (fun _ H1 s1 => ?_) fun _ H1 s1 => jss_nil ?_)
  · have b := b
    refine jss_cons (js_set c (i := 2) rfl (by decide +kernel) (ja_mod n0 (ja_ixLm (f := PyData.int) 0 (jr_var (r := .l _) (i := 0) b rfl (by decide +kernel) rfl (⟨_, rfl, (l0.up s1)⟩)) (ja_int (i := 0)) (by simp)) (jr_var (r := .d _) (i := 1) b rfl (by decide +kernel) rfl (hn.up s1))) rfl1 fun v H2 s2 q => ?_)
    have e := Im.isInt q
    subst e
    have hp2 : H2 p = some (.lst [.int x, .int f]) := s2 _ _ (s1 _ _ upd_same)
    refine jss_cons (js_setL (j := 0) (i := 0) rfl1 (ja_fdiv ⟨n0, by omega⟩ (ja_ixLm (f := PyData.int) 0 (jr_var (r := .l _) (i := 0) b rfl (by decide +kernel) rfl (⟨_, rfl, ((l0.up s1).up s2)⟩)) (ja_int (i := 0)) (by simp)) (jr_var (r := .d _) (i := 1) b rfl (by decide +kernel) rfl ((hn.up s1).up s2))) (jv_var (i := 0) b rfl (by decide +kernel) rfl) ja_int hp2 rfl (fun v H3 H4 s3 q3 s4 => ?_) c.hs)
    have e := Im.isInt q3
    subst e
    refine jss_one (js_ret (jv_var (v := .int (x % n)) (i := 2) b rfl (by decide +kernel) rfl) rfl1 fun v H5 s5 e => ?_)
    subst e
    have r := emod_rng (a := x) n0
    exact ⟨_, f, hf, s5 _ _ upd_same, hQ _ _ (same_pen hp fun b o hb e => s5 _ _ (by rw [upd_ne hb]; exact s4 _ _ (s3 _ _ (s2 _ _ (s1 _ _ (k0 b o hb e)))))) r.1 r.2⟩
  · have b := b
    have hp1 : H1 p = some (.lst [.int x, .int f]) := s1 _ _ upd_same
    have r1 := emod_rng (a := x) (n := 2147483629) (by decide)
    refine jss_cons (js_setL (j := 0) (i := 0) rfl1 (ja_mod (n := 2147483629) (by decide) (ja_add (ja_mul (.inr ⟨by decide, by decide⟩) (ja_mod (n := 2147483629) (by decide) (ja_ixLm (f := PyData.int) 0 (jr_var (r := .l _) (i := 0) b rfl (by decide +kernel) rfl (⟨_, rfl, (l0.up s1)⟩)) (ja_int (i := 0)) (by simp)) ja_int) ja_int) ja_int) ja_int) (jv_var (i := 0) b rfl (by decide +kernel) rfl) ja_int hp1 rfl (fun v H3 H4 s3 q3 s4 => ?_) c.hs)
    have e := Im.isInt q3
    subst e
    generalize hy : (([x, f].getD (0 : Int).toNat 0) % 2147483629 * 48271 + 11) % 2147483629 = y at q3
    have ry : 0 ≤ y ∧ y < 2147483629 := by rw [← hy]; exact emod_rng (by decide)
    have l4 : Ls (upd H4 p (.lst [.int y, .int f])) p (([y, f] : List Int).map .int) := ls_pen
    refine jss_one (js_ret (ja_mod n0 (ja_fdiv (n := 8) (by decide) (ja_mod (n := 2147483647) (by decide) (ja_add (ja_mul (by first | exact .inl ⟨by simp; omega, by simp; omega⟩ | exact .inl ⟨by decide, by decide⟩) (ja_ixLm (f := PyData.int) 0 (jr_var (r := .l _) (i := 0) b rfl (by decide +kernel) rfl (⟨_, rfl, l4⟩)) (ja_int (i := 0)) (by simp)) (ja_ixLm (f := PyData.int) 0 (jr_var (r := .l _) (i := 0) b rfl (by decide +kernel) rfl (⟨_, rfl, l4⟩)) (ja_int (i := 0)) (by simp))) (ja_mul (by first | exact .inl ⟨by simp; omega, by simp; omega⟩ | exact .inl ⟨by decide, by decide⟩) (ja_int (i := 40692)) (ja_ixLm (f := PyData.int) 0 (jr_var (r := .l _) (i := 0) b rfl (by decide +kernel) rfl (⟨_, rfl, l4⟩)) (ja_int (i := 0)) (by simp)))) ja_int) ja_int) (jr_var (r := .d _) (i := 1) b rfl (by decide +kernel) rfl (Im.int n))) rfl1 fun v H5 s5 q5 => ?_)
    have e := Im.isInt q5
    subst e
    have r := emod_rng (n := n) (a := ([y, f].getD (0 : Int).toNat 0 * [y, f].getD (0 : Int).toNat 0 + 40692 * [y, f].getD (0 : Int).toNat 0) % 2147483647 / 8) n0
    exact ⟨_, f, hf, s5 _ _ upd_same, hQ _ _ (same_pen hp fun b o hb e => s5 _ _ (by rw [upd_ne hb]; exact s4 _ _ (s3 _ _ (s1 _ _ (k0 b o hb e))))) r.1 r.2⟩
end
end Mead

set_option maxRecDepth 100000
set_option maxHeartbeats 4000000
/-! values that are drawn: numbers of a kind -/
namespace Mead
open PySem PySem.Spec PyProof.Rows L2
/-- a number of the kind S -/
abbrev EI (X : Cx) (e : Expr) (σ : L2.St) (B : Hp) (S : Int → Prop) : Prop := EX X e σ B fun _ v _ => ∃ i, v = .int i ∧ S i
def JIs (X : Cx) (es : List Expr) (σ : L2.St) (B : Hp) (S : Int → Prop) : Prop := ∀ H1, Same B H1 → jA X es σ H1 fun vs H2 => Same H1 H2 ∧ vs.length = es.length ∧ ∀ x ∈ vs, ∃ i, x = .int i ∧ S i
section
variable {T : Tx} {N : List Str} {sc : Scope} {k : Nat} {X : Cx} {σ : L2.St} {B H : Hp} {a b e o : Expr} {es : List Expr} {pos : Pos} {D : Ends} {p : Addr} {S Sa Sb : Int → Prop}
theorem EI.imp {S' : Int → Prop} (h : EI X e σ B S) (k : ∀ i, S i → S' i) : EI X e σ B S' := EX.imp h fun _ _ _ ⟨i, e, q⟩ => ⟨i, e, k i q⟩
theorem ei_of {i : Int} (h : JR X e σ B (.d (.int i))) (hs : S i) : EI X e σ B S := EX.imp h fun _ _ _ q => ⟨i, Im.isInt q, hs⟩
theorem ei_op {g : Int → Int → Int} {op : Operator} (ho : OpR X (binaryOp op) (rI0 fun i j => .int (g i j))) (ha : EI X a σ B Sa) (hb : EI X b σ B Sb) (hS : ∀ i j, Sa i → Sb j → S (g i j)) : EI X (.BinOp a op b pos) σ B S :=
  j_op ho ha hb fun H1 v H2 u H3 _ s2 s3 ⟨i, e1, q1⟩ ⟨j, e2, q2⟩ => ⟨i, j, e1, e2, s2.trans s3, _, rfl, hS i j q1 q2⟩
theorem ei_add (ha : EI X a σ B Sa) (hb : EI X b σ B Sb) (hS : ∀ i j, Sa i → Sb j → S (i + j)) : EI X (.BinOp a .Add b pos) σ B S := ei_op op_add ha hb hS
theorem ei_sub (ha : EI X a σ B Sa) (hb : EI X b σ B Sb) (hS : ∀ i j, Sa i → Sb j → S (i - j)) : EI X (.BinOp a .Sub b pos) σ B S := ei_op op_sub ha hb hS
theorem jis_nil : JIs X [] σ B S := fun H1 s => ja_of pa_nil ⟨Same.refl H1, rfl, fun x hx => by cases hx⟩
theorem jis_cons (h : EI X e σ B S) (hr : JIs X es σ B S) (hs : starEach (e :: es) X.env = (false, eval e X.env) :: starEach es X.env := by rfl) : JIs X (e :: es) σ B S := fun H1 s =>
  ja_of (pa_cons pe_j pa_j hs) (je_mono (h H1 s) fun v H2 ⟨s2, i, e, q⟩ => ja_mono (hr H2 (s.trans s2)) fun vs H3 ⟨s3, l3, q3⟩ => ⟨s2.trans s3, by rw [List.length_cons, List.length_cons, l3], fun x hx => by
    rcases List.mem_cons.mp hx with rfl | hx
    · exact ⟨i, e, q⟩
    · exact q3 x hx⟩)
/-- a sequence to be read -/
def SqR (H : Hp) (q : Addr) (xs : List V) : Prop := Rd H q (.lst xs) ∨ Rd H q (.tup xs)
theorem SqR.up {H H' : Hp} {q : Addr} {xs : List V} (h : SqR H q xs) (s : Same H H') : SqR H' q xs := h.elim (fun z => .inl (rd_up z s)) fun z => .inr (rd_up z s)
theorem at_nn {xs : List V} {i : Int} (h : 0 ≤ i) (h2 : i < xs.length) : ∃ v, atI xs i = some v ∧ v ∈ xs := by
  have hi : i.toNat < xs.length := by omega
  refine ⟨xs[i.toNat], ?_, List.getElem_mem hi⟩
  unfold atI ixN
  rw [if_pos h, if_pos h2]
  simp [hi]
theorem ex_ixMem {q : Addr} {xs : List V} (ha : JV X a σ B (.ref q)) (hb : EI X b σ B fun r => 0 ≤ r ∧ r < xs.length) (hq : SqR B q xs) (hp : PlainIx b := by exact fun _ _ => rfl) : EX X (.Subscript a b pos) σ B fun _ v _ => v ∈ xs := by
  rcases hq with hq | hq
  · exact fun H1 s => je_of (pe_ix ix_list pe_j pe_j hp) (je_mono (ha H1 s) fun v H2 ⟨s2, e2⟩ => je_mono (hb H2 (s.trans s2)) fun u H3 ⟨s3, r, e3, r0, r1⟩ => by
      obtain ⟨z, q1, q2⟩ := at_nn r0 r1
      exact ⟨q, xs, r, z, e2, e3, .inl (rd_up hq ((s.trans s2).trans s3)), q1, s2.trans s3, q2⟩)
  · exact fun H1 s => je_of (pe_ix ix_tup pe_j pe_j hp) (je_mono (ha H1 s) fun v H2 ⟨s2, e2⟩ => je_mono (hb H2 (s.trans s2)) fun u H3 ⟨s3, r, e3, r0, r1⟩ => by
      obtain ⟨z, q1, q2⟩ := at_nn r0 r1
      exact ⟨q, xs, r, z, e2, e3, .inl (rd_up hq ((s.trans s2).trans s3)), q1, s2.trans s3, q2⟩)
theorem ja_lenR (c : BCx T N sc k X) {pp : Pos} {q : Addr} {xs : List V} (hg : glo sc "len" = true) (hm : T.mg "len" = none) (h : JV X e σ B (.ref q)) (hq : SqR B q xs) (hs : starEach [e] X.env = (false, eval e X.env) :: starEach [] X.env := by rfl) : JA X (.Call (.Name "len" pp) [e] [] pos) σ B (.d (.int xs.length)) := fun H1 s =>
  je_of (pe_callB call_len_seq (c.gl hg) (by rw [c.mg]; exact hm) boot_len (pa_cons pe_j pa_nil hs) (glo_of hg).2.2 (glo_of hg).2.1 hs rfl) (je_mono (h H1 s) fun v H2 ⟨s2, e2⟩ => ⟨q, xs, by rw [e2], (hq.up (s.trans s2)).elim (fun z => .inl (.inl z)) fun z => .inr (.inl z), s2, .int _⟩)
/-- a list of such numbers -/
theorem ex_lstI (h : JIs X es σ B S) (hl : es.length ≤ 1000000 := by exact Nat.le_of_ble_eq_true rfl) : EX X (.List es pos) σ B fun _ v H => ∃ q xs, v = .ref q ∧ SqR H q xs ∧ xs.length = es.length ∧ ∀ x ∈ xs, ∃ i, x = .int i ∧ S i := fun H1 s =>
  je_of (pe_lst pa_j) (ja_mono (h H1 s) fun vs H2 ⟨s2, l2, p2⟩ => ⟨by rw [l2]; exact small_line hl, fun p hp => ⟨s2.trans (Same.new hp), p, vs, rfl, .inl (.inl upd_same), l2, p2⟩⟩)
end
end Mead

set_option maxRecDepth 100000
set_option maxHeartbeats 4000000
namespace Mead
open PySem PySem.Spec PyProof.Rows L2
local macro_rules | `(tactic| walk_at "hl") => `(tactic| first | assumption | omega | (simp only [List.length_map]; omega) | exact Nat.le_of_ble_eq_true rfl | (simp only [List.length_map, List.length_mapIdx, List.length_range]; omega) | (simp only [List.length_mapIdx, List.length_map] at *; omega) | fail)
local macro_rules | `(tactic| walk_at "pc") => `(tactic| first | assumption | exact Nat.le_refl _ | omega)
local macro_rules | `(tactic| walk_at "sh") => `(tactic| first | exact sh_int _ | exact sh_bool _ | exact sh_none | exact sh_eP (by decide) _ | exact sh_eR (by decide) _ | exact sh_eL (by decide) _ | exact sh_eM (by decide) _ | exact sh_eC (by decide) _ | exact sh_eCs (by decide) _ | exact (sh_lst (n := 59) (sh_map fun _ => sh_eP (by decide) _)) | exact (sh_lst (n := 59) (sh_map fun _ => sh_eC (by decide) _)) | exact (sh_lst (n := 59) (sh_map fun _ => sh_eL (by decide) _)) | exact (sh_lst (n := 59) (sh_map fun _ => sh_int _)) | exact (sh_lst (n := 59) sh_nil) | exact (sh_tup (n := 59) sh_nil) | exact sh_tup (n := 59) (sh_cons (sh_int _) (sh_cons (sh_int _) sh_nil)) | exact sh_lst (n := 59) (sh_map fun _ => sh_tup (n := 58) (sh_cons (sh_int _) (sh_cons (sh_int _) sh_nil))) | fail)
local macro_rules | `(tactic| walk_at "al") => `(tactic| first | rfl | simp [PySem.W.alike, PySem.W.alikeAll, eP] | fail)
local macro_rules | `(tactic| walk_at "nn") => `(tactic| intro z; cases z)
section
variable {T : Tx} (h : Top T)
include h
def sp_pick : Sp := fun vs H Q _ => ∃ (p q : Addr) (xs : List V), vs = [.ref p, .ref q] ∧ H p = some (penO p) ∧ SqR H q xs ∧ 0 < xs.length ∧ xs.length < 1000 ∧ ∀ v H', Same H H' → v ∈ xs → Q v H'
section
variable {N : List Str} {sc : Scope} {k : Nat} {X : Cx} {σ : L2.St} {B H : Hp} {a b e o : Expr} {es : List Expr} {pos : Pos} {D : Ends} {p : Addr}
theorem ei_draw (c : BCx T N sc k X) {pp : Pos} {n : Int} (hk : 2 ≤ k) (hg : glo sc "_law_draw" = true) (ho : JV X o σ B (.ref p)) (hp : B p = some (penO p)) (hn : JR X e σ B (.d (.int n))) (h0 : 0 < n) (h1 : n < 1000)
    (he : starEach [o, e] X.env = (false, eval o X.env) :: starEach [e] X.env := by rfl) (he2 : starEach [e] X.env = (false, eval e X.env) :: starEach [] X.env := by rfl) (hpl : (backTo pos (starEach [e] X.env)).any (·.1) = false := by rfl) : EI X (.Call (.Name "_law_draw" pp) [o, e] [] pos) σ B fun r => 0 ≤ r ∧ r < n :=
  j_callP c (fn__law_draw h) hk hg (jps_v ho (jps_d hn jps_nil he2) he) (fun H1 vs H2 E s s2 hv => by
    cases hv with
    | cons q1 hv => cases hv with
      | cons q2 hv =>
        cases hv
        exact ⟨p, n, by rw [q1, Im.isInt q2], s2 _ _ (s _ _ hp), h0, h1, fun r H' s3 r0 r1 => ⟨s2.trans s3, r, rfl, r0, r1⟩⟩) he hpl
end
theorem fn__law_pick : Fn T "_law_pick" 3 sp_pick := by
  refine fn_mk h.d__law_pick sc__law_pick (fun vs H Q E ⟨_, _, _, e, _⟩ => by subst e; rfl) (fun _ _ _ _ _ _ us hl => match us, hl with | [_, _], _ => rfl) fun X c vs H Q E ⟨p, q, xs, e, hp, hq, n0, n1, hQ⟩ => ?_
  subst e
  have b := c.toBCx
  exact jss_one (js_ret (ex_ixMem (jv_var (v := .ref q) (i := 1) b rfl (by decide +kernel) rfl) (ei_draw h b (by decide) (by decide +kernel) (jv_var (i := 0) b rfl (by decide +kernel) rfl) hp (ja_lenR b (by decide +kernel) h.f_len (jv_var (i := 1) b rfl (by decide +kernel) rfl) hq) (by omega) (by omega)) hq) rfl1 fun v H1 s1 hv => hQ v H1 s1 hv)
section
variable {N : List Str} {sc : Scope} {k : Nat} {X : Cx} {σ : L2.St} {B H : Hp} {a b e o : Expr} {es : List Expr} {pos : Pos} {D : Ends} {p : Addr} {S : Int → Prop}
theorem ei_pick (c : BCx T N sc k X) {pp lp : Pos} (hk : 3 ≤ k) (hg : glo sc "_law_pick" = true) (ho : JV X o σ B (.ref p)) (hp : B p = some (penO p)) (hn : JIs X es σ B S) (h0 : 0 < es.length := by decide) (h1 : es.length < 1000 := by decide)
    (he : starEach [o, .List es lp] X.env = (false, eval o X.env) :: starEach [.List es lp] X.env := by rfl) (he2 : starEach [.List es lp] X.env = (false, eval (.List es lp) X.env) :: starEach [] X.env := by rfl) (hpl : (backTo pos (starEach [.List es lp] X.env)).any (·.1) = false := by rfl) : EI X (.Call (.Name "_law_pick" pp) [o, .List es lp] [] pos) σ B S :=
  j_callP c (fn__law_pick h) hk hg (jps_v ho (jps_cons (P := fun v H => ∃ q xs, v = .ref q ∧ SqR H q xs ∧ xs.length = es.length ∧ ∀ x ∈ xs, ∃ i, x = .int i ∧ S i) (fun _ _ _ s ⟨q, xs, e1, e2, e3⟩ => ⟨q, xs, e1, e2.up s, e3⟩) (ex_lstI hn (by omega)) jps_nil he2) he) (fun H1 vs H2 E s s2 hv => by
    cases hv with
    | cons q1 hv => cases hv with
      | cons q2 hv =>
        cases hv
        obtain ⟨q, xs, e2, e3, e4, e5⟩ := q2
        exact ⟨p, q, xs, by rw [q1, e2], s2 _ _ (s _ _ hp), e3, by omega, by omega, fun r H' s3 hr => ⟨s2.trans s3, e5 r hr⟩⟩) he hpl
theorem ex_pickD (c : BCx T N sc k X) {pp : Pos} {ds : List PyData} (hk : 3 ≤ k) (hg : glo sc "_law_pick" = true) (ho : JV X o σ B (.ref p)) (hp : B p = some (penO p)) (hn : JR X e σ B (.d (.tuple ds))) (h0 : 0 < ds.length) (h1 : ds.length < 1000)
    (he : starEach [o, e] X.env = (false, eval o X.env) :: starEach [e] X.env := by rfl) (he2 : starEach [e] X.env = (false, eval e X.env) :: starEach [] X.env := by rfl) (hpl : (backTo pos (starEach [e] X.env)).any (·.1) = false := by rfl) : EX X (.Call (.Name "_law_pick" pp) [o, e] [] pos) σ B fun _ v H => ∃ d ∈ ds, Im H v d :=
  j_callP c (fn__law_pick h) hk hg (jps_v ho (jps_d hn jps_nil he2) he) (fun H1 vs H2 E s s2 hv => by
    cases hv with
    | cons q1 hv => cases hv with
      | cons q2 hv =>
        cases hv
        obtain ⟨q, xs, e2, e3, e4⟩ := Im.isTup q2
        have l := e4.len
        refine ⟨p, q, xs, by rw [q1, e2], s2 _ _ (s _ _ hp), .inr (.inl e3), by omega, by omega, fun r H' s3 hr => ⟨s2.trans s3, ?_⟩⟩
        obtain ⟨i, hi⟩ := List.mem_iff_getElem?.mp hr
        obtain ⟨d, w1, w2⟩ := e4.getV hi
        exact ⟨d, List.mem_of_getElem? w1, w2.up s3⟩) he hpl
end
end
end Mead

set_option maxRecDepth 100000
set_option maxHeartbeats 4000000
/-! walks over one of several lists -/
namespace Mead
open PySem PySem.Spec PyProof.Rows L2
theorem paired_r {α β : Type} {R : β → Prop} : ∀ {l : List α} {m : List β} {i : Nat} {b : β}, Paired (fun _ u => R u) l m → m[i]? = some b → R b
  | _, _, _, _, .nil, e => by simp at e
  | _, _, 0, _, .cons r _, e => by simp at e; subst e; exact r
  | _, _, i + 1, _, .cons _ t, e => paired_r (i := i) t (by simpa using e)
section
variable {T : Tx} {N : List Str} {sc : Scope} {k : Nat} {X : Cx} {σ σ1 σ2 : L2.St} {B H : Hp} {a b e : Expr} {es : List Expr} {st : Stmt} {sts body : List Stmt} {pos : Pos} {D : Ends} {x y d : PyData} {ds : List PyData}
theorem lc_readW0 (c : BCx T N sc k X) {α : Type} {as : List α} {enc : α → PyData} {p : α → Bool} {Pe : α → V → Hp → Prop} {tg iter elt : Expr} {ifs : List Expr} {scope : Scope} {own : List (Str × Nat)}
    (up : ∀ a v B1 B2, Same B1 B2 → Pe a v B1 → Pe a v B2) {wi : TI} (hw : ∀ H, Same B H → ∀ R : It → Hp → Prop, (∀ J B1 H1, Grow B H B1 H1 → Walk J (as.map enc).length (fun H' => Same B1 H') (fun i H' v H'' => Same H' H'' ∧ ∃ d, (as.map enc)[i]? = some d ∧ Im H'' v d) → R J H1) → wi σ H R) (hb : blkC N sc scope own = true) (hz : as.length ≤ 1000000)
    (turn : ∀ (i : Nat) (a : α) (v : V) (B2 : Hp), as[i]? = some a → Same B B2 → Im B2 v (enc a) → ∃ σ2, wipe σ2 (own.map (·.2)) = wipe σ (own.map (·.2)) ∧ ∀ X', BCx T N (relS scope sc) k X' → X'.fn = (fun z => scope.names.lookup z == some .cell) →
      TGT X' tg v (wipe σ (own.map (·.2))) B2 σ2 ∧ JIf X' ifs σ2 B2 (p a) ∧ (p a = true → EX X' elt σ2 B2 fun H1 u H2 => ∀ B3, Grow B2 H1 B3 H2 → Pe a u B3)) :
    ∀ H, Same B H → ∀ Q : VK, (∀ q acc H2, Same H H2 → H q = none → H2 q = some (.lst acc) → Paired (fun a u => Pe a u H2) (as.filter p) acc → Q (.ref q) H2) → tLc wi (bG X scope tg) (bT X scope ifs) (bE X scope elt) (own.map (·.2)) σ H Q := by
  have hbk : BlkOk X.N X.env.scope scope own := by
    rw [c.hN, c.hs]
    exact blkOk_by hb
  refine fun H s Q hQ => ?_
  have hX : ∀ {X'}, Blk X scope X' → BCx T N (relS scope sc) k X' ∧ X'.fn = (fun z => scope.names.lookup z == some .cell) := fun {X'} ⟨s, H, C, cl, fp, e⟩ => by
    subst e
    exact ⟨c.blk hbk.kind s H C cl fp, rfl⟩
  refine hw H s _ fun J B1 H1 g w D hD => ?_
  have hlen : (as.map enc).length = as.length := List.length_map ..
  rw [hlen] at w
  -- the base at turn i
  have nD : B1 D = none := g.ins.free hD
  refine lc_it (g := bG X scope tg) (tt := bT X scope ifs) (te := bE X scope elt) (vs := own.map (·.2)) (σ := σ) w (fun i H' => ∃ Bi acc, Same B1 Bi ∧ Same Bi H' ∧ Bi D = none ∧ H' D = some (.lst acc) ∧ Paired (fun a u => Pe a u Bi) ((as.take i).filter p) acc ∧ acc.length ≤ i ∧ Same H H')
    ⟨B1, [], Same.refl _, g.ins.trans (Same.new hD), nD, upd_same, .nil, Nat.le_refl _, g.up.trans (Same.new hD)⟩ (fun i H' _ ⟨Bi, acc, h1, h2, _⟩ => h1.trans h2) ?_ ?_
  · rintro i v H' H'' hi ⟨Bi, acc, h1, h2, h3, h4, h5, h6, h7⟩ ⟨s1, d, e1, e2⟩
    obtain ⟨a, ha, rfl⟩ : ∃ a, as[i]? = some a ∧ enc a = d := by
      rw [List.getElem?_map] at e1
      exact Option.map_eq_some_iff.mp e1
    have g2 := grow h2 s1
    have nD2 : gB Bi H' H'' D = none := g2.out D _ h3 h4 (fun xs z => by cases z)
    have h8 : H'' D = some (.lst acc) := s1 _ _ h4
    obtain ⟨σ2, e3, q⟩ := turn i a v _ ha (g.base.trans (h1.trans g2.base)) (e2.tk g2.tk)
    intro X' hX'
    refine (q X' (hX hX').1 (hX hX').2).1 H'' _ g2.ins ⟨e3, fun X2 hX2 => ?_⟩
    refine jif_mono ((q X2 (hX hX2).1 (hX hX2).2).2.1 H'' g2.ins) fun z H3 ⟨s3, ez⟩ => ?_
    rw [ez]
    cases hp : p a with
    | false =>
      refine iteF ⟨gB Bi H' H'', acc, h1.trans g2.base, g2.ins.trans s3, nD2, s3 _ _ h8, ?_, Nat.le_succ_of_le h6, h7.trans (s1.trans s3)⟩
      rw [take_at ha, List.filter_append, List.filter_cons, if_neg (by rw [hp]; decide)]
      rw [List.filter_nil, List.append_nil]
      exact paired_imp h5 fun a u hu => up _ _ _ _ g2.base hu
    | true =>
      refine iteT fun X3 hX3 => je_mono ((q X3 (hX hX3).1 (hX hX3).2).2.2 hp H3 (g2.ins.trans s3)) fun u H4 ⟨s4, pu⟩ => ?_
      have g4 := grow (g2.ins.trans s3) s4
      have nD4 : gB (gB Bi H' H'') H3 H4 D = none := g4.out D _ nD2 (s3 _ _ h8) (fun xs z => by cases z)
      have h9 : H4 D = some (.lst acc) := s4 _ _ (s3 _ _ h8)
      have hal : acc.length < 1000000 := by have := (List.getElem?_eq_some_iff.mp ha).1; omega
      refine ⟨acc, h9, Nat.lt_of_lt_of_le hal (by decide), gB (gB Bi H' H'') H3 H4, acc ++ [u], (h1.trans g2.base).trans g4.base, fun b o hb => ?_, nD4, upd_same, ?_, by simp; omega, fun b o hb => ?_⟩
      · rw [upd_ne (ne_of_none hb nD4)]
        exact g4.ins b o hb
      · rw [take_at ha, List.filter_append, List.filter_cons, if_pos (by rw [hp])]
        exact paired_app (paired_imp h5 fun a u hu => up _ _ _ _ (g2.base.trans g4.base) hu) (.cons (pu _ g4) .nil)
      · rw [upd_ne (fun z => by subst z; rw [g.up.free hD] at hb; cases hb)]
        exact s4 _ _ (s3 _ _ (s1 _ _ (h7 _ _ hb)))
  · rintro H' ⟨Bi, acc, h1, h2, h3, h4, h5, h6, h7⟩
    rw [List.take_length] at h5
    exact hQ D acc H' h7 (g.up.free hD) h4 (paired_imp h5 fun a u hu => up _ _ _ _ h2 hu)
/-- iter gives the data of one of the lists Ds -/
def SRCn (X : Cx) (tg iter : Expr) (σ : L2.St) (B : Hp) (Ds : List PyData → Prop) : Prop :=
  ∃ wi, PI X tg iter wi ∧ ∀ H, Same B H → ∀ R : It → Hp → Prop,
    (∀ ds, Ds ds → ∀ J B1 H1, Grow B H B1 H1 → Walk J ds.length (fun H' => Same B1 H') (fun i H' v H'' => Same H' H'' ∧ ∃ d, ds[i]? = some d ∧ Im H'' v d) → R J H1) → wi σ H R
theorem src_rangeN {tg : Expr} {S : Int → Prop} {p : Pos} (c : BCx T N sc k X) (hg : glo sc "range" = true) (hm : T.mg "range" = none) (h : EX X e σ B fun _ v _ => ∃ i, v = .int i ∧ S i) (hn : ∀ n, S n → 0 ≤ n ∧ n ≤ 1000000) (hs : starEach [e] X.env = [(false, eval e X.env)] := by rfl) :
    SRCn X tg (.Call (.Name "range" p) [e] [] pos) σ B (fun ds => ∃ n, S n ∧ ds = (List.range n.toNat).map fun i => .int (i : Nat)) := by
  refine ⟨_, pi_range1 (c.gl hg) (by rw [c.mg]; exact hm) (pa_cons pe_j pa_nil hs) hs, fun H s R hR => je_mono (h H s) fun v H1 ⟨s1, n, e, q⟩ => ?_⟩
  have hn := hn n q
  refine ⟨n, by rw [e], by omega, by omega, hR _ ⟨n, q, rfl⟩ _ _ H1 (grow s s1) ?_⟩
  have w := walk_range (lo := 0) (n := n.toNat)
  rw [List.length_map, List.length_range]
  exact w.mono (fun _ _ => trivial) fun i H' v H'' hi k ⟨e, hv⟩ => by
    subst e
    refine ⟨Same.refl _, .int (i : Nat), by simp [hi], ?_⟩
    have hv : v = V.int (0 + (i : Int)) := hv
    rw [hv, Int.zero_add]
    exact .int _
theorem j_lcN (c : BCx T N sc k X) {Pe : V → Hp → Prop} {tg iter elt : Expr} {scope : Scope} {own : List (Str × Nat)} {Ds : List PyData → Prop}
    (up : ∀ v B1 B2, Same B1 B2 → Pe v B1 → Pe v B2) (S : SRCn X tg iter σ B Ds) (hb : blkC N sc scope own = true) (hz : ∀ as, Ds as → as.length ≤ 1000000)
    (turn : ∀ (v : V) (B2 : Hp), Same B B2 → ∃ σ2, wipe σ2 (own.map (·.2)) = wipe σ (own.map (·.2)) ∧ ∀ X', BCx T N (relS scope sc) k X' → X'.fn = (fun z => scope.names.lookup z == some .cell) →
      TGT X' tg v (wipe σ (own.map (·.2))) B2 σ2 ∧ EX X' elt σ2 B2 fun H1 u H2 => ∀ B3, Grow B2 H1 B3 H2 → Pe u B3)
    (hf : ∀ z, foldedSetIterable iter X.env z = pure z := by intro _; rfl) :
    EX X (.ListComp elt [⟨tg, iter, [], 0⟩] scope pos) σ B fun H1 v H2 => ∃ q acc as, v = .ref q ∧ H1 q = none ∧ H2 q = some (.lst acc) ∧ Ds as ∧ acc.length = as.length ∧ ∀ u ∈ acc, Pe u H2 := by
  have hbk : BlkOk X.N X.env.scope scope own := by
    rw [c.hN, c.hs]
    exact blkOk_by hb
  obtain ⟨wi, hi, hw⟩ := S
  refine fun H s => je_of (pe_lc (own := own) (g := bG X scope tg) (tt := bT X scope []) (te := bE X scope elt)
    c.calm (by rw [c.hN]; exact c.nd) hi hbk (fun s H C cl fp => ⟨fun pins st σ _ v u Q I r h => h _ ⟨s, H, C, cl, fp, rfl⟩ pins st u I r⟩) (fun s H C cl fp => ⟨fun pins st σ _ Q I h => h _ ⟨s, H, C, cl, fp, rfl⟩ pins st I⟩)
    (fun s H C cl fp => ⟨fun pins st σ _ Q I h => h _ ⟨s, H, C, cl, fp, rfl⟩ pins st I⟩) hf) (hw H s _ fun ds hds J B1 H1 g w => ?_)
  have key := lc_readW0 (X := X) (B := B) (tg := tg) (iter := iter) (elt := elt) (ifs := []) (σ := σ) c (as := ds) (enc := fun d => d) (p := fun _ => true) (Pe := fun _ v H => Pe v H) (own := own) (scope := scope)
    (wi := fun _ H' R => ∀ J B1 H1, Grow B H' B1 H1 → Walk J (ds.map fun d => d).length (fun H' => Same B1 H') (fun i H' v H'' => Same H' H'' ∧ ∃ d, (ds.map fun d => d)[i]? = some d ∧ Im H'' v d) → R J H1)
    (fun _ => up) (fun H s R hR => hR) hb (hz ds hds) (fun i a v B2 _ s _ => by
      obtain ⟨σ2, w1, w2⟩ := turn v B2 s
      exact ⟨σ2, w1, fun X' c' f' => ⟨(w2 X' c' f').1, jif_nil, fun _ => (w2 X' c' f').2⟩⟩) H s
    (fun v H2 => Same H H2 ∧ ∃ q acc as, v = .ref q ∧ H q = none ∧ H2 q = some (.lst acc) ∧ Ds as ∧ acc.length = as.length ∧ ∀ u ∈ acc, Pe u H2) (fun q acc H2 s2 n e hp => by
      have hfl : ds.filter (fun _ => true) = ds := List.filter_eq_self.mpr fun _ _ => rfl
      rw [hfl] at hp
      exact ⟨s2, q, acc, ds, rfl, n, e, hds, (paired_len hp).symm, fun u hu => by
        obtain ⟨i, hi⟩ := List.mem_iff_getElem?.mp hu
        exact paired_r (R := fun u => Pe u H2) hp hi⟩)
  exact key J B1 H1 g (by rw [List.map_id']; exact w)
theorem ex_tupleN (c : BCx T N sc k X) {p : Pos} {P : List V → Hp → Prop} (up : ∀ vs H H', Same H H' → P vs H → P vs H') (hg : glo sc "tuple" = true) (hm : T.mg "tuple" = none) (h : EX X e σ B fun H1 v H2 => ∃ q acc, v = .ref q ∧ H2 q = some (.lst acc) ∧ P acc H2) (hs : starEach [e] X.env = (false, eval e X.env) :: starEach [] X.env := by rfl) :
    EX X (.Call (.Name "tuple" p) [e] [] pos) σ B fun H1 v H2 => ∃ q acc, v = .ref q ∧ H2 q = some (.tup acc) ∧ P acc H2 := fun H1 s =>
  je_of (pe_callTy call_tuple_of (c.gl hg) (by rw [c.mg]; exact hm) (by decide +kernel) (pa_cons pe_j pa_nil hs) (glo_of hg).2.2 (glo_of hg).2.1 hs rfl) (je_mono (h H1 s) fun v H2 ⟨s2, q, acc, e2, e3, e4⟩ => ⟨q, acc, by rw [e2], .inl ⟨SqL.of e3, fun l hl => ⟨s2.trans (Same.new hl), l, acc, rfl, upd_same, up _ _ _ (Same.new hl) e4⟩⟩⟩)
end
end Mead

set_option maxRecDepth 100000
set_option maxHeartbeats 4000000
namespace Mead
open PySem PySem.Spec PyProof.Rows L2
local macro_rules | `(tactic| walk_at "hl") => `(tactic| first | assumption | omega | (simp only [List.length_map]; omega) | exact Nat.le_of_ble_eq_true rfl | (simp only [List.length_map, List.length_mapIdx, List.length_range]; omega) | (simp only [List.length_mapIdx, List.length_map] at *; omega) | fail)
local macro_rules | `(tactic| walk_at "pc") => `(tactic| first | assumption | exact Nat.le_refl _ | omega)
local macro_rules | `(tactic| walk_at "sh") => `(tactic| first | exact sh_int _ | exact sh_bool _ | exact sh_none | exact sh_eP (by decide) _ | exact sh_eR (by decide) _ | exact sh_eL (by decide) _ | exact sh_eM (by decide) _ | exact sh_eC (by decide) _ | exact sh_eCs (by decide) _ | exact (sh_lst (n := 59) (sh_map fun _ => sh_eP (by decide) _)) | exact (sh_lst (n := 59) (sh_map fun _ => sh_eC (by decide) _)) | exact (sh_lst (n := 59) (sh_map fun _ => sh_eL (by decide) _)) | exact (sh_lst (n := 59) (sh_map fun _ => sh_int _)) | exact (sh_lst (n := 59) sh_nil) | exact (sh_tup (n := 59) sh_nil) | exact sh_tup (n := 59) (sh_cons (sh_int _) (sh_cons (sh_int _) sh_nil)) | exact sh_lst (n := 59) (sh_map fun _ => sh_tup (n := 58) (sh_cons (sh_int _) (sh_cons (sh_int _) sh_nil))) | fail)
local macro_rules | `(tactic| walk_at "al") => `(tactic| first | rfl | simp [PySem.W.alike, PySem.W.alikeAll, eP] | fail)
local macro_rules | `(tactic| walk_at "nn") => `(tactic| intro z; cases z)
section
variable {T : Tx} (h : Top T)
include h
def sp_custom : Sp := fun vs H Q _ => ∃ (p : Addr), vs = [.ref p] ∧ H p = some (penO p) ∧ ∀ v H' (cu : List Int), Same H H' → VCu cu → cu.length ≤ 4 → Im H' v (eR cu) → Q v H'
omit h in
theorem ints_of {xs : List V} {S : Int → Prop} (h : ∀ x ∈ xs, ∃ i, x = .int i ∧ S i) : ∃ is : List Int, xs = is.map V.int ∧ ∀ i ∈ is, S i := by
  induction xs with
  | nil => exact ⟨[], rfl, fun i hi => by cases hi⟩
  | cons x xs ih =>
    obtain ⟨i, e, q⟩ := h x List.mem_cons_self
    obtain ⟨is, e2, q2⟩ := ih fun y hy => h y (List.mem_cons_of_mem _ hy)
    exact ⟨i :: is, by rw [e, e2]; rfl, fun j hj => by
      rcases List.mem_cons.mp hj with rfl | hj
      · exact q
      · exact q2 j hj⟩
theorem fn__law_custom : Fn T "_law_custom" 4 sp_custom := by
  refine fn_mk h.d__law_custom sc__law_custom (fun vs H Q E ⟨_, e, _⟩ => by subst e; rfl) (fun _ _ _ _ _ _ us hl => match us, hl with | [_], _ => rfl) fun X c vs H Q E ⟨p, e, hp, hQ⟩ => ?_
  subst e
  have b := c.toBCx
  refine jss_one (js_ret (ex_tupleN (P := fun acc H2 => acc.length ≤ 4 ∧ 0 < acc.length ∧ ∀ u ∈ acc, ∃ i, u = .int i ∧ 1 ≤ i ∧ i ≤ 100) b (fun _ _ _ _ z => z) (by decide +kernel) h.f_tuple
    (EX.imp (j_lcN (Pe := fun v _ => ∃ i, v = .int i ∧ 1 ≤ i ∧ i ≤ 100) (own := [("_law_turn", 1)]) b (fun _ _ _ _ z => z)
      (src_rangeN (S := fun n => 1 ≤ n ∧ n ≤ 4) b (by decide +kernel) h.f_range (ei_add (ei_of (S := fun n => n = 1) ja_int rfl) (ei_draw h b (by decide) (by decide +kernel) (jv_var (i := 0) b rfl (by decide +kernel) rfl) hp ja_int (by decide) (by decide)) (fun i j e q => by omega)) (fun n q => by omega)) (by decide +kernel) (fun as ⟨n, q, e⟩ => by rw [e, List.length_map, List.length_range]; omega)
      (fun v B2 s2 => ⟨_, by rfl, fun X' c' f' => ⟨tgt_nameB (i := 1) c' rfl (by decide +kernel), EX.imp (ei_pick h (S := fun i => 1 ≤ i ∧ i ≤ 100) c' (by decide) (by decide +kernel) (jv_var (i := 0) c' rfl (by decide +kernel) rfl) (s2 _ _ hp)
        (jis_cons (ei_of ja_int (by decide)) (jis_cons (ei_of ja_int (by decide)) (jis_cons (ei_of ja_int (by decide)) (jis_cons (ei_of ja_int (by decide)) (jis_cons (ei_add (ei_of (S := fun n => n = 1) ja_int rfl) (ei_draw h c' (by decide) (by decide +kernel) (jv_var (i := 0) c' rfl (by decide +kernel) rfl) (s2 _ _ hp) ja_int (by decide) (by decide)) (fun i j e q => by omega)) jis_nil)))))) (fun _ _ _ q _ _ => q)⟩⟩))
      (fun H1 v H2 ⟨q, acc, as, e1, e2, e3, ⟨n, z, e4⟩, e5, e6⟩ => ⟨q, acc, e1, e3, by rw [e5, e4, List.length_map, List.length_range]; omega, by rw [e5, e4, List.length_map, List.length_range]; omega, e6⟩))) rfl1 fun v H1 s1 ⟨q, acc, e1, e2, e3, e4, e5⟩ => ?_)
  obtain ⟨is, e6, e7⟩ := ints_of (S := fun i => 1 ≤ i ∧ i ≤ 100) e5
  subst e6; subst e1
  rw [List.length_map] at e3 e4
  exact hQ _ _ is s1 ⟨⟨e4, by omega⟩, e7⟩ e3 (.tup e2 (ImA.ofInts is))
end
end Mead

set_option maxRecDepth 100000
set_option maxHeartbeats 4000000
/-! tuples of values, each told by its own word -/
namespace Mead
open PySem PySem.Spec PyProof.Rows L2
section
variable {T : Tx} {N : List Str} {sc : Scope} {k : Nat} {X : Cx} {σ σ1 σ2 : L2.St} {B H : Hp} {a b e : Expr} {es : List Expr} {st : Stmt} {sts body : List Stmt} {pos : Pos} {D : Ends} {x y d : PyData} {ds : List PyData}
theorem js_tupP (c : BCx T N sc k X) {tgs : List Expr} {kt k2 : Nat} {pt pt2 : Pos} {Ps : List (V → Hp → Prop)} {n : Nat} (h : JPs X es σ B Ps) (up : ∀ P ∈ Ps, Up P) (hB : Same B H) (hl : Ps.length = n) (hz : n ≤ 1000000) (q : ∀ vs H1, Same H H1 → Paired (fun v (P : V → Hp → Prop) => P v H1) vs Ps → jGs X tgs vs σ H1 D.nx)
    (hn : (assignEach tgs X.env).length = n := by rfl) (hst : (assignEach tgs X.env).findIdx? (·.1) = none := by rfl)
    (hs : swapsWithSole [.Tuple tgs kt pt] (.Tuple es k2 pt2) pos.line X.env = pure false := by rfl) (hw : swappedStores [.Tuple tgs kt pt] (.Tuple es k2 pt2) { X.env with scope := sc } = pure none := by rfl) (h1 : (assignEach [.Tuple tgs kt pt] X.env).map (·.2) = [assign (.Tuple tgs kt pt) X.env] := by rfl) :
    jS X (.Assign [.Tuple tgs kt pt] (.Tuple es k2 pt2) pos) D σ H :=
  js_of (ps_asg (pe_tup pa_j) (pg_tup c.calm pgs_j hn hst) hs ((sw_scope c.hs).trans hw) h1) (ja_mono (h H hB) fun vs H1 ⟨s, p⟩ => ⟨by rw [paired_len p, hl]; exact small_line hz, fun a ha => ⟨a, vs, rfl, SqT.of upd_same, by rw [paired_len p, hl], q vs _ (s.trans (Same.new ha)) (paired_upP up (Same.new ha) p)⟩⟩)
where
  paired_upP : ∀ {Ps : List (V → Hp → Prop)} {vs : List V} {H H' : Hp}, (∀ P ∈ Ps, Up P) → Same H H' → Paired (fun v (P : V → Hp → Prop) => P v H) vs Ps → Paired (fun v (P : V → Hp → Prop) => P v H') vs Ps
    | [], _, _, _, _, _, h => by cases h; exact .nil
    | P :: Ps, _, _, _, up, s, h => by
      cases h with
      | cons a r => exact .cons (up P List.mem_cons_self _ _ _ s a) (paired_upP (fun P hP => up P (List.mem_cons_of_mem _ hP)) s r)
theorem js_parP (c : BCx T N sc k X) {i j : Nat} {z w : Str} {px py pt : Pos} {kt k2 pt2} {P1 P2 : V → Hp → Prop} (hi : N[i]? = some z) (hj : N[j]? = some w) (hij : i ≠ j) (hx : loc sc z = true) (hy : loc sc w = true) (h : JPs X [a, b] σ B [P1, P2]) (hB : Same B H)
    (q : ∀ v u H1, Same H H1 → P1 v H1 → P2 u H1 → D.nx ((σ.set i (some v)).set j (some u)) H1) (hw : swappedStores [.Tuple [.Name z px, .Name w py] kt pt] (.Tuple [a, b] k2 pt2) { X.env with scope := sc } = pure (some [z, w]))
    (hs : swapsWithSole [.Tuple [.Name z px, .Name w py] kt pt] (.Tuple [a, b] k2 pt2) pos.line X.env = pure false := by rfl) : jS X (.Assign [.Tuple [.Name z px, .Name w py] kt pt] (.Tuple [a, b] k2 pt2) pos) D σ H :=
  js_of (ps_par c.calm (by rw [c.hN]; exact c.nd) (by rw [c.hN]; exact hi) (by rw [c.hN]; exact hj) hij (by rw [c.hs]; exact loc_of hx) (by rw [c.hs]; exact loc_of hy) pa_j ((sw_scope c.hs).trans hw) hs) (ja_mono (h H hB) fun vs H1 ⟨s, p⟩ => by
    cases p with
    | cons p1 p => cases p with
      | cons p2 p => cases p; exact ⟨_, _, rfl, q _ _ H1 s p1 p2⟩)
/-- a list of two that becomes a pen behind -/
theorem jss_penMade {Q : VK} (h : jSs X sts { nx := fun _ _ => False, rt := fun v H' => ∃ (p : Addr) (x f : Int), (f = 0 ∨ f = 1) ∧ H' p = some (.lst [.int x, .int f]) ∧ Q v (upd H' p (penO p)) } σ H) {nx' : L2.St → Hp → Prop} : jSs X sts { nx := nx', rt := Q } σ H := fun pins s I =>
  thn (h pins s I) fun o s' q => by
    cases o with
    | next => obtain ⟨σ', H', _, z⟩ := q; exact z.elim
    | brk => obtain ⟨σ', H', _, z⟩ := q; exact z.elim
    | cont => obtain ⟨σ', H', _, z⟩ := q; exact z.elim
    | ret u =>
      obtain ⟨v, σ', H', I', r, p, x, f, hf, hp, z⟩ := q
      exact ⟨v, σ', _, pen_close I' hf hp, r, z⟩
/-- a pair of drawn numbers -/
theorem ex_pairI {Sa Sb : Int → Prop} {z1 : Nat} (ha : EI X a σ B Sa) (hb : EI X b σ B Sb) (hs : starEach [a, b] X.env = (false, eval a X.env) :: starEach [b] X.env := by rfl) (hs2 : starEach [b] X.env = (false, eval b X.env) :: starEach [] X.env := by rfl) :
    EX X (.Tuple [a, b] z1 pos) σ B fun _ v H => ∃ p : Pl, Im H v (eP p) ∧ Sa p.1 ∧ Sb p.2 := fun H1 s =>
  je_of (pe_tup (pa_cons pe_j (pa_cons pe_j pa_nil hs2) hs)) (je_mono (ha H1 s) fun v H2 ⟨s2, i, e2, q2⟩ => je_mono (hb H2 (s.trans s2)) fun u H3 ⟨s3, j, e3, q3⟩ => ⟨by show (2 : Nat) ≤ sizeLine; decide, fun r hr => ⟨(s2.trans s3).trans (Same.new hr), (i, j), by
    subst e2; subst e3
    exact .tup upd_same (.cons (.int i) (.cons (.int j) .nil)), q2, q3⟩⟩)
theorem ims_of {α : Type} {xs : List V} {H : Hp} {f : α → PyData} {S : α → Prop} (h : ∀ x ∈ xs, ∃ i, Im H x (f i) ∧ S i) : ∃ is : List α, ImA H xs (is.map f) ∧ ∀ i ∈ is, S i := by
  induction xs with
  | nil => exact ⟨[], .nil, fun i hi => by cases hi⟩
  | cons x xs ih =>
    obtain ⟨i, e, q⟩ := h x List.mem_cons_self
    obtain ⟨is, e2, q2⟩ := ih fun y hy => h y (List.mem_cons_of_mem _ hy)
    exact ⟨i :: is, .cons e e2, fun j hj => by
      rcases List.mem_cons.mp hj with rfl | hj
      · exact q
      · exact q2 j hj⟩
end
end Mead

set_option maxRecDepth 100000
set_option maxHeartbeats 4000000
namespace Mead
open PySem PySem.Spec PyProof.Rows L2
local macro_rules | `(tactic| walk_at "hl") => `(tactic| first | assumption | omega | (simp only [List.length_map]; omega) | exact Nat.le_of_ble_eq_true rfl | (simp only [List.length_map, List.length_mapIdx, List.length_range]; omega) | (simp only [List.length_mapIdx, List.length_map] at *; omega) | fail)
local macro_rules | `(tactic| walk_at "pc") => `(tactic| first | assumption | exact Nat.le_refl _ | omega)
local macro_rules | `(tactic| walk_at "sh") => `(tactic| first | exact sh_int _ | exact sh_bool _ | exact sh_none | exact sh_eP (by decide) _ | exact sh_eR (by decide) _ | exact sh_eL (by decide) _ | exact sh_eM (by decide) _ | exact sh_eC (by decide) _ | exact sh_eCs (by decide) _ | exact (sh_lst (n := 59) (sh_map fun _ => sh_eP (by decide) _)) | exact (sh_lst (n := 59) (sh_map fun _ => sh_eC (by decide) _)) | exact (sh_lst (n := 59) (sh_map fun _ => sh_eL (by decide) _)) | exact (sh_lst (n := 59) (sh_map fun _ => sh_int _)) | exact (sh_lst (n := 59) sh_nil) | exact (sh_tup (n := 59) sh_nil) | exact sh_tup (n := 59) (sh_cons (sh_int _) (sh_cons (sh_int _) sh_nil)) | exact sh_lst (n := 59) (sh_map fun _ => sh_tup (n := 58) (sh_cons (sh_int _) (sh_cons (sh_int _) sh_nil))) | fail)
local macro_rules | `(tactic| walk_at "al") => `(tactic| first | rfl | simp [PySem.W.alike, PySem.W.alikeAll, eP] | fail)
local macro_rules | `(tactic| walk_at "nn") => `(tactic| intro z; cases z)
section
variable {T : Tx} (h : Top T)
include h
def sp_houses : Sp := fun vs H Q _ => ∃ (p : Addr), vs = [.ref p] ∧ H p = some (penO p) ∧ ∀ v H' (hs : List Pl), Same H H' → VHs hs → Im H' v (eHs hs) → Q v H'
theorem fn__law_houses : Fn T "_law_houses" 3 sp_houses := by
  refine fn_mk h.d__law_houses sc__law_houses (fun vs H Q E ⟨_, e, _⟩ => by subst e; rfl) (fun _ _ _ _ _ _ us hl => match us, hl with | [_], _ => rfl) fun X c vs H Q E ⟨p, e, hp, hQ⟩ => ?_
  subst e
  have b := c.toBCx
  have one : ∀ {sc : Scope} {X' : Cx} {N : List Str} {σ : L2.St} {B2 : Hp} {pp pp2 pos pos2 pos3 pos4 pos5 : Pos} {k2 : Nat}, True := trivial
  refine jss_one (js_ret (ex_tupleN (P := fun acc H2 => acc.length = 4 ∧ ∀ u ∈ acc, ∃ i, Im H2 u (eP i) ∧ (-3 ≤ i.1 ∧ i.1 ≤ 5) ∧ -3 ≤ i.2 ∧ i.2 ≤ 5) b (fun _ _ _ s ⟨z1, z2⟩ => ⟨z1, fun u hu => let ⟨i, w1, w2⟩ := z2 u hu; ⟨i, w1.up s, w2⟩⟩) (by decide +kernel) h.f_tuple
    (EX.imp (j_lcN (Pe := fun v H2 => ∃ i, Im H2 v (eP i) ∧ (-3 ≤ i.1 ∧ i.1 ≤ 5) ∧ -3 ≤ i.2 ∧ i.2 ≤ 5) (own := [("_law_holder", 1)]) b (fun _ _ _ s ⟨i, w1, w2⟩ => ⟨i, w1.up s, w2⟩)
      (src_rangeN (S := fun n => n = 4) b (by decide +kernel) h.f_range (ei_of ja_int rfl) (fun n q => by omega)) (by decide +kernel) (fun as ⟨n, q, e⟩ => by rw [e, List.length_map, List.length_range]; omega)
      (fun v B2 s2 => ⟨_, by rfl, fun X' c' f' => ⟨tgt_nameB (i := 1) c' rfl (by decide +kernel), EX.imp (ex_pairI
        (ei_sub (S := fun i => -3 ≤ i ∧ i ≤ 5) (ei_draw h c' (by decide) (by decide +kernel) (jv_var (i := 0) c' rfl (by decide +kernel) rfl) (s2 _ _ hp) ja_int (by decide) (by decide)) (ei_of (S := fun n => n = 3) ja_int rfl) (fun i j q e => by omega))
        (ei_sub (S := fun i => -3 ≤ i ∧ i ≤ 5) (ei_draw h c' (by decide) (by decide +kernel) (jv_var (i := 0) c' rfl (by decide +kernel) rfl) (s2 _ _ hp) ja_int (by decide) (by decide)) (ei_of (S := fun n => n = 3) ja_int rfl) (fun i j q e => by omega)))
        (fun _ _ _ ⟨i, q1, q2⟩ _ g => ⟨i, q1.tk g.tk, q2⟩)⟩⟩))
      (fun H1 v H2 ⟨q, acc, as, e1, e2, e3, ⟨n, z, e4⟩, e5, e6⟩ => ⟨q, acc, e1, e3, by rw [e5, e4, List.length_map, List.length_range]; omega, e6⟩))) rfl1 fun v H1 s1 ⟨q, acc, e1, e2, e3, e5⟩ => ?_)
  obtain ⟨is, e6, e7⟩ := ims_of (S := fun i : Pl => (-3 ≤ i.1 ∧ i.1 ≤ 5) ∧ -3 ≤ i.2 ∧ i.2 ≤ 5) e5
  subst e1
  have l := e6.len
  rw [List.length_map] at l
  exact hQ _ _ is s1 ⟨by omega, fun i hi => by have := e7 i hi; omega⟩ (.tup e2 e6)
end
end Mead

set_option maxRecDepth 100000
set_option maxHeartbeats 4000000
namespace Mead
open PySem PySem.Spec PyProof.Rows L2
local macro_rules | `(tactic| walk_at "hl") => `(tactic| first | assumption | omega | (simp only [List.length_map]; omega) | exact Nat.le_of_ble_eq_true rfl | (simp only [List.length_map, List.length_mapIdx, List.length_range]; omega) | (simp only [List.length_mapIdx, List.length_map] at *; omega) | fail)
local macro_rules | `(tactic| walk_at "pc") => `(tactic| first | assumption | exact Nat.le_refl _ | omega)
local macro_rules | `(tactic| walk_at "sh") => `(tactic| first | exact sh_int _ | exact sh_bool _ | exact sh_none | exact sh_eP (by decide) _ | exact sh_eR (by decide) _ | exact sh_eL (by decide) _ | exact sh_eM (by decide) _ | exact sh_eC (by decide) _ | exact sh_eCs (by decide) _ | exact (sh_lst (n := 59) (sh_map fun _ => sh_eP (by decide) _)) | exact (sh_lst (n := 59) (sh_map fun _ => sh_eC (by decide) _)) | exact (sh_lst (n := 59) (sh_map fun _ => sh_eL (by decide) _)) | exact (sh_lst (n := 59) (sh_map fun _ => sh_int _)) | exact (sh_lst (n := 59) sh_nil) | exact (sh_tup (n := 59) sh_nil) | exact sh_tup (n := 59) (sh_cons (sh_int _) (sh_cons (sh_int _) sh_nil)) | exact sh_lst (n := 59) (sh_map fun _ => sh_tup (n := 58) (sh_cons (sh_int _) (sh_cons (sh_int _) sh_nil))) | fail)
local macro_rules | `(tactic| walk_at "al") => `(tactic| first | rfl | simp [PySem.W.alike, PySem.W.alikeAll, eP] | fail)
local macro_rules | `(tactic| walk_at "nn") => `(tactic| intro z; cases z)
section
variable {T : Tx} (h : Top T)
include h
def sp_cell : Sp := fun vs H Q _ => ∃ (p : Addr) (is : List Int) (j : Int), vs = [.ref p, .int j] ∧ Rd H p (.lst (is.map V.int)) ∧ 0 ≤ j ∧ ∀ i H', Same H H' → Q (.int i) H'
theorem fn__law_cell : Fn T "_law_cell" 2 sp_cell := by
  refine fn_mk h.d__law_cell sc__law_cell (fun vs H Q E ⟨_, _, _, e, _⟩ => by subst e; rfl) (fun _ _ _ _ _ _ us hl => match us, hl with | [_, _], _ => rfl) fun X c vs H Q E ⟨p, is, j, e, hp, j0, hQ⟩ => ?_
  subst e
  have b := c.toBCx
  have hj : Im H (.int j) (.int j) := .int j
  refine jss_cons (js_if (jt_cmp cm_lt (jr_var (r := .d _) (i := 1) b rfl (by decide +kernel) rfl hj) (ja_lenR b (by decide +kernel) h.f_len (jv_var (i := 0) b rfl (by decide +kernel) rfl) (.inl hp))) rfl1 (fun hc H1 s1 => ?_) fun hc H1 s1 => jss_nil (jss_one (js_ret (ja_int (i := 0)) rfl1 fun v H2 s2 q => ?_)))
  · have hc := of_decide_eq_true hc
    refine jss_one (js_ret (ex_ixMem (xs := is.map V.int) (jv_var (i := 0) b rfl (by decide +kernel) rfl) (ei_of (S := fun r => 0 ≤ r ∧ r < (is.map V.int).length) (jr_var (r := .d _) (i := 1) b rfl (by decide +kernel) rfl hj) ⟨j0, hc⟩) (.inl hp)) s1 fun v H2 s2 hv => ?_)
    obtain ⟨i, _, e⟩ := List.mem_map.mp hv
    subst e
    exact hQ i _ (s1.trans s2)
  · have e := Im.isInt q
    subst e
    exact hQ 0 _ (s1.trans s2)
omit h in
theorem ima2 {H : Hp} {vs : List V} {d1 d2 : PyData} (h : ImA H vs [d1, d2]) : ∃ v1 v2, vs = [v1, v2] ∧ Im H v1 d1 ∧ Im H v2 d2 := by
  cases h with
  | cons a h => cases h with
    | cons b h => cases h; exact ⟨_, _, rfl, a, b⟩
def sp_pen : Sp := fun vs H Q _ => ∃ i, vs = [.int i] ∧ ∀ p H', Same H H' → H p = none → H' p = some (penO p) → Q (.ref p) H'
theorem fn__law_pen : Fn T "_law_pen" 2 sp_pen := by
  refine fn_mk h.d__law_pen sc__law_pen (fun vs H Q E ⟨_, e, _⟩ => by subst e; rfl) (fun _ _ _ _ _ _ us hl => match us, hl with | [_], _ => rfl) fun X c vs H Q E ⟨i, e, hQ⟩ => ?_
  subst e
  have b := c.toBCx
  have hj : Im H (.int i) (.int i) := .int i
  refine jss_penMade (jss_one (js_ret (ja_lst (jds_cons (jr_var (r := .d _) (i := 0) b rfl (by decide +kernel) rfl hj) (jds_cons (ja_intB b (by decide +kernel) h.f_int (ja_cmp cm_ge (jr_var (r := .d _) (i := 0) b rfl (by decide +kernel) rfl hj) (ja_pow ⟨by decide, by decide, by decide⟩ (ja_int (i := 10)) (ja_int (i := 18))))) jds_nil))) rfl1 fun v H1 s1 ⟨p, e, n, vs, q1, q2⟩ => ?_))
  subst e
  obtain ⟨v1, v2, rfl, q2, q3⟩ := ima2 q2
  have e1 := Im.isInt q2
  have e2 := Im.isInt q3
  subst e1; subst e2
  refine ⟨p, i, _, ?_, q1, hQ p _ (fun b o hb => ?_) n upd_same⟩
  · split <;> simp
  · rw [upd_ne (ne_of_none hb n)]
    exact s1 _ _ hb
end
end Mead

set_option maxRecDepth 100000
set_option maxHeartbeats 4000000
/-! the mead's numbers counted; what a statement leaves, weakened -/
namespace Mead
open PySem PySem.Spec PyProof.Rows L2
theorem js_mono {X : Cx} {st : Stmt} {σ : L2.St} {H : Hp} {D D' : Ends} (h : jS X st D σ H) (k : ∀ σ' H', D.nx σ' H' → D'.nx σ' H') (r : ∀ v H', D.rt v H' → D'.rt v H' := by exact fun _ _ z => z) (b : ∀ σ' H', D.bk σ' H' → D'.bk σ' H' := by exact fun _ _ z => z) (c : ∀ σ' H', D.ct σ' H' → D'.ct σ' H' := by exact fun _ _ z => z) : jS X st D' σ H := fun pins s I =>
  thn (h pins s I) fun o s' q => by
    cases o with
    | next => obtain ⟨σ', H', i, z⟩ := q; exact ⟨σ', H', i, k _ _ z⟩
    | brk => obtain ⟨σ', H', i, z⟩ := q; exact ⟨σ', H', i, b _ _ z⟩
    | cont => obtain ⟨σ', H', i, z⟩ := q; exact ⟨σ', H', i, c _ _ z⟩
    | ret u => obtain ⟨v, σ', H', i, e, z⟩ := q; exact ⟨v, σ', H', i, e, r _ _ z⟩
theorem jss_mono {X : Cx} {st : List Stmt} {σ : L2.St} {H : Hp} {D D' : Ends} (h : jSs X st D σ H) (k : ∀ σ' H', D.nx σ' H' → D'.nx σ' H') (r : ∀ v H', D.rt v H' → D'.rt v H' := by exact fun _ _ z => z) (b : ∀ σ' H', D.bk σ' H' → D'.bk σ' H' := by exact fun _ _ z => z) (c : ∀ σ' H', D.ct σ' H' → D'.ct σ' H' := by exact fun _ _ z => z) : jSs X st D' σ H := fun pins s I =>
  thn (h pins s I) fun o s' q => by
    cases o with
    | next => obtain ⟨σ', H', i, z⟩ := q; exact ⟨σ', H', i, k _ _ z⟩
    | brk => obtain ⟨σ', H', i, z⟩ := q; exact ⟨σ', H', i, b _ _ z⟩
    | cont => obtain ⟨σ', H', i, z⟩ := q; exact ⟨σ', H', i, c _ _ z⟩
    | ret u => obtain ⟨v, σ', H', i, e, z⟩ := q; exact ⟨v, σ', H', i, e, r _ _ z⟩
/-- how many cells -/
def cnt1 (r : List Int) : Int := ((r.filter fun n => decide (0 ≤ n)).length : Nat)
def cntN (m : List (List Int)) : Int := (m.map cnt1).sum
theorem cnt1_snoc (r : List Int) (n : Int) : cnt1 (r ++ [n]) = cnt1 r + if 0 ≤ n then 1 else 0 := by
  unfold cnt1
  rw [List.filter_append, List.length_append]
  by_cases h : 0 ≤ n <;> simp [h]
theorem cntN_snoc (m : List (List Int)) (r : List Int) : cntN (m ++ [r]) = cntN m + cnt1 r := by
  unfold cntN
  rw [List.map_append, List.sum_append]
  simp
theorem cnt1_nn (r : List Int) : 0 ≤ cnt1 r := by unfold cnt1; omega
theorem cntN_nn : ∀ (m : List (List Int)), 0 ≤ cntN m
  | [] => by simp [cntN]
  | r :: m => by
    have h1 := cntN_nn m
    have h2 := cnt1_nn r
    have e : cntN (r :: m) = cnt1 r + cntN m := by simp [cntN]
    omega
theorem mapIdx_filter_len {p : Int → Bool} : ∀ (r : List Int) (f : Nat → Nat), ((r.mapIdx fun c n => ((f c, n) : Nat × Int)).filter fun x => p x.2).length = (r.filter p).length
  | [], _ => rfl
  | n :: r, f => by
    have ih := mapIdx_filter_len (p := p) r fun c => f (c + 1)
    rw [List.mapIdx_cons, List.filter_cons, List.filter_cons]
    by_cases h : p n = true
    · simp only [h, if_true, List.length_cons]
      rw [ih]
    · simp only [h, Bool.false_eq_true, if_false]
      exact ih
theorem row_len {l u : Int} {i : Nat} {r : List Int} : (rowP l u i r).length = (r.filter fun n => decide (l ≤ n ∧ n ≤ u)).length := by
  unfold rowP
  rw [List.length_map]
  exact mapIdx_filter_len (p := fun n => decide (l ≤ n ∧ n ≤ u)) r fun c => c
theorem mapIdx_len_sum {α β : Type} {f : Nat → α → List β} {g : α → Nat} (h : ∀ i a, (f i a).length = g a) (l : List α) : (l.mapIdx f).flatten.length = (l.map g).sum := by
  induction l generalizing f with
  | nil => rfl
  | cons a l ih =>
    rw [List.mapIdx_cons, List.flatten_cons, List.length_append, h, ih fun i a => h (i + 1) a]
    simp
theorem cells_len {m : List (List Int)} (h : ∀ r ∈ m, ∀ n ∈ r, -2 ≤ n ∧ n ≤ 99) : ((cellsIn m).length : Int) = cntN m := by
  unfold cellsIn placesOf
  rw [mapIdx_len_sum (g := fun r => (r.filter fun n => decide (0 ≤ n ∧ n ≤ 99)).length) (fun i a => row_len)]
  unfold cntN
  induction m with
  | nil => rfl
  | cons r m ih =>
    rw [List.map_cons, List.map_cons, List.sum_cons, List.sum_cons, ← ih fun r hr => h r (List.mem_cons_of_mem _ hr)]
    have e : (r.filter fun n => decide (0 ≤ n ∧ n ≤ 99)) = r.filter fun n => decide (0 ≤ n) := List.filter_congr fun n hn => by
      have := h r List.mem_cons_self n hn
      simp; omega
    rw [e]
    simp [cnt1]
end Mead

set_option maxRecDepth 100000
set_option maxHeartbeats 4000000
namespace Mead
open PySem PySem.Spec PyProof.Rows L2
local macro_rules | `(tactic| walk_at "hl") => `(tactic| first | assumption | omega | (simp only [List.length_map]; omega) | exact Nat.le_of_ble_eq_true rfl | (simp only [List.length_map, List.length_mapIdx, List.length_range]; omega) | (simp only [List.length_mapIdx, List.length_map] at *; omega) | fail)
local macro_rules | `(tactic| walk_at "pc") => `(tactic| first | assumption | exact Nat.le_refl _ | omega)
local macro_rules | `(tactic| walk_at "sh") => `(tactic| first | exact sh_int _ | exact sh_bool _ | exact sh_none | exact sh_eP (by decide) _ | exact sh_eR (by decide) _ | exact sh_eL (by decide) _ | exact sh_eM (by decide) _ | exact sh_eC (by decide) _ | exact sh_eCs (by decide) _ | exact (sh_lst (n := 59) (sh_map fun _ => sh_eP (by decide) _)) | exact (sh_lst (n := 59) (sh_map fun _ => sh_eC (by decide) _)) | exact (sh_lst (n := 59) (sh_map fun _ => sh_eL (by decide) _)) | exact (sh_lst (n := 59) (sh_map fun _ => sh_int _)) | exact (sh_lst (n := 59) sh_nil) | exact (sh_tup (n := 59) sh_nil) | exact sh_tup (n := 59) (sh_cons (sh_int _) (sh_cons (sh_int _) sh_nil)) | exact sh_lst (n := 59) (sh_map fun _ => sh_tup (n := 58) (sh_cons (sh_int _) (sh_cons (sh_int _) sh_nil))) | fail)
local macro_rules | `(tactic| walk_at "al") => `(tactic| first | rfl | simp [PySem.W.alike, PySem.W.alikeAll, eP] | fail)
local macro_rules | `(tactic| walk_at "nn") => `(tactic| intro z; cases z)
section
variable {T : Tx} (h : Top T)
include h
omit h in
theorem cut1 (ds : List PyData) : cutD ds (some 1) none = ds.drop 1 := by
  unfold cutD
  have e : HT.sIx ds.length 0 (some 1) = min 1 ds.length := HT.sIx_nat ds.length 0 1
  rw [e, HT.sIx_none]
  cases ds with
  | nil => rfl
  | cons a t => simp
omit h in
theorem cnt1_cons (a : Int) (r : List Int) : cnt1 (a :: r) = (if 0 ≤ a then 1 else 0) + cnt1 r := by
  unfold cnt1
  rw [List.filter_cons]
  by_cases z : 0 ≤ a
  · simp [z]; omega
  · simp [z]
omit h in
theorem cntN_cons (r : List Int) (m : List (List Int)) : cntN (r :: m) = cnt1 r + cntN m := by simp [cntN]
def okRow (w : Nat) (r : List Int) : Prop := r.length = w ∧ ∀ n ∈ r, -2 ≤ n ∧ n ≤ 99
def sp_mead : Sp := fun vs H Q _ => ∃ (p : Addr), vs = [.ref p, .int 5] ∧ H p = some (penO p) ∧ ∀ v H' (m : List (List Int)), Same H H' → VM m → Im H' v (eM m) → Q v H'
theorem fn__law_mead : Fn T "_law_mead" 4 sp_mead := by
  refine fn_mk h.d__law_mead sc__law_mead (fun vs H Q E ⟨_, e, _⟩ => by subst e; rfl) (fun _ _ _ _ _ _ us hl => match us, hl with | [_, _], _ => rfl) fun X c vs H Q E ⟨p, e, hp, hQ⟩ => ?_
  subst e
  have b := c.toBCx
  have i5 : ∀ {H : Hp}, Im H (.int 5) (.int 5) := .int 5
  refine jss_cons (js_tupP (n := 4) c.toBCx (Ps := [fun v _ => ∃ i, v = .int i ∧ 1 ≤ i ∧ i ≤ 3, fun v _ => ∃ i, v = .int i ∧ 1 ≤ i ∧ i ≤ 4, fun v H => Im H v (.int 0), fun v H1 => ∃ q, v = .ref q ∧ H q = none ∧ H1 q = some (.lst [])])
    (jps_cons (fun _ _ _ _ z => z) (ei_add (ei_of (S := fun n => n = 1) ja_int rfl) (ei_draw h b (by decide) (by decide +kernel) (jv_var (i := 0) b rfl (by decide +kernel) rfl) hp ja_int (by decide) (by decide)) (fun i j e q => by omega))
    (jps_cons (fun _ _ _ _ z => z) (ei_add (ei_of (S := fun n => n = 1) ja_int rfl) (ei_draw h b (by decide) (by decide +kernel) (jv_var (i := 0) b rfl (by decide +kernel) rfl) hp ja_int (by decide) (by decide)) (fun i j e q => by omega))
    (jps_d ja_int (jps_cons (P := fun v H1 => ∃ q, v = .ref q ∧ H q = none ∧ H1 q = some (.lst [])) (fun _ _ _ s ⟨q, e, n, z⟩ => ⟨q, e, n, s _ _ z⟩) (fun H1 s1 => je_mono ((ja_lst (ds := []) jrs_nil) H1 s1) fun v H2 ⟨s2, q, e, n, us, z, w⟩ => ⟨s2, q, e, s1.free n, by cases w; exact z⟩) jps_nil)))) ?_ rfl1 rfl (by decide) ?_)
  · intro P hP
    simp only [List.mem_cons, List.not_mem_nil, or_false] at hP
    rcases hP with rfl | rfl | rfl | rfl
    · exact fun _ _ _ _ z => z
    · exact fun _ _ _ _ z => z
    · exact fun _ _ _ s z => Im.up z s
    · exact fun _ _ _ s ⟨q, e, n, z⟩ => ⟨q, e, n, s _ _ z⟩
  intro vs H1 s1 hv
  obtain ⟨v1, v2, v3, v4, rfl, ⟨hi, rfl, hi1, hi2⟩, ⟨wi, rfl, wi1, wi2⟩, hz, ⟨q, rfl, nq, hq⟩⟩ := paired4 hv
  have e := Im.isInt hz
  subst e
  refine jgs_cons (jg_name c (i := 2) rfl (by decide +kernel) (jgs_cons (jg_name c (i := 3) rfl (by decide +kernel) (jgs_cons (jg_name c (i := 4) rfl (by decide +kernel) (jgs_cons (jg_name c (i := 5) rfl (by decide +kernel) (jgs_nil ?_)))))))) 
  have hhi : ∀ {H : Hp}, Im H (.int hi) (.int hi) := .int hi
  have hwi : ∀ {H : Hp}, Im H (.int wi) (.int wi) := .int wi
  refine jss_cons (js_forG b (src_range b (by decide +kernel) h.f_range (jr_var (r := .d _) (i := 2) b rfl (by decide +kernel) rfl hhi) (by omega)) s1 (fun i Bi σ' H' => ∃ (rs : List (List Int)) (many : Int) (w6 w7 w8 w9 : Option V), Fl q (rs.map eR) Bi H' ∧ rs.length = i ∧ (∀ r ∈ rs, okRow wi.toNat r) ∧ cntN rs = many ∧ many ≤ 5 ∧ σ' = [some (.ref p), some (.int 5), some (.int hi), some (.int wi), some (.int many), some (.ref q), w6, w7, w8, w9])
    (fun i Bi B2 σ' H' H'' _ _ g ⟨rs, many, w6, w7, w8, w9, f, r⟩ => ⟨rs, many, w6, w7, w8, w9, f.grow g, r⟩) ⟨[], 0, _, _, _, _, ⟨nq, [], hq, .nil⟩, rfl, fun r hr => (by cases hr), rfl, by decide, rfl⟩ ?_ ?_)
  · rintro B1 sB i d σ' H' v Bi hd t1 t2 ⟨rs, many, w6, w7, w8, w9, fl, lr, okr, cn, mn, rfl⟩ hv
    have hin : i < hi.toNat := by
      have := (List.getElem?_eq_some_iff.mp hd).1
      simpa using this
    refine (tgt_name (i := 6) c rfl (by decide +kernel)) _ _ t2 ?_
    have SB : Same H Bi := sB.trans t1
    refine jss_cons (js_set c (i := 7) rfl (by decide +kernel) (ja_lst jds_nil) t2 fun v6 H4 s4 qq => ?_)
    obtain ⟨p6, rfl, n6, us, h5, h6⟩ := qq
    cases h6
    have nB6 : Bi p6 = none := t2.free n6
    have np : p6 ≠ q := fun z => by
      subst z
      obtain ⟨_, _, z, _⟩ := fl
      rw [n6] at z
      cases z
    have fl4 : Fl q (rs.map eR) Bi H4 := ⟨fl.1, let ⟨us, z1, z2⟩ := fl.2; ⟨us, s4 _ _ z1, z2⟩⟩
    refine jss_cons (js_forG b (src_range b (by decide +kernel) h.f_range (jr_var (r := .d _) (i := 3) b rfl (by decide +kernel) rfl hwi) (by omega)) (t2.trans s4) (fun j Bj σ' H' => ∃ (r : List Int) (many : Int) (w8 w9 : Option V), Fl q (rs.map eR) Bj H' ∧ Fl p6 (r.map PyData.int) Bj H' ∧ r.length = j ∧ (∀ n ∈ r, -2 ≤ n ∧ n ≤ 99) ∧ cntN rs + cnt1 r = many ∧ many ≤ 5 ∧ σ' = [some (.ref p), some (.int 5), some (.int hi), some (.int wi), some (.int many), some (.ref q), some v, some (.ref p6), w8, w9])
      (fun i Bi B2 σ' H' H'' _ _ g ⟨r, many, w8, w9, f, f2, z⟩ => ⟨r, many, w8, w9, f.grow g, f2.grow g, z⟩) ⟨[], many, _, _, fl4, ⟨nB6, [], h5, .nil⟩, rfl, fun r hr => (by cases hr), by rw [cn]; simp [cnt1], mn, rfl⟩ ?_ ?_)
    · rintro B2 s2 j d2 σ'' H'' v' Bj hd2 t3 t4 ⟨r, many2, w8, w9, f1, f2, lr2, okr2, cn2, mn2, rfl⟩ hv2
      have hjn : j < wi.toNat := by
        have := (List.getElem?_eq_some_iff.mp hd2).1
        simpa using this
      refine (tgt_name (i := 8) c rfl (by decide +kernel)) _ _ t4 ?_
      have SBj : Same H Bj := SB.trans (s2.trans t3)
      have hpj : Bj p = some (penO p) := SBj _ _ hp
      have hm2 : ∀ {H : Hp}, Im H (.int many2) (.int many2) := .int many2
      refine jss_cons (js_set c (i := 9) rfl (by decide +kernel) (ei_pick h (S := fun i => -2 ≤ i ∧ i ≤ 99) b (by decide) (by decide +kernel) (jv_var (i := 0) b rfl (by decide +kernel) rfl) hpj
        (jis_cons (ei_of (ja_neg (ja_int (i := 1))) (by decide)) (jis_cons (ei_of (ja_neg (ja_int (i := 1))) (by decide)) (jis_cons (ei_of (ja_neg (ja_int (i := 2))) (by decide)) (jis_cons (ei_of ja_int (by decide)) (jis_cons (ei_of ja_int (by decide)) (jis_cons (ei_of ja_int (by decide)) (jis_cons (ei_of ja_int (by decide)) (jis_cons (ei_of ja_int (by decide)) (jis_cons (ei_of ja_int (by decide)) (jis_cons (ei_of ja_int (by decide)) (jis_cons (EI.imp (ei_draw h b (by decide) (by decide +kernel) (jv_var (i := 0) b rfl (by decide +kernel) rfl) hpj ja_int (by decide) (by decide)) fun i q => by omega) jis_nil)))))))))))) t4 fun v9 H5 s5 ⟨n, e9, n0⟩ => ?_)
      subst e9
      have hn9 : ∀ {H : Hp}, Im H (.int n) (.int n) := .int n
      refine jss_cons (js_mono (D := { nx := fun σ' H6 => ∃ n', (-2 ≤ n' ∧ n' ≤ 99) ∧ (0 ≤ n' → many2 < 5) ∧ Same H5 H6 ∧ σ' = [some (.ref p), some (.int 5), some (.int hi), some (.int wi), some (.int many2), some (.ref q), some v, some (.ref p6), some v', some (.int n')], rt := fun _ _ => False })
        (js_if (JW.t (jw_and (jt_cmp cm_ge (jr_var (r := .d _) (i := 9) b rfl (by decide +kernel) rfl hn9) (ja_int (i := 0))) fun hb3 => jw_and1 (jt_eq (r := .d _) (q := .d _) b (jr_var (r := .d _) (i := 4) b rfl (by decide +kernel) rfl hm2) (jr_var (r := .d _) (i := 1) b rfl (by decide +kernel) rfl i5) (by walk_at "sh") (by walk_at "sh")))) (t4.trans s5) (fun hc H6 s6 => jss_one (js_set c (i := 9) rfl (by decide +kernel) (ja_neg (ja_int (i := 1))) ((t4.trans s5).trans s6) fun v H7 s7 e => ?_)) fun hc H6 s6 => jss_nil ⟨n, n0, fun z => ?_, s6, rfl⟩) ?_ (fun _ _ z => z.elim) (fun _ _ z => z.elim) (fun _ _ z => z.elim))
      · have e := Im.isInt e
        subst e
        exact ⟨-1, by decide, fun z => absurd z (by decide), s6.trans s7, rfl⟩
      · have e0 : PyData.eqv (Ar.d (.int many2)).pd (Ar.d (.int 5)).pd = decide (many2 = 5) := by simp [Ar.pd, eqv_int]
        rw [e0] at hc
        simp [z] at hc
        omega
      · rintro σ' H6 ⟨n', n1, n2, s6, rfl⟩
        have hn9 : ∀ {H : Hp}, Im H (.int n') (.int n') := .int n'
        have t6 : Same Bj H6 := (t4.trans s5).trans s6
        refine jss_cons (js_set c (i := 4) rfl (by decide +kernel) (ja_add (jr_var (r := .d _) (i := 4) b rfl (by decide +kernel) rfl hm2) (ja_intB b (by decide +kernel) h.f_int (ja_cmp cm_ge (jr_var (r := .d _) (i := 9) b rfl (by decide +kernel) rfl hn9) (ja_int (i := 0))))) t6 fun v4 H7 s7 e => ?_)
        have e := Im.isInt e
        subst e
        have up7 : Same H'' H7 := (s5.trans s6).trans s7
        have f17 : Fl q (rs.map eR) Bj H7 := ⟨f1.1, let ⟨us, z1, z2⟩ := f1.2; ⟨us, up7 _ _ z1, z2⟩⟩
        have f27 : Fl p6 (r.map PyData.int) Bj H7 := ⟨f2.1, let ⟨us, z1, z2⟩ := f2.2; ⟨us, up7 _ _ z1, z2⟩⟩
        obtain ⟨g1, us, g2, g3⟩ := f27
        refine jss_one (js_appendH b (jv_var (i := 7) b rfl (by decide +kernel) rfl) (t6.trans s7) g2 (jr_var (r := .d _) (i := 9) b rfl (by decide +kernel) rfl hn9) (by rw [g3.len, List.length_map]; omega) fun u B3 H8 g h8 pu => ?_)
        have o6 : B3 p6 = none := g.out p6 _ g1 g2 (fun xs z => by cases z)
        have fq : Fl q (rs.map eR) B3 (upd H8 p6 (.lst (us ++ [u]))) := by
          have z := f17.grow g
          exact ⟨z.1, let ⟨us, z1, z2⟩ := z.2; ⟨us, by rw [upd_ne (Ne.symm np)]; exact z1, z2⟩⟩
        refine ⟨B3, t3.trans g.base, fun a o ea => ?_, r ++ [n'], _, _, _, fq, ⟨o6, _, upd_same, by rw [List.map_append]; exact (g3.up g.base).app (.one pu)⟩, by rw [List.length_append, lr2]; rfl, fun x hx => ?_, ?_, ?_, rfl⟩
        · rw [upd_ne (ne_of_none ea o6)]
          exact g.ins _ _ ea
        · rcases List.mem_append.mp hx with hx | hx
          · exact okr2 x hx
          · have e : x = n' := by simpa using hx
            rw [e]; exact n1
        · rw [cnt1_snoc, ← cn2]
          by_cases z : 0 ≤ n' <;> simp [z] <;> omega
        · by_cases z : 0 ≤ n'
          · have := n2 z
            simp [z]; omega
          · simp [z]; omega
    · rintro σ'' H'' Bj t3 t4 ⟨r, many2, w8, w9, f1, ⟨g1, us, g2, g3⟩, lr2, okr2, cn2, mn2, rfl⟩
      rw [List.length_map, List.length_range] at lr2
      have o1 : Bj q = none := f1.1
      obtain ⟨_, us0, f12, f13⟩ := f1
      refine jss_one (js_appendH b (jv_var (i := 5) b rfl (by decide +kernel) rfl) t4 f12 (ja_tuple (ds := r.map .int) b (by decide +kernel) h.f_tuple (jr_var (r := .l _) (i := 7) b rfl (by decide +kernel) rfl ⟨p6, rfl, us, g2, g3.up t4⟩)) (by rw [f13.len, List.length_map]; omega) fun u B3 H8 g h8 pu => ?_)
      have o6 : B3 q = none := g.out q _ o1 f12 (fun xs z => by cases z)
      refine ⟨B3, (t1.trans t3).trans g.base, fun a o ea => ?_, rs ++ [r], many2, _, _, _, _, ⟨o6, _, upd_same, by rw [List.map_append]; exact (f13.up g.base).app (.one pu)⟩, by rw [List.length_append, lr]; rfl, fun x hx => ?_, by rw [cntN_snoc, cn2], mn2, rfl⟩
      · rw [upd_ne (ne_of_none ea o6)]
        exact g.ins _ _ ea
      · rcases List.mem_append.mp hx with hx | hx
        · exact okr x hx
        · have e : x = r := by simpa using hx
          rw [e]; exact ⟨lr2, okr2⟩
  · rintro σ' H' Bi t1 t2 ⟨rs, many, w6, w7, w8, w9, ⟨fl1, us, fl2, fl3⟩, lr, okr, cn, mn, rfl⟩
    rw [List.length_map, List.length_range] at lr
    have SH : Same H H' := t1.trans t2
    have hm2 : ∀ {H : Hp}, Im H (.int many) (.int many) := .int many
    have p6 : ∀ {H : Hp}, Im H (.int 5) (.int 5) := .int 5
    refine jss_cons (js_mono (D := { nx := fun σ' H2 => ∃ rs2 : List (List Int), Same H H2 ∧ Ls H2 q (rs2.map eR) ∧ rs2.length = hi.toNat ∧ (∀ r ∈ rs2, okRow wi.toNat r) ∧ 1 ≤ cntN rs2 ∧ cntN rs2 ≤ 5 ∧ σ' = [some (.ref p), some (.int 5), some (.int hi), some (.int wi), some (.int many), some (.ref q), w6, w7, w8, w9], rt := fun _ _ => False })
      (js_if (jt_eq (r := .d _) (q := .d _) b (jr_var (r := .d _) (i := 4) b rfl (by decide +kernel) rfl hm2) (ja_int (i := 0)) (by walk_at "sh") (by walk_at "sh")) rfl1 (fun hc H1 s1 => ?_) fun hc H1 s1 => jss_nil ⟨rs, SH.trans s1, ⟨us, s1 _ _ fl2, (fl3.up t2).up s1⟩, lr, okr, ?_, by omega, rfl⟩) ?_ (fun _ _ z => z.elim) (fun _ _ z => z.elim) (fun _ _ z => z.elim))
    · have m0 : many = 0 := by simpa [Ar.pd, eqv_int] using hc
      cases rs with
      | nil => simp at lr; omega
      | cons r0 rs =>
        have lq : Ls H1 q ((r0 :: rs).map eR) := ⟨us, s1 _ _ fl2, (fl3.up t2).up s1⟩
        have hr0 := okr r0 List.mem_cons_self
        refine jss_one (js_setL (j := 0) (i := 0) (P := fun H v H2 => Im H2 v (eR (5 :: r0.drop 1))) rfl1 (EX.imp (ja_catT (ja_tup (ds := [.int 5]) (jds_cons ja_int jds_nil)) (ja_slE (ja_ixLm (f := eR) [] (jr_var (r := .l _) (i := 5) b rfl (by decide +kernel) rfl ⟨q, rfl, lq⟩) (ja_int (i := 0)) (by simp <;> omega)) (jo_some (ja_int (i := 1))) jo_none (cut1 _)) (by simp; have := hr0.1; omega)) fun H1 v H2 qq => ?_) (jv_var (i := 5) b rfl (by decide +kernel) rfl) ja_int (s1 _ _ fl2) (by
          have l := fl3.len
          unfold ixN
          rw [l]
          simp <;> omega) (fun v H3 H4 s3 q3 s4 => ?_) c.hs)
        · have qq : Im H2 v (.tuple ([.int 5] ++ ((r0.map PyData.int).drop 1))) := qq
          rw [← List.map_drop] at qq
          exact qq
        · cases us with
          | nil => cases fl3
          | cons u0 us =>
            have n5 : H q = none := nq
            refine ⟨(5 :: r0.drop 1) :: rs, fun a o ea => ?_, ⟨_, upd_same, ?_⟩, by simpa using lr, fun r hr => ?_, ?_, ?_, rfl⟩
            · rw [upd_ne (ne_of_none ea n5)]
              exact s4 _ _ (s3 _ _ (s1 _ _ (SH _ _ ea)))
            · have kq : TK H4 (upd H4 q (.lst ((u0 :: us).set 0 v))) := TK.mut (s4 _ _ (s3 _ _ (s1 _ _ fl2))) fun xs z => by cases z
              have fl4 : ImA H4 (u0 :: us) ((r0 :: rs).map eR) := (((fl3.up t2).up s1).up s3).up s4
              cases fl4 with
              | cons _ r => exact .cons ((q3.up s4).tk kq) (r.tk kq)
            · rcases List.mem_cons.mp hr with rfl | hr
              · refine ⟨by have := hr0.1; simp; omega, fun n hn => ?_⟩
                rcases List.mem_cons.mp hn with rfl | hn
                · decide
                · exact hr0.2 n (List.mem_of_mem_drop hn)
              · exact okr r (List.mem_cons_of_mem _ hr)
            · have := cntN_nn rs
              have := cnt1_nn (r0.drop 1)
              rw [cntN_cons, cnt1_cons, if_pos (by decide)]
              omega
            · have h1 := cntN_nn rs
              have h2 := cnt1_nn r0
              have h3 : cnt1 (r0.drop 1) ≤ cnt1 r0 := by
                cases r0 with
                | nil => simp
                | cons a t =>
                  rw [cnt1_cons]
                  simp only [List.drop_succ_cons, List.drop_zero]
                  split <;> omega
              rw [cntN_cons] at cn
              rw [cntN_cons, cnt1_cons, if_pos (by decide)]
              omega
    · have m0 : ¬ many = 0 := by simpa [Ar.pd, eqv_int] using hc
      have := cntN_nn rs
      omega
    · rintro σ' H2 ⟨rs2, S2, lq, l2, ok2, c1, c2, rfl⟩
      refine jss_one (js_ret (ja_tuple (ds := rs2.map eR) b (by decide +kernel) h.f_tuple (jr_var (r := .l _) (i := 5) b rfl (by decide +kernel) rfl ⟨q, rfl, lq⟩)) rfl1 fun v H3 s3 qq => hQ v H3 rs2 (S2.trans s3) ?_ qq)
      have cl := cells_len (m := rs2) fun r hr n hn => (ok2 r hr).2 n hn
      refine ⟨by omega, fun r hr => ?_, fun r hr n hn => (ok2 r hr).2 n hn, by omega⟩
      have w := (ok2 r hr).1
      have hg : (rs2.getD 0 []).length = wi.toNat := by
        cases rs2 with
        | nil => cases hr
        | cons a t => exact (ok2 a List.mem_cons_self).1
      rw [hg]
      omega
end
end Mead

set_option maxRecDepth 100000
set_option maxHeartbeats 4000000
namespace Mead
open PySem PySem.Spec PyProof.Rows L2
local macro_rules | `(tactic| walk_at "hl") => `(tactic| first | assumption | omega | (simp only [List.length_map]; omega) | exact Nat.le_of_ble_eq_true rfl | (simp only [List.length_map, List.length_mapIdx, List.length_range]; omega) | (simp only [List.length_mapIdx, List.length_map] at *; omega) | fail)
local macro_rules | `(tactic| walk_at "pc") => `(tactic| first | assumption | exact Nat.le_refl _ | omega)
local macro_rules | `(tactic| walk_at "sh") => `(tactic| first | exact sh_int _ | exact sh_bool _ | exact sh_none | exact sh_eP (by decide) _ | exact sh_eR (by decide) _ | exact sh_eL (by decide) _ | exact sh_eM (by decide) _ | exact sh_eC (by decide) _ | exact sh_eCs (by decide) _ | exact (sh_lst (n := 59) (sh_map fun _ => sh_eP (by decide) _)) | exact (sh_lst (n := 59) (sh_map fun _ => sh_eC (by decide) _)) | exact (sh_lst (n := 59) (sh_map fun _ => sh_eL (by decide) _)) | exact (sh_lst (n := 59) (sh_map fun _ => sh_int _)) | exact (sh_lst (n := 59) sh_nil) | exact (sh_tup (n := 59) sh_nil) | exact sh_tup (n := 59) (sh_cons (sh_int _) (sh_cons (sh_int _) sh_nil)) | exact sh_lst (n := 59) (sh_map fun _ => sh_tup (n := 58) (sh_cons (sh_int _) (sh_cons (sh_int _) sh_nil))) | fail)
local macro_rules | `(tactic| walk_at "al") => `(tactic| first | rfl | simp [PySem.W.alike, PySem.W.alikeAll, eP] | fail)
local macro_rules | `(tactic| walk_at "nn") => `(tactic| intro z; cases z)
theorem paired_upP : ∀ {Ps : List (V → Hp → Prop)} {vs : List V} {H H' : Hp}, (∀ P ∈ Ps, Up P) → Same H H' → Paired (fun v (P : V → Hp → Prop) => P v H) vs Ps → Paired (fun v (P : V → Hp → Prop) => P v H') vs Ps
  | [], _, _, _, _, _, h => by cases h; exact .nil
  | P :: Ps, _, _, _, up, s, h => by
    cases h with
    | cons a r => exact .cons (up P List.mem_cons_self _ _ _ s a) (paired_upP (fun P hP => up P (List.mem_cons_of_mem _ hP)) s r)
theorem ex_tupP {X : Cx} {es : List Expr} {σ : L2.St} {B : Hp} {pos : Pos} {Ps : List (V → Hp → Prop)} {z1 : Nat} (h : JPs X es σ B Ps) (up : ∀ P ∈ Ps, Up P) (hl : Ps.length ≤ 1000000 := by exact Nat.le_of_ble_eq_true rfl) : EX X (.Tuple es z1 pos) σ B fun _ v H2 => ∃ q vs, v = .ref q ∧ H2 q = some (.tup vs) ∧ Paired (fun v (P : V → Hp → Prop) => P v H2) vs Ps := fun H1 s =>
  je_of (pe_tup pa_j) (ja_mono (h H1 s) fun vs H2 ⟨s2, p2⟩ => ⟨by rw [paired_len p2]; exact small_line hl, fun p hp => ⟨s2.trans (Same.new hp), p, vs, rfl, upd_same, paired_upP up (Same.new hp) p2⟩⟩)
section
variable {T : Tx} (h : Top T)
include h
structure VBs (m : List (List Int)) (cu : List Int) (odd : Int) (hs : List Pl) : Prop where
  vm : VM m
  vcu : VCu cu
  cl : cu.length ≤ 4
  vodd : 0 ≤ odd ∧ odd ≤ 999
  vhs : VHs hs
section
variable {N : List Str} {sc : Scope} {k : Nat} {X : Cx} {σ : L2.St} {B H : Hp} {a b e o : Expr} {es : List Expr} {pos : Pos} {D : Ends} {p : Addr} {S : Int → Prop}
theorem ex_mead (c : BCx T N sc k X) {pp : Pos} (hk : 4 ≤ k) (hg : glo sc "_law_mead" = true) (ho : JV X o σ B (.ref p)) (hp : B p = some (penO p)) (hn : JR X e σ B (.d (.int 5)))
    (he : starEach [o, e] X.env = (false, eval o X.env) :: starEach [e] X.env := by rfl) (he2 : starEach [e] X.env = (false, eval e X.env) :: starEach [] X.env := by rfl) (hpl : (backTo pos (starEach [e] X.env)).any (·.1) = false := by rfl) : EX X (.Call (.Name "_law_mead" pp) [o, e] [] pos) σ B fun _ v H => ∃ m, Im H v (eM m) ∧ VM m :=
  j_callP c (fn__law_mead h) hk hg (jps_v ho (jps_d hn jps_nil he2) he) (fun H1 vs H2 E s s2 hv => by
    cases hv with
    | cons q1 hv => cases hv with
      | cons q2 hv =>
        cases hv
        exact ⟨p, by rw [q1, Im.isInt q2], s2 _ _ (s _ _ hp), fun v H' m s3 z q => ⟨s2.trans s3, m, q, z⟩⟩) he hpl
theorem ex_custom (c : BCx T N sc k X) {pp : Pos} (hk : 4 ≤ k) (hg : glo sc "_law_custom" = true) (ho : JV X o σ B (.ref p)) (hp : B p = some (penO p))
    (he : starEach [o] X.env = (false, eval o X.env) :: starEach [] X.env := by rfl) (hpl : (backTo pos (starEach [] X.env)).any (·.1) = false := by rfl) : EX X (.Call (.Name "_law_custom" pp) [o] [] pos) σ B fun _ v H => ∃ cu, Im H v (eR cu) ∧ VCu cu ∧ cu.length ≤ 4 :=
  j_callP c (fn__law_custom h) hk hg (jps_v ho jps_nil he) (fun H1 vs H2 E s s2 hv => by
    cases hv with
    | cons q1 hv =>
      cases hv
      exact ⟨p, by rw [q1], s2 _ _ (s _ _ hp), fun v H' m s3 z y q => ⟨s2.trans s3, m, q, z, y⟩⟩) he hpl
theorem ex_houses (c : BCx T N sc k X) {pp : Pos} (hk : 3 ≤ k) (hg : glo sc "_law_houses" = true) (ho : JV X o σ B (.ref p)) (hp : B p = some (penO p))
    (he : starEach [o] X.env = (false, eval o X.env) :: starEach [] X.env := by rfl) (hpl : (backTo pos (starEach [] X.env)).any (·.1) = false := by rfl) : EX X (.Call (.Name "_law_houses" pp) [o] [] pos) σ B fun _ v H => ∃ hs, Im H v (eHs hs) ∧ VHs hs :=
  j_callP c (fn__law_houses h) hk hg (jps_v ho jps_nil he) (fun H1 vs H2 E s s2 hv => by
    cases hv with
    | cons q1 hv =>
      cases hv
      exact ⟨p, by rw [q1], s2 _ _ (s _ _ hp), fun v H' m s3 z q => ⟨s2.trans s3, m, q, z⟩⟩) he hpl
end
def eBs (m : List (List Int)) (cu : List Int) (odd : Int) (hs : List Pl) : PyData := .tuple [eM m, eR cu, .int odd, eHs hs]
def sp_base : Sp := fun vs H Q _ => ∃ (p : Addr), vs = [.ref p, .int 5] ∧ H p = some (penO p) ∧ ∀ v H' m cu odd hs, Same H H' → VBs m cu odd hs → Im H' v (eBs m cu odd hs) → Q v H'
theorem fn__law_base : Fn T "_law_base" 5 sp_base := by
  refine fn_mk h.d__law_base sc__law_base (fun vs H Q E ⟨_, e, _⟩ => by subst e; rfl) (fun _ _ _ _ _ _ us hl => match us, hl with | [_, _], _ => rfl) fun X c vs H Q E ⟨p, e, hp, hQ⟩ => ?_
  subst e
  have b := c.toBCx
  have i5 : ∀ {H : Hp}, Im H (.int 5) (.int 5) := .int 5
  refine jss_cons (js_set c (i := 2) rfl (by decide +kernel) (ei_pick h (S := fun i => 0 ≤ i ∧ i ≤ 999) b (by decide) (by decide +kernel) (jv_var (i := 0) b rfl (by decide +kernel) rfl) hp
        (jis_cons (ei_of ja_int (by decide)) (jis_cons (ei_of ja_int (by decide)) (jis_cons (ei_of ja_int (by decide)) (jis_cons (ei_of ja_int (by decide)) (jis_cons (ei_of ja_int (by decide)) (jis_cons (ei_of ja_int (by decide)) (jis_cons (EI.imp (ei_draw h b (by decide) (by decide +kernel) (jv_var (i := 0) b rfl (by decide +kernel) rfl) hp ja_int (by decide) (by decide)) fun i q => by omega) jis_nil)))))))) rfl1 fun v H1 s1 ⟨odd, e, o0⟩ => ?_)
  subst e
  have hod : ∀ {H : Hp}, Im H (.int odd) (.int odd) := .int odd
  have upm : Up fun v H => ∃ m, Im H v (eM m) ∧ VM m := fun _ _ _ s ⟨m, z, y⟩ => ⟨m, z.up s, y⟩
  have upc : Up fun v H => ∃ cu, Im H v (eR cu) ∧ VCu cu ∧ cu.length ≤ 4 := fun _ _ _ s ⟨m, z, y⟩ => ⟨m, z.up s, y⟩
  have upo : Up fun v H => Im H v (.int odd) := fun _ _ _ s z => z.up s
  have uph : Up fun v H => ∃ hs, Im H v (eHs hs) ∧ VHs hs := fun _ _ _ s ⟨m, z, y⟩ => ⟨m, z.up s, y⟩
  refine jss_one (js_ret (ex_tupP (Ps := [fun v H => ∃ m, Im H v (eM m) ∧ VM m, fun v H => ∃ cu, Im H v (eR cu) ∧ VCu cu ∧ cu.length ≤ 4, fun v H => Im H v (.int odd), fun v H => ∃ hs, Im H v (eHs hs) ∧ VHs hs])
    (jps_cons upm (ex_mead h b (by decide) (by decide +kernel) (jv_var (i := 0) b rfl (by decide +kernel) rfl) hp (jr_var (r := .d _) (i := 1) b rfl (by decide +kernel) rfl i5))
    (jps_cons upc (ex_custom h b (by decide) (by decide +kernel) (jv_var (i := 0) b rfl (by decide +kernel) rfl) hp)
    (jps_cons upo (jr_var (r := .d _) (i := 2) b rfl (by decide +kernel) rfl hod) (jps_cons uph (ex_houses h b (by decide) (by decide +kernel) (jv_var (i := 0) b rfl (by decide +kernel) rfl) hp) jps_nil)))) ?_) s1 fun v H2 s2 ⟨q, vs, e, hq, hv⟩ => ?_)
  · intro P hP
    simp only [List.mem_cons, List.not_mem_nil, or_false] at hP
    rcases hP with rfl | rfl | rfl | rfl
    · exact upm
    · exact upc
    · exact upo
    · exact uph
  · subst e
    obtain ⟨v1, v2, v3, v4, rfl, ⟨m, q1, z1⟩, ⟨cu, q2, z2, y2⟩, q3, ⟨hs, q4, z4⟩⟩ := paired4 hv
    exact hQ _ _ m cu odd hs (s1.trans s2) ⟨z1, z2, y2, o0, z4⟩ (.tup hq (.cons q1 (.cons q2 (.cons q3 (.cons q4 .nil)))))
end
end Mead

set_option maxRecDepth 100000
set_option maxHeartbeats 4000000
/-! claims in order; a dict of rights -/
namespace Mead
open PySem PySem.Spec PyProof.Rows L2
def clLt (a b : Cl) : Prop := a.1 < b.1 ∨ a.1 = b.1 ∧ (a.2.1 < b.2.1 ∨ a.2.1 = b.2.1 ∧ a.2.2 < b.2.2)
instance (a b : Cl) : Decidable (clLt a b) := by unfold clLt; infer_instance
theorem lt_eC (a b : Cl) : PySem.W.dataLt (eC a) (eC b) = decide (clLt a b) := by
  unfold eC
  rw [PySem.W.dataLt_tuple, PySem.W.dataLt_cons (by simp [PySem.W.alike]), PySem.W.dataLt_cons (by simp [PySem.W.alike]), PySem.W.dataLt_cons (by simp [PySem.W.alike]), PySem.W.dataLt_int, PySem.W.dataLt_int, PySem.W.dataLt_int]
  have e : PyProof.Rows.lexLt PyProof.Rows.itemOrd (PySem.W.keyToksAll []) (PySem.W.keyToksAll []) = false := PyProof.Rows.lex_irrefl _
  rw [e]
  simp only [PyData.eqv, beq_iff_eq, clLt]
  by_cases h1 : a.1 = b.1 <;> by_cases h2 : a.2.1 = b.2.1 <;> by_cases h3 : a.2.2 = b.2.2 <;> simp [h1, h2, h3]
theorem le_eC (a b : Cl) : PySem.W.dataLe false eC a b = decide (¬ clLt b a) := by
  have e : PySem.W.dataLe false eC a b = !PySem.W.dataLt (eC b) (eC a) := rfl
  rw [e, lt_eC]
  simp
theorem srt_up {l : List Cl} (hn : (l.map keyC).Nodup) : (srt eC l).Pairwise keyLt := by
  have h1 : (srt eC l).Pairwise fun a b => PySem.W.dataLe false eC a b = true := List.pairwise_mergeSort (fun a b c h1 h2 => by
    rw [le_eC] at h1 h2 ⊢
    have h1 := of_decide_eq_true h1
    have h2 := of_decide_eq_true h2
    refine decide_eq_true ?_
    unfold clLt at *
    omega) (fun a b => by
    rw [le_eC, le_eC, Bool.or_eq_true, decide_eq_true_iff, decide_eq_true_iff]
    unfold clLt
    omega) l
  have h2 : ((srt eC l).map keyC).Nodup := ((srt_perm (enc := eC) l).map keyC).nodup_iff.mpr hn
  have h3 : (srt eC l).Pairwise fun a b => keyC a ≠ keyC b := List.pairwise_map.mp h2
  refine (h1.and h3).imp fun {a b} ⟨x, y⟩ => ?_
  rw [le_eC] at x
  have x := of_decide_eq_true x
  have y : ¬ (a.1 = b.1 ∧ a.2.1 = b.2.1) := fun z => y (by unfold keyC; rw [z.1, z.2])
  unfold clLt at x
  unfold keyLt
  omega
theorem srt_same {l : List Cl} (h : l.Pairwise keyLt) : srt eC l = l := List.mergeSort_of_pairwise (h.imp fun {a b} z => by
  rw [le_eC]
  refine decide_eq_true ?_
  unfold keyLt at z
  unfold clLt
  omega)
/-- a dict's entry is put -/
def putL (l : List (Pl × Int)) (p : Pl) (n : Int) : List (Pl × Int) := if p ∈ l.map Prod.fst then l.map (fun x => if x.1 = p then (x.1, n) else x) else l ++ [(p, n)]
theorem put_eKV (l : List (Pl × Int)) (p : Pl) (n : Int) : putK (l.map eKV) (kP p) (.int n) = (putL l p n).map eKV := by
  unfold putL
  by_cases h : p ∈ l.map Prod.fst
  · rw [if_pos h]
    unfold putK
    have e : ((l.map eKV).any fun kv => decide (kv.1 = kP p)) = true := by
      obtain ⟨x, hx, e⟩ := List.mem_map.mp h
      refine List.any_eq_true.mpr ⟨eKV x, List.mem_map_of_mem hx, decide_eq_true ?_⟩
      rw [← e]; rfl
    rw [if_pos e, List.map_map, List.map_map]
    refine List.map_congr_left fun x _ => ?_
    by_cases hx : x.1 = p
    · have e2 : (eKV x).1 = kP p := by rw [← hx]; rfl
      simp [e2, hx, eKV]
    · have e2 : ¬ (eKV x).1 = kP p := fun z => hx (kP_inj z)
      simp [e2, hx]
  · rw [if_neg h, put_new h]
theorem putL_keys (l : List (Pl × Int)) (p : Pl) (n : Int) : (putL l p n).map Prod.fst = if p ∈ l.map Prod.fst then l.map Prod.fst else l.map Prod.fst ++ [p] := by
  unfold putL
  by_cases h : p ∈ l.map Prod.fst
  · rw [if_pos h, if_pos h, List.map_map]
    refine List.map_congr_left fun x _ => ?_
    by_cases hx : x.1 = p <;> simp [hx]
  · rw [if_neg h, if_neg h, List.map_append]
    rfl
theorem putL_nodup {l : List (Pl × Int)} {p : Pl} {n : Int} (h : (l.map Prod.fst).Nodup) : ((putL l p n).map Prod.fst).Nodup := by
  rw [putL_keys]
  split
  · exact h
  · rename_i hn
    exact List.nodup_append.mpr ⟨h, by simp, fun a ha b hb e => by
      have : b = p := by simpa using hb
      subst this; subst e
      exact hn ha⟩
theorem putL_mem {l : List (Pl × Int)} {p : Pl} {n : Int} {x : Pl × Int} (h : x ∈ putL l p n) : x ∈ l ∨ x = (p, n) := by
  unfold putL at h
  split at h
  · obtain ⟨y, hy, e⟩ := List.mem_map.mp h
    by_cases z : y.1 = p
    · rw [if_pos z] at e
      right; rw [← e, z]
    · rw [if_neg z] at e
      left; rw [← e]; exact hy
  · rcases List.mem_append.mp h with h | h
    · exact .inl h
    · right; simpa using h
theorem putL_len (l : List (Pl × Int)) (p : Pl) (n : Int) : (putL l p n).length ≤ l.length + 1 ∧ 0 < (putL l p n).length := by
  unfold putL
  split
  · rename_i h
    rw [List.length_map]
    obtain ⟨x, hx, _⟩ := List.mem_map.mp h
    have := List.length_pos_of_mem hx
    omega
  · simp
end Mead

set_option maxRecDepth 100000
set_option maxHeartbeats 4000000
namespace Mead
open PySem PySem.Spec PyProof.Rows L2
local macro_rules | `(tactic| walk_at "hl") => `(tactic| first | assumption | omega | (simp only [List.length_map]; omega) | exact Nat.le_of_ble_eq_true rfl | (simp only [List.length_map, List.length_mapIdx, List.length_range]; omega) | (simp only [List.length_mapIdx, List.length_map] at *; omega) | fail)
local macro_rules | `(tactic| walk_at "pc") => `(tactic| first | assumption | exact Nat.le_refl _ | omega)
local macro_rules | `(tactic| walk_at "sh") => `(tactic| first | exact sh_int _ | exact sh_bool _ | exact sh_none | exact sh_eP (by decide) _ | exact sh_eR (by decide) _ | exact sh_eL (by decide) _ | exact sh_eM (by decide) _ | exact sh_eC (by decide) _ | exact sh_eCs (by decide) _ | exact (sh_lst (n := 59) (sh_map fun _ => sh_eP (by decide) _)) | exact (sh_lst (n := 59) (sh_map fun _ => sh_eC (by decide) _)) | exact (sh_lst (n := 59) (sh_map fun _ => sh_eL (by decide) _)) | exact (sh_lst (n := 59) (sh_map fun _ => sh_int _)) | exact (sh_lst (n := 59) sh_nil) | exact (sh_tup (n := 59) sh_nil) | exact sh_tup (n := 59) (sh_cons (sh_int _) (sh_cons (sh_int _) sh_nil)) | exact sh_lst (n := 59) (sh_map fun _ => sh_tup (n := 58) (sh_cons (sh_int _) (sh_cons (sh_int _) sh_nil))) | fail)
local macro_rules | `(tactic| walk_at "al") => `(tactic| first | rfl | simp [PySem.W.alike, PySem.W.alikeAll, eP] | fail)
local macro_rules | `(tactic| walk_at "nn") => `(tactic| intro z; cases z)
theorem js_forN {T : Tx} {N : List Str} {sc : Scope} {k : Nat} {X : Cx} {σ : L2.St} {B H : Hp} {body : List Stmt} {pos : Pos} {D : Ends} (c : BCx T N sc k X) {tg iter : Expr} {Ds : List PyData → Prop} (S : SRCn X tg iter σ B Ds) (hB : Same B H)
    (h : ∀ ds, Ds ds → ∀ B1 H1, Grow B H B1 H1 → ∃ Pv : Nat → L2.St → Hp → Prop, Pv 0 σ H1 ∧ (∀ i σ' H', Pv i σ' H' → Same B1 H') ∧
      (∀ i d σ' H' v B2 H'', ds[i]? = some d → Pv i σ' H' → Grow B1 H' B2 H'' → Im B2 v d → jG X tg v σ' H'' fun σ2 H2 => jSs X body { D with nx := Pv (i + 1), ct := Pv (i + 1), bk := D.nx } σ2 H2) ∧
      (∀ σ' H', Pv ds.length σ' H' → D.nx σ' H'))
    (hf : ∀ z, foldedSetIterable iter X.env z = pure z := by intro _; rfl) : jS X (.For tg iter body [] pos) D σ H := by
  obtain ⟨wi, hi, hw⟩ := S
  refine js_of (ps_for c.never c.calm hi pg_j pss_j hf) (hw H hB _ fun ds hds J B1 H1 g w => ?_)
  obtain ⟨Pv, h0, hS, ht, hd⟩ := h ds hds B1 H1 g
  refine for_it w Pv h0 (fun i σ' H' _ p => hS i σ' H' p) (fun i v σ' H' H'' hi p ⟨s, d, h1, h2⟩ => ?_) hd
  have g2 := grow (hS i σ' H' p) s
  exact ht i d σ' H' v _ H'' h1 p g2 (h2.tk g2.tk)
section
variable {T : Tx} (h : Top T)
include h
theorem ex_pickV {N : List Str} {sc : Scope} {k : Nat} {X : Cx} {σ : L2.St} {B : Hp} {e o : Expr} {pos : Pos} {p q : Addr} {xs : List V} (c : BCx T N sc k X) {pp : Pos} (hk : 3 ≤ k) (hg : glo sc "_law_pick" = true) (ho : JV X o σ B (.ref p)) (hp : B p = some (penO p)) (hn : JV X e σ B (.ref q)) (hq : SqR B q xs) (h0 : 0 < xs.length) (h1 : xs.length < 1000)
    (he : starEach [o, e] X.env = (false, eval o X.env) :: starEach [e] X.env := by rfl) (he2 : starEach [e] X.env = (false, eval e X.env) :: starEach [] X.env := by rfl) (hpl : (backTo pos (starEach [e] X.env)).any (·.1) = false := by rfl) : EX X (.Call (.Name "_law_pick" pp) [o, e] [] pos) σ B fun _ v _ => v ∈ xs :=
  j_callP c (fn__law_pick h) hk hg (jps_v ho (jps_v hn jps_nil he2) he) (fun H1 vs H2 E s s2 hv => by
    cases hv with
    | cons q1 hv => cases hv with
      | cons q2 hv =>
        cases hv
        exact ⟨p, q, xs, by rw [q1, q2], s2 _ _ (s _ _ hp), hq.up (s.trans s2), h0, h1, fun r H' s3 hr => ⟨s2.trans s3, hr⟩⟩) he hpl
def clOf (x : Pl × Int) : Cl := (x.1.1, x.1.2, x.2)
def sp_claims : Sp := fun vs H Q _ => ∃ (p q : Addr) (v : V) (cu : List Int), vs = [.ref p, v, .ref q] ∧ H p = some (penO p) ∧ Im H v (eR cu) ∧ VCu cu ∧ SqR H q [.int 0, .int 1, .int 2] ∧ ∀ v H' (cs : List Cl), Same H H' → VCs cs → cs.length ≤ 8 → (∀ c ∈ cs, c.1 ≤ 2 ∧ c.2.1 < cu.length) → Im H' v (eCs cs) → Q v H'
theorem fn__law_claims : Fn T "_law_claims" 4 sp_claims := by
  refine fn_mk h.d__law_claims sc__law_claims (fun vs H Q E ⟨_, _, _, _, e, _⟩ => by subst e; rfl) (fun _ _ _ _ _ _ us hl => match us, hl with | [_, _, _], _ => rfl) fun X c vs H Q E ⟨p, q, vc, cu, e, hp, hcu, zcu, hq, hQ⟩ => ?_
  subst e
  have b := c.toBCx
  have zc1 := zcu.1
  refine jss_cons (js_set c (i := 3) rfl (by decide +kernel) ex_newT rfl1 fun v H1 s1 ⟨a, e, na, eH⟩ => ?_)
  subst e; subst eH
  refine jss_cons (js_forN b (src_rangeN (S := fun n => 1 ≤ n ∧ n ≤ 8) b (by decide +kernel) h.f_range (ei_add (ei_of (S := fun n => n = 1) ja_int rfl) (ei_draw h b (by decide) (by decide +kernel) (jv_var (i := 0) b rfl (by decide +kernel) rfl) hp ja_int (by decide) (by decide)) (fun i j e q => by omega)) (fun n q => by omega)) s1 fun ds ⟨n, n1, ed⟩ B1 H1 g => ?_)
  have a1 : B1 a = none := g.out a _ na upd_same (fun xs z => by cases z)
  refine ⟨fun i σ' H' => ∃ Bi, Same B1 Bi ∧ Same Bi H' ∧ Bi a = none ∧ ∃ l : List (Pl × Int), H' a = some (.dT (l.map eKV)) ∧ l.length ≤ i ∧ (0 < i → 0 < l.length) ∧ (l.map Prod.fst).Nodup ∧ (∀ x ∈ l, (0 ≤ x.1.1 ∧ x.1.1 ≤ 2) ∧ (0 ≤ x.1.2 ∧ x.1.2 < cu.length) ∧ 1 ≤ x.2 ∧ x.2 ≤ 20) ∧ ∃ w4 w5 w6, σ' = [some (.ref p), some vc, some (.ref q), some (.ref a), w4, w5, w6, none, none], ⟨B1, Same.refl _, g.ins, a1, [], g.up _ _ upd_same, Nat.zero_le _, fun z => absurd z (by decide), List.nodup_nil, fun x hx => (by cases hx), _, _, _, rfl⟩, fun i σ' H' ⟨Bi, z1, z2, _⟩ => z1.trans z2, ?_, ?_⟩
  · rintro i d σ' H' v B2 H'' hd ⟨Bi, t1, t2, nB, l, hl, ll, lp, ln, lo, w4, w5, w6, rfl⟩ g2 hv
    have g3 := grow t2 g2.up
    have hin : i < n.toNat := by
      have := (List.getElem?_eq_some_iff.mp hd).1
      rw [ed] at this
      simpa using this
    have nB3 : gB Bi H' H'' a = none := g3.out a _ nB hl (fun xs z => by cases z)
    have hl3 : H'' a = some (.dT (l.map eKV)) := g2.up _ _ hl
    generalize gB Bi H' H'' = Bj at g3 nB3
    have SB : Same H Bj := (g.base.trans t1).trans g3.base
    refine jg_name c (i := 4) rfl (by decide +kernel) ?_
    refine jss_cons (js_parP b (i := 5) (j := 6) (P1 := fun v _ => ∃ i, v = .int i ∧ 0 ≤ i ∧ i ≤ 2) (P2 := fun v _ => ∃ i, v = .int i ∧ 0 ≤ i ∧ i < cu.length) rfl rfl (by decide) (by decide +kernel) (by decide +kernel)
      (jps_cons (fun _ _ _ _ z => z) (EX.imp (ex_pickV h b (by decide) (by decide +kernel) (jv_var (i := 0) b rfl (by decide +kernel) rfl) (SB _ _ hp) (jv_var (i := 2) b rfl (by decide +kernel) rfl) (hq.up SB) (by decide) (by decide)) fun _ v _ hm => by
        simp only [List.mem_cons, List.not_mem_nil, or_false] at hm
        rcases hm with rfl | rfl | rfl
        · exact ⟨0, rfl, by decide⟩
        · exact ⟨1, rfl, by decide⟩
        · exact ⟨2, rfl, by decide⟩)
      (jps_cons (fun _ _ _ _ z => z) (ei_draw h b (by decide) (by decide +kernel) (jv_var (i := 0) b rfl (by decide +kernel) rfl) (SB _ _ hp) (ja_lenT b (by decide +kernel) h.f_len (jr_var (r := .d _) (i := 1) b rfl (by decide +kernel) rfl (hcu.up SB))) (by rw [List.length_map]; omega) (by rw [List.length_map]; omega) |>.imp fun i z => by rw [List.length_map] at z; exact z) jps_nil)) g3.ins (fun v5 v6 H4 s4 ⟨ho, e5, ho0, ho1⟩ ⟨so, e6, so0, so1⟩ => ?_) (by with_unfolding_all rfl))
    subst e5; subst e6
    have hho : ∀ {H : Hp}, Im H (.int ho) (.int ho) := .int ho
    have hso : ∀ {H : Hp}, Im H (.int so) (.int so) := .int so
    have len9 : l.length < 8 := by omega
    refine jss_one (js_dputT (p := (ho, so)) b (g3.ins.trans s4) (ei_pick h (S := fun i => 1 ≤ i ∧ i ≤ 20) b (by decide) (by decide +kernel) (jv_var (i := 0) b rfl (by decide +kernel) rfl) (SB _ _ hp)
        (jis_cons (ei_of ja_int (by decide)) (jis_cons (ei_of ja_int (by decide)) (jis_cons (ei_of ja_int (by decide)) (jis_cons (ei_of ja_int (by decide)) (jis_cons (ei_add (ei_of (S := fun n => n = 1) ja_int rfl) (ei_draw h b (by decide) (by decide +kernel) (jv_var (i := 0) b rfl (by decide +kernel) rfl) (SB _ _ hp) ja_int (by decide) (by decide)) (fun i j e q => by omega)) jis_nil)))))) (jv_var (i := 3) b rfl (by decide +kernel) rfl) (ja_tup (jds_cons (jr_var (r := .d _) (i := 5) b rfl (by decide +kernel) rfl hho) (jds_cons (jr_var (r := .d _) (i := 6) b rfl (by decide +kernel) rfl hso) jds_nil))) (s4 _ _ hl3) (by rw [List.length_map]; omega) fun u H5 s5 ⟨m, e7, m1, m2⟩ H6 s6 => ?_)
    subst e7
    rw [put_eKV]
    refine ⟨Bj, t1.trans g3.base, fun b o eb => ?_, nB3, putL l (ho, so) m, upd_same, ?_, fun _ => (putL_len _ _ _).2, putL_nodup ln, fun x hx => ?_, _, _, _, rfl⟩
    · rw [upd_ne (ne_of_none eb nB3)]
      exact s6 _ _ (s5 _ _ (s4 _ _ (g3.ins _ _ eb)))
    · have := (putL_len l (ho, so) m).1
      omega
    · rcases putL_mem hx with hx | hx
      · exact lo x hx
      · subst hx
        exact ⟨⟨ho0, ho1⟩, ⟨so0, so1⟩, m1, m2⟩
  · rintro σ' H' ⟨Bi, t1, t2, nB, l, hl, ll, lp, ln, lo, w4, w5, w6, rfl⟩
    rw [ed, List.length_map, List.length_range] at ll lp
    have l1 : 1 ≤ l.length := lp (by omega)
    refine jss_freeze hl fun od => ?_
    have SB : Same Bi (upd H' a (.frz od (.dT (l.map eKV)))) := fun b o eb => by
      rw [upd_ne (ne_of_none eb nB)]
      exact t2 _ _ eb
    have S0 : Same H (upd H' a (.frz od (.dT (l.map eKV)))) := g.base.trans (t1.trans SB)
    refine jss_one (js_ret (ja_tuple (ds := (srt eC (l.map clOf)).map eC) b (by decide +kernel) h.f_tuple (JA.toR (ja_sorted (enc := eC) (bs := l.map clOf) b (by decide +kernel) h.f_sorted (JA.toR (by
      rw [List.map_map]
      refine ja_lc0 (own := [("_law_pair", 7), ("_law_many", 8)]) b (src_itemsT (jv_var (i := 3) b rfl (by decide +kernel) rfl) upd_same) (by decide +kernel) (by omega) fun i x v B2 ha s hv => ?_
      obtain ⟨p1, xs, rfl, hp1, hx⟩ := Im.isTup hv
      obtain ⟨w1, w2, rfl, hw1, hw2⟩ := ima2 hx
      refine ⟨_, by rfl, fun X' c' f' => ⟨tgt_tup c' hp1 rfl (tgts_cons (tgt_nameB (i := 7) c' rfl (by decide +kernel)) (tgts_cons (tgt_nameB (i := 8) c' rfl (by decide +kernel)) tgts_nil)), ?_⟩⟩
      exact ja_catT (ms := [.int x.1.1, .int x.1.2]) (ns := [.int x.2]) (jr_var (r := .d _) (i := 7) c' rfl (by decide +kernel) rfl hw1) (ja_tup (ds := [.int x.2]) (jds_cons (jr_var (r := .d _) (i := 8) c' rfl (by decide +kernel) rfl hw2) jds_nil)) (Nat.le_of_ble_eq_true rfl))) (sok_eC _) dep_eC))) rfl1 fun v H2 s2 qv => hQ v H2 (srt eC (l.map clOf)) (S0.trans s2) ⟨?_, fun c hc => ?_, srt_up ?_⟩ ?_ (fun c hc => ?_) qv)
    · rw [srt_len, List.length_map]
      omega
    · obtain ⟨x, hx, rfl⟩ := List.mem_map.mp (srt_mem.mp hc)
      have := lo x hx
      have zz := zcu.1
      exact ⟨⟨this.1.1, by show x.1.1 ≤ 3; omega⟩, ⟨this.2.1.1, by show x.1.2 ≤ 5; omega⟩, this.2.2⟩
    · rw [List.map_map]
      exact ln
    · rw [srt_len, List.length_map]
      omega
    · obtain ⟨x, hx, rfl⟩ := List.mem_map.mp (srt_mem.mp hc)
      have := lo x hx
      exact ⟨this.1.2, this.2.1.2⟩
end
end Mead

set_option maxRecDepth 100000
set_option maxHeartbeats 4000000
namespace Mead
open PySem PySem.Spec PyProof.Rows L2
local macro_rules | `(tactic| walk_at "hl") => `(tactic| first | assumption | omega | (simp only [List.length_map]; omega) | exact Nat.le_of_ble_eq_true rfl | (simp only [List.length_map, List.length_mapIdx, List.length_range]; omega) | (simp only [List.length_mapIdx, List.length_map] at *; omega) | fail)
local macro_rules | `(tactic| walk_at "pc") => `(tactic| first | assumption | exact Nat.le_refl _ | omega)
local macro_rules | `(tactic| walk_at "sh") => `(tactic| first | exact sh_int _ | exact sh_bool _ | exact sh_none | exact sh_eP (by decide) _ | exact sh_eR (by decide) _ | exact sh_eL (by decide) _ | exact sh_eM (by decide) _ | exact sh_eC (by decide) _ | exact sh_eCs (by decide) _ | exact (sh_lst (n := 59) (sh_map fun _ => sh_eP (by decide) _)) | exact (sh_lst (n := 59) (sh_map fun _ => sh_eC (by decide) _)) | exact (sh_lst (n := 59) (sh_map fun _ => sh_eL (by decide) _)) | exact (sh_lst (n := 59) (sh_map fun _ => sh_int _)) | exact (sh_lst (n := 59) sh_nil) | exact (sh_tup (n := 59) sh_nil) | exact sh_tup (n := 59) (sh_cons (sh_int _) (sh_cons (sh_int _) sh_nil)) | exact sh_lst (n := 59) (sh_map fun _ => sh_tup (n := 58) (sh_cons (sh_int _) (sh_cons (sh_int _) sh_nil))) | fail)
local macro_rules | `(tactic| walk_at "al") => `(tactic| first | rfl | simp [PySem.W.alike, PySem.W.alikeAll, eP] | fail)
local macro_rules | `(tactic| walk_at "nn") => `(tactic| intro z; cases z)
def absN (n : Int) : Int := if n < 0 then -n else n
def nextTo (p o : Pl) : Bool := decide (absN (p.1 - o.1) + absN (p.2 - o.2) = 1)
def lawRow (m : List (List Int)) (i : Nat) : List Pl := ((List.range (m.getD 0 []).length).filter fun j => decide (0 ≤ (m.getD i []).getD j 0)).map fun (j : Nat) => ((i : Int), (j : Int))
def lawCells (m : List (List Int)) : List Pl := ((List.range m.length).map (lawRow m)).flatten
theorem rowIx {m : List (List Int)} (z : VM m) {i i2 a2 : Nat} (hin : i < m.length) (ha : (List.range (((m.getD (0 : Int).toNat []).map PyData.int).length : Int).toNat)[i2]? = some a2) : 0 ≤ ((a2 : Nat) : Int) ∧ ((a2 : Nat) : Int) < (m.getD ((i : Nat) : Int).toNat []).length := by
  have h1 : a2 < (m.getD 0 []).length := by
    obtain ⟨w1, w2⟩ := List.getElem?_eq_some_iff.mp ha
    rw [List.getElem_range] at w2
    rw [List.length_range, List.length_map] at w1
    have e : (m.getD (0 : Int).toNat []) = m.getD 0 [] := rfl
    rw [e] at w1
    omega
  have e : (m.getD ((i : Nat) : Int).toNat []).length = (m.getD 0 []).length := by
    rw [Int.toNat_natCast]
    have : m.getD i [] ∈ m := by
      rw [List.getD_eq_getElem?_getD, List.getElem?_eq_getElem hin]
      exact List.getElem_mem hin
    exact (z.wide _ this).2.2
  rw [e]
  omega
section
variable {T : Tx} (h : Top T)
include h
def R__law_next_to : List Ar → Ar → Prop := fun as r => ∃ p : Pl, ∃ o : Pl, as = [.d (eP p), .d (eP o)] ∧ r = .d (.bool (nextTo p o))
theorem fn__law_next_to : Fn T "_law_next_to" 2 (spA R__law_next_to) := by
  refine fn_mkA h.d__law_next_to sc__law_next_to (fun rs r ⟨_, _, e, _⟩ => by subst e; rfl) (fun _ _ _ _ _ _ us hl => match us, hl with | [_, _], _ => rfl) fun X c vs H rs r Q hv ⟨p, o, e1, e2⟩ hQ => ?_
  subst e1; subst e2
  obtain ⟨v1, v2, rfl, h1, h2⟩ := reps2 hv
  have b := c.toBCx
  exact jss_one (js_ret (ja_eq (r := .d _) (q := .d _) b (ja_add (ja_abs b (by decide +kernel) h.f_abs (ja_sub (ja_ixT (jr_var (r := .d _) (i := 0) b rfl (by decide +kernel) rfl h1) (ja_int (i := 0)) rfl) (ja_ixT (jr_var (r := .d _) (i := 1) b rfl (by decide +kernel) rfl h2) (ja_int (i := 0)) rfl))) (ja_abs b (by decide +kernel) h.f_abs (ja_sub (ja_ixT (jr_var (r := .d _) (i := 0) b rfl (by decide +kernel) rfl h1) (ja_int (i := 1)) rfl) (ja_ixT (jr_var (r := .d _) (i := 1) b rfl (by decide +kernel) rfl h2) (ja_int (i := 1)) rfl)))) (ja_int (i := 1)) (by walk_at "sh") (by walk_at "sh")) rfl1 (rqs rfl1 hQ (by simp [nextTo, absN, Ar.pd, eqv_int]; rfl)))
def R__law_cells : List Ar → Ar → Prop := fun as r => ∃ m : List (List Int), as = [.d (eM m)] ∧ (VM m) ∧ r = .l ((lawCells m).map eP)
theorem fn__law_cells : Fn T "_law_cells" 2 (spA R__law_cells) := by
  refine fn_mkA h.d__law_cells sc__law_cells (fun rs r ⟨_, e, _⟩ => by subst e; rfl) (fun _ _ _ _ _ _ us hl => match us, hl with | [_], _ => rfl) fun X c vs H rs r Q hv ⟨m, e1, z, e2⟩ hQ => ?_
  subst e1; subst e2
  obtain ⟨v1, rfl, h1⟩ := reps1 hv
  have b := c.toBCx
  have y1 := z.rows
  have y2 : 1 ≤ (m.getD 0 []).length ∧ (m.getD 0 []).length ≤ 6 := by
    cases m with
    | nil => simp at y1
    | cons r m => exact ⟨(z.wide r List.mem_cons_self).1, (z.wide r List.mem_cons_self).2.1⟩
  have y3 : (m.getD (0 : Int).toNat []).length ≤ 6 := y2.2
  refine jss_cons (js_set c (i := 1) rfl (by decide +kernel) (ja_lst jds_nil) rfl1 fun v H1 s1 q => ?_)
  obtain ⟨p6, rfl, n6, us, h5, h6⟩ := q
  cases h6
  refine jss_cons (js_forA b (src_range b (by decide +kernel) h.f_range (ja_lenT b (by decide +kernel) h.f_len (jr_var (r := .d _) (i := 0) b rfl (by decide +kernel) rfl h1)) (by first | (simp only [List.length_map]; omega) | (simp only [List.length_map, List.length_range]; omega))) s1 p6 (fun i => (((List.range m.length).take i).map (lawRow m)).flatten.map eP) (fun i σ' => ∃ w, σ' = [some v1, some (.ref p6), w, none]) ⟨n6, [], h5, .nil⟩ ⟨_, rfl⟩ ?_ ?_)
  · rintro B1 s i d σ' H' v Bi hd t1 t2 fl ⟨w, rfl⟩ hv
    have ed : d = .int (i : Nat) := by
      have hd := hd
      rw [List.getElem?_map] at hd
      obtain ⟨j, h1, h2⟩ := Option.map_eq_some_iff.mp hd
      obtain ⟨w1, w2⟩ := List.getElem?_eq_some_iff.mp h1
      rw [List.getElem_range] at w2
      rw [← h2, w2]
    subst ed
    refine (tgt_name (i := 2) c rfl (by decide +kernel)) _ _ t2 ?_
    have hin : i < m.length := by
      have := (List.getElem?_eq_some_iff.mp hd).1
      simpa [eM] using this
    have e1 : (List.range m.length)[i]? = some i := by simp [hin]
    refine jss_one (js_extF (ds := (lawRow m i).map eP) b (jv_var (i := 1) b rfl (by decide +kernel) rfl) t2 fl ?_ ?_ fun B6 H6 s6 s7 hF6 => ⟨B6, t1.trans s6, s7, by rw [take_at e1, List.map_append, List.flatten_append, List.map_append]; simpa using hF6, _, rfl⟩)
    · have e : (lawRow m i).map eP = ((List.range (((m.getD (0 : Int).toNat []).map PyData.int).length : Int).toNat).filter fun j => decide ((0 : Int) ≤ (m.getD ((i : Nat) : Int).toNat []).getD ((j : Nat) : Int).toNat 0)).map fun j => PyData.tuple [.int (i : Nat), .int (j : Nat)] := by
        simp [lawRow, eP]
      rw [e]
      exact (ja_lc (own := [("_law_column", 3)]) b (src_range b (by decide +kernel) h.f_range (ja_lenT b (by decide +kernel) h.f_len (ja_ixTm (f := eR) [] (jr_var (r := .d _) (i := 0) b rfl (by decide +kernel) rfl (h1.up (s.trans t1))) (ja_int (i := 0)) (by first | omega | exact rowIx z (by assumption) (by assumption)))) (by first | (simp only [List.length_map]; omega) | (simp only [List.length_map, List.length_range]; omega))) (by decide +kernel) (by first | (simp only [List.length_map]; omega) | (simp only [List.length_map, List.length_range]; omega)) (fun i2 a2 v2 B2 ha2 s2 hv2 => by exact ⟨_, by rfl, fun X2 c2 f2 => ⟨tgt_nameB (i := 3) c2 rfl (by decide +kernel), jif_one (jt_cmp cm_ge (ja_ixTm (f := PyData.int) 0 (ja_ixTm (f := eR) [] (jr_var (r := .d _) (i := 0) c2 rfl (by decide +kernel) rfl ((h1.up (s.trans t1)).up s2)) (jr_var (r := .d _) (i := 2) c2 rfl (by decide +kernel) rfl (hv.up s2)) (by first | omega | exact rowIx z (by assumption) (by assumption))) (jr_var (r := .d _) (i := 3) c2 rfl (by decide +kernel) rfl hv2) (by first | omega | exact rowIx z (by assumption) (by assumption))) (ja_int (i := 0))), fun hi2 => ja_tup (jds_cons (jr_var (r := .d _) (i := 2) c2 rfl (by decide +kernel) rfl (hv.up s2)) (jds_cons (jr_var (r := .d _) (i := 3) c2 rfl (by decide +kernel) rfl hv2) jds_nil))⟩⟩))
    · have key : ∀ j, j ≤ m.length → (((List.range m.length).take j).map (lawRow m)).flatten.length ≤ 6 * j := fun j hj => by
        induction j with
        | zero => simp
        | succ j ih =>
          have e1 : (List.range m.length)[j]? = some j := List.getElem?_range (by omega)
          rw [take_at e1, List.map_append, List.flatten_append, List.length_append]
          have := ih (by omega)
          have : (lawRow m j).length ≤ 6 := Nat.le_trans (by rw [lawRow, List.length_map]; exact List.length_filter_le _ _) (by rw [List.length_range]; exact y2.2)
          simp only [List.map_cons, List.map_nil, List.flatten_cons, List.flatten_nil, List.append_nil]
          omega
      have h1 := key i (by omega)
      have h2 : (lawRow m i).length ≤ 6 := Nat.le_trans (by rw [lawRow, List.length_map]; exact List.length_filter_le _ _) (by rw [List.length_range]; exact y2.2)
      rw [List.length_map, List.length_map]
      omega
  · rintro σ' H' Bi t1 t2 ⟨f1, us, f2, f3⟩ ⟨w, rfl⟩
    refine jss_one (js_ret (jv_var (v := .ref p6) (i := 1) b rfl (by decide +kernel) rfl) t2 fun v H2 s2 e => ?_)
    subst e
    have e2 : ((List.map (fun i => PyData.int ((i : Nat) : Int)) (List.range ((m.map eR).length : Int).toNat)).length) = m.length := by simp
    rw [e2] at f3
    have e3 : (List.range m.length).take m.length = List.range m.length := List.take_of_length_le (by simp)
    rw [e3] at f3
    exact hQ _ _ ((t1.trans t2).trans s2) ⟨p6, rfl, n6, us, s2 _ _ f2, (f3.up t2).up s2⟩
end
end Mead

set_option maxRecDepth 100000
set_option maxHeartbeats 4000000
namespace Mead
open PySem PySem.Spec PyProof.Rows L2
local macro_rules | `(tactic| walk_at "hl") => `(tactic| first | assumption | omega | (simp only [List.length_map]; omega) | exact Nat.le_of_ble_eq_true rfl | (simp only [List.length_map, List.length_mapIdx, List.length_range]; omega) | (simp only [List.length_mapIdx, List.length_map] at *; omega) | fail)
local macro_rules | `(tactic| walk_at "pc") => `(tactic| first | assumption | exact Nat.le_refl _ | omega)
local macro_rules | `(tactic| walk_at "sh") => `(tactic| first | exact sh_int _ | exact sh_bool _ | exact sh_none | exact sh_eP (by decide) _ | exact sh_eR (by decide) _ | exact sh_eL (by decide) _ | exact sh_eM (by decide) _ | exact sh_eC (by decide) _ | exact sh_eCs (by decide) _ | exact (sh_lst (n := 59) (sh_map fun _ => sh_eP (by decide) _)) | exact (sh_lst (n := 59) (sh_map fun _ => sh_eC (by decide) _)) | exact (sh_lst (n := 59) (sh_map fun _ => sh_eL (by decide) _)) | exact (sh_lst (n := 59) (sh_map fun _ => sh_int _)) | exact (sh_lst (n := 59) sh_nil) | exact (sh_tup (n := 59) sh_nil) | exact sh_tup (n := 59) (sh_cons (sh_int _) (sh_cons (sh_int _) sh_nil)) | exact sh_lst (n := 59) (sh_map fun _ => sh_tup (n := 58) (sh_cons (sh_int _) (sh_cons (sh_int _) sh_nil))) | fail)
local macro_rules | `(tactic| walk_at "al") => `(tactic| first | rfl | simp [PySem.W.alike, PySem.W.alikeAll, eP] | fail)
local macro_rules | `(tactic| walk_at "nn") => `(tactic| intro z; cases z)
def lawPair (a b : Pl × Int) : Bool := ltP a.1 b.1 && (!decide (a.2 = b.2) && nextTo a.1 b.1)
def lawF1 (rows : List (Pl × Int)) (a : Pl × Int) : List (Pl × Pl) := (rows.filter fun b => lawPair a b).map fun b => (a.1, b.1)
def lawFences (m : List (List Int)) (t : List Int) : List (Pl × Pl) := srt eF ((((lawCells m).zip t).map (lawF1 ((lawCells m).zip t))).flatten)
section
variable {T : Tx} (h : Top T)
include h
def R__law_fences : List Ar → Ar → Prop := fun as r => ∃ m : List (List Int), ∃ t : List Int, as = [.d (eM m), .d (eR t)] ∧ (VM m) ∧ ((lawCells m).length = t.length) ∧ (t.length ≤ 5) ∧ r = .l ((lawFences m t).map eF)
theorem fn__law_fences : Fn T "_law_fences" 3 (spA R__law_fences) := by
  refine fn_mkA h.d__law_fences sc__law_fences (fun rs r ⟨_, _, e, _⟩ => by subst e; rfl) (fun _ _ _ _ _ _ us hl => match us, hl with | [_, _], _ => rfl) fun X c vs H rs r Q hv ⟨m, t, e1, z, zl, zn, e2⟩ hQ => ?_
  subst e1; subst e2
  obtain ⟨v1, v2, rfl, h1, h2⟩ := reps2 hv
  have b := c.toBCx
  obtain ⟨a0, x0, e0, _, _⟩ := Im.isTup (show Im H v2 (.tuple (t.map .int)) from h2)
  refine jss_cons (js_ifF0 (jt_cmp (cm_isV (v := v2)) (jv_var (i := 1) b rfl (by decide +kernel) rfl) ja_non) (by rw [e0]; rfl) rfl1 fun H1 s1 => ?_)
  refine jss_cons (js_setB c (i := 2) rfl (by decide +kernel) (ja_listzip b (by decide +kernel) h.f_list (by decide +kernel) h.f_zip (ja_call b (fn__law_cells h) (by decide) (by decide +kernel) (jrs_cons (jr_var (r := .d _) (i := 0) b rfl (by decide +kernel) rfl h1) jrs_nil) ⟨_, rfl, (by walk_at "pc"), rfl⟩) (jr_var (r := .d _) (i := 1) b rfl (by decide +kernel) rfl h2) zl (by omega)) s1 fun v B1 H2 g q => ?_)
  obtain ⟨pr, rfl, q⟩ := q
  generalize hrows : (lawCells m).zip t = rows at q
  have lr : rows.length ≤ 5 := by rw [← hrows, List.length_zip]; omega
  refine jss_cons (js_set c (i := 3) rfl (by decide +kernel) (ja_lst jds_nil) g.ins fun v H3 s3 q3 => ?_)
  obtain ⟨p6, rfl, n6, us, h5, h6⟩ := q3
  cases h6
  have nB : B1 p6 = none := g.ins.free n6
  refine jss_cons (js_forA b (src_list (jlb_var (jv_var (i := 2) b rfl (by decide +kernel) rfl) q)) (g.ins.trans s3) p6 (fun i => ((rows.take i).map (lawF1 rows)).flatten.map eF) (fun i σ' => ∃ w4 w5 w6 w7, σ' = [some v1, some v2, some (.ref pr), some (.ref p6), w4, w5, w6, w7]) ⟨nB, [], h5, .nil⟩ ⟨_, _, _, _, rfl⟩ ?_ ?_)
  · rintro B2 s i d σ' H' v Bi hd t1 t2 fl ⟨w4, w5, w6, w7, rfl⟩ hv
    obtain ⟨x, hr, rfl⟩ := of_map_at hd
    have hv : Im Bi v (.tuple [eP x.1, .int x.2]) := hv
    obtain ⟨phv, v1_0, v1_1, rfl, hphv, hv_0, hv_1⟩ := im2 hv
    refine (tgt_tup b hphv rfl (tgts_cons (tgt_name (i := 4) c rfl (by decide +kernel)) (tgts_cons (tgt_name (i := 5) c rfl (by decide +kernel)) (tgts_nil)))) _ _ t2 ?_
    have q2 : Ls Bi pr (rows.map eKN) := q.up (s.trans t1)
    refine jss_one (js_forA b (src_list (jlb_var (jv_var (i := 2) b rfl (by decide +kernel) rfl) q2)) t2 p6 (fun j => (((rows.take i).map (lawF1 rows)).flatten ++ ((rows.take j).filter fun y => lawPair x y).map fun y => (x.1, y.1)).map eF) (fun j σ' => ∃ w6 w7, σ' = [some v1, some v2, some (.ref pr), some (.ref p6), some v1_0, some v1_1, w6, w7]) (by simpa using fl) ⟨_, _, rfl⟩ ?_ ?_)
    · rintro B3 s3 j d2 σ'' H'' v' Bj hd2 t3 t4 fl2 ⟨w6, w7, rfl⟩ hv2
      obtain ⟨y, hr2, rfl⟩ := of_map_at hd2
      have hv2 : Im Bj v' (.tuple [eP y.1, .int y.2]) := hv2
      obtain ⟨phv2, v2_0, v2_1, rfl, hphv2, hv2_0, hv2_1⟩ := im2 hv2
      refine (tgt_tup b hphv2 rfl (tgts_cons (tgt_name (i := 6) c rfl (by decide +kernel)) (tgts_cons (tgt_name (i := 7) c rfl (by decide +kernel)) (tgts_nil)))) _ _ t4 ?_
      have hc : (PySem.W.dataLt (eP x.1) (eP y.1) && (!PyData.eqv (.int x.2) (.int y.2) && nextTo x.1 y.1)) = lawPair x y := by
        simp [lawPair, ltP, eqv_int]
      refine jss_one (js_if (show JT X _ _ Bj (lawPair x y) from hc ▸ (JW.t (jw_and (jt_ltD b (jr_var (r := .d _) (i := 4) b rfl (by decide +kernel) rfl (hv_0.up (s3.trans t3))) (jr_var (r := .d _) (i := 6) b rfl (by decide +kernel) rfl hv2_0) (by walk_at "sh") (by walk_at "al") (by walk_at "nn")) fun hb3 => jw_and (jt_ne (r := .d _) (q := .d _) b (jr_var (r := .d _) (i := 5) b rfl (by decide +kernel) rfl (hv_1.up (s3.trans t3))) (jr_var (r := .d _) (i := 7) b rfl (by decide +kernel) rfl hv2_1) (by walk_at "sh") (by walk_at "sh")) fun hb4 => jw_and1 (jt_of_ja (ja_call b (fn__law_next_to h) (by decide) (by decide +kernel) (jrs_cons (jr_var (r := .d _) (i := 4) b rfl (by decide +kernel) rfl (hv_0.up (s3.trans t3))) (jrs_cons (jr_var (r := .d _) (i := 6) b rfl (by decide +kernel) rfl hv2_0) jrs_nil)) ⟨_, _, rfl, rfl⟩))))) t4 (fun hp H5 s5 => ?_) fun hp H5 s5 => jss_nil ⟨Bj, t3, t4.trans s5, ?_, _, _, rfl⟩)
      · have fl5 : Fl p6 ((((rows.take i).map (lawF1 rows)).flatten ++ ((rows.take j).filter fun y => lawPair x y).map fun y => (x.1, y.1)).map eF) Bj H5 := ⟨fl2.1, let ⟨us, z1, z2⟩ := fl2.2; ⟨us, s5 _ _ z1, z2⟩⟩
        refine jss_one (js_appF (d := eF (x.1, y.1)) b (jv_var (i := 3) b rfl (by decide +kernel) rfl) (t4.trans s5) fl5 (ja_tup (jds_cons (jr_var (r := .d _) (i := 4) b rfl (by decide +kernel) rfl (hv_0.up (s3.trans t3))) (jds_cons (jr_var (r := .d _) (i := 6) b rfl (by decide +kernel) rfl hv2_0) jds_nil))) ?_ fun B6 H6 s6 s7 hF6 => ⟨B6, t3.trans s6, s7, ?_, _, _, rfl⟩)
        · have zg := flat_len 5 ((rows.take i).map (lawF1 rows)) fun l hl => by
            obtain ⟨y, _, rfl⟩ := List.mem_map.mp hl
            rw [lawF1, List.length_map]
            exact Nat.le_trans (List.length_filter_le _ _) lr
          have l2 : ((rows.take j).filter fun y => lawPair x y).length ≤ 5 := Nat.le_trans (List.length_filter_le _ _) (by rw [List.length_take]; omega)
          rw [List.length_map, List.length_take] at zg
          rw [List.length_map, List.length_append, List.length_map]
          omega
        · rw [take_at hr2, List.filter_append, List.filter_cons, if_pos (by rw [hp])]
          simpa [List.map_append, List.append_assoc] using hF6
      · rw [take_at hr2, List.filter_append, List.filter_cons, if_neg (by rw [hp]; decide), List.filter_nil, List.append_nil]
        exact ⟨fl2.1, let ⟨us, z1, z2⟩ := fl2.2; ⟨us, s5 _ _ z1, z2⟩⟩
    · rintro σ'' H'' Bj t3 t4 fl2 ⟨w6, w7, rfl⟩
      refine ⟨Bj, t1.trans t3, t4, ?_, _, _, _, _, rfl⟩
      rw [List.length_map, List.take_length] at fl2
      rw [take_at hr, List.map_append, List.flatten_append]
      simpa [lawF1] using fl2
  · rintro σ' H' Bi t1 t2 ⟨f1, us, f2, f3⟩ ⟨w4, w5, w6, w7, rfl⟩
    rw [List.length_map, List.take_length] at f3
    refine jss_one (js_ret (ja_sorted (enc := eF) (bs := (rows.map (lawF1 rows)).flatten) b (by decide +kernel) h.f_sorted (jr_var (r := .l _) (i := 3) b rfl (by decide +kernel) rfl ⟨p6, rfl, us, f2, f3.up t2⟩) (sok_eF _) dep_eF) rfl1 (rqs (g.base.trans (t1.trans t2)) hQ (by rw [← hrows]; rfl)))
end
end Mead

set_option maxRecDepth 100000
set_option maxHeartbeats 4000000
/-! defs that may raise: their context, their promises, raise, calls -/
namespace Mead
open PySem PySem.Spec PyProof.Rows L2
section
variable {X : Cx} {e tg : Expr} {es tgs : List Expr} {st : Stmt} {sts : List Stmt} {σ : L2.St} {H : Hp}
theorem je_nox {Q : VK} (h : jE X.nox e σ H Q) : jE X e σ H Q := je_of (PE.nox pe_j) h
theorem jt_nox {Q : Bool → Hp → Prop} (h : jT X.nox e σ H Q) : jT X e σ H Q := jt_of (PT.nox pt_j) h
theorem jss_nox {D : Ends} (h : jSs X.nox sts D σ H) : jSs X sts D σ H := jss_of (PSs.nox pss_j) h
theorem js_nox {D : Ends} (h : jS X.nox st D σ H) : jS X st D σ H := fun pins s I =>
  wpAny_mono (h pins s (I.wish _)) (fun _ _ q => SP.unwish q) fun _ _ z => False.elim z
theorem ja_nox {Q : List V → Hp → Prop} (h : jA X.nox es σ H Q) : jA X es σ H Q := fun pos pins s I =>
  wpAny_mono (h pos pins s (I.wish _)) (fun _ _ ⟨v, H', I', r, q⟩ => ⟨v, H', I'.unwish, r, q⟩) fun _ _ z => False.elim z
theorem jg_nox {v : V} {Q : L2.St → Hp → Prop} (h : jG X.nox tg v σ H Q) : jG X tg v σ H Q := fun pins s u I r =>
  wpAny_mono (h pins s u (I.wish _) r) (fun _ _ ⟨σ', H', I', q⟩ => ⟨σ', H', I'.unwish, q⟩) fun _ _ z => False.elim z
theorem pi_nox {iter : Expr} {wi : TI} (h : PI X.nox tg iter wi) : PI X tg iter wi := ⟨fun pins s σ H R I q =>
  wpAny_mono (h.run pins s σ H R (I.wish _) q) (fun _ _ z => wpAny_mono z (fun _ _ ⟨it, fp, tn, J, H', e, I', t, r⟩ => ⟨it, fp, tn, J, H', e, I'.unwish, t, r⟩) fun _ _ z => False.elim z) fun _ _ z => False.elim z⟩
end
/-- a body that may raise: what is wished of an exception -/
structure RCx (T : Tx) (N : List Str) (sc : Scope) (k : Nat) (W : WX) (X : Cx) : Prop where
  b : BCx T N sc k X.nox
  tk : Takes X W
  ps : PassesOwn (model X.prog X.w) X.A X.env X.xe
theorem BCx.nox_eq {T : Tx} {N : List Str} {sc : Scope} {k : Nat} {X : Cx} (c : BCx T N sc k X) : X.nox = X := by
  have h := c.xe
  cases X
  simp only [Cx.nox, Cx.wish] at *
  rw [h]
theorem RCx.of {T : Tx} {N : List Str} {sc : Scope} {k : Nat} {X : Cx} (c : BCx T N sc k X) : RCx T N sc k (fun _ _ _ _ => False) X := ⟨by rw [c.nox_eq]; exact c, takes0, c.never⟩
/-- a def that may raise -/
def FnX (T : Tx) (x : Str) (k : Nat) (sp : Sp) : Prop :=
  ∃ f fd ps, FnOk T.P T.w T.K T.mg T.base (L2.CX T.P T.w) k f fd ps sp ∧ T.mg x = some (.ref f) ∧ PySem.W.keepIn T.K (.ref f) = true ∧ Binds T.K fd ps []
theorem fnx_ok {T : Tx} {x qual : Str} {st : Stmt} {f : Addr} {fd : FuncData} {N ps : List Str} {k : Nat} {sp : Sp} (F : FunD T.K x qual (defArgs st) (defBody st) (defScope st) [] [] f fd) (S : FnScope N ps (defScope st)) (len : ∀ vs H Q E, sp vs H Q E → vs.length = ps.length)
    (body : ∀ X E, RCx T N (defScope st) k (fun c d _ H => E c d H) X → (∀ z, X.nox.fn z = true) → ∀ vs H Q, sp vs H Q E → jSs X (defBody st) { nx := fun _ H' => Q .non H', rt := Q } (start N vs) H) :
    FnOk T.P T.w T.K T.mg T.base (L2.CX T.P T.w) (k + 1) f fd ps sp :=
  F.ok S len fun cdv A outer s H vs Q E hr h => ⟨_, pss_j, body _ E ⟨⟨rfl, rfl, rfl, rfl, rfl, rfl, rfl, rfl, S.kind, S.nd, hr, rfl⟩, takes_of rfl rfl rfl rfl, passes_of rfl⟩ (fun _ => rfl) vs H Q h⟩
theorem fnx_mk {T : Tx} {x : Str} {st : Stmt} {N ps : List Str} {k : Nat} {sp : Sp} (D : Def T x st) (S : FnScope N ps (defScope st)) (len : ∀ vs H Q E, sp vs H Q E → vs.length = ps.length)
    (hb : ∀ (kV doc pm : Value) (an : Option Addr) (cdv ct : Value) (us : List Value), us.length = ps.length → bindArgs (PySem.W.fnOf x x (defArgs st) (defBody st) (defScope st) .none kV doc pm an cdv ct) ⟨us, []⟩ = pure (ps.zip us))
    (body : ∀ X E, RCx T N (defScope st) k (fun c d _ H => E c d H) X → (∀ z, X.nox.fn z = true) → ∀ vs H Q, sp vs H Q E → jSs X (defBody st) { nx := fun _ H' => Q .non H', rt := Q } (start N vs) H) : FnX T x (k + 1) sp := by
  obtain ⟨f, fd, F, hm⟩ := D
  exact ⟨f, fd, ps, fnx_ok F S len body, hm, F.kp, F.bindsN hb⟩

/-! ### the refusals that are met -/
inductive Ex where
  | noParting
  | noHolder
  | tooMany (n : Int)
def Ex.cls : Ex → Str
  | .noParting => "NoParting"
  | .noHolder => "NoHolder"
  | .tooMany _ => "TooMany"
def Ex.word : Ex → Str
  | .noParting => "parting"
  | .noHolder => "holder"
  | .tooMany _ => "many"
def Ex.fields (d : Option Addr) (H : Hp) : Ex → Prop
  | .tooMany n => ∃ (dd : Addr) (fs : List (Str × V)), d = some dd ∧ H dd = some (.xd fs) ∧ fs.lookup ("many" : Str) = some (V.int n) ∧ fs.lookup ("most" : Str) = some (V.int 20)
  | _ => d = none
def ExIs (T : Tx) (x : Ex) (cls : Value) (d : Option Addr) (H : Hp) : Prop := ∃ C : Addr, T.mg x.cls = some (.ref C) ∧ cls = .ref C ∧ x.fields d H
/-- what comes out -/
inductive Out where
  | ret (r : Ar)
  | exc (x : Ex)
/-- a def over data that gives data or raises -/
def spR (T : Tx) (R : List Ar → Out → Prop) : Sp := fun vs H Q E => ∃ rs o, Reps H vs rs ∧ R rs o ∧ match o with
  | .ret r => ∀ v H', Same H H' → r.res H v H' → Q v H'
  | .exc x => ∀ cls d H', Same H H' → ExIs T x cls d H' → E cls d H'

section
variable {T : Tx} {N : List Str} {sc : Scope} {k : Nat} {W : WX} {X : Cx} {σ : L2.St} {B H : Hp} {a b e o : Expr} {es : List Expr} {st : Stmt} {sts body : List Stmt} {pos : Pos} {D : Ends} {x y d : PyData} {ds : List PyData}
theorem js_ifX {t : Expr} {p q : List Stmt} {i : Bool} (h : JT X.nox t σ B i) (hB : Same B H) (h1 : i = true → ∀ H1, Same H H1 → jSs X p D σ H1) (h2 : i = false → ∀ H1, Same H H1 → jSs X q D σ H1) : jS X (.If t p q pos) D σ H :=
  js_of (ps_if pt_j pss_j pss_j) (jt_mono (jt_nox (h H hB)) fun z H1 ⟨s, e⟩ => by
    rw [e]
    cases i with
    | true => exact iteT (h1 rfl H1 s)
    | false => exact iteF (h2 rfl H1 s))
theorem js_ifXF {t : Expr} {p : List Stmt} {i : Bool} (h : JT X.nox t σ B i) (hi : i = false) (hB : Same B H) (h2 : ∀ H1, Same H H1 → D.nx σ H1) : jS X (.If t p [] pos) D σ H :=
  js_ifX h hB (fun z => by rw [hi] at z; cases z) fun _ H1 s => jss_nil (h2 H1 s)
theorem js_ifXT {t : Expr} {p q : List Stmt} {i : Bool} (h : JT X.nox t σ B i) (hi : i = true) (hB : Same B H) (h1 : ∀ H1, Same H H1 → jSs X p D σ H1) : jS X (.If t p q pos) D σ H :=
  js_ifX h hB (fun _ => h1) fun z => by rw [hi] at z; cases z
/-- an own class of exceptions without own __init__ -/
structure XO (T : Tx) (x : Str) : Prop where
  ex : ∃ C : Addr, T.mg x = some (.ref C) ∧ PySem.W.excIn T.K C He.veBase "ValueError.__new__" = true ∧ PySem.W.keepIn T.K (.ref C) = true ∧ PySem.W.subIn T.K (.ref C) (.type "BaseException") = some true ∧ PySem.W.typeIn T.K (.ref C) = some (.type "type")
theorem js_raise (c : RCx T N sc k W X) {y' : Str} (F : XO T y') {m : Str} {j : Nat} {p p2 pos' : Pos} (hg : glo sc y' = true)
    (q : ∀ C : Addr, T.mg y' = some (.ref C) → W (.ref C) none σ H) : jS X (.Raise (some (.Call (.Name y' p) [.Constant (.str m) j p2] [] pos)) none pos') D σ H := by
  obtain ⟨C, e1, e2, e3, e4, e5⟩ := F.ex
  have hK : X.K = T.K := c.b.K
  refine js_of (ps_raise c.b.calm c.tk (pmk_own (X := X) (C := C) PySem.F.excBase_ValueError (by rw [hK]; exact e2) (by rw [show X.mg = T.mg from c.b.mg]; exact e1) (by rw [hK]; exact e3) (raises_own (by rw [hK]; exact e4) (by rw [hK]; exact e5)) (c.b.gl hg) (glo_of hg).2.1)) (q C e1)
/-- for, the body may raise -/
theorem js_forX (c : RCx T N sc k W X) {tg iter : Expr} (S : SRC X.nox tg iter σ B ds) (hB : Same B H)
    (h : ∀ B1 H1, Grow B H B1 H1 → ∃ Pv : Nat → L2.St → Hp → Prop, Pv 0 σ H1 ∧ (∀ i σ' H', Pv i σ' H' → Same B1 H') ∧
      (∀ i d σ' H' v B2 H'', ds[i]? = some d → Pv i σ' H' → Grow B1 H' B2 H'' → Im B2 v d → jG X.nox tg v σ' H'' fun σ2 H2 => jSs X body { D with nx := Pv (i + 1), ct := Pv (i + 1), bk := D.nx } σ2 H2) ∧
      (∀ σ' H', Pv ds.length σ' H' → D.nx σ' H'))
    (hf : ∀ z, foldedSetIterable iter X.env z = pure z := by intro _; rfl) : jS X (.For tg iter body [] pos) D σ H := by
  obtain ⟨wi, hi, hw⟩ := S
  refine js_of (ps_for c.ps c.b.calm (pi_nox hi) pg_j pss_j hf) (hw H hB _ fun J B1 H1 g w => ?_)
  obtain ⟨Pv, h0, hS, ht, hd⟩ := h B1 H1 g
  refine for_it w Pv h0 (fun i σ' H' _ p => hS i σ' H' p) (fun i v σ' H' H'' hi p ⟨s, d, h1, h2⟩ => ?_) hd
  have g2 := grow (hS i σ' H' p) s
  exact jg_nox (ht i d σ' H' v _ H'' h1 p g2 (h2.tk g2.tk))
theorem ja_call0 (h : JRs X es σ B rs) (hB : Same B H) {Q : List V → Hp → Prop} (q : ∀ vs H1, Same H H1 → Reps H1 vs rs → Q vs H1) : jA X es σ H Q := ja_mono (h H hB) fun vs H1 ⟨s, r⟩ => q vs H1 s r
/-- a call that may raise -/
theorem jx_call (c : RCx T N sc k W X) {f : Str} {j : Nat} {sp : Sp} {p : Pos} {rs : List Ar} {E : XK} {Q : VK} (F : FnX T f j sp) (hk : j ≤ k) (hg : glo sc f = true) (ha : JRs X.nox (e :: es) σ B rs) (hB : Same B H)
    (hE : ∀ cls d σ' H', E cls d H' → W cls d σ' H') (h : ∀ vs H1, Same H H1 → Reps H1 vs rs → sp vs H1 Q E)
    (he : starEach (e :: es) X.env = (false, eval e X.env) :: starEach es X.env := by rfl) (hpl : (backTo pos (starEach es X.env)).any (·.1) = false := by rfl) : jE X (.Call (.Name f p) (e :: es) [] pos) σ H Q := by
  obtain ⟨fa, fd, ps, F, hm, hkp, hb⟩ := F
  have F' : FnOk X.prog X.w X.K X.mg X.base (L2.CX X.prog X.w) k fa fd ps sp := by
    rw [show X.prog = T.P from c.b.prog, show X.w = T.w from c.b.w, show X.K = T.K from c.b.K, show X.mg = T.mg from c.b.mg, show X.base = T.base from c.b.base]
    exact F.mono hk
  exact je_of (pe_call F' c.b.room (c.b.gl hg) (by rw [show X.mg = T.mg from c.b.mg]; exact hm) (by rw [show X.K = T.K from c.b.K]; exact hkp) (by rw [show X.K = T.K from c.b.K]; exact hb) .nil (passes_call c.tk hE) pa_j (glo_of hg).2.1 he hpl)
    (ja_call0 (fun H1 s => ja_nox (ha H1 s)) hB fun vs H1 s r => by
      rw [List.append_nil]
      exact h vs H1 s r)
/-- a call of a def over data, that may raise -/
theorem jx_callR (c : RCx T N sc k W X) {f : Str} {j : Nat} {R : List Ar → Out → Prop} {p : Pos} {rs : List Ar} {o : Out} {Q : VK} (F : FnX T f j (spR T R)) (hk : j ≤ k) (hg : glo sc f = true) (ha : JRs X.nox (e :: es) σ B rs) (hB : Same B H) (hR : R rs o)
    (hret : ∀ r, o = .ret r → ∀ v H', Same H H' → r.res H v H' → Q v H') (hexc : ∀ x, o = .exc x → ∀ cls d σ' H', Same H H' → ExIs T x cls d H' → W cls d σ' H')
    (he : starEach (e :: es) X.env = (false, eval e X.env) :: starEach es X.env := by rfl) (hpl : (backTo pos (starEach es X.env)).any (·.1) = false := by rfl) : jE X (.Call (.Name f p) (e :: es) [] pos) σ H Q :=
  jx_call c (E := fun cls d H' => ∀ σ', W cls d σ' H') F hk hg ha hB (fun cls d σ' H' z => z σ') (fun vs H1 s r => ⟨rs, o, r, hR, by
    cases o with
    | ret r => exact fun v H' s2 q => hret r rfl v H' (s.trans s2) (Ar.res_back s q)
    | exc x => exact fun cls d H' s2 q σ' => hexc x rfl cls d σ' H' (s.trans s2) q⟩) he hpl
theorem js_retX {Q : VK} (h : jE X e σ H Q) (q : ∀ v H', Q v H' → D.rt v H') : jS X (.Return (some e) pos) D σ H := js_of (ps_ret pe_j) (je_mono h q)
end
end Mead

set_option maxRecDepth 100000
set_option maxHeartbeats 4000000
/-! TooMany made and raised -/
namespace Mead
open PySem PySem.Spec PyProof.Rows L2
theorem sc_tm : FnScope ["self", "many", "most"] ["self", "many", "most"] (defScope m_tm) := ⟨rfl, rfl, rfl, by decide +kernel, rfl, by decide +kernel, by decide +kernel⟩
/-- the class TooMany as the top leaves it -/
structure XTM (T : Tx) (C fI : Addr) : Prop where
  mg : T.mg "TooMany" = some (.ref C)
  o : OexC T.K C
  ini : PySem.W.findIn T.K (.ref C) "__init__" = some (some (.ref fI))
  ty : PySem.W.typeIn T.K (.ref fI) = some (.type "function")
  d : ∃ fd, FunD T.K "__init__" "TooMany.__init__" (defArgs m_tm) (defBody m_tm) (defScope m_tm) [] [] fI fd
  n1 : PySem.W.findIn T.K (.ref C) "many" = some none
  n2 : PySem.W.findIn T.K (.ref C) "most" = some none
def sp_tm (C : Addr) : Sp := fun vs H Q _ => ∃ (a : Addr) (v1 v2 : V), vs = [.ref a, v1, v2] ∧ H a = some (exo a C none) ∧ ∀ dx, H dx = none → dx ≠ a → Q .non (upd (upd (upd H dx (exd dx [("many", v1)])) a (exo a C (some dx))) dx (exd dx [("most", v2), ("many", v1)]))
theorem fn_tm {T : Tx} {C fI : Addr} (Z : XTM T C fI) {k : Nat} : ∃ fd, FnOk T.P T.w T.K T.mg T.base (L2.CX T.P T.w) (k + 1) fI fd ["self", "many", "most"] (sp_tm C) ∧ Binds T.K fd ["self", "many", "most"] [] := by
  obtain ⟨fd, F⟩ := Z.d
  refine ⟨fd, fnx_ok F sc_tm (fun vs H Q E ⟨_, _, _, e, _⟩ => by subst e; rfl) fun X E c hf vs H Q ⟨a, v1, v2, e, ha, hQ⟩ => ?_, F.bindsN (fun _ _ _ _ _ _ us hl => match us, hl with | [_, _, _], _ => rfl)⟩
  subst e
  have hK : X.K = T.K := c.b.K
  have j0 : ∀ {H : Hp} {pos : Pos}, jE X (.Name "self" pos) (start ["self", "many", "most"] [.ref a, v1, v2]) H fun v H1 => v = .ref a ∧ H1 = H := fun {H pos} => je_nox (je_of (pe_var (i := 0) (by rw [c.b.hN]; rfl) (c.b.vis (by decide +kernel)) rfl rfl) ⟨_, rfl, rfl, rfl⟩)
  have j1 : ∀ {H : Hp} {pos : Pos}, jE X (.Name "many" pos) (start ["self", "many", "most"] [.ref a, v1, v2]) H fun v H1 => v = v1 ∧ H1 = H := fun {H pos} => je_nox (je_of (pe_var (i := 1) (by rw [c.b.hN]; rfl) (c.b.vis (by decide +kernel)) rfl rfl) ⟨_, rfl, rfl, rfl⟩)
  have j2 : ∀ {H : Hp} {pos : Pos}, jE X (.Name "most" pos) (start ["self", "many", "most"] [.ref a, v1, v2]) H fun v H1 => v = v2 ∧ H1 = H := fun {H pos} => je_nox (je_of (pe_var (i := 2) (by rw [c.b.hN]; rfl) (c.b.vis (by decide +kernel)) rfl rfl) ⟨_, rfl, rfl, rfl⟩)
  refine jss_cons (js_of (ps_ost pe_j pe_j) (je_mono j1 fun v H1 ⟨e1, e2⟩ => je_mono j0 fun x H2 ⟨e3, e4⟩ => ?_))
  subst e1; subst e2; subst e3; subst e4
  refine ⟨a, C, rfl, by rw [hK]; exact Z.o, by rw [hK]; exact Z.n1, .inl ⟨ha, fun dx nd ne => ?_⟩⟩
  refine jss_one (js_of (ps_ost pe_j pe_j) (je_mono j2 fun v H1 ⟨e1, e2⟩ => je_mono j0 fun x H2 ⟨e3, e4⟩ => ?_))
  subst e1; subst e2; subst e3; subst e4
  exact ⟨a, C, rfl, by rw [hK]; exact Z.o, by rw [hK]; exact Z.n2, .inr ⟨dx, _, upd_same, by rw [upd_ne ne, upd_same], Nat.le_of_ble_eq_true rfl, hQ dx nd ne⟩⟩
theorem js_raiseTM {T : Tx} {N : List Str} {sc : Scope} {k : Nat} {W : WX} {X : Cx} {σ : L2.St} {B H : Hp} {e1 e2 : Expr} {pos pos' p : Pos} {D : Ends} {n : Int} {C fI : Addr} (c : RCx T N sc (k + 2) W X) (Z : XTM T C fI) (hg : glo sc "TooMany" = true)
    (ha : JRs X.nox [e1, e2] σ B [.d (.int n), .d (.int 20)]) (hB : Same B H) (q : ∀ cls d H', Same H H' → ExIs T (.tooMany n) cls d H' → W cls d σ H')
    (he : starEach [e1, e2] X.env = (false, eval e1 X.env) :: starEach [e2] X.env := by rfl) (hpl : (backTo pos (starEach [e2] X.env)).any (·.1) = false := by rfl) :
    jS X (.Raise (some (.Call (.Name "TooMany" p) [e1, e2] [] pos)) none pos') D σ H := by
  have hK : X.K = T.K := c.b.K
  have hm : X.mg = T.mg := c.b.mg
  have hP : X.prog = T.P := c.b.prog
  have hw : X.w = T.w := c.b.w
  have hb : X.base = T.base := c.b.base
  obtain ⟨fd, F, bd⟩ := fn_tm Z (k := k)
  have F' : FnOk X.prog X.w X.K X.mg X.base (L2.CX X.prog X.w) (k + 1) fI fd ["self", "many", "most"] (sp_tm C) := by rw [hP, hw, hK, hm, hb]; exact F
  refine js_of (ps_raise c.b.calm c.tk (pmk_oex (X := X) (C := C) (dvs := []) (by rw [hK]; exact Z.o) (by rw [hK]; exact Z.ini) (by rw [hK]; exact Z.ty) F' c.b.room (by rw [hK]; exact bd) .nil passL (c.b.gl hg) (by rw [hm]; exact Z.mg) pa_j (by decide) he hpl)) ?_
  refine ja_call0 (fun H1 s => ja_nox (ha H1 s)) hB fun vs H1 s1 hv => ?_
  have hl : vs.length = 2 := hv.len
  refine ⟨by omega, fun a na => ?_⟩
  cases hv with
  | cons q1 hv => cases hv with
    | cons q2 hv =>
      cases hv
      cases Im.isInt q1
      cases Im.isInt q2
      refine ⟨a, .int n, .int 20, rfl, upd_same, fun dx nd ne => ⟨rfl, dx, [("most", .int 20), ("many", .int n)], ?_, upd_same, ?_, ?_⟩⟩
      · rw [upd_ne (Ne.symm ne), upd_same]
      · rw [upd_ne ne] at nd
        exact nd
      · rw [upd_ne ne] at nd
        refine q _ _ _ (fun b o eb => ?_) ⟨C, Z.mg, rfl, dx, _, rfl, upd_same, rfl, rfl⟩
        have e1 := s1 b o eb
        have b1 : b ≠ a := ne_of_none e1 na
        have b2 : b ≠ dx := ne_of_none e1 nd
        rw [upd_ne b2, del_ne b1, upd_ne b2, upd_ne b1, upd_ne b2, upd_ne b1]
        exact e1
end Mead

set_option maxRecDepth 100000
set_option maxHeartbeats 4000000
namespace Mead
open PySem PySem.Spec PyProof.Rows L2
local macro_rules | `(tactic| walk_at "hl") => `(tactic| first | assumption | omega | (simp only [List.length_map]; omega) | exact Nat.le_of_ble_eq_true rfl | (simp only [List.length_map, List.length_mapIdx, List.length_range]; omega) | (simp only [List.length_mapIdx, List.length_map] at *; omega) | fail)
local macro_rules | `(tactic| walk_at "pc") => `(tactic| first | assumption | exact Nat.le_refl _ | omega)
local macro_rules | `(tactic| walk_at "sh") => `(tactic| first | exact sh_int _ | exact sh_bool _ | exact sh_none | exact sh_eP (by decide) _ | exact sh_eR (by decide) _ | exact sh_eL (by decide) _ | exact sh_eM (by decide) _ | exact sh_eC (by decide) _ | exact sh_eCs (by decide) _ | exact (sh_lst (n := 59) (sh_map fun _ => sh_eP (by decide) _)) | exact (sh_lst (n := 59) (sh_map fun _ => sh_eC (by decide) _)) | exact (sh_lst (n := 59) (sh_map fun _ => sh_eL (by decide) _)) | exact (sh_lst (n := 59) (sh_map fun _ => sh_int _)) | exact (sh_lst (n := 59) sh_nil) | exact (sh_tup (n := 59) sh_nil) | exact sh_tup (n := 59) (sh_cons (sh_int _) (sh_cons (sh_int _) sh_nil)) | exact sh_lst (n := 59) (sh_map fun _ => sh_tup (n := 58) (sh_cons (sh_int _) (sh_cons (sh_int _) sh_nil))) | fail)
local macro_rules | `(tactic| walk_at "al") => `(tactic| first | rfl | simp [PySem.W.alike, PySem.W.alikeAll, eP] | fail)
local macro_rules | `(tactic| walk_at "nn") => `(tactic| intro z; cases z)
/-! claims joined -/
def ownerOf (one other h : Int) : Int := if h = other then one else h
def joinKey (one other : Int) (c : Cl) : Pl := (ownerOf one other c.1, c.2.1)
def joinStep (one other : Int) (l : List (Pl × Int)) (c : Cl) : List (Pl × Int) := putL l (joinKey one other c) ((look l (joinKey one other c)).getD 0 + c.2.2)
def joinL (one other : Int) (cs : List Cl) : List (Pl × Int) := cs.foldl (joinStep one other) []
def joinedCs (one other : Int) (cs : List Cl) : List Cl := srt eC ((joinL one other cs).map clOf)
def joinOut (cs : List Cl) (one other : Int) : Out := if one = other then .exc .noHolder else match (joinedCs one other cs).find? (fun c => decide (20 < c.2.2)) with
  | some c => .exc (.tooMany c.2.2)
  | none => .ret (.d (eCs (joinedCs one other cs)))
theorem joinL_snoc (one other : Int) (cs : List Cl) (c : Cl) : joinL one other (cs ++ [c]) = joinStep one other (joinL one other cs) c := by
  unfold joinL
  rw [List.foldl_append]
  rfl
theorem foldl_ind {α β : Type} {f : β → α → β} {P : β → Prop} : ∀ (l : List α) (b : β), P b → (∀ b a, a ∈ l → P b → P (f b a)) → P (l.foldl f b)
  | [], _, h, _ => h
  | a :: l, b, h, k => foldl_ind l (f b a) (k b a List.mem_cons_self h) fun b a ha z => k b a (List.mem_cons_of_mem _ ha) z
theorem joinL_nodup (one other : Int) (cs : List Cl) : ((joinL one other cs).map Prod.fst).Nodup := foldl_ind (f := joinStep one other) (P := fun l : List (Pl × Int) => (l.map Prod.fst).Nodup) cs [] List.nodup_nil fun _ _ _ h => putL_nodup h
theorem joinL_len (one other : Int) : ∀ (cs : List Cl) (l : List (Pl × Int)), (cs.foldl (joinStep one other) l).length ≤ l.length + cs.length
  | [], l => by simp
  | c :: cs, l => by
    have h1 := joinL_len one other cs (joinStep one other l c)
    have h2 := (putL_len l (joinKey one other c) ((look l (joinKey one other c)).getD 0 + c.2.2)).1
    have h3 : (joinStep one other l c).length ≤ l.length + 1 := h2
    rw [List.foldl_cons, List.length_cons]
    omega
section
variable {T : Tx} (h : Top T)
include h
def R_joined : List Ar → Out → Prop := fun as o => ∃ cs : List Cl, ∃ one other : Int, as = [.d (eCs cs), .d (.int one), .d (.int other)] ∧ VCs cs ∧ one ∈ holdersIn cs ∧ other ∈ holdersIn cs ∧ o = joinOut cs one other
theorem fn_joined (hn : XO T "NoHolder") {C fI : Addr} (hz : XTM T C fI) : FnX T "joined" 7 (spR T R_joined) := by
  refine fnx_mk h.d_joined sc_joined (fun vs H Q E ⟨rs, o, hv, ⟨_, _, _, e, _⟩, _⟩ => by rw [hv.len, e]; rfl) (fun _ _ _ _ _ _ us hl => match us, hl with | [_, _, _], _ => rfl) fun X E c hf vs H Q ⟨rs, o, hv, ⟨cs, one, other, e1, zc, z1, z2, e2⟩, hQ⟩ => ?_
  subst e1
  obtain ⟨v1, v2, v3, rfl, h1, h2, h3⟩ := reps3 hv
  have b := c.b
  have d : DCx T _ _ _ X.nox := ⟨c.b, hf⟩
  cases Im.isInt h2
  cases Im.isInt h3
  have i2 : ∀ {H : Hp}, Im H (.int one) (.int one) := .int one
  have i3 : ∀ {H : Hp}, Im H (.int other) (.int other) := .int other
  refine jss_cons (js_nox (js_expr (ja_call b (fn_need_claims h) (by decide) (by decide +kernel) (jrs_cons (jr_var (r := .d _) (i := 0) b rfl (by decide +kernel) rfl h1) jrs_nil) ⟨_, rfl, (by walk_at "pc"), rfl⟩) rfl1 fun _ H1 s1 _ => jss_cons (js_nox (js_expr (ja_call b (fn_need_holder h) (by decide) (by decide +kernel) (jrs_cons (jr_var (r := .d _) (i := 0) b rfl (by decide +kernel) rfl h1) (jrs_cons (jr_var (r := .d _) (i := 1) b rfl (by decide +kernel) rfl i2) jrs_nil)) ⟨_, _, rfl, (by walk_at "pc"), (by walk_at "pc"), rfl⟩) s1 fun _ H2 s2 _ => jss_cons (js_nox (js_expr (ja_call b (fn_need_holder h) (by decide) (by decide +kernel) (jrs_cons (jr_var (r := .d _) (i := 0) b rfl (by decide +kernel) rfl h1) (jrs_cons (jr_var (r := .d _) (i := 2) b rfl (by decide +kernel) rfl i3) jrs_nil)) ⟨_, _, rfl, (by walk_at "pc"), (by walk_at "pc"), rfl⟩) (s1.trans s2) fun _ H3 s3 _ => ?_))))))
  have S3 := (s1.trans s2).trans s3
  refine jss_cons (js_ifX (jt_eq (r := .d _) (q := .d _) b (jr_var (r := .d _) (i := 1) b rfl (by decide +kernel) rfl i2) (jr_var (r := .d _) (i := 2) b rfl (by decide +kernel) rfl i3) (by walk_at "sh") (by walk_at "sh")) S3 (fun hb H4 s4 => ?_) fun hb H4 s4 => ?_)
  · have e : one = other := by simpa [Ar.pd, eqv_int] using hb
    refine jss_one (js_raise c hn (by decide +kernel) fun C hC => ?_)
    have eo : o = .exc .noHolder := by rw [e2, joinOut, if_pos e]
    rw [eo] at hQ
    exact hQ _ _ _ (S3.trans s4) ⟨C, hC, rfl, rfl⟩
  have ne : one ≠ other := by simpa [Ar.pd, eqv_int] using hb
  have S4 := S3.trans s4
  clear hb
  refine jss_nil (jss_cons (js_nox (js_set d (i := 3) rfl (by decide +kernel) ex_newT S4 fun v H5 s5 ⟨a, e, na, eH⟩ => ?_)))
  subst e; subst eH
  have nB : H a = none := S4.free na
  refine jss_cons (js_nox (js_for b (src_tup (jr_var (r := .d _) (i := 0) b rfl (by decide +kernel) rfl h1)) (S4.trans s5) fun B1 H6 g => ?_))
  have a1 : B1 a = none := g.out a _ nB upd_same (fun xs z => by cases z)
  refine ⟨fun i σ' H' => Same B1 H' ∧ H' a = some (.dT ((joinL one other (cs.take i)).map eKV)) ∧ ∃ w4 w5 w6 w7, σ' = [some v1, some (.int one), some (.int other), some (.ref a), w4, w5, w6, w7, none], ⟨g.ins, g.up _ _ upd_same, _, _, _, _, rfl⟩, fun i σ' H' z => z.1, ?_, ?_⟩
  · rintro i x σ' H' v B2 H'' hx ⟨t1, ha, w4, w5, w6, w7, rfl⟩ g2 hv
    obtain ⟨cl, hr, rfl⟩ := of_map_at hx
    have SB : Same H B2 := g.base.trans g2.base
    have hv : Im B2 v (.tuple [.int cl.1, .int cl.2.1, .int cl.2.2]) := hv
    obtain ⟨p9, v4, v5, v6, rfl, hp9, q4, q5, q6⟩ := im3 hv
    cases Im.isInt q4
    cases Im.isInt q5
    cases Im.isInt q6
    refine (tgt_tup b hp9 rfl (tgts_cons (tgt_name (i := 4) d rfl (by decide +kernel)) (tgts_cons (tgt_name (i := 5) d rfl (by decide +kernel)) (tgts_cons (tgt_name (i := 6) d rfl (by decide +kernel)) tgts_nil)))) _ _ g2.ins ?_
    have i4 : ∀ {H : Hp}, Im H (.int cl.1) (.int cl.1) := .int _
    have i5 : ∀ {H : Hp}, Im H (.int cl.2.1) (.int cl.2.1) := .int _
    have i6 : ∀ {H : Hp}, Im H (.int cl.2.2) (.int cl.2.2) := .int _
    have eo : (if PyData.eqv (.int cl.1) (.int other) = true then one else cl.1) = ownerOf one other cl.1 := by
      unfold ownerOf
      rw [eqv_int]
      by_cases hh : cl.1 = other <;> simp [hh]
    refine jss_cons (js_set d (i := 7) (P := fun _ v H => v = .int (ownerOf one other cl.1)) rfl (by decide +kernel) (EX.imp (ja_if (P := fun H1 v H2 => (Ar.d (.int (ownerOf one other cl.1))).res H1 v H2) (jt_eq (r := .d _) (q := .d _) b (jr_var (r := .d _) (i := 4) b rfl (by decide +kernel) rfl i4) (jr_var (r := .d _) (i := 2) b rfl (by decide +kernel) rfl i3) (by walk_at "sh") (by walk_at "sh")) (fun hb => ?_) (fun hb => ?_) (fun _ _ _ _ s q => Ar.res_back s q)) fun _ _ _ q => Im.isInt q) g2.ins fun v7 H7 s7 e7 => ?_)
    · have hb : PyData.eqv (.int cl.1) (.int other) = true := hb
      rw [if_pos hb] at eo
      rw [← eo]
      exact (jr_var (r := .d _) (i := 1) b rfl (by decide +kernel) rfl i2)
    · have hb : PyData.eqv (.int cl.1) (.int other) = false := hb
      rw [if_neg (by rw [hb]; decide)] at eo
      rw [← eo]
      exact (jr_var (r := .d _) (i := 4) b rfl (by decide +kernel) rfl i4)
    subst e7
    have i7 : ∀ {H : Hp}, Im H (.int (ownerOf one other cl.1)) (.int (ownerOf one other cl.1)) := .int _
    have ha7 : H7 a = some (.dT ((joinL one other (cs.take i)).map eKV)) := s7 _ _ (g2.up _ _ ha)
    have lenj := joinL_len one other (cs.take i) []
    rw [List.length_take, List.length_nil] at lenj
    have lenc := zc.len.2
    refine jss_one (js_dputT (p := joinKey one other cl) b rfl1 (P := fun _ v _ => v = .int ((look (joinL one other (cs.take i)) (joinKey one other cl)).getD 0 + cl.2.2))
      (EX.imp (ja_add (ja_dget2T (p := joinKey one other cl) (g := look (joinL one other (cs.take i)) (joinKey one other cl)) b (jv_var (i := 3) b rfl (by decide +kernel) rfl) (ja_tup (jds_cons (jr_var (r := .d _) (i := 7) b rfl (by decide +kernel) rfl i7) (jds_cons (jr_var (r := .d _) (i := 5) b rfl (by decide +kernel) rfl i5) jds_nil))) (ja_int (i := 0)) (.inl ha7) (valV_eKV _ _) ⟨rfl, rfl, rfl, rfl⟩) (jr_var (r := .d _) (i := 6) b rfl (by decide +kernel) rfl i6)) fun _ _ _ q => Im.isInt q)
      (jv_var (i := 3) b rfl (by decide +kernel) rfl) (ja_tup (jds_cons (jr_var (r := .d _) (i := 7) b rfl (by decide +kernel) rfl i7) (jds_cons (jr_var (r := .d _) (i := 5) b rfl (by decide +kernel) rfl i5) jds_nil))) ha7 (by rw [List.length_map]; unfold joinL; omega) fun u H8 s8 e8 H9 s9 => ?_)
    subst e8
    rw [put_eKV]
    refine ⟨fun b o eb => ?_, ?_, _, _, _, _, rfl⟩
    · have z1 := g2.ins _ _ (g2.base _ _ eb)
      rw [upd_ne (ne_of_none eb a1)]
      exact s9 _ _ (s8 _ _ (s7 _ _ z1))
    · rw [upd_same, take_at hr, joinL_snoc]
      rfl
  · rintro σ' H' ⟨t1, ha, w4, w5, w6, w7, rfl⟩
    rw [List.length_map, List.take_length] at ha
    have SB1 : Same H B1 := g.base
    generalize hl : joinL one other cs = l at ha
    have ln : (l.map Prod.fst).Nodup := by rw [← hl]; exact joinL_nodup one other cs
    have ll : l.length ≤ 12 := by
      have lenj := joinL_len one other cs []
      have lenc := zc.len.2
      rw [← hl]
      unfold joinL
      rw [List.length_nil] at lenj
      omega
    refine jss_freeze ha fun od => ?_
    have SB : Same B1 (upd H' a (.frz od (.dT (l.map eKV)))) := fun b o eb => by
      rw [upd_ne (ne_of_none eb a1)]
      exact t1 _ _ eb
    have SH : Same H (upd H' a (.frz od (.dT (l.map eKV)))) := SB1.trans SB
    refine jss_cons (js_nox (js_set d (i := 8) (P := fun _ v H => Im H v (eCs (srt eC (l.map clOf)))) rfl (by decide +kernel) (ja_tuple (ds := (srt eC (l.map clOf)).map eC) b (by decide +kernel) h.f_tuple (JA.toR (ja_sorted (enc := eC) (bs := l.map clOf) b (by decide +kernel) h.f_sorted (JA.toR (by
      rw [List.map_map]
      refine ja_lc0 (own := [("owner", 7), ("sort", 5), ("many", 6)]) b (src_itemsT (jv_var (i := 3) b rfl (by decide +kernel) rfl) upd_same) (by decide +kernel) (by omega) fun i x v B2 ha s hv => ?_
      obtain ⟨p1, xs, rfl, hp1, hx⟩ := Im.isTup hv
      obtain ⟨w1, w2, rfl, hw1, hw2⟩ := ima2 hx
      obtain ⟨p2, y1, y2, rfl, hp2, hy1, hy2⟩ := im2 (show Im B2 w1 (.tuple [.int x.1.1, .int x.1.2]) from hw1)
      refine ⟨_, by rfl, fun X' c' f' => ⟨tgt_tup c' hp1 rfl (tgts_cons (tgt_tup c' hp2 rfl (tgts_cons (tgt_nameB (i := 7) c' rfl (by decide +kernel)) (tgts_cons (tgt_nameB (i := 5) c' rfl (by decide +kernel)) tgts_nil))) (tgts_cons (tgt_nameB (i := 6) c' rfl (by decide +kernel)) tgts_nil)), ?_⟩⟩
      exact ja_tup (ds := [.int x.1.1, .int x.1.2, .int x.2]) (jds_cons (jr_var (r := .d _) (i := 7) c' rfl (by decide +kernel) rfl hy1) (jds_cons (jr_var (r := .d _) (i := 5) c' rfl (by decide +kernel) rfl hy2) (jds_cons (jr_var (r := .d _) (i := 6) c' rfl (by decide +kernel) rfl hw2) jds_nil))))) (sok_eC _) dep_eC))) rfl1 fun v H7 s7 q7 => ?_))
    have hjc : joinedCs one other cs = srt eC (l.map clOf) := by rw [joinedCs, hl]
    generalize hfs : srt eC (l.map clOf) = fs at q7 hjc
    have q7 : Im H7 v (.tuple (fs.map eC)) := q7
    refine jss_cons (js_forX c (B := H7) (src_tup (jr_var (r := .d _) (i := 8) b rfl (by decide +kernel) rfl q7)) rfl1 fun B2 H8 g2 => ?_)
    refine ⟨fun i σ' H' => Same B2 H' ∧ (∀ x ∈ fs.take i, ¬ 20 < x.2.2) ∧ ∃ w4 w5 w6 w7, σ' = [some v1, some (.int one), some (.int other), some (.ref a), w4, w5, w6, w7, some v], ⟨g2.ins, fun x hx => (by simp at hx), _, _, _, _, rfl⟩, fun i σ' H' z => z.1, ?_, ?_⟩
    · rintro i x σ' H9 v0 B3 H10 hx ⟨t1, hle, w4, w5, w6, w7, rfl⟩ g3 hv
      obtain ⟨cl, hr, rfl⟩ := of_map_at hx
      have hv : Im B3 v0 (.tuple [.int cl.1, .int cl.2.1, .int cl.2.2]) := hv
      obtain ⟨p9, v4, v5, v6, rfl, hp9, q4, q5, q6⟩ := im3 hv
      cases Im.isInt q4
      cases Im.isInt q5
      cases Im.isInt q6
      refine (tgt_tup b hp9 rfl (tgts_cons (tgt_name (i := 7) d rfl (by decide +kernel)) (tgts_cons (tgt_name (i := 5) d rfl (by decide +kernel)) (tgts_cons (tgt_name (i := 6) d rfl (by decide +kernel)) tgts_nil)))) _ _ g3.ins ?_
      have i6 : ∀ {H : Hp}, Im H (.int cl.2.2) (.int cl.2.2) := .int _
      have i20 : ∀ {H : Hp}, Im H (.int cl.2.2) (.int cl.2.2) := .int _
      have S10 : Same H H10 := SH.trans (s7.trans (g2.base.trans (g3.base.trans g3.ins)))
      refine jss_one (js_ifX (jt_cmp cm_gt (jr_var (r := .d _) (i := 6) b rfl (by decide +kernel) rfl i6) (ja_num b (by decide +kernel) h.n_MOST_RIGHTS)) g3.ins (fun hb H11 s11 => ?_) fun hb H11 s11 => jss_nil ⟨(g3.base.trans g3.ins).trans s11, ?_, _, _, _, _, rfl⟩)
      · have hb : 20 < cl.2.2 := of_decide_eq_true hb
        have ho : o = .exc (.tooMany cl.2.2) := by
          rw [e2, joinOut, if_neg ne, hjc]
          have ef : fs.find? (fun c => decide (20 < c.2.2)) = some cl := by
            rw [List.find?_eq_some_iff_append]
            obtain ⟨hi, e⟩ := List.getElem?_eq_some_iff.mp hr
            refine ⟨decide_eq_true hb, fs.take i, fs.drop (i + 1), ?_, fun y hy => ?_⟩
            · rw [← e]
              simp
            · have := hle y hy
              simpa using this
          rw [ef]
        rw [ho] at hQ
        exact jss_one (js_raiseTM c hz (by decide +kernel) (jrs_cons (jr_var (r := .d _) (i := 6) b rfl (by decide +kernel) rfl i6) (jrs_cons (ja_num b (by decide +kernel) h.n_MOST_RIGHTS) jrs_nil)) (g3.ins.trans s11) fun cls d H' s12 q => hQ cls d H' ((S10.trans s11).trans s12) q)
      · have hb : ¬ 20 < cl.2.2 := of_decide_eq_false hb
        intro y hy
        rw [take_at hr] at hy
        rcases List.mem_append.mp hy with hy | hy
        · exact hle y hy
        · have : y = cl := by simpa using hy
          rw [this]
          exact hb
    · rintro σ' H9 ⟨t1, hle, w4, w5, w6, w7, rfl⟩
      rw [List.length_map, List.take_length] at hle
      have ho : o = .ret (.d (eCs fs)) := by
        have ef : fs.find? (fun c => decide (20 < c.2.2)) = none := List.find?_eq_none.mpr fun y hy => by
          have := hle y hy
          simpa using this
        rw [e2, joinOut, if_neg ne, hjc, ef]
      rw [ho] at hQ
      have S9 : Same H H9 := SH.trans (s7.trans (g2.base.trans t1))
      exact jss_one (js_nox (js_ret (jv_var (v := v) (i := 8) b rfl (by decide +kernel) rfl) rfl1 fun v2 H2 s2 e => by
        subst e
        exact hQ _ _ (S9.trans s2) (q7.up ((g2.base.trans t1).trans s2))))
end
end Mead

set_option maxRecDepth 100000
set_option maxHeartbeats 4000000
/-! the Book: what it holds, its fields, its methods -/
namespace Mead
open PySem PySem.Spec PyProof.Rows L2
abbrev Stn := List Cl × Option (List Int)
structure Bk where
  mead : List (List Int)
  custom : List Int
  odd : Int
  houses : List Pl
  stood : Stn
  past : List Stn
def eSt (s : Stn) : PyData := .tuple [eCs s.1, optR s.2]
def ePa (l : List Stn) : PyData := .tuple (l.map eSt)
def bkFs (vm vc vo vh vs vp : V) : List (Str × V) := [("mead", vm), ("custom", vc), ("odd", vo), ("houses", vh), ("stood", vs), ("past", vp)]
/-- what the class says -/
structure BC (T : Tx) (C : Addr) : Prop where
  mg : T.mg "Book" = some (.ref C)
  cls : Cls T.K C
  n1 : NoAttr T.K C "mead"
  n2 : NoAttr T.K C "custom"
  n3 : NoAttr T.K C "odd"
  n4 : NoAttr T.K C "houses"
  n5 : NoAttr T.K C "stood"
  n6 : NoAttr T.K C "past"
/-- the book at p -/
structure BkF (C : Addr) (H : Hp) (p : Addr) (bk : Bk) (dx : Addr) (vm vc vo vh vs vp : V) : Prop where
  at_ : H p = some (.ins C dx (bkFs vm vc vo vh vs vp))
  m : Im H vm (eM bk.mead)
  c : Im H vc (eR bk.custom)
  o : Im H vo (.int bk.odd)
  h : Im H vh (eHs bk.houses)
  s : Im H vs (eSt bk.stood)
  p : Im H vp (ePa bk.past)
def BookAt (C : Addr) (H : Hp) (p : Addr) (bk : Bk) : Prop := ∃ dx vm vc vo vh vs vp, BkF C H p bk dx vm vc vo vh vs vp
theorem BookAt.up {C : Addr} {H H' : Hp} {p : Addr} {bk : Bk} (h : BookAt C H p bk) (s : Same H H') : BookAt C H' p bk := by
  obtain ⟨dx, vm, vc, vo, vh, vs, vp, f⟩ := h
  exact ⟨dx, vm, vc, vo, vh, vs, vp, s _ _ f.at_, f.m.up s, f.c.up s, f.o.up s, f.h.up s, f.s.up s, f.p.up s⟩
/-- all but the object at p stays -/
def Sbut (p : Addr) (H H' : Hp) : Prop := ∀ a o, a ≠ p → H a = some o → H' a = some o
theorem Sbut.of {p : Addr} {H H' : Hp} (s : Same H H') : Sbut p H H' := fun a o _ e => s a o e
theorem Sbut.trans {p : Addr} {H H1 H2 : Hp} (a : Sbut p H H1) (b : Sbut p H1 H2) : Sbut p H H2 := fun x o h e => b x o h (a x o h e)
theorem Sbut.tk {p C dx : Addr} {fs : List (Str × V)} {H H' : Hp} (s : Sbut p H H') (hp : H p = some (.ins C dx fs)) : TK H H' := fun a xs e => s a _ (fun z => by rw [z, hp] at e; cases e) e
theorem BookAt.ins {C : Addr} {H : Hp} {p : Addr} {bk : Bk} (h : BookAt C H p bk) : ∃ dx fs, H p = some (.ins C dx fs) := by
  obtain ⟨dx, vm, vc, vo, vh, vs, vp, f⟩ := h
  exact ⟨dx, _, f.at_⟩
theorem BookAt.tk {C p : Addr} {bk : Bk} {H H' : Hp} (h : BookAt C H p bk) (s : Sbut p H H') : TK H H' := by
  obtain ⟨dx, fs, e⟩ := h.ins
  exact s.tk e
/-- a method as the top leaves it -/
def DefM (T : Tx) (C : Addr) (m q : Str) (st : Stmt) : Prop := ∃ f fd, FunD T.K m q (defArgs st) (defBody st) (defScope st) [] [] f fd ∧ Meth T.K C m f
/-- a method that keeps a promise -/
def Mt (T : Tx) (C : Addr) (m : Str) (k : Nat) (sp : Sp) : Prop := ∃ f fd ps, FnOk T.P T.w T.K T.mg T.base (L2.CX T.P T.w) k f fd ps sp ∧ Meth T.K C m f ∧ Binds T.K fd ps []
theorem mt_mk {T : Tx} {C : Addr} {m q : Str} {st : Stmt} {N ps : List Str} {k : Nat} {sp : Sp} (D : DefM T C m q st) (S : FnScope N ps (defScope st)) (len : ∀ vs H Q E, sp vs H Q E → vs.length = ps.length)
    (hb : ∀ (kV doc pm : Value) (an : Option Addr) (cdv ct : Value) (us : List Value), us.length = ps.length → bindArgs (PySem.W.fnOf m q (defArgs st) (defBody st) (defScope st) .none kV doc pm an cdv ct) ⟨us, []⟩ = pure (ps.zip us))
    (body : ∀ X E, RCx T N (defScope st) k (fun c d _ H => E c d H) X → (∀ z, X.nox.fn z = true) → ∀ vs H Q, sp vs H Q E → jSs X (defBody st) { nx := fun _ H' => Q .non H', rt := Q } (start N vs) H) : Mt T C m (k + 1) sp := by
  obtain ⟨f, fd, F, hm⟩ := D
  exact ⟨f, fd, ps, fnx_ok F S len body, hm, F.bindsN hb⟩
/-- a method that only reads -/
def spP (C : Addr) (R : Bk → List Ar → Ar → Prop) : Sp := fun vs H Q _ => ∃ p ws rs bk r, vs = .ref p :: ws ∧ BookAt C H p bk ∧ Reps H ws rs ∧ R bk rs r ∧ ∀ v H', Same H H' → r.res H v H' → Q v H'
/-- a method that writes: the book behind it -/
def spU (T : Tx) (C : Addr) (R : Bk → List Ar → Out → Bk → Prop) : Sp := fun vs H Q E => ∃ p ws rs bk o bk', vs = .ref p :: ws ∧ BookAt C H p bk ∧ Reps H ws rs ∧ R bk rs o bk' ∧ match o with
  | .ret r => ∀ v H', Sbut p H H' → BookAt C H' p bk' → r.res H v H' → Q v H'
  | .exc x => ∀ cls d H', Sbut p H H' → BookAt C H' p bk' → ExIs T x cls d H' → E cls d H'
theorem spP_len {C : Addr} {R : Bk → List Ar → Ar → Prop} {n : Nat} (hR : ∀ bk rs r, R bk rs r → rs.length = n) : ∀ vs H Q E, spP C R vs H Q E → vs.length = n + 1 := fun vs H Q E ⟨p, ws, rs, bk, r, e, _, hv, h, _⟩ => by rw [e, List.length_cons, hv.len, hR _ _ _ h]
theorem spU_len {T : Tx} {C : Addr} {R : Bk → List Ar → Out → Bk → Prop} {n : Nat} (hR : ∀ bk rs o bk', R bk rs o bk' → rs.length = n) : ∀ vs H Q E, spU T C R vs H Q E → vs.length = n + 1 := fun vs H Q E ⟨p, ws, rs, bk, o, bk', e, _, hv, h, _⟩ => by rw [e, List.length_cons, hv.len, hR _ _ _ _ h]

section
variable {T : Tx} {N : List Str} {sc : Scope} {k : Nat} {W : WX} {X : Cx} {σ : L2.St} {B H : Hp} {a b e o : Expr} {es : List Expr} {st : Stmt} {sts body : List Stmt} {pos : Pos} {D : Ends} {x y d : PyData} {ds : List PyData} {C p : Addr} {bk : Bk}
theorem ja_fld (c : BCx T N sc k X) (Z : BC T C) {f : Str} {dx : Addr} {fs : List (Str × V)} {v : V} (ho : JV X o σ B (.ref p)) (hp : B p = some (.ins C dx fs)) (hl : fs.lookup f = some v) (hv : Im B v d) (hn : NoAttr T.K C f) (hb : attributeBase o f X.env (eval o X.env) = eval o X.env := by rfl) : JA X (.Attribute o f pos) σ B (.d d) := fun H1 s =>
  je_of (pe_fld pe_j hb) (je_mono (ho H1 s) fun u H2 ⟨s2, e2⟩ => ⟨p, C, dx, fs, v, e2, s2 _ _ (s _ _ hp), by rw [c.K]; exact Z.cls, by rw [c.K]; exact hn, hl, s2, hv.up (s.trans s2)⟩)
theorem ja_f_mead (c : BCx T N sc k X) (Z : BC T C) (ho : JV X o σ B (.ref p)) (hp : BookAt C B p bk) (hb : attributeBase o "mead" X.env (eval o X.env) = eval o X.env := by rfl) : JA X (.Attribute o "mead" pos) σ B (.d (eM bk.mead)) := by
  obtain ⟨dx, vm, vc, vo, vh, vs, vp, f⟩ := hp
  exact ja_fld c Z ho f.at_ rfl f.m Z.n1 hb
theorem ja_f_custom (c : BCx T N sc k X) (Z : BC T C) (ho : JV X o σ B (.ref p)) (hp : BookAt C B p bk) (hb : attributeBase o "custom" X.env (eval o X.env) = eval o X.env := by rfl) : JA X (.Attribute o "custom" pos) σ B (.d (eR bk.custom)) := by
  obtain ⟨dx, vm, vc, vo, vh, vs, vp, f⟩ := hp
  exact ja_fld c Z ho f.at_ rfl f.c Z.n2 hb
theorem ja_f_odd (c : BCx T N sc k X) (Z : BC T C) (ho : JV X o σ B (.ref p)) (hp : BookAt C B p bk) (hb : attributeBase o "odd" X.env (eval o X.env) = eval o X.env := by rfl) : JA X (.Attribute o "odd" pos) σ B (.d (.int bk.odd)) := by
  obtain ⟨dx, vm, vc, vo, vh, vs, vp, f⟩ := hp
  exact ja_fld c Z ho f.at_ rfl f.o Z.n3 hb
theorem ja_f_stood (c : BCx T N sc k X) (Z : BC T C) (ho : JV X o σ B (.ref p)) (hp : BookAt C B p bk) (hb : attributeBase o "stood" X.env (eval o X.env) = eval o X.env := by rfl) : JA X (.Attribute o "stood" pos) σ B (.d (eSt bk.stood)) := by
  obtain ⟨dx, vm, vc, vo, vh, vs, vp, f⟩ := hp
  exact ja_fld c Z ho f.at_ rfl f.s Z.n5 hb
theorem ja_f_past (c : BCx T N sc k X) (Z : BC T C) (ho : JV X o σ B (.ref p)) (hp : BookAt C B p bk) (hb : attributeBase o "past" X.env (eval o X.env) = eval o X.env := by rfl) : JA X (.Attribute o "past" pos) σ B (.d (ePa bk.past)) := by
  obtain ⟨dx, vm, vc, vo, vh, vs, vp, f⟩ := hp
  exact ja_fld c Z ho f.at_ rfl f.p Z.n6 hb
/-- o.f = e -/
theorem js_fld (c : BCx T N sc k X) (Z : BC T C) {f : Str} {dx : Addr} {fs : List (Str × V)} {p' : Pos} {P : Hp → V → Hp → Prop} (ho : JV X o σ B (.ref p)) (hB : Same B H) (hp : B p = some (.ins C dx fs)) (hn : NoAttr T.K C f) (hl : fs.length < 1000) (hv : EX X e σ B P)
    (q : ∀ v H1 H2, Same H H1 → P H v H1 → Same H1 H2 → D.nx σ (upd H2 p (.ins C dx (putF f v fs)))) (hs : swapsWith e (some (.Attribute o f p')) pos.line X.env = pure false := by rfl) : jS X (.Assign [.Attribute o f p'] e pos) D σ H :=
  js_of (ps_fld pe_j pe_j hs) (je_mono (hv H hB) fun v H1 ⟨s1, q1⟩ => je_mono (ho H1 (hB.trans s1)) fun u H2 ⟨s2, e2⟩ => ⟨p, C, dx, fs, e2, s2 _ _ (s1 _ _ (hB _ _ hp)), by rw [c.K]; exact Z.cls, by rw [c.K]; exact hn, hl, q v H1 H2 s1 q1 s2⟩)
theorem bkFs_none {vm vc vo vh vs vp : V} {m : Str} (h : m ∉ (["mead", "custom", "odd", "houses", "stood", "past"] : List Str)) : (bkFs vm vc vo vh vs vp).lookup m = none := by
  have g : ∀ {l : List (Str × V)}, m ∉ l.map (·.1) → l.lookup m = none := by
    intro l
    induction l with
    | nil => intro _; rfl
    | cons x l ih =>
      intro hm
      rw [List.map_cons, List.mem_cons, not_or] at hm
      obtain ⟨f, z⟩ := x
      rw [List.lookup_cons]
      have : (m == f) = false := by simpa using hm.1
      rw [this]
      exact ih hm.2
  exact g h
/-! ### calls -/
theorem jx_meth (c : RCx T N sc k W X) (Z : BC T C) {m : Str} {apos : Pos} {j : Nat} {sp : Sp} {rs : List Ar} {E : XK} {Q : VK} {pl : Sem Bool} (M : Mt T C m j sp) (hk : j ≤ k) (ho : JV X.nox o σ B (.ref p)) (ha : JRs X.nox (e :: es) σ B rs) (hB : Same B H) (hp : BookAt C H p bk) (hm : m ∉ (["mead", "custom", "odd", "houses", "stood", "past"] : List Str))
    (hE : ∀ cls d σ' H', E cls d H' → W cls d σ' H') (h : ∀ vs H1, Same H H1 → Reps H1 vs rs → sp (.ref p :: vs) H1 Q E)
    (hst : starEach (e :: es) X.env = (false, eval e X.env) :: starEach es X.env := by rfl) (hpl : (backTo pos (starEach es X.env)).any (·.1) = false := by rfl)
    (ht : eval (.Call (.Attribute o m apos) (e :: es) [] pos) X.env = (do
      let ov ← eval o X.env
      standAt apos.atName
      let (f, first) ← holding [ov] (getMethod ov m pl)
      callWith pos f first (backTo pos (starEach (e :: es) X.env)) (backToKw pos (keywordEach [] X.env))) := by rfl) : jE X (.Call (.Attribute o m apos) (e :: es) [] pos) σ H Q := by
  obtain ⟨fa, fd, ps, F, hm', hb⟩ := M
  have F' : FnOk X.prog X.w X.K X.mg X.base (L2.CX X.prog X.w) k fa fd ps sp := by
    rw [show X.prog = T.P from c.b.prog, show X.w = T.w from c.b.w, show X.K = T.K from c.b.K, show X.mg = T.mg from c.b.mg, show X.base = T.base from c.b.base]
    exact F.mono hk
  have hK : X.K = T.K := c.b.K
  refine je_of (pe_meth pe_j (by rw [hK]; exact Z.cls) (by rw [hK]; exact hm') F' c.b.room (by rw [hK]; exact hb) .nil (passes_call c.tk hE) pa_j hst hpl ht) (je_mono (je_nox (ho H hB)) fun u H1 ⟨s1, e1⟩ => ?_)
  obtain ⟨dx, vm, vc, vo, vh, vs, vp, f⟩ := hp
  refine ⟨p, dx, _, e1, s1 _ _ f.at_, bkFs_none hm, ja_call0 (fun H1 s => ja_nox (ha H1 s)) (hB.trans s1) fun vs H2 s2 r => ?_⟩
  rw [List.append_nil, e1]
  exact h vs H2 (s1.trans s2) r
theorem jx_meth0 (c : RCx T N sc k W X) (Z : BC T C) {m : Str} {apos : Pos} {j : Nat} {sp : Sp} {E : XK} {Q : VK} {pl : Sem Bool} (M : Mt T C m j sp) (hk : j ≤ k) (ho : JV X.nox o σ B (.ref p)) (hB : Same B H) (hp : BookAt C H p bk) (hm : m ∉ (["mead", "custom", "odd", "houses", "stood", "past"] : List Str))
    (hE : ∀ cls d σ' H', E cls d H' → W cls d σ' H') (h : ∀ H1, Same H H1 → sp [.ref p] H1 Q E)
    (ht : eval (.Call (.Attribute o m apos) [] [] pos) X.env = (do
      let ov ← eval o X.env
      standAt apos.atName
      let (f, first) ← holding [ov] (getMethod ov m pl)
      callWith pos f first (backTo pos (starEach [] X.env)) (backToKw pos (keywordEach [] X.env))) := by rfl) : jE X (.Call (.Attribute o m apos) [] [] pos) σ H Q := by
  obtain ⟨fa, fd, ps, F, hm', hb⟩ := M
  have F' : FnOk X.prog X.w X.K X.mg X.base (L2.CX X.prog X.w) k fa fd ps sp := by
    rw [show X.prog = T.P from c.b.prog, show X.w = T.w from c.b.w, show X.K = T.K from c.b.K, show X.mg = T.mg from c.b.mg, show X.base = T.base from c.b.base]
    exact F.mono hk
  have hK : X.K = T.K := c.b.K
  refine je_of (pe_meth0 pe_j (by rw [hK]; exact Z.cls) (by rw [hK]; exact hm') F' c.b.room (by rw [hK]; exact hb) .nil (passes_call c.tk hE) ht) (je_mono (je_nox (ho H hB)) fun u H1 ⟨s1, e1⟩ => ?_)
  obtain ⟨dx, vm, vc, vo, vh, vs, vp, f⟩ := hp
  refine ⟨p, dx, _, e1, s1 _ _ f.at_, bkFs_none hm, ?_⟩
  rw [e1]
  exact h H1 s1
/-- a reading method -/
theorem ja_mP (c : BCx T N sc k X.nox) (Z : BC T C) {m : Str} {apos : Pos} {j : Nat} {R : Bk → List Ar → Ar → Prop} {rs : List Ar} {r : Ar} {pl : Sem Bool} (M : Mt T C m j (spP C R)) (hk : j ≤ k) (ho : JV X.nox o σ B (.ref p)) (ha : JRs X.nox (e :: es) σ B rs) (hp : BookAt C B p bk) (hR : R bk rs r) (hm : m ∉ (["mead", "custom", "odd", "houses", "stood", "past"] : List Str) := by decide)
    (hst : starEach (e :: es) X.env = (false, eval e X.env) :: starEach es X.env := by rfl) (hpl : (backTo pos (starEach es X.env)).any (·.1) = false := by rfl)
    (ht : eval (.Call (.Attribute o m apos) (e :: es) [] pos) X.env = (do
      let ov ← eval o X.env
      standAt apos.atName
      let (f, first) ← holding [ov] (getMethod ov m pl)
      callWith pos f first (backTo pos (starEach (e :: es) X.env)) (backToKw pos (keywordEach [] X.env))) := by rfl) : JA X.nox (.Call (.Attribute o m apos) (e :: es) [] pos) σ B r := fun H1 s =>
  jx_meth (X := X.nox) (RCx.of c) Z M hk ho ha s (hp.up s) hm (E := E0) (fun _ _ _ _ z => z) (fun vs H2 s2 q => ⟨p, vs, rs, bk, r, rfl, hp.up (s.trans s2), q, hR, fun v H3 s3 z => ⟨s2.trans s3, Ar.res_back s2 z⟩⟩) hst hpl ht
theorem ja_mP0 (c : BCx T N sc k X.nox) (Z : BC T C) {m : Str} {apos : Pos} {j : Nat} {R : Bk → List Ar → Ar → Prop} {r : Ar} {pl : Sem Bool} (M : Mt T C m j (spP C R)) (hk : j ≤ k) (ho : JV X.nox o σ B (.ref p)) (hp : BookAt C B p bk) (hR : R bk [] r) (hm : m ∉ (["mead", "custom", "odd", "houses", "stood", "past"] : List Str) := by decide)
    (ht : eval (.Call (.Attribute o m apos) [] [] pos) X.env = (do
      let ov ← eval o X.env
      standAt apos.atName
      let (f, first) ← holding [ov] (getMethod ov m pl)
      callWith pos f first (backTo pos (starEach [] X.env)) (backToKw pos (keywordEach [] X.env))) := by rfl) : JA X.nox (.Call (.Attribute o m apos) [] [] pos) σ B r := fun H1 s =>
  jx_meth0 (X := X.nox) (RCx.of c) Z M hk ho s (hp.up s) hm (E := E0) (fun _ _ _ _ z => z) (fun H2 s2 => ⟨p, [], [], bk, r, rfl, hp.up (s.trans s2), .nil, hR, fun v H3 s3 z => ⟨s2.trans s3, Ar.res_back s2 z⟩⟩) ht
/-- a writing method -/
theorem jx_mU (c : RCx T N sc k W X) (Z : BC T C) {m : Str} {apos : Pos} {j : Nat} {R : Bk → List Ar → Out → Bk → Prop} {rs : List Ar} {ou : Out} {bk' : Bk} {Q : VK} {pl : Sem Bool} (M : Mt T C m j (spU T C R)) (hk : j ≤ k) (ho : JV X.nox o σ B (.ref p)) (ha : JRs X.nox (e :: es) σ B rs) (hB : Same B H) (hp : BookAt C H p bk) (hR : R bk rs ou bk')
    (hret : ∀ r, ou = .ret r → ∀ v H', Sbut p H H' → BookAt C H' p bk' → r.res H v H' → Q v H') (hexc : ∀ x, ou = .exc x → ∀ cls d σ' H', Sbut p H H' → BookAt C H' p bk' → ExIs T x cls d H' → W cls d σ' H')
    (hm : m ∉ (["mead", "custom", "odd", "houses", "stood", "past"] : List Str) := by decide)
    (hst : starEach (e :: es) X.env = (false, eval e X.env) :: starEach es X.env := by rfl) (hpl : (backTo pos (starEach es X.env)).any (·.1) = false := by rfl)
    (ht : eval (.Call (.Attribute o m apos) (e :: es) [] pos) X.env = (do
      let ov ← eval o X.env
      standAt apos.atName
      let (f, first) ← holding [ov] (getMethod ov m pl)
      callWith pos f first (backTo pos (starEach (e :: es) X.env)) (backToKw pos (keywordEach [] X.env))) := by rfl) : jE X (.Call (.Attribute o m apos) (e :: es) [] pos) σ H Q :=
  jx_meth c Z M hk ho ha hB hp hm (E := fun cls d H' => ∀ σ', W cls d σ' H') (fun _ _ σ' _ z => z σ') (fun vs H1 s1 q => ⟨p, vs, rs, bk, ou, bk', rfl, hp.up s1, q, hR, by
    cases ou with
    | ret r => exact fun v H' s2 z y => hret r rfl v H' ((Sbut.of s1).trans s2) z (Ar.res_back s1 y)
    | exc x => exact fun cls d H' s2 z y σ' => hexc x rfl cls d σ' H' ((Sbut.of s1).trans s2) z y⟩) hst hpl ht
theorem jx_mU0 (c : RCx T N sc k W X) (Z : BC T C) {m : Str} {apos : Pos} {j : Nat} {R : Bk → List Ar → Out → Bk → Prop} {ou : Out} {bk' : Bk} {Q : VK} {pl : Sem Bool} (M : Mt T C m j (spU T C R)) (hk : j ≤ k) (ho : JV X.nox o σ B (.ref p)) (hB : Same B H) (hp : BookAt C H p bk) (hR : R bk [] ou bk')
    (hret : ∀ r, ou = .ret r → ∀ v H', Sbut p H H' → BookAt C H' p bk' → r.res H v H' → Q v H') (hexc : ∀ x, ou = .exc x → ∀ cls d σ' H', Sbut p H H' → BookAt C H' p bk' → ExIs T x cls d H' → W cls d σ' H')
    (hm : m ∉ (["mead", "custom", "odd", "houses", "stood", "past"] : List Str) := by decide)
    (ht : eval (.Call (.Attribute o m apos) [] [] pos) X.env = (do
      let ov ← eval o X.env
      standAt apos.atName
      let (f, first) ← holding [ov] (getMethod ov m pl)
      callWith pos f first (backTo pos (starEach [] X.env)) (backToKw pos (keywordEach [] X.env))) := by rfl) : jE X (.Call (.Attribute o m apos) [] [] pos) σ H Q :=
  jx_meth0 c Z M hk ho hB hp hm (E := fun cls d H' => ∀ σ', W cls d σ' H') (fun _ _ σ' _ z => z σ') (fun H1 s1 => ⟨p, [], [], bk, ou, bk', rfl, hp.up s1, .nil, hR, by
    cases ou with
    | ret r => exact fun v H' s2 z y => hret r rfl v H' ((Sbut.of s1).trans s2) z (Ar.res_back s1 y)
    | exc x => exact fun cls d H' s2 z y σ' => hexc x rfl cls d σ' H' ((Sbut.of s1).trans s2) z y⟩) ht
end
end Mead

set_option maxRecDepth 100000
set_option maxHeartbeats 4000000
/-! the methods of the Book, as the top leaves them -/
namespace Mead
open PySem PySem.Spec PyProof.Rows L2
theorem sm___init__ : FnScope ["self", "mead", "custom", "odd", "houses"] ["self", "mead", "custom", "odd", "houses"] (defScope m___init__) := ⟨rfl, rfl, rfl, by decide +kernel, rfl, by decide +kernel, by decide +kernel⟩
theorem sm_fences : FnScope ["self", "numbers"] ["self", "numbers"] (defScope m_fences) := ⟨rfl, rfl, rfl, by decide +kernel, rfl, by decide +kernel, by decide +kernel⟩
theorem sm_turn : FnScope ["self", "claims", "numbers", "many"] ["self", "claims", "numbers"] (defScope m_turn) := ⟨rfl, rfl, rfl, by decide +kernel, rfl, by decide +kernel, by decide +kernel⟩
theorem sm_plea_by : FnScope ["self", "claims"] ["self", "claims"] (defScope m_plea_by) := ⟨rfl, rfl, rfl, by decide +kernel, rfl, by decide +kernel, by decide +kernel⟩
theorem sm_claim_anew : FnScope ["self", "claims", "best"] ["self", "claims"] (defScope m_claim_anew) := ⟨rfl, rfl, rfl, by decide +kernel, rfl, by decide +kernel, by decide +kernel⟩
theorem sm_lay : FnScope ["self", "claim"] ["self", "claim"] (defScope m_lay) := ⟨rfl, rfl, rfl, by decide +kernel, rfl, by decide +kernel, by decide +kernel⟩
theorem sm_deny : FnScope ["self", "claim"] ["self", "claim"] (defScope m_deny) := ⟨rfl, rfl, rfl, by decide +kernel, rfl, by decide +kernel, by decide +kernel⟩
theorem sm_merge : FnScope ["self", "one", "other"] ["self", "one", "other"] (defScope m_merge) := ⟨rfl, rfl, rfl, by decide +kernel, rfl, by decide +kernel, by decide +kernel⟩
theorem sm_part : FnScope ["self", "found"] ["self"] (defScope m_part) := ⟨rfl, rfl, rfl, by decide +kernel, rfl, by decide +kernel, by decide +kernel⟩
theorem sm_undo : FnScope ["self"] ["self"] (defScope m_undo) := ⟨rfl, rfl, rfl, by decide +kernel, rfl, by decide +kernel, by decide +kernel⟩
theorem sm_claims_now : FnScope ["self"] ["self"] (defScope m_claims_now) := ⟨rfl, rfl, rfl, by decide +kernel, rfl, by decide +kernel, by decide +kernel⟩
theorem sm_parting_now : FnScope ["self"] ["self"] (defScope m_parting_now) := ⟨rfl, rfl, rfl, by decide +kernel, rfl, by decide +kernel, by decide +kernel⟩
theorem sm_plea_now : FnScope ["self"] ["self"] (defScope m_plea_now) := ⟨rfl, rfl, rfl, by decide +kernel, rfl, by decide +kernel, by decide +kernel⟩
/-- the class and its methods -/
structure BM (T : Tx) (C : Addr) : Prop extends BC T C where
  d_fences : DefM T C "fences" "Book.fences" m_fences
  d_turn : DefM T C "turn" "Book.turn" m_turn
  d_plea_by : DefM T C "plea_by" "Book.plea_by" m_plea_by
  d_claim_anew : DefM T C "claim_anew" "Book.claim_anew" m_claim_anew
  d_lay : DefM T C "lay" "Book.lay" m_lay
  d_deny : DefM T C "deny" "Book.deny" m_deny
  d_merge : DefM T C "merge" "Book.merge" m_merge
  d_part : DefM T C "part" "Book.part" m_part
  d_undo : DefM T C "undo" "Book.undo" m_undo
  d_claims_now : DefM T C "claims_now" "Book.claims_now" m_claims_now
  d_parting_now : DefM T C "parting_now" "Book.parting_now" m_parting_now
  d_plea_now : DefM T C "plea_now" "Book.plea_now" m_plea_now
  init : ∃ f fd, FunD T.K "__init__" "Book.__init__" (defArgs m___init__) (defBody m___init__) (defScope m___init__) [] [] f fd ∧ Mk T.K C f
end Mead

set_option maxRecDepth 100000
set_option maxHeartbeats 4000000
namespace Mead
open PySem PySem.Spec PyProof.Rows L2
local macro_rules | `(tactic| walk_at "hl") => `(tactic| first | assumption | omega | (simp only [List.length_map]; omega) | exact Nat.le_of_ble_eq_true rfl | (simp only [List.length_map, List.length_mapIdx, List.length_range]; omega) | (simp only [List.length_mapIdx, List.length_map] at *; omega) | fail)
local macro_rules | `(tactic| walk_at "pc") => `(tactic| first | assumption | exact Nat.le_refl _ | omega)
local macro_rules | `(tactic| walk_at "sh") => `(tactic| first | exact sh_int _ | exact sh_bool _ | exact sh_none | exact sh_eP (by decide) _ | exact sh_eR (by decide) _ | exact sh_eL (by decide) _ | exact sh_eM (by decide) _ | exact sh_eC (by decide) _ | exact sh_eCs (by decide) _ | exact (sh_lst (n := 59) (sh_map fun _ => sh_eP (by decide) _)) | exact (sh_lst (n := 59) (sh_map fun _ => sh_eC (by decide) _)) | exact (sh_lst (n := 59) (sh_map fun _ => sh_eL (by decide) _)) | exact (sh_lst (n := 59) (sh_map fun _ => sh_int _)) | exact (sh_lst (n := 59) sh_nil) | exact (sh_tup (n := 59) sh_nil) | exact sh_tup (n := 59) (sh_cons (sh_int _) (sh_cons (sh_int _) sh_nil)) | exact sh_lst (n := 59) (sh_map fun _ => sh_tup (n := 58) (sh_cons (sh_int _) (sh_cons (sh_int _) sh_nil))) | fail)
local macro_rules | `(tactic| walk_at "al") => `(tactic| first | rfl | simp [PySem.W.alike, PySem.W.alikeAll, eP] | fail)
local macro_rules | `(tactic| walk_at "nn") => `(tactic| intro z; cases z)
/-! the Book's methods -/
def fencesO (m : List (List Int)) : Option (List Int) → List (Pl × Pl)
  | none => []
  | some t => fencesIn m t
def pleaBy (bk : Bk) (cs : List Cl) : Plea := ⟨bk.mead, bk.custom, cs, bk.odd⟩
def turned (bk : Bk) (cs : List Cl) (t : Option (List Int)) : Bk := { bk with stood := (cs, t), past := bk.past ++ [bk.stood] }
def manyOf (bk : Bk) (t : Option (List Int)) : Int := unlikeN (fencesO bk.mead bk.stood.2) (fencesO bk.mead t)
def LenO (m : List (List Int)) (t : Option (List Int)) : Prop := ∀ u, t = some u → u.length = (cellsIn m).length
theorem fencesO_len {m : List (List Int)} (z : VM m) : ∀ t, (fencesO m t).length ≤ 1000
  | none => by simp [fencesO]
  | some t => Nat.le_trans (fencesIn_len z.cells.2) (by decide)
section
variable {T : Tx} (h : Top T) {C : Addr} (hM : BM T C)
include h hM
def R_claims_now : Bk → List Ar → Ar → Prop := fun bk rs r => rs = [] ∧ r = .d (eCs bk.stood.1)
theorem mt_claims_now : Mt T C "claims_now" 2 (spP C R_claims_now) := by
  refine mt_mk hM.d_claims_now sm_claims_now (spP_len fun _ _ _ z => by rw [z.1]; rfl) (fun _ _ _ _ _ _ us hl => match us, hl with | [_], _ => rfl) fun X E c hf vs H Q ⟨p, ws, rs, bk, r, e, hp, hv, ⟨e1, e2⟩, hQ⟩ => ?_
  subst e; subst e1; subst e2
  cases hv
  have b := c.b
  have hZ := hM.toBC
  exact jss_nox (jss_one (js_ret (ja_ixT (ja_f_stood b hZ (jv_var (i := 0) b rfl (by decide +kernel) rfl) hp) (ja_int (i := 0)) rfl) rfl1 hQ))
def R_parting_now : Bk → List Ar → Ar → Prop := fun bk rs r => rs = [] ∧ r = .d (optR bk.stood.2)
theorem mt_parting_now : Mt T C "parting_now" 2 (spP C R_parting_now) := by
  refine mt_mk hM.d_parting_now sm_parting_now (spP_len fun _ _ _ z => by rw [z.1]; rfl) (fun _ _ _ _ _ _ us hl => match us, hl with | [_], _ => rfl) fun X E c hf vs H Q ⟨p, ws, rs, bk, r, e, hp, hv, ⟨e1, e2⟩, hQ⟩ => ?_
  subst e; subst e1; subst e2
  cases hv
  have b := c.b
  have hZ := hM.toBC
  exact jss_nox (jss_one (js_ret (ja_ixT (ja_f_stood b hZ (jv_var (i := 0) b rfl (by decide +kernel) rfl) hp) (ja_int (i := 1)) rfl) rfl1 hQ))
def R_plea_by : Bk → List Ar → Ar → Prop := fun bk rs r => ∃ cs, rs = [.d (eCs cs)] ∧ r = .d (ePl (pleaBy bk cs))
theorem mt_plea_by : Mt T C "plea_by" 2 (spP C R_plea_by) := by
  refine mt_mk hM.d_plea_by sm_plea_by (spP_len (n := 1) fun _ _ _ ⟨_, z, _⟩ => by rw [z]; rfl) (fun _ _ _ _ _ _ us hl => match us, hl with | [_, _], _ => rfl) fun X E c hf vs H Q ⟨p, ws, rs, bk, r, e, hp, hv, ⟨cs, e1, e2⟩, hQ⟩ => ?_
  subst e; subst e1; subst e2
  obtain ⟨v1, rfl, h1⟩ := reps1 hv
  have b := c.b
  have hZ := hM.toBC
  exact jss_nox (jss_one (js_ret (ja_tup (jds_cons (ja_f_mead b hZ (jv_var (i := 0) b rfl (by decide +kernel) rfl) hp) (jds_cons (ja_f_custom b hZ (jv_var (i := 0) b rfl (by decide +kernel) rfl) hp) (jds_cons (jr_var (r := .d _) (i := 1) b rfl (by decide +kernel) rfl h1) (jds_cons (ja_f_odd b hZ (jv_var (i := 0) b rfl (by decide +kernel) rfl) hp) jds_nil))))) rfl1 hQ))
def R_plea_now : Bk → List Ar → Ar → Prop := fun bk rs r => rs = [] ∧ r = .d (if bk.stood.1 = [] then .none else ePl (pleaBy bk bk.stood.1))
theorem mt_plea_now : Mt T C "plea_now" 3 (spP C R_plea_now) := by
  refine mt_mk hM.d_plea_now sm_plea_now (spP_len fun _ _ _ z => by rw [z.1]; rfl) (fun _ _ _ _ _ _ us hl => match us, hl with | [_], _ => rfl) fun X E c hf vs H Q ⟨p, ws, rs, bk, r, e, hp, hv, ⟨e1, e2⟩, hQ⟩ => ?_
  subst e; subst e1; subst e2
  cases hv
  have b := c.b
  have hZ := hM.toBC
  have ec : PyData.eqv (eCs bk.stood.1) (.tuple []) = decide (bk.stood.1 = []) := eqv_eCs bk.stood.1 []
  refine jss_nox (jss_cons (js_if (show JT X.nox _ _ H (decide (bk.stood.1 = [])) from ec ▸ (jt_eq (r := .d _) (q := .d _) b (ja_ixT (ja_f_stood b hZ (jv_var (i := 0) b rfl (by decide +kernel) rfl) hp) (ja_int (i := 0)) rfl) (ja_tup jds_nil) (by walk_at "sh") (by walk_at "sh"))) rfl1 (fun hb H1 s1 => ?_) fun hb H1 s1 => ?_))
  · have e : bk.stood.1 = [] := of_decide_eq_true hb
    rw [if_pos e] at hQ
    exact jss_one (js_ret ja_non s1 (rqs s1 hQ rfl))
  · have e : ¬ bk.stood.1 = [] := of_decide_eq_false hb
    rw [if_neg e] at hQ
    exact jss_nil (jss_one (js_ret (ja_mP b hZ (mt_plea_by h hM) (by decide) (jv_var (i := 0) b rfl (by decide +kernel) rfl) (jrs_cons (ja_ixT (ja_f_stood b hZ (jv_var (i := 0) b rfl (by decide +kernel) rfl) hp) (ja_int (i := 0)) rfl) jrs_nil) hp ⟨_, rfl, rfl⟩) s1 (rqs s1 hQ rfl)))
def R_fences : Bk → List Ar → Ar → Prop := fun bk rs r => ∃ t, rs = [.d (optR t)] ∧ VM bk.mead ∧ LenO bk.mead t ∧ r = .l ((fencesO bk.mead t).map eF)
theorem mt_fences : Mt T C "fences" 5 (spP C R_fences) := by
  refine mt_mk hM.d_fences sm_fences (spP_len (n := 1) fun _ _ _ ⟨_, z, _⟩ => by rw [z]; rfl) (fun _ _ _ _ _ _ us hl => match us, hl with | [_, _], _ => rfl) fun X E c hf vs H Q ⟨p, ws, rs, bk, r, e, hp, hv, ⟨t, e1, zm, zl, e2⟩, hQ⟩ => ?_
  subst e; subst e1; subst e2
  obtain ⟨v1, rfl, h1⟩ := reps1 hv
  have b := c.b
  have hZ := hM.toBC
  have y1 := zm.y1
  have y2 := zm.y2
  have y3 := zm.cells.2
  cases t with
  | none =>
    have e := Im.isNon h1
    subst e
    exact jss_nox (jss_cons (js_ifT (jt_cmp (cm_isV (v := .non)) (jv_var (i := 1) b rfl (by decide +kernel) rfl) ja_non) rfl rfl1 fun H1 s1 => jss_one (js_ret (ja_lst jds_nil) s1 (rqs s1 hQ rfl))))
  | some t =>
    have zl' := zl t rfl
    have h1 : Im H v1 (eR t) := h1
    obtain ⟨a0, x0, e0, _, _⟩ := Im.isTup (show Im H v1 (.tuple (t.map .int)) from h1)
    exact jss_nox (jss_cons (js_ifF0 (jt_cmp (cm_isV (v := v1)) (jv_var (i := 1) b rfl (by decide +kernel) rfl) ja_non) (by rw [e0]; rfl) rfl1 fun H1 s1 => jss_one (js_ret (ja_call b (fn_fences_in h) (by decide) (by decide +kernel) (jrs_cons (ja_f_mead b hZ (jv_var (i := 0) b rfl (by decide +kernel) rfl) hp) (jrs_cons (jr_var (r := .d _) (i := 1) b rfl (by decide +kernel) rfl h1) jrs_nil)) ⟨_, _, rfl, (by walk_at "pc"), (by walk_at "pc"), (by walk_at "pc"), (by walk_at "pc"), rfl⟩) s1 (rqs s1 hQ rfl))))
def R_turn : Bk → List Ar → Out → Bk → Prop := fun bk rs o bk' => ∃ cs t, rs = [.d (eCs cs), .d (optR t)] ∧ VM bk.mead ∧ LenO bk.mead bk.stood.2 ∧ LenO bk.mead t ∧ bk.past.length ≤ 1000 ∧ o = .ret (.d (.int (manyOf bk t))) ∧ bk' = turned bk cs t
theorem mt_turn : Mt T C "turn" 6 (spU T C R_turn) := by
  refine mt_mk hM.d_turn sm_turn (spU_len (n := 2) fun _ _ _ _ ⟨_, _, z, _⟩ => by rw [z]; rfl) (fun _ _ _ _ _ _ us hl => match us, hl with | [_, _, _], _ => rfl) fun X E c hf vs H Q ⟨p, ws, rs, bk, o, bk', e, hp, hv, ⟨cs, t, e1, zm, zl1, zl2, zp, e2, e3⟩, hQ⟩ => ?_
  subst e; subst e1; subst e2; subst e3
  obtain ⟨v1, v2, rfl, h1, h2⟩ := reps2 hv
  have b := c.b
  have d : DCx T _ _ _ X.nox := ⟨c.b, hf⟩
  have hZ := hM.toBC
  have w1 := fencesO_len zm
  refine jss_nox (jss_cons (js_set d (i := 3) rfl (by decide +kernel) (ja_call b (fn_unlike h) (by decide) (by decide +kernel) (jrs_cons (JA.toR (ja_mP b hZ (mt_fences h hM) (by decide) (jv_var (i := 0) b rfl (by decide +kernel) rfl) (jrs_cons (ja_ixT (ja_f_stood b hZ (jv_var (i := 0) b rfl (by decide +kernel) rfl) hp) (ja_int (i := 1)) rfl) jrs_nil) hp ⟨_, rfl, zm, by assumption, rfl⟩)) (jrs_cons (JA.toR (ja_mP b hZ (mt_fences h hM) (by decide) (jv_var (i := 0) b rfl (by decide +kernel) rfl) (jrs_cons (jr_var (r := .d _) (i := 2) b rfl (by decide +kernel) rfl h2) jrs_nil) hp ⟨_, rfl, zm, by assumption, rfl⟩)) jrs_nil)) ⟨_, _, rfl, (by exact w1 _), (by exact w1 _), rfl⟩) rfl1 fun v3 H1 s1 q3 => ?_))
  have e := Im.isInt (show Im H1 v3 (.int (manyOf bk t)) from q3)
  subst e
  have hp1 := hp.up s1
  obtain ⟨dx, vm, vc, vo, vh, vs, vp, f⟩ := id hp1
  refine jss_cons (js_fld b hZ (jv_var (i := 0) b rfl (by decide +kernel) rfl) rfl1 f.at_ hZ.n6 (Nat.le_of_ble_eq_true rfl) (ja_snocT (ja_f_past b hZ (jv_var (i := 0) b rfl (by decide +kernel) rfl) hp1) (ja_tup (jds_cons (ja_f_stood b hZ (jv_var (i := 0) b rfl (by decide +kernel) rfl) hp1) jds_nil)) (by omega)) fun v4 H2 H3 s2 q4 s3 => ?_)
  have tk3 : TK H3 (upd H3 p (.ins C dx (bkFs vm vc vo vh vs v4))) := TK.mut (s3 _ _ (s2 _ _ f.at_)) (fun xs z => by cases z)
  have S3 := s2.trans s3
  have q4 : Im H2 v4 (ePa (bk.past ++ [bk.stood])) := q4
  have e4 : putF "past" v4 (bkFs vm vc vo vh vs vp) = bkFs vm vc vo vh vs v4 := rfl
  rw [e4]
  have h1' : Im (upd H3 p (.ins C dx (bkFs vm vc vo vh vs v4))) v1 (eCs cs) := ((h1.up s1).up S3).tk tk3
  have h2' : Im (upd H3 p (.ins C dx (bkFs vm vc vo vh vs v4))) v2 (optR t) := ((h2.up s1).up S3).tk tk3
  refine jss_cons (js_fld (B := upd H3 p (.ins C dx (bkFs vm vc vo vh vs v4))) b hZ (jv_var (i := 0) b rfl (by decide +kernel) rfl) rfl1 upd_same hZ.n5 (Nat.le_of_ble_eq_true rfl) (ja_tup (jds_cons (jr_var (r := .d _) (i := 1) b rfl (by decide +kernel) rfl h1') (jds_cons (jr_var (r := .d _) (i := 2) b rfl (by decide +kernel) rfl h2') jds_nil))) fun v5 H4 H5 s4 q5 s5 => ?_)
  have e5 : putF "stood" v5 (bkFs vm vc vo vh vs v4) = bkFs vm vc vo vh v5 v4 := rfl
  rw [e5]
  have S5 := s4.trans s5
  have tk5 : TK H5 (upd H5 p (.ins C dx (bkFs vm vc vo vh v5 v4))) := TK.mut (S5 _ _ upd_same) (fun xs z => by cases z)
  have q5 : Im H4 v5 (eSt (cs, t)) := q5
  refine jss_one (js_ret (jv_var (v := .int (manyOf bk t)) (i := 3) b rfl (by decide +kernel) rfl) rfl1 fun v6 H6 s6 e6 => ?_)
  subst e6
  refine hQ _ _ (fun a o na ea => ?_) ⟨dx, vm, vc, vo, vh, v5, v4, s6 _ _ upd_same, ?_, ?_, ?_, ?_, ?_, ?_⟩ (.int _)
  · refine s6 _ _ ?_
    rw [upd_ne na]
    refine S5 _ _ ?_
    rw [upd_ne na]
    exact S3 _ _ (s1 _ _ ea)
  · exact ((((f.m.up S3).tk tk3).up S5).tk tk5).up s6
  · exact ((((f.c.up S3).tk tk3).up S5).tk tk5).up s6
  · exact ((((f.o.up S3).tk tk3).up S5).tk tk5).up s6
  · exact ((((f.h.up S3).tk tk3).up S5).tk tk5).up s6
  · exact ((q5.up s5).tk tk5).up s6
  · exact (((((q4.up s3).tk tk3).up S5).tk tk5)).up s6
end
end Mead

set_option maxRecDepth 100000
set_option maxHeartbeats 4000000
/-! claims laid, denied, joined are claims; the least moved -/
namespace Mead
open PySem PySem.Spec PyProof.Rows L2
def BestOk (p : Plea) (nums : List Int) (x : Int × List Int) : Prop := x.2 ∈ partingsIn p ∧ x.1 = unlikeN (fencesIn p.mead nums) (fencesIn p.mead x.2)
theorem leastMoved_ok {p : Plea} {nums : List Int} {x : Int × List Int} (h : leastMoved p nums = some x) : BestOk p nums x := by
  have key : ∀ y, leastMoved p nums = some y → BestOk p nums y := by
    unfold leastMoved
    refine foldl_ind (f := bestStep (fencesIn p.mead nums) p.mead) (P := fun o : Option (Int × List Int) => ∀ y, o = some y → BestOk p nums y) (partingsIn p) none (fun y e => by cases e) fun b t ht ih y e => ?_
    cases b with
    | none =>
      have e : some (unlikeN (fencesIn p.mead nums) (fencesIn p.mead t), t) = some y := e
      cases e
      exact ⟨ht, rfl⟩
    | some z =>
      have e : (if ltB (unlikeN (fencesIn p.mead nums) (fencesIn p.mead t), t) z = true then some (unlikeN (fencesIn p.mead nums) (fencesIn p.mead t), t) else some z) = some y := e
      by_cases hl : ltB (unlikeN (fencesIn p.mead nums) (fencesIn p.mead t), t) z = true
      · rw [if_pos hl] at e
        cases e
        exact ⟨ht, rfl⟩
      · rw [if_neg hl] at e
        cases e
        exact ih _ rfl
  exact key x h
theorem foldl_some {own : List (Pl × Pl)} {m : List (List Int)} : ∀ (l : List (List Int)) (x : Int × List Int), ∃ y, l.foldl (bestStep own m) (some x) = some y
  | [], x => ⟨x, rfl⟩
  | t :: l, x => by
    rw [List.foldl_cons]
    have e : bestStep own m (some x) t = if ltB (unlikeN own (fencesIn m t), t) x = true then some (unlikeN own (fencesIn m t), t) else some x := rfl
    rw [e]
    by_cases hl : ltB (unlikeN own (fencesIn m t), t) x = true
    · rw [if_pos hl]
      exact foldl_some l _
    · rw [if_neg hl]
      exact foldl_some l _
theorem leastMoved_none {p : Plea} {nums : List Int} : leastMoved p nums = none ↔ partingsIn p = [] := by
  unfold leastMoved
  cases e : partingsIn p with
  | nil => simp
  | cons t l =>
    rw [List.foldl_cons]
    obtain ⟨y, hy⟩ := foldl_some (own := fencesIn p.mead nums) (m := p.mead) l (unlikeN (fencesIn p.mead nums) (fencesIn p.mead t), t)
    have e2 : bestStep (fencesIn p.mead nums) p.mead none t = some (unlikeN (fencesIn p.mead nums) (fencesIn p.mead t), t) := rfl
    rw [e2, hy]
    simp
/-- what the parting is behind a deed that changes the claims -/
def newP (bk : Bk) (cs : List Cl) : Option (List Int) := match bk.stood.2 with
  | none => none
  | some t => if cs = [] then none else (leastMoved (pleaBy bk cs) t).map (·.2)
theorem parts_len {p : Plea} (z : VPl p) {t : List Int} (h : t ∈ partingsIn p) : t.length = (cellsIn p.mead).length := (isParted_at (partingsIn_ok z t h)).1
theorem newP_len {bk : Bk} {cs : List Cl} (z : cs = [] ∨ VPl (pleaBy bk cs)) : LenO bk.mead (newP bk cs) := fun u e => by
  unfold newP at e
  split at e
  · cases e
  · split at e
    · cases e
    · rename_i hn
      rcases z with z | z
      · exact absurd z hn
      · obtain ⟨x, hx, rfl⟩ := Option.map_eq_some_iff.mp e
        exact parts_len z (leastMoved_ok hx).1
/-! ### claims -/
theorem key_nodup {cs : List Cl} (h : cs.Pairwise keyLt) : (cs.map keyC).Nodup := by
  unfold List.Nodup
  rw [List.pairwise_map]
  refine h.imp fun {a b} z e => ?_
  have q : (a.1, a.2.1) = (b.1, b.2.1) := e
  obtain ⟨e1, e2⟩ := Prod.mk.inj q
  rcases z with z | ⟨_, z⟩ <;> omega
theorem laid_ok {cs : List Cl} {cl : Cl} (z : cs = [] ∨ VCs cs) (hc : VC cl) (hn : keyC cl ∉ cs.map keyC) (hl : cs.length < 12) : VCs (srt eC (cs ++ [cl])) := by
  refine ⟨?_, fun c hc' => ?_, srt_up ?_⟩
  · rw [srt_len, List.length_append]
    simp
    omega
  · rcases List.mem_append.mp (srt_mem.mp hc') with q | q
    · rcases z with rfl | z
      · cases q
      · exact z.each c q
    · have : c = cl := by simpa using q
      rw [this]
      exact hc
  · rw [List.map_append]
    refine List.nodup_append.mpr ⟨?_, by simp, fun a ha b hb e => ?_⟩
    · rcases z with rfl | z
      · simp
      · exact key_nodup z.up
    · have : b = keyC cl := by simpa using hb
      rw [e, this] at ha
      exact hn ha
theorem denied_ok {cs : List Cl} {cl : Cl} (z : VCs cs) (h1 : cs.length ≠ 1) : VCs (cs.filter fun o => !decide (o = cl)) := by
  have hz := z.len
  refine ⟨⟨?_, Nat.le_trans (List.length_filter_le _ _) hz.2⟩, fun c hc => z.each c (List.mem_filter.mp hc).1, z.up.filter _⟩
  match cs, z, h1, hz with
  | [], _, _, hz => simp at hz
  | [_], _, h1, _ => exact absurd rfl h1
  | a :: b :: r, z, _, _ =>
    have hab : a ≠ b := fun e => by
      have := (List.pairwise_cons.mp z.up).1 b List.mem_cons_self
      rw [e] at this
      rcases this with q | ⟨_, q⟩ <;> omega
    have : ∃ x ∈ a :: b :: r, x ≠ cl := by
      by_cases e : a = cl
      · exact ⟨b, by simp, fun e2 => hab (e.trans e2.symm)⟩
      · exact ⟨a, by simp, e⟩
    obtain ⟨x, hx, ne⟩ := this
    exact List.length_pos_of_mem (List.mem_filter.mpr ⟨hx, by simp [ne]⟩)
theorem denied_one {cs : List Cl} {cl : Cl} (h1 : cs.length = 1) (hm : cl ∈ cs) : (cs.filter fun o => !decide (o = cl)) = [] := by
  match cs, h1 with
  | [a], _ =>
    have : a = cl := (List.mem_singleton.mp hm).symm
    simp [this]
theorem look_of_mem {l : List (Pl × Int)} {p : Pl} (h : p ∈ l.map Prod.fst) : (look l p).isSome = true := look_mem.mpr h
/-- what stands in the dict of joined rights -/
def JInv (one other : Int) (S : Pl → Prop) (l : List (Pl × Int)) : Prop := ∀ x ∈ l, (0 ≤ x.1.1 ∧ x.1.1 ≤ 3) ∧ (0 ≤ x.1.2 ∧ x.1.2 ≤ 5) ∧ 1 ≤ x.2 ∧ S x.1
theorem look_in {l : List (Pl × Int)} {p : Pl} {n : Int} (h : look l p = some n) : (p, n) ∈ l := by
  have q := look_mem.mp (show (look l p).isSome = true by rw [h]; rfl)
  unfold look at h
  obtain ⟨x, hx, e⟩ := Option.map_eq_some_iff.mp h
  have e2 := List.find?_some hx
  have e3 := List.mem_of_find?_eq_some hx
  have e4 : x.1 = p := by simpa using e2
  rw [← e4, ← e]
  exact e3
theorem joinL_inv {one other : Int} {cs : List Cl} {m : Nat} (z : VCs cs) (h1 : 0 ≤ one ∧ one ≤ 3) (hs : ∀ c ∈ cs, c.2.1 < m) : JInv one other (fun p => p.2 < m) (joinL one other cs) := by
  unfold joinL
  refine foldl_ind (f := joinStep one other) (P := JInv one other fun p => p.2 < m) cs [] (fun x hx => by cases hx) fun l c hc ih x hx => ?_
  have hv := z.each c hc
  unfold VC at hv
  rcases putL_mem hx with hx | hx
  · exact ih x hx
  · subst hx
    refine ⟨?_, hv.2.1, ?_, hs c hc⟩
    · show 0 ≤ ownerOf one other c.1 ∧ ownerOf one other c.1 ≤ 3
      unfold ownerOf
      split
      · exact h1
      · exact hv.1
    · show 1 ≤ (look l (joinKey one other c)).getD 0 + c.2.2
      cases e : look l (joinKey one other c) with
      | none =>
        have := hv.2.2.1
        simpa using this
      | some n =>
        have := (ih _ (look_in e)).2.2.1
        have h3 := hv.2.2.1
        simp only [Option.getD_some]
        have this : 1 ≤ n := this
        omega
theorem joinL_pos {one other : Int} {cs : List Cl} (h : 1 ≤ cs.length) : 1 ≤ (joinL one other cs).length := by
  have key : ∀ (l : List (Pl × Int)) (ds : List Cl), 1 ≤ l.length → 1 ≤ (ds.foldl (joinStep one other) l).length := fun l ds hl => by
    refine foldl_ind (f := joinStep one other) (P := fun l : List (Pl × Int) => 1 ≤ l.length) ds l hl fun l c _ _ => (putL_len _ _ _).2
  match cs, h with
  | c :: cs, _ =>
    unfold joinL
    rw [List.foldl_cons]
    exact key _ _ (putL_len _ _ _).2
theorem joined_ok {one other : Int} {cs : List Cl} {m : Nat} (z : VCs cs) (h1 : 0 ≤ one ∧ one ≤ 3) (hs : ∀ c ∈ cs, c.2.1 < m) (hle : ∀ c ∈ joinedCs one other cs, ¬ 20 < c.2.2) : VCs (joinedCs one other cs) ∧ ∀ c ∈ joinedCs one other cs, c.2.1 < m := by
  have iv := joinL_inv (other := other) z h1 hs
  have ll := joinL_len one other cs []
  have lp := joinL_pos (one := one) (other := other) z.len.1
  have zl := z.len.2
  rw [List.length_nil] at ll
  have e0 : (joinL one other cs).length ≤ 12 := by unfold joinL; omega
  refine ⟨⟨?_, fun c hc => ?_, srt_up ?_⟩, fun c hc => ?_⟩
  · rw [joinedCs, srt_len, List.length_map]
    omega
  · have h20 := hle c hc
    rw [joinedCs] at hc
    obtain ⟨x, hx, rfl⟩ := List.mem_map.mp (srt_mem.mp hc)
    have := iv x hx
    have h20 : ¬ 20 < x.2 := h20
    exact ⟨this.1, this.2.1, this.2.2.1, by show x.2 ≤ 20; omega⟩
  · rw [List.map_map]
    exact joinL_nodup one other cs
  · rw [joinedCs] at hc
    obtain ⟨x, hx, rfl⟩ := List.mem_map.mp (srt_mem.mp hc)
    exact (iv x hx).2.2.2
end Mead

set_option maxRecDepth 100000
set_option maxHeartbeats 4000000
namespace Mead
open PySem PySem.Spec PyProof.Rows L2
local macro_rules | `(tactic| walk_at "hl") => `(tactic| first | assumption | omega | (simp only [List.length_map]; omega) | exact Nat.le_of_ble_eq_true rfl | (simp only [List.length_map, List.length_mapIdx, List.length_range]; omega) | (simp only [List.length_mapIdx, List.length_map] at *; omega) | fail)
local macro_rules | `(tactic| walk_at "pc") => `(tactic| first | assumption | exact Nat.le_refl _ | omega)
local macro_rules | `(tactic| walk_at "sh") => `(tactic| first | exact sh_int _ | exact sh_bool _ | exact sh_none | exact sh_eP (by decide) _ | exact sh_eR (by decide) _ | exact sh_eL (by decide) _ | exact sh_eM (by decide) _ | exact sh_eC (by decide) _ | exact sh_eCs (by decide) _ | exact (sh_lst (n := 59) (sh_map fun _ => sh_eP (by decide) _)) | exact (sh_lst (n := 59) (sh_map fun _ => sh_eC (by decide) _)) | exact (sh_lst (n := 59) (sh_map fun _ => sh_eL (by decide) _)) | exact (sh_lst (n := 59) (sh_map fun _ => sh_int _)) | exact (sh_lst (n := 59) sh_nil) | exact (sh_tup (n := 59) sh_nil) | exact sh_tup (n := 59) (sh_cons (sh_int _) (sh_cons (sh_int _) sh_nil)) | exact sh_lst (n := 59) (sh_map fun _ => sh_tup (n := 58) (sh_cons (sh_int _) (sh_cons (sh_int _) sh_nil))) | fail)
local macro_rules | `(tactic| walk_at "al") => `(tactic| first | rfl | simp [PySem.W.alike, PySem.W.alikeAll, eP] | fail)
local macro_rules | `(tactic| walk_at "nn") => `(tactic| intro z; cases z)
theorem srt_one (c : Cl) : srt eC ([] ++ [c]) = [c] := srt_same (List.pairwise_singleton _ _)
section
variable {T : Tx} {N : List Str} {sc : Scope} {k : Nat} {W : WX} {X : Cx} {σ : L2.St} {B H : Hp} {a b e o : Expr} {es : List Expr} {pos : Pos} {D : Ends} {C p : Addr} {bk : Bk}
/-- o.m(e), the argument may raise -/
theorem jx_methX (c : RCx T N sc k W X) (Z : BC T C) {m : Str} {apos : Pos} {j : Nat} {R : Bk → List Ar → Out → Bk → Prop} {Q : VK} {pl : Sem Bool} (M : Mt T C m j (spU T C R)) (hk : j ≤ k) (ho : JV X.nox o σ B (.ref p)) (hB : Same B H) (hp : BookAt C H p bk)
    (ha : ∀ H1, Same H H1 → jE X e σ H1 fun v H2 => ∃ r ou bk', Same H1 H2 ∧ r.rep H2 v ∧ R bk [r] ou bk' ∧ (∀ r', ou = .ret r' → ∀ u H', Sbut p H H' → BookAt C H' p bk' → r'.res H2 u H' → Q u H') ∧ (∀ x, ou = .exc x → ∀ cls d σ' H', Sbut p H H' → BookAt C H' p bk' → ExIs T x cls d H' → W cls d σ' H'))
    (hm : m ∉ (["mead", "custom", "odd", "houses", "stood", "past"] : List Str) := by decide)
    (hst : starEach [e] X.env = (false, eval e X.env) :: starEach [] X.env := by rfl) (hpl : (backTo pos (starEach [] X.env)).any (·.1) = false := by rfl)
    (ht : eval (.Call (.Attribute o m apos) [e] [] pos) X.env = (do
      let ov ← eval o X.env
      standAt apos.atName
      let (f, first) ← holding [ov] (getMethod ov m pl)
      callWith pos f first (backTo pos (starEach [e] X.env)) (backToKw pos (keywordEach [] X.env))) := by rfl) : jE X (.Call (.Attribute o m apos) [e] [] pos) σ H Q := by
  obtain ⟨fa, fd, ps, F, hm', hb⟩ := M
  have F' : FnOk X.prog X.w X.K X.mg X.base (L2.CX X.prog X.w) k fa fd ps (spU T C R) := by
    rw [show X.prog = T.P from c.b.prog, show X.w = T.w from c.b.w, show X.K = T.K from c.b.K, show X.mg = T.mg from c.b.mg, show X.base = T.base from c.b.base]
    exact F.mono hk
  have hK : X.K = T.K := c.b.K
  refine je_of (pe_meth (E := fun cls d H' => ∀ σ', W cls d σ' H') pe_j (by rw [hK]; exact Z.cls) (by rw [hK]; exact hm') F' c.b.room (by rw [hK]; exact hb) .nil (passes_call c.tk fun _ _ σ' _ z => z σ') (pa_cons pe_j pa_nil hst) hst hpl ht) (je_mono (je_nox (ho H hB)) fun u H1 ⟨s1, e1⟩ => ?_)
  have hp0 := hp
  obtain ⟨dx, vm, vc, vo, vh, vs, vp, f⟩ := hp
  refine ⟨p, dx, _, e1, s1 _ _ f.at_, bkFs_none hm, je_mono (ha H1 s1) fun v H2 ⟨r, ou, bk', s2, q, hR, hret, hexc⟩ => ?_⟩
  have S2 := s1.trans s2
  refine ⟨p, [v], [r], bk, ou, bk', by rw [e1]; rfl, hp0.up S2, .cons q .nil, hR, ?_⟩
  cases ou with
  | ret r' => exact fun u H' s z y => hret r' rfl u H' ((Sbut.of S2).trans s) z y
  | exc x => exact fun cls d H' s z y σ' => hexc x rfl cls d σ' H' ((Sbut.of S2).trans s) z y
end
section
variable {T : Tx} (h : Top T) {C : Addr} (hM : BM T C)
include h hM
def R_claim_anew : Bk → List Ar → Out → Bk → Prop := fun bk rs o bk' => ∃ cs, rs = [.d (eCs cs)] ∧ VM bk.mead ∧ LenO bk.mead bk.stood.2 ∧ bk.past.length ≤ 1000 ∧ (cs = [] ∨ VPl (pleaBy bk cs)) ∧ o = .ret (.d (.int (manyOf bk (newP bk cs)))) ∧ bk' = turned bk cs (newP bk cs)
theorem mt_claim_anew : Mt T C "claim_anew" 9 (spU T C R_claim_anew) := by
  refine mt_mk hM.d_claim_anew sm_claim_anew (spU_len (n := 1) fun _ _ _ _ ⟨_, z, _⟩ => by rw [z]; rfl) (fun _ _ _ _ _ _ us hl => match us, hl with | [_, _], _ => rfl) fun X E c hf vs H Q ⟨p, ws, rs, bk, o, bk', e, hp, hv, ⟨cs, e1, zm, zl, zp, zc, e2, e3⟩, hQ⟩ => ?_
  subst e; subst e1; subst e2; subst e3
  obtain ⟨v1, rfl, h1⟩ := reps1 hv
  have b := c.b
  have d : DCx T _ _ _ X.nox := ⟨c.b, hf⟩
  have hZ := hM.toBC
  have zn := newP_len zc
  have ec : PyData.eqv (eCs cs) (.tuple []) = decide (cs = []) := eqv_eCs cs []
  cases hs : bk.stood.2 with
  | none =>
    have en : newP bk cs = none := by unfold newP; rw [hs]
    rw [en] at hQ
    have zl2 : LenO bk.mead none := fun u z => by cases z
    refine jss_cons (js_ifXT (i := true) (JW.t (jw_or (d := true) (jt_cmp (cm_isN (r := .d (optR bk.stood.2)) (i := true) (fun v H q => by rw [hs] at q; rw [Im.isNon (show Im H v .none from q)]; rfl)) (JA.toR (ja_ixT (ja_f_stood b hZ (jv_var (i := 0) b rfl (by decide +kernel) rfl) hp) (ja_int (i := 1)) rfl)) ja_non) fun hb => by cases hb)) rfl rfl1 fun H1 s1 => ?_)
    exact jss_one (js_retX (jx_mU c hZ (mt_turn h hM) (by decide) (jv_var (i := 0) b rfl (by decide +kernel) rfl) (jrs_cons (jr_var (r := .d _) (i := 1) b rfl (by decide +kernel) rfl h1) (jrs_cons (r := .d (optR none)) ja_non jrs_nil)) s1 (hp.up s1) ⟨cs, none, rfl, zm, zl, zl2, zp, rfl, rfl⟩ (fun r e v H' sb hb q => by cases e; exact hQ v H' ((Sbut.of s1).trans sb) hb (Ar.res_back s1 q)) (fun x e => by cases e)) fun _ _ q => q)
  | some t0 =>
    have isF : ∀ v H, (Ar.d (optR bk.stood.2)).rep H v → decide (v = .non) = false := fun v H q => by
      rw [hs] at q
      obtain ⟨a0, x0, e0, _, _⟩ := Im.isTup (show Im H v (.tuple (t0.map .int)) from q)
      rw [e0]
      rfl
    refine jss_cons (js_ifX (i := (false || decide (cs = []))) (JW.t (jw_or (jt_cmp (cm_isN (r := .d (optR bk.stood.2)) isF) (JA.toR (ja_ixT (ja_f_stood b hZ (jv_var (i := 0) b rfl (by decide +kernel) rfl) hp) (ja_int (i := 1)) rfl)) ja_non) fun hb => jw_or1 (show JT X.nox _ _ H (decide (cs = [])) from ec ▸ (jt_eq (r := .d _) (q := .d _) b (jr_var (r := .d _) (i := 1) b rfl (by decide +kernel) rfl h1) (ja_tup jds_nil) (by walk_at "sh") (by walk_at "sh"))))) rfl1 (fun hb H1 s1 => ?_) fun hb H1 s1 => jss_nil ?_)
    · have hc : cs = [] := by simpa using hb
      have en : newP bk cs = none := by unfold newP; rw [hs]; exact if_pos hc
      rw [en] at hQ
      have zl2 : LenO bk.mead none := fun u z => by cases z
      exact jss_one (js_retX (jx_mU c hZ (mt_turn h hM) (by decide) (jv_var (i := 0) b rfl (by decide +kernel) rfl) (jrs_cons (jr_var (r := .d _) (i := 1) b rfl (by decide +kernel) rfl h1) (jrs_cons (r := .d (optR none)) ja_non jrs_nil)) s1 (hp.up s1) ⟨cs, none, rfl, zm, zl, zl2, zp, rfl, rfl⟩ (fun r e v H' sb hb q => by cases e; exact hQ v H' ((Sbut.of s1).trans sb) hb (Ar.res_back s1 q)) (fun x e => by cases e)) fun _ _ q => q)
    · have hc : ¬ cs = [] := by simpa using hb
      rcases zc with zc | zc
      · exact absurd zc hc
      have en : newP bk cs = (leastMoved (pleaBy bk cs) t0).map (·.2) := by unfold newP; rw [hs]; exact if_neg hc
      have zl0 : t0.length = (cellsIn (pleaBy bk cs).mead).length := zl t0 hs
      have hs2 : eSt bk.stood = .tuple [eCs bk.stood.1, eR t0] := by unfold eSt; rw [hs]; rfl
      refine jss_cons (js_nox (js_set d (i := 2) (P := fun H1 v H2 => (Ar.d (optB (leastMoved (pleaBy bk cs) t0))).res H1 v H2) rfl (by decide +kernel) (ja_call b (fn_least_moved h) (by decide) (by decide +kernel) (jrs_cons (JA.toR (ja_mP b hZ (mt_plea_by h hM) (by decide) (jv_var (i := 0) b rfl (by decide +kernel) rfl) (jrs_cons (jr_var (r := .d _) (i := 1) b rfl (by decide +kernel) rfl h1) jrs_nil) hp ⟨_, rfl, rfl⟩)) (jrs_cons (r := .d (eR t0)) (by
          have q : ∀ (pos1 pos2 pos3 pos4 : Pos) (j), JR X.nox (.Subscript (.Attribute (.Name "self" pos1) "stood" pos2) (.Constant (.int 1) j pos3) pos4) (start ["self", "claims", "best"] [.ref p, v1]) H (.d (eR t0)) := fun pos1 pos2 pos3 pos4 j => by
            have q0 : JA X.nox (.Attribute (.Name "self" pos1) "stood" pos2) (start ["self", "claims", "best"] [.ref p, v1]) H (.d (.tuple [eCs bk.stood.1, eR t0])) := hs2 ▸ (ja_f_stood b hZ (jv_var (i := 0) b rfl (by decide +kernel) rfl) hp)
            exact JA.toR (ja_ixT (JA.toR q0) ja_int rfl)
          exact q _ _ _ _ _) jrs_nil)) ⟨pleaBy bk cs, t0, rfl, zc, zl0, rfl⟩) s1 fun v2 H2 s2 q2 => ?_))
      have S2 := s1.trans s2
      have q2 : Im H2 v2 (optB (leastMoved (pleaBy bk cs) t0)) := q2
      have hp2 := hp.up S2
      have h12 := h1.up S2
      refine jss_one (js_retX (jx_mU (B := H2) c hZ (mt_turn h hM) (by decide) (jv_var (i := 0) b rfl (by decide +kernel) rfl) (jrs_cons (jr_var (r := .d _) (i := 1) b rfl (by decide +kernel) rfl h12) (jrs_cons (r := .d (optR (newP bk cs))) ?_ jrs_nil)) rfl1 hp2 ⟨cs, newP bk cs, rfl, zm, zl, zn, zp, rfl, rfl⟩ (fun r e v H' sb hb q => by cases e; exact hQ v H' ((Sbut.of S2).trans sb) hb (Ar.res_back S2 q)) (fun x e => by cases e)) fun _ _ q => q)
      rw [en]
      cases hl : leastMoved (pleaBy bk cs) t0 with
      | none =>
        rw [hl] at q2
        have e2 := Im.isNon q2
        subst e2
        exact JA.toR (ja_if (P := fun H1 v H2 => (Ar.d .none).res H1 v H2) (jt_cmp (cm_isV (v := .non)) (jv_var (v := .non) (i := 2) b rfl (by decide +kernel) rfl) ja_non) (fun _ => ja_non) (fun hb => by cases hb) (fun _ _ _ _ s q => Ar.res_back (r := .d .none) s q))
      | some x =>
        rw [hl] at q2
        have q2 : Im H2 v2 (.tuple [.int x.1, eR x.2]) := q2
        obtain ⟨a0, x0, e0, _, _⟩ := Im.isTup q2
        have hv0 : decide (v2 = .non) = false := by rw [e0]; rfl
        exact JA.toR (ja_if (P := fun H1 v H2 => (Ar.d (eR x.2)).res H1 v H2) (jt_cmp (cm_isV (v := v2)) (jv_var (v := v2) (i := 2) b rfl (by decide +kernel) rfl) ja_non) (fun hb => by rw [hv0] at hb; cases hb) (fun hb => (ja_ixT (jr_var (r := .d _) (i := 2) b rfl (by decide +kernel) rfl q2) (ja_int (i := 1)) rfl)) (fun _ _ _ _ s q => Ar.res_back (r := .d (eR x.2)) s q))
end
end Mead

set_option maxRecDepth 100000
set_option maxHeartbeats 4000000
namespace Mead
open PySem PySem.Spec PyProof.Rows L2
local macro_rules | `(tactic| walk_at "hl") => `(tactic| first | assumption | omega | (simp only [List.length_map]; omega) | exact Nat.le_of_ble_eq_true rfl | (simp only [List.length_map, List.length_mapIdx, List.length_range]; omega) | (simp only [List.length_mapIdx, List.length_map] at *; omega) | fail)
local macro_rules | `(tactic| walk_at "pc") => `(tactic| first | assumption | exact Nat.le_refl _ | omega)
local macro_rules | `(tactic| walk_at "sh") => `(tactic| first | exact sh_int _ | exact sh_bool _ | exact sh_none | exact sh_eP (by decide) _ | exact sh_eR (by decide) _ | exact sh_eL (by decide) _ | exact sh_eM (by decide) _ | exact sh_eC (by decide) _ | exact sh_eCs (by decide) _ | exact (sh_lst (n := 59) (sh_map fun _ => sh_eP (by decide) _)) | exact (sh_lst (n := 59) (sh_map fun _ => sh_eC (by decide) _)) | exact (sh_lst (n := 59) (sh_map fun _ => sh_eL (by decide) _)) | exact (sh_lst (n := 59) (sh_map fun _ => sh_int _)) | exact (sh_lst (n := 59) sh_nil) | exact (sh_tup (n := 59) sh_nil) | exact sh_tup (n := 59) (sh_cons (sh_int _) (sh_cons (sh_int _) sh_nil)) | exact sh_lst (n := 59) (sh_map fun _ => sh_tup (n := 58) (sh_cons (sh_int _) (sh_cons (sh_int _) sh_nil))) | fail)
local macro_rules | `(tactic| walk_at "al") => `(tactic| first | rfl | simp [PySem.W.alike, PySem.W.alikeAll, eP] | fail)
local macro_rules | `(tactic| walk_at "nn") => `(tactic| intro z; cases z)
theorem sh_optR : ∀ t : Option (List Int), Sh 50 (optR t)
  | none => sh_none
  | some t => sh_eR (by decide) t
theorem sh_eSt (s : Stn) : Sh 52 (eSt s) := sh_tup (n := 51) (sh_cons (sh_eCs (by decide) _) (sh_cons ((sh_optR _).mono (by decide)) sh_nil))
theorem sh_ePa (l : List Stn) : Sh 60 (ePa l) := (sh_tup (n := 52) (sh_map fun _ => sh_eSt _)).mono (by decide)
section
variable {T : Tx} (h : Top T) {C : Addr} (hM : BM T C)
include h hM
def R_lay : Bk → List Ar → Out → Bk → Prop := fun bk rs o bk' => ∃ cl cs, rs = [.d (eC cl)] ∧ cs = srt eC (bk.stood.1 ++ [cl]) ∧ VM bk.mead ∧ LenO bk.mead bk.stood.2 ∧ bk.past.length ≤ 1000 ∧ VC cl ∧ (bk.stood.1 = [] ∨ VCs bk.stood.1) ∧ keyC cl ∉ bk.stood.1.map keyC ∧ bk.stood.1.length < 12 ∧ VPl (pleaBy bk cs) ∧ o = .ret (.d (.int (manyOf bk (newP bk cs)))) ∧ bk' = turned bk cs (newP bk cs)
theorem mt_lay : Mt T C "lay" 10 (spU T C R_lay) := by
  refine mt_mk hM.d_lay sm_lay (spU_len (n := 1) fun _ _ _ _ ⟨_, _, z, _⟩ => by rw [z]; rfl) (fun _ _ _ _ _ _ us hl => match us, hl with | [_, _], _ => rfl) fun X E c hf vs H Q ⟨p, ws, rs, bk, o, bk', e, hp, hv, ⟨cl, cs, e1, ecs, zm, zl, zp, zc, zs, zk, z12, zv, e2, e3⟩, hQ⟩ => ?_
  subst e; subst e1; subst e2; subst e3
  obtain ⟨v1, rfl, h1⟩ := reps1 hv
  have b := c.b
  have hZ := hM.toBC
  have hcm : cl ∈ cs := by rw [ecs]; exact srt_mem.mpr (by simp)
  have hst : cl.2.1 < bk.custom.length := zv.stand cl hcm
  refine jss_cons (js_nox (js_expr (ja_call b (fn_need_claim h) (by decide) (by decide +kernel) (jrs_cons (jr_var (r := .d _) (i := 1) b rfl (by decide +kernel) rfl h1) jrs_nil) ⟨_, rfl, (by walk_at "pc"), rfl⟩) rfl1 fun _ H1 s1 _ => jss_cons (js_ifXF (jt_cmp cm_ge (ja_ixT (jr_var (r := .d _) (i := 1) b rfl (by decide +kernel) rfl h1) (ja_int (i := 1)) rfl) (ja_lenT b (by decide +kernel) h.f_len (ja_f_custom b hZ (jv_var (i := 0) b rfl (by decide +kernel) rfl) hp))) ?_ s1 fun H2 s2 => ?_)))
  · rw [List.length_map]
    exact decide_eq_false (by omega)
  have S2 := s1.trans s2
  have ec : PyData.eqv (eCs bk.stood.1) (.tuple []) = decide (bk.stood.1 = []) := eqv_eCs bk.stood.1 []
  refine jss_cons (js_ifX (show JT X.nox _ _ H (decide (bk.stood.1 = [])) from ec ▸ (jt_eq (r := .d _) (q := .d _) b (ja_ixT (ja_f_stood b hZ (jv_var (i := 0) b rfl (by decide +kernel) rfl) hp) (ja_int (i := 0)) rfl) (ja_tup jds_nil) (by walk_at "sh") (by walk_at "sh"))) S2 (fun hb H3 s3 => ?_) fun hb H3 s3 => jss_nil ?_)
  · have e : bk.stood.1 = [] := of_decide_eq_true hb
    have ecs1 : cs = [cl] := by rw [ecs, e]; exact srt_one cl
    rw [ecs1] at hQ zv
    exact jss_one (js_retX (jx_mU c hZ (mt_claim_anew h hM) (by decide) (jv_var (i := 0) b rfl (by decide +kernel) rfl) (jrs_cons (r := .d (eCs [cl])) (ja_tup (jds_cons (jr_var (r := .d _) (i := 1) b rfl (by decide +kernel) rfl h1) jds_nil)) jrs_nil) (S2.trans s3) (hp.up (S2.trans s3)) ⟨[cl], rfl, zm, zl, zp, .inr zv, rfl, rfl⟩ (fun r e v H' sb hb q => by cases e; exact hQ v H' ((Sbut.of (S2.trans s3)).trans sb) hb (Ar.res_back (S2.trans s3) q)) (fun x e => by cases e)) fun _ _ q => q)
  · have e : ¬ bk.stood.1 = [] := of_decide_eq_false hb
    have zs : VCs bk.stood.1 := zs.resolve_left e
    rw [ecs] at hQ zv
    exact jss_one (js_retX (jx_mU c hZ (mt_claim_anew h hM) (by decide) (jv_var (i := 0) b rfl (by decide +kernel) rfl) (jrs_cons (ja_call b (fn_laid h) (by decide) (by decide +kernel) (jrs_cons (ja_ixT (ja_f_stood b hZ (jv_var (i := 0) b rfl (by decide +kernel) rfl) hp) (ja_int (i := 0)) rfl) (jrs_cons (jr_var (r := .d _) (i := 1) b rfl (by decide +kernel) rfl h1) jrs_nil)) ⟨_, _, rfl, zs, zc, zk, z12, rfl⟩) jrs_nil) (S2.trans s3) (hp.up (S2.trans s3)) ⟨_, rfl, zm, zl, zp, .inr zv, rfl, rfl⟩ (fun r e v H' sb hb q => by cases e; exact hQ v H' ((Sbut.of (S2.trans s3)).trans sb) hb (Ar.res_back (S2.trans s3) q)) (fun x e => by cases e)) fun _ _ q => q)
def R_deny : Bk → List Ar → Out → Bk → Prop := fun bk rs o bk' => ∃ cl cs, rs = [.d (eC cl)] ∧ (cs = bk.stood.1.filter fun o => !decide (o = cl)) ∧ VM bk.mead ∧ LenO bk.mead bk.stood.2 ∧ bk.past.length ≤ 1000 ∧ VC cl ∧ VPl (pleaBy bk bk.stood.1) ∧ cl ∈ bk.stood.1 ∧ o = .ret (.d (.int (manyOf bk (newP bk cs)))) ∧ bk' = turned bk cs (newP bk cs)
theorem mt_deny : Mt T C "deny" 10 (spU T C R_deny) := by
  refine mt_mk hM.d_deny sm_deny (spU_len (n := 1) fun _ _ _ _ ⟨_, _, z, _⟩ => by rw [z]; rfl) (fun _ _ _ _ _ _ us hl => match us, hl with | [_, _], _ => rfl) fun X E c hf vs H Q ⟨p, ws, rs, bk, o, bk', e, hp, hv, ⟨cl, cs, e1, ecs, zm, zl, zp, zc, zv, hcm, e2, e3⟩, hQ⟩ => ?_
  subst e; subst e1; subst e2; subst e3
  obtain ⟨v1, rfl, h1⟩ := reps1 hv
  have b := c.b
  have hZ := hM.toBC
  have zs : VCs bk.stood.1 := zv.claims
  refine jss_cons (js_nox (js_expr (ja_call b (fn_need_claim h) (by decide) (by decide +kernel) (jrs_cons (jr_var (r := .d _) (i := 1) b rfl (by decide +kernel) rfl h1) jrs_nil) ⟨_, rfl, (by walk_at "pc"), rfl⟩) rfl1 fun _ H1 s1 _ => jss_cons (js_ifXF (jt_niT b (jr_var (r := .d _) (i := 1) b rfl (by decide +kernel) rfl h1) (ja_ixT (ja_f_stood b hZ (jv_var (i := 0) b rfl (by decide +kernel) rfl) hp) (ja_int (i := 0)) rfl) (by walk_at "sh") (by walk_at "sh")) ?_ s1 fun H2 s2 => ?_)))
  · have q : ((bk.stood.1.map eC).any fun z => PyData.eqv z (eC cl)) = true := by rw [any_eqv eqv_eC]; exact decide_eq_true hcm
    exact congrArg Bool.not q
  have S2 := s1.trans s2
  refine jss_cons (js_ifX (jt_eq (r := .d _) (q := .d _) b (ja_lenT b (by decide +kernel) h.f_len (ja_ixT (ja_f_stood b hZ (jv_var (i := 0) b rfl (by decide +kernel) rfl) hp) (ja_int (i := 0)) rfl)) (ja_int (i := 1)) (by walk_at "sh") (by walk_at "sh")) S2 (fun hb H3 s3 => ?_) fun hb H3 s3 => jss_nil ?_)
  · have e : bk.stood.1.length = 1 := by
      simp only [Ar.pd, eqv_int, List.length_map] at hb
      have := of_decide_eq_true hb
      omega
    have ecs1 : cs = [] := by rw [ecs]; exact denied_one e hcm
    rw [ecs1] at hQ
    exact jss_one (js_retX (jx_mU c hZ (mt_claim_anew h hM) (by decide) (jv_var (i := 0) b rfl (by decide +kernel) rfl) (jrs_cons (r := .d (eCs [])) (ja_tup jds_nil) jrs_nil) (S2.trans s3) (hp.up (S2.trans s3)) ⟨[], rfl, zm, zl, zp, .inl rfl, rfl, rfl⟩ (fun r e v H' sb hb q => by cases e; exact hQ v H' ((Sbut.of (S2.trans s3)).trans sb) hb (Ar.res_back (S2.trans s3) q)) (fun x e => by cases e)) fun _ _ q => q)
  · have e : bk.stood.1.length ≠ 1 := by
      simp only [Ar.pd, eqv_int, List.length_map] at hb
      have := of_decide_eq_false hb
      omega
    have zv2 : VPl (pleaBy bk (bk.stood.1.filter fun o => !decide (o = cl))) := ⟨zv.mead, zv.custom, denied_ok zs e, fun c hc => zv.stand c (List.mem_filter.mp hc).1, zv.odd⟩
    rw [ecs] at hQ
    exact jss_one (js_retX (jx_mU c hZ (mt_claim_anew h hM) (by decide) (jv_var (i := 0) b rfl (by decide +kernel) rfl) (jrs_cons (ja_call b (fn_denied h) (by decide) (by decide +kernel) (jrs_cons (ja_ixT (ja_f_stood b hZ (jv_var (i := 0) b rfl (by decide +kernel) rfl) hp) (ja_int (i := 0)) rfl) (jrs_cons (jr_var (r := .d _) (i := 1) b rfl (by decide +kernel) rfl h1) jrs_nil)) ⟨_, _, rfl, zs, zc, hcm, e, rfl⟩) jrs_nil) (S2.trans s3) (hp.up (S2.trans s3)) ⟨_, rfl, zm, zl, zp, .inr zv2, rfl, rfl⟩ (fun r e v H' sb hb q => by cases e; exact hQ v H' ((Sbut.of (S2.trans s3)).trans sb) hb (Ar.res_back (S2.trans s3) q)) (fun x e => by cases e)) fun _ _ q => q)
def mergeOut (bk : Bk) (one other : Int) : Out × Bk := match joinOut bk.stood.1 one other with
  | .exc x => (.exc x, bk)
  | .ret _ => (.ret (.d (.int (manyOf bk (newP bk (joinedCs one other bk.stood.1))))), turned bk (joinedCs one other bk.stood.1) (newP bk (joinedCs one other bk.stood.1)))
def R_merge : Bk → List Ar → Out → Bk → Prop := fun bk rs o bk' => ∃ one other, rs = [.d (.int one), .d (.int other)] ∧ VM bk.mead ∧ LenO bk.mead bk.stood.2 ∧ bk.past.length ≤ 1000 ∧ VPl (pleaBy bk bk.stood.1) ∧ one ∈ holdersIn bk.stood.1 ∧ other ∈ holdersIn bk.stood.1 ∧ (o, bk') = mergeOut bk one other
theorem holder_range {cs : List Cl} {i : Int} (h : i ∈ holdersIn cs) : 0 ≤ i ∧ i ≤ 3 := by
  have q := (List.mem_filter.mp h).1
  simp only [List.mem_cons, List.not_mem_nil, or_false] at q
  rcases q with rfl | rfl | rfl | rfl <;> decide
theorem joinOut_ret {cs : List Cl} {one other : Int} {r : Ar} (e : joinOut cs one other = .ret r) : r = .d (eCs (joinedCs one other cs)) ∧ ∀ c ∈ joinedCs one other cs, ¬ 20 < c.2.2 := by
  unfold joinOut at e
  split at e
  · cases e
  · split at e
    · cases e
    · rename_i hf
      cases e
      refine ⟨rfl, fun c hc => ?_⟩
      have := List.find?_eq_none.mp hf c hc
      simpa using this
theorem mt_merge (hn : XO T "NoHolder") {C2 fI : Addr} (hz : XTM T C2 fI) : Mt T C "merge" 10 (spU T C R_merge) := by
  refine mt_mk hM.d_merge sm_merge (spU_len (n := 2) fun _ _ _ _ ⟨_, _, z, _⟩ => by rw [z]; rfl) (fun _ _ _ _ _ _ us hl => match us, hl with | [_, _, _], _ => rfl) fun X E c hf vs H Q ⟨p, ws, rs, bk, o, bk', e, hp, hv, ⟨one, other, e1, zm, zl, zp, zv, z1, z2, e2⟩, hQ⟩ => ?_
  subst e; subst e1
  obtain ⟨v1, v2, rfl, h1, h2⟩ := reps2 hv
  have b := c.b
  have hZ := hM.toBC
  have zs : VCs bk.stood.1 := zv.claims
  have ec : PyData.eqv (eCs bk.stood.1) (.tuple []) = decide (bk.stood.1 = []) := eqv_eCs bk.stood.1 []
  have ne : bk.stood.1 ≠ [] := fun z => by
    have := zs.len.1
    rw [z] at this
    simp at this
  refine jss_cons (js_ifXF (show JT X.nox _ _ H (decide (bk.stood.1 = [])) from ec ▸ (jt_eq (r := .d _) (q := .d _) b (ja_ixT (ja_f_stood b hZ (jv_var (i := 0) b rfl (by decide +kernel) rfl) hp) (ja_int (i := 0)) rfl) (ja_tup jds_nil) (by walk_at "sh") (by walk_at "sh"))) (decide_eq_false ne) rfl1 fun H1 s1 => ?_)
  refine jss_one (js_retX (jx_methX (Q := Q) c hZ (mt_claim_anew h hM) (by decide) (jv_var (i := 0) b rfl (by decide +kernel) rfl) s1 (hp.up s1) fun H2 s2 => ?_) fun _ _ q => q)
  have S2 := s1.trans s2
  refine jx_callR c (fn_joined h hn hz) (by decide) (by decide +kernel) (jrs_cons (JA.toR (ja_ixT (ja_f_stood b hZ (jv_var (i := 0) b rfl (by decide +kernel) rfl) hp) (ja_int (i := 0)) rfl)) (jrs_cons (jr_var (r := .d _) (i := 1) b rfl (by decide +kernel) rfl h1) (jrs_cons (jr_var (r := .d _) (i := 2) b rfl (by decide +kernel) rfl h2) jrs_nil))) S2 ⟨_, _, _, rfl, zs, z1, z2, rfl⟩ (fun r er v H3 s3 q => ?_) fun x ex cls dd σ' H3 s3 q => ?_
  · obtain ⟨er2, hle⟩ := joinOut_ret h hM er
    have em : mergeOut bk one other = (.ret (.d (.int (manyOf bk (newP bk (joinedCs one other bk.stood.1))))), turned bk (joinedCs one other bk.stood.1) (newP bk (joinedCs one other bk.stood.1))) := by unfold mergeOut; rw [er]
    rw [em] at e2
    cases e2
    subst er2
    have q : Im H3 v (eCs (joinedCs one other bk.stood.1)) := q
    have jo := joined_ok (other := other) zs (holder_range h hM z1) zv.stand hle
    refine ⟨.d (eCs (joinedCs one other bk.stood.1)), _, _, s3, q, ⟨joinedCs one other bk.stood.1, rfl, zm, zl, zp, .inr ⟨zv.mead, zv.custom, jo.1, jo.2, zv.odd⟩, rfl, rfl⟩, fun r' e3 u H' sb hb q' => ?_, fun x e3 => by cases e3⟩
    cases e3
    exact hQ u H' ((Sbut.of s1).trans sb) hb (Ar.res_back (S2.trans s3) q')
  · have em : mergeOut bk one other = (.exc x, bk) := by unfold mergeOut; rw [ex]
    rw [em] at e2
    cases e2
    exact hQ cls dd H3 (Sbut.of (S2.trans s3)) (hp.up (S2.trans s3)) q
def partOut (bk : Bk) : Out × Bk := match (partingsIn (pleaBy bk bk.stood.1)).head? with
  | none => (.exc .noParting, bk)
  | some t => (.ret (.d (.int (manyOf bk (some t)))), turned bk bk.stood.1 (some t))
def R_part : Bk → List Ar → Out → Bk → Prop := fun bk rs o bk' => rs = [] ∧ VPl (pleaBy bk bk.stood.1) ∧ LenO bk.mead bk.stood.2 ∧ bk.past.length ≤ 1000 ∧ (o, bk') = partOut bk
theorem mt_part (hn : XO T "NoParting") : Mt T C "part" 9 (spU T C R_part) := by
  refine mt_mk hM.d_part sm_part (spU_len (n := 0) fun _ _ _ _ z => by rw [z.1]; rfl) (fun _ _ _ _ _ _ us hl => match us, hl with | [_], _ => rfl) fun X E c hf vs H Q ⟨p, ws, rs, bk, o, bk', e, hp, hv, ⟨e1, zv, zl, zp, e2⟩, hQ⟩ => ?_
  subst e; subst e1
  cases hv
  have b := c.b
  have d : DCx T _ _ _ X.nox := ⟨c.b, hf⟩
  have hZ := hM.toBC
  have zs : VCs bk.stood.1 := zv.claims
  have ec : PyData.eqv (eCs bk.stood.1) (.tuple []) = decide (bk.stood.1 = []) := eqv_eCs bk.stood.1 []
  have ne : bk.stood.1 ≠ [] := fun z => by
    have := zs.len.1
    rw [z] at this
    simp at this
  have rn : R_plea_now bk [] (.d (ePl (pleaBy bk bk.stood.1))) := ⟨rfl, by rw [if_neg ne]⟩
  refine jss_cons (js_nox (js_setB d (i := 1) (r := .l ((partingsIn (pleaBy bk bk.stood.1)).map eR)) rfl (by decide +kernel) (ja_if (P := fun H1 v H2 => (Ar.l ((partingsIn (pleaBy bk bk.stood.1)).map eR)).res H1 v H2) (show JT X.nox _ _ H (decide (bk.stood.1 = [])) from ec ▸ (jt_eq (r := .d _) (q := .d _) b (ja_ixT (ja_f_stood b hZ (jv_var (i := 0) b rfl (by decide +kernel) rfl) hp) (ja_int (i := 0)) rfl) (ja_tup jds_nil) (by walk_at "sh") (by walk_at "sh"))) (fun hb => absurd (of_decide_eq_true hb) ne) (fun _ => (ja_call b (fn_partings_in h) (by decide) (by decide +kernel) (jrs_cons (ja_mP0 b hZ (mt_plea_now h hM) (by decide) (jv_var (i := 0) b rfl (by decide +kernel) rfl) hp rn) jrs_nil) ⟨_, rfl, zv, rfl⟩)) (fun _ _ _ _ s q => Ar.res_back s q)) rfl1 fun v1 B1 H1 g q1 => ?_))
  obtain ⟨p1, rfl, q1⟩ := q1
  have hp1 := hp.up g.base
  cases ep : partingsIn (pleaBy bk bk.stood.1) with
  | nil =>
    have em : partOut bk = (.exc .noParting, bk) := by unfold partOut; rw [ep]; rfl
    rw [em] at e2
    cases e2
    refine jss_cons (js_ifXT (jt_eq (r := .l _) (q := .l _) b (jr_var (r := .l _) (i := 1) b rfl (by decide +kernel) rfl (⟨_, rfl, q1⟩)) (JA.toR (ja_lst jds_nil)) (by first | exact (sh_lst (n := 59) (sh_map fun _ => sh_eR (by decide) _)) | exact (sh_lst (n := 59) sh_nil)) (by first | exact (sh_lst (n := 59) (sh_map fun _ => sh_eR (by decide) _)) | exact (sh_lst (n := 59) sh_nil))) (by rw [ep]; rfl) g.ins fun H2 s2 => jss_one (js_raise c hn (by decide +kernel) fun Cx hC => ?_))
    exact hQ _ _ _ (Sbut.of (g.up.trans s2)) (hp.up (g.up.trans s2)) ⟨Cx, hC, rfl, rfl⟩
  | cons t r =>
    have em : partOut bk = (.ret (.d (.int (manyOf bk (some t)))), turned bk bk.stood.1 (some t)) := by unfold partOut; rw [ep]; rfl
    rw [em] at e2
    cases e2
    have zt : LenO bk.mead (some t) := fun u e => by
      cases e
      exact parts_len zv (by rw [ep]; exact List.mem_cons_self)
    refine jss_cons (js_ifXF (jt_eq (r := .l _) (q := .l _) b (jr_var (r := .l _) (i := 1) b rfl (by decide +kernel) rfl (⟨_, rfl, q1⟩)) (JA.toR (ja_lst jds_nil)) (by first | exact (sh_lst (n := 59) (sh_map fun _ => sh_eR (by decide) _)) | exact (sh_lst (n := 59) sh_nil)) (by first | exact (sh_lst (n := 59) (sh_map fun _ => sh_eR (by decide) _)) | exact (sh_lst (n := 59) sh_nil))) (by rw [ep]; rfl) g.ins fun H2 s2 => ?_)
    have g2 := g.ins.trans s2
    have hpos : 0 < (partingsIn (pleaBy bk bk.stood.1)).length := by rw [ep]; simp
    have e2 : (partingsIn (pleaBy bk bk.stood.1)).getD (0 : Int).toNat [] = t := by rw [ep]; rfl
    refine jss_one (js_retX (jx_mU c hZ (mt_turn h hM) (by decide) (jv_var (i := 0) b rfl (by decide +kernel) rfl) (jrs_cons (r := .d (eCs bk.stood.1)) (JA.toR (ja_ixT (ja_f_stood b hZ (jv_var (i := 0) b rfl (by decide +kernel) rfl) hp1) (ja_int (i := 0)) rfl)) (jrs_cons (r := .d (optR (some t))) (JA.toR (EX.imp (ja_ixLm (f := eR) [] (jr_var (r := .l _) (i := 1) b rfl (by decide +kernel) rfl (⟨_, rfl, q1⟩)) (ja_int (i := 0)) (by omega)) fun H3 v H4 q => ?_)) jrs_nil)) g2 (hp1.up g2) ⟨_, some t, rfl, zv.mead, zl, zt, zp, rfl, rfl⟩ (fun r e v H' sb hb q => by cases e; exact hQ v H' ((Sbut.of (g.up.trans s2)).trans sb) hb (Ar.res_back (g.up.trans s2) q)) (fun x e => by cases e)) fun _ _ q => q)
    rw [e2] at q
    exact q
def R_undo : Bk → List Ar → Out → Bk → Prop := fun bk rs o bk' => ∃ l s, rs = [] ∧ bk.past = l ++ [s] ∧ o = .ret (.d .none) ∧ bk' = { bk with stood := s, past := l }
theorem mt_undo : Mt T C "undo" 2 (spU T C R_undo) := by
  refine mt_mk hM.d_undo sm_undo (spU_len (n := 0) fun _ _ _ _ ⟨_, _, z, _⟩ => by rw [z]; rfl) (fun _ _ _ _ _ _ us hl => match us, hl with | [_], _ => rfl) fun X E c hf vs H Q ⟨p, ws, rs, bk, o, bk', e, hp, hv, ⟨l, s, e1, ep, e2, e3⟩, hQ⟩ => ?_
  subst e; subst e1; subst e2; subst e3
  cases hv
  have b := c.b
  have hZ := hM.toBC
  have nl : bk.past ≠ [] := by rw [ep]; simp
  have eqvP : PyData.eqv (ePa bk.past) (.tuple []) = false := by
    unfold ePa
    rw [eqv_tup]
    cases hq : bk.past with
    | nil => exact absurd hq nl
    | cons a r => rfl
  refine jss_cons (js_ifXF (jt_eq (r := .d _) (q := .d _) b (ja_f_past b hZ (jv_var (i := 0) b rfl (by decide +kernel) rfl) hp) (ja_tup jds_nil) (by first | exact (sh_tup (n := 59) sh_nil) | exact sh_ePa _) (by first | exact (sh_tup (n := 59) sh_nil) | exact sh_ePa _)) eqvP rfl1 fun H1 s1 => ?_)
  have hp1 := hp.up s1
  obtain ⟨dx, vm, vc, vo, vh, vs, vp, f⟩ := id hp1
  have hgl : ∀ {B : Hp} {v : V}, Im B v (eSt (bk.past.getLastD ([], none))) → Im B v (eSt s) := fun {B v} q => by
    rw [ep] at q
    simpa using q
  refine jss_cons (js_nox (js_fld (P := fun _ v H => Im H v (eSt s)) b hZ (jv_var (i := 0) b rfl (by decide +kernel) rfl) rfl1 f.at_ hZ.n5 (Nat.le_of_ble_eq_true rfl) (EX.imp (ja_ixTlast (f := eSt) ([], none) (JA.toR (ja_f_past b hZ (jv_var (i := 0) b rfl (by decide +kernel) rfl) hp1)) (ja_neg (ja_int (i := 1))) rfl nl) fun _ _ _ q => hgl q) fun v4 H2 H3 s2 q4 s3 => ?_))
  have e4 : putF "stood" v4 (bkFs vm vc vo vh vs vp) = bkFs vm vc vo vh v4 vp := rfl
  rw [e4]
  have S3 := s2.trans s3
  have tk3 : TK H3 (upd H3 p (.ins C dx (bkFs vm vc vo vh v4 vp))) := TK.mut (S3 _ _ f.at_) (fun xs z => by cases z)
  have hp3 : BookAt C (upd H3 p (.ins C dx (bkFs vm vc vo vh v4 vp))) p { bk with stood := s } := ⟨dx, vm, vc, vo, vh, v4, vp, upd_same, (f.m.up S3).tk tk3, (f.c.up S3).tk tk3, (f.o.up S3).tk tk3, (f.h.up S3).tk tk3, (q4.up s3).tk tk3, (f.p.up S3).tk tk3⟩
  have ecut : cutD (bk.past.map eSt) none (some (-1)) = l.map eSt := by
    rw [ep, List.map_append]
    have hlen : (l.map eSt ++ [s].map eSt).length = l.length + 1 := by simp
    unfold cutD
    rw [hlen]
    have e1 : HT.sIx (l.length + 1) (l.length + 1) (some (-1)) = l.length := by
      show (if (-1 : Int) < 0 then ((-1 : Int) + ((l.length + 1 : Nat) : Int)).toNat else min (-1 : Int).toNat (l.length + 1)) = l.length
      rw [if_pos (by decide)]
      omega
    have e2 : HT.sIx (l.length + 1) 0 none = 0 := rfl
    rw [e1, e2, List.drop_zero, Nat.sub_zero]
    exact List.take_left' (by simp)
  refine jss_one (js_nox (js_fld (P := fun _ v H => Im H v (ePa l)) b hZ (jv_var (i := 0) b rfl (by decide +kernel) rfl) rfl1 upd_same hZ.n6 (Nat.le_of_ble_eq_true rfl) (ja_slE (ja_f_past b hZ (jv_var (i := 0) b rfl (by decide +kernel) rfl) hp3) jo_none (jo_some (ja_neg (ja_int (i := 1)))) (by exact ecut)) fun v5 H4 H5 s4 q5 s5 => ?_))
  have e5 : putF "past" v5 (bkFs vm vc vo vh v4 vp) = bkFs vm vc vo vh v4 v5 := rfl
  rw [e5]
  have S5 := s4.trans s5
  have tk5 : TK H5 (upd H5 p (.ins C dx (bkFs vm vc vo vh v4 v5))) := TK.mut (S5 _ _ upd_same) (fun xs z => by cases z)
  refine hQ _ _ (fun a o na ea => ?_) ⟨dx, vm, vc, vo, vh, v4, v5, upd_same, ?_, ?_, ?_, ?_, ?_, ?_⟩ .non
  · rw [upd_ne na]
    refine S5 _ _ ?_
    rw [upd_ne na]
    exact S3 _ _ (s1 _ _ ea)
  · exact (((f.m.up S3).tk tk3).up S5).tk tk5
  · exact (((f.c.up S3).tk tk3).up S5).tk tk5
  · exact (((f.o.up S3).tk tk3).up S5).tk tk5
  · exact (((f.h.up S3).tk tk3).up S5).tk tk5
  · exact (((q4.up s3).tk tk3).up S5).tk tk5
  · exact (q5.up s5).tk tk5
end
end Mead

set_option maxRecDepth 100000
set_option maxHeartbeats 4000000
namespace Mead
open PySem PySem.Spec PyProof.Rows L2
local macro_rules | `(tactic| walk_at "hl") => `(tactic| first | assumption | omega | (simp only [List.length_map]; omega) | exact Nat.le_of_ble_eq_true rfl | (simp only [List.length_map, List.length_mapIdx, List.length_range]; omega) | (simp only [List.length_mapIdx, List.length_map] at *; omega) | fail)
local macro_rules | `(tactic| walk_at "pc") => `(tactic| first | assumption | exact Nat.le_refl _ | omega)
local macro_rules | `(tactic| walk_at "sh") => `(tactic| first | exact sh_int _ | exact sh_bool _ | exact sh_none | exact sh_eP (by decide) _ | exact sh_eR (by decide) _ | exact sh_eL (by decide) _ | exact sh_eM (by decide) _ | exact sh_eC (by decide) _ | exact sh_eCs (by decide) _ | exact (sh_lst (n := 59) (sh_map fun _ => sh_eP (by decide) _)) | exact (sh_lst (n := 59) (sh_map fun _ => sh_eC (by decide) _)) | exact (sh_lst (n := 59) (sh_map fun _ => sh_eL (by decide) _)) | exact (sh_lst (n := 59) (sh_map fun _ => sh_int _)) | exact (sh_lst (n := 59) sh_nil) | exact (sh_tup (n := 59) sh_nil) | exact sh_tup (n := 59) (sh_cons (sh_int _) (sh_cons (sh_int _) sh_nil)) | exact sh_lst (n := 59) (sh_map fun _ => sh_tup (n := 58) (sh_cons (sh_int _) (sh_cons (sh_int _) sh_nil))) | fail)
local macro_rules | `(tactic| walk_at "al") => `(tactic| first | rfl | simp [PySem.W.alike, PySem.W.alikeAll, eP] | fail)
local macro_rules | `(tactic| walk_at "nn") => `(tactic| intro z; cases z)
section
variable {T : Tx} {N : List Str} {sc : Scope} {k : Nat} {W : WX} {X : Cx} {σ : L2.St} {B H : Hp} {a b e o : Expr} {es : List Expr} {pos : Pos} {D : Ends} {C p : Addr} {bk : Bk} {d : PyData}
theorem js_fldD (c : BCx T N sc k X) (Z : BC T C) {f : Str} {dx : Addr} {fs : List (Str × V)} {p' : Pos} (ho : JV X o σ H (.ref p)) (hp : H p = some (.ins C dx fs)) (hn : NoAttr T.K C f) (hl : fs.length < 1000) (hv : JR X e σ H (.d d))
    (q : ∀ v H', Sbut p H H' → H' p = some (.ins C dx (putF f v fs)) → Im H' v d → D.nx σ H') (hs : swapsWith e (some (.Attribute o f p')) pos.line X.env = pure false := by rfl) : jS X (.Assign [.Attribute o f p'] e pos) D σ H :=
  js_fld c Z ho rfl1 hp hn hl hv (fun v H1 H2 s1 q1 s2 => q v _ (fun a o na ea => by rw [upd_ne na]; exact s2 _ _ (s1 _ _ ea)) upd_same ((Im.up q1 s2).tk (TK.mut (s2 _ _ (s1 _ _ hp)) (fun xs z => by cases z)))) hs
end
section
variable {T : Tx} (h : Top T) {C : Addr} (hM : BM T C)
include h hM
def sp_init (C : Addr) : Sp := fun vs H Q _ => ∃ (p dx : Addr) (vm vc vo vh : V) (m : List (List Int)) (cu : List Int) (odd : Int) (hs : List Pl), vs = [.ref p, vm, vc, vo, vh] ∧ H p = some (.ins C dx []) ∧ Im H vm (eM m) ∧ Im H vc (eR cu) ∧ Im H vo (.int odd) ∧ Im H vh (eHs hs) ∧ VM m ∧ VCu cu ∧ (0 ≤ odd ∧ odd ≤ 999) ∧ VHs hs ∧ ∀ H', Sbut p H H' → BookAt C H' p ⟨m, cu, odd, hs, ([], none), []⟩ → Q .non H'
theorem fn_init : ∃ f fd, FnOk T.P T.w T.K T.mg T.base (L2.CX T.P T.w) 6 f fd ["self", "mead", "custom", "odd", "houses"] (sp_init C) ∧ Mk T.K C f ∧ Binds T.K fd ["self", "mead", "custom", "odd", "houses"] [] := by
  obtain ⟨f, fd, F, M⟩ := hM.init
  refine ⟨f, fd, fnx_ok F sm___init__ (fun vs H Q E ⟨_, _, _, _, _, _, _, _, _, _, e, _⟩ => by rw [e]; rfl) fun X E c hf vs H Q ⟨p, dx, vm, vc, vo, vh, m, cu, odd, hs, e, hp, h1, h2, h3, h4, zm, zc, zo, zh, hQ⟩ => ?_, M, F.bindsN (fun _ _ _ _ _ _ us hl => match us, hl with | [_, _, _, _, _], _ => rfl)⟩
  subst e
  have b := c.b
  have hZ := hM.toBC
  have y1 := zm.y1
  have hodd : decide (0 ≤ odd ∧ odd ≤ 999) = true := decide_eq_true zo
  refine jss_cons (js_nox (js_expr (ja_call b (fn_need_mead h) (by decide) (by decide +kernel) (jrs_cons (jr_var (r := .d _) (i := 1) b rfl (by decide +kernel) rfl h1) jrs_nil) ⟨_, rfl, (by first | assumption | exact zm | exact zc | exact zh), rfl⟩) rfl1 fun _ H1 s1 _ => jss_cons (js_nox (js_expr (ja_call b (fn_need_custom h) (by decide) (by decide +kernel) (jrs_cons (jr_var (r := .d _) (i := 2) b rfl (by decide +kernel) rfl h2) jrs_nil) ⟨_, rfl, (by first | assumption | exact zm | exact zc | exact zh), rfl⟩) s1 fun _ H2 s2 _ => jss_cons (js_ifXF (jt_not (jt_of_ja (ja_call b (fn_is_from h) (by decide) (by decide +kernel) (jrs_cons (jr_var (r := .d _) (i := 3) b rfl (by decide +kernel) rfl h3) (jrs_cons (ja_int (i := 0)) (jrs_cons (ja_num b (by decide +kernel) h.n_MOST_ODD) jrs_nil))) ⟨_, _, _, rfl, rfl⟩))) (by rw [hodd]; rfl) (s1.trans s2) fun H3 s3 => jss_cons (js_nox (js_expr (ja_call b (fn_need_houses h) (by decide) (by decide +kernel) (jrs_cons (jr_var (r := .d _) (i := 4) b rfl (by decide +kernel) rfl h4) jrs_nil) ⟨_, rfl, (by first | assumption | exact zm | exact zc | exact zh), rfl⟩) ((s1.trans s2).trans s3) fun _ H4 s4 _ => ?_)))))))
  have S4 := ((s1.trans s2).trans s3).trans s4
  have p4 := S4 _ _ hp
  have k1 := h1.up S4
  have k2 := h2.up S4
  have k3 := h3.up S4
  have k4 := h4.up S4
  refine jss_cons (js_nox (js_fldD (d := eM m) b hZ (jv_var (i := 0) b rfl (by decide +kernel) rfl) p4 hZ.n1 (Nat.le_of_ble_eq_true rfl) (jr_var (r := .d _) (i := 1) b rfl (by decide +kernel) rfl k1) fun w1 H5 b5 p5 q1 => ?_))
  have t5 := b5.tk p4
  have k2 := k2.tk t5
  have k3 := k3.tk t5
  have k4 := k4.tk t5
  refine jss_cons (js_nox (js_fldD (d := eR cu) b hZ (jv_var (i := 0) b rfl (by decide +kernel) rfl) p5 hZ.n2 (Nat.le_of_ble_eq_true rfl) (jr_var (r := .d _) (i := 2) b rfl (by decide +kernel) rfl k2) fun w2 H6 b6 p6 q2 => ?_))
  have t6 := b6.tk p5
  have q1 := q1.tk t6
  have k3 := k3.tk t6
  have k4 := k4.tk t6
  refine jss_cons (js_nox (js_fldD (d := .int odd) b hZ (jv_var (i := 0) b rfl (by decide +kernel) rfl) p6 hZ.n3 (Nat.le_of_ble_eq_true rfl) (jr_var (r := .d _) (i := 3) b rfl (by decide +kernel) rfl k3) fun w3 H7 b7 p7 q3 => ?_))
  have t7 := b7.tk p6
  have q1 := q1.tk t7
  have q2 := q2.tk t7
  have k4 := k4.tk t7
  refine jss_cons (js_nox (js_fldD (d := eHs hs) b hZ (jv_var (i := 0) b rfl (by decide +kernel) rfl) p7 hZ.n4 (Nat.le_of_ble_eq_true rfl) (jr_var (r := .d _) (i := 4) b rfl (by decide +kernel) rfl k4) fun w4 H8 b8 p8 q4 => ?_))
  have t8 := b8.tk p7
  have q1 := q1.tk t8
  have q2 := q2.tk t8
  have q3 := q3.tk t8
  refine jss_cons (js_nox (js_fldD (d := eSt ([], none)) b hZ (jv_var (i := 0) b rfl (by decide +kernel) rfl) p8 hZ.n5 (Nat.le_of_ble_eq_true rfl) (ja_tup (jds_cons (ja_tup jds_nil) (jds_cons ja_non jds_nil))) fun w5 H9 b9 p9 q5 => ?_))
  have t9 := b9.tk p8
  have q1 := q1.tk t9
  have q2 := q2.tk t9
  have q3 := q3.tk t9
  have q4 := q4.tk t9
  refine jss_one (js_nox (js_fldD (d := ePa []) b hZ (jv_var (i := 0) b rfl (by decide +kernel) rfl) p9 hZ.n6 (Nat.le_of_ble_eq_true rfl) (ja_tup jds_nil) fun w6 H10 b10 p10 q6 => ?_))
  have t10 := b10.tk p9
  exact hQ _ ((((((Sbut.of S4).trans b5).trans b6).trans b7).trans b8).trans (b9.trans b10)) ⟨dx, w1, w2, w3, w4, w5, w6, p10, q1.tk t10, q2.tk t10, q3.tk t10, q4.tk t10, q5.tk t10, q6⟩
/-- Book(..) -/
theorem jx_book {N : List Str} {sc : Scope} {k : Nat} {W : WX} {X : Cx} {σ : L2.St} {B H : Hp} {e1 e2 e3 e4 : Expr} {pos : Pos} {m : List (List Int)} {cu : List Int} {odd : Int} {hs : List Pl} {Q : VK} (c : RCx T N sc k W X) {pp : Pos} (hk : 7 ≤ k) (hg : glo sc "Book" = true)
    (ha : JRs X.nox [e1, e2, e3, e4] σ B [.d (eM m), .d (eR cu), .d (.int odd), .d (eHs hs)]) (hB : Same B H) (zm : VM m) (zc : VCu cu) (zo : 0 ≤ odd ∧ odd ≤ 999) (zh : VHs hs)
    (q : ∀ p H', H p = none → Same H H' → BookAt C H' p ⟨m, cu, odd, hs, ([], none), []⟩ → Q (.ref p) H')
    (he : starEach [e1, e2, e3, e4] X.env = (false, eval e1 X.env) :: starEach [e2, e3, e4] X.env := by rfl) (hpl : (backTo pos (starEach [e2, e3, e4] X.env)).any (·.1) = false := by rfl) : jE X (.Call (.Name "Book" pp) [e1, e2, e3, e4] [] pos) σ H Q := by
  obtain ⟨f, fd, F, M, hb⟩ := fn_init h hM
  have hK : X.K = T.K := c.b.K
  have F' : FnOk X.prog X.w X.K X.mg X.base (L2.CX X.prog X.w) 6 f fd ["self", "mead", "custom", "odd", "houses"] (sp_init C) := by
    rw [show X.prog = T.P from c.b.prog, show X.w = T.w from c.b.w, show X.K = T.K from c.b.K, show X.mg = T.mg from c.b.mg, show X.base = T.base from c.b.base]
    exact F
  refine je_of (pe_make (E := E0) (by rw [hK]; exact M) F' (c.b.room.mono (by omega)) (c.b.gl hg) (by rw [show X.mg = T.mg from c.b.mg]; exact hM.mg) (by rw [hK]; exact hb) .nil passL pa_j (by decide) he hpl) ?_
  refine ja_call0 (fun H1 s => ja_nox (ha H1 s)) hB fun vs H1 s1 hv x dx nx nd ne => ?_
  obtain ⟨v1, v2, v3, v4, rfl, h1, h2, h3, h4⟩ := reps4 hv
  have S : Same H1 (upd (upd H1 dx (.own x)) x (.ins C dx [])) := fun a o ea => by
    rw [upd_ne (ne_of_none ea nx), upd_ne (ne_of_none ea nd)]
    exact ea
  refine ⟨x, dx, v1, v2, v3, v4, m, cu, odd, hs, by rw [List.append_nil], upd_same, Im.up h1 S, Im.up h2 S, Im.up h3 S, Im.up h4 S, zm, zc, zo, zh, fun H' sb hb => ⟨rfl, q x H' (s1.free nx) (fun a o ea => ?_) hb⟩⟩
  have e1 := s1 _ _ ea
  exact sb a o (ne_of_none e1 nx) (S _ _ e1)
end
end Mead

set_option maxRecDepth 100000
set_option maxHeartbeats 4000000
/-! bodies that run while an exception is handled; isinstance of it; count, index, split -/
namespace Mead
open PySem PySem.Spec PyProof.Rows L2
/-- xs.count(x) over data -/
def rCountD (K : PySem.W.Frag) : V → List V → Hp → VK → Prop := fun x xs H Q => ∃ (a : Addr) (y : V) (d : PyData) (ds : List PyData), x = V.ref a ∧ xs = [y] ∧ Dp K H (V.ref a) (.list ds) ∧ Dp K H y d ∧
  SeqAt.shaped (.list ds) = true ∧ SeqAt.shaped d = true ∧ Q (.int (ds.countP (fun z => PyData.eqv z d) : Nat)) H
theorem mt_countD {X : Cx} (hu : X.A.units + 65 < cLine) : MtR X "list.count" (rCountD X.K) := by
  intro pins s σ H x xs v us Q I rx rxs h
  obtain ⟨a, y, d, ds, rfl, rfl, hl, hy, sl, sd, q⟩ := h
  cases rx
  cases rxs with
  | cons ry rt =>
    rename_i uy ut
    cases rt
    obtain ⟨bs, r1⟩ := Dp.reads I d y uy hy ry
    have hxs : PyData.canLayAll0 ds = true := SeqAt.canLay_of_shaped sl
    have hroom : X.A.units + 1 + min (PyData.depthAll ds) d.depth < cLine := room_in_shaped sd hu
    cases hl with
    | lst hs ha =>
      obtain ⟨its, rv, ⟨⟨cls, dd, data, sls⟩, n, ho, hc, hdn, hdt⟩, hlen⟩ := I.list hs
      simp only at hc hdt
      subst hc hdt
      obtain ⟨as, h4⟩ := Dp.readsAll I ds _ its ha rv
      have hmap : its.map (SeqAt.readOf s.heap) = ds := SeqAt.readsAll_map ds its as hxs h4
      refine call_meets PySem.F.slot_list_count ⟨_, ho, rfl⟩ PySem.F.entry_list_count (PySem.F.args_list_count_2 _ _)
        (SeqAt.list_countAt a its.toArray n dd sls uy (fun u => PyData.eqv (SeqAt.readOf s.heap u) d)) ⟨ho, SeqAt.items_eqAt (vs := its.toArray) (show ReadsAll s.heap its.toArray.toList ds as from h4) r1 hxs (SeqAt.canLay_of_shaped sd) hroom, ?_⟩
      have ec : its.toArray.toList.countP (fun u => PyData.eqv (SeqAt.readOf s.heap u) d) = ds.countP fun z => PyData.eqv z d := by
        rw [← hmap, List.countP_map]
        rfl
      refine ⟨.int (ds.countP (fun z => PyData.eqv z d) : Nat), H, I.tok _, ⟨s.toks, ?_⟩, q⟩
      rw [ec]
/-- a body without the wish that nothing is handled -/
structure WCx (T : Tx) (N : List Str) (sc : Scope) (X : Cx) : Prop where
  prog : X.prog = T.P
  w : X.w = T.w
  K : X.K = T.K
  mg : X.mg = T.mg
  base : X.base = T.base
  hN : X.N = N
  hs : X.env.scope = sc
  fk : sc.kind = .function
  nd : N.Nodup
  un : X.A.units + 100 < cLine
  xe : X.xe = fun _ _ => False
  fn : ∀ z, X.fn z = true
/-- what is known of the class of an exception that is met -/
structure XW (T : Tx) (x : Str) (C : Addr) : Prop where
  mg : T.mg x = some (.ref C)
  ex : ExcC T.K C
  all : ∀ y ∈ (["NoMead", "NoPlace", "NoLand", "NoCustom", "NoClaim", "NoClaims", "NoHolder", "There", "Missing", "NoPlea", "NoParting", "NoWill", "NoHouses", "NoOdd", "NoUndo", "TooMany"] : List Str), ∃ Cy : Addr, T.mg y = some (.ref Cy) ∧ PySem.W.kitOne T.K (.ref C) (.ref Cy) = some (decide (x = y))
  ve : PySem.W.kitOne T.K (.ref C) (.type "ValueError") = some true
/-- the exception at a, held by the context -/
def HeldX (X : Cx) (a : Addr) (C : Addr) (d : Option Addr) : Prop := ∃ oe : Obj, (a, oe) ∈ X.pn ∧ Zc (.ref C) d oe ∧ ∃ vs, oe.data = .fields vs
def DictOk (d : Option Addr) (H : Hp) : Prop := d = none ∨ ∃ (dd : Addr) (fs : List (Str × V)), d = some dd ∧ H dd = some (.xd fs)
theorem DictOk.up {d : Option Addr} {H H' : Hp} (h : DictOk d H) (s : Same H H') : DictOk d H' := by
  rcases h with h | ⟨dd, fs, h1, h2⟩
  · exact .inl h
  · exact .inr ⟨dd, fs, h1, s _ _ h2⟩
theorem Ex.dictOk {x : Ex} {d : Option Addr} {H : Hp} (h : x.fields d H) : DictOk d H := by
  cases x with
  | noParting => exact .inl h
  | noHolder => exact .inl h
  | tooMany n =>
    obtain ⟨dd, fs, h1, h2, _⟩ := h
    exact .inr ⟨dd, fs, h1, h2⟩
theorem call_isX {X : Cx} {a C : Addr} {d : Option Addr} (hE : ExcC X.K C) (hp : HeldX X a C d) : CallR X (.builtin "isinstance") (fun xs H Q => ∃ (c : V) (cv : Value) (b : Bool), xs = [.ref a, c] ∧ (∀ u, RelV c u → u = cv) ∧ PySem.W.kitOne X.K (.ref C) cv = some b ∧ DictOk d H ∧ Q (.bl b) H) := by
  intro pins s σ H xs us Q I r h
  obtain ⟨c, cv, b, rfl, hcv, e, hd, q⟩ := h
  obtain ⟨oe, hpn, hz, hf⟩ := hp
  cases r with
  | cons rx rr =>
    cases rr with
    | cons rt rr =>
      cases rr
      cases rx
      have ec := hcv _ rt
      subst ec
      obtain ⟨hget, _⟩ := I.pin (a, oe) (List.mem_append.mpr (.inl hpn))
      obtain ⟨vs, hv⟩ := hf
      have hcl : (PySem.W.clsIn X.K C).isSome = true := by
        have h := hE.hd
        unfold PySem.W.hasDictIn at h
        cases q : PySem.W.clsIn X.K C with
        | none => rw [q] at h; cases h
        | some _ => rfl
      have fin : ∀ od : Option Obj, PySem.W.InstAt s.heap a oe C od → wpAny (model X.prog X.w) X.A (call (.builtin "isinstance") [Value.ref a, _]) (EP X pins σ Q) X.xe s := fun od J =>
        PySem.W.kia_one (PySem.W.kitx_exc (od := od) hcl hE.hg hE.hk hE.hs hE.ha hE.hn hE.ht hE.hm) I.kIn J e (fun z => nomatch z) fun tk => ⟨.bl b, H, I.kept (t' := tk) fun _ _ z => z, rfl, q⟩
      rcases hd with hd | ⟨dd, fs, hd, hdx⟩
      · refine fin none ?_
        obtain ⟨oc, od, oda, osl⟩ := oe
        obtain ⟨h1, h2⟩ := hz
        dsimp only at h1 h2 hv
        subst h1 h2 hv
        subst hd
        exact ⟨hget, rfl, rfl, trivial⟩
      · have hx : ObjOk X.prog X.w H s.heap dd (.xd fs) := I.hok dd _ hdx
        obtain ⟨mA, hns, hr⟩ := hx
        obtain ⟨o2, ho, hl⟩ := lookIn_ns hns
        exact fin (some o2) ⟨hget, hz.1, by unfold PySem.W.notCls; rw [hv] <;> rfl, by rw [hz.2, hd]; exact ho⟩
section
variable {T : Tx} {N : List Str} {sc : Scope} {X : Cx} {σ : L2.St} {B H : Hp} {a b e o : Expr} {es : List Expr} {st : Stmt} {sts body : List Stmt} {pos : Pos} {D : Ends} {x y d : PyData} {ds : List PyData}
theorem WCx.gl (c : WCx T N sc X) {x : Str} (h : glo sc x = true) : Gl X x := by unfold Gl Env.kindOf; rw [c.hs]; exact (glo_of h).1
theorem jv_varW (c : WCx T N sc X) {i : Nat} {x : Str} {v : V} (hN : N[i]? = some x) (hv : Mead.vis sc x = true) (hs : σ[i]? = some (some v)) : JV X (.Name x pos) σ B v := fun H1 _ =>
  je_of (pe_var (i := i) (by rw [c.hN]; exact hN) (by rw [c.hs]; exact (vis_of hv).1) (vis_of hv).2.1 (vis_of hv).2.2) ⟨v, hs, Same.refl H1, rfl⟩
theorem js_setW (c : WCx T N sc X) {i : Nat} {z : Str} {p' : Pos} {P : Hp → V → Hp → Prop} (hN : N[i]? = some z) (hl : lc sc z = true) (h : EX X e σ B P) (hB : Same B H) (q : ∀ v H1, Same H H1 → P H v H1 → D.nx (σ.set i (some v)) H1)
    (hs : swapsWith e (some (.Name z p')) pos.line X.env = pure false := by rfl) : jS X (.Assign [.Name z p'] e pos) D σ H :=
  js_of (ps_set (i := i) (by rw [c.hN]; exact c.nd) (by rw [c.hN]; exact hN) (by rw [c.hs]; exact lc_of hl) pe_j hs (.inl (c.fn z))) (je_mono (h H hB) fun v H1 ⟨s, p⟩ => q v H1 s p)
theorem ja_isX (c : WCx T N sc X) {ad C : Addr} {dd : Option Addr} {cx : V} {cv : Value} {i : Bool} {p : Pos} (hE : ExcC T.K C) (hp : HeldX X ad C dd) (hg : glo sc "isinstance" = true) (hm : T.mg "isinstance" = none) (ho : JV X a σ B (.ref ad)) (hc : JV X b σ B cx) (hcv : ∀ u, RelV cx u → u = cv) (hk : PySem.W.kitOne T.K (.ref C) cv = some i) (hd : DictOk dd B)
    (he : starEach [a, b] X.env = (false, eval a X.env) :: starEach [b] X.env := by rfl) (he2 : starEach [b] X.env = (false, eval b X.env) :: starEach [] X.env := by rfl) (hpl : (backTo pos (starEach [b] X.env)).any (·.1) = false := by rfl) : JA X (.Call (.Name "isinstance" p) [a, b] [] pos) σ B (.d (.bool i)) := fun H1 s =>
  je_of (pe_callB (call_isX (by rw [c.K]; exact hE) hp) (c.gl hg) (by rw [c.mg]; exact hm) boot_isinstance (pa_cons pe_j (pa_cons pe_j pa_nil he2) he) (by decide) (by decide) he hpl)
    (je_mono (ho H1 s) fun v H2 ⟨s2, e2⟩ => je_mono (hc H2 (s.trans s2)) fun u H3 ⟨s3, e3⟩ => ⟨cx, cv, i, by rw [e2, e3], hcv, by rw [c.K]; exact hk, hd.up ((s.trans s2).trans s3), s2.trans s3, .bl i⟩)
/-- a class of the module -/
theorem jv_cls (c : WCx T N sc X) {x : Str} {C : Addr} (hg : glo sc x = true) (hm : T.mg x = some (.ref C)) : JV X (.Name x pos) σ B (.ref C) := fun H1 _ => je_of (pe_glob (v := .ref C) (c.gl hg) (by rw [c.mg]; exact hm) rfl (glo_of hg).2.1) ⟨Same.refl H1, rfl⟩
theorem jv_ve (c : WCx T N sc X) (hg : glo sc "ValueError" = true) (hm : T.mg "ValueError" = none) : JV X (.Name "ValueError" pos) σ B (.ty "ValueError") := fun H1 _ => je_of (pe_bltn (v := .ty "ValueError") (c.gl hg) (by rw [c.mg]; exact hm) PyProof.Rows.Boot.«ValueError» rfl (by decide) (by decide)) ⟨Same.refl H1, rfl⟩
/-- xs.count(True) != 1 -/
theorem ja_count (c : WCx T N sc X) {apos cpos : Pos} (ho : JR X o σ B (.l ds)) (he : JR X e σ B (.d d)) (h1 : Sh 60 (.list ds)) (h2 : Sh 60 d)
    (hbase : attributeBase o "count" X.env (eval o X.env) = eval o X.env := by rfl)
    (hfew : ((backTo cpos (starEach [e] X.env)).all (fun x => !x.1) && (backToKw cpos (keywordEach [] X.env)).all (fun x => x.1.isSome) && decide ([e].length + ([] : List Keyword).length + (if ([] : List Keyword).isEmpty then 0 else 1) < 30)) = true := by rfl)
    (hline : (apos.endLine == cpos.line) = true := by rfl) (hs : starEach [e] X.env = (false, eval e X.env) :: starEach [] X.env := by rfl) : JA X (.Call (.Attribute o "count" apos) [e] [] cpos) σ B (.d (.int (ds.countP (fun z => PyData.eqv z d) : Nat))) := fun H1 s =>
  je_of (pe_bm PySem.F.plainAttrs_list PySem.F.slot_list_count PySem.F.type_list_count (mt_countD (by have := c.un; omega)) pe_j (pa_cons pe_j pa_nil hs) hbase hfew hline hs rfl)
    (je_mono (ho H1 s) fun v H2 ⟨s2, q2⟩ => by
      obtain ⟨p, e1, L⟩ := q2
      subst e1
      refine ⟨.inl ⟨rfl, L.sql.imp fun _ z => z.1⟩, je_mono (he H2 (s.trans s2)) fun u H3 ⟨s3, q3⟩ => ⟨p, u, d, ds, rfl, rfl, (L.up s3).dp, Im.dp _ _ q3, h1.ok (by decide), h2.ok (by decide), s2.trans s3, .int _⟩⟩)
theorem ja_index (c : WCx T N sc X) {apos cpos : Pos} {j : Nat} {z : PyData} (ho : JR X o σ B (.l ds)) (he : JR X e σ B (.d d)) (h1 : Sh 60 (.list ds)) (h2 : Sh 60 d) (hj : ds[j]? = some z) (hz : PyData.eqv z d = true) (hno : ∀ (m : Nat) (z' : PyData), m < j → ds[m]? = some z' → PyData.eqv z' d = false)
    (hbase : attributeBase o "index" X.env (eval o X.env) = eval o X.env := by rfl)
    (hfew : ((backTo cpos (starEach [e] X.env)).all (fun x => !x.1) && (backToKw cpos (keywordEach [] X.env)).all (fun x => x.1.isSome) && decide ([e].length + ([] : List Keyword).length + (if ([] : List Keyword).isEmpty then 0 else 1) < 30)) = true := by rfl)
    (hline : (apos.endLine == cpos.line) = true := by rfl) (hs : starEach [e] X.env = (false, eval e X.env) :: starEach [] X.env := by rfl) : JA X (.Call (.Attribute o "index" apos) [e] [] cpos) σ B (.d (.int (j : Nat))) := fun H1 s =>
  je_of (pe_bm PySem.F.plainAttrs_list PySem.F.slot_list_index PySem.F.type_list_index (mt_indexD (by have := c.un; omega)) pe_j (pa_cons pe_j pa_nil hs) hbase hfew hline hs rfl)
    (je_mono (ho H1 s) fun v H2 ⟨s2, q2⟩ => by
      obtain ⟨p, e1, L⟩ := q2
      subst e1
      refine ⟨.inl ⟨rfl, L.sql.imp fun _ z => z.1⟩, je_mono (he H2 (s.trans s2)) fun u H3 ⟨s3, q3⟩ => ⟨p, u, d, ds, j, z, rfl, rfl, (L.up s3).dp, Im.dp _ _ q3, h1.ok (by decide), h2.ok (by decide), hj, hz, hno, s2.trans s3, .int _⟩⟩)
theorem ima_strs {H : Hp} : ∀ l : List Str, ImA H (l.map V.str) (l.map .str)
  | [] => .nil
  | x :: l => .cons (.str x) (ima_strs l)
theorem ja_split {apos cpos : Pos} {x z : Str} (ho : JR X o σ B (.d (.str x))) (he : JR X e σ B (.d (.str z))) (hz : (z.length == 0) = false) (hl : x.length + 2 ≤ sizeLine)
    (hs : starEach [e] X.env = [(false, eval e X.env)] := by rfl) (hbase : attributeBase o "split" X.env (eval o X.env) = eval o X.env := by rfl) (hline : (apos.endLine == cpos.line) = true := by rfl) : JA X (.Call (.Attribute o "split" apos) [e] [] cpos) σ B (.l ((Txt.split x z).map .str)) := fun H1 s =>
  je_of (pe_m1 PySem.F.slot_str_split PySem.F.type_str_split mt_split pe_j pe_j hs hbase hline)
    (je_mono (ho H1 s) fun v H2 ⟨s2, q2⟩ => ⟨⟨x, Im.isStr q2⟩, je_mono (he H2 (s.trans s2)) fun u H3 ⟨s3, q3⟩ => ⟨x, z, Im.isStr q2, by rw [Im.isStr q3], hz, hl, fun p np => ⟨(s2.trans s3).trans (Same.new np), p, rfl, (s2.trans s3).free np, _, upd_same, ima_strs _⟩⟩⟩)
end
end Mead

set_option maxRecDepth 100000
set_option maxHeartbeats 4000000
/-! a def called while an exception is handled, that raises nothing -/
namespace Mead
open PySem PySem.Spec PyProof.Rows L2 L2H
abbrev cxW (T : Tx) (N : List Str) (qual : Str) (scope : Scope) (f : Addr) (cd : Value) (A : Around) (outer : List Env) (s : Shared) (H : Hp) (p : Addr × Obj) : Cx :=
  (cxH CX0 T.P T.w T.K T.mg T.base N qual scope f cd A outer s H E0 p).nox
theorem run_w {T : Tx} {k : Nat} {f : Addr} {x qual : Str} {st : Stmt} {fd : FuncData} {N ps : List Str} (F : FunD T.K x qual (defArgs st) (defBody st) (defScope st) [] [] f fd) (S : FnScope N ps (defScope st))
    {A : Around} {outer : List Env} {s : Shared} {H : Hp} {us : List Value} {vs : List V} {Q : VK} {p : Addr × Obj} (hr : RoomH (k + 1) A) (hpin : PinOk outer H s p) (e0 : Env0 T.P T.w T.K T.mg T.base A outer s H) (hb : BindsTo s fd ⟨us, []⟩ (ps.zip us)) (r : Vals vs us) (hl : vs.length = ps.length)
    (hbody : ∀ cdv, WCx T N (defScope st) (cxW T N qual (defScope st) f cdv A outer s H p) → p ∈ (cxW T N qual (defScope st) f cdv A outer s H p).pn → jSs (cxW T N qual (defScope st) f cdv A outer s H p) (defBody st) { nx := fun _ H' => Q .non H', rt := Q } (L2.start N vs) H) :
    codeAny (model T.P T.w) A (.call (.ref f) ⟨us, []⟩) (CR CX0 outer T.P T.w H s Q E0) s := by
  obtain ⟨oc, od, dV, kV, doc, pm, an, cdv, ct, osl, rfl, lk, hcd, _, _⟩ := F.ex
  have KX : T.K.In s.heap := e0.mod.kin.keeps fun b o e => (e0.bs b o e).1
  have lim : s.heap.NoLimit := e0.mod.nolimit.keeps fun b o e => (e0.bs b o e).1
  have hkind : ∀ y ∈ ps.zip us, (defScope st).names.lookup y.1 = some .local ∨ ((defScope st).names.lookup y.1 = some .cell ∧ ((cellsFrom (s.heap.objs.size + 1) (defScope st).names []).lookup y.1).isSome = true) := fun ⟨n, v⟩ hy => by
    rcases S.par n (List.of_mem_zip hy).1 with q | q
    · exact .inl q
    · exact .inr ⟨q, PySem.W.cellsFrom_some _ _ _ (.inl q)⟩
  refine codeAny_call_function hr.depth (KX _ _ lk) rfl S.co S.gen rfl (PySem.W.codeRec_of KX hcd) (hb _ _ _ _ ?_)
  refine wpAny_newFunctionEnv_cells S.kind hkind fun env he s1 xx => ?_
  subst he
  refine ⟨lim.keeps xx.toInCall.keep, codeAny_func ?_⟩
  have hun := (hr.deeper (envOfC qual (defScope st) s.heap.objs.size f cdv)).un
  have hq := hbody cdv ⟨rfl, rfl, rfl, rfl, rfl, rfl, rfl, S.kind, S.nd, (by show (A.deeper (envOfC qual (defScope st) s.heap.objs.size f cdv)).units + 100 < cLine; omega), rfl, fun _ => rfl⟩ List.mem_cons_self
  have I : Inv (cxW T N qual (defScope st) f cdv A outer s H p) [] (L2.start N vs) H s1 := (inv_startH (CX := CX0) (E := E0) (cd := cdv) S hpin e0 hl r xx).wish _
  refine wpAny_mono (hq [] s1 I) (fun fl s' hs => ?_) fun e s' hs => False.elim hs
  have fin : ∀ {σ' : L2.St} {H' : Hp} {v : V} {u : Value}, Inv (cxW T N qual (defScope st) f cdv A outer s H p) [] σ' H' s' → RelV v u → Q v H' → CE outer T.P T.w H s Q u s' :=
    fun {σ' H' v u} J rv q => ⟨v, H', J.os, J.bare, J.base, J.hok, rv, q⟩
  cases fl with
  | ret u =>
    obtain ⟨v, σ', H', J, rv, q⟩ := hs
    exact fin J rv q
  | next =>
    obtain ⟨σ', H', J, q⟩ := hs
    exact fin (v := V.non) (u := Value.none) J rfl q
  | brk =>
    obtain ⟨_, _, _, q⟩ := hs
    exact False.elim q
  | cont =>
    obtain ⟨_, _, _, q⟩ := hs
    exact False.elim q
/-- f(e), e the exception that is held -/
theorem jx_callW {T : Tx} {N0 : List Str} {sc0 : Scope} {X : Cx} {σ : L2.St} {H : Hp} {e : Expr} {pos p1 : Pos} {x : Str} {st : Stmt} {N : List Str} {y : Str} {k : Nat} {p : Addr × Obj} {Q : VK} (c : WCx T N0 sc0 X) (D : Def T x st) (S : FnScope N [y] (defScope st)) (hr : RoomH (k + 1) X.A) (hp : p ∈ X.pn) (hg : glo sc0 x = true) (ho : JV X e σ H (.ref p.1))
    (hb : ∀ (kV doc pm : Value) (an : Option Addr) (cdv ct : Value) (us : List Value), us.length = [y].length → bindArgs (PySem.W.fnOf x x (defArgs st) (defBody st) (defScope st) .none kV doc pm an cdv ct) ⟨us, []⟩ = pure ([y].zip us))
    (hbody : ∀ Y, WCx T N (defScope st) Y → p ∈ Y.pn → ∀ H1, Same H H1 → jSs Y (defBody st) { nx := fun _ H' => Q .non H', rt := Q } (L2.start N [.ref p.1]) H1)
    (he : starEach [e] X.env = (false, eval e X.env) :: starEach [] X.env := by rfl) (hpl : (backTo pos (starEach [] X.env)).any (·.1) = false := by rfl) : jE X (.Call (.Name x p1) [e] [] pos) σ H Q := by
  obtain ⟨f, fd, F, hm⟩ := D
  intro pins s I
  refine wpAny_Call_Name_kw (ld_glob I (c.gl hg) (by rw [c.mg]; exact hm) ?_ (glo_of hg).2.1)
  have hK : X.K = T.K := c.K
  refine PySem.W.callWith_K (h₀ := X.base) I.ok.mod.kin (by rw [hK]; exact F.kp) (thn ((pa_cons pe_j pa_nil he).run pos pins s σ H (fun vs H1 => vs = [.ref p.1] ∧ Same H H1) I (je_mono (ho H rfl1) fun v H1 ⟨s1, e1⟩ => ⟨by rw [e1], s1⟩)) fun us s1 ⟨vs, H1, I1, r, ev, sH⟩ => ⟨I1.kIn, ?_⟩) he hpl
  subst ev
  have hl : us.length = [y].length := by rw [← r.length]; rfl
  have bd := F.bindsN hb s1 us (by rw [← hK]; exact I1.kIn) (by rw [List.append_nil]; exact hl)
  rw [List.append_nil] at bd
  have P1 := I1.pin p (List.mem_append_left _ hp)
  have hpin : PinOk X.stack H1 s1 p := ⟨P1.1, P1.2.1, fun hm => (List.mem_cons.mp (I1.stkSub p.1 hm)).elim P1.2.2.1 P1.2.2.2.1, P1.2.2.2.2⟩
  have e0 := I1.env0
  rw [show X.prog = T.P from c.prog, show X.w = T.w from c.w, show X.K = T.K from c.K, show X.mg = T.mg from c.mg, show X.base = T.base from c.base] at e0
  have rc := run_w (T := T) (k := k) (Q := Q) (us := us) (vs := [V.ref p.1]) F S hr hpin e0 bd r rfl fun cdv cw hpn => hbody _ cw hpn H1 sH
  rw [← show X.prog = T.P from c.prog, ← show X.w = T.w from c.w] at rc
  refine wpAny_call (codeAny_mono rc fun r s' hq => ?_)
  cases r with
  | error e => exact False.elim hq
  | ok fl =>
    cases fl with
    | ret u => exact I1.after hq
    | next => exact False.elim hq
    | brk => exact False.elim hq
    | cont => exact False.elim hq
end Mead

set_option maxRecDepth 100000
set_option maxHeartbeats 4000000
/-! _law_word: which refusal it is -/
namespace Mead
open PySem PySem.Spec PyProof.Rows L2 L2H
def mk4 (x : Ex) (a b c d : Str) : List PyData := [.bool (decide (x.cls = a)), .bool (decide (x.cls = b)), .bool (decide (x.cls = c)), .bool (decide (x.cls = d))]
def marksOf (x : Ex) : List PyData := ((mk4 x "NoMead" "NoPlace" "NoLand" "NoCustom" ++ mk4 x "NoClaim" "NoClaims" "NoHolder" "There") ++ mk4 x "Missing" "NoPlea" "NoParting" "NoWill") ++ mk4 x "NoHouses" "NoOdd" "NoUndo" "TooMany"
def Ex.ix : Ex → Nat
  | .noParting => 10
  | .noHolder => 6
  | .tooMany _ => 15
theorem Ex.cls_eq (x : Ex) : ∃ i, i < 3 ∧ x.cls = (["NoParting", "NoHolder", "TooMany"] : List Str).getD i "" ∧ x.ix = [10, 6, 15].getD i 0 ∧ x.word = (["parting", "holder", "many"] : List Str).getD i "" := by
  cases x with
  | noParting => exact ⟨0, by decide, rfl, rfl, rfl⟩
  | noHolder => exact ⟨1, by decide, rfl, rfl, rfl⟩
  | tooMany n => exact ⟨2, by decide, rfl, rfl, rfl⟩
def boolsOf (x : Ex) : List Bool := kinds16.map fun y => decide (x.cls = y)
theorem marks_bools (x : Ex) : marksOf x = (boolsOf x).map .bool := rfl
theorem bools_of (x : Ex) : boolsOf x = (List.range 16).map fun i => decide (i = x.ix) := by
  cases x with
  | noParting => show kinds16.map (fun y => decide (("NoParting" : Str) = y)) = (List.range 16).map fun i => decide (i = 10); decide +kernel
  | noHolder => show kinds16.map (fun y => decide (("NoHolder" : Str) = y)) = (List.range 16).map fun i => decide (i = 6); decide +kernel
  | tooMany n => show kinds16.map (fun y => decide (("TooMany" : Str) = y)) = (List.range 16).map fun i => decide (i = 15); decide +kernel
theorem eqv_bool (a b : Bool) : PyData.eqv (.bool a) (.bool b) = (a == b) := by
  simp only [PyData.eqv]
theorem marks_count (x : Ex) : (marksOf x).countP (fun z => PyData.eqv z (.bool true)) = 1 := by
  rw [marks_bools, List.countP_map]
  have e : (fun z => PyData.eqv z (.bool true)) ∘ PyData.bool = fun b => b == true := by
    funext b
    exact eqv_bool b true
  rw [e, bools_of]
  have : x.ix = 10 ∨ x.ix = 6 ∨ x.ix = 15 := by cases x <;> simp [Ex.ix]
  rcases this with h | h | h <;> rw [h] <;> decide +kernel
theorem marks_at (x : Ex) : (marksOf x)[x.ix]? = some (.bool true) := by
  rw [marks_bools, List.getElem?_map, bools_of]
  have : x.ix = 10 ∨ x.ix = 6 ∨ x.ix = 15 := by cases x <;> simp [Ex.ix]
  rcases this with h | h | h <;> rw [h] <;> rfl
theorem marks_no (x : Ex) (m : Nat) (z : PyData) (hm : m < x.ix) (hz : (marksOf x)[m]? = some z) : PyData.eqv z (.bool true) = false := by
  rw [marks_bools, List.getElem?_map, bools_of, List.getElem?_map] at hz
  have h16 : x.ix < 16 := by cases x <;> simp [Ex.ix]
  rw [List.getElem?_range (by omega)] at hz
  have hz : some (PyData.bool (decide (m = x.ix))) = some z := hz
  rw [← Option.some.inj hz, eqv_bool, decide_eq_false (by omega)]
  rfl
def wordsStr : Str := "mead place land custom claim claims holder there missing plea parting will houses odd undo many"
def words16 : List Str := ["mead", "place", "land", "custom", "claim", "claims", "holder", "there", "missing", "plea", "parting", "will", "houses", "odd", "undo", "many"]
theorem words_split : Txt.split wordsStr " " = words16 := by decide +kernel
theorem words_at (x : Ex) : atI (words16.map PyData.str) (x.ix : Nat) = some (.str x.word) := by
  cases x <;> rfl
theorem sh_marks (x : Ex) : Sh 60 (.list (marksOf x)) := by
  rw [marks_bools]
  exact sh_lst (n := 59) (sh_map fun _ => sh_bool _)
theorem word_body {T : Tx} (h : Top T) {Y : Cx} {a C : Addr} {d : Option Addr} {x : Ex} {H : Hp} {Q : VK} (c : WCx T ["_law_e", "_law_marks", "_law_kinds"] (defScope s__law_word) Y) (hx : XW T x.cls C) (hp : HeldX Y a C d) (hd : DictOk d H)
    (hQ : ∀ v H', Same H H' → Im H' v (.str x.word) → Q v H') : jSs Y (defBody s__law_word) { nx := fun _ H' => Q .non H', rt := Q } (L2.start ["_law_e", "_law_marks", "_law_kinds"] [.ref a]) H := by
  have isx : ∀ (y : Str), y ∈ kinds16 → glo (defScope s__law_word) y = true → ∀ {σ : L2.St} {B : Hp} {p p1 p2 pos : Pos}, σ[0]? = some (some (.ref a)) → DictOk d B → JA Y (.Call (.Name "isinstance" p) [.Name "_law_e" p1, .Name y p2] [] pos) σ B (.d (.bool (decide (x.cls = y)))) := fun y hy hg σ B p p1 p2 pos hσ hdB => by
    obtain ⟨Cy, m1, m2⟩ := hx.all y hy
    exact ja_isX c hx.ex hp (by decide +kernel) h.f_isinstance (jv_varW c (i := 0) rfl (by decide +kernel) hσ) (jv_cls c hg m1) (fun u r => r) m2 hdB
  have g4 : ∀ (y1 y2 y3 y4 : Str), (y1 ∈ kinds16 ∧ y2 ∈ kinds16 ∧ y3 ∈ kinds16 ∧ y4 ∈ kinds16) → (glo (defScope s__law_word) y1 = true ∧ glo (defScope s__law_word) y2 = true ∧ glo (defScope s__law_word) y3 = true ∧ glo (defScope s__law_word) y4 = true) →
      ∀ {σ : L2.St} {B : Hp} {p1 p2 p3 p4 q1 q2 q3 q4 r1 r2 r3 r4 s1 s2 s3 s4 pos : Pos}, σ[0]? = some (some (.ref a)) → DictOk d B → JA Y (.List [.Call (.Name "isinstance" p1) [.Name "_law_e" q1, .Name y1 r1] [] s1, .Call (.Name "isinstance" p2) [.Name "_law_e" q2, .Name y2 r2] [] s2, .Call (.Name "isinstance" p3) [.Name "_law_e" q3, .Name y3 r3] [] s3, .Call (.Name "isinstance" p4) [.Name "_law_e" q4, .Name y4 r4] [] s4] pos) σ B (.l (mk4 x y1 y2 y3 y4)) :=
    fun y1 y2 y3 y4 ⟨m1, m2, m3, m4⟩ ⟨k1, k2, k3, k4⟩ σ B _ _ _ _ _ _ _ _ _ _ _ _ _ _ _ _ _ hσ hdB => ja_lst (jds_cons (isx y1 m1 k1 hσ hdB) (jds_cons (isx y2 m2 k2 hσ hdB) (jds_cons (isx y3 m3 k3 hσ hdB) (jds_cons (isx y4 m4 k4 hσ hdB) jds_nil))))
  have vm : ∀ {σ : L2.St} {B : Hp} {q : Addr} {ds : List PyData} {pos : Pos}, σ[1]? = some (some (.ref q)) → Ls B q ds → JR Y (.Name "_law_marks" pos) σ B (.l ds) := fun hσ hl => (jv_varW c (i := 1) rfl (by decide +kernel) hσ).toR ⟨_, rfl, hl⟩
  refine jss_cons (js_setW c (i := 1) rfl (by decide +kernel) (g4 _ _ _ _ (by decide) ⟨by decide +kernel, by decide +kernel, by decide +kernel, by decide +kernel⟩ rfl hd) rfl1 fun v H1 s1 ⟨q1, e1, _, l1⟩ => ?_)
  subst e1
  have hd1 := hd.up s1
  refine jss_cons (js_setW c (i := 1) rfl (by decide +kernel) (ja_catL (vm rfl l1) (JA.toR (g4 _ _ _ _ (by decide) ⟨by decide +kernel, by decide +kernel, by decide +kernel, by decide +kernel⟩ rfl hd1)) (Nat.le_of_ble_eq_true rfl)) rfl1 fun v H2 s2 ⟨q2, e2, _, l2⟩ => ?_)
  subst e2
  have hd2 := hd1.up s2
  refine jss_cons (js_setW c (i := 1) rfl (by decide +kernel) (ja_catL (vm rfl l2) (JA.toR (g4 _ _ _ _ (by decide) ⟨by decide +kernel, by decide +kernel, by decide +kernel, by decide +kernel⟩ rfl hd2)) (Nat.le_of_ble_eq_true rfl)) rfl1 fun v H3 s3 ⟨q3, e3, _, l3⟩ => ?_)
  subst e3
  have hd3 := hd2.up s3
  refine jss_cons (js_setW c (i := 1) rfl (by decide +kernel) (ja_catL (vm rfl l3) (JA.toR (g4 _ _ _ _ (by decide) ⟨by decide +kernel, by decide +kernel, by decide +kernel, by decide +kernel⟩ rfl hd3)) (Nat.le_of_ble_eq_true rfl)) rfl1 fun v H4 s4 ⟨q4, e4, _, l4⟩ => ?_)
  subst e4
  have hd4 := hd3.up s4
  have l4 : Ls H4 q4 (marksOf x) := l4
  have cne : CmpA Y .NotEq H4 (Rp (.d (.int ((marksOf x).countP (fun z => PyData.eqv z (.bool true)) : Nat)))) (Rp (.d (.int 1))) false := ⟨rNe, op_ne, fun K1 u K2 w K3 _ _ _ p2 p3 Q q => by
    rw [marks_count] at p2
    have e1 := Im.isInt p2
    have e2 := Im.isInt p3
    subst e1; subst e2
    exact ⟨rfl, q⟩⟩
  refine jss_cons (js_ifF0 (i := (false || !true)) (JW.t (jw_or (jt_cmp cne (JA.toR (ja_count c (vm rfl l4) ja_bl (sh_marks x) (sh_bool _))) (JA.toR ja_int)) fun _ => jw_or1 (jt_not (jt_of_ja (ja_isX c hx.ex hp (by decide +kernel) h.f_isinstance (jv_varW c (i := 0) rfl (by decide +kernel) rfl) (jv_ve c (by decide +kernel) h.f_ValueError) (fun u r => r) hx.ve hd4))))) rfl rfl1 fun H5 s5 => ?_)
  refine jss_cons (js_setW c (i := 2) (P := fun _ v _ => v = .str wordsStr) rfl (by decide +kernel) (EX.imp (ja_str (i := wordsStr)) fun _ _ _ q => Im.isStr q) rfl1 fun v H6 s6 e6 => ?_)
  subst e6
  have l6 := (l4.up s5).up s6
  refine jss_one (js_ret (ja_ixL (d := .str x.word) (JA.toR (ja_split (x := wordsStr) (z := " ") ((jv_varW c (i := 2) rfl (by decide +kernel) rfl).toR (.str _)) ja_str (by decide) (by decide +kernel))) (ja_index c (vm rfl l6) ja_bl (sh_marks x) (sh_bool _) (marks_at x) (eqv_bool true true) (marks_no x)) (by rw [words_split]; exact words_at x)) rfl1 fun v H7 s7 q7 => ?_)
  exact hQ v H7 (((((s1.trans s2).trans s3).trans s4).trans s5).trans (s6.trans s7)) q7
end Mead

set_option maxRecDepth 100000
set_option maxHeartbeats 4000000
/-! _law_came: what is told, or the refusal -/
namespace Mead
open PySem PySem.Spec PyProof.Rows L2 L2H
/-- what is known of the refusals' classes -/
structure XWs (T : Tx) (CM C3 fI : Addr) : Prop where
  me : T.mg "MeadError" = some (.ref CM)
  all : ∀ x : Ex, ∃ C, XW T x.cls C ∧ PySem.W.exmOne T.K (.ref C) (.ref CM) = some true
  nh : XO T "NoHolder"
  np : XO T "NoParting"
  tm : XTM T C3 fI
  xf : XfC T.K C3
def noD : Ex → PyData
  | .tooMany n => .tuple [.str "no", .str "many", .int n, .int 20]
  | x => .tuple [.str "no", .str x.word]
abbrev N_came : List Str := ["_law_call_here", "_law_e"]
section
variable {T : Tx} (h : Top T) {CM C3 fI : Addr} (hW : XWs T CM C3 fI)
include h hW
theorem ex_word {N : List Str} {sc : Scope} {Y : Cx} {σ : L2.St} {B : Hp} {e : Expr} {pos p1 : Pos} {a C : Addr} {d : Option Addr} {x : Ex} {oe : Obj} (c : WCx T N sc Y) (hx : XW T x.cls C) (hpn : (a, oe) ∈ Y.pn) (hz : Zc (.ref C) d oe) (hf : ∃ vs, oe.data = .fields vs) (hd : DictOk d B) (hr : RoomH 1 Y.A) (hg : glo sc "_law_word" = true) (ho : JV Y e σ B (.ref a))
    (he : starEach [e] Y.env = (false, eval e Y.env) :: starEach [] Y.env := by rfl) (hpl : (backTo pos (starEach [] Y.env)).any (·.1) = false := by rfl) : JA Y (.Call (.Name "_law_word" p1) [e] [] pos) σ B (.d (.str x.word)) := fun H1 s =>
  jx_callW (Q := fun v H2 => Same H1 H2 ∧ Im H2 v (.str x.word)) (p := (a, oe)) c h.d__law_word sc__law_word hr hpn hg (EX.up ho s) (fun _ _ _ _ _ _ us hl => match us, hl with | [_], _ => rfl) (fun Z cz hz' H2 s2 => word_body (Q := fun v H2 => Same H1 H2 ∧ Im H2 v (.str x.word)) h cz hx ⟨oe, hz', hz, hf⟩ (hd.up (s.trans s2)) fun v H3 s3 q => ⟨s2.trans s3, q⟩) he hpl
theorem came_suite {Z : Cx} {σ : L2.St} {a : Addr} {oe : Obj} {cls : Value} {d : Option Addr} {pn : List (Addr × Obj)} {H : Hp} {D : Ends} {x : Ex} (c : WCx T N_came (defScope s__law_came) (Z.suite a ((a, oe) :: pn))) (hr : RoomH 1 Z.A) (hz : Zc cls d oe) (hf : ∃ vs, oe.data = .fields vs) (hσ : σ[1]? = some (some (.ref a))) (hI : ExIs T x cls d H) (hQ : ∀ v H', Same H H' → Im H' v (noD x) → D.rt v H')
    {p1 p2 p3 p4 p5 p6 p7 p8 p9 q1 q2 q3 q4 q5 q6 q7 q8 q9 r1 r2 r3 : Pos} {j1 j2 : Nat} {u1 u2 : Nat} :
    jSs (Z.suite a ((a, oe) :: pn)) [.If (.Call (.Name "isinstance" p1) [.Name "_law_e" p2, .Name "TooMany" p3] [] p4) [.Return (some (.Tuple [.Constant (.str "no") u1 p5, .Call (.Name "_law_word" p6) [.Name "_law_e" p7] [] p8, .Attribute (.Name "_law_e" p9) "many" q1, .Attribute (.Name "_law_e" q2) "most" q3] j1 q4)) q5] [] q6, .Return (some (.Tuple [.Constant (.str "no") u2 q7, .Call (.Name "_law_word" q8) [.Name "_law_e" q9] [] r1] j2 r2)) r3] D σ H := by
  obtain ⟨C, hx, _⟩ := hW.all x
  obtain ⟨C', m', ec, hfd⟩ := hI
  have eC : C' = C := by
    rw [hx.mg] at m'
    cases m'
    rfl
  subst eC
  subst ec
  have hpn : (a, oe) ∈ (Z.suite a ((a, oe) :: pn)).pn := List.mem_cons_self
  have hH : HeldX (Z.suite a ((a, oe) :: pn)) a C' d := ⟨oe, hpn, hz, hf⟩
  have hr' : RoomH 1 (Z.suite a ((a, oe) :: pn)).A := ⟨hr.dp, hr.un⟩
  have hd : DictOk d H := Ex.dictOk hfd
  obtain ⟨Cy, m1, m2⟩ := hx.all "TooMany" (by decide)
  refine jss_cons (js_if (jt_of_ja (JA.toR (ja_isX c hx.ex hH (by decide +kernel) h.f_isinstance (jv_varW c (i := 1) rfl (by decide +kernel) hσ) (jv_cls c (by decide +kernel) m1) (fun u r => r) m2 hd))) rfl1 (fun hb H1 s1 => ?_) fun hb H1 s1 => jss_nil ?_)
  · cases x with
    | noParting => cases hb
    | noHolder => cases hb
    | tooMany n =>
      obtain ⟨dd, fs, e1, e2, e3, e4⟩ := hfd
      have hd1 := hd.up s1
      have e3C : C3 = C' := by
        have q := hW.tm.mg
        rw [show T.mg "TooMany" = some (.ref C') from hx.mg] at q
        cases q
        rfl
      have fld : ∀ (nm : Str) (v : V) (y : PyData), PySem.W.findIn T.K (.ref C3) nm = some none → fs.lookup nm = some v → (∀ H, Im H v y) → ∀ {pp pos : Pos} (hb : attributeBase (.Name "_law_e" pp) nm (Z.suite a ((a, oe) :: pn)).env (eval (.Name "_law_e" pp) (Z.suite a ((a, oe) :: pn)).env) = eval (.Name "_law_e" pp) (Z.suite a ((a, oe) :: pn)).env), JA (Z.suite a ((a, oe) :: pn)) (.Attribute (.Name "_law_e" pp) nm pos) σ H1 (.d y) := fun nm v y hn hl hi pp pos hb H2 s2 =>
        je_of (pe_xf (X := Z) (C := C3) (cls := .ref C') (by rw [show Z.K = T.K from c.K]; exact hW.xf) (by rw [show Z.K = T.K from c.K]; exact hn) hz hf pe_j hb) (je_mono (jv_varW c (i := 1) (B := H1) rfl (by decide +kernel) hσ H2 s2) fun u H3 ⟨s3, e5⟩ => ⟨e5, by rw [e3C], dd, fs, v, e1, s3 _ _ (s2 _ _ (s1 _ _ e2)), hl, s3, hi _⟩)
      exact jss_one (js_ret (ja_tup (ds := [.str "no", .str (Ex.word (.tooMany n)), .int n, .int 20]) (jds_cons ja_str (jds_cons (ex_word h hW c hx hpn hz hf hd1 hr' (by decide +kernel) (jv_varW c (i := 1) rfl (by decide +kernel) hσ)) (jds_cons (fld "many" (.int n) (.int n) hW.tm.n1 e3 (fun _ => .int n) rfl) (jds_cons (fld "most" (.int 20) (.int 20) hW.tm.n2 e4 (fun _ => .int 20) rfl) jds_nil))))) rfl1 fun v H2 s2 q => hQ v H2 (s1.trans s2) q)
  · have hd1 := hd.up s1
    have en : noD x = .tuple [.str "no", .str x.word] := by
      cases x with
      | noParting => rfl
      | noHolder => rfl
      | tooMany n => cases hb
    rw [en] at hQ
    exact jss_one (js_ret (ja_tup (ds := [.str "no", .str x.word]) (jds_cons ja_str (jds_cons (ex_word h hW c hx hpn hz hf hd1 hr' (by decide +kernel) (jv_varW c (i := 1) rfl (by decide +kernel) hσ)) jds_nil))) rfl1 fun v H2 s2 q => hQ v H2 (s1.trans s2) q)
end
end Mead

set_option maxRecDepth 100000
set_option maxHeartbeats 4000000
/-! _law_came given a lambda -/
namespace Mead
open PySem PySem.Spec PyProof.Rows L2 L2H LamX
def TTc (T : Tx) : (XK → Hp → VK → Prop) → Hp → VK → Prop := fun tl H Q =>
  tl (fun cls d H' => ∃ x, ExIs T x cls d H' ∧ ∀ v H'', Same H' H'' → Im H'' v (noD x) → Q v H'') H (fun v H1 => [V.str "told", v].length ≤ sizeLine ∧ ∀ p, H1 p = none → Q (.ref p) (upd H1 p (.tup [.str "told", v])))
section
variable {T : Tx} (h : Top T) {CM C3 fI : Addr} (hW : XWs T CM C3 fI)
include h hW
theorem came_gives {N : List Str} {sc : Scope} {k : Nat} {X : Cx} (c : BCx T N sc k X) (hk : 3 ≤ k) {g : Addr} {cdg : Value} {q : Str} : GivesTo X N_came "_law_came" (defScope s__law_came) g cdg (defBody s__law_came) "_law_call_here" q (TTc T) := by
  intro f c' s H Q tl act hc ht
  have hr : Room 2 (X.A.deeper (envOfC "_law_came" (defScope s__law_came) s.heap.objs.size g cdg)) := (c.room.mono hk).deeper _
  have hgl : Gl (cxOf C8.CX0 X.prog X.w X.K X.mg X.base N_came "_law_came" (defScope s__law_came) g cdg X.A X.stack s H C8.E0).nox "MeadError" := (glo_of (sc := defScope s__law_came) (x := "MeadError") (by decide +kernel)).1
  refine ⟨_, pss_one (ps_try_as (X := (cxOf C8.CX0 X.prog X.w X.K X.mg X.base N_came "_law_came" (defScope s__law_came) g cdg X.A X.stack s H C8.E0).nox) (i := 1) (c := .ref CM) (Wout := fun _ _ _ _ => False)
      (tb := fun W D σ H => ∃ Ech : XK, (∀ cls d σ' H', Ech cls d H' → W cls d σ' H') ∧ σ[0]? = some (some (.ref f)) ∧ H c' = some (CodeO c' q) ∧ tl Ech H (fun v H1 => [V.str "told", v].length ≤ sizeLine ∧ ∀ p, H1 p = none → D.rt (.ref p) (upd H1 p (.tup [.str "told", v]))))
      (ts := fun a cls d D σ H => (σ.length = 2 → σ[1]? = some (some (.ref a))) ∧ ∃ x, ExIs T x cls d H ∧ ∀ v H', Same H H' → Im H' v (noD x) → D.rt v H')
      rfl rfl sc__law_came.nd rfl rfl ⟨hgl, by decide, .inl (by rw [← hW.me]; exact congrFun c.mg _)⟩ L2.takes0 (fun W pn xe tk _ => ⟨fun pins s' σ H' D I h' => ?_⟩) (fun a oe cls d pn hz hf => ⟨fun pins s' σ H' D I h' => ?_⟩)), ?_⟩
  · obtain ⟨Ech, hE, h1, h2, h3⟩ := h'
    have hp := act W pn xe Ech
    exact (pss_one (ps_ret (pe_tup (pa_cons pe_str (pa_cons (hp _ _ tk hE) pa_nil))))).run pins s' σ H' D I ⟨h1, h2, h3⟩
  · obtain ⟨hσ, x, hI, hQ⟩ := h'
    have cw : WCx T N_came (defScope s__law_came) ((cxOf C8.CX0 X.prog X.w X.K X.mg X.base N_came "_law_came" (defScope s__law_came) g cdg X.A X.stack s H C8.E0).nox.suite a ((a, oe) :: pn)) :=
      ⟨c.prog, c.w, c.K, c.mg, c.base, rfl, rfl, by decide +kernel, by decide, (by have := hr.un; show (X.A.deeper (envOfC "_law_came" (defScope s__law_came) s.heap.objs.size g cdg)).units + 100 < cLine; omega), rfl, fun _ => rfl⟩
    exact came_suite h hW cw (roomH_of (hr.mono (by decide))) hz hf (hσ I.len) hI hQ pins s' I
  · refine ⟨_, fun cls d σ' H' ⟨x, hI, hQ⟩ => ?_, rfl, hc, ht⟩
    obtain ⟨C, hx, hm⟩ := hW.all x
    obtain ⟨C', m', ec, hfd⟩ := id hI
    have eC : C' = C := by
      rw [hx.mg] at m'
      cases m'
      rfl
    subst eC
    subst ec
    refine ⟨true, by rw [show X.K = T.K from c.K]; exact hm, fun _ a na => ⟨fun hl => ?_, x, hI, hQ⟩, fun z => by cases z⟩
    rw [List.length_set] at hl
    rw [List.getElem?_set_self (by omega)]
end
end Mead

set_option maxRecDepth 100000
set_option maxHeartbeats 4000000
namespace Mead
open PySem PySem.Spec PyProof.Rows L2
local macro_rules | `(tactic| walk_at "hl") => `(tactic| first | assumption | omega | (simp only [List.length_map]; omega) | exact Nat.le_of_ble_eq_true rfl | (simp only [List.length_map, List.length_mapIdx, List.length_range]; omega) | (simp only [List.length_mapIdx, List.length_map] at *; omega) | fail)
local macro_rules | `(tactic| walk_at "pc") => `(tactic| first | assumption | exact Nat.le_refl _ | omega)
local macro_rules | `(tactic| walk_at "sh") => `(tactic| first | exact sh_int _ | exact sh_bool _ | exact sh_none | exact sh_eP (by decide) _ | exact sh_eR (by decide) _ | exact sh_eL (by decide) _ | exact sh_eM (by decide) _ | exact sh_eC (by decide) _ | exact sh_eCs (by decide) _ | exact (sh_lst (n := 59) (sh_map fun _ => sh_eP (by decide) _)) | exact (sh_lst (n := 59) (sh_map fun _ => sh_eC (by decide) _)) | exact (sh_lst (n := 59) (sh_map fun _ => sh_eL (by decide) _)) | exact (sh_lst (n := 59) (sh_map fun _ => sh_int _)) | exact (sh_lst (n := 59) sh_nil) | exact (sh_tup (n := 59) sh_nil) | exact sh_tup (n := 59) (sh_cons (sh_int _) (sh_cons (sh_int _) sh_nil)) | exact sh_lst (n := 59) (sh_map fun _ => sh_tup (n := 58) (sh_cons (sh_int _) (sh_cons (sh_int _) sh_nil))) | fail)
local macro_rules | `(tactic| walk_at "al") => `(tactic| first | rfl | simp [PySem.W.alike, PySem.W.alikeAll, eP] | fail)
local macro_rules | `(tactic| walk_at "nn") => `(tactic| intro z; cases z)
open L2H LamX
theorem sh_str {n : Nat} {x : Str} (h : PyData.strOk x = true) : Sh n (.str x) := ⟨by simp [PyData.canLay0, h], by simp [PyData.depth]⟩
inductive Deed where
  | lay (c : Cl)
  | deny (c : Cl)
  | merge (one other : Int)
def dD : Deed → PyData
  | .lay c => .tuple [.str "lay", eC c]
  | .deny c => .tuple [.str "deny", eC c]
  | .merge a b => .tuple [.str "merge", .int a, .int b]
section
variable {T : Tx} {N : List Str} {sc : Scope} {k : Nat} {W : WX} {X : Cx} {σ : L2.St} {B H : Hp} {a b e o t : Expr} {pos : Pos}
theorem jx_ifT {i : Bool} {Q : VK} (h : JT X.nox t σ B i) (hi : i = true) (hB : Same B H) (h1 : ∀ H1, Same H H1 → jE X a σ H1 Q) : jE X (.IfExp t a b pos) σ H Q :=
  je_of (pe_ifExp pt_j pe_j pe_j) (jt_mono (jt_nox (h H hB)) fun z H1 ⟨s, e⟩ => by
    rw [e, hi]
    exact iteT (h1 H1 s))
theorem jx_ifF {i : Bool} {Q : VK} (h : JT X.nox t σ B i) (hi : i = false) (hB : Same B H) (h1 : ∀ H1, Same H H1 → jE X b σ H1 Q) : jE X (.IfExp t a b pos) σ H Q :=
  je_of (pe_ifExp pt_j pe_j pe_j) (jt_mono (jt_nox (h H hB)) fun z H1 ⟨s, e⟩ => by
    rw [e, hi]
    exact iteF (h1 H1 s))
end
section
variable {T : Tx} (h : Top T) {C : Addr} (hM : BM T C) {CM C3 fI : Addr} (hW : XWs T CM C3 fI)
include h hM hW
def deedR (bk : Bk) : Deed → Out → Bk → Prop
  | .lay c, o, bk' => R_lay bk [.d (eC c)] o bk'
  | .deny c, o, bk' => R_deny bk [.d (eC c)] o bk'
  | .merge a b, o, bk' => R_merge bk [.d (.int a), .d (.int b)] o bk'
def R_call : Bk → List Ar → Out → Bk → Prop := fun bk rs o bk' => ∃ dd, rs = [.d (dD dd)] ∧ deedR bk dd o bk'
theorem fn__law_call : FnX T "_law_call" 11 (spU T C R_call) := by
  refine fnx_mk h.d__law_call sc__law_call (spU_len (n := 1) fun _ _ _ _ ⟨_, z, _⟩ => by rw [z]; rfl) (fun _ _ _ _ _ _ us hl => match us, hl with | [_, _], _ => rfl) fun X E c hf vs H Q ⟨p, ws, rs, bk, o, bk', e, hp, hv, ⟨dd, e1, hR⟩, hQ⟩ => ?_
  subst e; subst e1
  obtain ⟨v1, rfl, h1⟩ := reps1 hv
  have b := c.b
  have hZ := hM.toBC
  have S1 : ∀ {H1 : Hp}, Same H H1 → ∀ {r v H'}, o = .ret r → Sbut p H1 H' → BookAt C H' p bk' → r.res H1 v H' → Q v H' := fun {H1} s {r v H'} eo sb hb q => by
    subst eo
    exact hQ v H' ((Sbut.of s).trans sb) hb (Ar.res_back s q)
  have S2 : ∀ {H1 : Hp}, Same H H1 → ∀ {x cls d H'}, o = .exc x → Sbut p H1 H' → BookAt C H' p bk' → ExIs T x cls d H' → E cls d H' := fun {H1} s {x cls d H'} eo sb hb q => by
    subst eo
    exact hQ cls d H' ((Sbut.of s).trans sb) hb q
  cases dd with
  | lay cl =>
    have h1 : Im H v1 (.tuple [.str "lay", eC cl]) := h1
    refine jss_cons (js_ifXT (jt_inT b (ja_ixT (jr_var (r := .d _) (i := 1) b rfl (by decide +kernel) rfl h1) (ja_int (i := 0)) rfl) (ja_tup (jds_cons ja_str (jds_cons ja_str jds_nil))) (by first | exact sh_str (by decide +kernel) | exact sh_lst (n := 59) (sh_cons (sh_str (by decide +kernel)) (sh_cons (sh_str (by decide +kernel)) sh_nil))) (by first | exact sh_str (by decide +kernel) | exact sh_lst (n := 59) (sh_cons (sh_str (by decide +kernel)) (sh_cons (sh_str (by decide +kernel)) sh_nil)))) (by decide +kernel) rfl1 fun H1 s1 => ?_)
    refine jss_one (js_retX (jx_ifT (Q := Q) (jt_eq (r := .d _) (q := .d _) b (ja_ixT (jr_var (r := .d _) (i := 1) b rfl (by decide +kernel) rfl h1) (ja_int (i := 0)) rfl) ja_str (by first | exact sh_str (by decide +kernel) | exact sh_lst (n := 59) (sh_cons (sh_str (by decide +kernel)) (sh_cons (sh_str (by decide +kernel)) sh_nil))) (by first | exact sh_str (by decide +kernel) | exact sh_lst (n := 59) (sh_cons (sh_str (by decide +kernel)) (sh_cons (sh_str (by decide +kernel)) sh_nil)))) (by decide +kernel) s1 fun H2 s2 => ?_) fun _ _ q => q)
    exact jx_mU c hZ (mt_lay h hM) (by decide) (jv_var (i := 0) b rfl (by decide +kernel) rfl) (jrs_cons (ja_ixT (jr_var (r := .d _) (i := 1) b rfl (by decide +kernel) rfl h1) (ja_int (i := 1)) rfl) jrs_nil) (s1.trans s2) (hp.up (s1.trans s2)) hR (fun r er v H' sb hb q => S1 (s1.trans s2) er sb hb q) (fun x ex cls d σ' H' sb hb q => S2 (s1.trans s2) ex sb hb q)
  | deny cl =>
    have h1 : Im H v1 (.tuple [.str "deny", eC cl]) := h1
    refine jss_cons (js_ifXT (jt_inT b (ja_ixT (jr_var (r := .d _) (i := 1) b rfl (by decide +kernel) rfl h1) (ja_int (i := 0)) rfl) (ja_tup (jds_cons ja_str (jds_cons ja_str jds_nil))) (by first | exact sh_str (by decide +kernel) | exact sh_lst (n := 59) (sh_cons (sh_str (by decide +kernel)) (sh_cons (sh_str (by decide +kernel)) sh_nil))) (by first | exact sh_str (by decide +kernel) | exact sh_lst (n := 59) (sh_cons (sh_str (by decide +kernel)) (sh_cons (sh_str (by decide +kernel)) sh_nil)))) (by decide +kernel) rfl1 fun H1 s1 => ?_)
    refine jss_one (js_retX (jx_ifF (Q := Q) (jt_eq (r := .d _) (q := .d _) b (ja_ixT (jr_var (r := .d _) (i := 1) b rfl (by decide +kernel) rfl h1) (ja_int (i := 0)) rfl) ja_str (by first | exact sh_str (by decide +kernel) | exact sh_lst (n := 59) (sh_cons (sh_str (by decide +kernel)) (sh_cons (sh_str (by decide +kernel)) sh_nil))) (by first | exact sh_str (by decide +kernel) | exact sh_lst (n := 59) (sh_cons (sh_str (by decide +kernel)) (sh_cons (sh_str (by decide +kernel)) sh_nil)))) (by decide +kernel) s1 fun H2 s2 => ?_) fun _ _ q => q)
    exact jx_mU c hZ (mt_deny h hM) (by decide) (jv_var (i := 0) b rfl (by decide +kernel) rfl) (jrs_cons (ja_ixT (jr_var (r := .d _) (i := 1) b rfl (by decide +kernel) rfl h1) (ja_int (i := 1)) rfl) jrs_nil) (s1.trans s2) (hp.up (s1.trans s2)) hR (fun r er v H' sb hb q => S1 (s1.trans s2) er sb hb q) (fun x ex cls d σ' H' sb hb q => S2 (s1.trans s2) ex sb hb q)
  | merge i1 i2 =>
    have h1 : Im H v1 (.tuple [.str "merge", .int i1, .int i2]) := h1
    refine jss_cons (js_ifXF (jt_inT b (ja_ixT (jr_var (r := .d _) (i := 1) b rfl (by decide +kernel) rfl h1) (ja_int (i := 0)) rfl) (ja_tup (jds_cons ja_str (jds_cons ja_str jds_nil))) (by first | exact sh_str (by decide +kernel) | exact sh_lst (n := 59) (sh_cons (sh_str (by decide +kernel)) (sh_cons (sh_str (by decide +kernel)) sh_nil))) (by first | exact sh_str (by decide +kernel) | exact sh_lst (n := 59) (sh_cons (sh_str (by decide +kernel)) (sh_cons (sh_str (by decide +kernel)) sh_nil)))) (by decide +kernel) rfl1 fun H1 s1 => jss_cons (js_ifXT (jt_inT b (ja_ixT (jr_var (r := .d _) (i := 1) b rfl (by decide +kernel) rfl h1) (ja_int (i := 0)) rfl) (ja_tup (jds_cons ja_str (jds_cons ja_str jds_nil))) (by first | exact sh_str (by decide +kernel) | exact sh_lst (n := 59) (sh_cons (sh_str (by decide +kernel)) (sh_cons (sh_str (by decide +kernel)) sh_nil))) (by first | exact sh_str (by decide +kernel) | exact sh_lst (n := 59) (sh_cons (sh_str (by decide +kernel)) (sh_cons (sh_str (by decide +kernel)) sh_nil)))) (by decide +kernel) s1 fun H2 s2 => ?_))
    refine jss_one (js_retX (jx_ifT (Q := Q) (jt_eq (r := .d _) (q := .d _) b (ja_ixT (jr_var (r := .d _) (i := 1) b rfl (by decide +kernel) rfl h1) (ja_int (i := 0)) rfl) ja_str (by first | exact sh_str (by decide +kernel) | exact sh_lst (n := 59) (sh_cons (sh_str (by decide +kernel)) (sh_cons (sh_str (by decide +kernel)) sh_nil))) (by first | exact sh_str (by decide +kernel) | exact sh_lst (n := 59) (sh_cons (sh_str (by decide +kernel)) (sh_cons (sh_str (by decide +kernel)) sh_nil)))) (by decide +kernel) (s1.trans s2) fun H3 s3 => ?_) fun _ _ q => q)
    have S := (s1.trans s2).trans s3
    exact jx_mU c hZ (mt_merge h hM hW.nh hW.tm) (by decide) (jv_var (i := 0) b rfl (by decide +kernel) rfl) (jrs_cons (ja_ixT (jr_var (r := .d _) (i := 1) b rfl (by decide +kernel) rfl h1) (ja_int (i := 1)) rfl) (jrs_cons (ja_ixT (jr_var (r := .d _) (i := 1) b rfl (by decide +kernel) rfl h1) (ja_int (i := 2)) rfl) jrs_nil)) S (hp.up S) hR (fun r er v H' sb hb q => S1 S er sb hb q) (fun x ex cls d σ' H' sb hb q => S2 S ex sb hb q)
end
end Mead

set_option maxRecDepth 100000
set_option maxHeartbeats 4000000
/-! _law_came(lambda: ..) -/
namespace Mead
open PySem PySem.Spec PyProof.Rows L2 L2H LamX
def lamQ (x : Str) : Str := (x ++ ".<locals>.") ++ "<lambda>"
/-- the makers' code objects and their tables -/
structure Tbs (T : Tx) (Tb : List (Addr × Str)) (x : Str) (c P : Addr) : Prop where
  tb : TabB T.base T.mg c P
  mem : (P, lamQ x) ∈ Tb
  un : ∀ p ∈ Tb, p.1 = P → p.2 = lamQ x
/-- a def's own body whose code object is known -/
structure LCx (T : Tx) (N : List Str) (sc : Scope) (k : Nat) (x : Str) (c : Addr) (X : Cx) : Prop extends DCx T N sc k X where
  qual : X.env.qual = x ++ ".<locals>."
  code : X.env.code = .ref c
theorem fn_mkL {T : Tx} {x : Str} {st : Stmt} {N ps : List Str} {k : Nat} {sp : Sp} {f c : Addr} {fd : FuncData} (F : FunD T.K x x (defArgs st) (defBody st) (defScope st) [] [] f fd) (hc : fd.code = .ref c) (S : FnScope N ps (defScope st)) (len : ∀ vs H Q E, sp vs H Q E → vs.length = ps.length)
    (body : ∀ X, LCx T N (defScope st) k x c X → ∀ vs H Q E, sp vs H Q E → jSs X (defBody st) { nx := fun _ H' => Q .non H', rt := Q } (start N vs) H) : FnOk T.P T.w T.K T.mg T.base CX0 (k + 1) f fd ps sp := by
  obtain ⟨oc, od, dV, kV, doc, pm, an, cdv, ct, osl, rfl, lk, hcd, _, _⟩ := F.ex
  have hc : cdv = .ref c := hc
  subst hc
  exact fn_of lk hcd S len fun A outer s H vs Q E hr h => ⟨_, PSs.nox pss_j, body _ ⟨⟨⟨rfl, rfl, rfl, rfl, rfl, rfl, rfl, rfl, S.kind, S.nd, hr, rfl⟩, fun _ => rfl⟩, rfl, rfl⟩ vs H Q E h⟩
def ECame (T : Tx) (Q : VK) : XK := fun cls d H' => ∃ x, ExIs T x cls d H' ∧ ∀ v H'', Same H' H'' → Im H'' v (noD x) → Q v H''
section
variable {T : Tx} (h : Top T) {CM C3 fI : Addr} (hW : XWs T CM C3 fI)
include h hW
theorem jx_came {N : List Str} {sc scope : Scope} {k j : Nat} {X : Cx} {x0 : Str} {cd P : Addr} {Tb : List (Addr × Str)} {σ : L2.St} {H : Hp} {params : Arguments} {body : Expr} {lpos pos p : Pos} {t : XK → TE} {Q : VK} (c : LCx T N sc k x0 cd X) (B : Tbs T Tb x0 cd P) (hk : 3 ≤ k) (hj : j + 2 ≤ k) (hg : glo sc "_law_came" = true)
    (hl : lamSB sc scope = true) (hdef : defaultsOf params X.env = ([], []))
    (hbind : ∀ (q : Str) (cl : List (Str × Addr)) (pm cv ctv : Value), bindArgs (PySem.W.kla_fn "<lambda>" q params body scope cl pm cv ctv) ⟨[], []⟩ = pure [])
    (hbody : ∀ (Y : Cx) (E : XK), RCx T N scope j (fun c d _ H => E c d H) Y → ∀ σ H Q, t E σ H Q → jE Y body σ H Q)
    (hT : Tabs Tb H) (hq : ∀ H1, ExtN H H1 → Tabs Tb H1 → t (ECame T Q) σ H1 fun v H2 => [V.str "told", v].length ≤ sizeLine ∧ ∀ p, H2 p = none → Q (.ref p) (upd H2 p (.tup [.str "told", v]))) :
    jE X (.Call (.Name "_law_came" p) [.Lambda params body scope lpos] [] pos) σ H Q := by
  obtain ⟨g, fd, F, hm⟩ := h.d__law_came
  have Fx := F.ex
  obtain ⟨oc, od, dV, kV, doc, pm, an, cdv, ct, osl, efd, lk, hcd, hdv, hkv⟩ := Fx
  subst efd
  have hKk : X.K = T.K := c.K
  have L : LamS X.env.scope scope := by rw [c.hs]; exact lamS_by hl
  have hqq : X.env.qual ++ "<lambda>" = lamQ x0 := by rw [c.qual]; rfl
  have hbd : Binds T.K (PySem.W.fnOf "_law_came" "_law_came" (defArgs s__law_came) (defBody s__law_came) (defScope s__law_came) dV kV doc pm an cdv ct) ["_law_call_here"] [] := F.bindsN (fun _ _ _ _ _ _ us hl => match us, hl with | [_], _ => rfl)
  refine je_of (pe_lamcall (T := Tb) (TT := TTc T) (c := cd) (P := P) (k := j) (Ng := N_came) (a := "_law_call_here") (t := t) (c.gl hg) (by rw [c.mg]; exact hm) (by rw [hKk]; exact F.kp) (by rw [hKk]; exact lk) (by rw [hKk]; exact hcd) (by rw [hKk]; exact hbd) sc__law_came rfl (vis_of (sc := defScope s__law_came) (x := "_law_call_here") (by decide +kernel)).1
    (came_gives h hW c.toBCx hk) (by rw [c.base, c.mg]; exact B.tb) c.code (by rw [hqq]; exact B.mem) (by rw [hqq]; exact B.un) (c.room.mono hj) L hdef hbind (fun A outer s H E f c' hr => ⟨fun pins s' σ' H' Q' I' ht => ?_⟩)) ⟨hT, fun H1 e1 T1 => ?_⟩
  · refine hbody (lamCx X A outer s H E scope f c') E ⟨⟨c.prog, c.w, c.K, c.mg, c.base, rfl, c.hN, rfl, L.kind, c.nd, hr, rfl⟩, takes_of rfl rfl rfl rfl, passes_of rfl⟩ σ' H' Q' ht pins s' I'
  · exact hq H1 e1 T1
end
end Mead

set_option maxRecDepth 100000
set_option maxHeartbeats 4000000
/-! what a late deed brings; raw steps; heaps that keep all but the book and the tables -/
namespace Mead
open PySem PySem.Spec PyProof.Rows L2 L2H LamX
/-- all but the object at p and the tables stays -/
def SbT (p : Addr) (H H' : Hp) : Prop := ∀ a o, a ≠ p → H a = some o → (∀ ps, o ≠ .tbl ps) → H' a = some o
theorem SbT.of {p : Addr} {H H' : Hp} (s : Sbut p H H') : SbT p H H' := fun a o n e _ => s a o n e
theorem SbT.ofS {p : Addr} {H H' : Hp} (s : Same H H') : SbT p H H' := fun a o _ e _ => s a o e
theorem SbT.ofN {p : Addr} {H H' : Hp} (s : ExtN H H') : SbT p H H' := fun a o _ e n => s a o e n
theorem SbT.trans {p : Addr} {H H1 H2 : Hp} (a : SbT p H H1) (b : SbT p H1 H2) : SbT p H H2 := fun x o n e t => b x o n (a x o n e t) t
theorem SbT.tk {p C dx : Addr} {fs : List (Str × V)} {H H' : Hp} (s : SbT p H H') (hp : H p = some (.ins C dx fs)) : TK H H' := fun a xs e => s a _ (fun z => by rw [z, hp] at e; cases e) e (fun ps z => by cases z)
theorem BookAt.tkT {C p : Addr} {bk : Bk} {H H' : Hp} (h : BookAt C H p bk) (s : SbT p H H') : TK H H' := by
  obtain ⟨dx, fs, e⟩ := h.ins
  exact s.tk e
theorem extN_tk {H H' : Hp} (s : ExtN H H') : TK H H' := fun a xs e => s a _ e (fun ps z => by cases z)
theorem BookAt.extN {C p : Addr} {bk : Bk} {H H' : Hp} (h : BookAt C H p bk) (s : ExtN H H') : BookAt C H' p bk := by
  obtain ⟨dx, vm, vc, vo, vh, vs, vp, f⟩ := h
  have t := extN_tk s
  exact ⟨dx, vm, vc, vo, vh, vs, vp, s _ _ f.at_ (fun ps z => by cases z), f.m.tk t, f.c.tk t, f.o.tk t, f.h.tk t, f.s.tk t, f.p.tk t⟩
theorem Tabs.sb {Tb : List (Addr × Str)} {C p dx : Addr} {fs : List (Str × V)} {H H' : Hp} (t : Tabs Tb H) (s : Sbut p H H') (hp : H p = some (.ins C dx fs)) : Tabs Tb H' := fun q hq => by
  obtain ⟨ps, h1, h2, h3⟩ := t q hq
  refine ⟨ps, s _ _ (fun z => by rw [z, hp] at h1; cases h1) h1, h2, fun pos cv hc => ?_⟩
  obtain ⟨c, e1, e2⟩ := h3 pos cv hc
  exact ⟨c, e1, s _ _ (fun z => by rw [z, hp] at e2; unfold CodeO at e2; cases e2) e2⟩
theorem Tabs.sbB {Tb : List (Addr × Str)} {C p : Addr} {bk : Bk} {H H' : Hp} (t : Tabs Tb H) (s : Sbut p H H') (hp : BookAt C H p bk) : Tabs Tb H' := by
  obtain ⟨dx, fs, e⟩ := hp.ins
  exact Tabs.sb t s e
theorem Tabs.same {Tb : List (Addr × Str)} {H H' : Hp} (t : Tabs Tb H) (s : Same H H') : Tabs Tb H' := t.ext fun b o e => s b o e
theorem LCx.nox {T : Tx} {N : List Str} {sc : Scope} {k : Nat} {x : Str} {c : Addr} {X : Cx} (h : LCx T N sc k x c X) : LCx T N sc k x c X.nox := by
  rw [h.toBCx.nox_eq]
  exact h
section
variable {T : Tx} {N : List Str} {sc : Scope} {k : Nat} {W : WX} {X : Cx} {σ : L2.St} {H : Hp} {a b e o : Expr} {st : Stmt} {pos : Pos} {D : Ends}
theorem js_setRaw (c : DCx T N sc k X) {i : Nat} {z : Str} {p' : Pos} (hN : N[i]? = some z) (hl : lc sc z = true) (h : jE X e σ H fun v H1 => D.nx (σ.set i (some v)) H1)
    (hs : swapsWith e (some (.Name z p')) pos.line X.env = pure false := by rfl) : jS X (.Assign [.Name z p'] e pos) D σ H :=
  js_of (ps_set (i := i) (by rw [c.hN]; exact c.nd) (by rw [c.hN]; exact hN) (c.loc hl) pe_j hs (.inl (c.fn z))) h
theorem js_exprRaw (h : jE X e σ H fun _ H1 => D.nx σ H1) (hs : swapsWith e none pos.line X.env = pure false := by rfl) : jS X (.Expr e pos) D σ H := js_of (ps_expr pe_j hs) h
/-- f(x, y) of values -/
theorem jx_call2V (c : RCx T N sc k W X) {f : Str} {j : Nat} {sp : Sp} {p : Pos} {v1 v2 : V} {E : XK} {Q : VK} (F : FnX T f j sp) (hk : j ≤ k) (hg : glo sc f = true) (h1 : JV X.nox a σ H v1) (h2 : JV X.nox b σ H v2)
    (hE : ∀ cls d σ' H', E cls d H' → W cls d σ' H') (h : ∀ H1, Same H H1 → sp [v1, v2] H1 Q E)
    (he : starEach [a, b] X.env = (false, eval a X.env) :: starEach [b] X.env := by rfl) (he2 : starEach [b] X.env = (false, eval b X.env) :: starEach [] X.env := by rfl) (hpl : (backTo pos (starEach [b] X.env)).any (·.1) = false := by rfl) : jE X (.Call (.Name f p) [a, b] [] pos) σ H Q := by
  obtain ⟨fa, fd, ps, F, hm, hkp, hb⟩ := F
  have F' : FnOk X.prog X.w X.K X.mg X.base (L2.CX X.prog X.w) k fa fd ps sp := by
    rw [show X.prog = T.P from c.b.prog, show X.w = T.w from c.b.w, show X.K = T.K from c.b.K, show X.mg = T.mg from c.b.mg, show X.base = T.base from c.b.base]
    exact F.mono hk
  exact je_of (pe_call F' c.b.room (c.b.gl hg) (by rw [show X.mg = T.mg from c.b.mg]; exact hm) (by rw [show X.K = T.K from c.b.K]; exact hkp) (by rw [show X.K = T.K from c.b.K]; exact hb) .nil (passes_call c.tk hE) (pa_cons pe_j (pa_cons pe_j pa_nil he2) he) (glo_of hg).2.1 he hpl)
    (je_mono (je_nox (h1 H rfl1)) fun u H1 ⟨s1, e1⟩ => je_mono (je_nox (h2 H1 s1)) fun w H2 ⟨s2, e2⟩ => by
      subst e1; subst e2
      exact h H2 (s1.trans s2))
end
/-! ### the deeds -/
section
variable {T : Tx} (h : Top T) {C : Addr} (hM : BM T C) {CM C3 fI : Addr} (hW : XWs T CM C3 fI)
include h hM hW
theorem deed_ret {bk bk' : Bk} {dd : Deed} {r : Ar} (e : deedR bk dd (.ret r) bk') : ∃ cs, (cs = [] ∨ VPl (pleaBy bk cs)) ∧ r = .d (.int (manyOf bk (newP bk cs))) ∧ bk' = turned bk cs (newP bk cs) := by
  cases dd with
  | lay c =>
    obtain ⟨cl, cs, e1, e2, _, _, _, _, _, _, _, zv, er, eb⟩ := e
    cases er
    exact ⟨cs, .inr zv, rfl, eb⟩
  | deny c =>
    obtain ⟨cl, cs, e1, e2, zm, _, _, zc, zv, hm, er, eb⟩ := e
    cases er
    refine ⟨cs, ?_, rfl, eb⟩
    by_cases h1 : bk.stood.1.length = 1
    · exact .inl (by rw [e2]; exact denied_one h1 hm)
    · exact .inr (by rw [e2]; exact ⟨zv.mead, zv.custom, denied_ok zv.claims h1, fun c hc => zv.stand c (List.mem_filter.mp hc).1, zv.odd⟩)
  | merge a b =>
    obtain ⟨one, other, e1, zm, _, _, zv, z1, z2, em⟩ := e
    unfold mergeOut at em
    split at em
    · cases em
    · rename_i r' ej
      obtain ⟨er2, hle⟩ := joinOut_ret h hM ej
      cases em
      have jo := joined_ok (other := other) zv.claims (holder_range h hM z1) zv.stand hle
      exact ⟨joinedCs one other bk.stood.1, .inr ⟨zv.mead, zv.custom, jo.1, jo.2, zv.odd⟩, rfl, rfl⟩
theorem deed_exc {bk bk' : Bk} {dd : Deed} {x : Ex} (e : deedR bk dd (.exc x) bk') : bk' = bk := by
  cases dd with
  | lay c =>
    obtain ⟨cl, cs, e1, e2, _, _, _, _, _, _, _, zv, er, eb⟩ := e
    cases er
  | deny c =>
    obtain ⟨cl, cs, e1, e2, zm, _, _, zc, zv, hm, er, eb⟩ := e
    cases er
  | merge a b =>
    obtain ⟨one, other, e1, zm, _, _, zv, z1, z2, em⟩ := e
    unfold mergeOut at em
    split at em
    · cases em
      rfl
    · cases em
end
theorem eqv_optR : ∀ a : Option (List Int), PyData.eqv (optR a) (optR a) = true
  | none => by simp [optR, PyData.eqv]
  | some t => by
    show PyData.eqv (eR t) (eR t) = true
    rw [eqv_eR]
    simp
theorem eqv_eSt (s : Stn) : PyData.eqv (eSt s) (eSt s) = true := by
  unfold eSt
  rw [eqv_tup]
  simp [PyData.eqvAll, eqv_eCs, eqv_optR]
theorem vdl_of {p : Plea} {t : List Int} (z : VPl p) (h : isParted p t = true) : VDl p.mead t := by
  obtain ⟨h1, h2, _⟩ := isParted_at h
  refine ⟨z.mead, h1, fun o ho => ?_⟩
  have q := (List.mem_filter.mp (h2 o ho)).1
  simp only [List.mem_cons, List.not_mem_nil, or_false] at q
  rcases q with rfl | rfl | rfl | rfl <;> decide
end Mead

set_option maxRecDepth 100000
set_option maxHeartbeats 4000000
namespace Mead
open PySem PySem.Spec PyProof.Rows L2
local macro_rules | `(tactic| walk_at "hl") => `(tactic| first | assumption | omega | (simp only [List.length_map]; omega) | exact Nat.le_of_ble_eq_true rfl | (simp only [List.length_map, List.length_mapIdx, List.length_range]; omega) | (simp only [List.length_mapIdx, List.length_map] at *; omega) | fail)
local macro_rules | `(tactic| walk_at "pc") => `(tactic| first | assumption | exact Nat.le_refl _ | omega)
local macro_rules | `(tactic| walk_at "sh") => `(tactic| first | exact sh_int _ | exact sh_bool _ | exact sh_none | exact sh_eP (by decide) _ | exact sh_eR (by decide) _ | exact sh_eL (by decide) _ | exact sh_eM (by decide) _ | exact sh_eC (by decide) _ | exact sh_eCs (by decide) _ | exact (sh_lst (n := 59) (sh_map fun _ => sh_eP (by decide) _)) | exact (sh_lst (n := 59) (sh_map fun _ => sh_eC (by decide) _)) | exact (sh_lst (n := 59) (sh_map fun _ => sh_eL (by decide) _)) | exact (sh_lst (n := 59) (sh_map fun _ => sh_int _)) | exact (sh_lst (n := 59) sh_nil) | exact (sh_tup (n := 59) sh_nil) | exact sh_tup (n := 59) (sh_cons (sh_int _) (sh_cons (sh_int _) sh_nil)) | exact sh_lst (n := 59) (sh_map fun _ => sh_tup (n := 58) (sh_cons (sh_int _) (sh_cons (sh_int _) sh_nil))) | fail)
local macro_rules | `(tactic| walk_at "al") => `(tactic| first | rfl | simp [PySem.W.alike, PySem.W.alikeAll, eP] | fail)
local macro_rules | `(tactic| walk_at "nn") => `(tactic| intro z; cases z)
open L2H LamX
def DefL (T : Tx) (Tb : List (Addr × Str)) (x : Str) (st : Stmt) : Prop := ∃ f fd c P, FunD T.K x x (defArgs st) (defBody st) (defScope st) [] [] f fd ∧ T.mg x = some (.ref f) ∧ fd.code = .ref c ∧ Tbs T Tb x c P
structure BkOk (bk : Bk) (t : List Int) : Prop where
  st : bk.stood.2 = some t
  pl : VPl (pleaBy bk bk.stood.1)
  ok : isParted (pleaBy bk bk.stood.1) t = true
theorem sh_stn (a : List Cl) (t : Option (List Int)) : Sh 60 (.tuple [eCs a, optR t]) := (sh_eSt (a, t)).mono (by decide)
section
variable {T : Tx} (h : Top T) {C : Addr} (hM : BM T C) {CM C3 fI : Addr} (hW : XWs T CM C3 fI)
include h hM hW
def sp_late (Tb : List (Addr × Str)) (C : Addr) : Sp := fun vs H Q _ => ∃ p vm vd bk t dd o bk', vs = [.ref p, vm, vd] ∧ BookAt C H p bk ∧ BkOk bk t ∧ Im H vm (eM bk.mead) ∧ Im H vd (dD dd) ∧ deedR bk dd o bk' ∧ Tabs Tb H ∧ ∀ H', SbT p H H' → BookAt C H' p bk → Tabs Tb H' → Q (.bl true) H'
theorem fn__law_late {Tb : List (Addr × Str)} (hD : DefL T Tb "_law_late" s__law_late) : Fn T "_law_late" 14 (sp_late Tb C) := by
  obtain ⟨f, fd, cd, P, F, hm, hcd, hTb⟩ := hD
  refine ⟨f, fd, _, fn_mkL F hcd sc__law_late (fun vs H Q E ⟨_, _, _, _, _, _, _, _, e, _⟩ => by rw [e]; rfl) fun X c vs H Q E ⟨p, vm, vd, bk, t, dd, o, bk', e, hp, hk, h1, h2, hR, hT, hQ⟩ => ?_, hm, F.kp, F.bindsN (fun _ _ _ _ _ _ us hl => match us, hl with | [_, _, _], _ => rfl)⟩
  subst e
  refine jss_nox ?_
  have c := c.nox
  have d := c.toDCx
  have b := c.toBCx
  have hZ := hM.toBC
  refine jss_cons (js_par b (i := 3) (j := 4) rfl rfl (by decide) (by decide +kernel) (by decide +kernel) (jns_cons (ja_mP0 b hZ (mt_parting_now h hM) (by decide) (jv_var (i := 0) b rfl (by decide +kernel) rfl) hp ⟨rfl, rfl⟩) (jns_cons (ja_tup (jds_cons (ja_mP0 b hZ (mt_claims_now h hM) (by decide) (jv_var (i := 0) b rfl (by decide +kernel) rfl) hp ⟨rfl, rfl⟩) (jds_cons (ja_mP0 b hZ (mt_parting_now h hM) (by decide) (jv_var (i := 0) b rfl (by decide +kernel) rfl) hp ⟨rfl, rfl⟩) jds_nil))) jns_nil)) rfl1 (fun v3 v4 H1 s1 q3 q4 => ?_) (by with_unfolding_all rfl))
  have q3 : Im H1 v3 (optR bk.stood.2) := q3
  rw [hk.st] at q3
  have q3 : Im H1 v3 (eR t) := q3
  have q4 : Im H1 v4 (.tuple [eCs bk.stood.1, optR bk.stood.2]) := q4
  have hp1 := hp.up s1
  have h11 := h1.up s1
  have h21 := h2.up s1
  have hT1 := Tabs.same hT s1
  refine jss_cons (js_setRaw d (i := 5) rfl (by decide +kernel) (je_mono (jx_came (j := 11) (Tb := Tb) (t := fun E σ H Q => ∃ p v, σ[0]? = some (some (.ref p)) ∧ σ[2]? = some (some v) ∧ ∀ H1, Same H H1 → spU T C R_call [.ref p, v] H1 Q E)
    (Q := fun v H' => SbT p H1 H' ∧ Tabs Tb H' ∧ ((∃ x, o = .exc x ∧ BookAt C H' p bk ∧ Im H' v (noD x)) ∨ (∃ r, o = .ret r ∧ BookAt C H' p bk' ∧ ∃ w, Im H' v (.tuple [.str "told", w]) ∧ r = .d w))) h hW c hTb (by decide) (by decide) (by decide +kernel) (by decide +kernel) rfl (fun _ _ _ _ _ => rfl)
    (fun Y E cY σ H Q ⟨p, v, h0, h2, hs⟩ => jx_call2V cY (fn__law_call h hM hW) (by decide) (by decide +kernel) (jv_var (i := 0) cY.b rfl (by decide +kernel) h0) (jv_var (i := 2) cY.b rfl (by decide +kernel) h2) (fun _ _ _ _ z => z) hs) hT1 fun H2 e2 T2 => ?_) fun v5 H5 hc => ?_))
  · refine ⟨p, vd, rfl, rfl, fun H3 s3 => ⟨p, [vd], [.d (dD dd)], bk, o, bk', rfl, (hp1.extN e2).up s3, .cons (((h21.tk (extN_tk e2)).up s3)) .nil, ⟨dd, rfl, hR⟩, ?_⟩⟩
    have hp3 := (hp1.extN e2).up s3
    have T3 := Tabs.same T2 s3
    have S3 : SbT p H1 H3 := (SbT.ofN e2).trans (.ofS s3)
    cases o with
    | ret r =>
      obtain ⟨cs, _, er, _⟩ := deed_ret h hM hW hR
      subst er
      refine fun v H' sb hb q => ⟨by show (2 : Nat) ≤ sizeLine; decide, fun qa na => ?_⟩
      have sn := Same.new (o := HO.tup [.str "told", v]) na
      have q : Im H' v (.int (manyOf bk (newP bk cs))) := q
      exact ⟨(S3.trans (.of sb)).trans (.ofS sn), Tabs.same (Tabs.sbB T3 sb hp3) sn, .inr ⟨_, rfl, hb.up sn, _, .tup upd_same (.cons (.str _) (.cons (q.up sn) .nil)), rfl⟩⟩
    | exc x =>
      have eb := deed_exc h hM hW hR
      subst eb
      exact fun cls dd' H' sb hb hx => ⟨x, hx, fun v H'' s q => ⟨(S3.trans (.of sb)).trans (.ofS s), Tabs.same (Tabs.sbB T3 sb hp3) s, .inl ⟨x, rfl, hb.up s, q⟩⟩⟩
  obtain ⟨S5, T5, hc⟩ := hc
  have k5 := hp1.tkT S5
  have SH5 : SbT p H H5 := (SbT.ofS s1).trans S5
  have q3 := q3.tk k5
  have q4 := q4.tk k5
  have h15 := h11.tk k5
  have eqS : PyData.eqv (.tuple [eCs bk.stood.1, optR bk.stood.2]) (.tuple [eCs bk.stood.1, optR bk.stood.2]) = true := eqv_eSt bk.stood
  rcases hc with ⟨x, eo, hb, q5⟩ | ⟨r, eo, hb, w, q5, er⟩
  · have e0 : ∃ ds, noD x = .tuple (.str "no" :: ds) := by cases x <;> exact ⟨_, rfl⟩
    obtain ⟨ds, e0⟩ := e0
    rw [e0] at q5
    refine jss_cons (js_ifT (i := PyData.eqv (.str "no") (.str "no")) (jt_eq (r := .d (.str "no")) (q := .d (.str "no")) b (JA.toR (ja_ixT (jr_var (r := .d (.tuple (.str "no" :: ds))) (i := 5) b rfl (by decide +kernel) rfl q5) ja_int (by
      unfold atI ixN
      rw [if_pos (by decide), if_pos (by simp)]
      rfl))) ja_str (sh_str (by decide +kernel)) (sh_str (by decide +kernel))) (by decide +kernel) rfl1 fun H6 s6 => jss_one (js_ret (ja_eq (r := .d _) (q := .d _) b (ja_tup (jds_cons (ja_mP0 b hZ (mt_claims_now h hM) (by decide) (jv_var (i := 0) b rfl (by decide +kernel) rfl) hb ⟨rfl, rfl⟩) (jds_cons (ja_mP0 b hZ (mt_parting_now h hM) (by decide) (jv_var (i := 0) b rfl (by decide +kernel) rfl) hb ⟨rfl, rfl⟩) jds_nil))) (jr_var (r := .d _) (i := 4) b rfl (by decide +kernel) rfl q4) (by first | exact sh_stn _ _ | exact sh_str (by decide +kernel)) (by first | exact sh_stn _ _ | exact sh_str (by decide +kernel))) s6 fun v7 H7 s7 q7 => ?_))
    have q7 : Im H7 v7 (.bool (PyData.eqv (.tuple [eCs bk.stood.1, optR bk.stood.2]) (.tuple [eCs bk.stood.1, optR bk.stood.2]))) := q7
    rw [eqS] at q7
    have e7 := Im.isBl q7
    subst e7
    exact hQ H7 (SH5.trans (.ofS (s6.trans s7))) (hb.up (s6.trans s7)) (Tabs.same T5 (s6.trans s7))
  · subst eo
    obtain ⟨cs, zc, er2, eb⟩ := deed_ret h hM hW hR
    rw [er] at er2
    cases er2
    subst eb
    have rp : R_plea_now (turned bk cs (newP bk cs)) [] (.d (if cs = [] then .none else ePl (pleaBy bk cs))) := ⟨rfl, rfl⟩
    refine jss_cons (js_ifF0 (jt_eq (r := .d _) (q := .d _) b (ja_ixT (jr_var (r := .d _) (i := 5) b rfl (by decide +kernel) rfl q5) (ja_int (i := 0)) rfl) ja_str (by first | exact sh_stn _ _ | exact sh_str (by decide +kernel)) (by first | exact sh_stn _ _ | exact sh_str (by decide +kernel))) (by decide +kernel) rfl1 fun H6 s6 => jss_cons (js_par b (i := 6) (j := 7) rfl rfl (by decide) (by decide +kernel) (by decide +kernel) (jns_cons (ja_mP0 b hZ (mt_parting_now h hM) (by decide) (jv_var (i := 0) b rfl (by decide +kernel) rfl) hb ⟨rfl, rfl⟩) (jns_cons (ja_mP0 b hZ (mt_plea_now h hM) (by decide) (jv_var (i := 0) b rfl (by decide +kernel) rfl) hb rp) jns_nil)) s6 (fun v6 v7 H7 s7 q6 q7 => ?_) (by with_unfolding_all rfl)))
    have q6 : Im H7 v6 (optR (newP bk cs)) := q6
    have q7 : Im H7 v7 (if cs = [] then .none else ePl (pleaBy bk cs)) := q7
    have s67 := s6.trans s7
    have hb7 := hb.up s67
    have tkHH : TK H1 H7 := k5.trans (.of s67)
    refine jss_cons (js_mono (D := { nx := fun σ' H' => Same H7 H' ∧ ∃ w6 w7 w8, σ' = [some (.ref p), some vm, some vd, some v3, some v4, some v5, w6, w7, w8], rt := Q }) ?_ fun σ' H8 ⟨s8, w6, w7, w8, e8⟩ => ?_)
    · -- what is asked
      have zl0 := isParted_at hk.ok
      have hS : SbT p H H7 := SH5.trans (.ofS s67)
      cases hn : newP bk cs with
      | none =>
        rw [hn] at q6
        have e6 := Im.isNon q6
        subst e6
        refine js_ifT (jt_cmp (cm_isV (v := .non)) (jv_var (v := .non) (i := 6) b rfl (by decide +kernel) rfl) ja_non) rfl rfl1 fun H8 s8 => ?_
        by_cases hcs : cs = []
        · rw [if_pos hcs] at q7
          have e7 := Im.isNon q7
          subst e7
          exact jss_one (js_ifF0 (i := (!true && false)) (JW.t (jw_and (d := false) (jt_cmp (cm_notN (r := .d .none) (i := true) fun v H q => by rw [Im.isNon q]; rfl) (jr_var (r := .d .none) (i := 7) b rfl (by decide +kernel) rfl .non) ja_non) fun hb => by cases hb)) rfl s8 fun H9 s9 => ⟨s8.trans s9, _, _, _, rfl⟩)
        · rw [if_neg hcs] at q7
          have zv : VPl (pleaBy bk cs) := zc.resolve_left hcs
          have hl : leastMoved (pleaBy bk cs) t = none := by
            unfold newP at hn
            rw [hk.st] at hn
            have hn : (if cs = [] then none else (leastMoved (pleaBy bk cs) t).map (·.2)) = none := hn
            rw [if_neg hcs, Option.map_eq_none_iff] at hn
            exact hn
          have hp0 := leastMoved_none.mp hl
          refine jss_one (js_ifF0 (i := (!false && !true)) (JW.t (jw_and (jt_cmp (cm_notN (r := .d (ePl (pleaBy bk cs))) (i := false) fun v H q => by
            obtain ⟨a0, x0, e0, _, _⟩ := Im.isTup (show Im H v (.tuple [eM (pleaBy bk cs).mead, eR (pleaBy bk cs).custom, eCs (pleaBy bk cs).claims, .int (pleaBy bk cs).odd]) from q)
            rw [e0]
            rfl) (jr_var (r := .d (ePl (pleaBy bk cs))) (i := 7) b rfl (by decide +kernel) rfl q7) ja_non) fun _ => jw_and1 (jt_cmp (cm_notN (r := .d (optR (partingsIn (pleaBy bk cs)).head?)) (i := true) fun v H q => by
            rw [hp0] at q
            rw [Im.isNon (show Im H v .none from q)]
            rfl) (JA.toR (ja_call b (fn_first_parting h) (by decide) (by decide +kernel) (jrs_cons (jr_var (r := .d _) (i := 7) b rfl (by decide +kernel) rfl q7) jrs_nil) ⟨_, rfl, zv, rfl⟩)) ja_non))) rfl s8 fun H9 s9 => ⟨s8.trans s9, _, _, _, rfl⟩)
      | some u =>
        rw [hn] at q6
        have q6 : Im H7 v6 (eR u) := q6
        obtain ⟨a6, x6, e6, _, _⟩ := Im.isTup (show Im H7 v6 (.tuple (u.map .int)) from q6)
        have hcs : ¬ cs = [] := fun z => by
          unfold newP at hn
          rw [hk.st] at hn
          have hn : (if cs = [] then none else (leastMoved (pleaBy bk cs) t).map (·.2)) = some u := hn
          rw [if_pos z] at hn
          cases hn
        rw [if_neg hcs] at q7
        have zv : VPl (pleaBy bk cs) := zc.resolve_left hcs
        have hl : ∃ n, leastMoved (pleaBy bk cs) t = some (n, u) := by
          unfold newP at hn
          rw [hk.st] at hn
          have hn : (if cs = [] then none else (leastMoved (pleaBy bk cs) t).map (·.2)) = some u := hn
          rw [if_neg hcs] at hn
          obtain ⟨x, hx, ex⟩ := Option.map_eq_some_iff.mp hn
          exact ⟨x.1, by rw [hx, ← ex]⟩
        obtain ⟨n, hl⟩ := hl
        obtain ⟨hm1, hm2⟩ := leastMoved_ok hl
        have hpu : isParted (pleaBy bk cs) u = true := partingsIn_ok zv u hm1
        have zd1 : VDl (pleaBy bk cs).mead t := vdl_of (p := pleaBy bk bk.stood.1) hk.pl hk.ok
        have zd2 : VDl (pleaBy bk cs).mead u := vdl_of zv hpu
        have hmany : manyOf bk (newP bk cs) = n := by
          unfold manyOf
          rw [hn, hk.st]
          exact hm2.symm
        rw [hmany] at q5
        have q57 := q5.up s67
        refine js_ifF (jt_cmp (cm_isV (v := v6)) (jv_var (v := v6) (i := 6) b rfl (by decide +kernel) rfl) ja_non) (by rw [e6]; rfl) rfl1 fun H8 s8 => jss_cons (js_set d (i := 8) rfl (by decide +kernel) (ja_call b (fn_fewest_moved h) (by decide) (by decide +kernel) (jrs_cons (jr_var (r := .d _) (i := 7) b rfl (by decide +kernel) rfl q7) (jrs_cons (ja_tup (jds_cons (jr_var (r := .d _) (i := 1) b rfl (by decide +kernel) rfl (h15.up s67)) (jds_cons (jr_var (r := .d _) (i := 3) b rfl (by decide +kernel) rfl (q3.up s67)) jds_nil))) jrs_nil)) ⟨pleaBy bk cs, t, rfl, zv, zd1, rfl⟩) s8 fun v8 H9 s9 q8 => ?_)
        have q8 : Im H9 v8 (optB (leastMoved (pleaBy bk cs) t)) := q8
        rw [hl] at q8
        have q8 : Im H9 v8 (.tuple [.int n, eR u]) := q8
        have s79 := s8.trans s9
        have e1 : (!PyData.eqv (.tuple [.int n, eR u]) (.tuple [.int n, eR u])) = false := by
          rw [eqv_tup]
          simp [PyData.eqvAll, eqv_int, eqv_eR]
        refine jss_cons (js_ifF0 (i := (!true || (!PyData.eqv (.tuple [.int n, eR u]) (.tuple [.int n, eR u])))) (JW.t (jw_or (jt_not (jt_of_ja (ja_call b (fn_is_parting h) (by decide) (by decide +kernel) (jrs_cons (jr_var (r := .d _) (i := 7) b rfl (by decide +kernel) rfl (q7.up s79)) (jrs_cons (jr_var (r := .d _) (i := 6) b rfl (by decide +kernel) rfl (q6.up s79)) jrs_nil)) ⟨_, _, rfl, zv, hpu, rfl⟩))) fun hb1 => jw_or1 (jt_ne (r := .d _) (q := .d _) b (jr_var (r := .d _) (i := 8) b rfl (by decide +kernel) rfl q8) (ja_tup (jds_cons (ja_ixT (jr_var (r := .d _) (i := 5) b rfl (by decide +kernel) rfl (q57.up s79)) (ja_int (i := 1)) rfl) (jds_cons (jr_var (r := .d _) (i := 6) b rfl (by decide +kernel) rfl (q6.up s79)) jds_nil))) (by first | exact sh_eB (_, _) | exact sh_int _) (by first | exact sh_eB (_, _) | exact sh_int _)))) (by rw [e1]; rfl) rfl1 fun H10 s10 => jss_one (js_ifF0 (i := !PyData.eqv (.int (unlikeN (fencesIn (pleaBy bk cs).mead t) (fencesIn (pleaBy bk cs).mead u))) (.int n)) (jt_ne (r := .d _) (q := .d _) b (ja_call b (fn_fences_moved h) (by decide) (by decide +kernel) (jrs_cons (ja_tup (jds_cons (jr_var (r := .d _) (i := 1) b rfl (by decide +kernel) rfl ((h15.up s67).up s79)) (jds_cons (jr_var (r := .d _) (i := 3) b rfl (by decide +kernel) rfl ((q3.up s67).up s79)) jds_nil))) (jrs_cons (ja_tup (jds_cons (jr_var (r := .d _) (i := 1) b rfl (by decide +kernel) rfl ((h15.up s67).up s79)) (jds_cons (jr_var (r := .d _) (i := 6) b rfl (by decide +kernel) rfl (q6.up s79)) jds_nil))) jrs_nil)) ⟨(pleaBy bk cs).mead, t, u, rfl, zd1, zd2, rfl⟩) (ja_ixT (jr_var (r := .d _) (i := 5) b rfl (by decide +kernel) rfl (q57.up s79)) (ja_int (i := 1)) rfl) (by first | exact sh_eB (_, _) | exact sh_int _) (by first | exact sh_eB (_, _) | exact sh_int _)) (by rw [eqv_int]; simp [show n = unlikeN (fencesIn (pleaBy bk cs).mead t) (fencesIn (pleaBy bk cs).mead u) from hm2]) s10 fun H11 s11 => ⟨(s79.trans s10).trans s11, _, _, _, rfl⟩))
    · -- undone
      subst e8
      have hb8 := hb7.up s8
      have T8 := Tabs.same T5 (s67.trans s8)
      have q48 := q4.up (s67.trans s8)
      refine jss_cons (js_exprRaw (jx_mU0 (X := X.nox) (B := H8) (ou := .ret (.d .none)) (bk' := bk) (RCx.of b) hZ (mt_undo h hM) (by decide) (jv_var (i := 0) b rfl (by decide +kernel) rfl) rfl1 hb8 ⟨bk.past, bk.stood, rfl, rfl, rfl, rfl⟩ (fun r er v H9 sb hb9 q => ?_) (fun x ex => by cases ex)))
      have T9 := Tabs.sbB T8 sb hb8
      have q49 := q48.tk (hb8.tk sb)
      have SH9 : SbT p H H9 := ((SH5.trans (.ofS s67)).trans (.ofS s8)).trans (.of sb)
      refine jss_one (js_ret (ja_eq (r := .d _) (q := .d _) b (ja_tup (jds_cons (ja_mP0 b hZ (mt_claims_now h hM) (by decide) (jv_var (i := 0) b rfl (by decide +kernel) rfl) hb9 ⟨rfl, rfl⟩) (jds_cons (ja_mP0 b hZ (mt_parting_now h hM) (by decide) (jv_var (i := 0) b rfl (by decide +kernel) rfl) hb9 ⟨rfl, rfl⟩) jds_nil))) (jr_var (r := .d _) (i := 4) b rfl (by decide +kernel) rfl q49) (by first | exact sh_stn _ _) (by first | exact sh_stn _ _)) rfl1 fun v10 H10 s10 q10 => ?_)
      have q10 : Im H10 v10 (.bool (PyData.eqv (.tuple [eCs bk.stood.1, optR bk.stood.2]) (.tuple [eCs bk.stood.1, optR bk.stood.2]))) := q10
      rw [eqS] at q10
      have e10 := Im.isBl q10
      subst e10
      exact hQ H10 (SH9.trans (.ofS s10)) (hb9.up s10) (Tabs.same T9 s10)
end
end Mead

set_option maxRecDepth 100000
set_option maxHeartbeats 4000000
/-! the law's own fences are as many as the program's -/
namespace Mead
open PySem PySem.Spec PyProof.Rows L2
/-! ### the cells -/
theorem row_of {r : List Int} {i : Nat} : rowP 0 99 i r = ((List.range r.length).filter fun j => decide (0 ≤ r.getD j 0 ∧ r.getD j 0 ≤ 99)).map fun (j : Nat) => ((i : Int), (j : Int)) := by
  unfold rowP
  have e : (r.mapIdx fun c n => ((c, n) : Nat × Int)) = (List.range r.length).map fun j => (j, r.getD j 0) := by
    apply List.ext_getElem?
    intro k
    rw [List.getElem?_mapIdx, List.getElem?_map]
    by_cases hk : k < r.length
    · rw [List.getElem?_range hk, List.getElem?_eq_getElem hk]
      simp [List.getD, hk]
    · rw [List.getElem?_eq_none (by omega), List.getElem?_eq_none (by simpa using hk)]
      rfl
  rw [e, List.filter_map, List.map_map]
  rfl
theorem lawCells_eq {m : List (List Int)} (z : VM m) : lawCells m = cellsIn m := by
  unfold lawCells cellsIn placesOf
  congr 1
  apply List.ext_getElem?
  intro i
  rw [List.getElem?_map, List.getElem?_mapIdx]
  by_cases hi : i < m.length
  · rw [List.getElem?_range hi, List.getElem?_eq_getElem hi]
    simp only [Option.map_some, Option.some.injEq]
    have hm : m[i] ∈ m := List.getElem_mem hi
    have hw := (z.wide _ hm).2.2
    have hg : m.getD i [] = m[i] := by simp [List.getD, hi]
    unfold lawRow
    rw [row_of, hg, ← hw]
    congr 1
    refine List.filter_congr fun j hj => ?_
    have hj' : j < m[i].length := by simpa using hj
    have hn := z.nums _ hm (m[i].getD j 0) (by simp [List.getD, hj'])
    exact decide_eq_decide.mpr ⟨fun q => ⟨q, hn.2⟩, fun q => q.1⟩
  · rw [List.getElem?_eq_none (by simpa using hi), List.getElem?_eq_none (by omega)]
    rfl
/-! ### the fences -/
theorem perm_len {α β : Type} {l1 : List α} {l2 : List β} (f : α → β) (h1 : (l1.map f).Nodup) (h2 : l2.Nodup) (h : ∀ b, b ∈ l1.map f ↔ b ∈ l2) : l1.length = l2.length := by
  have p := (List.perm_ext_iff_of_nodup h1 h2).mpr h
  have e := p.length_eq
  rwa [List.length_map] at e
theorem absN_cases (n : Int) : absN n = n ∨ absN n = -n := by unfold absN; split <;> simp
theorem mem_beside {p o : Pl} : o ∈ beside p ↔ nextTo p o = true := by
  obtain ⟨a, b⟩ := p
  obtain ⟨c, d⟩ := o
  unfold beside nextTo
  rw [decide_eq_true_eq]
  simp only [List.mem_cons, List.not_mem_nil, or_false, Prod.mk.injEq]
  unfold absN
  split <;> split <;> omega
theorem fence_one {rows : List (Pl × Int)} (hn : (rows.map Prod.fst).Nodup) {x : Pl × Int} (hx : x ∈ rows) : (lawF1 rows x).length = (fenceAt rows x.1).length := by
  unfold lawF1 fenceAt
  rw [List.length_map, List.length_map]
  refine perm_len Prod.fst ?_ ?_ fun o => ?_
  · exact (List.Sublist.map _ List.filter_sublist).nodup hn
  · exact List.filter_sublist.nodup (beside_nodup _)
  · have lx : look rows x.1 = some x.2 := look_eq hn hx
    rw [List.mem_map, List.mem_filter, mem_beside]
    constructor
    · rintro ⟨y, hy, rfl⟩
      obtain ⟨h1, h2⟩ := List.mem_filter.mp hy
      have ly : look rows y.1 = some y.2 := look_eq hn h1
      unfold lawPair at h2
      simp only [Bool.and_eq_true, Bool.not_eq_true', decide_eq_false_iff_not] at h2
      refine ⟨h2.2.2, ?_⟩
      rw [lx, ly]
      simp only [Option.isSome_some, Option.getD_some, Bool.true_and, Bool.and_eq_true, Bool.not_eq_true', decide_eq_false_iff_not]
      exact ⟨h2.1, fun e => h2.2.1 e.symm⟩
    · rintro ⟨h1, h2⟩
      simp only [Bool.and_eq_true] at h2
      obtain ⟨h3, h4, h5⟩ := h2
      obtain ⟨n, en⟩ := Option.isSome_iff_exists.mp h4
      have hm := look_in en
      refine ⟨(o, n), List.mem_filter.mpr ⟨hm, ?_⟩, rfl⟩
      rw [lx, en] at h5
      unfold lawPair
      simp only [Bool.and_eq_true, Bool.not_eq_true', decide_eq_false_iff_not, Option.getD_some] at h5 ⊢
      exact ⟨h3, fun e => h5 e.symm, h1⟩
theorem flat_len_eq {α β γ : Type} (f : α → List β) (g : α → List γ) : ∀ l : List α, (∀ a ∈ l, (f a).length = (g a).length) → (l.map f).flatten.length = (l.map g).flatten.length
  | [], _ => rfl
  | a :: l, h => by
    have h1 := h a List.mem_cons_self
    have h2 := flat_len_eq f g l fun b hb => h b (List.mem_cons_of_mem _ hb)
    simp only [List.map_cons, List.flatten_cons, List.length_append, h1, h2]
theorem zip_keys {cells : List Pl} {t : List Int} (h : cells.Nodup) : ((cells.zip t).map Prod.fst).Nodup := by
  induction cells generalizing t with
  | nil => simp
  | cons c cells ih =>
    cases t with
    | nil => simp
    | cons a t =>
      obtain ⟨h1, h2⟩ := List.nodup_cons.mp h
      rw [List.zip_cons_cons, List.map_cons]
      refine List.nodup_cons.mpr ⟨fun hm => h1 ?_, ih h2⟩
      obtain ⟨x, hx, e⟩ := List.mem_map.mp hm
      obtain ⟨a1, b1⟩ := x
      have := (List.of_mem_zip hx).1
      have e : a1 = c := e
      rw [← e]
      exact this
theorem law_fences_len {m : List (List Int)} {t : List Int} (z : VM m) : ((lawFences m t).length : Int) = unlikeN [] (fencesIn m t) := by
  have e1 : (lawFences m t).length = (fencesIn m t).length := by
    unfold lawFences fencesIn
    rw [srt_len, srt_len, lawCells_eq z, List.map_map]
    exact flat_len_eq _ _ _ fun x hx => fence_one (zip_keys (cellsIn_nodup m)) hx
  rw [e1]
  unfold unlikeN
  have e2 : (fencesIn m t).filter (fun t => !decide (t ∈ ([] : List (Pl × Pl)))) = fencesIn m t := List.filter_eq_self.mpr fun a _ => by simp
  rw [e2]
  simp
end Mead

set_option maxRecDepth 100000
set_option maxHeartbeats 4000000
/-! loops and comprehensions whose bodies change the heap -/
namespace Mead
open PySem PySem.Spec PyProof.Rows L2 L2H LamX
section
variable {T : Tx} {N : List Str} {sc : Scope} {k : Nat} {X : Cx} {σ : L2.St} {B H : Hp} {a b e o : Expr} {es : List Expr} {st : Stmt} {sts body : List Stmt} {pos : Pos} {D : Ends}
/-- for tg in iter, iter a list of these values -/
theorem js_forV (c : BCx T N sc k X) {tg iter : Expr} (h : jE X iter σ H fun v H1 => ∃ p vs, v = .ref p ∧ (H1 p = some (.lst vs)) ∧ ∃ Pv : Nat → L2.St → Hp → Prop, Pv 0 σ H1 ∧ (∀ i σ' H', Pv i σ' H' → H' p = some (.lst vs)) ∧
      (∀ i u σ' H', vs[i]? = some u → Pv i σ' H' → jG X tg u σ' H' fun σ2 H2 => jSs X body { D with nx := Pv (i + 1), ct := Pv (i + 1), bk := D.nx } σ2 H2) ∧ (∀ σ' H', Pv vs.length σ' H' → D.nx σ' H'))
    (hf : ∀ z, foldedSetIterable iter X.env z = pure z := by intro _; rfl) : jS X (.For tg iter body [] pos) D σ H := by
  refine js_of (ps_for c.never c.calm (pi_list pe_j) pg_j pss_j hf) (je_mono h fun v H1 ⟨p, vs, e, hp, Pv, h0, hS, ht, hd⟩ => ⟨p, e, ⟨vs, SqL.of hp⟩, ?_⟩)
  refine for_it (walk_list (K := X.K) (a := p) (xs := vs)) Pv h0 (fun i σ' H' _ q => SqL.of (hS i σ' H' q)) (fun i v σ' H' H'' hi q ⟨e1, e2⟩ => ?_) hd
  subst e1
  exact ht i v σ' H'' e2 q
/-- .. a tuple of these values -/
theorem js_forT (c : BCx T N sc k X) {tg iter : Expr} (h : jE X iter σ H fun v H1 => ∃ p vs, v = .ref p ∧ (H1 p = some (.tup vs)) ∧ ∃ Pv : Nat → L2.St → Hp → Prop, Pv 0 σ H1 ∧ (∀ i σ' H', Pv i σ' H' → H' p = some (.tup vs)) ∧
      (∀ i u σ' H', vs[i]? = some u → Pv i σ' H' → jG X tg u σ' H' fun σ2 H2 => jSs X body { D with nx := Pv (i + 1), ct := Pv (i + 1), bk := D.nx } σ2 H2) ∧ (∀ σ' H', Pv vs.length σ' H' → D.nx σ' H'))
    (hf : ∀ z, foldedSetIterable iter X.env z = pure z := by intro _; rfl) : jS X (.For tg iter body [] pos) D σ H := by
  refine js_of (ps_for c.never c.calm (pi_tup pe_j) pg_j pss_j hf) (je_mono h fun v H1 ⟨p, vs, e, hp, Pv, h0, hS, ht, hd⟩ => ⟨p, e, ⟨vs, SqT.of hp⟩, ?_⟩)
  refine for_it (walk_tup (K := X.K) (a := p) (xs := vs)) Pv h0 (fun i σ' H' _ q => SqT.of (hS i σ' H' q)) (fun i v σ' H' H'' hi q ⟨e1, e2⟩ => ?_) hd
  subst e1
  exact ht i v σ' H'' e2 q
/-- x, y = e, f by a tuple -/
theorem js_tup2R (c : BCx T N sc k X) {e1 e2 : Expr} {tgs : List Expr} {kt k2 : Nat} {pt pt2 : Pos}
    (h : jE X e1 σ H fun v1 H1 => jE X e2 σ H1 fun v2 H2 => ∀ a, H2 a = none → jGs X tgs [v1, v2] σ (upd H2 a (.tup [v1, v2])) D.nx)
    (hn : (assignEach tgs X.env).length = 2 := by rfl) (hst : (assignEach tgs X.env).findIdx? (·.1) = none := by rfl)
    (q1 : starEach [e1, e2] X.env = (false, eval e1 X.env) :: starEach [e2] X.env := by rfl) (q2 : starEach [e2] X.env = (false, eval e2 X.env) :: starEach [] X.env := by rfl)
    (hs : swapsWithSole [.Tuple tgs kt pt] (.Tuple [e1, e2] k2 pt2) pos.line X.env = pure false := by rfl) (hw : swappedStores [.Tuple tgs kt pt] (.Tuple [e1, e2] k2 pt2) { X.env with scope := sc } = pure none := by rfl) (h1 : (assignEach [.Tuple tgs kt pt] X.env).map (·.2) = [assign (.Tuple tgs kt pt) X.env] := by rfl) :
    jS X (.Assign [.Tuple tgs kt pt] (.Tuple [e1, e2] k2 pt2) pos) D σ H :=
  js_of (ps_asg (pe_tup (pa_cons pe_j (pa_cons pe_j pa_nil q2) q1)) (pg_tup c.calm pgs_j hn hst) hs ((sw_scope c.hs).trans hw) h1)
    (je_mono h fun v1 H1 h => je_mono h fun v2 H2 h => ⟨by show (2 : Nat) ≤ sizeLine; decide, fun a ha => ⟨a, [v1, v2], rfl, SqT.of upd_same, rfl, h a ha⟩⟩)
/-- if e != n: .. where e is n, the heap changed -/
theorem js_ifNe {n : Int} {t : Stmt} {e2 : Expr} {p1 : Pos} (h : jE X e σ H fun v H1 => v = .int n ∧ jE X e2 σ H1 fun u H2 => u = .int n ∧ D.nx σ H2) (hm : behindInMarks .NotEq e2 = false := by first | exact nomark _ | rfl) : jS X (.If (.Compare e [.NotEq] [e2] p1) [t] [] pos) D σ H :=
  js_of (ps_if (pt_cmpR op_ne pe_j pe_j hm) pss_j pss_j) (je_mono h fun v H1 ⟨e1, h⟩ => je_mono h fun u H2 ⟨e3, h⟩ => by
    subst e1; subst e3
    refine ⟨rfl, (!decide (V.int n = V.int n)), rfl, ?_⟩
    rw [decide_eq_true rfl]
    exact iteF (jss_nil h))
/-- [elt for tg in xs], elt changes the heap -/
theorem j_lcI (c : BCx T N sc k X) {vs : List V} {q : Addr} {iter elt : Expr} {scope : Scope} {own : List (Str × Nat)} {z : Str} {zp : Pos} {j : Nat} (Iv : Hp → Prop) (Pe : V → Prop) {Q : VK}
    (hi : JV X iter σ H (.ref q)) (hq : H q = some (.lst vs)) (hb : blkC N sc scope own = true) (hz : vs.length ≤ 1000000) (hN : N[j]? = some z) (hl : ∀ sc', sc' = relS scope sc → loc sc' z = true) (hown : own.map (·.2) = [j])
    (h0 : ∀ H1, Same H H1 → Iv H1) (hqI : ∀ H', Iv H' → H' q = some (.lst vs)) (hD : ∀ H' D' acc, Iv H' → H D' = none → (H' D' = none ∨ ∃ l, H' D' = some (.lst l)) → Iv (upd H' D' (.lst acc)))
    (turn : ∀ (i : Nat) (v : V) (H' : Hp), vs[i]? = some v → Iv H' → ∀ X', BCx T N (relS scope sc) k X' → X'.fn = (fun z => scope.names.lookup z == some .cell) → jE X' elt ((wipe σ [j]).set j (some v)) H' fun y H4 => Pe y ∧ Iv H4 ∧ ∀ D' acc, H' D' = some (.lst acc) → H4 D' = some (.lst acc))
    (fin : ∀ D' acc H2, H2 D' = some (.lst acc) → acc.length = vs.length → (∀ y ∈ acc, Pe y) → Iv H2 → Q (.ref D') H2)
    (hf : ∀ z, foldedSetIterable iter X.env z = pure z := by intro _; rfl) : jE X (.ListComp elt [⟨.Name z zp, iter, [], 0⟩] scope pos) σ H Q := by
  have hbk : BlkOk X.N X.env.scope scope own := by
    rw [c.hN, c.hs]
    exact blkOk_by hb
  have hX : ∀ {X'}, Blk X scope X' → BCx T N (relS scope sc) k X' ∧ X'.fn = (fun z => scope.names.lookup z == some .cell) := fun {X'} ⟨s, H, C, cl, fp, e⟩ => by
    subst e
    exact ⟨c.blk hbk.kind s H C cl fp, rfl⟩
  refine je_of (pe_lc (own := own) (g := bG X scope (.Name z zp)) (tt := bT X scope []) (te := bE X scope elt)
    c.calm (by rw [c.hN]; exact c.nd) (pi_list pe_j) hbk (fun s H C cl fp => ⟨fun pins st σ _ v u Q I r h => h _ ⟨s, H, C, cl, fp, rfl⟩ pins st u I r⟩) (fun s H C cl fp => ⟨fun pins st σ _ Q I h => h _ ⟨s, H, C, cl, fp, rfl⟩ pins st I⟩)
    (fun s H C cl fp => ⟨fun pins st σ _ Q I h => h _ ⟨s, H, C, cl, fp, rfl⟩ pins st I⟩) hf) (je_mono (hi H rfl1) fun v H1 ⟨s1, e1⟩ => ⟨q, e1, ⟨vs, SqL.of (s1 _ _ hq)⟩, fun D' nD => ?_⟩)
  have i1 := h0 H1 s1
  have nDH : H D' = none := s1.free nD
  refine lc_it (walk_list (K := X.K) (a := q) (xs := vs)) (g := bG X scope (.Name z zp)) (tt := bT X scope []) (te := bE X scope elt) (vs := own.map (·.2)) (σ := σ) (fun i H' => Iv H' ∧ ∃ acc, H' D' = some (.lst acc) ∧ acc.length = i ∧ ∀ y ∈ acc, Pe y)
    ⟨hD H1 D' [] i1 nDH (.inl nD), [], upd_same, rfl, fun y hy => by cases hy⟩ (fun i H' _ z => SqL.of (hqI H' z.1)) ?_ (fun H' ⟨i2, acc, a1, a2, a3⟩ => fin D' acc H' a1 a2 a3 i2)
  rintro i v H' H'' hi ⟨i2, acc, a1, a2, a3⟩ ⟨eH, hv⟩
  subst eH
  rw [hown]
  intro X' hX'
  refine jg_nameB (i := j) (hX hX').1 hN (hl _ rfl) ⟨?_, fun X2 hX2 => ?_⟩
  · show ((σ.set j none).set j (some v)).set j none = σ.set j none
    rw [List.set_set, List.set_set]
  · intro pins s I
    refine pts_nil.run pins s _ H'' _ I ?_
    unfold tYes
    dsimp only
    rw [if_pos rfl]
    intro X3 hX3
    refine je_mono (turn i v H'' hv i2 X3 (hX hX3).1 (hX hX3).2) fun y H4 ⟨py, i4, k4⟩ => ?_
    have e4 := k4 D' acc a1
    have hlt : acc.length < 1000000 := by omega
    refine ⟨acc, e4, Nat.lt_of_lt_of_le hlt (by decide), hD H4 D' _ i4 nDH (.inr ⟨_, e4⟩), _, upd_same, by simp [a2], fun u hu => ?_⟩
    rcases List.mem_append.mp hu with hu | hu
    · exact a3 u hu
    · have : u = y := by simpa using hu
      rw [this]
      exact py
end
end Mead

set_option maxRecDepth 100000
set_option maxHeartbeats 4000000
namespace Mead
open PySem PySem.Spec PyProof.Rows L2
local macro_rules | `(tactic| walk_at "hl") => `(tactic| first | assumption | omega | (simp only [List.length_map]; omega) | exact Nat.le_of_ble_eq_true rfl | (simp only [List.length_map, List.length_mapIdx, List.length_range]; omega) | (simp only [List.length_mapIdx, List.length_map] at *; omega) | fail)
local macro_rules | `(tactic| walk_at "pc") => `(tactic| first | assumption | exact Nat.le_refl _ | omega)
local macro_rules | `(tactic| walk_at "sh") => `(tactic| first | exact sh_int _ | exact sh_bool _ | exact sh_none | exact sh_eP (by decide) _ | exact sh_eR (by decide) _ | exact sh_eL (by decide) _ | exact sh_eM (by decide) _ | exact sh_eC (by decide) _ | exact sh_eCs (by decide) _ | exact (sh_lst (n := 59) (sh_map fun _ => sh_eP (by decide) _)) | exact (sh_lst (n := 59) (sh_map fun _ => sh_eC (by decide) _)) | exact (sh_lst (n := 59) (sh_map fun _ => sh_eL (by decide) _)) | exact (sh_lst (n := 59) (sh_map fun _ => sh_int _)) | exact (sh_lst (n := 59) sh_nil) | exact (sh_tup (n := 59) sh_nil) | exact sh_tup (n := 59) (sh_cons (sh_int _) (sh_cons (sh_int _) sh_nil)) | exact sh_lst (n := 59) (sh_map fun _ => sh_tup (n := 58) (sh_cons (sh_int _) (sh_cons (sh_int _) sh_nil))) | fail)
local macro_rules | `(tactic| walk_at "al") => `(tactic| first | rfl | simp [PySem.W.alike, PySem.W.alikeAll, eP] | fail)
local macro_rules | `(tactic| walk_at "nn") => `(tactic| intro z; cases z)
open L2H LamX
theorem sqL_up {K : PySem.W.Frag} {H H' : Hp} {q : Addr} {xs : List V} (h : SqL K H q xs) (s : Same H H') : SqL K H' q xs := h.elim (fun z => .inl (rd_up z s)) .inr
section
variable {T : Tx} {N : List Str} {sc : Scope} {k : Nat} {X : Cx} {σ : L2.St} {B H : Hp} {a b e o : Expr} {es : List Expr} {st : Stmt} {sts body : List Stmt} {pos : Pos} {D : Ends}
theorem ja_lenS (c : BCx T N sc k X) {pp : Pos} {q : Addr} {xs : List V} (hg : glo sc "len" = true) (hm : T.mg "len" = none) (h : JV X e σ B (.ref q)) (hq : SqL T.K B q xs) (hs : starEach [e] X.env = (false, eval e X.env) :: starEach [] X.env := by rfl) : JA X (.Call (.Name "len" pp) [e] [] pos) σ B (.d (.int xs.length)) := fun H1 s =>
  je_of (pe_callB call_len_seq (c.gl hg) (by rw [c.mg]; exact hm) boot_len (pa_cons pe_j pa_nil hs) (glo_of hg).2.2 (glo_of hg).2.1 hs rfl) (je_mono (h H1 s) fun v H2 ⟨s2, e2⟩ => ⟨q, xs, by rw [e2], .inl (by rw [c.K]; exact sqL_up hq (s.trans s2)), s2, .int _⟩)
theorem ex_ixS (c : BCx T N sc k X) {q : Addr} {xs : List V} (ha : JV X a σ B (.ref q)) (hb : EI X b σ B fun r => 0 ≤ r ∧ r < xs.length) (hq : SqL T.K B q xs) (hp : PlainIx b := by exact fun _ _ => rfl) : EX X (.Subscript a b pos) σ B fun _ v _ => v ∈ xs := fun H1 s =>
  je_of (pe_ix ix_list pe_j pe_j hp) (je_mono (ha H1 s) fun v H2 ⟨s2, e2⟩ => je_mono (hb H2 (s.trans s2)) fun u H3 ⟨s3, r, e3, r0, r1⟩ => by
      obtain ⟨z, q1, q2⟩ := at_nn r0 r1
      exact ⟨q, xs, r, z, e2, e3, (by rw [c.K]; exact sqL_up hq ((s.trans s2).trans s3)), q1, s2.trans s3, q2⟩)
/-- f(e, ..) of any kind of values, the heap changed -/
theorem je_callP (c : BCx T N sc k X) {f : Str} {j : Nat} {sp : Sp} {p : Pos} {Ps : List (V → Hp → Prop)} {Q : VK} (F : Fn T f j sp) (hk : j ≤ k) (hg : glo sc f = true) (ha : JPs X (e :: es) σ B Ps) (hB : Same B H)
    (h : ∀ vs H2, Same H H2 → Paired (fun v (P : V → Hp → Prop) => P v H2) vs Ps → sp vs H2 Q E0)
    (he : starEach (e :: es) X.env = (false, eval e X.env) :: starEach es X.env := by rfl) (hpl : (backTo pos (starEach es X.env)).any (·.1) = false := by rfl) : jE X (.Call (.Name f p) (e :: es) [] pos) σ H Q := by
  obtain ⟨fa, fd, ps, F, hm, hkp, hb⟩ := F
  have F' : FnOk X.prog X.w X.K X.mg X.base CX0 k fa fd ps sp := by
    rw [c.prog, c.w, c.K, c.mg, c.base]
    exact F.mono hk
  exact je_of (pe_call F' c.room (c.gl hg) (by rw [c.mg]; exact hm) (by rw [c.K]; exact hkp) (by rw [c.K]; exact hb) .nil pass0 pa_j (glo_of hg).2.1 he hpl)
    (ja_mono (ha H hB) fun vs H2 ⟨s2, p2⟩ => by
      rw [List.append_nil]
      exact h vs H2 s2 p2)
/-- [e, ..] of any kind of values -/
theorem ex_lstP {Ps : List (V → Hp → Prop)} (h : JPs X es σ B Ps) (up : ∀ P ∈ Ps, Up P) (hl : Ps.length ≤ 1000000 := by exact Nat.le_of_ble_eq_true rfl) : EX X (.List es pos) σ B fun H1 v H2 => ∃ q vs, v = .ref q ∧ H1 q = none ∧ H2 q = some (.lst vs) ∧ Paired (fun v (P : V → Hp → Prop) => P v H2) vs Ps := fun H1 s =>
  je_of (pe_lst pa_j) (ja_mono (h H1 s) fun vs H2 ⟨s2, p2⟩ => ⟨by rw [paired_len p2]; exact small_line hl, fun p hp => ⟨s2.trans (Same.new hp), p, vs, rfl, s2.free hp, upd_same, paired_upP up (Same.new hp) p2⟩⟩)
/-- if not all(e): .. where all are true -/
theorem js_ifAll (c : BCx T N sc k X) {t : Stmt} {p1 p2 p3 : Pos} (hg : glo sc "all" = true) (hm : T.mg "all" = none) (h : jE X e σ H fun v H1 => ∃ q vs, v = .ref q ∧ H1 q = some (.lst vs) ∧ (∀ y ∈ vs, y = V.bl true) ∧ D.nx σ H1)
    (hs : starEach [e] X.env = (false, eval e X.env) :: starEach [] X.env := by rfl) : jS X (.If (.UnaryOp .Not (.Call (.Name "all" p1) [e] [] p2) p3) [t] [] pos) D σ H := by
  refine js_of (ps_if (pt_not (pt_val pe_j)) pss_j pss_j) (je_of (pe_callB (cr_all c.calm) (c.gl hg) (by rw [c.mg]; exact hm) (by decide +kernel) (pa_cons pe_j pa_nil hs) (by decide) (by decide) hs rfl) (je_mono h fun v H1 ⟨q, vs, e1, hq, ha, hn⟩ => ?_))
  subst e1
  have ev : vs = (vs.map fun _ => true).map V.bl := by
    rw [List.map_map]
    clear hq
    induction vs with
    | nil => rfl
    | cons y vs ih =>
      rw [List.map_cons, ← ih fun z hz => ha z (List.mem_cons_of_mem _ hz), ha y List.mem_cons_self]
      rfl
  refine ⟨q, vs.map fun _ => true, rfl, SqL.of (by rw [← ev]; exact hq), true, ?_, ?_⟩
  · have : (vs.map fun _ => true).all id = true := by simp
    rw [this]
  · exact jss_nil hn
end
section
variable {T : Tx} (h : Top T)
include h
def sp_cellS (K : PySem.W.Frag) : Sp := fun vs H Q _ => ∃ (p : Addr) (is : List Int) (j : Int), vs = [.ref p, .int j] ∧ SqL K H p (is.map V.int) ∧ 0 ≤ j ∧ ∀ i H', Same H H' → Q (.int i) H'
theorem fn__law_cellS : Fn T "_law_cell" 2 (sp_cellS T.K) := by
  refine fn_mk h.d__law_cell sc__law_cell (fun vs H Q E ⟨_, _, _, e, _⟩ => by subst e; rfl) (fun _ _ _ _ _ _ us hl => match us, hl with | [_, _], _ => rfl) fun X c vs H Q E ⟨p, is, j, e, hp, j0, hQ⟩ => ?_
  subst e
  have b := c.toBCx
  have hj : Im H (.int j) (.int j) := .int j
  refine jss_cons (js_if (jt_cmp cm_lt (jr_var (r := .d _) (i := 1) b rfl (by decide +kernel) rfl hj) (ja_lenS b (by decide +kernel) h.f_len (jv_var (i := 0) b rfl (by decide +kernel) rfl) hp)) rfl1 (fun hc H1 s1 => ?_) fun hc H1 s1 => jss_nil (jss_one (js_ret (ja_int (i := 0)) rfl1 fun v H2 s2 q => ?_)))
  · have hc := of_decide_eq_true hc
    refine jss_one (js_ret (ex_ixS b (jv_var (i := 0) b rfl (by decide +kernel) rfl) (ei_of (S := fun r => 0 ≤ r ∧ r < (is.map V.int).length) (jr_var (r := .d _) (i := 1) b rfl (by decide +kernel) rfl hj) ⟨j0, hc⟩) hp) s1 fun v H2 s2 hv => ?_)
    obtain ⟨i, _, e⟩ := List.mem_map.mp hv
    subst e
    exact hQ i _ (s1.trans s2)
  · have e := Im.isInt q
    subst e
    exact hQ 0 _ (s1.trans s2)
section
variable {N : List Str} {sc : Scope} {k : Nat} {X : Cx} {σ : L2.St} {B H : Hp} {a b e o : Expr} {es : List Expr} {pos : Pos} {D : Ends} {p : Addr}
/-- [_law_cell(script, 0)] + script[1:2] -/
theorem ex_cells (c : BCx T N sc k X) {q : Addr} {ns : List Int} {pp p1 p2 p3 p4 p5 p6 p7 p8 p9 : Pos} {j1 j2 j3 : Nat} {scr : Str} {i : Nat} (hk : 2 ≤ k) (hg : glo sc "_law_cell" = true) (hN : N[i]? = some scr) (hv : Mead.vis sc scr = true) (hs : σ[i]? = some (some (.ref q))) (hq : SqL T.K B q (ns.map V.int)) (hn : ns.length ≤ 63) :
    EX X (.BinOp (.List [.Call (.Name "_law_cell" pp) [.Name scr p1, .Constant (.int 0) j1 p2] [] p3] p4) .Add (.Subscript (.Name scr p5) (.Slice (some (.Constant (.int 1) j2 p6)) (some (.Constant (.int 2) j3 p7)) none p8) p9) pos) σ B fun _ v H2 => ∃ (r : Addr) (is : List Int), v = .ref r ∧ H2 r = some (.lst (is.map V.int)) := by
  have h1 : EX X (.List [.Call (.Name "_law_cell" pp) [.Name scr p1, .Constant (.int 0) j1 p2] [] p3] p4) σ B fun H1 v H2 => ∃ q vs, v = .ref q ∧ H1 q = none ∧ H2 q = some (.lst vs) ∧ Paired (fun v (P : V → Hp → Prop) => P v H2) vs [fun v _ => ∃ i : Int, v = .int i] :=
    ex_lstP (jps_cons (fun _ _ _ _ z => z) (j_callP c (fn__law_cellS h) hk hg (jps_v (jv_var c hN hv hs) (jps_d ja_int jps_nil)) (fun H1 vs H2 E s s2 hv => by
      cases hv with
      | cons q1 hv => cases hv with
        | cons q2 hv =>
          cases hv
          exact ⟨q, ns, 0, by rw [q1, Im.isInt q2], sqL_up hq (s.trans s2), by decide, fun i H' s3 => ⟨s2.trans s3, i, rfl⟩⟩)) jps_nil) (fun P hP => by
        have : P = fun v _ => ∃ i : Int, v = .int i := by simpa using hP
        rw [this]
        exact fun _ _ _ _ z => z)
  obtain ⟨t1, r1, q1⟩ := jo_some (X := X) (σ := σ) (B := B) (ja_int (i := 1) (j := j2) (pos := p6))
  obtain ⟨t2, r2, q2⟩ := jo_some (X := X) (σ := σ) (B := B) (ja_int (i := 2) (j := j3) (pos := p7))
  have h2 : EX X (.Subscript (.Name scr p5) (.Slice (some (.Constant (.int 1) j2 p6)) (some (.Constant (.int 2) j3 p7)) none p8) p9) σ B fun _ v H2 => ∃ (r : Addr) (is : List Int), v = .ref r ∧ H2 r = some (.lst (is.map V.int)) ∧ is.length ≤ 63 := fun H1 s =>
    je_of (pe_slice sl_list pe_j r1 r2) (je_mono (jv_var c hN hv hs H1 s) fun v H2 ⟨s2, e2⟩ => q1 H2 (s.trans s2) _ fun H3 s3 => q2 H3 ((s.trans s2).trans s3) _ fun H4 s4 => ⟨q, ns.map V.int, e2, by rw [c.K]; exact sqL_up hq (((s.trans s2).trans s3).trans s4), fun r nr => ⟨((s2.trans s3).trans s4).trans (Same.new nr), r, (ns.drop (HT.sIx (ns.map V.int).length 0 (some 1))).take (HT.sIx (ns.map V.int).length (ns.map V.int).length (some 2) - HT.sIx (ns.map V.int).length 0 (some 1)), rfl, by
      rw [upd_same]
      unfold cutV
      rw [← List.map_drop, ← List.map_take], by
      rw [List.length_take, List.length_drop]
      omega⟩⟩)
  refine j_op op_cat h1 h2 fun H1 v H2 u H3 s s2 s3 ⟨q1, vs, e1, n1, a1, pr⟩ ⟨q2, is, e2, a2, l2⟩ => ?_
  cases pr with
  | cons y pr =>
    cases pr
    obtain ⟨i0, ei⟩ := y
    subst ei
    exact ⟨q1, q2, _, _, e1, e2, s3 _ _ a1, a2, small_line (by simp; omega), fun r nr => ⟨(s2.trans s3).trans (Same.new nr), r, i0 :: is, rfl, upd_same⟩⟩
theorem ex_pen (c : BCx T N sc k X) {i : Int} {pp : Pos} (hk : 2 ≤ k) (hg : glo sc "_law_pen" = true) (hn : JR X e σ B (.d (.int i)))
    (he : starEach [e] X.env = (false, eval e X.env) :: starEach [] X.env := by rfl) (hpl : (backTo pos (starEach [] X.env)).any (·.1) = false := by rfl) : EX X (.Call (.Name "_law_pen" pp) [e] [] pos) σ B fun H1 v H => ∃ p, v = .ref p ∧ H1 p = none ∧ H p = some (penO p) :=
  j_callP c (fn__law_pen h) hk hg (jps_d hn jps_nil he) (fun H1 vs H2 E s s2 hv => by
    cases hv with
    | cons q1 hv =>
      cases hv
      exact ⟨i, by rw [Im.isInt q1], fun p H' s3 n a => ⟨s2.trans s3, p, rfl, s2.free n, a⟩⟩) he hpl
theorem ex_base (c : BCx T N sc k X) {pp : Pos} (hk : 5 ≤ k) (hg : glo sc "_law_base" = true) (ho : JV X o σ B (.ref p)) (hp : B p = some (penO p)) (hn : JR X e σ B (.d (.int 5)))
    (he : starEach [o, e] X.env = (false, eval o X.env) :: starEach [e] X.env := by rfl) (he2 : starEach [e] X.env = (false, eval e X.env) :: starEach [] X.env := by rfl) (hpl : (backTo pos (starEach [e] X.env)).any (·.1) = false := by rfl) : EX X (.Call (.Name "_law_base" pp) [o, e] [] pos) σ B fun _ v H => ∃ m cu odd hs, VBs m cu odd hs ∧ Im H v (eBs m cu odd hs) :=
  j_callP c (fn__law_base h) hk hg (jps_v ho (jps_d hn jps_nil he2) he) (fun H1 vs H2 E s s2 hv => by
    cases hv with
    | cons q1 hv => cases hv with
      | cons q2 hv =>
        cases hv
        exact ⟨p, by rw [q1, Im.isInt q2], s2 _ _ (s _ _ hp), fun v H' m cu odd hs s3 z q => ⟨s2.trans s3, m, cu, odd, hs, z, q⟩⟩) he hpl
theorem ex_claims (c : BCx T N sc k X) {pp lp : Pos} {cu : List Int} (hk : 4 ≤ k) (hg : glo sc "_law_claims" = true) (ho : JV X o σ B (.ref p)) (hp : B p = some (penO p)) (zc : VCu cu) (hn : JR X e σ B (.d (eR cu))) (hl : JR X (.List es lp) σ B (.l [.int 0, .int 1, .int 2]))
    (he : starEach [o, e, .List es lp] X.env = (false, eval o X.env) :: starEach [e, .List es lp] X.env := by rfl) (he2 : starEach [e, .List es lp] X.env = (false, eval e X.env) :: starEach [.List es lp] X.env := by rfl) (he3 : starEach [.List es lp] X.env = (false, eval (.List es lp) X.env) :: starEach [] X.env := by rfl) (hpl : (backTo pos (starEach [e, .List es lp] X.env)).any (·.1) = false := by rfl) : EX X (.Call (.Name "_law_claims" pp) [o, e, .List es lp] [] pos) σ B fun _ v H => ∃ cs, VCs cs ∧ cs.length ≤ 8 ∧ (∀ c ∈ cs, c.1 ≤ 2 ∧ c.2.1 < cu.length) ∧ Im H v (eCs cs) :=
  j_callP c (fn__law_claims h) hk hg (jps_v ho (jps_d hn (jps_l hl jps_nil he3) he2) he) (fun H1 vs H2 E s s2 hv => by
    cases hv with
    | cons q1 hv => cases hv with
      | cons q2 hv => cases hv with
        | cons q3 hv =>
          cases hv
          obtain ⟨q, e3, us, a3, i3⟩ := q3
          have eu := ImA.ints (ns := [0, 1, 2]) i3
          subst eu
          exact ⟨p, q, _, cu, by rw [q1, e3], s2 _ _ (s _ _ hp), q2, zc, .inl (.inl a3), fun v H' cs s3 z1 z2 z3 q => ⟨s2.trans s3, cs, z1, z2, z3, q⟩⟩) he hpl
end
end
end Mead

set_option maxRecDepth 100000
set_option maxHeartbeats 4000000
namespace Mead
open PySem PySem.Spec PyProof.Rows L2
local macro_rules | `(tactic| walk_at "hl") => `(tactic| first | assumption | omega | (simp only [List.length_map]; omega) | exact Nat.le_of_ble_eq_true rfl | (simp only [List.length_map, List.length_mapIdx, List.length_range]; omega) | (simp only [List.length_mapIdx, List.length_map] at *; omega) | fail)
local macro_rules | `(tactic| walk_at "pc") => `(tactic| first | assumption | exact Nat.le_refl _ | omega)
local macro_rules | `(tactic| walk_at "sh") => `(tactic| first | exact sh_int _ | exact sh_bool _ | exact sh_none | exact sh_eP (by decide) _ | exact sh_eR (by decide) _ | exact sh_eL (by decide) _ | exact sh_eM (by decide) _ | exact sh_eC (by decide) _ | exact sh_eCs (by decide) _ | exact (sh_lst (n := 59) (sh_map fun _ => sh_eP (by decide) _)) | exact (sh_lst (n := 59) (sh_map fun _ => sh_eC (by decide) _)) | exact (sh_lst (n := 59) (sh_map fun _ => sh_eL (by decide) _)) | exact (sh_lst (n := 59) (sh_map fun _ => sh_int _)) | exact (sh_lst (n := 59) sh_nil) | exact (sh_tup (n := 59) sh_nil) | exact sh_tup (n := 59) (sh_cons (sh_int _) (sh_cons (sh_int _) sh_nil)) | exact sh_lst (n := 59) (sh_map fun _ => sh_tup (n := 58) (sh_cons (sh_int _) (sh_cons (sh_int _) sh_nil))) | fail)
local macro_rules | `(tactic| walk_at "al") => `(tactic| first | rfl | simp [PySem.W.alike, PySem.W.alikeAll, eP] | fail)
local macro_rules | `(tactic| walk_at "nn") => `(tactic| intro z; cases z)
open L2H LamX
theorem js_cont {X : Cx} {σ : L2.St} {H : Hp} {D : Ends} {pos : Pos} (h : D.ct σ H) : jS X (.Continue pos) D σ H := js_of ps_continue h
theorem ex_run {X : Cx} {e : Expr} {σ : L2.St} {B H : Hp} {P : Hp → V → Hp → Prop} (h : EX X e σ B P) (hB : Same B H) : jE X e σ H fun v H1 => Same H H1 ∧ P H v H1 := h H hB
abbrev VsB (m : List (List Int)) (cu : List Int) (odd : Int) (hs : List Pl) : List PyData := [eM m, eR cu, .int odd, eHs hs]
/-- the book behind i claims -/
def BkI (C : Addr) (H : Hp) (p : Addr) (m : List (List Int)) (cu : List Int) (odd : Int) (hs : List Pl) (cs : List Cl) (i : Nat) : Prop := ∃ past : List Stn, past.length = i ∧ BookAt C H p ⟨m, cu, odd, hs, (cs.take i, none), past⟩
theorem BookAt.pen {C p pp : Addr} {bk : Bk} {H : Hp} (hb : BookAt C H p bk) (hp : H pp = some (penO pp)) : pp ≠ p := fun e => by
  obtain ⟨dx, fs, e2⟩ := hb.ins
  rw [e, e2] at hp
  unfold penO at hp
  cases hp
theorem pen_up {C p pp : Addr} {bk : Bk} {H H' : Hp} (hb : BookAt C H p bk) (hp : H pp = some (penO pp)) (s : SbT p H H') : H' pp = some (penO pp) := s pp _ (hb.pen hp) hp (fun ps z => by unfold penO at z; cases z)
theorem take_vcs {cs : List Cl} (z : VCs cs) {i : Nat} (h : 1 ≤ (cs.take i).length) : VCs (cs.take i) := ⟨⟨h, Nat.le_trans (List.length_take_le' ..) z.len.2⟩, fun c hc => z.each c (List.mem_of_mem_take hc), z.up.sublist (List.take_sublist _ _)⟩
theorem take_keys {cs : List Cl} (z : VCs cs) {i : Nat} {cl : Cl} (h : cs[i]? = some cl) : keyC cl ∉ (cs.take i).map keyC := by
  have q := nodup_take (i := i) (a := keyC cl) (key_nodup z.up) (by rw [List.getElem?_map, h]; rfl)
  rwa [← List.map_take] at q
/-- all but lists stays -/
def KL (H H' : Hp) : Prop := ∀ a o, (∀ l, o ≠ .lst l) → H a = some o → H' a = some o
theorem KL.tk {H H' : Hp} (k : KL H H') : TK H H' := fun a xs e => k a _ (fun l z => by cases z) e
theorem KL.book {H H' : Hp} {C p : Addr} {bk : Bk} (k : KL H H') (h : BookAt C H p bk) : BookAt C H' p bk := by
  obtain ⟨dx, vm, vc, vo, vh, vs, vp, f⟩ := h
  exact ⟨dx, vm, vc, vo, vh, vs, vp, k _ _ (fun l z => by cases z) f.at_, f.m.tk k.tk, f.c.tk k.tk, f.o.tk k.tk, f.h.tk k.tk, f.s.tk k.tk, f.p.tk k.tk⟩
theorem KL.tabs {H H' : Hp} {Tb : List (Addr × Str)} (k : KL H H') (t : Tabs Tb H) : Tabs Tb H' := fun q hq => by
  obtain ⟨ps, h1, h2, h3⟩ := t q hq
  refine ⟨ps, k _ _ (fun l z => by cases z) h1, h2, fun pos cv hc => ?_⟩
  obtain ⟨c, e1, e2⟩ := h3 pos cv hc
  exact ⟨c, e1, k _ _ (fun l z => by unfold CodeO at z; cases z) e2⟩
theorem kl_upd {H : Hp} {a : Addr} {acc : List V} (h : H a = none ∨ ∃ l, H a = some (.lst l)) : KL H (upd H a (.lst acc)) := fun b o ho e => by
  rw [upd_ne fun z => ?_]
  · exact e
  · rcases h with h | ⟨l, h⟩
    · rw [z, h] at e; cases e
    · rw [z, h] at e
      cases e
      exact ho l rfl
section
variable {T : Tx} (h : Top T) {C : Addr} (hM : BM T C) {CM C3 fI : Addr} (hW : XWs T CM C3 fI)
include h hM hW
/-- what each late deed needs -/
theorem deed_lay {m : List (List Int)} {cu : List Int} {odd : Int} {hs : List Pl} {cs : List Cl} {t : List Int} {past : List Stn} {cl : Cl} (zpl : VPl ⟨m, cu, cs, odd⟩) (zt : t.length = (cellsIn m).length) (hp : past.length ≤ 1000) (z8 : cs.length ≤ 8) (z2 : ∀ c ∈ cs, c.1 ≤ 2) (c1 : cl.1 = 3) (c2 : 0 ≤ cl.2.1 ∧ cl.2.1 < cu.length) (c3 : 1 ≤ cl.2.2 ∧ cl.2.2 ≤ 5) :
    ∃ o bk', deedR ⟨m, cu, odd, hs, (cs, some t), past⟩ (.lay cl) o bk' := by
  have zcu := zpl.custom.1
  have zcu' : cu.length ≤ 6 := zcu.2
  have zc : VC cl := ⟨by omega, ⟨c2.1, by omega⟩, c3.1, by omega⟩
  have hk : keyC cl ∉ cs.map keyC := fun hm => by
    obtain ⟨c, hc, e⟩ := List.mem_map.mp hm
    have e : (c.1, c.2.1) = (cl.1, cl.2.1) := e
    obtain ⟨e1, _⟩ := Prod.mk.inj e
    have := z2 c hc
    omega
  have zl : VCs (srt eC (cs ++ [cl])) := laid_ok (.inr zpl.claims) zc hk (by omega)
  refine ⟨_, _, cl, _, rfl, rfl, zpl.mead, fun u e => ?_, hp, zc, .inr zpl.claims, hk, by show cs.length < 12; omega, ⟨zpl.mead, zpl.custom, zl, fun c hc => ?_, zpl.odd⟩, rfl, rfl⟩
  · cases e
    exact zt
  · rcases List.mem_append.mp (srt_mem.mp hc) with q | q
    · exact zpl.stand c q
    · have : c = cl := by simpa using q
      rw [this]
      exact c2.2
theorem deed_deny {m : List (List Int)} {cu : List Int} {odd : Int} {hs : List Pl} {cs : List Cl} {t : List Int} {past : List Stn} {cl : Cl} (zpl : VPl ⟨m, cu, cs, odd⟩) (zt : t.length = (cellsIn m).length) (hp : past.length ≤ 1000) (hm : cl ∈ cs) : ∃ o bk', deedR ⟨m, cu, odd, hs, (cs, some t), past⟩ (.deny cl) o bk' :=
  ⟨_, _, cl, _, rfl, rfl, zpl.mead, fun u e => (by cases e; exact zt), hp, zpl.claims.each cl hm, zpl, hm, rfl, rfl⟩
theorem deed_merge {m : List (List Int)} {cu : List Int} {odd : Int} {hs : List Pl} {cs : List Cl} {t : List Int} {past : List Stn} {c1 c2 : Cl} (zpl : VPl ⟨m, cu, cs, odd⟩) (zt : t.length = (cellsIn m).length) (hp : past.length ≤ 1000) (h1 : c1 ∈ cs) (h2 : c2 ∈ cs) : ∃ o bk', deedR ⟨m, cu, odd, hs, (cs, some t), past⟩ (.merge c1.1 c2.1) o bk' :=
  ⟨_, _, c1.1, c2.1, rfl, zpl.mead, fun u e => (by cases e; exact zt), hp, zpl, (mem_holdersIn zpl.claims.each _).mpr (List.mem_map.mpr ⟨c1, h1, rfl⟩), (mem_holdersIn zpl.claims.each _).mpr (List.mem_map.mpr ⟨c2, h2, rfl⟩), rfl⟩
def sp_law (T : Tx) (Tb : List (Addr × Str)) : Sp := fun vs H Q _ => ∃ (a : Addr) (ns : List Int), vs = [.ref a] ∧ SqL T.K H a (ns.map V.int) ∧ ns.length ≤ 63 ∧ Tabs Tb H ∧ ∀ H', Q (.bl true) H'
theorem law_body {Tb : List (Addr × Str)} {cd P : Addr} (hL : Fn T "_law_late" 14 (sp_late Tb C)) (hTb : Tbs T Tb "law" cd P) {X : Cx} (c : LCx T ["_law_script", "_law_cell_here", "_law_pen_here", "_law_base_here", "_law_book", "_law_claims_here", "_law_claim", "_law_plea", "_law_first", "_law_told", "_law_late_here", "_law_deeds", "_law_deed"] (defScope s_law) 15 "law" cd X) {vs : List V} {H : Hp} {Q : VK} {E : XK} (hs : sp_law T Tb vs H Q E) :
    jSs X (defBody s_law) { nx := fun _ H' => Q .non H', rt := Q } (start ["_law_script", "_law_cell_here", "_law_pen_here", "_law_base_here", "_law_book", "_law_claims_here", "_law_claim", "_law_plea", "_law_first", "_law_told", "_law_late_here", "_law_deeds", "_law_deed"] vs) H := by
  obtain ⟨a, ns, e, hq, hn, hT, hQ⟩ := hs
  subst e
  refine jss_nox ?_
  have c := c.nox
  have d := c.toDCx
  have b := c.toBCx
  have hZ := hM.toBC
  refine jss_cons (js_forV b (je_mono (ex_cells h b (by decide) (by decide +kernel) (i := 0) rfl (by decide +kernel) rfl hq hn H rfl1) fun v H1 ⟨s1, r, is, e, hr⟩ => ⟨r, is.map V.int, e, hr, fun i σ' H' => H' r = some (.lst (is.map V.int)) ∧ Tabs Tb H' ∧ ∃ w1 w2 w3 w4 w5 w6 w7 w8 w9 w10 w11 w12, σ' = [some (.ref a), w1, w2, w3, w4, w5, w6, w7, w8, w9, w10, w11, w12], ⟨hr, Tabs.same hT s1, _, _, _, _, _, _, _, _, _, _, _, _, rfl⟩, fun i σ' H' z => z.1, ?_, ?_⟩))
  · rintro i u σ' H' hu ⟨hr, hT, w1, w2, w3, w4, w5, w6, w7, w8, w9, w10, w11, w12, rfl⟩
    obtain ⟨n, hin, rfl⟩ := of_map_at hu
    refine jg_name d (i := 1) rfl (by decide +kernel) ?_
    have i1 : ∀ {H : Hp}, Im H (.int n) (.int n) := .int n
    refine jss_cons (js_set d (i := 2) rfl (by decide +kernel) (ex_pen h b (by decide) (by decide +kernel) (jr_var (r := .d _) (i := 1) b rfl (by decide +kernel) rfl i1)) rfl1 fun v H1 s1 ⟨pp, e, np, hpp⟩ => ?_)
    subst e
    refine jss_cons (js_set d (i := 3) rfl (by decide +kernel) (ex_base h b (by decide) (by decide +kernel) (jv_var (i := 2) b rfl (by decide +kernel) rfl) hpp (JA.toR (ja_int (i := 5)))) rfl1 fun v H2 s2 ⟨m, cu, odd0, hs, zb, q2⟩ => ?_)
    have hpp2 := s2 _ _ hpp
    have q2 : Im H2 v (.tuple [eM m, eR cu, .int odd0, eHs hs]) := q2
    have zo0 := zb.vodd
    refine jss_cons (js_set d (i := 3) (P := fun _ v H => ∃ odd, (0 ≤ odd ∧ odd ≤ 999) ∧ Im H v (.tuple [eM m, eR cu, .int odd, eHs hs])) rfl (by decide +kernel) (j_op op_catA (JA.toR (ja_slT (jr_var (r := .d _) (i := 3) b rfl (by decide +kernel) rfl q2) jo_none (jo_some (ja_int (i := 2)))))
      (ex_tupP (Ps := [fun v _ => ∃ i : Int, v = .int i ∧ (0 ≤ i ∧ i ≤ 999), fun v H => Im H v (eHs hs)]) (jps_cons (fun _ _ _ _ z => z) (ei_pick h (S := fun i => 0 ≤ i ∧ i ≤ 999) b (by decide) (by decide +kernel) (jv_var (i := 2) b rfl (by decide +kernel) rfl) hpp2 (jis_cons (ei_of ja_int (by decide)) (jis_cons (ei_of ja_int (by decide)) (jis_cons (ei_of (JA.toR (ja_ixT (jr_var (r := .d _) (i := 3) b rfl (by decide +kernel) rfl q2) (ja_int (i := 2)) rfl)) zo0) jis_nil)))) (jps_d (JA.toR (ja_ixT (jr_var (r := .d _) (i := 3) b rfl (by decide +kernel) rfl q2) (ja_int (i := 3)) rfl)) jps_nil)) ?_) ?_) rfl1 fun v3 H3 s3 ⟨odd, zo, q3⟩ => ?_)
    · intro P hP
      simp only [List.mem_cons, List.not_mem_nil, or_false] at hP
      rcases hP with rfl | rfl
      · exact fun _ _ _ _ z => z
      · exact fun _ _ _ s z => z.up s
    · intro K1 x1 K2 x2 K3 _ t2 t3 p2 p3
      have p2 : Im K2 x1 (.tuple [eM m, eR cu]) := p2
      obtain ⟨p1, us, rfl, h1, h2⟩ := Im.isTup (Im.up p2 t3)
      obtain ⟨p2', ws, rfl, h3, h4⟩ := p3
      obtain ⟨y1, y2, rfl, ⟨od, rfl, o0⟩, y4⟩ := paired2 h4
      refine ⟨p1, p2', us, _, rfl, rfl, SqT.of h1, SqT.of h3, small_line (by rw [h2.len]; exact Nat.le_of_ble_eq_true rfl), fun z => ?_, fun _ z => ?_, fun _ _ r hr => ⟨(t2.trans t3).trans (Same.new hr), od, o0, .tup upd_same ?_⟩⟩
      · rw [z] at h2
        cases h2
      · cases z
      · exact ((h2.up (Same.new hr)).app (.cons (.int od) (.cons (y4.up (Same.new hr)) .nil)))
    have hpp3 := s3 _ _ hpp2
    have zm := zb.vm
    have zc := zb.vcu
    have zh := zb.vhs
    refine jss_cons (js_tup2R b (jx_book h hM (B := H3) (RCx.of b) (by decide) (by decide +kernel) (jrs_cons (ja_ixT (jr_var (r := .d _) (i := 3) b rfl (by decide +kernel) rfl q3) (ja_int (i := 0)) rfl) (jrs_cons (ja_ixT (jr_var (r := .d _) (i := 3) b rfl (by decide +kernel) rfl q3) (ja_int (i := 1)) rfl) (jrs_cons (ja_ixT (jr_var (r := .d _) (i := 3) b rfl (by decide +kernel) rfl q3) (ja_int (i := 2)) rfl) (jrs_cons (ja_ixT (jr_var (r := .d _) (i := 3) b rfl (by decide +kernel) rfl q3) (ja_int (i := 3)) rfl) jrs_nil)))) rfl1 zm zc zo zh fun p H5 np5 s5 hb5 => ?_))
    have pp5 := s5 _ _ hpp3
    have q35 := q3.up s5
    refine je_mono (ex_run (ex_claims h b (by decide) (by decide +kernel) (jv_var (i := 2) b rfl (by decide +kernel) rfl) pp5 zc (JA.toR (ja_ixT (jr_var (r := .d _) (i := 3) b rfl (by decide +kernel) rfl q35) (ja_int (i := 1)) rfl)) (JA.toR (ja_lst (ds := [.int 0, .int 1, .int 2]) (jds_cons ja_int (jds_cons ja_int (jds_cons ja_int jds_nil)))))) rfl1) fun v5 H6 ⟨s6, cs, zs, z8, z2, q5⟩ => fun ta tna => jgs_cons (jg_name d (i := 4) rfl (by decide +kernel) (jgs_cons (jg_name d (i := 5) rfl (by decide +kernel) (jgs_nil ?_))))
    have s7 := Same.new (o := HO.tup [.ref p, v5]) tna
    generalize hH7 : upd H6 ta (.tup [.ref p, v5]) = H7 at s7
    have s67 := s6.trans s7
    have hb7 := hb5.up s67
    have pp7 := s67 _ _ pp5
    have q37 := q35.up s67
    have q57 : Im H7 v5 (.tuple (cs.map eC)) := q5.up s7
    have S17 : Same H' H7 := ((s1.trans s2).trans s3).trans (s5.trans s67)
    have T7 := Tabs.same hT S17
    have hr7 := S17 _ _ hr
    have np' : H' p = none := ((s1.trans s2).trans s3).free np5
    have nrp : r ≠ p := fun z => by rw [z, np'] at hr; cases hr
    have zl := zs.len
    have zst : ∀ (pl : List Cl), (∀ c ∈ pl, c ∈ cs) → VCs pl → VPl ⟨m, cu, pl, odd⟩ := fun pl hp zp => ⟨zm, zc, zp, fun c hc => (z2 c (hp c hc)).2, zo⟩
    -- the claims are laid
    obtain ⟨qa, va, ea, qa1, qa2⟩ := Im.isTup q57
    refine jss_cons (js_forT b (je_mono (jv_var (v := v5) (i := 5) b rfl (by decide +kernel) rfl H7 rfl1) fun v H8 ⟨s8, e⟩ => ⟨qa, va, by rw [e, ea], s8 _ _ qa1, fun i σ' H' => SbT p H7 H' ∧ Tabs Tb H' ∧ BkI C H' p m cu odd hs cs i ∧ ∃ w6, σ' = [some (.ref a), some (.int n), some (.ref pp), some v3, some (.ref p), some v5, w6, w7, w8, w9, w10, w11, w12], ?_, fun i σ' H' z => (hb7.tkT z.1) _ _ qa1, ?_, ?_⟩))
    · exact ⟨.ofS s8, Tabs.same T7 s8, ⟨[], rfl, hb7.up s8⟩, _, rfl⟩
    · rintro i u σ' H9 hu ⟨sb, T9, ⟨past, lp, hbk⟩, w6', rfl⟩
      obtain ⟨dq, hdq, iu⟩ := qa2.getV hu
      obtain ⟨cl, hcl, rfl⟩ := of_map_at hdq
      have hin := (List.getElem?_eq_some_iff.mp hcl).1
      have hmem : cl ∈ cs := List.mem_of_getElem? hcl
      have iu9 := iu.tk (hb7.tkT sb)
      refine jg_name d (i := 6) rfl (by decide +kernel) ?_
      have et : cs.take (i + 1) = cs.take i ++ [cl] := take_at hcl
      have l1 : (cs.take (i + 1)).length = i + 1 := by rw [List.length_take]; omega
      have ecs : cs.take (i + 1) = srt eC (cs.take i ++ [cl]) := by
        rw [← et]
        exact (srt_same (zs.up.sublist (List.take_sublist _ _))).symm
      have zt : VCs (cs.take (i + 1)) := take_vcs zs (by omega)
      have z0 : cs.take i = [] ∨ VCs (cs.take i) := by
        by_cases hi0 : i = 0
        · exact .inl (by rw [hi0]; rfl)
        · exact .inr (take_vcs zs (by rw [List.length_take]; omega))
      have zN : LenO m none := fun _ z => by cases z
      refine jss_one (js_ifNe (n := 0) (jx_mU (B := H9) (RCx.of b) hZ (mt_lay h hM) (by decide) (jv_var (i := 4) b rfl (by decide +kernel) rfl) (jrs_cons (jr_var (r := .d _) (i := 6) b rfl (by decide +kernel) rfl iu9) jrs_nil) rfl1 hbk ⟨cl, cs.take (i + 1), rfl, ecs, zm, zN, by show past.length ≤ 1000; omega, zs.each cl hmem, z0, take_keys zs hcl, by show (cs.take i).length < 12; rw [List.length_take]; omega, zst _ (fun c hc => List.mem_of_mem_take hc) zt, rfl, rfl⟩ (fun r er v' H10 sb2 hb2 q => ?_) (fun x ex => by cases ex)))
      cases er
      refine ⟨Im.isInt (show Im H10 v' (.int 0) from q), je_mono (ex_run (B := H10) (ja_int (i := 0)) rfl1) fun u2 H11 ⟨s11, q11⟩ => ⟨Im.isInt q11, (sb.trans (.of sb2)).trans (.ofS s11), Tabs.same (Tabs.sbB T9 sb2 hbk) s11, ⟨past ++ [(cs.take i, none)], by simp [lp], hb2.up s11⟩, _, rfl⟩⟩
    rintro σ' H9 ⟨sb, T9, ⟨past, lp, hbk⟩, w6', rfl⟩
    have lva : va.length = cs.length := by rw [qa2.len, List.length_map]
    rw [lva, List.take_length] at hbk
    rw [lva] at lp
    have tk9 := hb7.tkT sb
    have q39 := q37.tk tk9
    have q59 := q57.tk tk9
    have pp9 := pen_up hb7 pp7 sb
    have zpl : VPl ⟨m, cu, cs, odd⟩ := zst cs (fun _ z => z) zs
    have zN : LenO m none := fun _ z => by cases z
    have fin : ∀ {H'' : Hp}, SbT p H9 H'' → H'' r = some (.lst (is.map V.int)) := fun {H''} s => (sb.trans s) r _ nrp hr7 (fun ps z => by cases z)
    refine jss_cons (js_set d (i := 7) rfl (by decide +kernel) (ja_tup (jds_cons (ja_ixT (jr_var (r := .d _) (i := 3) b rfl (by decide +kernel) rfl q39) (ja_int (i := 0)) rfl) (jds_cons (ja_ixT (jr_var (r := .d _) (i := 3) b rfl (by decide +kernel) rfl q39) (ja_int (i := 1)) rfl) (jds_cons (jr_var (r := .d _) (i := 5) b rfl (by decide +kernel) rfl q59) (jds_cons (ja_ixT (jr_var (r := .d _) (i := 3) b rfl (by decide +kernel) rfl q39) (ja_int (i := 2)) rfl) jds_nil))))) rfl1 fun v7 H10 s10 q7 => ?_)
    have q7 : Im H10 v7 (ePl ⟨m, cu, cs, odd⟩) := q7
    refine jss_cons (js_set d (i := 8) rfl (by decide +kernel) (ja_call b (fn_first_parting h) (by decide) (by decide +kernel) (jrs_cons (jr_var (r := .d _) (i := 7) b rfl (by decide +kernel) rfl q7) jrs_nil) ⟨_, rfl, zpl, rfl⟩) rfl1 fun v8 H11 s11 q8 => ?_)
    have q8 : Im H11 v8 (optR (partingsIn ⟨m, cu, cs, odd⟩).head?) := q8
    have s911 := s10.trans s11
    have hb11 := hbk.up s911
    have T11 := Tabs.same T9 s911
    have S11 : SbT p H9 H11 := .ofS s911
    -- parted
    have hpo : ∃ o bk', (o, bk') = partOut ⟨m, cu, odd, hs, (cs, none), past⟩ ∧ ((∃ t, (partingsIn ⟨m, cu, cs, odd⟩).head? = some t ∧ o = .ret (.d (.int (manyOf ⟨m, cu, odd, hs, (cs, none), past⟩ (some t)))) ∧ bk' = turned ⟨m, cu, odd, hs, (cs, none), past⟩ cs (some t)) ∨ ((partingsIn ⟨m, cu, cs, odd⟩).head? = none ∧ o = .exc .noParting ∧ bk' = ⟨m, cu, odd, hs, (cs, none), past⟩)) := by
      cases hh : (partingsIn ⟨m, cu, cs, odd⟩).head? with
      | none =>
        refine ⟨.exc .noParting, _, ?_, .inr ⟨rfl, rfl, rfl⟩⟩
        show _ = (match (partingsIn ⟨m, cu, cs, odd⟩).head? with
          | none => (Out.exc .noParting, (⟨m, cu, odd, hs, (cs, none), past⟩ : Bk))
          | some t => (.ret (.d (.int (manyOf ⟨m, cu, odd, hs, (cs, none), past⟩ (some t)))), turned ⟨m, cu, odd, hs, (cs, none), past⟩ cs (some t)))
        rw [hh]
      | some t =>
        refine ⟨_, _, ?_, .inl ⟨t, rfl, rfl, rfl⟩⟩
        show _ = (match (partingsIn ⟨m, cu, cs, odd⟩).head? with
          | none => (Out.exc .noParting, (⟨m, cu, odd, hs, (cs, none), past⟩ : Bk))
          | some t => (.ret (.d (.int (manyOf ⟨m, cu, odd, hs, (cs, none), past⟩ (some t)))), turned ⟨m, cu, odd, hs, (cs, none), past⟩ cs (some t)))
        rw [hh]
    obtain ⟨o, bk', epo, hcase⟩ := hpo
    refine jss_cons (js_setRaw d (i := 9) rfl (by decide +kernel) (je_mono (jx_came (j := 10) (Tb := Tb) (t := fun E σ H Q => ∃ p bk, σ[4]? = some (some (.ref p)) ∧ BookAt C H p bk ∧ ∀ H1, Same H H1 → spU T C R_part [.ref p] H1 Q E)
      (Q := fun v H' => SbT p H11 H' ∧ Tabs Tb H' ∧ BookAt C H' p bk' ∧ ((o = .exc .noParting ∧ Im H' v (noD .noParting)) ∨ (∃ w, o = .ret (.d w) ∧ Im H' v (.tuple [.str "told", w])))) h hW c hTb (by decide) (by decide) (by decide +kernel) (by decide +kernel) rfl (fun _ _ _ _ _ => rfl)
      (fun Y E cY σ H Q ⟨p, bk, h0, hb, hs⟩ => jx_meth0 cY hZ (mt_part h hM hW.np) (by decide) (jv_var (i := 4) cY.b rfl (by decide +kernel) h0) rfl1 hb (by decide) (fun _ _ _ _ z => z) hs) T11 fun H12 e12 T12 => ?_) fun v9 H15 hc => ?_))
    · refine ⟨p, _, rfl, hb11.extN e12, fun H13 s13 => ?_⟩
      have hp13 := (hb11.extN e12).up s13
      have T13 := Tabs.same T12 s13
      have S13 : SbT p H11 H13 := (SbT.ofN e12).trans (.ofS s13)
      refine ⟨p, [], [], _, o, bk', rfl, hp13, .nil, ⟨rfl, zpl, zN, by show past.length ≤ 1000; omega, epo⟩, ?_⟩
      rcases hcase with ⟨t, hh, eo, eb⟩ | ⟨hh, eo, eb⟩
      · subst eo
        refine fun v H' sb2 hb2 q => ⟨by show (2 : Nat) ≤ sizeLine; decide, fun qa na => ?_⟩
        have sn := Same.new (o := HO.tup [.str "told", v]) na
        have q : Im H' v (.int (manyOf ⟨m, cu, odd, hs, (cs, none), past⟩ (some t))) := q
        exact ⟨(S13.trans (.of sb2)).trans (.ofS sn), Tabs.same (Tabs.sbB T13 sb2 hp13) sn, hb2.up sn, .inr ⟨_, rfl, .tup upd_same (.cons (.str _) (.cons (q.up sn) .nil))⟩⟩
      · subst eo
        intro cls dd' H' sb2 hb2 hx
        exact ⟨.noParting, hx, fun v H'' s q => ⟨(S13.trans (.of sb2)).trans (.ofS s), Tabs.same (Tabs.sbB T13 sb2 hp13) s, hb2.up s, .inl ⟨rfl, q⟩⟩⟩
    obtain ⟨S15, T15, hb15, hc⟩ := hc
    have tk15 := hb11.tkT S15
    have q815 := q8.tk tk15
    rcases hcase with ⟨t, hh, eo, eb⟩ | ⟨hh, eo, eb⟩
    · subst eo; subst eb
      rw [hh] at q815
      have q815 : Im H15 v8 (eR t) := q815
      obtain ⟨a8, x8, e8, _, _⟩ := Im.isTup (show Im H15 v8 (.tuple (t.map .int)) from q815)
      rcases hc with ⟨ew, _⟩ | ⟨w, ew, q9⟩
      · cases ew
      cases ew
      have htm : t ∈ partingsIn ⟨m, cu, cs, odd⟩ := List.mem_of_head? hh
      have hpt := partingsIn_ok zpl t htm
      have htl : t.length = (cellsIn m).length := parts_len zpl htm
      have hlen : manyOf ⟨m, cu, odd, hs, (cs, none), past⟩ (some t) = ((lawFences m t).map eF).length := by
        rw [List.length_map]
        exact (law_fences_len zm).symm
      rw [hlen] at q9
      have tk1115 : TK H9 H15 := (hbk.tkT (S11.trans S15))
      have q315 := q39.tk tk1115
      have q515 := q59.tk tk1115
      have pp15 := pen_up hbk pp9 (S11.trans S15)
      have eA : PyData.eqv (optR (some t)) (eR t) = true := by
        show PyData.eqv (eR t) (eR t) = true
        rw [eqv_eR]
        simp
      have eB : PyData.eqv (.tuple [.str "told", .int ((((lawFences m t).map eF).length : Nat) : Int)]) (.tuple [.str "told", .int ((((lawFences m t).map eF).length : Nat) : Int)]) = true := by
        rw [eqv_tup]
        have es : PyData.eqv (.str "told") (.str "told") = true := by decide +kernel
        simp [PyData.eqvAll, eqv_int, es]
      refine jss_cons (js_ifF0 (jt_cmp (cm_isV (v := v8)) (jv_var (v := v8) (i := 8) b rfl (by decide +kernel) rfl) ja_non) (by rw [e8]; rfl) rfl1 fun H16 s16 => jss_cons (js_ifF0 (i := (!PyData.eqv (optR (some t)) (eR t) || !PyData.eqv (.tuple [.str "told", .int ((((lawFences m t).map eF).length : Nat) : Int)]) (.tuple [.str "told", .int ((((lawFences m t).map eF).length : Nat) : Int)]))) (JW.t (jw_or (jt_ne (r := .d _) (q := .d _) b (ja_mP0 b hZ (mt_parting_now h hM) (by decide) (jv_var (i := 4) b rfl (by decide +kernel) rfl) hb15 ⟨rfl, rfl⟩) (jr_var (r := .d _) (i := 8) b rfl (by decide +kernel) rfl q815) (by first | exact (sh_optR _).mono (by decide) | exact sh_eR (by decide) _ | exact sh_tup (n := 59) (sh_cons (sh_str (by decide +kernel)) (sh_cons (sh_int _) sh_nil))) (by first | exact (sh_optR _).mono (by decide) | exact sh_eR (by decide) _ | exact sh_tup (n := 59) (sh_cons (sh_str (by decide +kernel)) (sh_cons (sh_int _) sh_nil)))) fun hb1 => jw_or1 (jt_ne (r := .d _) (q := .d _) b (jr_var (r := .d _) (i := 9) b rfl (by decide +kernel) rfl q9) (ja_tup (jds_cons ja_str (jds_cons (ja_lenL b (by decide +kernel) h.f_len (JA.toR (ja_call b (fn__law_fences h) (by decide) (by decide +kernel) (jrs_cons (ja_ixT (jr_var (r := .d _) (i := 3) b rfl (by decide +kernel) rfl q315) (ja_int (i := 0)) rfl) (jrs_cons (jr_var (r := .d _) (i := 8) b rfl (by decide +kernel) rfl q815) jrs_nil)) ⟨_, _, rfl, zm, by rw [lawCells_eq zm]; exact htl.symm, by rw [htl]; exact zm.cells.2, rfl⟩))) jds_nil))) (by first | exact (sh_optR _).mono (by decide) | exact sh_eR (by decide) _ | exact sh_tup (n := 59) (sh_cons (sh_str (by decide +kernel)) (sh_cons (sh_int _) sh_nil))) (by first | exact (sh_optR _).mono (by decide) | exact sh_eR (by decide) _ | exact sh_tup (n := 59) (sh_cons (sh_str (by decide +kernel)) (sh_cons (sh_int _) sh_nil)))))) (by rw [eA, eB]; rfl) s16 fun H17 s17 => ?_))
      have s1517 := s16.trans s17
      have hb17 := hb15.up s1517
      have pp17 := s1517 _ _ pp15
      have q317 := q315.up s1517
      have q517 := q515.up s1517
      have T17 := Tabs.same T15 s1517
      have zcu := zc.1
      refine jss_cons (js_set d (i := 10) (P := fun _ v H => ∃ cl : Cl, Im H v (eC cl) ∧ cl.1 = 3 ∧ (0 ≤ cl.2.1 ∧ cl.2.1 < cu.length) ∧ (1 ≤ cl.2.2 ∧ cl.2.2 ≤ 5)) rfl (by decide +kernel) (EX.imp (ex_tupP (Ps := [fun v H => Im H v (.int 3), fun v _ => ∃ i : Int, v = .int i ∧ (0 ≤ i ∧ i < ((cu.map PyData.int).length : Nat)), fun v _ => ∃ i : Int, v = .int i ∧ (1 ≤ i ∧ i ≤ 5)])
        (jps_d ja_int (jps_cons (fun _ _ _ _ z => z) (ei_draw h b (by decide) (by decide +kernel) (jv_var (i := 2) b rfl (by decide +kernel) rfl) pp17 (ja_lenT b (by decide +kernel) h.f_len (ja_ixT (jr_var (r := .d _) (i := 3) b rfl (by decide +kernel) rfl q317) (ja_int (i := 1)) rfl)) (by rw [List.length_map]; omega) (by rw [List.length_map]; omega)) (jps_cons (fun _ _ _ _ z => z) (ei_add (ei_of (S := fun n => n = 1) ja_int rfl) (ei_draw h b (by decide) (by decide +kernel) (jv_var (i := 2) b rfl (by decide +kernel) rfl) pp17 ja_int (by decide) (by decide)) (fun i j e q => by omega)) jps_nil))) ?_) ?_) rfl1 fun v10 H18 s18 ⟨cl, q10, c1, c2, c3⟩ => ?_)
      · intro P hP
        simp only [List.mem_cons, List.not_mem_nil, or_false] at hP
        rcases hP with rfl | rfl | rfl
        · exact fun _ _ _ s z => z.up s
        · exact fun _ _ _ _ z => z
        · exact fun _ _ _ _ z => z
      · rintro K1 x K2 ⟨qx, ys, rfl, hqx, hy⟩
        obtain ⟨y1, y2, y3, rfl, e1, ⟨i2, rfl, r2⟩, ⟨i3, rfl, r3⟩⟩ := paired3 hy
        rw [List.length_map] at r2
        exact ⟨(3, i2, i3), .tup hqx (.cons e1 (.cons (.int i2) (.cons (.int i3) .nil))), rfl, r2, r3⟩
      have q518 := q517.up s18
      have pp18 := s18 _ _ pp17
      have q10 : Im H18 v10 (.tuple [.int cl.1, .int cl.2.1, .int cl.2.2]) := q10
      have ncs : cs ≠ [] := fun z => by rw [z] at zl; simp at zl
      have hm0 : cs.getD (0 : Int).toNat default ∈ cs := by
        have : 0 < cs.length := by omega
        rw [List.getD_eq_getElem?_getD, show (0 : Int).toNat = 0 from rfl, List.getElem?_eq_getElem this]
        exact List.getElem_mem this
      have hm1 : cs.getLastD default ∈ cs := by
        rw [List.getLastD_eq_getLast?, List.getLast?_eq_some_getLast ncs]
        exact List.getLast_mem ncs
      refine jss_cons (js_set d (i := 11) rfl (by decide +kernel) (ex_lstP (Ps := [fun v H => Im H v (dD (.lay cl)), fun v H => ∃ c ∈ cs, Im H v (dD (.deny c)), fun v H => Im H v (dD (.merge (cs.getD (0 : Int).toNat default).1 (cs.getLastD default).1))])
        (jps_d (ja_tup (jds_cons ja_str (jds_cons (jr_var (r := .d _) (i := 10) b rfl (by decide +kernel) rfl q10) jds_nil))) (jps_cons (fun _ _ _ s ⟨c, hc, z⟩ => ⟨c, hc, z.up s⟩) (EX.imp (ex_tupP (Ps := [fun v H => Im H v (.str "deny"), fun v H => ∃ d ∈ cs.map eC, Im H v d]) (jps_d ja_str (jps_cons (fun _ _ _ s ⟨c, hc, z⟩ => ⟨c, hc, z.up s⟩) (ex_pickD h b (by decide) (by decide +kernel) (jv_var (i := 2) b rfl (by decide +kernel) rfl) pp18 (jr_var (r := .d _) (i := 5) b rfl (by decide +kernel) rfl q518) (by rw [List.length_map]; omega) (by rw [List.length_map]; omega)) jps_nil)) ?_) ?_)
          (jps_d (ja_tup (jds_cons ja_str (jds_cons (ja_ixT (ja_ixTm (f := eC) default (jr_var (r := .d _) (i := 5) b rfl (by decide +kernel) rfl q518) (ja_int (i := 0)) (by first | omega | exact ncs)) (ja_int (i := 0)) rfl) (jds_cons (ja_ixT (ja_ixTlast (f := eC) default (jr_var (r := .d _) (i := 5) b rfl (by decide +kernel) rfl q518) (ja_neg (ja_int (i := 1))) rfl (by first | omega | exact ncs)) (ja_int (i := 0)) rfl) jds_nil)))) jps_nil))) ?_) rfl1 fun v11 H19 s19 ⟨qd, vds, e11, nq, hqd, hpr⟩ => ?_)
      · intro P hP
        simp only [List.mem_cons, List.not_mem_nil, or_false] at hP
        rcases hP with rfl | rfl
        · exact fun _ _ _ s z => z.up s
        · exact fun _ _ _ s ⟨c, hc, z⟩ => ⟨c, hc, z.up s⟩
      · rintro K1 x K2 ⟨qx, ys, rfl, hqx, hy⟩
        obtain ⟨y1, y2, rfl, e1, ⟨dq, hdq, e2⟩⟩ := paired2 hy
        obtain ⟨c, hc, rfl⟩ := List.mem_map.mp hdq
        exact ⟨c, hc, .tup hqx (.cons e1 (.cons e2 .nil))⟩
      · intro P hP
        simp only [List.mem_cons, List.not_mem_nil, or_false] at hP
        rcases hP with rfl | rfl | rfl
        · exact fun _ _ _ s z => z.up s
        · exact fun _ _ _ s ⟨c, hc, z⟩ => ⟨c, hc, z.up s⟩
        · exact fun _ _ _ s z => z.up s
      subst e11
      have s1719 := s18.trans s19
      have hb19 := hb17.up s1719
      have T19 := Tabs.same T17 s1719
      have q319 := q317.up s1719
      have hp8 : (past ++ [((cs, none) : Stn)]).length ≤ 1000 := by
        rw [List.length_append, List.length_cons, List.length_nil]
        omega
      have hdeeds : ∀ (i : Nat) (u : V), vds[i]? = some u → ∃ dd o bk', Im H19 u (dD dd) ∧ deedR ⟨m, cu, odd, hs, (cs, some t), past ++ [((cs, none) : Stn)]⟩ dd o bk' := fun i u hu => by
        obtain ⟨y1, y2, y3, ev, e1, ⟨cd, hcd2, e2⟩, e3⟩ := paired3 hpr
        rw [ev] at hu
        match i, hu with
        | 0, hu =>
          have : u = y1 := by simpa using hu.symm
          subst this
          obtain ⟨o, bk', hd⟩ := deed_lay h hM hW (hs := hs) zpl htl hp8 z8 (fun c hc => (z2 c hc).1) c1 c2 c3
          exact ⟨_, o, bk', e1, hd⟩
        | 1, hu =>
          have : u = y2 := by simpa using hu.symm
          subst this
          obtain ⟨o, bk', hd⟩ := deed_deny h hM hW (hs := hs) zpl htl hp8 hcd2
          exact ⟨_, o, bk', e2, hd⟩
        | 2, hu =>
          have : u = y3 := by simpa using hu.symm
          subst this
          obtain ⟨o, bk', hd⟩ := deed_merge h hM hW (hs := hs) zpl htl hp8 hm0 hm1
          exact ⟨_, o, bk', e3, hd⟩
        | k + 3, hu => simp at hu
      have nqp : qd ≠ p := fun z => by
        obtain ⟨dx, fs, e⟩ := hb19.ins
        rw [z, e] at hqd
        cases hqd
      refine jss_one (js_ifAll b (by decide +kernel) h.f_all (j_lcI b (own := [("_law_deed", 12)]) (j := 12) (q := qd) (vs := vds) (fun H' => SbT p H19 H' ∧ BookAt C H' p ⟨m, cu, odd, hs, (cs, some t), past ++ [((cs, none) : Stn)]⟩ ∧ Tabs Tb H') (fun y => y = .bl true) (jv_var (i := 11) b rfl (by decide +kernel) rfl) hqd (by decide +kernel) (by rw [paired_len hpr]; exact Nat.le_of_ble_eq_true rfl) rfl (fun sc' e => by subst e; decide +kernel) rfl
        (fun H1 s => ⟨.ofS s, hb19.up s, Tabs.same T19 s⟩) (fun H' z => z.1 qd _ nqp hqd (fun ps y => by cases y)) (fun H' D' acc ⟨z1, z2, z3⟩ nD hD => ?_) (fun i u H' hu ⟨z1, z2, z3⟩ X' c' hf' => ?_) (fun D' acc H2 hD' hl ha ⟨z1, z2, z3⟩ => ⟨D', acc, rfl, hD', ha, ?_⟩)))
      · exact ⟨fun a o na ea nt => by
          rw [upd_ne (ne_of_none ea nD)]
          exact z1 a o na ea nt, (kl_upd hD).book z2, (kl_upd hD).tabs z3⟩
      · obtain ⟨dd, o, bk', iu, hR⟩ := hdeeds i u hu
        have tk19 := hb19.tkT z1
        have iu' := iu.tk tk19
        have q3' := q319.tk tk19
        refine je_callP c' hL (by decide) (by decide +kernel) (jps_v (jv_var (v := .ref p) (i := 4) c' rfl (by decide +kernel) rfl) (jps_d (ja_ixT (jr_var (r := .d _) (i := 3) c' rfl (by decide +kernel) rfl q3') (ja_int (i := 0)) rfl) (jps_v (jv_var (v := u) (i := 12) c' rfl (by decide +kernel) rfl) jps_nil))) rfl1 fun vs H2 s2 pr => ?_
        cases pr with
        | cons e1 pr => cases pr with
          | cons e2 pr => cases pr with
            | cons e3 pr =>
              cases pr
              refine ⟨p, _, u, _, t, dd, o, bk', by rw [e1, e3], z2.up s2, ⟨rfl, zpl, hpt⟩, e2, iu'.up s2, hR, Tabs.same z3 s2, fun H4 sb4 hb4 T4 => ⟨rfl, ⟨(z1.trans (.ofS s2)).trans sb4, hb4, T4⟩, fun D' acc hD => sb4 D' _ (fun z => ?_) (s2 _ _ hD) (fun ps z => by cases z)⟩⟩
              obtain ⟨dx, fs, e⟩ := z2.ins
              rw [z, e] at hD
              cases hD
      · exact ⟨fin ((S11.trans S15).trans ((SbT.ofS (s1517.trans s1719)).trans z1)), z3, _, _, _, _, _, _, _, _, _, _, _, _, rfl⟩
    · subst eo; subst eb
      rw [hh] at q815
      have e8 := Im.isNon q815
      subst e8
      rcases hc with ⟨_, q9⟩ | ⟨w, ew, _⟩
      · have q9 : Im H15 v9 (.tuple [.str "no", .str "parting"]) := q9
        refine jss_cons (js_ifT (jt_cmp (cm_isV (v := .non)) (jv_var (v := .non) (i := 8) b rfl (by decide +kernel) rfl) ja_non) rfl rfl1 fun H16 s16 => jss_cons (js_ifF0 (jt_ne (r := .d _) (q := .d _) b (jr_var (r := .d _) (i := 9) b rfl (by decide +kernel) rfl q9) (ja_tup (jds_cons ja_str (jds_cons ja_str jds_nil))) (by exact sh_tup (n := 59) (sh_cons (sh_str (by decide +kernel)) (sh_cons (sh_str (by decide +kernel)) sh_nil))) (by exact sh_tup (n := 59) (sh_cons (sh_str (by decide +kernel)) (sh_cons (sh_str (by decide +kernel)) sh_nil)))) (by decide +kernel) s16 fun H17 s17 => jss_one (js_cont ⟨fin (S11.trans (S15.trans (.ofS (s16.trans s17)))), Tabs.same T15 (s16.trans s17), _, _, _, _, _, _, _, _, _, _, _, _, rfl⟩)))
      · cases ew
  · rintro σ' H' ⟨hr, hT, w1, w2, w3, w4, w5, w6, w7, w8, w9, w10, w11, w12, rfl⟩
    exact jss_one (js_ret (ja_bl (i := true)) rfl1 fun v H2 s2 q => by
      have e := Im.isBl q
      subst e
      exact hQ _)
end
end Mead

/-! the looks' laws -/
namespace MeadHead
open PySem PySem.Spec PyProof.Rows L2 Mead
set_option maxRecDepth 100000
set_option maxHeartbeats 0
theorem excCB_ok {K : PySem.W.Frag} {D : Addr} (h : excCB K D = true) : ExcC K D := by
  obtain ⟨h1, h⟩ := He.ba h
  obtain ⟨h2, h⟩ := He.ba h
  obtain ⟨h3, h⟩ := He.ba h
  obtain ⟨h4, h⟩ := He.ba h
  obtain ⟨h5, h⟩ := He.ba h
  obtain ⟨h6, h⟩ := He.ba h
  obtain ⟨h7, h8⟩ := He.ba h
  exact ⟨He.eqO_ok h1, He.eqO_ok h2, of_decide_eq_true h3, h4, He.eqO_ok h5, He.eqO_ok h6, of_decide_eq_true h7, of_decide_eq_true h8⟩
theorem oexB_ok {K : PySem.W.Frag} {C : Addr} (h : oexB K C = true) : OexC K C := by
  obtain ⟨h1, h⟩ := He.ba h
  obtain ⟨h2, h⟩ := He.ba h
  obtain ⟨h3, h⟩ := He.ba h
  obtain ⟨h4, h5⟩ := He.ba h
  refine ⟨?_, He.eqO_ok h2, of_decide_eq_true h3, of_decide_eq_true h4, h5⟩
  split at h1
  · rename_i dd cd sl ho
    split at h1
    · rename_i C' bm k0 k1 k2 k3 n k5 hm hs
      obtain ⟨q1, h1⟩ := He.ba h1
      obtain ⟨q2, h1⟩ := He.ba h1
      obtain ⟨q3, h1⟩ := He.ba h1
      obtain ⟨q4, q5⟩ := He.ba h1
      have e1 : C' = C := eq_of_beq q1
      have e2 : n = "ValueError.__new__" := eq_of_beq q2
      have e4 : cd.hasDel = false := by
        cases q : cd.hasDel with
        | false => rfl
        | true => rw [q] at q4; cases q4
      subst e1 e2
      obtain ⟨nm, bs, mro, ns, qn, hd, sn, sub, ab, col, del⟩ := cd
      dsimp only at hm q3 e4
      subst hm q3 e4
      have hsl : sl = #[k0, k1, k2, k3, some (.builtin "ValueError.__new__"), k5] := by
        obtain ⟨l⟩ := sl
        simp only at hs
        rw [hs]
      subst hsl
      exact ⟨nm, qn, ns, bs, bm, sn, sub, ab, col, dd, k0, k1, k2, k3, k5, ho, q5⟩
    · cases h1
  · cases h1

end MeadHead
set_option maxRecDepth 100000
set_option maxHeartbeats 0
/-! the end -/
namespace MeadHead
open PySem PySem.Spec PyProof.Rows L2 Mead LamX
section
variable {P : Program} {w : World} {K : PySem.W.Frag} {h base : Heap} {mg : Str → Option Value}
def TT (P : Program) (w : World) (K : PySem.W.Frag) (mg : Str → Option Value) (base : Heap) : Tx := ⟨P, w, K, mg, base⟩
theorem top_of (X : K.In h) (G : h.Ns mainGlobals mg) (c : He.SaysD fa fn K) : Top (TT P w K mg base) where
  d_is_from := let ⟨fd, F⟩ := c.def_ 0 (d := D_is_from) rfl; ⟨_, fd, F, He.glo_ok X G (c.fact 0 (f := .glo "is_from") rfl)⟩
  d_rises := let ⟨fd, F⟩ := c.def_ 1 (d := D_rises) rfl; ⟨_, fd, F, He.glo_ok X G (c.fact 1 (f := .glo "rises") rfl)⟩
  d_places_of := let ⟨fd, F⟩ := c.def_ 2 (d := D_places_of) rfl; ⟨_, fd, F, He.glo_ok X G (c.fact 2 (f := .glo "places_of") rfl)⟩
  d_is_mead := let ⟨fd, F⟩ := c.def_ 3 (d := D_is_mead) rfl; ⟨_, fd, F, He.glo_ok X G (c.fact 3 (f := .glo "is_mead") rfl)⟩
  d_need_mead := let ⟨fd, F⟩ := c.def_ 4 (d := D_need_mead) rfl; ⟨_, fd, F, He.glo_ok X G (c.fact 4 (f := .glo "need_mead") rfl)⟩
  d_cells_in := let ⟨fd, F⟩ := c.def_ 5 (d := D_cells_in) rfl; ⟨_, fd, F, He.glo_ok X G (c.fact 5 (f := .glo "cells_in") rfl)⟩
  d_worth_in := let ⟨fd, F⟩ := c.def_ 6 (d := D_worth_in) rfl; ⟨_, fd, F, He.glo_ok X G (c.fact 6 (f := .glo "worth_in") rfl)⟩
  d_beside := let ⟨fd, F⟩ := c.def_ 7 (d := D_beside) rfl; ⟨_, fd, F, He.glo_ok X G (c.fact 7 (f := .glo "beside") rfl)⟩
  d_is_custom := let ⟨fd, F⟩ := c.def_ 8 (d := D_is_custom) rfl; ⟨_, fd, F, He.glo_ok X G (c.fact 8 (f := .glo "is_custom") rfl)⟩
  d_is_claim := let ⟨fd, F⟩ := c.def_ 9 (d := D_is_claim) rfl; ⟨_, fd, F, He.glo_ok X G (c.fact 9 (f := .glo "is_claim") rfl)⟩
  d_are_claims := let ⟨fd, F⟩ := c.def_ 10 (d := D_are_claims) rfl; ⟨_, fd, F, He.glo_ok X G (c.fact 10 (f := .glo "are_claims") rfl)⟩
  d_need_custom := let ⟨fd, F⟩ := c.def_ 11 (d := D_need_custom) rfl; ⟨_, fd, F, He.glo_ok X G (c.fact 11 (f := .glo "need_custom") rfl)⟩
  d_need_claim := let ⟨fd, F⟩ := c.def_ 12 (d := D_need_claim) rfl; ⟨_, fd, F, He.glo_ok X G (c.fact 12 (f := .glo "need_claim") rfl)⟩
  d_need_claims := let ⟨fd, F⟩ := c.def_ 13 (d := D_need_claims) rfl; ⟨_, fd, F, He.glo_ok X G (c.fact 13 (f := .glo "need_claims") rfl)⟩
  d_stand := let ⟨fd, F⟩ := c.def_ 14 (d := D_stand) rfl; ⟨_, fd, F, He.glo_ok X G (c.fact 14 (f := .glo "stand") rfl)⟩
  d_holders_in := let ⟨fd, F⟩ := c.def_ 15 (d := D_holders_in) rfl; ⟨_, fd, F, He.glo_ok X G (c.fact 15 (f := .glo "holders_in") rfl)⟩
  d_need_holder := let ⟨fd, F⟩ := c.def_ 16 (d := D_need_holder) rfl; ⟨_, fd, F, He.glo_ok X G (c.fact 16 (f := .glo "need_holder") rfl)⟩
  d_counted := let ⟨fd, F⟩ := c.def_ 17 (d := D_counted) rfl; ⟨_, fd, F, He.glo_ok X G (c.fact 17 (f := .glo "counted") rfl)⟩
  d_counted_all := let ⟨fd, F⟩ := c.def_ 18 (d := D_counted_all) rfl; ⟨_, fd, F, He.glo_ok X G (c.fact 18 (f := .glo "counted_all") rfl)⟩
  d_laid := let ⟨fd, F⟩ := c.def_ 19 (d := D_laid) rfl; ⟨_, fd, F, He.glo_ok X G (c.fact 19 (f := .glo "laid") rfl)⟩
  d_denied := let ⟨fd, F⟩ := c.def_ 20 (d := D_denied) rfl; ⟨_, fd, F, He.glo_ok X G (c.fact 20 (f := .glo "denied") rfl)⟩
  d_joined := let ⟨fd, F⟩ := c.def_ 21 (d := D_joined) rfl; ⟨_, fd, F, He.glo_ok X G (c.fact 21 (f := .glo "joined") rfl)⟩
  d_piece_from := let ⟨fd, F⟩ := c.def_ 22 (d := D_piece_from) rfl; ⟨_, fd, F, He.glo_ok X G (c.fact 22 (f := .glo "piece_from") rfl)⟩
  d_is_whole := let ⟨fd, F⟩ := c.def_ 23 (d := D_is_whole) rfl; ⟨_, fd, F, He.glo_ok X G (c.fact 23 (f := .glo "is_whole") rfl)⟩
  d_lies_at_road := let ⟨fd, F⟩ := c.def_ 24 (d := D_lies_at_road) rfl; ⟨_, fd, F, He.glo_ok X G (c.fact 24 (f := .glo "lies_at_road") rfl)⟩
  d_is_plea := let ⟨fd, F⟩ := c.def_ 25 (d := D_is_plea) rfl; ⟨_, fd, F, He.glo_ok X G (c.fact 25 (f := .glo "is_plea") rfl)⟩
  d_need_plea := let ⟨fd, F⟩ := c.def_ 26 (d := D_need_plea) rfl; ⟨_, fd, F, He.glo_ok X G (c.fact 26 (f := .glo "need_plea") rfl)⟩
  d_due_in := let ⟨fd, F⟩ := c.def_ 27 (d := D_due_in) rfl; ⟨_, fd, F, He.glo_ok X G (c.fact 27 (f := .glo "due_in") rfl)⟩
  d_is_worth := let ⟨fd, F⟩ := c.def_ 28 (d := D_is_worth) rfl; ⟨_, fd, F, He.glo_ok X G (c.fact 28 (f := .glo "is_worth") rfl)⟩
  d_fits_due := let ⟨fd, F⟩ := c.def_ 29 (d := D_fits_due) rfl; ⟨_, fd, F, He.glo_ok X G (c.fact 29 (f := .glo "fits_due") rfl)⟩
  d_is_fit := let ⟨fd, F⟩ := c.def_ 30 (d := D_is_fit) rfl; ⟨_, fd, F, He.glo_ok X G (c.fact 30 (f := .glo "is_fit") rfl)⟩
  d_lands_of := let ⟨fd, F⟩ := c.def_ 31 (d := D_lands_of) rfl; ⟨_, fd, F, He.glo_ok X G (c.fact 31 (f := .glo "lands_of") rfl)⟩
  d_fit_in := let ⟨fd, F⟩ := c.def_ 32 (d := D_fit_in) rfl; ⟨_, fd, F, He.glo_ok X G (c.fact 32 (f := .glo "fit_in") rfl)⟩
  d_land_by_holder := let ⟨fd, F⟩ := c.def_ 33 (d := D_land_by_holder) rfl; ⟨_, fd, F, He.glo_ok X G (c.fact 33 (f := .glo "land_by_holder") rfl)⟩
  d_is_parted := let ⟨fd, F⟩ := c.def_ 34 (d := D_is_parted) rfl; ⟨_, fd, F, He.glo_ok X G (c.fact 34 (f := .glo "is_parted") rfl)⟩
  d_is_parting := let ⟨fd, F⟩ := c.def_ 35 (d := D_is_parting) rfl; ⟨_, fd, F, He.glo_ok X G (c.fact 35 (f := .glo "is_parting") rfl)⟩
  d_dealt_on := let ⟨fd, F⟩ := c.def_ 36 (d := D_dealt_on) rfl; ⟨_, fd, F, He.glo_ok X G (c.fact 36 (f := .glo "dealt_on") rfl)⟩
  d_begun_by := let ⟨fd, F⟩ := c.def_ 37 (d := D_begun_by) rfl; ⟨_, fd, F, He.glo_ok X G (c.fact 37 (f := .glo "begun_by") rfl)⟩
  d_gone_on := let ⟨fd, F⟩ := c.def_ 38 (d := D_gone_on) rfl; ⟨_, fd, F, He.glo_ok X G (c.fact 38 (f := .glo "gone_on") rfl)⟩
  d_partings_in := let ⟨fd, F⟩ := c.def_ 39 (d := D_partings_in) rfl; ⟨_, fd, F, He.glo_ok X G (c.fact 39 (f := .glo "partings_in") rfl)⟩
  d_first_parting := let ⟨fd, F⟩ := c.def_ 40 (d := D_first_parting) rfl; ⟨_, fd, F, He.glo_ok X G (c.fact 40 (f := .glo "first_parting") rfl)⟩
  d_is_house := let ⟨fd, F⟩ := c.def_ 41 (d := D_is_house) rfl; ⟨_, fd, F, He.glo_ok X G (c.fact 41 (f := .glo "is_house") rfl)⟩
  d_are_houses := let ⟨fd, F⟩ := c.def_ 42 (d := D_are_houses) rfl; ⟨_, fd, F, He.glo_ok X G (c.fact 42 (f := .glo "are_houses") rfl)⟩
  d_need_houses := let ⟨fd, F⟩ := c.def_ 43 (d := D_need_houses) rfl; ⟨_, fd, F, He.glo_ok X G (c.fact 43 (f := .glo "need_houses") rfl)⟩
  d_is_dealt := let ⟨fd, F⟩ := c.def_ 44 (d := D_is_dealt) rfl; ⟨_, fd, F, He.glo_ok X G (c.fact 44 (f := .glo "is_dealt") rfl)⟩
  d_need_dealt := let ⟨fd, F⟩ := c.def_ 45 (d := D_need_dealt) rfl; ⟨_, fd, F, He.glo_ok X G (c.fact 45 (f := .glo "need_dealt") rfl)⟩
  d_need_other := let ⟨fd, F⟩ := c.def_ 46 (d := D_need_other) rfl; ⟨_, fd, F, He.glo_ok X G (c.fact 46 (f := .glo "need_other") rfl)⟩
  d_fences_in := let ⟨fd, F⟩ := c.def_ 47 (d := D_fences_in) rfl; ⟨_, fd, F, He.glo_ok X G (c.fact 47 (f := .glo "fences_in") rfl)⟩
  d_fences_of := let ⟨fd, F⟩ := c.def_ 48 (d := D_fences_of) rfl; ⟨_, fd, F, He.glo_ok X G (c.fact 48 (f := .glo "fences_of") rfl)⟩
  d_unlike := let ⟨fd, F⟩ := c.def_ 49 (d := D_unlike) rfl; ⟨_, fd, F, He.glo_ok X G (c.fact 49 (f := .glo "unlike") rfl)⟩
  d_fences_moved := let ⟨fd, F⟩ := c.def_ 50 (d := D_fences_moved) rfl; ⟨_, fd, F, He.glo_ok X G (c.fact 50 (f := .glo "fences_moved") rfl)⟩
  d_least_moved := let ⟨fd, F⟩ := c.def_ 51 (d := D_least_moved) rfl; ⟨_, fd, F, He.glo_ok X G (c.fact 51 (f := .glo "least_moved") rfl)⟩
  d_fewest_moved := let ⟨fd, F⟩ := c.def_ 52 (d := D_fewest_moved) rfl; ⟨_, fd, F, He.glo_ok X G (c.fact 52 (f := .glo "fewest_moved") rfl)⟩
  d__law_cell := let ⟨fd, F⟩ := c.def_ 53 (d := D__law_cell) rfl; ⟨_, fd, F, He.glo_ok X G (c.fact 53 (f := .glo "_law_cell") rfl)⟩
  d__law_pen := let ⟨fd, F⟩ := c.def_ 54 (d := D__law_pen) rfl; ⟨_, fd, F, He.glo_ok X G (c.fact 54 (f := .glo "_law_pen") rfl)⟩
  d__law_draw := let ⟨fd, F⟩ := c.def_ 55 (d := D__law_draw) rfl; ⟨_, fd, F, He.glo_ok X G (c.fact 55 (f := .glo "_law_draw") rfl)⟩
  d__law_pick := let ⟨fd, F⟩ := c.def_ 56 (d := D__law_pick) rfl; ⟨_, fd, F, He.glo_ok X G (c.fact 56 (f := .glo "_law_pick") rfl)⟩
  d__law_word := let ⟨fd, F⟩ := c.def_ 57 (d := D__law_word) rfl; ⟨_, fd, F, He.glo_ok X G (c.fact 57 (f := .glo "_law_word") rfl)⟩
  d__law_came := let ⟨fd, F⟩ := c.def_ 58 (d := D__law_came) rfl; ⟨_, fd, F, He.glo_ok X G (c.fact 58 (f := .glo "_law_came") rfl)⟩
  d__law_mead := let ⟨fd, F⟩ := c.def_ 59 (d := D__law_mead) rfl; ⟨_, fd, F, He.glo_ok X G (c.fact 59 (f := .glo "_law_mead") rfl)⟩
  d__law_custom := let ⟨fd, F⟩ := c.def_ 60 (d := D__law_custom) rfl; ⟨_, fd, F, He.glo_ok X G (c.fact 60 (f := .glo "_law_custom") rfl)⟩
  d__law_claims := let ⟨fd, F⟩ := c.def_ 61 (d := D__law_claims) rfl; ⟨_, fd, F, He.glo_ok X G (c.fact 61 (f := .glo "_law_claims") rfl)⟩
  d__law_cells := let ⟨fd, F⟩ := c.def_ 62 (d := D__law_cells) rfl; ⟨_, fd, F, He.glo_ok X G (c.fact 62 (f := .glo "_law_cells") rfl)⟩
  d__law_next_to := let ⟨fd, F⟩ := c.def_ 63 (d := D__law_next_to) rfl; ⟨_, fd, F, He.glo_ok X G (c.fact 63 (f := .glo "_law_next_to") rfl)⟩
  d__law_fences := let ⟨fd, F⟩ := c.def_ 64 (d := D__law_fences) rfl; ⟨_, fd, F, He.glo_ok X G (c.fact 64 (f := .glo "_law_fences") rfl)⟩
  d__law_houses := let ⟨fd, F⟩ := c.def_ 65 (d := D__law_houses) rfl; ⟨_, fd, F, He.glo_ok X G (c.fact 65 (f := .glo "_law_houses") rfl)⟩
  d__law_call := let ⟨fd, F⟩ := c.def_ 66 (d := D__law_call) rfl; ⟨_, fd, F, He.glo_ok X G (c.fact 66 (f := .glo "_law_call") rfl)⟩
  d__law_base := let ⟨fd, F⟩ := c.def_ 67 (d := D__law_base) rfl; ⟨_, fd, F, He.glo_ok X G (c.fact 67 (f := .glo "_law_base") rfl)⟩
  d__law_late := let ⟨fd, F⟩ := c.def_ 68 (d := D__law_late) rfl; ⟨_, fd, F, He.glo_ok X G (c.fact 68 (f := .glo "_law_late") rfl)⟩
  d_law := let ⟨fd, F⟩ := c.def_ 69 (d := D_law) rfl; ⟨_, fd, F, He.glo_ok X G (c.fact 69 (f := .glo "law") rfl)⟩
  n_MOST_ROWS := He.int_ok X G (c.fact 88 (f := .int "MOST_ROWS" (4)) rfl)
  n_MOST_COLUMNS := He.int_ok X G (c.fact 89 (f := .int "MOST_COLUMNS" (6)) rfl)
  n_MOST_CELLS := He.int_ok X G (c.fact 90 (f := .int "MOST_CELLS" (10)) rfl)
  n_MOST_WORTH := He.int_ok X G (c.fact 91 (f := .int "MOST_WORTH" (99)) rfl)
  n_ROAD := He.int_ok X G (c.fact 92 (f := .int "ROAD" (-1)) rfl)
  n_WATER := He.int_ok X G (c.fact 93 (f := .int "WATER" (-2)) rfl)
  n_MOST_SORTS := He.int_ok X G (c.fact 94 (f := .int "MOST_SORTS" (6)) rfl)
  n_MOST_COUNT := He.int_ok X G (c.fact 95 (f := .int "MOST_COUNT" (100)) rfl)
  n_MOST_HOLDER_claims := He.int_ok X G (c.fact 96 (f := .int "MOST_HOLDER_claims" (3)) rfl)
  n_MOST_RIGHTS := He.int_ok X G (c.fact 97 (f := .int "MOST_RIGHTS" (20)) rfl)
  n_MOST_CLAIMS := He.int_ok X G (c.fact 98 (f := .int "MOST_CLAIMS" (12)) rfl)
  n_MOST_ODD := He.int_ok X G (c.fact 99 (f := .int "MOST_ODD" (999)) rfl)
  n_MANY := He.int_ok X G (c.fact 100 (f := .int "MANY" (4)) rfl)
  n_FAR := He.int_ok X G (c.fact 101 (f := .int "FAR" (99)) rfl)
  n_MOST_HOLDER_fences := He.int_ok X G (c.fact 102 (f := .int "MOST_HOLDER_fences" (3)) rfl)
  f_len := He.free_ok X G (c.fact 103 (f := .free "len") rfl)
  f_all := He.free_ok X G (c.fact 104 (f := .free "all") rfl)
  f_any := He.free_ok X G (c.fact 105 (f := .free "any") rfl)
  f_sum := He.free_ok X G (c.fact 106 (f := .free "sum") rfl)
  f_abs := He.free_ok X G (c.fact 107 (f := .free "abs") rfl)
  f_int := He.free_ok X G (c.fact 108 (f := .free "int") rfl)
  f_tuple := He.free_ok X G (c.fact 109 (f := .free "tuple") rfl)
  f_sorted := He.free_ok X G (c.fact 110 (f := .free "sorted") rfl)
  f_set := He.free_ok X G (c.fact 111 (f := .free "set") rfl)
  f_isinstance := He.free_ok X G (c.fact 112 (f := .free "isinstance") rfl)
  f_bool := He.free_ok X G (c.fact 113 (f := .free "bool") rfl)
  f_range := He.free_ok X G (c.fact 114 (f := .free "range") rfl)
  f_enumerate := He.free_ok X G (c.fact 115 (f := .free "enumerate") rfl)
  f_zip := He.free_ok X G (c.fact 116 (f := .free "zip") rfl)
  f_dict := He.free_ok X G (c.fact 117 (f := .free "dict") rfl)
  f_list := He.free_ok X G (c.fact 118 (f := .free "list") rfl)
  f_ValueError := He.free_ok X G (c.fact 119 (f := .free "ValueError") rfl)
theorem bm_of (X : K.In h) (G : h.Ns mainGlobals mg) (c : He.SaysD fa fn K) : BM (TT P w K mg base) (He.ga K "Book") where
  mg := He.glo_ok X G (c.fact 87 (f := .glo "Book") rfl)
  cls := He.cls_ok (c.fact 120 (f := .cls "Book") rfl)
  n1 := He.noat_ok (c.fact 121 (f := .noat "Book" "mead") rfl)
  n2 := He.noat_ok (c.fact 122 (f := .noat "Book" "custom") rfl)
  n3 := He.noat_ok (c.fact 123 (f := .noat "Book" "odd") rfl)
  n4 := He.noat_ok (c.fact 124 (f := .noat "Book" "houses") rfl)
  n5 := He.noat_ok (c.fact 125 (f := .noat "Book" "stood") rfl)
  n6 := He.noat_ok (c.fact 126 (f := .noat "Book" "past") rfl)
  d_fences := let ⟨fd, F⟩ := c.def_ 70 (d := M_fences) rfl; ⟨_, fd, F, He.meth_ok (c.fact 127 (f := .meth "Book" "fences") rfl)⟩
  d_turn := let ⟨fd, F⟩ := c.def_ 71 (d := M_turn) rfl; ⟨_, fd, F, He.meth_ok (c.fact 128 (f := .meth "Book" "turn") rfl)⟩
  d_plea_by := let ⟨fd, F⟩ := c.def_ 72 (d := M_plea_by) rfl; ⟨_, fd, F, He.meth_ok (c.fact 129 (f := .meth "Book" "plea_by") rfl)⟩
  d_claim_anew := let ⟨fd, F⟩ := c.def_ 73 (d := M_claim_anew) rfl; ⟨_, fd, F, He.meth_ok (c.fact 130 (f := .meth "Book" "claim_anew") rfl)⟩
  d_lay := let ⟨fd, F⟩ := c.def_ 74 (d := M_lay) rfl; ⟨_, fd, F, He.meth_ok (c.fact 131 (f := .meth "Book" "lay") rfl)⟩
  d_deny := let ⟨fd, F⟩ := c.def_ 75 (d := M_deny) rfl; ⟨_, fd, F, He.meth_ok (c.fact 132 (f := .meth "Book" "deny") rfl)⟩
  d_merge := let ⟨fd, F⟩ := c.def_ 76 (d := M_merge) rfl; ⟨_, fd, F, He.meth_ok (c.fact 133 (f := .meth "Book" "merge") rfl)⟩
  d_part := let ⟨fd, F⟩ := c.def_ 77 (d := M_part) rfl; ⟨_, fd, F, He.meth_ok (c.fact 134 (f := .meth "Book" "part") rfl)⟩
  d_undo := let ⟨fd, F⟩ := c.def_ 78 (d := M_undo) rfl; ⟨_, fd, F, He.meth_ok (c.fact 135 (f := .meth "Book" "undo") rfl)⟩
  d_claims_now := let ⟨fd, F⟩ := c.def_ 79 (d := M_claims_now) rfl; ⟨_, fd, F, He.meth_ok (c.fact 136 (f := .meth "Book" "claims_now") rfl)⟩
  d_parting_now := let ⟨fd, F⟩ := c.def_ 80 (d := M_parting_now) rfl; ⟨_, fd, F, He.meth_ok (c.fact 137 (f := .meth "Book" "parting_now") rfl)⟩
  d_plea_now := let ⟨fd, F⟩ := c.def_ 81 (d := M_plea_now) rfl; ⟨_, fd, F, He.meth_ok (c.fact 138 (f := .meth "Book" "plea_now") rfl)⟩
  init := let ⟨fd, F⟩ := c.def_ 82 (d := M_init) rfl; ⟨_, fd, F, He.mkr_ok (c.fact 139 (f := .mkr "Book") rfl)⟩
theorem xw_of (X : K.In h) (G : h.Ns mainGlobals mg) (c : He.SaysD fa fn K) {x : Str} (hx : mg x = some (.ref (He.ga K x))) (q : xwB K x = true) : XW (TT P w K mg base) x (He.ga K x) := by
  obtain ⟨h1, q⟩ := He.ba q
  obtain ⟨h2, h3⟩ := He.ba q
  refine ⟨hx, excCB_ok h1, fun y hy => ⟨He.ga K y, ?_, of_decide_eq_true (List.all_eq_true.mp h2 y hy)⟩, of_decide_eq_true h3⟩
  have hy : y ∈ kinds16 := hy
  simp only [kinds16, List.mem_cons, List.not_mem_nil, or_false] at hy
  rcases hy with rfl | rfl | rfl | rfl | rfl | rfl | rfl | rfl | rfl | rfl | rfl | rfl | rfl | rfl | rfl | rfl
  · exact He.glo_ok X G (c.fact 70 (f := .glo "NoMead") rfl)
  · exact He.glo_ok X G (c.fact 71 (f := .glo "NoPlace") rfl)
  · exact He.glo_ok X G (c.fact 72 (f := .glo "NoLand") rfl)
  · exact He.glo_ok X G (c.fact 73 (f := .glo "NoCustom") rfl)
  · exact He.glo_ok X G (c.fact 74 (f := .glo "NoClaim") rfl)
  · exact He.glo_ok X G (c.fact 75 (f := .glo "NoClaims") rfl)
  · exact He.glo_ok X G (c.fact 76 (f := .glo "NoHolder") rfl)
  · exact He.glo_ok X G (c.fact 77 (f := .glo "There") rfl)
  · exact He.glo_ok X G (c.fact 78 (f := .glo "Missing") rfl)
  · exact He.glo_ok X G (c.fact 79 (f := .glo "NoPlea") rfl)
  · exact He.glo_ok X G (c.fact 80 (f := .glo "NoParting") rfl)
  · exact He.glo_ok X G (c.fact 81 (f := .glo "NoWill") rfl)
  · exact He.glo_ok X G (c.fact 82 (f := .glo "NoHouses") rfl)
  · exact He.glo_ok X G (c.fact 83 (f := .glo "NoOdd") rfl)
  · exact He.glo_ok X G (c.fact 84 (f := .glo "NoUndo") rfl)
  · exact He.glo_ok X G (c.fact 85 (f := .glo "TooMany") rfl)
theorem xo_of (X : K.In h) (G : h.Ns mainGlobals mg) {x : Str} (hx : mg x = some (.ref (He.ga K x))) (q : (He.Fa.exc x).ok K = true) : XO (TT P w K mg base) x :=
  let ⟨h1, h2, h3, h4⟩ := He.exc_ok q
  ⟨⟨_, hx, h1, h2, h3, h4⟩⟩
theorem xws_of (X : K.In h) (G : h.Ns mainGlobals mg) (c : He.SaysD fa fn K) (e : exB K = true) : XWs (TT P w K mg base) (He.ga K "MeadError") (He.ga K "TooMany") (He.ma K (He.ga K "TooMany") "__init__") := by
  obtain ⟨e1, e⟩ := He.ba e
  obtain ⟨e2, e⟩ := He.ba e
  obtain ⟨e3, e⟩ := He.ba e
  obtain ⟨e4, _⟩ := He.ba e
  obtain ⟨t1, e4⟩ := He.ba e4
  obtain ⟨t2, e4⟩ := He.ba e4
  obtain ⟨t3, e4⟩ := He.ba e4
  obtain ⟨t4, e4⟩ := He.ba e4
  obtain ⟨t5, t6⟩ := He.ba e4
  have gP : mg "NoParting" = some (.ref (He.ga K "NoParting")) := He.glo_ok X G (c.fact 80 (f := .glo "NoParting") rfl)
  have gH : mg "NoHolder" = some (.ref (He.ga K "NoHolder")) := He.glo_ok X G (c.fact 76 (f := .glo "NoHolder") rfl)
  have gT : mg "TooMany" = some (.ref (He.ga K "TooMany")) := He.glo_ok X G (c.fact 85 (f := .glo "TooMany") rfl)
  refine ⟨He.glo_ok X G (c.fact 86 (f := .glo "MeadError") rfl), fun x => ?_, xo_of X G gH (c.fact 140 (f := .exc "NoHolder") rfl), xo_of X G gP (c.fact 141 (f := .exc "NoParting") rfl), ⟨gT, oexB_ok t1, He.eqO_ok t2, of_decide_eq_true t3, c.def_ 83 (d := M_tm) rfl, He.eqO_ok t4, He.eqO_ok t5⟩, xfB_ok t6⟩
  cases x with
  | noParting => exact ⟨_, xw_of X G c gP e1, He.exm_ok (c.fact 143 (f := .exm "NoParting" "MeadError" true) rfl)⟩
  | noHolder => exact ⟨_, xw_of X G c gH e2, He.exm_ok (c.fact 142 (f := .exm "NoHolder" "MeadError" true) rfl)⟩
  | tooMany n => exact ⟨_, xw_of X G c gT e3, He.exm_ok (c.fact 144 (f := .exm "TooMany" "MeadError" true) rfl)⟩
/-- the makers' tables -/
def Tb (K : PySem.W.Frag) : List (Addr × Str) := [((cLaw K).2, lamQ "law"), ((cLate K).2, lamQ "_law_late")]
theorem defL_of {x : Str} {st : Stmt} {fd : FuncData} (F : FunD K x x (defArgs st) (defBody st) (defScope st) [] [] (He.fAd K (x, none)) fd) : fd.code = .ref (He.cT K (x, none)).1 := by
  obtain ⟨oc, od, dV, kV, doc, pm, an, cdv, ct, osl, efd, lk, hcd, _, _⟩ := F.ex
  obtain ⟨c, ec⟩ := He.codeIn_ref hcd
  have e : fd.code = .ref c := by rw [efd]; exact ec
  rw [e]
  exact congrArg Value.ref (He.codeOf_eq lk e).symm
theorem facts {l : PySem.W.OpenLaw} {fa0 : Addr} (X : K.In h) (G : h.Ns mainGlobals mg) (hm : mg ("law" : Str) = some (.ref fa0)) (c : He.SaysX fa fn [] tf exB w h K) : LawAtS l w K CX0 16 63 "_law_script" mg fa0 h := by
  have cd := c.t.d
  obtain ⟨fd, F⟩ := cd.def_ 69 (d := D_law) rfl
  have F : FunD K "law" "law" (defArgs s_law) (defBody s_law) (defScope s_law) [] [] (He.ga K "law") fd := F
  have eg := hm.symm.trans (He.glo_ok X G (cd.fact 69 (f := .glo "law") rfl))
  cases eg
  have hne : (cLaw K).2 ≠ (cLate K).2 := by
    obtain ⟨_, e⟩ := He.ba c.more
    obtain ⟨_, e⟩ := He.ba e
    obtain ⟨_, e⟩ := He.ba e
    obtain ⟨_, e⟩ := He.ba e
    intro z
    rw [decide_eq_true z] at e
    cases e
  have mem : ∀ q : He.Defn, q ∈ tf → He.cT K q = cLaw K ∨ He.cT K q = cLate K := fun q hq => by
    simp only [tf, List.mem_cons, List.not_mem_nil, or_false] at hq
    rcases hq with rfl | rfl
    · exact .inl rfl
    · exact .inr rfl
  have two : ∀ {Z : Addr × Addr → Prop}, (∀ q ∈ tf, Z (He.cT K q)) → ∀ p ∈ [cLaw K, cLate K], Z p := fun {Z} hz p hp => by
    simp only [List.mem_cons, List.not_mem_nil, or_false] at hp
    rcases hp with rfl | rfl
    · exact hz ("law", none) (by decide)
    · exact hz ("_law_late", none) (by decide)
  have b := FunD.bindsA (ps := ["_law_script"]) F (fun _ _ _ _ _ _ us hl => match us, hl with | [_], _ => rfl)
  refine ⟨fd, [cLaw K, cLate K], sp_law (TT l.prog w K mg h) (Tb K), two (Z := fun p => h.get? p.2 = some { cls := .none, data := .fields #[] }) c.empty, two (Z := fun p => K.lookup p.2 = none) c.out, two (Z := fun p => PySem.W.CodeHd h p.1 p.2) fun q hq => PySem.W.codeHd_of_K X (c.hd q hq), ?_, fun H a ns hn _ hH hS => ?_, fun base hb hns hT => ?_⟩
  · exact fun s u => b s [u] rfl
  · refine ⟨a, ns, rfl, hS, hn, fun p hp => ?_, fun _ => rfl⟩
    simp only [Tb, List.mem_cons, List.not_mem_nil, or_false] at hp
    rcases hp with rfl | rfl
    · exact TabS.nil (hH _ (by simp))
    · exact TabS.nil (hH _ (by simp))
  · have hTop : Top (TT l.prog w K mg base) := top_of X G cd
    have hBM : BM (TT l.prog w K mg base) (He.ga K "Book") := bm_of X G cd
    have hXW : XWs (TT l.prog w K mg base) (He.ga K "MeadError") (He.ga K "TooMany") (He.ma K (He.ga K "TooMany") "__init__") := xws_of X G cd c.more
    have tb1 : Tbs (TT l.prog w K mg base) (Tb K) "law" (cLaw K).1 (cLaw K).2 := ⟨hT _ (by simp), by simp [Tb], fun p hp e => by
      simp only [Tb, List.mem_cons, List.not_mem_nil, or_false] at hp
      rcases hp with rfl | rfl
      · rfl
      · exact absurd e.symm hne⟩
    have tb2 : Tbs (TT l.prog w K mg base) (Tb K) "_law_late" (cLate K).1 (cLate K).2 := ⟨hT _ (by simp), by simp [Tb], fun p hp e => by
      simp only [Tb, List.mem_cons, List.not_mem_nil, or_false] at hp
      rcases hp with rfl | rfl
      · exact absurd e hne
      · rfl⟩
    obtain ⟨fd2, F2⟩ := cd.def_ 68 (d := D__law_late) rfl
    have F2 : FunD K "_law_late" "_law_late" (defArgs s__law_late) (defBody s__law_late) (defScope s__law_late) [] [] (He.ga K "_law_late") fd2 := F2
    have hL : Fn (TT l.prog w K mg base) "_law_late" 14 (sp_late (Tb K) (He.ga K "Book")) := fn__law_late hTop hBM hXW ⟨_, fd2, _, _, F2, He.glo_ok X G (cd.fact 68 (f := .glo "_law_late") rfl), defL_of F2, tb2⟩
    exact fn_mkL (T := TT l.prog w K mg base) F (defL_of F) sc_law (fun vs H Q E ⟨_, _, e, _⟩ => by rw [e]; rfl) fun Y cY vs H Q E hs => law_body (E := E) hTop hBM hXW hL tb1 cY hs
end
end MeadHead
open PySem PySem.W PySem.Calls PyProof.Rows
set_option maxRecDepth 100000 in
set_option maxHeartbeats 0 in
theorem PySem.Challenge.cw_meadshares_k17_whole_late_claims_move_fe_holds : PySem.Challenge.rw_meadshares_k17_whole_late_claims_move_fe.Holds := by
  w_on; o_law
  refine HandSHeadRun.head_any (r := OpenLaw.row PySem.Challenge.rw_meadshares_k17_whole_late_claims_move_fe) (q := view (OpenLaw.row PySem.Challenge.rw_meadshares_k17_whole_late_claims_move_fe).prog [124]) (H := MeadHead.hk) (ob := MeadHead.ob) (M := 60000) (loose := MeadHead.names) (d := HandSHeadRun.topDef (OpenLaw.row PySem.Challenge.rw_meadshares_k17_whole_late_claims_move_fe).prog 124) (kwd := []) MeadHead.ob_eq
    (by kernel_rfl) (fun s => by kernel_rfl) MeadHead.run (by kernel_rfl) (by kernel_rfl) (by kernel_rfl) (by rfl) (by first | assumption | decide +kernel) (by decide +kernel) ⟨rfl, rfl, rfl, rfl, rfl, by decide +kernel⟩ ?hw ?hc
  case hw => w_witness2
  case hc =>
    refine LamX.walk_ofTsE (l := PySem.Challenge.rw_meadshares_k17_whole_late_claims_move_fe) (n := 63) (k := 16) (x := "_law_script") (CX := fun _ => L2.CX0) rfl (by decide) (by kernel_rfl) ⟨rfl, by decide, by decide⟩ ?F (fun _ _ _ _ _ z => z)
    intro w mg fa h Y G hmg0
    obtain ⟨K, KX, c⟩ := Y
    have hmg : mg ("law" : PySem.Str) = some (.ref fa) := by
      have e : (HandSHeadRun.topDef (OpenLaw.row PySem.Challenge.rw_meadshares_k17_whole_late_claims_move_fe).prog 124).name = ("law" : PySem.Str) := by kernel_rfl
      rw [← e]
      exact hmg0
    exact ⟨K, KX, MeadHead.facts KX G hmg c⟩

