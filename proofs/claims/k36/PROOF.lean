import PyProof.Rows.All
import Wide.All
import OpenK.AllK
import Wide.FinOn
import HandS.ForMost
import HandS.ForExc
import HandS.IsInst
import HandS.TupAny
import HandS.Deep
import HandS.Wide
import HandS.Zip
import HandS.SortInts
import HandS.Conv
import HandS.Flow
import HandS.Exc
import HandS.HeadHook1
import HandS.HeadHook4
import HandS.More
import HandS.TupMul
import HandS.SortKw
import HandS.Style
import HandS.Defaults
import HandS.Head0
import HandS.Head1
import HandS.Head2
import HandS.HeadEnd
import HandS.HeadHook2
import HandS.Iter
import HandS.DictTup
import HandS.ListItems
import HandS.SortRule
import KE.KDictPairs
import HandS.ExcOwn
import HandS.ExcIs
import HandS.ExcValue
import HandS.TryOnly
import HandS.TryMany
import HandS.Strs
import HandS.SetFor
import PyProof.Rows.SortShellAny
import PyProof.Rows.TupMore
import KE.GoesMore
import PyProof.Draws
import PyProof.EnumMake
import KE.KStateDown
import Lean
import PySem.Challenge.RW_onename_k36_no_sure_claims
set_option Elab.async false
set_option linter.all false
set_option maxRecDepth 100000
set_option maxHeartbeats 4000000
/-! DL0: what the head asks of the frozen part. -/
namespace DL
open PySem PySem.Spec PyProof.Rows L2
abbrev TabL := List (Str × List Str)
def strsB : List Value → List Str → Bool
  | [], [] => true
  | .str x _ :: us, y :: ys => decide (x = y) && strsB us ys
  | _, _ => false
def tupB (K : PySem.W.Frag) (b : Addr) (ys : List Str) : Bool := match K.lookup b with
  | some ⟨.type c, none, .seq its _, _⟩ => decide (c = "tuple") && strsB its.toList ys
  | _ => false
def entsB (K : PySem.W.Frag) : List DictEntry → TabL → Bool
  | [], [] => true
  | e :: es, (k, ys) :: r => (match e.key, e.val with
      | .str x _, .ref b => decide (x = k) && tupB K b ys
      | _, _ => false) && entsB K es r
  | _, _ => false
def tabB (x : Str) (tab : TabL) (K : PySem.W.Frag) : Bool := match K.lookup (He.ga K x) with
  | some ⟨_, _, .dict es _, _⟩ => entsB K es.toList tab
  | _ => false
def subE (y x : Str) : Bool := decide (y = x) || (decide (x = Str.ofString "HouseError") || decide (x = Str.ofString "ValueError"))
def exn1 (K : PySem.W.Frag) (y : Str) : Bool :=
  PySem.W.excIn K (He.ga K y) He.veBase "ValueError.__new__" && (PySem.W.keepIn K (.ref (He.ga K y)) && (decide (PySem.W.subIn K (.ref (He.ga K y)) (.type "BaseException") = some true) && (decide (PySem.W.typeIn K (.ref (He.ga K y)) = some (.type "type")) &&
  (decide (PySem.W.findIn K (.ref (He.ga K y)) "__getattribute__" = some (some (.builtin "BaseException.__getattribute__"))) && (decide (PySem.W.findIn K (.ref (He.ga K y)) "__getattr__" = some none) && (PySem.W.hasDictIn K (He.ga K y) &&
  (decide (PySem.W.findIn K (.ref (He.ga K y)) "__class__" = some (some (.builtin "object.__class__"))) && (decide (PySem.W.specialIn K (.builtin "object.__class__") "__get__" = some (some (.builtin "getset_descriptor.__get__"))) &&
  (decide (PySem.W.takesIn K (.builtin "object.__class__") = some true) && (decide (PySem.W.mroIn K (He.ga K y) (.type "object") = some true) && (decide (PySem.W.kitOne K (.ref (He.ga K y)) (.type "ValueError") = some true) && decide (PySem.W.kitOne K (.type "NoneType") (.ref (He.ga K y)) = some false))))))))))))
def exn2 (K : PySem.W.Frag) (y x : Str) : Bool := decide (PySem.W.kitOne K (.ref (He.ga K y)) (.ref (He.ga K x)) = some (subE y x)) && decide (PySem.W.exmOne K (.ref (He.ga K y)) (.ref (He.ga K x)) = some (subE y x))
def exnB (ys : List Str) (K : PySem.W.Frag) : Bool := ys.all fun y => He.Fa.ok K (.glo y) && (exn1 K y && ys.all fun x => exn2 K y x)
abbrev Y_all : List Str := [Str.ofString "HouseError", Str.ofString "NoDeed", Str.ofString "Down", Str.ofString "Up", Str.ofString "NoLetter", Str.ofString "Busy", Str.ofString "NoClaim", Str.ofString "TooMany", Str.ofString "NoText", Str.ofString "NoRow"]
abbrev Y_desk : List Str := [Str.ofString "HouseError", Str.ofString "NoDeed", Str.ofString "Down", Str.ofString "Up", Str.ofString "NoLetter", Str.ofString "Busy", Str.ofString "NoClaim", Str.ofString "NoText", Str.ofString "NoRow"]
def T_logs : TabL := [(Str.ofString "ask", [Str.ofString "name", Str.ofString "number", Str.ofString "name", Str.ofString "number"]), (Str.ofString "got", [Str.ofString "name", Str.ofString "number", Str.ofString "house", Str.ofString "number"]), (Str.ofString "no", [Str.ofString "name", Str.ofString "number", Str.ofString "house"]), (Str.ofString "back", [Str.ofString "name", Str.ofString "number"]), (Str.ofString "word", [Str.ofString "name", Str.ofString "house", Str.ofString "number", Str.ofString "number"]), (Str.ofString "free", [Str.ofString "name", Str.ofString "house", Str.ofString "number"])]
def T_deeds : TabL := [(Str.ofString "claim", [Str.ofString "house", Str.ofString "name", Str.ofString "name"]), (Str.ofString "renew", [Str.ofString "house", Str.ofString "name"]), (Str.ofString "back", [Str.ofString "house", Str.ofString "name"]), (Str.ofString "carry", [Str.ofString "place"]), (Str.ofString "copy", [Str.ofString "place"]), (Str.ofString "lose", [Str.ofString "place"]), (Str.ofString "fall", [Str.ofString "house"]), (Str.ofString "rise", [Str.ofString "house"]), (Str.ofString "part", [Str.ofString "houses"]), (Str.ofString "heal", []), (Str.ofString "round", [])]
abbrev Y_wor : List Str := [Str.ofString "HouseError", Str.ofString "NoDeed", Str.ofString "Down", Str.ofString "Up", Str.ofString "NoLetter", Str.ofString "Busy", Str.ofString "NoClaim"]
end DL
namespace Wk36
open PySem PySem.Spec PyProof.Rows L2 DL

def topS (i : Nat) : Stmt := PySem.Challenge.pw_onename_k36_no_sure_claims.main.body.getD i (.Pass ⟨0, 0, 0, 0⟩)
abbrev s_is_whole : Stmt := topS 15
abbrev s_is_name : Stmt := topS 16
abbrev s_is_house : Stmt := topS 17
abbrev s_is_side : Stmt := topS 18
abbrev s_fits : Stmt := topS 19
abbrev s_is_deed : Stmt := topS 20
abbrev s_needed : Stmt := topS 21
abbrev s_reach_of : Stmt := topS 22
abbrev s_entries_of : Stmt := topS 24
abbrev s_word_in : Stmt := topS 25
abbrev s_greatest_asked : Stmt := topS 26
abbrev s_claim_in : Stmt := topS 27
abbrev s_next_number : Stmt := topS 28
abbrev s_other_houses : Stmt := topS 30
abbrev s_is_due : Stmt := topS 31
abbrev s_reach_in : Stmt := topS 32
abbrev s_news_of : Stmt := topS 33
abbrev s_ask_taken : Stmt := topS 34
abbrev s_word_taken : Stmt := topS 35
abbrev s_no_taken : Stmt := topS 36
abbrev s_back_taken : Stmt := topS 37
abbrev s_taken : Stmt := topS 38
abbrev s_world_of : Stmt := topS 43
abbrev s_at_place : Stmt := topS 44
abbrev s_stands : Stmt := topS 45
abbrev s_is_parted : Stmt := topS 46
abbrev s_can_be_carried : Stmt := topS 47
abbrev s_need_letter : Stmt := topS 48
abbrev s_need_up : Stmt := topS 49
abbrev s_need_way : Stmt := topS 50
abbrev s_need_claim : Stmt := topS 51
abbrev s_kept_notice : Stmt := topS 52
abbrev s_moved : Stmt := topS 53
abbrev s_own_word : Stmt := topS 54
abbrev s_asked : Stmt := topS 55
abbrev s_given_back : Stmt := topS 56
abbrev s_carried : Stmt := topS 57
abbrev s_yard_done : Stmt := topS 58
abbrev s_house_done : Stmt := topS 59
abbrev s_net_done : Stmt := topS 60
abbrev s_done : Stmt := topS 61
abbrev s_first_carried : Stmt := topS 63
abbrev s_quiet_round : Stmt := topS 64
abbrev s_quiet_rounds : Stmt := topS 65
abbrev s_claimed_surely : Stmt := topS 66
abbrev s__law_mixed : Stmt := topS 68
abbrev s__law_pot : Stmt := topS 69
abbrev s__law_take : Stmt := topS 70
abbrev s__law_names : Stmt := topS 71
abbrev s__law_side : Stmt := topS 72
abbrev s__law_deed : Stmt := topS 73
abbrev s__law_behind : Stmt := topS 74
abbrev s__law_run : Stmt := topS 75
abbrev s__law_refused : Stmt := topS 76
abbrev s__law_no_name : Stmt := topS 77
abbrev s_law : Stmt := topS 78
def d_is_whole : He.DefD := ⟨("is_whole", none), "is_whole", "is_whole", defArgs s_is_whole, defBody s_is_whole, defScope s_is_whole, [], []⟩
def d_is_name : He.DefD := ⟨("is_name", none), "is_name", "is_name", defArgs s_is_name, defBody s_is_name, defScope s_is_name, [], []⟩
def d_is_house : He.DefD := ⟨("is_house", none), "is_house", "is_house", defArgs s_is_house, defBody s_is_house, defScope s_is_house, [], []⟩
def d_is_side : He.DefD := ⟨("is_side", none), "is_side", "is_side", defArgs s_is_side, defBody s_is_side, defScope s_is_side, [], []⟩
def d_fits : He.DefD := ⟨("fits", none), "fits", "fits", defArgs s_fits, defBody s_fits, defScope s_fits, [], []⟩
def d_is_deed : He.DefD := ⟨("is_deed", none), "is_deed", "is_deed", defArgs s_is_deed, defBody s_is_deed, defScope s_is_deed, [], []⟩
def d_needed : He.DefD := ⟨("needed", none), "needed", "needed", defArgs s_needed, defBody s_needed, defScope s_needed, [], []⟩
def d_reach_of : He.DefD := ⟨("reach_of", none), "reach_of", "reach_of", defArgs s_reach_of, defBody s_reach_of, defScope s_reach_of, [], []⟩
def d_entries_of : He.DefD := ⟨("entries_of", none), "entries_of", "entries_of", defArgs s_entries_of, defBody s_entries_of, defScope s_entries_of, [], []⟩
def d_word_in : He.DefD := ⟨("word_in", none), "word_in", "word_in", defArgs s_word_in, defBody s_word_in, defScope s_word_in, [], []⟩
def d_greatest_asked : He.DefD := ⟨("greatest_asked", none), "greatest_asked", "greatest_asked", defArgs s_greatest_asked, defBody s_greatest_asked, defScope s_greatest_asked, [], []⟩
def d_claim_in : He.DefD := ⟨("claim_in", none), "claim_in", "claim_in", defArgs s_claim_in, defBody s_claim_in, defScope s_claim_in, [], []⟩
def d_next_number : He.DefD := ⟨("next_number", none), "next_number", "next_number", defArgs s_next_number, defBody s_next_number, defScope s_next_number, [], []⟩
def d_other_houses : He.DefD := ⟨("other_houses", none), "other_houses", "other_houses", defArgs s_other_houses, defBody s_other_houses, defScope s_other_houses, [], []⟩
def d_is_due : He.DefD := ⟨("is_due", none), "is_due", "is_due", defArgs s_is_due, defBody s_is_due, defScope s_is_due, [], []⟩
def d_reach_in : He.DefD := ⟨("reach_in", none), "reach_in", "reach_in", defArgs s_reach_in, defBody s_reach_in, defScope s_reach_in, [], []⟩
def d_news_of : He.DefD := ⟨("news_of", none), "news_of", "news_of", defArgs s_news_of, defBody s_news_of, defScope s_news_of, [], []⟩
def d_ask_taken : He.DefD := ⟨("ask_taken", none), "ask_taken", "ask_taken", defArgs s_ask_taken, defBody s_ask_taken, defScope s_ask_taken, [], []⟩
def d_word_taken : He.DefD := ⟨("word_taken", none), "word_taken", "word_taken", defArgs s_word_taken, defBody s_word_taken, defScope s_word_taken, [], []⟩
def d_no_taken : He.DefD := ⟨("no_taken", none), "no_taken", "no_taken", defArgs s_no_taken, defBody s_no_taken, defScope s_no_taken, [], []⟩
def d_back_taken : He.DefD := ⟨("back_taken", none), "back_taken", "back_taken", defArgs s_back_taken, defBody s_back_taken, defScope s_back_taken, [], []⟩
def d_taken : He.DefD := ⟨("taken", none), "taken", "taken", defArgs s_taken, defBody s_taken, defScope s_taken, [], []⟩
def d_world_of : He.DefD := ⟨("world_of", none), "world_of", "world_of", defArgs s_world_of, defBody s_world_of, defScope s_world_of, [], []⟩
def d_at_place : He.DefD := ⟨("at_place", none), "at_place", "at_place", defArgs s_at_place, defBody s_at_place, defScope s_at_place, [], []⟩
def d_stands : He.DefD := ⟨("stands", none), "stands", "stands", defArgs s_stands, defBody s_stands, defScope s_stands, [], []⟩
def d_is_parted : He.DefD := ⟨("is_parted", none), "is_parted", "is_parted", defArgs s_is_parted, defBody s_is_parted, defScope s_is_parted, [], []⟩
def d_can_be_carried : He.DefD := ⟨("can_be_carried", none), "can_be_carried", "can_be_carried", defArgs s_can_be_carried, defBody s_can_be_carried, defScope s_can_be_carried, [], []⟩
def d_need_letter : He.DefD := ⟨("need_letter", none), "need_letter", "need_letter", defArgs s_need_letter, defBody s_need_letter, defScope s_need_letter, [], []⟩
def d_need_up : He.DefD := ⟨("need_up", none), "need_up", "need_up", defArgs s_need_up, defBody s_need_up, defScope s_need_up, [], []⟩
def d_need_way : He.DefD := ⟨("need_way", none), "need_way", "need_way", defArgs s_need_way, defBody s_need_way, defScope s_need_way, [], []⟩
def d_need_claim : He.DefD := ⟨("need_claim", none), "need_claim", "need_claim", defArgs s_need_claim, defBody s_need_claim, defScope s_need_claim, [], []⟩
def d_kept_notice : He.DefD := ⟨("kept_notice", none), "kept_notice", "kept_notice", defArgs s_kept_notice, defBody s_kept_notice, defScope s_kept_notice, [], []⟩
def d_moved : He.DefD := ⟨("moved", none), "moved", "moved", defArgs s_moved, defBody s_moved, defScope s_moved, [], []⟩
def d_own_word : He.DefD := ⟨("own_word", none), "own_word", "own_word", defArgs s_own_word, defBody s_own_word, defScope s_own_word, [], []⟩
def d_asked : He.DefD := ⟨("asked", none), "asked", "asked", defArgs s_asked, defBody s_asked, defScope s_asked, [], []⟩
def d_given_back : He.DefD := ⟨("given_back", none), "given_back", "given_back", defArgs s_given_back, defBody s_given_back, defScope s_given_back, [], []⟩
def d_carried : He.DefD := ⟨("carried", none), "carried", "carried", defArgs s_carried, defBody s_carried, defScope s_carried, [], []⟩
def d_yard_done : He.DefD := ⟨("yard_done", none), "yard_done", "yard_done", defArgs s_yard_done, defBody s_yard_done, defScope s_yard_done, [], []⟩
def d_house_done : He.DefD := ⟨("house_done", none), "house_done", "house_done", defArgs s_house_done, defBody s_house_done, defScope s_house_done, [], []⟩
def d_net_done : He.DefD := ⟨("net_done", none), "net_done", "net_done", defArgs s_net_done, defBody s_net_done, defScope s_net_done, [], []⟩
def d_done : He.DefD := ⟨("done", none), "done", "done", defArgs s_done, defBody s_done, defScope s_done, [], []⟩
def d_first_carried : He.DefD := ⟨("first_carried", none), "first_carried", "first_carried", defArgs s_first_carried, defBody s_first_carried, defScope s_first_carried, [], []⟩
def d_quiet_round : He.DefD := ⟨("quiet_round", none), "quiet_round", "quiet_round", defArgs s_quiet_round, defBody s_quiet_round, defScope s_quiet_round, [], []⟩
def d_quiet_rounds : He.DefD := ⟨("quiet_rounds", none), "quiet_rounds", "quiet_rounds", defArgs s_quiet_rounds, defBody s_quiet_rounds, defScope s_quiet_rounds, [], []⟩
def d_claimed_surely : He.DefD := ⟨("claimed_surely", none), "claimed_surely", "claimed_surely", defArgs s_claimed_surely, defBody s_claimed_surely, defScope s_claimed_surely, [], []⟩
def d__law_mixed : He.DefD := ⟨("_law_mixed", none), "_law_mixed", "_law_mixed", defArgs s__law_mixed, defBody s__law_mixed, defScope s__law_mixed, [], []⟩
def d__law_pot : He.DefD := ⟨("_law_pot", none), "_law_pot", "_law_pot", defArgs s__law_pot, defBody s__law_pot, defScope s__law_pot, [], []⟩
def d__law_take : He.DefD := ⟨("_law_take", none), "_law_take", "_law_take", defArgs s__law_take, defBody s__law_take, defScope s__law_take, [], []⟩
def d__law_names : He.DefD := ⟨("_law_names", none), "_law_names", "_law_names", defArgs s__law_names, defBody s__law_names, defScope s__law_names, [], []⟩
def d__law_side : He.DefD := ⟨("_law_side", none), "_law_side", "_law_side", defArgs s__law_side, defBody s__law_side, defScope s__law_side, [], []⟩
def d__law_deed : He.DefD := ⟨("_law_deed", none), "_law_deed", "_law_deed", defArgs s__law_deed, defBody s__law_deed, defScope s__law_deed, [], []⟩
def d__law_behind : He.DefD := ⟨("_law_behind", none), "_law_behind", "_law_behind", defArgs s__law_behind, defBody s__law_behind, defScope s__law_behind, [], []⟩
def d__law_run : He.DefD := ⟨("_law_run", none), "_law_run", "_law_run", defArgs s__law_run, defBody s__law_run, defScope s__law_run, [], []⟩
def d__law_refused : He.DefD := ⟨("_law_refused", none), "_law_refused", "_law_refused", defArgs s__law_refused, defBody s__law_refused, defScope s__law_refused, [], []⟩
def d__law_no_name : He.DefD := ⟨("_law_no_name", none), "_law_no_name", "_law_no_name", defArgs s__law_no_name, defBody s__law_no_name, defScope s__law_no_name, [], []⟩
def d_law : He.DefD := ⟨("law", none), "law", "law", defArgs s_law, defBody s_law, defScope s_law, [], []⟩
def fn : List He.DefD := [d_is_whole, d_is_name, d_is_house, d_is_side, d_fits, d_is_deed, d_needed, d_reach_of, d_entries_of, d_word_in, d_greatest_asked, d_claim_in, d_next_number, d_other_houses, d_is_due, d_reach_in, d_news_of, d_ask_taken, d_word_taken, d_no_taken, d_back_taken, d_taken, d_world_of, d_at_place, d_stands, d_is_parted, d_can_be_carried, d_need_letter, d_need_up, d_need_way, d_need_claim, d_kept_notice, d_moved, d_own_word, d_asked, d_given_back, d_carried, d_yard_done, d_house_done, d_net_done, d_done, d_first_carried, d_quiet_round, d_quiet_rounds, d_claimed_surely, d__law_mixed, d__law_pot, d__law_take, d__law_names, d__law_side, d__law_deed, d__law_behind, d__law_run, d__law_refused, d__law_no_name, d_law]
def fa : List He.Fa := [.glo "is_whole", .glo "is_name", .glo "is_house", .glo "is_side", .glo "fits", .glo "is_deed", .glo "needed", .glo "reach_of", .glo "entries_of", .glo "word_in", .glo "greatest_asked", .glo "claim_in", .glo "next_number", .glo "other_houses", .glo "is_due", .glo "reach_in", .glo "news_of", .glo "ask_taken", .glo "word_taken", .glo "no_taken", .glo "back_taken", .glo "taken", .glo "world_of", .glo "at_place", .glo "stands", .glo "is_parted", .glo "can_be_carried", .glo "need_letter", .glo "need_up", .glo "need_way", .glo "need_claim", .glo "kept_notice", .glo "moved", .glo "own_word", .glo "asked", .glo "given_back", .glo "carried", .glo "yard_done", .glo "house_done", .glo "net_done", .glo "done", .glo "first_carried", .glo "quiet_round", .glo "quiet_rounds", .glo "claimed_surely", .glo "_law_mixed", .glo "_law_pot", .glo "_law_take", .glo "_law_names", .glo "_law_side", .glo "_law_deed", .glo "_law_behind", .glo "_law_run", .glo "_law_refused", .glo "_law_no_name", .glo "law", .str "LETTERS" "abcdefghijklmnopqrstuvwxyz", .int "LONGEST" 8, .int "MOST_HOUSES" 7, .int "LEAST_TERM" 2, .int "GREATEST_TERM" 9, .glo "FORMS", .free "len", .free "int", .free "bool", .free "str", .free "list", .free "tuple", .free "dict", .free "set", .free "range", .free "enumerate", .free "zip", .free "max", .free "min", .free "sum", .free "all", .free "any", .free "sorted", .free "isinstance", .free "repr", .free "ValueError"]
abbrev R : PySem.W.OpenRow := PySem.W.OpenLaw.row PySem.Challenge.rw_onename_k36_no_sure_claims
def ts : List He.Tab := [(fun K => He.ga K "FORMS", T_deeds.map (·.1))]
def ex (K : PySem.W.Frag) : Bool := tabB "FORMS" T_deeds K && exnB Y_all K
abbrev hk : PySem.W.Hook := He.hookX 4 fa fn ts [] ex
def ob (s : PySem.W.SharedT) : He.AlX := He.obsX 4 fa fn ts [] ex (HandSHeadRun.getT s)
theorem ob_eq (s : PySem.W.SharedT) : ob s = hk.obs s.abs := He.obsX_eq (HandSHeadRun.getT_eq s)
theorem ex_0 {K : PySem.W.Frag} (h : ex K = true) : tabB "FORMS" T_deeds K = true := by unfold ex at h; simp only [Bool.and_eq_true] at h; exact h.1
theorem ex_E {K : PySem.W.Frag} (h : ex K = true) : exnB Y_all K = true := by unfold ex at h; simp only [Bool.and_eq_true] at h; exact h.2
def names : List Str := [Str.ofString "HouseError", Str.ofString "NoDeed", Str.ofString "Down", Str.ofString "Up", Str.ofString "NoLetter", Str.ofString "Busy", Str.ofString "NoClaim", Str.ofString "TooMany", Str.ofString "NoText", Str.ofString "NoRow", Str.ofString "LETTERS", Str.ofString "LONGEST", Str.ofString "FORMS", Str.ofString "is_whole", Str.ofString "is_name", Str.ofString "is_house", Str.ofString "is_side", Str.ofString "fits", Str.ofString "is_deed", Str.ofString "needed", Str.ofString "reach_of", Str.ofString "entries_of", Str.ofString "word_in", Str.ofString "greatest_asked", Str.ofString "claim_in", Str.ofString "next_number", Str.ofString "other_houses", Str.ofString "is_due", Str.ofString "reach_in", Str.ofString "news_of", Str.ofString "ask_taken", Str.ofString "word_taken", Str.ofString "no_taken", Str.ofString "back_taken", Str.ofString "taken", Str.ofString "MOST_HOUSES", Str.ofString "LEAST_TERM", Str.ofString "GREATEST_TERM", Str.ofString "world_of", Str.ofString "at_place", Str.ofString "stands", Str.ofString "is_parted", Str.ofString "can_be_carried", Str.ofString "need_letter", Str.ofString "need_up", Str.ofString "need_way", Str.ofString "need_claim", Str.ofString "kept_notice", Str.ofString "moved", Str.ofString "own_word", Str.ofString "asked", Str.ofString "given_back", Str.ofString "carried", Str.ofString "yard_done", Str.ofString "house_done", Str.ofString "net_done", Str.ofString "done", Str.ofString "first_carried", Str.ofString "quiet_round", Str.ofString "quiet_rounds", Str.ofString "claimed_surely", Str.ofString "_law_mixed", Str.ofString "_law_pot", Str.ofString "_law_take", Str.ofString "_law_names", Str.ofString "_law_side", Str.ofString "_law_deed", Str.ofString "_law_behind", Str.ofString "_law_run", Str.ofString "_law_refused", Str.ofString "_law_no_name"]
theorem runF_false (w : World) : HandSHeadRun.RunEq R (PySem.W.view R.prog [78]) hk ob 8000 names (w.withFollow "special-get-raises" false) := by
  intro os
  kernel_rfl
theorem runF_true (w : World) : HandSHeadRun.RunEq R (PySem.W.view R.prog [78]) hk ob 8000 names (w.withFollow "special-get-raises" true) := by
  intro os
  kernel_rfl
theorem runF (b : Bool) (w : World) : HandSHeadRun.RunEq R (PySem.W.view R.prog [78]) hk ob 8000 names (w.withFollow "special-get-raises" b) := by
  cases b
  · exact runF_false w
  · exact runF_true w
theorem run (w : World) : HandSHeadRun.RunEq R (PySem.W.view R.prog [78]) hk ob 8000 names w := by
  have e := World.withFollow_self w "special-get-raises"
  rw [← e]
  exact runF _ w
end Wk36
/-! DL: data as values over the hand layer. -/
namespace DL
open PySem PySem.Spec PyProof.Rows L2

/-- data: tuples and lists that never change as values; a changed object by its address -/
inductive D where
  | non | bl (b : Bool) | int (i : Int) | str (x : Str) | tup (ds : List D) | lst (ds : List D) | kt (ds : List D) | kl (ds : List D) | ref (a : Addr) | ty (n : String) | exc (x : Str) | cls (x : Str)
  deriving Inhabited
/-- what stands at a changed object's address -/
inductive Cell where
  | lst (ds : List D) | dk (kvs : List (Key × D)) | dt (kvs : List (List Key × D)) | ins (C dx : Addr) (fs : List (Str × D))
abbrev Sto := Addr → Option Cell
def Sto.set (st : Sto) (a : Addr) (c : Cell) : Sto := fun b => if b = a then some c else st b
def Sto.keepOnly (st st0 : Sto) : Sto := fun a => if (st0 a).isSome then st a else none
@[simp] theorem Sto.set_same {st : Sto} {a : Addr} {c : Cell} : st.set a c a = some c := by unfold Sto.set; rw [if_pos rfl]
theorem Sto.set_ne {st : Sto} {a b : Addr} {c : Cell} (h : b ≠ a) : st.set a c b = st b := by unfold Sto.set; rw [if_neg h]
@[simp] theorem Sto.set_set {st : Sto} {a : Addr} {c c' : Cell} : (st.set a c).set a c' = st.set a c' := by
  funext b; unfold Sto.set; split <;> rfl
theorem Sto.set_comm {st : Sto} {a b : Addr} {c c' : Cell} (h : a ≠ b) : (st.set a c).set b c' = (st.set b c').set a c := by
  funext x; unfold Sto.set
  by_cases h1 : x = a
  · subst h1; simp [h]
  · simp [h1]
theorem Sto.set_self {st : Sto} {a : Addr} {c : Cell} (h : st a = some c) : st.set a c = st := by
  funext b; unfold Sto.set; split
  · rename_i e; rw [e, h]
  · rfl
@[simp] theorem Sto.keepOnly_self (st : Sto) : st.keepOnly st = st := by
  funext a; unfold Sto.keepOnly; split
  · rfl
  · rename_i h; cases e : st a with
    | none => rfl
    | some c => rw [e] at h; simp at h
theorem Sto.keepOnly_new {st st0 : Sto} {a : Addr} {c : Cell} (h : st0 a = none) : (st.set a c).keepOnly st0 = st.keepOnly st0 := by
  funext b; unfold Sto.keepOnly Sto.set
  by_cases e : b = a
  · subst e; simp [h]
  · simp [e]
theorem Sto.keepOnly_set {st st0 : Sto} {a : Addr} {c : Cell} (h : (st0 a).isSome) : (st.set a c).keepOnly st0 = (st.keepOnly st0).set a c := by
  funext b; unfold Sto.keepOnly Sto.set
  by_cases e : b = a
  · subst e; simp [h]
  · simp [e]

abbrev Bz := Addr → Prop
/-- m: what may change; b: what is being filled -/
structure Mu where
  m : Addr → Prop
  b : Addr → Prop
def Mu.has (M : Mu) (a : Addr) : Prop := M.m a ∨ M.b a
def mu (st : Sto) (B : Bz) : Mu := ⟨fun a => st a ≠ none, B⟩
def TupAt (H : Hp) (M : Mu) (a : Addr) (vs : List V) : Prop := ¬ M.has a ∧ H a = some (.tup vs)
def KTupAt (K : PySem.W.Frag) (a : Addr) (vs : List V) : Prop := ∃ (o : Obj) (its : Array Value) (n : Nat), K.lookup a = some o ∧ o.cls = .type "tuple" ∧ o.dict = none ∧ o.data = .seq its n ∧ its.size ≤ sizeLine ∧ Vals vs its.toList
/-- a tuple of the text, or one that is known to be plain -/
def PTupAt (H : Hp) (M : Mu) (a : Addr) (vs : List V) : Prop := ¬ M.has a ∧ ∃ o : Obj, H a = some (.frz o (.tup vs)) ∧ o.dict = none
def KT (K : PySem.W.Frag) (H : Hp) (M : Mu) (a : Addr) (vs : List V) : Prop := KTupAt K a vs ∨ PTupAt H M a vs
def KLstAt (K : PySem.W.Frag) (a : Addr) (vs : List V) : Prop := ∃ (o : Obj) (its : Array Value) (n : Nat), K.lookup a = some o ∧ o.cls = .type "list" ∧ o.dict = none ∧ o.data = .seq its n ∧ its.size ≤ sizeLine ∧ Vals vs its.toList
def LstAt (H : Hp) (M : Mu) (a : Addr) (vs : List V) : Prop := ¬ M.has a ∧ Rd H a (.lst vs)
/-- an exception that was caught: an object of the class cls without a dict -/
def EO (cls : Value) (a : Addr) : HO := .ext fun h => ∃ (oe : Obj) (vs : Array Value), h.get? a = some oe ∧ Zc cls none oe ∧ oe.data = .fields vs
def ExcAt (K : PySem.W.Frag) (H : Hp) (M : Mu) (x : Str) (a : Addr) : Prop := ¬ M.has a ∧ H a = some (EO (.ref (He.ga K x)) a)
abbrev okS (x : Str) : Bool := PyData.strOk x
mutual
inductive Rep (K : PySem.W.Frag) (H : Hp) (M : Mu) : D → V → Prop
  | non : Rep K H M .non .non
  | bl (b : Bool) : Rep K H M (.bl b) (.bl b)
  | int (i : Int) : Rep K H M (.int i) (.int i)
  | str (x : Str) (h : okS x = true) : Rep K H M (.str x) (.str x)
  | ref (a : Addr) : Rep K H M (.ref a) (.ref a)
  | ty (n : String) : Rep K H M (.ty n) (.ty n)
  | exc {x : Str} {a : Addr} : ExcAt K H M x a → Rep K H M (.exc x) (.ref a)
  | cls (x : Str) : Rep K H M (.cls x) (.ref (He.ga K x))
  | tup {a : Addr} {vs : List V} {ds : List D} : TupAt H M a vs → RepL K H M ds vs → ds.length ≤ sizeLine → Rep K H M (.tup ds) (.ref a)
  | kt {a : Addr} {vs : List V} {ds : List D} : KT K H M a vs → RepL K H M ds vs → ds.length ≤ sizeLine → Rep K H M (.kt ds) (.ref a)
  | kl {a : Addr} {vs : List V} {ds : List D} : (LstAt H M a vs ∨ KLstAt K a vs) → RepL K H M ds vs → ds.length ≤ sizeLine → Rep K H M (.kl ds) (.ref a)
  | lst {a : Addr} {vs : List V} {ds : List D} : LstAt H M a vs → RepL K H M ds vs → ds.length ≤ sizeLine → Rep K H M (.lst ds) (.ref a)
inductive RepL (K : PySem.W.Frag) (H : Hp) (M : Mu) : List D → List V → Prop
  | nil : RepL K H M [] []
  | cons {d : D} {v : V} {ds : List D} {vs : List V} : Rep K H M d v → RepL K H M ds vs → RepL K H M (d :: ds) (v :: vs)
end
/-- what was tracked and not to be changed stands, and is still not to be changed -/
structure Ext (H : Hp) (M : Mu) (H' : Hp) (M' : Mu) : Prop where
  kp : ∀ a o, H a = some o → ¬ M.m a → H' a = some o ∧ ¬ M'.m a
  bz : ∀ a, H a ≠ none → M'.b a → M.b a
  tr : ∀ a, H a ≠ none → H' a ≠ none
section
variable {K : PySem.W.Frag} {H H' H1 H2 : Hp} {M M' M1 M2 : Mu} {a : Addr} {vs : List V} {ds es : List D} {d : D} {v : V}
theorem Ext.refl : Ext H M H M := ⟨fun _ _ h n => ⟨h, n⟩, fun _ _ h => h, fun _ h => h⟩
theorem Ext.trans (x : Ext H M H1 M1) (y : Ext H1 M1 H2 M2) : Ext H M H2 M2 :=
  ⟨fun a o h n => y.kp a o (x.kp a o h n).1 (x.kp a o h n).2, fun a h m => x.bz a h (y.bz a (x.tr a h) m), fun a h => y.tr a (x.tr a h)⟩
theorem Ext.at_ {o : HO} (e : Ext H M H' M') (h : H a = some o) (n : ¬ M.has a) : H' a = some o ∧ ¬ M'.has a := by
  obtain ⟨h1, h2⟩ := e.kp a o h fun z => n (.inl z)
  refine ⟨h1, fun z => ?_⟩
  rcases z with z | z
  · exact h2 z
  · exact n (.inr (e.bz a (by rw [h]; exact fun z => nomatch z) z))
theorem TupAt.ext (h : TupAt H M a vs) (e : Ext H M H' M') : TupAt H' M' a vs := ⟨(e.at_ h.2 h.1).2, (e.at_ h.2 h.1).1⟩
theorem ExcAt.ext {x : Str} (h : ExcAt K H M x a) (e : Ext H M H' M') : ExcAt K H' M' x a := ⟨(e.at_ h.2 h.1).2, (e.at_ h.2 h.1).1⟩
theorem LstAt.ext (h : LstAt H M a vs) (e : Ext H M H' M') : LstAt H' M' a vs := by
  rcases h with ⟨n, h | ⟨o, h⟩⟩
  · exact ⟨(e.at_ h n).2, .inl (e.at_ h n).1⟩
  · exact ⟨(e.at_ h n).2, .inr ⟨o, (e.at_ h n).1⟩⟩
theorem TupAt.sq (h : TupAt H M a vs) : SqT K H a vs := .inl (.inl h.2)
theorem KLstAt.sq (h : KLstAt K a vs) : SqL K H a vs := .inr h
theorem KTupAt.sq (h : KTupAt K a vs) : SqT K H a vs := by
  obtain ⟨o, its, n, h1, h2, _, h3, h4, h5⟩ := h
  exact .inr ⟨o, its, n, h1, h2, h3, h4, h5⟩
theorem PTupAt.sq (h : PTupAt H M a vs) : SqT K H a vs := by
  obtain ⟨_, o, h1, _⟩ := h
  exact .inl (.inr ⟨o, h1⟩)
theorem KT.sq (h : KT K H M a vs) : SqT K H a vs := h.elim (fun h => h.sq) fun h => h.sq
theorem KT.ext (h : KT K H M a vs) (e : Ext H M H' M') : KT K H' M' a vs := h.imp id fun ⟨n, o, h1, h2⟩ => ⟨(e.at_ h1 n).2, o, (e.at_ h1 n).1, h2⟩
theorem KT.weak (h : KT K H M a vs) (e : ∀ a, M'.has a → M.has a) : KT K H M' a vs := h.imp id fun ⟨n, h1⟩ => ⟨fun m => n (e _ m), h1⟩
theorem LstAt.sq (h : LstAt H M a vs) : SqL K H a vs := .inl h.2
mutual
theorem Rep.ext (e : Ext H M H' M') : ∀ {d : D} {v : V}, Rep K H M d v → Rep K H' M' d v
  | _, _, .non => .non
  | _, _, .bl b => .bl b
  | _, _, .int i => .int i
  | _, _, .str x h => .str x h
  | _, _, .ref a => .ref a
  | _, _, .ty n => .ty n
  | _, _, .exc h => .exc (h.ext e)
  | _, _, .cls x => .cls x
  | _, _, .tup h r z => .tup (h.ext e) (RepL.ext e r) z
  | _, _, .lst h r z => .lst (h.ext e) (RepL.ext e r) z
  | _, _, .kt h r z => .kt (h.ext e) (RepL.ext e r) z
  | _, _, .kl h r z => .kl (h.imp (fun h => h.ext e) id) (RepL.ext e r) z
theorem RepL.ext (e : Ext H M H' M') : ∀ {ds : List D} {vs : List V}, RepL K H M ds vs → RepL K H' M' ds vs
  | _, _, .nil => .nil
  | _, _, .cons h t => .cons (Rep.ext e h) (RepL.ext e t)
end
mutual
theorem Rep.weak (e : ∀ a, M'.has a → M.has a) : ∀ {d : D} {v : V}, Rep K H M d v → Rep K H M' d v
  | _, _, .non => .non
  | _, _, .bl b => .bl b
  | _, _, .int i => .int i
  | _, _, .str x h => .str x h
  | _, _, .ref a => .ref a
  | _, _, .ty n => .ty n
  | _, _, .exc h => .exc ⟨fun m => h.1 (e _ m), h.2⟩
  | _, _, .cls x => .cls x
  | _, _, .tup h r z => .tup ⟨fun m => h.1 (e _ m), h.2⟩ (RepL.weak e r) z
  | _, _, .lst h r z => .lst ⟨fun m => h.1 (e _ m), h.2⟩ (RepL.weak e r) z
  | _, _, .kt h r z => .kt (h.weak e) (RepL.weak e r) z
  | _, _, .kl h r z => .kl (h.imp (fun h => ⟨fun m => h.1 (e _ m), h.2⟩) id) (RepL.weak e r) z
theorem RepL.weak (e : ∀ a, M'.has a → M.has a) : ∀ {ds : List D} {vs : List V}, RepL K H M ds vs → RepL K H M' ds vs
  | _, _, .nil => .nil
  | _, _, .cons h t => .cons (Rep.weak e h) (RepL.weak e t)
end
theorem RepL.length : ∀ {ds : List D} {vs : List V}, RepL K H M ds vs → vs.length = ds.length
  | _, _, .nil => rfl
  | _, _, .cons _ t => by rw [List.length_cons, List.length_cons, RepL.length t]
theorem RepL.get : ∀ {ds : List D} {vs : List V} {i : Nat} {d : D}, RepL K H M ds vs → ds[i]? = some d → ∃ v, vs[i]? = some v ∧ Rep K H M d v
  | _, _, _, _, .nil, e => by simp at e
  | _, _, 0, _, .cons r _, e => by simp at e; subst e; exact ⟨_, rfl, r⟩
  | _, _, i + 1, d, .cons _ t, e => by
    obtain ⟨u, h1, h2⟩ := RepL.get (i := i) (d := d) t (by simpa using e)
    exact ⟨u, by simpa using h1, h2⟩
theorem RepL.get' : ∀ {ds : List D} {vs : List V} {i : Nat} {v : V}, RepL K H M ds vs → vs[i]? = some v → ∃ d, ds[i]? = some d ∧ Rep K H M d v
  | _, _, _, _, .nil, e => by simp at e
  | _, _, 0, _, .cons r _, e => by simp at e; subst e; exact ⟨_, rfl, r⟩
  | _, _, i + 1, d, .cons _ t, e => by
    obtain ⟨u, h1, h2⟩ := RepL.get' (i := i) (v := d) t (by simpa using e)
    exact ⟨u, by simpa using h1, h2⟩
theorem RepL.append : ∀ {ds es : List D} {vs ws : List V}, RepL K H M ds vs → RepL K H M es ws → RepL K H M (ds ++ es) (vs ++ ws)
  | _, _, _, _, .nil, s => s
  | _, _, _, _, .cons r t, s => .cons r (RepL.append t s)
theorem RepL.take : ∀ {ds : List D} {vs : List V} (n : Nat), RepL K H M ds vs → RepL K H M (ds.take n) (vs.take n)
  | _, _, 0, _ => .nil
  | _, _, _ + 1, .nil => .nil
  | _, _, n + 1, .cons r t => .cons r (RepL.take n t)
theorem RepL.drop : ∀ {ds : List D} {vs : List V} (n : Nat), RepL K H M ds vs → RepL K H M (ds.drop n) (vs.drop n)
  | _, _, 0, r => r
  | _, _, _ + 1, .nil => .nil
  | _, _, n + 1, .cons _ t => RepL.drop n t
theorem RepL.set {x : D} {u : V} (r : Rep K H M x u) : ∀ {ds : List D} {vs : List V} (i : Nat), RepL K H M ds vs → RepL K H M (ds.set i x) (vs.set i u)
  | _, _, _, .nil => .nil
  | _, _, 0, .cons _ t => .cons r t
  | _, _, i + 1, .cons q t => .cons q (RepL.set r i t)
theorem RepL.eraseIdx : ∀ {ds : List D} {vs : List V} (i : Nat), RepL K H M ds vs → RepL K H M (ds.eraseIdx i) (vs.eraseIdx i)
  | _, _, _, .nil => .nil
  | _, _, 0, .cons _ t => t
  | _, _, i + 1, .cons q t => .cons q (RepL.eraseIdx i t)
theorem RepL.reverse {ds : List D} {vs : List V} (r : RepL K H M ds vs) : RepL K H M ds.reverse vs.reverse := by
  induction ds generalizing vs with
  | nil => cases r; exact .nil
  | cons d ds ih =>
    cases r with
    | cons r t => rw [List.reverse_cons, List.reverse_cons]; exact (ih t).append (.cons r .nil)
theorem RepL.nil_iff {ds : List D} {vs : List V} (r : RepL K H M ds vs) : vs = [] ↔ ds = [] := by
  cases r <;> simp
theorem RepL.ints : ∀ {ns : List Int} {vs : List V}, RepL K H M (ns.map D.int) vs → vs = ns.map V.int
  | [], _, .nil => rfl
  | n :: ns, _, .cons (.int _) t => by rw [RepL.ints t]; rfl
theorem repL_ints : ∀ ns : List Int, RepL K H M (ns.map D.int) (ns.map V.int)
  | [] => .nil
  | n :: ns => .cons (.int n) (repL_ints ns)
theorem RepL.strs : ∀ {ns : List Str} {vs : List V}, RepL K H M (ns.map D.str) vs → vs = ns.map V.str ∧ ∀ x ∈ ns, okS x = true
  | [], _, .nil => ⟨rfl, fun _ h => nomatch h⟩
  | n :: ns, _, .cons (.str _ h) t => by
    obtain ⟨e, k⟩ := RepL.strs t
    exact ⟨by rw [e]; rfl, fun x hx => (List.mem_cons.mp hx).elim (fun z => z ▸ h) (k x)⟩
theorem repL_strs : ∀ ns : List Str, (∀ x ∈ ns, okS x = true) → RepL K H M (ns.map D.str) (ns.map V.str)
  | [], _ => .nil
  | n :: ns, h => .cons (.str n (h n List.mem_cons_self)) (repL_strs ns fun x hx => h x (List.mem_cons_of_mem _ hx))
end

/-- what a cell says of the object -/
def CellR (K : PySem.W.Frag) (H : Hp) (M : Mu) : Cell → HO → Prop
  | .lst ds, .lst vs => RepL K H M ds vs ∧ ds.length ≤ sizeLine
  | .dk kvs, .dK ws => ws.map (·.1) = kvs.map (·.1) ∧ RepL K H M (kvs.map (·.2)) (ws.map (·.2))
  | .dt kvs, .dT ws => ws.map (·.1) = kvs.map (·.1) ∧ RepL K H M (kvs.map (·.2)) (ws.map (·.2))
  | .ins C dx fs, .ins C' dx' ws => C = C' ∧ dx = dx' ∧ ws.map (·.1) = fs.map (·.1) ∧ RepL K H M (fs.map (·.2)) (ws.map (·.2))
  | _, _ => False
structure StoOk (K : PySem.W.Frag) (H : Hp) (B : Bz) (st : Sto) : Prop where
  at_ : ∀ a c, st a = some c → ∃ o, H a = some o ∧ CellR K H (mu st B) c o
  bu : ∀ a, B a → H a ≠ none
  nb : ∀ a, B a → st a = none
section
variable {K : PySem.W.Frag} {H H' : Hp} {B : Bz} {st st' : Sto} {M M' : Mu} {a p : Addr} {c : Cell} {o : HO}
theorem CellR.ext (h : CellR K H M c o) (e : Ext H M H' M') : CellR K H' M' c o := by
  cases c <;> cases o <;> first | exact h.elim | skip
  · exact ⟨h.1.ext e, h.2⟩
  · exact ⟨h.1, h.2.ext e⟩
  · exact ⟨h.1, h.2.ext e⟩
  · exact ⟨h.1, h.2.1, h.2.2.1, h.2.2.2.ext e⟩
theorem StoOk.some_ (h : StoOk K H B st) (q : st a = some c) : H a ≠ none := by
  obtain ⟨o, e, _⟩ := h.at_ a c q
  rw [e]; exact fun z => nomatch z
theorem StoOk.none_ (h : StoOk K H B st) (e : H p = none) : st p = none := by
  cases q : st p with
  | none => rfl
  | some c => exact absurd e (h.some_ q)
theorem StoOk.fresh (h : StoOk K H B st) (e : H p = none) : ¬ (mu st B).has p := fun m => by
  rcases m with m | m
  · exact m (h.none_ e)
  · exact h.bu p m e
theorem upd_tr (a : Addr) (h : H a ≠ none) : upd H p o a ≠ none := by
  by_cases z : a = p
  · subst z; rw [upd_same]; exact fun z => nomatch z
  · rw [upd_ne z]; exact h
theorem ext_new (e : H p = none) : Ext H M (upd H p o) M := ⟨fun a u h n => ⟨by rw [upd_ne (ne_of_none h e)]; exact h, n⟩, fun _ _ h => h, upd_tr⟩
theorem nsome {o : HO} (h : H a = some o) : H a ≠ none := by rw [h]; exact fun z => nomatch z
/-- a new object is laid -/
theorem StoOk.new (h : StoOk K H B st) (e : H p = none) : StoOk K (upd H p o) B st :=
  ⟨fun a c q => by
    obtain ⟨u, e1, r⟩ := h.at_ a c q
    exact ⟨u, by rw [upd_ne (ne_of_none e1 e)]; exact e1, r.ext (ext_new e)⟩, fun a m => upd_tr a (h.bu a m), h.nb⟩
/-- a new object is laid, and filled: it is busy -/
theorem StoOk.busy (h : StoOk K H B st) (e : H p = none) : StoOk K (upd H p o) (fun a => B a ∨ a = p) st ∧ Ext H (mu st B) (upd H p o) (mu st fun a => B a ∨ a = p) := by
  have x : Ext H (mu st B) (upd H p o) (mu st fun a => B a ∨ a = p) := ⟨fun a u q n => ⟨by rw [upd_ne (ne_of_none q e)]; exact q, n⟩, fun a q m => by
    rcases m with m | m
    · exact m
    · subst m; exact absurd e q, upd_tr⟩
  refine ⟨⟨fun a c q => ?_, fun a m => ?_, fun a m => ?_⟩, x⟩
  · obtain ⟨u, e1, r⟩ := h.at_ a c q
    exact ⟨u, by rw [upd_ne (ne_of_none e1 e)]; exact e1, r.ext x⟩
  · rcases m with m | m
    · exact upd_tr a (h.bu a m)
    · subst m; rw [upd_same]; exact fun z => nomatch z
  · rcases m with m | m
    · exact h.nb a m
    · subst m; exact h.none_ e
/-- a busy object is written -/
theorem StoOk.fill (h : StoOk K H B st) (b : B p) (n : st p = none) : StoOk K (upd H p o) B st ∧ ∀ {d v}, Rep K H (mu st B) d v → Rep K (upd H p o) (mu st B) d v := by
  have rr : ∀ a, a ≠ p → upd H p o a = H a := fun a z => upd_ne z
  have x : Ext H ⟨fun a => st a ≠ none ∨ a = p, B⟩ (upd H p o) (mu st B) := ⟨fun a u q m => ⟨by rw [upd_ne fun z => m (.inr z)]; exact q, fun z => m (.inl z)⟩, fun _ _ m => m, upd_tr⟩
  have y : Ext H (mu st B) H ⟨fun a => st a ≠ none ∨ a = p, B⟩ → True := fun _ => trivial
  -- nothing leans on a busy object
  have rep : ∀ {d v}, Rep K H (mu st B) d v → Rep K H ⟨fun a => st a ≠ none ∨ a = p, B⟩ d v := fun {d v} r => Rep.weak (fun a m => by
    rcases m with (m | m) | m
    · exact .inl m
    · subst m; exact .inr b
    · exact .inr m) r
  have repL : ∀ {d v}, RepL K H (mu st B) d v → RepL K H ⟨fun a => st a ≠ none ∨ a = p, B⟩ d v := fun {d v} r => RepL.weak (fun a m => by
    rcases m with (m | m) | m
    · exact .inl m
    · subst m; exact .inr b
    · exact .inr m) r
  refine ⟨⟨fun a c q => ?_, fun a m => upd_tr a (h.bu a m), h.nb⟩, fun {d v} r => (rep r).ext x⟩
  obtain ⟨u, e1, r⟩ := h.at_ a c q
  refine ⟨u, by rw [upd_ne fun z => by subst z; rw [n] at q; cases q]; exact e1, ?_⟩
  have r2 : CellR K H ⟨fun a => st a ≠ none ∨ a = p, B⟩ c u := by
    cases c <;> cases u <;> first | exact r.elim | skip
    · exact ⟨repL r.1, r.2⟩
    · exact ⟨r.1, repL r.2⟩
    · exact ⟨r.1, repL r.2⟩
    · exact ⟨r.1, r.2.1, r.2.2.1, repL r.2.2.2⟩
  exact r2.ext x
/-- a new object becomes a cell -/
theorem StoOk.put (h : StoOk K H B st) (e : H p = none) (k : CellR K H (mu st B) c o) : StoOk K (upd H p o) B (st.set p c) ∧ Ext H (mu st B) (upd H p o) (mu (st.set p c) B) := by
  have e2 : Ext H (mu st B) (upd H p o) (mu (st.set p c) B) := ⟨fun a u q n => ⟨by rw [upd_ne (ne_of_none q e)]; exact q, fun m => n (by
    have m : st.set p c a ≠ none := m
    rw [Sto.set_ne (ne_of_none q e)] at m; exact m)⟩, fun _ _ m => m, upd_tr⟩
  refine ⟨⟨fun a c' q => ?_, (h.new e).bu, fun a m => by
    rw [Sto.set_ne (fun z => by subst z; exact h.bu _ m e)]; exact h.nb a m⟩, e2⟩
  by_cases z : a = p
  · subst z
    rw [Sto.set_same] at q; cases q
    exact ⟨o, upd_same, k.ext e2⟩
  · rw [Sto.set_ne z] at q
    obtain ⟨u, e1, r⟩ := h.at_ a c' q
    exact ⟨u, by rw [upd_ne z]; exact e1, r.ext e2⟩
/-- a cell is written -/
theorem StoOk.write {c0 : Cell} (h : StoOk K H B st) (e : st p = some c0) (k : CellR K H (mu st B) c o) : StoOk K (upd H p o) B (st.set p c) ∧ Ext H (mu st B) (upd H p o) (mu (st.set p c) B) := by
  have e2 : Ext H (mu st B) (upd H p o) (mu (st.set p c) B) := ⟨fun a u q n => by
    have ne : a ≠ p := fun z => n (by subst z; show st a ≠ none; rw [e]; exact fun z => nomatch z)
    exact ⟨by rw [upd_ne ne]; exact q, fun m => n (by
      have m : st.set p c a ≠ none := m
      rw [Sto.set_ne ne] at m; exact m)⟩, fun _ _ m => m, upd_tr⟩
  refine ⟨⟨fun a c' q => ?_, fun a m => upd_tr a (h.bu a m), fun a m => by
    rw [Sto.set_ne (fun z => by subst z; rw [h.nb _ m] at e; cases e)]; exact h.nb a m⟩, e2⟩
  by_cases z : a = p
  · subst z
    rw [Sto.set_same] at q; cases q
    exact ⟨o, upd_same, k.ext e2⟩
  · rw [Sto.set_ne z] at q
    obtain ⟨u, e1, r⟩ := h.at_ a c' q
    exact ⟨u, by rw [upd_ne z]; exact e1, r.ext e2⟩
/-- cells are forgotten -/
theorem StoOk.drop (h : StoOk K H B st) (k : ∀ a c, st' a = some c → st a = some c) : StoOk K H B st' ∧ Ext H (mu st B) H (mu st' B) := by
  have e2 : Ext H (mu st B) H (mu st' B) := ⟨fun a u q n => ⟨q, fun m => n (by
    intro z
    have m : st' a ≠ none := m
    apply m
    cases q : st' a with
    | none => rfl
    | some c => rw [k a c q] at z; cases z)⟩, fun _ _ m => m, fun _ h => h⟩
  exact ⟨⟨fun a c q => let ⟨o, e1, r⟩ := h.at_ a c (k a c q); ⟨o, e1, r.ext e2⟩, h.bu, fun a m => by
    cases q : st' a with
    | none => rfl
    | some c =>
      have := k a c q
      rw [h.nb a m] at this
      cases this⟩, e2⟩
end

/-! ### meanings -/
abbrev Env := List (Option D)
abbrev PoE := D → Sto → Prop
abbrev PoX := Str → Sto → Prop
abbrev WE := Env → Sto → PoX → PoE → Prop
abbrev WT := Env → Sto → PoX → (Bool → Sto → Prop) → Prop
abbrev WA := Env → Sto → PoX → (List D → Sto → Prop) → Prop
structure WEnds where
  nx : Env → Sto → Prop
  rt : PoE
  ex : PoX
  bk : Env → Sto → Prop := fun _ _ => False
  ct : Env → Sto → Prop := fun _ _ => False
abbrev WS := WEnds → Env → Sto → Prop
abbrev WF := List D → Sto → PoX → PoE → Prop

structure EnvOk (K : PySem.W.Frag) (H : Hp) (M : Mu) (e : Env) (σ : L2.St) : Prop where
  len : e.length = σ.length
  at_ : ∀ (i : Nat) (d : D), e[i]? = some (some d) → ∃ v, σ[i]? = some (some v) ∧ Rep K H M d v
theorem EnvOk.ext {K : PySem.W.Frag} {H H' : Hp} {M M' : Mu} {e : Env} {σ : L2.St} (h : EnvOk K H M e σ) (x : Ext H M H' M') : EnvOk K H' M' e σ :=
  ⟨h.len, fun i d q => let ⟨v, e1, r⟩ := h.at_ i d q; ⟨v, e1, r.ext x⟩⟩
theorem EnvOk.set {K : PySem.W.Frag} {H : Hp} {M : Mu} {e : Env} {σ : L2.St} {d : D} {v : V} (h : EnvOk K H M e σ) (i : Nat) (r : Rep K H M d v) : EnvOk K H M (e.set i (some d)) (σ.set i (some v)) :=
  ⟨by rw [List.length_set, List.length_set, h.len], fun j d' q => by
    by_cases z : j = i
    · subst z
      by_cases l : j < e.length
      · rw [List.getElem?_set_self l] at q
        cases q
        exact ⟨v, List.getElem?_set_self (by rw [← h.len]; exact l), r⟩
      · rw [List.getElem?_eq_none (by simpa using l)] at q; cases q
    · rw [List.getElem?_set_ne (Ne.symm z)] at q
      rw [List.getElem?_set_ne (Ne.symm z)]
      exact h.at_ j d' q⟩
/-- what is known of the state when a value has come -/
def PostE (K : PySem.W.Frag) (B : Bz) (H : Hp) (st : Sto) (Qd : PoE) (Q : VK) : Prop :=
  ∀ d st' v H', Qd d st' → Ext H (mu st B) H' (mu st' B) → StoOk K H' B st' → Rep K H' (mu st' B) d v → Q v H'
def PostX (K : PySem.W.Frag) (mg : Str → Option Value) (B : Bz) (H : Hp) (st : Sto) (Xd : PoX) (E : XK) : Prop :=
  ∀ x st' c H', Xd x st' → mg x = some c → Ext H (mu st B) H' (mu st' B) → StoOk K H' B st' → E c none H'
structure Sit (K : PySem.W.Frag) (B : Bz) (e : Env) (st : Sto) (σ : L2.St) (H : Hp) : Prop where
  env : EnvOk K H (mu st B) e σ
  sto : StoOk K H B st
theorem Sit.on {K : PySem.W.Frag} {B : Bz} {e : Env} {st st' : Sto} {σ : L2.St} {H H' : Hp} (s : Sit K B e st σ H) (x : Ext H (mu st B) H' (mu st' B)) (k : StoOk K H' B st') : Sit K B e st' σ H' := ⟨s.env.ext x, k⟩
theorem PostX.on {K : PySem.W.Frag} {mg : Str → Option Value} {B : Bz} {st st' : Sto} {H H' : Hp} {Xd : PoX} {E : XK} (p : PostX K mg B H st Xd E) (x : Ext H (mu st B) H' (mu st' B)) : PostX K mg B H' st' Xd E :=
  fun a s c H2 h m y k => p a s c H2 h m (x.trans y) k
theorem PostE.on {K : PySem.W.Frag} {B : Bz} {st st' : Sto} {H H' : Hp} {Qd : PoE} {Q : VK} (p : PostE K B H st Qd Q) (x : Ext H (mu st B) H' (mu st' B)) : PostE K B H' st' Qd Q :=
  fun d s v H2 h y k r => p d s v H2 h (x.trans y) k r
def tE (K : PySem.W.Frag) (mg : Str → Option Value) (E : XK) (m : WE) : TE := fun σ H Q => ∃ B e st Qd Xd, Sit K B e st σ H ∧ PostE K B H st Qd Q ∧ PostX K mg B H st Xd E ∧ m e st Xd Qd
def tT (K : PySem.W.Frag) (mg : Str → Option Value) (E : XK) (m : WT) : TT := fun σ H Q => ∃ B e st Qd Xd, Sit K B e st σ H ∧
  (∀ b st' H', Qd b st' → Ext H (mu st B) H' (mu st' B) → StoOk K H' B st' → Q b H') ∧ PostX K mg B H st Xd E ∧ m e st Xd Qd
def tA (K : PySem.W.Frag) (mg : Str → Option Value) (E : XK) (m : WA) : TA := fun σ H Q => ∃ B e st Qd Xd, Sit K B e st σ H ∧
  (∀ ds st' vs H', Qd ds st' → Ext H (mu st B) H' (mu st' B) → StoOk K H' B st' → RepL K H' (mu st' B) ds vs → Q vs H') ∧ PostX K mg B H st Xd E ∧ m e st Xd Qd
structure EndsOk (K : PySem.W.Frag) (mg : Str → Option Value) (E : XK) (B : Bz) (H : Hp) (st : Sto) (W : WEnds) (D : Ends) : Prop where
  nx : ∀ e' st' σ' H', W.nx e' st' → Sit K B e' st' σ' H' → Ext H (mu st B) H' (mu st' B) → D.nx σ' H'
  rt : PostE K B H st W.rt D.rt
  ex : PostX K mg B H st W.ex E
  bk : ∀ e' st' σ' H', W.bk e' st' → Sit K B e' st' σ' H' → Ext H (mu st B) H' (mu st' B) → D.bk σ' H'
  ct : ∀ e' st' σ' H', W.ct e' st' → Sit K B e' st' σ' H' → Ext H (mu st B) H' (mu st' B) → D.ct σ' H'
theorem EndsOk.on {K : PySem.W.Frag} {mg : Str → Option Value} {E : XK} {B : Bz} {st st' : Sto} {H H' : Hp} {W : WEnds} {D : Ends} (p : EndsOk K mg E B H st W D) (x : Ext H (mu st B) H' (mu st' B)) : EndsOk K mg E B H' st' W D :=
  ⟨fun e s σ H2 h k y => p.nx e s σ H2 h k (x.trans y), p.rt.on x, p.ex.on x, fun e s σ H2 h k y => p.bk e s σ H2 h k (x.trans y), fun e s σ H2 h k y => p.ct e s σ H2 h k (x.trans y)⟩
def tS (K : PySem.W.Frag) (mg : Str → Option Value) (E : XK) (m : WS) : TS := fun D σ H => ∃ B e st W, Sit K B e st σ H ∧ EndsOk K mg E B H st W D ∧ m W e st
/-- a def's promise -/
def spF (K : PySem.W.Frag) (mg : Str → Option Value) (n : Nat) (F : WF) : Sp := fun vs H Q E => ∃ B ds st Qd Xd, vs.length = n ∧ StoOk K H B st ∧ RepL K H (mu st B) ds vs ∧ PostE K B H st Qd Q ∧ PostX K mg B H st Xd E ∧ F ds st Xd Qd
/-- another reading -/
theorem pe_imp {X : Cx} {e : Expr} {t t' : TE} (h : PE X e t) (i : ∀ σ H Q, t' σ H Q → t σ H Q) : PE X e t' := ⟨fun pins s σ H Q I q => h.run pins s σ H Q I (i _ _ _ q)⟩
theorem pt_imp {X : Cx} {e : Expr} {t t' : TT} (h : PT X e t) (i : ∀ σ H Q, t' σ H Q → t σ H Q) : PT X e t' := ⟨fun pins s σ H Q I q => h.run pins s σ H Q I (i _ _ _ q)⟩
theorem pa_imp {X : Cx} {e : List Expr} {t t' : TA} (h : PA X e t) (i : ∀ σ H Q, t' σ H Q → t σ H Q) : PA X e t' := ⟨fun p pins s σ H Q I q => h.run p pins s σ H Q I (i _ _ _ q)⟩
theorem ps_imp {X : Cx} {e : Stmt} {t t' : TS} (h : PS X e t) (i : ∀ D σ H, t' D σ H → t D σ H) : PS X e t' := ⟨fun pins s σ H Q I q => h.run pins s σ H Q I (i _ _ _ q)⟩
theorem pss_imp {X : Cx} {e : List Stmt} {t t' : TS} (h : PSs X e t) (i : ∀ D σ H, t' D σ H → t D σ H) : PSs X e t' := ⟨fun pins s σ H Q I q => h.run pins s σ H Q I (i _ _ _ q)⟩
end DL
namespace DL
open PySem PySem.Spec PyProof.Rows L2

/-! ### chains of options -/
def on {α : Type} (o : Option α) (k : α → Prop) : Prop := match o with | some a => k a | none => False
@[simp] theorem on_some {α : Type} {a : α} {k : α → Prop} : on (some a) k = k a := id rfl
@[simp] theorem on_none {α : Type} {k : α → Prop} : on none k = False := id rfl
theorem on_iff {α : Type} {o : Option α} {k : α → Prop} : on o k ↔ ∃ a, o = some a ∧ k a := by
  cases o with
  | none => simp
  | some a => simp
theorem on_map {α β : Type} {f : α → β} {o : Option α} {k : β → Prop} : on (o.map f) k = on o fun a => k (f a) := by cases o <;> rfl

/-! ### views -/
def cellL : Option Cell → Option (List D)
  | some (.lst ds) => some ds
  | _ => none
@[simp] theorem cellL_lst {ds : List D} : cellL (some (.lst ds)) = some ds := rfl
theorem cellL_iff {c : Option Cell} {ds : List D} : cellL c = some ds ↔ c = some (.lst ds) := by
  constructor
  · intro h
    unfold cellL at h
    split at h <;> cases h
    rfl
  · intro h; rw [h]; rfl
def lsOf (st : Sto) : D → Option (List D)
  | .lst ds => some ds
  | .ref a => cellL (st a)
  | _ => none
def tpOf : D → Option (List D)
  | .tup ds => some ds
  | .kt ds => some ds
  | _ => none
def lqOf (st : Sto) : D → Option (List D)
  | .kl ds => some ds
  | d => lsOf st d
def sqOf (st : Sto) (d : D) : Option (List D) := match tpOf d with | some ds => some ds | none => lqOf st d
@[simp] theorem sqOf_kl {st : Sto} {ds : List D} : sqOf st (.kl ds) = some ds := rfl
@[simp] theorem lsOf_lst {st : Sto} {ds : List D} : lsOf st (.lst ds) = some ds := rfl
@[simp] theorem sqOf_lst {st : Sto} {ds : List D} : sqOf st (.lst ds) = some ds := rfl
@[simp] theorem sqOf_tup {st : Sto} {ds : List D} : sqOf st (.tup ds) = some ds := rfl
@[simp] theorem sqOf_kt {st : Sto} {ds : List D} : sqOf st (.kt ds) = some ds := rfl
theorem lsOf_ref {st : Sto} {a : Addr} {ds : List D} (h : st a = some (.lst ds)) : lsOf st (.ref a) = some ds := cellL_iff.mpr h
theorem sqOf_ref {st : Sto} {a : Addr} {ds : List D} (h : st a = some (.lst ds)) : sqOf st (.ref a) = some ds := lsOf_ref h
mutual
def toPy : D → Option PyData
  | .non => some .none
  | .bl b => some (.bool b)
  | .int i => some (.int i)
  | .str x => some (.str x)
  | .tup ds => (toPyL ds).map .tuple
  | .kt ds => (toPyL ds).map .tuple
  | .lst ds => (toPyL ds).map .list
  | .kl _ => none
  | .ref _ => none
  | .ty _ => none
  | .exc _ => none
  | .cls _ => none
def toPyL : List D → Option (List PyData)
  | [] => some []
  | d :: ds => match toPy d, toPyL ds with | some p, some ps => some (p :: ps) | _, _ => none
end
/-- data; a changed list of data -/
def pyOf (st : Sto) : D → Option PyData
  | .ref a => (cellL (st a)).bind fun ds => (toPyL ds).map .list
  | d => toPy d
/-- a dict's key -/
def keyOf : D → Option Key
  | .int i => some (.inl i)
  | .str x => some (.inr x)
  | _ => none
def keysOf : List D → Option (List Key)
  | [] => some []
  | d :: ds => match keyOf d, keysOf ds with | some k, some ks => some (k :: ks) | _, _ => none
def valD {κ : Type} [DecidableEq κ] : List (κ × D) → κ → Option D
  | [], _ => none
  | (k, d) :: r, x => if k = x then some d else valD r x

section
variable {K : PySem.W.Frag} {H : Hp} {B : Bz} {M : Mu} {st : Sto} {a p : Addr} {vs : List V} {ds : List D} {d : D} {v : V}
theorem tp_of (r : Rep K H M d v) (e : tpOf d = some ds) : ∃ a vs, v = .ref a ∧ SqT K H a vs ∧ RepL K H M ds vs ∧ ds.length ≤ sizeLine := by
  cases r <;> cases e
  · rename_i h r z; exact ⟨_, _, rfl, h.sq, r, z⟩
  · rename_i h r z; exact ⟨_, _, rfl, h.sq, r, z⟩
theorem ls_of (k : StoOk K H B st) (r : Rep K H (mu st B) d v) (e : lsOf st d = some ds) : ∃ a vs, v = .ref a ∧ Rd H a (.lst vs) ∧ RepL K H (mu st B) ds vs ∧ ds.length ≤ sizeLine := by
  cases r <;> try cases e
  · rename_i a
    have q := cellL_iff.mp (show cellL (st a) = some ds from e)
    obtain ⟨o, e1, r1⟩ := k.at_ a _ q
    cases o <;> try exact r1.elim
    exact ⟨a, _, rfl, .inl e1, r1.1, r1.2⟩
  · rename_i h r z; exact ⟨_, _, rfl, h.2, r, z⟩
theorem lq_of (k : StoOk K H B st) (r : Rep K H (mu st B) d v) (e : lqOf st d = some ds) : ∃ a vs, v = .ref a ∧ SqL K H a vs ∧ RepL K H (mu st B) ds vs ∧ ds.length ≤ sizeLine := by
  unfold lqOf at e
  split at e
  · cases e
    cases r with
    | kl h r z => exact ⟨_, _, rfl, h.elim (fun h => h.sq) (fun h => h.sq), r, z⟩
  · obtain ⟨a, vs, e1, h, r2, z⟩ := ls_of k r e
    exact ⟨a, vs, e1, .inl h, r2, z⟩
theorem sq_of (k : StoOk K H B st) (r : Rep K H (mu st B) d v) (e : sqOf st d = some ds) : ∃ a vs, v = .ref a ∧ (SqL K H a vs ∨ SqT K H a vs) ∧ RepL K H (mu st B) ds vs ∧ ds.length ≤ sizeLine := by
  unfold sqOf at e
  cases q : tpOf d with
  | some es =>
    rw [q] at e; cases e
    obtain ⟨a, vs, e1, h, r2, z⟩ := tp_of r q
    exact ⟨a, vs, e1, .inr h, r2, z⟩
  | none =>
    rw [q] at e
    obtain ⟨a, vs, e1, h, r2, z⟩ := lq_of k r e
    exact ⟨a, vs, e1, .inl h, r2, z⟩
mutual
theorem Rep.dp : ∀ {d : D} {v : V} {p : PyData}, Rep K H M d v → toPy d = some p → Dp K H v p ∧ p.canLay0 = true
  | _, _, _, .non, e => by cases e; exact ⟨.non, rfl⟩
  | _, _, _, .bl b, e => by cases e; exact ⟨.bl b, rfl⟩
  | _, _, _, .int i, e => by cases e; exact ⟨.int i, rfl⟩
  | _, _, _, .str x h, e => by cases e; exact ⟨.str x, h⟩
  | _, _, _, .ref _, e => by cases e
  | _, _, _, .ty _, e => by cases e
  | _, _, _, .kl _ _ _, e => by cases e
  | _, _, p, .tup (ds := ds) h r z, e => by
    unfold toPy at e
    cases q : toPyL ds with
    | none => rw [q] at e; cases e
    | some ps =>
      rw [q] at e; cases e
      obtain ⟨x, y⟩ := RepL.dp r q
      exact ⟨.tup h.sq x, y⟩
  | _, _, p, .kt (ds := ds) h r z, e => by
    unfold toPy at e
    cases q : toPyL ds with
    | none => rw [q] at e; cases e
    | some ps =>
      rw [q] at e; cases e
      obtain ⟨x, y⟩ := RepL.dp r q
      exact ⟨.tup h.sq x, y⟩
  | _, _, p, .lst (ds := ds) h r z, e => by
    unfold toPy at e
    cases q : toPyL ds with
    | none => rw [q] at e; cases e
    | some ps =>
      rw [q] at e; cases e
      obtain ⟨x, y⟩ := RepL.dp r q
      exact ⟨.lst h.sq x, y⟩
theorem RepL.dp : ∀ {ds : List D} {vs : List V} {ps : List PyData}, RepL K H M ds vs → toPyL ds = some ps → DpAll K H vs ps ∧ PyData.canLayAll0 ps = true
  | _, _, _, .nil, e => by cases e; exact ⟨.nil, rfl⟩
  | _, _, _, .cons (d := d) (ds := ds) h t, e => by
    unfold toPyL at e
    cases q : toPy d with
    | none => rw [q] at e; cases e
    | some p =>
      cases q2 : toPyL ds with
      | none => rw [q, q2] at e; cases e
      | some ps =>
        rw [q, q2] at e; cases e
        obtain ⟨x, y⟩ := Rep.dp h q
        obtain ⟨x2, y2⟩ := RepL.dp t q2
        exact ⟨.cons x x2, by unfold PyData.canLayAll0; rw [y, y2]; rfl⟩
end
theorem py_of {p : PyData} (k : StoOk K H B st) (r : Rep K H (mu st B) d v) (e : pyOf st d = some p) : Dp K H v p ∧ p.canLay0 = true := by
  unfold pyOf at e
  split at e
  · rename_i a
    obtain ⟨ds, q, e⟩ := Option.bind_eq_some_iff.mp e
    have q := cellL_iff.mp q
    cases r
    obtain ⟨o, e1, r1⟩ := k.at_ a _ q
    cases o <;> try exact r1.elim
    obtain ⟨ps, q2, rfl⟩ := Option.map_eq_some_iff.mp e
    obtain ⟨x, y⟩ := RepL.dp r1.1 q2
    exact ⟨.lst (.inl (.inl e1)) x, y⟩
  · exact r.dp e
theorem key_of_ {k : Key} (r : Rep K H M d v) (e : keyOf d = some k) : v = kV k := by
  cases r <;> cases e <;> rfl
theorem keys_of : ∀ {ds : List D} {vs : List V} {ks : List Key}, RepL K H M ds vs → keysOf ds = some ks → vs = ks.map kV
  | _, _, _, .nil, e => by cases e; rfl
  | _, _, _, .cons (d := d) (ds := ds) h t, e => by
    unfold keysOf at e
    cases q : keyOf d with
    | none => rw [q] at e; cases e
    | some k =>
      cases q2 : keysOf ds with
      | none => rw [q, q2] at e; cases e
      | some ks =>
        rw [q, q2] at e; cases e
        rw [key_of_ h q, keys_of t q2]; rfl
theorem rep_key {k : Key} (h : ∀ x, k = .inr x → okS x = true) : ∃ d, keyOf d = some k ∧ Rep K H M d (kV k) := by
  cases k with
  | inl i => exact ⟨.int i, rfl, .int i⟩
  | inr x => exact ⟨.str x, rfl, .str x (h x rfl)⟩

/-! new values -/
theorem new_tup (k : StoOk K H B st) (e : H p = none) (r : RepL K H (mu st B) ds vs) (z : ds.length ≤ sizeLine) :
    Ext H (mu st B) (upd H p (.tup vs)) (mu st B) ∧ StoOk K (upd H p (.tup vs)) B st ∧ Rep K (upd H p (.tup vs)) (mu st B) (.tup ds) (.ref p) :=
  ⟨ext_new e, k.new e, .tup ⟨k.fresh e, upd_same⟩ (r.ext (ext_new e)) z⟩
theorem new_lst (k : StoOk K H B st) (e : H p = none) (r : RepL K H (mu st B) ds vs) (z : ds.length ≤ sizeLine) :
    Ext H (mu st B) (upd H p (.lst vs)) (mu st B) ∧ StoOk K (upd H p (.lst vs)) B st ∧ Rep K (upd H p (.lst vs)) (mu st B) (.lst ds) (.ref p) :=
  ⟨ext_new e, k.new e, .lst ⟨k.fresh e, .inl upd_same⟩ (r.ext (ext_new e)) z⟩
end

/-- what an operation hands on: a value, the store as it was -/
def Giv (K : PySem.W.Frag) (B : Bz) (H : Hp) (st : Sto) (Q : VK) (d : D) : Prop := ∀ v H', Ext H (mu st B) H' (mu st B) → StoOk K H' B st → Rep K H' (mu st B) d v → Q v H'
section
variable {K : PySem.W.Frag} {H : Hp} {B : Bz} {st : Sto} {p : Addr} {vs : List V} {ds : List D} {d : D} {v : V} {Q : VK}
theorem Giv.here (g : Giv K B H st Q d) (k : StoOk K H B st) (r : Rep K H (mu st B) d v) : Q v H := g v H .refl k r
theorem Giv.tup (g : Giv K B H st Q (.tup ds)) (k : StoOk K H B st) (r : RepL K H (mu st B) ds vs) (z : ds.length ≤ sizeLine) : ∀ p, H p = none → Q (.ref p) (upd H p (.tup vs)) := fun p e =>
  let ⟨a, b, c⟩ := new_tup k e r z; g _ _ a b c
theorem Giv.lst (g : Giv K B H st Q (.lst ds)) (k : StoOk K H B st) (r : RepL K H (mu st B) ds vs) (z : ds.length ≤ sizeLine) : ∀ p, H p = none → Q (.ref p) (upd H p (.lst vs)) := fun p e =>
  let ⟨a, b, c⟩ := new_lst k e r z; g _ _ a b c
end
/-- a rule of values serves a function of data -/
def OpOk (K : PySem.W.Frag) (r : R2) (o : Sto → D → D → Option D) : Prop :=
  ∀ (B : Bz) (H : Hp) (st : Sto) (x y : V) (dx dy d : D) (Q : VK), StoOk K H B st → Rep K H (mu st B) dx x → Rep K H (mu st B) dy y → o st dx dy = some d → Giv K B H st Q d → r x y H Q
def UnOk (K : PySem.W.Frag) (r : V → Hp → VK → Prop) (o : Sto → D → Option D) : Prop :=
  ∀ (B : Bz) (H : Hp) (st : Sto) (x : V) (dx d : D) (Q : VK), StoOk K H B st → Rep K H (mu st B) dx x → o st dx = some d → Giv K B H st Q d → r x H Q
/-- a call of values -/
def CaOk (K : PySem.W.Frag) (r : List V → Hp → VK → Prop) (o : Sto → List D → Option D) : Prop :=
  ∀ (B : Bz) (H : Hp) (st : Sto) (xs : List V) (dxs : List D) (d : D) (Q : VK), StoOk K H B st → RepL K H (mu st B) dxs xs → o st dxs = some d → Giv K B H st Q d → r xs H Q

/-! ### + - * // % ** -/
def rCatR : R2 := fun x y H Q => ∃ l b xs zs, x = .ref l ∧ y = .ref b ∧ Rd H l (.lst xs) ∧ Rd H b (.lst zs) ∧ xs.length + zs.length ≤ sizeLine ∧ ∀ p, H p = none → Q (.ref p) (upd H p (.lst (xs ++ zs)))
theorem op_catR {X : Cx} : OpR X (binaryOp .Add) rCatR := by
  intro pins s σ H x y v u Q I rx ry h
  obtain ⟨l, b, xs, zs, rfl, rfl, hH, hB, hz, q⟩ := h
  cases rx
  cases ry
  obtain ⟨z, its, n, r, e⟩ := hH.ok I.hok
  obtain ⟨z2, its2, n2, r2, e2⟩ := hB.ok I.hok
  have hl := r.length
  have hl2 := r2.length
  refine PySem.P.add_list e e2 ?_ (by rw [List.size_toArray, List.size_toArray]; omega)
  have ea : its.toArray ++ its2.toArray = (its ++ its2).toArray := by simp
  rw [ea]
  exact ⟨.ref _, _, I.lnew (t' := s.toks) (r.append r2) (by rw [List.length_append]; omega), rfl, q _ I.fresh⟩
def rAdd (K : PySem.W.Frag) : R2 := fun x y H Q => (rI0 fun i j => .int (i + j)) x y H Q ∨ (∃ i j, x = .str i ∧ y = .str j ∧ i.length + j.length ≤ sizeLine ∧ Q (.str (i ++ j)) H) ∨ rCatA K x y H Q ∨ rCatR x y H Q
theorem op_addD {X : Cx} : OpR X (binaryOp .Add) (rAdd X.K) := op_add.or (op_add_str.or (op_catA.or op_catR))
def catS (x y : Str) : Option D := if x.length + y.length ≤ sizeLine then some (.str (x ++ y)) else none
def catT (xs ys : List D) : Option D := if xs.length + ys.length ≤ sizeLine then some (.tup (xs ++ ys)) else none
def catL (xs ys : List D) : Option D := if xs.length + ys.length ≤ sizeLine then some (.lst (xs ++ ys)) else none
def dAdd (st : Sto) (x y : D) : Option D := match x, y with
  | .int i, .int j => some (.int (i + j))
  | .str a, .str b => catS a b
  | .tup a, .tup b => catT a b
  | .tup _, _ => none
  | x, y => match lsOf st x, lsOf st y with | some a, some b => catL a b | _, _ => none
theorem okS_append {x y : Str} (h : okS x = true) (h' : okS y = true) : okS (x ++ y) = true := by
  obtain ⟨⟨x⟩⟩ := x
  obtain ⟨⟨y⟩⟩ := y
  show (PySem.Str.append ⟨⟨x⟩⟩ ⟨⟨y⟩⟩).cps.all _ = true
  unfold okS PyData.strOk at h h'
  simp [PySem.Str.append] at h h' ⊢
  exact ⟨h, h'⟩
theorem dAdd_ok {K : PySem.W.Frag} : OpOk K (rAdd K) dAdd := by
  intro B H st x y dx dy d Q k rx ry e g
  have lists : ∀ {a b}, lsOf st dx = some a → lsOf st dy = some b → catL a b = some d → rAdd K x y H Q := fun {a b} e1 e2 e3 => by
    obtain ⟨p, vs, rfl, h1, r1, z1⟩ := ls_of k rx e1
    obtain ⟨q, ws, rfl, h2, r2, z2⟩ := ls_of k ry e2
    unfold catL at e3
    split at e3 <;> cases e3
    rename_i hz
    have l1 := r1.length
    have l2 := r2.length
    exact .inr (.inr (.inr ⟨p, q, vs, ws, rfl, rfl, h1, h2, by omega, g.lst k (r1.append r2) (by rw [List.length_append]; exact hz)⟩))
  unfold dAdd at e
  split at e
  · cases e; cases rx; cases ry
    exact .inl ⟨_, _, rfl, rfl, g.here k (.int _)⟩
  · cases rx; cases ry
    unfold catS at e
    split at e <;> cases e
    rename_i h1 h2 hz
    exact .inr (.inl ⟨_, _, rfl, rfl, hz, g.here k (.str _ (okS_append h1 h2))⟩)
  · unfold catT at e
    split at e <;> cases e
    rename_i hz
    obtain ⟨p, vs, rfl, h1, r1, z1⟩ := tp_of rx rfl
    obtain ⟨q, ws, rfl, h2, r2, z2⟩ := tp_of ry rfl
    have l1 := r1.length
    have l2 := r2.length
    refine .inr (.inr (.inl ⟨p, q, vs, ws, rfl, rfl, h1, h2, by omega, fun ez => ?_, fun _ ez => ?_, fun _ _ => g.tup k (r1.append r2) (by rw [List.length_append]; exact hz)⟩))
    · rw [r1.nil_iff.mp ez] at g
      exact g.here k ry
    · rw [r2.nil_iff.mp ez, List.append_nil] at g
      exact g.here k rx
  · cases e
  · split at e
    · rename_i e1 e2; exact lists e1 e2 e
    · cases e
def dSub (_ : Sto) : D → D → Option D
  | .int i, .int j => some (.int (i - j))
  | _, _ => none
theorem dSub_ok {K : PySem.W.Frag} : OpOk K (rI0 fun i j => .int (i - j)) dSub := by
  intro B H st x y dx dy d Q k rx ry e g
  unfold dSub at e
  split at e <;> cases e
  cases rx; cases ry
  exact ⟨_, _, rfl, rfl, g.here k (.int _)⟩
instance (i j : Int) : Decidable (CMulW i j) := by unfold CMulW; infer_instance
instance (i j : Int) : Decidable (CDivW i j) := by unfold CDivW; infer_instance
/-- a product; a tuple, a list times a number -/
def mulL (xs : List D) (k : Int) : List D := (List.replicate k.toNat xs).flatten
def rRepR : R2 := fun x y H Q => ∃ l k xs, x = .ref l ∧ y = .int k ∧ Rd H l (.lst xs) ∧ -(2 ^ 63) ≤ k ∧ k < 2 ^ 63 ∧ xs.length * k.toNat ≤ sizeLine ∧ ∀ p, H p = none → Q (.ref p) (upd H p (.lst (List.replicate k.toNat xs).flatten))
theorem op_repR {X : Cx} : OpR X (binaryOp .Mult) rRepR := by
  intro pins s σ H x y v u Q I rx ry h
  obtain ⟨l, k, xs, rfl, rfl, hH, h1, h2, hz, q⟩ := h
  cases rx
  obtain ⟨t, rfl⟩ := ry
  obtain ⟨z, its, n, r, e⟩ := hH.ok I.hok
  have hl := r.length
  have hlen : its.toArray.size * k.toNat ≤ sizeLine := by rw [List.size_toArray, ← hl]; exact hz
  have hcap : ¬ its.toArray.size * k.toNat > (2 ^ 63 - 1) / 8 := by
    have : (sizeLine : Nat) ≤ (2 ^ 63 - 1) / 8 := by decide
    omega
  have hfit : ¬ (!Builtin.List.listFitsIndex k) = true := by
    rw [fitsIndex_both h1 h2]
    exact Bool.false_ne_true
  have hlong : ¬ Builtin.List.listTooLong (its.toArray.size * k.toNat) = true := by
    rw [notLongL hlen]
    exact Bool.false_ne_true
  have hnew : List.foldl (fun x1 x2 => x1 ++ x2) #[] (List.replicate (if its.toArray.isEmpty = true then 0 else k.toNat) its.toArray) = (List.replicate k.toNat its).flatten.toArray := by
    have f0 : ∀ m : Nat, List.foldl (fun x1 x2 => x1 ++ x2) #[] (List.replicate m its.toArray) = (List.replicate m its).flatten.toArray := fun m => by
      have := foldl_rep its m []
      rw [List.nil_append] at this
      exact this
    rw [f0]
    cases its with
    | nil => simp
    | cons a r' => rw [if_neg (by simp)]
  refine wpAny_binaryOp_repeat_ref (T := "list") (U := "int") (by decide) ⟨_, e, rfl⟩ (fun s' => typeIs_int s' k t) noFill_list_mul F.fills_int_mul F.slot_int_rmul repeat_list F.slot_int_index.lookup
    (call_meets F.slot_int_rmul (typeIs_int s k t) F.entry_int_rmul (F.args_int_rmul_2 _ _) (int___rmul___int_list k t l its.toArray n)
      ⟨e, rfl, ⟨_, e, rfl⟩, call_meets F.slot_list_mul ⟨_, e, rfl⟩ F.entry_list_mul (F.args_list_mul_2 _ _) (AutoListH.list___mul___list_int_3 l its.toArray n k t hfit hcap hlong) ⟨e, ?_⟩⟩)
  rw [hnew]
  exact ⟨.ref _, _, I.lnew (t' := s.toks) (r.rep k.toNat) (by rw [PyProof.Rows.lm_len_rep_flat, Nat.mul_comm]; exact hz), rfl, q _ I.fresh⟩
theorem RepL.rep {K : PySem.W.Frag} {H : Hp} {M : Mu} {ds : List D} {vs : List V} (r : RepL K H M ds vs) : ∀ k, RepL K H M (List.replicate k ds).flatten (List.replicate k vs).flatten
  | 0 => .nil
  | k + 1 => by
    rw [List.replicate_succ, List.replicate_succ, List.flatten_cons, List.flatten_cons]
    exact r.append (r.rep k)
def rMulD : R2 := fun x y H Q => (rI CMulW fun i j => .int (i * j)) x y H Q ∨ rRepR x y H Q
theorem op_mulD {X : Cx} : OpR X (binaryOp .Mult) rMulD := op_mulW.or op_repR
def dMul (st : Sto) (x y : D) : Option D := match x, y with
  | .int i, .int j => if CMulW i j then some (.int (i * j)) else none
  | x, .int k => (lsOf st x).bind fun ds => if 0 ≤ k ∧ k < 2 ^ 63 ∧ ds.length * k.toNat ≤ sizeLine then some (.lst (List.replicate k.toNat ds).flatten) else none
  | _, _ => none
theorem dMul_ok {K : PySem.W.Frag} : OpOk K rMulD dMul := by
  intro B H st x y dx dy d Q k rx ry e g
  unfold dMul at e
  split at e
  · split at e <;> cases e
    cases rx; cases ry; exact .inl ⟨_, _, rfl, rfl, by assumption, g.here k (.int _)⟩
  · obtain ⟨ds, e1, e2⟩ := Option.bind_eq_some_iff.mp e
    split at e2 <;> cases e2
    rename_i hz
    obtain ⟨p, vs, rfl, h1, r1, z1⟩ := ls_of k rx e1
    have l1 := r1.length
    cases ry
    refine .inr ⟨p, _, vs, rfl, rfl, h1, by omega, hz.2.1, by rw [l1]; exact hz.2.2, g.lst k (r1.rep _) (by rw [PyProof.Rows.lm_len_rep_flat, Nat.mul_comm]; exact hz.2.2)⟩
  · cases e
def dFdiv (_ : Sto) : D → D → Option D
  | .int i, .int j => if CDivW i j then some (.int (i / j)) else none
  | _, _ => none
theorem dFdiv_ok {K : PySem.W.Frag} : OpOk K (rI CDivW fun i j => .int (i / j)) dFdiv := by
  intro B H st x y dx dy d Q k rx ry e g
  unfold dFdiv at e
  split at e <;> try cases e
  split at e <;> cases e
  rename_i h
  cases rx; cases ry
  exact ⟨_, _, rfl, rfl, h, g.here k (.int _)⟩
def dMod (_ : Sto) : D → D → Option D
  | .int i, .int j => if 0 < j then some (.int (i % j)) else none
  | _, _ => none
theorem dMod_ok {K : PySem.W.Frag} : OpOk K (rI (fun _ j => 0 < j) fun i j => .int (i % j)) dMod := by
  intro B H st x y dx dy d Q k rx ry e g
  unfold dMod at e
  split at e <;> try cases e
  split at e <;> cases e
  rename_i h
  cases rx; cases ry
  exact ⟨_, _, rfl, rfl, h, g.here k (.int _)⟩
instance (i j : Int) : Decidable (CPow i j) := by unfold CPow; infer_instance
def dPow (_ : Sto) : D → D → Option D
  | .int i, .int j => if CPow i j then some (.int (i ^ j.toNat)) else none
  | _, _ => none
theorem dPow_ok {K : PySem.W.Frag} : OpOk K (rI CPow fun i j => .int (i ^ j.toNat)) dPow := by
  intro B H st x y dx dy d Q k rx ry e g
  unfold dPow at e
  split at e <;> try cases e
  split at e <;> cases e
  rename_i h
  cases rx; cases ry
  exact ⟨_, _, rfl, rfl, h, g.here k (.int _)⟩

/-! ### comparisons -/
def eqvM (p q : PyData) : Option Bool := if min p.depth q.depth ≤ 64 then some (PyData.eqv p q) else none
def eqB (st : Sto) (x y : D) : Option Bool := match pyOf st x, pyOf st y with | some p, some q => eqvM p q | _, _ => none
def dEq (st : Sto) (x y : D) : Option D := (eqB st x y).map .bl
def dNe (st : Sto) (x y : D) : Option D := (eqB st x y).map fun b => .bl (!b)
def rEqM (K : PySem.W.Frag) : R2 := fun x y H Q => ∃ d e, Dp K H x d ∧ Dp K H y e ∧ d.canLay0 = true ∧ e.canLay0 = true ∧ min d.depth e.depth ≤ 64 ∧ Q (.bl (PyData.eqv d e)) H
def rNeM (K : PySem.W.Frag) : R2 := fun x y H Q => ∃ d e, Dp K H x d ∧ Dp K H y e ∧ d.canLay0 = true ∧ e.canLay0 = true ∧ min d.depth e.depth ≤ 64 ∧ Q (.bl (!PyData.eqv d e)) H
theorem op_eqM {X : Cx} (hu : X.A.units + 65 < cLine) : OpR X (compareOp .Eq) (rEqM X.K) := by
  intro pins s σ H x y v u Q I rx ry h
  obtain ⟨d, e, hd, he, sd, se, z, q⟩ := h
  obtain ⟨as, r1⟩ := Dp.reads I d x v hd rx
  obtain ⟨bs, r2⟩ := Dp.reads I e y u he ry
  exact SeqAt.compareEq_reads r1 r2 sd se (by omega) ⟨.bl _, H, I, rfl, q⟩
theorem op_neM {X : Cx} (hu : X.A.units + 65 < cLine) : OpR X (compareOp .NotEq) (rNeM X.K) := by
  intro pins s σ H x y v u Q I rx ry h
  obtain ⟨d, e, hd, he, sd, se, z, q⟩ := h
  obtain ⟨as, r1⟩ := Dp.reads I d x v hd rx
  obtain ⟨bs, r2⟩ := Dp.reads I e y u he ry
  exact SeqAt.compareNe_reads r1 r2 sd se (by omega) ⟨.bl _, H, I, rfl, q⟩
theorem eqB_iff {st : Sto} {x y : D} {b : Bool} (h : eqB st x y = some b) : ∃ p q, pyOf st x = some p ∧ pyOf st y = some q ∧ min p.depth q.depth ≤ 64 ∧ b = PyData.eqv p q := by
  unfold eqB at h
  split at h <;> try cases h
  rename_i p q e1 e2
  unfold eqvM at h
  split at h <;> cases h
  exact ⟨p, q, e1, e2, by assumption, rfl⟩
theorem dEq_ok {K : PySem.W.Frag} : OpOk K (rEqM K) dEq := by
  intro B H st x y dx dy d Q k rx ry e g
  unfold dEq at e
  obtain ⟨b, e1, rfl⟩ := Option.map_eq_some_iff.mp e
  obtain ⟨p, q, e2, e3, z, rfl⟩ := eqB_iff e1
  obtain ⟨h1, c1⟩ := py_of k rx e2
  obtain ⟨h2, c2⟩ := py_of k ry e3
  exact ⟨p, q, h1, h2, c1, c2, z, g.here k (.bl _)⟩
theorem dNe_ok {K : PySem.W.Frag} : OpOk K (rNeM K) dNe := by
  intro B H st x y dx dy d Q k rx ry e g
  unfold dNe at e
  obtain ⟨b, e1, rfl⟩ := Option.map_eq_some_iff.mp e
  obtain ⟨p, q, e2, e3, z, rfl⟩ := eqB_iff e1
  obtain ⟨h1, c1⟩ := py_of k rx e2
  obtain ⟨h2, c2⟩ := py_of k ry e3
  exact ⟨p, q, h1, h2, c1, c2, z, g.here k (.bl _)⟩
def dLt (_ : Sto) : D → D → Option D
  | .int i, .int j => some (.bl (decide (i < j)))
  | .str x, .str y => some (.bl (decide (x.cps.toList < y.cps.toList)))
  | _, _ => none
def rLt2 : R2 := fun x y H Q => (rI0 fun i j => .bl (decide (i < j))) x y H Q ∨ (∃ i j, x = .str i ∧ y = .str j ∧ Q (.bl (decide (i.cps.toList < j.cps.toList))) H)
theorem op_ltD {X : Cx} : OpR X (compareOp .Lt) rLt2 := op_lt.or op_lt_str
theorem dLt_ok {K : PySem.W.Frag} : OpOk K rLt2 dLt := by
  intro B H st x y dx dy d Q k rx ry e g
  unfold dLt at e
  split at e <;> cases e
  · cases rx; cases ry; exact .inl ⟨_, _, rfl, rfl, g.here k (.bl _)⟩
  · cases rx; cases ry; exact .inr ⟨_, _, rfl, rfl, g.here k (.bl _)⟩
def dLe (_ : Sto) : D → D → Option D
  | .int i, .int j => some (.bl (decide (i ≤ j)))
  | _, _ => none
theorem dLe_ok {K : PySem.W.Frag} : OpOk K (rI0 fun i j => .bl (decide (i ≤ j))) dLe := by
  intro B H st x y dx dy d Q k rx ry e g
  unfold dLe at e
  split at e <;> cases e
  cases rx; cases ry; exact ⟨_, _, rfl, rfl, g.here k (.bl _)⟩
def dGt (_ : Sto) : D → D → Option D
  | .int i, .int j => some (.bl (decide (j < i)))
  | _, _ => none
theorem dGt_ok {K : PySem.W.Frag} : OpOk K (rI0 fun i j => .bl (decide (j < i))) dGt := by
  intro B H st x y dx dy d Q k rx ry e g
  unfold dGt at e
  split at e <;> cases e
  cases rx; cases ry; exact ⟨_, _, rfl, rfl, g.here k (.bl _)⟩
def dGe (_ : Sto) : D → D → Option D
  | .int i, .int j => some (.bl (decide (j ≤ i)))
  | _, _ => none
theorem dGe_ok {K : PySem.W.Frag} : OpOk K (rI0 fun i j => .bl (decide (j ≤ i))) dGe := by
  intro B H st x y dx dy d Q k rx ry e g
  unfold dGe at e
  split at e <;> cases e
  cases rx; cases ry; exact ⟨_, _, rfl, rfl, g.here k (.bl _)⟩
/-- is None -/
def isN : D → Bool
  | .non => true
  | _ => false
theorem isN_ok {K : PySem.W.Frag} {H : Hp} {M : Mu} {d : D} {v : V} (r : Rep K H M d v) : decide (v = V.non) = isN d := by
  cases r <;> rfl
def dIs (_ : Sto) (x y : D) : Option D := match y with | .non => some (.bl (isN x)) | _ => none
def dIsNot (_ : Sto) (x y : D) : Option D := match y with | .non => some (.bl (!isN x)) | _ => none
theorem dIs_ok {K : PySem.W.Frag} : OpOk K (fun x y H Q => y = .non ∧ Q (.bl (decide (x = .non))) H) dIs := by
  intro B H st x y dx dy d Q k rx ry e g
  unfold dIs at e
  split at e <;> cases e
  cases ry
  exact ⟨rfl, by rw [isN_ok rx]; exact g.here k (.bl _)⟩
theorem dIsNot_ok {K : PySem.W.Frag} : OpOk K (fun x y H Q => y = .non ∧ Q (.bl (!decide (x = .non))) H) dIsNot := by
  intro B H st x y dx dy d Q k rx ry e g
  unfold dIsNot at e
  split at e <;> cases e
  cases ry
  exact ⟨rfl, by rw [isN_ok rx]; exact g.here k (.bl _)⟩
end DL
namespace DL
open PySem PySem.Spec PyProof.Rows L2

/-! ### in, not in -/
def cellKV : Option Cell → Option (List (Key × D))
  | some (.dk kvs) => some kvs
  | _ => none
def cellTV : Option Cell → Option (List (List Key × D))
  | some (.dt kvs) => some kvs
  | _ => none
theorem cellKV_iff {c : Option Cell} {ds} : cellKV c = some ds ↔ c = some (.dk ds) := by
  constructor
  · intro h
    unfold cellKV at h
    split at h <;> cases h
    rfl
  · intro h; rw [h]; rfl
theorem cellTV_iff {c : Option Cell} {ds} : cellTV c = some ds ↔ c = some (.dt ds) := by
  constructor
  · intro h
    unfold cellTV at h
    split at h <;> cases h
    rfl
  · intro h; rw [h]; rfl
@[simp] theorem cellKV_dk {ds} : cellKV (some (.dk ds)) = some ds := rfl
@[simp] theorem cellTV_dt {ds} : cellTV (some (.dt ds)) = some ds := rfl
def tkeyOf : D → Option (List Key)
  | .tup ds => keysOf ds
  | _ => none
/-- what a dict holds at a key: some none, where nothing -/
def dctGet (c : Option Cell) (x : D) : Option (Option D) := match cellKV c with
  | some kvs => (keyOf x).map fun k => valD kvs k
  | none => match cellTV c with
    | some kvs => (tkeyOf x).map fun k => valD kvs k
    | none => none
def oneSign (x : Str) : Option Nat := match x.cps.toList with
  | [c] => some c
  | _ => none
def anyEq (st : Sto) (ds : List D) (x : D) : Option Bool := match toPyL ds, pyOf st x with
  | some ps, some p => if p.depth ≤ 60 then some (ps.any fun z => PyData.eqv z p) else none
  | _, _ => none
def inB (st : Sto) (x y : D) : Option Bool := match y with
  | .str z => match x with | .str c => (oneSign c).map fun c => decide (c ∈ z.cps.toList) | _ => none
  | y => match sqOf st y with
    | some ds => anyEq st ds x
    | none => match y with | .ref a => (dctGet (st a) x).map Option.isSome | _ => none
def dIn (st : Sto) (x y : D) : Option D := (inB st x y).map .bl
def dNotIn (st : Sto) (x y : D) : Option D := (inB st x y).map fun b => .bl (!b)

theorem valD_rel {κ : Type} [DecidableEq κ] {K : PySem.W.Frag} {H : Hp} {M : Mu} : ∀ {kvs : List (κ × D)} {ws : List (κ × V)} {k : κ}, ws.map (·.1) = kvs.map (·.1) → RepL K H M (kvs.map (·.2)) (ws.map (·.2)) →
    (valD kvs k = none ∧ valV ws k = none) ∨ ∃ d v, valD kvs k = some d ∧ valV ws k = some v ∧ Rep K H M d v
  | [], [], k, _, _ => .inl ⟨rfl, rfl⟩
  | [], _ :: _, _, e, _ => by simp at e
  | _ :: _, [], _, e, _ => by simp at e
  | (a, d) :: kvs, (b, v) :: ws, k, e, r => by
    simp only [List.map_cons, List.cons.injEq] at e
    obtain ⟨e1, e2⟩ := e
    subst e1
    cases r with
    | cons r1 r2 =>
      by_cases h : b = k
      · refine .inr ⟨d, v, ?_, ?_, r1⟩
        · show (if b = k then some d else valD kvs k) = some d
          rw [if_pos h]
        · subst h
          show valV ((b, v) :: ws) b = some v
          simp [valV]
      · have e3 : valD ((b, d) :: kvs) k = valD kvs k := if_neg h
        have e4 : valV ((b, v) :: ws) k = valV ws k := by simp [valV, h]
        rw [e3, e4]
        exact valD_rel e2 r2
section
variable {K : PySem.W.Frag} {H : Hp} {B : Bz} {M : Mu} {st : Sto} {a : Addr} {d : D} {v y : V}
theorem dct_get {o : Option D} (k : StoOk K H B st) (r : Rep K H (mu st B) d y) (e : dctGet (st a) d = some o) : ∃ ov, DGet H a y ov ∧ ((o = none ∧ ov = none) ∨ ∃ d v, o = some d ∧ ov = some v ∧ Rep K H (mu st B) d v) := by
  unfold dctGet at e
  split at e
  · rename_i kvs q
    have q := cellKV_iff.mp q
    obtain ⟨u, e1, r1⟩ := k.at_ a _ q
    cases u <;> try exact r1.elim
    obtain ⟨key, e2, rfl⟩ := Option.map_eq_some_iff.mp e
    rename_i ws
    refine ⟨valV ws key, .inl ⟨ws, key, .inl e1, key_of_ r e2, rfl⟩, ?_⟩
    rcases valD_rel (k := key) r1.1 r1.2 with h | ⟨d, v, h1, h2, h3⟩
    · exact .inl h
    · exact .inr ⟨d, v, h1, h2, h3⟩
  · split at e
    · rename_i kvs q
      have q := cellTV_iff.mp q
      obtain ⟨u, e1, r1⟩ := k.at_ a _ q
      cases u <;> try exact r1.elim
      obtain ⟨key, e2, rfl⟩ := Option.map_eq_some_iff.mp e
      rename_i ws
      unfold tkeyOf at e2
      split at e2
      · cases r
        rename_i h r z
        refine ⟨valV ws key, .inr ⟨ws, key, _, .inl e1, rfl, ?_, rfl⟩, ?_⟩
        · rw [← keys_of r e2]; exact h.2
        · rcases valD_rel (k := key) r1.1 r1.2 with h | ⟨d, v, h1, h2, h3⟩
          · exact .inl h
          · exact .inr ⟨d, v, h1, h2, h3⟩
      · cases e2
    · cases e
theorem dpAll_list {vs : List V} {ps : List PyData} (h : DpAll K H vs ps) (l : SqL K H a vs) : Dp K H (.ref a) (.list ps) := .lst l h
end
def rInAny (K : PySem.W.Frag) (neg : Bool) : R2 := fun x y H Q => ∃ d p ds vs, y = .ref p ∧ Dp K H x d ∧ (SqL K H p vs ∨ SqT K H p vs) ∧ DpAll K H vs ds ∧ d.canLay0 = true ∧ PyData.canLayAll0 ds = true ∧ d.depth ≤ 60 ∧ Q (.bl (if neg then !ds.any fun z => PyData.eqv z d else ds.any fun z => PyData.eqv z d)) H
theorem op_inAny {X : Cx} (hu : X.A.units + 65 < cLine) : OpR X (compareOp .In) (rInAny X.K false) := by
  intro pins s σ H x y v u Q I rx ry h
  obtain ⟨d, p, ds, vs, rfl, hd, hl, he, sd, se, z, q⟩ := h
  obtain ⟨as, r1⟩ := Dp.reads I d x v hd rx
  have hr : X.A.units + 1 + min (PyData.depthAll ds) d.depth < cLine := by
    have : min (PyData.depthAll ds) d.depth ≤ d.depth := Nat.min_le_right _ _
    omega
  rcases hl with hl | hl
  · obtain ⟨bs, r2⟩ := Dp.reads I (.list ds) (.ref p) u (.lst hl he) ry
    exact SeqAt.in_list_reads r2 r1 se sd hr ⟨.bl _, H, I, rfl, q⟩
  · obtain ⟨bs, r2⟩ := Dp.reads I (.tuple ds) (.ref p) u (.tup hl he) ry
    exact SeqAt.in_tuple_reads r2 r1 se sd hr ⟨.bl _, H, I, rfl, q⟩
theorem op_notInAny {X : Cx} (hu : X.A.units + 65 < cLine) : OpR X (compareOp .NotIn) (rInAny X.K true) := by
  intro pins s σ H x y v u Q I rx ry h
  obtain ⟨d, p, ds, vs, rfl, hd, hl, he, sd, se, z, q⟩ := h
  obtain ⟨as, r1⟩ := Dp.reads I d x v hd rx
  have hr : X.A.units + 1 + min (PyData.depthAll ds) d.depth < cLine := by
    have : min (PyData.depthAll ds) d.depth ≤ d.depth := Nat.min_le_right _ _
    omega
  rcases hl with hl | hl
  · obtain ⟨bs, r2⟩ := Dp.reads I (.list ds) (.ref p) u (.lst hl he) ry
    exact SeqAt.notIn_list_reads r2 r1 se sd hr ⟨.bl _, H, I, rfl, q⟩
  · obtain ⟨bs, r2⟩ := Dp.reads I (.tuple ds) (.ref p) u (.tup hl he) ry
    exact SeqAt.notIn_tuple_reads r2 r1 se sd hr ⟨.bl _, H, I, rfl, q⟩
def rInD' (neg : Bool) : R2 := fun x y H Q => ∃ a o, y = .ref a ∧ DGet H a x o ∧ Q (.bl (if neg then !o.isSome else o.isSome)) H
theorem op_inDct {X : Cx} (hu : X.A.units + 65 < cLine) : OpR X (compareOp .In) (rInD' false) := by
  intro pins s σ H x y v u Q I rx ry h
  obtain ⟨a, o, rfl, g, q⟩ := h
  cases ry
  exact d_in (by omega) I g rx fun s3 I3 => ⟨.bl o.isSome, H, I3, rfl, q⟩
theorem op_notInDct {X : Cx} (hu : X.A.units + 65 < cLine) : OpR X (compareOp .NotIn) (rInD' true) := by
  intro pins s σ H x y v u Q I rx ry h
  obtain ⟨a, o, rfl, g, q⟩ := h
  cases ry
  exact d_notIn (by omega) I g rx fun s3 I3 => ⟨.bl (!o.isSome), H, I3, rfl, q⟩
def rInW (K : PySem.W.Frag) : R2 := fun x y H Q => (∃ (c : Nat) (z : Str), x = .str ⟨#[c]⟩ ∧ y = .str z ∧ Q (.bl (decide (c ∈ z.cps.toList))) H) ∨ rInAny K false x y H Q ∨ rInD' false x y H Q
def rNotInW (K : PySem.W.Frag) : R2 := fun x y H Q => (∃ (c : Nat) (z : Str), x = .str ⟨#[c]⟩ ∧ y = .str z ∧ Q (.bl (!decide (c ∈ z.cps.toList))) H) ∨ rInAny K true x y H Q ∨ rInD' true x y H Q
theorem op_inW {X : Cx} (hu : X.A.units + 65 < cLine) : OpR X (compareOp .In) (rInW X.K) := op_in_sign.or ((op_inAny hu).or (op_inDct hu))
theorem op_notInW {X : Cx} (hu : X.A.units + 65 < cLine) : OpR X (compareOp .NotIn) (rNotInW X.K) := op_notIn_sign.or ((op_notInAny hu).or (op_notInDct hu))
theorem oneSign_iff {x : Str} {c : Nat} (h : oneSign x = some c) : x = ⟨#[c]⟩ := by
  unfold oneSign at h
  split at h <;> cases h
  rename_i e
  obtain ⟨⟨l⟩⟩ := x
  simp at e
  rw [e]
theorem inB_ok {K : PySem.W.Frag} {B : Bz} {H : Hp} {st : Sto} {x y : V} {dx dy : D} {b : Bool} (k : StoOk K H B st) (rx : Rep K H (mu st B) dx x) (ry : Rep K H (mu st B) dy y) (e : inB st dx dy = some b) :
    (∃ (c : Nat) (z : Str), x = .str ⟨#[c]⟩ ∧ y = .str z ∧ b = decide (c ∈ z.cps.toList)) ∨
    (∃ d p ds vs, y = .ref p ∧ Dp K H x d ∧ (SqL K H p vs ∨ SqT K H p vs) ∧ DpAll K H vs ds ∧ d.canLay0 = true ∧ PyData.canLayAll0 ds = true ∧ d.depth ≤ 60 ∧ b = ds.any fun z => PyData.eqv z d) ∨
    ∃ a o, y = .ref a ∧ DGet H a x o ∧ b = o.isSome := by
  unfold inB at e
  split at e
  · split at e
    · obtain ⟨c, e1, rfl⟩ := Option.map_eq_some_iff.mp e
      have e2 := oneSign_iff e1
      subst e2
      cases rx; cases ry
      exact .inl ⟨_, _, rfl, rfl, rfl⟩
    · cases e
  · split at e
    · rename_i ds q
      obtain ⟨a, vs, rfl, h, r, z⟩ := sq_of k ry q
      unfold anyEq at e
      split at e
      · rename_i ps p e1 e2
        split at e <;> cases e
        obtain ⟨h1, c1⟩ := py_of k rx e2
        obtain ⟨h2, c2⟩ := RepL.dp r e1
        exact .inr (.inl ⟨p, a, ps, vs, rfl, h1, h, h2, c1, c2, by assumption, rfl⟩)
      · cases e
    · split at e
      · obtain ⟨o, e1, rfl⟩ := Option.map_eq_some_iff.mp e
        cases ry
        obtain ⟨ov, g, h⟩ := dct_get k rx e1
        refine .inr (.inr ⟨_, ov, rfl, g, ?_⟩)
        rcases h with ⟨h1, h2⟩ | ⟨d, v, h1, h2, _⟩
        · rw [h1, h2]; rfl
        · rw [h1, h2]; rfl
      · cases e
theorem dIn_ok {K : PySem.W.Frag} : OpOk K (rInW K) dIn := by
  intro B H st x y dx dy d Q k rx ry e g
  obtain ⟨b, e1, rfl⟩ := Option.map_eq_some_iff.mp (show (inB st dx dy).map D.bl = some d from e)
  have q := g.here k (.bl b)
  rcases inB_ok k rx ry e1 with ⟨c, z, h1, h2, h3⟩ | ⟨d, p, ds, vs, h1, h2, h3, h4, h5, h6, h7, h8⟩ | ⟨a, o, h1, h2, h3⟩
  · exact .inl ⟨c, z, h1, h2, by rw [← h3]; exact q⟩
  · exact .inr (.inl ⟨d, p, ds, vs, h1, h2, h3, h4, h5, h6, h7, by rw [← h8]; exact q⟩)
  · exact .inr (.inr ⟨a, o, h1, h2, by rw [← h3]; exact q⟩)
theorem dNotIn_ok {K : PySem.W.Frag} : OpOk K (rNotInW K) dNotIn := by
  intro B H st x y dx dy d Q k rx ry e g
  obtain ⟨b, e1, rfl⟩ := Option.map_eq_some_iff.mp (show (inB st dx dy).map (fun b => D.bl (!b)) = some d from e)
  have q := g.here k (.bl (!b))
  rcases inB_ok k rx ry e1 with ⟨c, z, h1, h2, h3⟩ | ⟨d, p, ds, vs, h1, h2, h3, h4, h5, h6, h7, h8⟩ | ⟨a, o, h1, h2, h3⟩
  · exact .inl ⟨c, z, h1, h2, by rw [← h3]; exact q⟩
  · exact .inr (.inl ⟨d, p, ds, vs, h1, h2, h3, h4, h5, h6, h7, by rw [← h8]; exact q⟩)
  · exact .inr (.inr ⟨a, o, h1, h2, by rw [← h3]; exact q⟩)

/-! ### truth -/
def truth (st : Sto) : D → Option Bool
  | .non => some false
  | .bl b => some b
  | .int i => some (i != 0)
  | .str y => if y.length ≤ sizeLine then some ((y.length : Int) != 0) else none
  | .tup ds => some !ds.isEmpty
  | .kt ds => some !ds.isEmpty
  | .lst ds => some !ds.isEmpty
  | .kl _ => none
  | .ref a => match st a with
    | some (.lst ds) => some !ds.isEmpty
    | some (.dk kvs) => some !kvs.isEmpty
    | _ => none
  | .ty _ => none
  | .exc _ => none
  | .cls _ => none
theorem RepL.emp {K : PySem.W.Frag} {H : Hp} {M : Mu} {ds : List D} {vs : List V} (r : RepL K H M ds vs) : ds.isEmpty = vs.isEmpty := by cases r <;> rfl
theorem truth_ok {K : PySem.W.Frag} {B : Bz} {H : Hp} {st : Sto} {x : V} {d : D} {b : Bool} (k : StoOk K H B st) (r : Rep K H (mu st B) d x) (e : truth st d = some b) : TruV K x H b := by
  cases r with
  | non => cases e; rfl
  | bl b => cases e; rfl
  | int i => cases e; rfl
  | str x h =>
    unfold truth at e
    simp only at e
    split at e <;> cases e
    exact ⟨by assumption, rfl⟩
  | ty n => cases e
  | exc h => cases e
  | cls x => cases e
  | tup h r z => cases e; exact .inr (.inl ⟨_, h.sq, by rw [r.emp]⟩)
  | kt h r z => cases e; exact .inr (.inl ⟨_, h.sq, by rw [r.emp]⟩)
  | lst h r z => cases e; exact .inl ⟨_, h.sq, by rw [r.emp]⟩
  | kl h r z => cases e
  | ref a =>
    unfold truth at e
    simp only at e
    split at e
    · rename_i q
      cases e
      obtain ⟨o, e1, r1⟩ := k.at_ a _ q
      cases o <;> try exact r1.elim
      exact .inl ⟨_, .inl (.inl e1), by rw [r1.1.emp]⟩
    · rename_i kvs q
      cases e
      obtain ⟨o, e1, r1⟩ := k.at_ a _ q
      cases o <;> try exact r1.elim
      rename_i ws
      refine .inr (.inr ⟨ws, e1, ?_⟩)
      have := congrArg List.length r1.1
      cases ws <;> cases kvs <;> simp at this ⊢
    · cases e

/-! ### subscripts -/
def atD (ds : List D) (i : Int) : Option D := atI ds i
def ixD (st : Sto) (x y : D) : Option D := match x with
  | .str z => match y with | .int i => if z.length ≤ sizeLine then (atI z.cps.toList i).map fun c => .str ⟨#[c]⟩ else none | _ => none
  | x => match sqOf st x with
    | some ds => match y with | .int i => atI ds i | _ => none
    | none => match x with | .ref a => (dctGet (st a) y).bind id | _ => none
def rIxW (K : PySem.W.Frag) : R2 := fun x y H Q => rIxL K x y H Q ∨ rIxT K x y H Q ∨ rIxS x y H Q ∨ (∃ a v, x = .ref a ∧ DGet H a y (some v) ∧ Q v H)
theorem ix_dct {X : Cx} (hu : X.A.units + 65 < cLine) : IxR X (fun x y H Q => ∃ a v, x = .ref a ∧ DGet H a y (some v) ∧ Q v H) := by
  intro value slice pins s σ H x y v u Q I rx ry h hs
  obtain ⟨a, v0, rfl, g, q⟩ := h
  cases rx
  exact tail_any (dict_typeIs I g) PySem.F.slot_dict_getitem.lookup (d_getItem (by omega) I g ry fun w' s3 I3 rw' => ⟨v0, H, I3, rw', q⟩) hs
theorem ix_W {X : Cx} (hu : X.A.units + 65 < cLine) : IxR X (rIxW X.K) := ix_list.or (ix_tup.or (ix_str.or (ix_dct hu)))
theorem RepL.atI {K : PySem.W.Frag} {H : Hp} {M : Mu} {ds : List D} {vs : List V} {i : Int} {d : D} (r : RepL K H M ds vs) (e : atI ds i = some d) : ∃ v, atI vs i = some v ∧ Rep K H M d v := by
  unfold L2.atI at e ⊢
  obtain ⟨j, e1, e2⟩ := Option.bind_eq_some_iff.mp e
  obtain ⟨v, e3, r3⟩ := r.get e2
  exact ⟨v, by rw [r.length, e1]; exact e3, r3⟩
theorem okS_sign {z : Str} {i : Int} {c : Nat} (h : okS z = true) (e : atI z.cps.toList i = some c) : okS ⟨#[c]⟩ = true := by
  unfold L2.atI at e
  obtain ⟨j, _, e2⟩ := Option.bind_eq_some_iff.mp e
  have m : c ∈ z.cps.toList := List.mem_of_getElem? e2
  unfold okS PyData.strOk at h ⊢
  rw [Array.all_eq_true'] at h
  have := h c (Array.mem_def.mpr m)
  simpa using this
theorem ixD_ok {K : PySem.W.Frag} : OpOk K (rIxW K) ixD := by
  intro B H st x y dx dy d Q k rx ry e g
  unfold ixD at e
  split at e
  · split at e
    · split at e <;> try cases e
      obtain ⟨c, e1, rfl⟩ := Option.map_eq_some_iff.mp e
      cases rx; cases ry
      rename_i h
      exact .inr (.inr (.inl ⟨_, _, c, rfl, rfl, by assumption, e1, g.here k (.str _ (okS_sign h e1))⟩))
    · cases e
  · split at e
    · rename_i ds q
      split at e
      · obtain ⟨a, vs, rfl, h, r, z⟩ := sq_of k rx q
        obtain ⟨v, e1, r1⟩ := r.atI e
        cases ry
        rcases h with h | h
        · exact .inl ⟨a, vs, _, v, rfl, rfl, h, e1, g.here k r1⟩
        · exact .inr (.inl ⟨a, vs, _, v, rfl, rfl, h, e1, g.here k r1⟩)
      · cases e
    · split at e
      · obtain ⟨o, e1, e2⟩ := Option.bind_eq_some_iff.mp e
        cases rx
        obtain ⟨ov, g1, h⟩ := dct_get k ry e1
        rcases h with ⟨h1, _⟩ | ⟨d', v, h1, h2, r⟩
        · rw [h1] at e2; cases e2
        · rw [h1] at e2; cases e2
          exact .inr (.inr (.inr ⟨_, v, rfl, by rw [← h2]; exact g1, g.here k r⟩))
      · cases e

/-! ### slices -/
def cutD (ds : List D) (lo hi : Option Int) : List D := (ds.drop (HT.sIx ds.length 0 lo)).take (HT.sIx ds.length ds.length hi - HT.sIx ds.length 0 lo)
theorem RepL.cut {K : PySem.W.Frag} {H : Hp} {M : Mu} {ds : List D} {vs : List V} (lo hi : Option Int) (r : RepL K H M ds vs) : RepL K H M (cutD ds lo hi) (cutV vs lo hi) := by
  unfold cutD cutV
  rw [r.length]
  exact (r.drop _).take _
theorem cutD_length (ds : List D) (lo hi : Option Int) : (cutD ds lo hi).length ≤ ds.length := by
  unfold cutD
  rw [List.length_take, List.length_drop]
  omega
def slD (st : Sto) (x : D) (lo hi : Option Int) : Option D := match x with
  | .str z => if z.length ≤ sizeLine then some (.str (cutS z lo hi)) else none
  | .tup ds => some (.tup (cutD ds lo hi))
  | .kt _ => none
  | x => (lqOf st x).map fun ds => .lst (cutD ds lo hi)
def rSlW (K : PySem.W.Frag) : V → Option Int → Option Int → Hp → VK → Prop := fun x lo hi H Q => rSlA K x lo hi H Q ∨ rSlL K x lo hi H Q ∨ rSlS x lo hi H Q
theorem sl_W {X : Cx} : SlR X (rSlW X.K) := sl_tupA.or (sl_list.or sl_str)
theorem okS_cut {z : Str} (h : okS z = true) (lo hi : Option Int) : okS (cutS z lo hi) = true := by
  unfold okS PyData.strOk cutS at *
  rw [Array.all_eq_true'] at h ⊢
  intro c hc
  refine h c ?_
  have := Array.mem_def.mp hc
  simp only at this
  exact Array.mem_def.mpr (List.mem_of_mem_drop (List.mem_of_mem_take this))
theorem cutD_whole {ds : List D} {lo hi : Option Int} (h : HT.sIx ds.length 0 lo = 0 ∧ HT.sIx ds.length ds.length hi = ds.length) : cutD ds lo hi = ds := by
  unfold cutD
  rw [h.1, h.2, List.drop_zero, Nat.sub_zero, List.take_length]
theorem slD_ok {K : PySem.W.Frag} {B : Bz} {H : Hp} {st : Sto} {x : V} {dx d : D} {lo hi : Option Int} {Q : VK} (k : StoOk K H B st) (rx : Rep K H (mu st B) dx x) (e : slD st dx lo hi = some d) (g : Giv K B H st Q d) : rSlW K x lo hi H Q := by
  unfold slD at e
  split at e
  · split at e <;> cases e
    cases rx
    rename_i h
    exact .inr (.inr ⟨_, rfl, by assumption, g.here k (.str _ (okS_cut h lo hi))⟩)
  · cases e
    have rx' := rx
    cases rx
    rename_i ds a vs h r z
    have l := r.length
    refine .inl ⟨a, vs, rfl, h.sq, fun w => ?_, fun w => g.tup k (r.cut lo hi) (Nat.le_trans (cutD_length _ _ _) z)⟩
    rw [l] at w
    rw [cutD_whole w] at g
    exact g.here k rx'
  · cases e
  · obtain ⟨ds, e1, rfl⟩ := Option.map_eq_some_iff.mp e
    obtain ⟨a, vs, rfl, h, r, z⟩ := lq_of k rx e1
    exact .inr (.inl ⟨a, vs, rfl, h, g.lst k (r.cut lo hi) (Nat.le_trans (cutD_length _ _ _) z)⟩)

/-! ### built-in calls -/
def lenD (st : Sto) : D → Option Nat
  | .str y => if y.length ≤ sizeLine then some y.length else none
  | .ref a => match st a with
    | some (.lst ds) => some ds.length
    | some (.dk kvs) => some kvs.length
    | _ => none
  | d => (sqOf st d).map List.length
def cLen (st : Sto) : List D → Option D
  | [d] => (lenD st d).map fun (n : Nat) => .int (n : Int)
  | _ => none
def rLen2 (K : PySem.W.Frag) : List V → Hp → VK → Prop := fun xs H Q => (∃ x n, xs = [x] ∧ LenV K x H n ∧ Q (.int n) H) ∨ ∃ a kvs, xs = [.ref a] ∧ H a = some (.dK kvs) ∧ Q (.int kvs.length) H
theorem call_len2 {X : Cx} : CallR X (.builtin "len") (rLen2 X.K) := call_len.or call_lenD
theorem cLen_ok {K : PySem.W.Frag} : CaOk K (rLen2 K) cLen := by
  intro B H st xs dxs d Q k r e g
  unfold cLen at e
  split at e <;> try cases e
  obtain ⟨n, e1, rfl⟩ := Option.map_eq_some_iff.mp e
  cases r with
  | cons r1 r2 =>
    cases r2
    have q := g.here k (.int n)
    have sq : ∀ {d v}, Rep K H (mu st B) d v → (sqOf st d).map List.length = some n → LenV K v H n := fun {d v} r e => by
      obtain ⟨ds, e2, rfl⟩ := Option.map_eq_some_iff.mp e
      obtain ⟨a, vs, rfl, h, r3, _⟩ := sq_of k r e2
      rcases h with h | h
      · exact .inl ⟨vs, h, r3.length.symm⟩
      · exact .inr ⟨vs, h, r3.length.symm⟩
    unfold lenD at e1
    split at e1
    · split at e1 <;> cases e1
      cases r1
      exact .inl ⟨_, _, rfl, ⟨by assumption, rfl⟩, q⟩
    · rename_i a
      cases r1
      split at e1
      · rename_i ds q2
        cases e1
        exact .inl ⟨_, _, rfl, sq (.ref a) (by rw [sqOf_ref q2]; rfl), q⟩
      · rename_i kvs q2
        cases e1
        obtain ⟨o, e3, r3⟩ := k.at_ a _ q2
        cases o <;> try exact r3.elim
        rename_i ws
        refine .inr ⟨a, ws, rfl, e3, ?_⟩
        have := congrArg List.length r3.1
        simp only [List.length_map] at this
        rw [this]
        exact q
      · cases e1
    · exact .inl ⟨_, _, rfl, sq r1 e1, q⟩
def cInt (_ : Sto) : List D → Option D
  | [.int i] => some (.int i)
  | [.bl b] => some (.int (if b then 1 else 0))
  | _ => none
theorem cInt_ok {K : PySem.W.Frag} : CaOk K (fun xs H Q => (∃ i, xs = [.int i] ∧ Q (.int i) H) ∨ ∃ k, xs = [.bl k] ∧ Q (.int (if k then 1 else 0)) H) cInt := by
  intro B H st xs dxs d Q k r e g
  unfold cInt at e
  split at e <;> cases e
  · cases r with
    | cons r1 r2 => cases r2; cases r1; exact .inl ⟨_, rfl, g.here k (.int _)⟩
  · cases r with
    | cons r1 r2 => cases r2; cases r1; exact .inr ⟨_, rfl, g.here k (.int _)⟩
/-- the greatest -/
def maxL : Int → List Int → Int
  | m, [] => m
  | m, n :: r => maxL (if n > m then n else m) r
theorem maxL_ge : ∀ (r : List Int) (m : Int), m ≤ maxL m r ∧ ∀ y ∈ r, y ≤ maxL m r
  | [], m => ⟨Int.le_refl _, fun _ h => nomatch h⟩
  | n :: r, m => by
    obtain ⟨h1, h2⟩ := maxL_ge r (if n > m then n else m)
    unfold maxL
    refine ⟨Int.le_trans (by split <;> omega) h1, fun y hy => ?_⟩
    rcases List.mem_cons.mp hy with rfl | hy
    · exact Int.le_trans (by split <;> omega) h1
    · exact h2 y hy
theorem maxL_mem : ∀ (r : List Int) (m : Int), maxL m r = m ∨ maxL m r ∈ r
  | [], m => .inl rfl
  | n :: r, m => by
    unfold maxL
    rcases maxL_mem r (if n > m then n else m) with h | h
    · rw [h]
      split
      · exact .inr List.mem_cons_self
      · exact .inl rfl
    · exact .inr (List.mem_cons_of_mem _ h)
def intsOf : List D → Option (List Int)
  | [] => some []
  | .int i :: ds => (intsOf ds).map (i :: ·)
  | _ => none
theorem intsOf_iff : ∀ {ds : List D} {ns : List Int}, intsOf ds = some ns ↔ ds = ns.map D.int
  | [], ns => by cases ns <;> simp [intsOf]
  | d :: ds, ns => by
    cases d <;> cases ns <;> simp [intsOf, intsOf_iff]
    exact and_comm
@[simp] theorem intsOf_map (ns : List Int) : intsOf (ns.map D.int) = some ns := intsOf_iff.mpr rfl
def cMax (st : Sto) : List D → Option D
  | [.int i, .int j] => some (.int (if j > i then j else i))
  | [d] => ((lsOf st d).bind intsOf).bind fun ns => match ns with | [] => none | n :: r => some (.int (maxL n r))
  | _ => none
def rMax2 (K : PySem.W.Frag) : List V → Hp → VK → Prop := fun xs H Q => (∃ i j, xs = [.int i, .int j] ∧ Q (.int (if j > i then j else i)) H) ∨ rMax K xs H Q
theorem call_maxW {X : Cx} (hc : X.calm = true) : CallR X (.builtin "max") (rMax2 X.K) := (call_max2 hc).or (cr_max hc)
theorem cMax_ok {K : PySem.W.Frag} : CaOk K (rMax2 K) cMax := by
  intro B H st xs dxs d Q k r e g
  unfold cMax at e
  split at e
  · cases e
    cases r with
    | cons r1 r2 => cases r2 with
      | cons r2 r3 => cases r3; cases r1; cases r2; exact .inl ⟨_, _, rfl, g.here k (.int _)⟩
  · obtain ⟨ns, e1, e2⟩ := Option.bind_eq_some_iff.mp e
    obtain ⟨ds, e3, e4⟩ := Option.bind_eq_some_iff.mp e1
    cases r with
    | cons r1 r2 =>
      cases r2
      obtain ⟨a, vs, rfl, h, r5, z⟩ := ls_of k r1 e3
      rw [intsOf_iff.mp e4] at r5
      have := r5.ints
      subst this
      cases ns with
      | nil => cases e2
      | cons n ns =>
        cases e2
        refine .inr ⟨a, n :: ns, rfl, .inl h, Nat.succ_pos _, fun m hm hle => ?_⟩
        have h1 := maxL_ge ns n
        have h2 : maxL n ns ∈ n :: ns := by
          rcases maxL_mem ns n with q | q
          · rw [q]; exact List.mem_cons_self
          · exact List.mem_cons_of_mem _ q
        have h3 : m ≤ maxL n ns := by
          rcases List.mem_cons.mp hm with rfl | q
          · exact h1.1
          · exact h1.2 m q
        have e5 : m = maxL n ns := Int.le_antisymm h3 (hle _ h2)
        rw [e5]
        exact g.here k (.int _)
  · cases e
def cMin (_ : Sto) : List D → Option D
  | [.int i, .int j] => some (.int (if j < i then j else i))
  | _ => none
theorem cMin_ok {K : PySem.W.Frag} : CaOk K (fun xs H Q => ∃ i j, xs = [.int i, .int j] ∧ Q (.int (if j < i then j else i)) H) cMin := by
  intro B H st xs dxs d Q k r e g
  unfold cMin at e
  split at e <;> cases e
  cases r with
  | cons r1 r2 => cases r2 with
    | cons r2 r3 => cases r3; cases r1; cases r2; exact ⟨_, _, rfl, g.here k (.int _)⟩
def cList (st : Sto) : List D → Option D
  | [d] => (sqOf st d).map .lst
  | _ => none
theorem cList_ok {K : PySem.W.Frag} : CaOk K (fun xs H Q => ∃ p ys, xs = [.ref p] ∧ (SqL K H p ys ∨ SqT K H p ys) ∧ ∀ l, H l = none → Q (.ref l) (upd H l (.lst ys))) cList := by
  intro B H st xs dxs d Q k r e g
  unfold cList at e
  split at e <;> try cases e
  obtain ⟨ds, e1, rfl⟩ := Option.map_eq_some_iff.mp e
  cases r with
  | cons r1 r2 =>
    cases r2
    obtain ⟨a, vs, rfl, h, r3, z⟩ := sq_of k r1 e1
    exact ⟨a, vs, rfl, h, g.lst k r3 z⟩
def cTuple (st : Sto) : List D → Option D
  | [.tup ds] => some (.tup ds)
  | [.kt ds] => some (.kt ds)
  | [d] => (lsOf st d).map .tup
  | _ => none
theorem cTuple_ok {K : PySem.W.Frag} : CaOk K (fun xs H Q => ∃ p ys, xs = [.ref p] ∧ ((SqL K H p ys ∧ ∀ l, H l = none → Q (.ref l) (upd H l (.tup ys))) ∨ (SqT K H p ys ∧ Q (.ref p) H))) cTuple := by
  intro B H st xs dxs d Q k r e g
  unfold cTuple at e
  split at e
  · cases e
    cases r with
    | cons r1 r2 =>
      cases r2
      have r1' := r1
      cases r1 with
      | tup h r z => exact ⟨_, _, rfl, .inr ⟨h.sq, g.here k r1'⟩⟩
  · cases e
    cases r with
    | cons r1 r2 =>
      cases r2
      have r1' := r1
      cases r1 with
      | kt h r z => exact ⟨_, _, rfl, .inr ⟨h.sq, g.here k r1'⟩⟩
  · obtain ⟨ds, e1, rfl⟩ := Option.map_eq_some_iff.mp e
    cases r with
    | cons r1 r2 =>
      cases r2
      obtain ⟨a, vs, rfl, h, r3, z⟩ := ls_of k r1 e1
      exact ⟨a, vs, rfl, .inl ⟨.inl h, g.tup k r3 z⟩⟩
  · cases e
/-- types of data -/
def tyNm (st : Sto) : D → Option String
  | .non => some "NoneType"
  | .bl _ => some "bool"
  | .int _ => some "int"
  | .str _ => some "str"
  | .tup _ => some "tuple"
  | .kt _ => some "tuple"
  | .lst _ => some "list"
  | .kl _ => some "list"
  | .ref a => match st a with
    | some (.lst _) => some "list"
    | some (.dk _) => some "dict"
    | some (.dt _) => some "dict"
    | _ => none
  | .ty _ => none
  | .exc _ => none
  | .cls _ => none
def isiB (t T : String) : Bool := if T = "int" then t = "int" || t = "bool" else t = T
def tyNs : List String := ["NoneType", "bool", "int", "str", "tuple", "list", "dict"]
def clNs : List String := ["bool", "int", "str", "tuple", "list", "dict"]
theorem kitB_isi : (tyNs.all fun t => clNs.all fun T => decide (kitB t T = some (isiB t T))) = true := by decide +kernel
def cIsi (st : Sto) : List D → Option D
  | [d, .ty T] => if T ∈ clNs then (tyNm st d).map fun t => .bl (isiB t T) else none
  | _ => none
theorem tyNm_ok {K : PySem.W.Frag} {B : Bz} {H : Hp} {st : Sto} {x : V} {d : D} {t : String} (k : StoOk K H B st) (r : Rep K H (mu st B) d x) (e : tyNm st d = some t) : TyX K H x (.type t) ∧ t ∈ tyNs := by
  cases r with
  | non => cases e; exact ⟨.base .non, by decide⟩
  | bl b => cases e; exact ⟨.base (.bl _), by decide⟩
  | int i => cases e; exact ⟨.base (.int _), by decide⟩
  | str x h => cases e; exact ⟨.base (.str _), by decide⟩
  | ty n => cases e
  | exc h => cases e
  | cls x => cases e
  | tup h r z => cases e; exact ⟨.base (.tup h.2), by decide⟩
  | kt h r z =>
    cases e
    rcases h with ⟨o, its, n, e1, e2, _⟩ | ⟨_, o, h, _⟩
    · exact ⟨.kTuple e1 e2, by decide⟩
    · exact ⟨.fTuple h, by decide⟩
  | lst h r z =>
    cases e
    rcases h.2 with h | ⟨o, h⟩
    · exact ⟨.base (.lst h), by decide⟩
    · exact ⟨.base (.frz h), by decide⟩
  | kl h r z =>
    cases e
    rcases h with ⟨_, h | ⟨o, h⟩⟩ | ⟨o, its, n, e1, e2, _⟩
    · exact ⟨.base (.lst h), by decide⟩
    · exact ⟨.base (.frz h), by decide⟩
    · exact ⟨.kList e1 e2, by decide⟩
  | ref a =>
    unfold tyNm at e
    simp only at e
    split at e
    · rename_i q
      cases e
      obtain ⟨o, e1, r1⟩ := k.at_ a _ q
      cases o <;> try exact r1.elim
      exact ⟨.base (.lst e1), by decide⟩
    · rename_i q
      cases e
      obtain ⟨o, e1, r1⟩ := k.at_ a _ q
      cases o <;> try exact r1.elim
      exact ⟨.base (.dK e1), by decide⟩
    · rename_i q
      cases e
      obtain ⟨o, e1, r1⟩ := k.at_ a _ q
      cases o <;> try exact r1.elim
      exact ⟨.base (.dT e1), by decide⟩
    · cases e
theorem cIsi_ok {K : PySem.W.Frag} : CaOk K (rIsi K) cIsi := by
  intro B H st xs dxs d Q k r e g
  unfold cIsi at e
  split at e <;> try cases e
  split at e <;> try cases e
  rename_i T hT
  obtain ⟨t, e1, rfl⟩ := Option.map_eq_some_iff.mp e
  cases r with
  | cons r1 r2 =>
    cases r2 with
    | cons r2 r3 =>
      cases r3
      cases r2
      obtain ⟨h1, h2⟩ := tyNm_ok k r1 e1
      have h3 := kitB_isi
      rw [List.all_eq_true] at h3
      have h4 := h3 t h2
      rw [List.all_eq_true] at h4
      exact ⟨_, _, _, _, _, rfl, .ty _, h1, kit_ty (of_decide_eq_true (h4 T hT)), g.here k (.bl _)⟩
end DL
namespace DL
open PySem PySem.Spec PyProof.Rows L2

/-! ### meanings of expressions -/
def slot (e : Env) (i : Nat) : Option D := e.getD i none
def wVar (i : Nat) : WE := fun e st _ Q => on (slot e i) fun d => Q d st
def wC (d : D) : WE := fun _ st _ Q => Q d st
def wBin (o : Sto → D → D → Option D) (a b : WE) : WE := fun e st X Q => a e st X fun x st1 => b e st1 X fun y st2 => on (o st2 x y) fun z => Q z st2
def wUn (o : Sto → D → Option D) (a : WE) : WE := fun e st X Q => a e st X fun x st1 => on (o st1 x) fun z => Q z st1
def wOr (a b : WE) : WE := fun e st X Q => a e st X fun x st1 => on (truth st1 x) fun t => if t = true then Q x st1 else b e st1 X Q
def wAnd (a b : WE) : WE := fun e st X Q => a e st X fun x st1 => on (truth st1 x) fun t => if t = true then b e st1 X Q else Q x st1
def wNot (a : WE) : WE := fun e st X Q => a e st X fun x st1 => on (truth st1 x) fun t => Q (.bl (!t)) st1
def wIf (t : WT) (a b : WE) : WE := fun e st X Q => t e st X fun c st1 => if c = true then a e st1 X Q else b e st1 X Q
def bOf : D → Option Bool
  | .bl b => some b
  | _ => none
@[simp] theorem bOf_bl {b : Bool} : bOf (.bl b) = some b := rfl
def wChain (o o' : Sto → D → D → Option D) (a b c : WE) : WE := fun e st X Q => a e st X fun x st1 => b e st1 X fun y st2 => on (o st2 x y) fun z => on (bOf z) fun t => if t = true then c e st2 X fun w st3 => on (o' st3 y w) fun u => Q u st3 else Q (.bl false) st2
def iOf : D → Option Int
  | .int i => some i
  | _ => none
@[simp] theorem iOf_int {i : Int} : iOf (.int i) = some i := rfl
/-- a part of a slice: none, or a number -/
abbrev WO := Env → Sto → PoX → (Option Int → Sto → Prop) → Prop
def wNo : WO := fun _ st _ Q => Q none st
def wPart (m : WE) : WO := fun e st X Q => m e st X fun d st1 => on (iOf d) fun i => Q (some i) st1
def wSl (a : WE) (lo hi : WO) : WE := fun e st X Q => a e st X fun x st1 => lo e st1 X fun l st2 => hi e st2 X fun h st3 => on (slD st3 x l h) fun d => Q d st3
def wNil : WA := fun _ st _ Q => Q [] st
def wCons (m : WE) (r : WA) : WA := fun e st X Q => m e st X fun d st1 => r e st1 X fun ds st2 => Q (d :: ds) st2
def wTup (m : WA) : WE := fun e st X Q => m e st X fun ds st1 => Q (.tup ds) st1
def wLst (m : WA) : WE := fun e st X Q => m e st X fun ds st1 => Q (.lst ds) st1
/-- a list that will change -/
def wLstR (m : WA) : WE := fun e st X Q => m e st X fun ds st1 => ∀ p, st1 p = none → Q (.ref p) (st1.set p (.lst ds))
/-- a made list becomes one that will change -/
def wRef (m : WE) : WE := m
def wCall (o : Sto → List D → Option D) (m : WA) : WE := fun e st X Q => m e st X fun ds st1 => on (o st1 ds) fun d => Q d st1
def wFn (F : WF) (m : WA) : WE := fun e st X Q => m e st X fun ds st1 => F ds st1 X Q
/-! tests -/
def wTB (m : WE) : WT := fun e st X Q => m e st X fun d st1 => on (bOf d) fun b => Q b st1
def wTT (m : WE) : WT := fun e st X Q => m e st X fun d st1 => on (truth st1 d) fun b => Q b st1
def wTAnd (a b : WT) : WT := fun e st X Q => a e st X fun c st1 => if c = true then b e st1 X Q else Q false st1
def wTOr (a b : WT) : WT := fun e st X Q => a e st X fun c st1 => if c = true then Q true st1 else b e st1 X Q
def wTNot (a : WT) : WT := fun e st X Q => a e st X fun c st1 => Q (!c) st1

/-- an argument list's reading knows its length -/
def tAn (K : PySem.W.Frag) (mg : Str → Option Value) (E : XK) (n : Nat) (m : WA) : TA := fun σ H Q => ∃ B e st Qd Xd, Sit K B e st σ H ∧
  (∀ ds st' vs H', Qd ds st' → ds.length = n → Ext H (mu st B) H' (mu st' B) → StoOk K H' B st' → RepL K H' (mu st' B) ds vs → Q vs H') ∧ PostX K mg B H st Xd E ∧ m e st Xd Qd

section
variable {X : Cx} {E : XK} {a b c : Expr} {ma mb mc : WE} {pos : Pos}
abbrev PEw (X : Cx) (E : XK) (e : Expr) (m : WE) : Prop := PE X e (tE X.K X.mg E m)
abbrev PTw (X : Cx) (E : XK) (e : Expr) (m : WT) : Prop := PT X e (tT X.K X.mg E m)
abbrev PAw (X : Cx) (E : XK) (es : List Expr) (n : Nat) (m : WA) : Prop := PA X es (tAn X.K X.mg E n m)

theorem e_var (i : Nat) {x : Str} (hN : X.N[i]? = some x := by rfl) (hv : Vis X.env.scope x := by first | exact Or.inl rfl | exact Or.inr (Or.inl rfl) | exact Or.inr (Or.inr rfl)) (hd : (x == ("__debug__" : Str)) = false := by decide)
    (hcd : (x == ("__classdict__" : Str)) = false := by decide) : PEw X E (.Name x pos) (wVar i) := pe_imp (pe_var hN hv hd hcd) fun σ H Q ⟨B, e, st, Qd, Xd, S, pq, px, m⟩ => by
  obtain ⟨d, h1, h2⟩ := on_iff.mp m
  have h3 : e[i]? = some (some d) := by
    unfold slot at h1
    rw [List.getD_eq_getElem?_getD] at h1
    cases q : e[i]? with
    | none => rw [q] at h1; cases h1
    | some o => rw [q] at h1; rw [show o = some d from h1]
  obtain ⟨v, h4, r⟩ := S.env.at_ i d h3
  exact ⟨v, h4, pq d st v H h2 .refl S.sto r⟩
theorem e_c {e : Expr} {v : V} {d : D} (h : PE X e (tC v)) (r : ∀ (H : Hp) (M : Mu), Rep X.K H M d v) : PEw X E e (wC d) := pe_imp h fun σ H Q ⟨B, e, st, Qd, Xd, S, pq, px, m⟩ => pq d st v H m .refl S.sto (r _ _)
theorem e_int {i j} : PEw X E (.Constant (.int i) j pos) (wC (.int i)) := e_c pe_int fun _ _ => .int i
theorem e_bl {i j} : PEw X E (.Constant (.bool i) j pos) (wC (.bl i)) := e_c pe_bl fun _ _ => .bl i
theorem e_non {j} : PEw X E (.Constant .none j pos) (wC .non) := e_c pe_non fun _ _ => .non
theorem e_str {x j} (h : okS x = true := by decide +kernel) : PEw X E (.Constant (.str x) j pos) (wC (.str x)) := e_c pe_str fun _ _ => .str x h
theorem bin_ok {r : R2} {o : Sto → D → D → Option D} (ho : OpOk X.K r o) : ∀ σ H Q, tE X.K X.mg E (wBin o ma mb) σ H Q → tOp r (tE X.K X.mg E ma) (tE X.K X.mg E mb) σ H Q :=
  fun σ H Q ⟨B, e, st, Qd, Xd, S, pq, px, m⟩ => ⟨B, e, st, _, Xd, S, fun x st1 vx H1 m1 x1 k1 r1 => ⟨B, e, st1, _, Xd, S.on x1 k1, fun y st2 vy H2 m2 x2 k2 r2 => by
    obtain ⟨d, hd, q⟩ := on_iff.mp m2
    exact ho B H2 st2 vx vy x y d Q k2 (r1.ext x2) r2 hd fun v H' x3 k3 r3 => pq d st2 v H' q ((x1.trans x2).trans x3) k3 r3, px.on x1, m1⟩, px, m⟩
theorem e_bin {op : Operator} {r : R2} {o : Sto → D → D → Option D} (hr : OpR X (binaryOp op) r) (ho : OpOk X.K r o) (ha : PEw X E a ma) (hb : PEw X E b mb) : PEw X E (.BinOp a op b pos) (wBin o ma mb) := pe_imp (pe_op hr ha hb) (bin_ok ho)
theorem e_add (ha : PEw X E a ma) (hb : PEw X E b mb) : PEw X E (.BinOp a .Add b pos) (wBin dAdd ma mb) := e_bin op_addD dAdd_ok ha hb
theorem e_sub (ha : PEw X E a ma) (hb : PEw X E b mb) : PEw X E (.BinOp a .Sub b pos) (wBin dSub ma mb) := e_bin op_sub dSub_ok ha hb
theorem e_mul (ha : PEw X E a ma) (hb : PEw X E b mb) : PEw X E (.BinOp a .Mult b pos) (wBin dMul ma mb) := e_bin op_mulD dMul_ok ha hb
theorem e_fdiv (ha : PEw X E a ma) (hb : PEw X E b mb) : PEw X E (.BinOp a .FloorDiv b pos) (wBin dFdiv ma mb) := e_bin op_fdivW dFdiv_ok ha hb
theorem e_mod (ha : PEw X E a ma) (hb : PEw X E b mb) : PEw X E (.BinOp a .Mod b pos) (wBin dMod ma mb) := e_bin op_mod dMod_ok ha hb
theorem e_pow (ha : PEw X E a ma) (hb : PEw X E b mb) : PEw X E (.BinOp a .Pow b pos) (wBin dPow ma mb) := e_bin op_pow dPow_ok ha hb
theorem e_cmp {op : CmpOp} {r : R2} {o : Sto → D → D → Option D} (hr : OpR X (compareOp op) r) (ho : OpOk X.K r o) (ha : PEw X E a ma) (hb : PEw X E b mb) (hm : behindInMarks op b = false) : PEw X E (.Compare a [op] [b] pos) (wBin o ma mb) := pe_imp (pe_cmpR hr ha hb hm) (bin_ok ho)
theorem e_eq (hu : X.A.units + 65 < cLine) (ha : PEw X E a ma) (hb : PEw X E b mb) : PEw X E (.Compare a [.Eq] [b] pos) (wBin dEq ma mb) := e_cmp (op_eqM hu) dEq_ok ha hb (nomark _)
theorem e_ne (hu : X.A.units + 65 < cLine) (ha : PEw X E a ma) (hb : PEw X E b mb) : PEw X E (.Compare a [.NotEq] [b] pos) (wBin dNe ma mb) := e_cmp (op_neM hu) dNe_ok ha hb (nomark _)
theorem e_lt (ha : PEw X E a ma) (hb : PEw X E b mb) : PEw X E (.Compare a [.Lt] [b] pos) (wBin dLt ma mb) := e_cmp op_ltD dLt_ok ha hb (nomark _)
theorem e_le (ha : PEw X E a ma) (hb : PEw X E b mb) : PEw X E (.Compare a [.LtE] [b] pos) (wBin dLe ma mb) := e_cmp op_le dLe_ok ha hb (nomark _)
theorem e_gt (ha : PEw X E a ma) (hb : PEw X E b mb) : PEw X E (.Compare a [.Gt] [b] pos) (wBin dGt ma mb) := e_cmp op_gt dGt_ok ha hb (nomark _)
theorem e_ge (ha : PEw X E a ma) (hb : PEw X E b mb) : PEw X E (.Compare a [.GtE] [b] pos) (wBin dGe ma mb) := e_cmp op_ge dGe_ok ha hb (nomark _)
theorem e_is (ha : PEw X E a ma) (hb : PEw X E b mb) : PEw X E (.Compare a [.Is] [b] pos) (wBin dIs ma mb) := e_cmp op_isN dIs_ok ha hb (nomark _)
theorem e_isnt (ha : PEw X E a ma) (hb : PEw X E b mb) : PEw X E (.Compare a [.IsNot] [b] pos) (wBin dIsNot ma mb) := e_cmp op_notN dIsNot_ok ha hb (nomark _)
theorem e_in (hu : X.A.units + 65 < cLine) (ha : PEw X E a ma) (hb : PEw X E b mb) (hm : behindInMarks .In b = false := by rfl) : PEw X E (.Compare a [.In] [b] pos) (wBin dIn ma mb) := e_cmp (op_inW hu) dIn_ok ha hb hm
theorem e_nin (hu : X.A.units + 65 < cLine) (ha : PEw X E a ma) (hb : PEw X E b mb) (hm : behindInMarks .NotIn b = false := by rfl) : PEw X E (.Compare a [.NotIn] [b] pos) (wBin dNotIn ma mb) := e_cmp (op_notInW hu) dNotIn_ok ha hb hm
theorem chain_ok {r r' : R2} {o o' : Sto → D → D → Option D} (ho : OpOk X.K r o) (ho' : OpOk X.K r' o') : ∀ σ H Q, tE X.K X.mg E (wChain o o' ma mb mc) σ H Q → tChain r r' (tE X.K X.mg E ma) (tE X.K X.mg E mb) (tE X.K X.mg E mc) σ H Q :=
  fun σ H Q ⟨B, e, st, Qd, Xd, S, pq, px, m⟩ => ⟨B, e, st, _, Xd, S, fun x st1 vx H1 m1 x1 k1 r1 => ⟨B, e, st1, _, Xd, S.on x1 k1, fun y st2 vy H2 m2 x2 k2 r2 => by
    obtain ⟨z, hz, m3⟩ := on_iff.mp m2
    obtain ⟨t, ht, m4⟩ := on_iff.mp m3
    refine ho B H2 st2 vx vy x y z _ k2 (r1.ext x2) r2 hz fun v H3 x3 k3 r3 => ?_
    have ez : z = .bl t := by cases z <;> cases ht; rfl
    subst ez
    cases r3
    refine ⟨t, rfl, ?_⟩
    cases t with
    | true =>
      rw [if_pos rfl] at m4 ⊢
      refine ⟨B, e, st2, _, Xd, ((S.on x1 k1).on x2 k2).on x3 k3, fun w st4 vw H4 m5 x4 k4 r4 => ?_, ((px.on x1).on x2).on x3, m4⟩
      obtain ⟨u, hu, q⟩ := on_iff.mp m5
      exact ho' B H4 st4 vy vw y w u Q k4 ((r2.ext x3).ext x4) r4 hu fun v5 H5 x5 k5 r5 => pq u st4 v5 H5 q ((((x1.trans x2).trans x3).trans x4).trans x5) k5 r5
    | false =>
      rw [if_neg Bool.false_ne_true] at m4 ⊢
      exact pq _ st2 _ H3 m4 ((x1.trans x2).trans x3) k3 (.bl _), px.on x1, m1⟩, px, m⟩
theorem e_chain {op op' : CmpOp} {r r' : R2} {o o' : Sto → D → D → Option D} (hr : OpR X (compareOp op) r) (ho : OpOk X.K r o) (hr' : OpR X (compareOp op') r') (ho' : OpOk X.K r' o') (ha : PEw X E a ma) (hb : PEw X E b mb) (hc : PEw X E c mc)
    (hm : lastMarks [op, op'] [b, c] = false := by with_unfolding_all rfl) : PEw X E (.Compare a [op, op'] [b, c] pos) (wChain o o' ma mb mc) := pe_imp (pe_chain hr hr' ha hb hc hm) (chain_ok ho ho')
theorem test_ok {t : TE} {m : WE} (h : ∀ σ H Q, tE X.K X.mg E m σ H Q → t σ H Q) : ∀ σ H Q, tT X.K X.mg E (wTB m) σ H Q → tTest t σ H Q :=
  fun σ H Q ⟨B, e, st, Qd, Xd, S, pq, px, m⟩ => h σ H _ ⟨B, e, st, _, Xd, S, fun d st1 v H1 m1 x1 k1 r1 => by
    obtain ⟨b, hb, q⟩ := on_iff.mp m1
    have e : d = .bl b := by cases d <;> cases hb; rfl
    subst e
    cases r1
    exact ⟨b, rfl, pq b st1 H1 q x1 k1⟩, px, m⟩
theorem t_cmp {op : CmpOp} {r : R2} {o : Sto → D → D → Option D} (hr : OpR X (compareOp op) r) (ho : OpOk X.K r o) (ha : PEw X E a ma) (hb : PEw X E b mb) (hm : behindInMarks op b = false) : PTw X E (.Compare a [op] [b] pos) (wTB (wBin o ma mb)) := pt_imp (pt_cmpR hr ha hb hm) (test_ok (bin_ok ho))
theorem t_eq (hu : X.A.units + 65 < cLine) (ha : PEw X E a ma) (hb : PEw X E b mb) : PTw X E (.Compare a [.Eq] [b] pos) (wTB (wBin dEq ma mb)) := t_cmp (op_eqM hu) dEq_ok ha hb (nomark _)
theorem t_ne (hu : X.A.units + 65 < cLine) (ha : PEw X E a ma) (hb : PEw X E b mb) : PTw X E (.Compare a [.NotEq] [b] pos) (wTB (wBin dNe ma mb)) := t_cmp (op_neM hu) dNe_ok ha hb (nomark _)
theorem t_lt (ha : PEw X E a ma) (hb : PEw X E b mb) : PTw X E (.Compare a [.Lt] [b] pos) (wTB (wBin dLt ma mb)) := t_cmp op_ltD dLt_ok ha hb (nomark _)
theorem t_le (ha : PEw X E a ma) (hb : PEw X E b mb) : PTw X E (.Compare a [.LtE] [b] pos) (wTB (wBin dLe ma mb)) := t_cmp op_le dLe_ok ha hb (nomark _)
theorem t_gt (ha : PEw X E a ma) (hb : PEw X E b mb) : PTw X E (.Compare a [.Gt] [b] pos) (wTB (wBin dGt ma mb)) := t_cmp op_gt dGt_ok ha hb (nomark _)
theorem t_ge (ha : PEw X E a ma) (hb : PEw X E b mb) : PTw X E (.Compare a [.GtE] [b] pos) (wTB (wBin dGe ma mb)) := t_cmp op_ge dGe_ok ha hb (nomark _)
theorem t_is (ha : PEw X E a ma) (hb : PEw X E b mb) : PTw X E (.Compare a [.Is] [b] pos) (wTB (wBin dIs ma mb)) := t_cmp op_isN dIs_ok ha hb (nomark _)
theorem t_isnt (ha : PEw X E a ma) (hb : PEw X E b mb) : PTw X E (.Compare a [.IsNot] [b] pos) (wTB (wBin dIsNot ma mb)) := t_cmp op_notN dIsNot_ok ha hb (nomark _)
theorem t_in (hu : X.A.units + 65 < cLine) (ha : PEw X E a ma) (hb : PEw X E b mb) (hm : behindInMarks .In b = false := by rfl) : PTw X E (.Compare a [.In] [b] pos) (wTB (wBin dIn ma mb)) := t_cmp (op_inW hu) dIn_ok ha hb hm
theorem t_nin (hu : X.A.units + 65 < cLine) (ha : PEw X E a ma) (hb : PEw X E b mb) (hm : behindInMarks .NotIn b = false := by rfl) : PTw X E (.Compare a [.NotIn] [b] pos) (wTB (wBin dNotIn ma mb)) := t_cmp (op_notInW hu) dNotIn_ok ha hb hm
theorem t_chain {op op' : CmpOp} {r r' : R2} {o o' : Sto → D → D → Option D} (hr : OpR X (compareOp op) r) (ho : OpOk X.K r o) (hr' : OpR X (compareOp op') r') (ho' : OpOk X.K r' o') (ha : PEw X E a ma) (hb : PEw X E b mb) (hc : PEw X E c mc)
    (hm : lastMarks [op, op'] [b, c] = false := by with_unfolding_all rfl) : PTw X E (.Compare a [op, op'] [b, c] pos) (wTB (wChain o o' ma mb mc)) := pt_imp (pt_chain hr hr' ha hb hc hm) (test_ok (chain_ok ho ho'))
/-- any other expression as a test, by its truth -/
theorem t_tru (ha : PEw X E a ma) (he : ∀ whole, isTrue a X.env whole = (do let v ← whole; standAt a.pos; holding [v] (truthy v)) := by intro _; rfl) : PTw X E a (wTT ma) := pt_imp (pt_truth ha he) fun σ H Q ⟨B, e, st, Qd, Xd, S, pq, px, m⟩ =>
  ⟨B, e, st, _, Xd, S, fun d st1 v H1 m1 x1 k1 r1 => by
    obtain ⟨b, hb, q⟩ := on_iff.mp m1
    exact ⟨b, truth_ok k1 r1 hb, pq b st1 H1 q x1 k1⟩, px, m⟩
theorem t_not {t : WT} (h : PTw X E a t) : PTw X E (.UnaryOp .Not a pos) (wTNot t) := pt_imp (pt_not h) fun σ H Q ⟨B, e, st, Qd, Xd, S, pq, px, m⟩ => ⟨B, e, st, _, Xd, S, fun b st1 H1 m1 x1 k1 => pq _ st1 H1 m1 x1 k1, px, m⟩
abbrev PWw (X : Cx) (E : XK) (e : Expr) (m : WT) : Prop := PW X e (tT X.K X.mg E m)
theorem pw_imp {e : Expr} {t t' : TT} (h : PW X e t) (i : ∀ σ H Q, t' σ H Q → t σ H Q) : PW X e t' := ⟨fun wh pins s σ H Q I q => h.run wh pins s σ H Q I (i _ _ _ q)⟩
theorem w_and1 {t : WT} (h : PTw X E a t) : PWw X E (.BoolOp .And [a] pos) t := pw_and1 h
theorem w_or1 {t : WT} (h : PTw X E a t) : PWw X E (.BoolOp .Or [a] pos) t := pw_or1 h
theorem w_and {t u : WT} {rest : List Expr} (h : PTw X E a t) (h2 : PWw X E (.BoolOp .And (b :: rest) pos) u) : PWw X E (.BoolOp .And (a :: b :: rest) pos) (wTAnd t u) := pw_imp (pw_and h h2) fun σ H Q ⟨B, e, st, Qd, Xd, S, pq, px, m⟩ =>
  ⟨B, e, st, _, Xd, S, fun c st1 H1 m1 x1 k1 => by
    cases c with
    | true =>
      rw [if_pos rfl] at m1 ⊢
      exact ⟨B, e, st1, _, Xd, S.on x1 k1, fun c st2 H2 m2 x2 k2 => pq c st2 H2 m2 (x1.trans x2) k2, px.on x1, m1⟩
    | false =>
      rw [if_neg Bool.false_ne_true] at m1 ⊢
      exact pq _ st1 H1 m1 x1 k1, px, m⟩
theorem w_or {t u : WT} {rest : List Expr} (h : PTw X E a t) (h2 : PWw X E (.BoolOp .Or (b :: rest) pos) u) : PWw X E (.BoolOp .Or (a :: b :: rest) pos) (wTOr t u) := pw_imp (pw_or h h2) fun σ H Q ⟨B, e, st, Qd, Xd, S, pq, px, m⟩ =>
  ⟨B, e, st, _, Xd, S, fun c st1 H1 m1 x1 k1 => by
    cases c with
    | false =>
      rw [if_neg Bool.false_ne_true] at m1 ⊢
      exact ⟨B, e, st1, _, Xd, S.on x1 k1, fun c st2 H2 m2 x2 k2 => pq c st2 H2 m2 (x1.trans x2) k2, px.on x1, m1⟩
    | true =>
      rw [if_pos rfl] at m1 ⊢
      exact pq _ st1 H1 m1 x1 k1, px, m⟩
theorem t_w {t : WT} (h : PWw X E a t) : PTw X E a t := h.pt
/-! and, or, not as values -/
theorem e_one {op} (h : PEw X E a ma) : PEw X E (.BoolOp op [a] pos) ma := pe_one h
theorem e_or {rest : List Expr} (ha : PEw X E a ma) (hb : PEw X E (.BoolOp .Or (b :: rest) pos) mb) : PEw X E (.BoolOp .Or (a :: b :: rest) pos) (wOr ma mb) := pe_imp (pe_orT ha hb) fun σ H Q ⟨B, e, st, Qd, Xd, S, pq, px, m⟩ =>
  ⟨B, e, st, _, Xd, S, fun d st1 v H1 m1 x1 k1 r1 => by
    obtain ⟨t, ht, q⟩ := on_iff.mp m1
    refine ⟨t, truth_ok k1 r1 ht, ?_⟩
    cases t with
    | true =>
      rw [if_pos rfl] at q ⊢
      exact pq d st1 v H1 q x1 k1 r1
    | false =>
      rw [if_neg Bool.false_ne_true] at q ⊢
      exact ⟨B, e, st1, _, Xd, S.on x1 k1, pq.on x1, px.on x1, q⟩, px, m⟩
theorem e_and {rest : List Expr} (ha : PEw X E a ma) (hb : PEw X E (.BoolOp .And (b :: rest) pos) mb) : PEw X E (.BoolOp .And (a :: b :: rest) pos) (wAnd ma mb) := pe_imp (pe_andT ha hb) fun σ H Q ⟨B, e, st, Qd, Xd, S, pq, px, m⟩ =>
  ⟨B, e, st, _, Xd, S, fun d st1 v H1 m1 x1 k1 r1 => by
    obtain ⟨t, ht, q⟩ := on_iff.mp m1
    refine ⟨t, truth_ok k1 r1 ht, ?_⟩
    cases t with
    | false =>
      rw [if_neg Bool.false_ne_true] at q ⊢
      exact pq d st1 v H1 q x1 k1 r1
    | true =>
      rw [if_pos rfl] at q ⊢
      exact ⟨B, e, st1, _, Xd, S.on x1 k1, pq.on x1, px.on x1, q⟩, px, m⟩
theorem e_not (ha : PEw X E a ma) : PEw X E (.UnaryOp .Not a pos) (wNot ma) := pe_imp (pe_notT ha) fun σ H Q ⟨B, e, st, Qd, Xd, S, pq, px, m⟩ =>
  ⟨B, e, st, _, Xd, S, fun d st1 v H1 m1 x1 k1 r1 => by
    obtain ⟨t, ht, q⟩ := on_iff.mp m1
    exact ⟨t, truth_ok k1 r1 ht, pq _ st1 _ H1 q x1 k1 (.bl _)⟩, px, m⟩
def dNeg (_ : Sto) : D → Option D
  | .int i => some (.int (-i))
  | _ => none
theorem e_neg (ha : PEw X E a ma) : PEw X E (.UnaryOp .USub a pos) (wUn dNeg ma) := pe_imp (pe_un un_neg ha) fun σ H Q ⟨B, e, st, Qd, Xd, S, pq, px, m⟩ =>
  ⟨B, e, st, _, Xd, S, fun d st1 v H1 m1 x1 k1 r1 => by
    obtain ⟨t, ht, q⟩ := on_iff.mp m1
    unfold dNeg at ht
    split at ht <;> cases ht
    cases r1
    exact ⟨_, rfl, pq _ st1 _ H1 q x1 k1 (.int _)⟩, px, m⟩
theorem e_if {t : WT} (ht : PTw X E c t) (ha : PEw X E a ma) (hb : PEw X E b mb) : PEw X E (.IfExp c a b pos) (wIf t ma mb) := pe_imp (pe_ifExp ht ha hb) fun σ H Q ⟨B, e, st, Qd, Xd, S, pq, px, m⟩ =>
  ⟨B, e, st, _, Xd, S, fun c st1 H1 m1 x1 k1 => by
    cases c with
    | false =>
      rw [if_neg Bool.false_ne_true] at m1 ⊢
      exact ⟨B, e, st1, _, Xd, S.on x1 k1, pq.on x1, px.on x1, m1⟩
    | true =>
      rw [if_pos rfl] at m1 ⊢
      exact ⟨B, e, st1, _, Xd, S.on x1 k1, pq.on x1, px.on x1, m1⟩, px, m⟩
/-! subscripts -/
theorem e_ix (hu : X.A.units + 65 < cLine) (ha : PEw X E a ma) (hb : PEw X E b mb) (hs : PlainIx b := by exact fun _ _ => rfl) : PEw X E (.Subscript a b pos) (wBin ixD ma mb) := pe_imp (pe_ix (ix_W hu) ha hb hs) (bin_ok ixD_ok)
def tO (K : PySem.W.Frag) (mg : Str → Option Value) (E : XK) (m : WO) : TO := fun σ H Q => ∃ B e st Qd Xd, Sit K B e st σ H ∧
  (∀ o st' H', Qd o st' → Ext H (mu st B) H' (mu st' B) → StoOk K H' B st' → Q o H') ∧ PostX K mg B H st Xd E ∧ m e st Xd Qd
theorem po_imp {o : Option Expr} {t t' : TO} (h : PO X o t) (i : ∀ σ H Q, t' σ H Q → t σ H Q) : PO X o t' := ⟨fun pins s σ H Q I q => h.run pins s σ H Q I (i _ _ _ q)⟩
theorem o_no : PO X none (tO X.K X.mg E wNo) := po_imp po_none fun σ H Q ⟨B, e, st, Qd, Xd, S, pq, px, m⟩ => pq none st H m .refl S.sto
theorem o_part (h : PEw X E a ma) : PO X (some a) (tO X.K X.mg E (wPart ma)) := po_imp (po_some h) fun σ H Q ⟨B, e, st, Qd, Xd, S, pq, px, m⟩ => ⟨B, e, st, _, Xd, S, fun d st1 v H1 m1 x1 k1 r1 => by
  obtain ⟨i, hi, q⟩ := on_iff.mp m1
  have ed : d = .int i := by cases d <;> cases hi; rfl
  subst ed
  cases r1
  exact ⟨i, rfl, pq (some i) st1 H1 q x1 k1⟩, px, m⟩
theorem e_sl {p2 : Pos} {lo hi : Option Expr} {ml mh : WO} (ha : PEw X E a ma) (hl : PO X lo (tO X.K X.mg E ml)) (hh : PO X hi (tO X.K X.mg E mh)) : PEw X E (.Subscript a (.Slice lo hi none p2) pos) (wSl ma ml mh) :=
  pe_imp (pe_slice sl_W ha hl hh) fun σ H Q ⟨B, e, st, Qd, Xd, S, pq, px, m⟩ => ⟨B, e, st, _, Xd, S, fun x st1 vx H1 m1 x1 k1 r1 => ⟨B, e, st1, _, Xd, S.on x1 k1, fun l st2 H2 m2 x2 k2 =>
    ⟨B, e, st2, _, Xd, (S.on x1 k1).on x2 k2, fun h st3 H3 m3 x3 k3 => by
      obtain ⟨d, hd, q⟩ := on_iff.mp m3
      exact slD_ok k3 ((r1.ext x2).ext x3) hd fun v H' x4 k4 r4 => pq d st3 v H' q (((x1.trans x2).trans x3).trans x4) k4 r4, (px.on x1).on x2, m2⟩, px.on x1, m1⟩, px, m⟩
/-- xs[::-1] of a list -/
def dRev (st : Sto) (x : D) : Option D := (lsOf st x).map fun ds => .lst ds.reverse
theorem e_rev {k : Nat} {p1 p2 p3 : Pos} (ha : PEw X E a ma) : PEw X E (.Subscript a (.Slice none none (some (.UnaryOp .USub (.Constant (.int 1) k p1) p2)) p3) pos) (wUn dRev ma) := pe_imp (pe_revL ha) fun σ H Q ⟨B, e, st, Qd, Xd, S, pq, px, m⟩ =>
  ⟨B, e, st, _, Xd, S, fun d st1 v H1 m1 x1 k1 r1 => by
    obtain ⟨t, ht, q⟩ := on_iff.mp m1
    obtain ⟨ds, h1, rfl⟩ := Option.map_eq_some_iff.mp ht
    obtain ⟨a, vs, rfl, h, r, z⟩ := ls_of k1 r1 h1
    refine ⟨a, vs, rfl, .inl h, fun p hp => ?_⟩
    obtain ⟨x2, k2, r2⟩ := new_lst k1 hp r.reverse (by rw [List.length_reverse]; exact z)
    exact pq _ st1 _ _ q (x1.trans x2) k2 r2, px, m⟩
/-! arguments, displays, calls -/
theorem a_nil : PAw X E [] 0 wNil := pa_imp pa_nil fun σ H Q ⟨B, e, st, Qd, Xd, S, pq, px, m⟩ => pq [] st [] H m rfl .refl S.sto .nil
theorem a_cons {es : List Expr} {n : Nat} {r : WA} (ha : PEw X E a ma) (hr : PAw X E es n r) (hs : starEach (a :: es) X.env = (false, eval a X.env) :: starEach es X.env := by rfl) : PAw X E (a :: es) (n + 1) (wCons ma r) :=
  pa_imp (pa_cons ha hr hs) fun σ H Q ⟨B, e, st, Qd, Xd, S, pq, px, m⟩ => ⟨B, e, st, _, Xd, S, fun x st1 vx H1 m1 x1 k1 r1 => ⟨B, e, st1, _, Xd, S.on x1 k1, fun ds st2 vs H2 m2 l2 x2 k2 r2 =>
    pq (x :: ds) st2 (vx :: vs) H2 m2 (by rw [List.length_cons, l2]) (x1.trans x2) k2 (.cons (r1.ext x2) r2), px.on x1, m1⟩, px, m⟩
variable {es : List Expr} {n : Nat} {m : WA}
theorem le_size {n : Nat} (h : n ≤ 1000) : n ≤ sizeLine := Nat.le_trans h (by decide)
theorem e_tup {x1} (h : PAw X E es n m) (hn : n ≤ 1000 := by decide) : PEw X E (.Tuple es x1 pos) (wTup m) := pe_imp (pe_tup h) fun σ H Q ⟨B, e, st, Qd, Xd, S, pq, px, m⟩ => ⟨B, e, st, _, Xd, S, fun ds st1 vs H1 m1 l1 x1 k1 r1 =>
  have z : ds.length ≤ sizeLine := by rw [l1]; exact le_size hn
  ⟨by rw [r1.length]; exact z, fun p hp => let ⟨x2, k2, r2⟩ := new_tup k1 hp r1 z; pq _ st1 _ _ m1 (x1.trans x2) k2 r2⟩, px, m⟩
theorem e_lst (h : PAw X E es n m) (hn : n ≤ 1000 := by decide) : PEw X E (.List es pos) (wLst m) := pe_imp (pe_lst h) fun σ H Q ⟨B, e, st, Qd, Xd, S, pq, px, m⟩ => ⟨B, e, st, _, Xd, S, fun ds st1 vs H1 m1 l1 x1 k1 r1 =>
  have z : ds.length ≤ sizeLine := by rw [l1]; exact le_size hn
  ⟨by rw [r1.length]; exact z, fun p hp => let ⟨x2, k2, r2⟩ := new_lst k1 hp r1 z; pq _ st1 _ _ m1 (x1.trans x2) k2 r2⟩, px, m⟩
theorem e_lstR (h : PAw X E es n m) (hn : n ≤ 1000 := by decide) : PEw X E (.List es pos) (wLstR m) := pe_imp (pe_lst h) fun σ H Q ⟨B, e, st, Qd, Xd, S, pq, px, m⟩ => ⟨B, e, st, _, Xd, S, fun ds st1 vs H1 m1 l1 x1 k1 r1 =>
  have z : ds.length ≤ sizeLine := by rw [l1]; exact le_size hn
  ⟨by rw [r1.length]; exact z, fun p hp => let ⟨k2, x2⟩ := k1.put (c := .lst ds) (o := .lst vs) hp ⟨r1, z⟩; pq _ _ _ _ (m1 p (k1.none_ hp)) (x1.trans x2) k2 (.ref p)⟩, px, m⟩
theorem call_ok {r : List V → Hp → VK → Prop} {o : Sto → List D → Option D} (ho : CaOk X.K r o) : ∀ σ H Q, tE X.K X.mg E (wCall o m) σ H Q → tCB r (tAn X.K X.mg E n m) σ H Q :=
  fun σ H Q ⟨B, e, st, Qd, Xd, S, pq, px, mm⟩ => ⟨B, e, st, _, Xd, S, fun ds st1 vs H1 m1 l1 x1 k1 r1 => by
    obtain ⟨d, hd, q⟩ := on_iff.mp m1
    exact ho B H1 st1 vs ds d Q k1 r1 hd fun v H' x3 k3 r3 => pq d st1 v H' q (x1.trans x3) k3 r3, px, mm⟩
section
variable {x : Str} {p : Pos} {id T : String}
theorem e_cb {r : List V → Hp → VK → Prop} {o : Sto → List D → Option D} (hc : CallR X (.builtin id) r) (ho : CaOk X.K r o) (hg : Gl X x) (hm : X.mg x = none) (hv : bootBuiltins x = some (.builtin id)) (ha : PAw X E (a :: es) n m) (hn : x ≠ "__name__" := by decide) (hdb : (x == ("__debug__" : Str)) = false := by decide)
    (he : starEach (a :: es) X.env = (false, eval a X.env) :: starEach es X.env := by rfl) (hpl : (backTo pos (starEach es X.env)).any (·.1) = false := by rfl) : PEw X E (.Call (.Name x p) (a :: es) [] pos) (wCall o m) :=
  pe_imp (pe_callB hc hg hm hv ha hn hdb he hpl) (call_ok ho)
theorem e_ct {r : List V → Hp → VK → Prop} {o : Sto → List D → Option D} (hc : CallR X (.type T) r) (ho : CaOk X.K r o) (hg : Gl X x) (hm : X.mg x = none) (hv : bootBuiltins x = some (.type T)) (ha : PAw X E (a :: es) n m) (hn : x ≠ "__name__" := by decide) (hdb : (x == ("__debug__" : Str)) = false := by decide)
    (he : starEach (a :: es) X.env = (false, eval a X.env) :: starEach es X.env := by rfl) (hpl : (backTo pos (starEach es X.env)).any (·.1) = false := by rfl) : PEw X E (.Call (.Name x p) (a :: es) [] pos) (wCall o m) :=
  pe_imp (pe_callTy hc hg hm hv ha hn hdb he hpl) (call_ok ho)
/-- f(e, ..), an own def -/
theorem fn_ok {F : WF} : ∀ σ H Q, tE X.K X.mg E (wFn F m) σ H Q → tCall (spF X.K X.mg n F) [] E (tAn X.K X.mg E n m) σ H Q :=
  fun σ H Q ⟨B, e, st, Qd, Xd, S, pq, px, mm⟩ => ⟨B, e, st, _, Xd, S, fun ds st1 vs H1 m1 l1 x1 k1 r1 => ⟨B, ds, st1, Qd, Xd, by rw [List.append_nil, r1.length, l1], k1, by rw [List.append_nil]; exact r1, pq.on x1, px.on x1, m1⟩, px, mm⟩
theorem e_fn {CX : CXT} {k : Nat} {f : Addr} {fd : FuncData} {ps : List Str} {F : WF} (G : FnOk X.prog X.w X.K X.mg X.base CX k f fd ps (spF X.K X.mg n F)) (hr : Room k X.A) (hg : Gl X x) (hm : X.mg x = some (.ref f)) (hk : PySem.W.keepIn X.K (.ref f) = true) (hb : Binds X.K fd ps []) (hx : Passes CX X E)
    (ha : PAw X E (a :: es) n m) (hdb : (x == ("__debug__" : Str)) = false := by decide) (he : starEach (a :: es) X.env = (false, eval a X.env) :: starEach es X.env := by rfl) (hpl : (backTo pos (starEach es X.env)).any (·.1) = false := by rfl) :
    PEw X E (.Call (.Name x p) (a :: es) [] pos) (wFn F m) := pe_imp (pe_call G hr hg hm hk hb .nil hx ha hdb he hpl) fn_ok
end
end
end DL
namespace DL
open PySem PySem.Spec PyProof.Rows L2

/-! ### meanings of statements -/
def wSkip : WS := fun E e st => E.nx e st
def wSeq (a b : WS) : WS := fun E e st => a { E with nx := b E } e st
def wSet (i : Nat) (m : WE) : WS := fun E e st => m e st E.ex fun d st1 => E.nx (e.set i (some d)) st1
def wDrop (m : WE) : WS := fun E e st => m e st E.ex fun _ st1 => E.nx e st1
def wRet (m : WE) : WS := fun E e st => m e st E.ex E.rt
def wRetN : WS := fun E _ st => E.rt .non st
def wIfS (t : WT) (a b : WS) : WS := fun E e st => t e st E.ex fun c st1 => if c = true then a E e st1 else b E e st1
def wBrk : WS := fun E e st => E.bk e st
def wCnt : WS := fun E e st => E.ct e st
/-! targets -/
inductive Tg where
  | nm (i : Nat) | tp (ts : List Tg)
mutual
def asg : Tg → D → Env → Option Env
  | .nm i, d, e => some (e.set i (some d))
  | .tp ts, d, e => (tpOf d).bind fun ds => asgs ts ds e
def asgs : List Tg → List D → Env → Option Env
  | [], [], e => some e
  | t :: ts, d :: ds, e => (asg t d e).bind fun e1 => asgs ts ds e1
  | _, _, _ => none
end
mutual
def Tg.slots : Tg → List Nat
  | .nm i => [i]
  | .tp ts => slotsL ts
def slotsL : List Tg → List Nat
  | [] => []
  | t :: ts => t.slots ++ slotsL ts
end
def forget (vs : List Nat) (e : Env) : Env := vs.foldl (fun e i => e.set i none) e
def wAsg (t : Tg) (m : WE) : WS := fun E e st => m e st E.ex fun d st1 => on (asg t d e) fun e1 => E.nx e1 st1
/-- o[i] = v -/
def putL (ds : List D) (i : Int) (v : D) : Option (List D) := (ixN ds.length i).map fun j => ds.set j v
def putKD {κ : Type} [DecidableEq κ] (kvs : List (κ × D)) (k : κ) (v : D) : List (κ × D) :=
  if kvs.any (fun kv => decide (kv.1 = k)) then kvs.map (fun kv => if kv.1 = k then (kv.1, v) else kv) else kvs ++ [(k, v)]
def putD (st : Sto) (o i v : D) : Option Sto := match o with
  | .ref a => match st a with
    | some (.lst ds) => match i with | .int k => (putL ds k v).map fun ds' => st.set a (.lst ds') | _ => none
    | some (.dk kvs) => (keyOf i).bind fun k => if kvs.length < sizeLine then some (st.set a (.dk (putKD kvs k v))) else none
    | some (.dt kvs) => (tkeyOf i).bind fun k => if kvs.length < sizeLine then some (st.set a (.dt (putKD kvs k v))) else none
    | _ => none
  | _ => none
def wPut (o i v : WE) : WS := fun E e st => v e st E.ex fun dv st1 => o e st1 E.ex fun x st2 => i e st2 E.ex fun k st3 => on (putD st3 x k dv) fun st4 => E.nx e st4

section
variable {X : Cx} {E : XK} {a b c : Expr} {ma mb mc : WE} {pos : Pos} {s1 : Stmt} {ss : List Stmt} {m1 m2 : WS}
abbrev PSw (X : Cx) (E : XK) (s : Stmt) (m : WS) : Prop := PS X s (tS X.K X.mg E m)
abbrev PBw (X : Cx) (E : XK) (ss : List Stmt) (m : WS) : Prop := PSs X ss (tS X.K X.mg E m)
theorem b_nil : PBw X E [] wSkip := pss_imp pss_nil fun D σ H ⟨B, e, st, W, S, k, m⟩ => k.nx e st σ H m S .refl
theorem b_one (h : PSw X E s1 m1) : PBw X E [s1] m1 := pss_one h
theorem b_cons (h1 : PSw X E s1 m1) (h2 : PBw X E ss m2) : PBw X E (s1 :: ss) (wSeq m1 m2) := pss_imp (pss_cons h1 h2) fun D σ H ⟨B, e, st, W, S, k, m⟩ =>
  ⟨B, e, st, { W with nx := m2 W }, S, ⟨fun e' st' σ' H' n S' x => ⟨B, e', st', W, S', k.on x, n⟩, k.rt, k.ex, k.bk, k.ct⟩, m⟩
theorem s_pass : PSw X E (.Pass pos) wSkip := ps_imp ps_pass fun D σ H ⟨B, e, st, W, S, k, m⟩ => k.nx e st σ H m S .refl
theorem s_doc {x j pos'} : PSw X E (.Expr (.Constant (.str x) j pos) pos') wSkip := ps_imp ps_doc fun D σ H ⟨B, e, st, W, S, k, m⟩ => k.nx e st σ H m S .refl
theorem s_break : PSw X E (.Break pos) wBrk := ps_imp ps_break fun D σ H ⟨B, e, st, W, S, k, m⟩ => k.bk e st σ H m S .refl
theorem s_continue : PSw X E (.Continue pos) wCnt := ps_imp ps_continue fun D σ H ⟨B, e, st, W, S, k, m⟩ => k.ct e st σ H m S .refl
theorem s_ret (h : PEw X E a ma) : PSw X E (.Return (some a) pos) (wRet ma) := ps_imp (ps_ret h) fun D σ H ⟨B, e, st, W, S, k, m⟩ => ⟨B, e, st, W.rt, W.ex, S, k.rt, k.ex, m⟩
theorem s_retN : PSw X E (.Return none pos) wRetN := ps_imp ps_retN fun D σ H ⟨B, e, st, W, S, k, m⟩ => k.rt .non st .non H m .refl S.sto .non
theorem drop_ok : ∀ D σ H, tS X.K X.mg E (wDrop ma) D σ H → L2.tDrop (tE X.K X.mg E ma) D σ H := fun D σ H ⟨B, e, st, W, S, k, m⟩ => ⟨B, e, st, _, W.ex, S, fun d st1 v H1 n x1 k1 r1 => k.nx e st1 σ H1 n (S.on x1 k1) x1, k.ex, m⟩
theorem s_expr (h : PEw X E a ma) (hs : swapsWith a none pos.line X.env = pure false := by rfl) : PSw X E (.Expr a pos) (wDrop ma) := ps_imp (ps_expr h hs) drop_ok
theorem set_ok {t : TE} {i : Nat} (h : ∀ σ H Q, tE X.K X.mg E ma σ H Q → t σ H Q) : ∀ D σ H, tS X.K X.mg E (wSet i ma) D σ H → tAsg t (gName i) D σ H := fun D σ H ⟨B, e, st, W, S, k, m⟩ =>
  h σ H _ ⟨B, e, st, _, W.ex, S, fun d st1 v H1 n x1 k1 r1 => k.nx _ st1 _ H1 n ⟨(S.env.ext x1).set i r1, k1⟩ x1, k.ex, m⟩
theorem s_set (i : Nat) {x : Str} {pos' : Pos} (hN : X.N.Nodup) (h : PEw X E a ma) (hi : X.N[i]? = some x := by rfl) (hx : Loc X.env.scope x := by first | exact Or.inl rfl | exact Or.inr rfl)
    (hs : swapsWith a (some (.Name x pos')) pos.line X.env = pure false := by rfl) (hf : X.fn x = true ∨ X.env.scope.names.lookup x = some .local := by first | exact .inl rfl | exact .inr rfl | assumption) : PSw X E (.Assign [.Name x pos'] a pos) (wSet i ma) :=
  ps_imp (ps_set hN hi hx h hs hf) (set_ok fun _ _ _ h => h)
theorem s_if {t : WT} {as bs : List Stmt} (ht : PTw X E c t) (ha : PBw X E as m1) (hb : PBw X E bs m2) : PSw X E (.If c as bs pos) (wIfS t m1 m2) := ps_imp (ps_if ht ha hb) fun D σ H ⟨B, e, st, W, S, k, m⟩ =>
  ⟨B, e, st, _, W.ex, S, fun c st1 H1 n x1 k1 => by
    cases c with
    | true =>
      rw [if_pos rfl] at n ⊢
      exact ⟨B, e, st1, W, S.on x1 k1, k.on x1, n⟩
    | false =>
      rw [if_neg Bool.false_ne_true] at n ⊢
      exact ⟨B, e, st1, W, S.on x1 k1, k.on x1, n⟩, k.ex, m⟩

/-! ### targets -/
def Outs (ss : List Nat) (σ σ' : L2.St) : Prop := σ'.length = σ.length ∧ ∀ i, i ∉ ss → σ'[i]? = σ[i]?
def tG (K : PySem.W.Frag) (t : Tg) : TG := fun v σ H Q => ∃ B e st d Qd, Sit K B e st σ H ∧ Rep K H (mu st B) d v ∧ (∀ e' σ', Qd e' → Sit K B e' st σ' H → Outs t.slots σ σ' → Q σ' H) ∧ on (asg t d e) Qd
def tGs (K : PySem.W.Frag) (ts : List Tg) : TGs := fun vs σ H Q => ∃ B e st ds Qd, Sit K B e st σ H ∧ RepL K H (mu st B) ds vs ∧ (∀ e' σ', Qd e' → Sit K B e' st σ' H → Outs (slotsL ts) σ σ' → Q σ' H) ∧ on (asgs ts ds e) Qd
theorem pg_imp {e : Expr} {t t' : TG} (h : PG X e t) (i : ∀ v σ H Q, t' v σ H Q → t v σ H Q) : PG X e t' := ⟨fun pins s σ H v u Q I r q => h.run pins s σ H v u Q I r (i _ _ _ _ q)⟩
theorem pgs_imp {e : List Expr} {t t' : TGs} (h : PGs X e t) (i : ∀ v σ H Q, t' v σ H Q → t v σ H Q) : PGs X e t' := ⟨fun pins s σ H v u Q I r q => h.run pins s σ H v u Q I r (i _ _ _ _ q)⟩
abbrev PGw (X : Cx) (e : Expr) (t : Tg) : Prop := PG X e (tG X.K t)
abbrev PGsw (X : Cx) (e : List Expr) (t : List Tg) : Prop := PGs X e (tGs X.K t)
theorem g_nm (i : Nat) {x : Str} (hN : X.N.Nodup) (hi : X.N[i]? = some x := by rfl) (hx : Loc X.env.scope x := by first | exact Or.inl rfl | exact Or.inr rfl) (hf : X.fn x = true ∨ X.env.scope.names.lookup x = some .local := by first | exact .inl rfl | exact .inr rfl | assumption) :
    PGw X (.Name x pos) (.nm i) := pg_imp (pg_name hN hi hx hf) fun v σ H Q ⟨B, e, st, d, Qd, S, r, q, m⟩ => q _ _ m ⟨S.env.set i r, S.sto⟩ ⟨by rw [List.length_set], fun j hj => by
      rw [List.getElem?_set_ne]
      intro z
      subst z
      exact hj (by unfold Tg.slots; exact List.mem_singleton_self _)⟩
theorem gs_nil : PGsw X [] [] := pgs_imp pgs_nil fun vs σ H Q ⟨B, e, st, ds, Qd, S, r, q, m⟩ => by
  cases r with
  | nil => exact ⟨rfl, q e σ m S ⟨rfl, fun _ _ => rfl⟩⟩
  | cons _ _ => unfold asgs at m; exact m.elim
theorem gs_cons {t : Tg} {ts : List Tg} {es : List Expr} (h1 : PGw X a t) (h2 : PGsw X es ts) (hs : (assignEach (a :: es) X.env).map (·.2) = assign a X.env :: (assignEach es X.env).map (·.2) := by rfl) : PGsw X (a :: es) (t :: ts) :=
  pgs_imp (pgs_cons h1 h2 hs) fun vs σ H Q ⟨B, e, st, ds, Qd, S, r, q, m⟩ => by
    cases r with
    | nil => unfold asgs at m; exact m.elim
    | @cons d v ds vs r rr =>
      unfold asgs at m
      obtain ⟨e2, h3, m⟩ := on_iff.mp m
      obtain ⟨e1, h4, h5⟩ := Option.bind_eq_some_iff.mp h3
      refine ⟨v, vs, rfl, B, e, st, d, fun x => x = e1, S, r, fun e' σ' ee S' o => ?_, on_iff.mpr ⟨e1, h4, rfl⟩⟩
      subst ee
      refine ⟨B, e', st, ds, Qd, S', rr, fun e3 σ3 q3 S3 o3 => q e3 σ3 q3 S3 ⟨o3.1.trans o.1, fun i hi => ?_⟩, on_iff.mpr ⟨e2, h5, m⟩⟩
      have : i ∉ t.slots ∧ i ∉ slotsL ts := by
        unfold slotsL at hi
        rw [List.mem_append] at hi
        exact ⟨fun z => hi (.inl z), fun z => hi (.inr z)⟩
      rw [o3.2 i this.2, o.2 i this.1]
theorem asgs_len : ∀ {ts : List Tg} {ds : List D} {e e' : Env}, asgs ts ds e = some e' → ds.length = ts.length
  | [], [], _, _, _ => rfl
  | [], _ :: _, _, _, h => by unfold asgs at h; cases h
  | _ :: _, [], _, _, h => by unfold asgs at h; cases h
  | t :: ts, d :: ds, e, e', h => by
    unfold asgs at h
    obtain ⟨e1, _, h5⟩ := Option.bind_eq_some_iff.mp h
    rw [List.length_cons, List.length_cons, asgs_len h5]
theorem g_tp {ts : List Tg} {es : List Expr} {k : Nat} (hc : X.calm = true) (h : PGsw X es ts) (hn : (assignEach es X.env).length = ts.length := by rfl) (hst : (assignEach es X.env).findIdx? (·.1) = none := by rfl) : PGw X (.Tuple es k pos) (.tp ts) :=
  pg_imp (pg_tup hc h hn hst) fun v σ H Q ⟨B, e, st, d, Qd, S, r, q, m⟩ => by
    obtain ⟨e1, h1, m⟩ := on_iff.mp m
    unfold asg at h1
    obtain ⟨ds, h2, h3⟩ := Option.bind_eq_some_iff.mp h1
    obtain ⟨a, vs, rfl, hs, r2, z⟩ := tp_of r h2
    exact ⟨a, vs, rfl, hs, by rw [r2.length, asgs_len h3], B, e, st, ds, Qd, S, r2, fun e' σ' q' S' o => q e' σ' q' S' o, on_iff.mpr ⟨e1, h3, m⟩⟩
theorem s_asg {t : Tg} {tg : Expr} (h : PEw X E a ma) (hg : PGw X tg t) (hs : swapsWithSole [tg] a pos.line X.env = pure false := by rfl) (hw : swappedStores [tg] a X.env = pure none := by rfl)
    (h1 : (assignEach [tg] X.env).map (·.2) = [assign tg X.env] := by rfl) : PSw X E (.Assign [tg] a pos) (wAsg t ma) := ps_imp (ps_asg h hg hs hw h1) fun D σ H ⟨B, e, st, W, S, k, m⟩ =>
  ⟨B, e, st, _, W.ex, S, fun d st1 v H1 n x1 k1 r1 => ⟨B, e, st1, d, fun e1 => W.nx e1 st1, S.on x1 k1, r1, fun e' σ' q S' _ => k.nx e' st1 σ' H1 q S' x1, n⟩, k.ex, m⟩

/-! ### stores to a subscript -/
theorem any_fst {κ α β : Type} [DecidableEq κ] {kvs : List (κ × α)} {ws : List (κ × β)} (k : κ) (e : ws.map (·.1) = kvs.map (·.1)) : (ws.any fun kv => decide (kv.1 = k)) = kvs.any fun kv => decide (kv.1 = k) := by
  have h : ∀ {γ : Type} (l : List (κ × γ)), (l.any fun kv => decide (kv.1 = k)) = (l.map (·.1)).any fun x => decide (x = k) := fun l => by rw [List.any_map]; rfl
  rw [h, h, e]
theorem fst_map {κ α : Type} [DecidableEq κ] (k : κ) (v : α) (l : List (κ × α)) : (l.map fun kv => if kv.1 = k then (kv.1, v) else kv).map (·.1) = l.map (·.1) := by
  rw [List.map_map]
  refine List.map_congr_left fun x _ => ?_
  show (if x.1 = k then (x.1, v) else x).1 = x.1
  split <;> rfl
theorem putKD_fst {κ : Type} [DecidableEq κ] {kvs : List (κ × D)} {ws : List (κ × V)} {k : κ} {d : D} {v : V} (e : ws.map (·.1) = kvs.map (·.1)) : (putK ws k v).map (·.1) = (putKD kvs k d).map (·.1) := by
  unfold putK putKD
  rw [any_fst k e]
  split
  · rw [fst_map, fst_map, e]
  · rw [List.map_append, List.map_append, e]; rfl
theorem putKD_rep {κ : Type} [DecidableEq κ] {K : PySem.W.Frag} {H : Hp} {M : Mu} {d : D} {v : V} (r : Rep K H M d v) {kvs : List (κ × D)} {ws : List (κ × V)} {k : κ} (e : ws.map (·.1) = kvs.map (·.1)) (rr : RepL K H M (kvs.map (·.2)) (ws.map (·.2))) : RepL K H M ((putKD kvs k d).map (·.2)) ((putK ws k v).map (·.2)) := by
  have go : ∀ {kvs : List (κ × D)} {ws : List (κ × V)}, ws.map (·.1) = kvs.map (·.1) → RepL K H M (kvs.map (·.2)) (ws.map (·.2)) →
      RepL K H M ((kvs.map fun kv => if kv.1 = k then (kv.1, d) else kv).map (·.2)) ((ws.map fun kv => if kv.1 = k then (kv.1, v) else kv).map (·.2)) := by
    intro kvs
    induction kvs with
    | nil => intro ws e _; cases ws with
      | nil => exact .nil
      | cons _ _ => simp at e
    | cons p kvs ih => intro ws e rr; cases ws with
      | nil => simp at e
      | cons q ws =>
        simp only [List.map_cons, List.cons.injEq] at e
        rw [List.map_cons, List.map_cons] at rr
        cases rr with
        | cons r1 r2 =>
          have h := ih e.2 r2
          rw [List.map_cons, List.map_cons, List.map_cons, List.map_cons]
          by_cases z : p.1 = k
          · rw [if_pos z, if_pos (e.1.trans z)]; exact .cons r h
          · rw [if_neg z, if_neg (fun y => z (e.1.symm.trans y))]; exact .cons r1 h
  unfold putK putKD
  rw [any_fst k e]
  split
  · exact go e rr
  · rw [List.map_append, List.map_append]; exact rr.append (.cons r .nil)
def rPutW : TSet := fun o i v H Q => rSetL o i v H Q ∨ ∃ a H', o = .ref a ∧ DPut H a i v H' ∧ Q H'
theorem set_W (hu : X.A.units + 65 < cLine) : PSet X rPutW := by
  intro pins s σ H o i v ov iv u Q I ro ri rv h
  rcases h with h | ⟨a, H', rfl, g, q⟩
  · exact set_list pins s σ H o i v ov iv u Q I ro ri rv h
  · cases ro
    exact d_setItem (by omega) I g ri rv fun s4 I4 => ⟨H', I4, q⟩
theorem put_ok {K : PySem.W.Frag} {B : Bz} {H : Hp} {st st' : Sto} {o i v : D} {vo vi vv : V} {Q : Hp → Prop} (k : StoOk K H B st) (ro : Rep K H (mu st B) o vo) (ri : Rep K H (mu st B) i vi) (rv : Rep K H (mu st B) v vv) (e : putD st o i v = some st')
    (q : ∀ H', Ext H (mu st B) H' (mu st' B) → StoOk K H' B st' → Q H') : rPutW vo vi vv H Q := by
  unfold putD at e
  split at e
  · rename_i a
    cases ro
    split at e
    · rename_i ds q1
      split at e
      · obtain ⟨ds', h1, rfl⟩ := Option.map_eq_some_iff.mp e
        obtain ⟨j, h2, rfl⟩ := Option.map_eq_some_iff.mp h1
        obtain ⟨u, e1, r1⟩ := k.at_ a _ q1
        cases u <;> try exact r1.elim
        cases ri
        obtain ⟨k2, x2⟩ := k.write (c := .lst (ds.set j v)) (o := .lst _) q1 ⟨RepL.set rv j r1.1, by rw [List.length_set]; exact r1.2⟩
        exact .inl ⟨a, _, _, j, rfl, rfl, e1, by rw [r1.1.length]; exact h2, q _ x2 k2⟩
      · cases e
    · rename_i kvs q1
      obtain ⟨key, h1, h2⟩ := Option.bind_eq_some_iff.mp e
      split at h2 <;> cases h2
      rename_i hz
      obtain ⟨u, e1, r1⟩ := k.at_ a _ q1
      cases u <;> try exact r1.elim
      rename_i ws
      have hl := congrArg List.length r1.1
      simp only [List.length_map] at hl
      obtain ⟨k2, x2⟩ := k.write (c := .dk (putKD kvs key v)) (o := .dK (putK ws key vv)) q1 ⟨putKD_fst r1.1, putKD_rep rv r1.1 r1.2⟩
      exact .inr ⟨a, _, rfl, .inl ⟨ws, key, e1, key_of_ ri h1, by rw [hl]; exact hz, rfl⟩, q _ x2 k2⟩
    · rename_i kvs q1
      obtain ⟨key, h1, h2⟩ := Option.bind_eq_some_iff.mp e
      split at h2 <;> cases h2
      rename_i hz
      obtain ⟨u, e1, r1⟩ := k.at_ a _ q1
      cases u <;> try exact r1.elim
      rename_i ws
      have hl := congrArg List.length r1.1
      simp only [List.length_map] at hl
      obtain ⟨k2, x2⟩ := k.write (c := .dt (putKD kvs key v)) (o := .dT (putK ws key vv)) q1 ⟨putKD_fst r1.1, putKD_rep rv r1.1 r1.2⟩
      unfold tkeyOf at h1
      split at h1
      · cases ri
        rename_i h r z
        exact .inr ⟨a, _, rfl, .inr ⟨ws, key, _, e1, rfl, by rw [← keys_of r h1]; exact h.2, by rw [hl]; exact hz, rfl⟩, q _ x2 k2⟩
      · cases h1
    · cases e
  · cases e
theorem s_put (hu : X.A.units + 65 < cLine) {p : Pos} (ha : PEw X E a ma) (hb : PEw X E b mb) (hc : PEw X E c mc) (hs : swapsWithSole [.Subscript a b p] c pos.line X.env = pure false := by rfl) (hw : swappedStores [.Subscript a b p] c X.env = pure none := by rfl)
    (h1 : (assignEach [.Subscript a b p] X.env).map (·.2) = [assign (.Subscript a b p) X.env] := by rfl) (hq : ∀ v, assign (.Subscript a b p) X.env v = (do
      let ov ← holding [v] (eval a X.env)
      let iv ← holding [v, ov] (eval b X.env)
      standAt p
      holding [v, ov, iv] (setItem ov iv v)
      release [v, ov, iv] []) := by intro _; rfl) : PSw X E (.Assign [.Subscript a b p] c pos) (wPut ma mb mc) :=
  ps_imp (ps_asg hc (pg_sub ha hb (set_W hu) hq) hs hw h1) fun D σ H ⟨B, e, st, W, S, k, m⟩ => ⟨B, e, st, _, W.ex, S, fun dv st1 v H1 n1 x1 k1 r1 => ⟨B, e, st1, _, W.ex, S.on x1 k1, fun x st2 vx H2 n2 x2 k2 r2 =>
    ⟨B, e, st2, _, W.ex, (S.on x1 k1).on x2 k2, fun i st3 vi H3 n3 x3 k3 r3 => by
      obtain ⟨st4, h4, n4⟩ := on_iff.mp n3
      exact put_ok k3 (r2.ext x3) r3 ((r1.ext x2).ext x3) h4 fun H' x4 k4 => k.nx e st4 σ H' n4 ((((S.on x1 k1).on x2 k2).on x3 k3).on x4 k4) (((x1.trans x2).trans x3).trans x4), (k.ex.on x1).on x2, n2⟩, k.ex.on x1, n1⟩, k.ex, m⟩
end
end DL
namespace DL
open PySem PySem.Spec PyProof.Rows L2

/-! ### what is walked -/
abbrev WI := Env → Sto → PoX → (List D → (Sto → Prop) → Sto → Prop) → Prop
def wiSeq (m : WE) : WI := fun e st X Q => m e st X fun d st1 => on (sqOf st1 d) fun ds => Q ds (fun st' => sqOf st' d = some ds) st1
def signs (x : Str) : List D := x.cps.toList.map fun c => .str ⟨#[c]⟩
def wiStr (m : WE) : WI := fun e st X Q => m e st X fun d st1 => on (match d with | .str x => if x.length ≤ sizeLine then some x else none | _ => none) fun x => Q (signs x) (fun _ => True) st1
def small62 (i : Int) : Bool := decide (-1000 ≤ i) && decide (i ≤ 1000000)
def rangeL (lo hi : Int) : List D := (List.range (hi - lo).toNat).map fun i => .int (lo + (i : Nat))
def rangeOf : List D → Option (List D)
  | [.int j] => if small62 j = true then some (rangeL 0 j) else none
  | [.int i, .int j] => if small62 i = true ∧ small62 j = true then some (rangeL i j) else none
  | _ => none
def wiRange (m : WA) : WI := fun e st X Q => m e st X fun ds st1 => on (rangeOf ds) fun its => Q its (fun _ => True) st1
def enumL : Nat → List D → List D
  | _, [] => []
  | i, d :: ds => .tup [.int i, d] :: enumL (i + 1) ds
def wiEnum (m : WA) : WI := fun e st X Q => m e st X fun as st1 => on (match as with | [d] => lsOf st1 d | _ => none) fun ds => Q (enumL 0 ds) (fun st' => (match as with | [d] => lsOf st' d | _ => none) = some ds) st1
def zipL : List D → List D → List D
  | d :: ds, e :: es => .tup [d, e] :: zipL ds es
  | _, _ => []
/-- two lists, or two tuples -/
def pr {α : Type} : Option α → Option α → Option (α × α)
  | some a, some b => some (a, b)
  | _, _ => none
theorem pr_iff {α : Type} {x y : Option α} {p : α × α} : pr x y = some p ↔ x = some p.1 ∧ y = some p.2 := by
  obtain ⟨a, b⟩ := p
  cases x <;> cases y <;> simp [pr]
def zip2 (st : Sto) : List D → Option (List D × List D)
  | [a, b] => match pr (tpOf a) (tpOf b) with
    | some p => some p
    | none => pr (lsOf st a) (lsOf st b)
  | _ => none
def wiZip (m : WA) : WI := fun e st X Q => m e st X fun as st1 => on (zip2 st1 as) fun p => Q (zipL p.1 p.2) (fun st' => zip2 st' as = some p) st1

def ItOk (K : PySem.W.Frag) (B : Bz) (H1 : Hp) (st1 : Sto) (J : It) (ds : List D) (chk : Sto → Prop) : Prop := ∀ (i : Nat) (B' : Bz) (st : Sto) (H : Hp), Ext H1 (mu st1 B) H (mu st B') → StoOk K H B' st → chk st → i ≤ ds.length →
  (i = ds.length → J.stop i H) ∧ (∀ d, ds[i]? = some d → J.go i H ∧ ∀ x H', J.yld i H x H' → Ext H (mu st B') H' (mu st B') ∧ StoOk K H' B' st ∧ Rep K H' (mu st B') d x)
def tI (K : PySem.W.Frag) (mg : Str → Option Value) (E : XK) (m : WI) : TI := fun σ H R => ∃ B e st Qd Xd, Sit K B e st σ H ∧
  (∀ ds chk st' J H', Qd ds chk st' → ds.length ≤ sizeLine → Ext H (mu st B) H' (mu st' B) → StoOk K H' B st' → ItOk K B H' st' J ds chk → R J H') ∧ PostX K mg B H st Xd E ∧ m e st Xd Qd
section
variable {X : Cx} {E : XK} {tg a : Expr} {ma : WE} {pos p : Pos}
abbrev PIw (X : Cx) (E : XK) (tg a : Expr) (m : WI) : Prop := PI X tg a (tI X.K X.mg E m)
theorem pi_imp {e : Expr} {t t' : TI} (h : PI X tg e t) (i : ∀ σ H Q, t' σ H Q → t σ H Q) : PI X tg e t' := ⟨fun pins s σ H Q I q => h.run pins s σ H Q I (i _ _ _ q)⟩
def iSeq (K : PySem.W.Frag) (tl : TE) : TI := fun σ H R => tl σ H fun x H1 => ∃ a, x = .ref a ∧ (((∃ xs, SqL K H1 a xs) ∧ R (Itl K a) H1) ∨ ((∃ xs, SqT K H1 a xs) ∧ R (Itt K a) H1))
theorem pi_seq {l : Expr} {tl : TE} (hl : PE X l tl) : PI X tg l (iSeq X.K tl) := by
  refine ⟨fun pins s σ H R I h => ?_⟩
  refine thn (hl.run pins s σ H _ I h) fun v s1 ⟨x, H1, I1, r1, q1⟩ => ?_
  obtain ⟨a, e, q⟩ := q1
  subst e
  cases r1
  have fp : ∀ b ∈ [s1.heap.objs.size], FpOk X pins H1 b := fun b hb => by
    have e : b = s1.heap.objs.size := by simpa using hb
    subst e
    exact I1.fpOk (Nat.le_refl _) (I1.hok.fresh (Nat.le_refl _))
  rcases q with ⟨⟨xs, hq⟩, q⟩ | ⟨⟨xs, hq⟩, q⟩
  · obtain ⟨its, rv, p, hz⟩ := I1.list hq
    refine wpAny_pyIter_list p.isList ?_
    exact ⟨s1.heap.objs.size, [s1.heap.objs.size], _, _, H1, rfl, I1.kept (t' := s1.toks) fun b o e => Heap.get?_push_of_some _ e, turn_list a _, ⟨_, Heap.get?_push_size _ rfl, rfl, rfl⟩, fp, q⟩
  · obtain ⟨its, rv, p, hz⟩ := I1.tuple hq
    refine wpAny_pyIter_tuple (show s1.heap.IsTuple a its.toArray from p) ?_
    exact ⟨s1.heap.objs.size, [s1.heap.objs.size], _, _, H1, rfl, I1.kept (t' := s1.toks) fun b o e => Heap.get?_push_of_some _ e, turn_tuple a _, ⟨_, Heap.get?_push_size _ rfl, rfl, rfl⟩, fp, q⟩
theorem tp_sq {st : Sto} {d : D} {ds : List D} (h : tpOf d = some ds) : sqOf st d = some ds := by unfold sqOf; rw [h]
theorem i_seq (h : PEw X E a ma) : PIw X E tg a (wiSeq ma) := pi_imp (pi_seq h) fun σ H R ⟨B, e, st, Qd, Xd, S, pq, px, m⟩ => ⟨B, e, st, _, Xd, S, fun d st1 v H1 m1 x1 k1 r1 => by
  obtain ⟨ds, hd, q⟩ := on_iff.mp m1
  cases t : tpOf d with
  | some es =>
    have ees : es = ds := Option.some.inj ((tp_sq (st := st1) t).symm.trans hd)
    subst ees
    obtain ⟨a, vs, rfl, hs, r2, z⟩ := tp_of r1 t
    refine ⟨a, rfl, .inr ⟨⟨vs, hs⟩, pq es _ st1 _ H1 q z x1 k1 fun i B' st2 H2 x2 k2 _ hi => ?_⟩⟩
    obtain ⟨a', vs', ea, hs2, r3, _⟩ := tp_of (r1.ext x2) t
    cases ea
    refine ⟨fun e => ⟨vs', hs2, by rw [r3.length, e]; exact Nat.le_refl _⟩, fun d' hd' => ?_⟩
    obtain ⟨v', h1, h2⟩ := r3.get hd'
    refine ⟨⟨vs', v', hs2, h1⟩, fun x H' y => ?_⟩
    obtain ⟨rfl, y⟩ := y
    have := (y vs' hs2).symm.trans h1
    cases this
    exact ⟨.refl, k2, h2⟩
  | none =>
    have hl : lqOf st1 d = some ds := by
      unfold sqOf at hd
      rw [t] at hd
      exact hd
    obtain ⟨a, vs, rfl, hs, r2, z⟩ := lq_of k1 r1 hl
    refine ⟨a, rfl, .inl ⟨⟨vs, hs⟩, pq ds _ st1 _ H1 q z x1 k1 fun i B' st2 H2 x2 k2 c hi => ?_⟩⟩
    have hl2 : lqOf st2 d = some ds := by
      unfold sqOf at c
      rw [t] at c
      exact c
    obtain ⟨a', vs', ea, hs2, r3, _⟩ := lq_of k2 (r1.ext x2) hl2
    cases ea
    refine ⟨fun e => ⟨vs', hs2, by rw [r3.length, e]; exact Nat.le_refl _⟩, fun d' hd' => ?_⟩
    obtain ⟨v', h1, h2⟩ := r3.get hd'
    refine ⟨⟨vs', v', hs2, h1⟩, fun x H' y => ?_⟩
    obtain ⟨rfl, y⟩ := y
    have := (y vs' hs2).symm.trans h1
    cases this
    exact ⟨.refl, k2, h2⟩, px, m⟩
theorem rangeL_len (lo hi : Int) : (rangeL lo hi).length = (hi - lo).toNat := by unfold rangeL; rw [List.length_map, List.length_range]
theorem itr_ok {K : PySem.W.Frag} {B : Bz} {H1 : Hp} {st1 : Sto} (lo hi : Int) : ItOk K B H1 st1 (Itr lo (hi - lo).toNat) (rangeL lo hi) (fun _ => True) := fun i B' st2 H2 x2 k2 _ hz => by
  rw [rangeL_len] at hz
  refine ⟨fun e => by rw [rangeL_len] at e; exact Nat.le_of_eq e.symm, fun d hd => ?_⟩
  have hl : i < (hi - lo).toNat := by
    have := (List.getElem?_eq_some_iff.mp hd).1
    rw [rangeL_len] at this
    exact this
  refine ⟨hl, fun x H' y => ?_⟩
  obtain ⟨rfl, rfl⟩ := y
  unfold rangeL at hd
  rw [List.getElem?_map, List.getElem?_range hl] at hd
  cases hd
  exact ⟨.refl, k2, .int _⟩
variable {es : List Expr} {n : Nat} {m : WA}
theorem small_iff0 {i : Int} (h : small62 i = true) : -1000 ≤ i ∧ i ≤ 1000000 := by
  unfold small62 at h
  rw [Bool.and_eq_true] at h
  exact ⟨of_decide_eq_true h.1, of_decide_eq_true h.2⟩
theorem small_iff {i : Int} (h : small62 i = true) : -(2 ^ 62) ≤ i ∧ i < 2 ^ 62 := by
  have := small_iff0 h
  omega
theorem rangeL_le {i j : Int} (h : small62 i = true) (h' : small62 j = true) : (rangeL i j).length ≤ sizeLine := by
  rw [rangeL_len]
  have := small_iff0 h
  have := small_iff0 h'
  exact Nat.le_trans (show (j - i).toNat ≤ 1001000 by omega) (by decide)
theorem i_range1 (hg : Gl X "range") (hm : X.mg "range" = none) (h : PAw X E [a] 1 m) (hs : starEach [a] X.env = [(false, eval a X.env)] := by rfl) : PIw X E tg (.Call (.Name "range" p) [a] [] pos) (wiRange m) :=
  pi_imp (pi_range1 hg hm h hs) fun σ H R ⟨B, e, st, Qd, Xd, S, pq, px, mm⟩ => ⟨B, e, st, _, Xd, S, fun ds st1 vs H1 m1 l1 x1 k1 r1 => by
    obtain ⟨its, hi, q⟩ := on_iff.mp m1
    unfold rangeOf at hi
    split at hi
    · split at hi <;> cases hi
      rename_i j hj
      cases r1 with
      | cons r1 r2 =>
        cases r2; cases r1
        refine ⟨j, rfl, (small_iff hj).1, (small_iff hj).2, pq _ _ st1 _ H1 q (rangeL_le (by decide) hj) x1 k1 ?_⟩
        have := itr_ok (K := X.K) (B := B) (H1 := H1) (st1 := st1) 0 j
        rw [Int.sub_zero] at this
        exact this
    · cases l1
    · (cases hi), px, mm⟩
theorem i_range2 {b : Expr} (hg : Gl X "range") (hm : X.mg "range" = none) (h : PAw X E [a, b] 2 m) (hs : starEach [a, b] X.env = [(false, eval a X.env), (false, eval b X.env)] := by rfl) (hs2 : starEach [b] X.env = [(false, eval b X.env)] := by rfl) :
    PIw X E tg (.Call (.Name "range" p) [a, b] [] pos) (wiRange m) :=
  pi_imp (pi_range2 hg hm h hs hs2) fun σ H R ⟨B, e, st, Qd, Xd, S, pq, px, mm⟩ => ⟨B, e, st, _, Xd, S, fun ds st1 vs H1 m1 l1 x1 k1 r1 => by
    obtain ⟨its, hi, q⟩ := on_iff.mp m1
    unfold rangeOf at hi
    split at hi
    · cases l1
    · split at hi <;> cases hi
      rename_i i j hj
      cases r1 with
      | cons r1 r2 => cases r2 with
        | cons r2 r3 =>
          cases r3; cases r2; cases r1
          exact ⟨i, j, rfl, ⟨(small_iff hj.1).1, (small_iff hj.1).2, (small_iff hj.2).1, (small_iff hj.2).2⟩, pq _ _ st1 _ H1 q (rangeL_le hj.1 hj.2) x1 k1 (itr_ok i j)⟩
    · (cases hi), px, mm⟩
theorem okS_mem {z : Str} {c : Nat} (h : okS z = true) (m : c ∈ z.cps.toList) : okS ⟨#[c]⟩ = true := by
  unfold okS PyData.strOk at h ⊢
  rw [Array.all_eq_true'] at h
  have := h c (Array.mem_def.mpr m)
  simpa using this
theorem i_str (h : PEw X E a ma) : PIw X E tg a (wiStr ma) := pi_imp (pi_str h) fun σ H R ⟨B, e, st, Qd, Xd, S, pq, px, m⟩ => ⟨B, e, st, _, Xd, S, fun d st1 v H1 m1 x1 k1 r1 => by
  obtain ⟨x, hx, q⟩ := on_iff.mp m1
  split at hx <;> try cases hx
  split at hx <;> cases hx
  rename_i hz
  cases r1
  rename_i hok
  have sl : (signs x).length = x.cps.size := by unfold signs; rw [List.length_map, Array.length_toList]
  refine ⟨x, rfl, pq _ _ st1 _ H1 q (by rw [sl]; exact hz) x1 k1 fun i B' st2 H2 x2 k2 _ hi => ?_⟩
  refine ⟨fun e => by rw [sl] at e; exact Nat.le_of_eq e.symm, fun d hd => ⟨by have := (List.getElem?_eq_some_iff.mp hd).1; rw [sl] at this; exact this, fun y H' yl => ?_⟩⟩
  obtain ⟨rfl, c, hc, rfl⟩ := yl
  unfold signs at hd
  rw [List.getElem?_map, Array.getElem?_toList, hc] at hd
  cases hd
  refine ⟨.refl, k2, .str _ (okS_mem hok ?_)⟩
  exact Array.mem_def.mp (Array.mem_of_getElem? hc), px, m⟩
theorem enumL_len : ∀ (j : Nat) (ds : List D), (enumL j ds).length = ds.length
  | _, [] => rfl
  | j, d :: ds => by unfold enumL; rw [List.length_cons, List.length_cons, enumL_len]
theorem enumL_get : ∀ (j : Nat) (ds : List D) (i : Nat), (enumL j ds)[i]? = ds[i]?.map fun d => .tup [.int ((j + i : Nat) : Int), d]
  | _, [], _ => by simp [enumL]
  | j, d :: ds, 0 => by simp [enumL]
  | j, d :: ds, i + 1 => by
    unfold enumL
    rw [List.getElem?_cons_succ, List.getElem?_cons_succ, enumL_get, Nat.add_assoc, Nat.add_comm 1 i]
theorem zipL_len : ∀ (ds es : List D), (zipL ds es).length = min ds.length es.length
  | [], _ => by simp [zipL]
  | _ :: _, [] => by simp [zipL]
  | d :: ds, e :: es => by unfold zipL; rw [List.length_cons, zipL_len, List.length_cons, List.length_cons]; omega
theorem zipL_get : ∀ (ds es : List D) (i : Nat) {z : D}, (zipL ds es)[i]? = some z → ∃ d e, ds[i]? = some d ∧ es[i]? = some e ∧ z = .tup [d, e]
  | [], _, _, _, h => by simp [zipL] at h
  | _ :: _, [], _, _, h => by simp [zipL] at h
  | d :: ds, e :: es, 0, z, h => by
    unfold zipL at h
    cases h
    exact ⟨d, e, rfl, rfl, rfl⟩
  | d :: ds, e :: es, i + 1, z, h => by
    unfold zipL at h
    obtain ⟨d', e', h1, h2, h3⟩ := zipL_get ds es i (by simpa using h)
    exact ⟨d', e', by simpa using h1, by simpa using h2, h3⟩
theorem pair_ok {K : PySem.W.Frag} {H : Hp} {B : Bz} {st : Sto} {T : Addr} {a b : D} {x y : V} (k : StoOk K H B st) (e : H T = none) (ra : Rep K H (mu st B) a x) (rb : Rep K H (mu st B) b y) :
    Ext H (mu st B) (upd H T (.tup [x, y])) (mu st B) ∧ StoOk K (upd H T (.tup [x, y])) B st ∧ Rep K (upd H T (.tup [x, y])) (mu st B) (.tup [a, b]) (.ref T) := new_tup k e (.cons ra (.cons rb .nil)) (by show 2 ≤ sizeLine; decide)
theorem i_enum {elts : List Expr} {kk : Nat} {tpos : Pos} (hg : Gl X "enumerate") (hm : X.mg "enumerate" = none) (h : PAw X E [a] 1 m) (hs : starEach [a] X.env = [(false, eval a X.env)] := by rfl) : PIw X E (.Tuple elts kk tpos) (.Call (.Name "enumerate" p) [a] [] pos) (wiEnum m) :=
  pi_imp (pi_enum hg hm h hs) fun σ H R ⟨B, e, st, Qd, Xd, S, pq, px, mm⟩ => ⟨B, e, st, _, Xd, S, fun as st1 vs H1 m1 l1 x1 k1 r1 => by
    obtain ⟨ds, hd, q⟩ := on_iff.mp m1
    split at hd
    · cases r1 with
      | cons r1 r2 =>
        cases r2
        obtain ⟨a, ws, rfl, hs, r3, z⟩ := ls_of k1 r1 hd
        refine ⟨a, ws, rfl, .inl hs, pq _ _ st1 _ H1 q (by rw [enumL_len]; exact z) x1 k1 fun i B' st2 H2 x2 k2 c hi => ?_⟩
        obtain ⟨a', ws', ea, hs2, r4, _⟩ := ls_of k2 (r1.ext x2) c
        cases ea
        refine ⟨fun e => ⟨ws', .inl hs2, by rw [r4.length, e, enumL_len]; exact Nat.le_refl _⟩, fun d hd => ?_⟩
        rw [enumL_get] at hd
        obtain ⟨d', h1, rfl⟩ := Option.map_eq_some_iff.mp hd
        obtain ⟨v', h2, h3⟩ := r4.get h1
        refine ⟨⟨ws', v', .inl hs2, h2⟩, fun x H' y => ?_⟩
        obtain ⟨T, x', rfl, hT, rfl, y⟩ := y
        have := (y ws' (.inl hs2)).symm.trans h2
        cases this
        rw [Nat.zero_add]
        exact pair_ok k2 hT (.int _) h3
    · (cases hd), px, mm⟩
theorem i_zip {b : Expr} {elts : List Expr} {kk : Nat} {tpos : Pos} (hg : Gl X "zip") (hm : X.mg "zip" = none) (h : PAw X E [a, b] 2 m) (hs : starEach [a, b] X.env = (false, eval a X.env) :: starEach [b] X.env := by rfl) (hpl : (backTo pos (starEach [b] X.env)).any (·.1) = false := by rfl) :
    PIw X E (.Tuple elts kk tpos) (.Call (.Name "zip" p) [a, b] [] pos) (wiZip m) :=
  pi_imp (RZ.pi_zipA hg hm h hs hpl) fun σ H R ⟨B, e, st, Qd, Xd, S, pq, px, mm⟩ => ⟨B, e, st, _, Xd, S, fun as st1 vs H1 m1 l1 x1 k1 r1 => by
    obtain ⟨⟨ds, es⟩, hd, q⟩ := on_iff.mp m1
    have hd0 := hd
    unfold zip2 at hd
    split at hd
    · rename_i d1 d2
      cases r1 with
      | cons r1 r2 => cases r2 with
        | cons r2 r3 =>
          cases r3
          split at hd
          · rename_i hp
            cases hd
            obtain ⟨t1, t2⟩ := pr_iff.mp hp
            obtain ⟨a, ws, rfl, hs, r3, z⟩ := tp_of r1 t1
            obtain ⟨b, us, rfl, hs', r3', z'⟩ := tp_of r2 t2
            refine ⟨a, b, ws, us, rfl, .inr ⟨hs, hs', pq _ _ st1 _ H1 q (by rw [zipL_len]; exact Nat.le_trans (Nat.min_le_left _ _) z) x1 k1 fun i B' st2 H2 x2 k2 c hi => ?_⟩⟩
            obtain ⟨a', ws', ea, hs2, r4, _⟩ := tp_of (r1.ext x2) t1
            cases ea
            obtain ⟨b', us', eb, hs2', r4', _⟩ := tp_of (r2.ext x2) t2
            cases eb
            refine ⟨fun e => ⟨ws', us', hs2, hs2', ?_⟩, fun d hd => ?_⟩
            · rw [zipL_len] at e
              have l1 := r4.length
              have l2 := r4'.length
              simp only at e l1 l2
              omega
            · obtain ⟨d', e', h1, h2, rfl⟩ := zipL_get _ _ _ hd
              obtain ⟨v1, h3, h4⟩ := r4.get h1
              obtain ⟨v2, h5, h6⟩ := r4'.get h2
              refine ⟨⟨ws', us', v1, v2, hs2, hs2', h3, h5⟩, fun x H' y => ?_⟩
              obtain ⟨T, x', y', rfl, hT, rfl, f1, f2⟩ := y
              have e1 := (f1 ws' hs2).symm.trans h3
              have e2 := (f2 us' hs2').symm.trans h5
              cases e1; cases e2
              exact pair_ok k2 hT h4 h6
          · rename_i hp
            obtain ⟨t1, t2⟩ := pr_iff.mp hd
            obtain ⟨a, ws, rfl, hs, r3, z⟩ := ls_of k1 r1 t1
            obtain ⟨b, us, rfl, hs', r3', z'⟩ := ls_of k1 r2 t2
            refine ⟨a, b, ws, us, rfl, .inl ⟨.inl hs, .inl hs', pq _ _ st1 _ H1 q (by rw [zipL_len]; exact Nat.le_trans (Nat.min_le_left _ _) z) x1 k1 fun i B' st2 H2 x2 k2 c hi => ?_⟩⟩
            have c2 : lsOf st2 d1 = some ds ∧ lsOf st2 d2 = some es := by
              have c := (show zip2 st2 [d1, d2] = some (ds, es) from c)
              unfold zip2 at c
              simp only [hp] at c
              exact pr_iff.mp c
            obtain ⟨a', ws', ea, hs2, r4, _⟩ := ls_of k2 (r1.ext x2) c2.1
            cases ea
            obtain ⟨b', us', eb, hs2', r4', _⟩ := ls_of k2 (r2.ext x2) c2.2
            cases eb
            refine ⟨fun e => ⟨ws', us', .inl hs2, .inl hs2', ?_⟩, fun d hd => ?_⟩
            · rw [zipL_len] at e
              have l1 := r4.length
              have l2 := r4'.length
              simp only at e l1 l2
              omega
            · obtain ⟨d', e', h1, h2, rfl⟩ := zipL_get _ _ _ hd
              obtain ⟨v1, h3, h4⟩ := r4.get h1
              obtain ⟨v2, h5, h6⟩ := r4'.get h2
              refine ⟨⟨ws', us', v1, v2, .inl hs2, .inl hs2', h3, h5⟩, fun x H' y => ?_⟩
              obtain ⟨T, x', y', rfl, hT, rfl, f1, f2⟩ := y
              have e1 := (f1 ws' (.inl hs2)).symm.trans h3
              have e2 := (f2 us' (.inl hs2')).symm.trans h5
              cases e1; cases e2
              exact pair_ok k2 hT h4 h6
    · (cases hd), px, mm⟩
end
end DL
namespace DL
open PySem PySem.Spec PyProof.Rows L2

/-! ### forgetting names -/
def fgt (vs : List Nat) (e : Env) : Env := match vs with
  | [] => e
  | v :: vs => (fgt vs e).set v none
theorem fgt_len (e : Env) : ∀ vs, (fgt vs e).length = e.length
  | [] => rfl
  | v :: vs => by unfold fgt; rw [List.length_set, fgt_len e vs]
theorem fgt_some {e : Env} {i : Nat} {d : D} : ∀ {vs : List Nat}, (fgt vs e)[i]? = some (some d) → e[i]? = some (some d) ∧ i ∉ vs
  | [], h => ⟨h, by simp⟩
  | v :: vs, h => by
    unfold fgt at h
    by_cases z : i = v
    · subst z
      by_cases l : i < (fgt vs e).length
      · rw [List.getElem?_set_self l] at h; cases h
      · rw [List.getElem?_eq_none (by simpa using l)] at h; cases h
    · rw [List.getElem?_set_ne (Ne.symm z)] at h
      obtain ⟨h1, h2⟩ := fgt_some h
      exact ⟨h1, fun m => (List.mem_cons.mp m).elim z h2⟩
theorem Sit.fgt {K : PySem.W.Frag} {B : Bz} {e : Env} {st : Sto} {σ : L2.St} {H : Hp} (s : Sit K B e st σ H) (vs : List Nat) : Sit K B (fgt vs e) st σ H :=
  ⟨⟨by rw [fgt_len]; exact s.env.len, fun i d q => s.env.at_ i d (fgt_some q).1⟩, s.sto⟩
theorem Sit.wipe {K : PySem.W.Frag} {B : Bz} {e : Env} {st : Sto} {σ : L2.St} {H : Hp} (s : Sit K B e st σ H) (vs : List Nat) : Sit K B (DL.fgt vs e) st (L2.wipe σ vs) H :=
  ⟨⟨by rw [fgt_len, wipe_length]; exact s.env.len, fun i d q => by
    obtain ⟨h1, h2⟩ := fgt_some q
    obtain ⟨v, h3, r⟩ := s.env.at_ i d h1
    exact ⟨v, by rw [wipe_out h2]; exact h3, r⟩⟩, s.sto⟩
theorem wipe_in {σ : L2.St} {i : Nat} : ∀ {vs : List Nat}, i ∈ vs → i < σ.length → (L2.wipe σ vs)[i]? = some none
  | [], h, _ => nomatch h
  | v :: vs, h, l => by
    unfold L2.wipe
    by_cases z : i = v
    · subst z
      exact List.getElem?_set_self (by rw [wipe_length]; exact l)
    · rw [List.getElem?_set_ne (Ne.symm z)]
      exact wipe_in ((List.mem_cons.mp h).resolve_left z) l
theorem wipe_eq {σ σ' : L2.St} {ss vs : List Nat} (o : Outs ss (L2.wipe σ vs) σ') (h : ∀ i ∈ ss, i ∈ vs) : L2.wipe σ' vs = L2.wipe σ vs := by
  have l : σ'.length = σ.length := o.1.trans (wipe_length σ vs)
  refine List.ext_getElem? fun i => ?_
  by_cases hi : i ∈ vs
  · by_cases hl : i < σ.length
    · rw [wipe_in hi hl, wipe_in hi (by rw [l]; exact hl)]
    · rw [List.getElem?_eq_none (by rw [wipe_length]; omega), List.getElem?_eq_none (by rw [wipe_length]; omega)]
  · rw [wipe_out hi, o.2 i fun z => hi (h i z)]

/-! ### for -/
def wForL (t : Tg) (body : WS) (vs : List Nat) (chk : Sto → Prop) (E : WEnds) : List D → Env → Sto → Prop
  | [], e, st => chk st ∧ E.nx e st
  | d :: ds, e, st => chk st ∧ on (asg t d e) fun e1 => body { E with nx := fun e2 st2 => wForL t body vs chk E ds (fgt vs e2) st2, ct := fun e2 st2 => wForL t body vs chk E ds (fgt vs e2) st2, bk := E.nx } e1 st
def wFor (wi : WI) (t : Tg) (body : WS) (vs : List Nat) : WS := fun E e st => wi e st E.ex fun ds chk st1 => wForL t body vs chk E ds (fgt vs e) st1
section
variable {X : Cx} {E : XK} {tg a : Expr} {wi : WI} {t : Tg} {pos : Pos} {m1 : WS}
theorem for_ok {vs : List Nat} : ∀ D σ H, tS X.K X.mg E (wFor wi t m1 vs) D σ H → tFor (tI X.K X.mg E wi) (tG X.K t) (tS X.K X.mg E m1) D σ H :=
  fun D σ H ⟨B, e, st, W, S, k, m⟩ => ⟨B, e, st, _, W.ex, S, fun ds chk st1 J H1 n1 z1 x1 k1 it => by
    refine ⟨fun i m σ2 H2 => m = ds.length - i ∧ i ≤ ds.length ∧ ∃ e2 st2, Sit X.K B e2 st2 σ2 H2 ∧ Ext H1 (mu st1 B) H2 (mu st2 B) ∧ wForL t m1 vs chk W (ds.drop i) e2 st2,
      ⟨_, rfl, Nat.zero_le _, fgt vs e, st1, (S.on x1 k1).fgt vs, .refl, n1⟩, ?_⟩
    rintro i m σ2 H2 ⟨rfl, hi, e2, st2, S2, x2, n2⟩
    have c : chk st2 := by
      cases q : ds.drop i with
      | nil => rw [q] at n2; exact n2.1
      | cons d r => rw [q] at n2; exact n2.1
    obtain ⟨hstop, hgo⟩ := it i B st2 H2 x2 S2.sto c hi
    by_cases hl : i = ds.length
    · refine .inl ⟨hstop hl, ?_⟩
      subst hl
      rw [List.drop_length] at n2
      exact k.nx e2 st2 σ2 H2 n2.2 S2 (x1.trans x2)
    · have hlt : i < ds.length := by omega
      have hd : ds[i]? = some ds[i] := List.getElem?_eq_getElem hlt
      rw [List.drop_eq_getElem_cons hlt] at n2
      obtain ⟨g1, g2⟩ := hgo _ hd
      refine .inr ⟨g1, fun σ3 H3 => ∃ e3 st3, Sit X.K B e3 st3 σ3 H3 ∧ Ext H1 (mu st1 B) H3 (mu st3 B) ∧ wForL t m1 vs chk W (ds.drop (i + 1)) e3 st3, fun σ3 H3 ⟨e3, st3, h3⟩ => ⟨_, by omega, rfl, hlt, e3, st3, h3⟩, fun x H' y => ?_⟩
      obtain ⟨x3, k3, r3⟩ := g2 x H' y
      refine ⟨B, e2, st2, _, fun e3 => m1 { W with nx := fun e4 st4 => wForL t m1 vs chk W (ds.drop (i + 1)) (fgt vs e4) st4, ct := fun e4 st4 => wForL t m1 vs chk W (ds.drop (i + 1)) (fgt vs e4) st4, bk := W.nx } e3 st2, S2.on x3 k3, r3, fun e3 σ3 q S3 _ => ?_, n2.2⟩
      have xx := (x1.trans x2).trans x3
      refine ⟨B, e3, st2, { W with nx := fun e4 st4 => wForL t m1 vs chk W (ds.drop (i + 1)) (fgt vs e4) st4, ct := fun e4 st4 => wForL t m1 vs chk W (ds.drop (i + 1)) (fgt vs e4) st4, bk := W.nx }, S3, ⟨fun e4 st4 σ4 H4 q4 S4 x4 => ⟨fgt vs e4, st4, S4.fgt vs, (x2.trans x3).trans x4, q4⟩, k.rt.on xx, k.ex.on xx, fun e4 st4 σ4 H4 q4 S4 x4 => k.nx e4 st4 σ4 H4 q4 S4 (xx.trans x4), fun e4 st4 σ4 H4 q4 S4 x4 => ⟨fgt vs e4, st4, S4.fgt vs, (x2.trans x3).trans x4, q4⟩⟩, q⟩, k.ex, m⟩
theorem s_for (vs : List Nat) {body : List Stmt} (hp : PassesOwn (model X.prog X.w) X.A X.env X.xe) (hc : X.calm = true) (hi : PIw X E tg a wi) (hg : PGw X tg t) (hb : PBw X E body m1) (hs : ∀ x, foldedSetIterable a X.env x = pure x := by intro _; rfl) :
    PSw X E (.For tg a body [] pos) (wFor wi t m1 vs) := ps_imp (ps_for hp hc hi hg hb hs) for_ok

/-! ### while -/
def wWhile (c : WT) (body : WS) (vs : List Nat) : WS := fun E e st => ∃ W : Nat → Env → Sto → Prop, (∃ m, W m (fgt vs e) st) ∧ ∀ m e st, W m e st →
  c e st E.ex fun b st1 => if b = true then body { E with nx := fun e2 st2 => ∃ m', m' < m ∧ W m' (fgt vs e2) st2, ct := fun e2 st2 => ∃ m', m' < m ∧ W m' (fgt vs e2) st2, bk := E.nx } e st1 else E.nx e st1
theorem s_while (vs : List Nat) {body : List Stmt} {c : WT} (hp : PassesOwn (model X.prog X.w) X.A X.env X.xe) (hc : PTw X E a c) (hb : PBw X E body m1) : PSw X E (.While a body [] pos) (wWhile c m1 vs) :=
  ps_imp (ps_while hp hc hb) fun D σ H ⟨B, e, st, W, S, k, V, ⟨m0, w0⟩, turn⟩ => by
    refine ⟨fun m σ2 H2 => ∃ e2 st2, Sit X.K B e2 st2 σ2 H2 ∧ Ext H (mu st B) H2 (mu st2 B) ∧ V m e2 st2, ⟨m0, fgt vs e, st, S.fgt vs, .refl, w0⟩, ?_⟩
    rintro m σ2 H2 ⟨e2, st2, S2, x2, w2⟩
    refine ⟨B, e2, st2, _, W.ex, S2, fun b st3 H3 n3 x3 k3 => ?_, k.ex.on x2, turn m e2 st2 w2⟩
    cases b with
    | false =>
      rw [if_neg Bool.false_ne_true] at n3 ⊢
      exact k.nx e2 st3 σ2 H3 n3 (S2.on x3 k3) (x2.trans x3)
    | true =>
      rw [if_pos rfl] at n3 ⊢
      have xx := x2.trans x3
      have again : ∀ {e4 st4 σ4 H4}, (∃ m', m' < m ∧ V m' (fgt vs e4) st4) → Sit X.K B e4 st4 σ4 H4 → Ext H3 (mu st3 B) H4 (mu st4 B) → ∃ m', m' < m ∧ ∃ e2 st2, Sit X.K B e2 st2 σ4 H4 ∧ Ext H (mu st B) H4 (mu st2 B) ∧ V m' e2 st2 :=
        fun {e4 st4 σ4 H4} ⟨m', l, w⟩ S4 x4 => ⟨m', l, fgt vs e4, st4, S4.fgt vs, xx.trans x4, w⟩
      exact ⟨fun σ4 H4 => ∃ m', m' < m ∧ ∃ e2 st2, Sit X.K B e2 st2 σ4 H4 ∧ Ext H (mu st B) H4 (mu st2 B) ∧ V m' e2 st2, fun σ' H' h => h, B, e2, st3, { W with nx := fun e2 st2 => ∃ m', m' < m ∧ V m' (fgt vs e2) st2, ct := fun e2 st2 => ∃ m', m' < m ∧ V m' (fgt vs e2) st2, bk := W.nx }, S2.on x3 k3,
        ⟨fun e4 st4 σ4 H4 q4 S4 x4 => again q4 S4 x4, k.rt.on xx, k.ex.on xx, fun e4 st4 σ4 H4 q4 S4 x4 => k.nx e4 st4 σ4 H4 q4 S4 (xx.trans x4), fun e4 st4 σ4 H4 q4 S4 x4 => again q4 S4 x4⟩, n3⟩

/-! ### comprehensions -/
def XF : PoX := fun _ _ => False
def wCompL (t : Tg) (test : WT) (elt : WE) (chk : Sto → Prop) (e0 : Env) (Q : List D → Sto → Prop) : List D → List D → Sto → Prop
  | [], acc, st => chk st ∧ Q acc st
  | d :: ds, acc, st => chk st ∧ on (asg t d e0) fun e1 => test e1 st XF fun b st1 => if b = true then elt e1 st1 XF fun y st2 => wCompL t test elt chk e0 Q ds (acc ++ [y]) st2 else wCompL t test elt chk e0 Q ds acc st1
def wComp (wi : WI) (t : Tg) (test : WT) (elt : WE) (vs : List Nat) : WE := fun e st X Q => wi e st X fun ds chk st1 => wCompL t test elt chk (fgt vs e) (fun acc st2 => Q (.lst acc) st2) ds [] st1
/-- .. a list that will change -/
def wCompR (wi : WI) (t : Tg) (test : WT) (elt : WE) (vs : List Nat) : WE := fun e st X Q => wi e st X fun ds chk st1 => wCompL t test elt chk (fgt vs e) (fun acc st2 => ∀ p, st2 p = none → Q (.ref p) (st2.set p (.lst acc))) ds [] st1
def wYes : WT := fun _ st _ Q => Q true st
theorem noX {K : PySem.W.Frag} {mg : Str → Option Value} {B : Bz} {H : Hp} {st : Sto} : PostX K mg B H st XF E0 := fun _ _ _ _ h => h.elim
theorem comp_core {test : WT} {elt : WE} {vs : List Nat} (hv : ∀ i ∈ t.slots, i ∈ vs) {σ : L2.St} {H : Hp} {Q : VK} {Qf : List D → Sto → Prop}
    (h : ∃ B e st Xd, Sit X.K B e st σ H ∧ (∀ acc vacc D st' H', Qf acc st' → H D = none → H' D = some (.lst vacc) → st' D = none → ¬ B D → RepL X.K H' (mu st' fun a => B a ∨ a = D) acc vacc → acc.length ≤ sizeLine → Ext H (mu st B) H' (mu st' fun a => B a ∨ a = D) → StoOk X.K H' (fun a => B a ∨ a = D) st' → Q (.ref D) H') ∧ PostX X.K X.mg B H st Xd E ∧
      wi e st Xd fun ds chk st1 => wCompL t test elt chk (fgt vs e) Qf ds [] st1) :
    tLc (tI X.K X.mg E wi) (tG X.K t) (tT X.K X.mg E0 test) (tE X.K X.mg E0 elt) vs σ H Q := by
  obtain ⟨B, e, st, Xd, S, pq, px, m⟩ := h
  refine ⟨B, e, st, _, Xd, S, fun ds chk st1 J H1 n1 z1 x1 k1 it => ?_, px, m⟩
  intro D hD
  have hDst : st1 D = none := k1.none_ hD
  have nB : ¬ B D := fun b => k1.bu D b hD
  obtain ⟨kb, xb⟩ := k1.busy (o := .lst []) hD
  have hd0 : H D = none := by
    cases q : H D with
    | none => rfl
    | some o => exact absurd hD (x1.tr D (by rw [q]; exact fun z => nomatch z))
  refine ⟨fun i m H2 => m = ds.length - i ∧ i ≤ ds.length ∧ ∃ acc vacc st2, H2 D = some (.lst vacc) ∧ st2 D = none ∧ RepL X.K H2 (mu st2 fun a => B a ∨ a = D) acc vacc ∧ acc.length ≤ i ∧ StoOk X.K H2 (fun a => B a ∨ a = D) st2 ∧ Ext H1 (mu st1 B) H2 (mu st2 fun a => B a ∨ a = D) ∧ wCompL t test elt chk (fgt vs e) Qf (ds.drop i) acc st2,
    ⟨_, rfl, Nat.zero_le _, [], [], st1, upd_same, hDst, .nil, Nat.zero_le _, kb, xb, n1⟩, ?_⟩
  rintro i m H2 ⟨rfl, hi, acc, vacc, st2, hD2, hDs, ra, la, k2, x2, n2⟩
  have c : chk st2 := by
    cases q : ds.drop i with
    | nil => rw [q] at n2; exact n2.1
    | cons d r => rw [q] at n2; exact n2.1
  obtain ⟨hstop, hgo⟩ := it i _ st2 H2 x2 k2 c hi
  have S0 : Sit X.K (fun a => B a ∨ a = D) (fgt vs e) st2 (L2.wipe σ vs) H2 := ⟨(S.wipe vs).env.ext (x1.trans x2), k2⟩
  by_cases hl : i = ds.length
  · refine .inl ⟨hstop hl, ?_⟩
    subst hl
    rw [List.drop_length] at n2
    exact pq acc vacc D st2 H2 n2.2 hd0 hD2 hDs nB ra (Nat.le_trans la z1) (x1.trans x2) k2
  · have hlt : i < ds.length := by omega
    have hd : ds[i]? = some ds[i] := List.getElem?_eq_getElem hlt
    rw [List.drop_eq_getElem_cons hlt] at n2
    obtain ⟨g1, g2⟩ := hgo _ hd
    refine .inr ⟨g1, fun H3 => ∃ acc vacc st3, H3 D = some (.lst vacc) ∧ st3 D = none ∧ RepL X.K H3 (mu st3 fun a => B a ∨ a = D) acc vacc ∧ acc.length ≤ i + 1 ∧ StoOk X.K H3 (fun a => B a ∨ a = D) st3 ∧ Ext H1 (mu st1 B) H3 (mu st3 fun a => B a ∨ a = D) ∧ wCompL t test elt chk (fgt vs e) Qf (ds.drop (i + 1)) acc st3,
      fun H3 ⟨acc, vacc, st3, h1, h2, h3⟩ => ⟨_, by omega, rfl, hlt, acc, vacc, st3, h1, h2, h3⟩, fun x H' y => ?_⟩
    obtain ⟨x3, k3, r3⟩ := g2 x H' y
    refine ⟨_, fgt vs e, st2, _, fun e3 => test e3 st2 XF fun b st3 => if b = true then elt e3 st3 XF fun y st4 => wCompL t test elt chk (fgt vs e) Qf (ds.drop (i + 1)) (acc ++ [y]) st4 else wCompL t test elt chk (fgt vs e) Qf (ds.drop (i + 1)) acc st3, S0.on x3 k3, r3, fun e3 σ3 q S3 o => ?_, n2.2⟩
    refine ⟨wipe_eq o hv, _, e3, st2, _, XF, S3, fun b st4 H4 q4 x4 k4 => ?_, noX, q⟩
    have D4 := (x3.trans x4).kp D _ hD2 (fun z => z hDs)
    have D4s : st4 D = none := Classical.not_not.mp D4.2
    cases b with
    | false =>
      rw [if_neg Bool.false_ne_true] at q4
      exact iteF ⟨acc, vacc, st4, D4.1, D4s, (ra.ext x3).ext x4, Nat.le_succ_of_le la, k4, (x2.trans x3).trans x4, q4⟩
    | true =>
      rw [if_pos rfl] at q4
      refine iteT ⟨_, e3, st4, _, XF, S3.on x4 k4, fun d st5 v H5 q5 x5 k5 r5 => ?_, noX, q4⟩
      have D5 := x5.kp D _ D4.1 (fun z => z D4s)
      have D5s : st5 D = none := Classical.not_not.mp D5.2
      have ra5 := (((ra.ext x3).ext x4).ext x5)
      have la5 : vacc.length = acc.length := ra5.length
      obtain ⟨k6, f6⟩ := k5.fill (o := .lst (vacc ++ [v])) (.inr rfl) D5s
      have repL : ∀ {ds vs}, RepL X.K H5 (mu st5 fun a => B a ∨ a = D) ds vs → RepL X.K (upd H5 D (.lst (vacc ++ [v]))) (mu st5 fun a => B a ∨ a = D) ds vs := fun {ds} => by
        induction ds with
        | nil => intro vs r; cases r; exact .nil
        | cons d ds ih => intro vs r; cases r with
          | cons r1 r2 => exact .cons (f6 r1) (ih r2)
      refine ⟨vacc, D5.1, by omega, acc ++ [d], vacc ++ [v], st5, upd_same, D5s, repL (ra5.append (.cons r5 .nil)), by rw [List.length_append]; exact Nat.succ_le_succ la, k6, ?_, q5⟩
      have xx := ((x2.trans x3).trans x4).trans x5
      refine ⟨fun a o ha n => ?_, xx.bz, fun a h => upd_tr a (xx.tr a h)⟩
      obtain ⟨h1, h2⟩ := xx.kp a o ha n
      exact ⟨by rw [upd_ne (ne_of_none ha hD)]; exact h1, h2⟩

theorem StoOk.unbusy {K : PySem.W.Frag} {H : Hp} {B : Bz} {st : Sto} {D : Addr} (k : StoOk K H (fun a => B a ∨ a = D) st) : StoOk K H B st ∧ ∀ {ds vs}, RepL K H (mu st fun a => B a ∨ a = D) ds vs → RepL K H (mu st B) ds vs := by
  have w : ∀ a, (mu st B).has a → (mu st fun a => B a ∨ a = D).has a := fun a m => by
    rcases m with m | m
    · exact .inl m
    · exact .inr (.inl m)
  refine ⟨⟨fun a c q => ?_, fun a m => k.bu a (.inl m), fun a m => k.nb a (.inl m)⟩, fun r => r.weak w⟩
  obtain ⟨u, e1, r⟩ := k.at_ a c q
  refine ⟨u, e1, ?_⟩
  cases c <;> cases u <;> first | exact r.elim | skip
  · exact ⟨r.1.weak w, r.2⟩
  · exact ⟨r.1, r.2.weak w⟩
  · exact ⟨r.1, r.2.weak w⟩
  · exact ⟨r.1, r.2.1, r.2.2.1, r.2.2.2.weak w⟩
theorem StoOk.adopt {K : PySem.W.Frag} {H : Hp} {B : Bz} {st : Sto} {D : Addr} {c : Cell} {o : HO} (k : StoOk K H (fun a => B a ∨ a = D) st) (h : H D = some o) (n : st D = none) (r : CellR K H (mu st fun a => B a ∨ a = D) c o) (nB : ¬ B D) : StoOk K H B (st.set D c) := by
  have w : ∀ a, (mu (st.set D c) B).has a → (mu st fun a => B a ∨ a = D).has a := fun a m => by
    rcases m with m | m
    · by_cases z : a = D
      · exact .inr (.inr z)
      · exact .inl (by have m : st.set D c a ≠ none := m; rw [Sto.set_ne z] at m; exact m)
    · exact .inr (.inl m)
  have weak : ∀ {c' : Cell} {u : HO}, CellR K H (mu st fun a => B a ∨ a = D) c' u → CellR K H (mu (st.set D c) B) c' u := fun {c' u} r => by
    cases c' <;> cases u <;> first | exact r.elim | skip
    · exact ⟨r.1.weak w, r.2⟩
    · exact ⟨r.1, r.2.weak w⟩
    · exact ⟨r.1, r.2.weak w⟩
    · exact ⟨r.1, r.2.1, r.2.2.1, r.2.2.2.weak w⟩
  refine ⟨fun a c' q => ?_, fun a m => k.bu a (.inl m), fun a m => by
    rw [Sto.set_ne (fun z => by subst z; exact nB m)]; exact k.nb a (.inl m)⟩
  by_cases z : a = D
  · subst z
    rw [Sto.set_same] at q; cases q
    exact ⟨o, h, weak r⟩
  · rw [Sto.set_ne z] at q
    obtain ⟨u, e1, r'⟩ := k.at_ a c' q
    exact ⟨u, e1, weak r'⟩
section
variable {test : WT} {elt : WE} {vs : List Nat}
theorem comp_ok (hv : ∀ i ∈ t.slots, i ∈ vs) : ∀ σ H Q, tE X.K X.mg E (wComp wi t test elt vs) σ H Q → tLc (tI X.K X.mg E wi) (tG X.K t) (tT X.K X.mg E0 test) (tE X.K X.mg E0 elt) vs σ H Q :=
  fun σ H Q ⟨B, e, st, Qd, Xd, S, pq, px, m⟩ => comp_core hv ⟨B, e, st, Xd, S, fun acc vacc D st' H' q hD hD' hs nB r z x k => by
    obtain ⟨k2, w⟩ := k.unbusy
    refine pq (.lst acc) st' (.ref D) H' q ⟨x.kp, fun a h m => x.bz a h (.inl m), x.tr⟩ k2 (.lst ⟨fun m => ?_, .inl hD'⟩ (w r) z)
    rcases m with m | m
    · exact m hs
    · exact nB m, px, m⟩
theorem compR_ok (hv : ∀ i ∈ t.slots, i ∈ vs) : ∀ σ H Q, tE X.K X.mg E (wCompR wi t test elt vs) σ H Q → tLc (tI X.K X.mg E wi) (tG X.K t) (tT X.K X.mg E0 test) (tE X.K X.mg E0 elt) vs σ H Q :=
  fun σ H Q ⟨B, e, st, Qd, Xd, S, pq, px, m⟩ => comp_core hv ⟨B, e, st, Xd, S, fun acc vacc D st' H' q hD hD' hs nB r z x k => by
    have k2 := k.adopt (c := .lst acc) hD' hs ⟨r, z⟩ nB
    refine pq (.ref D) _ (.ref D) H' (q D hs) ⟨fun a o h n => ?_, fun a h m => x.bz a h (.inl m), x.tr⟩ k2 (.ref D)
    obtain ⟨h1, h2⟩ := x.kp a o h n
    refine ⟨h1, fun m => h2 ?_⟩
    have m : st'.set D (.lst acc) a ≠ none := m
    rw [Sto.set_ne (ne_of_none h hD)] at m
    exact m, px, m⟩
abbrev PTsw (X : Cx) (E : XK) (es : List Expr) (m : WT) : Prop := PTs X es (tT X.K X.mg E m)
theorem ts_nil : PTsw X E [] wYes := ⟨fun pins s σ H Q I ⟨B, e, st, Qd, Xd, S, pq, px, m⟩ => pts_nil.run pins s σ H Q I (pq true st H m .refl S.sto)⟩
theorem ts_one {c : Expr} {m : WT} (h : PTw X E c m) : PTsw X E [c] m := pts_one h
variable {elt' tg' : Expr} {ifs : List Expr} {scope : Scope}
theorem e_comp (own : List (Str × Nat)) (hc : X.calm = true) (hN : X.N.Nodup) (hi : PIw X E tg a wi) (ok : blkC X.N X.env.scope scope own = true)
    (hg : ∀ (s : Shared) (H : Hp) (C : Addr) (cl : List (Str × Addr)) (fp : List Addr), PGw (X.blk s H scope (compEnvC scope cl C X.env) fp) tg t) (ht : ∀ (s : Shared) (H : Hp) (C : Addr) (cl : List (Str × Addr)) (fp : List Addr), PTsw (X.blk s H scope (compEnvC scope cl C X.env) fp) E0 ifs test)
    (he : ∀ (s : Shared) (H : Hp) (C : Addr) (cl : List (Str × Addr)) (fp : List Addr), PEw (X.blk s H scope (compEnvC scope cl C X.env) fp) E0 elt' elt) (hv : ∀ i ∈ t.slots, i ∈ own.map (·.2) := by decide) (hs : ∀ x, foldedSetIterable a X.env x = pure x := by intro _; rfl) :
    PEw X E (.ListComp elt' [⟨tg, a, ifs, 0⟩] scope pos) (wComp wi t test elt (own.map (·.2))) := pe_imp (pe_lc hc hN hi (blkOk_by ok) hg ht he hs) (comp_ok hv)
theorem e_compR (own : List (Str × Nat)) (hc : X.calm = true) (hN : X.N.Nodup) (hi : PIw X E tg a wi) (ok : blkC X.N X.env.scope scope own = true)
    (hg : ∀ (s : Shared) (H : Hp) (C : Addr) (cl : List (Str × Addr)) (fp : List Addr), PGw (X.blk s H scope (compEnvC scope cl C X.env) fp) tg t) (ht : ∀ (s : Shared) (H : Hp) (C : Addr) (cl : List (Str × Addr)) (fp : List Addr), PTsw (X.blk s H scope (compEnvC scope cl C X.env) fp) E0 ifs test)
    (he : ∀ (s : Shared) (H : Hp) (C : Addr) (cl : List (Str × Addr)) (fp : List Addr), PEw (X.blk s H scope (compEnvC scope cl C X.env) fp) E0 elt' elt) (hv : ∀ i ∈ t.slots, i ∈ own.map (·.2) := by decide) (hs : ∀ x, foldedSetIterable a X.env x = pure x := by intro _; rfl) :
    PEw X E (.ListComp elt' [⟨tg, a, ifs, 0⟩] scope pos) (wCompR wi t test elt (own.map (·.2))) := pe_imp (pe_lc hc hN hi (blkOk_by ok) hg ht he hs) (compR_ok hv)
theorem s_setC (i : Nat) {y : Str} {py spos : Pos} (own : List (Str × Nat)) (hc : X.calm = true) (hN : X.N.Nodup) (hi : PIw X E tg a wi) (ok : blkC X.N X.env.scope scope own = true)
    (hg : ∀ (s : Shared) (H : Hp) (C : Addr) (cl : List (Str × Addr)) (fp : List Addr), PGw (X.blk s H scope (compEnvC scope cl C X.env) fp) tg t) (ht : ∀ (s : Shared) (H : Hp) (C : Addr) (cl : List (Str × Addr)) (fp : List Addr), PTsw (X.blk s H scope (compEnvC scope cl C X.env) fp) E0 ifs test)
    (he : ∀ (s : Shared) (H : Hp) (C : Addr) (cl : List (Str × Addr)) (fp : List Addr), PEw (X.blk s H scope (compEnvC scope cl C X.env) fp) E0 elt' elt)
    (hsw : swapsWith (.ListComp elt' [⟨tg, a, ifs, 0⟩] scope pos) (some (.Name y py)) spos.line X.env = pure true := by exact sw_true rfl rfl rfl (by decide +kernel))
    (hy : X.N[i]? = some y := by rfl) (hyl : X.env.scope.names.lookup y = some .local := by rfl) (hv : ∀ i ∈ t.slots, i ∈ own.map (·.2) := by decide) (hs : ∀ x, foldedSetIterable a X.env x = pure x := by intro _; rfl) :
    PSw X E (.Assign [.Name y py] (.ListComp elt' [⟨tg, a, ifs, 0⟩] scope pos) spos) (wSet i (wComp wi t test elt (own.map (·.2)))) := ps_imp (ps_setLc hc hN hy hyl hsw hi (blkOk_by ok) hg ht he hs) (set_ok (comp_ok hv))
theorem s_setCR (i : Nat) {y : Str} {py spos : Pos} (own : List (Str × Nat)) (hc : X.calm = true) (hN : X.N.Nodup) (hi : PIw X E tg a wi) (ok : blkC X.N X.env.scope scope own = true)
    (hg : ∀ (s : Shared) (H : Hp) (C : Addr) (cl : List (Str × Addr)) (fp : List Addr), PGw (X.blk s H scope (compEnvC scope cl C X.env) fp) tg t) (ht : ∀ (s : Shared) (H : Hp) (C : Addr) (cl : List (Str × Addr)) (fp : List Addr), PTsw (X.blk s H scope (compEnvC scope cl C X.env) fp) E0 ifs test)
    (he : ∀ (s : Shared) (H : Hp) (C : Addr) (cl : List (Str × Addr)) (fp : List Addr), PEw (X.blk s H scope (compEnvC scope cl C X.env) fp) E0 elt' elt)
    (hsw : swapsWith (.ListComp elt' [⟨tg, a, ifs, 0⟩] scope pos) (some (.Name y py)) spos.line X.env = pure true := by exact sw_true rfl rfl rfl (by decide +kernel))
    (hy : X.N[i]? = some y := by rfl) (hyl : X.env.scope.names.lookup y = some .local := by rfl) (hv : ∀ i ∈ t.slots, i ∈ own.map (·.2) := by decide) (hs : ∀ x, foldedSetIterable a X.env x = pure x := by intro _; rfl) :
    PSw X E (.Assign [.Name y py] (.ListComp elt' [⟨tg, a, ifs, 0⟩] scope pos) spos) (wSet i (wCompR wi t test elt (own.map (·.2)))) := ps_imp (ps_setLc hc hN hy hyl hsw hi (blkOk_by ok) hg ht he hs) (set_ok (compR_ok hv))
end
end

/-! ### a def -/
/-- n names; keep: what is made in the def is forgotten at its end -/
def wDef (n ar : Nat) (keep : Bool) (body : WS) : WF := fun ds st X Q => ds.length = ar ∧
  body { nx := fun _ st' => Q .non (if keep then st'.keepOnly st else st'), rt := fun d st' => Q d (if keep then st'.keepOnly st else st'), ex := fun x st' => X x (if keep then st'.keepOnly st else st') } (ds.map some ++ List.replicate (n - ds.length) none) st
section
variable {P : Program} {w : World} {K : PySem.W.Frag} {mg : Str → Option Value} {base : Heap}
theorem keepOnly_sub {st st0 : Sto} : ∀ a c, st.keepOnly st0 a = some c → st a = some c := fun a c h => by
  unfold Sto.keepOnly at h
  split at h
  · exact h
  · cases h
theorem def_in {N : List Str} {n ar : Nat} {keep : Bool} {body : WS} {vs : List V} {H : Hp} {Q : VK} {E : XK} (hN : N.length = n) (h : spF K mg ar (wDef n ar keep body) vs H Q E) :
    tS K mg E body { nx := fun _ H' => Q .non H', rt := Q } (L2.start N vs) H := by
  obtain ⟨B, ds, st, Qd, Xd, l, k, r, pq, px, ⟨la, m⟩⟩ := h
  have drop : ∀ {st' : Sto} {H'} , StoOk K H' B st' → StoOk K H' B (if keep then st'.keepOnly st else st') ∧ Ext H' (mu st' B) H' (mu (if keep then st'.keepOnly st else st') B) := fun {st' H'} k' => by
    cases keep with
    | true => exact k'.drop keepOnly_sub
    | false => exact ⟨k', .refl⟩
  refine ⟨B, _, st, { nx := fun _ st' => Qd .non (if keep then st'.keepOnly st else st'), rt := fun d st' => Qd d (if keep then st'.keepOnly st else st'), ex := fun x st' => Xd x (if keep then st'.keepOnly st else st') }, ⟨⟨?_, fun i d q => ?_⟩, k⟩, ⟨fun e' st' σ' H' n S x => ?_, fun d st' v H' n x k' r' => ?_, fun x st' c H' n m x' k' => ?_, fun _ _ _ _ z => z.elim, fun _ _ _ _ z => z.elim⟩, m⟩
  · unfold L2.start
    have lr := r.length
    rw [List.length_append, List.length_append, List.length_map, List.length_map, List.length_replicate, List.length_replicate]
    omega
  · by_cases hi : i < ds.length
    · rw [List.getElem?_append_left (by simpa using hi), List.getElem?_map] at q
      cases e : ds[i]? with
      | none => rw [e] at q; cases q
      | some d' =>
        rw [e] at q; cases q
        obtain ⟨v, h1, h2⟩ := r.get e
        refine ⟨v, ?_, h2⟩
        unfold L2.start
        rw [List.getElem?_append_left (by rw [List.length_map, r.length]; exact hi), List.getElem?_map, h1]
        rfl
    · rw [List.getElem?_append_right (by simpa using hi), List.getElem?_replicate] at q
      split at q <;> cases q
  · obtain ⟨k2, x2⟩ := drop S.sto
    exact pq .non _ .non H' n (x.trans x2) k2 .non
  · obtain ⟨k2, x2⟩ := drop k'
    exact pq d _ v H' n (x.trans x2) k2 (r'.ext x2)
  · obtain ⟨k2, x2⟩ := drop k'
    exact px x _ c H' n m (x'.trans x2) k2
end
end DL
namespace DL
open PySem PySem.Spec PyProof.Rows L2

/-! ### sorting -/
def insI (n : Int) : List Int → List Int
  | [] => [n]
  | m :: r => if n ≤ m then n :: m :: r else m :: insI n r
def sortI : List Int → List Int
  | [] => []
  | n :: r => insI n (sortI r)
theorem insI_perm (n : Int) : ∀ r, (insI n r).Perm (n :: r)
  | [] => .refl _
  | m :: r => by
    unfold insI
    split
    · exact .refl _
    · exact ((insI_perm n r).cons m).trans (.swap n m r)
theorem sortI_perm : ∀ r, (sortI r).Perm r
  | [] => .refl _
  | n :: r => (insI_perm n (sortI r)).trans ((sortI_perm r).cons n)
theorem insI_srt (n : Int) : ∀ r : List Int, r.Pairwise (· ≤ ·) → (insI n r).Pairwise (· ≤ ·)
  | [], _ => by simp [insI]
  | m :: r, h => by
    obtain ⟨h1, h2⟩ := List.pairwise_cons.mp h
    unfold insI
    split
    · rename_i le
      refine List.pairwise_cons.mpr ⟨fun x hx => ?_, h⟩
      rcases List.mem_cons.mp hx with rfl | hx
      · exact le
      · exact Int.le_trans le (h1 x hx)
    · rename_i le
      refine List.pairwise_cons.mpr ⟨fun x hx => ?_, insI_srt n r h2⟩
      rcases List.mem_cons.mp ((insI_perm n r).mem_iff.mp hx) with rfl | hx
      · omega
      · exact h1 x hx
theorem sortI_srt : ∀ r, (sortI r).Pairwise (· ≤ ·)
  | [] => .nil
  | n :: r => insI_srt n _ (sortI_srt r)
theorem sort_uniq {a b : List Int} (hp : a.Perm b) (ha : a.Pairwise (· ≤ ·)) (hb : b.Pairwise (· ≤ ·)) : a = b :=
  hp.eq_of_pairwise (fun x y _ _ h1 h2 => Int.le_antisymm h1 h2) ha hb
theorem sortI_is {a ns : List Int} (hp : a.Perm ns) (ha : a.Pairwise (· ≤ ·)) : a = sortI ns := sort_uniq (hp.trans (sortI_perm ns).symm) ha (sortI_srt ns)
theorem sortI_rev {a ns : List Int} (hp : a.Perm ns) (ha : a.Pairwise (· ≥ ·)) : a = (sortI ns).reverse := by
  have h : a.reverse = sortI ns := sortI_is ((List.reverse_perm a).trans hp) (by
    rw [List.pairwise_reverse]
    exact ha)
  rw [← h, List.reverse_reverse]
theorem sortI_len (ns : List Int) : (sortI ns).length = ns.length := (sortI_perm ns).length_eq
def cSortI (st : Sto) : List D → Option D
  | [d] => ((lsOf st d).bind intsOf).map fun ns => .lst ((sortI ns).map .int)
  | _ => none
theorem cSortI_ok {K : PySem.W.Frag} : CaOk K (rSortedI K) cSortI := by
  intro B H st xs dxs d Q k r e g
  unfold cSortI at e
  split at e <;> try cases e
  obtain ⟨ns, e1, rfl⟩ := Option.map_eq_some_iff.mp e
  obtain ⟨ds, e3, e4⟩ := Option.bind_eq_some_iff.mp e1
  cases r with
  | cons r1 r2 =>
    cases r2
    obtain ⟨a, vs, rfl, h, r5, z⟩ := ls_of k r1 e3
    rw [intsOf_iff.mp e4] at r5 z
    have := r5.ints
    subst this
    refine ⟨a, ns, rfl, .inl h, fun ns' p hp hs hn => ?_⟩
    rw [sortI_is hp hs]
    exact g.lst k (repL_ints _) (by rw [List.length_map, sortI_len]; rw [List.length_map] at z; exact z) p hn
section
variable {X : Cx} {E : XK} {a : Expr} {ma : WE} {pos : Pos} {x : Str} {p : Pos} {es : List Expr} {n : Nat} {m : WA}
/-- sorted(ns, reverse=True) -/
def cSortR (st : Sto) : List D → Option D
  | [d] => ((lsOf st d).bind intsOf).map fun ns => .lst ((sortI ns).reverse.map .int)
  | _ => none
theorem e_sortR {kp kp2 : Pos} {j : Nat} (hg : Gl X "sorted") (hm : X.mg "sorted" = none) (ha : PAw X E [a] 1 m)
    (he : backTo pos (starEach (a :: []) X.env) = (false, eval a X.env) :: backTo pos (starEach [] X.env) := by rfl) (hpl : (backTo pos (starEach (a :: []) X.env)).any (·.1) = false := by rfl)
    (hall : (backToKw pos (keywordEach [⟨some "reverse", .Constant (.bool true) j kp2, kp⟩] X.env)).all (·.1.isSome) = true := by rfl) (hnone : (backToKw pos (keywordEach [⟨some "reverse", .Constant (.bool true) j kp2, kp⟩] X.env)).any (·.1.isNone) = false := by rfl) (hks : (backToKw pos (keywordEach [⟨some "reverse", .Constant (.bool true) j kp2, kp⟩] X.env)).filterMap (·.1) = [Str.ofString "reverse"] := by rfl) :
    PEw X E (.Call (.Name "sorted" p) [a] [⟨some "reverse", .Constant (.bool true) j kp2, kp⟩] pos) (wCall cSortR m) :=
  pe_imp (pe_callBK (cr_sortedRev (b := true)) hg hm (by decide +kernel) ha (pk_cons pe_bl pk_nil) (by decide) (by decide) he hpl hall hnone hks) fun σ H Q ⟨B, e, st, Qd, Xd, S, pq, px, mm⟩ => ⟨B, e, st, _, Xd, S, fun ds st1 vs H1 m1 l1 x1 k1 r1 => by
    obtain ⟨d, hd, q⟩ := on_iff.mp m1
    unfold cSortR at hd
    split at hd
    · obtain ⟨ns, e1, rfl⟩ := Option.map_eq_some_iff.mp hd
      obtain ⟨ds, e3, e4⟩ := Option.bind_eq_some_iff.mp e1
      cases r1 with
      | cons r1 r2 =>
        cases r2
        obtain ⟨a, vs, rfl, h, r5, z⟩ := ls_of k1 r1 e3
        rw [intsOf_iff.mp e4] at r5 z
        have := r5.ints
        subst this
        refine ⟨a, ns, rfl, rfl, .inl h, fun ns' p hp hs hn => ?_⟩
        rw [sortI_rev hp hs]
        obtain ⟨x2, k2, r2⟩ := new_lst k1 hn (repL_ints (sortI ns).reverse) (by rw [List.length_map, List.length_reverse, sortI_len]; rw [List.length_map] at z; exact z)
        exact pq _ st1 _ _ q (x1.trans x2) k2 r2
    · (cases hd), px, mm⟩
end

/-! ### methods -/
def wMeth (T : String) (op : Sto → D → List D → Option (D × Sto)) (o : WE) (m : WA) : WE := fun e st X Q => o e st X fun x st1 => tyNm st1 x = some T ∧ m e st1 X fun ds st2 => on (op st2 x ds) fun p => Q p.1 p.2
def MeOk (K : PySem.W.Frag) (r : V → List V → Hp → VK → Prop) (op : Sto → D → List D → Option (D × Sto)) : Prop :=
  ∀ (B : Bz) (H : Hp) (st : Sto) (x : V) (dx : D) (xs : List V) (dxs : List D) (d : D) (st' : Sto) (Q : VK), StoOk K H B st → Rep K H (mu st B) dx x → RepL K H (mu st B) dxs xs → op st dx dxs = some (d, st') →
    (∀ v H', Ext H (mu st B) H' (mu st' B) → StoOk K H' B st' → Rep K H' (mu st' B) d v → Q v H') → r x xs H Q
theorem ty_V {K : PySem.W.Frag} {B : Bz} {H : Hp} {st : Sto} {x : V} {d : D} {T : String} (k : StoOk K H B st) (r : Rep K H (mu st B) d x) (e : tyNm st d = some T) (hT : T = "list" ∨ T = "dict" ∨ T = "str") : tyV K T x H := by
  cases r with
  | non => cases e; rcases hT with h | h | h <;> exact absurd h (by decide)
  | bl b => cases e; rcases hT with h | h | h <;> exact absurd h (by decide)
  | int i => cases e; rcases hT with h | h | h <;> exact absurd h (by decide)
  | str x h => cases e; rfl
  | ty n => cases e
  | exc h => cases e
  | cls x => cases e
  | tup h r z => cases e; rcases hT with h | h | h <;> exact absurd h (by decide)
  | kt h r z => cases e; rcases hT with h | h | h <;> exact absurd h (by decide)
  | lst h r z => cases e; exact .inl ⟨rfl, _, h.sq⟩
  | kl h r z => cases e; exact .inl ⟨rfl, _, h.elim (fun h => h.sq) (fun h => h.sq)⟩
  | ref a =>
    unfold tyNm at e
    simp only at e
    split at e
    · rename_i q
      cases e
      obtain ⟨o, e1, r1⟩ := k.at_ a _ q
      cases o <;> try exact r1.elim
      exact .inl ⟨rfl, _, .inl (.inl e1)⟩
    · rename_i q
      cases e
      obtain ⟨o, e1, r1⟩ := k.at_ a _ q
      cases o <;> try exact r1.elim
      exact .inr (.inr (.inl ⟨rfl, .inl ⟨_, e1⟩⟩))
    · rename_i q
      cases e
      obtain ⟨o, e1, r1⟩ := k.at_ a _ q
      cases o <;> try exact r1.elim
      exact .inr (.inr (.inl ⟨rfl, .inr ⟨_, e1⟩⟩))
    · cases e
section
variable {X : Cx} {E : XK} {a o : Expr} {mo : WE} {pos apos cpos : Pos} {name : Str} {id T : String} {es : List Expr} {n : Nat} {m : WA}
theorem e_bm {r : V → List V → Hp → VK → Prop} {op : Sto → D → List D → Option (D × Sto)} (hT : T = "list" ∨ T = "dict" ∨ T = "str") (pa : PlainAttrs T) (slot : Slot T name id) (hty : typeOf (.builtin id) = pure (.type "method_descriptor")) (hm : MtR X id r) (hk : MeOk X.K r op) (ho : PEw X E o mo) (ha : PAw X E (a :: es) n m)
    (hbase : attributeBase o name X.env (eval o X.env) = eval o X.env := by rfl)
    (hfew : ((backTo cpos (starEach (a :: es) X.env)).all (fun x => !x.1) && (backToKw cpos (keywordEach [] X.env)).all (fun x => x.1.isSome)
      && decide ((a :: es).length + ([] : List Keyword).length + (if ([] : List Keyword).isEmpty then 0 else 1) < 30)) = true := by rfl)
    (hline : (apos.endLine == cpos.line) = true := by rfl) (hs : starEach (a :: es) X.env = (false, eval a X.env) :: starEach es X.env := by rfl) (hplain : (backTo cpos (starEach es X.env)).any (·.1) = false := by rfl) :
    PEw X E (.Call (.Attribute o name apos) (a :: es) [] cpos) (wMeth T op mo m) := pe_imp (pe_bm pa slot hty hm ho ha hbase hfew hline hs hplain) fun σ H Q ⟨B, e, st, Qd, Xd, S, pq, px, mm⟩ =>
  ⟨B, e, st, _, Xd, S, fun x st1 vx H1 m1 x1 k1 r1 => ⟨ty_V k1 r1 m1.1 hT, B, e, st1, _, Xd, S.on x1 k1, fun ds st2 vs H2 m2 l2 x2 k2 r2 => by
    obtain ⟨⟨d, st3⟩, hd, q⟩ := on_iff.mp m2
    exact hk B H2 st2 vx x vs ds d st3 Q k2 (r1.ext x2) r2 hd fun v H' x3 k3 r3 => pq d st3 v H' q ((x1.trans x2).trans x3) k3 r3, px.on x1, m1.2⟩, px, mm⟩
theorem e_bm0 {r : V → List V → Hp → VK → Prop} {op : Sto → D → List D → Option (D × Sto)} (hT : T = "list" ∨ T = "dict" ∨ T = "str") (pa : PlainAttrs T) (slot : Slot T name id) (hty : typeOf (.builtin id) = pure (.type "method_descriptor")) (hm : MtR X id r) (hk : MeOk X.K r op) (ho : PEw X E o mo)
    (hbase : attributeBase o name X.env (eval o X.env) = eval o X.env := by rfl) (hline : (apos.endLine == cpos.line) = true := by rfl) :
    PEw X E (.Call (.Attribute o name apos) [] [] cpos) (wMeth T op mo wNil) := pe_imp (pe_bm0 pa slot hty hm ho hbase hline) fun σ H Q ⟨B, e, st, Qd, Xd, S, pq, px, mm⟩ =>
  ⟨B, e, st, _, Xd, S, fun x st1 vx H1 m1 x1 k1 r1 => ⟨ty_V k1 r1 m1.1 hT, by
    obtain ⟨⟨d, st3⟩, hd, q⟩ := on_iff.mp m1.2
    exact hk B H1 st1 vx x [] [] d st3 Q k1 r1 .nil hd fun v H' x3 k3 r3 => pq d st3 v H' q (x1.trans x3) k3 r3⟩, px, mm⟩
end
def mAppend (st : Sto) (x : D) (as : List D) : Option (D × Sto) := match x, as with
  | .ref a, [y] => (cellL (st a)).bind fun ds => if ds.length < sizeLine then some (.non, st.set a (.lst (ds ++ [y]))) else none
  | _, _ => none
theorem mAppend_ok {K : PySem.W.Frag} : MeOk K rAppend mAppend := by
  intro B H st x dx xs dxs d st' Q k rx rs e g
  unfold mAppend at e
  split at e
  · obtain ⟨ds, e1, e2⟩ := Option.bind_eq_some_iff.mp e
    split at e2 <;> cases e2
    rename_i hz
    have q := cellL_iff.mp e1
    obtain ⟨u, e3, r1⟩ := k.at_ _ _ q
    cases u <;> try exact r1.elim
    rename_i ws
    cases rx
    cases rs with
    | cons r2 r3 =>
      cases r3
      have hl := r1.1.length
      obtain ⟨k2, x2⟩ := k.write (c := .lst (ds ++ _)) (o := .lst (ws ++ _)) q ⟨r1.1.append (.cons r2 .nil), by rw [List.length_append]; exact hz⟩
      exact ⟨_, ws, _, rfl, rfl, e3, by rw [hl]; exact hz, g .non _ x2 k2 .non⟩
  · cases e
def mExtend (st : Sto) (x : D) (as : List D) : Option (D × Sto) := match x, as with
  | .ref a, [y] => (cellL (st a)).bind fun ds => (lsOf st y).bind fun es => if ds.length + es.length ≤ sizeLine then some (.non, st.set a (.lst (ds ++ es))) else none
  | _, _ => none
def mPopAt (st : Sto) (x : D) (as : List D) : Option (D × Sto) := match x, as with
  | .ref a, [.int i] => (cellL (st a)).bind fun ds => if -(2 ^ 63) ≤ i ∧ i < 2 ^ 63 then (seqIndex? i ds.length).bind fun j => (ds[j]?).map fun d => (d, st.set a (.lst (ds.eraseIdx j))) else none
  | _, _ => none
theorem mPopAt_ok {K : PySem.W.Frag} : MeOk K rPopAt mPopAt := by
  intro B H st x dx xs dxs d st' Q k rx rs e g
  unfold mPopAt at e
  split at e
  · obtain ⟨ds, e1, e2⟩ := Option.bind_eq_some_iff.mp e
    split at e2 <;> try cases e2
    rename_i hz
    obtain ⟨j, e3, e4⟩ := Option.bind_eq_some_iff.mp e2
    obtain ⟨d, e5, e6⟩ := Option.map_eq_some_iff.mp e4
    cases e6
    have q := cellL_iff.mp e1
    obtain ⟨u, e7, r1⟩ := k.at_ _ _ q
    cases u <;> try exact r1.elim
    rename_i ws
    cases rx
    cases rs with
    | cons r2 r3 =>
      cases r3
      cases r2
      have hl := r1.1.length
      obtain ⟨v, h1, h2⟩ := r1.1.get e5
      have hle : (ds.eraseIdx j).length ≤ sizeLine := Nat.le_trans (List.length_eraseIdx_le ..) r1.2
      obtain ⟨k2, x2⟩ := k.write (c := .lst (ds.eraseIdx j)) (o := .lst (ws.eraseIdx j)) q ⟨r1.1.eraseIdx j, hle⟩
      exact ⟨_, ws, _, j, v, rfl, rfl, e7, hz.1, hz.2, by rw [hl]; exact e3, h1, g v _ x2 k2 (h2.ext x2)⟩
  · cases e
end DL
namespace DL
open PySem PySem.Spec PyProof.Rows L2

/-- built-in names that the text leaves alone -/
structure Frees (mg : Str → Option Value) : Prop where
  len : mg "len" = none
  int : mg "int" = none
  bool : mg "bool" = none
  str : mg "str" = none
  list : mg "list" = none
  tuple : mg "tuple" = none
  dict : mg "dict" = none
  set : mg "set" = none
  range : mg "range" = none
  enumerate : mg "enumerate" = none
  zip : mg "zip" = none
  max : mg "max" = none
  min : mg "min" = none
  sum : mg "sum" = none
  all : mg "all" = none
  any : mg "any" = none
  sorted : mg "sorted" = none
  isinstance : mg "isinstance" = none
  repr : mg "repr" = none
  ValueError : mg "ValueError" = none
section
variable {X : Cx} {E : XK} {a b : Expr} {ma mb : WE} {pos p : Pos} {n : Nat} {m : WA}
theorem e_ty (T : String) {x : Str} (hg : Gl X x) (hm : X.mg x = none) (hv : bootBuiltins x = some (.type T)) (hn : x ≠ "__name__" := by decide) (hd : (x == ("__debug__" : Str)) = false := by decide) : PEw X E (.Name x pos) (wC (.ty T)) := e_c (pe_bltn (v := .ty T) hg hm hv rfl hn hd) fun _ _ => .ty T
theorem e_tint (fr : Frees X.mg) (hg : Gl X "int" := by rfl) : PEw X E (.Name "int" pos) (wC (.ty "int")) := e_ty "int" hg fr.int (by decide +kernel)
theorem e_tbool (fr : Frees X.mg) (hg : Gl X "bool" := by rfl) : PEw X E (.Name "bool" pos) (wC (.ty "bool")) := e_ty "bool" hg fr.bool (by decide +kernel)
theorem e_tstr (fr : Frees X.mg) (hg : Gl X "str" := by rfl) : PEw X E (.Name "str" pos) (wC (.ty "str")) := e_ty "str" hg fr.str (by decide +kernel)
theorem e_ttuple (fr : Frees X.mg) (hg : Gl X "tuple" := by rfl) : PEw X E (.Name "tuple" pos) (wC (.ty "tuple")) := e_ty "tuple" hg fr.tuple (by decide +kernel)
theorem e_tlist (fr : Frees X.mg) (hg : Gl X "list" := by rfl) : PEw X E (.Name "list" pos) (wC (.ty "list")) := e_ty "list" hg fr.list (by decide +kernel)
theorem e_gint {x : Str} {i : Int} (h : ∃ t, X.mg x = some (.int i t)) (hg : Gl X x := by rfl) (hd : (x == ("__debug__" : Str)) = false := by decide) : PEw X E (.Name x pos) (wC (.int i)) := by
  obtain ⟨t, h⟩ := h
  exact e_c (pe_glob (v := .int i) hg h ⟨t, rfl⟩ hd) fun _ _ => .int i
theorem e_gstr {x z : Str} (h : ∃ t, X.mg x = some (.str z t)) (hz : okS z = true := by decide +kernel) (hg : Gl X x := by rfl) (hd : (x == ("__debug__" : Str)) = false := by decide) : PEw X E (.Name x pos) (wC (.str z)) := by
  obtain ⟨t, h⟩ := h
  exact e_c (pe_glob (v := .str z) hg h ⟨t, rfl⟩ hd) fun _ _ => .str z hz
theorem e_len (fr : Frees X.mg) (ha : PAw X E [a] n m) (hg : Gl X "len" := by rfl) (he : starEach [a] X.env = (false, eval a X.env) :: starEach [] X.env := by rfl) : PEw X E (.Call (.Name "len" p) [a] [] pos) (wCall cLen m) :=
  e_cb call_len2 cLen_ok hg fr.len (by decide +kernel) ha (by decide) (by decide) he rfl
theorem e_toint (fr : Frees X.mg) (ha : PAw X E [a] n m) (hg : Gl X "int" := by rfl) (he : starEach [a] X.env = (false, eval a X.env) :: starEach [] X.env := by rfl) : PEw X E (.Call (.Name "int" p) [a] [] pos) (wCall cInt m) :=
  e_ct call_int1 cInt_ok hg fr.int (by decide +kernel) ha (by decide) (by decide) he rfl
theorem e_list (fr : Frees X.mg) (ha : PAw X E [a] n m) (hg : Gl X "list" := by rfl) (he : starEach [a] X.env = (false, eval a X.env) :: starEach [] X.env := by rfl) : PEw X E (.Call (.Name "list" p) [a] [] pos) (wCall cList m) :=
  e_ct call_list_of cList_ok hg fr.list (by decide +kernel) ha (by decide) (by decide) he rfl
theorem e_tuple (fr : Frees X.mg) (ha : PAw X E [a] n m) (hg : Gl X "tuple" := by rfl) (he : starEach [a] X.env = (false, eval a X.env) :: starEach [] X.env := by rfl) : PEw X E (.Call (.Name "tuple" p) [a] [] pos) (wCall cTuple m) :=
  e_ct call_tuple_of cTuple_ok hg fr.tuple (by decide +kernel) ha (by decide) (by decide) he rfl
theorem e_max1 (hc : X.calm = true) (fr : Frees X.mg) (ha : PAw X E [a] n m) (hg : Gl X "max" := by rfl) (he : starEach [a] X.env = (false, eval a X.env) :: starEach [] X.env := by rfl) : PEw X E (.Call (.Name "max" p) [a] [] pos) (wCall cMax m) :=
  e_cb (call_maxW hc) cMax_ok hg fr.max (by decide +kernel) ha (by decide) (by decide) he rfl
theorem e_max2 (hc : X.calm = true) (fr : Frees X.mg) (ha : PAw X E [a, b] n m) (hg : Gl X "max" := by rfl) (he : starEach [a, b] X.env = (false, eval a X.env) :: starEach [b] X.env := by rfl) (hp : (backTo pos (starEach [b] X.env)).any (·.1) = false := by rfl) : PEw X E (.Call (.Name "max" p) [a, b] [] pos) (wCall cMax m) :=
  e_cb (call_maxW hc) cMax_ok hg fr.max (by decide +kernel) ha (by decide) (by decide) he hp
theorem e_min2 (hc : X.calm = true) (fr : Frees X.mg) (ha : PAw X E [a, b] n m) (hg : Gl X "min" := by rfl) (he : starEach [a, b] X.env = (false, eval a X.env) :: starEach [b] X.env := by rfl) (hp : (backTo pos (starEach [b] X.env)).any (·.1) = false := by rfl) : PEw X E (.Call (.Name "min" p) [a, b] [] pos) (wCall cMin m) :=
  e_cb (call_min2 hc) cMin_ok hg fr.min (by decide +kernel) ha (by decide) (by decide) he hp
theorem e_isi (fr : Frees X.mg) (ha : PAw X E [a, b] n m) (hg : Gl X "isinstance" := by rfl) (he : starEach [a, b] X.env = (false, eval a X.env) :: starEach [b] X.env := by rfl) (hp : (backTo pos (starEach [b] X.env)).any (·.1) = false := by rfl) : PEw X E (.Call (.Name "isinstance" p) [a, b] [] pos) (wCall cIsi m) :=
  e_cb call_isi cIsi_ok hg fr.isinstance (by decide +kernel) ha (by decide) (by decide) he hp
theorem e_sortI (fr : Frees X.mg) (ha : PAw X E [a] n m) (hg : Gl X "sorted" := by rfl) (he : starEach [a] X.env = (false, eval a X.env) :: starEach [] X.env := by rfl) : PEw X E (.Call (.Name "sorted" p) [a] [] pos) (wCall cSortI m) :=
  e_cb cr_sortedI cSortI_ok hg fr.sorted (by decide +kernel) ha (by decide) (by decide) he rfl
theorem e_append {o : Expr} {mo : WE} {apos cpos : Pos} (ho : PEw X E o mo) (ha : PAw X E [a] n m) (hbase : attributeBase o "append" X.env (eval o X.env) = eval o X.env := by rfl)
    (hfew : ((backTo cpos (starEach [a] X.env)).all (fun x => !x.1) && (backToKw cpos (keywordEach [] X.env)).all (fun x => x.1.isSome)
      && decide ([a].length + ([] : List Keyword).length + (if ([] : List Keyword).isEmpty then 0 else 1) < 30)) = true := by rfl)
    (hline : (apos.endLine == cpos.line) = true := by rfl) (hs : starEach [a] X.env = (false, eval a X.env) :: starEach [] X.env := by rfl) : PEw X E (.Call (.Attribute o "append" apos) [a] [] cpos) (wMeth "list" mAppend mo m) :=
  e_bm (.inl rfl) PySem.F.plainAttrs_list PySem.F.slot_list_append PySem.F.type_list_append mt_append mAppend_ok ho ha hbase hfew hline hs rfl
theorem e_popAt {o : Expr} {mo : WE} {apos cpos : Pos} (ho : PEw X E o mo) (ha : PAw X E [a] n m) (hbase : attributeBase o "pop" X.env (eval o X.env) = eval o X.env := by rfl)
    (hfew : ((backTo cpos (starEach [a] X.env)).all (fun x => !x.1) && (backToKw cpos (keywordEach [] X.env)).all (fun x => x.1.isSome)
      && decide ([a].length + ([] : List Keyword).length + (if ([] : List Keyword).isEmpty then 0 else 1) < 30)) = true := by rfl)
    (hline : (apos.endLine == cpos.line) = true := by rfl) (hs : starEach [a] X.env = (false, eval a X.env) :: starEach [] X.env := by rfl) : PEw X E (.Call (.Attribute o "pop" apos) [a] [] cpos) (wMeth "list" mPopAt mo m) :=
  e_bm (.inl rfl) PySem.F.plainAttrs_list PySem.F.slot_list_pop PySem.F.type_list_pop mt_popAt mPopAt_ok ho ha hbase hfew hline hs rfl
end

/-! ### a def of the text keeps its promise -/
abbrev CXp (P : Program) (w : World) : CXT := L2.CX P w
def Good (P : Program) (w : World) (K : PySem.W.Frag) (mg : Str → Option Value) (base : Heap) (k : Nat) (x : Str) (ar : Nat) (F : WF) : Prop :=
  ∃ (f : Addr) (fd : FuncData) (ps : List Str), mg x = some (.ref f) ∧ PySem.W.keepIn K (.ref f) = true ∧ Binds K fd ps [] ∧ FnOk P w K mg base (CXp P w) k f fd ps (spF K mg ar F)
theorem good_def {P : Program} {w : World} {K : PySem.W.Frag} {mg : Str → Option Value} {base : Heap} {k n ar : Nat} {x qual : Str} {params : Arguments} {body : List Stmt} {scope : Scope} {f : Addr} {fd : FuncData} {N ps : List Str} {keep : Bool} {m : WS}
    (hm : mg x = some (.ref f)) (F : FunD K x qual params body scope [] [] f fd) (hb : Binds K fd ps []) (S : FnScope N ps scope) (hn : N.length = n) (ha : ps.length = ar)
    (hbody : ∀ (cdv : Value) (A : Around) (outer : List PySem.Env) (s : Shared) (H : Hp) (E : XK), Room k (cxOf (CXp P w) P w K mg base N qual scope f cdv A outer s H E).A → PassesOwn (model P w) (cxOf (CXp P w) P w K mg base N qual scope f cdv A outer s H E).A (cxOf (CXp P w) P w K mg base N qual scope f cdv A outer s H E).env (cxOf (CXp P w) P w K mg base N qual scope f cdv A outer s H E).xe →
      Passes (CXp P w) (cxOf (CXp P w) P w K mg base N qual scope f cdv A outer s H E) E → (cxOf (CXp P w) P w K mg base N qual scope f cdv A outer s H E).A.units + 65 < cLine → Takes (cxOf (CXp P w) P w K mg base N qual scope f cdv A outer s H E) (fun c d _ H => E c d H) → PBw (cxOf (CXp P w) P w K mg base N qual scope f cdv A outer s H E) E body m) :
    Good P w K mg base (k + 1) x ar (wDef n ar keep m) := by
  refine ⟨f, fd, ps, hm, F.kp, hb, F.ok S (fun vs H Q E h => ?_) fun cdv A outer s H vs Q E hr h => ?_⟩
  · obtain ⟨B, ds, st, Qd, Xd, l, _⟩ := h
    rw [l, ha]
  · exact ⟨_, hbody cdv A outer s H E hr (passes_of rfl) (passes_call (takes_of rfl rfl rfl rfl) fun _ _ _ _ h => h) (by have := hr.un; show (A.deeper _).units + 65 < cLine; omega) (takes_of rfl rfl rfl rfl), def_in hn h⟩
section
variable {X : Cx} {E : XK} {a : Expr} {pos p : Pos} {es : List Expr} {n : Nat} {m : WA} {x : Str}
theorem e_call {k j : Nat} {F : WF} (G : Good X.prog X.w X.K X.mg X.base k x n F) (hr : Room j X.A) (hx : Passes (CXp X.prog X.w) X E) (ha : PAw X E (a :: es) n m) (hk : k ≤ j := by first | decide | exact Nat.le_refl _ | exact Nat.le_add_right_of_le (by decide)) (hg : Gl X x := by rfl)
    (hdb : (x == ("__debug__" : Str)) = false := by decide) (he : starEach (a :: es) X.env = (false, eval a X.env) :: starEach es X.env := by rfl) (hpl : (backTo pos (starEach es X.env)).any (·.1) = false := by rfl) :
    PEw X E (.Call (.Name x p) (a :: es) [] pos) (wFn F m) := by
  obtain ⟨f, fd, ps, hm, hkp, hb, H⟩ := G
  exact e_fn H (hr.mono hk) hg hm hkp hb hx ha hdb he hpl
end
end DL
namespace DL
open PySem PySem.Spec PyProof.Rows L2

/-! ### the law's own def, and the end -/
theorem fn_def {P : Program} {w : World} {K : PySem.W.Frag} {mg : Str → Option Value} {base : Heap} {k n ar : Nat} {x qual : Str} {params : Arguments} {body : List Stmt} {scope : Scope} {f : Addr} {fd : FuncData} {N ps : List Str} {keep : Bool} {m : WS}
    (F : FunD K x qual params body scope [] [] f fd) (S : FnScope N ps scope) (hn : N.length = n) (ha : ps.length = ar)
    (hbody : ∀ (cdv : Value) (A : Around) (outer : List PySem.Env) (s : Shared) (H : Hp) (E : XK), Room k (cxOf (CXp P w) P w K mg base N qual scope f cdv A outer s H E).A → PassesOwn (model P w) (cxOf (CXp P w) P w K mg base N qual scope f cdv A outer s H E).A (cxOf (CXp P w) P w K mg base N qual scope f cdv A outer s H E).env (cxOf (CXp P w) P w K mg base N qual scope f cdv A outer s H E).xe →
      Passes (CXp P w) (cxOf (CXp P w) P w K mg base N qual scope f cdv A outer s H E) E → (cxOf (CXp P w) P w K mg base N qual scope f cdv A outer s H E).A.units + 65 < cLine → Takes (cxOf (CXp P w) P w K mg base N qual scope f cdv A outer s H E) (fun c d _ H => E c d H) → PBw (cxOf (CXp P w) P w K mg base N qual scope f cdv A outer s H E) E body m) :
    FnOk P w K mg base (CXp P w) (k + 1) f fd ps (spF K mg ar (wDef n ar keep m)) := by
  refine F.ok S (fun vs H Q E h => ?_) fun cdv A outer s H vs Q E hr h => ?_
  · obtain ⟨B, ds, st, Qd, Xd, l, _⟩ := h
    rw [l, ha]
  · exact ⟨_, hbody cdv A outer s H E hr (passes_of rfl) (passes_call (takes_of rfl rfl rfl rfl) fun _ _ _ _ h => h) (by have := hr.un; show (A.deeper _).units + 65 < cLine; omega) (takes_of rfl rfl rfl rfl), def_in hn h⟩
theorem noCX {P : Program} {w : World} {H : Hp} {s : Shared} {e : Value} {s' : Shared} (h : CXp P w [] H s (fun _ _ _ => False) e s') : False := by
  obtain ⟨_, _, _, _, _, _, _, _, _, _, _, _, z⟩ := h
  exact z
theorem walk_ofW {l : PySem.W.OpenLaw} {n k : Nat} {q : Program} {loose : List Str} {XP : (Str → Option Value) → Heap → Prop} {YP : World → Heap → Prop} {d : DefRec} {x : Str}
    (hn : l.most = some n) (hn2 : n ≤ sizeLine) (hdf : d.params.defaults = []) (hr : Room k callerA)
    (F : ∀ (w : World) (mg : Str → Option Value) (fa : Addr) (h : Heap), YP w h → h.Ns mainGlobals mg → mg d.name = some (.ref fa) →
      ∃ (K : PySem.W.Frag) (fd : FuncData) (sp : Sp), K.In h ∧ (∀ (s : Shared) (u : Value), BindsTo s fd ⟨[u], []⟩ [(x, u)]) ∧
        (∀ (H : Hp) (a : Addr) (ns : List Int), ns.length ≤ n → Only H → SqL K H a (ns.map V.int) → sp [.ref a] H (fun v _ => v = .bl true) fun _ _ _ => False) ∧
        ∀ base : Heap, K.In base → base.Ns mainGlobals mg → FnOk l.prog w K mg base (CXp l.prog w) k fa fd [x] sp) :
    PySem.W.WalkO q loose XP YP l.row.toRowW d [] (fun f vs => PySem.call f vs) := by
  refine Att.attach_call hn hdf fun w s₀ s₁ mg mb fa o pm cd doc a vs ns G Y ho hd hcd hmg hobj hints hlen hg => ?_
  obtain ⟨K, fd, sp, KX, hb, hsp, hF⟩ := F w mg fa _ Y G.T.g hmg
  exact law_call KX G.T.g G.T.b G.T.builtins G.T.nolimit hg hobj hints (Nat.le_trans hlen hn2) hr hF hb (fun H hO hS => hsp H a ns hlen hO hS) fun H e s' => noCX
theorem law_start {K : PySem.W.Frag} {mg : Str → Option Value} {F : WF} {H : Hp} {a : Addr} {ns : List Int} {n : Nat} (hl : ns.length ≤ n) (hn : n ≤ sizeLine) (hS : SqL K H a (ns.map V.int))
    (h : ∀ ns : List Int, ns.length ≤ n → F [.kl (ns.map D.int)] (fun _ => none) XF (fun d _ => d = .bl true)) : spF K mg 1 F [.ref a] H (fun v _ => v = .bl true) fun _ _ _ => False := by
  refine ⟨fun _ => False, [.kl (ns.map D.int)], fun _ => none, _, XF, rfl, ⟨(fun a c q => nomatch q), (fun _ z => False.elim z), (fun _ z => False.elim z)⟩, .cons (.kl ?_ (repL_ints ns) (by rw [List.length_map]; omega)) .nil, ?_, ?_, h ns hl⟩
  · rcases hS with h | h
    · exact .inl ⟨fun z => Or.elim z (fun z => z rfl) id, h⟩
    · exact .inr h
  · intro d st' v H' q x k r
    subst q
    cases r
    rfl
  · intro x st' c H' q
    exact q.elim
/-- a power of two written numbers -/
theorem e_powC {X : Cx} {E : XK} {i j v : Int} {k1 k2 : Nat} {p1 p2 pos : Pos} (hv : CPow i j ∧ i ^ j.toNat = v := by decide +kernel) : PEw X E (.BinOp (.Constant (.int i) k1 p1) .Pow (.Constant (.int j) k2 p2) pos) (wC (.int v)) :=
  pe_imp (e_pow e_int e_int) fun σ H Q ⟨B, e, st, Qd, Xd, S, pq, px, m⟩ => ⟨B, e, st, Qd, Xd, S, pq, px, by
    have h : dPow st (.int i) (.int j) = some (.int v) := by
      show (if CPow i j then some (D.int (i ^ j.toNat)) else none) = _
      rw [if_pos hv.1, hv.2]
    show on (dPow st (.int i) (.int j)) fun z => Qd z st
    rw [h]
    exact m⟩
/-- constants, folded -/
theorem wC_bin {o : Sto → D → D → Option D} {x y z : D} (h : ∀ st, o st x y = some z) : wBin o (wC x) (wC y) = wC z := by
  funext e st X Q
  show on (o st x y) (fun z => Q z st) = Q z st
  rw [h st]; rfl
theorem e_mulC {X : Cx} {E : XK} {a b : Expr} {pos : Pos} {i j v : Int} (ha : PEw X E a (wC (.int i))) (hb : PEw X E b (wC (.int j))) (hv : CMulW i j ∧ i * j = v := by decide +kernel) : PEw X E (.BinOp a .Mult b pos) (wC (.int v)) := by
  have h := e_mul (pos := pos) ha hb
  rw [wC_bin (z := .int v) fun st => by
    show (if CMulW i j then some (D.int (i * j)) else none) = _
    rw [if_pos hv.1, hv.2]] at h
  exact h
theorem e_subC {X : Cx} {E : XK} {a b : Expr} {pos : Pos} {i j v : Int} (ha : PEw X E a (wC (.int i))) (hb : PEw X E b (wC (.int j))) (hv : i - j = v := by decide +kernel) : PEw X E (.BinOp a .Sub b pos) (wC (.int v)) := by
  have h := e_sub (pos := pos) ha hb
  rw [wC_bin (z := .int v) fun st => by
    show some (D.int (i - j)) = _
    rw [hv]] at h
  exact h
theorem e_addC {X : Cx} {E : XK} {a b : Expr} {pos : Pos} {i j v : Int} (ha : PEw X E a (wC (.int i))) (hb : PEw X E b (wC (.int j))) (hv : i + j = v := by decide +kernel) : PEw X E (.BinOp a .Add b pos) (wC (.int v)) := by
  have h := e_add (pos := pos) ha hb
  rw [wC_bin (z := .int v) fun st => by
    show some (D.int (i + j)) = _
    rw [hv]] at h
  exact h
theorem e_negC {X : Cx} {E : XK} {a : Expr} {pos : Pos} {i v : Int} (ha : PEw X E a (wC (.int i))) (hv : -i = v := by decide +kernel) : PEw X E (.UnaryOp .USub a pos) (wC (.int v)) := by
  have h := e_neg (pos := pos) ha
  have e : wUn dNeg (wC (.int i)) = wC (.int v) := by
    funext e st X Q
    show Q (.int (-i)) st = Q (.int v) st
    rw [hv]
  rw [e] at h
  exact h
end DL
namespace DL
open PySem PySem.Spec PyProof.Rows L2

/-! ### the meanings, applied -/
section
variable {e : Env} {st : Sto} {X : PoX} {Q : PoE} {QA : List D → Sto → Prop} {QT : Bool → Sto → Prop} {QO : Option Int → Sto → Prop} {E : WEnds} {a b c m : WE} {t u : WT} {r : WA} {s s' : WS} {o o' : Sto → D → D → Option D} {f : Sto → D → Option D} {g : Sto → List D → Option D} {d x : D} {i n : Nat}
@[simp] theorem slot_z {d : Option D} : slot (d :: e) 0 = d := id rfl
@[simp] theorem slot_s {d : Option D} : slot (d :: e) (i + 1) = slot e i := id rfl
@[simp] theorem wVar_ap : wVar i e st X Q = on (slot e i) fun d => Q d st := id rfl
@[simp] theorem wC_ap : wC d e st X Q = Q d st := id rfl
@[simp] theorem wBin_ap : wBin o a b e st X Q = a e st X fun x st1 => b e st1 X fun y st2 => on (o st2 x y) fun z => Q z st2 := id rfl
@[simp] theorem wUn_ap : wUn f a e st X Q = a e st X fun x st1 => on (f st1 x) fun z => Q z st1 := id rfl
@[simp] theorem wOr_ap : wOr a b e st X Q = a e st X fun x st1 => on (truth st1 x) fun t => if t = true then Q x st1 else b e st1 X Q := id rfl
@[simp] theorem wAnd_ap : wAnd a b e st X Q = a e st X fun x st1 => on (truth st1 x) fun t => if t = true then b e st1 X Q else Q x st1 := id rfl
@[simp] theorem wNot_ap : wNot a e st X Q = a e st X fun x st1 => on (truth st1 x) fun t => Q (.bl (!t)) st1 := id rfl
@[simp] theorem wIf_ap : wIf t a b e st X Q = t e st X fun c st1 => if c = true then a e st1 X Q else b e st1 X Q := id rfl
@[simp] theorem wChain_ap : wChain o o' a b c e st X Q = a e st X fun x st1 => b e st1 X fun y st2 => on (o st2 x y) fun z => on (bOf z) fun t => if t = true then c e st2 X fun w st3 => on (o' st3 y w) fun u => Q u st3 else Q (.bl false) st2 := id rfl
@[simp] theorem wNo_ap : wNo e st X QO = QO none st := id rfl
@[simp] theorem wPart_ap : wPart m e st X QO = m e st X fun d st1 => on (iOf d) fun i => QO (some i) st1 := id rfl
@[simp] theorem wSl_ap {lo hi : WO} : wSl a lo hi e st X Q = a e st X fun x st1 => lo e st1 X fun l st2 => hi e st2 X fun h st3 => on (slD st3 x l h) fun d => Q d st3 := id rfl
@[simp] theorem wNil_ap : wNil e st X QA = QA [] st := id rfl
@[simp] theorem wCons_ap : wCons m r e st X QA = m e st X fun d st1 => r e st1 X fun ds st2 => QA (d :: ds) st2 := id rfl
@[simp] theorem wTup_ap : wTup r e st X Q = r e st X fun ds st1 => Q (.tup ds) st1 := id rfl
@[simp] theorem wLst_ap : wLst r e st X Q = r e st X fun ds st1 => Q (.lst ds) st1 := id rfl
@[simp] theorem wLstR_ap : wLstR r e st X Q = r e st X fun ds st1 => ∀ p, st1 p = none → Q (.ref p) (st1.set p (.lst ds)) := id rfl
@[simp] theorem wCall_ap : wCall g r e st X Q = r e st X fun ds st1 => on (g st1 ds) fun d => Q d st1 := id rfl
@[simp] theorem wFn_ap {F : WF} : wFn F r e st X Q = r e st X fun ds st1 => F ds st1 X Q := id rfl
@[simp] theorem wTB_ap : wTB m e st X QT = m e st X fun d st1 => on (bOf d) fun b => QT b st1 := id rfl
@[simp] theorem wTT_ap : wTT m e st X QT = m e st X fun d st1 => on (truth st1 d) fun b => QT b st1 := id rfl
@[simp] theorem wTAnd_ap : wTAnd t u e st X QT = t e st X fun c st1 => if c = true then u e st1 X QT else QT false st1 := id rfl
@[simp] theorem wTOr_ap : wTOr t u e st X QT = t e st X fun c st1 => if c = true then QT true st1 else u e st1 X QT := id rfl
@[simp] theorem wTNot_ap : wTNot t e st X QT = t e st X fun c st1 => QT (!c) st1 := id rfl
@[simp] theorem wYes_ap : wYes e st X QT = QT true st := id rfl
@[simp] theorem wMeth_ap {T : String} {op : Sto → D → List D → Option (D × Sto)} : wMeth T op m r e st X Q = m e st X fun x st1 => tyNm st1 x = some T ∧ r e st1 X fun ds st2 => on (op st2 x ds) fun p => Q p.1 p.2 := id rfl
@[simp] theorem wSkip_ap : wSkip E e st = E.nx e st := id rfl
@[simp] theorem wSeq_ap : wSeq s s' E e st = s { E with nx := s' E } e st := id rfl
@[simp] theorem wSet_ap : wSet i m E e st = m e st E.ex fun d st1 => E.nx (e.set i (some d)) st1 := id rfl
@[simp] theorem wDrop_ap : wDrop m E e st = m e st E.ex fun _ st1 => E.nx e st1 := id rfl
@[simp] theorem wRet_ap : wRet m E e st = m e st E.ex E.rt := id rfl
@[simp] theorem wRetN_ap : wRetN E e st = E.rt .non st := id rfl
@[simp] theorem wIfS_ap : wIfS t s s' E e st = t e st E.ex fun c st1 => if c = true then s E e st1 else s' E e st1 := id rfl
@[simp] theorem wBrk_ap : wBrk E e st = E.bk e st := id rfl
@[simp] theorem wCnt_ap : wCnt E e st = E.ct e st := id rfl
@[simp] theorem wAsg_ap {t : Tg} : wAsg t m E e st = m e st E.ex fun d st1 => on (asg t d e) fun e1 => E.nx e1 st1 := id rfl
@[simp] theorem wPut_ap {o i v : WE} : wPut o i v E e st = v e st E.ex fun dv st1 => o e st1 E.ex fun x st2 => i e st2 E.ex fun k st3 => on (putD st3 x k dv) fun st4 => E.nx e st4 := id rfl
@[simp] theorem wFor_ap {wi : WI} {t : Tg} {vs : List Nat} : wFor wi t s vs E e st = wi e st E.ex fun ds chk st1 => wForL t s vs chk E ds (fgt vs e) st1 := id rfl
@[simp] theorem wComp_ap {wi : WI} {t : Tg} {test : WT} {vs : List Nat} : wComp wi t test m vs e st X Q = wi e st X fun ds chk st1 => wCompL t test m chk (fgt vs e) (fun acc st2 => Q (.lst acc) st2) ds [] st1 := id rfl
@[simp] theorem wCompR_ap {wi : WI} {t : Tg} {test : WT} {vs : List Nat} : wCompR wi t test m vs e st X Q = wi e st X fun ds chk st1 => wCompL t test m chk (fgt vs e) (fun acc st2 => ∀ p, st2 p = none → Q (.ref p) (st2.set p (.lst acc))) ds [] st1 := id rfl
@[simp] theorem wiSeq_ap {QI : List D → (Sto → Prop) → Sto → Prop} : wiSeq m e st X QI = m e st X fun d st1 => on (sqOf st1 d) fun ds => QI ds (fun st' => sqOf st' d = some ds) st1 := id rfl
@[simp] theorem wiRange_ap {QI : List D → (Sto → Prop) → Sto → Prop} : wiRange r e st X QI = r e st X fun ds st1 => on (rangeOf ds) fun its => QI its (fun _ => True) st1 := id rfl
@[simp] theorem wiStr_ap {QI : List D → (Sto → Prop) → Sto → Prop} : wiStr m e st X QI = m e st X fun d st1 => on (match d with | .str x => if x.length ≤ sizeLine then some x else none | _ => none) fun x => QI (signs x) (fun _ => True) st1 := id rfl
@[simp] theorem wiEnum_ap {QI : List D → (Sto → Prop) → Sto → Prop} : wiEnum r e st X QI = r e st X fun as st1 => on (match as with | [d] => lsOf st1 d | _ => none) fun ds => QI (enumL 0 ds) (fun st' => (match as with | [d] => lsOf st' d | _ => none) = some ds) st1 := id rfl
@[simp] theorem wiZip_ap {QI : List D → (Sto → Prop) → Sto → Prop} : wiZip r e st X QI = r e st X fun as st1 => on (zip2 st1 as) fun p => QI (zipL p.1 p.2) (fun st' => zip2 st' as = some p) st1 := id rfl
@[simp] theorem wForL_nil {t : Tg} {vs : List Nat} {chk : Sto → Prop} : wForL t s vs chk E [] e st = (chk st ∧ E.nx e st) := id rfl
theorem wForL_cons {t : Tg} {vs : List Nat} {chk : Sto → Prop} {ds : List D} : wForL t s vs chk E (d :: ds) e st = (chk st ∧ on (asg t d e) fun e1 => s { E with nx := fun e2 st2 => wForL t s vs chk E ds (fgt vs e2) st2, ct := fun e2 st2 => wForL t s vs chk E ds (fgt vs e2) st2, bk := E.nx } e1 st) := id rfl
@[simp] theorem asg_nm : asg (.nm i) d e = some (e.set i (some d)) := by unfold asg; rfl
@[simp] theorem asg_tp {ts : List Tg} : asg (.tp ts) d e = (tpOf d).bind fun ds => asgs ts ds e := by unfold asg; rfl
@[simp] theorem asgs_nil : asgs [] [] e = some e := by unfold asgs; rfl
@[simp] theorem asgs_cons {t : Tg} {ts : List Tg} {ds : List D} : asgs (t :: ts) (d :: ds) e = (asg t d e).bind fun e1 => asgs ts ds e1 := by rw [asgs]
@[simp] theorem fgt_nil : fgt [] e = e := id rfl
@[simp] theorem fgt_cons {v : Nat} {vs : List Nat} : fgt (v :: vs) e = (fgt vs e).set v none := id rfl
theorem wDef_ap {keep : Bool} {ds : List D} : wDef n i keep s ds st X Q = (ds.length = i ∧
  s { nx := fun _ st' => Q .non (if keep then st'.keepOnly st else st'), rt := fun d st' => Q d (if keep then st'.keepOnly st else st'), ex := fun x st' => X x (if keep then st'.keepOnly st else st') } (ds.map some ++ List.replicate (n - ds.length) none) st) := id rfl
end
@[simp] theorem tpOf_tup {ds : List D} : tpOf (.tup ds) = some ds := id rfl
@[simp] theorem tpOf_kt {ds : List D} : tpOf (.kt ds) = some ds := id rfl
@[simp] theorem tpOf_lst {ds : List D} : tpOf (.lst ds) = none := id rfl
@[simp] theorem tpOf_ref {a : Addr} : tpOf (.ref a) = none := id rfl
@[simp] theorem truth_bl {st : Sto} {b : Bool} : truth st (.bl b) = some b := id rfl
@[simp] theorem truth_non {st : Sto} : truth st .non = some false := id rfl
@[simp] theorem truth_int {st : Sto} {i : Int} : truth st (.int i) = some (i != 0) := id rfl
@[simp] theorem truth_lst {st : Sto} {ds : List D} : truth st (.lst ds) = some !ds.isEmpty := id rfl
@[simp] theorem truth_tup {st : Sto} {ds : List D} : truth st (.tup ds) = some !ds.isEmpty := id rfl
@[simp] theorem sqOf_ref' {st : Sto} {a : Addr} : sqOf st (.ref a) = cellL (st a) := id rfl
@[simp] theorem lsOf_ref' {st : Sto} {a : Addr} : lsOf st (.ref a) = cellL (st a) := id rfl
@[simp] theorem lqOf_kl {st : Sto} {ds : List D} : lqOf st (.kl ds) = some ds := id rfl
@[simp] theorem lqOf_lst {st : Sto} {ds : List D} : lqOf st (.lst ds) = some ds := id rfl
@[simp] theorem lqOf_ref {st : Sto} {a : Addr} : lqOf st (.ref a) = cellL (st a) := id rfl

/-! ### numbers -/
section
variable {st : Sto} {i j : Int}
@[simp] theorem dAdd_int : dAdd st (.int i) (.int j) = some (.int (i + j)) := rfl
@[simp] theorem dSub_int : dSub st (.int i) (.int j) = some (.int (i - j)) := rfl
@[simp] theorem dNeg_int : dNeg st (.int i) = some (.int (-i)) := rfl
theorem log2_le {n k : Nat} (h : n < 2 ^ (k + 1)) : n.log2 ≤ k := by
  by_cases z : n = 0
  · subst z; exact Nat.zero_le _
  · have := (Nat.log2_lt z).mpr h; omega
theorem natAbs_log2 {i : Int} (h : -(2 ^ 400) < i) (h' : i < 2 ^ 400) : i.natAbs.log2 ≤ 400 := log2_le (k := 400) (by
  have e : (2 : Int) ^ 400 = ((2 ^ 400 : Nat) : Int) := by decide +kernel
  rw [e] at h h'
  have : (2 : Nat) ^ 400 ≤ 2 ^ (400 + 1) := by decide +kernel
  omega)
/-- of the sizes that a law draws -/
abbrev Mid (i : Int) : Prop := -(10 ^ 40) ≤ i ∧ i ≤ 10 ^ 40
theorem mid_lo : -((2 : Int) ^ 400) < -(10 ^ 40) := by decide +kernel
theorem mid_hi : (10 : Int) ^ 40 < 2 ^ 400 := by decide +kernel
theorem Mid.log {i : Int} (h : Mid i) : i.natAbs.log2 ≤ 400 := natAbs_log2 (Int.lt_of_lt_of_le mid_lo h.1) (Int.lt_of_le_of_lt h.2 mid_hi)
theorem dMul_int (h : Mid i) (h' : Mid j) : dMul st (.int i) (.int j) = some (.int (i * j)) := by
  show (if CMulW i j then _ else _) = _
  rw [if_pos]
  have := h.log
  have := h'.log
  unfold CMulW
  omega
theorem dFdiv_int (h : 0 < j) (h' : Mid j) : dFdiv st (.int i) (.int j) = some (.int (i / j)) := by
  show (if CDivW i j then _ else _) = _
  rw [if_pos]
  have := h'.log
  exact ⟨h, by omega⟩
theorem dMod_int (h : 0 < j) : dMod st (.int i) (.int j) = some (.int (i % j)) := if_pos h
theorem dPow_int (h : 0 ≤ j) (h1 : j ≤ 1000) (h2 : i.natAbs < 2 ^ 64) : dPow st (.int i) (.int j) = some (.int (i ^ j.toNat)) := by
  show (if CPow i j then _ else _) = _
  rw [if_pos ⟨h, by omega, h2⟩]
@[simp] theorem dLt_int : dLt st (.int i) (.int j) = some (.bl (decide (i < j))) := rfl
@[simp] theorem dLe_int : dLe st (.int i) (.int j) = some (.bl (decide (i ≤ j))) := rfl
@[simp] theorem dGt_int : dGt st (.int i) (.int j) = some (.bl (decide (j < i))) := rfl
@[simp] theorem dGe_int : dGe st (.int i) (.int j) = some (.bl (decide (j ≤ i))) := rfl
@[simp] theorem cInt_int : cInt st [.int i] = some (.int i) := rfl
@[simp] theorem cInt_bl {b : Bool} : cInt st [.bl b] = some (.int (if b then 1 else 0)) := rfl
@[simp] theorem cMax_int : cMax st [.int i, .int j] = some (.int (if j > i then j else i)) := rfl
@[simp] theorem cMin_int : cMin st [.int i, .int j] = some (.int (if j < i then j else i)) := rfl
end

/-! ### places, types -/
theorem atI_N {α : Type} {ds : List α} {i : Nat} : atI ds (i : Int) = ds[i]? := by
  unfold atI
  by_cases h : i < ds.length
  · have e : ixN ds.length (i : Int) = some i := by
      unfold ixN
      simp; omega
    rw [e]; rfl
  · have e : ixN ds.length (i : Int) = none := by
      unfold ixN
      simp; omega
    rw [e, List.getElem?_eq_none (by omega)]; rfl
section
variable {α : Type} {a b c d e f g : α} {ds : List α}
@[simp] theorem atI_0 : atI (a :: ds) 0 = some a := atI_N (i := 0)
@[simp] theorem atI_1 : atI (a :: b :: ds) 1 = some b := atI_N (i := 1)
@[simp] theorem atI_2 : atI (a :: b :: c :: ds) 2 = some c := atI_N (i := 2)
@[simp] theorem atI_3 : atI (a :: b :: c :: d :: ds) 3 = some d := atI_N (i := 3)
@[simp] theorem atI_4 : atI (a :: b :: c :: d :: e :: ds) 4 = some e := atI_N (i := 4)
@[simp] theorem atI_5 : atI (a :: b :: c :: d :: e :: f :: ds) 5 = some f := atI_N (i := 5)
@[simp] theorem atI_6 : atI (a :: b :: c :: d :: e :: f :: g :: ds) 6 = some g := atI_N (i := 6)
end
section
variable {st : Sto} {d : D}
@[simp] theorem cIsi_int : cIsi st [d, .ty "int"] = (tyNm st d).map fun t => .bl (isiB t "int") := by unfold cIsi; simp only; rw [if_pos (by decide)]
@[simp] theorem cIsi_bool : cIsi st [d, .ty "bool"] = (tyNm st d).map fun t => .bl (isiB t "bool") := by unfold cIsi; simp only; rw [if_pos (by decide)]
@[simp] theorem cIsi_str : cIsi st [d, .ty "str"] = (tyNm st d).map fun t => .bl (isiB t "str") := by unfold cIsi; simp only; rw [if_pos (by decide)]
@[simp] theorem cIsi_tuple : cIsi st [d, .ty "tuple"] = (tyNm st d).map fun t => .bl (isiB t "tuple") := by unfold cIsi; simp only; rw [if_pos (by decide)]
@[simp] theorem cIsi_list : cIsi st [d, .ty "list"] = (tyNm st d).map fun t => .bl (isiB t "list") := by unfold cIsi; simp only; rw [if_pos (by decide)]
@[simp] theorem cIsi_dict : cIsi st [d, .ty "dict"] = (tyNm st d).map fun t => .bl (isiB t "dict") := by unfold cIsi; simp only; rw [if_pos (by decide)]
@[simp] theorem isiB_ap {t T : String} : isiB t T = if T = "int" then (t = "int" || t = "bool" : Bool) else (t = T : Bool) := rfl
@[simp] theorem tyNm_non : tyNm st .non = some "NoneType" := rfl
@[simp] theorem tyNm_bl {b : Bool} : tyNm st (.bl b) = some "bool" := rfl
@[simp] theorem tyNm_int {b : Int} : tyNm st (.int b) = some "int" := rfl
@[simp] theorem tyNm_str {b : Str} : tyNm st (.str b) = some "str" := rfl
@[simp] theorem tyNm_tup {b : List D} : tyNm st (.tup b) = some "tuple" := rfl
@[simp] theorem tyNm_kt {b : List D} : tyNm st (.kt b) = some "tuple" := rfl
@[simp] theorem tyNm_lst {b : List D} : tyNm st (.lst b) = some "list" := rfl
@[simp] theorem tyNm_kl {b : List D} : tyNm st (.kl b) = some "list" := rfl
theorem tyNm_ref {a : Addr} {ds : List D} (h : st a = some (.lst ds)) : tyNm st (.ref a) = some "list" := by
  unfold tyNm
  simp only
  rw [h]
@[simp] theorem ixD_lst {ds : List D} {i : Int} : ixD st (.lst ds) (.int i) = atI ds i := rfl
@[simp] theorem ixD_tup {ds : List D} {i : Int} : ixD st (.tup ds) (.int i) = atI ds i := rfl
@[simp] theorem ixD_kt {ds : List D} {i : Int} : ixD st (.kt ds) (.int i) = atI ds i := rfl
@[simp] theorem ixD_kl {ds : List D} {i : Int} : ixD st (.kl ds) (.int i) = atI ds i := rfl
theorem ixD_ref {a : Addr} {ds : List D} {i : Int} (h : st a = some (.lst ds)) : ixD st (.ref a) (.int i) = atI ds i := by
  show (match sqOf st (.ref a) with | some ds => _ | none => _) = _
  rw [sqOf_ref h]
theorem putD_lst {a : Addr} {ds ds' : List D} {i : Int} {v : D} (h : st a = some (.lst ds)) (p : putL ds i v = some ds') : putD st (.ref a) (.int i) v = some (st.set a (.lst ds')) := by
  unfold putD
  simp only
  rw [h]
  simp only
  rw [p]; rfl
theorem mAppend_ref {a : Addr} {ds : List D} {v : D} (h : st a = some (.lst ds)) (z : ds.length < sizeLine) : mAppend st (.ref a) [v] = some (.non, st.set a (.lst (ds ++ [v]))) := by
  unfold mAppend
  simp only
  rw [h]
  simp [z]
@[simp] theorem cLen_lst {ds : List D} : cLen st [.lst ds] = some (.int ds.length) := rfl
@[simp] theorem cLen_kl {ds : List D} : cLen st [.kl ds] = some (.int ds.length) := rfl
@[simp] theorem cLen_tup {ds : List D} : cLen st [.tup ds] = some (.int ds.length) := rfl
@[simp] theorem cLen_kt {ds : List D} : cLen st [.kt ds] = some (.int ds.length) := rfl
theorem cLen_ref {a : Addr} {ds : List D} (h : st a = some (.lst ds)) : cLen st [.ref a] = some (.int ds.length) := by
  show (lenD st (.ref a)).map _ = _
  unfold lenD
  simp only
  rw [h]; rfl
@[simp] theorem cList_ap {d : D} : cList st [d] = (sqOf st d).map .lst := rfl
@[simp] theorem slD_lst {ds : List D} {lo hi : Option Int} : slD st (.lst ds) lo hi = some (.lst (cutD ds lo hi)) := rfl
@[simp] theorem slD_kl {ds : List D} {lo hi : Option Int} : slD st (.kl ds) lo hi = some (.lst (cutD ds lo hi)) := rfl
@[simp] theorem slD_tup {ds : List D} {lo hi : Option Int} : slD st (.tup ds) lo hi = some (.tup (cutD ds lo hi)) := rfl
end

/-! ### ranges -/
theorem rangeOf_1 {j : Int} (h : -1000 ≤ j) (h' : j ≤ 1000000) : rangeOf [.int j] = some (rangeL 0 j) := if_pos (by unfold small62; simp; omega)
theorem rangeOf_2 {i j : Int} (h : -1000 ≤ i) (h' : i ≤ 1000000) (h1 : -1000 ≤ j) (h2 : j ≤ 1000000) : rangeOf [.int i, .int j] = some (rangeL i j) := if_pos (by unfold small62; simp; omega)
def rangeI (i j : Int) : List Int := (List.range (j - i).toNat).map fun (k : Nat) => i + (k : Int)
theorem rangeL_map {i j : Int} : rangeL i j = (rangeI i j).map .int := by
  unfold rangeL rangeI
  rw [List.map_map]; rfl
theorem mem_rangeI {i j x : Int} : x ∈ rangeI i j ↔ i ≤ x ∧ x < j := by
  unfold rangeI
  rw [List.mem_map]
  constructor
  · rintro ⟨k, hk, rfl⟩
    have := List.mem_range.mp hk
    omega
  · rintro ⟨h1, h2⟩
    exact ⟨(x - i).toNat, List.mem_range.mpr (by omega), by omega⟩
theorem rangeI_len {i j : Int} : (rangeI i j).length = (j - i).toNat := by
  unfold rangeI
  rw [List.length_map, List.length_range]

/-! ### equality -/
mutual
/-- data without truth values, of depth n at most -/
def pl : Nat → D → Bool
  | _, .non => true
  | _, .bl _ => true
  | _, .int _ => true
  | _, .str _ => true
  | n, .tup ds => n != 0 && plL (n - 1) ds
  | n, .kt ds => n != 0 && plL (n - 1) ds
  | n, .lst ds => n != 0 && plL (n - 1) ds
  | _, .kl _ => false
  | _, .ref _ => false
  | _, .ty _ => false
  | _, .exc _ => false
  | _, .cls _ => false
def plL : Nat → List D → Bool
  | _, [] => true
  | n, d :: ds => pl n d && plL n ds
end
@[simp] theorem pl_non {n : Nat} : pl n .non = true := by unfold pl; rfl
@[simp] theorem pl_bl {n : Nat} {b : Bool} : pl n (.bl b) = true := by unfold pl; rfl
@[simp] theorem pl_int {n : Nat} {i : Int} : pl n (.int i) = true := by unfold pl; rfl
@[simp] theorem pl_str {n : Nat} {x : Str} : pl n (.str x) = true := by unfold pl; rfl
@[simp] theorem pl_tup {n : Nat} {ds : List D} : pl n (.tup ds) = (n != 0 && plL (n - 1) ds) := by rw [pl]
@[simp] theorem pl_kt {n : Nat} {ds : List D} : pl n (.kt ds) = (n != 0 && plL (n - 1) ds) := by rw [pl]
@[simp] theorem pl_lst {n : Nat} {ds : List D} : pl n (.lst ds) = (n != 0 && plL (n - 1) ds) := by rw [pl]
@[simp] theorem plL_nil {n : Nat} : plL n [] = true := by unfold plL; rfl
@[simp] theorem plL_cons {n : Nat} {d : D} {ds : List D} : plL n (d :: ds) = (pl n d && plL n ds) := by rw [plL]
theorem plL_all {n : Nat} : ∀ {ds : List D}, plL n ds = true ↔ ∀ d ∈ ds, pl n d = true
  | [] => by simp
  | d :: ds => by simp [plL_all]
theorem plL_map {α : Type} {n : Nat} {f : α → D} {l : List α} (h : ∀ x ∈ l, pl n (f x) = true) : plL n (l.map f) = true := plL_all.mpr fun d hd => by
  obtain ⟨x, hx, rfl⟩ := List.mem_map.mp hd
  exact h x hx
@[simp] theorem plL_ints {n : Nat} {l : List Int} : plL n (l.map D.int) = true := plL_map fun _ _ => pl_int
@[simp] theorem plL_strs {n : Nat} {l : List Str} : plL n (l.map D.str) = true := plL_map fun _ _ => pl_str
@[simp] theorem plL_append {n : Nat} {a b : List D} : plL n (a ++ b) = (plL n a && plL n b) := by
  induction a with
  | nil => simp
  | cons d a ih => simp [ih, Bool.and_assoc]
mutual
theorem pl_mono {n m : Nat} (h : n ≤ m) : ∀ {d : D}, pl n d = true → pl m d = true
  | .non, _ => pl_non
  | .bl _, _ => pl_bl
  | .int _, _ => pl_int
  | .str _, _ => pl_str
  | .tup ds, k => by
    simp at k ⊢
    exact ⟨by omega, plL_mono (by omega) k.2⟩
  | .kt ds, k => by
    simp at k ⊢
    exact ⟨by omega, plL_mono (by omega) k.2⟩
  | .lst ds, k => by
    simp at k ⊢
    exact ⟨by omega, plL_mono (by omega) k.2⟩
  | .kl _, k => by rw [pl] at k; cases k
  | .ref _, k => by rw [pl] at k; cases k
  | .ty _, k => by rw [pl] at k; cases k
  | .exc _, k => by rw [pl] at k; cases k
  | .cls _, k => by rw [pl] at k; cases k
theorem plL_mono {n m : Nat} (h : n ≤ m) : ∀ {ds : List D}, plL n ds = true → plL m ds = true
  | [], _ => plL_nil
  | d :: ds, k => by
    simp at k ⊢
    exact ⟨pl_mono h k.1, plL_mono h k.2⟩
end
mutual
theorem pl_py : ∀ {n : Nat} {d : D}, pl n d = true → ∃ p, toPy d = some p ∧ p.depth ≤ n ∧ PyData.eqv p p = true
  | n, .non, _ => ⟨.none, by unfold toPy; rfl, by unfold PyData.depth; omega, by rw [PyData.eqv]⟩
  | n, .bl b, _ => ⟨.bool b, by unfold toPy; rfl, by unfold PyData.depth; omega, by rw [PyData.eqv]; exact beq_self_eq_true _⟩
  | n, .int b, _ => ⟨.int b, by unfold toPy; rfl, by unfold PyData.depth; omega, by rw [PyData.eqv]; exact beq_self_eq_true _⟩
  | n, .str b, _ => ⟨.str b, by unfold toPy; rfl, by unfold PyData.depth; omega, by rw [PyData.eqv]; exact beq_self_eq_true _⟩
  | n, .tup ds, k => by
    simp at k
    obtain ⟨ps, h1, h2, h3⟩ := plL_py k.2
    exact ⟨.tuple ps, by unfold toPy; rw [h1]; rfl, by unfold PyData.depth; omega, by rw [PyData.eqv]; exact h3⟩
  | n, .kt ds, k => by
    simp at k
    obtain ⟨ps, h1, h2, h3⟩ := plL_py k.2
    exact ⟨.tuple ps, by unfold toPy; rw [h1]; rfl, by unfold PyData.depth; omega, by rw [PyData.eqv]; exact h3⟩
  | n, .lst ds, k => by
    simp at k
    obtain ⟨ps, h1, h2, h3⟩ := plL_py k.2
    exact ⟨.list ps, by unfold toPy; rw [h1]; rfl, by unfold PyData.depth; omega, by rw [PyData.eqv]; exact h3⟩
  | _, .kl _, k => by rw [pl] at k; cases k
  | _, .ref _, k => by rw [pl] at k; cases k
  | _, .ty _, k => by rw [pl] at k; cases k
  | _, .exc _, k => by rw [pl] at k; cases k
  | _, .cls _, k => by rw [pl] at k; cases k
theorem plL_py : ∀ {n : Nat} {ds : List D}, plL n ds = true → ∃ ps, toPyL ds = some ps ∧ PyData.depthAll ps ≤ n ∧ PyData.eqvAll ps ps = true
  | n, [], _ => ⟨[], by unfold toPyL; rfl, by unfold PyData.depthAll; omega, by rw [PyData.eqvAll]⟩
  | n, d :: ds, k => by
    simp at k
    obtain ⟨p, h1, h2, h3⟩ := pl_py k.1
    obtain ⟨ps, h4, h5, h6⟩ := plL_py k.2
    exact ⟨p :: ps, by rw [toPyL, h1, h4], by rw [PyData.depthAll]; omega, by rw [PyData.eqvAll, h3, h6]; rfl⟩
end
/-- what a name tells, a changed list read -/
def rd (st : Sto) : D → D
  | .ref a => match cellL (st a) with | some ds => .lst ds | none => .ref a
  | d => d
theorem pyOf_rd {st : Sto} {d : D} {p : PyData} (h : toPy (rd st d) = some p) : pyOf st d = some p := by
  cases d with
  | ref a =>
    unfold rd at h
    simp only at h
    unfold pyOf
    simp only
    split at h
    · rename_i ds e
      rw [e]
      rw [toPy] at h
      exact h
    · rw [toPy] at h; cases h
  | _ => exact h
theorem eqB_same {st : Sto} {x y d : D} (hx : rd st x = d) (hy : rd st y = d) (h : pl 64 d = true) : eqB st x y = some true := by
  obtain ⟨p, h1, h2, h3⟩ := pl_py h
  unfold eqB
  rw [pyOf_rd (hx ▸ h1), pyOf_rd (hy ▸ h1)]
  show eqvM p p = _
  unfold eqvM
  rw [if_pos (by omega), h3]
theorem dEq_self {st : Sto} {d : D} (h : pl 64 d = true) : dEq st d d = some (.bl true) := by
  have e : rd st d = d := by cases d <;> first | rfl | (rw [pl] at h; cases h)
  unfold dEq; rw [eqB_same e e h]; rfl
theorem dNe_self {st : Sto} {d : D} (h : pl 64 d = true) : dNe st d d = some (.bl false) := by
  have e : rd st d = d := by cases d <;> first | rfl | (rw [pl] at h; cases h)
  unfold dNe; rw [eqB_same e e h]; rfl
theorem dEq_same {st : Sto} {x y d : D} (hx : rd st x = d) (hy : rd st y = d) (h : pl 64 d = true) : dEq st x y = some (.bl true) := by unfold dEq; rw [eqB_same hx hy h]; rfl
theorem dNe_same {st : Sto} {x y d : D} (hx : rd st x = d) (hy : rd st y = d) (h : pl 64 d = true) : dNe st x y = some (.bl false) := by unfold dNe; rw [eqB_same hx hy h]; rfl
theorem eqB_int {st : Sto} {i j : Int} : eqB st (.int i) (.int j) = some (decide (i = j)) := by
  show eqvM (.int i) (.int j) = _
  unfold eqvM
  rw [if_pos (by unfold PyData.depth; omega), PyData.eqv]
  rfl
@[simp] theorem dEq_int {st : Sto} {i j : Int} : dEq st (.int i) (.int j) = some (.bl (decide (i = j))) := by unfold dEq; rw [eqB_int]; rfl
@[simp] theorem dNe_int {st : Sto} {i j : Int} : dNe st (.int i) (.int j) = some (.bl (!decide (i = j))) := by unfold dNe; rw [eqB_int]; rfl

/-! ### loops -/
theorem wForL_inv {t : Tg} {s : WS} {vs : List Nat} {chk : Sto → Prop} {E : WEnds} (I : List D → Env → Sto → Prop) (hc : ∀ ds e st, I ds e st → chk st) (h0 : ∀ e st, I [] e st → E.nx e st)
    (h1 : ∀ d ds e st (N : Env → Sto → Prop), I (d :: ds) e st → (∀ e2 st2, I ds e2 st2 → N e2 st2) → on (asg t d e) fun e1 => s { E with nx := fun e2 st2 => N (fgt vs e2) st2, ct := fun e2 st2 => N (fgt vs e2) st2, bk := E.nx } e1 st) :
    ∀ ds e st, I ds e st → wForL t s vs chk E ds e st
  | [], e, st, h => ⟨hc _ _ _ h, h0 _ _ h⟩
  | d :: ds, e, st, h => ⟨hc _ _ _ h, h1 d ds e st (fun e2 st2 => wForL t s vs chk E ds e2 st2) h fun e2 st2 => wForL_inv I hc h0 h1 ds e2 st2⟩
theorem wForL_typed {α : Type} {enc : α → D} {t : Tg} {s : WS} {vs : List Nat} {chk : Sto → Prop} {E : WEnds} (I : List α → Env → Sto → Prop) (hc : ∀ r e st, I r e st → chk st) (h0 : ∀ e st, I [] e st → E.nx e st)
    (h1 : ∀ x r e st (N : Env → Sto → Prop), I (x :: r) e st → (∀ e2 st2, I r e2 st2 → N e2 st2) → on (asg t (enc x) e) fun e1 => s { E with nx := fun e2 st2 => N (fgt vs e2) st2, ct := fun e2 st2 => N (fgt vs e2) st2, bk := E.nx } e1 st) :
    ∀ l e st, I l e st → wForL t s vs chk E (l.map enc) e st
  | [], e, st, h => ⟨hc _ _ _ h, h0 _ _ h⟩
  | d :: ds, e, st, h => ⟨hc _ _ _ h, h1 d ds e st (fun e2 st2 => wForL t s vs chk E (ds.map enc) e2 st2) h fun e2 st2 => wForL_typed I hc h0 h1 ds e2 st2⟩
/-- a loop each of whose turns leaves the names as they were -/
theorem wForL_same {α : Type} {enc : α → D} {t : Tg} {s : WS} {vs : List Nat} {chk : Sto → Prop} {E : WEnds} {e0 : Env} (hc : ∀ st, chk st) (h0 : ∀ st, E.nx e0 st) :
    ∀ {l : List α} {st : Sto} (_ : ∀ x ∈ l, ∀ st (N : Env → Sto → Prop), (∀ st2, N e0 st2) → on (asg t (enc x) e0) fun e1 => s { E with nx := fun e2 st2 => N (fgt vs e2) st2, ct := fun e2 st2 => N (fgt vs e2) st2, bk := E.nx } e1 st), wForL t s vs chk E (l.map enc) e0 st
  | [], st, _ => ⟨hc _, h0 _⟩
  | x :: l, st, h => ⟨hc _, h x List.mem_cons_self st _ fun st2 => wForL_same hc h0 fun y hy => h y (List.mem_cons_of_mem _ hy)⟩
theorem compL_map {α : Type} {t : Tg} {test : WT} {elt : WE} {chk : Sto → Prop} {e0 : Env} {Q : List D → Sto → Prop} {st : Sto} {enc : α → D} (e1 : α → Env) (p : α → Bool) (g : α → D) :
    ∀ {l : List α} {acc : List D} (_ : ∀ x ∈ l, asg t (enc x) e0 = some (e1 x)) (_ : ∀ x ∈ l, ∀ Q, test (e1 x) st XF Q = Q (p x) st) (_ : ∀ x ∈ l, p x = true → ∀ Q, elt (e1 x) st XF Q = Q (g x) st) (_ : chk st),
      wCompL t test elt chk e0 Q (l.map enc) acc st = Q (acc ++ (l.filter p).map g) st
  | [], acc, _, _, _, hc => by
    show (chk st ∧ Q acc st) = _
    simp [hc]
  | x :: l, acc, ha, ht, he, hc => by
    show (chk st ∧ on (asg t (enc x) e0) fun e1 => test e1 st XF fun b st1 => if b = true then elt e1 st1 XF fun y st2 => wCompL t test elt chk e0 Q (l.map enc) (acc ++ [y]) st2 else wCompL t test elt chk e0 Q (l.map enc) acc st1) = _
    rw [ha x List.mem_cons_self, on_some, ht x List.mem_cons_self]
    have ih := fun acc => compL_map (Q := Q) e1 p g (l := l) (acc := acc) (fun y hy => ha y (List.mem_cons_of_mem _ hy)) (fun y hy => ht y (List.mem_cons_of_mem _ hy)) (fun y hy => he y (List.mem_cons_of_mem _ hy)) hc
    by_cases hp : p x = true
    · rw [if_pos hp, he x List.mem_cons_self hp, ih, List.filter_cons_of_pos hp]
      simp [hc]
    · rw [if_neg hp, ih, List.filter_cons_of_neg hp]
      simp [hc]
theorem compL_imp {α : Type} {t : Tg} {test : WT} {elt : WE} {chk : Sto → Prop} {e0 : Env} {Q : List D → Sto → Prop} {st : Sto} {enc : α → D} (e1 : α → Env) (p : α → Bool) (g : α → D) :
    ∀ {l : List α} {acc : List D} (_ : ∀ x ∈ l, asg t (enc x) e0 = some (e1 x)) (_ : ∀ x ∈ l, ∀ Q : Bool → Sto → Prop, Q (p x) st → test (e1 x) st XF Q) (_ : ∀ x ∈ l, p x = true → ∀ Q : PoE, Q (g x) st → elt (e1 x) st XF Q) (_ : chk st),
      Q (acc ++ (l.filter p).map g) st → wCompL t test elt chk e0 Q (l.map enc) acc st
  | [], acc, _, _, _, hc, q => by
    show (chk st ∧ Q acc st)
    simpa [hc] using q
  | x :: l, acc, ha, ht, he, hc, q => by
    show (chk st ∧ on (asg t (enc x) e0) fun e1 => test e1 st XF fun b st1 => if b = true then elt e1 st1 XF fun y st2 => wCompL t test elt chk e0 Q (l.map enc) (acc ++ [y]) st2 else wCompL t test elt chk e0 Q (l.map enc) acc st1)
    rw [ha x List.mem_cons_self, on_some]
    refine ⟨hc, ht x List.mem_cons_self _ ?_⟩
    have ih := fun acc => compL_imp (Q := Q) e1 p g (l := l) (acc := acc) (fun y hy => ha y (List.mem_cons_of_mem _ hy)) (fun y hy => ht y (List.mem_cons_of_mem _ hy)) (fun y hy => he y (List.mem_cons_of_mem _ hy)) hc
    by_cases hp : p x = true
    · rw [if_pos hp]
      refine he x List.mem_cons_self hp _ (ih _ ?_)
      rw [List.filter_cons_of_pos hp] at q
      simpa using q
    · rw [if_neg hp]
      refine ih _ ?_
      rw [List.filter_cons_of_neg hp] at q
      exact q
section
variable {st : Sto} {d : D} {ds : List D} {g : Addr} {c : Cell}
theorem cellL_set (h : cellL (st a) = some ds) (hg : st g = none) : cellL (st.set g c a) = some ds := by
  have q := cellL_iff.mp h
  rw [Sto.set_ne (fun z => by rw [z, hg] at q; cases q), h]
theorem lsOf_set (h : lsOf st d = some ds) (hg : st g = none) : lsOf (st.set g c) d = some ds := by
  cases d <;> first | exact h | (cases h; done) | exact cellL_set h hg
theorem sqOf_set (h : sqOf st d = some ds) (hg : st g = none) : sqOf (st.set g c) d = some ds := by
  cases d <;> first | exact h | (cases h; done) | exact cellL_set h hg
theorem sqOf_ls (h : lsOf st d = some ds) : sqOf st d = some ds := by
  cases d <;> first | exact h | (cases h; done)
theorem cLen_ls (h : lsOf st d = some ds) : cLen st [d] = some (.int ds.length) := by
  cases d with
  | lst es => cases h; rfl
  | ref a => exact cLen_ref (cellL_iff.mp h)
  | _ => cases h
theorem cSortR_ls {ns : List Int} (h : lsOf st d = some (ns.map D.int)) : cSortR st [d] = some (.lst ((sortI ns).reverse.map .int)) := by
  show ((lsOf st d).bind intsOf).map _ = _
  rw [h]; simp
theorem cMax_ls {n : Int} {ns : List Int} (h : lsOf st d = some ((n :: ns).map D.int)) : cMax st [d] = some (.int (maxL n ns)) := by
  have e : ((lsOf st d).bind intsOf) = some (n :: ns) := by
    rw [h, Option.bind_some, intsOf_map]
  cases d <;> first | (cases h; done) | (show (((lsOf st _).bind intsOf).bind _) = _; rw [e]; rfl)
end
theorem dAdd_lst {st : Sto} {a b : List D} (h : a.length + b.length ≤ sizeLine) : dAdd st (.lst a) (.lst b) = some (.lst (a ++ b)) := by
  show catL a b = _
  unfold catL
  rw [if_pos h]
theorem cutD_to {ds : List D} {n : Int} (h : 0 ≤ n) : DL.cutD ds none (some n) = ds.take n.toNat := by
  have e : HT.sIx ds.length ds.length (some n) = min n.toNat ds.length := by
    unfold HT.sIx
    simp only
    rw [if_neg (by omega)]
  have e0 : HT.sIx ds.length 0 none = 0 := rfl
  unfold DL.cutD
  rw [e, e0]
  simp only [List.drop_zero, Nat.sub_zero]
  rw [List.take_eq_take_iff]
  omega
theorem atI_map {α β : Type} {f : α → β} {l : List α} {i : Int} : atI (l.map f) i = (atI l i).map f := by
  unfold atI
  rw [List.length_map]
  cases ixN l.length i with
  | none => rfl
  | some j => simp
end DL
namespace DL
open PySem PySem.Spec PyProof.Rows L2

/-! ### texts -/
theorem map_inj_of {α β : Type} {f : α → β} (hf : ∀ x y, f x = f y → x = y) : ∀ {a b : List α}, a.map f = b.map f → a = b
  | [], [], _ => rfl
  | [], _ :: _, h => by simp at h
  | _ :: _, [], h => by simp at h
  | x :: a, y :: b, h => by
    simp only [List.map_cons, List.cons.injEq] at h
    rw [hf x y h.1, map_inj_of hf h.2]
theorem ofString_inj {a b : String} : Str.ofString a = Str.ofString b ↔ a = b := by
  constructor
  · intro h
    rw [Str.ofString_eq_toList, Str.ofString_eq_toList] at h
    have h1 := congrArg (fun s : Str => s.cps.toList) h
    simp only at h1
    have h2 : a.toList = b.toList := map_inj_of (fun x y e => Char.toNat_inj.mp e) h1
    exact String.toList_inj.mp h2
  · intro h; rw [h]
theorem eqB_str {st : Sto} {x y : Str} : eqB st (.str x) (.str y) = some (decide (x = y)) := by
  show eqvM (.str x) (.str y) = _
  unfold eqvM
  rw [if_pos (by unfold PyData.depth; omega), PyData.eqv]
  rfl
@[simp] theorem dEq_str {st : Sto} {x y : Str} : dEq st (.str x) (.str y) = some (.bl (decide (x = y))) := by unfold dEq; rw [eqB_str]; rfl
@[simp] theorem dNe_str {st : Sto} {x y : Str} : dNe st (.str x) (.str y) = some (.bl (!decide (x = y))) := by unfold dNe; rw [eqB_str]; rfl

/-! ### where two ways meet -/
theorem wIfS_via {t : WT} {a b : WS} {E : WEnds} {e : Env} {st : Sto} (J : Env → Sto → Prop) (h2 : ∀ N : Env → Sto → Prop, (∀ e st, J e st → N e st) → wIfS t a b { E with nx := N } e st) (h1 : ∀ e st, J e st → E.nx e st) : wIfS t a b E e st := h2 E.nx h1
theorem seq_via {s s' : WS} {E : WEnds} {e : Env} {st : Sto} (J : Env → Sto → Prop) (h2 : ∀ N : Env → Sto → Prop, (∀ e st, J e st → N e st) → s { E with nx := N } e st) (h1 : ∀ e st, J e st → s' E e st) : wSeq s s' E e st := h2 (s' E) h1
/-! ### more loops -/
theorem compL_inv {α : Type} {t : Tg} {test : WT} {elt : WE} {chk : Sto → Prop} {e0 : Env} {Q : List D → Sto → Prop} {enc : α → D} (I : List D → List α → Sto → Prop) (hc : ∀ acc r st, I acc r st → chk st) (h0 : ∀ acc st, I acc [] st → Q acc st)
    (h1 : ∀ x r acc st (N : List D → Sto → Prop), I acc (x :: r) st → (∀ acc' st', I acc' r st' → N acc' st') → on (asg t (enc x) e0) fun e1 => test e1 st XF fun b st1 => if b = true then elt e1 st1 XF fun y st2 => N (acc ++ [y]) st2 else N acc st1) :
    ∀ l acc st, I acc l st → wCompL t test elt chk e0 Q (l.map enc) acc st
  | [], acc, st, h => ⟨hc _ _ _ h, h0 _ _ h⟩
  | x :: l, acc, st, h => ⟨hc _ _ _ h, h1 x l acc st (fun acc st => wCompL t test elt chk e0 Q (l.map enc) acc st) h fun acc' st' => compL_inv I hc h0 h1 l acc' st'⟩
theorem enumL_map {α : Type} {enc : α → D} : ∀ (l : List α) (n : Nat), enumL n (l.map enc) = (l.zipIdx n).map fun p => .tup [.int (p.2 : Nat), enc p.1]
  | [], _ => rfl
  | x :: l, n => by
    show D.tup [.int (n : Nat), enc x] :: enumL (n + 1) (l.map enc) = _
    rw [enumL_map l (n + 1)]; rfl
theorem atI_mem {α : Type} {ds : List α} {i : Int} (h0 : 0 ≤ i) (h1 : i < ds.length) : ∃ d, d ∈ ds ∧ atI ds i = some d := by
  obtain ⟨n, rfl⟩ := Int.eq_ofNat_of_zero_le h0
  have hn : n < ds.length := by omega
  exact ⟨ds[n], List.getElem_mem hn, by rw [atI_N]; exact List.getElem?_eq_getElem hn⟩
theorem atI_isSome {α : Type} {ds : List α} {i : Int} (h0 : 0 ≤ i) (h1 : i < ds.length) (P : α → Prop) (hp : ∀ d ∈ ds, P d) : ∃ d, P d ∧ atI ds i = some d := by
  obtain ⟨d, h, e⟩ := atI_mem h0 h1
  exact ⟨d, hp d h, e⟩
@[simp] theorem dMul_01 {st : Sto} {b : Bool} {j : Int} (h : Mid j) : dMul st (.int (if b = true then 1 else 0)) (.int j) = some (.int (if b = true then j else 0)) := by
  rw [dMul_int (by cases b <;> decide) h]
  cases b <;> simp
theorem dMul_lst {st : Sto} {ds : List D} {k : Int} (h0 : 0 ≤ k) (h1 : k < 2 ^ 63) (h2 : ds.length * k.toNat ≤ sizeLine) : dMul st (.lst ds) (.int k) = some (.lst (List.replicate k.toNat ds).flatten) := by
  show ((lsOf st (.lst ds)).bind fun ds => if 0 ≤ k ∧ k < 2 ^ 63 ∧ ds.length * k.toNat ≤ sizeLine then some (D.lst (List.replicate k.toNat ds).flatten) else none) = _
  rw [lsOf_lst, Option.bind_some, if_pos ⟨h0, h1, h2⟩]
@[simp] theorem cTuple_lst {st : Sto} {ds : List D} : cTuple st [.lst ds] = some (.tup ds) := rfl
@[simp] theorem cTuple_tup {st : Sto} {ds : List D} : cTuple st [.tup ds] = some (.tup ds) := rfl
theorem dAdd_tup {st : Sto} {a b : List D} (h : a.length + b.length ≤ sizeLine) : dAdd st (.tup a) (.tup b) = some (.tup (a ++ b)) := by
  show catT a b = _
  unfold catT
  rw [if_pos h]
theorem maxL_snoc {n : Int} : ∀ {l : List Int} {m : Int}, maxL m (l ++ [n]) = if n > maxL m l then n else maxL m l
  | [], m => rfl
  | x :: l, m => by
    show maxL (if x > m then x else m) (l ++ [n]) = if n > maxL (if x > m then x else m) l then n else maxL (if x > m then x else m) l
    exact maxL_snoc
end DL
namespace DL
open PySem PySem.Spec PyProof.Rows L2

/-! ### list(range(n)), tuple(range(n)) -/
def rgN (d : D) : Option (List D) := match d with
  | .int n => if small62 n = true then some (rangeL 0 n) else none
  | _ => none
def wListRg (m : WE) : WE := fun e st X Q => m e st X fun d st1 => on (rgN d) fun ds => Q (.lst ds) st1
def wListRgR (m : WE) : WE := fun e st X Q => m e st X fun d st1 => on (rgN d) fun ds => ∀ p, st1 p = none → Q (.ref p) (st1.set p (.lst ds))
def wTupRg (m : WE) : WE := fun e st X Q => m e st X fun d st1 => on (rgN d) fun ds => Q (.tup ds) st1
section
variable {e : Env} {st : Sto} {X : PoX} {Q : PoE} {m : WE}
@[simp] theorem wListRg_ap : wListRg m e st X Q = m e st X fun d st1 => on (rgN d) fun ds => Q (.lst ds) st1 := id rfl
@[simp] theorem wListRgR_ap : wListRgR m e st X Q = m e st X fun d st1 => on (rgN d) fun ds => ∀ p, st1 p = none → Q (.ref p) (st1.set p (.lst ds)) := id rfl
@[simp] theorem wTupRg_ap : wTupRg m e st X Q = m e st X fun d st1 => on (rgN d) fun ds => Q (.tup ds) st1 := id rfl
theorem rgN_int {n : Int} (h : -1000 ≤ n) (h' : n ≤ 1000000) : rgN (.int n) = some (rangeL 0 n) := if_pos (by unfold small62; simp; omega)
end
theorem rgN_iff {d : D} {ds : List D} (h : rgN d = some ds) : ∃ n, d = .int n ∧ RgOk 0 n ∧ ds = rangeL 0 n := by
  unfold rgN at h
  split at h
  · split at h <;> cases h
    rename_i n hs
    have := small_iff0 hs
    exact ⟨n, rfl, ⟨by omega, by omega, by omega, by omega, by omega⟩, rfl⟩
  · cases h
theorem rep_rg {K : PySem.W.Frag} {H : Hp} {M : Mu} (a b : Int) : RepL K H M (rangeL a b) (rgV a b) := by
  unfold rangeL rgV
  generalize List.range (b - a).toNat = l
  induction l with
  | nil => exact .nil
  | cons x l ih => exact .cons (.int _) ih
section
variable {X : Cx} {E : XK} {a : Expr} {ma : WE} {pos p p2 : Pos} {pos2 : Pos}
theorem e_listRg (hc : X.calm = true) (fr : Frees X.mg) (ha : PEw X E a ma) (hg : Gl X "list" := by rfl) (hg2 : Gl X "range" := by rfl) (na : starEach [a] X.env = (false, eval a X.env) :: starEach [] X.env := by rfl)
    (nb : starEach [.Call (.Name "range" p2) [a] [] pos2] X.env = (false, eval (.Call (.Name "range" p2) [a] [] pos2) X.env) :: starEach [] X.env := by rfl) :
    PEw X E (.Call (.Name "list" p) [.Call (.Name "range" p2) [a] [] pos2] [] pos) (wListRg ma) :=
  pe_imp (pe_listRg hc hg fr.list (prg_1 hg2 fr.range ha na) nb) fun σ H Q ⟨B, e, st, Qd, Xd, S, pq, px, m⟩ => ⟨B, e, st, _, Xd, S, fun d st1 v H1 m1 x1 k1 r1 => by
    obtain ⟨ds, hd, q⟩ := on_iff.mp m1
    obtain ⟨n, rfl, ok, rfl⟩ := rgN_iff hd
    cases r1
    refine ⟨n, rfl, ok, fun p hp => ?_⟩
    obtain ⟨x2, k2, r2⟩ := new_lst k1 hp (rep_rg 0 n) (by rw [rangeL_len]; exact ok.2.2.2.2)
    exact pq _ st1 _ _ q (x1.trans x2) k2 r2, px, m⟩
theorem e_listRgR (hc : X.calm = true) (fr : Frees X.mg) (ha : PEw X E a ma) (hg : Gl X "list" := by rfl) (hg2 : Gl X "range" := by rfl) (na : starEach [a] X.env = (false, eval a X.env) :: starEach [] X.env := by rfl)
    (nb : starEach [.Call (.Name "range" p2) [a] [] pos2] X.env = (false, eval (.Call (.Name "range" p2) [a] [] pos2) X.env) :: starEach [] X.env := by rfl) :
    PEw X E (.Call (.Name "list" p) [.Call (.Name "range" p2) [a] [] pos2] [] pos) (wListRgR ma) :=
  pe_imp (pe_listRg hc hg fr.list (prg_1 hg2 fr.range ha na) nb) fun σ H Q ⟨B, e, st, Qd, Xd, S, pq, px, m⟩ => ⟨B, e, st, _, Xd, S, fun d st1 v H1 m1 x1 k1 r1 => by
    obtain ⟨ds, hd, q⟩ := on_iff.mp m1
    obtain ⟨n, rfl, ok, rfl⟩ := rgN_iff hd
    cases r1
    refine ⟨n, rfl, ok, fun p hp => ?_⟩
    obtain ⟨k2, x2⟩ := k1.put (c := .lst (rangeL 0 n)) (o := .lst (rgV 0 n)) hp ⟨rep_rg 0 n, by rw [rangeL_len]; exact ok.2.2.2.2⟩
    exact pq _ _ _ _ (q p (k1.none_ hp)) (x1.trans x2) k2 (.ref p), px, m⟩
theorem e_tupRg (hc : X.calm = true) (fr : Frees X.mg) (ha : PEw X E a ma) (hg : Gl X "tuple" := by rfl) (hg2 : Gl X "range" := by rfl) (na : starEach [a] X.env = (false, eval a X.env) :: starEach [] X.env := by rfl)
    (nb : starEach [.Call (.Name "range" p2) [a] [] pos2] X.env = (false, eval (.Call (.Name "range" p2) [a] [] pos2) X.env) :: starEach [] X.env := by rfl) :
    PEw X E (.Call (.Name "tuple" p) [.Call (.Name "range" p2) [a] [] pos2] [] pos) (wTupRg ma) :=
  pe_imp (pe_tupRg hc hg fr.tuple (prg_1 hg2 fr.range ha na) nb) fun σ H Q ⟨B, e, st, Qd, Xd, S, pq, px, m⟩ => ⟨B, e, st, _, Xd, S, fun d st1 v H1 m1 x1 k1 r1 => by
    obtain ⟨ds, hd, q⟩ := on_iff.mp m1
    obtain ⟨n, rfl, ok, rfl⟩ := rgN_iff hd
    cases r1
    refine ⟨n, rfl, ok, fun p hp => ?_⟩
    obtain ⟨x2, k2, r2⟩ := new_tup k1 hp (rep_rg 0 n) (by rw [rangeL_len]; exact ok.2.2.2.2)
    exact pq _ st1 _ _ q (x1.trans x2) k2 r2, px, m⟩
end

/-! ### a def that calls itself: its meaning by the depth -/
def wNever : WS := fun _ _ _ => False
theorem b_never {X : Cx} {E : XK} {ss : List Stmt} : PBw X E ss wNever := ⟨fun pins s σ H Q I h => by
  obtain ⟨_, _, _, _, _, _, z⟩ := h
  exact z.elim⟩

/-! ### a list that no longer changes becomes a value -/
def Sto.del (st : Sto) (a : Addr) : Sto := fun b => if b = a then none else st b
theorem Sto.del_ne {st : Sto} {a b : Addr} (h : b ≠ a) : st.del a b = st b := by unfold Sto.del; rw [if_neg h]
theorem Sto.del_same {st : Sto} {a : Addr} : st.del a a = none := by unfold Sto.del; rw [if_pos rfl]
def frzD (d : D) (st : Sto) : D × Sto := match d with
  | .ref a => match cellL (st a) with
    | some ds => (.lst ds, st.del a)
    | none => (d, st)
  | d => (d, st)
theorem frz_ok {K : PySem.W.Frag} {B : Bz} {H : Hp} {st : Sto} {d : D} {v : V} (k : StoOk K H B st) (r : Rep K H (mu st B) d v) :
    Ext H (mu st B) H (mu (frzD d st).2 B) ∧ StoOk K H B (frzD d st).2 ∧ Rep K H (mu (frzD d st).2 B) (frzD d st).1 v := by
  unfold frzD
  split
  · rename_i a
    split
    · rename_i ds q
      have q := cellL_iff.mp q
      obtain ⟨o, e1, r1⟩ := k.at_ a _ q
      cases o <;> try exact r1.elim
      obtain ⟨k2, x2⟩ := k.drop (st' := st.del a) fun b c e => by
        by_cases z : b = a
        · subst z; rw [Sto.del_same] at e; cases e
        · rw [Sto.del_ne z] at e; exact e
      cases r
      refine ⟨x2, k2, .lst ⟨fun m => ?_, .inl e1⟩ (r1.1.ext x2) r1.2⟩
      rcases m with m | m
      · exact m Sto.del_same
      · have := k.nb _ m
        rw [q] at this; cases this
    · exact ⟨.refl, k, r⟩
  · exact ⟨.refl, k, r⟩
def wFrz (m : WE) : WE := fun e st X Q => m e st X fun d st1 => Q (frzD d st1).1 (frzD d st1).2
@[simp] theorem wFrz_ap {m : WE} {e : Env} {st : Sto} {X : PoX} {Q : PoE} : wFrz m e st X Q = m e st X fun d st1 => Q (frzD d st1).1 (frzD d st1).2 := id rfl
theorem e_frz {X : Cx} {E : XK} {a : Expr} {m : WE} (h : PEw X E a m) : PEw X E a (wFrz m) := pe_imp h fun σ H Q ⟨B, e, st, Qd, Xd, S, pq, px, mm⟩ =>
  ⟨B, e, st, _, Xd, S, fun d st1 v H1 m1 x1 k1 r1 => by
    obtain ⟨x2, k2, r2⟩ := frz_ok k1 r1
    exact pq _ _ v H1 m1 (x1.trans x2) k2 r2, px, mm⟩
theorem frzD_ref {st : Sto} {a : Addr} {ds : List D} (h : st a = some (.lst ds)) : frzD (.ref a) st = (.lst ds, st.del a) := by
  unfold frzD
  simp only
  rw [h]; rfl
theorem keepOnly_del {st st0 : Sto} {a : Addr} (h : st0 a = none) : (st.del a).keepOnly st0 = st.keepOnly st0 := by
  funext b; unfold Sto.keepOnly Sto.del
  by_cases e : b = a
  · subst e; simp [h]
  · simp [e]

/-! ### range(i, j, -1) -/
def rangeDn (i j : Int) : List Int := (List.range (i - j).toNat).map fun (k : Nat) => i - (k : Int)
def downOf : List D → Option (List D)
  | [.int i, .int j, .int k] => if k = -1 ∧ small62 i = true ∧ small62 j = true then some ((rangeDn i j).map .int) else none
  | _ => none
def wiDown (m : WA) : WI := fun e st X Q => m e st X fun ds st1 => on (downOf ds) fun its => Q its (fun _ => True) st1
@[simp] theorem wiDown_ap {m : WA} {e : Env} {st : Sto} {X : PoX} {QI : List D → (Sto → Prop) → Sto → Prop} : wiDown m e st X QI = m e st X fun ds st1 => on (downOf ds) fun its => QI its (fun _ => True) st1 := id rfl
theorem downOf_1 {i j : Int} (h : -1000 ≤ i) (h' : i ≤ 1000000) (h1 : -1000 ≤ j) (h2 : j ≤ 1000000) : downOf [.int i, .int j, .int (-1)] = some ((rangeDn i j).map .int) := if_pos ⟨rfl, by unfold small62; simp; omega, by unfold small62; simp; omega⟩
theorem rangeDn_len (lo hi : Int) : (rangeDn lo hi).length = (lo - hi).toNat := by unfold rangeDn; rw [List.length_map, List.length_range]
theorem itc_ok {K : PySem.W.Frag} {B : Bz} {H1 : Hp} {st1 : Sto} (i j : Int) : ItOk K B H1 st1 (Itc i (-1) (i - j).toNat) ((rangeDn i j).map .int) (fun _ => True) := fun m B' st2 H2 x2 k2 _ hz => by
  rw [List.length_map, rangeDn_len] at hz
  refine ⟨fun e => by rw [List.length_map, rangeDn_len] at e; exact Nat.le_of_eq e.symm, fun d hd => ?_⟩
  have hl : m < (i - j).toNat := by
    have := (List.getElem?_eq_some_iff.mp hd).1
    rw [List.length_map, rangeDn_len] at this
    exact this
  refine ⟨hl, fun x H' y => ?_⟩
  obtain ⟨rfl, rfl⟩ := y
  unfold rangeDn at hd
  rw [List.getElem?_map, List.getElem?_map, List.getElem?_range hl] at hd
  cases hd
  refine ⟨.refl, k2, ?_⟩
  rw [show i + ((m : Nat) : Int) * (-1) = i - (m : Int) by omega]
  exact .int _
section
variable {X : Cx} {E : XK} {tg a b c : Expr} {n : Nat} {m : WA} {p pos : Pos}
theorem i_range3 (hg : Gl X "range") (hm : X.mg "range" = none) (h : PAw X E [a, b, c] n m) (hs : starEach [a, b, c] X.env = (false, eval a X.env) :: starEach [b, c] X.env := by rfl) (hpl : (backTo pos (starEach [b, c] X.env)).any (·.1) = false := by rfl) :
    PIw X E tg (.Call (.Name "range" p) [a, b, c] [] pos) (wiDown m) :=
  pi_imp (pi_range3 hg hm h hs hpl) fun σ H R ⟨B, e, st, Qd, Xd, S, pq, px, mm⟩ => ⟨B, e, st, _, Xd, S, fun ds st1 vs H1 m1 l1 x1 k1 r1 => by
    obtain ⟨its, hi, q⟩ := on_iff.mp m1
    unfold downOf at hi
    split at hi
    · split at hi <;> cases hi
      rename_i i j k hj
      obtain ⟨rfl, hj1, hj2⟩ := hj
      have z1 := small_iff hj1
      have z2 := small_iff hj2
      have z3 := small_iff0 hj1
      have z4 := small_iff0 hj2
      cases r1 with
      | cons r1 r2 =>
        cases r2 with
        | cons r2 r3 =>
          cases r3 with
          | cons r3 r4 =>
            cases r4; cases r1; cases r2; cases r3
            refine ⟨i, j, -1, (i - j).toNat, rfl, RgC.neg z1.1 z1.2 z2.1 z2.2, pq _ _ st1 _ H1 q (by rw [List.length_map, rangeDn_len]; exact Nat.le_trans (show (i - j).toNat ≤ 1001000 by omega) (by decide)) x1 k1 (itc_ok i j)⟩
    · (cases hi), px, mm⟩
end
end DL
namespace DL
open PySem PySem.Spec PyProof.Rows L2

/-! ### is it empty; is it in -/
section
variable {st : Sto} {ds : List D}
theorem toPyL_nil_iff {ps : List PyData} (h : toPyL ds = some ps) : ps.isEmpty = ds.isEmpty := by
  cases ds with
  | nil => unfold toPyL at h; cases h; rfl
  | cons d ds =>
    rw [toPyL] at h
    split at h <;> cases h
    rfl
theorem eqB_lnil (h : plL 63 ds = true) : eqB st (.lst ds) (.lst []) = some ds.isEmpty := by
  obtain ⟨ps, h1, h2, h3⟩ := plL_py h
  unfold eqB
  have e1 : pyOf st (.lst ds) = some (.list ps) := by
    show toPy (.lst ds) = _
    rw [toPy, h1]; rfl
  have e2 : pyOf st (.lst []) = some (.list []) := by
    show toPy (.lst []) = _
    rw [toPy, toPyL]; rfl
  rw [e1, e2]
  show eqvM (.list ps) (.list []) = _
  unfold eqvM
  rw [if_pos (by unfold PyData.depth; omega), PyData.eqv, ← toPyL_nil_iff h1]
  cases ps <;> simp [PyData.eqvAll]
theorem dEq_lnil (h : plL 63 ds = true) : dEq st (.lst ds) (.lst []) = some (.bl ds.isEmpty) := by unfold dEq; rw [eqB_lnil h]; rfl
theorem dNe_lnil (h : plL 63 ds = true) : dNe st (.lst ds) (.lst []) = some (.bl !ds.isEmpty) := by unfold dNe; rw [eqB_lnil h]; rfl
theorem eqB_tnil (h : plL 63 ds = true) : eqB st (.tup ds) (.tup []) = some ds.isEmpty := by
  obtain ⟨ps, h1, h2, h3⟩ := plL_py h
  unfold eqB
  have e1 : pyOf st (.tup ds) = some (.tuple ps) := by
    show toPy (.tup ds) = _
    rw [toPy, h1]; rfl
  have e2 : pyOf st (.tup []) = some (.tuple []) := by
    show toPy (.tup []) = _
    rw [toPy, toPyL]; rfl
  rw [e1, e2]
  show eqvM (.tuple ps) (.tuple []) = _
  unfold eqvM
  rw [if_pos (by unfold PyData.depth; omega), PyData.eqv, ← toPyL_nil_iff h1]
  cases ps <;> simp [PyData.eqvAll]
theorem dEq_tnil (h : plL 63 ds = true) : dEq st (.tup ds) (.tup []) = some (.bl ds.isEmpty) := by unfold dEq; rw [eqB_tnil h]; rfl
theorem dNe_tnil (h : plL 63 ds = true) : dNe st (.tup ds) (.tup []) = some (.bl !ds.isEmpty) := by unfold dNe; rw [eqB_tnil h]; rfl
theorem toPyL_ints : ∀ {ns : List Int}, toPyL (ns.map D.int) = some (ns.map PyData.int)
  | [] => by rw [List.map_nil, toPyL]; rfl
  | n :: ns => by rw [List.map_cons, toPyL, toPyL_ints, toPy]; rfl
theorem anyEq_int {x : Int} {ns : List Int} : anyEq st (ns.map D.int) (.int x) = some (decide (x ∈ ns)) := by
  unfold anyEq
  rw [toPyL_ints]
  show (if PyData.depth (.int x) ≤ 60 then some ((ns.map PyData.int).any fun z => PyData.eqv z (.int x)) else none) = _
  rw [if_pos (by unfold PyData.depth; omega)]
  congr 1
  rw [List.any_map, Bool.eq_iff_iff, decide_eq_true_iff]
  simp only [List.any_eq_true, Function.comp]
  constructor
  · rintro ⟨y, hy, e⟩
    rw [PyData.eqv] at e
    have : y = x := by simpa using e
    exact this ▸ hy
  · intro h
    exact ⟨x, h, by rw [PyData.eqv]; simp⟩
@[simp] theorem dIn_ints_lst {x : Int} {ns : List Int} : dIn st (.int x) (.lst (ns.map D.int)) = some (.bl (decide (x ∈ ns))) := by
  show (inB st (.int x) (.lst (ns.map D.int))).map D.bl = _
  show (anyEq st (ns.map D.int) (.int x)).map D.bl = _
  rw [anyEq_int]; rfl
@[simp] theorem dNotIn_ints_lst {x : Int} {ns : List Int} : dNotIn st (.int x) (.lst (ns.map D.int)) = some (.bl (!decide (x ∈ ns))) := by
  show (anyEq st (ns.map D.int) (.int x)).map (fun b => D.bl (!b)) = _
  rw [anyEq_int]; rfl
@[simp] theorem dIn_ints_tup {x : Int} {ns : List Int} : dIn st (.int x) (.tup (ns.map D.int)) = some (.bl (decide (x ∈ ns))) := by
  show (anyEq st (ns.map D.int) (.int x)).map D.bl = _
  rw [anyEq_int]; rfl
@[simp] theorem dNotIn_ints_tup {x : Int} {ns : List Int} : dNotIn st (.int x) (.tup (ns.map D.int)) = some (.bl (!decide (x ∈ ns))) := by
  show (anyEq st (ns.map D.int) (.int x)).map (fun b => D.bl (!b)) = _
  rw [anyEq_int]; rfl
theorem mPopAt_ref {a : Addr} {i : Int} {d : D} (h : st a = some (.lst ds)) (h0 : 0 ≤ i) (h2 : i < 2 ^ 63) (hd : ds[i.toNat]? = some d) : mPopAt st (.ref a) [.int i] = some (d, st.set a (.lst (ds.eraseIdx i.toNat))) := by
  unfold mPopAt
  simp only
  rw [h, cellL_lst, Option.bind_some, if_pos ⟨by omega, h2⟩]
  have hl := (List.getElem?_eq_some_iff.mp hd).1
  have e : seqIndex? i ds.length = some i.toNat := by
    unfold seqIndex?
    simp
    omega
  rw [e, Option.bind_some, hd]; rfl
@[simp] theorem dRev_lst : dRev st (.lst ds) = some (.lst ds.reverse) := rfl
theorem cSortI_ls {d : D} {ns : List Int} (h : lsOf st d = some (ns.map D.int)) : cSortI st [d] = some (.lst ((sortI ns).map .int)) := by
  show ((lsOf st d).bind intsOf).map _ = _
  rw [h]; simp
theorem sIx_to {n d : Nat} {i : Int} (h0 : 0 ≤ i) : HT.sIx n d (some i) = min i.toNat n := by
  unfold HT.sIx
  simp only
  rw [if_neg (by omega)]
theorem cutD_from {i : Int} (h : 0 ≤ i) : DL.cutD ds (some i) none = ds.drop i.toNat := by
  have e1 : HT.sIx ds.length ds.length none = ds.length := rfl
  unfold DL.cutD
  rw [sIx_to h, e1, List.take_of_length_le (by rw [List.length_drop]; omega)]
  by_cases hi : i.toNat ≤ ds.length
  · rw [Nat.min_eq_left hi]
  · rw [Nat.min_eq_right (by omega), List.drop_eq_nil_of_le (by omega), List.drop_eq_nil_of_le (by omega)]
end
end DL
namespace DL
open PySem PySem.Spec PyProof.Rows L2

/-! ### tuples of numbers, texts, None -/
inductive At where
  | i (k : Int) | s (x : Str) | no
  deriving DecidableEq
def At.d : At → D
  | .i k => .int k
  | .s x => .str x
  | .no => .non
def At.p : At → PyData
  | .i k => .int k
  | .s x => .str x
  | .no => .none
def At.t (l : List At) : D := .tup (l.map At.d)
theorem toPy_at (a : At) : toPy a.d = some a.p := by cases a <;> (unfold At.d; rw [toPy]; rfl)
theorem toPyL_at : ∀ l : List At, toPyL (l.map At.d) = some (l.map At.p)
  | [] => by rw [List.map_nil, toPyL]; rfl
  | a :: l => by rw [List.map_cons, toPyL, toPy_at, toPyL_at l]; rfl
theorem eqv_at (a b : At) : PyData.eqv a.p b.p = decide (a = b) := by
  cases a <;> cases b <;> (unfold At.p; rw [PyData.eqv]) <;> simp <;> rfl
theorem eqvAll_at : ∀ l m : List At, PyData.eqvAll (l.map At.p) (m.map At.p) = decide (l = m)
  | [], [] => by rw [List.map_nil, PyData.eqvAll]; rfl
  | [], _ :: _ => by rw [List.map_nil, List.map_cons, PyData.eqvAll]; simp
  | _ :: _, [] => by rw [List.map_nil, List.map_cons, PyData.eqvAll]; simp
  | a :: l, b :: m => by
    rw [List.map_cons, List.map_cons, PyData.eqvAll, eqv_at, eqvAll_at l m]
    simp [Bool.decide_and]
theorem depth_at (a : At) : a.p.depth = 0 := by cases a <;> (unfold At.p; rw [PyData.depth])
theorem depthAll_at : ∀ l : List At, PyData.depthAll (l.map At.p) = 0
  | [] => by rw [List.map_nil, PyData.depthAll]
  | a :: l => by rw [List.map_cons, PyData.depthAll, depth_at, depthAll_at l]; rfl
theorem toPy_t (l : List At) : toPy (At.t l) = some (.tuple (l.map At.p)) := by unfold At.t; rw [toPy, toPyL_at]; rfl
theorem eqB_t {st : Sto} {l m : List At} : eqB st (At.t l) (At.t m) = some (decide (l = m)) := by
  unfold eqB
  rw [show pyOf st (At.t l) = some (.tuple (l.map At.p)) from toPy_t l, show pyOf st (At.t m) = some (.tuple (m.map At.p)) from toPy_t m]
  show eqvM _ _ = _
  unfold eqvM
  rw [if_pos (by rw [PyData.depth, depthAll_at]; omega), PyData.eqv, eqvAll_at]
theorem dEq_t {st : Sto} {x y : D} (l m : List At) (hx : x = At.t l) (hy : y = At.t m) : dEq st x y = some (.bl (decide (l = m))) := by subst hx hy; unfold dEq; rw [eqB_t]; rfl
theorem dNe_t {st : Sto} {x y : D} (l m : List At) (hx : x = At.t l) (hy : y = At.t m) : dNe st x y = some (.bl (!decide (l = m))) := by subst hx hy; unfold dNe; rw [eqB_t]; rfl
theorem toPyL_ts : ∀ ls : List (List At), toPyL (ls.map At.t) = some (ls.map fun l => .tuple (l.map At.p))
  | [] => by rw [List.map_nil, toPyL]; rfl
  | l :: ls => by rw [List.map_cons, toPyL, toPy_t, toPyL_ts ls]; rfl
theorem anyEq_t {st : Sto} {l : List At} {ls : List (List At)} : anyEq st (ls.map At.t) (At.t l) = some (decide (l ∈ ls)) := by
  unfold anyEq
  rw [toPyL_ts, show pyOf st (At.t l) = some (.tuple (l.map At.p)) from toPy_t l]
  show (if PyData.depth (.tuple (l.map At.p)) ≤ 60 then some ((ls.map fun l => PyData.tuple (l.map At.p)).any fun z => PyData.eqv z (.tuple (l.map At.p))) else none) = _
  rw [if_pos (by rw [PyData.depth, depthAll_at]; omega)]
  congr 1
  rw [List.any_map, Bool.eq_iff_iff, decide_eq_true_iff]
  simp only [List.any_eq_true, Function.comp]
  constructor
  · rintro ⟨y, hy, e⟩
    rw [PyData.eqv, eqvAll_at] at e
    have : y = l := by simpa using e
    exact this ▸ hy
  · intro h
    exact ⟨l, h, by rw [PyData.eqv, eqvAll_at]; simp⟩
theorem dIn_t {st : Sto} {x y : D} {l : List At} {ls : List (List At)} (hx : x = At.t l) (hy : y = .tup (ls.map At.t)) : dIn st x y = some (.bl (decide (l ∈ ls))) := by
  subst hx hy
  show (inB st (At.t l) (.tup (ls.map At.t))).map D.bl = _
  show (anyEq st (ls.map At.t) (At.t l)).map D.bl = _
  rw [anyEq_t]; rfl
@[simp] theorem dIs_non {st : Sto} {x : D} : dIs st x .non = some (.bl (isN x)) := rfl
@[simp] theorem dIsNot_non {st : Sto} {x : D} : dIsNot st x .non = some (.bl (!isN x)) := rfl
@[simp] theorem isN_non : isN .non = true := rfl
@[simp] theorem isN_tup {ds : List D} : isN (.tup ds) = false := rfl
@[simp] theorem isN_int {i : Int} : isN (.int i) = false := rfl
@[simp] theorem isN_str {i : Str} : isN (.str i) = false := rfl
theorem cutD_to_n {ds : List D} {n : Nat} : DL.cutD ds none (some (n : Int)) = ds.take n := by rw [cutD_to (by omega)]; rfl
theorem cutD_from_n {ds : List D} {n : Nat} : DL.cutD ds (some (n : Int)) none = ds.drop n := by rw [cutD_from (by omega)]; rfl
end DL
namespace DL
open PySem PySem.Spec PyProof.Rows L2

/-! ### sorted(d.items()) of a dict of ints by ints -/
section
variable {X : Cx}
def rItemsK : V → List V → Hp → VK → Prop := fun x xs H Q => ∃ (a : Addr) (kvs : List (L2.Key × V)), x = .ref a ∧ xs = [] ∧ H a = some (.dK kvs) ∧ ∀ p, H p = none → Q (.ref p) (upd H p (L2.DX.itemsO p a))
theorem mt_itemsK : MtR X "dict.items" rItemsK := by
  intro pins s σ H x xs v us Q I rx rxs h
  obtain ⟨a, kvs, rfl, rfl, ha, q⟩ := h
  cases rx
  cases rxs
  obtain ⟨z, hd, vs, rel, o, es, ep, ho, hx, hdat, _⟩ := dk_of I.hok ha
  refine DT.callItems (es := es) (ep := ep) hd ⟨o, ho, hx, hdat⟩ ?_
  have hf : H s.heap.objs.size = none := I.hok.fresh (Nat.le_refl _)
  exact ⟨.ref s.heap.objs.size, upd H s.heap.objs.size (L2.DX.itemsO s.heap.objs.size a), I.laid (t' := s.toks) (fun b u e => Heap.get?_push_of_some _ e) (Nat.le_refl _) (L2.DX.itemsO_ok (Heap.get?_push_size _ rfl)), rfl, q _ hf⟩
theorem pairs_get {prog : Program} {w : World} {K : Type} [DecidableEq K] {knd : KeyKind prog w K} : ∀ {es : List DictEntry} {kvs : List (K × Value)} {j : Nat} {e : DictEntry}, Pairs knd es kvs → es[j]? = some e → ∃ kv, kvs[j]? = some kv ∧ knd.is kv.1 e.key = true ∧ e.val = kv.2
  | _, _, j, e, .nil, h => by simp at h
  | _, _, 0, e, .cons h1 h2 _, h => by
    simp at h; subst h
    exact ⟨_, rfl, h1, h2⟩
  | _, _, j + 1, e, .cons _ _ t, h => by
    obtain ⟨kv, h1, h2⟩ := pairs_get (j := j) t (by simpa using h)
    exact ⟨kv, by simpa using h1, h2⟩
theorem paired_map {α β : Type} {F : α → β → Prop} {f : α → β} : ∀ {l : List α}, (∀ b ∈ l, F b (f b)) → Paired F l (l.map f)
  | [], _ => .nil
  | b :: l, h => .cons (h b List.mem_cons_self) (paired_map fun c hc => h c (List.mem_cons_of_mem _ hc))
def kOf (h : Heap) (v : Value) : Int × Int := match v with
  | .ref a => match h.get? a with
    | some o => match o.data with
      | .seq xs _ => (SrtO.iv (xs.getD 0 .none), SrtO.iv (xs.getD 1 .none))
      | _ => (0, 0)
    | none => (0, 0)
  | _ => (0, 0)
theorem kOf_at {h : Heap} {b : Addr} {o : Obj} {x y : Int} {t u : Tok} {n : Nat} (e : h.get? b = some o) (d : o.data = .seq #[.int x t, .int y u] n) : kOf h (.ref b) = (x, y) := by
  unfold kOf
  simp only [e, d]
  rfl
def adr : Value → Addr
  | .ref a => a
  | _ => 0
def rSortItI : List V → Hp → VK → Prop := fun vs H Q => ∃ (p a : Addr) (ks : List (Int × Int)), vs = [.ref p] ∧ H p = some (L2.DX.itemsO p a) ∧ H a = some (.dK (ks.map fun q => ((Sum.inl q.1 : L2.Key), V.int q.2))) ∧
  ∀ (H' : Hp) (l : Addr) (ts : List Addr) (zs : List (Int × Int)), (∀ b o, H b = some o → H' b = some o) → H l = none → (∀ t ∈ ts, H t = none) → l ∉ ts → zs.Perm ks → zs.Pairwise (fun x y => SrtO.lexB y x = false) → H' l = some (.lst (ts.map V.ref)) →
    Paired (fun (t : Addr) (z : Int × Int) => H' t = some (.tup [.int z.1, .int z.2])) ts zs → Q (.ref l) H'
theorem cr_sortedItemsI (hc : X.calm = true) : CallR X (.builtin "sorted") rSortItI := by
  intro pins s σ H xs us Q I r h
  obtain ⟨p, a, ks, rfl, hp, ha, q⟩ := h
  obtain rfl := Vals.ref1 r
  have view : s.heap.IsItemsView p a := (show ObjOk X.prog X.w H s.heap p (L2.DX.itemsO p a) from I.hok p _ hp).1
  obtain ⟨z, hd, vs, rel, o, es, ep, ho, hx, hdat, hks, hpr, hn⟩ := dk_of I.hok ha
  have l1 : (ks.map fun q => ((Sum.inl q.1 : L2.Key), V.int q.2)).length = vs.length := Paired.length rel
  rw [List.length_map] at l1
  rw [List.length_map] at z
  have l2 : es.size = vs.length := by rw [← hpr.length]; simp
  have hh : X.A.handled = none := I.ok.hd hc
  refine DT.sortedI (es := es) (ep := ep) hh view ⟨o, ho, hx, hdat⟩ (by omega) fun h' tk as hk hlt hl hG => ?_
  have lak : as.length = ks.length := by omega
  have nd : as.Nodup := List.Pairwise.imp (fun h => Nat.ne_of_lt h) hG.rise
  have pr : ∀ (j : Nat) (b : Addr), as[j]? = some b → ∃ (e : Int × Int) (t u : Tok), ks[j]? = some e ∧ h'.get? b = some { cls := .type "tuple", data := .seq #[Value.int e.1 t, Value.int e.2 u] } := by
    intro j b hj
    obtain ⟨en, he, hg⟩ := hG.pairs j b hj
    obtain ⟨kv, e1, e2, e3⟩ := pairs_get hpr (show es.toList[j]? = some en by rw [Array.getElem?_toList]; exact he)
    obtain ⟨y, e4, e5, e6⟩ := L2.DX.pget rel e1
    rw [List.getElem?_map] at e4
    cases hq : ks[j]? with
    | none => rw [hq] at e4; cases e4
    | some w =>
      rw [hq] at e4
      cases e4
      obtain ⟨u, e7⟩ := e6
      rw [← e5] at e2
      rcases keyIs_shape (show keyIs (Sum.inl w.1) en.key = true from e2) with ⟨i, t, ek, ev⟩ | ⟨z, t, ek, ev⟩
      · cases ek
        exact ⟨w, t, u, rfl, by rw [hg, ev, e3, e7]⟩
      · cases ek
  have hob : (h'.push { cls := .type "list", data := .seq (as.map Value.ref).toArray }).get? h'.objs.size = some (seqObj "list" (as.map Value.ref).toArray 0) := Heap.get?_push_size _ rfl
  have kb : ∀ b o, s.heap.get? b = some o → (h'.push { cls := .type "list", data := .seq (as.map Value.ref).toArray }).get? b = some o := fun b o e => Heap.get?_push_of_some _ (hk b o e)
  have ne0 : ∀ b o, h'.get? b = some o → b ≠ h'.objs.size := fun b o e => Nat.ne_of_lt (Heap.lt_size e)
  generalize hh2 : h'.push { cls := .type "list", data := .seq (as.map Value.ref).toArray } = h2 at hob kb ⊢
  have ka : ∀ b o, h'.get? b = some o → h2.get? b = some o := fun b o e => by rw [← hh2]; exact Heap.get?_push_of_some _ e
  have kat : ∀ (j : Nat) (b : Addr), as[j]? = some b → ks[j]? = some (kOf h2 (.ref b)) := fun j b hj => by
    obtain ⟨e, t, u, e1, e2⟩ := pr j b hj
    rw [e1, kOf_at (ka _ _ e2) rfl]
  have hpair : ∀ v ∈ as.map Value.ref, Srt.IsPair h2 v (kOf h2 v).1 (kOf h2 v).2 := fun v hv => by
    obtain ⟨b, hb, rfl⟩ := List.mem_map.mp hv
    obtain ⟨j, hj⟩ := List.mem_iff_getElem?.mp hb
    obtain ⟨e, t, u, e1, e2⟩ := pr j b hj
    rw [kOf_at (ka _ _ e2) rfl]
    exact ⟨b, _, t, u, 0, rfl, ka _ _ e2, rfl, rfl⟩
  refine wpAny_call_entry PyProof.Rows.slot_list_sort ⟨_, hob, rfl⟩ PyProof.Rows.entry_list_sort
    (SrtO.list_sort_ord (s := { s with heap := h2, toks := tk }) (SrtO.swo_lex (kOf h2)) hob (by rw [List.length_map]; omega) (fun h2' => SrtO.pairs_sortableO (by omega) hpair fun o e => ?_) fun out o1 o2 => ⟨.none, rfl, ?_⟩) (PyProof.Rows.args_list_sort _)
  · have e' : some o = some (seqObj "list" (as.map Value.ref).toArray 0) := e.symm.trans hob
    cases e'
    intro c
    exact absurd (Value.type.inj c) (by decide)
  · have perm := o2.perm
    have refs : ∀ v ∈ out, v = Value.ref (adr v) ∧ adr v ∈ as := fun v hv => by
      obtain ⟨b, hb, rfl⟩ := List.mem_map.mp (perm.mem_iff.mp hv)
      exact ⟨rfl, hb⟩
    have eout : (out.map adr).map Value.ref = out := by
      rw [List.map_map]
      exact (List.map_congr_left fun v hv => (refs v hv).1.symm).trans (List.map_id out)
    have hks2 : (as.map Value.ref).map (kOf h2) = ks := by
      refine List.ext_getElem? fun j => ?_
      rw [List.getElem?_map, List.getElem?_map]
      cases hj : as[j]? with
      | none =>
        have : ks[j]? = none := List.getElem?_eq_none (by rw [← lak]; exact List.getElem?_eq_none_iff.mp hj)
        rw [this]; rfl
      | some b => rw [kat j b hj]; rfl
    have zperm : (out.map (kOf h2)).Perm ks := by
      have := perm.map (kOf h2)
      rw [hks2] at this
      exact this
    have zsort : (out.map (kOf h2)).Pairwise (fun x y => SrtO.lexB y x = false) := List.pairwise_map.mpr o1
    have tsnd : (out.map adr).Nodup := by
      have h3 := perm.map adr
      have e : (as.map Value.ref).map adr = as := by rw [List.map_map]; exact List.map_id as
      rw [e] at h3
      exact h3.nodup_iff.mpr nd
    have tsin : ∀ t ∈ out.map adr, t ∈ as := fun t ht => by
      obtain ⟨v, hv, rfl⟩ := List.mem_map.mp ht
      exact (refs v hv).2
    show EP X pins σ Q (.ref h'.objs.size) { s with heap := sortedHeap h2 h'.objs.size (as.map Value.ref) out.toArray, toks := tk }
    have kF : ∀ b o, b ≠ h'.objs.size → h2.get? b = some o → (sortedHeap h2 h'.objs.size (as.map Value.ref) out.toArray).get? b = some o := fun b o hb e => (PyProof.Rows.sortedHeap_old hb (Heap.lt_size e)).trans e
    have kS : ∀ b o, s.heap.get? b = some o → (sortedHeap h2 h'.objs.size (as.map Value.ref) out.toArray).get? b = some o := fun b o e => kF b o (ne0 _ _ (hk b o e)) (kb b o e)
    obtain ⟨eF, heF⟩ := PyProof.Rows.sortedHeap_at (vs := as.map Value.ref) (out := out.toArray) hob
    have I1 : Inv X pins σ H { s with heap := sortedHeap h2 h'.objs.size (as.map Value.ref) out.toArray, toks := tk } := I.kept (t' := tk) kS
    have hn0 : H h'.objs.size = none := I.hok.fresh (Nat.le_of_lt hlt)
    have hlen : ((out.map adr).map V.ref).length ≤ sizeLine := by
      have e := perm.length_eq
      rw [List.length_map] at e
      rw [List.length_map, List.length_map]
      omega
    have rv : Vals ((out.map adr).map V.ref) out := by
      have := LiI.vals_refs (out.map adr)
      rw [eout] at this
      exact this
    have I2 : Inv X pins σ (upd H h'.objs.size (.lst ((out.map adr).map V.ref))) { s with heap := sortedHeap h2 h'.objs.size (as.map Value.ref) out.toArray, toks := tk } :=
      I1.take (h' := sortedHeap h2 h'.objs.size (as.map Value.ref) out.toArray) (t' := tk) (fun b ob _ e => e) (I.fpOk (Nat.le_of_lt hlt) hn0) ⟨hlen, out, eF, rv, heF⟩
    obtain ⟨H2, I3, g, qt⟩ := L2.DX.takeT (P := fun b vs => vs = [V.int (kOf h2 (.ref b)).1, V.int (kOf h2 (.ref b)).2]) I (out.map adr) _ I2 tsnd fun b hb => by
      obtain ⟨j, hj⟩ := List.mem_iff_getElem?.mp (tsin b hb)
      obtain ⟨e, t, u, e1, e2⟩ := pr j b hj
      have hbl : s.heap.objs.size ≤ b := Nat.le_of_lt (hG.above b (tsin b hb))
      rw [kOf_at (ka _ _ e2) rfl]
      refine ⟨hbl, ?_, _, rfl, fun H3 => ⟨(by show 2 ≤ sizeLine; decide), [Value.int e.1 t, Value.int e.2 u], .cons ⟨t, rfl⟩ (.cons ⟨u, rfl⟩ .nil), ⟨_, kF _ _ (ne0 _ _ e2) (ka _ _ e2), rfl, 0, rfl⟩⟩⟩
      rw [upd_ne (ne0 _ _ e2)]
      exact I.hok.fresh hbl
    have gr : ∀ b o, H b = some o → H2 b = some o := fun b o e => g b o (by rw [upd_ne (ne_of_none e hn0)]; exact e)
    have ezs : out.map (kOf h2) = (out.map adr).map fun b => kOf h2 (.ref b) := by
      rw [List.map_map]
      exact List.map_congr_left fun v hv => by
        show kOf h2 v = kOf h2 (.ref (adr v))
        rw [← (refs v hv).1]
    refine ⟨.ref h'.objs.size, H2, I3, rfl, q H2 h'.objs.size (out.map adr) (out.map (kOf h2)) gr hn0 (fun t ht => I.hok.fresh (Nat.le_of_lt (hG.above t (tsin t ht)))) (fun hm => ?_) zperm zsort (g _ _ upd_same) ?_⟩
    · obtain ⟨j, hj⟩ := List.mem_iff_getElem?.mp (tsin _ hm)
      obtain ⟨e, t, u, e1, e2⟩ := pr j _ hj
      exact ne0 _ _ e2 rfl
    · rw [ezs]
      exact paired_map fun b hb => by
        obtain ⟨vs, rfl, e⟩ := qt b hb
        exact e
end

/-! ### in the store -/
def itemsI : List (L2.Key × D) → Option (List (Int × Int))
  | [] => some []
  | (.inl k, .int v) :: r => (itemsI r).map ((k, v) :: ·)
  | _ => none
def itemsOf (st : Sto) (d : D) : Option (List (Int × Int)) := match d with
  | .ref a => (cellKV (st a)).bind itemsI
  | _ => none
def keysI : List (L2.Key × D) → Option (List Int)
  | [] => some []
  | (.inl k, _) :: r => (keysI r).map (k :: ·)
  | _ => none
def keysOfD (st : Sto) (d : D) : Option (List Int) := match d with
  | .ref a => (cellKV (st a)).bind keysI
  | _ => none
def insP (n : Int × Int) : List (Int × Int) → List (Int × Int)
  | [] => [n]
  | m :: r => if SrtO.lexB m n = false then n :: m :: r else m :: insP n r
def sortP : List (Int × Int) → List (Int × Int)
  | [] => []
  | n :: r => insP n (sortP r)
theorem insP_perm (n : Int × Int) : ∀ r, (insP n r).Perm (n :: r)
  | [] => .refl _
  | m :: r => by
    unfold insP
    split
    · exact .refl _
    · exact ((insP_perm n r).cons m).trans (.swap n m r)
theorem sortP_perm : ∀ r, (sortP r).Perm r
  | [] => .refl _
  | n :: r => (insP_perm n (sortP r)).trans ((sortP_perm r).cons n)
abbrev leP (x y : Int × Int) : Prop := SrtO.lexB y x = false
theorem leP_trans {x y z : Int × Int} (h1 : leP x y) (h2 : leP y z) : leP x z := by
  have a := SrtO.lexB_no.mp h1
  have b := SrtO.lexB_no.mp h2
  exact SrtO.lexB_no.mpr (by omega)
theorem leP_anti {x y : Int × Int} (h1 : leP x y) (h2 : leP y x) : x = y := by
  have a := SrtO.lexB_no.mp h1
  have b := SrtO.lexB_no.mp h2
  exact Prod.ext (by omega) (by omega)
theorem insP_srt (n : Int × Int) : ∀ r : List (Int × Int), r.Pairwise leP → (insP n r).Pairwise leP
  | [], _ => by simp [insP]
  | m :: r, h => by
    obtain ⟨h1, h2⟩ := List.pairwise_cons.mp h
    unfold insP
    split
    · rename_i le
      refine List.pairwise_cons.mpr ⟨fun x hx => ?_, h⟩
      rcases List.mem_cons.mp hx with rfl | hx
      · exact le
      · exact leP_trans le (h1 x hx)
    · rename_i le
      refine List.pairwise_cons.mpr ⟨fun x hx => ?_, insP_srt n r h2⟩
      rcases List.mem_cons.mp ((insP_perm n r).mem_iff.mp hx) with rfl | hx
      · have le : SrtO.lexB m x = true := by simpa using le
        have := SrtO.lexB_iff.mp le
        exact SrtO.lexB_no.mpr (by omega)
      · exact h1 x hx
theorem sortP_srt : ∀ r, (sortP r).Pairwise leP
  | [] => .nil
  | n :: r => insP_srt n _ (sortP_srt r)
theorem sortP_is {a ns : List (Int × Int)} (hp : a.Perm ns) (ha : a.Pairwise leP) : a = sortP ns :=
  (hp.trans (sortP_perm ns).symm).eq_of_pairwise (fun x y _ _ h1 h2 => leP_anti h1 h2) ha (sortP_srt ns)
def pairD (z : Int × Int) : D := .tup [.int z.1, .int z.2]
def wSortIt (m : WE) : WE := fun e st X Q => m e st X fun d st1 => on (itemsOf st1 d) fun ks => ks.length ≤ sizeLine ∧ Q (.lst ((sortP ks).map pairD)) st1
@[simp] theorem wSortIt_ap {m : WE} {e : Env} {st : Sto} {X : PoX} {Q : PoE} : wSortIt m e st X Q = m e st X fun d st1 => on (itemsOf st1 d) fun ks => ks.length ≤ sizeLine ∧ Q (.lst ((sortP ks).map pairD)) st1 := id rfl
theorem itemsI_rep {K : PySem.W.Frag} {H : Hp} {M : Mu} : ∀ {kvs : List (L2.Key × D)} {ws : List (L2.Key × V)} {ks : List (Int × Int)}, itemsI kvs = some ks → ws.map (·.1) = kvs.map (·.1) → RepL K H M (kvs.map (·.2)) (ws.map (·.2)) →
    ws = ks.map fun q => ((Sum.inl q.1 : L2.Key), V.int q.2)
  | [], ws, ks, h, e, _ => by
    cases h
    cases ws with
    | nil => rfl
    | cons _ _ => simp at e
  | (.inl k, .int v) :: r, ws, ks, h, e, rr => by
    unfold itemsI at h
    obtain ⟨ks', h1, rfl⟩ := Option.map_eq_some_iff.mp h
    cases ws with
    | nil => simp at e
    | cons p ws =>
      obtain ⟨p1, p2⟩ := p
      simp only [List.map_cons, List.cons.injEq] at e
      rw [List.map_cons, List.map_cons] at rr
      cases rr with
      | cons r1 r2 =>
        cases r1
        rw [itemsI_rep h1 e.2 r2, List.map_cons]
        cases e.1
        rfl
  | (.inr _, _) :: _, _, _, h, _, _ => by unfold itemsI at h; cases h
  | (.inl _, .non) :: _, _, _, h, _, _ => by unfold itemsI at h; cases h
  | (.inl _, .bl _) :: _, _, _, h, _, _ => by unfold itemsI at h; cases h
  | (.inl _, .str _) :: _, _, _, h, _, _ => by unfold itemsI at h; cases h
  | (.inl _, .tup _) :: _, _, _, h, _, _ => by unfold itemsI at h; cases h
  | (.inl _, .lst _) :: _, _, _, h, _, _ => by unfold itemsI at h; cases h
  | (.inl _, .kt _) :: _, _, _, h, _, _ => by unfold itemsI at h; cases h
  | (.inl _, .kl _) :: _, _, _, h, _, _ => by unfold itemsI at h; cases h
  | (.inl _, .ref _) :: _, _, _, h, _, _ => by unfold itemsI at h; cases h
  | (.inl _, .ty _) :: _, _, _, h, _, _ => by unfold itemsI at h; cases h
end DL
namespace DL
open PySem PySem.Spec PyProof.Rows L2

/-! ### new dicts, get, sorted(items) -/
def wDictR : WE := fun _ st _ Q => ∀ p, st p = none → Q (.ref p) (st.set p (.dk []))
@[simp] theorem wDictR_ap {e : Env} {st : Sto} {X : PoX} {Q : PoE} : wDictR e st X Q = ∀ p, st p = none → Q (.ref p) (st.set p (.dk [])) := id rfl
def isDct : Option Cell → Bool
  | some (.dk _) => true
  | some (.dt _) => true
  | _ => false
def dctOf (st : Sto) : D → Option Addr
  | .ref a => if isDct (st a) = true then some a else none
  | _ => none
def wGet2 (o k x : WE) : WE := fun e st X Q => o e st X fun d st1 => on (dctOf st1 d) fun a => k e st1 X fun y st2 => x e st2 X fun z st3 => on (dctGet (st3 a) y) fun r => Q (r.getD z) st3
@[simp] theorem wGet2_ap {o k x : WE} {e : Env} {st : Sto} {X : PoX} {Q : PoE} : wGet2 o k x e st X Q = o e st X fun d st1 => on (dctOf st1 d) fun a => k e st1 X fun y st2 => x e st2 X fun z st3 => on (dctGet (st3 a) y) fun r => Q (r.getD z) st3 := id rfl
theorem dctOf_ok {K : PySem.W.Frag} {B : Bz} {H : Hp} {st : Sto} {d : D} {v : V} {a : Addr} (k : StoOk K H B st) (r : Rep K H (mu st B) d v) (e : dctOf st d = some a) : d = .ref a ∧ v = .ref a ∧ IsD H a := by
  unfold dctOf at e
  split at e
  · split at e <;> cases e
    rename_i hd
    cases r
    refine ⟨rfl, rfl, ?_⟩
    unfold isDct at hd
    split at hd
    · rename_i kvs q
      obtain ⟨o, e1, r1⟩ := k.at_ _ _ q
      cases o <;> try exact r1.elim
      exact .inl ⟨_, .inl e1⟩
    · rename_i kvs q
      obtain ⟨o, e1, r1⟩ := k.at_ _ _ q
      cases o <;> try exact r1.elim
      exact .inr ⟨_, .inl e1⟩
    · cases hd
  · cases e
section
variable {X : Cx} {E : XK} {a b c o : Expr} {ma mb mc mo : WE} {pos p apos cpos : Pos}
theorem e_dictR : PEw X E (.Dict [] [] pos) wDictR := pe_imp pe_dnewK fun σ H Q ⟨B, e, st, Qd, Xd, S, pq, px, m⟩ p hp => by
  obtain ⟨k2, x2⟩ := S.sto.put (c := .dk []) (o := .dK []) hp ⟨rfl, .nil⟩
  exact pq _ _ _ _ (m p (S.sto.none_ hp)) x2 k2 (.ref p)
theorem e_get2 (hu : X.A.units + 65 < cLine) (ho : PEw X E o mo) (ha : PEw X E a ma) (hb : PEw X E b mb) (m : M2 X o "get" apos a b cpos := by exact ⟨by rfl, by rfl, by rfl, by rfl⟩) :
    PEw X E (.Call (.Attribute o "get" apos) [a, b] [] cpos) (wGet2 mo ma mb) := pe_imp (pe_dget2 (by omega) ho ha hb m) fun σ H Q ⟨B, e, st, Qd, Xd, S, pq, px, mm⟩ =>
  ⟨B, e, st, _, Xd, S, fun d st1 v H1 m1 x1 k1 r1 => by
    obtain ⟨ad, hd, q⟩ := on_iff.mp m1
    obtain ⟨rfl, rfl, isd⟩ := dctOf_ok k1 r1 hd
    exact ⟨ad, rfl, isd, B, e, st1, _, Xd, S.on x1 k1, fun y st2 vy H2 m2 x2 k2 r2 => ⟨B, e, st2, _, Xd, (S.on x1 k1).on x2 k2, fun z st3 vz H3 m3 x3 k3 r3 => by
      obtain ⟨r, hr, q3⟩ := on_iff.mp m3
      obtain ⟨ov, g, h⟩ := dct_get k3 (r2.ext x3) hr
      refine ⟨ov, g, ?_⟩
      rcases h with ⟨rfl, rfl⟩ | ⟨d', v', rfl, rfl, r4⟩
      · exact pq _ st3 _ H3 q3 ((x1.trans x2).trans x3) k3 r3
      · exact pq _ st3 _ H3 q3 ((x1.trans x2).trans x3) k3 r4, (px.on x1).on x2, m2⟩, px.on x1, q⟩, px, mm⟩
theorem e_sortIt (hc : X.calm = true) (fr : Frees X.mg) (ho : PEw X E o mo) (hg : Gl X "sorted" := by rfl)
    (hbase : attributeBase o "items" X.env (eval o X.env) = eval o X.env := by rfl) (hline : (apos.endLine == cpos.line) = true := by rfl)
    (he : starEach [.Call (.Attribute o "items" apos) [] [] cpos] X.env = (false, eval (.Call (.Attribute o "items" apos) [] [] cpos) X.env) :: starEach [] X.env := by rfl) :
    PEw X E (.Call (.Name "sorted" p) [.Call (.Attribute o "items" apos) [] [] cpos] [] pos) (wSortIt mo) :=
  pe_imp (pe_callB (cr_sortedItemsI hc) hg fr.sorted (by decide +kernel) (pa_cons (pe_bm0 PySem.F.plainAttrs_dict PySem.F.slot_dict_items PySem.F.type_dict_items mt_itemsK ho hbase hline) pa_nil) (by decide) (by decide) he rfl)
    fun σ H Q ⟨B, e, st, Qd, Xd, S, pq, px, mm⟩ => ⟨B, e, st, _, Xd, S, fun d st1 v H1 m1 x1 k1 r1 => by
      obtain ⟨ks, hk, q⟩ := on_iff.mp m1
      unfold itemsOf at hk
      split at hk
      · rename_i a
        obtain ⟨kvs, e1, e2⟩ := Option.bind_eq_some_iff.mp hk
        have qc : st1 a = some (.dk kvs) := by
          unfold cellKV at e1
          split at e1
          · rename_i q; cases e1; exact q
          · cases e1
        obtain ⟨oo, e3, r3⟩ := k1.at_ _ _ qc
        cases oo <;> try exact r3.elim
        rename_i ws
        cases r1
        have ews := itemsI_rep e2 r3.1 r3.2
        refine ⟨.inr (.inr (.inl ⟨rfl, .inl ⟨_, e3⟩⟩)), a, ws, rfl, rfl, e3, fun pv hpv => ?_⟩
        have k2 := k1.new (o := L2.DX.itemsO pv a) hpv
        have x2 : Ext H1 (mu st1 B) (upd H1 pv (L2.DX.itemsO pv a)) (mu st1 B) := ext_new hpv
        have ea : (upd H1 pv (L2.DX.itemsO pv a)) a = some (.dK ws) := by rw [upd_ne (ne_of_none e3 hpv)]; exact e3
        refine ⟨pv, a, ks, rfl, upd_same, by rw [ea, ews], fun H' l ts zs hext hl hts hlt hperm hsrt hL hP => ?_⟩
        have ezs := sortP_is hperm hsrt
        subst ezs
        -- the new heap
        have x3 : Ext (upd H1 pv (L2.DX.itemsO pv a)) (mu st1 B) H' (mu st1 B) := ⟨fun b u h n => ⟨hext b u h, n⟩, fun _ _ h => h, fun b h z => by
          cases q : (upd H1 pv (L2.DX.itemsO pv a)) b with
          | none => exact h q
          | some u => rw [hext b u q] at z; (cases z)⟩
        have k3 : StoOk X.K H' B st1 := ⟨fun b c e => by
          obtain ⟨u, e4, r4⟩ := k2.at_ b c e
          exact ⟨u, hext b u e4, r4.ext x3⟩, fun b m z => by
          cases q : (upd H1 pv (L2.DX.itemsO pv a)) b with
          | none => exact k2.bu b m q
          | some u => rw [hext b u q] at z; exact (nomatch z), k2.nb⟩
        have fresh : ∀ t, (upd H1 pv (L2.DX.itemsO pv a)) t = none → ¬ (mu st1 B).has t := fun t h => k2.fresh h
        have rp : ∀ {ts : List Addr} {zs : List (Int × Int)}, (∀ t ∈ ts, (upd H1 pv (L2.DX.itemsO pv a)) t = none) → Paired (fun (t : Addr) (z : Int × Int) => H' t = some (.tup [.int z.1, .int z.2])) ts zs → RepL X.K H' (mu st1 B) (zs.map pairD) (ts.map V.ref) := by
          intro ts zs hts hP
          induction hP with
          | nil => exact .nil
          | cons h t ih => exact .cons (.tup ⟨fresh _ (hts _ List.mem_cons_self), h⟩ (.cons (.int _) (.cons (.int _) .nil)) (by show 2 ≤ sizeLine; decide)) (ih fun t ht => hts t (List.mem_cons_of_mem _ ht))
        have hz : (sortP ks).length ≤ sizeLine := by
          rw [(sortP_perm ks).length_eq]
          exact q.1
        exact pq _ st1 _ _ q.2 ((x1.trans x2).trans x3) k3 (.lst ⟨fresh l hl, .inl hL⟩ (rp hts hP) (by rw [List.length_map]; exact hz))
      · (cases hk), px, mm⟩
end
end DL
namespace DL
open PySem PySem.Spec PyProof.Rows L2

/-! ### sorted(d), int keys, any number of them -/
section
variable {X : Cx}
def rSortDI : List V → Hp → VK → Prop := fun xs H Q => ∃ (a : Addr) (kvs : List (L2.Key × V)) (ks : List Int), xs = [.ref a] ∧ Rd H a (.dK kvs) ∧ kvs.map (·.1) = ks.map Sum.inl ∧
    ∀ (ys : List Int) (p : Addr), ys.Perm ks → ys.Pairwise (· ≤ ·) → H p = none → Q (.ref p) (upd H p (.lst (ys.map V.int)))
theorem call_sortedDI' (hcalm : X.calm = true) : CallR X (.builtin "sorted") rSortDI := by
  intro pins s σ H xs us Q I r q
  obtain ⟨a, kvs, ks, ex, hd, hks, q⟩ := q
  subst ex
  obtain ⟨u, eu, rx⟩ := vals1 r
  subst eu
  cases rx
  obtain ⟨z, lo, vs, rel, dd⟩ := dk_rd I.hok hd
  obtain ⟨ep, hat⟩ := dd.dictAt
  have hkeys : vs.map (·.1) = ks.map Sum.inl := rel.keys.symm.trans hks
  have hl : vs.length = ks.length := by
    have e := congrArg List.length hkeys
    rw [List.length_map, List.length_map] at e
    exact e
  have l1 := rel.length
  have h16 : vs.length ≤ sizeLine := by omega
  refine Calls.call_function_entry PyProof.Rows.kind_sorted PyProof.Rows.plain_sorted PyProof.Rows.entry_sorted (PyProof.Rows.args_sorted1 _) ?_
  unfold Builtin.«sorted»
  refine wpAny_bind (m := checkCount "sorted" 1 1 _) (wpAny_pure ?_)
  refine wpAny_bind (PySem.W.kdu_collect (A := X.A.in1) (PySem.W.kdl_dict (knd := mixKind X.prog X.w) (kvs := vs) (ep := ep) lo) (I.ok.hd hcalm) hat h16 fun h' tk acc hk hacc => ?_)
  have hal : acc.toList.length = ks.length := by rw [Array.length_toList, hacc.1, hl]
  have hS : IntsAre acc.toList ks := ints_each hal fun j v e => by
    obtain ⟨k, x, e1, e2⟩ := hacc.2 j v (by rw [← Array.getElem?_toList]; exact e)
    have e3 : (vs.map (·.1))[j]? = some k := by rw [List.getElem?_map, e1]; rfl
    rw [hkeys, List.getElem?_map] at e3
    cases e4 : ks[j]? with
    | none => rw [e4] at e3; cases e3
    | some y =>
      rw [e4] at e3
      have e5 : Sum.inl y = k := Option.some.inj e3
      subst e5
      rcases keyIs_shape (show keyIs (Sum.inl y) v = true from e2) with ⟨i, t, ek, ev⟩ | ⟨z, t, ek, ev⟩
      · cases ek
        exact ⟨y, t, rfl, ev⟩
      · cases ek
  have I1 : Inv X pins σ H { s with heap := h', toks := tk } := I.kept hk
  refine wpAny_bind (wpAny_newList ?_ (by rw [hal]; omega))
  have hoL : (h'.push (seqObj "list" acc.toList.toArray 0)).get? h'.objs.size = some (seqObj "list" acc.toList.toArray 0) := Heap.get?_push_size _ rfl
  show wpAny _ _ _ _ _ { s with heap := h'.push (seqObj "list" acc.toList.toArray 0), toks := tk }
  refine wpAny_bind (wpAny_holding (wpAny_call_entry PyProof.Rows.slot_list_sort ⟨_, hoL, rfl⟩ PyProof.Rows.entry_list_sort
    (SrtO.list_sort_ord (s := { s with heap := h'.push (seqObj "list" acc.toList.toArray 0), toks := tk }) SrtO.swo_int hoL (by rw [hal]; omega) (fun h2 => SrtO.ints_sortable hS h2) fun out h1 h2 => ⟨_, rfl, ?_⟩) (PyProof.Rows.args_list_sort _)))
  obtain ⟨k1, k2, k3⟩ := SrtO.ints_out hS h1 h2
  obtain ⟨e', he'⟩ := PyProof.Rows.sortedHeap_at (vs := acc.toList) (out := out.toArray) hoL
  have hlen : ((out.map SrtO.iv).map V.int).length ≤ sizeLine := by
    rw [List.length_map, k2.length_eq]
    omega
  refine wpAny_pure ⟨_, rfl, .ref h'.objs.size, upd H h'.objs.size (.lst ((out.map SrtO.iv).map V.int)), I1.laid (t' := tk) (fun b u e => ?_) (Nat.le_refl _)
    (show ObjOk X.prog X.w _ _ _ (.lst ((out.map SrtO.iv).map V.int)) from ⟨hlen, out, e', vals_of_ints k1, he'⟩), rfl, q _ _ k2 k3 (I1.hok.fresh (Nat.le_refl _))⟩
  have hb : b < h'.objs.size := Heap.lt_size e
  rw [PyProof.Rows.sortedHeap_old (Nat.ne_of_lt hb) (by rw [size_push']; exact Nat.lt_succ_of_lt hb)]
  exact Heap.get?_push_of_some _ e
end
/-- sorted of numbers, or of a dict of numbers -/
def cSorted (st : Sto) : List D → Option D
  | [d] => match keysOfD st d with
    | some ks => if ks.length ≤ sizeLine then some (.lst ((sortI ks).map .int)) else none
    | none => cSortI st [d]
  | _ => none
theorem keysI_of : ∀ {kvs : List (L2.Key × D)} {ks : List Int}, keysI kvs = some ks → kvs.map (·.1) = ks.map Sum.inl
  | [], ks, h => by cases h; rfl
  | (.inl k, _) :: r, ks, h => by
    unfold keysI at h
    obtain ⟨ks', h1, rfl⟩ := Option.map_eq_some_iff.mp h
    rw [List.map_cons, List.map_cons, keysI_of h1]
  | (.inr _, _) :: _, _, h => by unfold keysI at h; cases h
theorem cSorted_ok {K : PySem.W.Frag} : CaOk K (fun xs H Q => rSortedI K xs H Q ∨ rSortDI xs H Q) cSorted := by
  intro B H st xs dxs d Q k r e g
  unfold cSorted at e
  split at e
  · rename_i d1
    cases r with
    | cons r1 r2 =>
      cases r2
      split at e
      · rename_i ks hk
        split at e <;> cases e
        rename_i hz
        unfold keysOfD at hk
        split at hk
        · rename_i a
          obtain ⟨kvs, e1, e2⟩ := Option.bind_eq_some_iff.mp hk
          have qc : st a = some (.dk kvs) := by
            unfold cellKV at e1
            split at e1
            · rename_i q; cases e1; exact q
            · cases e1
          obtain ⟨oo, e3, r3⟩ := k.at_ _ _ qc
          cases oo <;> try exact r3.elim
          rename_i ws
          cases r1
          refine .inr ⟨a, ws, ks, rfl, .inl e3, r3.1.trans (keysI_of e2), fun ys p hp hs hn => ?_⟩
          rw [sortI_is hp hs]
          exact g.lst k (repL_ints _) (by rw [List.length_map, sortI_len]; exact hz) p hn
        · cases hk
      · exact .inl (cSortI_ok B H st _ _ d Q k (.cons r1 .nil) e g)
  · cases e
section
variable {X : Cx} {E : XK} {a : Expr} {pos p : Pos} {n : Nat} {m : WA}
theorem e_sorted (hc : X.calm = true) (fr : Frees X.mg) (ha : PAw X E [a] n m) (hg : Gl X "sorted" := by rfl) (he : starEach [a] X.env = (false, eval a X.env) :: starEach [] X.env := by rfl) : PEw X E (.Call (.Name "sorted" p) [a] [] pos) (wCall cSorted m) :=
  e_cb (cr_sortedI.or (call_sortedDI' hc)) cSorted_ok hg fr.sorted (by decide +kernel) ha (by decide) (by decide) he rfl
end

/-! ### dict of a list of pairs -/
def pairsL : List D → Option (List (L2.Key × D))
  | [] => some []
  | .tup [k, v] :: r => (keyOf k).bind fun k => (pairsL r).map ((k, v) :: ·)
  | _ => none
def mergeD (kvs more : List (L2.Key × D)) : List (L2.Key × D) := more.foldl (fun acc kv => putKD acc kv.1 kv.2) kvs
def wDictP (m : WA) : WE := fun e st X Q => m e st X fun ds st1 => on (match ds with | [d] => (lsOf st1 d).bind pairsL | _ => none) fun kvs => ∀ p, st1 p = none → Q (.ref p) (st1.set p (.dk (mergeD [] kvs)))
@[simp] theorem wDictP_ap {m : WA} {e : Env} {st : Sto} {X : PoX} {Q : PoE} : wDictP m e st X Q = m e st X fun ds st1 => on (match ds with | [d] => (lsOf st1 d).bind pairsL | _ => none) fun kvs => ∀ p, st1 p = none → Q (.ref p) (st1.set p (.dk (mergeD [] kvs))) := id rfl
theorem mergeD_rep {K : PySem.W.Frag} {H : Hp} {M : Mu} : ∀ {more : List (L2.Key × D)} {wm : List (L2.Key × V)} {kvs : List (L2.Key × D)} {ws : List (L2.Key × V)}, wm.map (·.1) = more.map (·.1) → RepL K H M (more.map (·.2)) (wm.map (·.2)) → ws.map (·.1) = kvs.map (·.1) → RepL K H M (kvs.map (·.2)) (ws.map (·.2)) →
    (mergeK ws wm).map (·.1) = (mergeD kvs more).map (·.1) ∧ RepL K H M ((mergeD kvs more).map (·.2)) ((mergeK ws wm).map (·.2))
  | [], wm, kvs, ws, e, _, e2, r2 => by
    cases wm with
    | nil => exact ⟨e2, r2⟩
    | cons _ _ => simp at e
  | p :: more, wm, kvs, ws, e, r, e2, r2 => by
    cases wm with
    | nil => simp at e
    | cons w wm =>
      obtain ⟨w1, w2⟩ := w
      obtain ⟨p1, p2⟩ := p
      simp only [List.map_cons, List.cons.injEq] at e
      rw [List.map_cons, List.map_cons] at r
      cases r with
      | cons ra rb =>
        obtain ⟨e0, e3⟩ := e
        have e0 : w1 = p1 := e0
        subst e0
        exact mergeD_rep (more := more) (wm := wm) (kvs := putKD kvs w1 p2) (ws := putK ws w1 w2) e3 rb (putKD_fst e2) (putKD_rep ra e2 r2)
theorem pairs_rep {K : PySem.W.Frag} {H : Hp} {M : Mu} : ∀ {ds : List D} {vs : List V} {kvs : List (L2.Key × D)}, pairsL ds = some kvs → RepL K H M ds vs →
    ∃ (ps : List Addr) (ws : List (L2.Key × V)), vs = ps.map V.ref ∧ Paired (fun p (kv : L2.Key × V) => SqT K H p [kV kv.1, kv.2]) ps ws ∧ ws.map (·.1) = kvs.map (·.1) ∧ RepL K H M (kvs.map (·.2)) (ws.map (·.2))
  | [], _, _, h, .nil => by cases h; exact ⟨[], [], rfl, .nil, rfl, .nil⟩
  | d :: ds, _, kvs, h, .cons r t => by
    unfold pairsL at h
    split at h
    · rename_i h0; cases h0
    · rename_i k v r' h0
      cases h0
      obtain ⟨key, h1, h2⟩ := Option.bind_eq_some_iff.mp h
      obtain ⟨kvs', h3, rfl⟩ := Option.map_eq_some_iff.mp h2
      obtain ⟨ps, ws, rfl, h5, h6, h7⟩ := pairs_rep h3 t
      cases r with
      | tup hT hr hz =>
        rename_i a us
        cases hr with
        | cons r1 r2 =>
          cases r2 with
          | cons r2 r3 =>
            cases r3
            have := key_of_ r1 h1
            subst this
            exact ⟨a :: ps, (key, _) :: ws, rfl, .cons hT.sq h5, by rw [List.map_cons, List.map_cons, h6], .cons r2 h7⟩
    · cases h
theorem e_dictP {X : Cx} {E : XK} {a : Expr} {pos p : Pos} {n : Nat} {m : WA} (hc : X.calm = true) (fr : Frees X.mg) (ha : PAw X E [a] n m) (hg : Gl X "dict" := by rfl) (he : starEach [a] X.env = (false, eval a X.env) :: starEach [] X.env := by rfl) :
    PEw X E (.Call (.Name "dict" p) [a] [] pos) (wDictP m) := pe_imp (pe_callTy (call_dictP hc) hg fr.dict (by decide +kernel) ha (by decide) (by decide) he rfl) fun σ H Q ⟨B, e, st, Qd, Xd, S, pq, px, mm⟩ =>
  ⟨B, e, st, _, Xd, S, fun ds st1 vs H1 m1 l1 x1 k1 r1 => by
    obtain ⟨kvs, hk, q⟩ := on_iff.mp m1
    split at hk
    · obtain ⟨es, h1, h2⟩ := Option.bind_eq_some_iff.mp hk
      cases r1 with
      | cons r1 r2 =>
        cases r2
        obtain ⟨b, us, rfl, hR, rr, z⟩ := ls_of k1 r1 h1
        obtain ⟨ps, ws, rfl, h5, h6, h7⟩ := pairs_rep h2 rr
        refine ⟨b, ps, ws, rfl, .inl hR, h5, fun pv hp => ?_⟩
        obtain ⟨g1, g2⟩ := mergeD_rep (kvs := []) (ws := []) h6 h7 rfl .nil
        obtain ⟨k2, x2⟩ := k1.put (c := .dk (mergeD [] kvs)) (o := .dK (mergeK [] ws)) hp ⟨g1, g2⟩
        exact pq _ _ _ _ (q pv (k1.none_ hp)) (x1.trans x2) k2 (.ref pv)
    · (cases hk), px, mm⟩
end DL
namespace DL
open PySem PySem.Spec PyProof.Rows L2
/-! ### small defs that many laws share -/
def F_needed : WF := wDef 1 1 true (wRet (wBin dAdd (wBin dFdiv (wVar 0) (wC (.int 2))) (wC (.int 1))))
def F_reach_of : WF := wDef 2 2 true (wSeq (wIfS (wTB (wBin dLt (wCall cLen (wCons (wVar 0) wNil)) (wFn F_needed (wCons (wVar 1) wNil)))) (wRet (wC (.int 0))) wSkip) (wRet (wBin ixD (wCall cSortR (wCons (wVar 0) wNil)) (wBin dSub (wFn F_needed (wCons (wVar 1) wNil)) (wC (.int 1))))))
def F__law_stream : WF := wDef 2 1 false (wSeq (wSet 1 (wBin dMod (wVar 0) (wC (.int 536870909)))) (wSeq (wSet 1 (wBin dMod (wBin dAdd (wBin dMul (wBin dMod (wBin dMul (wVar 1) (wVar 1)) (wC (.int 536870909))) (wBin dAdd (wVar 1) (wC (.int 7)))) (wC (.int 13))) (wC (.int 536870909)))) (wRet (wLstR (wCons (wVar 0) (wCons (wVar 1) (wCons (wCall cInt (wCons (wBin dGe (wVar 0) (wC (.int 1000000000000000000))) wNil)) wNil)))))))
def F__law_take : WF := wDef 3 2 true (wSeq (wIfS (wTB (wBin dEq (wBin ixD (wVar 0) (wC (.int 2))) (wC (.int 1)))) (wSeq (wSet 2 (wBin dMod (wBin ixD (wVar 0) (wC (.int 0))) (wVar 1))) (wSeq (wPut (wVar 0) (wC (.int 0)) (wBin dFdiv (wBin ixD (wVar 0) (wC (.int 0))) (wVar 1))) (wRet (wVar 2)))) wSkip) (wSeq (wPut (wVar 0) (wC (.int 1)) (wBin dMod (wBin dMul (wBin dAdd (wBin ixD (wVar 0) (wC (.int 1))) (wC (.int 7919))) (wBin dAdd (wBin ixD (wVar 0) (wC (.int 1))) (wC (.int 104729)))) (wC (.int 536870909)))) (wRet (wBin dMod (wBin dFdiv (wBin dAdd (wBin dMul (wBin ixD (wVar 0) (wC (.int 1))) (wC (.int 48271))) (wC (.int 11))) (wC (.int 64))) (wVar 1)))))
def F__law_is_whole : WF := wDef 2 2 true (wRet (wAnd (wCall cIsi (wCons (wVar 0) (wCons (wC (.ty "int")) wNil))) (wAnd (wNot (wCall cIsi (wCons (wVar 0) (wCons (wC (.ty "bool")) wNil)))) (wBin dEq (wVar 0) (wVar 1)))))
def F__law_reach : WF := wDef 5 2 true (wSeq (wSet 2 (wLstR (wCons (wC (.int 0)) wNil))) (wSeq (wFor (wiSeq (wVar 0)) (.nm 3) (wIfS (wTB (wBin dGt (wBin dMul (wC (.int 2)) (wCall cLen (wCons (wComp (wiSeq (wVar 0)) (.nm 4) (wTB (wBin dGe (wVar 4) (wVar 3))) (wVar 4) [4]) wNil))) (wVar 1))) (wDrop (wMeth "list" mAppend (wVar 2) (wCons (wVar 3) wNil))) wSkip) [3]) (wRet (wCall cMax (wCons (wVar 2) wNil)))))

/-! ### the drawn row -/
def RowOk (r : List D) : Prop := ∃ c l f : Int, r = [.int c, .int l, .int f] ∧ 0 ≤ l ∧ l < 536870909
section
variable {st : Sto} {X : PoX} {Q : PoE} {n m : Int}
theorem ap_needed : F_needed [.int n] st X Q = Q (.int (n / 2 + 1)) st := by
  simp (disch := first | omega | decide +kernel) [F_needed, wDef_ap, dFdiv_int]
theorem ap_stream {c : Int} (h : ∀ p r, st p = none → RowOk r → Q (.ref p) (st.set p (.lst r))) : F__law_stream [.int c] st X Q := by
  simp (disch := first | omega | decide +kernel) [F__law_stream, wDef_ap, dMod_int, dPow_int]
  have b : 0 ≤ c % 536870909 ∧ c % 536870909 < 536870909 := ⟨Int.emod_nonneg _ (by decide), Int.emod_lt_of_pos _ (by decide)⟩
  have b2 : ∀ x : Int, 0 ≤ x % 536870909 ∧ x % 536870909 < 536870909 := fun x => ⟨Int.emod_nonneg _ (by decide), Int.emod_lt_of_pos _ (by decide)⟩
  have m1 : Mid (c % 536870909) := ⟨by omega, by omega⟩
  have m2 : Mid (c % 536870909 * (c % 536870909) % 536870909) := by have := b2 (c % 536870909 * (c % 536870909)); exact ⟨by omega, by omega⟩
  have m3 : Mid (c % 536870909 + 7) := ⟨by omega, by omega⟩
  rw [dMul_int m1 m1]
  simp (disch := first | omega | decide +kernel) [dMod_int]
  rw [dMul_int m2 m3]
  simp (disch := first | omega | decide +kernel) [dMod_int]
  intro p hp
  exact h p _ hp ⟨_, _, _, rfl, (b2 _).1, (b2 _).2⟩
theorem emod_b (x : Int) {k : Int} (h : 0 < k) : 0 ≤ x % k ∧ x % k < k := ⟨Int.emod_nonneg _ (by omega), Int.emod_lt_of_pos _ h⟩
theorem ap_take {a : Addr} {r : List D} {k : Int} (hr : st a = some (.lst r)) (ok : RowOk r) (h1 : 0 < k) (h2 : k ≤ 10 ^ 40) (h : ∀ n r', 0 ≤ n → n < k → RowOk r' → Q (.int n) (st.set a (.lst r'))) :
    F__law_take [.ref a, .int k] st X Q := by
  obtain ⟨c, l, f, rfl, l1, l2⟩ := ok
  have sm : (st a).isSome = true := by rw [hr]; rfl
  simp only [F__law_take, wDef_ap]
  refine ⟨rfl, ?_⟩
  simp (disch := first | omega | decide +kernel) [ixD_ref hr]
  by_cases hf : f = 1
  · simp (disch := first | omega | decide +kernel) [hf, dMod_int, dFdiv_int]
    rw [putD_lst hr (ds' := [.int (c / k), .int l, .int f]) rfl]
    simp [hr, Sto.keepOnly_set sm]
    exact h _ _ (emod_b c h1).1 (emod_b c h1).2 ⟨_, _, _, by rw [hf], l1, l2⟩
  · simp (disch := first | omega | decide +kernel) [hf, dMul_int, dMod_int]
    have b := emod_b ((l + 7919) * (l + 104729)) (k := 536870909) (by decide)
    rw [putD_lst hr (ds' := [.int c, .int ((l + 7919) * (l + 104729) % 536870909), .int f]) rfl]
    have m : Mid ((l + 7919) * (l + 104729) % 536870909) := ⟨by omega, by omega⟩
    have e : (st.set a (.lst [.int c, .int ((l + 7919) * (l + 104729) % 536870909), .int f])) a = some (.lst [.int c, .int ((l + 7919) * (l + 104729) % 536870909), .int f]) := Sto.set_same
    simp (disch := first | omega | decide +kernel) [ixD_ref e, dMul_int m, dMod_int, dFdiv_int, Sto.keepOnly_set sm]
    exact h _ _ (emod_b _ h1).1 (emod_b _ h1).2 ⟨_, _, _, rfl, b.1, b.2⟩
theorem ap_is_whole : F__law_is_whole [.int n, .int m] st X Q = Q (.bl (decide (n = m))) st := by
  simp [F__law_is_whole, wDef_ap]
end

/-! ### the reach -/
def reachI (ns : List Int) (m : Int) : Int := if (ns.length : Int) < m / 2 + 1 then 0 else ((sortI ns).reverse)[(m / 2).toNat]?.getD 0
theorem cnt_desc {n : Int} : ∀ {l : List Int} {k : Nat} {v : Int}, l.Pairwise (· ≥ ·) → l[k]? = some v → (k + 1 ≤ l.countP (fun x => decide (n ≤ x)) ↔ n ≤ v)
  | [], k, v, _, h => by simp at h
  | a :: r, 0, v, p, h => by
    simp at h
    subst h
    rw [List.countP_cons]
    by_cases ha : n ≤ a
    · simp [ha]
    · have : r.countP (fun x => decide (n ≤ x)) = 0 := List.countP_eq_zero.mpr fun x hx => by
        have := (List.pairwise_cons.mp p).1 x hx
        simp; omega
      simp [ha, this]
  | a :: r, k + 1, v, p, h => by
    have h' : r[k]? = some v := by simpa using h
    have ih := cnt_desc (n := n) (List.pairwise_cons.mp p).2 h'
    rw [List.countP_cons]
    by_cases ha : n ≤ a
    · simp [ha]; exact ih
    · have z : r.countP (fun x => decide (n ≤ x)) = 0 := List.countP_eq_zero.mpr fun x hx => by
        have := (List.pairwise_cons.mp p).1 x hx
        simp; omega
      have := (List.pairwise_cons.mp p).1 v (List.mem_of_getElem? h')
      simp [ha, z]; omega
theorem maxL_of {v : Int} : ∀ {l : List Int} {m : Int}, (∀ x ∈ l, x ≤ v) → m ≤ v → (v ∈ l ∨ m = v) → maxL m l = v := fun {l m} h h1 h2 => by
  obtain ⟨g1, g2⟩ := maxL_ge l m
  have g3 := maxL_mem l m
  rcases g3 with g3 | g3
  · have := h2.elim (fun z => g2 v z) (fun z => z ▸ g1); omega
  · have := h _ g3
    have := h2.elim (fun z => g2 v z) (fun z => z ▸ g1); omega
theorem reach_law {ns : List Int} {m : Int} (h : ∀ n ∈ ns, 0 ≤ n) (hm : 0 ≤ m) : maxL 0 (ns.filter fun n => decide (m < 2 * ((ns.filter fun x => decide (n ≤ x)).length : Int))) = reachI ns m := by
  have hp : ((sortI ns).reverse).Perm ns := (List.reverse_perm _).trans (sortI_perm ns)
  have hs : ((sortI ns).reverse).Pairwise (· ≥ ·) := by
    rw [List.pairwise_reverse]; exact sortI_srt ns
  have hc : ∀ n, (ns.filter fun x => decide (n ≤ x)).length = ((sortI ns).reverse).countP (fun x => decide (n ≤ x)) := fun n => by
    rw [← List.countP_eq_length_filter]; exact (hp.countP_eq _).symm
  have hl := hp.length_eq
  unfold reachI
  by_cases hn : (ns.length : Int) < m / 2 + 1
  · rw [if_pos hn]
    have e : (ns.filter fun n => decide (m < 2 * ((ns.filter fun x => decide (n ≤ x)).length : Int))) = [] := List.filter_eq_nil_iff.mpr fun n _ => by
      have := List.length_filter_le (fun x => decide (n ≤ x)) ns
      simp; omega
    rw [e]; rfl
  · rw [if_neg hn]
    have hk : (m / 2).toNat < ((sortI ns).reverse).length := by omega
    have hv := List.getElem?_eq_getElem hk
    rw [hv]
    have key : ∀ n, (m < 2 * ((ns.filter fun x => decide (n ≤ x)).length : Int)) ↔ n ≤ ((sortI ns).reverse)[(m / 2).toNat] := fun n => by
      rw [hc n, ← cnt_desc hs hv]
      omega
    have mem : ((sortI ns).reverse)[(m / 2).toNat] ∈ ns := hp.mem_iff.mp (List.getElem_mem hk)
    refine maxL_of (fun x hx => ?_) (h _ mem) (.inl (List.mem_filter.mpr ⟨mem, ?_⟩))
    · exact (key x).mp (by simpa using (List.mem_filter.mp hx).2)
    · exact decide_eq_true ((key _).mpr (Int.le_refl _))
section
variable {st : Sto} {X : PoX} {Q : PoE} {m : Int} {d : D} {ns : List Int}
theorem ap_reach_of (h : lsOf st d = some (ns.map D.int)) (hm : 0 ≤ m) : F_reach_of [d, .int m] st X Q = Q (.int (reachI ns m)) st := by
  simp [F_reach_of, wDef_ap, ap_needed, cLen_ls h, cSortR_ls h, reachI]
  have e : m / 2 + 1 - 1 = ((m / 2).toNat : Int) := by omega
  by_cases hn : (ns.length : Int) < m / 2 + 1
  · simp [hn]
  · simp only [hn]
    have hk : (m / 2).toNat < ((sortI ns).reverse).length := by rw [List.length_reverse, sortI_len]; omega
    have q : atI ((sortI ns).map D.int).reverse (m / 2 + 1 - 1) = some (.int (((sortI ns).reverse)[(m / 2).toNat]?.getD 0)) := by
      rw [e, atI_N, ← List.map_reverse, List.getElem?_map, List.getElem?_eq_getElem hk]; rfl
    simp only [Int.add_sub_cancel] at q
    simp [q]
theorem ap__law_reach (h : lsOf st d = some (ns.map D.int)) (hp : ∀ n ∈ ns, 0 ≤ n) (hm : 0 ≤ m) (hm2 : m ≤ 1000) (hl : ns.length < 1000000) (hq : Q (.int (reachI ns m)) st) : F__law_reach [d, .int m] st X Q := by
  · simp only [F__law_reach, wDef_ap]
    refine ⟨rfl, ?_⟩
    simp [sqOf_ls h]
    intro g hg
    rw [sqOf_set (sqOf_ls h) hg]
    simp
    refine wForL_inv (fun ds e st' => ∃ done rest : List Int, ns = done ++ rest ∧ ds = rest.map .int ∧ e = [some d, some (.int m), some (.ref g), none, none] ∧ st' = st.set g (.lst (((0 : Int) :: (done.filter fun n => decide (m < 2 * ((ns.filter fun x => decide (n ≤ x)).length : Int)))).map .int))) ?_ ?_ ?_ _ _ _ ⟨[], ns, rfl, rfl, rfl, rfl⟩
    · rintro ds e st' ⟨done, rest, e1, rfl, rfl, rfl⟩
      exact sqOf_set (sqOf_ls h) hg
    · rintro e st' ⟨done, rest, e1, e2, rfl, rfl⟩
      have e3 : rest = [] := by simpa using e2.symm
      subst e3
      rw [List.append_nil] at e1
      subst e1
      have := reach_law (ns := ns) hp hm
      simp
      rw [cMax_ls (n := 0) (ns := ns.filter fun n => decide (m < 2 * ((ns.filter fun x => decide (n ≤ x)).length : Int))) (by simp)]
      simp [this, Sto.keepOnly_new hg]
      exact hq
    · rintro d' ds e st' N ⟨done, rest, e1, e2, rfl, rfl⟩ hN
      cases rest with
      | nil => cases e2
      | cons n rest =>
        cases e2
        simp
        rw [sqOf_set (sqOf_ls h) hg]
        simp
        rw [compL_map (fun x => [some d, some (.int m), some (.ref g), some (.int n), some (.int x)]) (fun x => decide (n ≤ x)) D.int (by simp) (by simp) (by simp) (sqOf_set (sqOf_ls h) hg)]
        simp
        have hle := List.length_filter_le (fun x => decide (n ≤ x)) ns
        rw [dMul_int (by decide) ⟨by omega, by omega⟩]
        simp
        split
        · rename_i hc
          rw [mAppend_ref Sto.set_same (by
            have := List.length_filter_le (fun n => decide (m < 2 * ((ns.filter fun x => decide (n ≤ x)).length : Int))) done
            have := congrArg List.length e1
            simp only [List.length_cons, List.length_map, List.length_append] at *
            have : sizeLine = 16777216 := rfl
            omega)]
          simp [tyNm_ref Sto.set_same]
          refine hN _ _ ⟨done ++ [n], rest, by rw [e1]; simp, rfl, rfl, ?_⟩
          simp [hc]
        · rename_i hc
          refine hN _ _ ⟨done ++ [n], rest, by rw [e1]; simp, rfl, rfl, ?_⟩
          simp [hc]
end
/-- what the law's turns are over -/
def cellsOf (script : List Int) (n : Int) : List Int := (0 : Int) :: script.take n.toNat
theorem scriptL {st : Sto} {script : List Int} {n : Int} (hl : script.length ≤ 63) (h : 0 ≤ n) : dAdd st (.lst [.int 0]) (.lst (DL.cutD (script.map D.int) none (some n))) = some (.lst ((cellsOf script n).map .int)) := by
  rw [cutD_to h, dAdd_lst (by
    have : sizeLine = 16777216 := rfl
    have := List.length_take_le n.toNat (script.map D.int)
    have := List.length_take_le' n.toNat (script.map D.int)
    simp only [List.length_map, List.length_cons, List.length_nil] at *
    omega)]
  simp [cellsOf]
theorem RowOk.pair {r : List D} (h : RowOk r) : r.length = 3 := by
  obtain ⟨_, _, _, rfl, _⟩ := h; rfl
end DL
namespace DL
open PySem PySem.Spec PyProof.Rows L2
/-! ### logs, drawn (k05, k06, k07), and next_number -/
def F_next_number : WF := wDef 2 1 true (wRet (wBin dAdd (wC (.int 1)) (wCall cMax (wCons (wBin dAdd (wLst (wCons (wC (.int 0)) wNil)) (wComp (wiSeq (wVar 0)) (.nm 1) (wTB (wBin dEq (wBin ixD (wVar 1) (wC (.int 0))) (wC (.str "ask")))) (wBin ixD (wVar 1) (wC (.int 2))) [1])) wNil))))
def F__law_name : WF := wDef 1 1 true (wRet (wBin ixD (wLst (wCons (wC (.str "a")) (wCons (wC (.str "a")) (wCons (wC (.str "b")) (wCons (wC (.str "ab")) (wCons (wC (.str "ac")) (wCons (wC (.str "anna")) (wCons (wC (.str "andy")) (wCons (wC (.str "zzzzzzzz")) wNil))))))))) (wFn F__law_take (wCons (wVar 0) (wCons (wC (.int 8)) wNil)))))
def F__law_person : WF := wDef 1 1 true (wRet (wBin ixD (wLst (wCons (wC (.str "joe")) (wCons (wC (.str "ann")) (wCons (wC (.str "a")) (wCons (wC (.str "eightlet")) wNil))))) (wFn F__law_take (wCons (wVar 0) (wCons (wC (.int 4)) wNil)))))
def F__law_until : WF := wDef 1 1 true (wRet (wBin dAdd (wC (.int 1)) (wBin ixD (wLst (wCons (wFn F__law_take (wCons (wVar 0) (wCons (wC (.int 12)) wNil))) (wCons (wFn F__law_take (wCons (wVar 0) (wCons (wC (.int 12)) wNil))) (wCons (wFn F__law_take (wCons (wVar 0) (wCons (wC (.int 999999999999999999999999999998)) wNil))) wNil)))) (wBin dMul (wCall cInt (wCons (wBin dEq (wFn F__law_take (wCons (wVar 0) (wCons (wC (.int 12)) wNil))) (wC (.int 0))) wNil)) (wC (.int 2))))))
def F__law_entry : WF := wDef 7 2 true (wSeq (wSet 2 (wFn F__law_name (wCons (wVar 0) wNil))) (wSeq (wSet 3 (wFn F__law_take (wCons (wVar 0) (wCons (wVar 1) wNil)))) (wSeq (wSet 4 (wBin dAdd (wBin ixD (wLst (wCons (wC (.int 1)) (wCons (wC (.int 1)) (wCons (wC (.int 1)) (wCons (wC (.int 9)) (wCons (wC (.int 999999999999999999999999999997)) wNil)))))) (wFn F__law_take (wCons (wVar 0) (wCons (wC (.int 5)) wNil)))) (wFn F__law_take (wCons (wVar 0) (wCons (wC (.int 3)) wNil))))) (wSeq (wSet 5 (wFn F__law_until (wCons (wVar 0) wNil))) (wSeq (wSet 6 (wLst (wCons (wTup (wCons (wC (.str "ask")) (wCons (wVar 2) (wCons (wVar 4) (wCons (wFn F__law_person (wCons (wVar 0) wNil)) (wCons (wVar 5) wNil)))))) (wCons (wTup (wCons (wC (.str "got")) (wCons (wVar 2) (wCons (wVar 4) (wCons (wVar 3) (wCons (wVar 5) wNil)))))) wNil)))) (wSeq (wSet 6 (wBin dAdd (wVar 6) (wLst (wCons (wTup (wCons (wC (.str "word")) (wCons (wVar 2) (wCons (wVar 3) (wCons (wVar 4) (wCons (wVar 5) wNil)))))) (wCons (wTup (wCons (wC (.str "word")) (wCons (wVar 2) (wCons (wVar 3) (wCons (wVar 4) (wCons (wVar 5) wNil)))))) wNil))))) (wSeq (wSet 6 (wBin dAdd (wVar 6) (wLst (wCons (wTup (wCons (wC (.str "got")) (wCons (wVar 2) (wCons (wVar 4) (wCons (wVar 3) (wCons (wVar 5) wNil)))))) (wCons (wTup (wCons (wC (.str "no")) (wCons (wVar 2) (wCons (wVar 4) (wCons (wVar 3) wNil))))) (wCons (wTup (wCons (wC (.str "free")) (wCons (wVar 2) (wCons (wVar 3) (wCons (wVar 4) wNil))))) wNil)))))) (wSeq (wSet 6 (wBin dAdd (wVar 6) (wLst (wCons (wTup (wCons (wC (.str "back")) (wCons (wVar 2) (wCons (wVar 4) wNil)))) wNil)))) (wRet (wBin ixD (wVar 6) (wBin ixD (wLst (wCons (wC (.int 0)) (wCons (wC (.int 0)) (wCons (wC (.int 1)) (wCons (wC (.int 1)) (wCons (wC (.int 2)) (wCons (wC (.int 2)) (wCons (wC (.int 3)) (wCons (wC (.int 4)) (wCons (wC (.int 5)) (wCons (wC (.int 5)) (wCons (wC (.int 6)) (wCons (wC (.int 6)) (wCons (wC (.int 7)) wNil)))))))))))))) (wFn F__law_take (wCons (wVar 0) (wCons (wC (.int 13)) wNil))))))))))))))
def F__law_log : WF := wDef 4 3 true (wRet (wCall cTuple (wCons (wComp (wiRange (wCons (wFn F__law_take (wCons (wVar 0) (wCons (wBin dAdd (wVar 2) (wC (.int 1))) wNil))) wNil)) (.nm 3) wYes (wFn F__law_entry (wCons (wVar 0) (wCons (wVar 1) wNil))) [3]) wNil)))
def F__law_long : WF := wDef 6 2 true (wSeq (wSet 2 (wFn F__law_name (wCons (wVar 0) wNil))) (wSeq (wSet 3 (wCall cTuple (wCons (wComp (wiSeq (wVar 1)) (.nm 5) (wTB (wBin dEq (wBin ixD (wVar 5) (wC (.int 1))) (wVar 2))) (wVar 5) [5]) wNil))) (wSeq (wSet 4 (wBin dAdd (wComp (wiSeq (wVar 1)) (.nm 5) (wTB (wBin dNe (wBin ixD (wVar 5) (wC (.int 1))) (wVar 2))) (wVar 5) [5]) (wLst (wCons (wTup (wCons (wC (.str "back")) (wCons (wC (.str "q")) (wCons (wC (.int 7)) wNil)))) wNil)))) (wRet (wBin dAdd (wVar 3) (wCall cTuple (wCons (wBin dMul (wVar 4) (wBin dFdiv (wC (.int 900)) (wCall cLen (wCons (wVar 4) wNil)))) wNil)))))))

/-- an entry of a log -/
inductive En where
  | ask (n : Str) (k : Int) (p : Str) (u : Int) | got (n : Str) (k h u : Int) | no (n : Str) (k h : Int) | back (n : Str) (k : Int) | word (n : Str) (h k u : Int) | free (n : Str) (h k : Int)
  deriving DecidableEq
def En.kind : En → String
  | .ask .. => "ask" | .got .. => "got" | .no .. => "no" | .back .. => "back" | .word .. => "word" | .free .. => "free"
def En.name : En → Str
  | .ask n .. => n | .got n .. => n | .no n .. => n | .back n .. => n | .word n .. => n | .free n .. => n
def En.i2 : En → Int
  | .ask _ k .. => k | .got _ k .. => k | .no _ k _ => k | .back _ k => k | .word _ h .. => h | .free _ h _ => h
def En.tl : En → List D
  | .ask _ _ p u => [.str p, .int u] | .got _ _ h u => [.int h, .int u] | .no _ _ h => [.int h] | .back _ _ => [] | .word _ _ k u => [.int k, .int u] | .free _ _ k => [.int k]
/-- one to eight small letters -/
def nameOk (x : Str) : Bool := decide (1 ≤ x.length) && decide (x.length ≤ 8) && x.cps.toList.all fun c => decide (97 ≤ c) && decide (c ≤ 122)
def strOk : D → Bool
  | .str x => nameOk x
  | _ => false
theorem strOk_iff {d : D} (h : strOk d = true) : ∃ x, d = .str x ∧ nameOk x = true := by
  cases d <;> first | exact ⟨_, rfl, h⟩ | cases h
/-- what is drawn: numbers and ends from 1 on, houses below m -/
def En.okn (m : Int) : En → Prop
  | .ask _ k p u => 1 ≤ k ∧ 1 ≤ u ∧ nameOk p = true
  | .got _ k h u => 1 ≤ k ∧ 0 ≤ h ∧ h < m ∧ 1 ≤ u
  | .no _ k h => 1 ≤ k ∧ 0 ≤ h ∧ h < m
  | .back _ k => 1 ≤ k
  | .word _ h k u => 1 ≤ k ∧ 0 ≤ h ∧ h < m ∧ 1 ≤ u
  | .free _ h k => 1 ≤ k ∧ 0 ≤ h ∧ h < m
def En.ok (m : Int) (e : En) : Prop := nameOk e.name = true ∧ e.okn m
instance {m : Int} {e : En} : Decidable (e.ok m) := by
  unfold En.ok
  cases e <;> (unfold En.okn; infer_instance)
def En.d (e : En) : D := .tup (.str (Str.ofString e.kind) :: .str e.name :: .int e.i2 :: e.tl)
section
variable {st : Sto} {e : En}
@[simp] theorem ixD_En0 : ixD st e.d (.int 0) = some (.str (Str.ofString e.kind)) := by rw [En.d, ixD_tup, atI_0]
@[simp] theorem ixD_En1 : ixD st e.d (.int 1) = some (.str e.name) := by rw [En.d, ixD_tup, atI_1]
@[simp] theorem ixD_En2 : ixD st e.d (.int 2) = some (.int e.i2) := by rw [En.d, ixD_tup, atI_2]
end
section
variable {st : Sto} {X : PoX} {Q : PoE} {n m : Int} {a : Addr} {r : List D}
theorem ap_next_number {es : List En} (hl : es.length ≤ 100000) (hq : Q (.int (1 + maxL 0 ((es.filter fun e => decide (e.kind = "ask")).map En.i2))) st) : F_next_number [.tup (es.map En.d)] st X Q := by
  simp only [F_next_number, wDef_ap]
  refine ⟨rfl, ?_⟩
  simp
  refine compL_imp (fun e : En => [some (.tup (es.map En.d)), some e.d]) (fun e => decide (e.kind = "ask")) (fun e => .int e.i2) ?_ ?_ ?_ trivial ?_
  · simp
  · intro e he Q hq
    simp [ofString_inj]
    simpa using hq
  · simp
  · have hle := List.length_filter_le (fun e : En => decide (e.kind = "ask")) es
    rw [List.nil_append, dAdd_lst (by simp [sizeLine_eq]; omega)]
    simp
    rw [cMax_ls (n := 0) (ns := (es.filter fun e => decide (e.kind = "ask")).map En.i2) (by simp)]
    simp
    exact hq
theorem ap_name7 (hr : st a = some (.lst r)) (ok : RowOk r) (h : ∀ x r', nameOk x = true → RowOk r' → Q (.str x) (st.set a (.lst r'))) : F__law_name [.ref a] st X Q := by
  have sm : (st a).isSome = true := by rw [hr]; rfl
  simp only [F__law_name, wDef_ap]
  refine ⟨rfl, ?_⟩
  simp
  refine ap_take hr ok (by decide) (by decide) fun i r i0 i1 ok => ?_
  obtain ⟨d, hd, e⟩ := atI_isSome (ds := [D.str "a", .str "a", .str "b", .str "ab", .str "ac", .str "anna", .str "andy", .str "zzzzzzzz"]) i0 (by simpa using i1) (fun d => strOk d = true) (by decide +kernel)
  obtain ⟨x, rfl, hx⟩ := strOk_iff hd
  simp [e, Sto.keepOnly_set sm]
  exact h x r hx ok
theorem ap_person (hr : st a = some (.lst r)) (ok : RowOk r) (h : ∀ x r', nameOk x = true → RowOk r' → Q (.str x) (st.set a (.lst r'))) : F__law_person [.ref a] st X Q := by
  have sm : (st a).isSome = true := by rw [hr]; rfl
  simp only [F__law_person, wDef_ap]
  refine ⟨rfl, ?_⟩
  simp
  refine ap_take hr ok (by decide) (by decide) fun i r i0 i1 ok => ?_
  obtain ⟨d, hd, e⟩ := atI_isSome (ds := [D.str "joe", .str "ann", .str "a", .str "eightlet"]) i0 (by simpa using i1) (fun d => strOk d = true) (by decide +kernel)
  obtain ⟨x, rfl, hx⟩ := strOk_iff hd
  simp [e, Sto.keepOnly_set sm]
  exact h x r hx ok
theorem ap_until (hr : st a = some (.lst r)) (ok : RowOk r) (h : ∀ u r', 1 ≤ u → RowOk r' → Q (.int u) (st.set a (.lst r'))) : F__law_until [.ref a] st X Q := by
  have sm : (st a).isSome = true := by rw [hr]; rfl
  simp only [F__law_until, wDef_ap]
  refine ⟨rfl, ?_⟩
  simp
  refine ap_take hr ok (by decide) (by decide) fun x1 r hx1 _ ok => ?_
  refine ap_take Sto.set_same ok (by decide) (by decide) fun x2 r hx2 _ ok => ?_
  refine ap_take Sto.set_same ok (by decide) (by decide) fun x3 r hx3 _ ok => ?_
  refine ap_take Sto.set_same ok (by decide) (by decide) fun i r i0 i1 ok => ?_
  have hm : Mid 2 := ⟨by decide, by decide⟩
  by_cases hi : i = 0
  · simp [hi, dMul_int (st := (((st.set a (Cell.lst r))))) (i := 1) (j := 2) ⟨by decide, by decide⟩ hm, Sto.keepOnly_set sm]
    exact h _ r (by omega) ok
  · simp [hi, dMul_int (st := (((st.set a (Cell.lst r))))) (i := 0) (j := 2) ⟨by decide, by decide⟩ hm, Sto.keepOnly_set sm]
    exact h _ r (by omega) ok
theorem some_en {name p : Str} {k house u i m : Int} (hn : nameOk name = true) (hp : nameOk p = true) (hk : 1 ≤ k) (hh : 0 ≤ house) (hm : house < m) (hu : 1 ≤ u) (h0 : 0 ≤ i) (h1 : i < 8) : ∃ en : En, en.ok m ∧ atI [D.tup [.str "ask", .str name, .int k, .str p, .int u], .tup [.str "got", .str name, .int k, .int house, .int u], .tup [.str "word", .str name, .int house, .int k, .int u], .tup [.str "word", .str name, .int house, .int k, .int u],
    .tup [.str "got", .str name, .int k, .int house, .int u], .tup [.str "no", .str name, .int k, .int house], .tup [.str "free", .str name, .int house, .int k], .tup [.str "back", .str name, .int k]] i = some en.d := by
  have : i = 0 ∨ i = 1 ∨ i = 2 ∨ i = 3 ∨ i = 4 ∨ i = 5 ∨ i = 6 ∨ i = 7 := by omega
  rcases this with rfl | rfl | rfl | rfl | rfl | rfl | rfl | rfl
  · exact ⟨.ask name k p u, ⟨hn, hk, hu, hp⟩, rfl⟩
  · exact ⟨.got name k house u, ⟨hn, hk, hh, hm, hu⟩, rfl⟩
  · exact ⟨.word name house k u, ⟨hn, hk, hh, hm, hu⟩, rfl⟩
  · exact ⟨.word name house k u, ⟨hn, hk, hh, hm, hu⟩, rfl⟩
  · exact ⟨.got name k house u, ⟨hn, hk, hh, hm, hu⟩, rfl⟩
  · exact ⟨.no name k house, ⟨hn, hk, hh, hm⟩, rfl⟩
  · exact ⟨.free name house k, ⟨hn, hk, hh, hm⟩, rfl⟩
  · exact ⟨.back name k, ⟨hn, hk⟩, rfl⟩
theorem ap_entry7 (hr : st a = some (.lst r)) (ok : RowOk r) (hm0 : 0 < m) (hm1 : m ≤ 1000) (h : ∀ (e : En) r', e.ok m → RowOk r' → Q e.d (st.set a (.lst r'))) : F__law_entry [.ref a, .int m] st X Q := by
  have sm : (st a).isSome = true := by rw [hr]; rfl
  simp only [F__law_entry, wDef_ap]
  refine ⟨rfl, ?_⟩
  simp
  refine ap_name7 hr ok fun name r hnm ok => ?_
  refine ap_take Sto.set_same ok hm0 (by omega) fun house r h0 h1 ok => ?_
  simp
  refine ap_take Sto.set_same ok (by decide) (by decide) fun i r i0 i1 ok => ?_
  obtain ⟨d, ⟨x, rfl, x1⟩, e⟩ := atI_isSome (ds := [D.int 1, .int 1, .int 1, .int 9, .int 999999999999999999999999999997]) i0 (by simpa using i1) (fun d => ∃ x, d = .int x ∧ 1 ≤ x) (by simp)
  simp [e]
  refine ap_take Sto.set_same ok (by decide) (by decide) fun j r j0 j1 ok => ?_
  simp
  refine ap_until Sto.set_same ok fun u r u0 ok => ?_
  simp
  refine ap_person Sto.set_same ok fun p r hpm ok => ?_
  simp [dAdd_lst, sizeLine_eq]
  refine ap_take Sto.set_same ok (by decide) (by decide) fun i2 r i20 i21 ok => ?_
  obtain ⟨d2, ⟨x2, rfl, x20, x21⟩, e2⟩ := atI_isSome (ds := [D.int 0, .int 0, .int 1, .int 1, .int 2, .int 2, .int 3, .int 4, .int 5, .int 5, .int 6, .int 6, .int 7]) i20 (by simpa using i21) (fun d => ∃ x, d = .int x ∧ 0 ≤ x ∧ x < 8) (by simp)
  simp [e2]
  obtain ⟨en, eok, e3⟩ := some_en (name := name) (p := p) (k := x + j) (house := house) (u := u) (m := m) hnm hpm (by omega) h0 h1 u0 x20 x21
  simp [e3, Sto.keepOnly_set sm]
  exact h en r eok ok
theorem ap_log7 (hr : st a = some (.lst r)) (ok : RowOk r) (hm0 : 0 < m) (hm1 : m ≤ 1000) (hn0 : 0 ≤ n) (hn1 : n ≤ 1000) (h : ∀ (es : List En) r', es.length ≤ 1000 → (∀ e ∈ es, e.ok m) → RowOk r' → Q (.tup (es.map En.d)) (st.set a (.lst r'))) : F__law_log [.ref a, .int m, .int n] st X Q := by
  have sm : (st a).isSome = true := by rw [hr]; rfl
  simp only [F__law_log, wDef_ap]
  refine ⟨rfl, ?_⟩
  simp
  refine ap_take hr ok (by omega) (by omega) fun k r k0 k1 ok => ?_
  simp (disch := omega) [rangeOf_1, rangeL_map]
  refine compL_inv (fun acc rest st' => ∃ (es : List En) (r : List D), acc = es.map En.d ∧ RowOk r ∧ st' = st.set a (.lst r) ∧ (∀ e ∈ es, e.ok m) ∧ es.length + rest.length ≤ 1000) (fun _ _ _ _ => trivial) ?_ ?_ _ _ _ ⟨[], r, rfl, ok, rfl, (by simp), by rw [rangeI_len]; simp; omega⟩
  · rintro acc st' ⟨es, r, rfl, ok, rfl, hok, hl⟩
    simp [Sto.keepOnly_set sm]
    exact h es r (by simpa using hl) hok ok
  · rintro x rest acc st' N ⟨es, r, rfl, ok, rfl, hok, hl⟩ hN
    simp
    refine ap_entry7 Sto.set_same ok hm0 hm1 fun e r eok ok => ?_
    refine hN _ _ ⟨es ++ [e], r, by simp, ok, by simp, ?_, by simp at hl ⊢; omega⟩
    intro z hz
    rcases List.mem_append.mp hz with hz | hz
    · exact hok z hz
    · rw [List.mem_singleton.mp hz]; exact eok
theorem ap_long7 (hr : st a = some (.lst r)) (ok : RowOk r) {es : List En} {m : Int} (hok : ∀ e ∈ es, e.ok m) (hl : es.length ≤ 1000) (h : ∀ (es : List En) r', es.length ≤ 2000 → (∀ e ∈ es, e.ok m) → RowOk r' → Q (.tup (es.map En.d)) (st.set a (.lst r'))) : F__law_long [.ref a, .tup (es.map En.d)] st X Q := by
  have sm : (st a).isSome = true := by rw [hr]; rfl
  simp only [F__law_long, wDef_ap]
  refine ⟨rfl, ?_⟩
  simp
  refine ap_name7 hr ok fun name r hnm ok => ?_
  refine compL_imp (fun e : En => [some (.ref a), some (.tup (es.map En.d)), some (.str name), none, none, some e.d]) (fun e => decide (e.name = name)) En.d ?_ ?_ ?_ trivial ?_
  · simp
  · intro e he Q hq
    simpa using hq
  · simp
  · simp
    refine compL_imp (fun e : En => [some (.ref a), some (.tup (es.map En.d)), some (.str name), some (.tup ((es.filter fun e => decide (e.name = name)).map En.d)), none, some e.d]) (fun e => !decide (e.name = name)) En.d ?_ ?_ ?_ trivial ?_
    · simp
    · intro e he Q hq
      simpa using hq
    · simp
    · have hle := List.length_filter_le (fun e : En => decide (e.name = name)) es
      have hle2 := List.length_filter_le (fun e : En => !decide (e.name = name)) es
      have hle3 : (es.filter fun e => decide (e.name = name)).length + (es.filter fun e => !decide (e.name = name)).length = es.length := by
        rw [← List.countP_eq_length_filter, ← List.countP_eq_length_filter]
        have := List.length_eq_countP_add_countP (fun e : En => decide (e.name = name)) (l := es)
        simpa using this.symm
      generalize hmine : (es.filter fun e => decide (e.name = name)) = mine at *
      generalize hrest : (es.filter fun e => !decide (e.name = name)) = rest at *
      have ok1 : ∀ e ∈ mine, e.ok m := fun e he => by rw [← hmine] at he; exact hok e (List.mem_filter.mp he).1
      have ok2 : ∀ e ∈ rest, e.ok m := fun e he => by rw [← hrest] at he; exact hok e (List.mem_filter.mp he).1
      rw [List.nil_append, dAdd_lst (by simp [sizeLine_eq]; omega)]
      simp
      rw [show (List.map En.d rest ++ [D.tup [.str "back", .str "q", .int 7]]) = ((rest ++ [En.back "q" 7]).map En.d) by simp; rfl]
      generalize hz : rest ++ [En.back "q" 7] = zs
      have ok3 : ∀ e ∈ zs, e.ok m := fun e he => by
        rw [← hz] at he
        rcases List.mem_append.mp he with he | he
        · exact ok2 e he
        · rw [List.mem_singleton.mp he]; exact ⟨by decide +kernel, show (1 : Int) ≤ 7 by decide⟩
      have hzl : zs.length = rest.length + 1 := by rw [← hz]; simp
      have hpos : (0 : Int) < ((rest.length : Int) + 1) := by omega
      rw [dFdiv_int hpos ⟨by omega, by omega⟩, on_some]
      have hq0 : 0 ≤ (900 : Int) / ((rest.length : Int) + 1) := Int.ediv_nonneg (by decide) (by omega)
      have hq1 : (900 : Int) / ((rest.length : Int) + 1) ≤ 900 := Int.ediv_le_self _ (by decide)
      have hq2 : zs.length * ((900 : Int) / ((rest.length : Int) + 1)).toNat ≤ 900 := by
        have h1 : ((rest.length : Int) + 1) * ((900 : Int) / ((rest.length : Int) + 1)) ≤ 900 := Int.mul_ediv_self_le (by omega)
        have h2 : ((zs.length * ((900 : Int) / ((rest.length : Int) + 1)).toNat : Nat) : Int) = ((rest.length : Int) + 1) * ((900 : Int) / ((rest.length : Int) + 1)) := by
          rw [Int.natCast_mul, hzl, Int.toNat_of_nonneg hq0]; rfl
        omega
      rw [dMul_lst hq0 (by omega) (by rw [List.length_map]; have : sizeLine = 16777216 := rfl; omega)]
      rw [on_some]
      generalize ((900 : Int) / ((rest.length : Int) + 1)).toNat = k at *
      have e : (List.replicate k (zs.map En.d)).flatten = ((List.replicate k zs).flatten).map En.d := by
        rw [List.map_flatten, List.map_replicate]
      have el : (List.replicate k zs).flatten.length ≤ 900 := by rw [PyProof.Rows.lm_len_rep_flat, Nat.mul_comm]; exact hq2
      rw [e, cTuple_lst, on_some]
      have ok4 : ∀ e ∈ (List.replicate k zs).flatten, e.ok m := fun e he => by
        obtain ⟨l, hl1, hl2⟩ := List.mem_flatten.mp he
        rw [List.eq_of_mem_replicate hl1] at hl2
        exact ok3 e hl2
      generalize (List.replicate k zs).flatten = ws at *
      rw [dAdd_tup (by simp [sizeLine_eq]; omega), on_some, Sto.keepOnly_set sm, Sto.keepOnly_self, ← List.map_append]
      exact h (mine ++ ws) r (by simp; omega) (fun e he => (List.mem_append.mp he).elim (ok1 e) (ok4 e)) ok
end
end DL
namespace DL
open PySem PySem.Spec PyProof.Rows L2
/-! ### _law_same; the words of a log -/
def R__law_same (self : WF) : WF := wDef 4 2 true (wSeq (wIfS (wTB (wBin dIs (wVar 1) (wC .non))) (wRet (wBin dIs (wVar 0) (wC .non))) wSkip) (wSeq (wIfS (wTT (wCall cIsi (wCons (wVar 1) (wCons (wC (.ty "tuple")) wNil)))) (wSeq (wIfS (wTOr (wTNot (wTT (wCall cIsi (wCons (wVar 0) (wCons (wC (.ty "tuple")) wNil))))) (wTB (wBin dNe (wCall cLen (wCons (wVar 0) wNil)) (wCall cLen (wCons (wVar 1) wNil))))) (wRet (wC (.bl false))) wSkip) (wRet (wBin dEq (wComp (wiZip (wCons (wVar 0) (wCons (wVar 1) wNil))) (.tp [(.nm 2), (.nm 3)]) (wTNot (wTT (wFn self (wCons (wVar 2) (wCons (wVar 3) wNil))))) (wC (.int 1)) [2, 3]) (wLst wNil)))) wSkip) (wSeq (wIfS (wTT (wCall cIsi (wCons (wVar 1) (wCons (wC (.ty "str")) wNil)))) (wRet (wAnd (wCall cIsi (wCons (wVar 0) (wCons (wC (.ty "str")) wNil))) (wBin dEq (wVar 0) (wVar 1)))) wSkip) (wRet (wAnd (wCall cIsi (wCons (wVar 0) (wCons (wC (.ty "int")) wNil))) (wAnd (wNot (wCall cIsi (wCons (wVar 0) (wCons (wC (.ty "bool")) wNil)))) (wBin dEq (wVar 0) (wVar 1))))))))
def I__law_same : Nat → WF
  | 0 => wDef 4 2 true wNever
  | k + 1 => R__law_same (I__law_same k)
def F__law_same : WF := I__law_same 12
def F_word_in : WF := wDef 4 2 true (wSeq (wSet 2 (wC .non)) (wSeq (wFor (wiSeq (wVar 0)) (.nm 3) (wSeq (wIfS (wTAnd (wTB (wBin dEq (wBin ixD (wVar 3) (wC (.int 0))) (wC (.str "word")))) (wTB (wBin dEq (wBin ixD (wVar 3) (wC (.int 1))) (wVar 1)))) (wSet 2 (wSl (wVar 3) (wPart (wC (.int 2))) wNo)) wSkip) (wIfS (wTAnd (wTB (wBin dEq (wBin ixD (wVar 3) (wC (.int 0))) (wC (.str "free")))) (wTAnd (wTB (wBin dIsNot (wVar 2) (wC .non))) (wTB (wBin dEq (wSl (wVar 3) (wPart (wC (.int 1))) wNo) (wBin dAdd (wTup (wCons (wVar 1) wNil)) (wSl (wVar 2) wNo (wPart (wC (.int 2))))))))) (wSet 2 (wC .non)) wSkip)) [3]) (wRet (wVar 2))))
def F__law_word : WF := wDef 6 2 true (wSeq (wFor (wiDown (wCons (wBin dSub (wCall cLen (wCons (wVar 0) wNil)) (wC (.int 1))) (wCons (wC (.int (-1))) (wCons (wC (.int (-1))) wNil)))) (.nm 2) (wIfS (wTB (wBin dEq (wSl (wBin ixD (wVar 0) (wVar 2)) wNo (wPart (wC (.int 2)))) (wTup (wCons (wC (.str "word")) (wCons (wVar 1) wNil))))) (wSeq (wAsg (.tp [(.nm 3), (.nm 4), (.nm 5)]) (wSl (wBin ixD (wVar 0) (wVar 2)) (wPart (wC (.int 2))) wNo)) (wSeq (wIfS (wTB (wBin dIn (wTup (wCons (wC (.str "free")) (wCons (wVar 1) (wCons (wVar 3) (wCons (wVar 4) wNil))))) (wSl (wVar 0) (wPart (wVar 2)) wNo))) (wRet (wC .non)) wSkip) (wRet (wTup (wCons (wVar 3) (wCons (wVar 4) (wCons (wVar 5) wNil))))))) wSkip) [2, 3, 4, 5]) (wRet (wC .non)))

mutual
/-- None, numbers, texts, tuples of these, n deep at most -/
def tpl : Nat → D → Bool
  | _, .non => true
  | _, .int _ => true
  | _, .str _ => true
  | n, .tup ds => n != 0 && tplL (n - 1) ds
  | _, .bl _ => false
  | _, .kt _ => false
  | _, .lst _ => false
  | _, .kl _ => false
  | _, .ref _ => false
  | _, .ty _ => false
  | _, .exc _ => false
  | _, .cls _ => false
def tplL : Nat → List D → Bool
  | _, [] => true
  | n, d :: ds => tpl n d && tplL n ds
end
@[simp] theorem tpl_non {n : Nat} : tpl n .non = true := by unfold tpl; rfl
@[simp] theorem tpl_int {n : Nat} {i : Int} : tpl n (.int i) = true := by unfold tpl; rfl
@[simp] theorem tpl_str {n : Nat} {x : Str} : tpl n (.str x) = true := by unfold tpl; rfl
@[simp] theorem tpl_tup {n : Nat} {ds : List D} : tpl n (.tup ds) = (n != 0 && tplL (n - 1) ds) := by rw [tpl]
@[simp] theorem tplL_nil {n : Nat} : tplL n [] = true := by unfold tplL; rfl
@[simp] theorem tplL_cons {n : Nat} {d : D} {ds : List D} : tplL n (d :: ds) = (tpl n d && tplL n ds) := by rw [tplL]
theorem tplL_all {n : Nat} : ∀ {ds : List D}, tplL n ds = true ↔ ∀ d ∈ ds, tpl n d = true
  | [] => by simp
  | d :: ds => by simp [tplL_all]
theorem tplL_map {α : Type} {n : Nat} {f : α → D} {l : List α} (h : ∀ x ∈ l, tpl n (f x) = true) : tplL n (l.map f) = true := tplL_all.mpr fun d hd => by
  obtain ⟨x, hx, rfl⟩ := List.mem_map.mp hd
  exact h x hx
theorem zipL_self : ∀ ds : List D, zipL ds ds = ds.map fun d => .tup [d, d]
  | [] => rfl
  | d :: ds => by show D.tup [d, d] :: zipL ds ds = _; rw [zipL_self ds]; rfl
theorem ap_sameN {X : PoX} : ∀ (k n : Nat) (d : D) (st : Sto) (Q : PoE), n + 1 ≤ k → tpl n d = true → Q (.bl true) st → I__law_same k [d, d] st X Q
  | 0, _, _, _, _, h, _, _ => by omega
  | k + 1, n, d, st, Q, h, hd, hq => by
    show R__law_same (I__law_same k) [d, d] st X Q
    simp only [R__law_same, wDef_ap]
    refine ⟨rfl, ?_⟩
    cases d with
    | non => simp; exact hq
    | int i => simp; exact hq
    | str x => simp; exact hq
    | tup ds =>
      simp at hd
      simp [zip2, pr, zipL_self]
      refine compL_imp (fun d : D => [some (.tup ds), some (.tup ds), some d, some d]) (fun _ => false) (fun _ => .int 1) ?_ ?_ ?_ (by first | rfl | trivial | simp [zip2, pr]) ?_
      · simp
      · intro x hx Q hq
        simp
        refine ap_sameN k (n - 1) x st _ (by omega) (tplL_all.mp hd.2 x hx) ?_
        simpa using hq
      · simp
      · simp
        rw [dEq_lnil (plL_map fun _ _ => pl_int)]
        have e : ds.filter (fun _ => false) = [] := List.filter_eq_nil_iff.mpr fun _ _ => by simp
        simpa [e] using hq
    | _ => rw [tpl] at hd; cases hd
theorem ap_same {X : PoX} {d : D} {st : Sto} {Q : PoE} (h : tpl 10 d = true) (hq : Q (.bl true) st) : F__law_same [d, d] st X Q := ap_sameN 12 10 d st Q (by omega) h hq

/-! ### words -/
def En.ats : En → List At
  | .ask n k p u => [.s "ask", .s n, .i k, .s p, .i u] | .got n k h u => [.s "got", .s n, .i k, .i h, .i u] | .no n k h => [.s "no", .s n, .i k, .i h] | .back n k => [.s "back", .s n, .i k] | .word n h k u => [.s "word", .s n, .i h, .i k, .i u] | .free n h k => [.s "free", .s n, .i h, .i k]
theorem En.d_t (e : En) : e.d = At.t e.ats := by cases e <;> rfl
abbrev Wd := Option (Int × Int × Int)
def wdD : Wd → D
  | none => .non
  | some (h, k, u) => .tup [.int h, .int k, .int u]
def wdA (name : Str) (f : Wd) : En → Wd
  | .word n h k u => if n = name then some (h, k, u) else f
  | _ => f
def wdB (name : Str) (f : Wd) : En → Wd
  | .free n h k => match f with
    | some (h', k', _) => if n = name ∧ h = h' ∧ k = k' then none else f
    | none => none
  | _ => f
def wdStep (name : Str) (f : Wd) (e : En) : Wd := wdB name (wdA name f e) e
def wordIn (es : List En) (name : Str) : Wd := es.foldl (wdStep name) none
section
variable {st : Sto} {X : PoX} {Q : PoE} {name : Str} {es : List En}
theorem ap_word_in (hq : Q (wdD (wordIn es name)) st) : F_word_in [.tup (es.map En.d), .str name] st X Q := by
  simp only [F_word_in, wDef_ap]
  refine ⟨rfl, ?_⟩
  simp
  refine wForL_typed (fun rest e' st' => st = st' ∧ ∃ done, es = done ++ rest ∧ e' = [some (.tup (es.map En.d)), some (.str name), some (wdD (wordIn done name)), none]) (fun _ _ _ _ => trivial) ?_ ?_ _ _ _ ⟨rfl, [], rfl, rfl⟩
  · rintro e' st' ⟨rfl, done, h1, rfl⟩
    rw [List.append_nil] at h1
    subst h1
    simpa using hq
  · rintro x rest e' _ N ⟨rfl, done, h1, rfl⟩ hN
    have key : N [some (.tup (es.map En.d)), some (.str name), some (wdD (wdStep name (wordIn done name) x)), none] st := hN _ _ ⟨rfl, done ++ [x], by rw [h1]; simp, by simp [wordIn]⟩
    simp [-wIfS_ap, ofString_inj]
    generalize wordIn done name = f at *
    refine wIfS_via (fun e2 st2 => st = st2 ∧ e2 = [some (.tup (es.map En.d)), some (.str name), some (wdD (wdA name f x)), some x.d]) ?_ ?_
    · intro N2 hN2
      cases x <;> simp [En.kind, ofString_inj] <;> first | exact hN2 _ _ ⟨rfl, rfl⟩ | skip
      rename_i n h k u
      by_cases hn : n = name
      · subst hn
        simp [En.name, En.d, En.i2, En.tl, cutD_from]
        exact hN2 _ _ ⟨rfl, by simp [wdA, wdD, En.d, En.kind, En.name, En.i2, En.tl]⟩
      · simp [En.name, hn]
        exact hN2 _ _ ⟨rfl, by simp [wdA, hn]⟩
    · rintro e2 _ ⟨rfl, rfl⟩
      have key : N [some (.tup (es.map En.d)), some (.str name), some (wdD (wdB name (wdA name f x) x)), none] st := key
      generalize wdA name f x = g at *
      simp
      cases x <;> simp [En.kind, ofString_inj] <;> first | exact key | skip
      rename_i nm hh kk key0
      cases g with
      | none => simp [wdD]; exact key
      | some w =>
        obtain ⟨h', k', u'⟩ := w
        simp [wdD, En.name, En.d, En.i2, En.tl, cutD_from, cutD_to, dAdd_tup, sizeLine_eq]
        rw [dEq_t (x := .tup [.str nm, .int hh, .int kk]) (y := .tup [.str name, .int h', .int k']) [.s nm, .i hh, .i kk] [.s name, .i h', .i k'] rfl rfl]
        by_cases hc : nm = name ∧ hh = h' ∧ kk = k'
        · simp [hc]
          simpa [wdB, hc, wdD] using key
        · simp [hc]
          simpa [wdB, hc, wdD] using key
/-- from behind -/
def noWd (name : Str) (ys : List En) : Prop := ∀ y ∈ ys, ∀ h k u, y ≠ .word name h k u
theorem wdStep_none {name : Str} {y : En} (h : ∀ a b c, y ≠ .word name a b c) : wdStep name none y = none := by
  unfold wdStep
  cases y <;> simp [wdA, wdB]
  rename_i n a b c
  intro e
  subst e
  exact absurd rfl (h a b c)
theorem wdStep_some {name : Str} {y : En} {a b c : Int} (h : ∀ a b c, y ≠ .word name a b c) : wdStep name (some (a, b, c)) y = if y = .free name a b then none else some (a, b, c) := by
  unfold wdStep
  cases y <;> simp [wdA, wdB]
  rename_i n x y z
  intro e
  subst e
  exact absurd rfl (h x y z)
theorem fold_none {name : Str} : ∀ {ys : List En}, noWd name ys → ys.foldl (wdStep name) none = none
  | [], _ => rfl
  | y :: ys, h => by
    rw [List.foldl_cons, wdStep_none (h y List.mem_cons_self)]
    exact fold_none fun z hz => h z (List.mem_cons_of_mem _ hz)
theorem fold_some {name : Str} {a b c : Int} : ∀ {ys : List En}, noWd name ys → ys.foldl (wdStep name) (some (a, b, c)) = if En.free name a b ∈ ys then none else some (a, b, c)
  | [], _ => rfl
  | y :: ys, h => by
    rw [List.foldl_cons, wdStep_some (h y List.mem_cons_self)]
    have hr : noWd name ys := fun z hz => h z (List.mem_cons_of_mem _ hz)
    by_cases e : y = .free name a b
    · rw [if_pos e, fold_none hr, if_pos (by rw [e]; exact List.mem_cons_self)]
    · rw [if_neg e, fold_some hr]
      have : (En.free name a b ∈ y :: ys) ↔ En.free name a b ∈ ys := by
        rw [List.mem_cons]
        exact ⟨fun z => z.resolve_left (fun q => e q.symm), .inr⟩
      by_cases q : En.free name a b ∈ ys
      · rw [if_pos q, if_pos (this.mpr q)]
      · rw [if_neg q, if_neg (fun z => q (this.mp z))]
theorem wordIn_at {name : Str} {xs ys : List En} {a b c : Int} (h : noWd name ys) : wordIn (xs ++ .word name a b c :: ys) name = if En.free name a b ∈ ys then none else some (a, b, c) := by
  unfold wordIn
  rw [List.foldl_append, List.foldl_cons]
  have e : wdStep name (List.foldl (wdStep name) none xs) (.word name a b c) = some (a, b, c) := by simp [wdStep, wdA, wdB]
  rw [e, fold_some h]
end
theorem rangeDn_succ (n : Nat) : rangeDn (((n + 1 : Nat) : Int) - 1) (-1) = (n : Int) :: rangeDn ((n : Int) - 1) (-1) := by
  unfold rangeDn
  have e1 : (((n + 1 : Nat) : Int) - 1 - (-1)).toNat = n + 1 := by omega
  have e2 : ((n : Int) - 1 - (-1)).toNat = n := by omega
  rw [e1, e2, List.range_succ_eq_map, List.map_cons, List.map_map]
  congr 1
  · omega
  · refine List.map_congr_left fun k _ => ?_
    simp only [Function.comp]
    omega
theorem rangeDn_zero : rangeDn (((0 : Nat) : Int) - 1) (-1) = [] := by decide +kernel
theorem ats_inj {a b : En} (h : a.ats = b.ats) : a = b := by
  cases a <;> cases b <;> simp [En.ats, ofString_inj] at h ⊢ <;> exact h
theorem mem_ats {e : En} {es : List En} : e.ats ∈ es.map En.ats ↔ e ∈ es := by
  rw [List.mem_map]
  exact ⟨fun ⟨x, hx, he⟩ => ats_inj he ▸ hx, fun h => ⟨e, h, rfl⟩⟩
theorem map_d_t (es : List En) : es.map En.d = (es.map En.ats).map At.t := by
  rw [List.map_map]
  exact List.map_congr_left fun e _ => e.d_t
section
variable {st : Sto} {X : PoX} {Q : PoE} {name : Str} {es : List En}
theorem ap_law_word (hl : es.length ≤ 5000) (hq : Q (wdD (wordIn es name)) st) : F__law_word [.tup (es.map En.d), .str name] st X Q := by
  simp only [F__law_word, wDef_ap]
  refine ⟨rfl, ?_⟩
  simp
  rw [downOf_1 (by omega) (by omega) (by omega) (by omega), on_some]
  refine wForL_typed (fun rest e' st' => st = st' ∧ e' = [some (.tup (es.map En.d)), some (.str name), none, none, none, none] ∧ ∃ n : Nat, rest = rangeDn ((n : Int) - 1) (-1) ∧ n ≤ es.length ∧ noWd name (es.drop n)) (fun _ _ _ _ => trivial) ?_ ?_ _ _ _ ⟨rfl, rfl, es.length, rfl, Nat.le_refl _, by rw [List.drop_length]; exact fun _ h => nomatch h⟩
  · rintro e' _ ⟨rfl, rfl, n, h1, h2, h3⟩
    cases n with
    | succ n => rw [rangeDn_succ] at h1; cases h1
    | zero =>
      have : wordIn es name = none := fold_none h3
      rw [this] at hq
      simpa [wdD] using hq
  · rintro x rest e' _ N ⟨rfl, rfl, n, h1, h2, h3⟩ hN
    cases n with
    | zero => rw [rangeDn_zero] at h1; cases h1
    | succ n =>
      rw [rangeDn_succ] at h1
      injection h1 with hx hr
      subst hx
      have hn : n < es.length := by omega
      have eix : atI (es.map En.d) (n : Int) = some es[n].d := by rw [atI_N, List.getElem?_map, List.getElem?_eq_getElem hn]; rfl
      have edr : es.drop n = es[n] :: es.drop (n + 1) := (List.getElem_cons_drop hn).symm
      have nxt : (∀ h k u, es[n] ≠ .word name h k u) → N [some (.tup (es.map En.d)), some (.str name), none, none, none, none] st := fun hne => hN _ _ ⟨rfl, rfl, n, hr, by omega, by
        rw [edr]
        intro y hy
        rcases List.mem_cons.mp hy with rfl | hy
        · exact hne
        · exact h3 y hy⟩
      simp [eix]
      generalize hen : es[n] = en at *
      have esp : es = es.take n ++ en :: es.drop (n + 1) := by rw [← edr, List.take_append_drop]
      simp [En.d, cutD_to]
      rw [dEq_t (x := .tup [.str (Str.ofString en.kind), .str en.name]) (y := .tup [.str "word", .str name]) [.s en.kind, .s en.name] [.s "word", .s name] rfl rfl]
      simp [ofString_inj]
      by_cases hw : en.kind = "word" ∧ en.name = name
      · cases en with
        | word nm h k u =>
          have : nm = name := hw.2
          subst this
          simp [hw, En.tl, En.i2, cutD_from]
          have e1 : dIn st (.tup [.str "free", .str nm, .int h, .int k]) (.tup (List.drop n (es.map En.d))) = some (.bl (decide ((En.free nm h k).ats ∈ (es.drop n).map En.ats))) := dIn_t rfl (by rw [← List.map_drop, map_d_t])
          have e2 : ((En.free nm h k).ats ∈ (es.drop n).map En.ats) ↔ En.free nm h k ∈ es.drop (n + 1) := by
            rw [mem_ats, edr, List.mem_cons]
            exact ⟨fun z => z.resolve_left (fun q => nomatch q), .inr⟩
          have e3 : wordIn es nm = if En.free nm h k ∈ es.drop (n + 1) then none else some (h, k, u) := by
            have := wordIn_at (xs := es.take n) (a := h) (b := k) (c := u) h3
            rw [← esp] at this
            exact this
          rw [e1, on_some, bOf_bl, on_some]
          rw [e3] at hq
          by_cases q : En.free nm h k ∈ es.drop (n + 1)
          · rw [if_pos q] at hq
            rw [decide_eq_true (e2.mpr q)]
            exact hq
          · rw [if_neg q] at hq
            rw [decide_eq_false (fun z => q (e2.mp z))]
            exact hq
        | _ => exact absurd hw.1 (by simp [En.kind])
      · simp [hw]
        refine nxt fun h k u e => hw ?_
        rw [e]
        exact ⟨rfl, rfl⟩
end
end DL
namespace DL
open PySem PySem.Spec PyProof.Rows L2
/-! ### entries of a kind; claims -/
def F_entries_of : WF := wDef 4 3 true (wRet (wComp (wiSeq (wVar 0)) (.nm 3) (wTAnd (wTB (wBin dEq (wBin ixD (wVar 3) (wC (.int 0))) (wVar 1))) (wTB (wBin dEq (wBin ixD (wVar 3) (wC (.int 1))) (wVar 2)))) (wVar 3) [3]))
def F_greatest_asked : WF := wDef 3 2 true (wRet (wCall cMax (wCons (wBin dAdd (wLst (wCons (wC (.int 0)) wNil)) (wComp (wiSeq (wFn F_entries_of (wCons (wVar 0) (wCons (wC (.str "ask")) (wCons (wVar 1) wNil))))) (.nm 2) wYes (wBin ixD (wVar 2) (wC (.int 2))) [2])) wNil)))

def entsOf (es : List En) (kind : String) (name : Str) : List En := es.filter fun e => decide (e.kind = kind) && decide (e.name = name)
section
variable {st : Sto} {X : PoX} {Q : PoE} {name : Str} {kind : String} {es : List En}
theorem ap_entries (hq : Q (.lst ((entsOf es kind name).map En.d)) st) : F_entries_of [.tup (es.map En.d), .str (Str.ofString kind), .str name] st X Q := by
  simp only [F_entries_of, wDef_ap]
  refine ⟨rfl, ?_⟩
  simp
  refine compL_imp (fun e : En => [some (.tup (es.map En.d)), some (.str (Str.ofString kind)), some (.str name), some e.d]) (fun e => decide (e.kind = kind) && decide (e.name = name)) En.d ?_ ?_ ?_ trivial ?_
  · simp
  · intro e he Q hq
    simp [ofString_inj]
    by_cases h1 : e.kind = kind
    · simpa [h1] using hq
    · simpa [h1] using hq
  · simp
  · simpa [entsOf] using hq
def askedNums (es : List En) (name : Str) : List Int := (entsOf es "ask" name).map En.i2
def greatest (es : List En) (name : Str) : Int := maxL 0 (askedNums es name)
theorem ap_greatest (hl : es.length ≤ 100000) (hq : Q (.int (greatest es name)) st) : F_greatest_asked [.tup (es.map En.d), .str name] st X Q := by
  simp only [F_greatest_asked, wDef_ap]
  refine ⟨rfl, ?_⟩
  simp
  refine ap_entries ?_
  simp
  refine compL_imp (fun e : En => [some (.tup (es.map En.d)), some (.str name), some e.d]) (fun _ => true) (fun e => .int e.i2) ?_ ?_ ?_ trivial ?_
  · simp
  · intro e he Q hq
    simpa using hq
  · simp
  · have hle := List.length_filter_le (fun e : En => decide (e.kind = "ask") && decide (e.name = name)) es
    have e1 : ([] : List D) ++ ((entsOf es "ask" name).filter fun _ => true).map (fun e => D.int e.i2) = (askedNums es name).map .int := by
      rw [List.filter_eq_self.mpr (fun _ _ => rfl), List.nil_append, askedNums, List.map_map]
      rfl
    rw [e1, dAdd_lst (by rw [sizeLine_eq]; simp [askedNums, entsOf]; omega)]
    rw [on_some, cMax_ls (n := 0) (ns := askedNums es name) (by simp), on_some]
    simpa [greatest] using hq
end
/-! ### dicts of numbers -/
def encK {α : Type} (f : α → D) (kvs : List (Int × α)) : List (L2.Key × D) := kvs.map fun q => ((Sum.inl q.1 : L2.Key), f q.2)
def getI {α : Type} (kvs : List (Int × α)) (k : Int) : Option α := (kvs.find? fun q => decide (q.1 = k)).map (·.2)
def putI {α : Type} (kvs : List (Int × α)) (k : Int) (v : α) : List (Int × α) := if kvs.any (fun q => decide (q.1 = k)) then kvs.map (fun q => if q.1 = k then (q.1, v) else q) else kvs ++ [(k, v)]
section
variable {α : Type} {f : α → D} {kvs : List (Int × α)} {k : Int} {v : α}
theorem enc_val : ∀ {kvs : List (Int × α)}, valD (encK f kvs) (Sum.inl k) = (getI kvs k).map f
  | [] => rfl
  | (a, b) :: r => by
    show (if (Sum.inl a : L2.Key) = Sum.inl k then some (f b) else valD (encK f r) (Sum.inl k)) = _
    unfold getI
    by_cases h : a = k
    · subst h; simp
    · rw [if_neg (fun z => h (Sum.inl.inj z)), enc_val, List.find?_cons_of_neg (by simpa using h)]; rfl
theorem enc_put : putKD (encK f kvs) (Sum.inl k) (f v) = encK f (putI kvs k v) := by
  have ha : ((encK f kvs).any fun kv => decide (kv.1 = (Sum.inl k : L2.Key))) = kvs.any fun q => decide (q.1 = k) := by
    unfold encK
    rw [List.any_map]
    congr 1
    funext q
    show decide ((Sum.inl q.1 : L2.Key) = Sum.inl k) = decide (q.1 = k)
    by_cases h : q.1 = k
    · rw [h]; simp
    · rw [decide_eq_false h, decide_eq_false (fun z => h (Sum.inl.inj z))]
  unfold putKD putI
  rw [ha]
  split
  · unfold encK
    rw [List.map_map, List.map_map]
    refine List.map_congr_left fun q _ => ?_
    show (if (Sum.inl q.1 : L2.Key) = Sum.inl k then ((Sum.inl q.1 : L2.Key), f v) else (Sum.inl q.1, f q.2)) = ((Sum.inl (if q.1 = k then (q.1, v) else q).1 : L2.Key), f (if q.1 = k then (q.1, v) else q).2)
    by_cases h : q.1 = k
    · rw [if_pos h, if_pos (by rw [h])]
    · rw [if_neg h, if_neg (fun z => h (Sum.inl.inj z))]
  · unfold encK
    rw [List.map_append]; rfl
theorem dctGet_enc {st : Sto} {a : Addr} (h : st a = some (.dk (encK f kvs))) : dctGet (st a) (.int k) = some ((getI kvs k).map f) := by
  rw [h]
  show (keyOf (.int k)).map (fun key => valD (encK f kvs) key) = _
  show some (valD (encK f kvs) (Sum.inl k)) = _
  rw [enc_val]
theorem putD_enc {st : Sto} {a : Addr} (h : st a = some (.dk (encK f kvs))) (hz : kvs.length < sizeLine) : putD st (.ref a) (.int k) (f v) = some (st.set a (.dk (encK f (putI kvs k v)))) := by
  unfold putD
  simp only
  rw [h]
  show (keyOf (.int k)).bind (fun key => if (encK f kvs).length < sizeLine then some (st.set a (.dk (putKD (encK f kvs) key (f v)))) else none) = _
  show (if (encK f kvs).length < sizeLine then some (st.set a (.dk (putKD (encK f kvs) (Sum.inl k) (f v)))) else none) = _
  rw [if_pos (by unfold encK; rw [List.length_map]; exact hz), enc_put]
theorem keysI_enc : ∀ {kvs : List (Int × α)}, keysI (encK f kvs) = some (kvs.map (·.1))
  | [] => rfl
  | (a, b) :: r => by
    show (keysI (encK f r)).map (a :: ·) = _
    rw [keysI_enc]; rfl
theorem itemsI_enc : ∀ {kvs : List (Int × Int)}, itemsI (encK D.int kvs) = some kvs
  | [] => rfl
  | (a, b) :: r => by
    show (itemsI (encK D.int r)).map ((a, b) :: ·) = _
    rw [itemsI_enc]; rfl
theorem putI_keys : (putI kvs k v).map (·.1) = if k ∈ kvs.map (·.1) then kvs.map (·.1) else kvs.map (·.1) ++ [k] := by
  have e : (kvs.any fun q => decide (q.1 = k)) = decide (k ∈ kvs.map (·.1)) := by
    rw [Bool.eq_iff_iff, decide_eq_true_iff]
    simp [List.any_eq_true]
  unfold putI
  rw [e]
  by_cases h : k ∈ kvs.map (·.1)
  · rw [if_pos h, if_pos (by simpa using h), List.map_map]
    refine List.map_congr_left fun q _ => ?_
    show (if q.1 = k then (q.1, v) else q).1 = q.1
    split <;> rfl
  · rw [if_neg h, if_neg (by simpa using h), List.map_append]; rfl
theorem putI_nodup (h : (kvs.map (·.1)).Nodup) : ((putI kvs k v).map (·.1)).Nodup := by
  rw [putI_keys]
  split
  · exact h
  · rename_i hk
    exact List.nodup_append.mpr ⟨h, by simp, fun x hx y hy e => hk (by rw [List.mem_singleton.mp hy] at e; rw [← e]; exact hx)⟩
end
section
variable {α : Type} {kvs : List (Int × α)} {k j : Int} {v : α}
theorem getI_none_iff : getI kvs k = none ↔ k ∉ kvs.map (·.1) := by
  unfold getI
  rw [Option.map_eq_none_iff, List.find?_eq_none]
  constructor
  · intro h hm
    obtain ⟨q, hq, e⟩ := List.mem_map.mp hm
    exact h q hq (by simpa using e)
  · intro h q hq e
    exact h (List.mem_map.mpr ⟨q, hq, by simpa using e⟩)
theorem getI_mem (h : getI kvs k = some v) : (k, v) ∈ kvs := by
  unfold getI at h
  obtain ⟨q, h1, h2⟩ := Option.map_eq_some_iff.mp h
  have := List.find?_some h1
  have hm := List.mem_of_find?_eq_some h1
  have : q.1 = k := by simpa using this
  subst this h2
  exact hm
theorem getI_of_mem (nd : (kvs.map (·.1)).Nodup) (h : (k, v) ∈ kvs) : getI kvs k = some v := by
  induction kvs with
  | nil => cases h
  | cons q r ih =>
    obtain ⟨h1, h2⟩ := List.nodup_cons.mp nd
    unfold getI
    rcases List.mem_cons.mp h with e | h
    · subst e; simp
    · have hk : q.1 ≠ k := fun e => h1 (by show q.1 ∈ r.map (·.1); rw [e]; exact List.mem_map.mpr ⟨_, h, rfl⟩)
      rw [List.find?_cons_of_neg (by simpa using hk)]
      exact ih h2 h
/-- to put what is there changes nothing -/
theorem putI_self (nd : (kvs.map (·.1)).Nodup) (h : getI kvs k = some v) : putI kvs k v = kvs := by
  have hm := getI_mem h
  unfold putI
  rw [if_pos (List.any_eq_true.mpr ⟨_, hm, by simp⟩)]
  have : ∀ q ∈ kvs, (if q.1 = k then (q.1, v) else q) = q := fun q hq => by
    by_cases e : q.1 = k
    · rw [if_pos e]
      obtain ⟨q1, q2⟩ := q
      have e : q1 = k := e
      subst e
      have := getI_of_mem nd hq
      rw [h] at this
      cases this; rfl
    · rw [if_neg e]
  exact (List.map_congr_left this).trans (List.map_id _)
end
/-- the pairs by their keys' order -/
theorem sortP_keys {kvs : List (Int × Int)} (nd : (kvs.map (·.1)).Nodup) : sortP kvs = (sortI (kvs.map (·.1))).map fun k => (k, (getI kvs k).getD 0) := by
  refine (sortP_is ?_ ?_).symm
  · have e : kvs = (kvs.map (·.1)).map fun k => (k, (getI kvs k).getD 0) := by
      rw [List.map_map]
      exact ((List.map_congr_left fun q hq => by
        show (q.1, (getI kvs q.1).getD 0) = id q
        rw [getI_of_mem nd (show (q.1, q.2) ∈ kvs from hq)]; rfl).trans (List.map_id _)).symm
    have := (sortI_perm (kvs.map (·.1))).map fun k => (k, (getI kvs k).getD 0)
    rw [← e] at this
    exact this
  · have nds : (sortI (kvs.map (·.1))).Nodup := (sortI_perm _).nodup_iff.mpr nd
    refine List.pairwise_map.mpr ?_
    have both : (sortI (kvs.map (·.1))).Pairwise fun x y => x ≤ y ∧ x ≠ y := List.Pairwise.and (sortI_srt (kvs.map (·.1))) nds
    refine both.imp fun {x y} h => ?_
    exact SrtO.lexB_no.mpr (by
      show ¬ (y < x ∨ (y = x ∧ _))
      have := h.1
      have := h.2
      omega)
end DL
namespace DL
open PySem PySem.Spec PyProof.Rows L2
/-! ### the claim of a log -/
def F_claim_in : WF := wDef 9 2 true (wSeq (wSet 2 (wFn F_greatest_asked (wCons (wVar 0) (wCons (wVar 1) wNil)))) (wSeq (wIfS (wTOr (wTB (wBin dEq (wVar 2) (wC (.int 0)))) (wTB (wBin dIn (wTup (wCons (wC (.str "back")) (wCons (wVar 1) (wCons (wVar 2) wNil)))) (wVar 0)))) (wRet (wC .non)) wSkip) (wSeq (wSet 3 (wComp (wiSeq (wFn F_entries_of (wCons (wVar 0) (wCons (wC (.str "ask")) (wCons (wVar 1) wNil))))) (.nm 5) (wTB (wBin dEq (wBin ixD (wVar 5) (wC (.int 2))) (wVar 2))) (wVar 5) [5])) (wSeq (wSet 4 wDictR) (wSeq (wFor (wiSeq (wFn F_entries_of (wCons (wVar 0) (wCons (wC (.str "got")) (wCons (wVar 1) wNil))))) (.nm 5) (wIfS (wTB (wBin dEq (wBin ixD (wVar 5) (wC (.int 2))) (wVar 2))) (wPut (wVar 4) (wBin ixD (wVar 5) (wC (.int 3))) (wCall cMax (wCons (wGet2 (wVar 4) (wBin ixD (wVar 5) (wC (.int 3))) (wC (.int 0))) (wCons (wBin ixD (wVar 5) (wC (.int 4))) wNil)))) wSkip) []) (wSeq (wSet 6 (wDictP (wCons (wComp (wiSeq (wFn F_entries_of (wCons (wVar 0) (wCons (wC (.str "no")) (wCons (wVar 1) wNil))))) (.nm 5) (wTB (wBin dEq (wBin ixD (wVar 5) (wC (.int 2))) (wVar 2))) (wTup (wCons (wBin ixD (wVar 5) (wC (.int 3))) (wCons (wC (.bl true)) wNil))) [5]) wNil))) (wSeq (wSet 7 (wCall cTuple (wCons (wComp (wiSeq (wCall cSorted (wCons (wVar 6) wNil))) (.nm 8) (wTB (wBin dNotIn (wVar 8) (wVar 4))) (wVar 8) [8]) wNil))) (wRet (wTup (wCons (wVar 2) (wCons (wBin ixD (wBin ixD (wVar 3) (wC (.int (-1)))) (wC (.int 3))) (wCons (wCall cMax (wCons (wComp (wiSeq (wVar 3)) (.nm 5) wYes (wBin ixD (wVar 5) (wC (.int 4))) [5]) wNil)) (wCons (wCall cTuple (wCons (wSortIt (wVar 4)) wNil)) (wCons (wVar 7) wNil))))))))))))))

def En.i3 : En → Int
  | .got _ _ h _ => h | .no _ _ h => h | .word _ _ k _ => k | .free _ _ k => k | .ask .. => 0 | .back .. => 0
def En.i4 : En → Int
  | .ask _ _ _ u => u | .got _ _ _ u => u | .word _ _ _ u => u | _ => 0
def En.per : En → Str
  | .ask _ _ p _ => p | _ => ""
theorem ents_kind {es : List En} {kind : String} {name : Str} {e : En} (h : e ∈ entsOf es kind name) : e ∈ es ∧ e.kind = kind ∧ e.name = name := by
  obtain ⟨h1, h2⟩ := List.mem_filter.mp h
  simp at h2
  exact ⟨h1, h2.1, h2.2⟩
theorem ixD_got3 {st : Sto} {e : En} (h : e.kind = "got") : ixD st e.d (.int 3) = some (.int e.i3) ∧ ixD st e.d (.int 4) = some (.int e.i4) := by
  cases e <;> simp [En.kind] at h
  exact ⟨rfl, rfl⟩
theorem ixD_no3 {st : Sto} {e : En} (h : e.kind = "no") : ixD st e.d (.int 3) = some (.int e.i3) := by
  cases e <;> simp [En.kind] at h
  rfl
theorem ixD_ask3 {st : Sto} {e : En} (h : e.kind = "ask") : ixD st e.d (.int 3) = some (.str e.per) ∧ ixD st e.d (.int 4) = some (.int e.i4) := by
  cases e <;> simp [En.kind] at h
  exact ⟨rfl, rfl⟩
abbrev ats (es : List En) (kind : String) (name : Str) (num : Int) : List En := (entsOf es kind name).filter fun e => decide (e.i2 = num)
def wStep (acc : List (Int × Int)) (e : En) : List (Int × Int) := putI acc e.i3 (if e.i4 > (getI acc e.i3).getD 0 then e.i4 else (getI acc e.i3).getD 0)
def wordsAt (es : List En) (name : Str) (num : Int) : List (Int × Int) := (ats es "got" name num).foldl wStep []
def noesAt (es : List En) (name : Str) (num : Int) : List (Int × Bool) := (ats es "no" name num).foldl (fun acc e => putI acc e.i3 true) []
structure Cl where
  num : Int
  per : Str
  til : Int
  words : List (Int × Int)
  others : List Int
  deriving DecidableEq
def Cl.d (c : Cl) : D := .tup [.int c.num, .str c.per, .int c.til, .tup (c.words.map pairD), .tup (c.others.map .int)]
def clD : Option Cl → D
  | none => .non
  | some c => c.d
def claimOf (es : List En) (name : Str) : Option Cl :=
  let num := greatest es name
  if num = 0 ∨ En.back name num ∈ es then none else
  some ⟨num, (((ats es "ask" name num).getLast?).map En.per).getD "", maxL 0 ((ats es "ask" name num).map En.i4), sortP (wordsAt es name num), (sortI ((noesAt es name num).map (·.1))).filter fun h => !decide (h ∈ (wordsAt es name num).map (·.1))⟩
theorem putI_len {α : Type} {kvs : List (Int × α)} {k : Int} {v : α} : (putI kvs k v).length ≤ kvs.length + 1 := by
  unfold putI
  split
  · rw [List.length_map]; omega
  · rw [List.length_append]; simp
theorem fold_len {α : Type} {g : List (Int × α) → En → List (Int × α)} (h : ∀ a e, (g a e).length ≤ a.length + 1) : ∀ (l : List En) (a : List (Int × α)), (l.foldl g a).length ≤ a.length + l.length
  | [], a => by simp
  | e :: l, a => by
    have := fold_len h l (g a e)
    have := h a e
    rw [List.foldl_cons, List.length_cons]; omega
section
variable {α : Type} {f : α → D} {kvs more : List (Int × α)} {st : Sto} {a : Addr} {k : Int} {v : α}
theorem inB_dk (h : st a = some (.dk (encK f kvs))) : inB st (.int k) (.ref a) = some (decide (k ∈ kvs.map (·.1))) := by
  have e : sqOf st (.ref a) = none := by show cellL (st a) = none; rw [h]; rfl
  show (match sqOf st (.ref a) with | some ds => anyEq st ds (.int k) | none => (dctGet (st a) (.int k)).map Option.isSome) = _
  rw [e]
  show (dctGet (st a) (.int k)).map Option.isSome = _
  rw [dctGet_enc h]
  show some ((getI kvs k).map f).isSome = _
  rw [Option.isSome_map]
  congr 1
  by_cases m : k ∈ kvs.map (·.1)
  · cases e2 : getI kvs k with
    | none => exact absurd m (getI_none_iff.mp e2)
    | some v => rw [decide_eq_true m]; rfl
  · rw [getI_none_iff.mpr m, decide_eq_false m]; rfl
theorem dIn_dk (h : st a = some (.dk (encK f kvs))) : dIn st (.int k) (.ref a) = some (.bl (decide (k ∈ kvs.map (·.1)))) := by
  unfold dIn; rw [inB_dk h]; rfl
theorem dNotIn_dk (h : st a = some (.dk (encK f kvs))) : dNotIn st (.int k) (.ref a) = some (.bl (!decide (k ∈ kvs.map (·.1)))) := by
  unfold dNotIn; rw [inB_dk h]; rfl
theorem ixD_dk (h : st a = some (.dk (encK f kvs))) (e : getI kvs k = some v) : ixD st (.ref a) (.int k) = some (f v) := by
  have e0 : sqOf st (.ref a) = none := by show cellL (st a) = none; rw [h]; rfl
  have e1 := dctGet_enc (k := k) h
  rw [e] at e1
  show (match sqOf st (.ref a) with | some ds => atI ds k | none => (dctGet (st a) (.int k)).bind id) = _
  rw [e0]
  simp only
  rw [e1]; rfl
theorem cSorted_dk (h : st a = some (.dk (encK f kvs))) (hz : kvs.length ≤ sizeLine) : cSorted st [.ref a] = some (.lst ((sortI (kvs.map (·.1))).map .int)) := by
  have e : keysOfD st (.ref a) = some (kvs.map (·.1)) := by
    show (cellKV (st a)).bind keysI = _
    rw [h]
    exact keysI_enc
  unfold cSorted
  simp only
  rw [e]
  simp only
  rw [if_pos (by rw [List.length_map]; exact hz)]
theorem itemsOf_dk {kvs : List (Int × Int)} (h : st a = some (.dk (encK D.int kvs))) : itemsOf st (.ref a) = some kvs := by
  show (cellKV (st a)).bind itemsI = _
  rw [h]
  exact itemsI_enc
theorem pairsL_enc : ∀ {kvs : List (Int × α)}, pairsL (kvs.map fun q => .tup [.int q.1, f q.2]) = some (encK f kvs)
  | [] => rfl
  | q :: r => by
    show (keyOf (.int q.1)).bind (fun k => (pairsL (r.map fun q => .tup [.int q.1, f q.2])).map ((k, f q.2) :: ·)) = _
    rw [pairsL_enc]; rfl
theorem mergeD_enc : ∀ {more kvs : List (Int × α)}, mergeD (encK f kvs) (encK f more) = encK f (more.foldl (fun acc q => putI acc q.1 q.2) kvs)
  | [], _ => rfl
  | q :: r, kvs => by
    show mergeD (putKD (encK f kvs) (Sum.inl q.1) (f q.2)) (encK f r) = _
    rw [enc_put, mergeD_enc]; rfl
end
theorem wStep_nodup : ∀ {l : List En} {acc : List (Int × Int)}, (acc.map (·.1)).Nodup → ((l.foldl wStep acc).map (·.1)).Nodup
  | [], _, h => h
  | e :: l, acc, h => wStep_nodup (l := l) (acc := wStep acc e) (putI_nodup h)
theorem words_nodup (es : List En) (name : Str) (num : Int) : ((wordsAt es name num).map (·.1)).Nodup := wStep_nodup (by simp)
theorem words_len (es : List En) (name : Str) (num : Int) : (wordsAt es name num).length ≤ es.length := by
  have l1 := fold_len (g := wStep) (fun a e => putI_len) (ats es "got" name num) []
  have l2 := List.length_filter_le (fun e : En => decide (e.i2 = num)) (entsOf es "got" name)
  have l3 := List.length_filter_le (fun e : En => decide (e.kind = "got") && decide (e.name = name)) es
  have l5 : (entsOf es "got" name).length ≤ es.length := l3
  have l6 : (ats es "got" name num).length ≤ (entsOf es "got" name).length := l2
  have l7 : (wordsAt es name num).length ≤ 0 + (ats es "got" name num).length := l1
  omega
theorem noes_len (es : List En) (name : Str) (num : Int) : (noesAt es name num).length ≤ es.length := by
  have l1 := fold_len (g := fun acc (e : En) => putI acc e.i3 true) (fun a e => putI_len) (ats es "no" name num) []
  have l2 := List.length_filter_le (fun e : En => decide (e.i2 = num)) (entsOf es "no" name)
  have l3 := List.length_filter_le (fun e : En => decide (e.kind = "no") && decide (e.name = name)) es
  have l5 : (entsOf es "no" name).length ≤ es.length := l3
  have l6 : (ats es "no" name num).length ≤ (entsOf es "no" name).length := l2
  have l7 : (noesAt es name num).length ≤ 0 + (ats es "no" name num).length := l1
  omega
/-- of whom the greatest number is, there is one -/
theorem asked_some {es : List En} {name : Str} (h : greatest es name ≠ 0) : ats es "ask" name (greatest es name) ≠ [] := by
  rcases maxL_mem (askedNums es name) 0 with e | e
  · exact absurd e h
  · obtain ⟨x, hx, hxe⟩ := List.mem_map.mp e
    exact List.ne_nil_of_mem (List.mem_filter.mpr ⟨hx, decide_eq_true hxe⟩)
theorem atI_last {α : Type} {l : List α} (h : l ≠ []) : atI l (-1) = l.getLast? := by
  unfold atI
  have hl : 0 < l.length := List.length_pos_iff.mpr h
  have e : ixN l.length (-1) = some (l.length - 1) := by
    unfold ixN
    simp; omega
  rw [e, List.getLast?_eq_getElem?]; rfl
theorem maxL_cons0 {n : Int} {r : List Int} (h : 0 ≤ n) : maxL 0 (n :: r) = maxL n r := by
  show maxL (if n > 0 then n else 0) r = _
  congr 1
  split <;> omega
section
variable {st : Sto} {X : PoX} {Q : PoE} {name : Str} {es : List En} {m : Int}
theorem back_in {num : Int} : dIn st (.tup [.str (Str.ofString "back"), .str name, .int num]) (.tup (es.map En.d)) = some (.bl (decide (En.back name num ∈ es))) := by
  have h := dIn_t (st := st) (x := .tup [.str (Str.ofString "back"), .str name, .int num]) (y := .tup (es.map En.d)) (l := (En.back name num).ats) (ls := es.map En.ats) rfl (by rw [map_d_t])
  rw [h]
  simp only [mem_ats]
theorem ap_claim_in (hok : ∀ e ∈ es, e.ok m) (hl : es.length ≤ 5000) (hq : Q (clD (claimOf es name)) st) : F_claim_in [.tup (es.map En.d), .str name] st X Q := by
  simp only [F_claim_in, wDef_ap]
  refine ⟨rfl, ?_⟩
  simp [-wIfS_ap]
  refine ap_greatest (by omega) ?_
  generalize hnum : greatest es name = num at *
  simp [back_in]
  have hcl : claimOf es name = if num = 0 ∨ En.back name num ∈ es then none else some ⟨num, (((ats es "ask" name num).getLast?).map En.per).getD "", maxL 0 ((ats es "ask" name num).map En.i4), sortP (wordsAt es name num), (sortI ((noesAt es name num).map (·.1))).filter fun h => !decide (h ∈ (wordsAt es name num).map (·.1))⟩ := by
    unfold claimOf
    rw [hnum]
  by_cases h0 : num = 0
  · rw [if_pos h0]
    rw [hcl, if_pos (.inl h0)] at hq
    exact hq
  rw [if_neg h0]
  by_cases hb : En.back name num ∈ es
  · rw [if_pos hb]
    rw [hcl, if_pos (.inr hb)] at hq
    exact hq
  rw [if_neg hb]
  rw [hcl, if_neg (fun z => z.elim h0 hb)] at hq
  refine ap_entries ?_
  simp
  refine compL_imp (fun e : En => [some (.tup (es.map En.d)), some (.str name), some (.int num), none, none, some e.d, none, none, none]) (fun e => decide (e.i2 = num)) En.d ?_ ?_ ?_ trivial ?_
  · simp
  · intro e he Q hq
    simpa using hq
  · simp
  simp only [List.nil_append]
  intro p hp
  refine ap_entries ?_
  simp
  refine wForL_typed (fun rest e' st' => ∃ (done : List En) (x5 : Option D), entsOf es "got" name = done ++ rest ∧ e' = [some (.tup (es.map En.d)), some (.str name), some (.int num), some (.lst ((ats es "ask" name num).map En.d)), some (.ref p), x5, none, none, none] ∧
      st' = st.set p (.dk (encK D.int ((done.filter fun e => decide (e.i2 = num)).foldl wStep [])))) (fun _ _ _ _ => trivial) ?_ ?_ _ _ _ ⟨[], none, rfl, rfl, rfl⟩
  · rintro e' _ ⟨done, x5, h1, rfl, rfl⟩
    rw [List.append_nil] at h1
    rw [← h1]
    have hW : (st.set p (.dk (encK D.int (wordsAt es name num)))) p = some (.dk (encK D.int (wordsAt es name num))) := Sto.set_same


    simp
    refine ap_entries ?_
    simp
    refine compL_imp (fun e : En => [some (.tup (es.map En.d)), some (.str name), some (.int num), some (.lst ((ats es "ask" name num).map En.d)), some (.ref p), some e.d, none, none, none]) (fun e => decide (e.i2 = num)) (fun e => .tup [.int e.i3, .bl true]) ?_ ?_ ?_ trivial ?_
    · simp
    · intro e he Q hq
      simpa using hq
    · intro e he _ Q hq
      simpa [ixD_no3 (ents_kind he).2.1] using hq
    have en : ([] : List D) ++ ((entsOf es "no" name).filter fun e => decide (e.i2 = num)).map (fun e => D.tup [.int e.i3, .bl true]) = ((ats es "no" name num).map fun e => (e.i3, true)).map fun q => .tup [.int q.1, D.bl q.2] := by
      rw [List.nil_append, List.map_map]; rfl
    rw [en]
    simp only [lsOf_lst, Option.bind_some, pairsL_enc, on_some]
    rw [show ([] : List (L2.Key × D)) = encK D.bl [] from rfl, mergeD_enc, List.foldl_map]
    intro p2 hp2
    have ne : p ≠ p2 := fun e => by rw [e, Sto.set_same] at hp2; cases hp2
    have hp2' : st p2 = none := by rw [Sto.set_ne (Ne.symm ne)] at hp2; exact hp2
    have k1 : ((st.set p (.dk (encK D.int (wordsAt es name num)))).set p2 (.dk (encK D.bl (noesAt es name num)))) p = some (.dk (encK D.int (wordsAt es name num))) := by rw [Sto.set_ne ne]; exact hW
    have k2 : ((st.set p (.dk (encK D.int (wordsAt es name num)))).set p2 (.dk (encK D.bl (noesAt es name num)))) p2 = some (.dk (encK D.bl (noesAt es name num))) := Sto.set_same
    have k3 : ((st.set p (.dk (encK D.int (wordsAt es name num)))).set p2 (.dk (encK D.bl (noesAt es name num)))).keepOnly st = st := by rw [Sto.keepOnly_new hp2', Sto.keepOnly_new hp, Sto.keepOnly_self]
    rw [show List.foldl wStep [] (List.filter (fun e => decide (e.i2 = num)) (entsOf es "got" name)) = wordsAt es name num from rfl, show List.foldl (fun x y => putI x (y.i3, true).fst (y.i3, true).snd) [] (ats es "no" name num) = noesAt es name num from rfl]
    have wl := words_len es name num
    have nl := noes_len es name num
    generalize ((st.set p (.dk (encK D.int (wordsAt es name num)))).set p2 (.dk (encK D.bl (noesAt es name num)))) = st2 at *
    rw [cSorted_dk k2 (by rw [sizeLine_eq]; omega), on_some]
    simp only [sqOf_lst, on_some]
    refine compL_imp (enc := D.int) (fun h : Int => [some (.tup (es.map En.d)), some (.str name), some (.int num), some (.lst ((ats es "ask" name num).map En.d)), some (.ref p), x5, some (.ref p2), none, some (.int h)]) (fun h => !decide (h ∈ (wordsAt es name num).map (·.1))) D.int ?_ ?_ ?_ trivial ?_
    · simp
    · intro h _ Q hq
      simp
      rw [dNotIn_dk k1]
      simpa using hq
    · simp
    have hne : ats es "ask" name num ≠ [] := by
      have := asked_some (es := es) (name := name)
      rw [hnum] at this
      exact this h0
    obtain ⟨le, hle⟩ : ∃ e, (ats es "ask" name num).getLast? = some e := by
      cases q : (ats es "ask" name num).getLast? with
      | none => exact absurd (List.getLast?_eq_none_iff.mp q) hne
      | some e => exact ⟨e, rfl⟩
    have hlm : le ∈ ats es "ask" name num := List.mem_of_getLast? hle
    have hlk := (ents_kind (List.mem_filter.mp hlm).1).2.1
    simp only [List.nil_append, atI_map, atI_last hne, hle, Option.map_some, on_some, (ixD_ask3 hlk).1]
    refine compL_imp (fun e : En => [some (.tup (es.map En.d)), some (.str name), some (.int num), some (.lst ((ats es "ask" name num).map En.d)), some (.ref p), some e.d, some (.ref p2), some (.tup (((sortI ((noesAt es name num).map (·.1))).filter fun h => !decide (h ∈ (wordsAt es name num).map (·.1))).map D.int)), none]) (fun e => true) (fun e => .int e.i4) ?_ ?_ ?_ trivial ?_
    · simp
    · intro e he Q hq
      simpa using hq
    · intro e he _ Q hq
      simpa [(ixD_ask3 (ents_kind (List.mem_filter.mp he).1).2.1).2] using hq
    have e9 : ([] : List D) ++ ((ats es "ask" name num).filter fun _ => true).map (fun e => D.int e.i4) = ((ats es "ask" name num).map En.i4).map .int := by
      rw [List.filter_eq_self.mpr (fun _ _ => rfl), List.nil_append, List.map_map]; rfl
    have til : cMax st2 [.lst (((ats es "ask" name num).map En.i4).map .int)] = some (.int (maxL 0 ((ats es "ask" name num).map En.i4))) := by
      obtain ⟨x, r, hx⟩ := List.exists_cons_of_ne_nil hne
      have hm : x ∈ ats es "ask" name num := by rw [hx]; exact List.mem_cons_self
      have h1 := ents_kind (List.mem_filter.mp hm).1
      have h2 := hok x h1.1
      have h3 : 1 ≤ x.i4 := by
        have h4 := h1.2.1
        cases x <;> simp [En.kind] at h4
        exact h2.2.2.1
      rw [hx, List.map_cons, List.map_cons, cMax_ls (n := x.i4) (ns := r.map En.i4) rfl, maxL_cons0 (by omega)]
    rw [e9, til, on_some, itemsOf_dk k1, on_some, k3]
    refine ⟨by rw [sizeLine_eq]; omega, ?_⟩
    rw [hle] at hq
    exact hq
  · rintro x rest e' _ N ⟨done, x5, h1, rfl, rfl⟩ hN
    have hx := ents_kind (es := es) (kind := "got") (name := name) (e := x) (by rw [h1]; simp)
    have hi := ixD_got3 (st := st.set p (.dk (encK D.int ((done.filter fun e => decide (e.i2 = num)).foldl wStep [])))) hx.2.1
    have gr : ∀ x5, N [some (.tup (es.map En.d)), some (.str name), some (.int num), some (.lst ((ats es "ask" name num).map En.d)), some (.ref p), x5, none, none, none] (st.set p (.dk (encK D.int (((done ++ [x]).filter fun e => decide (e.i2 = num)).foldl wStep [])))) := fun x5 => hN _ _ ⟨done ++ [x], x5, by rw [h1]; simp, rfl, rfl⟩
    simp
    by_cases hk : x.i2 = num
    · simp [hk, hi.1, hi.2, dctOf, isDct]
      have hsz : ((done.filter fun e => decide (e.i2 = num)).foldl wStep []).length < sizeLine := by
        have l1 := fold_len (g := wStep) (fun a e => putI_len) (done.filter fun e => decide (e.i2 = num)) []
        have l2 := List.length_filter_le (fun e : En => decide (e.i2 = num)) done
        have l3 := List.length_filter_le (fun e : En => decide (e.kind = "got") && decide (e.name = name)) es
        have l4 := congrArg List.length h1
        rw [List.length_append] at l4
        have l5 : (entsOf es "got" name).length ≤ es.length := l3
        rw [sizeLine_eq]
        simp only [List.length_nil, List.length_cons] at *
        omega
      generalize hacc : (done.filter fun e => decide (e.i2 = num)).foldl wStep [] = acc at *
      have ek := dctGet_enc (f := D.int) (kvs := acc) (k := x.i3) (st := st.set p (.dk (encK D.int acc))) (a := p) Sto.set_same
      rw [Sto.set_same] at ek
      rw [ek, on_some]
      have eg : ((getI acc x.i3).map D.int).getD (D.int 0) = D.int ((getI acc x.i3).getD 0) := by cases getI acc x.i3 <;> rfl
      rw [eg, cMax_int, on_some, putD_enc Sto.set_same hsz, on_some, Sto.set_set]
      have e2 : ((done ++ [x]).filter fun e => decide (e.i2 = num)).foldl wStep [] = wStep acc x := by
        rw [List.filter_append, List.foldl_append, hacc]
        simp [hk]
      have := gr (some x.d)
      rw [e2] at this
      exact this
    · simp [hk] at gr ⊢
      exact gr _
end
end DL
namespace DL
open PySem PySem.Spec PyProof.Rows L2
/-! ### the claim of a log, as the laws gather it -/
def F__law_claim : WF := wDef 10 2 true (wSeq (wSet 2 (wC (.int 0))) (wSeq (wSet 3 (wC (.str ""))) (wSeq (wSet 4 (wC (.int 0))) (wSeq (wFor (wiSeq (wVar 0)) (.nm 5) (wSeq (wIfS (wTAnd (wTB (wBin dEq (wSl (wVar 5) wNo (wPart (wC (.int 2)))) (wTup (wCons (wC (.str "ask")) (wCons (wVar 1) wNil))))) (wTB (wBin dGt (wBin ixD (wVar 5) (wC (.int 2))) (wVar 2)))) (wSeq (wSet 2 (wBin ixD (wVar 5) (wC (.int 2)))) (wSet 4 (wC (.int 0)))) wSkip) (wIfS (wTB (wBin dEq (wSl (wVar 5) wNo (wPart (wC (.int 3)))) (wTup (wCons (wC (.str "ask")) (wCons (wVar 1) (wCons (wVar 2) wNil)))))) (wSeq (wSet 3 (wBin ixD (wVar 5) (wC (.int 3)))) (wSet 4 (wCall cMax (wCons (wVar 4) (wCons (wBin ixD (wVar 5) (wC (.int 4))) wNil))))) wSkip)) [5]) (wSeq (wIfS (wTB (wBin dEq (wVar 2) (wC (.int 0)))) (wRet (wC .non)) wSkip) (wSeq (wSet 6 wDictR) (wSeq (wSet 7 wDictR) (wSeq (wFor (wiSeq (wVar 0)) (.nm 5) (wSeq (wIfS (wTB (wBin dEq (wVar 5) (wTup (wCons (wC (.str "back")) (wCons (wVar 1) (wCons (wVar 2) wNil)))))) (wRet (wC .non)) wSkip) (wSeq (wIfS (wTAnd (wTB (wBin dEq (wSl (wVar 5) wNo (wPart (wC (.int 3)))) (wTup (wCons (wC (.str "got")) (wCons (wVar 1) (wCons (wVar 2) wNil)))))) (wTB (wBin dLt (wGet2 (wVar 6) (wBin ixD (wVar 5) (wC (.int 3))) (wC (.int 0))) (wBin ixD (wVar 5) (wC (.int 4)))))) (wPut (wVar 6) (wBin ixD (wVar 5) (wC (.int 3))) (wBin ixD (wVar 5) (wC (.int 4)))) wSkip) (wIfS (wTB (wBin dEq (wSl (wVar 5) wNo (wPart (wC (.int 3)))) (wTup (wCons (wC (.str "no")) (wCons (wVar 1) (wCons (wVar 2) wNil)))))) (wPut (wVar 7) (wBin ixD (wVar 5) (wC (.int 3))) (wC (.bl true))) wSkip))) [5]) (wSeq (wSet 8 (wCall cTuple (wCons (wComp (wiSeq (wCall cSorted (wCons (wVar 6) wNil))) (.nm 9) wYes (wTup (wCons (wVar 9) (wCons (wBin ixD (wVar 6) (wVar 9)) wNil))) [9]) wNil))) (wRet (wTup (wCons (wVar 2) (wCons (wVar 3) (wCons (wVar 4) (wCons (wVar 8) (wCons (wCall cTuple (wCons (wComp (wiSeq (wCall cSorted (wCons (wVar 7) wNil))) (.nm 9) (wTB (wBin dNotIn (wVar 9) (wVar 6))) (wVar 9) [9]) wNil)) wNil))))))))))))))))

def perAt (es : List En) (name : Str) (n : Int) : Str := (((ats es "ask" name n).getLast?).map En.per).getD ""
def tilAt (es : List En) (name : Str) (n : Int) : Int := maxL 0 ((ats es "ask" name n).map En.i4)
theorem ents_snoc {es : List En} {x : En} {kind : String} {name : Str} : entsOf (es ++ [x]) kind name = if x.kind = kind ∧ x.name = name then entsOf es kind name ++ [x] else entsOf es kind name := by
  unfold entsOf
  rw [List.filter_append]
  by_cases h : x.kind = kind ∧ x.name = name
  · rw [if_pos h]; simp [h]
  · rw [if_neg h]
    simp
    exact fun a b => h ⟨a, b⟩
theorem ats_snoc {es : List En} {x : En} {kind : String} {name : Str} {n : Int} : ats (es ++ [x]) kind name n = if x.kind = kind ∧ x.name = name ∧ x.i2 = n then ats es kind name n ++ [x] else ats es kind name n := by
  unfold ats
  rw [ents_snoc]
  by_cases h : x.kind = kind ∧ x.name = name
  · rw [if_pos h, List.filter_append]
    by_cases h2 : x.i2 = n
    · rw [if_pos ⟨h.1, h.2, h2⟩]; simp [h2]
    · rw [if_neg fun z => h2 z.2.2]; simp [h2]
  · rw [if_neg h, if_neg fun z => h ⟨z.1, z.2.1⟩]
theorem greatest_snoc {es : List En} {x : En} {name : Str} : greatest (es ++ [x]) name = if x.kind = "ask" ∧ x.name = name ∧ x.i2 > greatest es name then x.i2 else greatest es name := by
  unfold greatest askedNums
  rw [ents_snoc]
  by_cases h : x.kind = "ask" ∧ x.name = name
  · rw [if_pos h, List.map_append, List.map_cons, List.map_nil, maxL_snoc]
    simp [h]
  · rw [if_neg h, if_neg fun z => h ⟨z.1, z.2.1⟩]
theorem ats_above {es : List En} {name : Str} {n : Int} (h : n > greatest es name) : ats es "ask" name n = [] := List.filter_eq_nil_iff.mpr fun x hx => by
  have := (maxL_ge (askedNums es name) 0).2 x.i2 (List.mem_map.mpr ⟨x, hx, rfl⟩)
  have : x.i2 ≤ greatest es name := this
  simp; omega
def tilU (es : List En) (x : En) (name : Str) : Int := if x.kind = "ask" ∧ x.name = name ∧ x.i2 > greatest es name then 0 else tilAt es name (greatest es name)
theorem per_snoc {es : List En} {x : En} {name : Str} : perAt (es ++ [x]) name (greatest (es ++ [x]) name) = if x.kind = "ask" ∧ x.name = name ∧ x.i2 = greatest (es ++ [x]) name then x.per else perAt es name (greatest es name) := by
  unfold perAt
  rw [ats_snoc]
  by_cases h : x.kind = "ask" ∧ x.name = name ∧ x.i2 = greatest (es ++ [x]) name
  · rw [if_pos h, if_pos h]; simp
  · rw [if_neg h, if_neg h]
    rw [greatest_snoc] at h ⊢
    by_cases h2 : x.kind = "ask" ∧ x.name = name ∧ x.i2 > greatest es name
    · rw [if_pos h2] at h
      exact absurd ⟨h2.1, h2.2.1, rfl⟩ h
    · rw [if_neg h2]
theorem til_snoc {es : List En} {x : En} {name : Str} : tilAt (es ++ [x]) name (greatest (es ++ [x]) name) = if x.kind = "ask" ∧ x.name = name ∧ x.i2 = greatest (es ++ [x]) name then (if x.i4 > tilU es x name then x.i4 else tilU es x name) else tilU es x name := by
  unfold tilAt
  rw [ats_snoc]
  unfold tilU
  by_cases h : x.kind = "ask" ∧ x.name = name ∧ x.i2 = greatest (es ++ [x]) name
  · rw [if_pos h, if_pos h, List.map_append, List.map_cons, List.map_nil, maxL_snoc]
    rw [greatest_snoc] at h ⊢
    by_cases h2 : x.kind = "ask" ∧ x.name = name ∧ x.i2 > greatest es name
    · rw [if_pos h2, if_pos h2, ats_above h2.2.2]; rfl
    · rw [if_neg h2, if_neg h2]; rfl
  · rw [if_neg h, if_neg h]
    rw [greatest_snoc] at h ⊢
    by_cases h2 : x.kind = "ask" ∧ x.name = name ∧ x.i2 > greatest es name
    · rw [if_pos h2] at h
      exact absurd ⟨h2.1, h2.2.1, rfl⟩ h
    · rw [if_neg h2, if_neg h2]; rfl
section
variable {st : Sto} {X : PoX} {Q : PoE} {name : Str} {es : List En} {m : Int}
theorem dEq_kn {e : En} {kind : String} : dEq st (.tup (DL.cutD (.str (Str.ofString e.kind) :: .str e.name :: .int e.i2 :: e.tl) none (some 2))) (.tup [.str (Str.ofString kind), .str name]) = some (.bl (decide (e.kind = kind ∧ e.name = name))) := by
  rw [cutD_to (by decide)]
  rw [dEq_t (x := .tup (List.take (2 : Int).toNat (.str (Str.ofString e.kind) :: .str e.name :: .int e.i2 :: e.tl))) (y := .tup [.str (Str.ofString kind), .str name]) [.s e.kind, .s e.name] [.s kind, .s name] rfl rfl]
  simp [ofString_inj]
theorem dEq_kni {e : En} {kind : String} {n : Int} : dEq st (.tup (DL.cutD (.str (Str.ofString e.kind) :: .str e.name :: .int e.i2 :: e.tl) none (some 3))) (.tup [.str (Str.ofString kind), .str name, .int n]) = some (.bl (decide (e.kind = kind ∧ e.name = name ∧ e.i2 = n))) := by
  rw [cutD_to (by decide)]
  rw [dEq_t (x := .tup (List.take (3 : Int).toNat (.str (Str.ofString e.kind) :: .str e.name :: .int e.i2 :: e.tl))) (y := .tup [.str (Str.ofString kind), .str name, .int n]) [.s e.kind, .s e.name, .i e.i2] [.s kind, .s name, .i n] rfl rfl]
  simp [ofString_inj]
theorem dEq_back {e : En} {n : Int} : dEq st e.d (.tup [.str (Str.ofString "back"), .str name, .int n]) = some (.bl (decide (e = .back name n))) := by
  rw [dEq_t (x := e.d) (y := .tup [.str (Str.ofString "back"), .str name, .int n]) e.ats (En.back name n).ats e.d_t rfl]
  congr 2
  by_cases h : e = .back name n
  · rw [h]; simp
  · rw [decide_eq_false h, decide_eq_false fun z => h (ats_inj z)]
theorem dctOf_dk {a : Addr} {kvs : List (L2.Key × D)} (h : st a = some (.dk kvs)) : dctOf st (.ref a) = some a := by
  unfold dctOf
  simp only
  rw [h]; rfl
theorem words_snoc {x : En} {n : Int} : wordsAt (es ++ [x]) name n = if x.kind = "got" ∧ x.name = name ∧ x.i2 = n then wStep (wordsAt es name n) x else wordsAt es name n := by
  unfold wordsAt
  rw [ats_snoc]
  split
  · rw [List.foldl_append]; rfl
  · rfl
theorem noes_snoc {x : En} {n : Int} : noesAt (es ++ [x]) name n = if x.kind = "no" ∧ x.name = name ∧ x.i2 = n then putI (noesAt es name n) x.i3 true else noesAt es name n := by
  unfold noesAt
  rw [ats_snoc]
  split
  · rw [List.foldl_append]; rfl
  · rfl
theorem ap_law_claim (hok : ∀ e ∈ es, e.ok m) (hl : es.length ≤ 5000) (hq : Q (clD (claimOf es name)) st) : F__law_claim [.tup (es.map En.d), .str name] st X Q := by
  simp only [F__law_claim, wDef_ap]
  refine ⟨rfl, ?_⟩
  simp [-wIfS_ap]
  refine wForL_typed (fun rest e' st' => st = st' ∧ ∃ (done : List En), es = done ++ rest ∧ e' = [some (.tup (es.map En.d)), some (.str name), some (.int (greatest done name)), some (.str (perAt done name (greatest done name))), some (.int (tilAt done name (greatest done name))), none, none, none, none, none]) (fun _ _ _ _ => trivial) ?_ ?_ _ _ _ ⟨rfl, [], rfl, rfl⟩
  · rintro e' _ ⟨rfl, done, h1, rfl⟩
    rw [List.append_nil] at h1
    subst h1
    simp
    generalize hnum : greatest es name = num
    have hcl : claimOf es name = if num = 0 ∨ En.back name num ∈ es then none else some ⟨num, perAt es name num, tilAt es name num, sortP (wordsAt es name num), (sortI ((noesAt es name num).map (·.1))).filter fun h => !decide (h ∈ (wordsAt es name num).map (·.1))⟩ := by
      unfold claimOf
      rw [hnum]; rfl
    by_cases h0 : num = 0
    · rw [if_pos h0]
      rw [hcl, if_pos (.inl h0)] at hq
      exact hq
    rw [if_neg h0]
    intro p6 hp6 p7 hp7
    have ne : p6 ≠ p7 := fun e => by rw [e, Sto.set_same] at hp7; cases hp7
    have hp7' : st p7 = none := by rw [Sto.set_ne (Ne.symm ne)] at hp7; exact hp7
    refine wForL_typed (fun rest e' st' => ∃ (done : List En), es = done ++ rest ∧ En.back name num ∉ done ∧ e' = [some (.tup (es.map En.d)), some (.str name), some (.int num), some (.str (perAt es name num)), some (.int (tilAt es name num)), none, some (.ref p6), some (.ref p7), none, none] ∧
      st' p6 = some (.dk (encK D.int (wordsAt done name num))) ∧ st' p7 = some (.dk (encK D.bl (noesAt done name num))) ∧ st'.keepOnly st = st) (fun _ _ _ _ => trivial) ?_ ?_ _ _ _ ⟨[], rfl, (by simp), rfl, by rw [Sto.set_ne ne, Sto.set_same]; rfl, by rw [Sto.set_same]; rfl, by rw [Sto.keepOnly_new hp7', Sto.keepOnly_new hp6, Sto.keepOnly_self]⟩
    · rintro e' st2 ⟨done, h1, hnb, rfl, k1, k2, k3⟩
      rw [List.append_nil] at h1
      subst h1
      rw [hcl, if_neg (fun z => z.elim h0 hnb)] at hq
      have wl := words_len es name num
      have nl := noes_len es name num
      simp
      rw [cSorted_dk k1 (by rw [sizeLine_eq]; omega), on_some]
      simp only [sqOf_lst, on_some]
      refine compL_imp (enc := D.int) (fun h : Int => [some (D.tup (List.map En.d es)), some (D.str name), some (D.int num), some (D.str (perAt es name num)), some (D.int (tilAt es name num)), none, some (D.ref p6), some (D.ref p7), none, some (.int h)]) (fun h => true) (fun h => pairD (h, (getI (wordsAt es name num) h).getD 0)) ?_ ?_ ?_ trivial ?_
      · simp
      · intro h _ Q hq
        simpa using hq
      · intro h hm _ Q hq
        simp
        have hk : h ∈ (wordsAt es name num).map (·.1) := (sortI_perm _).mem_iff.mp hm
        cases eg : getI (wordsAt es name num) h with
        | none => exact absurd hk (getI_none_iff.mp eg)
        | some v =>
          rw [ixD_dk k1 eg, on_some]
          rw [eg] at hq
          exact hq
      rw [cSorted_dk k2 (by rw [sizeLine_eq]; omega), on_some]
      simp only [sqOf_lst, on_some]
      have es1 : ([] : List D) ++ ((sortI ((wordsAt es name num).map (·.1))).filter fun _ => true).map (fun h => pairD (h, (getI (wordsAt es name num) h).getD 0)) = (sortP (wordsAt es name num)).map pairD := by
        rw [List.filter_eq_self.mpr (fun _ _ => rfl), List.nil_append, sortP_keys (words_nodup es name num), List.map_map]; rfl
      rw [es1]
      refine compL_imp (enc := D.int) (fun h : Int => [some (D.tup (List.map En.d es)), some (D.str name), some (D.int num), some (D.str (perAt es name num)), some (D.int (tilAt es name num)), none, some (D.ref p6), some (D.ref p7), some (.tup ((sortP (wordsAt es name num)).map pairD)), some (.int h)]) (fun h => !decide (h ∈ (wordsAt es name num).map (·.1))) D.int ?_ ?_ ?_ trivial ?_
      · simp
      · intro h _ Q hq
        simp
        rw [dNotIn_dk k1]
        simpa using hq
      · simp
      rw [k3]
      exact hq
    · rintro x rest e' st2 N ⟨done, h1, hnb, rfl, k1, k2, k3⟩ hN
      have hxm : x ∈ es := by rw [h1]; simp
      have wl := words_len done name num
      have nl := noes_len done name num
      have dl : done.length ≤ es.length := by rw [h1]; simp
      simp [-wIfS_ap]
      rw [wIfS_ap, wTB_ap]
      simp [-wIfS_ap]
      rw [dEq_back]
      simp [-wIfS_ap]
      by_cases hb : x = .back name num
      · rw [if_pos hb, k3]
        rw [hcl, if_pos (.inr (hb ▸ hxm))] at hq
        exact hq
      rw [if_neg hb]
      refine wIfS_via (fun e2 st3 => e2 = [some (.tup (es.map En.d)), some (.str name), some (.int num), some (.str (perAt es name num)), some (.int (tilAt es name num)), some x.d, some (.ref p6), some (.ref p7), none, none] ∧
        st3 p6 = some (.dk (encK D.int (wordsAt (done ++ [x]) name num))) ∧ st3 p7 = some (.dk (encK D.bl (noesAt done name num))) ∧ st3.keepOnly st = st) ?_ ?_
      · intro N2 hN2
        simp [En.d, dEq_kni]
        rw [words_snoc] at hN2
        by_cases h : x.kind = "got" ∧ x.name = name ∧ x.i2 = num
        · have eg := ixD_got3 (st := st2) h.1
          simp only [En.d, ixD_tup] at eg
          have hx4 : 1 ≤ x.i4 := by
            have h1 := hok x hxm
            have h2 := h.1
            cases x <;> simp [En.kind] at h2
            exact h1.2.2.2.2
          rw [if_pos h, dctOf_dk k1, on_some, eg.1, on_some, dctGet_enc k1, on_some, eg.2, on_some]
          have egd : ((getI (wordsAt done name num) x.i3).map D.int).getD (D.int 0) = D.int ((getI (wordsAt done name num) x.i3).getD 0) := by cases getI (wordsAt done name num) x.i3 <;> rfl
          rw [egd, dLt_int, on_some, bOf_bl, on_some]
          rw [if_pos h] at hN2
          unfold wStep at hN2
          by_cases hlt : (getI (wordsAt done name num) x.i3).getD 0 < x.i4
          · rw [if_pos hlt] at hN2
            rw [decide_eq_true hlt, if_pos rfl, on_some, on_some, putD_enc k1 (by rw [sizeLine_eq]; omega), on_some]
            exact hN2 _ _ ⟨by simp [En.d], Sto.set_same, by rw [Sto.set_ne (Ne.symm ne)]; exact k2, by rw [Sto.keepOnly_new hp6, k3]⟩
          · rw [if_neg hlt] at hN2
            rw [decide_eq_false hlt, if_neg (by decide)]
            cases e3 : getI (wordsAt done name num) x.i3 with
            | none => rw [e3] at hlt; exact absurd (show (0 : Int) < x.i4 by omega) hlt
            | some v =>
              rw [e3] at hN2
              have := putI_self (words_nodup done name num) e3
              simp only [Option.getD_some] at hN2
              rw [this] at hN2
              exact hN2 _ _ ⟨by simp [En.d], k1, k2, k3⟩
        · rw [if_neg h]
          rw [if_neg h] at hN2
          exact hN2 _ _ ⟨by simp [En.d], k1, k2, k3⟩
      · rintro e2 st3 ⟨rfl, q1, q2, q3⟩
        simp
        rw [En.d, slD_tup, on_some]
        simp [dEq_kni]
        have hnb2 : ¬ En.back name num ∈ done ++ [x] := by
          intro z
          rcases List.mem_append.mp z with z | z
          · exact hnb z
          · exact hb (List.mem_singleton.mp z).symm
        have hN : ∀ st4, st4 p6 = some (.dk (encK D.int (wordsAt (done ++ [x]) name num))) → st4 p7 = some (.dk (encK D.bl (noesAt (done ++ [x]) name num))) → st4.keepOnly st = st → N [some (D.tup (List.map En.d es)), some (D.str name), some (D.int num), some (D.str (perAt es name num)), some (D.int (tilAt es name num)), none, some (D.ref p6), some (D.ref p7), none, none] st4 :=
          fun st4 a b c => hN _ _ ⟨done ++ [x], by rw [h1]; simp, hnb2, rfl, a, b, c⟩
        rw [noes_snoc] at hN
        by_cases h : x.kind = "no" ∧ x.name = name ∧ x.i2 = num
        · have eg := ixD_no3 (st := st2) h.1
          simp only [En.d, ixD_tup] at eg
          rw [if_pos h] at hN
          rw [if_pos h, eg, on_some, putD_enc q2 (by rw [sizeLine_eq]; omega), on_some]
          exact hN _ (by rw [Sto.set_ne ne]; exact q1) Sto.set_same (by rw [Sto.keepOnly_new hp7', q3])
        · rw [if_neg h] at hN
          rw [if_neg h]
          exact hN _ q1 q2 q3
  · rintro x rest e' _ N ⟨rfl, done, h1, rfl⟩ hN
    have key : ∀ e2, e2 = [some (.tup (es.map En.d)), some (.str name), some (.int (greatest (done ++ [x]) name)), some (.str (perAt (done ++ [x]) name (greatest (done ++ [x]) name))), some (.int (tilAt (done ++ [x]) name (greatest (done ++ [x]) name))), none, none, none, none, none] → N e2 st := fun e2 he => hN _ _ ⟨rfl, done ++ [x], by rw [h1]; simp, he⟩
    simp [-wIfS_ap]
    refine wIfS_via (fun e2 st2 => st = st2 ∧ e2 = [some (.tup (es.map En.d)), some (.str name), some (.int (greatest (done ++ [x]) name)), some (.str (perAt done name (greatest done name))), some (.int (tilU done x name)), some x.d, none, none, none, none]) ?_ ?_
    · intro N2 hN2
      simp [En.d, dEq_kn]
      rw [greatest_snoc] at hN2
      unfold tilU at hN2
      by_cases h : x.kind = "ask" ∧ x.name = name
      · by_cases h2 : greatest done name < x.i2
        · simp [h, h2]
          exact hN2 _ _ ⟨rfl, by simp [h, h2, En.d]⟩
        · simp [h, h2]
          exact hN2 _ _ ⟨rfl, by simp [h, h2, En.d]⟩
      · have h' : ∀ p : Prop, ¬ (x.kind = "ask" ∧ x.name = name ∧ p) := fun p z => h ⟨z.1, z.2.1⟩
        simp [h]
        exact hN2 _ _ ⟨rfl, by simp [h', En.d]⟩
    · rintro e2 _ ⟨rfl, rfl⟩
      simp
      rw [En.d, slD_tup, on_some]
      simp [dEq_kni]
      rw [per_snoc, til_snoc] at key
      generalize greatest (done ++ [x]) name = g at *
      by_cases h : x.kind = "ask" ∧ x.name = name ∧ x.i2 = g
      · have ea := ixD_ask3 (st := st) h.1
        rw [En.d] at ea
        simp only [h, ixD_tup] at ea
        simp [h, ea]
        exact key _ (by simp [h])
      · simp [h]
        exact key _ (by simp [h])
end
end DL
namespace DL
open PySem PySem.Spec PyProof.Rows L2
/-! ### letters, and what a house does with one -/
def F_other_houses : WF := wDef 3 2 true (wRet (wComp (wiRange (wCons (wVar 0) wNil)) (.nm 2) (wTB (wBin dNe (wVar 2) (wVar 1))) (wVar 2) [2]))
def F_is_due : WF := wDef 7 6 true (wSeq (wSet 6 (wFn F_word_in (wCons (wVar 0) (wCons (wVar 1) wNil)))) (wSeq (wIfS (wTOr (wTB (wBin dIs (wVar 6) (wC .non))) (wTB (wBin dLe (wBin ixD (wVar 6) (wC (.int 2))) (wVar 5)))) (wRet (wBin dGt (wVar 4) (wVar 5))) wSkip) (wRet (wAnd (wBin dEq (wSl (wVar 6) wNo (wPart (wC (.int 2)))) (wTup (wCons (wVar 2) (wCons (wVar 3) wNil)))) (wBin dLt (wBin ixD (wVar 6) (wC (.int 2))) (wVar 4))))))
def F_reach_in : WF := wDef 6 3 true (wSeq (wSet 3 (wFn F_claim_in (wCons (wVar 1) (wCons (wVar 2) wNil)))) (wSeq (wIfS (wTB (wBin dIs (wVar 3) (wC .non))) (wRet (wC (.int 0))) wSkip) (wRet (wFn F_reach_of (wCons (wComp (wiSeq (wBin ixD (wVar 3) (wC (.int 3)))) (.tp [(.nm 4), (.nm 5)]) wYes (wVar 5) [4, 5]) (wCons (wVar 0) wNil))))))
def F_news_of : WF := wDef 10 6 true (wSeq (wSet 6 (wFn F_reach_in (wCons (wVar 0) (wCons (wBin dAdd (wVar 2) (wVar 3)) (wCons (wVar 4) wNil))))) (wSeq (wIfS (wTOr (wTB (wBin dLe (wVar 6) (wVar 5))) (wTB (wBin dLe (wVar 6) (wFn F_reach_in (wCons (wVar 0) (wCons (wVar 2) (wCons (wVar 4) wNil))))))) (wRet (wTup (wCons (wC .non) (wCons (wLst wNil) wNil)))) wSkip) (wSeq (wSet 7 (wFn F_claim_in (wCons (wBin dAdd (wVar 2) (wVar 3)) (wCons (wVar 4) wNil)))) (wSeq (wSet 8 (wTup (wCons (wVar 4) (wCons (wVar 1) (wCons (wBin ixD (wVar 7) (wC (.int 0))) (wCons (wBin ixD (wVar 7) (wC (.int 1))) (wCons (wVar 5) wNil))))))) (wRet (wTup (wCons (wVar 8) (wCons (wComp (wiSeq (wFn F_other_houses (wCons (wVar 0) (wCons (wVar 1) wNil)))) (.nm 9) wYes (wTup (wCons (wC (.str "told")) (wCons (wVar 1) (wCons (wVar 9) (wCons (wVar 4) (wCons (wBin ixD (wVar 7) (wC (.int 0))) (wCons (wBin ixD (wVar 7) (wC (.int 1))) (wCons (wVar 5) wNil)))))))) [9]) wNil))))))))
def F_ask_taken : WF := wDef 11 4 true (wSeq (wAsg (.tp [(.nm 5), (.nm 6), (.nm 7), (.nm 8), (.nm 9), (.nm 10)]) (wSl (wVar 2) (wPart (wC (.int 1))) wNo)) (wSeq (wIfS (wTB (wBin dLe (wVar 10) (wVar 3))) (wRet (wTup (wCons (wTup wNil) (wCons (wTup wNil) wNil)))) wSkip) (wSeq (wIfS (wTT (wFn F_is_due (wCons (wVar 1) (wCons (wVar 7) (wCons (wVar 5) (wCons (wVar 8) (wCons (wVar 10) (wCons (wVar 3) wNil)))))))) (wRet (wTup (wCons (wTup (wCons (wTup (wCons (wC (.str "word")) (wCons (wVar 7) (wCons (wVar 5) (wCons (wVar 8) (wCons (wVar 10) wNil)))))) wNil)) (wCons (wTup (wCons (wTup (wCons (wC (.str "word")) (wCons (wVar 0) (wCons (wVar 5) (wCons (wVar 7) (wCons (wVar 8) (wCons (wVar 10) wNil))))))) wNil)) wNil)))) wSkip) (wSeq (wSet 4 (wFn F_word_in (wCons (wVar 1) (wCons (wVar 7) wNil)))) (wSeq (wIfS (wTB (wBin dEq (wSl (wVar 4) wNo (wPart (wC (.int 2)))) (wTup (wCons (wVar 5) (wCons (wVar 8) wNil))))) (wRet (wTup (wCons (wTup wNil) (wCons (wTup (wCons (wTup (wCons (wC (.str "word")) (wCons (wVar 0) (wCons (wVar 5) (wCons (wVar 7) (wCons (wVar 8) (wCons (wBin ixD (wVar 4) (wC (.int 2))) wNil))))))) wNil)) wNil)))) wSkip) (wRet (wTup (wCons (wTup wNil) (wCons (wTup (wCons (wTup (wCons (wC (.str "no")) (wCons (wVar 0) (wCons (wVar 5) (wCons (wVar 7) (wCons (wVar 8) wNil)))))) wNil)) wNil)))))))))
def F_word_taken : WF := wDef 16 5 true (wSeq (wAsg (.tp [(.nm 7), (.nm 8), (.nm 9), (.nm 10), (.nm 11)]) (wSl (wVar 3) (wPart (wC (.int 1))) wNo)) (wSeq (wSet 5 (wFn F_claim_in (wCons (wVar 2) (wCons (wVar 9) wNil)))) (wSeq (wIfS (wTOr (wTB (wBin dIs (wVar 5) (wC .non))) (wTB (wBin dNe (wBin ixD (wVar 5) (wC (.int 0))) (wVar 10)))) (wRet (wTup (wCons (wTup wNil) (wCons (wTup (wCons (wTup (wCons (wC (.str "back")) (wCons (wVar 1) (wCons (wVar 7) (wCons (wVar 9) (wCons (wVar 10) wNil)))))) wNil)) (wCons (wC .non) wNil))))) wSkip) (wSeq (wIfS (wTB (wBin dNe (wComp (wiSeq (wBin ixD (wVar 5) (wC (.int 3)))) (.tp [(.nm 14), (.nm 15)]) (wTAnd (wTB (wBin dEq (wVar 14) (wVar 7))) (wTB (wBin dGe (wVar 15) (wVar 11)))) (wVar 15) [14, 15]) (wLst wNil))) (wRet (wTup (wCons (wTup wNil) (wCons (wTup wNil) (wCons (wC .non) wNil))))) wSkip) (wSeq (wSet 6 (wTup (wCons (wTup (wCons (wC (.str "got")) (wCons (wVar 9) (wCons (wVar 10) (wCons (wVar 7) (wCons (wVar 11) wNil)))))) wNil))) (wSeq (wAsg (.tp [(.nm 12), (.nm 13)]) (wFn F_news_of (wCons (wVar 0) (wCons (wVar 1) (wCons (wVar 2) (wCons (wVar 6) (wCons (wVar 9) (wCons (wVar 4) wNil)))))))) (wRet (wTup (wCons (wVar 6) (wCons (wCall cTuple (wCons (wVar 13) wNil)) (wCons (wVar 12) wNil)))))))))))
def F_no_taken : WF := wDef 9 2 true (wSeq (wAsg (.tp [(.nm 3), (.nm 4), (.nm 5), (.nm 6)]) (wSl (wVar 1) (wPart (wC (.int 1))) wNo)) (wSeq (wSet 2 (wFn F_claim_in (wCons (wVar 0) (wCons (wVar 5) wNil)))) (wSeq (wIfS (wTOr (wTB (wBin dIs (wVar 2) (wC .non))) (wTOr (wTB (wBin dNe (wBin ixD (wVar 2) (wC (.int 0))) (wVar 6))) (wTB (wBin dIn (wVar 3) (wBin ixD (wVar 2) (wC (.int 4))))))) (wRet (wTup wNil)) wSkip) (wSeq (wIfS (wTB (wBin dIn (wVar 3) (wComp (wiSeq (wBin ixD (wVar 2) (wC (.int 3)))) (.tp [(.nm 7), (.nm 8)]) wYes (wVar 7) [7, 8]))) (wRet (wTup wNil)) wSkip) (wRet (wTup (wCons (wTup (wCons (wC (.str "no")) (wCons (wVar 5) (wCons (wVar 6) (wCons (wVar 3) wNil))))) wNil)))))))
def F_back_taken : WF := wDef 7 2 true (wSeq (wAsg (.tp [(.nm 3), (.nm 4), (.nm 5), (.nm 6)]) (wSl (wVar 1) (wPart (wC (.int 1))) wNo)) (wSeq (wSet 2 (wFn F_word_in (wCons (wVar 0) (wCons (wVar 5) wNil)))) (wSeq (wIfS (wTOr (wTB (wBin dIs (wVar 2) (wC .non))) (wTB (wBin dNe (wSl (wVar 2) wNo (wPart (wC (.int 2)))) (wTup (wCons (wVar 3) (wCons (wVar 6) wNil)))))) (wRet (wTup wNil)) wSkip) (wRet (wTup (wCons (wTup (wCons (wC (.str "free")) (wCons (wVar 5) (wCons (wVar 3) (wCons (wVar 6) wNil))))) wNil))))))
def F_taken : WF := wDef 12 5 true (wSeq (wSet 5 (wBin ixD (wVar 3) (wC (.int 0)))) (wSeq (wIfS (wTB (wBin dEq (wVar 5) (wC (.str "ask")))) (wRet (wBin dAdd (wFn F_ask_taken (wCons (wVar 1) (wCons (wVar 2) (wCons (wVar 3) (wCons (wVar 4) wNil))))) (wTup (wCons (wC .non) wNil)))) wSkip) (wSeq (wIfS (wTB (wBin dEq (wVar 5) (wC (.str "word")))) (wRet (wFn F_word_taken (wCons (wVar 0) (wCons (wVar 1) (wCons (wVar 2) (wCons (wVar 3) (wCons (wVar 4) wNil))))))) wSkip) (wSeq (wIfS (wTB (wBin dEq (wVar 5) (wC (.str "no")))) (wRet (wTup (wCons (wFn F_no_taken (wCons (wVar 2) (wCons (wVar 3) wNil))) (wCons (wTup wNil) (wCons (wC .non) wNil))))) wSkip) (wSeq (wIfS (wTB (wBin dEq (wVar 5) (wC (.str "back")))) (wRet (wTup (wCons (wFn F_back_taken (wCons (wVar 2) (wCons (wVar 3) wNil))) (wCons (wTup wNil) (wCons (wC .non) wNil))))) wSkip) (wSeq (wAsg (.tp [(.nm 6), (.nm 7), (.nm 8), (.nm 9), (.nm 10), (.nm 11)]) (wSl (wVar 3) (wPart (wC (.int 1))) wNo)) (wRet (wTup (wCons (wTup wNil) (wCons (wTup wNil) (wCons (wTup (wCons (wVar 8) (wCons (wVar 6) (wCons (wVar 9) (wCons (wVar 10) (wCons (wVar 11) wNil)))))) wNil)))))))))))

inductive Le where
  | ask (s t : Int) (n : Str) (k : Int) (p : Str) (u : Int)
  | word (s t : Int) (n : Str) (k u : Int)
  | no (s t : Int) (n : Str) (k : Int)
  | back (s t : Int) (n : Str) (k : Int)
  | told (s t : Int) (n : Str) (k : Int) (p : Str) (u : Int)
  deriving DecidableEq
def Le.d : Le → D
  | .ask s t n k p u => .tup [.str "ask", .int s, .int t, .str n, .int k, .str p, .int u]
  | .word s t n k u => .tup [.str "word", .int s, .int t, .str n, .int k, .int u]
  | .no s t n k => .tup [.str "no", .int s, .int t, .str n, .int k]
  | .back s t n k => .tup [.str "back", .int s, .int t, .str n, .int k]
  | .told s t n k p u => .tup [.str "told", .int s, .int t, .str n, .int k, .str p, .int u]
/-- a notice: name, house, number, person, round -/
structure Nt where
  n : Str
  h : Int
  k : Int
  p : Str
  u : Int
  deriving DecidableEq
def Nt.d (z : Nt) : D := .tup [.str z.n, .int z.h, .int z.k, .str z.p, .int z.u]
def ntD : Option Nt → D
  | none => .non
  | some z => z.d
structure Tk where
  es : List En
  ls : List Le
  nt : Option Nt
  deriving DecidableEq
def Tk.d (t : Tk) : D := .tup [.tup (t.es.map En.d), .tup (t.ls.map Le.d), ntD t.nt]
/-! #### mirrors -/
def isDue (es : List En) (name : Str) (house number til now : Int) : Bool := match wordIn es name with
  | none => decide (til > now)
  | some (h, k, u) => if u ≤ now then decide (til > now) else decide (h = house ∧ k = number) && decide (u < til)
def reachIn (m : Int) (es : List En) (name : Str) : Int := match claimOf es name with
  | none => 0
  | some c => reachI (c.words.map (·.2)) m
def others (m house : Int) : List Int := (rangeI 0 m).filter fun x => !decide (x = house)
def newsOf (m house : Int) (es more : List En) (name : Str) (now : Int) : Option Nt × List Le :=
  if reachIn m (es ++ more) name ≤ now ∨ reachIn m (es ++ more) name ≤ reachIn m es name then (none, []) else
  match claimOf (es ++ more) name with
  | none => (none, [])
  | some c => (some ⟨name, house, c.num, c.per, now⟩, (others m house).map fun o => .told house o name c.num c.per now)
def askTaken (house : Int) (es : List En) (s : Int) (name : Str) (k u now : Int) : List En × List Le :=
  if u ≤ now then ([], []) else
  if isDue es name s k u now then ([.word name s k u], [.word house s name k u]) else
  match wordIn es name with
  | none => ([], [])
  | some (h', k', u') => if h' = s ∧ k' = k then ([], [.word house s name k u']) else ([], [.no house s name k])
def wordTaken (m house : Int) (es : List En) (s : Int) (name : Str) (k u now : Int) : Tk := match claimOf es name with
  | none => ⟨[], [.back house s name k], none⟩
  | some c => if c.num ≠ k then ⟨[], [.back house s name k], none⟩ else
    if (c.words.filter fun q => decide (q.1 = s ∧ q.2 ≥ u)) ≠ [] then ⟨[], [], none⟩ else
    ⟨[.got name k s u], (newsOf m house es [.got name k s u] name now).2, (newsOf m house es [.got name k s u] name now).1⟩
def noTaken (es : List En) (s : Int) (name : Str) (k : Int) : List En := match claimOf es name with
  | none => []
  | some c => if c.num ≠ k ∨ s ∈ c.others ∨ s ∈ c.words.map (·.1) then [] else [.no name k s]
def backTaken (es : List En) (s : Int) (name : Str) (k : Int) : List En := match wordIn es name with
  | none => []
  | some (h', k', _) => if h' = s ∧ k' = k then [.free name s k] else []
def taken (m house : Int) (es : List En) (l : Le) (now : Int) : Tk := match l with
  | .ask s _ n k _ u => ⟨(askTaken house es s n k u now).1, (askTaken house es s n k u now).2, none⟩
  | .word s _ n k u => wordTaken m house es s n k u now
  | .no s _ n k => ⟨noTaken es s n k, [], none⟩
  | .back s _ n k => ⟨backTaken es s n k, [], none⟩
  | .told s _ n k p u => ⟨[], [], some ⟨n, s, k, p, u⟩⟩
section
variable {st : Sto} {X : PoX} {Q : PoE} {name : Str} {es more : List En} {b m house now s k u : Int}
theorem ap_other_houses (h0 : 0 ≤ m) (h1 : m ≤ 1000) (hq : Q (.lst ((others m house).map .int)) st) : F_other_houses [.int m, .int house] st X Q := by
  simp only [F_other_houses, wDef_ap]
  refine ⟨rfl, ?_⟩
  simp
  rw [rangeOf_1 (by omega) (by omega), on_some, rangeL_map]
  refine compL_imp (enc := D.int) (fun x : Int => [some (.int m), some (.int house), some (.int x)]) (fun x => !decide (x = house)) D.int ?_ ?_ ?_ trivial ?_
  · simp
  · intro x _ Q hq
    simpa using hq
  · simp
  · simpa [others] using hq
theorem ap_is_due (hq : Q (.bl (isDue es name s k u now)) st) : F_is_due [.tup (es.map En.d), .str name, .int s, .int k, .int u, .int now] st X Q := by
  simp only [F_is_due, wDef_ap]
  refine ⟨rfl, ?_⟩
  simp
  refine ap_word_in ?_
  unfold isDue at hq
  cases hw : wordIn es name with
  | none =>
    rw [hw] at hq
    simp [wdD]
    exact hq
  | some w =>
    obtain ⟨h', k', u'⟩ := w
    rw [hw] at hq
    simp [wdD, cutD_to]
    by_cases h1 : u' ≤ now
    · simp [h1]
      simpa [h1] using hq
    · simp [h1]
      rw [dEq_t (x := .tup [.int h', .int k']) (y := .tup [.int s, .int k]) [.i h', .i k'] [.i s, .i k] rfl rfl]
      simp
      by_cases h2 : h' = s ∧ k' = k
      · simp [h2]
        simpa [h1, h2] using hq
      · have e : (decide (h' = s) && decide (k' = k)) = false := by simpa using h2
        simp [e]
        simpa [h1, h2] using hq
theorem ap_reach_in (hok : ∀ e ∈ es, e.ok b) (hl : es.length ≤ 5000) (hm : 0 ≤ m) (hq : Q (.int (reachIn m es name)) st) : F_reach_in [.int m, .tup (es.map En.d), .str name] st X Q := by
  simp only [F_reach_in, wDef_ap]
  refine ⟨rfl, ?_⟩
  simp
  refine ap_claim_in hok hl ?_
  unfold reachIn at hq
  cases hc : claimOf es name with
  | none =>
    rw [hc] at hq
    simp [clD]
    exact hq
  | some c =>
    rw [hc] at hq
    simp [clD, Cl.d]
    refine compL_imp (enc := DL.pairD) (fun q => [some (.int m), some (.tup (es.map En.d)), some (.str name), some (.tup [.int c.num, .str c.per, .int c.til, .tup (c.words.map DL.pairD), .tup (c.others.map .int)]), some (.int q.1), some (.int q.2)]) (fun q => true) (fun q => D.int q.2) ?_ ?_ ?_ trivial ?_
    · simp [DL.pairD]
    · intro q _ Q hq
      simpa using hq
    · simp
    · have e : ([] : List D) ++ (c.words.filter fun _ => true).map (fun q => D.int q.2) = (c.words.map (·.2)).map .int := by
        rw [List.filter_eq_self.mpr (fun _ _ => rfl), List.nil_append, List.map_map]; rfl
      rw [e, ap_reach_of (ns := c.words.map (·.2)) rfl hm]
      simpa using hq
theorem ok_app (h1 : ∀ e ∈ es, e.ok b) (h2 : ∀ e ∈ more, e.ok b) : ∀ e ∈ es ++ more, e.ok b := fun e he => (List.mem_append.mp he).elim (h1 e) (h2 e)
theorem dAdd_en (h : es.length + more.length ≤ 1000000) : dAdd st (.tup (es.map En.d)) (.tup (more.map En.d)) = some (.tup ((es ++ more).map En.d)) := by
  rw [dAdd_tup (by rw [List.length_map, List.length_map, sizeLine_eq]; omega), List.map_append]
theorem ap_news_of (hok : ∀ e ∈ es, e.ok b) (hmo : ∀ e ∈ more, e.ok b) (hl : es.length ≤ 4000) (hl2 : more.length ≤ 100) (hm : 0 ≤ m) (hm1 : m ≤ 1000) (hn : 0 ≤ now)
    (hq : Q (.tup [ntD (newsOf m house es more name now).1, .lst ((newsOf m house es more name now).2.map Le.d)]) st) : F_news_of [.int m, .int house, .tup (es.map En.d), .tup (more.map En.d), .str name, .int now] st X Q := by
  have hcat := dAdd_en (st := st) (es := es) (more := more) (by omega)
  have hok2 := ok_app hok hmo
  have hl3 : (es ++ more).length ≤ 5000 := by rw [List.length_append]; omega
  simp only [F_news_of, wDef_ap]
  refine ⟨rfl, ?_⟩
  simp [hcat, -List.map_append]
  refine ap_reach_in hok2 hl3 hm ?_
  simp [hcat, -List.map_append]
  unfold newsOf at hq
  generalize hr1 : reachIn m (es ++ more) name = r1 at *
  by_cases h1 : r1 ≤ now
  · rw [if_pos h1]
    rw [if_pos (.inl h1)] at hq
    exact hq
  rw [if_neg h1]
  refine ap_reach_in hok (by omega) hm ?_
  simp [hcat, -List.map_append]
  by_cases h2 : r1 ≤ reachIn m es name
  · rw [if_pos h2]
    rw [if_pos (.inr h2)] at hq
    exact hq
  rw [if_neg h2]
  rw [if_neg (fun z => z.elim h1 h2)] at hq
  refine ap_claim_in hok2 hl3 ?_
  cases hc : claimOf (es ++ more) name with
  | none =>
    unfold reachIn at hr1
    rw [hc] at hr1
    have h3 : r1 = 0 := hr1.symm
    exact absurd (show r1 ≤ now by omega) h1
  | some c =>
    rw [hc] at hq
    simp [clD, Cl.d]
    refine ap_other_houses hm hm1 ?_
    simp only [sqOf_lst, on_some]
    refine compL_imp (enc := D.int) (fun o : Int => [some (.int m), some (.int house), some (.tup (es.map En.d)), some (.tup (more.map En.d)), some (.str name), some (.int now), some (.int r1), some (D.tup
              [D.int c.num, D.str c.per, D.int c.til, D.tup (List.map DL.pairD c.words), D.tup (List.map D.int c.others)]),
          some (D.tup [D.str name, D.int house, D.int c.num, D.str c.per, D.int now]), some (.int o)]) (fun _ => true) (fun o => (Le.told house o name c.num c.per now).d) ?_ ?_ ?_ trivial ?_
    · simp
    · intro o _ Q hq
      simpa using hq
    · intro o _ _ Q hq
      simpa [Le.d] using hq
    · have e : ([] : List D) ++ ((others m house).filter fun _ => true).map (fun o => (Le.told house o name c.num c.per now).d) = ((others m house).map fun o => Le.told house o name c.num c.per now).map Le.d := by
        rw [List.filter_eq_self.mpr (fun _ _ => rfl), List.nil_append, List.map_map]; rfl
      rw [e, Sto.keepOnly_self]
      exact hq
theorem due_none {h' k' u' : Int} (hw : wordIn es name = none) (hu : ¬ u ≤ now) : isDue es name s k u now = true := by
  unfold isDue
  rw [hw]
  simp; omega
theorem ap_ask_taken {t : Int} {p : Str} (hq : Q (.tup [.tup ((askTaken house es s name k u now).1.map En.d), .tup ((askTaken house es s name k u now).2.map Le.d)]) st) :
    F_ask_taken [.int house, .tup (es.map En.d), (Le.ask s t name k p u).d, .int now] st X Q := by
  simp only [F_ask_taken, wDef_ap]
  refine ⟨rfl, ?_⟩
  unfold askTaken at hq
  simp [Le.d, cutD_from]
  by_cases h1 : u ≤ now
  · simpa [h1] using hq
  simp [h1]
  refine ap_is_due ?_
  simp
  by_cases h2 : isDue es name s k u now = true
  · simpa [h1, h2, En.d, Le.d, En.kind, En.name, En.i2, En.tl] using hq
  simp [h2]
  refine ap_word_in ?_
  rw [if_neg h1, if_neg h2] at hq
  cases hw : wordIn es name with
  | none => exact absurd (due_none (h' := 0) (k' := 0) (u' := 0) hw h1) h2
  | some w =>
    obtain ⟨h', k', u'⟩ := w
    rw [hw] at hq
    simp [wdD, cutD_to]
    rw [dEq_t (x := .tup [.int h', .int k']) (y := .tup [.int s, .int k]) [.i h', .i k'] [.i s, .i k] rfl rfl]
    by_cases h3 : h' = s ∧ k' = k
    · simp [h3]
      simpa [h3, Le.d] using hq
    · have e : (decide (h' = s) && decide (k' = k)) = false := by simpa using h3
      simp [e]
      simpa [h3, Le.d] using hq
theorem mem_words {c : Cl} {x : Int} : dIn st (.int x) (.lst ((c.words.map (·.1)).map .int)) = some (.bl (decide (x ∈ c.words.map (·.1)))) := dIn_ints_lst
theorem ap_word_taken {t : Int} (hok : ∀ e ∈ es, e.ok b) (hle : (En.got name k s u).ok b) (hl : es.length ≤ 4000) (hm : 0 ≤ m) (hm1 : m ≤ 1000) (hn : 0 ≤ now) (hq : Q (wordTaken m house es s name k u now).d st) :
    F_word_taken [.int m, .int house, .tup (es.map En.d), (Le.word s t name k u).d, .int now] st X Q := by
  simp only [F_word_taken, wDef_ap]
  refine ⟨rfl, ?_⟩
  unfold wordTaken at hq
  simp [Le.d, cutD_from]
  refine ap_claim_in hok (by omega) ?_
  cases hc : claimOf es name with
  | none =>
    rw [hc] at hq
    simpa [clD, Tk.d, Le.d, ntD] using hq
  | some c =>
    rw [hc] at hq
    simp [clD, Cl.d]
    by_cases h1 : c.num = k
    · simp [h1]
      refine compL_imp (enc := DL.pairD) (fun q : Int × Int => [some (.int m), some (.int house), some (.tup (es.map En.d)), some (D.tup [D.str (Str.ofString "word"), D.int s, D.int t, D.str name, D.int k, D.int u]), some (.int now), some (D.tup
              [D.int k, D.str c.per, D.int c.til, D.tup (List.map DL.pairD c.words), D.tup (List.map D.int c.others)]), none, some (.int s), some (.int t), some (.str name), some (.int k), some (.int u), none, none, some (.int q.1), some (.int q.2)]) (fun q => decide (q.1 = s ∧ q.2 ≥ u)) (fun q => D.int q.2) ?_ ?_ ?_ trivial ?_
      · simp [DL.pairD]
      · intro q _ Q hq
        simp
        by_cases h2 : q.1 = s
        · simpa [h2] using hq
        · simpa [h2] using hq
      · simp
      · simp only [List.nil_append]
        rw [dNe_lnil (plL_map fun _ _ => pl_int)]
        have he : (!((c.words.filter fun q => decide (q.1 = s ∧ q.2 ≥ u)).map fun q => D.int q.2).isEmpty) = decide ((c.words.filter fun q => decide (q.1 = s ∧ q.2 ≥ u)) ≠ []) := by
          cases (c.words.filter fun q => decide (q.1 = s ∧ q.2 ≥ u)) <;> simp
        rw [he]
        by_cases h3 : (c.words.filter fun q => decide (q.1 = s ∧ q.2 ≥ u)) ≠ []
        · simp only [decide_eq_true h3]
          dsimp only at hq
          rw [if_neg (fun z => z h1), if_pos h3] at hq
          simpa [Tk.d, ntD] using hq
        · simp only [decide_eq_false h3]
          dsimp only at hq
          rw [if_neg (fun z => z h1), if_neg h3] at hq
          simp only [on_some, bOf_bl, Bool.false_eq_true, if_false]
          refine ap_news_of (more := [.got name k s u]) (b := b) hok (by simpa using hle) hl (by simp) hm hm1 hn ?_
          simp
          simpa [Tk.d, En.d, En.kind, En.name, En.i2, En.tl] using hq
    · simp [h1]
      simpa [h1, Tk.d, Le.d, ntD] using hq
theorem ap_no_taken {t : Int} (hok : ∀ e ∈ es, e.ok b) (hl : es.length ≤ 4000) (hq : Q (.tup ((noTaken es s name k).map En.d)) st) :
    F_no_taken [.tup (es.map En.d), (Le.no s t name k).d] st X Q := by
  simp only [F_no_taken, wDef_ap]
  refine ⟨rfl, ?_⟩
  unfold noTaken at hq
  simp [Le.d, cutD_from]
  refine ap_claim_in hok (by omega) ?_
  cases hc : claimOf es name with
  | none =>
    rw [hc] at hq
    simpa [clD] using hq
  | some c =>
    rw [hc] at hq
    dsimp only at hq
    simp [clD, Cl.d]
    by_cases h1 : c.num = k
    · simp [h1]
      by_cases h2 : s ∈ c.others
      · simp [h2]
        simpa [h1, h2] using hq
      · simp [h2]
        refine compL_imp (enc := DL.pairD) (fun q : Int × Int => [some (.tup (es.map En.d)), some (D.tup [D.str (Str.ofString "no"), D.int s, D.int t, D.str name, D.int k]), some (D.tup
              [D.int k, D.str c.per, D.int c.til, D.tup (List.map DL.pairD c.words), D.tup (List.map D.int c.others)]), some (.int s), some (.int t), some (.str name), some (.int k), some (.int q.1), some (.int q.2)]) (fun q => true) (fun q => D.int q.1) ?_ ?_ ?_ trivial ?_
        · simp [DL.pairD]
        · intro q _ Q hq
          simpa using hq
        · simp
        · have e : ([] : List D) ++ (c.words.filter fun _ => true).map (fun q => D.int q.1) = (c.words.map (·.1)).map .int := by
            rw [List.filter_eq_self.mpr (fun _ _ => rfl), List.nil_append, List.map_map]; rfl
          rw [e, mem_words, on_some, bOf_bl, on_some]
          by_cases h3 : s ∈ c.words.map (·.1)
          · rw [decide_eq_true h3]
            rw [if_pos (.inr (.inr h3))] at hq
            simpa using hq
          · rw [decide_eq_false h3]
            rw [if_neg (fun z => z.elim (fun z => z h1) fun z => z.elim h2 h3)] at hq
            simpa [En.d, En.kind, En.name, En.i2, En.tl] using hq
    · rw [if_pos (.inl h1)] at hq
      simp [h1]
      simpa using hq
theorem ap_back_taken {t : Int} (hq : Q (.tup ((backTaken es s name k).map En.d)) st) :
    F_back_taken [.tup (es.map En.d), (Le.back s t name k).d] st X Q := by
  simp only [F_back_taken, wDef_ap]
  refine ⟨rfl, ?_⟩
  unfold backTaken at hq
  simp [Le.d, cutD_from]
  refine ap_word_in ?_
  cases hw : wordIn es name with
  | none =>
    rw [hw] at hq
    simpa [wdD] using hq
  | some w =>
    obtain ⟨h', k', u'⟩ := w
    rw [hw] at hq
    simp [wdD, cutD_to]
    rw [dNe_t (x := .tup [.int h', .int k']) (y := .tup [.int s, .int k]) [.i h', .i k'] [.i s, .i k] rfl rfl]
    by_cases h3 : h' = s ∧ k' = k
    · simp [h3]
      simpa [h3, En.d, En.kind, En.name, En.i2, En.tl] using hq
    · have e : (decide (h' = s) && decide (k' = k)) = false := by simpa using h3
      simp [e]
      simpa [h3] using hq
/-- what a letter brings, as an entry -/
def Le.ok (b : Int) : Le → Prop
  | .word s _ n k u => (En.got n k s u).ok b
  | _ => True
theorem ap_taken {l : Le} (hok : ∀ e ∈ es, e.ok b) (hle : l.ok b) (hl : es.length ≤ 4000) (hm : 0 ≤ m) (hm1 : m ≤ 1000) (hn : 0 ≤ now) (hq : Q (taken m house es l now).d st) :
    F_taken [.int m, .int house, .tup (es.map En.d), l.d, .int now] st X Q := by
  simp only [F_taken, wDef_ap]
  refine ⟨rfl, ?_⟩
  cases l with
  | ask s t n k p u =>
    rw [show (Le.ask s t n k p u).d = .tup [.str (Str.ofString "ask"), .int s, .int t, .str n, .int k, .str p, .int u] from rfl]
    simp
    rw [show D.tup [.str (Str.ofString "ask"), .int s, .int t, .str n, .int k, .str p, .int u] = (Le.ask s t n k p u).d from rfl]
    refine ap_ask_taken ?_
    simp [dAdd_tup, sizeLine_eq]
    exact hq
  | word s t n k u =>
    rw [show (Le.word s t n k u).d = .tup [.str (Str.ofString "word"), .int s, .int t, .str n, .int k, .int u] from rfl]
    simp [ofString_inj]
    rw [show D.tup [.str (Str.ofString "word"), .int s, .int t, .str n, .int k, .int u] = (Le.word s t n k u).d from rfl]
    refine ap_word_taken hok hle hl hm hm1 hn ?_
    simpa [taken, Tk.d, ntD, Nt.d] using hq
  | no s t n k =>
    rw [show (Le.no s t n k).d = .tup [.str (Str.ofString "no"), .int s, .int t, .str n, .int k] from rfl]
    simp [ofString_inj]
    rw [show D.tup [.str (Str.ofString "no"), .int s, .int t, .str n, .int k] = (Le.no s t n k).d from rfl]
    refine ap_no_taken hok hl ?_
    simpa [taken, Tk.d, ntD, Nt.d] using hq
  | back s t n k =>
    rw [show (Le.back s t n k).d = .tup [.str (Str.ofString "back"), .int s, .int t, .str n, .int k] from rfl]
    simp [ofString_inj]
    rw [show D.tup [.str (Str.ofString "back"), .int s, .int t, .str n, .int k] = (Le.back s t n k).d from rfl]
    refine ap_back_taken ?_
    simpa [taken, Tk.d, ntD, Nt.d] using hq
  | told s t n k p u =>
    rw [show (Le.told s t n k p u).d = .tup [.str (Str.ofString "told"), .int s, .int t, .str n, .int k, .str p, .int u] from rfl]
    simp [ofString_inj, cutD_from]
    simpa [taken, Tk.d, ntD, Nt.d] using hq
end
end DL
namespace DL
open PySem PySem.Spec PyProof.Rows L2

/-! ### texts among texts -/
section
variable {st : Sto} {x : Str} {xs : List Str}
theorem toPyL_strs : ∀ {ns : List Str}, toPyL (ns.map D.str) = some (ns.map PyData.str)
  | [] => by rw [List.map_nil, toPyL]; rfl
  | n :: ns => by rw [List.map_cons, toPyL, toPyL_strs, toPy]; rfl
theorem anyEq_str : anyEq st (xs.map D.str) (.str x) = some (decide (x ∈ xs)) := by
  unfold anyEq
  rw [toPyL_strs]
  show (if PyData.depth (.str x) ≤ 60 then some ((xs.map PyData.str).any fun z => PyData.eqv z (.str x)) else none) = _
  rw [if_pos (by unfold PyData.depth; omega)]
  congr 1
  rw [List.any_map, Bool.eq_iff_iff, decide_eq_true_iff]
  simp only [List.any_eq_true, Function.comp]
  constructor
  · rintro ⟨y, hy, e⟩
    rw [PyData.eqv] at e
    have : y = x := by simpa using e
    exact this ▸ hy
  · intro h
    exact ⟨x, h, by rw [PyData.eqv]; simp⟩
theorem dIn_strs_tup : dIn st (.str x) (.tup (xs.map D.str)) = some (.bl (decide (x ∈ xs))) := by
  show (anyEq st (xs.map D.str) (.str x)).map D.bl = _
  rw [anyEq_str]; rfl
theorem dNotIn_strs_tup : dNotIn st (.str x) (.tup (xs.map D.str)) = some (.bl (!decide (x ∈ xs))) := by
  show (anyEq st (xs.map D.str) (.str x)).map (fun b => D.bl (!b)) = _
  rw [anyEq_str]; rfl
theorem dIn_strs_lst : dIn st (.str x) (.lst (xs.map D.str)) = some (.bl (decide (x ∈ xs))) := by
  show (anyEq st (xs.map D.str) (.str x)).map D.bl = _
  rw [anyEq_str]; rfl
theorem dNotIn_strs_lst : dNotIn st (.str x) (.lst (xs.map D.str)) = some (.bl (!decide (x ∈ xs))) := by
  show (anyEq st (xs.map D.str) (.str x)).map (fun b => D.bl (!b)) = _
  rw [anyEq_str]; rfl
@[simp] theorem dIn_str2 {a b : Str} : dIn st (.str x) (.tup [.str a, .str b]) = some (.bl (decide (x = a ∨ x = b))) := by
  have := dIn_strs_tup (st := st) (x := x) (xs := [a, b])
  simpa using this
@[simp] theorem dIn_str3 {a b c : Str} : dIn st (.str x) (.tup [.str a, .str b, .str c]) = some (.bl (decide (x = a ∨ x = b ∨ x = c))) := by
  have := dIn_strs_tup (st := st) (x := x) (xs := [a, b, c])
  simpa using this
@[simp] theorem dIn_str4 {a b c d : Str} : dIn st (.str x) (.tup [.str a, .str b, .str c, .str d]) = some (.bl (decide (x = a ∨ x = b ∨ x = c ∨ x = d))) := by
  have := dIn_strs_tup (st := st) (x := x) (xs := [a, b, c, d])
  simpa using this
end
theorem cutD_mid {ds : List D} {i j : Int} (hi : 0 ≤ i) (hj : 0 ≤ j) : DL.cutD ds (some i) (some j) = (ds.drop i.toNat).take (j.toNat - i.toNat) := by
  have e1 : HT.sIx ds.length 0 (some i) = min i.toNat ds.length := by
    unfold HT.sIx
    simp only
    rw [if_neg (by omega)]
  have e2 : HT.sIx ds.length ds.length (some j) = min j.toNat ds.length := by
    unfold HT.sIx
    simp only
    rw [if_neg (by omega)]
  unfold DL.cutD
  rw [e1, e2]
  by_cases c : i.toNat ≤ ds.length
  · rw [Nat.min_eq_left c, List.take_eq_take_iff, List.length_drop]
    omega
  · have e3 : ds.drop (min i.toNat ds.length) = [] := List.drop_eq_nil_of_le (by omega)
    have e4 : ds.drop i.toNat = [] := List.drop_eq_nil_of_le (by omega)
    rw [e3, e4]
    simp
end DL
namespace DL
open PySem PySem.Spec PyProof.Rows L2
/-! ### drawn logs and letters (k09..k14), and what the law's own house does -/
def F__law_entry9 : WF := wDef 7 2 true (wSeq (wSet 2 (wFn F__law_name (wCons (wVar 0) wNil))) (wSeq (wSet 3 (wFn F__law_take (wCons (wVar 0) (wCons (wVar 1) wNil)))) (wSeq (wSet 4 (wBin ixD (wLst (wCons (wC (.int 1)) (wCons (wC (.int 2)) (wCons (wC (.int 3)) (wCons (wC (.int 101)) (wCons (wC (.int 999999999999999999999999999999)) wNil)))))) (wFn F__law_take (wCons (wVar 0) (wCons (wC (.int 5)) wNil))))) (wSeq (wSet 5 (wFn F__law_until (wCons (wVar 0) wNil))) (wSeq (wSet 6 (wLst (wCons (wTup (wCons (wC (.str "ask")) (wCons (wVar 2) (wCons (wVar 4) (wCons (wFn F__law_person (wCons (wVar 0) wNil)) (wCons (wVar 5) wNil)))))) (wCons (wTup (wCons (wC (.str "got")) (wCons (wVar 2) (wCons (wVar 4) (wCons (wVar 3) (wCons (wVar 5) wNil)))))) wNil)))) (wSeq (wSet 6 (wBin dAdd (wVar 6) (wLst (wCons (wTup (wCons (wC (.str "word")) (wCons (wVar 2) (wCons (wVar 3) (wCons (wVar 4) (wCons (wVar 5) wNil)))))) (wCons (wTup (wCons (wC (.str "word")) (wCons (wVar 2) (wCons (wVar 3) (wCons (wVar 4) (wCons (wVar 5) wNil)))))) wNil))))) (wSeq (wSet 6 (wBin dAdd (wVar 6) (wLst (wCons (wTup (wCons (wC (.str "got")) (wCons (wVar 2) (wCons (wVar 4) (wCons (wVar 3) (wCons (wVar 5) wNil)))))) (wCons (wTup (wCons (wC (.str "no")) (wCons (wVar 2) (wCons (wVar 4) (wCons (wVar 3) wNil))))) (wCons (wTup (wCons (wC (.str "free")) (wCons (wVar 2) (wCons (wVar 3) (wCons (wVar 4) wNil))))) wNil)))))) (wSeq (wSet 6 (wBin dAdd (wVar 6) (wLst (wCons (wTup (wCons (wC (.str "back")) (wCons (wVar 2) (wCons (wVar 4) wNil)))) wNil)))) (wRet (wBin ixD (wVar 6) (wBin ixD (wLst (wCons (wC (.int 0)) (wCons (wC (.int 0)) (wCons (wC (.int 1)) (wCons (wC (.int 1)) (wCons (wC (.int 2)) (wCons (wC (.int 2)) (wCons (wC (.int 3)) (wCons (wC (.int 4)) (wCons (wC (.int 5)) (wCons (wC (.int 5)) (wCons (wC (.int 6)) (wCons (wC (.int 6)) (wCons (wC (.int 7)) wNil)))))))))))))) (wFn F__law_take (wCons (wVar 0) (wCons (wC (.int 13)) wNil))))))))))))))
def F__law_log9 : WF := wDef 4 3 true (wRet (wCall cTuple (wCons (wComp (wiRange (wCons (wFn F__law_take (wCons (wVar 0) (wCons (wBin dAdd (wVar 2) (wC (.int 1))) wNil))) wNil)) (.nm 3) wYes (wFn F__law_entry9 (wCons (wVar 0) (wCons (wVar 1) wNil))) [3]) wNil)))
def F__law_letter : WF := wDef 11 5 true (wSeq (wSet 5 (wBin dMod (wBin dAdd (wBin dAdd (wVar 2) (wC (.int 1))) (wFn F__law_take (wCons (wVar 0) (wCons (wBin dSub (wVar 1) (wC (.int 1))) wNil)))) (wVar 1))) (wSeq (wSet 6 (wFn F__law_name (wCons (wVar 0) wNil))) (wSeq (wSet 7 (wBin ixD (wLst (wCons (wC (.int 1)) (wCons (wC (.int 2)) (wCons (wC (.int 3)) (wCons (wC (.int 101)) (wCons (wC (.int 999999999999999999999999999999)) wNil)))))) (wFn F__law_take (wCons (wVar 0) (wCons (wC (.int 5)) wNil))))) (wSeq (wSet 8 (wFn F__law_until (wCons (wVar 0) wNil))) (wSeq (wSet 9 (wComp (wiSeq (wVar 4)) (.nm 10) (wTB (wBin dIn (wBin ixD (wVar 10) (wC (.int 0))) (wTup (wCons (wC (.str "ask")) (wCons (wC (.str "word")) wNil))))) (wVar 10) [10])) (wSeq (wIfS (wTAnd (wTB (wBin dNe (wVar 9) (wLst wNil))) (wTB (wBin dEq (wFn F__law_take (wCons (wVar 0) (wCons (wC (.int 2)) wNil))) (wC (.int 0))))) (wSeq (wSet 10 (wBin ixD (wVar 9) (wFn F__law_take (wCons (wVar 0) (wCons (wCall cLen (wCons (wVar 9) wNil)) wNil))))) (wSeq (wSet 6 (wBin ixD (wVar 10) (wC (.int 1)))) (wSeq (wSet 7 (wBin ixD (wVar 10) (wBin dAdd (wC (.int 2)) (wCall cInt (wCons (wBin dEq (wBin ixD (wVar 10) (wC (.int 0))) (wC (.str "word"))) wNil))))) (wSeq (wIfS (wTAnd (wTB (wBin dEq (wBin ixD (wVar 10) (wC (.int 0))) (wC (.str "word")))) (wTB (wBin dNe (wBin ixD (wVar 10) (wC (.int 2))) (wVar 2)))) (wSet 5 (wBin ixD (wVar 10) (wC (.int 2)))) wSkip) (wSet 8 (wBin ixD (wLst (wCons (wVar 8) (wCons (wBin ixD (wVar 10) (wC (.int 4))) (wCons (wBin dAdd (wBin ixD (wVar 10) (wC (.int 4))) (wC (.int 1))) wNil)))) (wFn F__law_take (wCons (wVar 0) (wCons (wC (.int 3)) wNil))))))))) wSkip) (wSeq (wIfS (wTB (wBin dIn (wVar 3) (wTup (wCons (wC (.str "ask")) (wCons (wC (.str "told")) wNil))))) (wRet (wTup (wCons (wVar 3) (wCons (wVar 5) (wCons (wVar 2) (wCons (wVar 6) (wCons (wVar 7) (wCons (wFn F__law_person (wCons (wVar 0) wNil)) (wCons (wVar 8) wNil))))))))) wSkip) (wSeq (wIfS (wTB (wBin dEq (wVar 3) (wC (.str "word")))) (wRet (wTup (wCons (wVar 3) (wCons (wVar 5) (wCons (wVar 2) (wCons (wVar 6) (wCons (wVar 7) (wCons (wVar 8) wNil)))))))) wSkip) (wRet (wTup (wCons (wVar 3) (wCons (wVar 5) (wCons (wVar 2) (wCons (wVar 6) (wCons (wVar 7) wNil)))))))))))))))
def F__law_reach_in : WF := wDef 6 3 true (wSeq (wSet 3 (wFn F__law_claim (wCons (wVar 1) (wCons (wVar 2) wNil)))) (wSeq (wIfS (wTB (wBin dIs (wVar 3) (wC .non))) (wRet (wC (.int 0))) wSkip) (wRet (wFn F__law_reach (wCons (wComp (wiSeq (wBin ixD (wVar 3) (wC (.int 3)))) (.tp [(.nm 4), (.nm 5)]) wYes (wVar 5) [4, 5]) (wCons (wVar 0) wNil))))))
def F__law_told_by : WF := wDef 7 6 true (wRet (wCall cTuple (wCons (wComp (wiRange (wCons (wVar 0) wNil)) (.nm 6) (wTB (wBin dNe (wVar 6) (wVar 1))) (wTup (wCons (wC (.str "told")) (wCons (wVar 1) (wCons (wVar 6) (wCons (wVar 2) (wCons (wVar 3) (wCons (wVar 4) (wCons (wVar 5) wNil)))))))) [6]) wNil)))
def F__law_ask : WF := wDef 13 4 true (wSeq (wAsg (.tp [(.nm 6), (.nm 7), (.nm 8), (.nm 9), (.nm 10), (.nm 11)]) (wSl (wVar 2) (wPart (wC (.int 1))) wNo)) (wSeq (wSet 4 (wFn F__law_word (wCons (wVar 1) (wCons (wVar 8) wNil)))) (wSeq (wIfS (wTB (wBin dLe (wVar 11) (wVar 3))) (wRet (wTup (wCons (wTup wNil) (wCons (wTup wNil) (wCons (wC .non) wNil))))) wSkip) (wSeq (wSet 5 (wOr (wBin dIs (wVar 4) (wC .non)) (wBin dLe (wBin ixD (wVar 4) (wC (.int 2))) (wVar 3)))) (wSeq (wIfS (wTOr (wTT (wVar 5)) (wTAnd (wTB (wBin dEq (wSl (wVar 4) wNo (wPart (wC (.int 2)))) (wTup (wCons (wVar 6) (wCons (wVar 9) wNil))))) (wTB (wBin dLt (wBin ixD (wVar 4) (wC (.int 2))) (wVar 11))))) (wSeq (wSet 12 (wTup (wCons (wC (.str "word")) (wCons (wVar 8) (wCons (wVar 6) (wCons (wVar 9) (wCons (wVar 11) wNil))))))) (wRet (wTup (wCons (wTup (wCons (wVar 12) wNil)) (wCons (wTup (wCons (wTup (wCons (wC (.str "word")) (wCons (wVar 0) (wCons (wVar 6) (wCons (wVar 8) (wCons (wVar 9) (wCons (wVar 11) wNil))))))) wNil)) (wCons (wC .non) wNil)))))) wSkip) (wSeq (wIfS (wTB (wBin dEq (wSl (wVar 4) wNo (wPart (wC (.int 2)))) (wTup (wCons (wVar 6) (wCons (wVar 9) wNil))))) (wRet (wTup (wCons (wTup wNil) (wCons (wTup (wCons (wTup (wCons (wC (.str "word")) (wCons (wVar 0) (wCons (wVar 6) (wCons (wVar 8) (wCons (wVar 9) (wCons (wBin ixD (wVar 4) (wC (.int 2))) wNil))))))) wNil)) (wCons (wC .non) wNil))))) wSkip) (wRet (wTup (wCons (wTup wNil) (wCons (wTup (wCons (wTup (wCons (wC (.str "no")) (wCons (wVar 0) (wCons (wVar 6) (wCons (wVar 8) (wCons (wVar 9) wNil)))))) wNil)) (wCons (wC .non) wNil)))))))))))

section
variable {st : Sto} {X : PoX} {Q : PoE} {n m : Int} {a : Addr} {r : List D}
/-- a log by any law's own entries -/
def FLog (F : WF) : WF := wDef 4 3 true (wRet (wCall cTuple (wCons (wComp (wiRange (wCons (wFn F__law_take (wCons (wVar 0) (wCons (wBin dAdd (wVar 2) (wC (.int 1))) wNil))) wNil)) (.nm 3) wYes (wFn F (wCons (wVar 0) (wCons (wVar 1) wNil))) [3]) wNil)))
theorem ap_log_gen {F : WF} (hF : ∀ {st : Sto} {X : PoX} {Q : PoE} {r : List D}, st a = some (.lst r) → RowOk r → (∀ (e : En) r', e.ok m → RowOk r' → Q e.d (st.set a (.lst r'))) → F [.ref a, .int m] st X Q)
    (hr : st a = some (.lst r)) (ok : RowOk r) (hn0 : 0 ≤ n) (hn1 : n ≤ 1000) (h : ∀ (es : List En) r', es.length ≤ n → (∀ e ∈ es, e.ok m) → RowOk r' → Q (.tup (es.map En.d)) (st.set a (.lst r'))) : FLog F [.ref a, .int m, .int n] st X Q := by
  have sm : (st a).isSome = true := by rw [hr]; rfl
  simp only [FLog, wDef_ap]
  refine ⟨rfl, ?_⟩
  simp
  refine ap_take hr ok (by omega) (by omega) fun k r k0 k1 ok => ?_
  simp (disch := omega) [rangeOf_1, rangeL_map]
  refine compL_inv (fun acc rest st' => ∃ (es : List En) (r : List D), acc = es.map En.d ∧ RowOk r ∧ st' = st.set a (.lst r) ∧ (∀ e ∈ es, e.ok m) ∧ es.length + rest.length ≤ n.toNat) (fun _ _ _ _ => trivial) ?_ ?_ _ _ _ ⟨[], r, rfl, ok, rfl, (by simp), by rw [rangeI_len]; simp; omega⟩
  · rintro acc st' ⟨es, r, rfl, ok, rfl, hok, hl⟩
    simp [Sto.keepOnly_set sm]
    exact h es r (by simp at hl; omega) hok ok
  · rintro x rest acc st' N ⟨es, r, rfl, ok, rfl, hok, hl⟩ hN
    simp
    refine hF Sto.set_same ok fun e r eok ok => ?_
    refine hN _ _ ⟨es ++ [e], r, by simp, ok, by simp, ?_, by simp at hl ⊢; omega⟩
    intro z hz
    rcases List.mem_append.mp hz with hz | hz
    · exact hok z hz
    · rw [List.mem_singleton.mp hz]; exact eok
theorem ap_entry9 (hm0 : 0 < m) (hm1 : m ≤ 1000) (hr : st a = some (.lst r)) (ok : RowOk r) (h : ∀ (e : En) r', e.ok m → RowOk r' → Q e.d (st.set a (.lst r'))) : F__law_entry9 [.ref a, .int m] st X Q := by
  have sm : (st a).isSome = true := by rw [hr]; rfl
  simp only [F__law_entry9, wDef_ap]
  refine ⟨rfl, ?_⟩
  simp
  refine ap_name7 hr ok fun name r hnm ok => ?_
  refine ap_take Sto.set_same ok hm0 (by omega) fun house r h0 h1 ok => ?_
  simp
  refine ap_take Sto.set_same ok (by decide) (by decide) fun i r i0 i1 ok => ?_
  obtain ⟨d, ⟨x, rfl, x1⟩, e⟩ := atI_isSome (ds := [D.int 1, .int 2, .int 3, .int 101, .int 999999999999999999999999999999]) i0 (by simpa using i1) (fun d => ∃ x, d = .int x ∧ 1 ≤ x) (by simp)
  simp [e]
  refine ap_until Sto.set_same ok fun u r u0 ok => ?_
  simp
  refine ap_person Sto.set_same ok fun p r hpm ok => ?_
  simp [dAdd_lst, sizeLine_eq]
  refine ap_take Sto.set_same ok (by decide) (by decide) fun i2 r i20 i21 ok => ?_
  obtain ⟨d2, ⟨x2, rfl, x20, x21⟩, e2⟩ := atI_isSome (ds := [D.int 0, .int 0, .int 1, .int 1, .int 2, .int 2, .int 3, .int 4, .int 5, .int 5, .int 6, .int 6, .int 7]) i20 (by simpa using i21) (fun d => ∃ x, d = .int x ∧ 0 ≤ x ∧ x < 8) (by simp)
  simp [e2]
  obtain ⟨en, eok, e3⟩ := some_en (name := name) (p := p) (k := x) (house := house) (u := u) (m := m) hnm hpm x1 h0 h1 u0 x20 x21
  simp [e3, Sto.keepOnly_set sm]
  exact h en r eok ok
theorem ap_log9 (hr : st a = some (.lst r)) (ok : RowOk r) (hm0 : 0 < m) (hm1 : m ≤ 1000) (hn0 : 0 ≤ n) (hn1 : n ≤ 1000) (h : ∀ (es : List En) r', es.length ≤ n → (∀ e ∈ es, e.ok m) → RowOk r' → Q (.tup (es.map En.d)) (st.set a (.lst r'))) : F__law_log9 [.ref a, .int m, .int n] st X Q :=
  ap_log_gen (F := F__law_entry9) (fun hr ok h => ap_entry9 hm0 hm1 hr ok h) hr ok hn0 hn1 h
end
def Le.kind : Le → String
  | .ask .. => "ask" | .word .. => "word" | .no .. => "no" | .back .. => "back" | .told .. => "told"
/-- a letter to a house, of another one -/
def Le.good (b house : Int) : Le → Prop
  | .ask s t n k p u => t = house ∧ 0 ≤ s ∧ s < b ∧ s ≠ house ∧ nameOk n = true ∧ 1 ≤ k ∧ nameOk p = true ∧ 1 ≤ u
  | .word s t n k u => t = house ∧ 0 ≤ s ∧ s < b ∧ s ≠ house ∧ nameOk n = true ∧ 1 ≤ k ∧ 1 ≤ u
  | .no s t n k => t = house ∧ 0 ≤ s ∧ s < b ∧ s ≠ house ∧ nameOk n = true ∧ 1 ≤ k
  | .back s t n k => t = house ∧ 0 ≤ s ∧ s < b ∧ s ≠ house ∧ nameOk n = true ∧ 1 ≤ k
  | .told s t n k p u => t = house ∧ 0 ≤ s ∧ s < b ∧ s ≠ house ∧ nameOk n = true ∧ 1 ≤ k ∧ nameOk p = true ∧ 1 ≤ u
theorem Le.good.ok {b house : Int} {l : Le} (h : l.good b house) : l.ok b := by
  cases l <;> first | trivial | (obtain ⟨_, h1, h2, _, h3, h4, h5⟩ := h; exact ⟨h3, h4, h1, h2, h5⟩)
theorem En.pl_d {e : En} {n : Nat} : pl (n + 1) e.d = true := by cases e <;> simp [En.d, En.tl]
section
variable {st : Sto} {X : PoX} {Q : PoE} {n m house : Int} {a : Addr} {r : List D} {es : List En}
theorem ap_letter9 {kind : String} (hk : kind ∈ ["ask", "word", "no", "back", "told"]) (hr : st a = some (.lst r)) (ok : RowOk r) (hm0 : 2 ≤ m) (hm1 : m ≤ 1000) (hh0 : 0 ≤ house) (hh1 : house < m) (hok : ∀ e ∈ es, e.ok m) (hl : es.length ≤ 4000)
    (h : ∀ (l : Le) r', l.kind = kind → l.good m house → RowOk r' → Q l.d (st.set a (.lst r'))) : F__law_letter [.ref a, .int m, .int house, .str (Str.ofString kind), .tup (es.map En.d)] st X Q := by
  have sm : (st a).isSome = true := by rw [hr]; rfl
  simp only [F__law_letter, wDef_ap]
  refine ⟨rfl, ?_⟩
  simp [-wIfS_ap]
  refine ap_take hr ok (by omega) (by omega) fun x r x0 x1 ok => ?_
  simp (disch := omega) [dMod_int, -wIfS_ap]
  have hs0 := emod_b (house + 1 + x) (k := m) (by omega)
  have hs1 : (house + 1 + x) % m ≠ house := by
    intro e
    by_cases c : house + 1 + x < m
    · rw [Int.emod_eq_of_lt (by omega) c] at e; omega
    · have : (house + 1 + x) % m = house + 1 + x - m := by
        rw [← Int.sub_emod_right, Int.emod_eq_of_lt (by omega) (by omega)]
      omega
  generalize (house + 1 + x) % m = s at *
  refine ap_name7 Sto.set_same ok fun name r hnm ok => ?_
  simp [-wIfS_ap]
  refine ap_take Sto.set_same ok (by decide) (by decide) fun i r i0 i1 ok => ?_
  obtain ⟨d, ⟨k, rfl, k1⟩, e⟩ := atI_isSome (ds := [D.int 1, .int 2, .int 3, .int 101, .int 999999999999999999999999999999]) i0 (by simpa using i1) (fun d => ∃ x, d = .int x ∧ 1 ≤ x) (by simp)
  simp [e, -wIfS_ap]
  refine ap_until Sto.set_same ok fun u r u0 ok => ?_
  simp [-wIfS_ap]
  refine compL_imp (fun e : En => [some (D.ref a), some (D.int m), some (D.int house), some (D.str (Str.ofString kind)), some (D.tup (List.map En.d es)), some (D.int s), some (D.str name), some (D.int k), some (D.int u), none, some e.d]) (fun e => decide (e.kind = "ask" ∨ e.kind = "word")) En.d ?_ ?_ ?_ trivial ?_
  · simp
  · intro e _ Q hq
    simp [ofString_inj]
    simpa using hq
  · simp
  rw [List.nil_append]
  have hso : ∀ e ∈ es.filter (fun e => decide (e.kind = "ask" ∨ e.kind = "word")), e.ok m ∧ (e.kind = "ask" ∨ e.kind = "word") := fun e he => by
    obtain ⟨h1, h2⟩ := List.mem_filter.mp he
    exact ⟨hok e h1, by simpa using h2⟩
  have hsl := List.length_filter_le (fun e : En => decide (e.kind = "ask" ∨ e.kind = "word")) es
  generalize es.filter (fun e => decide (e.kind = "ask" ∨ e.kind = "word")) = zs at *
  refine wIfS_via (fun e' st' => ∃ (s : Int) (n : Str) (k u : Int) (x10 : Option D) (r : List D), (0 ≤ s ∧ s < m) ∧ s ≠ house ∧ nameOk n = true ∧ 1 ≤ k ∧ 1 ≤ u ∧ RowOk r ∧ st' = st.set a (.lst r) ∧
    e' = [some (D.ref a), some (D.int m), some (D.int house), some (D.str (Str.ofString kind)), some (D.tup (List.map En.d es)), some (D.int s), some (D.str n), some (D.int k), some (D.int u), some (D.lst (zs.map En.d)), x10]) ?_ ?_
  · intro N hN
    have base : ∀ r, RowOk r → N [some (D.ref a), some (D.int m), some (D.int house), some (D.str (Str.ofString kind)), some (D.tup (List.map En.d es)), some (D.int s), some (D.str name), some (D.int k), some (D.int u), some (D.lst (zs.map En.d)), none] (st.set a (.lst r)) :=
      fun r ok => hN _ _ ⟨s, name, k, u, none, r, hs0, hs1, hnm, k1, u0, ok, rfl, rfl⟩
    simp [-wIfS_ap]
    rw [wIfS_ap]
    simp [-wIfS_ap]
    rw [dNe_lnil (plL_map fun e _ => En.pl_d)]
    by_cases hne : zs = []
    · subst hne
      simp
      exact base r ok
    have hlen : 0 < zs.length := List.length_pos_iff.mpr hne
    simp [hne, -wIfS_ap]
    refine ap_take Sto.set_same ok (by decide) (by decide) fun y r y0 y1 ok => ?_
    simp [-wIfS_ap]
    by_cases hy : y = 0
    · simp [hy, -wIfS_ap]
      refine ap_take Sto.set_same ok (by omega) (by omega) fun j r j0 j1 ok => ?_
      obtain ⟨en, henm, hene⟩ := atI_mem (ds := zs) j0 j1
      obtain ⟨eok, ekind⟩ := hso en henm
      simp [atI_map, hene, -wIfS_ap]
      cases en with
      | ask n k2 p u2 =>
        simp [En.kind, ofString_inj, En.d, En.name, En.i2, En.tl]
        refine ap_take Sto.set_same ok (by decide) (by decide) fun j r j0 j1 ok => ?_
        obtain ⟨d, ⟨u3, rfl, u31⟩, e⟩ := atI_isSome (ds := [D.int u, .int u2, .int (u2 + 1)]) j0 (by simpa using j1) (fun d => ∃ x, d = .int x ∧ 1 ≤ x) (by
          have := eok.2.2.1
          simp
          omega)
        simp [e]
        exact hN _ _ ⟨s, n, k2, u3, _, r, hs0, hs1, eok.1, eok.2.1, u31, ok, rfl, rfl⟩
      | word n h2 k2 u2 =>
        have okk : 1 ≤ k2 ∧ 0 ≤ h2 ∧ h2 < m ∧ 1 ≤ u2 := eok.2
        simp [En.kind, ofString_inj, En.d, En.name, En.i2, En.tl]
        by_cases hh : h2 = house
        · simp [hh]
          refine ap_take Sto.set_same ok (by decide) (by decide) fun j r j0 j1 ok => ?_
          obtain ⟨d, ⟨u3, rfl, u31⟩, e⟩ := atI_isSome (ds := [D.int u, .int u2, .int (u2 + 1)]) j0 (by simpa using j1) (fun d => ∃ x, d = .int x ∧ 1 ≤ x) (by
            simp
            omega)
          simp [e]
          exact hN _ _ ⟨s, n, k2, u3, _, r, hs0, hs1, eok.1, okk.1, u31, ok, rfl, rfl⟩
        · simp [hh]
          refine ap_take Sto.set_same ok (by decide) (by decide) fun j r j0 j1 ok => ?_
          obtain ⟨d, ⟨u3, rfl, u31⟩, e⟩ := atI_isSome (ds := [D.int u, .int u2, .int (u2 + 1)]) j0 (by simpa using j1) (fun d => ∃ x, d = .int x ∧ 1 ≤ x) (by
            simp
            omega)
          simp [e]
          exact hN _ _ ⟨h2, n, k2, u3, _, r, ⟨okk.2.1, okk.2.2.1⟩, hh, eok.1, okk.1, u31, ok, rfl, rfl⟩
      | _ => simp [En.kind] at ekind
    · simp [hy]
      exact base r ok
  · rintro e' _ ⟨s, n, k, u, x10, r, hs0, hs1, hnm, k1, u1, ok, rfl, rfl⟩
    simp at hk
    rcases hk with rfl | rfl | rfl | rfl | rfl
    · simp [ofString_inj]
      refine ap_person Sto.set_same ok fun p r hp ok => ?_
      simp [Sto.keepOnly_set sm]
      exact h (.ask s house n k p u) r rfl ⟨rfl, hs0.1, hs0.2, hs1, hnm, k1, hp, u1⟩ ok
    · simp [ofString_inj, Sto.keepOnly_set sm]
      exact h (.word s house n k u) r rfl ⟨rfl, hs0.1, hs0.2, hs1, hnm, k1, u1⟩ ok
    · simp [ofString_inj, Sto.keepOnly_set sm]
      exact h (.no s house n k) r rfl ⟨rfl, hs0.1, hs0.2, hs1, hnm, k1⟩ ok
    · simp [ofString_inj, Sto.keepOnly_set sm]
      exact h (.back s house n k) r rfl ⟨rfl, hs0.1, hs0.2, hs1, hnm, k1⟩ ok
    · simp [ofString_inj]
      refine ap_person Sto.set_same ok fun p r hp ok => ?_
      simp [Sto.keepOnly_set sm]
      exact h (.told s house n k p u) r rfl ⟨rfl, hs0.1, hs0.2, hs1, hnm, k1, hp, u1⟩ ok
end
theorem wStep_pos {b : Int} : ∀ {l : List En} {acc : List (Int × Int)}, (∀ e ∈ l, 1 ≤ e.i4) → (∀ q ∈ acc, 1 ≤ q.2) → ∀ q ∈ l.foldl wStep acc, 1 ≤ q.2
  | [], _, _, h => h
  | e :: l, acc, h1, h2 => wStep_pos (b := b) (l := l) (acc := wStep acc e) (fun x hx => h1 x (List.mem_cons_of_mem _ hx)) fun q hq => by
    unfold wStep putI at hq
    have h3 := h1 e List.mem_cons_self
    split at hq
    · obtain ⟨q', hq', rfl⟩ := List.mem_map.mp hq
      split
      · show 1 ≤ (if e.i4 > _ then _ else _)
        split <;> omega
      · exact h2 q' hq'
    · rcases List.mem_append.mp hq with hq | hq
      · exact h2 q hq
      · rw [List.mem_singleton.mp hq]
        show 1 ≤ (if e.i4 > _ then _ else _)
        split <;> omega
section
variable {st : Sto} {X : PoX} {Q : PoE} {n m b house now s k u : Int} {es : List En} {name per : Str}
theorem words_pos (hok : ∀ e ∈ es, e.ok b) : ∀ q ∈ wordsAt es name n, 1 ≤ q.2 := wStep_pos (b := b) (fun e he => by
  have h1 := ents_kind (List.mem_filter.mp he).1
  have h2 := hok e h1.1
  have h3 := h1.2.1
  cases e <;> simp [En.kind] at h3
  exact h2.2.2.2.2) (fun _ h => nomatch h)
/-- the words of a claim: each from 1 on, no more than there are entries -/
theorem claim_words {c : Cl} (hok : ∀ e ∈ es, e.ok b) (hc : claimOf es name = some c) : (∀ q ∈ c.words, 1 ≤ q.2) ∧ c.words.length ≤ es.length := by
  unfold claimOf at hc
  simp only at hc
  split at hc <;> cases hc
  refine ⟨fun q hq => words_pos hok q ((sortP_perm _).mem_iff.mp hq), ?_⟩
  show (sortP _).length ≤ _
  rw [(sortP_perm _).length_eq]
  exact words_len es name _
theorem ap_law_reach_in (hok : ∀ e ∈ es, e.ok b) (hl : es.length ≤ 5000) (hm : 0 ≤ m) (hm1 : m ≤ 1000) (hq : Q (.int (reachIn m es name)) st) : F__law_reach_in [.int m, .tup (es.map En.d), .str name] st X Q := by
  simp only [F__law_reach_in, wDef_ap]
  refine ⟨rfl, ?_⟩
  simp
  refine ap_law_claim hok hl ?_
  unfold reachIn at hq
  cases hc : claimOf es name with
  | none =>
    rw [hc] at hq
    simp [clD]
    exact hq
  | some c =>
    rw [hc] at hq
    obtain ⟨cp, cl⟩ := claim_words hok hc
    simp [clD, Cl.d]
    refine compL_imp (enc := DL.pairD) (fun q => [some (.int m), some (.tup (es.map En.d)), some (.str name), some (.tup [.int c.num, .str c.per, .int c.til, .tup (c.words.map DL.pairD), .tup (c.others.map .int)]), some (.int q.1), some (.int q.2)]) (fun q => true) (fun q => D.int q.2) ?_ ?_ ?_ trivial ?_
    · simp [DL.pairD]
    · intro q _ Q hq
      simpa using hq
    · simp
    · have e : ([] : List D) ++ (c.words.filter fun _ => true).map (fun q => D.int q.2) = (c.words.map (·.2)).map .int := by
        rw [List.filter_eq_self.mpr (fun _ _ => rfl), List.nil_append, List.map_map]; rfl
      rw [e]
      refine ap__law_reach (ns := c.words.map (·.2)) rfl (fun x hx => ?_) hm hm1 (by rw [List.length_map]; omega) ?_
      · obtain ⟨q, hq, rfl⟩ := List.mem_map.mp hx
        have := cp q hq
        omega
      · simpa using hq
theorem ap_law_told_by (hm : 0 ≤ m) (hm1 : m ≤ 1000) (hq : Q (.tup (((others m house).map fun o => Le.told house o name n per now).map Le.d)) st) : F__law_told_by [.int m, .int house, .str name, .int n, .str per, .int now] st X Q := by
  simp only [F__law_told_by, wDef_ap]
  refine ⟨rfl, ?_⟩
  simp
  rw [rangeOf_1 (by omega) (by omega), on_some, rangeL_map]
  refine compL_imp (enc := D.int) (fun x : Int => [some (.int m), some (.int house), some (.str name), some (.int n), some (.str per), some (.int now), some (.int x)]) (fun x => !decide (x = house)) (fun o => (Le.told house o name n per now).d) ?_ ?_ ?_ trivial ?_
  · simp
  · intro x _ Q hq
    simpa using hq
  · intro x _ _ Q hq
    simpa [Le.d] using hq
  · simp
    rw [List.map_map] at hq
    exact hq
theorem ap_law_ask {t : Int} {p : Str} (hl : es.length ≤ 5000) (hq : Q (Tk.d ⟨(askTaken house es s name k u now).1, (askTaken house es s name k u now).2, none⟩) st) :
    F__law_ask [.int house, .tup (es.map En.d), (Le.ask s t name k p u).d, .int now] st X Q := by
  simp only [F__law_ask, wDef_ap]
  refine ⟨rfl, ?_⟩
  unfold askTaken at hq
  simp [Le.d, cutD_from]
  refine ap_law_word hl ?_
  simp
  by_cases h1 : u ≤ now
  · simpa [h1, Tk.d, ntD] using hq
  simp [h1]
  rw [if_neg h1] at hq
  unfold isDue at hq
  cases hw : wordIn es name with
  | none =>
    rw [hw] at hq
    have h2 : now < u := by omega
    simp [wdD]
    simpa [h2, Tk.d, ntD, Le.d, En.d, En.kind, En.name, En.i2, En.tl] using hq
  | some w =>
    obtain ⟨h', k', u'⟩ := w
    rw [hw] at hq
    dsimp only at hq
    have eq2 : dEq st (.tup [.int h', .int k']) (.tup [.int s, .int k]) = some (.bl (decide (h' = s ∧ k' = k))) := by
      rw [dEq_t (x := .tup [.int h', .int k']) (y := .tup [.int s, .int k]) [.i h', .i k'] [.i s, .i k] rfl rfl]
      simp
    simp [wdD, cutD_to]
    by_cases h3 : u' ≤ now
    · have h2 : now < u := by omega
      simp [h3]
      simpa [h3, h2, Tk.d, ntD, Le.d, En.d, En.kind, En.name, En.i2, En.tl] using hq
    · simp [h3]
      rw [eq2, on_some, bOf_bl, on_some]
      simp only [if_neg h3] at hq
      by_cases h4 : h' = s ∧ k' = k
      · have e4 : (h' = s ∧ k' = k) = True := eq_true h4
        simp only [e4, decide_true, Bool.true_and, if_true] at hq
        simp only [e4, decide_true, if_true, on_some, bOf_bl]
        by_cases h5 : u' < u
        · simp [h5]
          simpa [h5, Tk.d, ntD, Le.d, En.d, En.kind, En.name, En.i2, En.tl] using hq
        · simp [h5]
          simpa [h5, Tk.d, ntD, Le.d, En.d, En.kind, En.name, En.i2, En.tl] using hq
      · have e4 : (h' = s ∧ k' = k) = False := eq_false h4
        simp only [e4, decide_false, Bool.false_and, if_false, Bool.false_eq_true] at hq
        simp only [e4, decide_false, if_false, on_some, bOf_bl, Bool.false_eq_true]
        simpa [Tk.d, ntD, Le.d, En.d, En.kind, En.name, En.i2, En.tl] using hq
end
theorem En.tpl {n : Nat} (e : En) : DL.tpl (n + 1) e.d = true := by cases e <;> simp [En.d, En.tl]
theorem Le.tpl {n : Nat} (l : Le) : DL.tpl (n + 1) l.d = true := by cases l <;> simp [Le.d]
theorem ntD_tpl {n : Nat} (z : Option Nt) : DL.tpl (n + 1) (ntD z) = true := by cases z <;> simp [ntD, Nt.d]
theorem Tk.tpl (t : Tk) : DL.tpl 10 t.d = true := by
  have h1 : tplL 8 (t.es.map En.d) = true := tplL_map fun e _ => e.tpl
  have h2 : tplL 8 (t.ls.map Le.d) = true := tplL_map fun e _ => e.tpl
  have h3 := ntD_tpl (n := 8) t.nt
  simp [Tk.d, h1, h2, h3]
end DL
namespace DL
open PySem PySem.Spec PyProof.Rows L2
/-! ### rows of drawn letters; what taken brings -/
def F__law_letters : WF := wDef 7 5 true (wSeq (wSet 5 (wLst (wCons (wC (.str "ask")) (wCons (wC (.str "ask")) (wCons (wC (.str "ask")) (wCons (wC (.str "back")) (wCons (wC (.str "word")) (wCons (wC (.str "no")) (wCons (wC (.str "told")) wNil))))))))) (wRet (wComp (wiRange (wCons (wFn F__law_take (wCons (wVar 0) (wCons (wBin dAdd (wVar 4) (wC (.int 1))) wNil))) wNil)) (.nm 6) wYes (wFn F__law_letter (wCons (wVar 0) (wCons (wVar 1) (wCons (wVar 2) (wCons (wBin ixD (wVar 5) (wFn F__law_take (wCons (wVar 0) (wCons (wC (.int 7)) wNil)))) (wCons (wVar 3) wNil)))))) [6])))

def Le.n : Le → Str
  | .ask _ _ n _ _ _ => n | .word _ _ n _ _ => n | .no _ _ n _ => n | .back _ _ n _ => n | .told _ _ n _ _ _ => n
section
variable {st : Sto} {X : PoX} {Q : PoE} {n m house : Int} {a : Addr} {r : List D} {es : List En}
theorem ap_letters (hr : st a = some (.lst r)) (ok : RowOk r) (hm0 : 2 ≤ m) (hm1 : m ≤ 1000) (hh0 : 0 ≤ house) (hh1 : house < m) (hok : ∀ e ∈ es, e.ok m) (hl : es.length ≤ 4000) (hn0 : 0 ≤ n) (hn1 : n ≤ 1000)
    (h : ∀ (ls : List Le) r', ls.length ≤ n → (∀ l ∈ ls, l.good m house) → RowOk r' → Q (.lst (ls.map Le.d)) (st.set a (.lst r'))) : F__law_letters [.ref a, .int m, .int house, .tup (es.map En.d), .int n] st X Q := by
  have sm : (st a).isSome = true := by rw [hr]; rfl
  simp only [F__law_letters, wDef_ap]
  refine ⟨rfl, ?_⟩
  simp
  refine ap_take hr ok (by omega) (by omega) fun k r k0 k1 ok => ?_
  simp (disch := omega) [rangeOf_1, rangeL_map]
  refine compL_inv (fun acc rest st' => ∃ (ls : List Le) (r : List D), acc = ls.map Le.d ∧ RowOk r ∧ st' = st.set a (.lst r) ∧ (∀ l ∈ ls, l.good m house) ∧ ls.length + rest.length ≤ n.toNat) (fun _ _ _ _ => trivial) ?_ ?_ _ _ _ ⟨[], r, rfl, ok, rfl, (by simp), by rw [rangeI_len]; simp; omega⟩
  · rintro acc st' ⟨ls, r, rfl, ok, rfl, hok, hl⟩
    simp [Sto.keepOnly_set sm]
    exact h ls r (by simp at hl; omega) hok ok
  · rintro x rest acc st' N ⟨ls, r, rfl, ok, rfl, hok2, hl2⟩ hN
    simp
    refine ap_take Sto.set_same ok (by decide) (by decide) fun i r i0 i1 ok => ?_
    obtain ⟨d, ⟨kind, rfl, hk⟩, e⟩ := atI_isSome (ds := [D.str (Str.ofString "ask"), .str (Str.ofString "ask"), .str (Str.ofString "ask"), .str (Str.ofString "back"), .str (Str.ofString "word"), .str (Str.ofString "no"), .str (Str.ofString "told")]) i0 (by simpa using i1) (fun d => ∃ kind : String, d = .str (Str.ofString kind) ∧ kind ∈ ["ask", "word", "no", "back", "told"]) (by simp [ofString_inj])
    simp [e]
    refine ap_letter9 hk Sto.set_same ok hm0 hm1 hh0 hh1 hok hl fun l r lk lg ok => ?_
    refine hN _ _ ⟨ls ++ [l], r, by simp, ok, by simp, ?_, by simp at hl2 ⊢; omega⟩
    intro z hz
    rcases List.mem_append.mp hz with hz | hz
    · exact hok2 z hz
    · rw [List.mem_singleton.mp hz]; exact lg
end
section
variable {m house now : Int} {es : List En} {l : Le} {name : Str}
/-- the entries that a letter brings: one at most, a good one -/
theorem taken_es (hg : l.good m house) : (taken m house es l now).es = [] ∨ ∃ e : En, (taken m house es l now).es = [e] ∧ e.ok m ∧ e.name = l.n ∧
    ((∃ s t n k p u, l = .ask s t n k p u ∧ e = .word n s k u ∧ isDue es n s k u now = true ∧ u > now) ∨ (∃ n k s u, e = .got n k s u) ∨ (∃ n k s, e = .no n k s) ∨ (∃ s t n k u, l = .back s t n k ∧ e = .free n s k ∧ wordIn es n = some (s, k, u))) := by
  cases l with
  | ask s t n k p u =>
    obtain ⟨h0, h1, h2, h3, h4, h5, h6, h7⟩ := hg
    unfold taken askTaken
    by_cases c1 : u ≤ now
    · left; simp [c1]
    · by_cases c2 : isDue es n s k u now = true
      · right
        refine ⟨.word n s k u, by simp [c1, c2], ⟨h4, h5, h1, h2, h7⟩, rfl, .inl ⟨s, t, n, k, p, u, rfl, rfl, c2, by omega⟩⟩
      · left
        simp only [c1, c2, if_false, Bool.false_eq_true]
        cases wordIn es n with
        | none => rfl
        | some w =>
          obtain ⟨a, b, c⟩ := w
          dsimp only
          split <;> rfl
  | word s t n k u =>
    obtain ⟨h0, h1, h2, h3, h4, h5, h6⟩ := hg
    unfold taken wordTaken
    dsimp only
    split
    · exact .inl rfl
    · split
      · exact .inl rfl
      · split
        · exact .inl rfl
        · exact .inr ⟨_, rfl, ⟨h4, h5, h1, h2, h6⟩, rfl, .inr (.inl ⟨_, _, _, _, rfl⟩)⟩
  | no s t n k =>
    obtain ⟨h0, h1, h2, h3, h4, h5⟩ := hg
    unfold taken noTaken
    dsimp only
    split
    · exact .inl rfl
    · split
      · exact .inl rfl
      · exact .inr ⟨_, rfl, ⟨h4, h5, h1, h2⟩, rfl, .inr (.inr (.inl ⟨_, _, _, rfl⟩))⟩
  | back s t n k =>
    obtain ⟨h0, h1, h2, h3, h4, h5⟩ := hg
    unfold taken backTaken
    dsimp only
    split
    · exact .inl rfl
    · rename_i h' k' u' hw
      split
      · rename_i hc
        obtain ⟨rfl, rfl⟩ := hc
        exact .inr ⟨_, rfl, ⟨h4, h5, h1, h2⟩, rfl, .inr (.inr (.inr ⟨_, _, _, _, _, rfl, rfl, hw⟩))⟩
      · exact .inl rfl
  | told s t n k p u => exact .inl rfl
theorem taken_ok (hg : l.good m house) : ∀ e ∈ (taken m house es l now).es, e.ok m := fun e he => by
  rcases taken_es (es := es) (now := now) hg with h | ⟨x, h, hx, _⟩
  · rw [h] at he; cases he
  · rw [h] at he; rw [List.mem_singleton.mp he]; exact hx
theorem taken_len (hg : l.good m house) : (taken m house es l now).es.length ≤ 1 := by
  rcases taken_es (es := es) (now := now) hg with h | ⟨x, h, _⟩ <;> rw [h] <;> simp
theorem wordIn_snoc {e : En} : wordIn (es ++ [e]) name = wdStep name (wordIn es name) e := by
  unfold wordIn
  rw [List.foldl_append]; rfl
end
theorem ixD_Le3 {st : Sto} {l : Le} : ixD st l.d (.int 3) = some (.str l.n) := by cases l <;> rfl
end DL
namespace DL
open PySem PySem.Spec PyProof.Rows L2

/-! ### written tables: text keys, tuples of texts -/
def tabAt (z : Str) : TabL → Option (List Str)
  | [] => none
  | (k, ys) :: r => if k = z then some ys else tabAt z r
theorem strsB_ok : ∀ {us : List Value} {ys : List Str}, strsB us ys = true → Vals (ys.map V.str) us ∧ us.length = ys.length
  | [], [], _ => ⟨.nil, rfl⟩
  | .str x t :: us, y :: ys, h => by
    unfold strsB at h
    simp only [Bool.and_eq_true, decide_eq_true_iff] at h
    obtain ⟨h1, h2⟩ := strsB_ok h.2
    obtain ⟨rfl, _⟩ := h
    exact ⟨.cons ⟨t, rfl⟩ h1, by rw [List.length_cons, List.length_cons, h2]⟩
theorem tupB_ok {K : PySem.W.Frag} {b : Addr} {ys : List Str} (h : tupB K b ys = true) (hl : ys.length ≤ 1000) : KTupAt K b (ys.map V.str) := by
  unfold tupB at h
  split at h
  · rename_i c its n sl e
    simp only [Bool.and_eq_true, decide_eq_true_iff] at h
    obtain ⟨h1, h2⟩ := strsB_ok h.2
    refine ⟨_, its, n, e, by rw [h.1], rfl, rfl, ?_, h1⟩
    have : its.size = ys.length := by rw [← h2, Array.length_toList]
    rw [this, sizeLine_eq]; omega
  · cases h
def TabOk (K : PySem.W.Frag) (w : World) (mg : Str → Option Value) (x : Str) (tab : TabL) : Prop :=
  ∃ a es n, mg x = some (.ref a) ∧ KDict K w a es n ∧ ∀ z, match tabAt z tab with
    | some ys => ∃ b, PySem.W.nsIn K a z = some (some (.ref b)) ∧ KTupAt K b (ys.map V.str)
    | none => PySem.W.nsIn K a z = some none
theorem ents_ok {K : PySem.W.Frag} {z : Str} : ∀ {es : List DictEntry} {tab : TabL}, entsB K es tab = true → (∀ q ∈ tab, q.2.length ≤ 1000) → match tabAt z tab with
    | some ys => ∃ b e, es.find? (·.key.isStr z) = some e ∧ e.val = .ref b ∧ KTupAt K b (ys.map V.str)
    | none => es.find? (·.key.isStr z) = none ∧ es.any (·.refKey) = false
  | [], [], _, _ => ⟨rfl, rfl⟩
  | e :: es, (k, ys) :: r, h, hl => by
    unfold entsB at h
    simp only [Bool.and_eq_true] at h
    obtain ⟨h1, h2⟩ := h
    have ih := ents_ok (z := z) h2 fun q hq => hl q (List.mem_cons_of_mem _ hq)
    split at h1
    · rename_i x t b ek ev
      simp only [Bool.and_eq_true, decide_eq_true_iff] at h1
      obtain ⟨rfl, h1⟩ := h1
      have hb := tupB_ok h1 (hl _ List.mem_cons_self)
      have eis : e.key.isStr z = decide (x = z) := by rw [ek]; show (x == z) = _; rw [Bool.eq_iff_iff, decide_eq_true_iff]; exact beq_iff_eq
      have erk : e.refKey = false := by unfold DictEntry.refKey; rw [ek]
      unfold tabAt
      by_cases c : x = z
      · rw [if_pos c]
        exact ⟨b, e, by rw [List.find?_cons_of_pos (by rw [eis]; simpa using c)], ev, hb⟩
      · rw [if_neg c]
        rw [List.find?_cons_of_neg (by rw [eis]; simpa using c)]
        rw [List.any_cons, erk, Bool.false_or]
        exact ih
    · cases h1
theorem tab_ok {w : World} {K : PySem.W.Frag} {mg : Str → Option Value} {x : Str} {tab : TabL} (hm : mg x = some (.ref (He.ga K x))) (hd : ∃ es n, KDict K w (He.ga K x) es n) (hb : tabB x tab K = true) (hl : (tab.all fun q => decide (q.2.length ≤ 1000)) = true) : TabOk K w mg x tab := by
  obtain ⟨es, n, D⟩ := hd
  refine ⟨_, es, n, hm, D, fun z => ?_⟩
  unfold tabB at hb
  rw [D.at_] at hb
  have hb : entsB K es.toList tab = true := hb
  have key := ents_ok (z := z) hb fun q hq => by simpa using List.all_eq_true.mp hl q hq
  unfold PySem.W.nsIn
  rw [D.at_]
  simp only
  cases q : tabAt z tab with
  | some ys =>
    rw [q] at key
    obtain ⟨b, e, h1, h2, h3⟩ := key
    rw [h1]
    exact ⟨b, by rw [← h2], h3⟩
  | none =>
    rw [q] at key
    rw [key.1, key.2]; rfl
def strOf : D → Option Str
  | .str z => some z
  | _ => none
@[simp] theorem strOf_str {z : Str} : strOf (.str z) = some z := id rfl
/-- is it a key of the table; is it none -/
def wInTab (tab : TabL) (m : WE) : WE := fun e st X Q => m e st X fun d st1 => on (strOf d) fun z => Q (.bl (tabAt z tab).isSome) st1
def wNinTab (tab : TabL) (m : WE) : WE := fun e st X Q => m e st X fun d st1 => on (strOf d) fun z => Q (.bl (!(tabAt z tab).isSome)) st1
/-- what the table has there -/
def wTabAt (tab : TabL) (m : WE) : WE := fun e st X Q => m e st X fun d st1 => on (strOf d) fun z => on (tabAt z tab) fun ys => Q (.kt (ys.map .str)) st1
section
variable {e : Env} {st : Sto} {X : PoX} {Q : PoE} {m : WE} {tab : TabL}
@[simp] theorem wInTab_ap : wInTab tab m e st X Q = m e st X fun d st1 => on (strOf d) fun z => Q (.bl (tabAt z tab).isSome) st1 := id rfl
@[simp] theorem wNinTab_ap : wNinTab tab m e st X Q = m e st X fun d st1 => on (strOf d) fun z => Q (.bl (!(tabAt z tab).isSome)) st1 := id rfl
@[simp] theorem wTabAt_ap : wTabAt tab m e st X Q = m e st X fun d st1 => on (strOf d) fun z => on (tabAt z tab) fun ys => Q (.kt (ys.map .str)) st1 := id rfl
end
section
variable {X : Cx} {E : XK} {a : Expr} {ma : WE} {pos p : Pos} {x : Str} {tab : TabL}
theorem e_inTab (h : TabOk X.K X.w X.mg x tab) (ha : PEw X E a ma) (hg : Gl X x := by rfl) (hd : (x == ("__debug__" : Str)) = false := by decide) (hm : behindInMarks .In (.Name x p) = false := by rfl) : PEw X E (.Compare a [.In] [.Name x p] pos) (wInTab tab ma) := by
  obtain ⟨d, es, n, h1, D, h2⟩ := h
  refine pe_imp (pe_cmpR (op_in_kd D) ha (pe_glob (v := .ref d) hg h1 rfl hd) hm) fun σ H Q ⟨B, e, st, Qd, Xd, S, pq, px, mm⟩ => ⟨B, e, st, _, Xd, S, fun y st1 vx H1 m1 x1 k1 r1 => ?_, px, mm⟩
  obtain ⟨z, hz, q⟩ := on_iff.mp m1
  unfold strOf at hz
  split at hz <;> cases hz
  cases r1
  have h3 := h2 z
  cases ht : tabAt z tab with
  | some ys =>
    rw [ht] at h3 q
    obtain ⟨b, h4, h5⟩ := h3
    exact ⟨z, some (.ref b), rfl, rfl, h4, pq _ st1 _ H1 q x1 k1 (.bl true)⟩
  | none =>
    rw [ht] at h3 q
    exact ⟨z, none, rfl, rfl, h3, pq _ st1 _ H1 q x1 k1 (.bl false)⟩
theorem t_inTab (h : TabOk X.K X.w X.mg x tab) (ha : PEw X E a ma) (hg : Gl X x := by rfl) (hd : (x == ("__debug__" : Str)) = false := by decide) (hm : behindInMarks .In (.Name x p) = false := by rfl) : PTw X E (.Compare a [.In] [.Name x p] pos) (wTB (wInTab tab ma)) := by
  obtain ⟨d, es, n, h1, D, h2⟩ := h
  refine pt_imp (pt_cmpR (op_in_kd D) ha (pe_glob (v := .ref d) hg h1 rfl hd) hm) (test_ok (t := tOp _ _ _) fun σ H Q ⟨B, e, st, Qd, Xd, S, pq, px, mm⟩ => ⟨B, e, st, _, Xd, S, fun y st1 vx H1 m1 x1 k1 r1 => ?_, px, mm⟩)
  obtain ⟨z, hz, q⟩ := on_iff.mp m1
  unfold strOf at hz
  split at hz <;> cases hz
  cases r1
  have h3 := h2 z
  cases ht : tabAt z tab with
  | some ys =>
    rw [ht] at h3 q
    obtain ⟨b, h4, h5⟩ := h3
    exact ⟨z, some (.ref b), rfl, rfl, h4, pq _ st1 _ H1 q x1 k1 (.bl true)⟩
  | none =>
    rw [ht] at h3 q
    exact ⟨z, none, rfl, rfl, h3, pq _ st1 _ H1 q x1 k1 (.bl false)⟩
theorem e_ninTab (h : TabOk X.K X.w X.mg x tab) (ha : PEw X E a ma) (hg : Gl X x := by rfl) (hd : (x == ("__debug__" : Str)) = false := by decide) (hm : behindInMarks .NotIn (.Name x p) = false := by rfl) : PEw X E (.Compare a [.NotIn] [.Name x p] pos) (wNinTab tab ma) := by
  obtain ⟨d, es, n, h1, D, h2⟩ := h
  refine pe_imp (pe_cmpR (op_notIn_kd D) ha (pe_glob (v := .ref d) hg h1 rfl hd) hm) fun σ H Q ⟨B, e, st, Qd, Xd, S, pq, px, mm⟩ => ⟨B, e, st, _, Xd, S, fun y st1 vx H1 m1 x1 k1 r1 => ?_, px, mm⟩
  obtain ⟨z, hz, q⟩ := on_iff.mp m1
  unfold strOf at hz
  split at hz <;> cases hz
  cases r1
  have h3 := h2 z
  cases ht : tabAt z tab with
  | some ys =>
    rw [ht] at h3 q
    obtain ⟨b, h4, h5⟩ := h3
    exact ⟨z, some (.ref b), rfl, rfl, h4, pq _ st1 _ H1 q x1 k1 (.bl false)⟩
  | none =>
    rw [ht] at h3 q
    exact ⟨z, none, rfl, rfl, h3, pq _ st1 _ H1 q x1 k1 (.bl true)⟩
theorem t_ninTab (h : TabOk X.K X.w X.mg x tab) (ha : PEw X E a ma) (hg : Gl X x := by rfl) (hd : (x == ("__debug__" : Str)) = false := by decide) (hm : behindInMarks .NotIn (.Name x p) = false := by rfl) : PTw X E (.Compare a [.NotIn] [.Name x p] pos) (wTB (wNinTab tab ma)) := by
  obtain ⟨d, es, n, h1, D, h2⟩ := h
  refine pt_imp (pt_cmpR (op_notIn_kd D) ha (pe_glob (v := .ref d) hg h1 rfl hd) hm) (test_ok (t := tOp _ _ _) fun σ H Q ⟨B, e, st, Qd, Xd, S, pq, px, mm⟩ => ⟨B, e, st, _, Xd, S, fun y st1 vx H1 m1 x1 k1 r1 => ?_, px, mm⟩)
  obtain ⟨z, hz, q⟩ := on_iff.mp m1
  unfold strOf at hz
  split at hz <;> cases hz
  cases r1
  have h3 := h2 z
  cases ht : tabAt z tab with
  | some ys =>
    rw [ht] at h3 q
    obtain ⟨b, h4, h5⟩ := h3
    exact ⟨z, some (.ref b), rfl, rfl, h4, pq _ st1 _ H1 q x1 k1 (.bl false)⟩
  | none =>
    rw [ht] at h3 q
    exact ⟨z, none, rfl, rfl, h3, pq _ st1 _ H1 q x1 k1 (.bl true)⟩
theorem tabOkS : ∀ {tab : TabL} {z : Str} {ys : List Str}, (tab.all fun q => q.2.all okS) = true → tabAt z tab = some ys → ∀ y ∈ ys, okS y = true
  | [], _, _, _, e => by cases e
  | (k, us) :: r, z, ys, h, e => by
    rw [List.all_cons, Bool.and_eq_true] at h
    unfold tabAt at e
    split at e
    · cases e
      exact fun y hy => List.all_eq_true.mp h.1 y hy
    · exact tabOkS h.2 e
theorem tabLen : ∀ {tab : TabL} {z : Str} {ys : List Str}, (tab.all fun q => decide (q.2.length ≤ 1000)) = true → tabAt z tab = some ys → ys.length ≤ 1000
  | [], _, _, _, e => by cases e
  | (k, us) :: r, z, ys, h, e => by
    rw [List.all_cons, Bool.and_eq_true] at h
    unfold tabAt at e
    split at e
    · cases e
      exact by simpa using h.1
    · exact tabLen h.2 e
theorem e_tabAt (h : TabOk X.K X.w X.mg x tab) (ha : PEw X E a ma) (hok : (tab.all fun q => q.2.all okS) = true := by decide +kernel) (hl : (tab.all fun q => decide (q.2.length ≤ 1000)) = true := by decide +kernel) (hg : Gl X x := by rfl) (hd : (x == ("__debug__" : Str)) = false := by decide)
    (hs : PlainIx a := by exact fun _ _ => rfl) : PEw X E (.Subscript (.Name x p) a pos) (wTabAt tab ma) := by
  obtain ⟨d, es, n, h1, D, h2⟩ := h
  refine pe_imp (pe_ix ix_kdict (pe_glob (v := .ref d) hg h1 rfl hd) ha hs) fun σ H Q ⟨B, e, st, Qd, Xd, S, pq, px, mm⟩ => ⟨B, e, st, _, Xd, S, fun y st1 vx H1 m1 x1 k1 r1 => ?_, px, mm⟩
  obtain ⟨z, hz, m2⟩ := on_iff.mp m1
  obtain ⟨ys, hy, q⟩ := on_iff.mp m2
  unfold strOf at hz
  split at hz <;> cases hz
  cases r1
  have h3 := h2 z
  rw [hy] at h3
  obtain ⟨b, h4, h5⟩ := h3
  refine ⟨d, z, .ref b, rfl, rfl, ⟨es, n, _, D.at_, D.lit, h4, rfl⟩, pq _ st1 _ H1 q x1 k1 (.kt (.inl h5) (repL_strs _ (tabOkS hok hy)) ?_)⟩
  rw [List.length_map, sizeLine_eq]
  have := tabLen hl hy
  omega
end
end DL
namespace DL
open PySem PySem.Spec PyProof.Rows L2

/-! ### insert, extend -/
def mInsert (st : Sto) (x : D) (as : List D) : Option (D × Sto) := match x, as with
  | .ref a, [.int i, y] => (cellL (st a)).bind fun ds => if ds.length < sizeLine ∧ 0 ≤ i ∧ i < 2 ^ 63 then some (.non, st.set a (.lst (ds.take i.toNat ++ [y] ++ ds.drop i.toNat))) else none
  | _, _ => none
def rInsert : V → List V → Hp → VK → Prop := fun x vs H Q => ∃ (l : Addr) (xs : List V) (i : Int) (y : V), x = .ref l ∧ vs = [.int i, y] ∧ H l = some (.lst xs) ∧ xs.length < sizeLine ∧ 0 ≤ i ∧ i < 2 ^ 63 ∧ Q .non (upd H l (.lst (xs.take i.toNat ++ [y] ++ xs.drop i.toNat)))
theorem mInsert_ok {K : PySem.W.Frag} : MeOk K rInsert mInsert := by
  intro B H st x dx xs dxs d st' Q k rx rs e g
  unfold mInsert at e
  split at e
  · obtain ⟨ds, e1, e2⟩ := Option.bind_eq_some_iff.mp e
    split at e2 <;> cases e2
    rename_i hz
    have q := cellL_iff.mp e1
    obtain ⟨u, e3, r1⟩ := k.at_ _ _ q
    cases u <;> try exact r1.elim
    rename_i ws
    cases rx
    cases rs with
    | cons r2 r3 =>
      cases r3 with
      | cons r3 r4 =>
        cases r4
        cases r2
        rename_i a i y v
        have hl := r1.1.length
        obtain ⟨k2, x2⟩ := k.write (c := .lst (ds.take i.toNat ++ [y] ++ ds.drop i.toNat)) (o := .lst (ws.take i.toNat ++ [v] ++ ws.drop i.toNat)) q ⟨((r1.1.take _).append (.cons r3 .nil)).append (r1.1.drop _), by
          have h1 := List.length_take_le i.toNat ds
          simp only [List.length_append, List.length_take, List.length_drop, List.length_singleton]
          have := hz.1
          omega⟩
        exact ⟨_, ws, _, _, rfl, rfl, e3, by rw [hl]; exact hz.1, hz.2.1, hz.2.2, g .non _ x2 k2 .non⟩
  · cases e
def rExtendR : V → List V → Hp → VK → Prop := fun x vs H Q => ∃ l b xs zs, x = .ref l ∧ vs = [.ref b] ∧ H l = some (.lst xs) ∧ Rd H b (.lst zs) ∧ xs.length + zs.length ≤ sizeLine ∧ Q .non (upd H l (.lst (xs ++ zs)))
theorem mt_extendR {X : Cx} : MtM X "list.extend" rExtendR := by
  intro pins s σ H x vs v us Q I rx rv h
  obtain ⟨l, b, xs, zs, rfl, rfl, hl0, hb0, hfit, q⟩ := h
  cases rx
  obtain ⟨u, rfl, ru⟩ := rv.one
  cases ru
  obtain ⟨_, as, n, r, el, e⟩ := I.lstM hl0
  obtain ⟨_, bs, n2, r2, e2⟩ := hb0.ok I.hok
  have el2 := r2.length
  have hfit2 : as.toArray.size + bs.toArray.size ≤ sizeLine := by
    rw [List.size_toArray, List.size_toArray, ← el, ← el2]; exact hfit
  have hno : ¬ (!as.toArray.isEmpty && Builtin.List.listTooLong (as.toArray.size + bs.toArray.size)) = true := by
    rw [notLongL hfit2, Bool.and_false]; exact Bool.false_ne_true
  refine call_meets F.slot_list_extend ⟨_, e, rfl⟩ F.entry_list_extend (F.args_list_extend_2 _ _) (AutoSeq1.list_extend_list_list_0 l as.toArray n b bs.toArray n2 hno (by rw [List.size_toArray, ← el]; omega) (by omega)) ⟨e, e2, ?_⟩
  exact ⟨.non, _, I.lset (its' := as ++ bs) hl0 e (by simp) (r.append r2) (by rw [List.length_append]; exact hfit), rfl, q⟩
theorem mExtend_ok {K : PySem.W.Frag} : MeOk K rExtendR mExtend := by
  intro B H st x dx xs dxs d st' Q k rx rs e g
  unfold mExtend at e
  split at e
  · obtain ⟨ds, e1, e2⟩ := Option.bind_eq_some_iff.mp e
    obtain ⟨es, e4, e5⟩ := Option.bind_eq_some_iff.mp e2
    split at e5 <;> cases e5
    rename_i hz
    have q := cellL_iff.mp e1
    obtain ⟨u, e3, r1⟩ := k.at_ _ _ q
    cases u <;> try exact r1.elim
    rename_i ws
    cases rx
    cases rs with
    | cons r2 r3 =>
      cases r3
      obtain ⟨b, us, rfl, hR, rr, z⟩ := ls_of k r2 e4
      have hl := r1.1.length
      have hl2 := rr.length
      rename_i a y
      obtain ⟨k2, x2⟩ := k.write (c := .lst (ds ++ es)) (o := .lst (ws ++ us)) q ⟨r1.1.append rr, by rw [List.length_append]; exact hz⟩
      exact ⟨_, b, ws, us, rfl, rfl, e3, hR, by rw [hl, hl2]; exact hz, g .non _ x2 k2 .non⟩
  · cases e
section
variable {X : Cx} {E : XK} {a b : Expr} {pos p apos cpos : Pos} {n : Nat} {m : WA} {o : Expr} {mo : WE}
theorem e_insert (ho : PEw X E o mo) (ha : PAw X E [a, b] n m) (hbase : attributeBase o "insert" X.env (eval o X.env) = eval o X.env := by rfl)
    (hfew : ((backTo cpos (starEach [a, b] X.env)).all (fun x => !x.1) && (backToKw cpos (keywordEach [] X.env)).all (fun x => x.1.isSome)
      && decide ([a, b].length + ([] : List Keyword).length + (if ([] : List Keyword).isEmpty then 0 else 1) < 30)) = true := by rfl)
    (hline : (apos.endLine == cpos.line) = true := by rfl) (hs : starEach [a, b] X.env = (false, eval a X.env) :: starEach [b] X.env := by rfl) (hplain : (backTo cpos (starEach [b] X.env)).any (·.1) = false := by rfl) : PEw X E (.Call (.Attribute o "insert" apos) [a, b] [] cpos) (wMeth "list" mInsert mo m) :=
  e_bm (.inl rfl) PySem.F.plainAttrs_list PySem.F.slot_list_insert PySem.F.type_list_insert mt_insert mInsert_ok ho ha hbase hfew hline hs hplain
theorem e_extend (ho : PEw X E o mo) (ha : PAw X E [a] n m) (hbase : attributeBase o "extend" X.env (eval o X.env) = eval o X.env := by rfl)
    (hfew : ((backTo cpos (starEach [a] X.env)).all (fun x => !x.1) && (backToKw cpos (keywordEach [] X.env)).all (fun x => x.1.isSome)
      && decide ([a].length + ([] : List Keyword).length + (if ([] : List Keyword).isEmpty then 0 else 1) < 30)) = true := by rfl)
    (hline : (apos.endLine == cpos.line) = true := by rfl) (hs : starEach [a] X.env = (false, eval a X.env) :: starEach [] X.env := by rfl) : PEw X E (.Call (.Attribute o "extend" apos) [a] [] cpos) (wMeth "list" mExtend mo m) :=
  e_bm (.inl rfl) PySem.F.plainAttrs_list PySem.F.slot_list_extend PySem.F.type_list_extend mt_extendR mExtend_ok ho ha hbase hfew hline hs rfl
end
section
variable {st : Sto} {a : Addr} {ds es : List D} {i : Int} {y x : D}
theorem mInsert_ref (h : st a = some (.lst ds)) (hz : ds.length < sizeLine) (h0 : 0 ≤ i) (h1 : i < 2 ^ 63) : mInsert st (.ref a) [.int i, y] = some (.non, st.set a (.lst (ds.take i.toNat ++ [y] ++ ds.drop i.toNat))) := by
  unfold mInsert
  simp only
  rw [h]
  show (if _ then _ else _) = _
  rw [if_pos ⟨hz, h0, h1⟩]
theorem mExtend_ref (h : st a = some (.lst ds)) (h2 : lsOf st x = some es) (hz : ds.length + es.length ≤ sizeLine) : mExtend st (.ref a) [x] = some (.non, st.set a (.lst (ds ++ es))) := by
  unfold mExtend
  simp only
  rw [h, h2]
  show (if _ then _ else _) = _
  rw [if_pos hz]
end
/-! ### list(xs), to be changed -/
def wListR (m : WA) : WE := fun e st X Q => m e st X fun ds st1 => on (match ds with | [d] => sqOf st1 d | _ => none) fun xs => ∀ p, st1 p = none → Q (.ref p) (st1.set p (.lst xs))
@[simp] theorem wListR_ap {m : WA} {e : Env} {st : Sto} {X : PoX} {Q : PoE} : wListR m e st X Q = m e st X fun ds st1 => on (match ds with | [d] => sqOf st1 d | _ => none) fun xs => ∀ p, st1 p = none → Q (.ref p) (st1.set p (.lst xs)) := id rfl
theorem e_listR {X : Cx} {E : XK} {a : Expr} {pos p : Pos} {n : Nat} {m : WA} (fr : Frees X.mg) (ha : PAw X E [a] n m) (hg : Gl X "list" := by rfl) (he : starEach [a] X.env = (false, eval a X.env) :: starEach [] X.env := by rfl) :
    PEw X E (.Call (.Name "list" p) [a] [] pos) (wListR m) := pe_imp (pe_callTy call_list_of hg fr.list (by decide +kernel) ha (by decide) (by decide) he rfl) fun σ H Q ⟨B, e, st, Qd, Xd, S, pq, px, mm⟩ =>
  ⟨B, e, st, _, Xd, S, fun ds st1 vs H1 m1 l1 x1 k1 r1 => by
    obtain ⟨xs, hk, q⟩ := on_iff.mp m1
    split at hk
    · cases r1 with
      | cons r1 r2 =>
        cases r2
        obtain ⟨b, us, rfl, hR, rr, z⟩ := sq_of k1 r1 hk
        refine ⟨b, us, rfl, hR, fun pv hp => ?_⟩
        obtain ⟨k2, x2⟩ := k1.put (c := .lst xs) (o := .lst us) hp ⟨rr, z⟩
        exact pq _ _ _ _ (q pv (k1.none_ hp)) (x1.trans x2) k2 (.ref pv)
    · (cases hk), px, mm⟩
end DL
namespace DL
open PySem PySem.Spec PyProof.Rows L2
/-! ### is_log, of logs that are ones -/
def F_is_whole : WF := wDef 1 1 true (wRet (wAnd (wCall cIsi (wCons (wVar 0) (wCons (wC (.ty "int")) wNil))) (wNot (wCall cIsi (wCons (wVar 0) (wCons (wC (.ty "bool")) wNil))))))
def F_is_name : WF := wDef 2 1 true (wSeq (wIfS (wTOr (wTNot (wTT (wCall cIsi (wCons (wVar 0) (wCons (wC (.ty "str")) wNil))))) (wTNot (wTB (wChain dLe dLe (wC (.int 1)) (wCall cLen (wCons (wVar 0) wNil)) (wC (.int 8)))))) (wRet (wC (.bl false))) wSkip) (wRet (wBin dEq (wComp (wiStr (wVar 0)) (.nm 1) (wTB (wBin dNotIn (wVar 1) (wC (.str "abcdefghijklmnopqrstuvwxyz")))) (wVar 1) [1]) (wLst wNil))))
def F_is_house : WF := wDef 2 2 true (wRet (wAnd (wFn F_is_whole (wCons (wVar 1) wNil)) (wChain dLe dLt (wC (.int 0)) (wVar 1) (wVar 0))))
def F_lfits : WF := wDef 3 3 true (wSeq (wIfS (wTB (wBin dEq (wVar 1) (wC (.str "name")))) (wRet (wFn F_is_name (wCons (wVar 2) wNil))) wSkip) (wSeq (wIfS (wTB (wBin dEq (wVar 1) (wC (.str "house")))) (wRet (wFn F_is_house (wCons (wVar 0) (wCons (wVar 2) wNil)))) wSkip) (wRet (wAnd (wFn F_is_whole (wCons (wVar 2) wNil)) (wBin dGt (wVar 2) (wC (.int 0)))))))
def F_is_entry : WF := wDef 5 2 true (wSeq (wIfS (wTOr (wTNot (wTT (wCall cIsi (wCons (wVar 1) (wCons (wC (.ty "tuple")) wNil))))) (wTOr (wTB (wBin dEq (wVar 1) (wTup wNil))) (wTOr (wTNot (wTT (wCall cIsi (wCons (wBin ixD (wVar 1) (wC (.int 0))) (wCons (wC (.ty "str")) wNil))))) (wTB (wNinTab T_logs (wBin ixD (wVar 1) (wC (.int 0)))))))) (wRet (wC (.bl false))) wSkip) (wSeq (wSet 2 (wTabAt T_logs (wBin ixD (wVar 1) (wC (.int 0))))) (wSeq (wIfS (wTB (wBin dNe (wCall cLen (wCons (wVar 1) wNil)) (wBin dAdd (wC (.int 1)) (wCall cLen (wCons (wVar 2) wNil))))) (wRet (wC (.bl false))) wSkip) (wRet (wBin dEq (wComp (wiZip (wCons (wVar 2) (wCons (wSl (wVar 1) (wPart (wC (.int 1))) wNo) wNil))) (.tp [(.nm 3), (.nm 4)]) (wTNot (wTT (wFn F_lfits (wCons (wVar 0) (wCons (wVar 3) (wCons (wVar 4) wNil)))))) (wC (.int 1)) [3, 4]) (wLst wNil))))))
def F_is_log : WF := wDef 3 2 true (wRet (wAnd (wCall cIsi (wCons (wVar 1) (wCons (wC (.ty "tuple")) wNil))) (wBin dEq (wComp (wiSeq (wVar 1)) (.nm 2) (wTNot (wTT (wFn F_is_entry (wCons (wVar 0) (wCons (wVar 2) wNil))))) (wVar 2) [2]) (wLst wNil))))

section
variable {st : Sto} {X : PoX} {Q : PoE} {i j m : Int} {x : Str} {es : List En}
theorem cLen_str (h : x.length ≤ sizeLine) : cLen st [.str x] = some (.int x.length) := by
  show (lenD st (.str x)).map _ = _
  unfold lenD
  simp [h]
theorem letters_mem {c : Nat} (h0 : 97 ≤ c) (h1 : c ≤ 122) : c ∈ (Str.ofString "abcdefghijklmnopqrstuvwxyz").cps.toList := by
  have key : ((List.range 26).all fun i => decide ((97 + i) ∈ (Str.ofString "abcdefghijklmnopqrstuvwxyz").cps.toList)) = true := by decide +kernel
  have := List.all_eq_true.mp key (c - 97) (List.mem_range.mpr (by omega))
  have e : 97 + (c - 97) = c := by omega
  rw [e] at this
  exact of_decide_eq_true this
theorem ap_whole_int (hq : Q (.bl true) st) : F_is_whole [.int i] st X Q := by
  simp only [F_is_whole, wDef_ap]
  refine ⟨rfl, ?_⟩
  simpa using hq
theorem ap_is_house (h0 : 0 ≤ i) (h1 : i < m) (hq : Q (.bl true) st) : F_is_house [.int m, .int i] st X Q := by
  simp only [F_is_house, wDef_ap]
  refine ⟨rfl, ?_⟩
  simp
  refine ap_whole_int ?_
  simp [h0, h1]
  exact hq
theorem ap_is_name (h : nameOk x = true) (hq : Q (.bl true) st) : F_is_name [.str x] st X Q := by
  unfold nameOk at h
  simp only [Bool.and_eq_true, decide_eq_true_iff] at h
  obtain ⟨⟨h1, h2⟩, h3⟩ := h
  simp only [F_is_name, wDef_ap]
  refine ⟨rfl, ?_⟩
  simp
  have h4 : x.length ≤ sizeLine := by rw [sizeLine_eq]; omega
  have h5 : (1 : Int) ≤ x.length := by omega
  have h6 : (x.length : Int) ≤ 8 := by omega
  rw [cLen_str h4]
  simp [h5, h6, h4]
  refine compL_imp (enc := fun c => D.str ⟨#[c]⟩) (fun c => [some (.str x), some (D.str ⟨#[c]⟩)]) (fun _ => false) (fun c => D.str ⟨#[c]⟩) ?_ ?_ ?_ trivial ?_
  · simp
  · intro c hc Q hq
    have h7 := List.all_eq_true.mp h3 c hc
    simp only [Bool.and_eq_true, decide_eq_true_iff] at h7
    have h8 : dNotIn st (.str ⟨#[c]⟩) (.str (Str.ofString "abcdefghijklmnopqrstuvwxyz")) = some (.bl false) := by
      show ((oneSign ⟨#[c]⟩).map fun c => decide (c ∈ (Str.ofString "abcdefghijklmnopqrstuvwxyz").cps.toList)).map (fun b => D.bl (!b)) = _
      have h9 : c ∈ (Str.ofString "abcdefghijklmnopqrstuvwxyz").cps.toList := letters_mem h7.1 h7.2
      show some (D.bl (!decide (c ∈ (Str.ofString "abcdefghijklmnopqrstuvwxyz").cps.toList))) = _
      rw [decide_eq_true h9]; rfl
    simp [h8]
    exact hq
  · simp
  · rw [List.nil_append]
    rw [dEq_lnil (plL_map fun _ _ => pl_str)]
    have e : (x.cps.toList.filter fun _ => false) = [] := List.filter_eq_nil_iff.mpr fun _ _ => by simp
    simpa [e] using hq
/-- of what form a part is -/
def partOk (m : Int) (q : Str × D) : Prop := (q.1 = Str.ofString "name" ∧ ∃ x, q.2 = .str x ∧ nameOk x = true) ∨ (q.1 = Str.ofString "number" ∧ ∃ k, q.2 = .int k ∧ 1 ≤ k) ∨ (q.1 = Str.ofString "house" ∧ ∃ h, q.2 = .int h ∧ 0 ≤ h ∧ h < m)
theorem ap_fits {q : Str × D} (h : partOk m q) (hq : Q (.bl true) st) : F_lfits [.int m, .str q.1, q.2] st X Q := by
  simp only [F_lfits, wDef_ap]
  refine ⟨rfl, ?_⟩
  rcases h with ⟨h1, x, h2, h3⟩ | ⟨h1, k, h2, h3⟩ | ⟨h1, k, h2, h3, h4⟩
  · simp [h1, h2]
    exact ap_is_name h3 (by simpa using hq)
  · simp [h1, h2, ofString_inj]
    refine ap_whole_int ?_
    simp
    have : 0 < k := by omega
    simpa [this] using hq
  · simp [h1, h2, ofString_inj]
    exact ap_is_house h3 h4 (by simpa using hq)
theorem ap_parts {ys : List Str} {ds : List D} {e0 : DL.Env} {Q2 : List D → Sto → Prop} {chk : Sto → Prop} (qs : List (Str × D)) (hz : zipL (ys.map .str) ds = qs.map fun q => .tup [.str q.1, q.2]) (hok : ∀ q ∈ qs, partOk m q) (he : ∃ a b, e0 = [some (.int m), some a, some b, none, none]) (hc : chk st) (hq : Q2 [] st) :
    wCompL (.tp [.nm 3, .nm 4]) (wTNot (wTT (wFn F_lfits (wCons (wVar 0) (wCons (wVar 3) (wCons (wVar 4) wNil)))))) (wC (.int 1)) chk e0 Q2 (zipL (ys.map .str) ds) [] st := by
  obtain ⟨a, b, rfl⟩ := he
  rw [hz]
  refine compL_imp (fun q : Str × D => [some (.int m), some a, some b, some (.str q.1), some q.2]) (fun _ => false) (fun _ => .int 1) ?_ ?_ ?_ hc ?_
  · simp
  · intro q hq' Q hq
    simp
    refine ap_fits (hok q hq') ?_
    simpa using hq
  · simp
  · have e : (qs.filter fun _ => false) = [] := List.filter_eq_nil_iff.mpr fun _ _ => by simp
    rw [e]
    exact hq
theorem all4 {α : Type} {P : α → Prop} {a b c d : α} (ha : P a) (hb : P b) (hc : P c) (hd : P d) : ∀ q ∈ [a, b, c, d], P q := by
  intro q hq
  simp at hq
  rcases hq with rfl | rfl | rfl | rfl <;> assumption
theorem all3 {α : Type} {P : α → Prop} {a b c : α} (ha : P a) (hb : P b) (hc : P c) : ∀ q ∈ [a, b, c], P q := by
  intro q hq
  simp at hq
  rcases hq with rfl | rfl | rfl <;> assumption
theorem all2 {α : Type} {P : α → Prop} {a b : α} (ha : P a) (hb : P b) : ∀ q ∈ [a, b], P q := by
  intro q hq
  simp at hq
  rcases hq with rfl | rfl <;> assumption
theorem ap_is_entry {e : En} (hok : e.ok m) (hq : Q (.bl true) st) : F_is_entry [.int m, e.d] st X Q := by
  simp only [F_is_entry, wDef_ap]
  refine ⟨rfl, ?_⟩
  cases e with
  | ask n k p u =>
    obtain ⟨h1, h2, h3, h4⟩ := hok
    have t : tabAt (Str.ofString "ask") T_logs = some [Str.ofString "name", Str.ofString "number", Str.ofString "name", Str.ofString "number"] := by decide +kernel
    simp [En.d, En.kind, En.name, En.i2, En.tl, t]
    rw [dEq_tnil (by simp)]
    simp [cutD_from, zip2, pr]
    refine ap_parts (ys := [Str.ofString "name", Str.ofString "number", Str.ofString "name", Str.ofString "number"]) [(Str.ofString "name", D.str n), (Str.ofString "number", D.int k), (Str.ofString "name", D.str p), (Str.ofString "number", D.int u)] rfl (all4 (.inl ⟨rfl, _, rfl, h1⟩) (.inr (.inl ⟨rfl, _, rfl, h2⟩)) (.inl ⟨rfl, _, rfl, h4⟩) (.inr (.inl ⟨rfl, _, rfl, h3⟩))) ⟨_, _, rfl⟩ (by simp [zip2, pr]) ?_
    rw [dEq_lnil (by simp)]
    simpa using hq
  | got n k h u =>
    obtain ⟨h1, h2, h3, h5, h4⟩ := hok
    have t : tabAt (Str.ofString "got") T_logs = some [Str.ofString "name", Str.ofString "number", Str.ofString "house", Str.ofString "number"] := by decide +kernel
    simp [En.d, En.kind, En.name, En.i2, En.tl, t]
    rw [dEq_tnil (by simp)]
    simp [cutD_from, zip2, pr]
    refine ap_parts (ys := [Str.ofString "name", Str.ofString "number", Str.ofString "house", Str.ofString "number"]) [(Str.ofString "name", D.str n), (Str.ofString "number", D.int k), (Str.ofString "house", D.int h), (Str.ofString "number", D.int u)] rfl (all4 (.inl ⟨rfl, _, rfl, h1⟩) (.inr (.inl ⟨rfl, _, rfl, h2⟩)) (.inr (.inr ⟨rfl, _, rfl, h3, h5⟩)) (.inr (.inl ⟨rfl, _, rfl, h4⟩))) ⟨_, _, rfl⟩ (by simp [zip2, pr]) ?_
    rw [dEq_lnil (by simp)]
    simpa using hq
  | no n k h =>
    obtain ⟨h1, h2, h3, h5⟩ := hok
    have t : tabAt (Str.ofString "no") T_logs = some [Str.ofString "name", Str.ofString "number", Str.ofString "house"] := by decide +kernel
    simp [En.d, En.kind, En.name, En.i2, En.tl, t]
    rw [dEq_tnil (by simp)]
    simp [cutD_from, zip2, pr]
    refine ap_parts (ys := [Str.ofString "name", Str.ofString "number", Str.ofString "house"]) [(Str.ofString "name", D.str n), (Str.ofString "number", D.int k), (Str.ofString "house", D.int h)] rfl (all3 (.inl ⟨rfl, _, rfl, h1⟩) (.inr (.inl ⟨rfl, _, rfl, h2⟩)) (.inr (.inr ⟨rfl, _, rfl, h3, h5⟩))) ⟨_, _, rfl⟩ (by simp [zip2, pr]) ?_
    rw [dEq_lnil (by simp)]
    simpa using hq
  | back n k =>
    obtain ⟨h1, h2⟩ := hok
    have t : tabAt (Str.ofString "back") T_logs = some [Str.ofString "name", Str.ofString "number"] := by decide +kernel
    simp [En.d, En.kind, En.name, En.i2, En.tl, t]
    rw [dEq_tnil (by simp)]
    simp [cutD_from, zip2, pr]
    refine ap_parts (ys := [Str.ofString "name", Str.ofString "number"]) [(Str.ofString "name", D.str n), (Str.ofString "number", D.int k)] rfl (all2 (.inl ⟨rfl, _, rfl, h1⟩) (.inr (.inl ⟨rfl, _, rfl, h2⟩))) ⟨_, _, rfl⟩ (by simp [zip2, pr]) ?_
    rw [dEq_lnil (by simp)]
    simpa using hq
  | word n h k u =>
    obtain ⟨h1, h2, h3, h5, h4⟩ := hok
    have t : tabAt (Str.ofString "word") T_logs = some [Str.ofString "name", Str.ofString "house", Str.ofString "number", Str.ofString "number"] := by decide +kernel
    simp [En.d, En.kind, En.name, En.i2, En.tl, t]
    rw [dEq_tnil (by simp)]
    simp [cutD_from, zip2, pr]
    refine ap_parts (ys := [Str.ofString "name", Str.ofString "house", Str.ofString "number", Str.ofString "number"]) [(Str.ofString "name", D.str n), (Str.ofString "house", D.int h), (Str.ofString "number", D.int k), (Str.ofString "number", D.int u)] rfl (all4 (.inl ⟨rfl, _, rfl, h1⟩) (.inr (.inr ⟨rfl, _, rfl, h3, h5⟩)) (.inr (.inl ⟨rfl, _, rfl, h2⟩)) (.inr (.inl ⟨rfl, _, rfl, h4⟩))) ⟨_, _, rfl⟩ (by simp [zip2, pr]) ?_
    rw [dEq_lnil (by simp)]
    simpa using hq
  | free n h k =>
    obtain ⟨h1, h2, h3, h5⟩ := hok
    have t : tabAt (Str.ofString "free") T_logs = some [Str.ofString "name", Str.ofString "house", Str.ofString "number"] := by decide +kernel
    simp [En.d, En.kind, En.name, En.i2, En.tl, t]
    rw [dEq_tnil (by simp)]
    simp [cutD_from, zip2, pr]
    refine ap_parts (ys := [Str.ofString "name", Str.ofString "house", Str.ofString "number"]) [(Str.ofString "name", D.str n), (Str.ofString "house", D.int h), (Str.ofString "number", D.int k)] rfl (all3 (.inl ⟨rfl, _, rfl, h1⟩) (.inr (.inr ⟨rfl, _, rfl, h3, h5⟩)) (.inr (.inl ⟨rfl, _, rfl, h2⟩))) ⟨_, _, rfl⟩ (by simp [zip2, pr]) ?_
    rw [dEq_lnil (by simp)]
    simpa using hq
theorem ap_is_log (hok : ∀ e ∈ es, e.ok m) (hq : Q (.bl true) st) : F_is_log [.int m, .tup (es.map En.d)] st X Q := by
  simp only [F_is_log, wDef_ap]
  refine ⟨rfl, ?_⟩
  simp
  refine compL_imp (fun e : En => [some (.int m), some (.tup (es.map En.d)), some e.d]) (fun _ => false) En.d ?_ ?_ ?_ trivial ?_
  · simp
  · intro e he Q hq
    simp
    refine ap_is_entry (hok e he) ?_
    simpa using hq
  · simp
  · have e : (es.filter fun _ => false) = [] := List.filter_eq_nil_iff.mpr fun _ _ => by simp
    rw [e]
    show on (dEq st (.lst []) (.lst [])) _
    rw [dEq_lnil (by simp)]
    simpa using hq
end
end DL
namespace DL
open PySem PySem.Spec PyProof.Rows L2
/-! ### what is told of a name hangs on its own entries; logs of k08 -/
def F__law_entry8 : WF := wDef 7 2 true (wSeq (wSet 2 (wFn F__law_name (wCons (wVar 0) wNil))) (wSeq (wSet 3 (wFn F__law_take (wCons (wVar 0) (wCons (wVar 1) wNil)))) (wSeq (wSet 4 (wBin dAdd (wC (.int 1)) (wFn F__law_take (wCons (wVar 0) (wCons (wC (.int 3)) wNil))))) (wSeq (wSet 5 (wFn F__law_until (wCons (wVar 0) wNil))) (wSeq (wSet 6 (wLst (wCons (wTup (wCons (wC (.str "ask")) (wCons (wVar 2) (wCons (wVar 4) (wCons (wFn F__law_person (wCons (wVar 0) wNil)) (wCons (wVar 5) wNil)))))) (wCons (wTup (wCons (wC (.str "got")) (wCons (wVar 2) (wCons (wVar 4) (wCons (wVar 3) (wCons (wVar 5) wNil)))))) wNil)))) (wSeq (wSet 6 (wBin dAdd (wVar 6) (wLst (wCons (wTup (wCons (wC (.str "word")) (wCons (wVar 2) (wCons (wVar 3) (wCons (wVar 4) (wCons (wVar 5) wNil)))))) (wCons (wTup (wCons (wC (.str "word")) (wCons (wVar 2) (wCons (wVar 3) (wCons (wVar 4) (wCons (wVar 5) wNil)))))) wNil))))) (wSeq (wSet 6 (wBin dAdd (wVar 6) (wLst (wCons (wTup (wCons (wC (.str "got")) (wCons (wVar 2) (wCons (wVar 4) (wCons (wVar 3) (wCons (wVar 5) wNil)))))) (wCons (wTup (wCons (wC (.str "no")) (wCons (wVar 2) (wCons (wVar 4) (wCons (wVar 3) wNil))))) (wCons (wTup (wCons (wC (.str "free")) (wCons (wVar 2) (wCons (wVar 3) (wCons (wVar 4) wNil))))) wNil)))))) (wSeq (wSet 6 (wBin dAdd (wVar 6) (wLst (wCons (wTup (wCons (wC (.str "back")) (wCons (wVar 2) (wCons (wVar 4) wNil)))) wNil)))) (wRet (wBin ixD (wVar 6) (wBin ixD (wLst (wCons (wC (.int 0)) (wCons (wC (.int 0)) (wCons (wC (.int 1)) (wCons (wC (.int 1)) (wCons (wC (.int 2)) (wCons (wC (.int 2)) (wCons (wC (.int 3)) (wCons (wC (.int 4)) (wCons (wC (.int 5)) (wCons (wC (.int 5)) (wCons (wC (.int 6)) (wCons (wC (.int 6)) (wCons (wC (.int 7)) wNil)))))))))))))) (wFn F__law_take (wCons (wVar 0) (wCons (wC (.int 13)) wNil))))))))))))))
def F__law_log8 : WF := wDef 4 3 true (wRet (wCall cTuple (wCons (wComp (wiRange (wCons (wFn F__law_take (wCons (wVar 0) (wCons (wBin dAdd (wVar 2) (wC (.int 1))) wNil))) wNil)) (.nm 3) wYes (wFn F__law_entry8 (wCons (wVar 0) (wCons (wVar 1) wNil))) [3]) wNil)))

abbrev own (es : List En) (name : Str) : List En := es.filter fun e => decide (e.name = name)
section
variable {es fs : List En} {name : Str} {f : Wd} {n : Int} {kind : String}
theorem wdStep_other {e : En} (h : e.name ≠ name) : wdStep name f e = f := by
  have h1 : wdA name f e = f := by
    cases e <;> first | rfl | exact if_neg h
  unfold wdStep
  rw [h1]
  cases e <;> first | rfl | skip
  cases f with
  | none => rfl
  | some w =>
    obtain ⟨a, b, c⟩ := w
    simp only [wdB]
    rw [if_neg fun z => h z.1]
theorem fold_own : ∀ {es : List En} {f : Wd}, (own es name).foldl (wdStep name) f = es.foldl (wdStep name) f
  | [], _ => rfl
  | e :: es, f => by
    by_cases h : e.name = name
    · rw [own, List.filter_cons_of_pos (by simpa using h), List.foldl_cons, List.foldl_cons]
      exact fold_own
    · rw [own, List.filter_cons_of_neg (by simpa using h), List.foldl_cons, wdStep_other h]
      exact fold_own
theorem wordIn_own : wordIn (own es name) name = wordIn es name := fold_own
theorem ents_own : entsOf (own es name) kind name = entsOf es kind name := by
  unfold entsOf own
  rw [List.filter_filter]
  congr 1
  funext e
  by_cases h : e.name = name <;> simp [h]
theorem back_own : En.back name n ∈ own es name ↔ En.back name n ∈ es := by
  rw [List.mem_filter]
  simp [En.name]
theorem claim_own : claimOf (own es name) name = claimOf es name := by
  unfold claimOf greatest askedNums wordsAt noesAt ats
  simp only [ents_own, back_own]
theorem wordIn_of_own (h : own es name = own fs name) : wordIn es name = wordIn fs name := by rw [← wordIn_own, h, wordIn_own]
theorem claim_of_own (h : own es name = own fs name) : claimOf es name = claimOf fs name := by rw [← claim_own, h, claim_own]
theorem own_own : own (own es name) name = own es name := by
  unfold own
  rw [List.filter_filter]
  simp
theorem wdD_pl : pl 64 (wdD f) = true := by
  cases f with
  | none => exact pl_non
  | some w => obtain ⟨a, b, c⟩ := w; simp [wdD]
theorem clD_pl {c : Option Cl} : pl 64 (clD c) = true := by
  cases c with
  | none => exact pl_non
  | some c =>
    have h1 : plL 62 (c.words.map DL.pairD) = true := plL_map fun q _ => by simp [DL.pairD]
    simp [clD, Cl.d, h1]
theorem clD_tpl {c : Option Cl} : tpl 10 (clD c) = true := by
  cases c with
  | none => exact tpl_non
  | some c =>
    have h2 : tplL 8 (c.words.map DL.pairD) = true := tplL_map fun q _ => by simp [DL.pairD]
    have h3 : tplL 8 (c.others.map D.int) = true := tplL_map fun q _ => by simp
    simp [clD, Cl.d, h2, h3]
end
section
variable {st : Sto} {X : PoX} {Q : PoE} {n m : Int} {a : Addr} {r : List D}
theorem ap_entry8 (hm0 : 0 < m) (hm1 : m ≤ 1000) (hr : st a = some (.lst r)) (ok : RowOk r) (h : ∀ (e : En) r', e.ok m → RowOk r' → Q e.d (st.set a (.lst r'))) : F__law_entry8 [.ref a, .int m] st X Q := by
  have sm : (st a).isSome = true := by rw [hr]; rfl
  simp only [F__law_entry8, wDef_ap]
  refine ⟨rfl, ?_⟩
  simp
  refine ap_name7 hr ok fun name r hnm ok => ?_
  refine ap_take Sto.set_same ok hm0 (by omega) fun house r h0 h1 ok => ?_
  simp
  refine ap_take Sto.set_same ok (by decide) (by decide) fun i r i0 i1 ok => ?_
  simp
  refine ap_until Sto.set_same ok fun u r u0 ok => ?_
  simp
  refine ap_person Sto.set_same ok fun p r hpm ok => ?_
  simp [dAdd_lst, sizeLine_eq]
  refine ap_take Sto.set_same ok (by decide) (by decide) fun i2 r i20 i21 ok => ?_
  obtain ⟨d2, ⟨x2, rfl, x20, x21⟩, e2⟩ := atI_isSome (ds := [D.int 0, .int 0, .int 1, .int 1, .int 2, .int 2, .int 3, .int 4, .int 5, .int 5, .int 6, .int 6, .int 7]) i20 (by simpa using i21) (fun d => ∃ x, d = .int x ∧ 0 ≤ x ∧ x < 8) (by simp)
  simp [e2]
  obtain ⟨en, eok, e3⟩ := some_en (name := name) (p := p) (k := 1 + i) (house := house) (u := u) (m := m) hnm hpm (by omega) h0 h1 u0 x20 x21
  simp [e3, Sto.keepOnly_set sm]
  exact h en r eok ok
theorem ap_log8 (hr : st a = some (.lst r)) (ok : RowOk r) (hm0 : 0 < m) (hm1 : m ≤ 1000) (hn0 : 0 ≤ n) (hn1 : n ≤ 1000) (h : ∀ (es : List En) r', es.length ≤ n → (∀ e ∈ es, e.ok m) → RowOk r' → Q (.tup (es.map En.d)) (st.set a (.lst r'))) : F__law_log8 [.ref a, .int m, .int n] st X Q :=
  ap_log_gen (F := F__law_entry8) (fun hr ok h => ap_entry8 hm0 hm1 hr ok h) hr ok hn0 hn1 h
end
end DL
namespace DL
open PySem PySem.Spec PyProof.Rows L2

/-! ### tuple(xs) that is known to be plain; dict of such a tuple of pairs -/
def rTupK (K : PySem.W.Frag) : List V → Hp → VK → Prop := fun xs H Q => ∃ p ys, xs = [.ref p] ∧ SqL K H p ys ∧ ∀ l (o : Obj), H l = none → o.dict = none → Q (.ref l) (upd H l (.frz o (.tup ys)))
theorem call_tupK {X : Cx} : CallR X (.type "tuple") (rTupK X.K) := by
  intro pins s σ H xs us Q I r h
  obtain ⟨p, ys, rfl, hq, q⟩ := h
  obtain ⟨u, rfl, rx⟩ := vals1 r
  cases rx
  obtain ⟨its, r', pl, hz⟩ := I.list hq
  have hl := r'.length
  refine call_tuple_list pl.isList (fun h' kp => ?_) (by simp only [List.size_toArray] <;> omega)
  have I1 : Inv X pins σ H { s with heap := h' } := I.kept (t' := s.toks) kp
  have hnew : (h'.push { cls := .type "tuple", data := .seq its.toArray }).get? h'.objs.size = some { cls := .type "tuple", data := .seq its.toArray } := Heap.get?_push_size _ rfl
  have I2 := I1.laid (t' := s.toks) (o := .frz { cls := .type "tuple", data := .seq its.toArray } (.tup ys)) (fun b o e => Heap.get?_push_of_some _ e) (Nat.le_refl _)
    (show ObjOk X.prog X.w _ (h'.push { cls := .type "tuple", data := .seq its.toArray }) _ (.frz _ (.tup ys)) from ⟨hnew, hz, its, r', IsTup.new _ _⟩)
  exact ⟨.ref h'.objs.size, _, I2, rfl, q _ _ (I1.hok.fresh (Nat.le_refl _)) rfl⟩
def wTupK (m : WA) : WE := fun e st X Q => m e st X fun ds st1 => on (match ds with | [d] => lsOf st1 d | _ => none) fun xs => Q (.kt xs) st1
@[simp] theorem wTupK_ap {m : WA} {e : Env} {st : Sto} {X : PoX} {Q : PoE} : wTupK m e st X Q = m e st X fun ds st1 => on (match ds with | [d] => lsOf st1 d | _ => none) fun xs => Q (.kt xs) st1 := id rfl
theorem e_tupK {X : Cx} {E : XK} {a : Expr} {pos p : Pos} {n : Nat} {m : WA} (fr : Frees X.mg) (ha : PAw X E [a] n m) (hg : Gl X "tuple" := by rfl) (he : starEach [a] X.env = (false, eval a X.env) :: starEach [] X.env := by rfl) :
    PEw X E (.Call (.Name "tuple" p) [a] [] pos) (wTupK m) := pe_imp (pe_callTy call_tupK hg fr.tuple (by decide +kernel) ha (by decide) (by decide) he rfl) fun σ H Q ⟨B, e, st, Qd, Xd, S, pq, px, mm⟩ =>
  ⟨B, e, st, _, Xd, S, fun ds st1 vs H1 m1 l1 x1 k1 r1 => by
    obtain ⟨xs, hk, q⟩ := on_iff.mp m1
    split at hk
    · cases r1 with
      | cons r1 r2 =>
        cases r2
        obtain ⟨b, us, rfl, hR, rr, z⟩ := ls_of k1 r1 hk
        refine ⟨b, us, rfl, .inl hR, fun pv o hp ho => ?_⟩
        exact pq _ st1 _ _ q (x1.trans (ext_new hp)) (k1.new hp) (.kt (.inr ⟨k1.fresh hp, o, upd_same, ho⟩) (rr.ext (ext_new hp)) z)
    · (cases hk), px, mm⟩
theorem list_of_each {α β : Type} {P : Nat → α → β → Prop} : ∀ {l : List α}, (∀ (j : Nat) (a : α), l[j]? = some a → ∃ b, P j a b) → ∃ bs : List β, bs.length = l.length ∧ ∀ (j : Nat) (a : α) (b : β), l[j]? = some a → bs[j]? = some b → P j a b
  | [], _ => ⟨[], rfl, fun j a b h => by simp at h⟩
  | a :: l, h => by
    obtain ⟨b, hb⟩ := h 0 a rfl
    obtain ⟨bs, h1, h2⟩ := list_of_each (P := fun j => P (j + 1)) (l := l) fun j x hx => h (j + 1) x (by simpa using hx)
    refine ⟨b :: bs, by simp [h1], fun j x y hx hy => ?_⟩
    cases j with
    | zero => simp at hx hy; subst hx hy; exact hb
    | succ j => exact h2 j x y (by simpa using hx) (by simpa using hy)
def PlT (K : PySem.W.Frag) (H : Hp) (a : Addr) (vs : List V) : Prop := KTupAt K a vs ∨ ∃ o : Obj, H a = some (.frz o (.tup vs)) ∧ o.dict = none
theorem KT.plT {K : PySem.W.Frag} {H : Hp} {M : Mu} {a : Addr} {vs : List V} (h : KT K H M a vs) : PlT K H a vs := h.imp id fun h => h.2
theorem plT_at {X : Cx} {pins : List (Addr × Obj)} {σ : L2.St} {H : Hp} {s : Shared} {a : Addr} {vs : List V} (I : Inv X pins σ H s) (h : PlT X.K H a vs) : ∃ its : List Value, Vals vs its ∧ PySem.PlainSeq "tuple" s.heap a its.toArray ∧ vs.length ≤ sizeLine := by
  rcases h with ⟨o, its, n, h1, h2, h3, h4, h5, h6⟩ | ⟨o, h1, h2⟩
  · refine ⟨its.toList, h6, ⟨o, n, I.kIn a o h1, h2, h3, by simpa using h4⟩, ?_⟩
    have e := h6.length
    simp only [Array.length_toList] at e
    omega
  · obtain ⟨ho, hz, its, r, p⟩ := I.hok a _ h1
    obtain ⟨o', h3, h4, n, h5⟩ := p
    rw [ho] at h3
    cases h3
    exact ⟨its, r, ⟨o, n, ho, h4, h2, h5⟩, hz⟩
def rDictPT (K : PySem.W.Frag) : List V → Hp → VK → Prop := fun xs H Q => ∃ (a : Addr) (ps : List Addr) (kvs : List (L2.Key × V)), xs = [.ref a] ∧ PlT K H a (ps.map V.ref) ∧ Paired (fun p kv => SqT K H p [kV kv.1, kv.2]) ps kvs ∧ ∀ p, H p = none → Q (.ref p) (upd H p (.dK (mergeK [] kvs)))
theorem call_dictPT {X : Cx} (hcalm : X.calm = true) : CallR X (.type "dict") (rDictPT X.K) := by
  intro pins s σ H xs us Q I r h
  obtain ⟨a, ps, kvs, rfl, ht, hp, q⟩ := h
  obtain ⟨u, rfl, rx⟩ := vals1 r
  cases rx
  obtain ⟨its, rv, pl, hz⟩ := plT_at I ht
  have ei := refs_at rv
  subst ei
  rw [List.length_map] at hz
  obtain ⟨prs, rel, hl, hpr⟩ := pairs_of I hp
  obtain ⟨keys, kl, hk⟩ := list_of_each (P := fun (j : Nat) (q : L2.Key × Value) (u : Value) => ∃ b : Addr, ps[j]? = some b ∧ IsTup s.heap b #[u, q.2] ∧ keyIs q.1 u = true) fun j q e => by
    obtain ⟨b, u, h⟩ := hpr j q e
    exact ⟨u, b, h⟩
  have hvl : (keys.zip (prs.map (·.2))).length = prs.length := by rw [List.length_zip, List.length_map, kl, Nat.min_self]
  have hat : ∀ (j : Nat) (key v : Value), (keys.zip (prs.map (·.2)))[j]? = some (key, v) → ∃ k b, prs[j]? = some (k, v) ∧ keyIs k key = true ∧ ps[j]? = some b ∧ IsTup s.heap b #[key, v] := by
    intro j key v e
    rw [List.getElem?_zip_eq_some] at e
    obtain ⟨e1, e2⟩ := e
    rw [List.getElem?_map] at e2
    obtain ⟨⟨k, v'⟩, e3, e4⟩ := Option.map_eq_some_iff.mp e2
    cases e4
    obtain ⟨b, h1, h2, h3⟩ := hk j _ _ e3 e1
    exact ⟨k, b, e3, h3, h1, h2⟩
  have arg := PySem.PairArg.tuple (prog := X.prog) (w := X.w) a (ps.map Value.ref).toArray (fun j => (ps[j]?).getD 0) (keys.zip (prs.map (·.2)))
  refine PySem.call_dict_pairs (knd := mixKind X.prog X.w) (kvs := prs) arg (I.ok.hd hcalm) ⟨pl, ?_, ?_⟩ ⟨hvl.symm, ?_⟩ (by rw [hvl, hl]; exact hz) fun h' tk hd' k => ?_
  · rw [hvl, hl]; simp
  · intro j key v e
    obtain ⟨k, b, h1, h2, h3, h4⟩ := hat j key v e
    refine ⟨?_, .inl ?_⟩
    · simp [h3]
    · show s.heap.IsTuple ((ps[j]?).getD 0) _
      rw [h3]
      exact h4
  · intro j key v e
    obtain ⟨k, b, h1, h2, h3, h4⟩ := hat j key v e
    exact ⟨k, h1, h2⟩
  · have hm : (s.heap.objs.size == sysModules) = false := beq_eq_false_iff_ne.mpr (Nat.ne_of_gt I.big)
    have hlen : (mergeK [] kvs).length ≤ sizeLine := by
      have h1 := length_mergeK kvs []
      have h2 := rel.length
      simp only [List.length_nil] at h1
      omega
    exact ⟨.ref s.heap.objs.size, _, I.laid (t' := tk) (o := .dK (mergeK [] kvs)) (fun b o e => k b o (fun z => nomatch z) e) (Nat.le_refl _) (show ObjOk X.prog X.w _ _ _ (.dK (mergeK [] kvs)) from ⟨hlen, hm, merged [] prs, KV.merge rel .nil, hd'⟩), rfl, q _ (I.hok.fresh (Nat.le_refl _))⟩
def wDictPT (m : WA) : WE := fun e st X Q => m e st X fun ds st1 => on (match ds with | [.kt es] => pairsL es | _ => none) fun kvs => ∀ p, st1 p = none → Q (.ref p) (st1.set p (.dk (mergeD [] kvs)))
@[simp] theorem wDictPT_ap {m : WA} {e : Env} {st : Sto} {X : PoX} {Q : PoE} : wDictPT m e st X Q = m e st X fun ds st1 => on (match ds with | [.kt es] => pairsL es | _ => none) fun kvs => ∀ p, st1 p = none → Q (.ref p) (st1.set p (.dk (mergeD [] kvs))) := id rfl
theorem e_dictPT {X : Cx} {E : XK} {a : Expr} {pos p : Pos} {n : Nat} {m : WA} (hc : X.calm = true) (fr : Frees X.mg) (ha : PAw X E [a] n m) (hg : Gl X "dict" := by rfl) (he : starEach [a] X.env = (false, eval a X.env) :: starEach [] X.env := by rfl) :
    PEw X E (.Call (.Name "dict" p) [a] [] pos) (wDictPT m) := pe_imp (pe_callTy (call_dictPT hc) hg fr.dict (by decide +kernel) ha (by decide) (by decide) he rfl) fun σ H Q ⟨B, e, st, Qd, Xd, S, pq, px, mm⟩ =>
  ⟨B, e, st, _, Xd, S, fun ds st1 vs H1 m1 l1 x1 k1 r1 => by
    obtain ⟨kvs, hk, q⟩ := on_iff.mp m1
    split at hk
    · cases r1 with
      | cons r1 r2 =>
        cases r2
        cases r1 with
        | kt hT rr z =>
          obtain ⟨ps, ws, rfl, h5, h6, h7⟩ := pairs_rep hk rr
          refine ⟨_, ps, ws, rfl, hT.plT, h5, fun pv hp => ?_⟩
          obtain ⟨g1, g2⟩ := mergeD_rep (kvs := []) (ws := []) h6 h7 rfl .nil
          obtain ⟨k2, x2⟩ := k1.put (c := .dk (mergeD [] kvs)) (o := .dK (mergeK [] ws)) hp ⟨g1, g2⟩
          exact pq _ _ _ _ (q pv (k1.none_ hp)) (x1.trans x2) k2 (.ref pv)
    · (cases hk), px, mm⟩
end DL
namespace DL
open PySem PySem.Spec PyProof.Rows L2
/-! ### the laws' claims where dict(claim[3]) is said: the words as a plain tuple (k10, k11) -/
def F__law_claimK : WF := wDef 10 2 true (wSeq (wSet 2 (wC (.int 0))) (wSeq (wSet 3 (wC (.str ""))) (wSeq (wSet 4 (wC (.int 0))) (wSeq (wFor (wiSeq (wVar 0)) (.nm 5) (wSeq (wIfS (wTAnd (wTB (wBin dEq (wSl (wVar 5) wNo (wPart (wC (.int 2)))) (wTup (wCons (wC (.str "ask")) (wCons (wVar 1) wNil))))) (wTB (wBin dGt (wBin ixD (wVar 5) (wC (.int 2))) (wVar 2)))) (wSeq (wSet 2 (wBin ixD (wVar 5) (wC (.int 2)))) (wSet 4 (wC (.int 0)))) wSkip) (wIfS (wTB (wBin dEq (wSl (wVar 5) wNo (wPart (wC (.int 3)))) (wTup (wCons (wC (.str "ask")) (wCons (wVar 1) (wCons (wVar 2) wNil)))))) (wSeq (wSet 3 (wBin ixD (wVar 5) (wC (.int 3)))) (wSet 4 (wCall cMax (wCons (wVar 4) (wCons (wBin ixD (wVar 5) (wC (.int 4))) wNil))))) wSkip)) [5]) (wSeq (wIfS (wTB (wBin dEq (wVar 2) (wC (.int 0)))) (wRet (wC .non)) wSkip) (wSeq (wSet 6 wDictR) (wSeq (wSet 7 wDictR) (wSeq (wFor (wiSeq (wVar 0)) (.nm 5) (wSeq (wIfS (wTB (wBin dEq (wVar 5) (wTup (wCons (wC (.str "back")) (wCons (wVar 1) (wCons (wVar 2) wNil)))))) (wRet (wC .non)) wSkip) (wSeq (wIfS (wTAnd (wTB (wBin dEq (wSl (wVar 5) wNo (wPart (wC (.int 3)))) (wTup (wCons (wC (.str "got")) (wCons (wVar 1) (wCons (wVar 2) wNil)))))) (wTB (wBin dLt (wGet2 (wVar 6) (wBin ixD (wVar 5) (wC (.int 3))) (wC (.int 0))) (wBin ixD (wVar 5) (wC (.int 4)))))) (wPut (wVar 6) (wBin ixD (wVar 5) (wC (.int 3))) (wBin ixD (wVar 5) (wC (.int 4)))) wSkip) (wIfS (wTB (wBin dEq (wSl (wVar 5) wNo (wPart (wC (.int 3)))) (wTup (wCons (wC (.str "no")) (wCons (wVar 1) (wCons (wVar 2) wNil)))))) (wPut (wVar 7) (wBin ixD (wVar 5) (wC (.int 3))) (wC (.bl true))) wSkip))) [5]) (wSeq (wSet 8 (wTupK (wCons (wComp (wiSeq (wCall cSorted (wCons (wVar 6) wNil))) (.nm 9) wYes (wTup (wCons (wVar 9) (wCons (wBin ixD (wVar 6) (wVar 9)) wNil))) [9]) wNil))) (wRet (wTup (wCons (wVar 2) (wCons (wVar 3) (wCons (wVar 4) (wCons (wVar 8) (wCons (wCall cTuple (wCons (wComp (wiSeq (wCall cSorted (wCons (wVar 7) wNil))) (.nm 9) (wTB (wBin dNotIn (wVar 9) (wVar 6))) (wVar 9) [9]) wNil)) wNil))))))))))))))))
def F__law_reach_inK : WF := wDef 6 3 true (wSeq (wSet 3 (wFn F__law_claimK (wCons (wVar 1) (wCons (wVar 2) wNil)))) (wSeq (wIfS (wTB (wBin dIs (wVar 3) (wC .non))) (wRet (wC (.int 0))) wSkip) (wRet (wFn F__law_reach (wCons (wComp (wiSeq (wBin ixD (wVar 3) (wC (.int 3)))) (.tp [(.nm 4), (.nm 5)]) wYes (wVar 5) [4, 5]) (wCons (wVar 0) wNil))))))
def F__law_gotK : WF := wDef 15 5 true (wSeq (wAsg (.tp [(.nm 9), (.nm 10), (.nm 11), (.nm 12), (.nm 13)]) (wSl (wVar 3) (wPart (wC (.int 1))) wNo)) (wSeq (wSet 5 (wFn F__law_claimK (wCons (wVar 2) (wCons (wVar 11) wNil)))) (wSeq (wIfS (wTOr (wTB (wBin dIs (wVar 5) (wC .non))) (wTB (wBin dNe (wBin ixD (wVar 5) (wC (.int 0))) (wVar 12)))) (wRet (wTup (wCons (wTup wNil) (wCons (wTup (wCons (wTup (wCons (wC (.str "back")) (wCons (wVar 1) (wCons (wVar 9) (wCons (wVar 11) (wCons (wVar 12) wNil)))))) wNil)) (wCons (wC .non) wNil))))) wSkip) (wSeq (wIfS (wTB (wBin dGe (wGet2 (wDictPT (wCons (wBin ixD (wVar 5) (wC (.int 3))) wNil)) (wVar 9) (wC (.int 0))) (wVar 13))) (wRet (wTup (wCons (wTup wNil) (wCons (wTup wNil) (wCons (wC .non) wNil))))) wSkip) (wSeq (wSet 6 (wTup (wCons (wTup (wCons (wC (.str "got")) (wCons (wVar 11) (wCons (wVar 12) (wCons (wVar 9) (wCons (wVar 13) wNil)))))) wNil))) (wSeq (wSet 7 (wFn F__law_reach_inK (wCons (wVar 0) (wCons (wVar 2) (wCons (wVar 11) wNil))))) (wSeq (wSet 8 (wFn F__law_reach_inK (wCons (wVar 0) (wCons (wBin dAdd (wVar 2) (wVar 6)) (wCons (wVar 11) wNil))))) (wSeq (wIfS (wTAnd (wTB (wBin dGt (wVar 8) (wVar 7))) (wTB (wBin dGt (wVar 8) (wVar 4)))) (wSeq (wSet 14 (wFn F__law_told_by (wCons (wVar 0) (wCons (wVar 1) (wCons (wVar 11) (wCons (wVar 12) (wCons (wBin ixD (wVar 5) (wC (.int 1))) (wCons (wVar 4) wNil)))))))) (wRet (wTup (wCons (wVar 6) (wCons (wVar 14) (wCons (wTup (wCons (wVar 11) (wCons (wVar 1) (wCons (wVar 12) (wCons (wBin ixD (wVar 5) (wC (.int 1))) (wCons (wVar 4) wNil)))))) wNil)))))) wSkip) (wRet (wTup (wCons (wVar 6) (wCons (wTup wNil) (wCons (wC .non) wNil)))))))))))))
def F__law_takenK : WF := wDef 11 5 true (wSeq (wIfS (wTB (wBin dEq (wBin ixD (wVar 3) (wC (.int 0))) (wC (.str "ask")))) (wRet (wFn F__law_ask (wCons (wVar 1) (wCons (wVar 2) (wCons (wVar 3) (wCons (wVar 4) wNil)))))) wSkip) (wSeq (wIfS (wTB (wBin dEq (wBin ixD (wVar 3) (wC (.int 0))) (wC (.str "word")))) (wRet (wFn F__law_gotK (wCons (wVar 0) (wCons (wVar 1) (wCons (wVar 2) (wCons (wVar 3) (wCons (wVar 4) wNil))))))) wSkip) (wSeq (wAsg (.tp [(.nm 7), (.nm 8), (.nm 9), (.nm 10)]) (wSl (wVar 3) (wPart (wC (.int 1))) (wPart (wC (.int 5))))) (wSeq (wSet 5 (wFn F__law_claimK (wCons (wVar 2) (wCons (wVar 9) wNil)))) (wSeq (wSet 6 (wFn F__law_word (wCons (wVar 2) (wCons (wVar 9) wNil)))) (wSeq (wIfS (wTAnd (wTB (wBin dEq (wBin ixD (wVar 3) (wC (.int 0))) (wC (.str "no")))) (wTAnd (wTB (wBin dIsNot (wVar 5) (wC .non))) (wTB (wBin dEq (wBin ixD (wVar 5) (wC (.int 0))) (wVar 10))))) (wIfS (wTAnd (wTB (wBin dNotIn (wVar 7) (wBin ixD (wVar 5) (wC (.int 4))))) (wTB (wBin dNotIn (wVar 7) (wDictPT (wCons (wBin ixD (wVar 5) (wC (.int 3))) wNil))))) (wRet (wTup (wCons (wTup (wCons (wTup (wCons (wC (.str "no")) (wCons (wVar 9) (wCons (wVar 10) (wCons (wVar 7) wNil))))) wNil)) (wCons (wTup wNil) (wCons (wC .non) wNil))))) wSkip) wSkip) (wSeq (wIfS (wTAnd (wTB (wBin dEq (wBin ixD (wVar 3) (wC (.int 0))) (wC (.str "back")))) (wTAnd (wTB (wBin dIsNot (wVar 6) (wC .non))) (wTB (wBin dEq (wSl (wVar 6) wNo (wPart (wC (.int 2)))) (wTup (wCons (wVar 7) (wCons (wVar 10) wNil))))))) (wRet (wTup (wCons (wTup (wCons (wTup (wCons (wC (.str "free")) (wCons (wVar 9) (wCons (wVar 7) (wCons (wVar 10) wNil))))) wNil)) (wCons (wTup wNil) (wCons (wC .non) wNil))))) wSkip) (wSeq (wIfS (wTB (wBin dEq (wBin ixD (wVar 3) (wC (.int 0))) (wC (.str "told")))) (wRet (wTup (wCons (wTup wNil) (wCons (wTup wNil) (wCons (wTup (wCons (wVar 9) (wCons (wVar 7) (wCons (wVar 10) (wCons (wBin ixD (wVar 3) (wC (.int 5))) (wCons (wBin ixD (wVar 3) (wC (.int 6))) wNil)))))) wNil))))) wSkip) (wRet (wTup (wCons (wTup wNil) (wCons (wTup wNil) (wCons (wC .non) wNil)))))))))))))

def Cl.dK (c : Cl) : D := .tup [.int c.num, .str c.per, .int c.til, .kt (c.words.map DL.pairD), .tup (c.others.map .int)]
def clDK : Option Cl → D
  | none => .non
  | some c => c.dK
section
variable {st : Sto} {X : PoX} {Q : PoE} {name : Str} {es : List En} {m : Int}
theorem ap_law_claimK (hok : ∀ e ∈ es, e.ok m) (hl : es.length ≤ 5000) (hq : Q (clDK (claimOf es name)) st) : F__law_claimK [.tup (es.map En.d), .str name] st X Q := by
  simp only [F__law_claimK, wDef_ap]
  refine ⟨rfl, ?_⟩
  simp [-wIfS_ap]
  refine wForL_typed (fun rest e' st' => st = st' ∧ ∃ (done : List En), es = done ++ rest ∧ e' = [some (.tup (es.map En.d)), some (.str name), some (.int (greatest done name)), some (.str (perAt done name (greatest done name))), some (.int (tilAt done name (greatest done name))), none, none, none, none, none]) (fun _ _ _ _ => trivial) ?_ ?_ _ _ _ ⟨rfl, [], rfl, rfl⟩
  · rintro e' _ ⟨rfl, done, h1, rfl⟩
    rw [List.append_nil] at h1
    subst h1
    simp
    generalize hnum : greatest es name = num
    have hcl : claimOf es name = if num = 0 ∨ En.back name num ∈ es then none else some ⟨num, perAt es name num, tilAt es name num, sortP (wordsAt es name num), (sortI ((noesAt es name num).map (·.1))).filter fun h => !decide (h ∈ (wordsAt es name num).map (·.1))⟩ := by
      unfold claimOf
      rw [hnum]; rfl
    by_cases h0 : num = 0
    · rw [if_pos h0]
      rw [hcl, if_pos (.inl h0)] at hq
      exact hq
    rw [if_neg h0]
    intro p6 hp6 p7 hp7
    have ne : p6 ≠ p7 := fun e => by rw [e, Sto.set_same] at hp7; cases hp7
    have hp7' : st p7 = none := by rw [Sto.set_ne (Ne.symm ne)] at hp7; exact hp7
    refine wForL_typed (fun rest e' st' => ∃ (done : List En), es = done ++ rest ∧ En.back name num ∉ done ∧ e' = [some (.tup (es.map En.d)), some (.str name), some (.int num), some (.str (perAt es name num)), some (.int (tilAt es name num)), none, some (.ref p6), some (.ref p7), none, none] ∧
      st' p6 = some (.dk (encK D.int (wordsAt done name num))) ∧ st' p7 = some (.dk (encK D.bl (noesAt done name num))) ∧ st'.keepOnly st = st) (fun _ _ _ _ => trivial) ?_ ?_ _ _ _ ⟨[], rfl, (by simp), rfl, by rw [Sto.set_ne ne, Sto.set_same]; rfl, by rw [Sto.set_same]; rfl, by rw [Sto.keepOnly_new hp7', Sto.keepOnly_new hp6, Sto.keepOnly_self]⟩
    · rintro e' st2 ⟨done, h1, hnb, rfl, k1, k2, k3⟩
      rw [List.append_nil] at h1
      subst h1
      rw [hcl, if_neg (fun z => z.elim h0 hnb)] at hq
      have wl := words_len es name num
      have nl := noes_len es name num
      simp
      rw [cSorted_dk k1 (by rw [sizeLine_eq]; omega), on_some]
      simp only [sqOf_lst, on_some]
      refine compL_imp (enc := D.int) (fun h : Int => [some (D.tup (List.map En.d es)), some (D.str name), some (D.int num), some (D.str (perAt es name num)), some (D.int (tilAt es name num)), none, some (D.ref p6), some (D.ref p7), none, some (.int h)]) (fun h => true) (fun h => pairD (h, (getI (wordsAt es name num) h).getD 0)) ?_ ?_ ?_ trivial ?_
      · simp
      · intro h _ Q hq
        simpa using hq
      · intro h hm _ Q hq
        simp
        have hk : h ∈ (wordsAt es name num).map (·.1) := (sortI_perm _).mem_iff.mp hm
        cases eg : getI (wordsAt es name num) h with
        | none => exact absurd hk (getI_none_iff.mp eg)
        | some v =>
          rw [ixD_dk k1 eg, on_some]
          rw [eg] at hq
          exact hq
      rw [cSorted_dk k2 (by rw [sizeLine_eq]; omega), on_some]
      simp only [sqOf_lst, on_some]
      have es1 : ([] : List D) ++ ((sortI ((wordsAt es name num).map (·.1))).filter fun _ => true).map (fun h => pairD (h, (getI (wordsAt es name num) h).getD 0)) = (sortP (wordsAt es name num)).map pairD := by
        rw [List.filter_eq_self.mpr (fun _ _ => rfl), List.nil_append, sortP_keys (words_nodup es name num), List.map_map]; rfl
      rw [es1]
      refine compL_imp (enc := D.int) (fun h : Int => [some (D.tup (List.map En.d es)), some (D.str name), some (D.int num), some (D.str (perAt es name num)), some (D.int (tilAt es name num)), none, some (D.ref p6), some (D.ref p7), some (.kt ((sortP (wordsAt es name num)).map DL.pairD)), some (.int h)]) (fun h => !decide (h ∈ (wordsAt es name num).map (·.1))) D.int ?_ ?_ ?_ trivial ?_
      · simp
      · intro h _ Q hq
        simp
        rw [dNotIn_dk k1]
        simpa using hq
      · simp
      rw [k3]
      exact hq
    · rintro x rest e' st2 N ⟨done, h1, hnb, rfl, k1, k2, k3⟩ hN
      have hxm : x ∈ es := by rw [h1]; simp
      have wl := words_len done name num
      have nl := noes_len done name num
      have dl : done.length ≤ es.length := by rw [h1]; simp
      simp [-wIfS_ap]
      rw [wIfS_ap, wTB_ap]
      simp [-wIfS_ap]
      rw [dEq_back]
      simp [-wIfS_ap]
      by_cases hb : x = .back name num
      · rw [if_pos hb, k3]
        rw [hcl, if_pos (.inr (hb ▸ hxm))] at hq
        exact hq
      rw [if_neg hb]
      refine wIfS_via (fun e2 st3 => e2 = [some (.tup (es.map En.d)), some (.str name), some (.int num), some (.str (perAt es name num)), some (.int (tilAt es name num)), some x.d, some (.ref p6), some (.ref p7), none, none] ∧
        st3 p6 = some (.dk (encK D.int (wordsAt (done ++ [x]) name num))) ∧ st3 p7 = some (.dk (encK D.bl (noesAt done name num))) ∧ st3.keepOnly st = st) ?_ ?_
      · intro N2 hN2
        simp [En.d, dEq_kni]
        rw [words_snoc] at hN2
        by_cases h : x.kind = "got" ∧ x.name = name ∧ x.i2 = num
        · have eg := ixD_got3 (st := st2) h.1
          simp only [En.d, ixD_tup] at eg
          have hx4 : 1 ≤ x.i4 := by
            have h1 := hok x hxm
            have h2 := h.1
            cases x <;> simp [En.kind] at h2
            exact h1.2.2.2.2
          rw [if_pos h, dctOf_dk k1, on_some, eg.1, on_some, dctGet_enc k1, on_some, eg.2, on_some]
          have egd : ((getI (wordsAt done name num) x.i3).map D.int).getD (D.int 0) = D.int ((getI (wordsAt done name num) x.i3).getD 0) := by cases getI (wordsAt done name num) x.i3 <;> rfl
          rw [egd, dLt_int, on_some, bOf_bl, on_some]
          rw [if_pos h] at hN2
          unfold wStep at hN2
          by_cases hlt : (getI (wordsAt done name num) x.i3).getD 0 < x.i4
          · rw [if_pos hlt] at hN2
            rw [decide_eq_true hlt, if_pos rfl, on_some, on_some, putD_enc k1 (by rw [sizeLine_eq]; omega), on_some]
            exact hN2 _ _ ⟨by simp [En.d], Sto.set_same, by rw [Sto.set_ne (Ne.symm ne)]; exact k2, by rw [Sto.keepOnly_new hp6, k3]⟩
          · rw [if_neg hlt] at hN2
            rw [decide_eq_false hlt, if_neg (by decide)]
            cases e3 : getI (wordsAt done name num) x.i3 with
            | none => rw [e3] at hlt; exact absurd (show (0 : Int) < x.i4 by omega) hlt
            | some v =>
              rw [e3] at hN2
              have := putI_self (words_nodup done name num) e3
              simp only [Option.getD_some] at hN2
              rw [this] at hN2
              exact hN2 _ _ ⟨by simp [En.d], k1, k2, k3⟩
        · rw [if_neg h]
          rw [if_neg h] at hN2
          exact hN2 _ _ ⟨by simp [En.d], k1, k2, k3⟩
      · rintro e2 st3 ⟨rfl, q1, q2, q3⟩
        simp
        rw [En.d, slD_tup, on_some]
        simp [dEq_kni]
        have hnb2 : ¬ En.back name num ∈ done ++ [x] := by
          intro z
          rcases List.mem_append.mp z with z | z
          · exact hnb z
          · exact hb (List.mem_singleton.mp z).symm
        have hN : ∀ st4, st4 p6 = some (.dk (encK D.int (wordsAt (done ++ [x]) name num))) → st4 p7 = some (.dk (encK D.bl (noesAt (done ++ [x]) name num))) → st4.keepOnly st = st → N [some (D.tup (List.map En.d es)), some (D.str name), some (D.int num), some (D.str (perAt es name num)), some (D.int (tilAt es name num)), none, some (D.ref p6), some (D.ref p7), none, none] st4 :=
          fun st4 a b c => hN _ _ ⟨done ++ [x], by rw [h1]; simp, hnb2, rfl, a, b, c⟩
        rw [noes_snoc] at hN
        by_cases h : x.kind = "no" ∧ x.name = name ∧ x.i2 = num
        · have eg := ixD_no3 (st := st2) h.1
          simp only [En.d, ixD_tup] at eg
          rw [if_pos h] at hN
          rw [if_pos h, eg, on_some, putD_enc q2 (by rw [sizeLine_eq]; omega), on_some]
          exact hN _ (by rw [Sto.set_ne ne]; exact q1) Sto.set_same (by rw [Sto.keepOnly_new hp7', q3])
        · rw [if_neg h] at hN
          rw [if_neg h]
          exact hN _ q1 q2 q3
  · rintro x rest e' _ N ⟨rfl, done, h1, rfl⟩ hN
    have key : ∀ e2, e2 = [some (.tup (es.map En.d)), some (.str name), some (.int (greatest (done ++ [x]) name)), some (.str (perAt (done ++ [x]) name (greatest (done ++ [x]) name))), some (.int (tilAt (done ++ [x]) name (greatest (done ++ [x]) name))), none, none, none, none, none] → N e2 st := fun e2 he => hN _ _ ⟨rfl, done ++ [x], by rw [h1]; simp, he⟩
    simp [-wIfS_ap]
    refine wIfS_via (fun e2 st2 => st = st2 ∧ e2 = [some (.tup (es.map En.d)), some (.str name), some (.int (greatest (done ++ [x]) name)), some (.str (perAt done name (greatest done name))), some (.int (tilU done x name)), some x.d, none, none, none, none]) ?_ ?_
    · intro N2 hN2
      simp [En.d, dEq_kn]
      rw [greatest_snoc] at hN2
      unfold tilU at hN2
      by_cases h : x.kind = "ask" ∧ x.name = name
      · by_cases h2 : greatest done name < x.i2
        · simp [h, h2]
          exact hN2 _ _ ⟨rfl, by simp [h, h2, En.d]⟩
        · simp [h, h2]
          exact hN2 _ _ ⟨rfl, by simp [h, h2, En.d]⟩
      · have h' : ∀ p : Prop, ¬ (x.kind = "ask" ∧ x.name = name ∧ p) := fun p z => h ⟨z.1, z.2.1⟩
        simp [h]
        exact hN2 _ _ ⟨rfl, by simp [h', En.d]⟩
    · rintro e2 _ ⟨rfl, rfl⟩
      simp
      rw [En.d, slD_tup, on_some]
      simp [dEq_kni]
      rw [per_snoc, til_snoc] at key
      generalize greatest (done ++ [x]) name = g at *
      by_cases h : x.kind = "ask" ∧ x.name = name ∧ x.i2 = g
      · have ea := ixD_ask3 (st := st) h.1
        rw [En.d] at ea
        simp only [h, ixD_tup] at ea
        simp [h, ea]
        exact key _ (by simp [h])
      · simp [h]
        exact key _ (by simp [h])
end
section
variable {st : Sto} {X : PoX} {Q : PoE} {n m b house now s k u : Int} {es : List En} {name per : Str}
theorem ap_law_reach_inK (hok : ∀ e ∈ es, e.ok b) (hl : es.length ≤ 5000) (hm : 0 ≤ m) (hm1 : m ≤ 1000) (hq : Q (.int (reachIn m es name)) st) : F__law_reach_inK [.int m, .tup (es.map En.d), .str name] st X Q := by
  simp only [F__law_reach_inK, wDef_ap]
  refine ⟨rfl, ?_⟩
  simp
  refine ap_law_claimK hok hl ?_
  unfold reachIn at hq
  cases hc : claimOf es name with
  | none =>
    rw [hc] at hq
    simp [clDK]
    exact hq
  | some c =>
    rw [hc] at hq
    obtain ⟨cp, cl⟩ := claim_words hok hc
    simp [clDK, Cl.dK]
    refine compL_imp (enc := DL.pairD) (fun q => [some (.int m), some (.tup (es.map En.d)), some (.str name), some (.tup [.int c.num, .str c.per, .int c.til, .kt (c.words.map DL.pairD), .tup (c.others.map .int)]), some (.int q.1), some (.int q.2)]) (fun q => true) (fun q => D.int q.2) ?_ ?_ ?_ trivial ?_
    · simp [DL.pairD]
    · intro q _ Q hq
      simpa using hq
    · simp
    · have e : ([] : List D) ++ (c.words.filter fun _ => true).map (fun q => D.int q.2) = (c.words.map (·.2)).map .int := by
        rw [List.filter_eq_self.mpr (fun _ _ => rfl), List.nil_append, List.map_map]; rfl
      rw [e]
      refine ap__law_reach (ns := c.words.map (·.2)) rfl (fun x hx => ?_) hm hm1 (by rw [List.length_map]; omega) ?_
      · obtain ⟨q, hq, rfl⟩ := List.mem_map.mp hx
        have := cp q hq
        omega
      · simpa using hq
theorem putI_new {kvs : List (Int × Int)} {k v : Int} (h : k ∉ kvs.map (·.1)) : putI kvs k v = kvs ++ [(k, v)] := by
  unfold putI
  rw [if_neg]
  intro z
  obtain ⟨q, hq, e⟩ := List.any_eq_true.mp z
  exact h (List.mem_map.mpr ⟨q, hq, by simpa using e⟩)
theorem fold_put : ∀ {l acc : List (Int × Int)}, ((acc ++ l).map (·.1)).Nodup → l.foldl (fun acc q => putI acc q.1 q.2) acc = acc ++ l
  | [], acc, _ => by simp
  | q :: l, acc, h => by
    have h1 : q.1 ∉ acc.map (·.1) := by
      intro z
      rw [List.map_append, List.nodup_append] at h
      exact h.2.2 _ z q.1 (by simp) rfl
    rw [List.foldl_cons, putI_new h1]
    have e : acc ++ [(q.1, q.2)] ++ l = acc ++ q :: l := by simp
    have := fold_put (l := l) (acc := acc ++ [(q.1, q.2)]) (by rw [e]; exact h)
    rw [this, e]
theorem claim_nodup {c : Cl} (hc : claimOf es name = some c) : (c.words.map (·.1)).Nodup := by
  unfold claimOf at hc
  simp only at hc
  split at hc <;> cases hc
  show ((sortP _).map (·.1)).Nodup
  exact ((sortP_perm _).map (·.1)).nodup_iff.mpr (words_nodup es name _)
theorem get_words {ws : List (Int × Int)} (nd : (ws.map (·.1)).Nodup) (hu : 1 ≤ u) : u ≤ (getI ws s).getD 0 ↔ (ws.filter fun q => decide (q.1 = s ∧ q.2 ≥ u)) ≠ [] := by
  constructor
  · intro h
    cases e : getI ws s with
    | none => rw [e] at h; simp at h; omega
    | some v =>
      rw [e] at h
      exact List.ne_nil_of_mem (List.mem_filter.mpr ⟨getI_mem e, by simpa using h⟩)
  · intro h
    obtain ⟨q, hq⟩ := List.exists_mem_of_ne_nil _ h
    obtain ⟨h1, h2⟩ := List.mem_filter.mp hq
    simp at h2
    obtain ⟨q1, q2⟩ := q
    obtain ⟨rfl, h3⟩ := h2
    rw [getI_of_mem nd h1]
    exact h3
theorem claim_got {c : Cl} (hc : claimOf es name = some c) : ∃ c', claimOf (es ++ [.got name k s u]) name = some c' ∧ c'.num = c.num ∧ c'.per = c.per := by
  have h1 : greatest (es ++ [.got name k s u]) name = greatest es name := by rw [greatest_snoc, if_neg (by simp [En.kind])]
  have h2 : ∀ n, ats (es ++ [.got name k s u]) "ask" name n = ats es "ask" name n := fun n => by rw [ats_snoc, if_neg (by simp [En.kind])]
  unfold claimOf at hc ⊢
  simp only [h1, h2] at hc ⊢
  split at hc
  · cases hc
  · rename_i h3
    cases hc
    rw [if_neg (by
      rintro (z | z)
      · exact h3 (.inl z)
      · exact h3 (.inr (by simpa using z)))]
    exact ⟨_, rfl, rfl, rfl⟩
theorem pairs_words {ws : List (Int × Int)} : pairsL (ws.map DL.pairD) = some (encK D.int ws) := pairsL_enc (f := D.int) (kvs := ws)
theorem merge_words {ws : List (Int × Int)} (nd : (ws.map (·.1)).Nodup) : mergeD [] (encK D.int ws) = encK D.int ws := by
  rw [show ([] : List (L2.Key × D)) = encK D.int [] from rfl, mergeD_enc, fold_put (by simpa using nd)]
  simp
theorem ap_law_gotK {t : Int} (hok : ∀ e ∈ es, e.ok b) (hle : (En.got name k s u).ok b) (hl : es.length ≤ 4000) (hm : 0 ≤ m) (hm1 : m ≤ 1000) (hn : 0 ≤ now) (hq : Q (wordTaken m house es s name k u now).d st) :
    F__law_gotK [.int m, .int house, .tup (es.map En.d), (Le.word s t name k u).d, .int now] st X Q := by
  simp only [F__law_gotK, wDef_ap]
  refine ⟨rfl, ?_⟩
  unfold wordTaken at hq
  simp [Le.d, cutD_from]
  refine ap_law_claimK hok (by omega) ?_
  cases hc : claimOf es name with
  | none =>
    rw [hc] at hq
    simpa [clDK, Tk.d, Le.d, ntD] using hq
  | some c =>
    rw [hc] at hq
    dsimp only at hq
    simp [clDK, Cl.dK]
    by_cases h1 : c.num = k
    · rw [if_neg (fun z => z h1)] at hq
      simp [h1]
      rw [pairs_words, on_some, merge_words (claim_nodup hc)]
      intro p hp
      have hu : 1 ≤ u := hle.2.2.2.2
      rw [dctOf_dk Sto.set_same, on_some, dctGet_enc Sto.set_same, on_some]
      have egd : ((getI c.words s).map D.int).getD (D.int 0) = D.int ((getI c.words s).getD 0) := by cases getI c.words s <;> rfl
      rw [egd, dGe_int, on_some, bOf_bl, on_some]
      have key := get_words (s := s) (claim_nodup hc) hu
      have kk : (st.set p (.dk (encK D.int c.words))).keepOnly st = st := by rw [Sto.keepOnly_new hp, Sto.keepOnly_self]
      generalize st.set p (.dk (encK D.int c.words)) = st1 at *
      by_cases h2 : u ≤ (getI c.words s).getD 0
      · rw [if_pos (key.mp h2)] at hq
        rw [decide_eq_true h2, if_pos rfl, kk]
        simpa [Tk.d, ntD] using hq
      · rw [if_neg (fun z => h2 (key.mpr z))] at hq
        rw [decide_eq_false h2, if_neg (by decide)]
        have hmo : ∀ e ∈ [En.got name k s u], e.ok b := by simpa using hle
        have lcat : (es ++ [En.got name k s u]).length ≤ 5000 := by rw [List.length_append, List.length_singleton]; omega
        refine ap_law_reach_inK hok (by omega) hm hm1 ?_
        show on (dAdd st1 (.tup (es.map En.d)) (.tup ([En.got name k s u].map En.d))) _
        rw [dAdd_en (by rw [List.length_singleton]; omega), on_some]
        refine ap_law_reach_inK (ok_app hok hmo) lcat hm hm1 ?_
        unfold newsOf at hq
        obtain ⟨c', hc', e1, e2⟩ := claim_got (k := k) (s := s) (u := u) hc
        rw [hc'] at hq
        generalize reachIn m (es ++ [En.got name k s u]) name = r1 at *
        generalize reachIn m es name = r0 at *
        simp only [dGt_int, on_some, bOf_bl, decide_eq_true_iff]
        by_cases h3 : r0 < r1
        · rw [if_pos h3]
          by_cases h4 : now < r1
          · rw [if_pos h4]
            rw [if_neg (by omega)] at hq
            refine ap_law_told_by hm hm1 ?_
            rw [kk]
            dsimp only at hq
            rw [e1, e2, h1] at hq
            exact hq
          · rw [if_neg h4, kk]
            rw [if_pos (by omega)] at hq
            exact hq
        · rw [if_neg h3, kk]
          rw [if_pos (by omega)] at hq
          exact hq
    · rw [if_pos h1] at hq
      simp [h1]
      simpa [Tk.d, Le.d, ntD] using hq
theorem ap_law_takenK {l : Le} (hok : ∀ e ∈ es, e.ok b) (hle : l.ok b) (hl : es.length ≤ 4000) (hm : 0 ≤ m) (hm1 : m ≤ 1000) (hn : 0 ≤ now) (hq : Q (taken m house es l now).d st) :
    F__law_takenK [.int m, .int house, .tup (es.map En.d), l.d, .int now] st X Q := by
  simp only [F__law_takenK, wDef_ap]
  refine ⟨rfl, ?_⟩
  cases l with
  | ask s t n k p u =>
    rw [show (Le.ask s t n k p u).d = .tup [.str (Str.ofString "ask"), .int s, .int t, .str n, .int k, .str p, .int u] from rfl]
    simp
    rw [show D.tup [.str (Str.ofString "ask"), .int s, .int t, .str n, .int k, .str p, .int u] = (Le.ask s t n k p u).d from rfl]
    refine ap_law_ask (by omega) ?_
    simpa [taken] using hq
  | word s t n k u =>
    rw [show (Le.word s t n k u).d = .tup [.str (Str.ofString "word"), .int s, .int t, .str n, .int k, .int u] from rfl]
    simp [ofString_inj]
    rw [show D.tup [.str (Str.ofString "word"), .int s, .int t, .str n, .int k, .int u] = (Le.word s t n k u).d from rfl]
    refine ap_law_gotK hok hle hl hm hm1 hn ?_
    simpa [taken] using hq
  | no s t n k =>
    simp [Le.d, ofString_inj, cutD_mid]
    refine ap_law_claimK hok (by omega) ?_
    refine ap_law_word (by omega) ?_
    simp [ofString_inj]
    have hq : Q (Tk.d ⟨noTaken es s n k, [], none⟩) st := hq
    unfold noTaken at hq
    cases hc : claimOf es n with
    | none =>
      rw [hc] at hq
      simpa [clDK, Tk.d, ntD] using hq
    | some c =>
      rw [hc] at hq
      dsimp only at hq
      simp [clDK, Cl.dK]
      by_cases h1 : c.num = k
      · simp [h1]
        by_cases h2 : s ∈ c.others
        · simp [h2]
          simpa [h1, h2, Tk.d, ntD] using hq
        · simp [h2]
          rw [pairs_words, on_some, merge_words (claim_nodup hc)]
          intro p hp
          rw [dNotIn_dk Sto.set_same, on_some, bOf_bl, on_some]
          have kk : (st.set p (.dk (encK D.int c.words))).keepOnly st = st := by rw [Sto.keepOnly_new hp, Sto.keepOnly_self]
          rw [kk]
          by_cases h3 : s ∈ c.words.map (·.1)
          · rw [if_pos (.inr (.inr h3))] at hq
            rw [decide_eq_true h3]
            simpa [Tk.d, ntD] using hq
          · rw [if_neg (fun z => z.elim (fun z => z h1) fun z => z.elim h2 h3)] at hq
            rw [decide_eq_false h3]
            simpa [Tk.d, ntD, En.d, En.kind, En.name, En.i2, En.tl] using hq
      · simp [h1]
        rw [if_pos (.inl h1)] at hq
        simpa [Tk.d, ntD] using hq
  | back s t n k =>
    simp [Le.d, ofString_inj, cutD_mid]
    refine ap_law_claimK hok (by omega) ?_
    refine ap_law_word (by omega) ?_
    simp [ofString_inj]
    have hq : Q (Tk.d ⟨backTaken es s n k, [], none⟩) st := hq
    unfold backTaken at hq
    cases hw : wordIn es n with
    | none =>
      rw [hw] at hq
      simpa [wdD, Tk.d, ntD] using hq
    | some w =>
      obtain ⟨h', k', u'⟩ := w
      rw [hw] at hq
      simp [wdD, cutD_to]
      rw [dEq_t (x := .tup [.int h', .int k']) (y := .tup [.int s, .int k]) [.i h', .i k'] [.i s, .i k] rfl rfl]
      by_cases h3 : h' = s ∧ k' = k
      · simp [h3]
        simpa [h3, Tk.d, ntD, En.d, En.kind, En.name, En.i2, En.tl] using hq
      · have e : (decide (h' = s) && decide (k' = k)) = false := by simpa using h3
        simp [e]
        simpa [h3, Tk.d, ntD] using hq
  | told s t n k p u =>
    simp [Le.d, ofString_inj, cutD_mid]
    refine ap_law_claimK hok (by omega) ?_
    refine ap_law_word (by omega) ?_
    simp [ofString_inj]
    simpa [taken, Tk.d, ntD, Nt.d] using hq
end
end DL
namespace DL
open PySem PySem.Spec PyProof.Rows L2

/-! ### {k: v, ..} -/
def pairUp : List V → List (V × V)
  | x :: y :: r => (x, y) :: pairUp r
  | _ => []
def pairUpD : List D → Option (List (L2.Key × D))
  | [] => some []
  | k :: v :: r => (keyOf k).bind fun k => (pairUpD r).map ((k, v) :: ·)
  | _ => none
theorem pairUp_rep {K : PySem.W.Frag} {H : Hp} {M : Mu} : ∀ {ds : List D} {vs : List V} {kvs : List (L2.Key × D)}, pairUpD ds = some kvs → RepL K H M ds vs →
    ∃ ws : List (L2.Key × V), pairUp vs = ws.map (fun kv => (kV kv.1, kv.2)) ∧ ws.map (·.1) = kvs.map (·.1) ∧ RepL K H M (kvs.map (·.2)) (ws.map (·.2))
  | [], _, _, h, .nil => by cases h; exact ⟨[], rfl, rfl, .nil⟩
  | [_], _, _, h, _ => by cases h
  | k :: v :: r, _, kvs, h, .cons r1 (.cons r2 t) => by
    unfold pairUpD at h
    obtain ⟨key, h1, h2⟩ := Option.bind_eq_some_iff.mp h
    obtain ⟨kvs', h3, rfl⟩ := Option.map_eq_some_iff.mp h2
    obtain ⟨ws, h5, h6, h7⟩ := pairUp_rep h3 t
    have := key_of_ r1 h1
    subst this
    exact ⟨(key, _) :: ws, by rw [List.map_cons, ← h5]; rfl, by rw [List.map_cons, List.map_cons, h6], .cons r2 h7⟩
def wDisp (m : WA) : WE := fun e st X Q => ∀ p, st p = none → m e (st.set p (.dk [])) X fun ds st1 => st1 p = some (.dk []) ∧ on (pairUpD ds) fun kvs => kvs.length ≤ 15 ∧ Q (.ref p) (st1.set p (.dk (mergeD [] kvs)))
@[simp] theorem wDisp_ap {m : WA} {e : Env} {st : Sto} {X : PoX} {Q : PoE} : wDisp m e st X Q = ∀ p, st p = none → m e (st.set p (.dk [])) X fun ds st1 => st1 p = some (.dk []) ∧ on (pairUpD ds) fun kvs => kvs.length ≤ 15 ∧ Q (.ref p) (st1.set p (.dk (mergeD [] kvs))) := id rfl
def tPn (K : PySem.W.Frag) (mg : Str → Option Value) (E : XK) (m : WA) (σ : L2.St) (H : Hp) (Q : List (V × V) → Hp → Prop) : Prop := ∃ B e st Qd Xd, Sit K B e st σ H ∧
  (∀ ds st' vs H', Qd ds st' → Ext H (mu st B) H' (mu st' B) → StoOk K H' B st' → RepL K H' (mu st' B) ds vs → Q (pairUp vs) H') ∧ PostX K mg B H st Xd E ∧ m e st Xd Qd
def PPw (X : Cx) (E : XK) (pos : Pos) (keys : List (Option Expr)) (values : List Expr) (m : WA) : Prop := ∃ trs, PPs X pos keys values trs ∧ ∀ σ H Q, tPn X.K X.mg E m σ H Q → tPairs trs σ H Q
section
variable {X : Cx} {E : XK} {pos p apos cpos : Pos} {k v o : Expr} {mk mv mo : WE} {r : WA} {ks : List (Option Expr)} {vs : List Expr}
theorem pp_nil : PPw X E pos [] [] wNil := ⟨[], pps_nil, fun σ H Q ⟨B, e, st, Qd, Xd, S, pq, px, m⟩ => pq [] st [] H m .refl S.sto .nil⟩
theorem pp_cons (hk : PEw X E k mk) (hv : PEw X E v mv) (hr : PPw X E pos ks vs r) : PPw X E pos (some k :: ks) (v :: vs) (wCons mk (wCons mv r)) := by
  obtain ⟨trs, h1, h2⟩ := hr
  exact ⟨_, pps_cons hk hv h1, fun σ H Q ⟨B, e, st, Qd, Xd, S, pq, px, m⟩ => ⟨B, e, st, _, Xd, S, fun x st1 vx H1 m1 x1 k1 r1 => ⟨B, e, st1, _, Xd, S.on x1 k1, fun y st2 vy H2 m2 x2 k2 r2 =>
    h2 _ _ _ ⟨B, e, st2, _, Xd, (S.on x1 k1).on x2 k2, fun ds st3 us H3 m3 x3 k3 r3 => pq (x :: y :: ds) st3 (vx :: vy :: us) H3 m3 ((x1.trans x2).trans x3) k3 (.cons (r1.ext (x2.trans x3)) (.cons (r2.ext x3) r3)), (px.on x1).on x2, m2⟩, px.on x1, m1⟩, px, m⟩⟩
theorem e_disp (h : PPw X E pos ks vs r) (hall : ks.all (·.isSome) = true := by rfl) (hl : ks.length = vs.length := by rfl) (h0 : ks ≠ [] := by exact fun z => nomatch z) (h15 : ks.length ≤ 15 := by decide) : PEw X E (.Dict ks vs pos) (wDisp r) := by
  obtain ⟨trs, h1, h2⟩ := h
  refine pe_imp (pe_disp h1 hall hl h0 h15) fun σ H Q ⟨B, e, st, Qd, Xd, S, pq, px, m⟩ p hp => ?_
  obtain ⟨k2, x2⟩ := S.sto.put (c := .dk []) (o := .dK []) hp ⟨rfl, .nil⟩
  refine h2 _ _ _ ⟨B, e, st.set p (.dk []), _, Xd, S.on x2 k2, fun ds st1 us H1 m1 x1 k1 r1 => ?_, px.on x2, m p (S.sto.none_ hp)⟩
  obtain ⟨c1, c2⟩ := m1
  obtain ⟨kvs, hk, hz, q⟩ := on_iff.mp c2
  obtain ⟨oo, e1, rr⟩ := k1.at_ _ _ c1
  cases oo <;> try exact rr.elim
  rename_i ws0
  have : ws0 = [] := by
    have := congrArg List.length rr.1
    simpa using this
  subst this
  obtain ⟨ws, h5, h6, h7⟩ := pairUp_rep hk r1
  refine ⟨e1, ws, h5, ?_, ?_⟩
  · have := congrArg List.length h6
    simp only [List.length_map] at this
    omega
  obtain ⟨g1, g2⟩ := mergeD_rep (kvs := []) (ws := []) h6 h7 rfl .nil
  obtain ⟨k3, x3⟩ := k1.write (c := .dk (mergeD [] kvs)) (o := .dK (mergeK [] ws)) c1 ⟨g1, g2⟩
  exact pq _ _ _ _ q ((x2.trans x1).trans x3) k3 (.ref p)

/-! ### list(d.values()) -/
def valuesO (p d : Addr) : HO := .ext fun h => h.IsValuesView p d
theorem valuesO_ok {P : Program} {w : World} {H : Hp} {h : Heap} {p d : Addr} (e : h.get? p = some { cls := .type "dict_values", data := .fields #[.ref d] }) : ObjOk P w H h p (valuesO p d) :=
  ⟨⟨_, e, rfl, rfl⟩, ⟨_, e⟩, fun h1 h2 ⟨o, ho, r⟩ k => ⟨o, k o ho, r⟩⟩
def rValuesK : V → List V → Hp → VK → Prop := fun x xs H Q => ∃ (a : Addr) (kvs : List (L2.Key × V)), x = .ref a ∧ xs = [] ∧ H a = some (.dK kvs) ∧ ∀ p, H p = none → Q (.ref p) (upd H p (valuesO p a))
theorem mt_valuesK : MtR X "dict.values" rValuesK := by
  intro pins s σ H x xs v us Q I rx rxs h
  obtain ⟨a, kvs, rfl, rfl, ha, q⟩ := h
  cases rx
  cases rxs
  obtain ⟨z, hd, ws, rel, dd⟩ := dk_of I.hok ha
  refine call_meetsIn PySem.F.slot_dict_values dd.typeIs PySem.F.entry_dict_values (PySem.F.args_dict_values_1 _) (meets_dict_values (mixKind X.prog X.w) a hd) ⟨⟨ws, dd⟩, ?_⟩
  exact ⟨.ref s.heap.objs.size, upd H s.heap.objs.size (valuesO s.heap.objs.size a), I.laid (t' := s.toks) (fun b u e => Heap.get?_push_of_some _ e) (Nat.le_refl _) (valuesO_ok (Heap.get?_push_size _ rfl)), rfl, q _ (I.hok.fresh (Nat.le_refl _))⟩
theorem kv_vals : ∀ {kvs : List (L2.Key × V)} {ws : List (L2.Key × Value)}, KV kvs ws → Vals (kvs.map (·.2)) (ws.map (·.2))
  | _, _, .nil => .nil
  | _, _, .cons h t => .cons h.2 (kv_vals t)
def rListVals : List V → Hp → VK → Prop := fun xs H Q => ∃ (p a : Addr) (kvs : List (L2.Key × V)), xs = [.ref p] ∧ H p = some (valuesO p a) ∧ H a = some (.dK kvs) ∧ ∀ l, H l = none → Q (.ref l) (upd H l (.lst (kvs.map (·.2))))
theorem call_listVals {X : Cx} (hcalm : X.calm = true) : CallR X (.type "list") rListVals := by
  intro pins s σ H xs us Q I r h
  obtain ⟨p, a, kvs, rfl, hp, ha, q⟩ := h
  obtain ⟨u, rfl, rx⟩ := vals1 r
  cases rx
  have view : s.heap.IsValuesView p a := (show ObjOk X.prog X.w H s.heap p (valuesO p a) from I.hok p _ hp).1
  obtain ⟨z, lo, ws, rel, dd⟩ := dk_of I.hok ha
  obtain ⟨ep, hat⟩ := dd.dictAt
  have hl := rel.length
  refine PySem.W.kdl_call (PySem.W.kdl_values (knd := mixKind X.prog X.w) (kvs := ws) (ep := ep)) (I.ok.hd hcalm) ⟨view, hat⟩ (by omega) fun h' tk acc' c' hk hD hacc => ?_
  have e := PySem.W.kdl_vals_eq (kvs := ws) acc'.toList (by rw [Array.length_toList]; exact hacc.1) fun j v e => hacc.2 j v (by rw [← Array.getElem?_toList]; exact e)
  have rv : Vals (kvs.map (·.2)) acc'.toList := by rw [e]; exact kv_vals rel
  exact ⟨.ref s.heap.objs.size, _, I.laid (t' := tk) (o := .lst (kvs.map (·.2))) hk (Nat.le_refl _) (show ObjOk X.prog X.w _ _ _ (.lst (kvs.map (·.2))) from ⟨by rw [List.length_map]; exact z, acc'.toList, c', rv, by simpa using hD⟩), rfl, q _ (I.hok.fresh (Nat.le_refl _))⟩
def valsOf (st : Sto) (d : D) : Option (List D) := match d with
  | .ref a => (cellKV (st a)).map fun kvs => kvs.map (·.2)
  | _ => none
def wListVals (m : WE) : WE := fun e st X Q => m e st X fun d st1 => on (valsOf st1 d) fun ds => ds.length ≤ sizeLine ∧ Q (.lst ds) st1
@[simp] theorem wListVals_ap {m : WE} {e : Env} {st : Sto} {X : PoX} {Q : PoE} : wListVals m e st X Q = m e st X fun d st1 => on (valsOf st1 d) fun ds => ds.length ≤ sizeLine ∧ Q (.lst ds) st1 := id rfl
theorem e_listVals (hc : X.calm = true) (fr : Frees X.mg) (ho : PEw X E o mo) (hg : Gl X "list" := by rfl)
    (hbase : attributeBase o "values" X.env (eval o X.env) = eval o X.env := by rfl) (hline : (apos.endLine == cpos.line) = true := by rfl)
    (he : starEach [.Call (.Attribute o "values" apos) [] [] cpos] X.env = (false, eval (.Call (.Attribute o "values" apos) [] [] cpos) X.env) :: starEach [] X.env := by rfl) :
    PEw X E (.Call (.Name "list" p) [.Call (.Attribute o "values" apos) [] [] cpos] [] pos) (wListVals mo) :=
  pe_imp (pe_callTy (call_listVals hc) hg fr.list (by decide +kernel) (pa_cons (pe_bm0 PySem.F.plainAttrs_dict PySem.F.slot_dict_values PySem.F.type_dict_values mt_valuesK ho hbase hline) pa_nil) (by decide) (by decide) he rfl)
    fun σ H Q ⟨B, e, st, Qd, Xd, S, pq, px, mm⟩ => ⟨B, e, st, _, Xd, S, fun d st1 v H1 m1 x1 k1 r1 => by
      obtain ⟨ds, hk, hz, q⟩ := on_iff.mp m1
      unfold valsOf at hk
      split at hk
      · rename_i a
        obtain ⟨kvs, e1, rfl⟩ := Option.map_eq_some_iff.mp hk
        obtain ⟨oo, e3, r3⟩ := k1.at_ _ _ (cellKV_iff.mp e1)
        cases oo <;> try exact r3.elim
        rename_i ws
        cases r1
        refine ⟨.inr (.inr (.inl ⟨rfl, .inl ⟨_, e3⟩⟩)), a, ws, rfl, rfl, e3, fun pv hpv => ?_⟩
        have k2 := k1.new (o := valuesO pv a) hpv
        have x2 : Ext H1 (mu st1 B) (upd H1 pv (valuesO pv a)) (mu st1 B) := ext_new hpv
        have ea : (upd H1 pv (valuesO pv a)) a = some (.dK ws) := by rw [upd_ne (ne_of_none e3 hpv)]; exact e3
        refine ⟨pv, a, ws, rfl, upd_same, ea, fun l hl => ?_⟩
        obtain ⟨x3, k3, r4⟩ := new_lst k2 hl (r3.2.ext x2) hz
        exact pq _ st1 _ _ q ((x1.trans x2).trans x3) k3 r4
      · (cases hk), px, mm⟩
end
end DL
/-! DL24: exceptions: raise, try .. except, isinstance of what was caught. -/
namespace DL
open PySem PySem.Spec PyProof.Rows L2

/-! ### a caught exception stays known -/
theorem eo_ok {P : Program} {w : World} {H : Hp} {h : Heap} {a : Addr} {cls : Value} {oe : Obj} {vs : Array Value} (e : h.get? a = some oe) (z : Zc cls none oe) (d : oe.data = .fields vs) : ObjOk P w H h a (EO cls a) :=
  ⟨⟨oe, vs, e, z, d⟩, ⟨oe, e⟩, fun h1 h2 ⟨o, ws, e1, z1, d1⟩ k => ⟨o, ws, k o e1, z1, d1⟩⟩
section
variable {X : Cx} {pins : List (Addr × Obj)} {σ : L2.St} {H : Hp} {sI s' : Shared} {B : Heap}
theorem landedE {a : Addr} {o : HO} (I : Inv X pins σ H sI) (nb : ∀ b o, sI.heap.get? b = some o → b ∉ frs X.stack → B.get? b = some o) (st : B.StaysIn s'.heap) (up : sI.heap.UpToSlots s'.heap) (os : s'.os = sI.os) (ag : AllBare s'.gens)
    (hn : sI.heap.get? a = none) (na : H a = none) (new : ObjOk X.prog X.w (upd H a o) s'.heap a o) : Inv X pins σ (upd H a o) s' := by
  have at_ : ∀ b u, sI.heap.get? b = some u → upd H a o b = H b := fun b u e => upd_ne fun z => by rw [z, hn] at e; cases e
  have nf : ∀ b ∈ frs X.stack, ∀ u, sI.heap.get? b = some u → ∃ sl, s'.heap.get? b = some { u with slots := sl } := fun b hb u e => by
    obtain ⟨_, u', e', hd⟩ := I.stack.mem hb
    rw [e] at e'
    cases e'
    exact up b u e hd
  have J := I.call (ch := []) (h' := s'.heap) (g' := s'.gens) (t' := s'.toks) (d' := s'.drawn) (H' := upd H a o)
    { keep := fun b u e _ hb _ => st b u (nb b u e hb)
      slot := fun b u e _ hb _ => nf b hb u e
      free := fun b u e n _ => (at_ b u e).trans n
      there := fun b u e _ => by
        by_cases hb : b ∈ frs X.stack
        · obtain ⟨sl, q⟩ := nf b hb u e
          exact ⟨_, q⟩
        · exact ⟨u, st b u (nb b u e hb)⟩
      tups := fun b xs q => (upd_ne (ne_of_none q na)).trans q
      frzs := fun b u v q => (upd_ne (ne_of_none q na)).trans q
      tbls := fun b ps q => ⟨#[], by rw [upd_ne (ne_of_none q na), q]; simp⟩ }
    (HOk.laidN ((I.inGround nb).kept st) (fun _ _ e => e) na new) ag (fun _ z => nomatch z)
  obtain ⟨a1, a2, a3, a4, a5⟩ := s'
  have e5 : a5 = sI.os := os
  subst e5
  exact J
theorem toSuite (I : Inv X pins σ H s') (a : Addr) : Inv (X.suite a (X.pn ++ pins)) [] σ H s' :=
  ⟨I.ok.suite _ _, I.os, I.bare, I.base, I.loc, I.cell, I.free, I.freeC, fun p hp => I.pin p (by rw [List.append_nil] at hp; exact hp), I.hok, I.len⟩
theorem ofSuite {a : Addr} (I : Inv (X.suite a (X.pn ++ pins)) [] σ H s') (ok : X.Ok) : Inv X pins σ H s' :=
  ⟨ok, I.os, I.bare, I.base, I.loc, I.cell, I.free, I.freeC, fun p hp => I.pin p (List.mem_append_left _ hp), I.hok, I.len⟩
end
/-- the slot of the clause's name is empty again -/
def backN (i : Nat) (D : Ends) : Ends := { nx := fun σ H => D.nx (σ.set i none) H, rt := D.rt, bk := fun σ H => D.bk (σ.set i none) H, ct := fun σ H => D.ct (σ.set i none) H }
def wLay (K : PySem.W.Frag) (c : Value) (i : Nat) (ts : Value → TS) (Wout : WX) (D : Ends) : WX := fun cls d σ H =>
  d = none ∧ ∃ b, PySem.W.exmOne K cls c = some b ∧ (b = true → ∀ a, H a = none → ts cls (backN i D) (σ.set i (some (.ref a))) (upd H a (EO cls a))) ∧ (b = false → Wout cls d σ H)
section
variable {X : Cx} {x n : Str} {c : Value} {i : Nat} {body suite : List Stmt} {b₀ : Stmt} {np pos pos' : Pos} {tb : WX → TS} {ts : Value → TS} {Wout : WX}
theorem try_lay (hs : X.stack = X.env :: X.outer) (hf : X.env.frame = some X.env.locals) (hN : X.N.Nodup) (hi : X.N[i]? = some n) (hln : X.env.kindOf n = some .local) (hc : Names X x c) (tk : Takes X Wout)
    (hb : ∀ (W : WX) (pn : List (Addr × Obj)) (xe : Value → Shared → Prop), Takes (X.tr pn xe) W → PassesOwn (model X.prog X.w) X.A X.env xe → PSs (X.tr pn xe) body (tb W))
    (hsu : ∀ (a : Addr) (cls : Value) (pn : List (Addr × Obj)), PSs (X.suite a pn) (b₀ :: suite) (ts cls)) :
    PS X (.Try body [.ExceptHandler (some (.Name x np)) (some n) (b₀ :: suite) pos'] [] [] pos) (fun D σ H => tb (wLay X.K c i ts Wout D) D σ H) := by
  refine ⟨fun pins s σ H D I h => ?_⟩
  have ok := I.ok
  have hfr : X.A.frames = some (X.env :: X.outer) := ok.frames.trans (congrArg some hs)
  have hloc : Loc X.env.scope n := .inl hln
  refine wpAny_Try_except ?_
  refine wpAny_mono ((hb (wLay X.K c i ts Wout D) (X.pn ++ pins) _ (fun u s' xx => ?_) PassesOwn.looking).run [] s σ H D (I.toTry _) h) (fun f s1 hsp => ?_) (fun e s1 he => he)
  · obtain ⟨a, B, sI, pins', σ', H', cls, d, rfl, J', nb, up, sky, na, os, ag, rfl, b, hb1, hyes, hno⟩ := xx
    have J : Inv X pins σ' H' sI := J'.ofTry ok
    have sky' : Sky B (X.env :: X.outer) a (Zc cls none) X.env.locals s'.heap := hs ▸ sky
    refine Sky.land Zc.steady hfr hf sky' fun h3 fl3 up3 => ?_
    obtain ⟨oe3, vs3, he3, hz3, hd3⟩ := fl3.there
    have nfr : a ∉ frs (X.env :: X.outer) := fun hm => by
      obtain ⟨_, o', e', hnf⟩ := fl3.2.2.1.mem hm
      rw [he3] at e'
      cases e'
      exact hnf _ hd3
    have noI : sI.heap.get? a = none := by
      cases q : sI.heap.get? a with
      | none => rfl
      | some o =>
        have z := nb a o q (by rw [show X.stack = X.env :: X.outer from hs]; exact nfr)
        rw [fl3.2.1] at z
        cases z
    have J3 : Inv X pins σ' H' { s' with heap := h3 } := J.landed nb fl3.1 (up.trans up3) os ag
    have S3 := toSuite J3 a
    refine wpAny_handleBy_cons (codeAny_handlers_test ?_) (by intro q; cases q)
    have LT : PySem.W.Looks (model X.prog X.w) h3 (typeOf (.ref a)) cls := fun A Q E s k q => wpAny_typeOf_ref (k _ _ he3) (by rw [hz3.1]; exact q)
    have LM := PySem.W.exm_one (M := model X.prog X.w) (J3.kIn) LT hb1
    have test : ∀ {Q : Value → Shared → Prop} {E : Value → Shared → Prop}, Q c { s' with heap := h3 } → wpAny (model X.prog X.w) (X.A.mark (some (.ref a))) (eval (.Name x np) X.env) Q E { s' with heap := h3 } := fun {Q E} q => by
      obtain ⟨hg, hdbg, hm | ⟨hm, hv, hnn⟩⟩ := hc
      · exact ld_glob (X := X.suite a (X.pn ++ pins)) S3 hg hm q hdbg
      · exact ld_blt (X := X.suite a (X.pn ++ pins)) S3 hg hm hv q hnn hdbg
    refine test (LM.here ?_)
    cases b with
    | true =>
      refine codeAny_handlers_suite_as ?_
      refine HandSPX.lands_againZ fl3 fun h4 fl4 up4 => ?_
      obtain ⟨oe4, vs4, he4, hz4, hd4⟩ := fl4.there
      have J4 : Inv X pins σ' (upd H' a (EO cls a)) { s' with heap := h4 } := landedE J nb fl4.1 ((up.trans up3).trans up4) os ag noI na (eo_ok he4 hz4 hd4)
      refine store_ok (X := X.suite a (X.pn ++ pins)) (v := .ref a) (toSuite J4 a) hN hi hloc rfl (fun s5 S5 => ?_) (.inr hln)
      refine wpAny_mono ((hsu a cls (X.pn ++ pins)).run [] s5 _ _ _ S5 (hyes rfl a na)) (fun f s6 hsp => ?_) (fun _ _ z => False.elim z)
      have fin : ∀ {σ6 : L2.St} {H6 : Hp} {Q : Shared → Prop}, Inv (X.suite a (X.pn ++ pins)) [] σ6 H6 s6 → (∀ s7, Inv X pins (σ6.set i none) H6 s7 → Q s7) →
          wpAny (model X.prog X.w) X.A (do bindName X.env n .none; unbindBehindTheSuite X.env n pos') (fun _ s7 => Q s7) X.xe s6 := fun {σ6 H6 Q} S6 hq => gone_ok (ofSuite S6 ok) hN hi hln hq
      cases f with
      | ret u =>
        obtain ⟨v6, σ6, H6, S6, r6, q6⟩ := hsp
        exact fin S6 fun s7 J7 => ⟨_, _, _, J7, r6, q6⟩
      | _ =>
        obtain ⟨σ6, H6, S6, q6⟩ := hsp
        exact fin S6 fun s7 J7 => ⟨_, _, J7, q6⟩
    | false =>
      refine wpAny_handleBy_nil ?_
      obtain ⟨_, _, _, oe, vs, T, oT, ts', he, hz, hd, h1, _⟩ := id fl3
      unfold PySem.passOn
      refine wpAny_bind (wpAny_field he hd h1 ?_)
      rw [if_neg (show ¬ ((Value.ref T == Value.none) = true) from by simp)]
      have fin : wpAny (model X.prog X.w) X.A (setFlight (.ref a) X.env.frame) (fun _ s4 => wpAny (model X.prog X.w) X.A (throw (.ref a) : Sem Flow) (SP X pins D) X.xe s4) X.xe { s' with heap := h3 } := by
        rw [hf]
        refine HandSPX.setFlight_upZ fl3 fun h4 hh4 up4 => wpAny_throw (tk _ _ ?_)
        exact ⟨a, B, sI, pins, σ', H', cls, none, rfl, J, nb, (up.trans up3).trans up4, .inr (.inr (by rw [hs]; exact hh4)), na, os, ag, hno rfl⟩
      first
        | exact wpAny_bind (wpAny_pure (wpAny_bind fin))
        | exact wpAny_bind fin
  · cases f with
    | next =>
      obtain ⟨σ', H', J', q⟩ := hsp
      exact wpAny_execs_nil ⟨σ', H', J'.ofTry ok, q⟩
    | ret u =>
      obtain ⟨v, σ', H', J', r, q⟩ := hsp
      exact ⟨v, σ', H', J'.ofTry ok, r, q⟩
    | _ =>
      obtain ⟨σ', H', J', q⟩ := hsp
      exact ⟨σ', H', J'.ofTry ok, q⟩
end
end DL
/-! DL25: exceptions as functions of data: wRaise, wTryAs, wTryN, isinstance of what was caught. -/
namespace DL
open PySem PySem.Spec PyProof.Rows L2

/-! ### the program's classes of errors -/
/-- is y a class below x? y one of the program's own -/
structure ExnK (K : PySem.W.Frag) (y : Str) : Prop where
  ex : PySem.W.excIn K (He.ga K y) He.veBase "ValueError.__new__" = true
  kp : PySem.W.keepIn K (.ref (He.ga K y)) = true
  bs : PySem.W.subIn K (.ref (He.ga K y)) (.type "BaseException") = some true
  ty : PySem.W.typeIn K (.ref (He.ga K y)) = some (.type "type")
  cc : ExcC K (He.ga K y)
  kv : PySem.W.kitOne K (.ref (He.ga K y)) (.type "ValueError") = some true
  kn : PySem.W.kitOne K (.type "NoneType") (.ref (He.ga K y)) = some false
structure ExnOk (K : PySem.W.Frag) (mg : Str → Option Value) (ys : List Str) : Prop where
  gl : ∀ y ∈ ys, mg y = some (.ref (He.ga K y))
  at_ : ∀ y ∈ ys, ExnK K y
  ki : ∀ y ∈ ys, ∀ x ∈ ys, PySem.W.kitOne K (.ref (He.ga K y)) (.ref (He.ga K x)) = some (subE y x)
  em : ∀ y ∈ ys, ∀ x ∈ ys, PySem.W.exmOne K (.ref (He.ga K y)) (.ref (He.ga K x)) = some (subE y x)
theorem exn1_ok {K : PySem.W.Frag} {y : Str} (h : exn1 K y = true) : ExnK K y := by
  unfold exn1 at h
  simp only [Bool.and_eq_true, decide_eq_true_eq] at h
  obtain ⟨h1, h2, h3, h4, h5, h6, h7, h8, h9, h10, h11, h12, h13⟩ := h
  exact ⟨h1, h2, h3, h4, ⟨h5, h6, h3, h7, h8, h9, h10, h11⟩, h12, h13⟩
theorem exnB_ok {K : PySem.W.Frag} {h : Heap} {mg : Str → Option Value} {ys : List Str} (X : K.In h) (G : h.Ns mainGlobals mg) (hb : exnB ys K = true) : ExnOk K mg ys := by
  have at_ := fun y hy => Bool.and_eq_true_iff.mp (List.all_eq_true.mp hb y hy)
  have two := fun y hy x hx => Bool.and_eq_true_iff.mp (List.all_eq_true.mp (Bool.and_eq_true_iff.mp (at_ y hy).2).2 x hx)
  exact ⟨fun y hy => He.glo_ok X G (at_ y hy).1, fun y hy => exn1_ok (Bool.and_eq_true_iff.mp (at_ y hy).2).1, fun y hy x hx => of_decide_eq_true (two y hy x hx).1, fun y hy x hx => of_decide_eq_true (two y hy x hx).2⟩

/-! ### raise -/
def wRaise (x : Str) : WS := fun W _ st => W.ex x st
section
variable {X : Cx} {E : XK} {ys : List Str}
theorem s_raise {x m : Str} {j : Nat} {p p2 pos pos2 : Pos} (hE : ExnOk X.K X.mg ys) (ht : Takes X (fun c d _ H => E c d H)) (hc : X.calm = true) (hy : x ∈ ys := by decide) (hg : Gl X x := by rfl) (hd : (x == ("__debug__" : Str)) = false := by decide) :
    PSw X E (.Raise (some (.Call (.Name x p) [.Constant (.str m) j p2] [] pos)) none pos2) (wRaise x) :=
  ps_imp (ps_raise hc ht (pmk_own PySem.F.excBase_ValueError (hE.at_ x hy).ex (hE.gl x hy) (hE.at_ x hy).kp (raises_own (hE.at_ x hy).bs (hE.at_ x hy).ty) hg hd)) fun D σ H ⟨B, e, st, W, S, k, mm⟩ =>
    k.ex x st _ H mm (hE.gl x hy) .refl S.sto

/-! ### try -/
/-- a body of a try -/
def PTry (X : Cx) (body : List Stmt) (b : WS) : Prop := ∀ (W : WX) (pn : List (Addr × Obj)) (xe : Value → Shared → Prop), Takes (X.tr pn xe) W → PSs (X.tr pn xe) body fun D σ H => tS X.K X.mg (L2.WE W σ) b D σ H
theorem pass0 : Passes (CXp X.prog X.w) X E0 := fun _ _ _ _ _ _ _ c => by
  obtain ⟨_, _, _, _, _, _, _, _, _, _, _, _, z⟩ := c
  exact z.elim
/-- f(e, ..) in a try: the arguments let nothing out -/
def wFnT (F : WF) (m : WA) : WE := fun e st X Q => m e st XF fun ds st1 => F ds st1 X Q
theorem y_set (i : Nat) {x y : Str} {py p pos spos : Pos} {a : Expr} {es : List Expr} {n k j : Nat} {F : WF} {m : WA} (hN : X.N.Nodup) (G : Good X.prog X.w X.K X.mg X.base k x n F) (hr : Room j X.A) (ha : ∀ pn xe, PAw (X.tr pn xe) E0 (a :: es) n m)
    (hk : k ≤ j := by first | decide | exact Nat.le_refl _ | exact Nat.le_add_right_of_le (by decide)) (hg : Gl X x := by rfl) (hdb : (x == ("__debug__" : Str)) = false := by decide) (he : starEach (a :: es) X.env = (false, eval a X.env) :: starEach es X.env := by rfl) (hpl : (backTo pos (starEach es X.env)).any (·.1) = false := by rfl)
    (hi : X.N[i]? = some y := by rfl) (hx : Loc X.env.scope y := by first | exact Or.inl rfl | exact Or.inr rfl) (hs : swapsWith (.Call (.Name x p) (a :: es) [] pos) (some (.Name y py)) spos.line X.env = pure false := by rfl)
    (hf : X.fn y = true ∨ X.env.scope.names.lookup y = some .local := by first | exact .inl rfl | exact .inr rfl | assumption) : PTry X [.Assign [.Name y py] (.Call (.Name x p) (a :: es) [] pos) spos] (wSet i (wFnT F m)) := by
  obtain ⟨f, fd, ps, hm, hkp, hb, H⟩ := G
  intro W pn xe tk
  refine pss_imp (pss_one (ps_set (X := X.tr pn xe) hN hi hx (pe_callS (X := X.tr pn xe) (E := L2.WE W) H (hr.mono hk) hg hm hkp hb (fun σ => passAt tk σ) (ha pn xe) hdb he hpl) hs hf)) fun D σ H ⟨B, e, st, Wn, S, k, mm⟩ => ?_
  exact ⟨B, e, st, _, XF, S, fun ds st1 vs H1 m1 l1 x1 k1 r1 => ⟨B, ds, st1, _, _, by rw [r1.length, l1], k1, r1, fun d st2 v H2 n x2 k2 r2 => k.nx _ st2 _ H2 n ⟨(S.env.ext (x1.trans x2)).set i r2, k2⟩ (x1.trans x2), k.ex.on x1, m1⟩, noX, mm⟩
theorem y_drop {x : Str} {p pos spos : Pos} {a : Expr} {es : List Expr} {n k j : Nat} {F : WF} {m : WA} (G : Good X.prog X.w X.K X.mg X.base k x n F) (hr : Room j X.A) (ha : ∀ pn xe, PAw (X.tr pn xe) E0 (a :: es) n m)
    (hk : k ≤ j := by first | decide | exact Nat.le_refl _ | exact Nat.le_add_right_of_le (by decide)) (hg : Gl X x := by rfl) (hdb : (x == ("__debug__" : Str)) = false := by decide) (he : starEach (a :: es) X.env = (false, eval a X.env) :: starEach es X.env := by rfl) (hpl : (backTo pos (starEach es X.env)).any (·.1) = false := by rfl)
    (hs : swapsWith (.Call (.Name x p) (a :: es) [] pos) none spos.line X.env = pure false := by rfl) : PTry X [.Expr (.Call (.Name x p) (a :: es) [] pos) spos] (wDrop (wFnT F m)) := by
  obtain ⟨f, fd, ps, hm, hkp, hb, H⟩ := G
  intro W pn xe tk
  refine pss_imp (pss_one (ps_expr (X := X.tr pn xe) (pe_callS (X := X.tr pn xe) (E := L2.WE W) H (hr.mono hk) hg hm hkp hb (fun σ => passAt tk σ) (ha pn xe) hdb he hpl) hs)) fun D σ H ⟨B, e, st, Wn, S, k, mm⟩ => ?_
  exact ⟨B, e, st, _, XF, S, fun ds st1 vs H1 m1 l1 x1 k1 r1 => ⟨B, ds, st1, _, _, by rw [r1.length, l1], k1, r1, fun d st2 v H2 n x2 k2 r2 => k.nx e st2 σ H2 n (S.on (x1.trans x2) k2) (x1.trans x2), k.ex.on x1, m1⟩, noX, mm⟩
theorem EnvOk.clear {K : PySem.W.Frag} {H : Hp} {M : Mu} {e : DL.Env} {σ : L2.St} (h : EnvOk K H M e σ) (i : Nat) : EnvOk K H M (e.set i none) (σ.set i none) :=
  ⟨by rw [List.length_set, List.length_set, h.len], fun j d q => by
    by_cases z : j = i
    · subst z
      by_cases l : j < e.length
      · rw [List.getElem?_set_self l] at q
        cases q
      · rw [List.getElem?_eq_none (by simpa using l)] at q; cases q
    · rw [List.getElem?_set_ne (Ne.symm z)] at q
      rw [List.getElem?_set_ne (Ne.symm z)]
      exact h.at_ j d q⟩
/-- the suite's ends, its name's slot empty behind it -/
def atBack (i : Nat) (W : WEnds) : WEnds := { nx := fun e st => W.nx (e.set i none) st, rt := W.rt, ex := XF, bk := fun e st => W.bk (e.set i none) st, ct := fun e st => W.ct (e.set i none) st }
/-- try: b except cn as (slot i): m2; ys the classes of errors -/
def wTryAs (ys : List Str) (cn : Str) (i : Nat) (b m2 : WS) : WS := fun W e st =>
  b { W with ex := fun y st1 => y ∈ ys ∧ if subE y cn = true then m2 (atBack i W) (e.set i (some (.exc y))) st1 else W.ex y st1 } e st
theorem names_of {x : Str} (hE : ExnOk X.K X.mg ys) (hy : x ∈ ys) (hg : Gl X x) (hd : (x == ("__debug__" : Str)) = false) : Names X x (.ref (He.ga X.K x)) := ⟨hg, hd, .inl (hE.gl x hy)⟩
theorem s_tryAs (i : Nat) {cn n : Str} {body suite : List Stmt} {b₀ : Stmt} {np pos pos' : Pos} {b m2 : WS} (hN : X.N.Nodup) (hE : ExnOk X.K X.mg ys) (ht : Takes X (fun c d _ H => E c d H)) (hs : X.stack = X.env :: X.outer) (hf : X.env.frame = some X.env.locals)
    (hb : PTry X body b) (hsu : ∀ (a : Addr) (pn : List (Addr × Obj)), PBw (X.suite a pn) E0 (b₀ :: suite) m2)
    (hy : cn ∈ ys := by decide) (hg : Gl X cn := by rfl) (hd : (cn == ("__debug__" : Str)) = false := by decide) (hi : X.N[i]? = some n := by rfl) (hln : X.env.kindOf n = some .local := by rfl) :
    PSw X E (.Try body [.ExceptHandler (some (.Name cn np)) (some n) (b₀ :: suite) pos'] [] [] pos) (wTryAs ys cn i b m2) := by
  refine ps_imp (try_lay (ts := fun _ => tS X.K X.mg E0 m2) (tb := fun W D σ H => tS X.K X.mg (L2.WE W σ) b D σ H) (Wout := fun c d _ H => E c d H) hs hf hN hi hln (names_of hE hy hg hd) ht (fun W pn xe tk _ => hb W pn xe tk) fun a cls pn => hsu a pn) fun D σ H ⟨B, e, st, W, S, k, mm⟩ => ?_
  refine ⟨B, e, st, { W with ex := fun y st1 => y ∈ ys ∧ if subE y cn = true then m2 (atBack i W) (e.set i (some (.exc y))) st1 else W.ex y st1 }, S, ⟨k.nx, k.rt, fun y st1 c H1 m1 hm x1 k1 => ?_, k.bk, k.ct⟩, mm⟩
  obtain ⟨h1, h2⟩ := m1
  have hm2 := (hE.gl y h1).symm.trans hm
  cases hm2
  refine ⟨rfl, _, hE.em y h1 cn hy, fun hb1 a na => ?_, fun hb1 => ?_⟩
  · rw [if_pos hb1] at h2
    have k2 := k1.new (o := EO (.ref (He.ga X.K y)) a) na
    have x2 := ext_new (H := H1) (M := mu st1 B) (o := EO (.ref (He.ga X.K y)) a) na
    refine ⟨B, _, st1, _, ⟨((S.env.ext x1).ext x2).set i (.exc ⟨k1.fresh na, upd_same⟩), k2⟩, ⟨fun e' st' σ' H' n S' x => ?_, ?_, noX, fun e' st' σ' H' n S' x => ?_, fun e' st' σ' H' n S' x => ?_⟩, h2⟩
    · exact k.nx _ st' _ H' n ⟨S'.env.clear i, S'.sto⟩ ((x1.trans x2).trans x)
    · exact k.rt.on (x1.trans x2)
    · exact k.bk _ st' _ H' n ⟨S'.env.clear i, S'.sto⟩ ((x1.trans x2).trans x)
    · exact k.ct _ st' _ H' n ⟨S'.env.clear i, S'.sto⟩ ((x1.trans x2).trans x)
  · rw [if_neg (by rw [hb1]; exact Bool.false_ne_true)] at h2
    exact k.ex y st1 _ H1 h2 hm x1 k1
/-- except clauses without a name, one behind the other -/
def wHds (W : WEnds) (e : DL.Env) (y : Str) (st : Sto) : List (Str × WS) → Prop
  | [] => W.ex y st
  | (cn, m) :: r => if subE y cn = true then m { W with ex := XF } e st else wHds W e y st r
def wTryN (ys : List Str) (b : WS) (hs : List (Str × WS)) : WS := fun W e st => b { W with ex := fun y st1 => y ∈ ys ∧ wHds W e y st1 hs } e st
inductive PHds (X : Cx) (ys : List Str) : List ExceptHandler → List (Str × WS) → Prop
  | nil : PHds X ys [] []
  | cons {cn : Str} {m : WS} {b₀ : Stmt} {suite : List Stmt} {np pos' : Pos} {hds : List ExceptHandler} {l : List (Str × WS)} (hy : cn ∈ ys) (hg : Gl X cn) (hd : (cn == ("__debug__" : Str)) = false) (hsu : ∀ (a : Addr) (pn : List (Addr × Obj)), PBw (X.suite a pn) E0 (b₀ :: suite) m) (r : PHds X ys hds l) :
      PHds X ys (.ExceptHandler (some (.Name cn np)) none (b₀ :: suite) pos' :: hds) ((cn, m) :: l)
theorem h_nil : PHds X ys [] [] := .nil
theorem h_cons {cn : Str} {m : WS} {b₀ : Stmt} {suite : List Stmt} {np pos' : Pos} {hds : List ExceptHandler} {l : List (Str × WS)} (hsu : ∀ (a : Addr) (pn : List (Addr × Obj)), PBw (X.suite a pn) E0 (b₀ :: suite) m) (r : PHds X ys hds l) (hy : cn ∈ ys := by decide) (hg : Gl X cn := by rfl) (hd : (cn == ("__debug__" : Str)) = false := by decide) :
    PHds X ys (.ExceptHandler (some (.Name cn np)) none (b₀ :: suite) pos' :: hds) ((cn, m) :: l) := .cons hy hg hd hsu r
def tHds (K : PySem.W.Frag) (mg : Str → Option Value) (l : List (Str × WS)) : List (Value × (Addr → Value → Option Addr → TS)) := l.map fun q => (.ref (He.ga K q.1), fun _ _ _ => tS K mg E0 q.2)
theorem PHds.ok {hds : List ExceptHandler} {l : List (Str × WS)} (hE : ExnOk X.K X.mg ys) (h : PHds X ys hds l) : HdsOk X hds (tHds X.K X.mg l) := by
  induction h with
  | nil => exact .nil
  | cons hy hg hd hsu r ih => exact .cons (names_of hE hy hg hd) (fun a oe cls d pn hz hf => hsu a _) ih
theorem PHds.ins {hds : List ExceptHandler} {l : List (Str × WS)} (h : PHds X ys hds l) : ∀ q ∈ l, q.1 ∈ ys := by
  induction h with
  | nil => exact fun q hq => nomatch hq
  | cons hy _ _ _ _ ih => exact fun q hq => (List.mem_cons.mp hq).elim (fun z => z ▸ hy) (ih q)
theorem many_ok {K : PySem.W.Frag} {mg : Str → Option Value} {B : Bz} {e : DL.Env} {st : Sto} {σ : L2.St} {H : Hp} {W : WEnds} {D : Ends} {y : Str} (hE : ExnOk K mg ys) (hy : y ∈ ys) (S : Sit K B e st σ H) (k : EndsOk K mg E B H st W D) :
    ∀ {l : List (Str × WS)}, (∀ q ∈ l, q.1 ∈ ys) → wHds W e y st l → wMany K (fun c d _ H => E c d H) D (tHds K mg l) (.ref (He.ga K y)) none σ H
  | [], _, h => k.ex y st _ H h (hE.gl y hy) .refl S.sto
  | (cn, m) :: r, ins, h => ⟨_, hE.em y hy cn (ins _ List.mem_cons_self), fun hb1 a na => by
      have h2 : (if subE y cn = true then m { W with ex := XF } e st else wHds W e y st r) := h
      rw [if_pos hb1] at h2
      exact ⟨B, e, st, { W with ex := XF }, S, ⟨k.nx, k.rt, noX, k.bk, k.ct⟩, h2⟩, fun hb1 => by
      have h2 : (if subE y cn = true then m { W with ex := XF } e st else wHds W e y st r) := h
      rw [if_neg (by rw [hb1]; exact Bool.false_ne_true)] at h2
      exact many_ok hE hy S k (fun q hq => ins q (List.mem_cons_of_mem _ hq)) h2⟩
theorem s_tryN {body : List Stmt} {h₀ : ExceptHandler} {hds : List ExceptHandler} {l : List (Str × WS)} {pos : Pos} {b : WS} (hE : ExnOk X.K X.mg ys) (ht : Takes X (fun c d _ H => E c d H)) (hs : X.stack = X.env :: X.outer) (hf : X.env.frame = some X.env.locals)
    (hb : PTry X body b) (hh : PHds X ys (h₀ :: hds) l) : PSw X E (.Try body (h₀ :: hds) [] [] pos) (wTryN ys b l) := by
  refine ps_imp (ps_try_many (tb := fun W D σ H => tS X.K X.mg (L2.WE W σ) b D σ H) (Wout := fun c d _ H => E c d H) hs hf ht (fun W pn xe tk _ => hb W pn xe tk) (hh.ok hE)) fun D σ H ⟨B, e, st, W, S, k, mm⟩ => ?_
  refine ⟨B, e, st, { W with ex := fun y st1 => y ∈ ys ∧ wHds W e y st1 l }, S, ⟨k.nx, k.rt, fun y st1 c H1 m1 hm x1 k1 => ?_, k.bk, k.ct⟩, mm⟩
  obtain ⟨h1, h2⟩ := m1
  have hm2 := (hE.gl y h1).symm.trans hm
  cases hm2
  exact many_ok hE h1 (S.on x1 k1) (k.on x1) hh.ins h2
end

/-! ### isinstance of what was caught -/
def isE (ys : List Str) : D → D → Option Bool
  | .non, .cls x => if x ∈ ys then some false else none
  | .non, .ty n => if n = "ValueError" then some false else none
  | .exc y, .cls x => if y ∈ ys ∧ x ∈ ys then some (subE y x) else none
  | .exc y, .ty n => if y ∈ ys ∧ n = "ValueError" then some true else none
  | _, _ => none
def isEs (ys : List Str) (d : D) : List D → Option Bool
  | [] => some false
  | c :: r => match isE ys d c, isEs ys d r with
    | some b, some b' => some (b || b')
    | _, _ => none
def cIsX (ys : List Str) (_ : Sto) : List D → Option D
  | [d, .tup (c :: cs)] => (isEs ys d (c :: cs)).map .bl
  | [d, c] => (isE ys d c).map .bl
  | _ => none
def KX (K : PySem.W.Frag) (H : Hp) (x : V) (t : Value) : Prop := TyX K H x t ∨ ∃ (a C : Addr), x = .ref a ∧ H a = some (EO (.ref C) a) ∧ ExcC K C ∧ t = .ref C
def rIsX (K : PySem.W.Frag) : List V → Hp → VK → Prop := fun xs H Q => ∃ (x c : V) (t : Value) (b : Bool), xs = [x, c] ∧ KX K H x t ∧
  ((∃ u, ClsV c u ∧ PySem.W.kitOne K t u = some b) ∨ ∃ (tp : Addr) (cs : List V) (us : List Value), c = .ref tp ∧ H tp = some (.tup cs) ∧ Paired ClsV cs us ∧ PySem.W.kitAny K t us = some b) ∧ Q (.bl b) H
theorem kx_of {X : Cx} {pins : List (Addr × Obj)} {σ : L2.St} {H : Hp} {s : Shared} {x : V} {u t : Value} (I : Inv X pins σ H s) (rx : RelV x u) (ty : KX X.K H x t) : ∃ P : Heap → Prop, PySem.W.KitX X.K u t P ∧ P s.heap ∧ u ≠ .builtin "__main__.__loader__#opaque" := by
  rcases ty with ty | ⟨a, C, rfl, ha, hC, rfl⟩
  · exact kit_of I rx ty
  · cases (show u = Value.ref a from rx)
    obtain ⟨⟨oe, vs, hg, hz, hd⟩, _, _⟩ := (show ObjOk X.prog X.w H s.heap a (EO (.ref C) a) from I.hok a _ ha)
    refine ⟨_, PySem.W.handS_kitx_exc hC.hg hC.hk hC.hs hC.hd hC.ha hC.hn hC.ht hC.hm (x := a) (ox := oe), ?_, fun z => nomatch z⟩
    obtain ⟨oc, od, oda, osl⟩ := oe
    obtain ⟨h1, h2⟩ := hz
    dsimp only at h1 h2 hd
    subst h1 h2 hd
    exact ⟨hg, rfl, rfl, trivial⟩
theorem call_isX {X : Cx} : CallR X (.builtin "isinstance") (rIsX X.K) := by
  intro pins s σ H xs us Q I r h
  obtain ⟨x, c, t, b, rfl, ty, h1, q⟩ := h
  obtain ⟨u1, u2, rfl, r1, r2⟩ := vals2 r
  obtain ⟨P, Z, p, hx⟩ := kx_of I r1 ty
  rcases h1 with ⟨u, k, e⟩ | ⟨tp, cs, ws, rfl, hT, k, e⟩
  · have e2 := k.eq r2
    subst e2
    exact PySem.W.kia_one Z I.kIn p e hx fun tk => ⟨.bl b, H, I.tok tk, rfl, q⟩
  · cases (show u2 = Value.ref tp from r2)
    obtain ⟨_, its, rv, o, h1, h2, n, h3⟩ := (show ObjOk X.prog X.w H s.heap tp (.tup cs) from I.hok tp _ hT)
    have e3 := ClsV.all k rv
    subst e3
    obtain ⟨oc, od, dt, sl⟩ := o
    simp only at h2 h3
    subst h2 h3
    exact PySem.W.kia_tup Z I.kIn p h1 e hx fun tk => ⟨.bl b, H, I.tok tk, rfl, q⟩
section
variable {K : PySem.W.Frag} {mg : Str → Option Value} {ys : List Str} {H : Hp} {M : Mu}
/-- what d is, and each class asked of it -/
theorem isE_ok (hE : ExnOk K mg ys) {d : D} {x : V} (r : Rep K H M d x) {cs : List D} {vs : List V} (rc : RepL K H M cs vs) {b : Bool} (h : isEs ys d cs = some b) (hne : cs ≠ []) :
    ∃ (t : Value) (us : List Value), KX K H x t ∧ Paired ClsV vs us ∧ PySem.W.kitAny K t us = some b ∧ (∀ c u, vs = [c] → us = [u] → PySem.W.kitOne K t u = some b) := by
  have step : ∀ (t : Value) (P : D → Prop), (∀ {c : D} {v : V} {b1 : Bool}, isE ys d c = some b1 → Rep K H M c v → ∃ u, ClsV v u ∧ PySem.W.kitOne K t u = some b1) →
      ∀ {cs : List D} {vs : List V} {b : Bool}, RepL K H M cs vs → isEs ys d cs = some b → ∃ us, Paired ClsV vs us ∧ PySem.W.kitAny K t us = some b ∧ (∀ c u, vs = [c] → us = [u] → PySem.W.kitOne K t u = some b) := by
    intro t _ one cs
    induction cs with
    | nil =>
      intro vs b rc h
      cases rc
      cases h
      exact ⟨[], .nil, rfl, fun c u e => nomatch e⟩
    | cons c r ih =>
      intro vs b rc h
      cases rc with
      | cons r1 r2 =>
        unfold isEs at h
        cases e1 : isE ys d c with
        | none => rw [e1] at h; cases h
        | some b1 =>
          cases e2 : isEs ys d r with
          | none => rw [e1, e2] at h; cases h
          | some b2 =>
            rw [e1, e2] at h
            cases h
            obtain ⟨u, h1, h2⟩ := one e1 r1
            obtain ⟨us, h3, h4, _⟩ := ih r2 e2
            refine ⟨u :: us, .cons h1 h3, ?_, fun c' u' e3 e4 => ?_⟩
            · cases b1 with
              | true => exact kitAny_cons h2 (fun z => nomatch z) fun _ => rfl
              | false => exact kitAny_cons h2 (fun _ => by rw [h4]; rfl) fun z => nomatch z
            · cases e3
              cases e4
              cases h3
              cases r2
              cases e2
              rw [Bool.or_false]
              exact h2
  cases d with
  | non =>
    cases r
    obtain ⟨us, h1, h2, h3⟩ := step (.type "NoneType") (fun _ => True) (fun {c v b1} hc hv => by
      cases c with
      | cls z =>
        cases hv
        have hc' : (if z ∈ ys then some false else none) = some b1 := hc
        split at hc' <;> cases hc'
        exact ⟨_, .own _, (hE.at_ z (by assumption)).kn⟩
      | ty n =>
        cases hv
        have hc' : (if n = "ValueError" then some false else none) = some b1 := hc
        split at hc' <;> cases hc'
        rename_i hn
        subst hn
        exact ⟨_, .ty _, kit_ty (by decide +kernel)⟩
      | _ => cases hc) rc h
    exact ⟨_, us, .inl (.base .non), h1, h2, h3⟩
  | exc y =>
    cases r with
    | exc ha =>
      rename_i a
      by_cases hy : y ∈ ys
      · obtain ⟨us, h1, h2, h3⟩ := step (.ref (He.ga K y)) (fun _ => True) (fun {c v b1} hc hv => by
          cases c with
          | cls z =>
            cases hv
            have hc' : (if y ∈ ys ∧ z ∈ ys then some (subE y z) else none) = some b1 := hc
            split at hc' <;> cases hc'
            rename_i hq
            exact ⟨_, .own _, hE.ki y hq.1 z hq.2⟩
          | ty n =>
            cases hv
            have hc' : (if y ∈ ys ∧ n = "ValueError" then some true else none) = some b1 := hc
            split at hc' <;> cases hc'
            rename_i hq
            obtain ⟨_, hn⟩ := hq
            subst hn
            exact ⟨_, .ty _, (hE.at_ y hy).kv⟩
          | _ => cases hc) rc h
        exact ⟨_, us, .inr ⟨a, _, rfl, ha.2, (hE.at_ y hy).cc, rfl⟩, h1, h2, h3⟩
      · exfalso
        cases cs with
        | nil => exact hne rfl
        | cons c r =>
          unfold isEs at h
          have e1 : isE ys (.exc y) c = none := by
            cases c <;> first | rfl | exact if_neg fun z => hy z.1
          rw [e1] at h
          cases h
  | _ =>
    exfalso
    cases cs with
    | nil => exact hne rfl
    | cons c r =>
      unfold isEs at h
      cases c <;> cases h
theorem cIsX_ok (hE : ExnOk K mg ys) : CaOk K (rIsX K) (cIsX ys) := by
  intro B H st xs dxs d Q k r e g
  unfold cIsX at e
  split at e
  · rename_i x c0 cs
    obtain ⟨b, e1, rfl⟩ := Option.map_eq_some_iff.mp e
    cases r with
    | cons r1 r2 =>
      cases r2 with
      | cons r2 r3 =>
        cases r3
        cases r2 with
        | tup h r4 z =>
          obtain ⟨t, us, h1, h2, h3, _⟩ := isE_ok hE r1 r4 e1 (fun z => nomatch z)
          exact ⟨_, _, t, b, rfl, h1, .inr ⟨_, _, us, rfl, h.2, h2, h3⟩, g.here k (.bl _)⟩
  · rename_i x c _
    obtain ⟨b, e1, rfl⟩ := Option.map_eq_some_iff.mp e
    cases r with
    | cons r1 r2 =>
      cases r2 with
      | cons r2 r3 =>
        cases r3
        obtain ⟨t, us, h1, h2, _, h4⟩ := isE_ok hE r1 (.cons r2 .nil) (b := b) (by unfold isEs; rw [e1]; unfold isEs; cases b <;> rfl) (fun z => nomatch z)
        cases h2 with
        | cons c1 cn =>
          cases cn
          exact ⟨_, _, t, b, rfl, h1, .inl ⟨_, c1, h4 _ _ rfl rfl⟩, g.here k (.bl _)⟩
  · cases e
end
end DL
/-! DL26: the rules' small ends: classes as values, isinstance, readings. -/
namespace DL
open PySem PySem.Spec PyProof.Rows L2
section
variable {X : Cx} {E : XK} {ys : List Str} {a b : Expr} {ma mb : WE} {pos p : Pos} {n : Nat} {m : WA}
theorem e_cls {x : Str} (hE : ExnOk X.K X.mg ys) (hy : x ∈ ys := by decide) (hg : Gl X x := by rfl) (hd : (x == ("__debug__" : Str)) = false := by decide) : PEw X E (.Name x pos) (wC (.cls x)) := e_c (pe_glob (v := .ref (He.ga X.K x)) hg (hE.gl x hy) rfl hd) fun _ _ => .cls x
theorem e_tval (fr : Frees X.mg) (hg : Gl X "ValueError" := by rfl) : PEw X E (.Name "ValueError" pos) (wC (.ty "ValueError")) := e_ty "ValueError" hg fr.ValueError (by decide +kernel)
theorem e_isx (fr : Frees X.mg) (hE : ExnOk X.K X.mg ys) (ha : PAw X E [a, b] n m) (hg : Gl X "isinstance" := by rfl) (he : starEach [a, b] X.env = (false, eval a X.env) :: starEach [b] X.env := by rfl) (hp : (backTo pos (starEach [b] X.env)).any (·.1) = false := by rfl) : PEw X E (.Call (.Name "isinstance" p) [a, b] [] pos) (wCall (cIsX ys) m) :=
  e_cb call_isX (cIsX_ok hE) hg fr.isinstance (by decide +kernel) ha (by decide) (by decide) he hp
end
/-! ### a written tuple, repeated -/
theorem tuple_mul1 (l : Addr) (items : Array Value) (n : Nat) (dd : Option Addr) (sl : Array (Option Value)) (u : Tok) :
    Meets (Builtin.«tuple.__mul__» ⟨[.ref l, .int 1 u], []⟩) (fun _ R s => s.heap.get? l = some { cls := .type "tuple", dict := dd, data := .seq items n, slots := sl } ∧ R (.ok (.ret (Value.ref l))) s) :=
  .of_wp fun prog w A R s h => by
    obtain ⟨hp, g, d, tk, os⟩ := s
    obtain ⟨hl, h⟩ := h
    have f1 := AutoSeq1.idx_int
    have c1 : (items.isEmpty || (1 : Int) == 1) = true := by rw [Bool.or_eq_true]; exact .inr rfl
    wp_walk using wpAny_loadPart' hl
    repeat (first
      | (refine wpAny_ite_true (decide_eq_true c1) ?_; wp_walk using wpAny_loadPart' hl)
      | (refine wpAny_ite_false (by decide) ?_; wp_walk using wpAny_loadPart' hl))
    exact ⟨_, rfl, h⟩
def rRepT1 (K : PySem.W.Frag) : R2 := fun x y H Q => ∃ l xs, x = .ref l ∧ y = .int 1 ∧ SqT K H l xs ∧ Q (.ref l) H
theorem op_repT1 {X : Cx} : OpR X (binaryOp .Mult) (rRepT1 X.K) := by
  intro pins s σ H x y v u Q I rx ry h
  obtain ⟨l, xs, rfl, rfl, hT, q⟩ := h
  cases rx
  obtain ⟨t, rfl⟩ := ry
  obtain ⟨its, r, ⟨⟨cls, dd, data, sl⟩, ho, hc, n, hd⟩, hs⟩ := I.tuple hT
  simp only at hc hd
  subst hc hd
  refine wpAny_binaryOp_repeat_ref (T := "tuple") (U := "int") (by decide) ⟨_, ho, rfl⟩ (fun s' => typeIs_int s' 1 t) noFill_tuple_mul F.fills_int_mul F.slot_int_rmul repeat_tuple F.slot_int_index.lookup
    (call_meets F.slot_int_rmul (typeIs_int s 1 t) F.entry_int_rmul (F.args_int_rmul_2 _ _) (int_rmul_tuple 1 t l its.toArray n dd sl)
      ⟨ho, rfl, ⟨_, ho, rfl⟩, call_meets F.slot_tuple_mul ⟨_, ho, rfl⟩ F.entry_tuple_mul (F.args_tuple_mul_2 _ _) (tuple_mul1 l its.toArray n dd sl t) ⟨ho, ?_⟩⟩)
  exact ⟨.ref l, H, I, rfl, q⟩
/-- (a, ..) * k -/
def dMulT (_ : Sto) (x y : D) : Option D := match x, y with
  | .tup ds, .int k => if ds ≠ [] ∧ 1 ≤ k ∧ k ≤ 1000 ∧ ds.length ≤ 1000 then some (.tup (List.replicate k.toNat ds).flatten) else none
  | _, _ => none
theorem dMulT_ok {K : PySem.W.Frag} : OpOk K (fun x y H Q => rRepT1 K x y H Q ∨ rRepT K x y H Q) dMulT := by
  intro B H st x y dx dy d Q k rx ry e g
  unfold dMulT at e
  split at e
  · rename_i ds j
    split at e <;> cases e
    rename_i hz
    have rx' := rx
    cases ry
    cases rx with
    | tup h r z =>
      rename_i a vs
      by_cases h1 : j = 1
      · subst h1
        have e1 : (List.replicate (1 : Int).toNat ds).flatten = ds := by show (List.replicate 1 ds).flatten = ds; simp
        rw [e1] at g
        exact .inl ⟨a, vs, rfl, rfl, h.sq, g.here k rx'⟩
      · have l1 := r.length
        refine .inr ⟨a, j, vs, rfl, rfl, h.sq, fun z => hz.1 (r.nil_iff.mp z), by omega, hz.2.2.1, by omega, g.tup k (r.rep _) ?_⟩
        rw [PyProof.Rows.lm_len_rep_flat, sizeLine_eq]
        have a1 : j.toNat * ds.length ≤ 1000 * 1000 := Nat.mul_le_mul (by omega) hz.2.2.2
        omega
  · cases e
section
variable {X : Cx} {E : XK} {a b : Expr} {ma mb : WE} {pos : Pos}
theorem e_mulT (ha : PEw X E a ma) (hb : PEw X E b mb) : PEw X E (.BinOp a .Mult b pos) (wBin dMulT ma mb) := e_bin (op_repT1.or op_repT) dMulT_ok ha hb
end
/-- a, b = x, y with plain names: no tuple stays -/
def wPar (i j : Nat) (a b : WE) : WS := fun W e st => a e st W.ex fun u st1 => b e st1 W.ex fun v st2 => W.nx ((e.set i (some u)).set j (some v)) st2
section
variable {X : Cx} {E : XK} {a b : Expr} {ma mb : WE} {pos : Pos}
theorem s_par (i j : Nat) {x y : Str} {px py pt : Pos} {kt k2 pt2} (hc : X.calm = true) (hN : X.N.Nodup) (ha : PEw X E a ma) (hb : PEw X E b mb) (hi : X.N[i]? = some x := by rfl) (hj : X.N[j]? = some y := by rfl) (hij : i ≠ j := by decide)
    (hx : X.env.scope.names.lookup x = some .local := by rfl) (hy : X.env.scope.names.lookup y = some .local := by rfl)
    (hw : swappedStores [.Tuple [.Name x px, .Name y py] kt pt] (.Tuple [a, b] k2 pt2) X.env = pure (some [x, y]) := by rfl)
    (hs : swapsWithSole [.Tuple [.Name x px, .Name y py] kt pt] (.Tuple [a, b] k2 pt2) pos.line X.env = pure false := by rfl)
    (h1 : starEach (a :: [b]) X.env = (false, eval a X.env) :: starEach [b] X.env := by rfl) (h2 : starEach (b :: []) X.env = (false, eval b X.env) :: starEach [] X.env := by rfl) :
    PSw X E (.Assign [.Tuple [.Name x px, .Name y py] kt pt] (.Tuple [a, b] k2 pt2) pos) (wPar i j ma mb) :=
  ps_imp (ps_par hc hN hi hj hij hx hy (pa_cons ha (pa_cons hb pa_nil h2) h1) hw hs) fun D σ H ⟨B, e, st, W, S, k, m⟩ =>
    ⟨B, e, st, _, W.ex, S, fun u st1 vu H1 m1 x1 k1 r1 => ⟨B, e, st1, _, W.ex, S.on x1 k1, fun v st2 vv H2 m2 x2 k2 r2 => ⟨_, _, rfl, k.nx _ st2 _ H2 m2 ⟨((S.env.ext (x1.trans x2)).set i (r1.ext x2)).set j r2, k2⟩ (x1.trans x2)⟩, k.ex.on x1, m1⟩, k.ex, m⟩
end
section
variable {e : DL.Env} {st : Sto} {X : PoX} {Q : PoE} {W : WEnds} {ys : List Str} {x cn : Str} {i : Nat} {b m2 : WS} {F : WF} {m : WA} {hs : List (Str × WS)}
@[simp] theorem wPar_ap {j : Nat} {ma mb : WE} : wPar i j ma mb W e st = ma e st W.ex fun u st1 => mb e st1 W.ex fun v st2 => W.nx ((e.set i (some u)).set j (some v)) st2 := id rfl
@[simp] theorem wRaise_ap : wRaise x W e st = W.ex x st := id rfl
@[simp] theorem wFnT_ap : wFnT F m e st X Q = m e st XF fun ds st1 => F ds st1 X Q := id rfl
@[simp] theorem wTryAs_ap : wTryAs ys cn i b m2 W e st = b { W with ex := fun y st1 => y ∈ ys ∧ if subE y cn = true then m2 (atBack i W) (e.set i (some (.exc y))) st1 else W.ex y st1 } e st := id rfl
@[simp] theorem atBack_nx {e' : DL.Env} : (atBack i W).nx e' st = W.nx (e'.set i none) st := id rfl
@[simp] theorem atBack_rt {d : D} : (atBack i W).rt d st = W.rt d st := id rfl
@[simp] theorem wTryN_ap : wTryN ys b hs W e st = b { W with ex := fun y st1 => y ∈ ys ∧ wHds W e y st1 hs } e st := id rfl
@[simp] theorem wHds_nil {y : Str} : wHds W e y st [] = W.ex y st := id rfl
@[simp] theorem wHds_cons {y : Str} {r : List (Str × WS)} : wHds W e y st ((cn, m2) :: r) = if subE y cn = true then m2 { W with ex := XF } e st else wHds W e y st r := id rfl
@[simp] theorem isN_exc : isN (.exc x) = false := rfl
@[simp] theorem isN_cls : isN (.cls x) = false := rfl
end
end DL
/-! DL27: texts sorted, dicts by text keys sorted, sorted(set(..)) of numbers, join, find. -/
namespace DL
open PySem PySem.Spec PyProof.Rows L2

/-! ### texts in order -/
def leT (a b : Str) : Prop := a.cps.toList ≤ b.cps.toList
instance (a b : Str) : Decidable (leT a b) := by unfold leT; exact inferInstance
theorem leT_trans {a b c : Str} (h : leT a b) (k : leT b c) : leT a c := List.le_trans h k
theorem leT_total (a b : Str) : leT a b ∨ leT b a := List.le_total _ _
theorem leT_anti {a b : Str} (h : leT a b) (k : leT b a) : a = b := by
  have e := List.le_antisymm h k
  obtain ⟨⟨x⟩⟩ := a
  obtain ⟨⟨y⟩⟩ := b
  simp only at e
  rw [e]
def insT (n : Str) : List Str → List Str
  | [] => [n]
  | m :: r => if leT n m then n :: m :: r else m :: insT n r
def sortT : List Str → List Str
  | [] => []
  | n :: r => insT n (sortT r)
theorem insT_perm (n : Str) : ∀ r, (insT n r).Perm (n :: r)
  | [] => .refl _
  | m :: r => by
    unfold insT
    split
    · exact .refl _
    · exact ((insT_perm n r).cons m).trans (.swap n m r)
theorem sortT_perm : ∀ r, (sortT r).Perm r
  | [] => .refl _
  | n :: r => (insT_perm n (sortT r)).trans ((sortT_perm r).cons n)
theorem insT_srt (n : Str) : ∀ r : List Str, r.Pairwise leT → (insT n r).Pairwise leT
  | [], _ => by simp [insT]
  | m :: r, h => by
    obtain ⟨h1, h2⟩ := List.pairwise_cons.mp h
    unfold insT
    split
    · rename_i le
      refine List.pairwise_cons.mpr ⟨fun x hx => ?_, h⟩
      rcases List.mem_cons.mp hx with rfl | hx
      · exact le
      · exact leT_trans le (h1 x hx)
    · rename_i le
      refine List.pairwise_cons.mpr ⟨fun x hx => ?_, insT_srt n r h2⟩
      rcases List.mem_cons.mp ((insT_perm n r).mem_iff.mp hx) with rfl | hx
      · exact (leT_total _ _).resolve_left le
      · exact h1 x hx
theorem sortT_srt : ∀ r, (sortT r).Pairwise leT
  | [] => .nil
  | n :: r => insT_srt n _ (sortT_srt r)
theorem sortT_len (ns : List Str) : (sortT ns).length = ns.length := (sortT_perm ns).length_eq
theorem leT_of {x y : Str} (h : (!ltCps y.cps.toList x.cps.toList) = true) : leT x y := by
  rw [ltCps_eq] at h
  simp at h
  exact h
theorem rising_pw : ∀ (p : Str) (l : List Str), risingS p l = true → (p :: l).Pairwise leT
  | p, [], _ => by simp
  | p, x :: r, h => by
    have h' : (!ltCps x.cps.toList p.cps.toList && risingS x r) = true := h
    rw [Bool.and_eq_true] at h'
    have ih := rising_pw x r h'.2
    have h1 := leT_of h'.1
    refine List.pairwise_cons.mpr ⟨fun y hy => ?_, ih⟩
    rcases List.mem_cons.mp hy with rfl | hy
    · exact h1
    · exact leT_trans h1 ((List.pairwise_cons.mp ih).1 y hy)
theorem sortedS_pw : ∀ {l : List Str}, sortedS l = true → l.Pairwise leT
  | [], _ => .nil
  | x :: r, h => rising_pw x r h
theorem sortT_is {a ns : List Str} (hp : a.Perm ns) (ha : sortedS a = true) : a = sortT ns :=
  (hp.trans (sortT_perm ns).symm).eq_of_pairwise (fun x y _ _ h1 h2 => leT_anti h1 h2) (sortedS_pw ha) (sortT_srt ns)
theorem sortT_pw {a ns : List Str} (hp : a.Perm ns) (ha : a.Pairwise leT) : a = sortT ns :=
  (hp.trans (sortT_perm ns).symm).eq_of_pairwise (fun x y _ _ h1 h2 => leT_anti h1 h2) ha (sortT_srt ns)

/-! ### sorted(d), text keys; sorted(xs), texts -/
section
variable {X : Cx}
def rSortDS : List V → Hp → VK → Prop := fun xs H Q => ∃ (a : Addr) (kvs : List (L2.Key × V)) (ks : List Str), xs = [.ref a] ∧ Rd H a (.dK kvs) ∧ kvs.map (·.1) = ks.map Sum.inr ∧
    ∀ (ys : List Str) (p : Addr), ys.Perm ks → sortedS ys = true → H p = none → Q (.ref p) (upd H p (.lst (ys.map V.str)))
theorem strs_each : ∀ {vs : List Value} {ks : List Str}, vs.length = ks.length → (∀ (j : Nat) (v : Value), vs[j]? = some v → ∃ k t, ks[j]? = some k ∧ v = .str k t) → StrsAre vs ks
  | [], [], _, _ => .nil
  | [], _ :: _, h, _ => by cases h
  | _ :: _, [], h, _ => by cases h
  | v :: vs, k :: ks, h, e => by
    obtain ⟨k', t, e1, e2⟩ := e 0 v rfl
    cases e1
    rw [e2]
    exact .cons _ _ (strs_each (by simpa using h) fun j w hw => e (j + 1) w (by simpa using hw))
theorem call_sortedDS (hcalm : X.calm = true) : CallR X (.builtin "sorted") rSortDS := by
  intro pins s σ H xs us Q I r q
  obtain ⟨a, kvs, ks, ex, hd, hks, q⟩ := q
  subst ex
  obtain ⟨u, eu, rx⟩ := vals1 r
  subst eu
  cases rx
  obtain ⟨z, lo, vs, rel, dd⟩ := dk_rd I.hok hd
  obtain ⟨ep, hat⟩ := dd.dictAt
  have hkeys : vs.map (·.1) = ks.map Sum.inr := rel.keys.symm.trans hks
  have hl : vs.length = ks.length := by
    have e := congrArg List.length hkeys
    rw [List.length_map, List.length_map] at e
    exact e
  have l1 := rel.length
  have h16 : vs.length ≤ sizeLine := by omega
  refine Calls.call_function_entry PyProof.Rows.kind_sorted PyProof.Rows.plain_sorted PyProof.Rows.entry_sorted (PyProof.Rows.args_sorted1 _) ?_
  unfold Builtin.«sorted»
  refine wpAny_bind (m := checkCount "sorted" 1 1 _) (wpAny_pure ?_)
  refine wpAny_bind (PySem.W.kdu_collect (A := X.A.in1) (PySem.W.kdl_dict (knd := mixKind X.prog X.w) (kvs := vs) (ep := ep) lo) (I.ok.hd hcalm) hat h16 fun h' tk acc hk hacc => ?_)
  have hal : acc.toList.length = ks.length := by rw [Array.length_toList, hacc.1, hl]
  have hS : StrsAre acc.toList ks := strs_each hal fun j v e => by
    obtain ⟨k, x, e1, e2⟩ := hacc.2 j v (by rw [← Array.getElem?_toList]; exact e)
    have e3 : (vs.map (·.1))[j]? = some k := by rw [List.getElem?_map, e1]; rfl
    rw [hkeys, List.getElem?_map] at e3
    cases e4 : ks[j]? with
    | none => rw [e4] at e3; cases e3
    | some y =>
      rw [e4] at e3
      have e5 : Sum.inr y = k := Option.some.inj e3
      subst e5
      rcases keyIs_shape (show keyIs (Sum.inr y) v = true from e2) with ⟨i, t, ek, ev⟩ | ⟨z, t, ek, ev⟩
      · cases ek
      · cases ek
        exact ⟨y, t, rfl, ev⟩
  have I1 : Inv X pins σ H { s with heap := h', toks := tk } := I.kept hk
  refine wpAny_bind (wpAny_newList ?_ (by rw [hal]; omega))
  have hoL : (h'.push (seqObj "list" acc.toList.toArray 0)).get? h'.objs.size = some (seqObj "list" acc.toList.toArray 0) := Heap.get?_push_size _ rfl
  show wpAny _ _ _ _ _ { s with heap := h'.push (seqObj "list" acc.toList.toArray 0), toks := tk }
  refine wpAny_bind (wpAny_holding (wpAny_call_entry PyProof.Rows.slot_list_sort ⟨_, hoL, rfl⟩ PyProof.Rows.entry_list_sort
    (PyProof.Rows.list_sort_treeKAny (s := { s with heap := h'.push (seqObj "list" acc.toList.toArray 0), toks := tk }) PyProof.Rows.strKind_oneLt hoL hS.keysOf (fun v₁ v₂ rest e => PyProof.Rows.keyKind_strs (by rw [← e]; exact hS)) (by rw [hal]; omega) fun st' hp hs => ⟨_, rfl, ?_⟩) (PyProof.Rows.args_list_sort _)))
  obtain ⟨ss, k1, k2, k3⟩ := PyProof.Rows.sorted_out_str hS hp hs
  obtain ⟨e', he'⟩ := PyProof.Rows.sortedHeap_at (vs := acc.toList) (out := (arrOf st').map (·.2)) hoL
  have hlen : (ss.map V.str).length ≤ sizeLine := by
    rw [List.length_map, k2.length_eq]
    omega
  refine wpAny_pure ⟨_, rfl, .ref h'.objs.size, upd H h'.objs.size (.lst (ss.map V.str)), I1.laid (t' := tk) (fun b u e => ?_) (Nat.le_refl _)
    (show ObjOk X.prog X.w _ _ _ (.lst (ss.map V.str)) from ⟨hlen, _, e', vals_of_strs k1, by rw [he']⟩), rfl, q _ _ k2 k3 (I1.hok.fresh (Nat.le_refl _))⟩
  have hb : b < h'.objs.size := Heap.lt_size e
  rw [PyProof.Rows.sortedHeap_old (Nat.ne_of_lt hb) (by rw [size_push']; exact Nat.lt_succ_of_lt hb)]
  exact Heap.get?_push_of_some _ e
end
section
variable {X : Cx}
def rSortTS (K : PySem.W.Frag) : List V → Hp → VK → Prop := fun vs H Q => ∃ (a : Addr) (xs : List Str), vs = [V.ref a] ∧ SqL K H a (xs.map V.str) ∧ xs.length ≤ sizeLine ∧
  ∀ (ys : List Str) (p : Addr), ys.Perm xs → sortedS ys = true → H p = none → Q (.ref p) (upd H p (.lst (ys.map V.str)))
theorem call_sortedTS : CallR X (.builtin "sorted") (rSortTS X.K) := by
  intro pins s σ H vs us Q I r h
  obtain ⟨a, xs, rfl, hs, hz, q⟩ := h
  obtain ⟨its, rv, hl, _⟩ := I.list hs
  rw [Vals.ref1 r]
  have hlen0 := rv.length
  rw [List.length_map] at hlen0
  refine PyProof.Rows.sorted_strsAny hl.isList rv.strs (by rw [← hlen0]; exact hz) fun out ys h1 h2 h3 => ?_
  obtain ⟨ep, he'⟩ := PyProof.Rows.sortedAll_at s.heap its out
  have hlen : (ys.map V.str).length ≤ sizeLine := by rw [List.length_map, h2.length_eq]; exact hz
  exact ⟨.ref _, upd H (s.heap.objs.size + 1) (.lst (ys.map V.str)), I.laid (t' := s.toks) (fun _ _ => PyProof.Rows.sortedAll_old) (Nat.le_succ _) ⟨hlen, out.toList, ep, vals_of_strs h1, he'⟩, rfl, q ys _ h2 h3 (I.hok.fresh (Nat.le_succ _))⟩
end
def strsOf : List D → Option (List Str)
  | [] => some []
  | .str i :: ds => (strsOf ds).map (i :: ·)
  | _ => none
theorem strsOf_iff : ∀ {ds : List D} {ns : List Str}, strsOf ds = some ns → ds = ns.map D.str
  | [], ns, h => by cases h; rfl
  | d :: ds, ns, h => by
    unfold strsOf at h
    split at h
    · rename_i e
      cases e
    · rename_i e
      cases e
      obtain ⟨ks, h1, rfl⟩ := Option.map_eq_some_iff.mp h
      rw [strsOf_iff h1]
      rfl
    · cases h
@[simp] theorem strsOf_map (xs : List Str) : strsOf (xs.map D.str) = some xs := by
  induction xs with
  | nil => rfl
  | cons x xs ih => simp [strsOf, ih]
def keysT : List (L2.Key × D) → Option (List Str)
  | [] => some []
  | (.inr k, _) :: r => (keysT r).map (k :: ·)
  | _ => none
theorem keysT_of : ∀ {kvs : List (L2.Key × D)} {ks : List Str}, keysT kvs = some ks → kvs.map (·.1) = ks.map Sum.inr
  | [], ks, h => by cases h; rfl
  | (.inr k, _) :: r, ks, h => by
    unfold keysT at h
    obtain ⟨ks', h1, rfl⟩ := Option.map_eq_some_iff.mp h
    rw [List.map_cons, List.map_cons, keysT_of h1]
  | (.inl _, _) :: _, _, h => by unfold keysT at h; cases h
/-- sorted of texts, or of a dict of texts -/
def cSortedT (st : Sto) : List D → Option D
  | [.ref a] => match st a with
    | some (.dk kvs) => (keysT kvs).bind fun ks => if ks.length ≤ sizeLine ∧ ks.all okS = true then some (.lst ((sortT ks).map .str)) else none
    | some (.lst ds) => (strsOf ds).map fun xs => .lst ((sortT xs).map .str)
    | _ => none
  | [.lst ds] => (strsOf ds).map fun xs => .lst ((sortT xs).map .str)
  | _ => none
theorem okS_perm {ys xs : List Str} (h : ys.Perm xs) (k : ∀ x ∈ xs, okS x = true) : ∀ y ∈ ys, okS y = true := fun y hy => k y (h.mem_iff.mp hy)
theorem cSortedT_ok {K : PySem.W.Frag} : CaOk K (fun xs H Q => rSortTS K xs H Q ∨ rSortDS xs H Q) cSortedT := by
  intro B H st xs dxs d Q k r e g
  have list_ : ∀ {ds : List D} {p : Addr} {vs : List V}, SqL K H p vs → RepL K H (mu st B) ds vs → ds.length ≤ sizeLine → (strsOf ds).map (fun xs => D.lst ((sortT xs).map .str)) = some d →
      rSortTS K [.ref p] H Q := fun {ds p vs} hs rl z e => by
    obtain ⟨ss, e1, rfl⟩ := Option.map_eq_some_iff.mp e
    rw [strsOf_iff e1] at rl z
    obtain ⟨rfl, hk⟩ := rl.strs
    rw [List.length_map] at z
    refine ⟨p, ss, rfl, hs, z, fun ys q hp hsd hn => ?_⟩
    rw [sortT_is hp hsd]
    exact g.lst k (repL_strs _ (okS_perm (sortT_perm ss) hk)) (by rw [List.length_map, sortT_len]; exact z) q hn
  unfold cSortedT at e
  split at e
  · rename_i a
    cases r with
    | cons r1 r2 =>
      cases r2
      cases r1
      split at e
      · rename_i kvs qc
        obtain ⟨ks, e1, e2⟩ := Option.bind_eq_some_iff.mp e
        split at e2 <;> cases e2
        rename_i hz
        obtain ⟨oo, e3, r3⟩ := k.at_ _ _ qc
        cases oo <;> try exact r3.elim
        rename_i ws
        refine .inr ⟨a, ws, ks, rfl, .inl e3, r3.1.trans (keysT_of e1), fun ys p hp hs hn => ?_⟩
        rw [sortT_is hp hs]
        exact g.lst k (repL_strs _ (okS_perm (sortT_perm ks) (List.all_eq_true.mp hz.2))) (by rw [List.length_map, sortT_len]; exact hz.1) p hn
      · rename_i ds qc
        obtain ⟨oo, e3, r3⟩ := k.at_ _ _ qc
        cases oo <;> try exact r3.elim
        exact .inl (list_ (.inl (.inl e3)) r3.1 r3.2 e)
      · cases e
  · rename_i ds
    cases r with
    | cons r1 r2 =>
      cases r2
      cases r1 with
      | lst h rl z => exact .inl (list_ h.sq rl z e)
  · cases e
section
variable {X : Cx} {E : XK} {a : Expr} {pos p : Pos} {n : Nat} {m : WA}
theorem e_sortedT (hc : X.calm = true) (fr : Frees X.mg) (ha : PAw X E [a] n m) (hg : Gl X "sorted" := by rfl) (he : starEach [a] X.env = (false, eval a X.env) :: starEach [] X.env := by rfl) : PEw X E (.Call (.Name "sorted" p) [a] [] pos) (wCall cSortedT m) :=
  e_cb (call_sortedTS.or (call_sortedDS hc)) cSortedT_ok hg fr.sorted (by decide +kernel) ha (by decide) (by decide) he rfl
end

/-! ### sorted(set(t)), t a tuple of numbers -/
section
variable {X : Cx}
def rSetTup (K : PySem.W.Frag) (w : World) : List V → Hp → VK → Prop := fun xs H Q => ∃ (l : Addr) (ns : List Int), xs = [.ref l] ∧ SqT K H l (ns.map V.int) ∧ ns.length ≤ 60 ∧
  ∀ (c : Nat) (p : Addr), c ≤ ns.length → H p = none → Q (.ref p) (upd H p (SetO w p (fun j => decide (j ∈ ns)) c))
theorem cr_setTup (hc : X.calm = true) : CallR X (.type "set") (rSetTup X.K X.w) := by
  intro pins s σ H xs us Q I r h
  obtain ⟨l, ns, rfl, hq, hl, q⟩ := h
  obtain ⟨its, rv, pt, hz⟩ := I.tuple hq
  rw [Vals.ref1 r]
  have hi : IntsAre its.toArray.toList ns := ints_of_vals rv
  refine call_set_tupI ns (I.ok.hd hc) (show s.heap.IsTuple l its.toArray from pt) hi (by unfold scanBound; omega) fun h' tk c R1 hcn k => ?_
  exact ⟨.ref s.heap.objs.size, _, I.laid (t' := tk) (o := SetO X.w s.heap.objs.size (fun j => decide (j ∈ ns)) c) k (Nat.le_refl _) (setO_new R1), rfl, q c _ hcn (I.hok.fresh (Nat.le_refl _))⟩
end
/-- the numbers once each, rising -/
def onceI : List Int → List Int
  | [] => []
  | x :: r => if x ∈ r then onceI r else x :: onceI r
theorem onceI_mem : ∀ {l : List Int} {k : Int}, k ∈ onceI l ↔ k ∈ l
  | [], k => by simp [onceI]
  | x :: r, k => by
    unfold onceI
    split
    · rename_i h
      rw [onceI_mem, List.mem_cons]
      exact ⟨.inr, fun z => z.elim (fun e => e ▸ h) id⟩
    · rw [List.mem_cons, List.mem_cons, onceI_mem]
theorem onceI_nodup : ∀ l : List Int, (onceI l).Nodup
  | [] => .nil
  | x :: r => by
    unfold onceI
    split
    · exact onceI_nodup r
    · rename_i h
      exact List.nodup_cons.mpr ⟨fun z => h (onceI_mem.mp z), onceI_nodup r⟩
def setI (ns : List Int) : List Int := sortI (onceI ns)
theorem setI_is {ns ys : List Int} (h1 : ys.Pairwise (· < ·)) (h2 : ∀ k, k ∈ ys ↔ k ∈ ns) : ys = setI ns := by
  have nd : ys.Nodup := h1.imp fun h => Int.ne_of_lt h
  refine sortI_is ?_ (h1.imp fun h => Int.le_of_lt h)
  exact (List.perm_ext_iff_of_nodup nd (onceI_nodup ns)).mpr fun k => (h2 k).trans onceI_mem.symm
theorem setI_len (ns : List Int) : (setI ns).length ≤ ns.length := by
  unfold setI
  rw [sortI_len]
  induction ns with
  | nil => exact Nat.le_refl _
  | cons x r ih =>
    unfold onceI
    split
    · exact Nat.le_succ_of_le ih
    · exact Nat.succ_le_succ ih
def wSortSet (m : WE) : WE := fun e st X Q => m e st X fun d st1 => on ((tpOf d).bind intsOf) fun ns => ns.length ≤ 60 ∧ Q (.lst ((setI ns).map .int)) st1
@[simp] theorem wSortSet_ap {m : WE} {e : DL.Env} {st : Sto} {X : PoX} {Q : PoE} : wSortSet m e st X Q = m e st X fun d st1 => on ((tpOf d).bind intsOf) fun ns => ns.length ≤ 60 ∧ Q (.lst ((setI ns).map .int)) st1 := id rfl
section
variable {X : Cx} {E : XK} {a : Expr} {p p2 pos pos2 : Pos} {m : WE}
theorem e_sortSet (hc : X.calm = true) (fr : Frees X.mg) (ha : PEw X E a m) (hg : Gl X "sorted" := by rfl) (hg2 : Gl X "set" := by rfl) (he : starEach [a] X.env = (false, eval a X.env) :: starEach [] X.env := by rfl)
    (he2 : starEach [.Call (.Name "set" p2) [a] [] pos2] X.env = (false, eval (.Call (.Name "set" p2) [a] [] pos2) X.env) :: starEach [] X.env := by rfl) :
    PEw X E (.Call (.Name "sorted" p) [.Call (.Name "set" p2) [a] [] pos2] [] pos) (wSortSet m) := by
  have h1 : PE X (.Call (.Name "set" p2) [a] [] pos2) _ := pe_callTy (cr_setTup hc) hg2 fr.set (by decide +kernel) (pa_cons ha pa_nil he) (by decide) (by decide) he rfl
  refine pe_imp (pe_callB (cr_sortedSet hc) hg fr.sorted (by decide +kernel) (pa_cons h1 pa_nil he2) (by decide) (by decide) he2 rfl) fun σ H Q ⟨B, e, st, Qd, Xd, S, pq, px, mm⟩ => ?_
  refine ⟨B, e, st, _, Xd, S, fun d st1 v H1 m1 x1 k1 r1 => ?_, px, mm⟩
  obtain ⟨ns, e1, hz, q⟩ := on_iff.mp m1
  obtain ⟨ds, e2, e3⟩ := Option.bind_eq_some_iff.mp e1
  obtain ⟨l, vs, rfl, hq, rl, _⟩ := tp_of r1 e2
  rw [intsOf_iff.mp e3] at rl
  rw [rl.ints] at hq
  refine ⟨l, ns, rfl, hq, hz, fun c p hc2 hp => ⟨p, _, c, rfl, upd_same, by omega, fun ys q1 hy hm hl hn => ?_⟩⟩
  have e4 := setI_is hy fun k => (hm k).trans decide_eq_true_iff
  subst e4
  have x2 := ext_new (H := H1) (M := mu st1 B) (o := SetO X.w p (fun j => decide (j ∈ ns)) c) hp
  have k2 := k1.new (o := SetO X.w p (fun j => decide (j ∈ ns)) c) hp
  obtain ⟨x3, k3, r3⟩ := new_lst k2 hn (repL_ints (setI ns)) (by
    rw [List.length_map, sizeLine_eq]
    have := setI_len ns
    omega)
  exact pq _ st1 _ _ q ((x1.trans x2).trans x3) k3 r3
end

/-! ### join, find -/
theorem okS_join {a : Str} (ha : okS a = true) : ∀ {ys : List Str}, (∀ y ∈ ys, okS y = true) → okS (Txt.join a ys) = true := by
  intro ys h
  rw [show Txt.join a ys = Str.join a ys from TL.join_eq a ys]
  induction ys with
  | nil => exact (by decide +kernel : okS Str.empty = true)
  | cons y r ih =>
    cases r with
    | nil => exact h y List.mem_cons_self
    | cons z r =>
      show okS (y ++ a ++ Str.join a (z :: r)) = true
      exact okS_append (okS_append (h y List.mem_cons_self) ha) (ih fun x hx => h x (List.mem_cons_of_mem _ hx))
def mJoin (st : Sto) (x : D) (as : List D) : Option (D × Sto) := match x, as with
  | .str a, [l] => ((sqOf st l).bind strsOf).bind fun ys => if (ys.map (·.length)).sum + ys.length * a.length ≤ 16777216 then some (.str (Txt.join a ys), st) else none
  | _, _ => none
theorem mJoin_ok {K : PySem.W.Frag} : MeOk K (fun x xs H Q => ∃ a p, ∃ ys : List Str, x = .str a ∧ xs = [.ref p] ∧ (SqL K H p (ys.map V.str) ∨ SqT K H p (ys.map V.str)) ∧
    (ys.map (·.length)).sum + ys.length * a.length ≤ 16777216 ∧ Q (.str (Txt.join a ys)) H) mJoin := by
  intro B H st x dx xs dxs d st' Q k rx rs e g
  unfold mJoin at e
  split at e
  · rename_i a l
    obtain ⟨ys, e1, e2⟩ := Option.bind_eq_some_iff.mp e
    obtain ⟨ds, e3, e4⟩ := Option.bind_eq_some_iff.mp e1
    split at e2 <;> cases e2
    rename_i hz
    cases rx with
    | str _ ha =>
      cases rs with
      | cons r1 r2 =>
        cases r2
        rw [strsOf_iff e4] at e3
        obtain ⟨p, vs, rfl, hs, rl, _⟩ := sq_of k r1 e3
        obtain ⟨rfl, hk⟩ := rl.strs
        exact ⟨a, p, ys, rfl, rfl, hs, hz, g _ _ .refl k (.str _ (okS_join ha hk))⟩
  · cases e
def mFind (st : Sto) (x : D) (as : List D) : Option (D × Sto) := match x, as with
  | .str a, [.str b] => some (.int (Txt.find a b), st)
  | _, _ => none
theorem mFind_ok {K : PySem.W.Frag} : MeOk K (fun x xs H Q => ∃ a b, x = .str a ∧ xs = [.str b] ∧ Q (.int (Txt.find a b)) H) mFind := by
  intro B H st x dx xs dxs d st' Q k rx rs e g
  unfold mFind at e
  split at e
  · cases e
    cases rx
    cases rs with
    | cons r1 r2 =>
      cases r2
      cases r1
      exact ⟨_, _, rfl, rfl, g _ _ .refl k (.int _)⟩
  · cases e
section
variable {X : Cx} {E : XK} {a o : Expr} {mo : WE} {n : Nat} {m : WA} {apos cpos : Pos}
theorem e_join (ho : PEw X E o mo) (ha : PAw X E [a] n m) (hbase : attributeBase o "join" X.env (eval o X.env) = eval o X.env := by rfl)
    (hfew : ((backTo cpos (starEach [a] X.env)).all (fun x => !x.1) && (backToKw cpos (keywordEach [] X.env)).all (fun x => x.1.isSome)
      && decide ([a].length + ([] : List Keyword).length + (if ([] : List Keyword).isEmpty then 0 else 1) < 30)) = true := by rfl)
    (hline : (apos.endLine == cpos.line) = true := by rfl) (hs : starEach [a] X.env = (false, eval a X.env) :: starEach [] X.env := by rfl) : PEw X E (.Call (.Attribute o "join" apos) [a] [] cpos) (wMeth "str" mJoin mo m) :=
  e_bm (.inr (.inr rfl)) PySem.F.plainAttrs_str PySem.F.slot_str_join PySem.F.type_str_join mt_join mJoin_ok ho ha hbase hfew hline hs rfl
theorem e_find (ho : PEw X E o mo) (ha : PAw X E [a] n m) (hbase : attributeBase o "find" X.env (eval o X.env) = eval o X.env := by rfl)
    (hfew : ((backTo cpos (starEach [a] X.env)).all (fun x => !x.1) && (backToKw cpos (keywordEach [] X.env)).all (fun x => x.1.isSome)
      && decide ([a].length + ([] : List Keyword).length + (if ([] : List Keyword).isEmpty then 0 else 1) < 30)) = true := by rfl)
    (hline : (apos.endLine == cpos.line) = true := by rfl) (hs : starEach [a] X.env = (false, eval a X.env) :: starEach [] X.env := by rfl) : PEw X E (.Call (.Attribute o "find" apos) [a] [] cpos) (wMeth "str" mFind mo m) :=
  e_bm (.inr (.inr rfl)) PySem.F.plainAttrs_str PySem.F.slot_str_find PySem.F.type_str_find mt_find mFind_ok ho ha hbase hfew hline hs rfl
end
end DL
/-! DL28: sorted of a tuple of numbers. -/
namespace PyProof.Rows
open PySem
section
variable {prog : Program} {w : World} {A : Around} {E : Value → Shared → Prop} {s : Shared}
theorem collect_tup {l : Addr} {vs : List Value} {Q : List Value → Shared → Prop} (hl : s.heap.IsTuple l vs.toArray)
    (h : Q vs { s with heap := (s.heap.push (seqObj "list" #[] 0)).update s.heap.objs.size (Obj.mapSeq (· ++ vs.toArray)) }) (hsz : vs.length ≤ sizeLine) :
    wpAny (model prog w) A (collect (.ref l)) Q E s := by
  obtain ⟨o, ho, hc, n, hd⟩ := id hl
  unfold collect
  refine wpAny_bind (wpAny_runValue (codeAny_builtin entry_proto_collect' ?_))
  show wpAny _ _ (do again (.builtin "list.__iadd__" ⟨[← newList [], .ref l], []⟩)) _ _ s
  refine wpAny_bind (wpAny_newList (wpAny_pure ⟨Code.quiet_builtin _ (by decide +kernel), codeAny_builtin entry_list_iadd' ?_⟩))
  show wpAny _ _ (Builtin.List.listExtendWith (.ref s.heap.objs.size) (.ref l) (.ref s.heap.objs.size)) _ _ { s with heap := s.heap.push (seqObj "list" #[] 0) }
  unfold Builtin.List.listExtendWith
  have ho' : (s.heap.push (seqObj "list" #[] 0)).get? l = some o := Heap.get?_push_of_some _ ho
  refine wpAny_bind (wpAny_typeOf (T := "tuple") ⟨o, ho', hc⟩ ?_)
  have ht : (Value.type "tuple" == Value.type "tuple") = true := by rfl
  rw [if_pos (by rw [ht]; simp)]
  refine wpAny_bind (listItems_at ho' hd ?_)
  refine wpAny_bind (listItems_at (xs := #[]) (n := 0) (Heap.get?_push_size _ rfl) rfl ?_)
  rw [if_neg (by simp)]
  refine wpAny_bind (listUpdate_at (xs := #[]) (n := 0) (Heap.get?_push_size _ rfl) rfl ?_ (Nat.zero_le _) (by show (#[] ++ vs.toArray).size ≤ sizeLine + 1; simp only [Array.size_append, List.size_toArray, List.length_nil]; omega))
  refine wpAny_pure ?_
  show wpAny (model prog w) A (do
      let o ← load s.heap.objs.size
      match o.data with
      | .seq xs _ => pure xs.toList
      | _ => unsupported "internal:collect") Q E { s with heap := (s.heap.push (seqObj "list" #[] 0)).update s.heap.objs.size (Obj.mapSeq (· ++ vs.toArray)) }
  refine wpAny_bind (wpAny_load (get?_update_seq (Heap.get?_push_size _ rfl) _) ?_)
  show wpAny _ _ (pure ((#[] : Array Value) ++ vs.toArray).toList) Q E _
  rw [show ((#[] : Array Value) ++ vs.toArray).toList = vs by simp]
  exact wpAny_pure h
theorem sorted_tupInts {l : Addr} {vs : List Value} {ns : List Int} {Q : Value → Shared → Prop} (hl : s.heap.IsTuple l vs.toArray) (hI : IntsAre vs ns) (hL : vs.length ≤ sizeLine)
    (h : ∀ (out : Array Value) (ns' : List Int), IntsAre out.toList ns' → ns'.Perm ns → ns'.Pairwise (· ≤ ·) → Q (.ref (s.heap.objs.size + 1)) { s with heap := sortedAll s.heap vs out }) :
    wpAny (model prog w) A (call (.builtin "sorted") [.ref l]) Q E s := by
  refine Calls.call_function_entry kind_sorted plain_sorted entry_sorted (args_sorted1 _) ?_
  unfold Builtin.«sorted»
  refine wpAny_bind (m := checkCount "sorted" 1 1 _) (wpAny_pure ?_)
  refine wpAny_bind (collect_tup hl ?_ hL)
  refine wpAny_bind (wpAny_newList ?_)
  have hsz : ((s.heap.push (seqObj "list" #[] 0)).update s.heap.objs.size (Obj.mapSeq (· ++ vs.toArray))).objs.size = s.heap.objs.size + 1 := by
    rw [Heap.size_update, size_push']
  have hoL : (((s.heap.push (seqObj "list" #[] 0)).update s.heap.objs.size (Obj.mapSeq (· ++ vs.toArray))).push (seqObj "list" vs.toArray 0)).get? (s.heap.objs.size + 1) = some (seqObj "list" vs.toArray 0) := by
    rw [← hsz]; exact Heap.get?_push_size _ rfl
  show wpAny _ _ _ _ _ { s with heap := ((s.heap.push (seqObj "list" #[] 0)).update s.heap.objs.size (Obj.mapSeq (· ++ vs.toArray))).push (seqObj "list" vs.toArray 0) }
  rw [hsz]
  refine wpAny_bind (wpAny_holding (wpAny_call_entry slot_list_sort ⟨_, hoL, rfl⟩ entry_list_sort (list_sort_treeAny hoL hI hL fun out ns' a1 a2 a3 => ⟨_, rfl, ?_⟩) (args_list_sort _)))
  exact wpAny_pure ⟨_, rfl, h out ns' a1 a2 a3⟩
end
end PyProof.Rows
namespace DL
open PySem PySem.Spec PyProof.Rows L2
section
variable {X : Cx}
def rSortTup (K : PySem.W.Frag) : List V → Hp → VK → Prop := fun vs H Q => ∃ (a : Addr) (xs : List Int), vs = [V.ref a] ∧ SqT K H a (xs.map V.int) ∧ xs.length ≤ sizeLine ∧
  ∀ (ys : List Int) (p : Addr), ys.Perm xs → ys.Pairwise (· ≤ ·) → H p = none → Q (.ref p) (upd H p (.lst (ys.map V.int)))
theorem call_sortedTup : CallR X (.builtin "sorted") (rSortTup X.K) := by
  intro pins s σ H vs us Q I r h
  obtain ⟨a, xs, rfl, hs, hz, q⟩ := h
  obtain ⟨its, rv, hl, _⟩ := I.tuple hs
  rw [Vals.ref1 r]
  have hi : IntsAre its xs := by simpa using ints_of_vals rv
  have hlen0 := rv.length
  rw [List.length_map] at hlen0
  refine PyProof.Rows.sorted_tupInts hl hi (by rw [← hlen0]; exact hz) fun out ys h1 h2 h3 => ?_
  obtain ⟨ep, he'⟩ := PyProof.Rows.sortedAll_at s.heap its out
  have hlen : (ys.map V.int).length ≤ sizeLine := by rw [List.length_map, h2.length_eq]; exact hz
  exact ⟨.ref _, upd H (s.heap.objs.size + 1) (.lst (ys.map V.int)), I.laid (t' := s.toks) (fun _ _ => PyProof.Rows.sortedAll_old) (Nat.le_succ _) ⟨hlen, out.toList, ep, vals_of_ints h1, he'⟩, rfl, q ys _ h2 h3 (I.hok.fresh (Nat.le_succ _))⟩
end
/-- sorted of a tuple of numbers -/
def cSortedTup (_ : Sto) : List D → Option D
  | [d] => ((tpOf d).bind intsOf).map fun xs => .lst ((sortI xs).map .int)
  | _ => none
theorem cSortedTup_ok {K : PySem.W.Frag} : CaOk K (rSortTup K) cSortedTup := by
  intro B H st xs dxs d Q k r e g
  unfold cSortedTup at e
  split at e
  · cases r with
    | cons r1 r2 =>
      cases r2
      obtain ⟨ns, e1, rfl⟩ := Option.map_eq_some_iff.mp e
      obtain ⟨ds, e2, e3⟩ := Option.bind_eq_some_iff.mp e1
      obtain ⟨a, vs, rfl, hs, rl, z⟩ := tp_of r1 e2
      rw [intsOf_iff.mp e3] at rl z
      have e4 := rl.ints
      subst e4
      rw [List.length_map] at z
      refine ⟨a, ns, rfl, hs, z, fun ys p hp hsd hn => ?_⟩
      rw [sortI_is hp hsd]
      exact g.lst k (repL_ints _) (by rw [List.length_map, sortI_len]; exact z) p hn
  · cases e
section
variable {X : Cx} {E : XK} {a : Expr} {pos p : Pos} {n : Nat} {m : WA}
theorem e_sortedTup (fr : Frees X.mg) (ha : PAw X E [a] n m) (hg : Gl X "sorted" := by rfl) (he : starEach [a] X.env = (false, eval a X.env) :: starEach [] X.env := by rfl) : PEw X E (.Call (.Name "sorted" p) [a] [] pos) (wCall cSortedTup m) :=
  e_cb call_sortedTup cSortedTup_ok hg fr.sorted (by decide +kernel) ha (by decide) (by decide) he rfl
end
@[simp] theorem cSortedTup_ap {st : Sto} {xs : List Int} : cSortedTup st [.tup (xs.map .int)] = some (.lst ((sortI xs).map .int)) := by
  show ((intsOf (xs.map D.int)).map _) = _
  rw [intsOf_iff.mpr rfl]; rfl
end DL
/-! SH13: the well of draws; the world at its begin. -/
namespace DL
open PySem PySem.Spec PyProof.Rows L2
def F__law_well : WF := wDef 1 1 false (wSeq (wIfS (wTB (wBin dGe (wVar 0) (wC (.int 1000000000000000000)))) (wRet (wLstR (wCons (wVar 0) (wCons (wBin dMod (wVar 0) (wC (.int 2147483629))) wNil)))) wSkip) (wRet (wLstR (wCons (wC (.int 0)) (wCons (wBin dMod (wVar 0) (wC (.int 2147483629))) wNil)))))
def F__law_draw : WF := wDef 4 2 true (wSeq (wIfS (wTB (wBin dGt (wBin ixD (wVar 0) (wC (.int 0))) (wC (.int 0)))) (wSeq (wSet 3 (wBin dMod (wBin ixD (wVar 0) (wC (.int 0))) (wVar 1))) (wSeq (wPut (wVar 0) (wC (.int 0)) (wBin dFdiv (wBin ixD (wVar 0) (wC (.int 0))) (wVar 1))) (wRet (wVar 3)))) wSkip) (wSeq (wSet 2 (wBin dMod (wBin dAdd (wBin dMul (wBin ixD (wVar 0) (wC (.int 1))) (wC (.int 48271))) (wC (.int 11))) (wC (.int 2147483647)))) (wSeq (wSet 2 (wBin dMod (wBin dMul (wVar 2) (wVar 2)) (wC (.int 2147483587)))) (wSeq (wPut (wVar 0) (wC (.int 1)) (wBin dMod (wBin dAdd (wBin dMul (wVar 2) (wC (.int 69621))) (wC (.int 40692))) (wC (.int 2147483629)))) (wRet (wBin dMod (wBin dFdiv (wBin ixD (wVar 0) (wC (.int 1))) (wC (.int 8))) (wVar 1)))))))
def F_world_of : WF := wDef 2 2 true (wSeq (wIfS (wTOr (wTNot (wTT (wFn F_is_whole (wCons (wVar 0) wNil)))) (wTNot (wTT (wFn F_is_whole (wCons (wVar 1) wNil))))) (wRaise "NoDeed") wSkip) (wSeq (wIfS (wTOr (wTNot (wTB (wChain dLe dLe (wC (.int 1)) (wVar 0) (wC (.int 7))))) (wTNot (wTB (wChain dLe dLe (wC (.int 2)) (wVar 1) (wC (.int 9)))))) (wRaise "NoDeed") wSkip) (wRet (wTup (wCons (wC (.int 0)) (wCons (wVar 1) (wCons (wBin dMulT (wTup (wCons (wTup wNil) wNil)) (wVar 0)) (wCons (wBin dMulT (wTup (wCons (wTup wNil) wNil)) (wVar 0)) (wCons (wTup wNil) (wCons (wTup wNil) (wCons (wTup wNil) wNil)))))))))))

/-! ### the well -/
def WellOk (r : List D) : Prop := ∃ x y : Int, r = [.int x, .int y] ∧ 0 ≤ x ∧ 0 ≤ y ∧ y < 2147483629
section
variable {st : Sto} {X : PoX} {Q : PoE} {n m : Int}
theorem ap_well {c : Int} (h : ∀ p r, st p = none → WellOk r → Q (.ref p) (st.set p (.lst r))) : F__law_well [.int c] st X Q := by
  simp (disch := first | omega | decide +kernel) [F__law_well, wDef_ap, dMod_int]
  have b : 0 ≤ c % 2147483629 ∧ c % 2147483629 < 2147483629 := ⟨Int.emod_nonneg _ (by decide), Int.emod_lt_of_pos _ (by decide)⟩
  split
  · intro p hp
    exact h p _ hp ⟨_, _, rfl, by omega, b.1, b.2⟩
  · intro p hp
    exact h p _ hp ⟨_, _, rfl, by omega, b.1, b.2⟩
theorem ap_draw {a : Addr} {r : List D} {k : Int} (hr : st a = some (.lst r)) (ok : WellOk r) (h1 : 0 < k) (h2 : k ≤ 10 ^ 40) (h : ∀ n r', 0 ≤ n → n < k → WellOk r' → Q (.int n) (st.set a (.lst r'))) :
    F__law_draw [.ref a, .int k] st X Q := by
  obtain ⟨x, y, rfl, x0, y0, y1⟩ := ok
  have sm : (st a).isSome = true := by rw [hr]; rfl
  simp only [F__law_draw, wDef_ap]
  refine ⟨rfl, ?_⟩
  simp (disch := first | omega | decide +kernel) [ixD_ref hr]
  by_cases hf : 0 < x
  · simp (disch := first | omega | decide +kernel) [hf, dMod_int, dFdiv_int]
    rw [putD_lst hr (ds' := [.int (x / k), .int y]) rfl]
    simp [hr, Sto.keepOnly_set sm]
    exact h _ _ (emod_b x h1).1 (emod_b x h1).2 ⟨_, _, rfl, Int.ediv_nonneg x0 (by omega), y0, y1⟩
  · have my : Mid y := ⟨by omega, by omega⟩
    simp (disch := first | omega | decide +kernel) [hf, dMul_int my, dMod_int]
    have b1 := emod_b (y * 48271 + 11) (k := 2147483647) (by decide)
    have m1 : Mid ((y * 48271 + 11) % 2147483647) := ⟨by omega, by omega⟩
    rw [dMul_int m1 m1]
    simp (disch := first | omega | decide +kernel) [dMod_int]
    generalize (y * 48271 + 11) % 2147483647 = s at *
    have b2 := emod_b (s * s) (k := 2147483587) (by decide)
    have m2 : Mid (s * s % 2147483587) := ⟨by omega, by omega⟩
    generalize s * s % 2147483587 = z at *
    simp (disch := first | omega | decide +kernel) [dMul_int m2, dMod_int]
    have b := emod_b (z * 69621 + 40692) (k := 2147483629) (by decide)
    rw [putD_lst hr (ds' := [.int x, .int ((z * 69621 + 40692) % 2147483629)]) rfl]
    have e : (st.set a (.lst [.int x, .int ((z * 69621 + 40692) % 2147483629)])) a = some (.lst [.int x, .int ((z * 69621 + 40692) % 2147483629)]) := Sto.set_same
    simp (disch := first | omega | decide +kernel) [ixD_ref e, dMod_int, dFdiv_int, Sto.keepOnly_set sm]
    exact h _ _ (emod_b _ h1).1 (emod_b _ h1).2 ⟨_, _, rfl, x0, b.1, b.2⟩

/-- two cells, then the script's -/
def cells2 (script : List Int) (n : Int) : List Int := [0, 5] ++ script.take n.toNat
theorem scriptL2 {st : Sto} {script : List Int} {n : Int} (hl : script.length ≤ 63) (h : 0 ≤ n) : dAdd st (.lst [.int 0, .int 5]) (.lst (DL.cutD (script.map D.int) none (some n))) = some (.lst ((cells2 script n).map .int)) := by
  rw [cutD_to h, dAdd_lst (by
    have : sizeLine = 16777216 := rfl
    have := List.length_take_le n.toNat (script.map D.int)
    simp at this ⊢
    omega)]
  simp [cells2]
/-! ### whole numbers, of any thing -/
/-- the thing's kind is known; a whole number is an int -/
def Kn (st : Sto) (d : D) : Prop := ∃ t, tyNm st d = some t
def isI : D → Bool
  | .int _ => true
  | _ => false
theorem kn_int {st : Sto} {i : Int} : Kn st (.int i) := ⟨_, rfl⟩
theorem ty_isI {st : Sto} {d : D} {t : String} (h : tyNm st d = some t) : (isiB t "int" && !isiB t "bool") = isI d := by
  cases d with
  | ref a =>
    unfold tyNm at h
    simp only at h
    split at h <;> cases h <;> rfl
  | non => cases h; rfl
  | bl b => cases h; rfl
  | int i => cases h; rfl
  | str x => cases h; rfl
  | tup ds => cases h; rfl
  | kt ds => cases h; rfl
  | lst ds => cases h; rfl
  | kl ds => cases h; rfl
  | ty n => cases h
  | exc x => cases h
  | cls x => cases h
theorem ap_is_wholeD {d : D} (hk : Kn st d) (hq : Q (.bl (isI d)) st) : F_is_whole [d] st X Q := by
  obtain ⟨t, ht⟩ := hk
  have e := ty_isI ht
  simp only [F_is_whole, wDef_ap]
  refine ⟨rfl, ?_⟩
  simp [ht]
  simp [isiB] at e ⊢
  by_cases h1 : t = "int"
  · subst h1
    simp at e ⊢
    rw [e] at hq
    exact hq
  · by_cases h2 : t = "bool"
    · subst h2
      simp at e ⊢
      rw [e] at hq
      exact hq
    · simp [h1, h2] at e ⊢
      rw [e] at hq
      exact hq
/-- the empty logs, rows of notices of a world's begin -/
def emptyN (m : Int) : List D := List.replicate m.toNat (.tup [])
def worldD0 (m t : Int) : D := .tup [.int 0, .int t, .tup (emptyN m), .tup (emptyN m), .tup [], .tup [], .tup []]
def okMT (m t : D) : Option (Int × Int) := match m, t with
  | .int i, .int j => if 1 ≤ i ∧ i ≤ 7 ∧ 2 ≤ j ∧ j ≤ 9 then some (i, j) else none
  | _, _ => none
theorem mul_empty {m : Int} (h1 : 1 ≤ m) (h2 : m ≤ 7) : dMulT st (.tup [.tup []]) (.int m) = some (.tup (emptyN m)) := by
  have : m = 1 ∨ m = 2 ∨ m = 3 ∨ m = 4 ∨ m = 5 ∨ m = 6 ∨ m = 7 := by omega
  rcases this with rfl | rfl | rfl | rfl | rfl | rfl | rfl <;> rfl
theorem ap_world_of {m t : D} (hm : Kn st m) (ht : Kn st t) (hx : okMT m t = none → X (Str.ofString "NoDeed") st) (hq : ∀ i j, m = .int i → t = .int j → okMT m t = some (i, j) → 1 ≤ i → i ≤ 7 → 2 ≤ j → j ≤ 9 → Q (worldD0 i j) st) : F_world_of [m, t] st X Q := by
  simp only [F_world_of, wDef_ap]
  refine ⟨rfl, ?_⟩
  simp [-wIfS_ap]
  rw [wIfS_ap]
  simp
  refine ap_is_wholeD hm ?_
  cases hi : isI m with
  | false =>
    simp
    refine hx ?_
    cases m <;> first | rfl | (cases hi)
  | true =>
    simp
    refine ap_is_wholeD ht ?_
    cases hj : isI t with
    | false =>
      simp
      refine hx ?_
      unfold okMT
      cases m <;> cases t <;> first | rfl | (cases hj)
    | true =>
      obtain ⟨i, rfl⟩ : ∃ i, m = .int i := by cases m <;> first | exact ⟨_, rfl⟩ | cases hi
      obtain ⟨j, rfl⟩ : ∃ j, t = .int j := by cases t <;> first | exact ⟨_, rfl⟩ | cases hj
      have key : okMT (.int i) (.int j) = if 1 ≤ i ∧ i ≤ 7 ∧ 2 ≤ j ∧ j ≤ 9 then some (i, j) else none := rfl
      by_cases ok : 1 ≤ i ∧ i ≤ 7 ∧ 2 ≤ j ∧ j ≤ 9
      · rw [if_pos ok] at key
        obtain ⟨a1, a2, a3, a4⟩ := ok
        simp [a1, a2, a3, a4, mul_empty a1 a2]
        exact hq i j rfl rfl key a1 a2 a3 a4
      · rw [if_neg ok] at key
        have hx' := hx key
        by_cases a1 : 1 ≤ i
        · by_cases a2 : i ≤ 7
          · by_cases a3 : 2 ≤ j
            · have a4 : ¬ j ≤ 9 := fun z => ok ⟨a1, a2, a3, z⟩
              simpa [a1, a2, a3, a4] using hx'
            · simpa [a1, a2, a3] using hx'
          · simpa [a1, a2] using hx'
        · simpa [a1] using hx'
end
end DL
/-! SH14: deeds; notices kept; a tuple with another thing at a place. -/
namespace DL
open PySem PySem.Spec PyProof.Rows L2
def F_is_side : WF := wDef 3 2 true (wSeq (wIfS (wTOr (wTNot (wTT (wCall cIsi (wCons (wVar 1) (wCons (wC (.ty "tuple")) wNil))))) (wTB (wBin dNe (wComp (wiSeq (wVar 1)) (.nm 2) (wTNot (wTT (wFn F_is_house (wCons (wVar 0) (wCons (wVar 2) wNil))))) (wVar 2) [2]) (wLst wNil)))) (wRet (wC (.bl false))) wSkip) (wRet (wAnd (wChain dLt dLt (wC (.int 0)) (wCall cLen (wCons (wVar 1) wNil)) (wVar 0)) (wBin dEq (wCall cList (wCons (wVar 1) wNil)) (wSortSet (wVar 1))))))
def F_fits : WF := wDef 3 3 true (wSeq (wIfS (wTB (wBin dEq (wVar 1) (wC (.str "house")))) (wRet (wFn F_is_house (wCons (wVar 0) (wCons (wVar 2) wNil)))) wSkip) (wSeq (wIfS (wTB (wBin dEq (wVar 1) (wC (.str "name")))) (wRet (wFn F_is_name (wCons (wVar 2) wNil))) wSkip) (wSeq (wIfS (wTB (wBin dEq (wVar 1) (wC (.str "place")))) (wRet (wAnd (wFn F_is_whole (wCons (wVar 2) wNil)) (wBin dGe (wVar 2) (wC (.int 0))))) wSkip) (wRet (wFn F_is_side (wCons (wVar 0) (wCons (wVar 2) wNil)))))))
def F_is_deed : WF := wDef 5 2 true (wSeq (wIfS (wTOr (wTNot (wTT (wCall cIsi (wCons (wVar 1) (wCons (wC (.ty "tuple")) wNil))))) (wTOr (wTB (wBin dEq (wVar 1) (wTup wNil))) (wTOr (wTNot (wTT (wCall cIsi (wCons (wBin ixD (wVar 1) (wC (.int 0))) (wCons (wC (.ty "str")) wNil))))) (wTB (wNinTab T_deeds (wBin ixD (wVar 1) (wC (.int 0)))))))) (wRet (wC (.bl false))) wSkip) (wSeq (wSet 2 (wTabAt T_deeds (wBin ixD (wVar 1) (wC (.int 0))))) (wSeq (wIfS (wTB (wBin dNe (wCall cLen (wCons (wVar 1) wNil)) (wBin dAdd (wC (.int 1)) (wCall cLen (wCons (wVar 2) wNil))))) (wRet (wC (.bl false))) wSkip) (wRet (wBin dEq (wComp (wiZip (wCons (wVar 2) (wCons (wSl (wVar 1) (wPart (wC (.int 1))) wNo) wNil))) (.tp [(.nm 3), (.nm 4)]) (wTNot (wTT (wFn F_fits (wCons (wVar 0) (wCons (wVar 3) (wCons (wVar 4) wNil)))))) (wC (.int 1)) [3, 4]) (wLst wNil))))))
def F_at_place : WF := wDef 3 3 true (wRet (wBin dAdd (wBin dAdd (wSl (wVar 0) wNo (wPart (wVar 1))) (wTup (wCons (wVar 2) wNil))) (wSl (wVar 0) (wPart (wBin dAdd (wVar 1) (wC (.int 1)))) wNo)))
def F_kept_notice : WF := wDef 5 2 true (wSeq (wSet 2 (wDictP (wCons (wComp (wiSeq (wVar 0)) (.nm 3) wYes (wTup (wCons (wBin ixD (wVar 3) (wC (.int 0))) (wCons (wVar 3) wNil))) [3]) wNil))) (wSeq (wIfS (wTAnd (wTB (wBin dIsNot (wVar 1) (wC .non))) (wTOr (wTB (wBin dNotIn (wBin ixD (wVar 1) (wC (.int 0))) (wVar 2))) (wTB (wBin dLe (wBin ixD (wBin ixD (wVar 2) (wBin ixD (wVar 1) (wC (.int 0)))) (wC (.int 4))) (wBin ixD (wVar 1) (wC (.int 4))))))) (wPut (wVar 2) (wBin ixD (wVar 1) (wC (.int 0))) (wVar 1)) wSkip) (wRet (wCall cTuple (wCons (wComp (wiSeq (wCall cSortedT (wCons (wVar 2) wNil))) (.nm 4) wYes (wBin ixD (wVar 2) (wVar 4)) [4]) wNil)))))
/-! ### dicts of texts -/
def encT {α : Type} (f : α → D) (kvs : List (Str × α)) : List (L2.Key × D) := kvs.map fun q => ((Sum.inr q.1 : L2.Key), f q.2)
def getT {α : Type} (kvs : List (Str × α)) (k : Str) : Option α := (kvs.find? fun q => decide (q.1 = k)).map (·.2)
def putT {α : Type} (kvs : List (Str × α)) (k : Str) (v : α) : List (Str × α) := if kvs.any (fun q => decide (q.1 = k)) then kvs.map (fun q => if q.1 = k then (q.1, v) else q) else kvs ++ [(k, v)]
section
variable {α : Type} {f : α → D} {kvs more : List (Str × α)} {st : Sto} {a : Addr} {k : Str} {v : α}
theorem encT_val : ∀ {kvs : List (Str × α)}, valD (encT f kvs) (Sum.inr k) = (getT kvs k).map f
  | [] => rfl
  | (a, b) :: r => by
    show (if (Sum.inr a : L2.Key) = Sum.inr k then some (f b) else valD (encT f r) (Sum.inr k)) = _
    unfold getT
    by_cases h : a = k
    · subst h; simp
    · rw [if_neg (fun z => h (Sum.inr.inj z)), encT_val, List.find?_cons_of_neg (by simpa using h)]; rfl
theorem encT_put : putKD (encT f kvs) (Sum.inr k) (f v) = encT f (putT kvs k v) := by
  have ha : ((encT f kvs).any fun kv => decide (kv.1 = (Sum.inr k : L2.Key))) = kvs.any fun q => decide (q.1 = k) := by
    unfold encT
    rw [List.any_map]
    congr 1
    funext q
    show decide ((Sum.inr q.1 : L2.Key) = Sum.inr k) = decide (q.1 = k)
    by_cases h : q.1 = k
    · rw [h]; simp
    · rw [decide_eq_false h, decide_eq_false (fun z => h (Sum.inr.inj z))]
  unfold putKD putT
  rw [ha]
  split
  · unfold encT
    rw [List.map_map, List.map_map]
    refine List.map_congr_left fun q _ => ?_
    show (if (Sum.inr q.1 : L2.Key) = Sum.inr k then ((Sum.inr q.1 : L2.Key), f v) else (Sum.inr q.1, f q.2)) = ((Sum.inr (if q.1 = k then (q.1, v) else q).1 : L2.Key), f (if q.1 = k then (q.1, v) else q).2)
    by_cases h : q.1 = k
    · rw [if_pos h, if_pos (by rw [h])]
    · rw [if_neg h, if_neg (fun z => h (Sum.inr.inj z))]
  · unfold encT
    rw [List.map_append]; rfl
theorem dctGet_T (h : st a = some (.dk (encT f kvs))) : dctGet (st a) (.str k) = some ((getT kvs k).map f) := by
  rw [h]
  show (keyOf (.str k)).map (fun key => valD (encT f kvs) key) = _
  show some (valD (encT f kvs) (Sum.inr k)) = _
  rw [encT_val]
theorem putD_T (h : st a = some (.dk (encT f kvs))) (hz : kvs.length < sizeLine) : putD st (.ref a) (.str k) (f v) = some (st.set a (.dk (encT f (putT kvs k v)))) := by
  unfold putD
  simp only
  rw [h]
  show (if (encT f kvs).length < sizeLine then some (st.set a (.dk (putKD (encT f kvs) (Sum.inr k) (f v)))) else none) = _
  rw [if_pos (by unfold encT; rw [List.length_map]; exact hz), encT_put]
theorem keysT_enc : ∀ {kvs : List (Str × α)}, keysT (encT f kvs) = some (kvs.map (·.1))
  | [] => rfl
  | (a, b) :: r => by
    show (keysT (encT f r)).map (a :: ·) = _
    rw [keysT_enc]; rfl
theorem getT_some : (getT kvs k).isSome = decide (k ∈ kvs.map (·.1)) := by
  unfold getT
  rw [Option.isSome_map, Bool.eq_iff_iff, List.find?_isSome]
  simp only [decide_eq_true_iff, List.mem_map]
theorem inB_T (h : st a = some (.dk (encT f kvs))) : inB st (.str k) (.ref a) = some (decide (k ∈ kvs.map (·.1))) := by
  have e : sqOf st (.ref a) = none := by show cellL (st a) = none; rw [h]; rfl
  show (match sqOf st (.ref a) with | some ds => anyEq st ds (.str k) | none => (dctGet (st a) (.str k)).map Option.isSome) = _
  rw [e]
  show (dctGet (st a) (.str k)).map Option.isSome = _
  rw [dctGet_T h]
  show some ((getT kvs k).map f).isSome = _
  rw [Option.isSome_map, getT_some]
theorem dIn_T (h : st a = some (.dk (encT f kvs))) : dIn st (.str k) (.ref a) = some (.bl (decide (k ∈ kvs.map (·.1)))) := by
  show (inB st (.str k) (.ref a)).map D.bl = _
  rw [inB_T h]; rfl
theorem dNotIn_T (h : st a = some (.dk (encT f kvs))) : dNotIn st (.str k) (.ref a) = some (.bl (!decide (k ∈ kvs.map (·.1)))) := by
  show (inB st (.str k) (.ref a)).map (fun b => D.bl (!b)) = _
  rw [inB_T h]; rfl
theorem ixD_T (h : st a = some (.dk (encT f kvs))) (e : getT kvs k = some v) : ixD st (.ref a) (.str k) = some (f v) := by
  have e1 : sqOf st (.ref a) = none := by show cellL (st a) = none; rw [h]; rfl
  show (match sqOf st (.ref a) with | some ds => none | none => (dctGet (st a) (.str k)).bind id) = _
  rw [e1]
  show (dctGet (st a) (.str k)).bind id = _
  rw [dctGet_T h, e]; rfl
theorem pairsL_T : ∀ {kvs : List (Str × α)}, pairsL (kvs.map fun q => .tup [.str q.1, f q.2]) = some (encT f kvs)
  | [] => rfl
  | q :: r => by
    show (keyOf (.str q.1)).bind (fun k => (pairsL (r.map fun q => .tup [.str q.1, f q.2])).map ((k, f q.2) :: ·)) = _
    rw [pairsL_T]; rfl
theorem mergeD_T : ∀ {more kvs : List (Str × α)}, mergeD (encT f kvs) (encT f more) = encT f (more.foldl (fun acc q => putT acc q.1 q.2) kvs)
  | [], _ => rfl
  | q :: r, kvs => by
    show mergeD (putKD (encT f kvs) (Sum.inr q.1) (f q.2)) (encT f r) = _
    rw [encT_put, mergeD_T]; rfl
theorem putT_new (h : k ∉ kvs.map (·.1)) : putT kvs k v = kvs ++ [(k, v)] := by
  unfold putT
  rw [if_neg]
  intro z
  obtain ⟨q, hq, e⟩ := List.any_eq_true.mp z
  exact h (List.mem_map.mpr ⟨q, hq, of_decide_eq_true e⟩)
theorem putT_old (h : k ∈ kvs.map (·.1)) : putT kvs k v = kvs.map fun q => if q.1 = k then (q.1, v) else q := by
  unfold putT
  rw [if_pos]
  obtain ⟨q, hq, e⟩ := List.mem_map.mp h
  exact List.any_eq_true.mpr ⟨q, hq, decide_eq_true e⟩
theorem putT_keys : (putT kvs k v).map (·.1) = if k ∈ kvs.map (·.1) then kvs.map (·.1) else kvs.map (·.1) ++ [k] := by
  by_cases h : k ∈ kvs.map (·.1)
  · rw [putT_old h, if_pos h, List.map_map]
    refine List.map_congr_left fun q _ => ?_
    show (if q.1 = k then (q.1, v) else q).1 = q.1
    split <;> rfl
  · rw [putT_new h, if_neg h, List.map_append]; rfl
theorem foldT : ∀ {more kvs : List (Str × α)}, (kvs.map (·.1) ++ more.map (·.1)).Nodup → more.foldl (fun acc q => putT acc q.1 q.2) kvs = kvs ++ more
  | [], kvs, _ => by simp
  | q :: r, kvs, h => by
    have h1 : q.1 ∉ kvs.map (·.1) := fun z => by
      have := (List.nodup_append.mp h).2.2 q.1 z q.1 (by simp)
      exact this rfl
    rw [List.foldl_cons, putT_new h1, foldT (by simpa using h)]
    simp
theorem getT_mem {q : Str × α} (hd : (kvs.map (·.1)).Nodup) (h : q ∈ kvs) : getT kvs q.1 = some q.2 := by
  induction kvs with
  | nil => cases h
  | cons p r ih =>
    rw [List.map_cons, List.nodup_cons] at hd
    unfold getT
    rcases List.mem_cons.mp h with rfl | h
    · simp
    · have e : p.1 ≠ q.1 := fun z => hd.1 (z ▸ List.mem_map.mpr ⟨q, h, rfl⟩)
      rw [List.find?_cons_of_neg (by simpa using e)]
      exact ih hd.2 h
end

/-! ### a tuple with another thing at a place -/
section
variable {st : Sto} {X : PoX} {Q : PoE} {i m : Int} {x : D} {ds : List D}
theorem set_cut (h0 : 0 ≤ i) (h1 : i < ds.length) : ds.take i.toNat ++ x :: ds.drop (i.toNat + 1) = ds.set i.toNat x := by
  rw [List.set_eq_take_append_cons_drop, if_pos (by omega)]
theorem ap_at_place (h0 : 0 ≤ i) (h1 : i < ds.length) (hz : ds.length ≤ 1000000) (hq : Q (.tup (ds.set i.toNat x)) st) : F_at_place [.tup ds, .int i, x] st X Q := by
  simp only [F_at_place, wDef_ap]
  refine ⟨rfl, ?_⟩
  have e1 : (i + 1).toNat = i.toNat + 1 := by omega
  have z := List.length_take_le i.toNat ds
  have sz := sizeLine_eq
  simp [cutD_to h0, cutD_from (show 0 ≤ i + 1 by omega), e1]
  rw [dAdd_tup (by rw [List.length_singleton]; omega), on_some, dAdd_tup (by rw [List.length_append, List.length_singleton, List.length_drop]; omega), on_some, List.append_assoc, List.singleton_append, set_cut h0 h1]
  exact hq
end

/-! ### notices -/
def ntsD (l : List Nt) : D := .tup (l.map Nt.d)
def ltT (a b : Str) : Prop := leT a b ∧ a ≠ b
/-- names rising -/
def NtsOk (l : List Nt) : Prop := (l.map (·.n)).Pairwise ltT ∧ ∀ z ∈ l, nameOk z.n = true
def insNt (z : Nt) : List Nt → List Nt
  | [] => [z]
  | y :: r => if leT z.n y.n then z :: y :: r else y :: insNt z r
def keepN (l : List Nt) : Option Nt → List Nt
  | none => l
  | some z => match l.find? (fun y => decide (y.n = z.n)) with
    | none => insNt z l
    | some y => if y.u ≤ z.u then l.map (fun o => if o.n = z.n then z else o) else l
theorem ltT_nodup {l : List Str} (h : l.Pairwise ltT) : l.Nodup := h.imp fun h => h.2
theorem ltT_le {l : List Str} (h : l.Pairwise ltT) : l.Pairwise leT := h.imp fun h => h.1
theorem insNt_perm {z : Nt} : ∀ {l : List Nt}, (insNt z l).Perm (z :: l)
  | [] => .refl _
  | y :: r => by
    unfold insNt
    split
    · exact .refl _
    · exact (insNt_perm.cons y).trans (.swap z y r)
theorem insNt_srt {z : Nt} : ∀ {l : List Nt}, (l.map (·.n)).Pairwise ltT → z.n ∉ l.map (·.n) → ((insNt z l).map (·.n)).Pairwise ltT
  | [], _, _ => by simp [insNt]
  | y :: r, h, hn => by
    rw [List.map_cons] at h hn
    obtain ⟨h1, h2⟩ := List.pairwise_cons.mp h
    unfold insNt
    split
    · rename_i le
      rw [List.map_cons]
      refine List.pairwise_cons.mpr ⟨fun x hx => ?_, by rw [List.map_cons]; exact h⟩
      have ne : z.n ≠ x := fun e => hn (by rw [e]; simpa using hx)
      rw [List.map_cons] at hx
      rcases List.mem_cons.mp hx with rfl | hx
      · exact ⟨le, ne⟩
      · exact ⟨leT_trans le (h1 x hx).1, ne⟩
    · rename_i le
      rw [List.map_cons]
      refine List.pairwise_cons.mpr ⟨fun x hx => ?_, insNt_srt h2 fun e => hn (List.mem_cons_of_mem _ e)⟩
      have hx2 := (insNt_perm.map (·.n)).mem_iff.mp hx
      rw [List.map_cons] at hx2
      rcases List.mem_cons.mp hx2 with rfl | hx2
      · exact ⟨(leT_total _ _).resolve_left le, fun e => hn (by rw [e]; exact List.mem_cons_self)⟩
      · exact h1 x hx2
theorem find_none {l : List Nt} {n : Str} (h : l.find? (fun y => decide (y.n = n)) = none) : n ∉ l.map (·.n) := fun z => by
  obtain ⟨y, hy, e⟩ := List.mem_map.mp z
  have := List.find?_eq_none.mp h y hy
  simp [e] at this
theorem keepN_ok {l : List Nt} {no : Option Nt} (h : NtsOk l) (hn : ∀ z, no = some z → nameOk z.n = true) : NtsOk (keepN l no) := by
  cases no with
  | none => exact h
  | some z =>
    have hz := hn z rfl
    unfold keepN
    simp only
    split
    · rename_i e
      refine ⟨insNt_srt h.1 (find_none e), fun y hy => ?_⟩
      rcases List.mem_cons.mp (insNt_perm.mem_iff.mp hy) with rfl | hy
      · exact hz
      · exact h.2 y hy
    · split
      · refine ⟨?_, fun y hy => ?_⟩
        · have e : (l.map fun o => if o.n = z.n then z else o).map (·.n) = l.map (·.n) := by
            rw [List.map_map]
            refine List.map_congr_left fun o _ => ?_
            show (if o.n = z.n then z else o).n = o.n
            split
            · rename_i e; exact e.symm
            · rfl
          rw [e]; exact h.1
        · obtain ⟨o, ho, rfl⟩ := List.mem_map.mp hy
          split
          · exact hz
          · exact h.2 o ho
      · exact h
theorem keepN_len {l : List Nt} {no : Option Nt} : (keepN l no).length ≤ l.length + 1 := by
  cases no with
  | none => exact Nat.le_succ _
  | some z =>
    unfold keepN
    simp only
    split
    · rw [insNt_perm.length_eq]; exact Nat.le_refl _
    · split
      · rw [List.length_map]; exact Nat.le_succ _
      · exact Nat.le_succ _
theorem nameOk_okS {x : Str} (h : nameOk x = true) : okS x = true := by
  unfold nameOk at h
  simp only [Bool.and_eq_true, decide_eq_true_iff] at h
  unfold okS PyData.strOk
  rw [Array.all_eq_true']
  intro c hc
  have h1 := List.all_eq_true.mp h.2 c (Array.mem_def.mp hc)
  simp only [Bool.and_eq_true, decide_eq_true_iff] at h1
  simp
  omega
def ntP (z : Nt) : Str × Nt := (z.n, z)
theorem ntP_keys {l : List Nt} : (l.map ntP).map (·.1) = l.map (·.n) := by rw [List.map_map]; rfl
/-- what a dict of notices tells, sorted -/
theorem told_sorted {kvs l' : List Nt} (hp : l'.Perm kvs) (hs : (l'.map (·.n)).Pairwise ltT) : (sortT (kvs.map (·.n))).map (fun n => (getT (kvs.map ntP) n).map Nt.d) = l'.map fun z => some z.d := by
  have e : l'.map (·.n) = sortT (kvs.map (·.n)) := sortT_pw (hp.map _) (ltT_le hs)
  have nd : ((kvs.map ntP).map (·.1)).Nodup := by rw [ntP_keys]; exact (hp.map _).nodup_iff.mp (ltT_nodup hs)
  rw [← e, List.map_map]
  refine List.map_congr_left fun z hz => ?_
  show (getT (kvs.map ntP) z.n).map Nt.d = some z.d
  have e2 : getT (kvs.map ntP) z.n = some z := getT_mem (q := ntP z) nd (List.mem_map.mpr ⟨z, hp.mem_iff.mp hz, rfl⟩)
  rw [e2]; rfl
theorem getT_find {l : List Nt} {n : Str} : getT (l.map ntP) n = l.find? fun y => decide (y.n = n) := by
  induction l with
  | nil => rfl
  | cons y r ih =>
    unfold getT at ih ⊢
    rw [List.map_cons]
    by_cases h : y.n = n
    · rw [List.find?_cons_of_pos (by simp [ntP, h]), List.find?_cons_of_pos (by simp [h])]; rfl
    · rw [List.find?_cons_of_neg (by simp [ntP, h]), List.find?_cons_of_neg (by simp [h])]; exact ih
theorem putT_nt {l : List Nt} {z : Nt} : putT (l.map ntP) z.n z = if z.n ∈ l.map (·.n) then (l.map fun o => if o.n = z.n then z else o).map ntP else (l ++ [z]).map ntP := by
  by_cases h : z.n ∈ l.map (·.n)
  · rw [putT_old (by rw [ntP_keys]; exact h), if_pos h, List.map_map, List.map_map]
    refine List.map_congr_left fun o _ => ?_
    show (if (ntP o).1 = z.n then ((ntP o).1, z) else ntP o) = ntP (if o.n = z.n then z else o)
    by_cases e : o.n = z.n
    · rw [if_pos e, if_pos (show (ntP o).1 = z.n from e)]
      show ((ntP o).1, z) = (z.n, z)
      rw [show (ntP o).1 = z.n from e]
    · rw [if_neg e, if_neg (show ¬ (ntP o).1 = z.n from e)]
  · rw [putT_new (by rw [ntP_keys]; exact h), if_neg h, List.map_append]; rfl
section
variable {st : Sto} {X : PoX} {Q : PoE} {l : List Nt} {no : Option Nt}
theorem kept_end {st1 : Sto} {a : Addr} {kvs l' : List Nt} {b c : Option D} {QA : List D → Sto → Prop} (h : st1 a = some (.dk (encT Nt.d (kvs.map ntP)))) (hk : ∀ z ∈ kvs, nameOk z.n = true) (hl : kvs.length ≤ 1000000) (hp : l'.Perm kvs) (hs : (l'.map (·.n)).Pairwise ltT) (hq : QA (l'.map Nt.d) st1) :
    on (cSortedT st1 [.ref a]) fun d => on (sqOf st1 d) fun ds => wCompL (.nm 4) wYes (wBin ixD (wVar 2) (wVar 4)) (fun st' => sqOf st' d = some ds) [b, c, some (.ref a), none, none] QA ds [] st1 := by
  have e : cSortedT st1 [.ref a] = some (.lst ((sortT (kvs.map (·.n))).map .str)) := by
    unfold cSortedT
    simp only
    rw [h]
    simp only
    rw [keysT_enc, ntP_keys]
    show (if _ ∧ _ then _ else _) = _
    rw [if_pos ⟨by rw [List.length_map, sizeLine_eq]; omega, List.all_eq_true.mpr fun x hx => by
      obtain ⟨z, hz, rfl⟩ := List.mem_map.mp hx
      exact nameOk_okS (hk z hz)⟩]
  have ts := told_sorted hp hs
  have nd : ((kvs.map ntP).map (·.1)).Nodup := by rw [ntP_keys]; exact (hp.map _).nodup_iff.mp (ltT_nodup hs)
  rw [e]
  simp only [on_some, sqOf_lst]
  refine compL_imp (enc := D.str) (fun n : Str => [b, c, some (.ref a), none, some (.str n)]) (fun _ => true) (fun n => ((getT (kvs.map ntP) n).map Nt.d).getD .non) ?_ ?_ ?_ trivial ?_
  · simp
  · intro n hn Q hq
    simpa using hq
  · intro n hn _ Q hq
    have hm : n ∈ kvs.map (·.n) := (sortT_perm _).mem_iff.mp hn
    obtain ⟨z, hz, rfl⟩ := List.mem_map.mp hm
    have e2 : getT (kvs.map ntP) z.n = some z := getT_mem (q := ntP z) nd (List.mem_map.mpr ⟨z, hz, rfl⟩)
    rw [e2] at hq
    simp
    rw [ixD_T h e2]
    exact hq
  · have e3 : (sortT (kvs.map (·.n))).map (fun n => ((getT (kvs.map ntP) n).map Nt.d).getD .non) = l'.map Nt.d := by
      have := congrArg (List.map fun o => Option.getD o D.non) ts
      rw [List.map_map, List.map_map] at this
      exact this
    rw [List.nil_append, List.filter_eq_self.mpr (fun _ _ => rfl), e3]
    exact hq
theorem ap_kept_notice (hok : NtsOk l) (hl : l.length ≤ 100000) (hn : ∀ z, no = some z → nameOk z.n = true) (hq : Q (ntsD (keepN l no)) st) : F_kept_notice [ntsD l, ntD no] st X Q := by
  have nd : (l.map (·.n)).Nodup := ltT_nodup hok.1
  simp only [F_kept_notice, wDef_ap]
  refine ⟨rfl, ?_⟩
  simp [ntsD]
  refine compL_imp (enc := Nt.d) (fun z : Nt => [some (.tup (l.map Nt.d)), some (ntD no), none, some z.d, none]) (fun _ => true) (fun z => .tup [.str z.n, z.d]) ?_ ?_ ?_ trivial ?_
  · simp
  · intro z hz Q hq
    simpa using hq
  · intro z hz _ Q hq
    simpa [Nt.d] using hq
  · have e1 : ([] : List D) ++ (l.filter fun _ => true).map (fun z => D.tup [.str z.n, z.d]) = (l.map ntP).map fun q => .tup [.str q.1, Nt.d q.2] := by
      rw [List.filter_eq_self.mpr (fun _ _ => rfl), List.nil_append, List.map_map]; rfl
    rw [e1]
    simp only [pairsL_T, lsOf_lst, Option.bind_some, on_some]
    intro p hp
    have em : mergeD [] (encT Nt.d (l.map ntP)) = encT Nt.d (l.map ntP) := by
      rw [show ([] : List (L2.Key × D)) = encT Nt.d [] from rfl, mergeD_T, foldT (by rw [List.map_nil, List.nil_append, ntP_keys]; exact nd)]
      rfl
    rw [em]
    generalize hst : st.set p (.dk (encT Nt.d (l.map ntP))) = st1
    have h1 : st1 p = some (.dk (encT Nt.d (l.map ntP))) := by rw [← hst, Sto.set_same]
    have kn : st1.keepOnly st = st := by rw [← hst, Sto.keepOnly_new hp, Sto.keepOnly_self]
    have kn2 : ∀ c, (st1.set p c).keepOnly st = st := fun c => by rw [← hst, Sto.set_set, Sto.keepOnly_new hp, Sto.keepOnly_self]
    have fin : ∀ {st2 : Sto} {kvs l' : List Nt} {b c : Option D}, st2 p = some (.dk (encT Nt.d (kvs.map ntP))) → (∀ z ∈ kvs, nameOk z.n = true) → kvs.length ≤ 1000000 → l'.Perm kvs → (l'.map (·.n)).Pairwise ltT → Q (ntsD l') (st2.keepOnly st) →
        on (cSortedT st2 [.ref p]) fun d => on (sqOf st2 d) fun ds => wCompL (.nm 4) wYes (wBin ixD (wVar 2) (wVar 4)) (fun st' => sqOf st' d = some ds) [b, c, some (.ref p), none, none] (fun acc st2 => Q (.tup acc) (st2.keepOnly st)) ds [] st2 :=
      fun {st2 kvs l' b c} h hk hl hp hs hq => kept_end h hk hl hp hs hq
    cases no with
    | none =>
      simp [ntD]
      refine fin h1 hok.2 (by omega) (.refl _) hok.1 ?_
      rw [kn]
      exact hq
    | some z =>
      have hz := hn z rfl
      simp [ntD, Nt.d]
      rw [dNotIn_T h1, ntP_keys]
      simp
      have gf : getT (l.map ntP) z.n = l.find? fun y => decide (y.n = z.n) := getT_find
      unfold keepN at hq
      simp only at hq
      cases hf : l.find? (fun y => decide (y.n = z.n)) with
      | none =>
        rw [hf] at hq gf
        have nm := find_none hf
        have hp2 : putD st1 (.ref p) (.str z.n) (D.tup [D.str z.n, D.int z.h, D.int z.k, D.str z.p, D.int z.u]) = some (st1.set p (.dk (encT Nt.d ((l ++ [z]).map ntP)))) := by
          have := putD_T (k := z.n) (v := z) h1 (by rw [List.length_map, sizeLine_eq]; omega)
          rw [putT_nt, if_neg nm] at this
          exact this
        rw [if_pos fun x hx e => nm (List.mem_map.mpr ⟨x, hx, e⟩), hp2, on_some]
        refine fin Sto.set_same (fun y hy => ?_) (by rw [List.length_append, List.length_singleton]; omega) (insNt_perm.trans (List.perm_append_singleton z l).symm) (insNt_srt hok.1 nm) ?_
        · rcases List.mem_append.mp hy with hy | hy
          · exact hok.2 y hy
          · rw [List.mem_singleton.mp hy]; exact hz
        · rw [kn2]; exact hq
      | some y =>
        rw [hf] at hq gf
        have hm : z.n ∈ l.map (·.n) := by
          have := List.find?_some hf
          exact List.mem_map.mpr ⟨y, List.mem_of_find?_eq_some hf, of_decide_eq_true this⟩
        have hp2 : putD st1 (.ref p) (.str z.n) (D.tup [D.str z.n, D.int z.h, D.int z.k, D.str z.p, D.int z.u]) = some (st1.set p (.dk (encT Nt.d ((l.map fun o => if o.n = z.n then z else o).map ntP)))) := by
          have := putD_T (k := z.n) (v := z) h1 (by rw [List.length_map, sizeLine_eq]; omega)
          rw [putT_nt, if_pos hm] at this
          exact this
        rw [if_neg fun w => by
          obtain ⟨x, hx, e⟩ := List.mem_map.mp hm
          exact w x hx e]
        rw [ixD_T h1 gf]
        simp [Nt.d]
        by_cases hu : y.u ≤ z.u
        · simp only [hu, if_true] at hq ⊢
          rw [hp2, on_some]
          have ok2 : NtsOk (l.map fun o => if o.n = z.n then z else o) := by
            have := keepN_ok (no := some z) hok hn
            unfold keepN at this
            simp only [hf, hu, if_true] at this
            exact this
          refine fin Sto.set_same ok2.2 (by rw [List.length_map]; omega) (.refl _) ok2.1 ?_
          rw [kn2]; exact hq
        · simp only [hu, if_false] at hq ⊢
          refine fin h1 hok.2 (by omega) (.refl _) hok.1 ?_
          rw [kn]; exact hq
end

/-! ### deeds -/
inductive De where
  | claim (h : Int) (n p : Str) | renew (h : Int) (n : Str) | back (h : Int) (n : Str) | carry (k : Int) | copy (k : Int) | lose (k : Int) | fall (h : Int) | rise (h : Int) | part (s : List Int) | heal | round
  deriving DecidableEq
def De.d : De → D
  | .claim h n p => .tup [.str "claim", .int h, .str n, .str p]
  | .renew h n => .tup [.str "renew", .int h, .str n]
  | .back h n => .tup [.str "back", .int h, .str n]
  | .carry k => .tup [.str "carry", .int k]
  | .copy k => .tup [.str "copy", .int k]
  | .lose k => .tup [.str "lose", .int k]
  | .fall h => .tup [.str "fall", .int h]
  | .rise h => .tup [.str "rise", .int h]
  | .part s => .tup [.str "part", .tup (s.map .int)]
  | .heal => .tup [.str "heal"]
  | .round => .tup [.str "round"]
def houseOk (m h : Int) : Prop := 0 ≤ h ∧ h < m
def sideOk (m : Int) (s : List Int) : Prop := (∀ h ∈ s, houseOk m h) ∧ 0 < s.length ∧ (s.length : Int) < m ∧ s.Pairwise (· < ·)
def De.ok (m : Int) : De → Prop
  | .claim h n p => houseOk m h ∧ nameOk n = true ∧ nameOk p = true
  | .renew h n => houseOk m h ∧ nameOk n = true
  | .back h n => houseOk m h ∧ nameOk n = true
  | .carry k => 0 ≤ k
  | .copy k => 0 ≤ k
  | .lose k => 0 ≤ k
  | .fall h => houseOk m h
  | .rise h => houseOk m h
  | .part s => sideOk m s
  | .heal => True
  | .round => True
section
variable {st : Sto} {X : PoX} {Q : PoE} {m : Int}
theorem ap_is_side {s : List Int} (h : sideOk m s) (hm : m ≤ 60) (hq : Q (.bl true) st) : F_is_side [.int m, .tup (s.map .int)] st X Q := by
  obtain ⟨h1, h2, h3, h4⟩ := h
  simp only [F_is_side, wDef_ap]
  refine ⟨rfl, ?_⟩
  simp [-wIfS_ap]
  rw [wIfS_ap]
  simp
  refine compL_imp (enc := D.int) (fun x : Int => [some (.int m), some (.tup (s.map .int)), some (.int x)]) (fun _ => false) D.int ?_ ?_ ?_ trivial ?_
  · simp
  · intro x hx Q hq
    simp
    exact ap_is_house (h1 x hx).1 (h1 x hx).2 (by simpa using hq)
  · simp
  · have e : (s.filter fun _ => false) = [] := List.filter_eq_nil_iff.mpr fun _ _ => by simp
    simp only [e, List.map_nil, List.append_nil]
    rw [dNe_lnil (by simp)]
    have h5 : 0 < (s.length : Int) := by omega
    have e2 : setI s = s := (setI_is h4 fun k => Iff.rfl).symm
    have e3 : dEq st (.lst (s.map .int)) (.lst (s.map .int)) = some (.bl true) := dEq_same (d := .lst (s.map .int)) rfl rfl (by simp)
    have e4 : ((tpOf (.tup (s.map .int))).bind intsOf) = some s := intsOf_iff.mpr rfl
    have h6 : s.length ≤ 60 := by omega
    simp [h2, h3, e2, e3, e4, h6]
    exact hq
/-- of what form a deed's part is -/
def dpOk (m : Int) (q : Str × D) : Prop := (q.1 = Str.ofString "house" ∧ ∃ h, q.2 = .int h ∧ houseOk m h) ∨ (q.1 = Str.ofString "name" ∧ ∃ x, q.2 = .str x ∧ nameOk x = true) ∨ (q.1 = Str.ofString "place" ∧ ∃ k, q.2 = .int k ∧ 0 ≤ k) ∨ (q.1 = Str.ofString "houses" ∧ ∃ s, q.2 = .tup (s.map .int) ∧ sideOk m s)
theorem ap_dfits {q : Str × D} (h : dpOk m q) (hm : m ≤ 60) (hq : Q (.bl true) st) : F_fits [.int m, .str q.1, q.2] st X Q := by
  simp only [F_fits, wDef_ap]
  refine ⟨rfl, ?_⟩
  rcases h with ⟨h1, k, h2, h3⟩ | ⟨h1, x, h2, h3⟩ | ⟨h1, k, h2, h3⟩ | ⟨h1, s, h2, h3⟩
  · simp [h1, h2]
    exact ap_is_house h3.1 h3.2 (by simpa using hq)
  · simp [h1, h2, ofString_inj]
    exact ap_is_name h3 (by simpa using hq)
  · simp [h1, h2, ofString_inj]
    refine ap_whole_int ?_
    simpa [h3] using hq
  · simp [h1, h2, ofString_inj]
    exact ap_is_side h3 hm (by simpa using hq)
theorem ap_dparts {ys : List Str} {ds : List D} {e0 : DL.Env} {Q2 : List D → Sto → Prop} {chk : Sto → Prop} (qs : List (Str × D)) (hz : zipL (ys.map .str) ds = qs.map fun q => .tup [.str q.1, q.2]) (hok : ∀ q ∈ qs, dpOk m q) (hm : m ≤ 60) (he : ∃ a b, e0 = [some (.int m), some a, some b, none, none]) (hc : chk st) (hq : Q2 [] st) :
    wCompL (.tp [.nm 3, .nm 4]) (wTNot (wTT (wFn F_fits (wCons (wVar 0) (wCons (wVar 3) (wCons (wVar 4) wNil)))))) (wC (.int 1)) chk e0 Q2 (zipL (ys.map .str) ds) [] st := by
  obtain ⟨a, b, rfl⟩ := he
  rw [hz]
  refine compL_imp (fun q : Str × D => [some (.int m), some a, some b, some (.str q.1), some q.2]) (fun _ => false) (fun _ => .int 1) ?_ ?_ ?_ hc ?_
  · simp
  · intro q hq' Q hq
    simp
    refine ap_dfits (hok q hq') hm ?_
    simpa using hq
  · simp
  · have e : (qs.filter fun _ => false) = [] := List.filter_eq_nil_iff.mpr fun _ _ => by simp
    rw [e]
    exact hq
theorem all1 {α : Type} {P : α → Prop} {a : α} (ha : P a) : ∀ q ∈ [a], P q := by
  intro q hq
  simp at hq
  subst hq
  exact ha
theorem ap_is_deed {e : De} (hok : e.ok m) (hm : m ≤ 60) (hq : Q (.bl true) st) : F_is_deed [.int m, e.d] st X Q := by
  simp only [F_is_deed, wDef_ap]
  refine ⟨rfl, ?_⟩
  cases e with
  | claim h n p =>
    obtain ⟨h1, h2, h3⟩ := hok
    have t : tabAt (Str.ofString "claim") T_deeds = some [Str.ofString "house", Str.ofString "name", Str.ofString "name"] := by decide +kernel
    simp [De.d, t]
    rw [dEq_tnil (by simp)]
    simp [cutD_from, zip2, pr]
    refine ap_dparts (ys := [Str.ofString "house", Str.ofString "name", Str.ofString "name"]) [(Str.ofString "house", D.int h), (Str.ofString "name", D.str n), (Str.ofString "name", D.str p)] rfl (all3 (.inl ⟨rfl, _, rfl, h1⟩) (.inr (.inl ⟨rfl, _, rfl, h2⟩)) (.inr (.inl ⟨rfl, _, rfl, h3⟩))) hm ⟨_, _, rfl⟩ (by simp [zip2, pr]) ?_
    rw [dEq_lnil (by simp)]
    simpa using hq
  | renew h n =>
    obtain ⟨h1, h2⟩ := hok
    have t : tabAt (Str.ofString "renew") T_deeds = some [Str.ofString "house", Str.ofString "name"] := by decide +kernel
    simp [De.d, t]
    rw [dEq_tnil (by simp)]
    simp [cutD_from, zip2, pr]
    refine ap_dparts (ys := [Str.ofString "house", Str.ofString "name"]) [(Str.ofString "house", D.int h), (Str.ofString "name", D.str n)] rfl (all2 (.inl ⟨rfl, _, rfl, h1⟩) (.inr (.inl ⟨rfl, _, rfl, h2⟩))) hm ⟨_, _, rfl⟩ (by simp [zip2, pr]) ?_
    rw [dEq_lnil (by simp)]
    simpa using hq
  | back h n =>
    obtain ⟨h1, h2⟩ := hok
    have t : tabAt (Str.ofString "back") T_deeds = some [Str.ofString "house", Str.ofString "name"] := by decide +kernel
    simp [De.d, t]
    rw [dEq_tnil (by simp)]
    simp [cutD_from, zip2, pr]
    refine ap_dparts (ys := [Str.ofString "house", Str.ofString "name"]) [(Str.ofString "house", D.int h), (Str.ofString "name", D.str n)] rfl (all2 (.inl ⟨rfl, _, rfl, h1⟩) (.inr (.inl ⟨rfl, _, rfl, h2⟩))) hm ⟨_, _, rfl⟩ (by simp [zip2, pr]) ?_
    rw [dEq_lnil (by simp)]
    simpa using hq
  | part s =>
    have t : tabAt (Str.ofString "part") T_deeds = some [Str.ofString "houses"] := by decide +kernel
    have p2 : pl 64 (.tup [.str (Str.ofString "part"), .tup (s.map .int)]) = true := by simp
    simp [De.d, t]
    rw [dEq_tnil p2]
    simp [cutD_from, zip2, pr]
    refine ap_dparts (ys := [Str.ofString "houses"]) [(Str.ofString "houses", D.tup (s.map .int))] rfl (all1 (.inr (.inr (.inr ⟨rfl, _, rfl, hok⟩)))) hm ⟨_, _, rfl⟩ (by simp [zip2, pr]) ?_
    rw [dEq_lnil (by simp)]
    simpa using hq
  | heal =>
    have t : tabAt (Str.ofString "heal") T_deeds = some [] := by decide +kernel
    simp [De.d, t]
    rw [dEq_tnil (by simp)]
    simp [cutD_from, zip2, pr]
    refine ap_dparts (ys := []) [] rfl (fun _ h => nomatch h) hm ⟨_, _, rfl⟩ (by simp [zip2, pr]) ?_
    rw [dEq_lnil (by simp)]
    simpa using hq
  | round =>
    have t : tabAt (Str.ofString "round") T_deeds = some [] := by decide +kernel
    simp [De.d, t]
    rw [dEq_tnil (by simp)]
    simp [cutD_from, zip2, pr]
    refine ap_dparts (ys := []) [] rfl (fun _ h => nomatch h) hm ⟨_, _, rfl⟩ (by simp [zip2, pr]) ?_
    rw [dEq_lnil (by simp)]
    simpa using hq
  | carry h =>
    have t : tabAt (Str.ofString "carry") T_deeds = some [Str.ofString "place"] := by decide +kernel
    simp [De.d, t]
    rw [dEq_tnil (by simp)]
    simp [cutD_from, zip2, pr]
    refine ap_dparts (ys := [Str.ofString "place"]) [(Str.ofString "place", D.int h)] rfl (all1 (.inr (.inr (.inl ⟨rfl, _, rfl, hok⟩)))) hm ⟨_, _, rfl⟩ (by simp [zip2, pr]) ?_
    rw [dEq_lnil (by simp)]
    simpa using hq
  | copy h =>
    have t : tabAt (Str.ofString "copy") T_deeds = some [Str.ofString "place"] := by decide +kernel
    simp [De.d, t]
    rw [dEq_tnil (by simp)]
    simp [cutD_from, zip2, pr]
    refine ap_dparts (ys := [Str.ofString "place"]) [(Str.ofString "place", D.int h)] rfl (all1 (.inr (.inr (.inl ⟨rfl, _, rfl, hok⟩)))) hm ⟨_, _, rfl⟩ (by simp [zip2, pr]) ?_
    rw [dEq_lnil (by simp)]
    simpa using hq
  | lose h =>
    have t : tabAt (Str.ofString "lose") T_deeds = some [Str.ofString "place"] := by decide +kernel
    simp [De.d, t]
    rw [dEq_tnil (by simp)]
    simp [cutD_from, zip2, pr]
    refine ap_dparts (ys := [Str.ofString "place"]) [(Str.ofString "place", D.int h)] rfl (all1 (.inr (.inr (.inl ⟨rfl, _, rfl, hok⟩)))) hm ⟨_, _, rfl⟩ (by simp [zip2, pr]) ?_
    rw [dEq_lnil (by simp)]
    simpa using hq
  | fall h =>
    have t : tabAt (Str.ofString "fall") T_deeds = some [Str.ofString "house"] := by decide +kernel
    simp [De.d, t]
    rw [dEq_tnil (by simp)]
    simp [cutD_from, zip2, pr]
    refine ap_dparts (ys := [Str.ofString "house"]) [(Str.ofString "house", D.int h)] rfl (all1 (.inl ⟨rfl, _, rfl, hok⟩)) hm ⟨_, _, rfl⟩ (by simp [zip2, pr]) ?_
    rw [dEq_lnil (by simp)]
    simpa using hq
  | rise h =>
    have t : tabAt (Str.ofString "rise") T_deeds = some [Str.ofString "house"] := by decide +kernel
    simp [De.d, t]
    rw [dEq_tnil (by simp)]
    simp [cutD_from, zip2, pr]
    refine ap_dparts (ys := [Str.ofString "house"]) [(Str.ofString "house", D.int h)] rfl (all1 (.inl ⟨rfl, _, rfl, hok⟩)) hm ⟨_, _, rfl⟩ (by simp [zip2, pr]) ?_
    rw [dEq_lnil (by simp)]
    simpa using hq
end
end DL
/-! SH15: worlds, and what deeds make of them. -/
namespace DL
open PySem PySem.Spec PyProof.Rows L2
def F_stands : WF := wDef 4 3 true (wSeq (wSet 3 (wFn F_claim_in (wCons (wBin ixD (wBin ixD (wVar 0) (wC (.int 2))) (wVar 1)) (wCons (wVar 2) wNil)))) (wRet (wAnd (wBin dIsNot (wVar 3) (wC .non)) (wBin dGt (wBin ixD (wVar 3) (wC (.int 2))) (wBin ixD (wVar 0) (wC (.int 0)))))))
def F_is_parted : WF := wDef 2 2 true (wRet (wBin dNe (wBin dIn (wBin ixD (wVar 1) (wC (.int 1))) (wBin ixD (wVar 0) (wC (.int 5)))) (wBin dIn (wBin ixD (wVar 1) (wC (.int 2))) (wBin ixD (wVar 0) (wC (.int 5))))))
def F_need_letter : WF := wDef 2 2 true (wIfS (wTAnd (wTB (wBin dIn (wBin ixD (wVar 1) (wC (.int 0))) (wTup (wCons (wC (.str "carry")) (wCons (wC (.str "copy")) (wCons (wC (.str "lose")) wNil)))))) (wTB (wBin dGe (wBin ixD (wVar 1) (wC (.int 1))) (wCall cLen (wCons (wBin ixD (wVar 0) (wC (.int 6))) wNil))))) (wRaise "NoLetter") wSkip)
def F_need_up : WF := wDef 2 2 true (wSeq (wIfS (wTAnd (wTB (wBin dIn (wBin ixD (wVar 1) (wC (.int 0))) (wTup (wCons (wC (.str "claim")) (wCons (wC (.str "renew")) (wCons (wC (.str "back")) (wCons (wC (.str "fall")) wNil))))))) (wTB (wBin dIn (wBin ixD (wVar 1) (wC (.int 1))) (wBin ixD (wVar 0) (wC (.int 4)))))) (wRaise "Down") wSkip) (wSeq (wIfS (wTAnd (wTB (wBin dEq (wBin ixD (wVar 1) (wC (.int 0))) (wC (.str "carry")))) (wTB (wBin dIn (wBin ixD (wBin ixD (wBin ixD (wVar 0) (wC (.int 6))) (wBin ixD (wVar 1) (wC (.int 1)))) (wC (.int 2))) (wBin ixD (wVar 0) (wC (.int 4)))))) (wRaise "Down") wSkip) (wIfS (wTAnd (wTB (wBin dEq (wBin ixD (wVar 1) (wC (.int 0))) (wC (.str "rise")))) (wTB (wBin dNotIn (wBin ixD (wVar 1) (wC (.int 1))) (wBin ixD (wVar 0) (wC (.int 4)))))) (wRaise "Up") wSkip)))
def F_need_way : WF := wDef 2 2 true (wIfS (wTAnd (wTB (wBin dEq (wBin ixD (wVar 1) (wC (.int 0))) (wC (.str "carry")))) (wTT (wFn F_is_parted (wCons (wVar 0) (wCons (wBin ixD (wBin ixD (wVar 0) (wC (.int 6))) (wBin ixD (wVar 1) (wC (.int 1)))) wNil))))) (wRaise "NoLetter") wSkip)
def F_need_claim : WF := wDef 2 2 true (wSeq (wIfS (wTAnd (wTB (wBin dEq (wBin ixD (wVar 1) (wC (.int 0))) (wC (.str "claim")))) (wTT (wFn F_stands (wCons (wVar 0) (wCons (wBin ixD (wVar 1) (wC (.int 1))) (wCons (wBin ixD (wVar 1) (wC (.int 2))) wNil)))))) (wRaise "Busy") wSkip) (wIfS (wTAnd (wTB (wBin dIn (wBin ixD (wVar 1) (wC (.int 0))) (wTup (wCons (wC (.str "renew")) (wCons (wC (.str "back")) wNil))))) (wTNot (wTT (wFn F_stands (wCons (wVar 0) (wCons (wBin ixD (wVar 1) (wC (.int 1))) (wCons (wBin ixD (wVar 1) (wC (.int 2))) wNil))))))) (wRaise "NoClaim") wSkip))
def F_moved : WF := wDef 12 5 true (wSeq (wAsg (.tp [(.nm 7), (.nm 8), (.nm 5), (.nm 6), (.nm 9), (.nm 10), (.nm 11)]) (wVar 0)) (wSeq (wSet 5 (wFn F_at_place (wCons (wVar 5) (wCons (wVar 1) (wCons (wBin dAdd (wBin ixD (wVar 5) (wVar 1)) (wCall cTuple (wCons (wVar 2) wNil))) wNil))))) (wSeq (wSet 6 (wFn F_at_place (wCons (wVar 6) (wCons (wVar 1) (wCons (wFn F_kept_notice (wCons (wBin ixD (wVar 6) (wVar 1)) (wCons (wVar 4) wNil))) wNil))))) (wRet (wTup (wCons (wVar 7) (wCons (wVar 8) (wCons (wVar 5) (wCons (wVar 6) (wCons (wVar 9) (wCons (wVar 10) (wCons (wBin dAdd (wVar 11) (wCall cTuple (wCons (wVar 3) wNil))) wNil))))))))))))
def F_own_word : WF := wDef 10 6 true (wSeq (wIfS (wTT (wFn F_is_due (wCons (wVar 0) (wCons (wVar 2) (wCons (wVar 1) (wCons (wVar 3) (wCons (wVar 4) (wCons (wVar 5) wNil)))))))) (wRet (wTup (wCons (wTup (wCons (wC (.str "word")) (wCons (wVar 2) (wCons (wVar 1) (wCons (wVar 3) (wCons (wVar 4) wNil)))))) (wCons (wTup (wCons (wC (.str "got")) (wCons (wVar 2) (wCons (wVar 3) (wCons (wVar 1) (wCons (wVar 4) wNil)))))) wNil)))) wSkip) (wSeq (wSet 6 (wFn F_word_in (wCons (wVar 0) (wCons (wVar 2) wNil)))) (wSeq (wSet 7 (wFn F_claim_in (wCons (wVar 0) (wCons (wVar 2) wNil)))) (wSeq (wIfS (wTOr (wTB (wBin dEq (wSl (wVar 6) wNo (wPart (wC (.int 2)))) (wTup (wCons (wVar 1) (wCons (wVar 3) wNil))))) (wTOr (wTB (wBin dIn (wVar 1) (wBin ixD (wVar 7) (wC (.int 4))))) (wTB (wBin dIn (wVar 1) (wComp (wiSeq (wBin ixD (wVar 7) (wC (.int 3)))) (.tp [(.nm 8), (.nm 9)]) wYes (wVar 8) [8, 9]))))) (wRet (wTup wNil)) wSkip) (wRet (wTup (wCons (wTup (wCons (wC (.str "no")) (wCons (wVar 2) (wCons (wVar 3) (wCons (wVar 1) wNil))))) wNil)))))))
def F_asked : WF := wDef 13 5 true (wSeq (wSet 5 (wCall cLen (wCons (wBin ixD (wVar 0) (wC (.int 2))) wNil))) (wSeq (wSet 6 (wBin dAdd (wBin ixD (wVar 0) (wC (.int 0))) (wBin ixD (wVar 0) (wC (.int 1))))) (wSeq (wSet 7 (wBin dAdd (wBin ixD (wBin ixD (wVar 0) (wC (.int 2))) (wVar 1)) (wTup (wCons (wTup (wCons (wC (.str "ask")) (wCons (wVar 2) (wCons (wVar 3) (wCons (wVar 4) (wCons (wVar 6) wNil)))))) wNil)))) (wSeq (wSet 8 (wFn F_own_word (wCons (wVar 7) (wCons (wVar 1) (wCons (wVar 2) (wCons (wVar 3) (wCons (wVar 6) (wCons (wBin ixD (wVar 0) (wC (.int 0))) wNil)))))))) (wSeq (wSet 9 (wComp (wiSeq (wFn F_other_houses (wCons (wVar 5) (wCons (wVar 1) wNil)))) (.nm 12) wYes (wTup (wCons (wC (.str "ask")) (wCons (wVar 1) (wCons (wVar 12) (wCons (wVar 2) (wCons (wVar 3) (wCons (wVar 4) (wCons (wVar 6) wNil)))))))) [12])) (wSeq (wAsg (.tp [(.nm 10), (.nm 11)]) (wFn F_news_of (wCons (wVar 5) (wCons (wVar 1) (wCons (wVar 7) (wCons (wVar 8) (wCons (wVar 2) (wCons (wBin ixD (wVar 0) (wC (.int 0))) wNil)))))))) (wRet (wFn F_moved (wCons (wVar 0) (wCons (wVar 1) (wCons (wBin dAdd (wSl (wVar 7) (wPart (wC (.int (-1)))) wNo) (wVar 8)) (wCons (wBin dAdd (wVar 9) (wVar 11)) (wCons (wVar 10) wNil)))))))))))))
def F_given_back : WF := wDef 9 3 true (wSeq (wSet 3 (wBin ixD (wBin ixD (wVar 0) (wC (.int 2))) (wVar 1))) (wSeq (wSet 4 (wBin ixD (wFn F_claim_in (wCons (wVar 3) (wCons (wVar 2) wNil))) (wC (.int 0)))) (wSeq (wSet 5 (wLstR (wCons (wTup (wCons (wC (.str "back")) (wCons (wVar 2) (wCons (wVar 4) wNil)))) wNil))) (wSeq (wSet 6 (wFn F_word_in (wCons (wVar 3) (wCons (wVar 2) wNil)))) (wSeq (wIfS (wTAnd (wTB (wBin dIsNot (wVar 6) (wC .non))) (wTB (wBin dEq (wSl (wVar 6) wNo (wPart (wC (.int 2)))) (wTup (wCons (wVar 1) (wCons (wVar 4) wNil)))))) (wDrop (wMeth "list" mAppend (wVar 5) (wCons (wTup (wCons (wC (.str "free")) (wCons (wVar 2) (wCons (wVar 1) (wCons (wVar 4) wNil))))) wNil))) wSkip) (wSeq (wSet 7 (wComp (wiSeq (wFn F_other_houses (wCons (wCall cLen (wCons (wBin ixD (wVar 0) (wC (.int 2))) wNil)) (wCons (wVar 1) wNil)))) (.nm 8) wYes (wTup (wCons (wC (.str "back")) (wCons (wVar 1) (wCons (wVar 8) (wCons (wVar 2) (wCons (wVar 4) wNil)))))) [8])) (wRet (wFn F_moved (wCons (wVar 0) (wCons (wVar 1) (wCons (wVar 5) (wCons (wVar 7) (wCons (wC .non) wNil)))))))))))))
def F_carried : WF := wDef 7 2 true (wSeq (wSet 2 (wBin ixD (wBin ixD (wVar 0) (wC (.int 6))) (wVar 1))) (wSeq (wSet 3 (wBin ixD (wVar 2) (wC (.int 2)))) (wSeq (wAsg (.tp [(.nm 4), (.nm 5), (.nm 6)]) (wFn F_taken (wCons (wCall cLen (wCons (wBin ixD (wVar 0) (wC (.int 2))) wNil)) (wCons (wVar 3) (wCons (wBin ixD (wBin ixD (wVar 0) (wC (.int 2))) (wVar 3)) (wCons (wVar 2) (wCons (wBin ixD (wVar 0) (wC (.int 0))) wNil))))))) (wRet (wFn F_moved (wCons (wBin dAdd (wSl (wVar 0) wNo (wPart (wC (.int 6)))) (wTup (wCons (wBin dAdd (wSl (wBin ixD (wVar 0) (wC (.int 6))) wNo (wPart (wVar 1))) (wSl (wBin ixD (wVar 0) (wC (.int 6))) (wPart (wBin dAdd (wVar 1) (wC (.int 1)))) wNo)) wNil))) (wCons (wVar 3) (wCons (wVar 4) (wCons (wVar 5) (wCons (wVar 6) wNil))))))))))
def F_yard_done : WF := wDef 4 3 true (wSeq (wSet 3 (wBin ixD (wVar 0) (wC (.int 6)))) (wSeq (wIfS (wTB (wBin dEq (wVar 1) (wC (.str "copy")))) (wRet (wBin dAdd (wSl (wVar 0) wNo (wPart (wC (.int 6)))) (wTup (wCons (wBin dAdd (wVar 3) (wTup (wCons (wBin ixD (wVar 3) (wVar 2)) wNil))) wNil)))) wSkip) (wRet (wBin dAdd (wSl (wVar 0) wNo (wPart (wC (.int 6)))) (wTup (wCons (wBin dAdd (wSl (wVar 3) wNo (wPart (wVar 2))) (wSl (wVar 3) (wPart (wBin dAdd (wVar 2) (wC (.int 1)))) wNo)) wNil))))))
def F_house_done : WF := wDef 6 2 true (wSeq (wAsg (.tp [(.nm 2), (.nm 3), (.nm 4)]) (wSl (wVar 1) wNo (wPart (wC (.int 3))))) (wSeq (wIfS (wTB (wBin dEq (wVar 2) (wC (.str "claim")))) (wRet (wFn F_asked (wCons (wVar 0) (wCons (wVar 3) (wCons (wVar 4) (wCons (wFn F_next_number (wCons (wBin ixD (wBin ixD (wVar 0) (wC (.int 2))) (wVar 3)) wNil)) (wCons (wBin ixD (wVar 1) (wC (.int 3))) wNil))))))) wSkip) (wSeq (wIfS (wTB (wBin dEq (wVar 2) (wC (.str "renew")))) (wSeq (wSet 5 (wFn F_claim_in (wCons (wBin ixD (wBin ixD (wVar 0) (wC (.int 2))) (wVar 3)) (wCons (wVar 4) wNil)))) (wRet (wFn F_asked (wCons (wVar 0) (wCons (wVar 3) (wCons (wVar 4) (wCons (wBin ixD (wVar 5) (wC (.int 0))) (wCons (wBin ixD (wVar 5) (wC (.int 1))) wNil)))))))) wSkip) (wRet (wFn F_given_back (wCons (wVar 0) (wCons (wVar 3) (wCons (wVar 4) wNil))))))))
def F_net_done : WF := wDef 11 2 true (wSeq (wAsg (.tp [(.nm 3), (.nm 4), (.nm 5), (.nm 6), (.nm 7), (.nm 8), (.nm 9)]) (wVar 0)) (wSeq (wSet 2 (wBin ixD (wVar 1) (wC (.int 0)))) (wSeq (wIfS (wTB (wBin dEq (wVar 2) (wC (.str "fall")))) (wRet (wTup (wCons (wVar 3) (wCons (wVar 4) (wCons (wVar 5) (wCons (wFn F_at_place (wCons (wVar 6) (wCons (wBin ixD (wVar 1) (wC (.int 1))) (wCons (wTup wNil) wNil)))) (wCons (wCall cTuple (wCons (wCall cSortedTup (wCons (wBin dAdd (wVar 7) (wTup (wCons (wBin ixD (wVar 1) (wC (.int 1))) wNil))) wNil)) wNil)) (wCons (wVar 8) (wCons (wVar 9) wNil))))))))) wSkip) (wSeq (wIfS (wTB (wBin dEq (wVar 2) (wC (.str "rise")))) (wRet (wTup (wCons (wVar 3) (wCons (wVar 4) (wCons (wVar 5) (wCons (wVar 6) (wCons (wCall cTuple (wCons (wComp (wiSeq (wVar 7)) (.nm 10) (wTB (wBin dNe (wVar 10) (wBin ixD (wVar 1) (wC (.int 1))))) (wVar 10) [10]) wNil)) (wCons (wVar 8) (wCons (wVar 9) wNil))))))))) wSkip) (wSeq (wIfS (wTB (wBin dEq (wVar 2) (wC (.str "part")))) (wRet (wTup (wCons (wVar 3) (wCons (wVar 4) (wCons (wVar 5) (wCons (wVar 6) (wCons (wVar 7) (wCons (wBin ixD (wVar 1) (wC (.int 1))) (wCons (wVar 9) wNil))))))))) wSkip) (wSeq (wIfS (wTB (wBin dEq (wVar 2) (wC (.str "heal")))) (wRet (wTup (wCons (wVar 3) (wCons (wVar 4) (wCons (wVar 5) (wCons (wVar 6) (wCons (wVar 7) (wCons (wTup wNil) (wCons (wVar 9) wNil))))))))) wSkip) (wRet (wTup (wCons (wBin dAdd (wVar 3) (wC (.int 1))) (wCons (wVar 4) (wCons (wVar 5) (wCons (wVar 6) (wCons (wVar 7) (wCons (wVar 8) (wCons (wVar 9) wNil)))))))))))))))
def F_done : WF := wDef 2 2 true (wSeq (wIfS (wTNot (wTT (wFn F_is_deed (wCons (wCall cLen (wCons (wBin ixD (wVar 0) (wC (.int 2))) wNil)) (wCons (wVar 1) wNil))))) (wRaise "NoDeed") wSkip) (wSeq (wDrop (wFn F_need_letter (wCons (wVar 0) (wCons (wVar 1) wNil)))) (wSeq (wDrop (wFn F_need_up (wCons (wVar 0) (wCons (wVar 1) wNil)))) (wSeq (wDrop (wFn F_need_way (wCons (wVar 0) (wCons (wVar 1) wNil)))) (wSeq (wDrop (wFn F_need_claim (wCons (wVar 0) (wCons (wVar 1) wNil)))) (wSeq (wIfS (wTB (wBin dIn (wBin ixD (wVar 1) (wC (.int 0))) (wTup (wCons (wC (.str "claim")) (wCons (wC (.str "renew")) (wCons (wC (.str "back")) wNil)))))) (wRet (wFn F_house_done (wCons (wVar 0) (wCons (wVar 1) wNil)))) wSkip) (wSeq (wIfS (wTB (wBin dEq (wBin ixD (wVar 1) (wC (.int 0))) (wC (.str "carry")))) (wRet (wFn F_carried (wCons (wVar 0) (wCons (wBin ixD (wVar 1) (wC (.int 1))) wNil)))) wSkip) (wSeq (wIfS (wTB (wBin dIn (wBin ixD (wVar 1) (wC (.int 0))) (wTup (wCons (wC (.str "copy")) (wCons (wC (.str "lose")) wNil))))) (wRet (wFn F_yard_done (wCons (wVar 0) (wCons (wBin ixD (wVar 1) (wC (.int 0))) (wCons (wBin ixD (wVar 1) (wC (.int 1))) wNil))))) wSkip) (wRet (wFn F_net_done (wCons (wVar 0) (wCons (wVar 1) wNil))))))))))))
/-! ### letters' houses -/
def Le.fr : Le → Int
  | .ask s _ _ _ _ _ => s | .word s _ _ _ _ => s | .no s _ _ _ => s | .back s _ _ _ => s | .told s _ _ _ _ _ => s
def Le.to : Le → Int
  | .ask _ t _ _ _ _ => t | .word _ t _ _ _ => t | .no _ t _ _ => t | .back _ t _ _ => t | .told _ t _ _ _ _ => t
theorem ixD_Le1 {st : Sto} {l : Le} : ixD st l.d (.int 1) = some (.int l.fr) := by cases l <;> rfl
theorem ixD_Le2 {st : Sto} {l : Le} : ixD st l.d (.int 2) = some (.int l.to) := by cases l <;> rfl
def Le.u : Le → Int
  | .ask _ _ _ _ _ u => u | .word _ _ _ _ u => u | .told _ _ _ _ _ u => u | _ => 0
/-- a letter of a world -/
def LeOk (m : Int) : Le → Prop
  | .ask s t n k p u => houseOk m s ∧ houseOk m t ∧ s ≠ t ∧ nameOk n = true ∧ 1 ≤ k ∧ nameOk p = true ∧ 1 ≤ u
  | .word s t n k u => houseOk m s ∧ houseOk m t ∧ s ≠ t ∧ nameOk n = true ∧ 1 ≤ k ∧ 1 ≤ u
  | .no s t n k => houseOk m s ∧ houseOk m t ∧ s ≠ t ∧ nameOk n = true ∧ 1 ≤ k
  | .back s t n k => houseOk m s ∧ houseOk m t ∧ s ≠ t ∧ nameOk n = true ∧ 1 ≤ k
  | .told s t n k p u => houseOk m s ∧ houseOk m t ∧ s ≠ t ∧ nameOk n = true ∧ 1 ≤ k ∧ nameOk p = true ∧ 0 ≤ u
theorem LeOk.hs {m : Int} {l : Le} (h : LeOk m l) : houseOk m l.fr ∧ houseOk m l.to ∧ l.fr ≠ l.to := by
  cases l <;> exact ⟨h.1, h.2.1, h.2.2.1⟩
theorem LeOk.ok {m : Int} {l : Le} (h : LeOk m l) : l.ok m := by
  cases l <;> first | trivial | (obtain ⟨h1, _, _, h3, h4, h5⟩ := h; exact ⟨h3, h4, h1.1, h1.2, h5⟩)
/-! ### worlds -/
structure Wo where
  now : Int
  term : Int
  logs : List (List En)
  nts : List (List Nt)
  down : List Int
  side : List Int
  yard : List Le
  deriving DecidableEq
def logD (es : List En) : D := .tup (es.map En.d)
def Wo.d (w : Wo) : D := .tup [.int w.now, .int w.term, .tup (w.logs.map logD), .tup (w.nts.map ntsD), .tup (w.down.map .int), .tup (w.side.map .int), .tup (w.yard.map Le.d)]
def Wo.m (w : Wo) : Int := w.logs.length
def Wo.log (w : Wo) (h : Int) : List En := (w.logs[h.toNat]?).getD []
def Wo.ntl (w : Wo) (h : Int) : List Nt := (w.nts[h.toNat]?).getD []
/-- the greatest number that a log asks for, of all names -/
def maxAsk (es : List En) : Int := maxL 0 ((es.filter fun e => decide (e.kind = "ask")).map En.i2)
structure LogOk (m : Int) (n : Nat) (es : List En) : Prop where
  ok : ∀ e ∈ es, e.ok m
  len : es.length ≤ 3 * n
  bk : ∀ x k, En.back x k ∈ es → k ≤ maxAsk es
structure WOk (n : Nat) (w : Wo) : Prop where
  m1 : 1 ≤ w.m
  m7 : w.m ≤ 7
  nl : w.nts.length = w.logs.length
  now : 0 ≤ w.now
  term : 2 ≤ w.term
  logs : ∀ es ∈ w.logs, LogOk w.m n es
  nts : ∀ l ∈ w.nts, NtsOk l ∧ l.length ≤ n
  down : ∀ h ∈ w.down, houseOk w.m h
  dlen : w.down.length ≤ n
  dsrt : w.down.Pairwise (· < ·)
  yard : ∀ l ∈ w.yard, LeOk w.m l
  ylen : w.yard.length ≤ 14 * n
  til : ∀ es ∈ w.logs, ∀ e ∈ es, e.i4 ≤ w.now + w.term
  ytil : ∀ l ∈ w.yard, l.u ≤ w.now + w.term
section
variable {w : Wo} {n : Nat} {h : Int}
theorem log_at (h0 : houseOk w.m h) : w.logs[h.toNat]? = some (w.log h) ∧ w.log h ∈ w.logs := by
  obtain ⟨h1, h2⟩ := h0
  have h3 : h.toNat < w.logs.length := by unfold Wo.m at h2; omega
  unfold Wo.log
  rw [List.getElem?_eq_getElem h3]
  exact ⟨rfl, List.getElem_mem h3⟩
theorem ntl_at (ok : WOk n w) (h0 : houseOk w.m h) : w.nts[h.toNat]? = some (w.ntl h) ∧ w.ntl h ∈ w.nts := by
  obtain ⟨h1, h2⟩ := h0
  have h3 : h.toNat < w.nts.length := by have := ok.nl; unfold Wo.m at h2; omega
  unfold Wo.ntl
  rw [List.getElem?_eq_getElem h3]
  exact ⟨rfl, List.getElem_mem h3⟩
theorem WOk.log (ok : WOk n w) (h0 : houseOk w.m h) : LogOk w.m n (w.log h) := ok.logs _ (log_at h0).2
theorem atI_log (h0 : houseOk w.m h) : atI (w.logs.map logD) h = some (logD (w.log h)) := by
  have e : h = ((h.toNat : Nat) : Int) := by have := h0.1; omega
  rw [e, atI_N, List.getElem?_map]
  have := (log_at h0).1
  rw [this, ← e]; rfl
theorem atI_ntl (ok : WOk n w) (h0 : houseOk w.m h) : atI (w.nts.map ntsD) h = some (ntsD (w.ntl h)) := by
  have e : h = ((h.toNat : Nat) : Int) := by have := h0.1; omega
  rw [e, atI_N, List.getElem?_map]
  have := (ntl_at ok h0).1
  rw [this, ← e]; rfl
end
/-! ### mirrors -/
theorem eqB_bl {st : Sto} {a b : Bool} : eqB st (.bl a) (.bl b) = some (a == b) := by
  show eqvM (.bool a) (.bool b) = _
  unfold eqvM
  rw [if_pos (by unfold PyData.depth; omega), PyData.eqv]
theorem dNe_bl {st : Sto} {a b : Bool} : dNe st (.bl a) (.bl b) = some (.bl (a != b)) := by
  unfold dNe
  rw [eqB_bl]; rfl
def standsW (w : Wo) (h : Int) (n : Str) : Bool := match claimOf (w.log h) n with
  | none => false
  | some c => decide (w.now < c.til)
def partedW (w : Wo) (l : Le) : Bool := decide (l.fr ∈ w.side) != decide (l.to ∈ w.side)
def movedW (w : Wo) (h : Int) (es : List En) (ls : List Le) (no : Option Nt) : Wo :=
  { w with logs := w.logs.set h.toNat (w.log h ++ es), nts := w.nts.set h.toNat (keepN (w.ntl h) no), yard := w.yard ++ ls }
def ownWord (es : List En) (h : Int) (n : Str) (k u now : Int) : List En :=
  if isDue es n h k u now then [.word n h k u, .got n k h u] else
  match wordIn es n, claimOf es n with
  | some (h', k', _), some c => if (h' = h ∧ k' = k) ∨ h ∈ c.others ∨ h ∈ c.words.map (·.1) then [] else [.no n k h]
  | _, _ => []
def askedW (w : Wo) (h : Int) (n : Str) (k : Int) (p : Str) : Wo :=
  let u := w.now + w.term
  let log := w.log h ++ [.ask n k p u]
  let es := ownWord log h n k u w.now
  let nw := newsOf w.m h log es n w.now
  movedW w h (.ask n k p u :: es) (((others w.m h).map fun o => .ask h o n k p u) ++ nw.2) nw.1
def backW (w : Wo) (h : Int) (n : Str) : Wo := match claimOf (w.log h) n with
  | none => w
  | some c => movedW w h (.back n c.num :: (match wordIn (w.log h) n with
      | some (h', k', _) => if h' = h ∧ k' = c.num then [.free n h c.num] else []
      | none => [])) ((others w.m h).map fun o => .back h o n c.num) none
def carriedW (w : Wo) (k : Int) : Wo := match w.yard[k.toNat]? with
  | none => w
  | some l => movedW { w with yard := w.yard.eraseIdx k.toNat } l.to (taken w.m l.to (w.log l.to) l w.now).es (taken w.m l.to (w.log l.to) l w.now).ls (taken w.m l.to (w.log l.to) l w.now).nt
def copyW (w : Wo) (k : Int) : Wo := match w.yard[k.toNat]? with
  | none => w
  | some l => { w with yard := w.yard ++ [l] }
def behindW (w : Wo) : De → Wo
  | .claim h n p => askedW w h n (1 + maxAsk (w.log h)) p
  | .renew h n => match claimOf (w.log h) n with
    | none => w
    | some c => askedW w h n c.num c.per
  | .back h n => backW w h n
  | .carry k => carriedW w k
  | .copy k => copyW w k
  | .lose k => { w with yard := w.yard.eraseIdx k.toNat }
  | .fall h => { w with nts := w.nts.set h.toNat [], down := sortI (w.down ++ [h]) }
  | .rise h => { w with down := w.down.filter fun x => !decide (x = h) }
  | .part s => { w with side := s }
  | .heal => { w with side := [] }
  | .round => { w with now := w.now + 1 }
def letRef (w : Wo) : De → Option Str
  | .carry k => if k < w.yard.length then none else some "NoLetter"
  | .copy k => if k < w.yard.length then none else some "NoLetter"
  | .lose k => if k < w.yard.length then none else some "NoLetter"
  | _ => none
def upRef (w : Wo) : De → Option Str
  | .claim h _ _ => if h ∈ w.down then some "Down" else none
  | .renew h _ => if h ∈ w.down then some "Down" else none
  | .back h _ => if h ∈ w.down then some "Down" else none
  | .fall h => if h ∈ w.down then some "Down" else none
  | .carry k => match w.yard[k.toNat]? with
    | none => none
    | some l => if l.to ∈ w.down then some "Down" else none
  | .rise h => if h ∈ w.down then none else some "Up"
  | _ => none
def wayRef (w : Wo) : De → Option Str
  | .carry k => match w.yard[k.toNat]? with
    | none => none
    | some l => if partedW w l then some "NoLetter" else none
  | _ => none
def clRef (w : Wo) : De → Option Str
  | .claim h n _ => if standsW w h n then some "Busy" else none
  | .renew h n => if standsW w h n then none else some "NoClaim"
  | .back h n => if standsW w h n then none else some "NoClaim"
  | _ => none
/-- why a deed is refused -/
def refusal (w : Wo) (e : De) : Option Str := (letRef w e).or ((upRef w e).or ((wayRef w e).or (clRef w e)))
section
variable {st : Sto} {X : PoX} {Q : PoE} {w : Wo} {n : Nat} {h k : Int} {x : Str}
theorem ap_stands (ok : WOk n w) (hn : n ≤ 1300) (h0 : houseOk w.m h) (hq : Q (.bl (standsW w h x)) st) : F_stands [w.d, .int h, .str x] st X Q := by
  have lo := ok.log h0
  simp only [F_stands, wDef_ap]
  refine ⟨rfl, ?_⟩
  simp [Wo.d]
  rw [atI_log h0, on_some]
  refine ap_claim_in lo.ok (by have := lo.len; omega) ?_
  unfold standsW at hq
  cases hc : claimOf (w.log h) x with
  | none =>
    rw [hc] at hq
    simpa [clD] using hq
  | some c =>
    rw [hc] at hq
    simpa [clD, Cl.d] using hq
theorem ap_is_parted {l : Le} (hq : Q (.bl (partedW w l)) st) : F_is_parted [w.d, l.d] st X Q := by
  simp only [F_is_parted, wDef_ap]
  refine ⟨rfl, ?_⟩
  unfold partedW at hq
  simp [Wo.d, ixD_Le1, ixD_Le2, dNe_bl]
  exact hq
theorem atI_yard (h0 : 0 ≤ k) : atI (w.yard.map Le.d) k = (w.yard[k.toNat]?).map Le.d := by
  have e : k = ((k.toNat : Nat) : Int) := by omega
  rw [e, atI_N, List.getElem?_map, ← e]
theorem ap_need_letter {e : De} (hx : ∀ y, letRef w e = some y → X y st) (hq : letRef w e = none → Q .non st) : F_need_letter [w.d, e.d] st X Q := by
  simp only [F_need_letter, wDef_ap]
  refine ⟨rfl, ?_⟩
  cases e with
  | carry k =>
    simp [De.d, Wo.d]
    by_cases h : k < w.yard.length
    · rw [if_neg (by omega)]
      exact hq (if_pos h)
    · rw [if_pos (by omega)]
      exact hx _ (if_neg h)
  | copy k =>
    simp [De.d, Wo.d]
    by_cases h : k < w.yard.length
    · rw [if_neg (by omega)]
      exact hq (if_pos h)
    · rw [if_pos (by omega)]
      exact hx _ (if_neg h)
  | lose k =>
    simp [De.d, Wo.d]
    by_cases h : k < w.yard.length
    · rw [if_neg (by omega)]
      exact hq (if_pos h)
    · rw [if_pos (by omega)]
      exact hx _ (if_neg h)
  | _ =>
    simp [De.d, ofString_inj]
    exact hq rfl
theorem let_at (h0 : 0 ≤ k) (hl : k < w.yard.length) : ∃ l, w.yard[k.toNat]? = some l ∧ l ∈ w.yard := by
  have h3 : k.toNat < w.yard.length := by omega
  exact ⟨_, List.getElem?_eq_getElem h3, List.getElem_mem h3⟩
theorem ap_need_up {e : De} (hok : e.ok w.m) (hl : letRef w e = none) (hx : ∀ y, upRef w e = some y → X y st) (hq : upRef w e = none → Q .non st) : F_need_up [w.d, e.d] st X Q := by
  have one : ∀ {h : Int} {y : Option Str}, (if h ∈ w.down then some (Str.ofString "Down") else none) = y → (∀ z, y = some z → X z st) → (y = none → Q .non st) → (if h ∈ w.down then X (Str.ofString "Down") st else Q .non st) := fun {h y} e hx hq => by
    subst e
    by_cases hd : h ∈ w.down
    · rw [if_pos hd]
      exact hx _ (if_pos hd)
    · rw [if_neg hd]
      exact hq (if_neg hd)
  simp only [F_need_up, wDef_ap]
  refine ⟨rfl, ?_⟩
  cases e with
  | claim h a b =>
    simp [De.d, Wo.d, ofString_inj]
    exact one rfl hx hq
  | renew h a =>
    simp [De.d, Wo.d, ofString_inj]
    exact one rfl hx hq
  | back h a =>
    simp [De.d, Wo.d, ofString_inj]
    exact one rfl hx hq
  | fall h =>
    simp [De.d, Wo.d, ofString_inj]
    exact one rfl hx hq
  | carry k =>
    have h1 : k < w.yard.length := by
      unfold letRef at hl
      simp only at hl
      split at hl
      · assumption
      · cases hl
    obtain ⟨l, h2, h3⟩ := let_at hok h1
    unfold upRef at hx hq
    simp only [h2] at hx hq
    simp [De.d, Wo.d, ofString_inj]
    rw [atI_yard hok, h2]
    simp [ixD_Le2]
    exact one rfl hx hq
  | rise h =>
    simp [De.d, Wo.d, ofString_inj]
    by_cases hd : h ∈ w.down
    · rw [if_pos hd]
      exact hq (if_pos hd)
    · rw [if_neg hd]
      exact hx _ (if_neg hd)
  | _ =>
    simp [De.d, ofString_inj]
    exact hq rfl
theorem ap_need_way {e : De} (hok : e.ok w.m) (hl : letRef w e = none) (hx : ∀ y, wayRef w e = some y → X y st) (hq : wayRef w e = none → Q .non st) : F_need_way [w.d, e.d] st X Q := by
  simp only [F_need_way, wDef_ap]
  refine ⟨rfl, ?_⟩
  cases e with
  | carry k =>
    have h1 : k < w.yard.length := by
      unfold letRef at hl
      simp only at hl
      split at hl
      · assumption
      · cases hl
    obtain ⟨l, h2, h3⟩ := let_at hok h1
    unfold wayRef at hx hq
    simp only [h2] at hx hq
    rw [show w.d = .tup [.int w.now, .int w.term, .tup (w.logs.map logD), .tup (w.nts.map ntsD), .tup (w.down.map .int), .tup (w.side.map .int), .tup (w.yard.map Le.d)] from rfl]
    simp [De.d, ofString_inj]
    rw [atI_yard hok, h2]
    simp
    rw [show D.tup [.int w.now, .int w.term, .tup (w.logs.map logD), .tup (w.nts.map ntsD), .tup (w.down.map .int), .tup (w.side.map .int), .tup (w.yard.map Le.d)] = w.d from rfl]
    refine ap_is_parted ?_
    cases hp : partedW w l with
    | true =>
      simp
      exact hx _ (by rw [hp]; rfl)
    | false =>
      simp
      exact hq (by rw [hp]; rfl)
  | _ =>
    simp [De.d, ofString_inj]
    exact hq rfl
theorem ap_need_claim {e : De} (ok : WOk n w) (hn : n ≤ 1300) (hok : e.ok w.m) (hx : ∀ y, clRef w e = some y → X y st) (hq : clRef w e = none → Q .non st) : F_need_claim [w.d, e.d] st X Q := by
  simp only [F_need_claim, wDef_ap]
  refine ⟨rfl, ?_⟩
  cases e with
  | claim h a b =>
    simp [De.d, ofString_inj]
    refine ap_stands ok hn hok.1 ?_
    cases hp : standsW w h a with
    | true =>
      simp
      exact hx _ (by unfold clRef; simp only; rw [hp]; rfl)
    | false =>
      simp
      exact hq (by unfold clRef; simp only; rw [hp]; rfl)
  | renew h a =>
    simp [De.d, ofString_inj]
    refine ap_stands ok hn hok.1 ?_
    cases hp : standsW w h a with
    | true =>
      simp
      exact hq (by unfold clRef; simp only; rw [hp]; rfl)
    | false =>
      simp
      exact hx _ (by unfold clRef; simp only; rw [hp]; rfl)
  | back h a =>
    simp [De.d, ofString_inj]
    refine ap_stands ok hn hok.1 ?_
    cases hp : standsW w h a with
    | true =>
      simp
      exact hq (by unfold clRef; simp only; rw [hp]; rfl)
    | false =>
      simp
      exact hx _ (by unfold clRef; simp only; rw [hp]; rfl)
  | _ =>
    simp [De.d, ofString_inj]
    exact hq rfl
theorem set_logs {es : List En} : (w.logs.map logD).set h.toNat (logD es) = (w.logs.set h.toNat es).map logD := by rw [List.map_set]
theorem set_nts {l : List Nt} : (w.nts.map ntsD).set h.toNat (ntsD l) = (w.nts.set h.toNat l).map ntsD := by rw [List.map_set]
theorem ap_moved {es : List En} {ls : List Le} {no : Option Nt} {esD lsD : D} (ok : WOk n w) (hn : n ≤ 1300) (h0 : houseOk w.m h) (he : cTuple st [esD] = some (.tup (es.map En.d))) (hl : cTuple st [lsD] = some (.tup (ls.map Le.d)))
    (le : es.length ≤ 100) (ll : ls.length ≤ 100) (hno : ∀ z, no = some z → nameOk z.n = true) (hq : Q (movedW w h es ls no).d st) : F_moved [w.d, .int h, esD, lsD, ntD no] st X Q := by
  have sz := sizeLine_eq
  have h1 := h0.1
  have h2 : h < (w.logs.map logD).length := by rw [List.length_map]; exact h0.2
  have h3 : h < (w.nts.map ntsD).length := by rw [List.length_map, ok.nl]; exact h0.2
  have m7 := ok.m7
  have lo := ok.log h0
  have nt := ok.nts _ (ntl_at ok h0).2
  have yl := ok.ylen
  have lol := lo.len
  have mm : (w.logs.length : Int) ≤ 7 := m7
  simp only [F_moved, wDef_ap]
  refine ⟨rfl, ?_⟩
  simp [Wo.d]
  rw [atI_log h0, on_some, he, on_some]
  show on (dAdd st (.tup ((w.log h).map En.d)) (.tup (es.map En.d))) _
  rw [dAdd_en (by omega), on_some]
  refine ap_at_place h1 h2 (by rw [List.length_map]; omega) ?_
  rw [show D.tup ((w.log h ++ es).map En.d) = logD (w.log h ++ es) from rfl, set_logs]
  rw [atI_ntl ok h0, on_some]
  refine ap_kept_notice nt.1 (by have := nt.2; omega) hno ?_
  simp
  refine ap_at_place h1 h3 (by rw [List.length_map, ok.nl]; omega) ?_
  rw [set_nts]
  simp
  rw [hl, on_some]
  rw [dAdd_tup (by rw [List.length_map, List.length_map]; omega), on_some]
  simpa [movedW, Wo.d] using hq
theorem mem_ints_lst {x : Int} {c : Cl} : dIn st (.int x) (.tup (c.others.map .int)) = some (.bl (decide (x ∈ c.others))) := dIn_ints_tup
theorem ap_own_word {es : List En} {b u now : Int} (hok : ∀ e ∈ es, e.ok b) (hl : es.length ≤ 4000) (hc : ∃ c, claimOf es x = some c) (hu : now < u) (hq : Q (.tup ((ownWord es h x k u now).map En.d)) st) :
    F_own_word [.tup (es.map En.d), .int h, .str x, .int k, .int u, .int now] st X Q := by
  obtain ⟨c, hc⟩ := hc
  simp only [F_own_word, wDef_ap]
  refine ⟨rfl, ?_⟩
  unfold ownWord at hq
  simp [-wIfS_ap]
  rw [wIfS_ap]
  simp
  refine ap_is_due ?_
  by_cases h1 : isDue es x h k u now = true
  · rw [h1]
    simp
    simpa [h1, En.d, En.kind, En.name, En.i2, En.tl] using hq
  · have h2 : isDue es x h k u now = false := by simpa using h1
    rw [h2]
    rw [if_neg h1] at hq
    simp [-wIfS_ap]
    refine ap_word_in ?_
    refine ap_claim_in hok (by omega) ?_
    cases hw : wordIn es x with
    | none => exact absurd (due_none (h' := 0) (k' := 0) (u' := 0) hw (by omega)) h1
    | some w =>
      obtain ⟨h', k', u'⟩ := w
      rw [hw, hc] at hq
      rw [hc]
      dsimp only at hq
      simp [wdD, clD, Cl.d, cutD_to]
      rw [dEq_t (x := .tup [.int h', .int k']) (y := .tup [.int h, .int k]) [.i h', .i k'] [.i h, .i k] rfl rfl]
      by_cases h3 : h' = h ∧ k' = k
      · simp [h3]
        simpa [h3] using hq
      · have e : (decide (h' = h) && decide (k' = k)) = false := by simpa using h3
        simp [e]
        by_cases h4 : h ∈ c.others
        · simp [h4]
          simpa [h3, h4] using hq
        · simp [h4]
          refine compL_imp (enc := DL.pairD) (fun q : Int × Int => [some (.tup (es.map En.d)), some (.int h), some (.str x), some (.int k), some (.int u), some (.int now), some (.tup [.int h', .int k', .int u']), some (D.tup [D.int c.num, D.str c.per, D.int c.til, D.tup (List.map DL.pairD c.words), D.tup (List.map D.int c.others)]), some (.int q.1), some (.int q.2)]) (fun _ => true) (fun q => D.int q.1) ?_ ?_ ?_ trivial ?_
          · simp [DL.pairD]
          · intro q _ Q hq
            simpa using hq
          · intro q _ _ Q hq
            simpa using hq
          · have e5 : ([] : List D) ++ (c.words.filter fun _ => true).map (fun q => D.int q.1) = (c.words.map (·.1)).map .int := by
              rw [List.filter_eq_self.mpr (fun _ _ => rfl), List.nil_append, List.map_map]; rfl
            rw [e5, mem_words, on_some, bOf_bl, on_some]
            by_cases h5 : h ∈ c.words.map (·.1)
            · rw [decide_eq_true h5]
              rw [if_pos (.inr (.inr h5))] at hq
              simpa using hq
            · rw [decide_eq_false h5]
              rw [if_neg (fun z => z.elim h3 fun z => z.elim h4 h5)] at hq
              simpa [En.d, En.kind, En.name, En.i2, En.tl] using hq
end
end DL
/-! SH16: done, step by step. -/
namespace DL
open PySem PySem.Spec PyProof.Rows L2
section
variable {st : Sto} {X : PoX} {Q : PoE} {w : Wo} {n : Nat} {h k u : Int} {x p : Str} {es : List En}
@[simp] theorem ixD_W0 : ixD st w.d (.int 0) = some (.int w.now) := by rw [Wo.d, ixD_tup, atI_0]
@[simp] theorem ixD_W1 : ixD st w.d (.int 1) = some (.int w.term) := by rw [Wo.d, ixD_tup, atI_1]
@[simp] theorem ixD_W2 : ixD st w.d (.int 2) = some (.tup (w.logs.map logD)) := by rw [Wo.d, ixD_tup, atI_2]
@[simp] theorem ixD_W3 : ixD st w.d (.int 3) = some (.tup (w.nts.map ntsD)) := by rw [Wo.d, ixD_tup]; rfl
@[simp] theorem ixD_W4 : ixD st w.d (.int 4) = some (.tup (w.down.map .int)) := by rw [Wo.d, ixD_tup]; rfl
@[simp] theorem ixD_W5 : ixD st w.d (.int 5) = some (.tup (w.side.map .int)) := by rw [Wo.d, ixD_tup]; rfl
@[simp] theorem ixD_W6 : ixD st w.d (.int 6) = some (.tup (w.yard.map Le.d)) := by rw [Wo.d, ixD_tup]; rfl
theorem slD_W : slD st w.d none (some 6) = some (.tup [.int w.now, .int w.term, .tup (w.logs.map logD), .tup (w.nts.map ntsD), .tup (w.down.map .int), .tup (w.side.map .int)]) := by rw [Wo.d, slD_tup, cutD_to (by omega)]; rfl
theorem greatest_le_max : greatest es x ≤ maxAsk es := by
  unfold greatest maxAsk
  rcases maxL_mem (askedNums es x) 0 with e | e
  · rw [e]; exact (maxL_ge _ 0).1
  · obtain ⟨a, ha, hb⟩ := List.mem_map.mp e
    obtain ⟨h1, h2, h3⟩ := ents_kind ha
    rw [← hb]
    exact (maxL_ge _ 0).2 _ (List.mem_map.mpr ⟨a, List.mem_filter.mpr ⟨h1, by simpa using h2⟩, rfl⟩)
theorem maxAsk_nn : 0 ≤ maxAsk es := (maxL_ge _ 0).1
theorem claimOf_asked (hk : 1 ≤ k) (hg : greatest es x ≤ k) (hb : En.back x k ∉ es) : greatest (es ++ [.ask x k p u]) x = k ∧ ∃ c, claimOf (es ++ [.ask x k p u]) x = some c := by
  have e : greatest (es ++ [.ask x k p u]) x = k := by
    rw [greatest_snoc]
    by_cases h1 : k > greatest es x
    · rw [if_pos ⟨rfl, rfl, h1⟩]; rfl
    · rw [if_neg fun z => h1 z.2.2]; omega
  refine ⟨e, ?_⟩
  unfold claimOf
  simp only [e]
  rw [if_neg]
  · exact ⟨_, rfl⟩
  · rintro (h1 | h1)
    · omega
    · rw [List.mem_append] at h1
      rcases h1 with h1 | h1
      · exact hb h1
      · simp at h1
theorem ownWord_len {now : Int} : (ownWord es h x k u now).length ≤ 2 := by
  unfold ownWord
  split
  · simp
  · split
    · split <;> simp
    · simp
theorem ownWord_ok {m now : Int} (hx : nameOk x = true) (hk : 1 ≤ k) (h0 : houseOk m h) (hu : 1 ≤ u) : ∀ e ∈ ownWord es h x k u now, e.ok m := by
  have one : (En.word x h k u).ok m := ⟨hx, hk, h0.1, h0.2, hu⟩
  have two : (En.got x k h u).ok m := ⟨hx, hk, h0.1, h0.2, hu⟩
  have three : (En.no x k h).ok m := ⟨hx, hk, h0.1, h0.2⟩
  unfold ownWord
  split
  · simp [one, two]
  · split
    · split
      · simp
      · simp [three]
    · simp
theorem others_len {m h : Int} : ((others m h).length : Int) ≤ max m 0 := by
  have := List.length_filter_le (fun x => !decide (x = h)) (rangeI 0 m)
  have e : (rangeI 0 m).length = m.toNat := by simp [rangeI]
  unfold others
  omega
theorem news_len {m h now : Int} {more : List En} : ((newsOf m h es more x now).2.length : Int) ≤ max m 0 := by
  unfold newsOf
  split
  · simp; omega
  · split
    · simp; omega
    · rw [List.length_map]; exact others_len
theorem news_name {m h now : Int} {more : List En} (hx : nameOk x = true) : ∀ z, (newsOf m h es more x now).1 = some z → nameOk z.n = true := by
  unfold newsOf
  split
  · intro z hz; cases hz
  · split
    · intro z hz; cases hz
    · intro z hz; cases hz; exact hx
theorem wordIn_mem_fold : ∀ (l : List En) (f : Wd), (∀ a, f = some a → En.word x a.1 a.2.1 a.2.2 ∈ es) → (∀ e ∈ l, e ∈ es) → ∀ a, l.foldl (wdStep x) f = some a → En.word x a.1 a.2.1 a.2.2 ∈ es
  | [], f, hf, _, a, ha => hf a ha
  | e :: l, f, hf, hl, a, ha => wordIn_mem_fold l (wdStep x f e) (fun b hb => by
      have he := hl e List.mem_cons_self
      cases e with
      | word n' h' k' u' =>
        by_cases hn : n' = x
        · subst hn
          simp [wdStep, wdA, wdB] at hb
          subst hb
          exact he
        · refine hf b ?_
          simpa [wdStep, wdA, wdB, hn] using hb
      | free n' h' k' =>
        refine hf b ?_
        cases f with
        | none => simp [wdStep, wdA, wdB] at hb
        | some c =>
          obtain ⟨c1, c2, c3⟩ := c
          simp only [wdStep, wdA, wdB] at hb
          split at hb
          · cases hb
          · exact hb
      | _ => exact hf b (by simpa [wdStep, wdA, wdB] using hb)) (fun e' he' => hl e' (List.mem_cons_of_mem _ he')) a ha
theorem wordIn_mem {h' k' u' : Int} (hw : wordIn es x = some (h', k', u')) : En.word x h' k' u' ∈ es :=
  wordIn_mem_fold es none (fun a ha => by cases ha) (fun _ h => h) (h', k', u') hw
theorem claim_facts {m : Int} {c : Cl} (hok : ∀ e ∈ es, e.ok m) (hc : claimOf es x = some c) : c.num = greatest es x ∧ 1 ≤ c.num ∧ En.back x c.num ∉ es ∧ nameOk c.per = true := by
  unfold claimOf at hc
  simp only at hc
  split at hc
  · cases hc
  · rename_i hn
    injection hc with hc
    subst hc
    have g0 : 0 ≤ greatest es x := (maxL_ge _ 0).1
    have g1 : greatest es x ≠ 0 := fun z => hn (.inl z)
    refine ⟨rfl, by show 1 ≤ greatest es x; omega, fun z => hn (.inr z), ?_⟩
    obtain ⟨a, ha, hb⟩ : ∃ a ∈ entsOf es "ask" x, a.i2 = greatest es x := by
      rcases maxL_mem (askedNums es x) 0 with e | e
      · exact absurd e g1
      · exact List.mem_map.mp e
    have hm : a ∈ ats es "ask" x (greatest es x) := List.mem_filter.mpr ⟨ha, by simpa using hb⟩
    cases hl : (ats es "ask" x (greatest es x)).getLast? with
    | none => rw [List.getLast?_eq_none_iff.mp hl] at hm; cases hm
    | some l =>
      have hlm := List.mem_of_getLast? hl
      obtain ⟨h1, h2, h3⟩ := ents_kind (List.mem_filter.mp hlm).1
      have hk := hok l h1
      show nameOk (((some l : Option En).map En.per).getD "") = true
      cases l <;> simp [En.kind] at h2
      exact hk.2.2.2
theorem others_mem {m h o : Int} (ho : o ∈ others m h) : houseOk m o ∧ o ≠ h := by
  unfold others at ho
  obtain ⟨h1, h2⟩ := List.mem_filter.mp ho
  exact ⟨mem_rangeI.mp h1, by simpa using h2⟩
theorem news_ok {m h now : Int} {more : List En} (hok : ∀ e ∈ es ++ more, e.ok m) (h0 : houseOk m h) (hx : nameOk x = true) (hn : 0 ≤ now) : ∀ l ∈ (newsOf m h es more x now).2, LeOk m l ∧ l.u ≤ now := by
  unfold newsOf
  split
  · intro l hl; cases hl
  · split
    · intro l hl; cases hl
    · rename_i c hc
      intro l hl
      obtain ⟨o, ho, rfl⟩ := List.mem_map.mp hl
      obtain ⟨o1, o2⟩ := others_mem ho
      obtain ⟨_, c1, _, c2⟩ := claim_facts hok hc
      exact ⟨⟨h0, o1, fun z => o2 z.symm, hx, c1, c2, hn⟩, Int.le_refl _⟩
theorem cutD_last {ds : List D} {d : D} : DL.cutD (ds ++ [d]) (some (-1)) none = [d] := by
  have e1 : HT.sIx (ds ++ [d]).length 0 (some (-1)) = ds.length := by
    simp [HT.sIx]
    try omega
  have e2 : HT.sIx (ds ++ [d]).length (ds ++ [d]).length none = ds.length + 1 := by
    simp [HT.sIx]
  unfold DL.cutD
  rw [e1, e2]
  simp
theorem cTuple_l {ds : List D} : cTuple st [.lst ds] = some (.tup ds) := by simp
theorem cTuple_t {ds : List D} : cTuple st [.tup ds] = some (.tup ds) := by simp
theorem ap_asked (ok : WOk n w) (hn : n ≤ 1300) (h0 : houseOk w.m h) (hx : nameOk x = true) (hp : nameOk p = true) (hk : 1 ≤ k) (hg : greatest (w.log h) x ≤ k) (hb : En.back x k ∉ w.log h)
    (hq : Q (askedW w h x k p).d st) : F_asked [w.d, .int h, .str x, .int k, .str p] st X Q := by
  have sz := sizeLine_eq
  have m1 := ok.m1
  have m7 := ok.m7
  have lo := ok.log h0
  have ll := lo.len
  have nw := ok.now
  have tm := ok.term
  have hok2 : ∀ e ∈ w.log h ++ [En.ask x k p (w.now + w.term)], e.ok w.m := ok_app lo.ok (by
    intro e he
    rw [List.mem_singleton] at he
    subst he
    exact ⟨hx, hk, by omega, hp⟩)
  have hcl := (claimOf_asked (u := w.now + w.term) (p := p) hk hg hb).2
  have how := ownWord_len (es := w.log h ++ [En.ask x k p (w.now + w.term)]) (h := h) (x := x) (k := k) (u := w.now + w.term) (now := w.now)
  have hwo := ownWord_ok (es := w.log h ++ [En.ask x k p (w.now + w.term)]) (h := h) (x := x) (k := k) (u := w.now + w.term) (now := w.now) (m := w.m) hx hk h0 (by omega)
  have hol := others_len (m := w.m) (h := h)
  have hnl := news_len (m := w.m) (h := h) (es := w.log h ++ [En.ask x k p (w.now + w.term)]) (more := ownWord (w.log h ++ [En.ask x k p (w.now + w.term)]) h x k (w.now + w.term) w.now) (x := x) (now := w.now)
  have hnn := news_name (m := w.m) (h := h) (es := w.log h ++ [En.ask x k p (w.now + w.term)]) (more := ownWord (w.log h ++ [En.ask x k p (w.now + w.term)]) h x k (w.now + w.term) w.now) (now := w.now) hx
  unfold askedW at hq
  dsimp only at hq
  simp only [F_asked, wDef_ap]
  refine ⟨rfl, ?_⟩
  rw [wSeq_ap]
  simp [-wSeq_ap]
  rw [wSeq_ap]
  simp [-wSeq_ap]
  rw [wSeq_ap]
  simp [-wSeq_ap]
  rw [atI_log h0, on_some]
  show on (dAdd st (.tup ((w.log h).map En.d)) (.tup ([En.ask x k p (w.now + w.term)].map En.d))) _
  rw [dAdd_en (by simp; omega), on_some]
  rw [wSeq_ap]
  simp [-wSeq_ap, -List.map_append]
  refine ap_own_word hok2 (by rw [List.length_append]; simp; omega) hcl (by omega) ?_
  have hlast : (w.log h ++ [En.ask x k p (w.now + w.term)]).getLast? = some (En.ask x k p (w.now + w.term)) := by simp
  generalize hlog : w.log h ++ [En.ask x k p (w.now + w.term)] = log at *
  generalize hes : ownWord log h x k (w.now + w.term) w.now = es at *
  rw [wSeq_ap]
  simp [-wSeq_ap, -List.map_append]
  have m1' : (1 : Int) ≤ w.logs.length := m1
  have m7' : (w.logs.length : Int) ≤ 7 := m7
  refine ap_other_houses (by omega) (by omega) ?_
  simp only [sqOf_lst, on_some]
  refine compL_imp (enc := D.int) (fun o : Int => [some w.d, some (D.int h), some (D.str x), some (D.int k), some (D.str p), some (D.int ↑w.logs.length), some (D.int (w.now + w.term)), some (D.tup (List.map En.d log)), some (D.tup (List.map En.d es)), none, none, none, some (.int o)]) (fun _ => true) (fun o => (Le.ask h o x k p (w.now + w.term)).d) ?_ ?_ ?_ trivial ?_
  · simp
  · intro o _ Q hq
    simpa using hq
  · intro o _ _ Q hq
    simpa [Le.d] using hq
  have e1 : ([] : List D) ++ ((others w.logs.length h).filter fun _ => true).map (fun o => (Le.ask h o x k p (w.now + w.term)).d) = ((others w.m h).map fun o => Le.ask h o x k p (w.now + w.term)).map Le.d := by
    rw [List.filter_eq_self.mpr (fun _ _ => rfl), List.nil_append, List.map_map]; rfl
  rw [e1]
  have hll : log.length ≤ 3 * n + 1 := by rw [← hlog, List.length_append]; simp; omega
  generalize hask : ((others w.m h).map fun o => Le.ask h o x k p (w.now + w.term)) = asks at *
  rw [wSeq_ap]
  simp [-wSeq_ap, -List.map_append]
  refine ap_news_of (m := w.m) (b := w.m) hok2 hwo (by omega) (by omega) (by omega) (by omega) nw ?_
  generalize hnw : newsOf w.m h log es x w.now = nw at *
  simp [-wSeq_ap, -List.map_append]
  rw [← hlog, List.map_append, List.map_singleton, cutD_last]
  rw [show [(En.ask x k p (w.now + w.term)).d] = [En.ask x k p (w.now + w.term)].map En.d from rfl, dAdd_en (by simp; omega), on_some]
  have hal : (asks.length : Int) ≤ 7 := by rw [← hask, List.length_map]; omega
  have hnl2 : (nw.2.length : Int) ≤ 7 := by omega
  rw [dAdd_lst (by rw [List.length_map, List.length_map]; omega), on_some, ← List.map_append]
  refine ap_moved (es := [En.ask x k p (w.now + w.term)] ++ es) (ls := asks ++ nw.2) ok (by omega) h0 cTuple_t cTuple_l (by simp; omega) (by rw [List.length_append]; omega) (fun z hz => hnn z hz) ?_
  simpa using hq
def backEs (w : Wo) (h : Int) (x : Str) (k : Int) : List En := .back x k :: (match wordIn (w.log h) x with
  | some (h', k', _) => if h' = h ∧ k' = k then [.free x h k] else []
  | none => [])
theorem backEs_len : (backEs w h x k).length ≤ 2 := by
  unfold backEs
  split
  · split <;> simp
  · simp
theorem ap_given_back (ok : WOk n w) (hn : n ≤ 1300) (h0 : houseOk w.m h) (hx : nameOk x = true) {c : Cl} (hc : claimOf (w.log h) x = some c) (hq : Q (backW w h x).d st) : F_given_back [w.d, .int h, .str x] st X Q := by
  have sz := sizeLine_eq
  have m1 : (1 : Int) ≤ w.logs.length := ok.m1
  have m7 : (w.logs.length : Int) ≤ 7 := ok.m7
  have lo := ok.log h0
  have ll := lo.len
  have hol := others_len (m := w.logs.length) (h := h)
  unfold backW at hq
  rw [hc] at hq
  dsimp only at hq
  simp only [F_given_back, wDef_ap]
  refine ⟨rfl, ?_⟩
  rw [wSeq_ap]
  simp [-wSeq_ap]
  rw [atI_log h0, on_some]
  rw [wSeq_ap]
  simp [-wSeq_ap, logD]
  refine ap_claim_in lo.ok (by omega) ?_
  rw [hc]
  simp [-wSeq_ap, clD, Cl.d]
  rw [wSeq_ap]
  simp [-wSeq_ap]
  intro p hp
  rw [wSeq_ap]
  simp [-wSeq_ap]
  refine ap_word_in ?_
  have hbl := backEs_len (w := w) (h := h) (x := x) (k := c.num)
  refine seq_via (fun e' st' => e' = [some w.d, some (D.int h), some (D.str x), some (D.tup (List.map En.d (w.log h))), some (D.int c.num), some (D.ref p), some (wdD (wordIn (w.log h) x)), none, none] ∧ st' = st.set p (.lst ((backEs w h x c.num).map En.d))) ?_ ?_
  · intro N hN
    unfold backEs at hN
    cases hw : wordIn (w.log h) x with
    | none =>
      rw [hw] at hN
      simp [wdD]
      exact hN _ _ ⟨rfl, rfl⟩
    | some a =>
      obtain ⟨h', k', u'⟩ := a
      rw [hw] at hN
      simp [wdD, cutD_to]
      rw [dEq_t (x := .tup [.int h', .int k']) (y := .tup [.int h, .int c.num]) [.i h', .i k'] [.i h, .i c.num] rfl rfl]
      by_cases h3 : h' = h ∧ k' = c.num
      · obtain ⟨rfl, rfl⟩ := h3
        simp
        rw [mAppend_ref Sto.set_same (by simp; omega)]
        simp
        refine ⟨by simp [tyNm], hN _ _ ⟨rfl, ?_⟩⟩
        simp
        rfl
      · have e : (decide (h' = h) && decide (k' = c.num)) = false := by simpa using h3
        simp [e]
        refine hN _ _ ⟨rfl, ?_⟩
        simp [h3]
        rfl
  · rintro e' st' ⟨rfl, rfl⟩
    rw [wSeq_ap]
    simp [-wSeq_ap]
    refine ap_other_houses (by omega) (by omega) ?_
    simp only [sqOf_lst, on_some]
    refine compL_imp (enc := D.int) (fun o : Int => [some w.d, some (D.int h), some (D.str x), some (D.tup (List.map En.d (w.log h))), some (D.int c.num), some (D.ref p), some (wdD (wordIn (w.log h) x)), none, some (.int o)]) (fun _ => true) (fun o => (Le.back h o x c.num).d) ?_ ?_ ?_ trivial ?_
    · simp
    · intro o _ Q hq
      simpa using hq
    · intro o _ _ Q hq
      simpa [Le.d] using hq
    have e1 : ([] : List D) ++ ((others w.logs.length h).filter fun _ => true).map (fun o => (Le.back h o x c.num).d) = ((others w.m h).map fun o => Le.back h o x c.num).map Le.d := by
      rw [List.filter_eq_self.mpr (fun _ _ => rfl), List.nil_append, List.map_map]; rfl
    rw [e1]
    have e2 : (st.set p (.lst ((backEs w h x c.num).map En.d))).keepOnly st = st := by rw [Sto.keepOnly_new hp, Sto.keepOnly_self]
    simp
    have he : cTuple (st.set p (.lst ((backEs w h x c.num).map En.d))) [.ref p] = some (.tup ((backEs w h x c.num).map En.d)) := by
      unfold cTuple lsOf
      simp [Sto.set_same]
    refine ap_moved (es := backEs w h x c.num) (ls := (others w.m h).map fun o => Le.back h o x c.num) (no := none) ok (by omega) h0 he (by rw [List.map_map]; exact cTuple_l) (by omega) (by rw [List.length_map]; have : (w.m : Int) = w.logs.length := rfl; rw [this]; omega) (fun z hz => by cases hz) ?_
    rw [e2]
    exact hq
theorem WOk.erase (ok : WOk n w) {i : Nat} : WOk n { w with yard := w.yard.eraseIdx i } :=
  { m1 := ok.m1, m7 := ok.m7, nl := ok.nl, now := ok.now, term := ok.term, logs := ok.logs, nts := ok.nts, down := ok.down, dlen := ok.dlen, dsrt := ok.dsrt,
    yard := fun l hl => ok.yard l (List.mem_of_mem_eraseIdx hl),
    ylen := by
      have := ok.ylen
      have := List.length_eraseIdx_le w.yard i
      show (w.yard.eraseIdx i).length ≤ 14 * n
      omega
    til := ok.til, ytil := fun l hl => ok.ytil l (List.mem_of_mem_eraseIdx hl) }
theorem erase_d {i : Nat} : (w.yard.map Le.d).take i ++ (w.yard.map Le.d).drop (i + 1) = (w.yard.eraseIdx i).map Le.d := by
  rw [List.eraseIdx_eq_take_drop_succ, List.map_append, List.map_take, List.map_drop]
theorem taken_ls_len {m h now : Int} {l : Le} (hm : m ≤ 7) : (taken m h es l now).ls.length ≤ 7 := by
  cases l with
  | ask s t n k p u =>
    unfold taken askTaken
    dsimp only
    split
    · simp
    · split
      · simp
      · split
        · simp
        · split <;> simp
  | word s t n k u =>
    unfold taken wordTaken
    dsimp only
    split
    · simp
    · split
      · simp
      · split
        · simp
        · dsimp only
          have := news_len (m := m) (h := h) (es := es) (more := [.got n k s u]) (x := n) (now := now)
          omega
  | no s t n k => simp [taken]
  | back s t n k => simp [taken]
  | told s t n k p u => simp [taken]
theorem taken_es_len {m h now : Int} {l : Le} : (taken m h es l now).es.length ≤ 1 := by
  cases l with
  | ask s t n k p u =>
    unfold taken askTaken
    dsimp only
    split
    · simp
    · split
      · simp
      · split
        · simp
        · split <;> simp
  | word s t n k u =>
    unfold taken wordTaken
    dsimp only
    split
    · simp
    · split
      · simp
      · split <;> simp
  | no s t n k =>
    unfold taken noTaken
    dsimp only
    split
    · simp
    · split <;> simp
  | back s t n k =>
    unfold taken backTaken
    dsimp only
    split
    · simp
    · split <;> simp
  | told s t n k p u => simp [taken]
theorem taken_nt {m h now : Int} {l : Le} (hl : LeOk m l) : ∀ z, (taken m h es l now).nt = some z → nameOk z.n = true := by
  cases l with
  | ask s t n k p u => intro z hz; cases hz
  | word s t n k u =>
    unfold taken wordTaken
    dsimp only
    split
    · intro z hz; cases hz
    · split
      · intro z hz; cases hz
      · split
        · intro z hz; cases hz
        · exact news_name hl.2.2.2.1
  | no s t n k => intro z hz; cases hz
  | back s t n k => intro z hz; cases hz
  | told s t n k p u => intro z hz; cases hz; exact hl.2.2.2.1
theorem ap_carried (ok : WOk n w) (hn : n ≤ 1300) (hk : 0 ≤ k) (hl : k < w.yard.length) (hq : Q (carriedW w k).d st) : F_carried [w.d, .int k] st X Q := by
  have sz := sizeLine_eq
  obtain ⟨l, h2, h3⟩ := let_at hk hl
  have lok := ok.yard l h3
  have h0 := lok.hs.2.1
  have m1 : (1 : Int) ≤ w.logs.length := ok.m1
  have m7 : (w.logs.length : Int) ≤ 7 := ok.m7
  have lo := ok.log h0
  have ll := lo.len
  have yl := ok.ylen
  unfold carriedW at hq
  rw [h2] at hq
  dsimp only at hq
  simp only [F_carried, wDef_ap]
  refine ⟨rfl, ?_⟩
  rw [wSeq_ap]
  simp [-wSeq_ap]
  rw [atI_yard hk, h2]
  simp [-wSeq_ap]
  rw [wSeq_ap]
  simp [-wSeq_ap]
  rw [ixD_Le2, on_some]
  rw [wSeq_ap]
  simp [-wSeq_ap]
  rw [atI_log h0, on_some]
  refine ap_taken (b := w.m) lo.ok lok.ok (by omega) (by omega) (by omega) ok.now ?_
  generalize ht : taken w.logs.length l.to (w.log l.to) l w.now = tk
  have ht2 : taken w.m l.to (w.log l.to) l w.now = tk := ht
  have b1 := taken_ls_len (es := w.log l.to) (h := l.to) (now := w.now) (l := l) m7
  have b2 := taken_es_len (es := w.log l.to) (h := l.to) (now := w.now) (l := l) (m := w.m)
  have b3 := taken_nt (es := w.log l.to) (h := l.to) (now := w.now) (l := l) lok
  rw [ht] at b1
  rw [ht2] at b2 b3 hq
  simp [Tk.d, slD_W]
  rw [cutD_to hk, cutD_from (by omega), dAdd_tup (by rw [List.length_take, List.length_drop, List.length_map]; omega), on_some]
  rw [show (k + 1).toNat = k.toNat + 1 by omega, erase_d]
  rw [dAdd_tup (by simp; omega), on_some]
  refine ap_moved (w := { w with yard := w.yard.eraseIdx k.toNat }) (es := tk.es) (ls := tk.ls) ok.erase (by omega) h0 cTuple_t cTuple_t (by omega) (by omega) b3 ?_
  simpa using hq
end
end DL
/-! SH17: done. -/
namespace DL
open PySem PySem.Spec PyProof.Rows L2
section
variable {st : Sto} {X : PoX} {Q : PoE} {w : Wo} {n : Nat} {h k u : Int} {x p : Str} {es : List En}
theorem ap_copy (ok : WOk n w) (hn : n ≤ 1300) (hk : 0 ≤ k) (hl : k < w.yard.length) (hq : Q (copyW w k).d st) : F_yard_done [w.d, .str (Str.ofString "copy"), .int k] st X Q := by
  have sz := sizeLine_eq
  have yl := ok.ylen
  obtain ⟨l, h2, h3⟩ := let_at hk hl
  unfold copyW at hq
  rw [h2] at hq
  dsimp only at hq
  simp only [F_yard_done, wDef_ap]
  refine ⟨rfl, ?_⟩
  rw [wSeq_ap]
  simp [-wSeq_ap]
  rw [wSeq_ap]
  simp [-wSeq_ap, slD_W]
  rw [atI_yard hk, h2]
  simp
  rw [dAdd_tup (by simp; omega), on_some, dAdd_tup (by simp; omega), on_some]
  simpa [Wo.d] using hq
theorem ap_lose (ok : WOk n w) (hn : n ≤ 1300) (hk : 0 ≤ k) (hq : Q ({ w with yard := w.yard.eraseIdx k.toNat } : Wo).d st) : F_yard_done [w.d, .str (Str.ofString "lose"), .int k] st X Q := by
  have sz := sizeLine_eq
  have yl := ok.ylen
  simp only [F_yard_done, wDef_ap]
  refine ⟨rfl, ?_⟩
  rw [wSeq_ap]
  simp [-wSeq_ap]
  rw [wSeq_ap]
  simp [-wSeq_ap, slD_W, ofString_inj]
  rw [cutD_to hk, cutD_from (by omega), dAdd_tup (by rw [List.length_take, List.length_drop, List.length_map]; omega), on_some]
  rw [show (k + 1).toNat = k.toNat + 1 by omega, erase_d]
  rw [dAdd_tup (by simp; omega), on_some]
  simpa [Wo.d] using hq
theorem ap_house_claim (ok : WOk n w) (hn : n ≤ 1300) (h0 : houseOk w.m h) (hx : nameOk x = true) (hp : nameOk p = true) (hq : Q (behindW w (.claim h x p)).d st) : F_house_done [w.d, (De.claim h x p).d] st X Q := by
  have lo := ok.log h0
  have ll := lo.len
  simp only [F_house_done, wDef_ap]
  refine ⟨rfl, ?_⟩
  rw [wSeq_ap]
  simp [-wSeq_ap, De.d, cutD_to]
  rw [wSeq_ap]
  simp [-wSeq_ap]
  rw [atI_log h0, on_some]
  refine ap_next_number (by omega) ?_
  have mn := maxAsk_nn (es := w.log h)
  have gm := greatest_le_max (es := w.log h) (x := x)
  show F_asked [w.d, .int h, .str x, .int (1 + maxAsk (w.log h)), .str p] st _ _
  refine ap_asked ok hn h0 hx hp (by omega) (by omega) (fun hb => ?_) ?_
  · have := lo.bk _ _ hb
    omega
  · simpa [behindW] using hq
theorem ap_house_renew (ok : WOk n w) (hn : n ≤ 1300) (h0 : houseOk w.m h) (hx : nameOk x = true) {c : Cl} (hc : claimOf (w.log h) x = some c) (hq : Q (behindW w (.renew h x)).d st) : F_house_done [w.d, (De.renew h x).d] st X Q := by
  have lo := ok.log h0
  have ll := lo.len
  obtain ⟨c1, c2, c3, c4⟩ := claim_facts lo.ok hc
  simp only [F_house_done, wDef_ap]
  refine ⟨rfl, ?_⟩
  rw [wSeq_ap]
  simp [-wSeq_ap, De.d, cutD_to]
  rw [wSeq_ap]
  simp [-wSeq_ap, ofString_inj]
  rw [wSeq_ap]
  simp [-wSeq_ap, ofString_inj]
  rw [wSeq_ap]
  simp [-wSeq_ap, ofString_inj]
  rw [atI_log h0, on_some]
  refine ap_claim_in lo.ok (by omega) ?_
  rw [hc]
  simp [clD, Cl.d]
  refine ap_asked ok hn h0 hx c4 c2 (by omega) c3 ?_
  simpa [behindW, hc] using hq
theorem ap_house_back (ok : WOk n w) (hn : n ≤ 1300) (h0 : houseOk w.m h) (hx : nameOk x = true) {c : Cl} (hc : claimOf (w.log h) x = some c) (hq : Q (behindW w (.back h x)).d st) : F_house_done [w.d, (De.back h x).d] st X Q := by
  simp only [F_house_done, wDef_ap]
  refine ⟨rfl, ?_⟩
  rw [wSeq_ap]
  simp [-wSeq_ap, De.d, cutD_to]
  rw [wSeq_ap]
  simp [-wSeq_ap, ofString_inj]
  rw [wSeq_ap]
  simp [-wSeq_ap, ofString_inj]
  refine ap_given_back ok hn h0 hx hc ?_
  simpa [behindW] using hq
theorem tpOf_W : tpOf w.d = some [.int w.now, .int w.term, .tup (w.logs.map logD), .tup (w.nts.map ntsD), .tup (w.down.map .int), .tup (w.side.map .int), .tup (w.yard.map Le.d)] := rfl
def netE : De → Bool
  | .fall _ => true | .rise _ => true | .part _ => true | .heal => true | .round => true | _ => false
theorem ap_net_done (ok : WOk n w) {e : De} (he : e.ok w.m) (hne : netE e = true) (hn : n ≤ 1300) (hq : Q (behindW w e).d st) : F_net_done [w.d, e.d] st X Q := by
  have sz := sizeLine_eq
  have m1 : (1 : Int) ≤ w.logs.length := ok.m1
  have m7 : (w.logs.length : Int) ≤ 7 := ok.m7
  simp only [F_net_done, wDef_ap]
  refine ⟨rfl, ?_⟩
  rw [wSeq_ap]
  simp [-wSeq_ap, tpOf_W]
  have hdn := ok.dlen
  cases e with
  | fall h =>
    have h1 := he.1
    have h3 : h < (w.nts.map ntsD).length := by rw [List.length_map, ok.nl]; exact he.2
    rw [wSeq_ap]
    simp [-wSeq_ap, De.d]
    rw [wSeq_ap]
    simp [-wSeq_ap, ofString_inj]
    refine ap_at_place h1 h3 (by rw [List.length_map, ok.nl]; omega) ?_
    have e1 : (w.nts.map ntsD).set h.toNat (.tup []) = (w.nts.set h.toNat []).map ntsD := by rw [List.map_set]; rfl
    rw [e1]
    show on (dAdd st (.tup (w.down.map .int)) (.tup ([h].map .int))) _
    rw [dAdd_tup (by rw [List.length_map]; simp; omega), on_some, ← List.map_append]
    rw [cSortedTup_ap, on_some]
    simp [-List.map_append]
    simpa [behindW, Wo.d] using hq
  | rise h =>
    rw [wSeq_ap]
    simp [-wSeq_ap, De.d]
    rw [wSeq_ap]
    simp [-wSeq_ap, ofString_inj]
    rw [wSeq_ap]
    simp [-wSeq_ap, ofString_inj]
    refine compL_imp (enc := D.int) (fun x : Int => [some w.d, some (D.tup [D.str (Str.ofString "rise"), D.int h]), some (D.str (Str.ofString "rise")),
      some (D.int w.now), some (D.int w.term), some (D.tup (List.map logD w.logs)), some (D.tup (List.map ntsD w.nts)),
      some (D.tup (List.map D.int w.down)), some (D.tup (List.map D.int w.side)), some (D.tup (List.map Le.d w.yard)),
      some (.int x)]) (fun x => !decide (x = h)) D.int ?_ ?_ ?_ trivial ?_
    · simp
    · intro x _ Q hq
      simpa using hq
    · intro x _ _ Q hq
      simpa using hq
    · simpa [behindW, Wo.d] using hq
  | part s =>
    rw [wSeq_ap]
    simp [-wSeq_ap, De.d]
    rw [wSeq_ap]
    simp [-wSeq_ap, ofString_inj]
    rw [wSeq_ap]
    simp [-wSeq_ap, ofString_inj]
    rw [wSeq_ap]
    simp [-wSeq_ap, ofString_inj]
    simpa [behindW, Wo.d] using hq
  | heal =>
    rw [wSeq_ap]
    simp [-wSeq_ap, De.d]
    rw [wSeq_ap]
    simp [-wSeq_ap, ofString_inj]
    rw [wSeq_ap]
    simp [-wSeq_ap, ofString_inj]
    rw [wSeq_ap]
    simp [-wSeq_ap, ofString_inj]
    rw [wSeq_ap]
    simp [-wSeq_ap, ofString_inj]
    simpa [behindW, Wo.d] using hq
  | round =>
    rw [wSeq_ap]
    simp [-wSeq_ap, De.d]
    rw [wSeq_ap]
    simp [-wSeq_ap, ofString_inj]
    rw [wSeq_ap]
    simp [-wSeq_ap, ofString_inj]
    rw [wSeq_ap]
    simp [-wSeq_ap, ofString_inj]
    rw [wSeq_ap]
    simp [-wSeq_ap, ofString_inj]
    simpa [behindW, Wo.d] using hq
  | _ => cases hne
theorem or_none {a b : Option Str} (h : a.or b = none) : a = none ∧ b = none := by
  cases a <;> cases b <;> first | exact ⟨rfl, rfl⟩ | cases h
theorem ap_done {e : De} (ok : WOk n w) (hn : n ≤ 1300) (he : e.ok w.m) (hx : ∀ y, refusal w e = some y → X y st) (hq : refusal w e = none → Q (behindW w e).d st) : F_done [w.d, e.d] st X Q := by
  have m1 : (1 : Int) ≤ w.logs.length := ok.m1
  have m7 : (w.logs.length : Int) ≤ 7 := ok.m7
  unfold refusal at hx hq
  simp only [F_done, wDef_ap]
  refine ⟨rfl, ?_⟩
  rw [wSeq_ap]
  simp [-wSeq_ap]
  refine ap_is_deed (m := w.logs.length) he (by omega) ?_
  simp [-wSeq_ap]
  rw [wSeq_ap]
  simp [-wSeq_ap]
  refine ap_need_letter (fun y hy => ?_) (fun hl => ?_)
  · simp only [Sto.keepOnly_self]
    exact hx y (by rw [hy]; rfl)
  rw [hl] at hx hq
  simp only [Option.none_or] at hx hq
  rw [wSeq_ap]
  simp [-wSeq_ap]
  refine ap_need_up he hl (fun y hy => ?_) (fun hu => ?_)
  · simp only [Sto.keepOnly_self]
    exact hx y (by rw [hy]; rfl)
  rw [hu] at hx hq
  simp only [Option.none_or] at hx hq
  rw [wSeq_ap]
  simp [-wSeq_ap]
  refine ap_need_way he hl (fun y hy => ?_) (fun hw => ?_)
  · simp only [Sto.keepOnly_self]
    exact hx y (by rw [hy]; rfl)
  rw [hw] at hx hq
  simp only [Option.none_or] at hx hq
  rw [wSeq_ap]
  simp [-wSeq_ap]
  refine ap_need_claim ok (by omega) he (fun y hy => ?_) (fun hc => ?_)
  · simp only [Sto.keepOnly_self]
    exact hx y hy
  have hq := hq hc
  have stands : ∀ {h : Int} {x : Str}, standsW w h x = true → ∃ c, claimOf (w.log h) x = some c := fun {h x} hs => by
    unfold standsW at hs
    split at hs
    · cases hs
    · exact ⟨_, by assumption⟩
  have letOk : ∀ {k : Int}, (if k < (w.yard.length : Int) then (none : Option Str) else some (Str.ofString "NoLetter")) = none → k < w.yard.length := fun {k} hk => by
    split at hk
    · assumption
    · cases hk
  have fin : ∀ {d : D}, d = (behindW w e).d → Q d (st.keepOnly st) := fun {d} hd => by rw [hd, Sto.keepOnly_self]; exact hq
  rw [wSeq_ap]
  cases e with
  | claim h x p =>
    simp [-wSeq_ap, De.d, ofString_inj]
    exact ap_house_claim ok hn he.1 he.2.1 he.2.2 (fin rfl)
  | renew h x =>
    obtain ⟨c, hcl⟩ := stands (h := h) (x := x) (by
      unfold clRef at hc
      simp only at hc
      split at hc
      · assumption
      · cases hc)
    simp [-wSeq_ap, De.d, ofString_inj]
    exact ap_house_renew ok hn he.1 he.2 hcl (fin rfl)
  | back h x =>
    obtain ⟨c, hcl⟩ := stands (h := h) (x := x) (by
      unfold clRef at hc
      simp only at hc
      split at hc
      · assumption
      · cases hc)
    simp [-wSeq_ap, De.d, ofString_inj]
    exact ap_house_back ok hn he.1 he.2 hcl (fin rfl)
  | carry k =>
    simp [-wSeq_ap, De.d, ofString_inj]
    rw [wSeq_ap]
    simp [-wSeq_ap, ofString_inj]
    exact ap_carried ok hn he (letOk hl) (fin rfl)
  | copy k =>
    simp [-wSeq_ap, De.d, ofString_inj]
    rw [wSeq_ap]
    simp [-wSeq_ap, ofString_inj]
    rw [wSeq_ap]
    simp [-wSeq_ap, ofString_inj]
    exact ap_copy ok hn he (letOk hl) (fin rfl)
  | lose k =>
    simp [-wSeq_ap, De.d, ofString_inj]
    rw [wSeq_ap]
    simp [-wSeq_ap, ofString_inj]
    rw [wSeq_ap]
    simp [-wSeq_ap, ofString_inj]
    exact ap_lose ok hn he (fin rfl)
  | fall h =>
    simp [-wSeq_ap, De.d, ofString_inj]
    rw [wSeq_ap]
    simp [-wSeq_ap, ofString_inj]
    rw [wSeq_ap]
    simp [-wSeq_ap, ofString_inj]
    exact ap_net_done (e := .fall h) ok he rfl hn (fin rfl)
  | rise h =>
    simp [-wSeq_ap, De.d, ofString_inj]
    rw [wSeq_ap]
    simp [-wSeq_ap, ofString_inj]
    rw [wSeq_ap]
    simp [-wSeq_ap, ofString_inj]
    exact ap_net_done (e := .rise h) ok he rfl hn (fin rfl)
  | part s =>
    simp [-wSeq_ap, De.d, ofString_inj]
    rw [wSeq_ap]
    simp [-wSeq_ap, ofString_inj]
    rw [wSeq_ap]
    simp [-wSeq_ap, ofString_inj]
    exact ap_net_done (e := .part s) ok he rfl hn (fin rfl)
  | heal =>
    simp [-wSeq_ap, De.d, ofString_inj]
    rw [wSeq_ap]
    simp [-wSeq_ap, ofString_inj]
    rw [wSeq_ap]
    simp [-wSeq_ap, ofString_inj]
    exact ap_net_done (e := .heal) ok he rfl hn (fin rfl)
  | round =>
    simp [-wSeq_ap, De.d, ofString_inj]
    rw [wSeq_ap]
    simp [-wSeq_ap, ofString_inj]
    rw [wSeq_ap]
    simp [-wSeq_ap, ofString_inj]
    exact ap_net_done (e := .round) ok he rfl hn (fin rfl)
end
end DL
/-! SH18: worlds stay well formed. -/
namespace DL
open PySem PySem.Spec PyProof.Rows L2
section
variable {w : Wo} {n : Nat} {h k u : Int} {x p : Str} {es fs : List En}
theorem maxAsk_app : maxAsk es ≤ maxAsk (es ++ fs) := by
  unfold maxAsk
  rcases maxL_mem ((es.filter fun e => decide (e.kind = "ask")).map En.i2) 0 with e | e
  · rw [e]; exact (maxL_ge _ 0).1
  · refine (maxL_ge _ 0).2 _ ?_
    rw [List.filter_append, List.map_append]
    exact List.mem_append_left _ e
theorem ask_le {e : En} (he : e ∈ es) (hk : e.kind = "ask") : e.i2 ≤ maxAsk es :=
  (maxL_ge _ 0).2 _ (List.mem_map.mpr ⟨e, List.mem_filter.mpr ⟨he, by simpa using hk⟩, rfl⟩)
theorem moved_m {ls : List Le} {no : Option Nt} : (movedW w h es ls no).m = w.m := by
  unfold Wo.m movedW; simp
theorem moved_ok {ls : List Le} {no : Option Nt} (ok : WOk n w) (h0 : houseOk w.m h) (he : ∀ e ∈ es, e.ok w.m ∧ e.i4 ≤ w.now + w.term) (le : es.length ≤ 3)
    (hbk : ∀ x k, En.back x k ∈ es → k ≤ maxAsk (w.log h ++ es)) (hl : ∀ l ∈ ls, LeOk w.m l ∧ l.u ≤ w.now + w.term) (ll : ls.length ≤ 14) (hno : ∀ z, no = some z → nameOk z.n = true) : WOk (n + 1) (movedW w h es ls no) := by
  have mm : (movedW w h es ls no).m = w.m := moved_m
  have lo := ok.log h0
  have la := log_at h0
  have nt := ok.nts _ (ntl_at ok h0).2
  refine ⟨?_, ?_, ?_, ok.now, ok.term, ?_, ?_, ?_, ?_, ok.dsrt, ?_, ?_, ?_, ?_⟩
  · rw [mm]; exact ok.m1
  · rw [mm]; exact ok.m7
  · show (w.nts.set h.toNat _).length = (w.logs.set h.toNat _).length
    rw [List.length_set, List.length_set]; exact ok.nl
  · rw [mm]
    intro es' hes
    rcases List.mem_or_eq_of_mem_set hes with hm | rfl
    · have := ok.logs _ hm
      exact ⟨this.ok, by have := this.len; omega, this.bk⟩
    · refine ⟨ok_app lo.ok fun e h => (he e h).1, ?_, ?_⟩
      · have := lo.len
        rw [List.length_append]; omega
      · intro x k hb
        rcases List.mem_append.mp hb with hb | hb
        · exact Int.le_trans (lo.bk x k hb) maxAsk_app
        · exact hbk x k hb
  · intro l hml
    rcases List.mem_or_eq_of_mem_set hml with hm | rfl
    · have := ok.nts _ hm
      exact ⟨this.1, by omega⟩
    · have := keepN_len (l := w.ntl h) (no := no)
      exact ⟨keepN_ok nt.1 hno, by omega⟩
  · rw [mm]; exact ok.down
  · have := ok.dlen
    show w.down.length ≤ n + 1
    omega
  · rw [mm]
    intro l hml
    rcases List.mem_append.mp hml with hm | hm
    · exact ok.yard l hm
    · exact (hl l hm).1
  · show (w.yard ++ ls).length ≤ 14 * (n + 1)
    have := ok.ylen
    rw [List.length_append]; omega
  · intro es' hes
    rcases List.mem_or_eq_of_mem_set hes with hm | rfl
    · exact ok.til _ hm
    · intro e hem
      rcases List.mem_append.mp hem with hb | hb
      · exact ok.til _ la.2 e hb
      · exact (he e hb).2
  · intro l hml
    rcases List.mem_append.mp hml with hm | hm
    · exact ok.ytil l hm
    · exact (hl l hm).2
theorem asked_ok (ok : WOk n w) (h0 : houseOk w.m h) (hx : nameOk x = true) (hp : nameOk p = true) (hk : 1 ≤ k) : WOk (n + 1) (askedW w h x k p) := by
  have m1 := ok.m1
  have m7 := ok.m7
  have nw := ok.now
  have tm := ok.term
  have lo := ok.log h0
  unfold askedW
  dsimp only
  have hok2 : ∀ e ∈ w.log h ++ [En.ask x k p (w.now + w.term)], e.ok w.m := ok_app lo.ok (by
    intro e he
    rw [List.mem_singleton] at he
    subst he
    exact ⟨hx, hk, by omega, hp⟩)
  have hwo := ownWord_ok (es := w.log h ++ [En.ask x k p (w.now + w.term)]) (h := h) (x := x) (k := k) (u := w.now + w.term) (now := w.now) (m := w.m) hx hk h0 (by omega)
  have how := ownWord_len (es := w.log h ++ [En.ask x k p (w.now + w.term)]) (h := h) (x := x) (k := k) (u := w.now + w.term) (now := w.now)
  have hou : ∀ e ∈ ownWord (w.log h ++ [En.ask x k p (w.now + w.term)]) h x k (w.now + w.term) w.now, e.i4 ≤ w.now + w.term ∧ ∀ y j, e ≠ .back y j := by
    unfold ownWord
    split
    · intro e he
      simp at he
      rcases he with rfl | rfl <;> exact ⟨Int.le_refl _, fun _ _ z => by cases z⟩
    · split
      · split
        · intro e he; cases he
        · intro e he
          rw [List.mem_singleton.mp he]
          exact ⟨by show (0 : Int) ≤ _; omega, fun _ _ z => by cases z⟩
      · intro e he; cases he
  have hol := others_len (m := w.m) (h := h)
  have hnl := news_len (m := w.m) (h := h) (es := w.log h ++ [En.ask x k p (w.now + w.term)]) (more := ownWord (w.log h ++ [En.ask x k p (w.now + w.term)]) h x k (w.now + w.term) w.now) (x := x) (now := w.now)
  refine moved_ok ok h0 ?_ ?_ ?_ ?_ ?_ (news_name hx)
  · intro e he
    rcases List.mem_cons.mp he with rfl | he
    · exact ⟨⟨hx, hk, by omega, hp⟩, Int.le_refl _⟩
    · exact ⟨hwo e he, (hou e he).1⟩
  · simp; omega
  · intro y j hb
    rcases List.mem_cons.mp hb with hb | hb
    · cases hb
    · exact absurd rfl ((hou _ hb).2 y j)
  · intro l hl
    rcases List.mem_append.mp hl with hl | hl
    · obtain ⟨o, ho, rfl⟩ := List.mem_map.mp hl
      obtain ⟨o1, o2⟩ := others_mem ho
      exact ⟨⟨h0, o1, fun z => o2 z.symm, hx, hk, hp, by omega⟩, Int.le_refl _⟩
    · obtain ⟨a, b⟩ := news_ok (ok_app hok2 hwo) h0 hx nw l hl
      exact ⟨a, by omega⟩
  · rw [List.length_append, List.length_map]; omega
theorem back_ok (ok : WOk n w) (h0 : houseOk w.m h) (hx : nameOk x = true) {c : Cl} (hc : claimOf (w.log h) x = some c) : WOk (n + 1) (backW w h x) := by
  have m1 := ok.m1
  have m7 := ok.m7
  have nw := ok.now
  have tm := ok.term
  have lo := ok.log h0
  obtain ⟨c1, c2, c3, c4⟩ := claim_facts lo.ok hc
  have gm := greatest_le_max (es := w.log h) (x := x)
  unfold backW
  rw [hc]
  have hol := others_len (m := w.m) (h := h)
  show WOk (n + 1) (movedW w h (backEs w h x c.num) _ none)
  have hbe : ∀ e ∈ backEs w h x c.num, e = .back x c.num ∨ e = .free x h c.num := by
    unfold backEs
    intro e he
    rcases List.mem_cons.mp he with rfl | he
    · exact .inl rfl
    · split at he
      · split at he
        · exact .inr (List.mem_singleton.mp he)
        · cases he
      · cases he
  refine moved_ok ok h0 ?_ ?_ ?_ ?_ ?_ (fun z hz => by cases hz)
  · intro e he
    rcases hbe e he with rfl | rfl
    · exact ⟨⟨hx, c2⟩, by show (0 : Int) ≤ _; omega⟩
    · exact ⟨⟨hx, c2, h0.1, h0.2⟩, by show (0 : Int) ≤ _; omega⟩
  · have := backEs_len (w := w) (h := h) (x := x) (k := c.num); omega
  · intro y j hb
    have : j = c.num := by
      rcases hbe _ hb with e | e
      · cases e; rfl
      · cases e
    have := maxAsk_app (es := w.log h) (fs := backEs w h x c.num)
    omega
  · intro l hl
    obtain ⟨o, ho, rfl⟩ := List.mem_map.mp hl
    obtain ⟨o1, o2⟩ := others_mem ho
    exact ⟨⟨h0, o1, fun z => o2 z.symm, hx, c2⟩, by show (0 : Int) ≤ _; omega⟩
  · rw [List.length_map]; omega
theorem taken_facts {m h now T : Int} {l : Le} (hok : ∀ e ∈ es, e.ok m) (ht : ∀ e ∈ es, e.i4 ≤ T) (hl : LeOk m l) (hh : l.to = h) (hu : l.u ≤ T) (hn : 0 ≤ now) (hnT : now ≤ T) :
    (∀ e ∈ (taken m h es l now).es, (e.ok m ∧ e.i4 ≤ T) ∧ ∀ y j, e ≠ .back y j) ∧ (∀ l' ∈ (taken m h es l now).ls, LeOk m l' ∧ l'.u ≤ T) := by
  subst hh
  cases l with
  | ask s t n k p u =>
    obtain ⟨a1, a2, a3, a4, a5, a6, a7⟩ := hl
    have hu : u ≤ T := hu
    unfold taken askTaken
    dsimp only
    split
    · exact ⟨fun e he => (by cases he), fun e he => (by cases he)⟩
    · split
      · refine ⟨fun e he => ?_, fun e he => ?_⟩
        · rw [List.mem_singleton.mp he]
          exact ⟨⟨⟨a4, a5, a1.1, a1.2, a7⟩, hu⟩, fun _ _ z => by cases z⟩
        · rw [List.mem_singleton.mp he]
          exact ⟨⟨a2, a1, fun z => a3 z.symm, a4, a5, a7⟩, hu⟩
      · split
        · exact ⟨fun e he => (by cases he), fun e he => (by cases he)⟩
        · rename_i h' k' u' hw
          have wm := wordIn_mem hw
          split
          · refine ⟨fun e he => (by cases he), fun e he => ?_⟩
            rw [List.mem_singleton.mp he]
            exact ⟨⟨a2, a1, fun z => a3 z.symm, a4, a5, (hok _ wm).2.2.2.2⟩, ht _ wm⟩
          · refine ⟨fun e he => (by cases he), fun e he => ?_⟩
            rw [List.mem_singleton.mp he]
            exact ⟨⟨a2, a1, fun z => a3 z.symm, a4, a5⟩, by show (0 : Int) ≤ _; omega⟩
  | word s t n k u =>
    obtain ⟨a1, a2, a3, a4, a5, a6⟩ := hl
    have hu : u ≤ T := hu
    have tn : ¬ ((Le.word s t n k u).to = s) := fun z => a3 z.symm
    unfold taken wordTaken
    dsimp only
    have bk : LeOk m (.back (Le.word s t n k u).to s n k) ∧ Le.u (.back (Le.word s t n k u).to s n k) ≤ T := ⟨⟨a2, a1, tn, a4, a5⟩, by show (0 : Int) ≤ _; omega⟩
    split
    · refine ⟨fun e he => (by cases he), fun e he => ?_⟩
      rw [List.mem_singleton.mp he]
      exact bk
    · split
      · refine ⟨fun e he => (by cases he), fun e he => ?_⟩
        rw [List.mem_singleton.mp he]
        exact bk
      · split
        · exact ⟨fun e he => (by cases he), fun e he => (by cases he)⟩
        · refine ⟨fun e he => ?_, fun e he => ?_⟩
          · rw [List.mem_singleton.mp he]
            exact ⟨⟨⟨a4, a5, a1.1, a1.2, a6⟩, hu⟩, fun _ _ z => by cases z⟩
          · obtain ⟨b1, b2⟩ := news_ok (more := [.got n k s u]) (ok_app hok (by
              intro e he
              rw [List.mem_singleton.mp he]
              exact ⟨a4, a5, a1.1, a1.2, a6⟩)) a2 a4 hn e he
            exact ⟨b1, by omega⟩
  | no s t n k =>
    obtain ⟨a1, a2, a3, a4, a5⟩ := hl
    unfold taken noTaken
    dsimp only
    split
    · exact ⟨fun e he => (by cases he), fun e he => (by cases he)⟩
    · split
      · exact ⟨fun e he => (by cases he), fun e he => (by cases he)⟩
      · refine ⟨fun e he => ?_, fun e he => (by cases he)⟩
        rw [List.mem_singleton.mp he]
        exact ⟨⟨⟨a4, a5, a1.1, a1.2⟩, by show (0 : Int) ≤ _; omega⟩, fun _ _ z => by cases z⟩
  | back s t n k =>
    obtain ⟨a1, a2, a3, a4, a5⟩ := hl
    unfold taken backTaken
    dsimp only
    split
    · exact ⟨fun e he => (by cases he), fun e he => (by cases he)⟩
    · split
      · refine ⟨fun e he => ?_, fun e he => (by cases he)⟩
        rw [List.mem_singleton.mp he]
        exact ⟨⟨⟨a4, a5, a1.1, a1.2⟩, by show (0 : Int) ≤ _; omega⟩, fun _ _ z => by cases z⟩
      · exact ⟨fun e he => (by cases he), fun e he => (by cases he)⟩
  | told s t n k p u => exact ⟨fun e he => (by cases he), fun e he => (by cases he)⟩
theorem carried_ok (ok : WOk n w) (hk : 0 ≤ k) (hl : k < w.yard.length) : WOk (n + 1) (carriedW w k) := by
  obtain ⟨l, h2, h3⟩ := let_at hk hl
  have lok := ok.yard l h3
  have h0 := lok.hs.2.1
  have lo := ok.log h0
  unfold carriedW
  rw [h2]
  dsimp only
  have tm := ok.term
  have nw := ok.now
  obtain ⟨t1, t2⟩ := taken_facts (now := w.now) (T := w.now + w.term) lo.ok (ok.til _ (log_at h0).2) lok rfl (ok.ytil l h3) ok.now (by omega)
  have b1 := taken_ls_len (es := w.log l.to) (h := l.to) (now := w.now) (l := l) ok.m7
  have b2 := taken_es_len (es := w.log l.to) (h := l.to) (now := w.now) (l := l) (m := w.m)
  refine moved_ok (w := { w with yard := w.yard.eraseIdx k.toNat }) ok.erase h0 (fun e he => (t1 e he).1) (by omega) ?_ t2 (by omega) (taken_nt lok)
  intro y j hb
  exact absurd rfl ((t1 _ hb).2 y j)
theorem WOk.mono (ok : WOk n w) : WOk (n + 1) w :=
  { m1 := ok.m1, m7 := ok.m7, nl := ok.nl, now := ok.now, term := ok.term,
    logs := fun es he => ⟨(ok.logs es he).ok, by have := (ok.logs es he).len; omega, (ok.logs es he).bk⟩,
    nts := fun l hl => ⟨(ok.nts l hl).1, by have := (ok.nts l hl).2; omega⟩, down := ok.down, dlen := by have := ok.dlen; omega, dsrt := ok.dsrt,
    yard := ok.yard, ylen := by have := ok.ylen; omega, til := ok.til, ytil := ok.ytil }
theorem pw_lt {l : List Int} (h : l.Pairwise (· ≤ ·)) (nd : l.Nodup) : l.Pairwise (· < ·) :=
  (List.pairwise_and_iff.mpr ⟨h, nd⟩).imp fun {a b} hab => by have := hab.1; have := hab.2; omega
theorem behind_ok {e : De} (ok : WOk n w) (he : e.ok w.m) (hr : refusal w e = none) : WOk (n + 1) (behindW w e) := by
  unfold refusal at hr
  obtain ⟨hl, hr⟩ := or_none hr
  obtain ⟨hu, hr⟩ := or_none hr
  obtain ⟨hw, hc⟩ := or_none hr
  have stands : ∀ {h : Int} {x : Str}, standsW w h x = true → ∃ c, claimOf (w.log h) x = some c := fun {h x} hs => by
    unfold standsW at hs
    split at hs
    · cases hs
    · exact ⟨_, by assumption⟩
  have letOk : ∀ {k : Int}, (if k < (w.yard.length : Int) then (none : Option Str) else some (Str.ofString "NoLetter")) = none → k < w.yard.length := fun {k} hk => by
    split at hk
    · assumption
    · cases hk
  cases e with
  | claim h x p =>
    have mn := maxAsk_nn (es := w.log h)
    exact asked_ok ok he.1 he.2.1 he.2.2 (by omega)
  | renew h x =>
    obtain ⟨c, hcl⟩ := stands (h := h) (x := x) (by
      unfold clRef at hc
      simp only at hc
      split at hc
      · assumption
      · cases hc)
    obtain ⟨c1, c2, c3, c4⟩ := claim_facts (ok.log he.1).ok hcl
    unfold behindW
    simp only [hcl]
    exact asked_ok ok he.1 he.2 c4 c2
  | back h x =>
    obtain ⟨c, hcl⟩ := stands (h := h) (x := x) (by
      unfold clRef at hc
      simp only at hc
      split at hc
      · assumption
      · cases hc)
    exact back_ok ok he.1 he.2 hcl
  | carry k => exact carried_ok ok he (letOk hl)
  | copy k =>
    obtain ⟨l, h2, h3⟩ := let_at he (letOk hl)
    unfold behindW copyW
    simp only [h2]
    have ok1 := ok.mono
    refine { ok1 with yard := ?_, ylen := ?_, ytil := ?_ }
    · intro l' hl'
      rcases List.mem_append.mp hl' with hm | hm
      · exact ok.yard l' hm
      · rw [List.mem_singleton.mp hm]; exact ok.yard l h3
    · show (w.yard ++ [l]).length ≤ 14 * (n + 1)
      have := ok.ylen
      rw [List.length_append]; simp; omega
    · intro l' hl'
      rcases List.mem_append.mp hl' with hm | hm
      · exact ok.ytil l' hm
      · rw [List.mem_singleton.mp hm]; exact ok.ytil l h3
  | lose k => exact ok.mono.erase
  | fall h =>
    have hnd : h ∉ w.down := by
      unfold upRef at hu
      simp only at hu
      split at hu
      · cases hu
      · assumption
    have ok1 := ok.mono
    refine { ok1 with nl := ?_, nts := ?_, down := ?_, dlen := ?_, dsrt := ?_ }
    · show (w.nts.set _ _).length = w.logs.length
      rw [List.length_set]; exact ok.nl
    · intro l hl
      rcases List.mem_or_eq_of_mem_set hl with hm | rfl
      · exact ok1.nts l hm
      · exact ⟨⟨List.Pairwise.nil, fun z hz => (by cases hz)⟩, Nat.zero_le _⟩
    · intro x hx
      have := (sortI_perm (w.down ++ [h])).mem_iff.mp hx
      rcases List.mem_append.mp this with hm | hm
      · exact ok.down x hm
      · rw [List.mem_singleton.mp hm]; exact he
    · show (sortI (w.down ++ [h])).length ≤ n + 1
      rw [sortI_len, List.length_append]
      have := ok.dlen
      simp; omega
    · refine pw_lt (sortI_srt _) ((sortI_perm _).nodup_iff.mpr ?_)
      refine List.nodup_append.mpr ⟨ok.dsrt.imp fun {a b} hab => by omega, (List.pairwise_singleton _ h), ?_⟩
      intro a ha b hb e
      rw [List.mem_singleton.mp hb] at e
      exact hnd (e ▸ ha)
  | rise h =>
    have ok1 := ok.mono
    refine { ok1 with down := ?_, dlen := ?_, dsrt := ?_ }
    · intro x hx
      exact ok.down x (List.mem_filter.mp hx).1
    · have := List.length_filter_le (fun x => !decide (x = h)) w.down
      have := ok.dlen
      show (w.down.filter _).length ≤ n + 1
      omega
    · exact ok.dsrt.filter _
  | part s => exact { ok.mono with }
  | heal => exact { ok.mono with }
  | round =>
    have ok1 := ok.mono
    refine { ok1 with now := ?_, til := ?_, ytil := ?_ }
    · have := ok.now
      show 0 ≤ w.now + 1
      omega
    · intro es hes e hee
      have := ok.til es hes e hee
      show e.i4 ≤ w.now + 1 + w.term
      omega
    · intro l hl
      have := ok.ytil l hl
      show l.u ≤ w.now + 1 + w.term
      omega
theorem behind_m {e : De} : (behindW w e).m = w.m := by
  cases e with
  | claim h x p => exact moved_m
  | renew h x =>
    unfold behindW
    simp only
    split
    · rfl
    · exact moved_m
  | back h x =>
    unfold behindW backW
    simp only
    split
    · rfl
    · exact moved_m
  | carry k =>
    unfold behindW carriedW
    simp only
    split
    · rfl
    · rw [moved_m]; rfl
  | copy k =>
    unfold behindW copyW
    simp only
    split <;> rfl
  | _ => rfl
theorem behind_term {e : De} : (behindW w e).term = w.term := by
  cases e with
  | renew h x =>
    unfold behindW
    simp only
    split <;> rfl
  | back h x =>
    unfold behindW backW
    simp only
    split <;> rfl
  | carry k =>
    unfold behindW carriedW
    simp only
    split <;> rfl
  | copy k =>
    unfold behindW copyW
    simp only
    split <;> rfl
  | _ => rfl
/-- the world at its begin -/
def w0 (m t : Int) : Wo := ⟨0, t, List.replicate m.toNat [], List.replicate m.toNat [], [], [], []⟩
theorem w0_d {m t : Int} : (w0 m t).d = worldD0 m t := by
  unfold w0 Wo.d worldD0 emptyN
  simp [logD, ntsD]
theorem w0_m {m t : Int} (h : 1 ≤ m) : (w0 m t).m = m := by
  unfold w0 Wo.m
  simp; omega
theorem w0_ok {m t : Int} (h1 : 1 ≤ m) (h2 : m ≤ 7) (h3 : 2 ≤ t) : WOk 0 (w0 m t) := by
  have mm := w0_m (t := t) h1
  refine ⟨by omega, by omega, ?_, by show (0 : Int) ≤ 0; omega, h3, ?_, ?_, fun h hh => (by cases hh), Nat.le_refl 0, List.Pairwise.nil, fun l hl => (by cases hl), Nat.zero_le _, ?_, fun l hl => (by cases hl)⟩
  · unfold w0; simp
  · intro es hes
    rw [(List.mem_replicate.mp hes).2]
    exact ⟨fun e he => (by cases he), Nat.le_refl 0, fun x k hb => (by cases hb)⟩
  · intro l hl
    rw [(List.mem_replicate.mp hl).2]
    exact ⟨⟨List.Pairwise.nil, fun z hz => (by cases hz)⟩, Nat.zero_le _⟩
  · intro es hes e he
    rw [(List.mem_replicate.mp hes).2] at he
    cases he
/-- no word is got for a claim that was never asked for -/
def GotOk (w : Wo) : Prop := ∀ es ∈ w.logs, ∀ x k o u, En.got x k o u ∈ es → k ≤ maxAsk es
theorem moved_got {ls : List Le} {no : Option Nt} (h0 : houseOk w.m h) (hg : GotOk w) (he : ∀ x k o u, En.got x k o u ∈ es → k ≤ maxAsk (w.log h ++ es)) : GotOk (movedW w h es ls no) := by
  intro es' hes
  have hes : es' ∈ w.logs.set h.toNat (w.log h ++ es) := hes
  rcases List.mem_or_eq_of_mem_set hes with hm | rfl
  · exact hg es' hm
  · intro x k o u hx
    rcases List.mem_append.mp hx with hx | hx
    · exact Int.le_trans (hg _ (log_at h0).2 x k o u hx) maxAsk_app
    · exact he x k o u hx
theorem asked_got (h0 : houseOk w.m h) (hg : GotOk w) : GotOk (askedW w h x k p) := by
  unfold askedW
  dsimp only
  refine moved_got h0 hg ?_
  intro y j o u' hy
  have ha : k ≤ maxAsk (w.log h ++ En.ask x k p (w.now + w.term) :: ownWord (w.log h ++ [En.ask x k p (w.now + w.term)]) h x k (w.now + w.term) w.now) :=
    ask_le (e := En.ask x k p (w.now + w.term)) (List.mem_append_right _ List.mem_cons_self) rfl
  rcases List.mem_cons.mp hy with hy | hy
  · cases hy
  · have : j = k := by
      unfold ownWord at hy
      split at hy
      · simp at hy
        exact hy.2.1
      · split at hy
        · split at hy
          · cases hy
          · have := List.mem_singleton.mp hy
            cases this
        · cases hy
    omega
theorem back_got (h0 : houseOk w.m h) (hg : GotOk w) : GotOk (backW w h x) := by
  unfold backW
  split
  · exact hg
  · rename_i c hc
    refine moved_got h0 hg ?_
    intro y j o u' hy
    rcases List.mem_cons.mp hy with hy | hy
    · cases hy
    · split at hy
      · split at hy
        · have := List.mem_singleton.mp hy
          cases this
        · cases hy
      · cases hy
theorem carried_got (ok : WOk n w) (hk : 0 ≤ k) (hl : k < w.yard.length) (hg : GotOk w) : GotOk (carriedW w k) := by
  obtain ⟨l, h2, h3⟩ := let_at hk hl
  have lok := ok.yard l h3
  have h0 := lok.hs.2.1
  have lo := ok.log h0
  unfold carriedW
  rw [h2]
  dsimp only
  refine moved_got (w := { w with yard := w.yard.eraseIdx k.toNat }) h0 hg ?_
  intro y j o u' hy
  have hy : En.got y j o u' ∈ (taken w.m l.to (w.log l.to) l w.now).es := hy
  show j ≤ maxAsk (w.log l.to ++ (taken w.m l.to (w.log l.to) l w.now).es)
  refine Int.le_trans ?_ maxAsk_app
  cases l with
  | ask s t nm k' pp u =>
    unfold taken askTaken at hy
    dsimp only at hy
    split at hy
    · cases hy
    · split at hy
      · have := List.mem_singleton.mp hy
        cases this
      · split at hy
        · cases hy
        · split at hy <;> cases hy
  | word s t nm k' u =>
    unfold taken wordTaken at hy
    dsimp only at hy
    split at hy
    · cases hy
    · rename_i c hc
      split at hy
      · cases hy
      · rename_i hne
        split at hy
        · cases hy
        · have e := List.mem_singleton.mp hy
          injection e with e1 e2 e3 e4
          have h1 := claim_facts lo.ok hc
          have h2 := greatest_le_max (es := w.log (Le.word s t nm k' u).to) (x := nm)
          have h3 : c.num = k' := Classical.not_not.mp hne
          rw [e2, ← h3, h1.1]
          exact h2
  | no s t nm k' =>
    unfold taken noTaken at hy
    dsimp only at hy
    split at hy
    · cases hy
    · split at hy
      · cases hy
      · have := List.mem_singleton.mp hy
        cases this
  | back s t nm k' =>
    unfold taken backTaken at hy
    dsimp only at hy
    split at hy
    · cases hy
    · split at hy
      · have := List.mem_singleton.mp hy
        cases this
      · cases hy
  | told s t nm k' pp u => cases hy
theorem got_behind {e : De} (ok : WOk n w) (he : e.ok w.m) (hr : refusal w e = none) (hg : GotOk w) : GotOk (behindW w e) := by
  unfold refusal at hr
  obtain ⟨hl, hr⟩ := or_none hr
  have letOk : ∀ {k : Int}, (if k < (w.yard.length : Int) then (none : Option Str) else some (Str.ofString "NoLetter")) = none → k < w.yard.length := fun {k} hk => by
    split at hk
    · assumption
    · cases hk
  cases e with
  | claim h x p => exact asked_got he.1 hg
  | renew h x =>
    unfold behindW
    simp only
    split
    · exact hg
    · exact asked_got he.1 hg
  | back h x => exact back_got he.1 hg
  | carry k => exact carried_got ok he (letOk hl) hg
  | copy k =>
    unfold behindW copyW
    simp only
    split <;> exact hg
  | lose k => exact hg
  | fall h => exact hg
  | rise h => exact hg
  | part s => exact hg
  | heal => exact hg
  | round => exact hg
theorem got0 {m t : Int} : GotOk (w0 m t) := by
  intro es hes x k o u hx
  unfold w0 at hes
  rw [(List.mem_replicate.mp hes).2] at hx
  cases hx
end
end DL
/-! DL29: a new dict, for tuples as keys. -/
namespace DL
open PySem PySem.Spec PyProof.Rows L2
def wDictRT : WE := fun _ st _ Q => ∀ p, st p = none → Q (.ref p) (st.set p (.dt []))
@[simp] theorem wDictRT_ap {e : Env} {st : Sto} {X : PoX} {Q : PoE} : wDictRT e st X Q = ∀ p, st p = none → Q (.ref p) (st.set p (.dt [])) := id rfl
section
variable {X : Cx} {E : XK} {pos : Pos}
theorem e_dictRT : PEw X E (.Dict [] [] pos) wDictRT := pe_imp pe_dnewT fun σ H Q ⟨B, e, st, Qd, Xd, S, pq, px, m⟩ p hp => by
  obtain ⟨k2, x2⟩ := S.sto.put (c := .dt []) (o := .dT []) hp ⟨rfl, .nil⟩
  exact pq _ _ _ _ (m p (S.sto.none_ hp)) x2 k2 (.ref p)
end
end DL
/-! DL30: t[::-1] of a tuple. -/
namespace L2
open PySem PySem.Spec PyProof.Rows PySem.Calls PySem.W HT
section
variable {prog : Program} {w : World} {A : Around} {E : Value → Shared → Prop} {s : Shared}
theorem places_rev (n : Nat) : Builtin.Slice.slicePlaces ((n : Int) - 1) (-1) (-1) = n := by
  unfold Builtin.Slice.slicePlaces
  rw [if_neg (by decide)]
  split
  · rw [show -(-1 : Int) = 1 by decide, Int.ediv_one]; omega
  · show (0 : Int).toNat = n
    omega
theorem fm_congr {f g : Nat → Option Value} : ∀ {l : List Nat}, (∀ m ∈ l, f m = g m) → l.filterMap f = l.filterMap g
  | [], _ => rfl
  | m :: l, h => by
    rw [List.filterMap_cons, List.filterMap_cons, h m List.mem_cons_self, fm_congr (l := l) fun k hk => h k (List.mem_cons_of_mem _ hk)]
theorem pick_rev (xs : Array Value) : ((List.range xs.size).filterMap fun (m : Nat) => xs[(((xs.size : Int) - 1) + (m : Int) * (-1)).toNat]?).toArray = xs.toList.reverse.toArray := by
  congr 1
  have h1 : ∀ (m : Nat), m ∈ List.range xs.size → xs[(((xs.size : Int) - 1) + (m : Int) * (-1)).toNat]? = xs.toList.reverse[m]? := fun m hm => by
    have hm := List.mem_range.mp hm
    rw [List.getElem?_reverse (by rw [Array.length_toList]; exact hm), Array.length_toList, ← Array.getElem?_toList]
    congr 1
    omega
  rw [fm_congr h1]
  have h2 : ∀ (l : List Value), (List.range l.length).filterMap (fun m => l[m]?) = l := fun l => by
    induction l with
    | nil => rfl
    | cons a r ih =>
      rw [List.length_cons, List.range_succ_eq_map, List.filterMap_cons, List.filterMap_map]
      simp only [List.getElem?_cons_zero]
      congr 1
  have := h2 xs.toList.reverse
  rw [List.length_reverse, Array.length_toList] at this
  exact this
theorem sliceApplied_rev {sl : Addr} {vs : Value} {n : Nat} {Q : Int × Int × Nat → Shared → Prop} (hs : s.heap.IsSliceOf sl .none .none vs) (ps : IsPart vs (some (-1)))
    (h : Q ((n : Int) - 1, -1, n) s) : wpAny (model prog w) A (Builtin.Slice.sliceApplied (.ref sl) (pure (n : Int))) Q E s := by
  obtain ⟨os, hos, hcs, hds⟩ := id hs
  unfold Builtin.Slice.sliceApplied Builtin.Slice.sliceFields
  refine wpAny_bind (wpAny_bind (wpAny_field hos hds (x := .none) rfl (wpAny_bind (wpAny_field hos hds (x := .none) rfl (wpAny_bind (wpAny_field hos hds (x := vs) rfl (wpAny_pure ?_)))))))
  refine wpAny_bind (slicePart_ ps ?_)
  show wpAny _ _ (if ((-1 : Int) == 0) = true then _ else _) _ _ s
  rw [if_neg (by decide)]
  refine wpAny_bind (slicePart_none (wpAny_bind (slicePart_none (wpAny_bind (wpAny_pure ?_)))))
  show wpAny _ _ (pure (((n : Int) - 1), (-1 : Int), Builtin.Slice.slicePlaces ((n : Int) - 1) (-1) (-1))) _ _ s
  rw [places_rev]
  exact wpAny_pure h
theorem getItem_tuple_rev {t sl : Addr} {items : Array Value} {vs : Value} {Q : Value → Shared → Prop} (ht : IsTup s.heap t items) (hs : s.heap.IsSliceOf sl .none .none vs) (ps : IsPart vs (some (-1)))
    (h : Q (.ref s.heap.objs.size) { s with heap := s.heap.push { cls := .type "tuple", data := .seq items.toList.reverse.toArray } })
    (hsz : items.size ≤ sizeLine) : wpAny (model prog w) A (getItem (.ref t) (.ref sl)) Q E s := by
  have htake : sizeOk (.seq items.toList.reverse.toArray) := by
    show items.toList.reverse.toArray.size ≤ sizeLine
    rw [List.size_toArray, List.length_reverse, Array.length_toList]
    exact hsz
  obtain ⟨os, hos, hcs, hds⟩ := id hs
  have hTs : s.TypeIs (.ref sl) "slice" := ⟨os, hos, hcs⟩
  unfold getItem
  try with_reducible refine wpAny_holding ?_
  first | refine wpAny_bind (wpAny_pure ?_) | skip
  refine wpAny_bind (wpAny_sequenceKey ht.typeIs (by decide) ?_)
  refine wpAny_bind (wpAny_callSpecial?_slot (name := Str.ofString "__getitem__") ht.typeIs PyProof.Rows.slot_tuple_getitem
    (wpAny_call_entry PyProof.Rows.slot_tuple_getitem ht.typeIs entry_tuple_getitem ?_ (args_tuple_getitem _ _)))
  show wpAny _ _ (Builtin.Tuple.tupleItemsOf (.ref t) >>= _) _ _ s
  refine wpAny_bind (tupleItemsOf_ ht ?_)
  refine wpAny_bind (wpAny_typeOf hTs ?_)
  rw [if_pos (by decide)]
  refine wpAny_bind (sliceApplied_rev hs ps ?_)
  have hno : ¬ ((((items.size : Int) - 1) == 0 && (-1 : Int) == 1 && items.size == items.size) = true) := by
    intro q
    rw [Bool.and_eq_true, Bool.and_eq_true] at q
    exact absurd q.1.2 (by decide)
  show wpAny _ _ (if ((((items.size : Int) - 1) == 0 && (-1 : Int) == 1 && items.size == items.size) = true) then _ else _) _ _ s
  rw [if_neg hno, pick_rev]
  first
    | exact wpAny_bind (m := Builtin.Tuple.tupleExact _) (wpAny_newObj_type (wpAny_pure ⟨_, rfl, wpAny_pure h⟩) htake)
    | exact wpAny_bind (m := Builtin.Tuple.tupleExact _) (wpAny_newObj_type (wpAny_bind (wpAny_pure (wpAny_pure ⟨_, rfl, wpAny_pure h⟩))) htake)
    | exact wpAny_bind (wpAny_bind (m := Builtin.Tuple.tupleExact _) (wpAny_newObj_type (wpAny_pure (wpAny_pure ⟨_, rfl, wpAny_pure h⟩)) htake))
    | exact wpAny_bind (wpAny_bind (m := Builtin.Tuple.tupleExact _) (wpAny_newObj_type (wpAny_pure ⟨_, rfl, wpAny_pure h⟩) htake))
end
section
variable {X : Cx}
def tRevT (K : PySem.W.Frag) (te : TE) : TE := fun σ H Q => te σ H fun x H1 => ∃ a xs, x = .ref a ∧ SqT K H1 a xs ∧ ∀ p, H1 p = none → Q (.ref p) (upd H1 p (.tup xs.reverse))
theorem pe_revT {e : Expr} {te : TE} {k : Nat} {p1 p2 p3 pos : Pos} (he : PE X e te) : PE X (.Subscript e (.Slice none none (some (.UnaryOp .USub (.Constant (.int 1) k p1) p2)) p3) pos) (tRevT X.K te) := by
  refine ⟨fun pins s σ H Q I h => ?_⟩
  refine Subscript_ (thn (he.run pins s σ H _ I h) fun v s1 ⟨x, H1, I1, r1, q1⟩ => ?_)
  obtain ⟨a, xs, ex, hx, q⟩ := q1
  subst ex
  cases r1
  have hst : PO X (some (.UnaryOp .USub (.Constant (.int 1) k p1) p2)) (tPart (tUn (rU fun i => .int (-i)) (tC (.int 1)))) := po_some (pe_un un_neg pe_int)
  refine wpAny_Slice (thn (po_none.run pins s1 σ H1 (fun o H2 => o = none ∧ H2 = H1) I1 ⟨rfl, rfl⟩) fun vl s2 ⟨l, H2, I2, pl, el, e2⟩ => ?_)
  subst el e2
  refine thn (po_none.run pins s2 σ H2 (fun o H3 => o = none ∧ H3 = H2) I2 ⟨rfl, rfl⟩) fun vu s3 ⟨u, H3, I3, pu, eu, e3⟩ => ?_
  subst eu e3
  refine thn (hst.run pins s3 σ H3 (fun o H4 => o = some (-1) ∧ H4 = H3) I3 ⟨1, rfl, -1, rfl, rfl, rfl⟩) fun vs s4 ⟨o, H4, I4, ps, eo, e4⟩ => ?_
  subst eo e4
  cases pl
  cases pu
  have I5 : Inv X pins σ H4 { s4 with heap := s4.heap.push { cls := .type "slice", data := .fields #[.none, .none, vs] } } := I4.kept (t' := s4.toks) fun b ob q => Heap.get?_push_of_some _ q
  obtain ⟨its, r, ht, hz⟩ := I5.tuple hx
  have hlen := r.length
  show wpAny (model X.prog X.w) X.A (subscriptTail e (.Slice none none (some (.UnaryOp .USub (.Constant (.int 1) k p1) p2)) p3) (.ref a) (.ref s4.heap.objs.size)) (EP X pins σ Q) X.xe { s4 with heap := s4.heap.push { cls := .type "slice", data := .fields #[.none, .none, vs] } }
  refine tail_any (ops := [.ref a, .ref s4.heap.objs.size]) ht.typeIs (PyProof.Rows.slot_tuple_getitem.lookup) ?_ (by with_unfolding_all rfl)
  refine getItem_tuple_rev ht (Heap.IsSliceOf.new _ .none .none vs) ps ?_ (by rw [List.size_toArray]; omega)
  refine ⟨.ref _, _, I5.laid (t' := s4.toks) (o := .tup xs.reverse) (fun b ob q => Heap.get?_push_of_some _ q) (Nat.le_refl _) ?_, rfl, q _ (I5.hok.fresh (Nat.le_refl _))⟩
  exact ⟨by rw [List.length_reverse]; exact hz, _, r.reverse, IsTup.new _ _⟩
end
end L2
namespace DL
open PySem PySem.Spec PyProof.Rows L2
def dRevT (_ : Sto) : D → Option D
  | .tup ds => some (.tup ds.reverse)
  | _ => none
@[simp] theorem dRevT_tup {st : Sto} {ds : List D} : dRevT st (.tup ds) = some (.tup ds.reverse) := id rfl
section
variable {X : Cx} {E : XK} {a : Expr} {ma : WE} {pos : Pos}
theorem e_revT {k : Nat} {p1 p2 p3 : Pos} (ha : PEw X E a ma) : PEw X E (.Subscript a (.Slice none none (some (.UnaryOp .USub (.Constant (.int 1) k p1) p2)) p3) pos) (wUn dRevT ma) := pe_imp (pe_revT ha) fun σ H Q ⟨B, e, st, Qd, Xd, S, pq, px, m⟩ =>
  ⟨B, e, st, _, Xd, S, fun d st1 v H1 m1 x1 k1 r1 => (by
    obtain ⟨t, ht, q⟩ := on_iff.mp m1
    unfold dRevT at ht
    split at ht
    · rename_i ds
      cases ht
      obtain ⟨a, vs, rfl, h, r, z⟩ := tp_of r1 rfl
      refine ⟨a, vs, rfl, h, fun p hp => ?_⟩
      obtain ⟨x2, k2, r2⟩ := new_tup k1 hp r.reverse (by rw [List.length_reverse]; exact z)
      exact pq _ st1 _ _ q (x1.trans x2) k2 r2
    · cases ht), px, m⟩
end
end DL
/-! SH19: the pot, what is drawn of it: names, sides, deeds, runs. -/
namespace DL
open PySem PySem.Spec PyProof.Rows L2
def F__law_mixed : WF := wDef 3 2 true (wSeq (wSet 2 (wBin dMod (wBin dMul (wBin dAdd (wBin dAdd (wBin dMod (wVar 0) (wC (.int 2147483647))) (wBin dMul (wC (.int 7919)) (wVar 1))) (wC (.int 1))) (wC (.int 48271))) (wC (.int 2147483647)))) (wSeq (wSet 2 (wBin dMod (wBin dMul (wVar 2) (wVar 2)) (wC (.int 2147483629)))) (wRet (wBin dFdiv (wBin dMod (wBin dMul (wBin dAdd (wVar 2) (wBin dMul (wC (.int 40692)) (wBin dAdd (wVar 1) (wC (.int 3))))) (wC (.int 69621))) (wC (.int 2147483579))) (wC (.int 8))))))
def F__law_pot : WF := wDef 1 1 false (wRet (wLstR (wCons (wBin dMul (wBin dMod (wVar 0) (wC (.int 100000000000000000000000000000000000000000000000000000000000000000000000000000000000000000000000000000000000000000000000000000000000000000000000000000000000000000000000000000000000000000000000000000000))) (wCall cInt (wCons (wBin dGe (wVar 0) (wC (.int 1000000000000000000))) wNil))) (wCons (wVar 0) (wCons (wC (.int 0)) wNil)))))
def F__law_pull : WF := wDef 3 2 true (wSeq (wPut (wVar 0) (wC (.int 2)) (wBin dAdd (wBin ixD (wVar 0) (wC (.int 2))) (wC (.int 1)))) (wSeq (wIfS (wTB (wBin dGt (wBin ixD (wVar 0) (wC (.int 0))) (wC (.int 0)))) (wSeq (wSet 2 (wBin dMod (wBin ixD (wVar 0) (wC (.int 0))) (wVar 1))) (wSeq (wPut (wVar 0) (wC (.int 0)) (wBin dFdiv (wBin ixD (wVar 0) (wC (.int 0))) (wVar 1))) (wRet (wVar 2)))) wSkip) (wRet (wBin dMod (wFn F__law_mixed (wCons (wBin ixD (wVar 0) (wC (.int 1))) (wCons (wBin ixD (wVar 0) (wC (.int 2))) wNil))) (wVar 1)))))
def F__law_names : WF := wDef 9 1 true (wSeq (wSet 1 (wC (.str "abcdefghijklmnopqrstuvwxyz"))) (wSeq (wSet 2 (wBin dAdd (wC (.int 1)) (wBin dMod (wFn F__law_mixed (wCons (wBin ixD (wVar 0) (wC (.int 1))) (wCons (wC (.int 900)) wNil))) (wC (.int 8))))) (wSeq (wSet 3 (wMeth "str" mJoin (wC (.str "")) (wCons (wComp (wiRange (wCons (wVar 2) wNil)) (.nm 7) wYes (wBin ixD (wVar 1) (wBin dMod (wFn F__law_mixed (wCons (wBin ixD (wVar 0) (wC (.int 1))) (wCons (wBin dAdd (wC (.int 901)) (wVar 7)) wNil))) (wC (.int 26)))) [7]) wNil))) (wSeq (wSet 4 (wBin dMod (wFn F__law_mixed (wCons (wBin ixD (wVar 0) (wC (.int 1))) (wCons (wC (.int 920)) wNil))) (wVar 2))) (wSeq (wSet 5 (wBin ixD (wVar 1) (wBin dMod (wBin dAdd (wBin dAdd (wMeth "str" mFind (wVar 1) (wCons (wBin ixD (wVar 3) (wVar 4)) wNil)) (wC (.int 1))) (wBin dMod (wFn F__law_mixed (wCons (wBin ixD (wVar 0) (wC (.int 1))) (wCons (wC (.int 921)) wNil))) (wC (.int 25)))) (wC (.int 26))))) (wSeq (wSet 6 (wLst (wCons (wC (.str "ab")) (wCons (wC (.str "ac")) (wCons (wC (.str "b")) (wCons (wC (.str "aab")) (wCons (wVar 3) (wCons (wBin dAdd (wBin dAdd (wSl (wVar 3) wNo (wPart (wVar 4))) (wVar 5)) (wSl (wVar 3) (wPart (wBin dAdd (wVar 4) (wC (.int 1)))) wNo)) wNil)))))))) (wRet (wCall cSortedT (wCons (wDictP (wCons (wComp (wiSeq (wVar 6)) (.nm 8) wYes (wTup (wCons (wVar 8) (wCons (wC (.bl true)) wNil))) [8]) wNil)) wNil)))))))))
def F__law_side : WF := wDef 3 2 true (wRet (wCall cTuple (wCons (wComp (wiRange (wCons (wVar 1) wNil)) (.nm 2) (wTB (wBin dEq (wFn F__law_pull (wCons (wVar 0) (wCons (wC (.int 2)) wNil))) (wC (.int 0)))) (wVar 2) [2]) wNil)))
def F__law_deed : WF := wDef 10 2 true (wSeq (wSet 2 (wCall cLen (wCons (wBin ixD (wVar 1) (wC (.int 2))) wNil))) (wSeq (wSet 3 (wFn F__law_pull (wCons (wVar 0) (wCons (wVar 2) wNil)))) (wSeq (wSet 4 (wFn F__law_names (wCons (wVar 0) wNil))) (wSeq (wSet 5 (wBin ixD (wBin dAdd (wLst (wCons (wC (.str "ab")) (wCons (wC (.str "ab")) (wCons (wC (.str "ab")) wNil)))) (wVar 4)) (wFn F__law_pull (wCons (wVar 0) (wCons (wBin dAdd (wC (.int 3)) (wCall cLen (wCons (wVar 4) wNil))) wNil))))) (wSeq (wSet 6 (wFn F__law_pull (wCons (wVar 0) (wCons (wCall cMax (wCons (wC (.int 1)) (wCons (wCall cLen (wCons (wBin ixD (wVar 1) (wC (.int 6))) wNil)) wNil))) wNil)))) (wSeq (wSet 7 (wFn F__law_pull (wCons (wVar 0) (wCons (wC (.int 20)) wNil)))) (wSeq (wIfS (wTB (wBin dGt (wCall cLen (wCons (wBin ixD (wVar 1) (wC (.int 6))) wNil)) (wC (.int 120)))) (wSet 7 (wC (.int 8))) wSkip) (wSeq (wIfS (wTB (wBin dLt (wVar 7) (wC (.int 9)))) (wRet (wTup (wCons (wBin ixD (wLst (wCons (wC (.str "carry")) (wCons (wC (.str "carry")) (wCons (wC (.str "carry")) (wCons (wC (.str "carry")) (wCons (wC (.str "carry")) (wCons (wC (.str "carry")) (wCons (wC (.str "carry")) (wCons (wC (.str "copy")) (wCons (wC (.str "lose")) wNil)))))))))) (wVar 7)) (wCons (wVar 6) wNil)))) wSkip) (wSeq (wIfS (wTB (wBin dEq (wVar 7) (wC (.int 12)))) (wRet (wTup (wCons (wC (.str "round")) wNil))) wSkip) (wSeq (wIfS (wTB (wBin dLt (wVar 7) (wC (.int 13)))) (wRet (wTup (wCons (wC (.str "claim")) (wCons (wVar 3) (wCons (wVar 5) (wCons (wBin ixD (wBin dAdd (wLst (wCons (wC (.str "joe")) (wCons (wC (.str "eve")) wNil))) (wVar 4)) (wFn F__law_pull (wCons (wVar 0) (wCons (wBin dAdd (wC (.int 2)) (wCall cLen (wCons (wVar 4) wNil))) wNil)))) wNil)))))) wSkip) (wSeq (wIfS (wTB (wBin dEq (wVar 7) (wC (.int 18)))) (wSeq (wSet 9 (wFn F__law_side (wCons (wVar 0) (wCons (wVar 2) wNil)))) (wRet (wBin ixD (wLst (wCons (wTup (wCons (wC (.str "part")) (wCons (wVar 9) wNil))) (wCons (wTup (wCons (wC (.str "heal")) wNil)) wNil))) (wCall cInt (wCons (wOr (wBin dEq (wVar 9) (wTup wNil)) (wBin dEq (wCall cLen (wCons (wVar 9) wNil)) (wVar 2))) wNil))))) wSkip) (wSeq (wSet 8 (wLst (wCons (wTup (wCons (wC (.str "renew")) (wCons (wVar 3) (wCons (wVar 5) wNil)))) (wCons (wTup (wCons (wC (.str "back")) (wCons (wVar 3) (wCons (wVar 5) wNil)))) (wCons (wTup (wCons (wC (.str "fall")) (wCons (wVar 3) wNil))) (wCons (wTup (wCons (wC (.str "rise")) (wCons (wVar 3) wNil))) (wCons (wTup (wCons (wC (.str "heal")) wNil)) wNil))))))) (wRet (wBin ixD (wBin dAdd (wVar 8) (wLst (wCons (wTup (wCons (wC (.str "round")) wNil)) (wCons (wTup (wCons (wC (.str "round")) wNil)) wNil)))) (wBin dSub (wVar 7) (wC (.int 13)))))))))))))))))
def F__law_behind : WF := wDef 3 2 true (wSeq (wSet 2 (wC .non)) (wSeq (wTryN Y_wor (wSet 2 (wFnT F_done (wCons (wVar 0) (wCons (wVar 1) wNil)))) [("HouseError", (wSet 2 (wC .non)))]) (wRet (wVar 2))))
def F__law_run : WF := wDef 7 4 true (wSeq (wSet 4 (wFn F_world_of (wCons (wVar 1) (wCons (wVar 2) wNil)))) (wSeq (wFor (wiRange (wCons (wVar 3) wNil)) (.nm 5) (wSeq (wSet 6 (wFn F__law_behind (wCons (wVar 4) (wCons (wFn F__law_deed (wCons (wVar 0) (wCons (wVar 4) wNil))) wNil)))) (wIfS (wTB (wBin dIsNot (wVar 6) (wC .non))) (wSet 4 (wVar 6)) wSkip)) [5, 6]) (wRet (wVar 4))))

def PotOk (b : Nat) (r : List D) : Prop := ∃ x c k : Int, r = [.int x, .int c, .int k] ∧ 0 ≤ x ∧ 0 ≤ k ∧ k ≤ b
theorem PotOk.mono {b b' : Nat} {r : List D} (h : PotOk b r) (hb : b ≤ b') : PotOk b' r := by
  obtain ⟨x, c, k, e, h1, h2, h3⟩ := h
  exact ⟨x, c, k, e, h1, h2, by omega⟩
section
variable {st : Sto} {X : PoX} {Q : PoE} {a : Addr} {r : List D} {b : Nat} {m c k : Int}
theorem ap_mixed (h0 : 0 ≤ k) (h1 : k ≤ 10 ^ 20) (h : ∀ n, 0 ≤ n → Q (.int n) st) : F__law_mixed [.int c, .int k] st X Q := by
  simp only [F__law_mixed, wDef_ap]
  refine ⟨rfl, ?_⟩
  have e1 := emod_b c (k := 2147483647) (by decide)
  have m1 : Mid k := ⟨by omega, by omega⟩
  rw [wSeq_ap]
  simp (disch := first | omega | decide +kernel) [-wSeq_ap, dMod_int, dMul_int, m1]
  have e2 := emod_b ((c % 2147483647 + 7919 * k + 1) * 48271) (k := 2147483647) (by decide)
  generalize (c % 2147483647 + 7919 * k + 1) * 48271 % 2147483647 = y at *
  have m3 : Mid y := ⟨by omega, by omega⟩
  rw [wSeq_ap]
  simp (disch := first | omega | decide +kernel) [-wSeq_ap]
  rw [dMul_int m3 m3]
  simp (disch := first | omega | decide +kernel) [-wSeq_ap, dMod_int]
  have e3 := emod_b (y * y) (k := 2147483629) (by decide)
  generalize y * y % 2147483629 = z at *
  simp (disch := first | omega | decide +kernel) [-wSeq_ap, dMul_int, dFdiv_int, dMod_int]
  exact h _ (Int.ediv_nonneg (emod_b _ (by decide)).1 (by decide))
theorem ap_pull (hr : st a = some (.lst r)) (ok : PotOk b r) (hb : b ≤ 10 ^ 15) (h1 : 0 < m) (h2 : m ≤ 10 ^ 20) (h : ∀ n r', 0 ≤ n → n < m → PotOk (b + 1) r' → Q (.int n) (st.set a (.lst r'))) : F__law_pull [.ref a, .int m] st X Q := by
  obtain ⟨x, c, k, rfl, x0, k0, k1⟩ := ok
  have sm : (st a).isSome = true := by rw [hr]; rfl
  simp only [F__law_pull, wDef_ap]
  refine ⟨rfl, ?_⟩
  rw [wSeq_ap]
  simp (disch := first | omega | decide +kernel) [-wSeq_ap, ixD_ref hr]
  rw [putD_lst hr (ds' := [.int x, .int c, .int (k + 1)]) rfl, on_some]
  have e : (st.set a (.lst [.int x, .int c, .int (k + 1)])) a = some (.lst [.int x, .int c, .int (k + 1)]) := Sto.set_same
  rw [wSeq_ap]
  simp (disch := first | omega | decide +kernel) [-wSeq_ap, ixD_ref e]
  by_cases hf : 0 < x
  · simp [hf, -wSeq_ap]
    rw [wSeq_ap]
    simp (disch := first | omega | decide +kernel) [-wSeq_ap, ixD_ref e, dMod_int]
    rw [wSeq_ap]
    simp (disch := first | omega | decide +kernel) [-wSeq_ap, ixD_ref e, dFdiv_int]
    rw [putD_lst e (ds' := [.int (x / m), .int c, .int (k + 1)]) rfl, on_some]
    simp [Sto.keepOnly_set sm]
    exact h _ _ (emod_b x h1).1 (emod_b x h1).2 ⟨_, _, _, rfl, Int.ediv_nonneg x0 (by omega), by omega, by omega⟩
  · simp [hf, -wSeq_ap, ixD_ref e]
    refine ap_mixed (by omega) (by omega) (fun n hn => ?_)
    simp (disch := first | omega | decide +kernel) [dMod_int, Sto.keepOnly_set sm]
    exact h _ _ (emod_b n h1).1 (emod_b n h1).2 ⟨_, _, _, rfl, x0, by omega, by omega⟩
def potN : Int := 10 ^ 200
theorem potN_pos : 0 < potN := by decide +kernel
set_option exponentiation.threshold 1000 in
theorem potN_hi : potN < 2 ^ 700 := by decide +kernel
set_option exponentiation.threshold 1000 in
theorem dMul_pot {y j : Int} (h0 : 0 ≤ y) (h1 : y < potN) (hj : j = 0 ∨ j = 1) : dMul st (.int y) (.int j) = some (.int (y * j)) := by
  show (if CMulW y j then _ else _) = _
  rw [if_pos]
  have l1 : y.natAbs.log2 ≤ 700 := by
    have h2 : y.natAbs < 2 ^ 700 := by
      have h3 := Int.lt_trans h1 potN_hi
      have h4 : ((y.natAbs : Nat) : Int) < ((2 ^ 700 : Nat) : Int) := by
        rw [Int.natAbs_of_nonneg h0, Int.natCast_pow]
        exact h3
      exact Int.ofNat_lt.mp h4
    by_cases hz : y.natAbs = 0
    · rw [hz]; decide
    · exact Nat.le_of_lt ((Nat.log2_lt hz).mpr h2)
  have l2 : j.natAbs.log2 = 0 := by rcases hj with rfl | rfl <;> decide
  unfold CMulW
  omega
theorem ap_pot (h : ∀ p r, st p = none → PotOk 0 r → Q (.ref p) (st.set p (.lst r))) : F__law_pot [.int c] st X Q := by
  simp only [F__law_pot, wDef_ap]
  refine ⟨rfl, ?_⟩
  have e1 := emod_b c potN_pos
  rw [show (100000000000000000000000000000000000000000000000000000000000000000000000000000000000000000000000000000000000000000000000000000000000000000000000000000000000000000000000000000000000000000000000000000000 : Int) = potN by decide +kernel]
  have hp := potN_pos
  simp (disch := omega) [dMod_int]
  rw [dMul_pot e1.1 e1.2 (by split <;> simp), on_some]
  intro p hp
  refine h p _ hp ⟨_, _, _, rfl, ?_, Int.le_refl _, Int.le_refl _⟩
  split
  · rw [Int.mul_one]; exact e1.1
  · rw [Int.mul_zero]; exact Int.le_refl _
/-- a text by its letters -/
def txt (cs : List Nat) : Str := ⟨cs.toArray⟩
def low (c : Nat) : Prop := 97 ≤ c ∧ c ≤ 122
theorem nameOk_txt {cs : List Nat} (h1 : 1 ≤ cs.length) (h2 : cs.length ≤ 8) (h3 : ∀ c ∈ cs, low c) : nameOk (txt cs) = true := by
  unfold nameOk txt
  simp only [Bool.and_eq_true, decide_eq_true_iff]
  refine ⟨⟨?_, ?_⟩, ?_⟩
  · show 1 ≤ cs.toArray.size
    simpa using h1
  · show cs.toArray.size ≤ 8
    simpa using h2
  · simpa [low] using h3
theorem low_at : ∀ j < 26, (Str.ofString "abcdefghijklmnopqrstuvwxyz").cps.toList[j]? = some (97 + j) := by decide +kernel
theorem letter_at {i : Int} (h0 : 0 ≤ i) (h1 : i < 26) : ∃ c, low c ∧ ixD st (.str (Str.ofString "abcdefghijklmnopqrstuvwxyz")) (.int i) = some (.str (txt [c])) := by
  refine ⟨97 + i.toNat, ⟨by omega, by omega⟩, ?_⟩
  have hl : (Str.ofString "abcdefghijklmnopqrstuvwxyz").length ≤ sizeLine := by
    rw [show (Str.ofString "abcdefghijklmnopqrstuvwxyz").length = 26 by decide +kernel, sizeLine_eq]; omega
  show (if (Str.ofString "abcdefghijklmnopqrstuvwxyz").length ≤ sizeLine then (atI (Str.ofString "abcdefghijklmnopqrstuvwxyz").cps.toList i).map (fun c => D.str ⟨#[c]⟩) else none) = _
  rw [if_pos hl]
  have e : i = ((i.toNat : Nat) : Int) := by omega
  rw [e, atI_N, low_at _ (by omega)]
  rfl
theorem join_txt : ∀ {cs : List Nat}, (Txt.join (Str.ofString "") (cs.map fun c => txt [c])) = txt cs := by
  intro cs
  rw [show Txt.join (Str.ofString "") (cs.map fun c => txt [c]) = Str.join (Str.ofString "") (cs.map fun c => txt [c]) from TL.join_eq _ _]
  induction cs with
  | nil => rfl
  | cons c r ih =>
    cases r with
    | nil => rfl
    | cons d r =>
      show txt [c] ++ Str.ofString "" ++ Str.join (Str.ofString "") ((d :: r).map fun c => txt [c]) = _
      rw [ih]
      show Str.append (Str.append (txt [c]) (Str.ofString "")) (txt (d :: r)) = _
      unfold Str.append txt
      rw [show (Str.ofString "").cps = #[] by decide +kernel]
      simp
theorem sum_one : ∀ cs : List Nat, ((cs.map fun c => txt [c]).map (·.length)).sum = cs.length
  | [] => rfl
  | c :: r => by
    rw [List.map_cons, List.map_cons, List.sum_cons, sum_one r, List.length_cons]
    show 1 + r.length = _
    omega
theorem mJoin_txt {cs : List Nat} (h : cs.length ≤ 10000) : mJoin st (.str (Str.ofString "")) [.lst (cs.map fun c => .str (txt [c]))] = some (.str (txt cs), st) := by
  have e : (cs.map fun c => D.str (txt [c])) = (cs.map fun c => txt [c]).map D.str := by rw [List.map_map]; rfl
  unfold mJoin
  simp only
  rw [e, sqOf_lst, Option.bind_some, strsOf_map, Option.bind_some, sum_one, if_pos, join_txt]
  rw [show (Str.ofString "").length = 0 by decide +kernel]
  omega
theorem txt_len {cs : List Nat} : (txt cs).length = cs.length := by
  show cs.toArray.size = _
  simp
theorem txt_list {cs : List Nat} : (txt cs).cps.toList = cs := by
  show cs.toArray.toList = _
  simp
theorem ixD_txt {cs : List Nat} {i : Int} (h0 : 0 ≤ i) (h1 : i < cs.length) (hz : cs.length ≤ 10000) : ∃ c ∈ cs, ixD st (.str (txt cs)) (.int i) = some (.str (txt [c])) := by
  have sz := sizeLine_eq
  have h2 : i.toNat < cs.length := by omega
  refine ⟨cs[i.toNat], List.getElem_mem h2, ?_⟩
  show (if (txt cs).length ≤ sizeLine then (atI (txt cs).cps.toList i).map (fun c => D.str ⟨#[c]⟩) else none) = _
  rw [if_pos (by rw [txt_len]; omega), txt_list]
  have e : atI cs i = some cs[i.toNat] := by
    rw [← List.getElem?_eq_getElem h2, ← atI_N, show ((i.toNat : Nat) : Int) = i by omega]
  rw [e]
  rfl
theorem slD_txt_to {cs : List Nat} {i : Int} (h0 : 0 ≤ i) (hz : cs.length ≤ 10000) : slD st (.str (txt cs)) none (some i) = some (.str (txt (cs.take i.toNat))) := by
  have sz := sizeLine_eq
  show (if (txt cs).length ≤ sizeLine then some (D.str (cutS (txt cs) none (some i))) else none) = _
  rw [if_pos (by rw [txt_len]; omega)]
  unfold cutS
  rw [txt_list, txt_len]
  simp only [HT.sIx]
  rw [if_neg (by omega), List.drop_zero, Nat.sub_zero]
  congr 2
  unfold txt
  congr 1
  rw [Nat.min_def]
  split
  · rfl
  · rw [List.take_of_length_le (Nat.le_refl _), List.take_of_length_le (by omega)]
theorem slD_txt_from {cs : List Nat} {i : Int} (h0 : 0 ≤ i) (hz : cs.length ≤ 10000) : slD st (.str (txt cs)) (some i) none = some (.str (txt (cs.drop i.toNat))) := by
  have sz := sizeLine_eq
  show (if (txt cs).length ≤ sizeLine then some (D.str (cutS (txt cs) (some i) none)) else none) = _
  rw [if_pos (by rw [txt_len]; omega)]
  unfold cutS
  rw [txt_list, txt_len]
  simp only [HT.sIx]
  rw [if_neg (by omega)]
  congr 2
  unfold txt
  congr 1
  rw [Nat.min_def]
  split
  · rw [List.take_of_length_le (by rw [List.length_drop]; omega)]
  · rw [List.drop_of_length_le (Nat.le_refl _), List.drop_of_length_le (by omega)]
    simp
theorem dAdd_txt {xs ys : List Nat} (h : xs.length + ys.length ≤ 10000) : dAdd st (.str (txt xs)) (.str (txt ys)) = some (.str (txt (xs ++ ys))) := by
  have sz := sizeLine_eq
  show (if (txt xs).length + (txt ys).length ≤ sizeLine then some (D.str (txt xs ++ txt ys)) else none) = _
  rw [txt_len, txt_len, if_pos (by omega)]
  congr 2
  show Str.append (txt xs) (txt ys) = _
  unfold Str.append txt
  simp
theorem putT_len {α : Type} {kvs : List (Str × α)} {x : Str} {v : α} : kvs.length ≤ (putT kvs x v).length ∧ (putT kvs x v).length ≤ kvs.length + 1 ∧ 1 ≤ (putT kvs x v).length := by
  have e := congrArg List.length (putT_keys (kvs := kvs) (k := x) (v := v))
  rw [List.length_map] at e
  by_cases h : x ∈ kvs.map (·.1)
  · rw [if_pos h, List.length_map] at e
    have : 1 ≤ kvs.length := by
      cases kvs with
      | nil => cases h
      | cons q r => simp
    omega
  · rw [if_neg h, List.length_append, List.length_map] at e
    simp at e
    omega
theorem foldT_sub {α : Type} : ∀ {more kvs : List (Str × α)}, (∀ x ∈ (more.foldl (fun acc q => putT acc q.1 q.2) kvs).map (·.1), x ∈ kvs.map (·.1) ∨ x ∈ more.map (·.1)) ∧
    (more.foldl (fun acc q => putT acc q.1 q.2) kvs).length ≤ kvs.length + more.length ∧ kvs.length ≤ (more.foldl (fun acc q => putT acc q.1 q.2) kvs).length ∧ (more ≠ [] → 1 ≤ (more.foldl (fun acc q => putT acc q.1 q.2) kvs).length)
  | [], kvs => ⟨fun x hx => .inl hx, by simp, by simp, fun z => absurd rfl z⟩
  | q :: r, kvs => by
    obtain ⟨h1, h2, h3, h4⟩ := foldT_sub (more := r) (kvs := putT kvs q.1 q.2)
    obtain ⟨p1, p2, p3⟩ := putT_len (kvs := kvs) (x := q.1) (v := q.2)
    rw [List.foldl_cons]
    refine ⟨fun x hx => ?_, by rw [List.length_cons]; omega, by omega, fun _ => by omega⟩
    rcases h1 x hx with h | h
    · rw [putT_keys] at h
      split at h
      · exact .inl h
      · rcases List.mem_append.mp h with h | h
        · exact .inl h
        · rw [List.mem_singleton.mp h]
          exact .inr List.mem_cons_self
    · exact .inr (List.mem_cons_of_mem _ h)
/-- sorted(dict([(x, True) ..])) of texts -/
theorem sorted_once {xs : List Str} {p : Addr} {Q : List Str → Prop} (hz : xs.length ≤ 10000) (hn : xs ≠ []) (hx : ∀ x ∈ xs, nameOk x = true) (h : ∀ ns : List Str, ns ≠ [] → ns.length ≤ xs.length → (∀ x ∈ ns, x ∈ xs) → Q ns) :
    ∃ ns, cSortedT (st.set p (.dk (mergeD [] (encT id (xs.map fun x => (x, D.bl true)))))) [.ref p] = some (.lst (ns.map .str)) ∧ Q ns := by
  have sz := sizeLine_eq
  obtain ⟨h1, h2, h3, h4⟩ := foldT_sub (more := xs.map fun x => (x, D.bl true)) (kvs := [])
  generalize hK : (xs.map fun x => (x, D.bl true)).foldl (fun acc q => putT acc q.1 q.2) [] = K at *
  have e1 : mergeD [] (encT id (xs.map fun x => (x, D.bl true))) = encT id K := by
    rw [show ([] : List (L2.Key × D)) = encT id [] from rfl, mergeD_T, hK]
  have ek : (xs.map fun x => (x, D.bl true)).map (·.1) = xs := by rw [List.map_map]; simp [Function.comp_def]
  rw [ek] at h1
  rw [List.length_map] at h2
  have hsub : ∀ x ∈ K.map (·.1), x ∈ xs := fun x hx => (h1 x hx).elim (fun z => by cases z) id
  refine ⟨sortT (K.map (·.1)), ?_, h _ ?_ ?_ ?_⟩
  · rw [e1]
    unfold cSortedT
    simp only [Sto.set_same]
    rw [keysT_enc]
    simp only [Option.bind_some]
    rw [if_pos]
    refine ⟨by rw [List.length_map]; simp at h2; omega, List.all_eq_true.mpr fun x hx' => nameOk_okS (hx x (hsub x hx'))⟩
  · intro e
    have := sortT_len (K.map (·.1))
    rw [e, List.length_map] at this
    have := h4 (by simpa using hn)
    simp at *
    omega
  · rw [sortT_len, List.length_map]; simpa using h2
  · intro x hx
    exact hsub x ((sortT_perm _).mem_iff.mp hx)
theorem ap_names (hr : st a = some (.lst r)) (ok : PotOk b r) (h : ∀ ns : List Str, ns ≠ [] → ns.length ≤ 6 → (∀ x ∈ ns, nameOk x = true) → Q (.lst (ns.map .str)) st) : F__law_names [.ref a] st X Q := by
  obtain ⟨x, c, k, rfl, x0, k0, k1⟩ := ok
  simp only [F__law_names, wDef_ap]
  refine ⟨rfl, ?_⟩
  rw [wSeq_ap]
  simp [-wSeq_ap]
  rw [wSeq_ap]
  simp [-wSeq_ap, ixD_ref hr]
  refine ap_mixed (by omega) (by omega) (fun n1 hn1 => ?_)
  have e1 := emod_b n1 (k := 8) (by decide)
  simp (disch := first | omega | decide +kernel) [-wSeq_ap, dMod_int]
  generalize hmany : 1 + n1 % 8 = many at *
  rw [wSeq_ap]
  simp [-wSeq_ap, ixD_ref hr]
  rw [rangeOf_1 (by omega) (by omega), on_some, rangeL_map]
  have hrl : (rangeI 0 many).length = many.toNat := by rw [rangeI_len]; simp
  refine compL_inv (enc := D.int) (fun acc rest st' => ∃ cs : List Nat, acc = (cs.map fun c => D.str (txt [c])) ∧ st = st' ∧ (∀ c ∈ cs, low c) ∧ (∀ y ∈ rest, 0 ≤ y ∧ y < 8) ∧ cs.length + rest.length = many.toNat) (fun _ _ _ _ => trivial) ?_ ?_ _ _ _ ⟨[], rfl, rfl, fun _ h => (by cases h), fun y hy => (by have := mem_rangeI.mp hy; omega), by simpa using hrl⟩
  rotate_left
  · rintro y rest acc st' N ⟨cs, rfl, rfl, hc, hr8, hl⟩ hN
    have hy := hr8 y List.mem_cons_self
    simp [ixD_ref hr]
    refine ap_mixed (by omega) (by omega) (fun n2 hn2 => ?_)
    have e2 := emod_b n2 (k := 26) (by decide)
    simp (disch := first | omega | decide +kernel) [dMod_int]
    obtain ⟨c1, hc1, hc2⟩ := letter_at (st := st) e2.1 e2.2
    rw [hc2, on_some]
    refine hN _ _ ⟨cs ++ [c1], by simp, rfl, ?_, fun y hy => hr8 y (List.mem_cons_of_mem _ hy), by simp at hl ⊢; omega⟩
    intro c' hc'
    rcases List.mem_append.mp hc' with h | h
    · exact hc c' h
    · rw [List.mem_singleton.mp h]; exact hc1
  · rintro acc st' ⟨cs, rfl, rfl, hc, -, hl⟩
    simp at hl
    rw [mJoin_txt (by omega), on_some]
    rw [wSeq_ap]
    simp [-wSeq_ap, ixD_ref hr]
    refine ap_mixed (by omega) (by omega) (fun n3 hn3 => ?_)
    have e3 := emod_b n3 (k := many) (by omega)
    simp (disch := first | omega | decide +kernel) [-wSeq_ap, dMod_int]
    generalize n3 % many = at_ at *
    rw [wSeq_ap]
    simp [-wSeq_ap, ixD_ref hr]
    obtain ⟨c1, hc1, hc2⟩ := ixD_txt (st := st) e3.1 (show at_ < cs.length by omega) (by omega)
    rw [hc2, on_some]
    show on (some (D.int (Txt.find (Str.ofString "abcdefghijklmnopqrstuvwxyz") (txt [c1])), st)) _
    rw [on_some]
    simp [-wSeq_ap, ixD_ref hr]
    refine ap_mixed (by omega) (by omega) (fun n4 hn4 => ?_)
    generalize (Txt.find (Str.ofString "abcdefghijklmnopqrstuvwxyz") (txt [c1]) : Int) = fd at *
    simp (disch := first | omega | decide +kernel) [-wSeq_ap, dMod_int]
    have e4 := emod_b (fd + 1 + n4 % 25) (k := 26) (by decide)
    obtain ⟨c2, hc3, hc4⟩ := letter_at (st := st) e4.1 e4.2
    rw [hc4, on_some]
    rw [wSeq_ap]
    simp [-wSeq_ap]
    rw [slD_txt_to e3.1 (by omega), on_some, dAdd_txt (by simp; omega), on_some, slD_txt_from (by omega) (by omega), on_some, dAdd_txt (by simp; omega), on_some]
    have hnew : nameOk (txt (cs.take at_.toNat ++ [c2] ++ cs.drop (at_ + 1).toNat)) = true := by
      refine nameOk_txt (by simp; omega) (by simp; omega) ?_
      intro c' hc'
      rcases List.mem_append.mp hc' with h | h
      · rcases List.mem_append.mp h with h | h
        · exact hc c' (List.mem_of_mem_take h)
        · rw [List.mem_singleton.mp h]; exact hc3
      · exact hc c' (List.mem_of_mem_drop h)
    have hold : nameOk (txt cs) = true := nameOk_txt (by omega) (by omega) hc
    generalize txt (cs.take at_.toNat ++ [c2] ++ cs.drop (at_ + 1).toNat) = x6 at *
    generalize txt cs = x5 at *
    have hL : ([D.str (Str.ofString "ab"), .str (Str.ofString "ac"), .str (Str.ofString "b"), .str (Str.ofString "aab"), .str x5, .str x6] : List D) = [Str.ofString "ab", Str.ofString "ac", Str.ofString "b", Str.ofString "aab", x5, x6].map D.str := rfl
    have hok : ∀ x ∈ [Str.ofString "ab", Str.ofString "ac", Str.ofString "b", Str.ofString "aab", x5, x6], nameOk x = true := by
      have d1 : nameOk (Str.ofString "ab") = true := by decide +kernel
      have d2 : nameOk (Str.ofString "ac") = true := by decide +kernel
      have d3 : nameOk (Str.ofString "b") = true := by decide +kernel
      have d4 : nameOk (Str.ofString "aab") = true := by decide +kernel
      simp [d1, d2, d3, d4, hold, hnew]
    rw [hL]
    have hlen : [Str.ofString "ab", Str.ofString "ac", Str.ofString "b", Str.ofString "aab", x5, x6].length = 6 := rfl
    have hne : [Str.ofString "ab", Str.ofString "ac", Str.ofString "b", Str.ofString "aab", x5, x6] ≠ [] := by simp
    generalize [Str.ofString "ab", Str.ofString "ac", Str.ofString "b", Str.ofString "aab", x5, x6] = L at *
    refine compL_imp (enc := D.str) (fun y : Str => [some (.ref a), some (D.str (Str.ofString "abcdefghijklmnopqrstuvwxyz")), some (D.int many), some (D.str x5), some (D.int at_), some (.str (txt [c2])), some (.lst (L.map .str)), none, some (.str y)]) (fun _ => true) (fun y => .tup [.str y, .bl true]) ?_ ?_ ?_ trivial ?_
    · simp
    · intro y _ Q hq
      simpa using hq
    · intro y _ _ Q hq
      simpa using hq
    · have e5 : ([] : List D) ++ (L.filter fun _ => true).map (fun y => D.tup [.str y, .bl true]) = (L.map fun y => (y, D.bl true)).map fun q => .tup [.str q.1, id q.2] := by
        rw [List.nil_append, List.filter_eq_self.mpr (fun _ _ => rfl), List.map_map]; rfl
      rw [e5]
      simp only [pairsL_T, lsOf_lst, Option.bind_some, on_some]
      intro p hp
      obtain ⟨ns, e6, hq⟩ := sorted_once (st := st) (p := p) (Q := fun ns => Q (.lst (ns.map .str)) st) (by omega) hne hok (fun ns h1 h2 h3 => h ns h1 (by omega) fun x hx => hok x (h3 x hx))
      rw [e6, on_some]
      simp only [Sto.keepOnly_new hp, Sto.keepOnly_self]
      exact hq
end
end DL
/-! SH20: sides, deeds, runs drawn. -/
namespace DL
open PySem PySem.Spec PyProof.Rows L2
section
variable {st : Sto} {X : PoX} {Q : PoE} {a : Addr} {r : List D} {b n : Nat} {m c k : Int} {w : Wo}
theorem rangeI_lt {i j : Int} : (rangeI i j).Pairwise (· < ·) := by
  unfold rangeI
  rw [List.pairwise_map]
  refine List.pairwise_lt_range.imp fun {x y} h => by omega
theorem ap_side (hr : st a = some (.lst r)) (ok : PotOk b r) (hb : b ≤ 10 ^ 14) (h1 : 1 ≤ m) (h2 : m ≤ 7) (h : ∀ (s : List Int) r', s.Pairwise (· < ·) → (∀ x ∈ s, houseOk m x) → (s.length : Int) ≤ m → PotOk (b + 7) r' → Q (.tup (s.map .int)) (st.set a (.lst r'))) : F__law_side [.ref a, .int m] st X Q := by
  have sm : (st a).isSome = true := by rw [hr]; rfl
  simp only [F__law_side, wDef_ap]
  refine ⟨rfl, ?_⟩
  simp
  rw [rangeOf_1 (by omega) (by omega), on_some, rangeL_map]
  have hrl : (rangeI 0 m).length = m.toNat := by rw [rangeI_len]; simp
  refine compL_inv (enc := D.int) (fun acc rest st' => ∃ (s : List Int) (r' : List D) (j : Nat), acc = s.map .int ∧ PotOk (b + j) r' ∧ st' = st.set a (.lst r') ∧ (s ++ rest).Sublist (rangeI 0 m) ∧ j + rest.length ≤ 7) (fun _ _ _ _ => trivial) ?_ ?_ _ _ _
    ⟨[], r, 0, rfl, ok, (Sto.set_self hr).symm, (by rw [List.nil_append]; exact List.Sublist.refl _), (by omega)⟩
  · rintro acc st' ⟨s, r', j, rfl, ok', rfl, hs, hj⟩
    rw [List.append_nil] at hs
    simp [Sto.keepOnly_set sm]
    refine h s r' (rangeI_lt.sublist hs) (fun x hx => mem_rangeI.mp (hs.subset hx)) ?_ (ok'.mono (by simp at hj; omega))
    have := hs.length_le
    omega
  · rintro y rest acc st' N ⟨s, r', j, rfl, ok', rfl, hs, hj⟩ hN
    simp at hj
    simp
    refine ap_pull Sto.set_same ok' (by omega) (by omega) (by omega) (fun z r2 hz0 hz1 ok2 => ?_)
    simp
    by_cases hz : z = 0
    · simp [hz]
      refine hN _ _ ⟨s ++ [y], r2, j + 1, by simp, ok2, rfl, by simpa using hs, by omega⟩
    · simp [hz]
      refine hN _ _ ⟨s, r2, j + 1, rfl, ok2, rfl, ?_, by omega⟩
      exact ((List.Sublist.refl s).append (List.sublist_cons_self y rest)).trans hs
theorem atI_str {L : List Str} {i : Int} (h0 : 0 ≤ i) (h1 : i < L.length) : ∃ x ∈ L, atI (L.map D.str) i = some (.str x) := by
  have h2 : i.toNat < L.length := by omega
  refine ⟨L[i.toNat], List.getElem_mem h2, ?_⟩
  have e : atI (L.map D.str) i = (L[i.toNat]?).map D.str := by
    rw [← List.getElem?_map, ← atI_N, show ((i.toNat : Nat) : Int) = i by omega]
  rw [e, List.getElem?_eq_getElem h2]; rfl
theorem kinds9 {i k : Int} (h0 : 0 ≤ i) (h1 : i < 9) (hk : 0 ≤ k) {R : D → Prop} (h : ∀ e : De, e.ok m → R e.d) :
    on (atI [D.str (Str.ofString "carry"), .str (Str.ofString "carry"), .str (Str.ofString "carry"), .str (Str.ofString "carry"), .str (Str.ofString "carry"), .str (Str.ofString "carry"), .str (Str.ofString "carry"), .str (Str.ofString "copy"), .str (Str.ofString "lose")] i) fun z => R (.tup [z, .int k]) := by
  have : i = 0 ∨ i = 1 ∨ i = 2 ∨ i = 3 ∨ i = 4 ∨ i = 5 ∨ i = 6 ∨ i = 7 ∨ i = 8 := by omega
  rcases this with rfl | rfl | rfl | rfl | rfl | rfl | rfl | rfl | rfl
  · exact h (.carry k) hk
  · exact h (.carry k) hk
  · exact h (.carry k) hk
  · exact h (.carry k) hk
  · exact h (.carry k) hk
  · exact h (.carry k) hk
  · exact h (.carry k) hk
  · exact h (.copy k) hk
  · exact h (.lose k) hk
theorem nm1 : nameOk (Str.ofString "ab") = true := by decide +kernel
theorem nm2 : nameOk (Str.ofString "joe") = true := by decide +kernel
theorem nm3 : nameOk (Str.ofString "eve") = true := by decide +kernel
theorem ap_deed (hr : st a = some (.lst r)) (ok : PotOk b r) (hb : b ≤ 10 ^ 13) (wok : WOk n w) (hn : n ≤ 100000) (h : ∀ (e : De) r', e.ok w.m → (w.yard.length > 120 → ∃ k, e = .lose k) → PotOk (b + 12) r' → Q e.d (st.set a (.lst r'))) : F__law_deed [.ref a, w.d] st X Q := by
  have sz := sizeLine_eq
  have sm : (st a).isSome = true := by rw [hr]; rfl
  have m1 : (1 : Int) ≤ w.logs.length := wok.m1
  have m7 : (w.logs.length : Int) ≤ 7 := wok.m7
  have yl := wok.ylen
  simp only [F__law_deed, wDef_ap]
  refine ⟨rfl, ?_⟩
  rw [wSeq_ap]
  simp [-wSeq_ap]
  rw [wSeq_ap]
  simp [-wSeq_ap]
  refine ap_pull hr ok (by omega) (by omega) (by omega) (fun house r1 hh0 hh1 ok1 => ?_)
  have hho : houseOk w.m house := ⟨hh0, hh1⟩
  rw [wSeq_ap]
  simp [-wSeq_ap]
  refine ap_names Sto.set_same ok1 (fun ns hne hl6 hns => ?_)
  rw [wSeq_ap]
  simp [-wSeq_ap]
  rw [show (D.str (Str.ofString "ab") :: D.str (Str.ofString "ab") :: D.str (Str.ofString "ab") :: [] : List D) = [Str.ofString "ab", Str.ofString "ab", Str.ofString "ab"].map D.str from rfl]
  rw [dAdd_lst (by simp; omega), on_some, ← List.map_append]
  refine ap_pull Sto.set_same ok1 (by omega) (by omega) (by omega) (fun i1 r2 hi0 hi1 ok2 => ?_)
  obtain ⟨name, hnm, hat⟩ := atI_str (L := [Str.ofString "ab", Str.ofString "ab", Str.ofString "ab"] ++ ns) hi0 (by simp; omega)
  have nok : nameOk name = true := by
    rcases List.mem_append.mp hnm with h | h
    · simp at h; rw [h]; exact nm1
    · exact hns name h
  simp only [ixD_lst]
  rw [hat, on_some]
  rw [wSeq_ap]
  simp [-wSeq_ap]
  refine ap_pull Sto.set_same ok2 (by omega) (by split <;> omega) (by split <;> omega) (fun at_ r3 ha0 ha1 ok3 => ?_)
  rw [wSeq_ap]
  simp [-wSeq_ap]
  refine ap_pull Sto.set_same ok3 (by omega) (by omega) (by omega) (fun way r4 hw0 hw1 ok4 => ?_)
  refine seq_via (fun e' st' => ∃ way', 0 ≤ way' ∧ way' < 20 ∧ (w.yard.length > 120 → way' = 8) ∧ e' = [some (.ref a), some w.d, some (.int w.logs.length), some (.int house), some (.lst (ns.map D.str)), some (.str name), some (.int at_), some (.int way'), none, none] ∧ st' = st.set a (.lst r4)) ?_ ?_
  · intro N hN
    simp
    by_cases hy : (120 : Int) < w.yard.length
    · rw [if_pos hy]
      exact hN _ _ ⟨8, by omega, by omega, fun _ => rfl, rfl, rfl⟩
    · rw [if_neg hy]
      exact hN _ _ ⟨way, hw0, hw1, fun z => absurd z (by omega), rfl, rfl⟩
  rintro e' st' ⟨way', hw0', hw1', hcap, rfl, rfl⟩
  rw [wSeq_ap]
  simp [-wSeq_ap]
  by_cases c1 : way' < 9
  · simp [c1]
    simp only [Sto.keepOnly_set sm, Sto.keepOnly_self]
    by_cases hy : w.yard.length > 120
    · rw [hcap hy]
      exact h (.lose at_) r4 ha0 (fun _ => ⟨_, rfl⟩) (ok4.mono (by omega))
    · exact kinds9 (m := w.m) (R := fun d => Q d (st.set a (.lst r4))) hw0' c1 ha0 fun e he => h e r4 he (fun z => absurd z hy) (ok4.mono (by omega))
  · simp [c1, -wSeq_ap]
    have hnc : ¬ w.yard.length > 120 := fun z => by have := hcap z; omega
    have fin : ∀ {e : De} {r' : List D}, e.ok w.m → PotOk (b + 12) r' → Q e.d ((st.set a (.lst r')).keepOnly st) := fun {e r'} he hp => by
      rw [Sto.keepOnly_set sm, Sto.keepOnly_self]
      exact h e r' he (fun z => absurd z hnc) hp
    have ok5 : PotOk (b + 12) r4 := ok4.mono (by omega)
    rw [wSeq_ap]
    simp [-wSeq_ap]
    by_cases c2 : way' = 12
    · simp [c2]
      exact fin (e := .round) trivial ok5
    simp [c2, -wSeq_ap]
    rw [wSeq_ap]
    simp [-wSeq_ap]
    by_cases c3 : way' < 13
    · simp [c3]
      rw [show (D.str (Str.ofString "joe") :: D.str (Str.ofString "eve") :: [] : List D) = [Str.ofString "joe", Str.ofString "eve"].map D.str from rfl]
      rw [dAdd_lst (by simp; omega), on_some, ← List.map_append]
      refine ap_pull Sto.set_same ok4 (by omega) (by omega) (by omega) (fun i2 r5 hj0 hj1 ok6 => ?_)
      obtain ⟨per, hpm, hpt⟩ := atI_str (L := [Str.ofString "joe", Str.ofString "eve"] ++ ns) hj0 (by simp; omega)
      have pok : nameOk per = true := by
        rcases List.mem_append.mp hpm with h | h
        · simp at h
          rcases h with rfl | rfl
          · exact nm2
          · exact nm3
        · exact hns per h
      simp only [ixD_lst, Sto.set_set]
      rw [hpt, on_some]
      exact fin (e := .claim house name per) ⟨hho, nok, pok⟩ (ok6.mono (by omega))
    simp [c3, -wSeq_ap]
    rw [wSeq_ap]
    simp [-wSeq_ap]
    by_cases c4 : way' = 18
    · simp [c4]
      refine ap_side Sto.set_same ok4 (by omega) m1 m7 (fun s r5 hs1 hs2 hs3 ok6 => ?_)
      have ok7 : PotOk (b + 12) r5 := ok6.mono (by omega)
      simp only [Sto.set_set]
      by_cases hs0 : s = []
      · subst hs0
        simp
        exact fin (e := .heal) trivial ok7
      · have e0 : dEq (st.set a (.lst r5)) (.tup (s.map .int)) (.tup []) = some (.bl false) := by
          rw [dEq_tnil (by simp)]
          cases s with
          | nil => exact absurd rfl hs0
          | cons y s => rfl
        have hpos : 0 < s.length := by
          cases s with
          | nil => exact absurd rfl hs0
          | cons y s => simp
        rw [e0]
        simp
        by_cases hs4 : (s.length : Int) = w.logs.length
        · simp [hs4]
          exact fin (e := .heal) trivial ok7
        · simp [hs4]
          exact fin (e := .part s) ⟨hs2, hpos, by show (s.length : Int) < w.logs.length; omega, hs1⟩ ok7
    simp [c4, -wSeq_ap]
    rw [wSeq_ap]
    simp [-wSeq_ap]
    have e2 : dAdd (st.set a (.lst r4)) (.lst [(De.renew house name).d, (De.back house name).d, (De.fall house).d, (De.rise house).d, De.heal.d]) (.lst [De.round.d, De.round.d]) = some (.lst ([De.renew house name, .back house name, .fall house, .rise house, .heal, .round, .round].map De.d)) := by
      rw [dAdd_lst (by simp; omega)]; rfl
    refine (congrArg (fun z => on z _) e2).mpr ?_
    rw [on_some]
    have hi : 0 ≤ way' - 13 ∧ way' - 13 < 7 := by omega
    generalize way' - 13 = i at *
    have hall : ∀ e ∈ [De.renew house name, .back house name, .fall house, .rise house, .heal, .round, .round], e.ok w.m := by
      intro e he
      simp at he
      rcases he with rfl | rfl | rfl | rfl | rfl | rfl
      · exact ⟨hho, nok⟩
      · exact ⟨hho, nok⟩
      · exact hho
      · exact hho
      · trivial
      · trivial
    have hlt : i.toNat < [De.renew house name, .back house name, .fall house, .rise house, .heal, .round, .round].length := by
      show i.toNat < 7
      omega
    generalize [De.renew house name, .back house name, .fall house, .rise house, .heal, .round, .round] = L at *
    have e3 : atI (L.map De.d) i = (L[i.toNat]?).map De.d := by
      rw [← List.getElem?_map, ← atI_N, show ((i.toNat : Nat) : Int) = i by omega]
    simp only [ixD_lst]
    rw [e3, List.getElem?_eq_getElem hlt]
    exact fin (hall _ (List.getElem_mem hlt)) ok5
end
end DL
/-! SH21: runs drawn. -/
namespace DL
open PySem PySem.Spec PyProof.Rows L2
section
variable {st : Sto} {X : PoX} {Q : PoE} {a : Addr} {r : List D} {b n : Nat} {m c k t : Int} {w : Wo}
def whyNot : List Str := [Str.ofString "NoLetter", Str.ofString "Down", Str.ofString "Up", Str.ofString "Busy", Str.ofString "NoClaim"]
theorem refusal_mem {e : De} {y : Str} (h : refusal w e = some y) : y ∈ whyNot := by
  unfold whyNot
  have one : ∀ {o p : Option Str}, (∀ y, o = some y → y ∈ whyNot) → (∀ y, p = some y → y ∈ whyNot) → ∀ y, o.or p = some y → y ∈ whyNot := fun {o p} h1 h2 y hy => by
    cases o with
    | none => exact h2 y hy
    | some z => exact h1 y hy
  unfold refusal at h
  refine one ?_ (one ?_ (one ?_ ?_)) y h
  · intro y hy
    cases e <;> simp only [letRef] at hy <;> first | cases hy | (split at hy <;> cases hy <;> decide)
  · intro y hy
    cases e <;> simp only [upRef] at hy <;> first | cases hy | (split at hy <;> first | (cases hy; done) | (cases hy; decide) | (split at hy <;> cases hy <;> decide))
  · intro y hy
    cases e <;> simp only [wayRef] at hy <;> first | cases hy | (split at hy <;> first | (cases hy; done) | (split at hy <;> cases hy <;> decide))
  · intro y hy
    cases e <;> simp only [clRef] at hy <;> first | cases hy | (split at hy <;> cases hy <;> decide)
theorem why_caught : ∀ y ∈ whyNot, y ∈ Y_wor ∧ subE y (Str.ofString "HouseError") = true := by decide
/-- the law's own try of a deed, with other classes known -/
def F_behindY (ys : List Str) : WF := wDef 3 2 true (wSeq (wSet 2 (wC .non)) (wSeq (wTryN ys (wSet 2 (wFnT F_done (wCons (wVar 0) (wCons (wVar 1) wNil)))) [("HouseError", (wSet 2 (wC .non)))]) (wRet (wVar 2))))
def F_runY (B : WF) : WF := wDef 7 4 true (wSeq (wSet 4 (wFn F_world_of (wCons (wVar 1) (wCons (wVar 2) wNil)))) (wSeq (wFor (wiRange (wCons (wVar 3) wNil)) (.nm 5) (wSeq (wSet 6 (wFn B (wCons (wVar 4) (wCons (wFn F__law_deed (wCons (wVar 0) (wCons (wVar 4) wNil))) wNil)))) (wIfS (wTB (wBin dIsNot (wVar 6) (wC .non))) (wSet 4 (wVar 6)) wSkip)) [5, 6]) (wRet (wVar 4))))
theorem ap_behindY {ys : List Str} (hys : ∀ y ∈ whyNot, y ∈ ys ∧ subE y (Str.ofString "HouseError") = true) {e : De} (ok : WOk n w) (hn : n ≤ 1300) (he : e.ok w.m) (hx : ∀ y, refusal w e = some y → Q .non st) (hq : refusal w e = none → Q (behindW w e).d st) : F_behindY ys [w.d, e.d] st X Q := by
  simp only [F_behindY, wDef_ap]
  refine ⟨rfl, ?_⟩
  rw [wSeq_ap]
  simp [-wSeq_ap]
  rw [wSeq_ap]
  show (wSet 2 (wFnT F_done (wCons (wVar 0) (wCons (wVar 1) wNil)))) { nx := _, rt := _, ex := fun y st1 => y ∈ ys ∧ wHds _ _ y st1 _ } _ st
  simp [wFnT]
  refine ap_done ok hn he (fun y hy => ?_) (fun hr => ?_)
  · obtain ⟨h1, h2⟩ := hys y (refusal_mem hy)
    refine ⟨h1, ?_⟩
    show (if subE y (Str.ofString "HouseError") = true then _ else _)
    rw [if_pos h2]
    simp
    exact hx y hy
  · simp
    exact hq hr
theorem ap_behind {e : De} (ok : WOk n w) (hn : n ≤ 1300) (he : e.ok w.m) (hx : ∀ y, refusal w e = some y → Q .non st) (hq : refusal w e = none → Q (behindW w e).d st) : F__law_behind [w.d, e.d] st X Q :=
  ap_behindY (ys := Y_wor) why_caught ok hn he hx hq
theorem asked_yard {h : Int} {x p : Str} (m7 : w.m ≤ 7) : (askedW w h x k p).yard.length ≤ w.yard.length + 14 := by
  have hol := others_len (m := w.m) (h := h)
  have hnl := news_len (m := w.m) (h := h) (es := w.log h ++ [En.ask x k p (w.now + w.term)]) (more := ownWord (w.log h ++ [En.ask x k p (w.now + w.term)]) h x k (w.now + w.term) w.now) (x := x) (now := w.now)
  unfold askedW movedW
  dsimp only
  rw [List.length_append, List.length_append, List.length_map]
  omega
theorem behind_yard {e : De} (m7 : w.m ≤ 7) : (behindW w e).yard.length ≤ w.yard.length + 14 := by
  cases e with
  | claim h x p => exact asked_yard m7
  | renew h x =>
    unfold behindW
    simp only
    split
    · omega
    · exact asked_yard m7
  | back h x =>
    have hol := others_len (m := w.m) (h := h)
    unfold behindW backW
    simp only
    split
    · omega
    · unfold movedW
      dsimp only
      rw [List.length_append, List.length_map]
      omega
  | carry k =>
    unfold behindW carriedW
    simp only
    split
    · omega
    · rename_i l hl
      have := taken_ls_len (es := w.log l.to) (h := l.to) (now := w.now) (l := l) m7
      have := List.length_eraseIdx_le w.yard k.toNat
      unfold movedW
      dsimp only
      rw [List.length_append]
      omega
  | copy k =>
    unfold behindW copyW
    simp only
    split
    · omega
    · dsimp only
      rw [List.length_append]
      simp
  | lose k =>
    have := List.length_eraseIdx_le w.yard k.toNat
    show (w.yard.eraseIdx k.toNat).length ≤ _
    omega
  | fall h => show w.yard.length ≤ _; omega
  | rise h => show w.yard.length ≤ _; omega
  | part s => show w.yard.length ≤ _; omega
  | heal => show w.yard.length ≤ _; omega
  | round => show w.yard.length ≤ _; omega
/-- what a run leaves -/
structure RunOk (n : Nat) (m t : Int) (w : Wo) : Prop where
  ok : WOk n w
  hm : w.m = m
  ht : w.term = t
  hy : w.yard.length ≤ 134
  got : GotOk w
theorem RunOk.step {e : De} (h : RunOk n m t w) (he : e.ok w.m) (hr : refusal w e = none) (hc : w.yard.length > 120 → ∃ k, e = .lose k) : RunOk (n + 1) m t (behindW w e) := by
  refine ⟨behind_ok h.ok he hr, by rw [behind_m]; exact h.hm, by rw [behind_term]; exact h.ht, ?_, got_behind h.ok he hr h.got⟩
  by_cases hy : w.yard.length > 120
  · obtain ⟨k, rfl⟩ := hc hy
    have := List.length_eraseIdx_le w.yard k.toNat
    have := h.hy
    show (w.yard.eraseIdx k.toNat).length ≤ _
    omega
  · have := behind_yard (w := w) (e := e) h.ok.m7
    omega
theorem RunOk.mono (h : RunOk n m t w) {n' : Nat} (hn : n ≤ n') : RunOk n' m t w := by
  obtain ⟨j, rfl⟩ : ∃ j, n' = n + j := ⟨n' - n, by omega⟩
  induction j with
  | zero => exact h
  | succ j ih => exact ⟨(ih (by omega)).ok.mono, h.hm, h.ht, h.hy, h.got⟩
theorem run0 (h1 : 1 ≤ m) (h2 : m ≤ 7) (h3 : 2 ≤ t) : RunOk 0 m t (w0 m t) := ⟨w0_ok h1 h2 h3, w0_m h1, rfl, Nat.zero_le _, got0⟩
theorem ap_runY {ys : List Str} (hys : ∀ y ∈ whyNot, y ∈ ys ∧ subE y (Str.ofString "HouseError") = true) {size : Int} (hr : st a = some (.lst r)) (ok : PotOk b r) (hb : b ≤ 10 ^ 12) (h1 : 1 ≤ m) (h2 : m ≤ 7) (h3 : 2 ≤ t) (h4 : t ≤ 9) (h5 : 0 ≤ size) (h6 : size ≤ 1200)
    (h : ∀ (w : Wo) r', RunOk size.toNat m t w → PotOk (b + 12 * size.toNat) r' → Q w.d (st.set a (.lst r'))) : F_runY (F_behindY ys) [.ref a, .int m, .int t, .int size] st X Q := by
  have sm : (st a).isSome = true := by rw [hr]; rfl
  simp only [F_runY, wDef_ap]
  refine ⟨rfl, ?_⟩
  rw [wSeq_ap]
  simp [-wSeq_ap]
  refine ap_world_of kn_int kn_int (fun z => ?_) (fun i j hi hj _ _ _ _ _ => ?_)
  · simp [okMT, h1, h2, h3, h4] at z
  cases hi
  cases hj
  rw [← w0_d]
  rw [wSeq_ap]
  simp [-wSeq_ap]
  rw [rangeOf_1 (by omega) (by omega), on_some, rangeL_map]
  have hrl : (rangeI 0 size).length = size.toNat := by rw [rangeI_len]; simp
  refine wForL_typed (fun rest e' st' => ∃ (w : Wo) (n : Nat) (r' : List D), n + rest.length = size.toNat ∧ RunOk n m t w ∧ PotOk (b + 12 * n) r' ∧ e' = [some (.ref a), some (.int m), some (.int t), some (.int size), some w.d, none, none] ∧ st' = st.set a (.lst r')) (fun _ _ _ _ => trivial) ?_ ?_ _ _ _
    ⟨w0 m t, 0, r, by omega, run0 h1 h2 h3, ok, rfl, (Sto.set_self hr).symm⟩
  · rintro e' st' ⟨w, n, r', hn, hro, ok', rfl, rfl⟩
    simp at hn
    simp [Sto.keepOnly_set sm]
    rw [hn] at hro ok'
    exact h w r' hro ok'
  · rintro y rest e' st' N ⟨w, n, r', hn, hro, ok', rfl, rfl⟩ hN
    rw [List.length_cons] at hn
    simp [-wSeq_ap]
    rw [wSeq_ap]
    simp [-wSeq_ap]
    refine ap_deed Sto.set_same ok' (by omega) hro.ok (by omega) (fun e r2 he hcap ok2 => ?_)
    simp only [Sto.set_set]
    refine ap_behindY hys hro.ok (by omega) he (fun y hy => ?_) (fun hre => ?_)
    · simp
      exact hN _ _ ⟨w, n + 1, r2, by omega, hro.mono (by omega), ok2.mono (by omega), rfl, rfl⟩
    · rw [show isN (behindW w e).d = false from rfl, if_neg (by decide)]
      exact hN _ _ ⟨behindW w e, n + 1, r2, by omega, hro.step he hre hcap, ok2.mono (by omega), rfl, rfl⟩
theorem ap_run {size : Int} (hr : st a = some (.lst r)) (ok : PotOk b r) (hb : b ≤ 10 ^ 12) (h1 : 1 ≤ m) (h2 : m ≤ 7) (h3 : 2 ≤ t) (h4 : t ≤ 9) (h5 : 0 ≤ size) (h6 : size ≤ 1200)
    (h : ∀ (w : Wo) r', RunOk size.toNat m t w → PotOk (b + 12 * size.toNat) r' → Q w.d (st.set a (.lst r'))) : F__law_run [.ref a, .int m, .int t, .int size] st X Q :=
  ap_runY (ys := Y_wor) why_caught hr ok hb h1 h2 h3 h4 h5 h6 h
end
end DL
/-! SH22: what the laws of runs draw: how many houses, a term. -/
namespace DL
open PySem PySem.Spec PyProof.Rows L2
section
variable {st : Sto} {X : PoX} {Q : PoE}
def cellsE (script : List Int) (n : Int) : List Int := script.take n.toNat ++ [(script.length : Int)]
theorem scriptE {script : List Int} {n : Int} (hl : script.length ≤ 63) (h : 0 ≤ n) : dAdd st (.lst (DL.cutD (script.map D.int) none (some n))) (.lst [.int script.length]) = some (.lst ((cellsE script n).map .int)) := by
  have sz := sizeLine_eq
  rw [cutD_to h, dAdd_lst (by
    have := List.length_take_le n.toNat (script.map D.int)
    simp at this ⊢
    omega)]
  simp [cellsE]
theorem four_at {a b c d : D} {i : Int} (h0 : 0 ≤ i) (h1 : i < 4) : ∃ z, (z = a ∨ z = b ∨ z = c ∨ z = d) ∧ atI [a, b, c, d] i = some z := by
  have : i = 0 ∨ i = 1 ∨ i = 2 ∨ i = 3 := by omega
  rcases this with rfl | rfl | rfl | rfl
  · exact ⟨_, .inl rfl, rfl⟩
  · exact ⟨_, .inr (.inl rfl), rfl⟩
  · exact ⟨_, .inr (.inr (.inl rfl)), rfl⟩
  · exact ⟨_, .inr (.inr (.inr rfl)), rfl⟩
theorem two_at {a b : D} {i : Int} (h0 : 0 ≤ i) (h1 : i < 2) : ∃ z, (z = a ∨ z = b) ∧ atI [a, b] i = some z := by
  have : i = 0 ∨ i = 1 := by omega
  rcases this with rfl | rfl
  · exact ⟨_, .inl rfl, rfl⟩
  · exact ⟨_, .inr rfl, rfl⟩
theorem many_at {n1 i : Int} (h0 : 0 ≤ i) (h1 : i < 4) (h2 : 0 ≤ n1) (h3 : n1 < 7) : ∃ m, 1 ≤ m ∧ m ≤ 7 ∧ atI [D.int 2, .int 3, .int 4, .int (1 + n1)] i = some (D.int m) := by
  obtain ⟨z, hz, e⟩ := four_at (a := D.int 2) (b := D.int 3) (c := D.int 4) (d := D.int (1 + n1)) h0 h1
  rcases hz with rfl | rfl | rfl | rfl
  · exact ⟨_, by omega, by omega, e⟩
  · exact ⟨_, by omega, by omega, e⟩
  · exact ⟨_, by omega, by omega, e⟩
  · exact ⟨_, by omega, by omega, e⟩
end
end DL
/-! SH23: quiet rounds, in plain Lean. -/
namespace DL
open PySem PySem.Spec PyProof.Rows L2
def canCarry (w : Wo) (l : Le) : Bool := !decide (l.to ∈ w.down) && !partedW w l
def firstFrom (p : Le → Bool) : Nat → List Le → Option Nat
  | _, [] => none
  | i, l :: r => if p l = true then some i else firstFrom p (i + 1) r
def firstC (w : Wo) : Option Nat := firstFrom (canCarry w) 0 w.yard
def weight : Le → Nat
  | .ask .. => 8 | .word .. => 7 | _ => 1
def wsum (l : List Le) : Nat := (l.map weight).sum
def meas (w : Wo) : Nat := wsum (w.yard.filter (canCarry w))
section
variable {w : Wo} {n : Nat} {h k : Int} {x : Str} {es : List En}
theorem wsum_cons {l : Le} {r : List Le} : wsum (l :: r) = weight l + wsum r := by unfold wsum; rw [List.map_cons, List.sum_cons]
theorem wsum_app : ∀ {a b : List Le}, wsum (a ++ b) = wsum a + wsum b
  | [], b => by show wsum b = 0 + wsum b; omega
  | l :: r, b => by rw [List.cons_append, wsum_cons, wsum_cons, wsum_app]; omega
theorem wsum_filter {p : Le → Bool} : ∀ {a : List Le}, wsum (a.filter p) ≤ wsum a
  | [] => Nat.le_refl _
  | l :: r => by
    have ih := wsum_filter (p := p) (a := r)
    rw [List.filter_cons, wsum_cons]
    split
    · rw [wsum_cons]; omega
    · omega
theorem wsum_ones : ∀ {a : List Le}, (∀ l ∈ a, weight l = 1) → wsum a = a.length
  | [], _ => rfl
  | l :: r, h => by
    rw [wsum_cons, h l List.mem_cons_self, wsum_ones fun y hy => h y (List.mem_cons_of_mem _ hy), List.length_cons]; omega
theorem wsum_le8 : ∀ {a : List Le}, wsum a ≤ 8 * a.length
  | [] => Nat.le_refl _
  | l :: r => by
    have ih := wsum_le8 (a := r)
    have : weight l ≤ 8 := by cases l <;> simp [weight]
    rw [wsum_cons, List.length_cons]; omega
theorem firstFrom_some {p : Le → Bool} : ∀ {l : List Le} {i k : Nat}, firstFrom p i l = some k → ∃ a y b, l = a ++ y :: b ∧ k = i + a.length ∧ p y = true ∧ ∀ z ∈ a, p z = false
  | [], _, _, h => by cases h
  | y :: r, i, k, h => by
    unfold firstFrom at h
    split at h
    · rename_i hp
      cases h
      exact ⟨[], y, r, rfl, rfl, hp, fun z hz => by cases hz⟩
    · rename_i hp
      obtain ⟨a, z, b, e, ek, hz, ha⟩ := firstFrom_some h
      refine ⟨y :: a, z, b, by rw [e]; rfl, by rw [List.length_cons]; omega, hz, fun q hq => ?_⟩
      rcases List.mem_cons.mp hq with rfl | hq
      · simpa using hp
      · exact ha q hq
theorem firstFrom_none {p : Le → Bool} : ∀ {l : List Le} {i : Nat}, firstFrom p i l = none → ∀ y ∈ l, p y = false
  | [], _, _ => fun y hy => by cases hy
  | y :: r, i, h => by
    unfold firstFrom at h
    split at h
    · cases h
    · rename_i hp
      intro z hz
      rcases List.mem_cons.mp hz with rfl | hz
      · simpa using hp
      · exact firstFrom_none h z hz
theorem firstFrom_at {p : Le → Bool} : ∀ {a : List Le} {y : Le} {b : List Le} {i : Nat}, (∀ z ∈ a, p z = false) → p y = true → firstFrom p i (a ++ y :: b) = some (i + a.length)
  | [], y, b, i, _, hy => by
    show (if p y = true then some i else _) = _
    rw [if_pos hy]; rfl
  | z :: a, y, b, i, ha, hy => by
    show (if p z = true then some i else firstFrom p (i + 1) (a ++ y :: b)) = _
    rw [if_neg (by rw [ha z List.mem_cons_self]; decide), firstFrom_at (fun q hq => ha q (List.mem_cons_of_mem _ hq)) hy, List.length_cons]
    congr 1; omega
theorem firstFrom_all {p : Le → Bool} : ∀ {l : List Le} {i : Nat}, (∀ z ∈ l, p z = false) → firstFrom p i l = none
  | [], _, _ => rfl
  | z :: r, i, h => by
    show (if p z = true then some i else firstFrom p (i + 1) r) = _
    rw [if_neg (by rw [h z List.mem_cons_self]; decide)]
    exact firstFrom_all fun q hq => h q (List.mem_cons_of_mem _ hq)
theorem firstC_some {j : Nat} (h : firstC w = some j) : ∃ a y b, w.yard = a ++ y :: b ∧ j = a.length ∧ canCarry w y = true ∧ ∀ z ∈ a, canCarry w z = false := by
  obtain ⟨a, y, b, e1, e2, e3, e4⟩ := firstFrom_some h
  exact ⟨a, y, b, e1, by omega, e3, e4⟩
theorem others_len2 {m : Int} (h0 : houseOk m h) : ((others m h).length : Int) = m - 1 := by
  have nd : (rangeI 0 m).Nodup := rangeI_lt.imp fun {a b} hab => by omega
  have e : others m h = (rangeI 0 m).erase h := by
    unfold others
    rw [nd.erase_eq_filter]
    refine List.filter_congr fun y _ => ?_
    by_cases hy : y = h <;> simp [hy]
  rw [e, List.length_erase_of_mem (mem_rangeI.mpr h0), rangeI_len]
  have := h0.1
  have := h0.2
  omega
theorem news_ones {m now : Int} {more : List En} (h0 : houseOk m h) (m7 : m ≤ 7) : wsum (newsOf m h es more x now).2 ≤ 6 := by
  have e : ∀ l ∈ (newsOf m h es more x now).2, weight l = 1 := by
    unfold newsOf
    split
    · intro l hl; cases hl
    · split
      · intro l hl; cases hl
      · intro l hl
        obtain ⟨o, _, rfl⟩ := List.mem_map.mp hl
        rfl
  rw [wsum_ones e]
  unfold newsOf
  split
  · simp
  · split
    · simp
    · rw [List.length_map]
      have := others_len2 h0
      omega
theorem taken_less {m now : Int} {l : Le} (h0 : houseOk m h) (m7 : m ≤ 7) : wsum (taken m h es l now).ls < weight l := by
  cases l with
  | ask s t n k p u =>
    unfold taken askTaken
    dsimp only
    split
    · show 0 < 8; omega
    · split
      · show 7 + 0 < 8; omega
      · split
        · show 0 < 8; omega
        · split
          · show 7 + 0 < 8; omega
          · show 1 + 0 < 8; omega
  | word s t n k u =>
    unfold taken wordTaken
    dsimp only
    split
    · show 1 + 0 < 7; omega
    · split
      · show 1 + 0 < 7; omega
      · split
        · show 0 < 7; omega
        · have := news_ones (es := es) (x := n) (now := now) (more := [.got n k s u]) h0 m7
          show wsum (newsOf m h es [.got n k s u] n now).2 < 7
          omega
  | no s t n k => show 0 < 1; omega
  | back s t n k => show 0 < 1; omega
  | told s t n k p u => show 0 < 1; omega
theorem canCarry_ref {j : Nat} {y : Le} {a b : List Le} (e : w.yard = a ++ y :: b) (hj : j = a.length) (hc : canCarry w y = true) : refusal w (.carry j) = none ∧ w.yard[((j : Nat) : Int).toNat]? = some y := by
  subst hj
  have e2 : w.yard[(((a.length : Nat) : Int)).toNat]? = some y := by
    rw [e, Int.toNat_natCast, List.getElem?_append_right (Nat.le_refl _), Nat.sub_self]; rfl
  have hl : (a.length : Int) < w.yard.length := by rw [e, List.length_append, List.length_cons]; omega
  unfold canCarry at hc
  simp only [Bool.and_eq_true, Bool.not_eq_true', decide_eq_false_iff_not] at hc
  refine ⟨?_, e2⟩
  unfold refusal
  have r1 : letRef w (.carry (a.length : Nat)) = none := if_pos hl
  have r2 : upRef w (.carry (a.length : Nat)) = none := by
    unfold upRef
    simp only [e2]
    rw [if_neg hc.1]
  have r3 : wayRef w (.carry (a.length : Nat)) = none := by
    unfold wayRef
    simp only [e2]
    rw [if_neg (by rw [hc.2]; decide)]
  rw [r1, r2, r3]; rfl
theorem carried_eq {j : Nat} {y : Le} {a b : List Le} (e : w.yard = a ++ y :: b) (hj : j = a.length) : (carriedW w j).yard = a ++ b ++ (taken w.m y.to (w.log y.to) y w.now).ls ∧ (carriedW w j).down = w.down ∧ (carriedW w j).side = w.side ∧ (carriedW w j).now = w.now ∧ (carriedW w j).term = w.term := by
  subst hj
  have e2 : w.yard[(((a.length : Nat) : Int)).toNat]? = some y := by
    rw [e, Int.toNat_natCast, List.getElem?_append_right (Nat.le_refl _), Nat.sub_self]; rfl
  unfold carriedW
  simp only [e2]
  refine ⟨?_, rfl, rfl, rfl, rfl⟩
  show w.yard.eraseIdx (((a.length : Nat) : Int)).toNat ++ _ = _
  rw [e, Int.toNat_natCast, List.eraseIdx_append_of_length_le (Nat.le_refl _), Nat.sub_self]
  rfl
theorem meas_less (ok : WOk n w) {j : Nat} (h : firstC w = some j) : meas (carriedW w j) < meas w := by
  obtain ⟨a, y, b, e1, e2, e3, e4⟩ := firstC_some h
  obtain ⟨c1, c2, c3, _⟩ := carried_eq e1 e2
  have hy : LeOk w.m y := ok.yard y (by rw [e1]; exact List.mem_append_right _ List.mem_cons_self)
  have ht := taken_less (es := w.log y.to) (now := w.now) (l := y) hy.hs.2.1 ok.m7
  have cc : canCarry (carriedW w j) = canCarry w := by
    funext l
    unfold canCarry partedW
    rw [c2, c3]
  unfold meas
  rw [cc, c1, e1, List.filter_append, List.filter_append, List.filter_append, List.filter_cons, if_pos e3, wsum_app, wsum_app, wsum_app, wsum_cons]
  have := wsum_filter (p := canCarry w) (a := (taken w.m y.to (w.log y.to) y w.now).ls)
  omega
theorem meas_le (w : Wo) : meas w ≤ 8 * w.yard.length := by
  have := wsum_filter (p := canCarry w) (a := w.yard)
  have := wsum_le8 (a := w.yard)
  unfold meas
  omega
/-- letters carried, the first that can be again and again -/
def quietN : Nat → Wo → Wo
  | 0, w => w
  | f + 1, w => match firstC w with
    | none => w
    | some k => quietN f (carriedW w k)
def Quiet (w r : Wo) : Prop := ∃ f, quietN f w = r ∧ firstC r = none
theorem quiet_end {r : Wo} (h : Quiet w r) (hf : firstC w = none) : r = w := by
  obtain ⟨f, e, _⟩ := h
  cases f with
  | zero => exact e.symm
  | succ f =>
    unfold quietN at e
    rw [hf] at e
    exact e.symm
theorem quiet_step {r : Wo} (h : Quiet w r) {j : Nat} (hf : firstC w = some j) : Quiet (carriedW w j) r := by
  obtain ⟨f, e, hr⟩ := h
  cases f with
  | zero =>
    have e : w = r := e
    rw [← e, hf] at hr
    cases hr
  | succ f =>
    unfold quietN at e
    rw [hf] at e
    exact ⟨f, e, hr⟩
/-- a step forth keeps the world well formed -/
theorem quiet_ok (ok : WOk n w) {j : Nat} (h : firstC w = some j) : WOk (n + 1) (carriedW w j) := by
  obtain ⟨a, y, b, e1, e2, e3, e4⟩ := firstC_some h
  exact carried_ok ok (by omega) (by rw [e1, List.length_append, List.length_cons]; omega)
theorem quiet_ex : ∀ (f : Nat) {w : Wo} {n : Nat}, WOk n w → meas w ≤ f → ∃ r, Quiet w r ∧ WOk (n + meas w) r ∧ r.m = w.m ∧ r.term = w.term ∧ r.now = w.now ∧ r.down = w.down ∧ r.side = w.side ∧ meas r = 0 ∧ (∃ more, r.yard = w.yard.filter (fun l => !canCarry w l) ++ more)
  | f, w, n, ok, hf => by
    cases hc : firstC w with
    | none =>
      have hall := firstFrom_none hc
      have e0 : w.yard.filter (canCarry w) = [] := List.filter_eq_nil_iff.mpr fun y hy => by rw [hall y hy]; decide
      have e1 : w.yard.filter (fun l => !canCarry w l) = w.yard := List.filter_eq_self.mpr fun y hy => by rw [hall y hy]; rfl
      have m0 : meas w = 0 := by unfold meas; rw [e0]; rfl
      exact ⟨w, ⟨0, rfl, hc⟩, by rw [m0]; exact ok, rfl, rfl, rfl, rfl, rfl, m0, [], by rw [e1, List.append_nil]⟩
    | some j =>
      have hm := meas_less ok hc
      cases f with
      | zero => omega
      | succ f =>
        obtain ⟨r, ⟨g, q1, q2⟩, okr, h1, h2, h3, h4, h5, h6, more, h7⟩ := quiet_ex f (quiet_ok ok hc) (by omega)
        obtain ⟨a, y, b, e1, e2, e3, e4⟩ := firstC_some hc
        obtain ⟨c1, c2, c3, c4, c5⟩ := carried_eq e1 e2
        have cc : canCarry (carriedW w j) = canCarry w := by
          funext l
          unfold canCarry partedW
          rw [c2, c3]
        have okr2 : WOk (n + meas w) r := by
          obtain ⟨d, hd⟩ : ∃ d, n + meas w = n + 1 + meas (carriedW w j) + d := ⟨n + meas w - (n + 1 + meas (carriedW w j)), by omega⟩
          rw [hd]
          clear hd
          induction d with
          | zero => exact okr
          | succ d ih => exact ih.mono
        refine ⟨r, ⟨g + 1, ?_, q2⟩, okr2, ?_, by rw [h2, c5], by rw [h3, c4], by rw [h4, c2], by rw [h5, c3], h6, ?_⟩
        · show (match firstC w with | none => w | some k => quietN g (carriedW w k)) = r
          rw [hc]
          exact q1
        · rw [h1]
          exact behind_m (e := .carry j)
        · refine ⟨((taken w.m y.to (w.log y.to) y w.now).ls.filter fun l => !canCarry w l) ++ more, ?_⟩
          rw [h7, c1, cc, e1, List.filter_append, List.filter_append, List.filter_append, List.filter_cons, if_neg (by rw [e3]; decide), List.append_assoc]
end
end DL
/-! DL31: enumerate of a tuple. -/
namespace PySem
open Sem (wp)
open AutoSeq1 (wpAny_loadPart')
theorem meets_enumerate_newT (l : Addr) (items : Array Value) (n : Nat) (dct : Option Addr) (sl : Array (Option Value)) :
    Meets (Builtin.«enumerate.__new__» ⟨[.type "enumerate", .ref l], []⟩) (fun _ R s => s.heap.get? l = some { cls := .type "tuple", dict := dct, data := .seq items n, slots := sl } ∧
      R (.ok (.ret (.ref (s.heap.push { cls := .type "tuple_iterator", data := .fields #[.ref l, .int 0 0] }).objs.size)))
        { s with heap := (s.heap.push { cls := .type "tuple_iterator", data := .fields #[.ref l, .int 0 0] }).push { cls := .type "enumerate", data := .fields #[.none, .bool false, .ref s.heap.objs.size, rawInt 0, .none, .none] } }) :=
  .of_wp fun prog w A R s h => by
    obtain ⟨hp, g, d, tk, os⟩ := s; obtain ⟨hl, h⟩ := h
    have hsub := sub_enumerate
    have hL : Heap.IsTuple (Shared.heap ⟨hp, g, d, tk, os⟩) l items := ⟨_, hl, rfl, n, rfl⟩
    wp_walk using wpAny_loadPart' hl
    refine wpAny_stack_any fun st => wpAny_pure ?_
    split
    · rename_i c _ _ _ _ _
      cases (c == Value.type "enumerate")
      · wp_walk using wpAny_loadPart' hl, wpAny_pyIter_tuple hL
        exact ⟨_, rfl, h⟩
      · wp_walk using wpAny_loadPart' hl, wpAny_pyIter_tuple hL
        exact ⟨_, rfl, h⟩
    · wp_walk using wpAny_loadPart' hl, wpAny_pyIter_tuple hL
      exact ⟨_, rfl, h⟩
section
variable {prog : Program} {w : World} {A : Around} {E : Value → Shared → Prop} {s : Shared}
theorem call_enumerate_tuple {l : Addr} {items : Array Value} {Q : Value → Shared → Prop} (hL : s.heap.IsTuple l items)
    (h : ∀ h', IsEnum h' (s.heap.objs.size + 1) s.heap.objs.size 0 .none → h'.IsTupleIter s.heap.objs.size l 0 → h'.objs.size = s.heap.objs.size + 2 →
      (∀ b o, s.heap.get? b = some o → h'.get? b = some o) → Q (.ref (s.heap.objs.size + 1)) { s with heap := h' }) :
    wpAny (model prog w) A (call (.type "enumerate") [.ref l]) Q E s := by
  obtain ⟨⟨c, dct, dt, sl⟩, hl, hc, n, hd⟩ := hL
  replace hc : c = .type "tuple" := hc
  replace hd : dt = .seq items n := hd
  subst hc hd
  refine callType_new F.called_enumerate (by decide) (F.typeCall_enumerate_1 _) (F.newCall_enumerate_1 _) (fun obj => F.args_object_init_2 obj _) F.entry_enumerate_new
    (meets_enumerate_newT l items n dct sl) ⟨hl, ?_⟩
  have hz : (s.heap.push { cls := .type "tuple_iterator", data := .fields #[.ref l, .int 0 0] }).objs.size = s.heap.objs.size + 1 := Heap.size_push ..
  show _ ∧ _
  rw [hz]
  have he : IsEnum ((s.heap.push { cls := .type "tuple_iterator", data := .fields #[.ref l, .int 0 0] }).push
      { cls := .type "enumerate", data := .fields #[.none, .bool false, .ref s.heap.objs.size, rawInt 0, .none, .none] }) (s.heap.objs.size + 1) s.heap.objs.size 0 .none := by
    have := Heap.get?_push_size (s.heap.push { cls := .type "tuple_iterator", data := .fields #[.ref l, .int 0 0] })
      (o := { cls := .type "enumerate", data := .fields #[.none, .bool false, .ref s.heap.objs.size, rawInt 0, .none, .none] }) rfl
    rw [hz] at this; exact this
  refine ⟨⟨_, he, rfl⟩, h _ he ⟨_, Heap.get?_push_of_some _ (Heap.get?_push_size _ rfl), rfl, rfl⟩ (by rw [Heap.size_push, hz]) fun b o x => Heap.get?_push_of_some _ (Heap.get?_push_of_some _ x)⟩
end
end PySem
namespace L2
open PySem PySem.Spec PyProof.Rows PySem.Calls
/-- the tuple at a, each item in a new pair -/
def Itet (K : PySem.W.Frag) (a : Addr) : It :=
  ⟨fun i H => ∃ (xs : List V) (x : V), SqT K H a xs ∧ xs[i]? = some x, fun i H v H' => ∃ T x, v = .ref T ∧ H T = none ∧ H' = upd H T (.tup [.int (i : Nat), x]) ∧ ∀ xs, SqT K H a xs → xs[i]? = some x, fun i H => ∃ xs : List V, SqT K H a xs ∧ xs.length ≤ i⟩
theorem turn_enumT {P : Program} {w : World} {K : PySem.W.Frag} {elts : List Expr} {kk : Nat} {tpos : Pos} (a e it : Addr) :
    Turn P w K (.Tuple elts kk tpos) (Itet K a) [e, it] e (fun i h => (∃ old, IsEnum h e it ((i : Nat) : Int) old) ∧ h.IsTupleIter it a i ∧ e ≠ it) where
  mem := by simp
  obj := fun i h st b hb => by
    obtain ⟨⟨old, he⟩, ⟨o, ho, hc, hd⟩, _⟩ := st
    have e' : b = e ∨ b = it := by simpa using hb
    rcases e' with z | z
    · rw [z]; exact ⟨_, he, fun v q => nomatch q⟩
    · rw [z]; exact ⟨o, ho, fun v q => by rw [hd] at q; cases q⟩
  keep := fun i h h' st k => let ⟨⟨old, he⟩, hi, hne⟩ := st; ⟨⟨old, k e (by simp) _ he⟩, hi.at fun o q => k it (by simp) o q, hne⟩
  item := by
    intro X hP hw hK hc i pins s σ H E I hf st hg
    subst hP hw hK
    obtain ⟨⟨old, he⟩, hit, hne⟩ := st
    obtain ⟨xs, x, hq, hx⟩ := hg
    obtain ⟨its, rv, p, hz⟩ := I.tuple hq
    obtain ⟨u, hu, ru⟩ := rv.get hx
    have pt : s.heap.IsTuple a its.toArray := p
    have hel : e < s.heap.objs.size := Heap.lt_size he
    have hil : it < s.heap.objs.size := by obtain ⟨_, q, _⟩ := hit; exact Heap.lt_size q
    have hai : a ≠ it := fun z => by
      obtain ⟨o, ho, hc, _⟩ := hit
      obtain ⟨o2, ho2, hc2, _⟩ := pt
      rw [z, ho] at ho2
      cases ho2
      rw [hc] at hc2
      exact absurd hc2 (by decide)
    have hae : e ≠ a := fun z => by
      obtain ⟨o2, ho2, hc2, _⟩ := pt
      have he : s.heap.get? e = some _ := he
      rw [z, ho2] at he
      cases he
      have hc3 : Value.type "enumerate" = Value.type "tuple" := hc2
      exact absurd hc3 (by decide)
    have hlt : i < its.toArray.size := by
      have := (List.getElem?_eq_some_iff.mp hu).1
      simpa using this
    refine wpAny_pyNext_enum_itemD (Draws.tuple (A := X.A.in1) (I.ok.hd hc) it a hai its.toArray) he ⟨hit, pt⟩ hlt hne (by simp [hne, hae]) fun y h' tk hy ho hit' hT hsz hk => ?_
    have huy : y = u := by
      have hy : its.toArray[i]? = some y := hy
      have : its.toArray[i]? = some u := by simpa using hu
      exact Option.some.inj (hy.symm.trans this)
    subst huy
    refine ⟨_, rfl, wpAny_letOwnedTupleGo_enum (s := { s with heap := h', toks := tk + 1 }) ho fun h'' he' sb => ?_⟩
    have hT2 : h''.get? s.heap.objs.size = some { cls := .type "tuple", data := .seq #[.int i tk, y] } := (sb.2 _ (Nat.ne_of_gt hel)).trans hT
    have new : ObjOk X.prog X.w (upd H s.heap.objs.size (.tup [.int (i : Nat), x])) h'' s.heap.objs.size (.tup [.int (i : Nat), x]) :=
      ⟨by show 2 ≤ sizeLine; decide, [.int i tk, y], .cons ⟨_, rfl⟩ (.cons ru .nil), ⟨_, hT2, rfl, _, rfl⟩⟩
    have I1 : Inv X pins σ (upd H s.heap.objs.size (.tup [.int (i : Nat), x])) { s with heap := h'', toks := tk + 1 } :=
      I.turnedNew (ch := [e, it]) (fun b ob hb q => (sb.2 b (fun z => hb (by simp [z]))).trans (hk b ob (fun z => hb (by simp [z])) (fun z => hb (by simp [z])) q)) hf (Nat.le_refl _) new
    refine ⟨.ref s.heap.objs.size, _, I1, rfl, ⟨_, x, rfl, I.hok.fresh (Nat.le_refl _), rfl, fun ys hy => by rw [I.tuple_inj hy hq]; exact hx⟩, ⟨⟨y, ?_⟩, hit'.1.at fun o q => (sb.2 it (Ne.symm hne)).trans q, hne⟩, fun b hb => ?_⟩
    · have e1 : ((i + 1 : Nat) : Int) = (i : Int) + 1 := by omega
      rw [e1]; exact he'
    · have hb' : b < s.heap.objs.size := by
        have e' : b = e ∨ b = it := by simpa using hb
        rcases e' with z | z
        · rw [z]; exact hel
        · rw [z]; exact hil
      rw [upd_ne (Nat.ne_of_lt hb')]
      exact (hf b hb).1
  done := by
    intro X hP hw hK hc i pins s σ H E I hf st hg
    subst hP hw hK
    obtain ⟨⟨old, he⟩, hit, hne⟩ := st
    obtain ⟨xs, hq, hx⟩ := hg
    obtain ⟨its, rv, p, hz⟩ := I.tuple hq
    have pt : s.heap.IsTuple a its.toArray := p
    obtain ⟨f0, f1, f2, f3, f4, f5⟩ := hf it (by simp)
    have hl := rv.length
    have hT : s.TypeIs (.ref e) "enumerate" := ⟨_, he, rfl⟩
    unfold pyNext
    refine wpAny_bind (wpAny_attempt (wpAny_callSpecial?_slot (name := Str.ofString "__next__") hT F.slot_enumerate_next
      (wpAny_call_entry F.slot_enumerate_next hT F.entry_enumerate_next ?_ (F.args_enumerate_next_1 _))))
    show wpAny _ _ (field (.ref e) 2 >>= _) _ _ _
    refine wpAny_bind (wpAny_field he rfl (x := .ref it) rfl ?_)
    refine wpAny_bind (wpAny_nextOf_tuple_end (I.ok.hd hc) hit pt (by simp; omega) fun h' x he' hx' => ?_)
    obtain ⟨o, ho, hc⟩ := hx'
    refine wpAny_bind (wpAny_isInstance (T := "StopIteration") (b := true) ⟨o, ho, hc⟩ isSubtype_stop ?_)
    exact wpAny_pure ⟨rfl, I.turned (t' := s.toks) (fun b o hb q => he' b o hb q) f0 f1 f3 f4 f5⟩
  self := fun A i s Q E st h => let ⟨⟨_, he⟩, _⟩ := st; wpAny_pyIter_enum he h
def iEnumT (K : PySem.W.Frag) (ta : TA) : TI := fun σ H R => ta σ H fun vs H1 => ∃ a xs, vs = [.ref a] ∧ SqT K H1 a xs ∧ R (Itet K a) H1
theorem pi_enumT {X : Cx} {e : Expr} {ta : TA} {p pos tpos : Pos} {elts : List Expr} {kk : Nat} (hg : Gl X "enumerate") (hm : X.mg "enumerate" = none) (ha : PA X [e] ta) (hs : starEach [e] X.env = [(false, eval e X.env)] := by rfl) :
    PI X (.Tuple elts kk tpos) (.Call (.Name "enumerate" p) [e] [] pos) (iEnumT X.K ta) := by
  refine ⟨fun pins s σ H R I h => ?_⟩
  refine Call_ (ld_blt I hg hm boot_enumerate (PyProof.Rows.callWith_type1 (thn (ha.run pos pins s σ H _ I h) fun us s1 ⟨vs, H1, I1, r1, q1⟩ => ?_) hs rfl))
  obtain ⟨a, xs, ex, hq, q⟩ := q1
  subst ex
  cases r1 with
  | cons r rr =>
    cases rr
    cases r
    obtain ⟨its, rv, p', hz⟩ := I1.tuple hq
    refine call_enumerate_tuple (show s1.heap.IsTuple a its.toArray from p') fun h' he hit hsz hk => wpAny_pyIter_enum he ?_
    have I2 : Inv X pins σ H1 { s1 with heap := h' } := I1.kept (t' := s1.toks) hk
    refine ⟨s1.heap.objs.size + 1, [s1.heap.objs.size + 1, s1.heap.objs.size], _, _, H1, rfl, I2, turn_enumT a (s1.heap.objs.size + 1) s1.heap.objs.size, ⟨⟨.none, he⟩, hit, Nat.succ_ne_self _⟩, fun b hb => ?_, q⟩
    have e' : b = s1.heap.objs.size + 1 ∨ b = s1.heap.objs.size := by simpa using hb
    have hle : s1.heap.objs.size ≤ b := by
      rcases e' with z | z
      · rw [z]; exact Nat.le_add_right _ _
      · rw [z]; exact Nat.le_refl _
    exact I1.fpOk hle (I1.hok.fresh hle)
end L2
namespace DL
open PySem PySem.Spec PyProof.Rows L2
def wiEnumT (m : WA) : WI := fun e st X Q => m e st X fun as st1 => on (match as with | [d] => tpOf d | _ => none) fun ds => Q (enumL 0 ds) (fun _ => True) st1
@[simp] theorem wiEnumT_ap {m : WA} {e : Env} {st : Sto} {X : PoX} {QI : List D → (Sto → Prop) → Sto → Prop} : wiEnumT m e st X QI = m e st X fun as st1 => on (match as with | [d] => tpOf d | _ => none) fun ds => QI (enumL 0 ds) (fun _ => True) st1 := id rfl
section
variable {X : Cx} {E : XK} {a : Expr} {m : WA} {p pos : Pos}
theorem i_enumT {elts : List Expr} {kk : Nat} {tpos : Pos} (hg : Gl X "enumerate") (hm : X.mg "enumerate" = none) (h : PAw X E [a] 1 m) (hs : starEach [a] X.env = [(false, eval a X.env)] := by rfl) : PIw X E (.Tuple elts kk tpos) (.Call (.Name "enumerate" p) [a] [] pos) (wiEnumT m) :=
  pi_imp (pi_enumT hg hm h hs) fun σ H R ⟨B, e, st, Qd, Xd, S, pq, px, mm⟩ => ⟨B, e, st, _, Xd, S, fun as st1 vs H1 m1 l1 x1 k1 r1 => by
    obtain ⟨ds, hd, q⟩ := on_iff.mp m1
    split at hd
    · cases r1 with
      | cons r1 r2 =>
        cases r2
        obtain ⟨a, ws, rfl, hs, r3, z⟩ := tp_of r1 hd
        refine ⟨a, ws, rfl, hs, pq _ _ st1 _ H1 q (by rw [enumL_len]; exact z) x1 k1 fun i B' st2 H2 x2 k2 c hi => ?_⟩
        obtain ⟨a', ws', ea, hs2, r4, _⟩ := tp_of (r1.ext x2) hd
        cases ea
        refine ⟨fun e => ⟨ws', hs2, by rw [r4.length, e, enumL_len]; exact Nat.le_refl _⟩, fun d hd => ?_⟩
        rw [enumL_get] at hd
        obtain ⟨d', h1, rfl⟩ := Option.map_eq_some_iff.mp hd
        obtain ⟨v', h2, h3⟩ := r4.get h1
        refine ⟨⟨ws', v', hs2, h2⟩, fun x H' y => ?_⟩
        obtain ⟨T, x', rfl, hT, rfl, y⟩ := y
        have := (y ws' hs2).symm.trans h2
        cases this
        rw [Nat.zero_add]
        exact pair_ok k2 hT (.int _) h3
    · (cases hd), px, mm⟩
end
end DL
/-! SH24: quiet rounds, by the program and by the laws. -/
namespace DL
open PySem PySem.Spec PyProof.Rows L2
def F_can_be_carried : WF := wDef 2 2 true (wRet (wAnd (wBin dNotIn (wBin ixD (wVar 1) (wC (.int 2))) (wBin ixD (wVar 0) (wC (.int 4)))) (wNot (wFn F_is_parted (wCons (wVar 0) (wCons (wVar 1) wNil))))))
def F_first_carried : WF := wDef 3 1 true (wSeq (wFor (wiEnumT (wCons (wBin ixD (wVar 0) (wC (.int 6))) wNil)) (.tp [(.nm 1), (.nm 2)]) (wIfS (wTT (wFn F_can_be_carried (wCons (wVar 0) (wCons (wVar 2) wNil)))) (wRet (wVar 1)) wSkip) [1, 2]) (wRet (wC .non)))
def F_quiet_round : WF := wDef 2 1 true (wSeq (wSet 1 (wFn F_first_carried (wCons (wVar 0) wNil))) (wSeq (wWhile (wTB (wBin dIsNot (wVar 1) (wC .non))) (wSeq (wSet 0 (wFn F_done (wCons (wVar 0) (wCons (wTup (wCons (wC (.str "carry")) (wCons (wVar 1) wNil))) wNil)))) (wSet 1 (wFn F_first_carried (wCons (wVar 0) wNil)))) []) (wRet (wFn F_done (wCons (wVar 0) (wCons (wTup (wCons (wC (.str "round")) wNil)) wNil))))))
def F_quiet_rounds : WF := wDef 3 2 true (wSeq (wFor (wiRange (wCons (wVar 1) wNil)) (.nm 2) (wSet 0 (wFn F_quiet_round (wCons (wVar 0) wNil))) [2]) (wRet (wVar 0)))
def F__law_quiet : WF := wDef 4 1 true (wSeq (wSet 1 (wC (.bl true))) (wSeq (wWhile (wTT (wVar 1)) (wSeq (wSet 1 (wC (.bl false))) (wFor (wiEnumT (wCons (wBin ixD (wVar 0) (wC (.int 6))) wNil)) (.tp [(.nm 2), (.nm 3)]) (wIfS (wTAnd (wTNot (wTT (wVar 1))) (wTAnd (wTB (wBin dNotIn (wBin ixD (wVar 3) (wC (.int 2))) (wBin ixD (wVar 0) (wC (.int 4))))) (wTB (wBin dEq (wBin dIn (wBin ixD (wVar 3) (wC (.int 1))) (wBin ixD (wVar 0) (wC (.int 5)))) (wBin dIn (wBin ixD (wVar 3) (wC (.int 2))) (wBin ixD (wVar 0) (wC (.int 5)))))))) (wSeq (wSet 0 (wFn F_done (wCons (wVar 0) (wCons (wTup (wCons (wC (.str "carry")) (wCons (wVar 2) wNil))) wNil)))) (wSet 1 (wC (.bl true)))) wSkip) [2, 3])) [2, 3]) (wRet (wFn F_done (wCons (wVar 0) (wCons (wTup (wCons (wC (.str "round")) wNil)) wNil))))))
theorem wWhile_inv {c : WT} {body : WS} {vs : List Nat} {E : WEnds} {e : DL.Env} {st : Sto} (W : Nat → DL.Env → Sto → Prop) (m0 : Nat) (h0 : W m0 (fgt vs e) st)
    (h1 : ∀ (m : Nat) e st (N : DL.Env → Sto → Prop), W m e st → (∀ m' e2 st2, m' < m → W m' e2 st2 → N e2 st2) → c e st E.ex fun b st1 => if b = true then body { E with nx := fun e2 st2 => N (fgt vs e2) st2, ct := fun e2 st2 => N (fgt vs e2) st2, bk := E.nx } e st1 else E.nx e st1) : wWhile c body vs E e st :=
  ⟨W, ⟨m0, h0⟩, fun m e st hw => h1 m e st (fun e2 st2 => ∃ m', m' < m ∧ W m' e2 st2) hw fun m' _ _ l w => ⟨m', l, w⟩⟩
section
variable {st : Sto} {X : PoX} {Q : PoE} {w : Wo} {n : Nat}
theorem ap_can_be_carried {l : Le} (hq : Q (.bl (canCarry w l)) st) : F_can_be_carried [w.d, l.d] st X Q := by
  unfold canCarry at hq
  simp only [F_can_be_carried, wDef_ap]
  refine ⟨rfl, ?_⟩
  simp [ixD_Le2]
  by_cases h : l.to ∈ w.down
  · rw [if_pos h]
    simpa [h] using hq
  · rw [if_neg h]
    refine ap_is_parted ?_
    simpa [h] using hq
def firstD : Option Nat → D
  | none => .non
  | some k => .int k
theorem ap_first_carried (hq : Q (firstD (firstC w)) st) : F_first_carried [w.d] st X Q := by
  simp only [F_first_carried, wDef_ap]
  refine ⟨rfl, ?_⟩
  rw [wSeq_ap]
  simp [-wSeq_ap]
  rw [enumL_map]
  refine wForL_typed (enc := fun p : Le × Nat => .tup [.int (p.2 : Nat), p.1.d]) (fun rest e' st' => st = st' ∧ ∃ (done tl : List Le), w.yard = done ++ tl ∧ rest = tl.zipIdx done.length ∧ (∀ z ∈ done, canCarry w z = false) ∧ e' = [some w.d, none, none]) (fun _ _ _ _ => trivial) ?_ ?_ _ _ _
    ⟨rfl, [], w.yard, rfl, rfl, fun _ h => (by cases h), rfl⟩
  · rintro e' st' ⟨rfl, done, tl, h1, h2, h3, rfl⟩
    have ht : tl = [] := by
      cases tl with
      | nil => rfl
      | cons a r => cases h2
    subst ht
    rw [List.append_nil] at h1
    simp
    have : firstC w = none := firstFrom_all (by rw [h1]; exact h3)
    rw [this] at hq
    exact hq
  · rintro ⟨l, k⟩ rest e' st' N ⟨rfl, done, tl, h1, h2, h3, rfl⟩ hN
    cases tl with
    | nil => cases h2
    | cons a r =>
      rw [List.zipIdx_cons] at h2
      injection h2 with e1 e2
      cases e1
      simp
      refine ap_can_be_carried ?_
      cases hc : canCarry w l with
      | true =>
        have : firstC w = some done.length := by
          unfold firstC
          rw [h1, firstFrom_at h3 hc]
          simp
        rw [this] at hq
        simp
        exact hq
      | false =>
        simp
        refine hN _ _ ⟨rfl, done ++ [l], r, by simp [h1], by rw [e2]; simp, ?_, rfl⟩
        intro z hz
        rcases List.mem_append.mp hz with hz | hz
        · exact h3 z hz
        · rw [List.mem_singleton.mp hz]; exact hc
theorem carry_d {k : Nat} : (De.carry k).d = .tup [.str "carry", .int k] := rfl
theorem ap_quiet_round {r : Wo} (ok : WOk n w) (hn : n + meas w ≤ 1290) (hQ : Quiet w r) (hq : Q (behindW r .round).d st) : F_quiet_round [w.d] st X Q := by
  simp only [F_quiet_round, wDef_ap]
  refine ⟨rfl, ?_⟩
  rw [wSeq_ap]
  simp [-wSeq_ap]
  refine ap_first_carried ?_
  rw [wSeq_ap]
  refine wWhile_inv (fun m e' st' => st = st' ∧ ∃ (w' : Wo) (n' : Nat), m = meas w' ∧ WOk n' w' ∧ n' + meas w' ≤ n + meas w ∧ Quiet w' r ∧ e' = [some w'.d, some (firstD (firstC w'))]) (meas w) ⟨rfl, w, n, rfl, ok, Nat.le_refl _, hQ, rfl⟩ ?_
  rintro m e' st' N ⟨rfl, w', n', rfl, ok', hn', hQ', rfl⟩ hN
  cases hc : firstC w' with
  | none =>
    have := quiet_end hQ' hc
    subst this
    simp [firstD]
    exact ap_done (e := .round) ok' (by omega) trivial (fun y hy => by cases hy) (fun _ => by rw [Sto.keepOnly_self]; exact hq)
  | some j =>
    obtain ⟨a, y, b, e1, e2, e3, e4⟩ := firstC_some hc
    obtain ⟨r1, r2⟩ := canCarry_ref e1 e2 e3
    simp [firstD, -wSeq_ap]
    rw [wSeq_ap]
    simp [-wSeq_ap]
    rw [← carry_d]
    refine ap_done ok' (by omega) (by show (0 : Int) ≤ j; omega) (fun y hy => by rw [r1] at hy; cases hy) (fun _ => ?_)
    refine ap_first_carried ?_
    have hl := meas_less ok' hc
    exact hN (meas (carriedW w' j)) _ _ hl ⟨rfl, carriedW w' j, n' + 1, rfl, quiet_ok ok' hc, by omega, quiet_step hQ' hc, rfl⟩
theorem quietN_stop {r : Wo} (h : firstC r = none) : ∀ f, quietN f r = r
  | 0 => rfl
  | f + 1 => by unfold quietN; rw [h]
theorem quietN_det : ∀ {f f' : Nat} {w r r' : Wo}, quietN f w = r → firstC r = none → quietN f' w = r' → firstC r' = none → r = r'
  | 0, f', w, r, r', h1, h2, h3, h4 => by
    have e : w = r := h1
    subst e
    rw [quietN_stop h2] at h3
    exact h3
  | f + 1, 0, w, r, r', h1, h2, h3, h4 => by
    have e : w = r' := h3
    subst e
    rw [quietN_stop h4] at h1
    exact h1.symm
  | f + 1, f' + 1, w, r, r', h1, h2, h3, h4 => by
    unfold quietN at h1 h3
    cases hc : firstC w with
    | none => rw [hc] at h1 h3; exact h1.symm.trans h3
    | some k =>
      rw [hc] at h1 h3
      exact quietN_det h1 h2 h3 h4
/-- quiet rounds, one behind the other -/
def QuietR : Nat → Wo → Wo → Prop
  | 0, w, v => v = w
  | j + 1, w, v => ∃ r, Quiet w r ∧ QuietR j (behindW r .round) v
theorem meas_round {r : Wo} (h : meas r = 0) : meas (behindW r .round) = 0 := h
theorem quietR_ex : ∀ (j : Nat) {w : Wo} {n : Nat}, WOk n w → ∃ v, QuietR j w v ∧ WOk (n + meas w + j) v ∧ v.m = w.m ∧ v.term = w.term ∧ v.now = w.now + j ∧ v.down = w.down ∧ v.side = w.side ∧ (j ≠ 0 → meas v = 0)
  | 0, w, n, ok => by
    refine ⟨w, rfl, ?_, rfl, rfl, by simp, rfl, rfl, fun h => absurd rfl h⟩
    rw [Nat.add_zero]
    generalize meas w = d
    induction d with
    | zero => exact ok
    | succ d ih => exact ih.mono
  | j + 1, w, n, ok => by
    obtain ⟨r, hq, okr, h1, h2, h3, h4, h5, h6, _⟩ := quiet_ex (meas w) ok (Nat.le_refl _)
    have okb := behind_ok (e := .round) okr trivial rfl
    have hz : meas (behindW r .round) = 0 := meas_round h6
    obtain ⟨v, hv, okv, g1, g2, g3, g4, g5, g6⟩ := quietR_ex j okb
    refine ⟨v, ⟨r, hq, hv⟩, ?_, by rw [g1]; exact h1, by rw [g2]; exact h2, ?_, by rw [g4]; exact h4, by rw [g5]; exact h5, fun _ => ?_⟩
    · rw [hz] at okv
      rw [show n + meas w + (j + 1) = n + meas w + 1 + 0 + j by omega]
      exact okv
    · rw [g3]
      show r.now + 1 + (j : Int) = _
      rw [h3]
      omega
    · by_cases hj : j = 0
      · subst hj
        have : v = behindW r .round := hv
        rw [this]
        exact hz
      · exact g6 hj
theorem ap_quiet_rounds {v : Wo} {j : Nat} (ok : WOk n w) (hn : n + meas w + j ≤ 1285) (hj : j ≤ 1000) (hv : QuietR j w v) (hq : Q v.d st) : F_quiet_rounds [w.d, .int j] st X Q := by
  simp only [F_quiet_rounds, wDef_ap]
  refine ⟨rfl, ?_⟩
  rw [wSeq_ap]
  simp [-wSeq_ap]
  rw [rangeOf_1 (by omega) (by omega), on_some, rangeL_map]
  have hrl : (rangeI 0 (j : Int)).length = j := by rw [rangeI_len]; simp
  refine wForL_typed (enc := D.int) (fun rest e' st' => st = st' ∧ ∃ (w' : Wo) (n' : Nat), WOk n' w' ∧ n' + meas w' + rest.length ≤ n + meas w + j ∧ QuietR rest.length w' v ∧ e' = [some w'.d, some (.int j), none]) (fun _ _ _ _ => trivial) ?_ ?_ _ _ _ ⟨rfl, w, n, ok, by rw [hrl]; omega, by rw [hrl]; exact hv, rfl⟩
  · rintro e' st' ⟨rfl, w', n', ok', hn', hv', rfl⟩
    have : v = w' := hv'
    subst this
    simp
    exact hq
  · rintro y rest e' st' N ⟨rfl, w', n', ok', hn', hv', rfl⟩ hN
    rw [List.length_cons] at hn' hv'
    obtain ⟨r, hr, hv2⟩ := hv'
    simp
    refine ap_quiet_round ok' (by omega) hr ?_
    obtain ⟨r', hr', okr, h1, h2, h3, h4, h5, h6, _⟩ := quiet_ex (meas w') ok' (Nat.le_refl _)
    have e : r' = r := by
      obtain ⟨f, q1, q2⟩ := hr
      obtain ⟨f', q3, q4⟩ := hr'
      exact quietN_det q3 q4 q1 q2
    subst e
    have hz : meas (behindW r' .round) = 0 := meas_round h6
    exact hN _ _ ⟨rfl, behindW r' .round, n' + meas w' + 1, behind_ok okr trivial rfl, by omega, hv2, rfl⟩
end
end DL
/-! SH25: the law's own quiet round. -/
namespace DL
open PySem PySem.Spec PyProof.Rows L2
section
variable {st : Sto} {X : PoX} {Q : PoE} {w : Wo} {n : Nat}
theorem dEq_bl {a b : Bool} : dEq st (.bl a) (.bl b) = some (.bl (a == b)) := by
  unfold dEq
  rw [eqB_bl]; rfl
/-- the law's own quiet round -/
theorem ap_law_quiet {r : Wo} (ok : WOk n w) (hn : n + meas w ≤ 1290) (hQ : Quiet w r) (hq : Q (behindW r .round).d st) : F__law_quiet [w.d] st X Q := by
  simp only [F__law_quiet, wDef_ap]
  refine ⟨rfl, ?_⟩
  rw [wSeq_ap]
  simp [-wSeq_ap]
  rw [wSeq_ap]
  refine wWhile_inv (fun m e' st' => st = st' ∧ ∃ (w' : Wo) (n' : Nat) (more : Bool), m = 2 * meas w' + (if more then 1 else 0) ∧ WOk n' w' ∧ n' + meas w' ≤ n + meas w ∧ Quiet w' r ∧ (more = false → firstC w' = none) ∧ e' = [some w'.d, some (.bl more), none, none]) (2 * meas w + 1) ⟨rfl, w, n, true, rfl, ok, Nat.le_refl _, hQ, fun h => (by cases h), rfl⟩ ?_
  rintro m e' st' N ⟨rfl, w', n', more, rfl, ok', hn', hQ', hmore, rfl⟩ hN
  cases more with
  | false =>
    have := quiet_end hQ' (hmore rfl)
    subst this
    simp
    exact ap_done (e := .round) ok' (by omega) trivial (fun y hy => by cases hy) (fun _ => by rw [Sto.keepOnly_self]; exact hq)
  | true =>
    simp [-wSeq_ap]
    rw [wSeq_ap]
    simp [-wSeq_ap]
    rw [enumL_map]
    refine wForL_typed (enc := fun p : Le × Nat => .tup [.int (p.2 : Nat), p.1.d]) (fun rest e' st' => st = st' ∧ ((∃ (done tl : List Le), w'.yard = done ++ tl ∧ rest = tl.zipIdx done.length ∧ (∀ z ∈ done, canCarry w' z = false) ∧ e' = [some w'.d, some (.bl false), none, none]) ∨
      (∃ j, firstC w' = some j ∧ e' = [some (carriedW w' j).d, some (.bl true), none, none]))) (fun _ _ _ _ => trivial) ?_ ?_ _ _ _ ⟨rfl, .inl ⟨[], w'.yard, rfl, rfl, fun _ h => (by cases h), rfl⟩⟩
    · rintro e' st' ⟨rfl, h⟩
      rcases h with ⟨done, tl, h1, h2, h3, rfl⟩ | ⟨j, hj, rfl⟩
      · have ht : tl = [] := by
          cases tl with
          | nil => rfl
          | cons a r => cases h2
        subst ht
        rw [List.append_nil] at h1
        have hc : firstC w' = none := firstFrom_all (by rw [h1]; exact h3)
        exact hN (2 * meas w') _ _ (by simp) ⟨rfl, w', n', false, rfl, ok', hn', hQ', fun _ => hc, rfl⟩
      · have hl := meas_less ok' hj
        exact hN (2 * meas (carriedW w' j) + 1) _ _ (by simp; omega) ⟨rfl, carriedW w' j, n' + 1, true, rfl, quiet_ok ok' hj, by omega, quiet_step hQ' hj, fun h => (by cases h), rfl⟩
    · rintro ⟨l, k⟩ rest e' st' M ⟨rfl, h⟩ hM
      rcases h with ⟨done, tl, h1, h2, h3, rfl⟩ | ⟨j, hj, rfl⟩
      · cases tl with
        | nil => cases h2
        | cons a r =>
          rw [List.zipIdx_cons] at h2
          injection h2 with e1 e2
          cases e1
          simp [ixD_Le1, ixD_Le2, -wSeq_ap]
          have skip : canCarry w' l = false → M [some w'.d, some (.bl false), none, none] st := fun hc => hM _ _ ⟨rfl, .inl ⟨done ++ [l], r, by simp [h1], by rw [e2]; simp, fun z hz => (List.mem_append.mp hz).elim (h3 z) fun hz => by rw [List.mem_singleton.mp hz]; exact hc, rfl⟩⟩
          by_cases hd : l.to ∈ w'.down
          · rw [if_pos hd]
            exact skip (by unfold canCarry; simp [hd])
          rw [if_neg hd, dEq_bl]
          simp only [on_some, bOf_bl]
          by_cases hp : (decide (l.fr ∈ w'.side) == decide (l.to ∈ w'.side)) = true
          · rw [if_pos hp]
            have hc : canCarry w' l = true := by
              unfold canCarry partedW
              rw [beq_iff_eq] at hp
              simp [hd, hp]
            have hf : firstC w' = some done.length := by
              unfold firstC
              rw [h1, firstFrom_at h3 hc]
              simp
            obtain ⟨r1, r2⟩ := canCarry_ref h1 rfl hc
            rw [wSeq_ap]
            simp [-wSeq_ap]
            rw [← carry_d]
            refine ap_done ok' (by omega) (by show (0 : Int) ≤ done.length; omega) (fun y hy => by rw [r1] at hy; cases hy) (fun _ => ?_)
            exact hM _ _ ⟨rfl, .inr ⟨done.length, hf, rfl⟩⟩
          · rw [if_neg hp]
            refine skip ?_
            unfold canCarry partedW
            cases ha : decide (l.fr ∈ w'.side) <;> cases hb : decide (l.to ∈ w'.side) <;> rw [ha, hb] at hp <;> simp at hp ⊢
      · simp
        exact hM _ _ ⟨rfl, .inr ⟨j, hj, rfl⟩⟩
end
end DL
/-! SH26: worlds, letters as plain data. -/
namespace DL
open PySem PySem.Spec PyProof.Rows L2
theorem Nt.pl_d {z : Nt} {n : Nat} : pl (n + 1) z.d = true := by simp [Nt.d]
theorem Le.pl_d {l : Le} {n : Nat} : pl (n + 1) l.d = true := by cases l <;> simp [Le.d]
theorem pl_log {es : List En} {n : Nat} : pl (n + 2) (logD es) = true := by
  unfold logD
  simp
  exact plL_map fun _ _ => En.pl_d
theorem pl_nts {l : List Nt} {n : Nat} : pl (n + 2) (ntsD l) = true := by
  unfold ntsD
  simp
  exact plL_map fun _ _ => Nt.pl_d
theorem pl_W {w : Wo} : pl 64 w.d = true := by
  unfold Wo.d
  have h1 : plL 62 (w.logs.map logD) = true := plL_map fun _ _ => pl_log
  have h2 : plL 62 (w.nts.map ntsD) = true := plL_map fun _ _ => pl_nts
  have h3 : plL 62 (w.yard.map Le.d) = true := plL_map fun _ _ => Le.pl_d
  simp [h1, h2, h3]
theorem rd_W {st : Sto} {w : Wo} : rd st w.d = w.d := rfl
def Le.ats : Le → List At
  | .ask s t n k p u => [.s (Str.ofString "ask"), .i s, .i t, .s n, .i k, .s p, .i u]
  | .word s t n k u => [.s (Str.ofString "word"), .i s, .i t, .s n, .i k, .i u]
  | .no s t n k => [.s (Str.ofString "no"), .i s, .i t, .s n, .i k]
  | .back s t n k => [.s (Str.ofString "back"), .i s, .i t, .s n, .i k]
  | .told s t n k p u => [.s (Str.ofString "told"), .i s, .i t, .s n, .i k, .s p, .i u]
theorem Le.d_t (l : Le) : l.d = At.t l.ats := by cases l <;> rfl
theorem Le.ats_inj {a b : Le} (h : a.ats = b.ats) : a = b := by
  cases a <;> cases b <;> simp [Le.ats, ofString_inj] at h ⊢ <;> exact h
theorem mem_lats {l : Le} {ls : List Le} : l.ats ∈ ls.map Le.ats ↔ l ∈ ls := by
  rw [List.mem_map]
  exact ⟨fun ⟨x, hx, he⟩ => Le.ats_inj he ▸ hx, fun h => ⟨l, h, rfl⟩⟩
theorem anyEq_Le {st : Sto} {l : Le} {ls : List Le} : anyEq st (ls.map Le.d) l.d = some (decide (l ∈ ls)) := by
  have e : ls.map Le.d = (ls.map Le.ats).map At.t := by
    rw [List.map_map]
    exact List.map_congr_left fun l _ => l.d_t
  rw [e, l.d_t, anyEq_t]
  congr 1
  exact decide_eq_decide.mpr mem_lats
theorem dIn_Le {st : Sto} {l : Le} {y : D} {ls : List Le} (hy : sqOf st y = some (ls.map Le.d)) (hs : ∀ x, y ≠ .str x) : dIn st l.d y = some (.bl (decide (l ∈ ls))) := by
  have e : inB st l.d y = anyEq st (ls.map Le.d) l.d := by
    unfold inB
    split
    · rename_i x
      exact absurd rfl (hs x)
    · rw [hy]
  unfold dIn
  rw [e, anyEq_Le]; rfl
end DL
/-! SH27: names and houses of any thing; sure claims. -/
namespace DL
open PySem PySem.Spec PyProof.Rows L2
section
variable {st : Sto} {X : PoX} {Q : PoE}
def nmB : D → Bool
  | .str x => nameOk x
  | _ => false
def isS : D → Bool
  | .str _ => true
  | _ => false
theorem ty_isS {d : D} {t : String} (h : tyNm st d = some t) : decide (t = "str") = isS d := by
  cases d with
  | ref a =>
    unfold tyNm at h
    simp only at h
    split at h <;> cases h <;> rfl
  | non => cases h; rfl
  | bl b => cases h; rfl
  | int i => cases h; rfl
  | str x => cases h; rfl
  | tup ds => cases h; rfl
  | kt ds => cases h; rfl
  | lst ds => cases h; rfl
  | kl ds => cases h; rfl
  | ty n => cases h
  | exc x => cases h
  | cls x => cases h
theorem letters_of : ∀ c ∈ (Str.ofString "abcdefghijklmnopqrstuvwxyz").cps.toList, 97 ≤ c ∧ c ≤ 122 := by decide +kernel
theorem ap_is_nameD {d : D} (hk : Kn st d) (hz : ∀ x, d = .str x → x.length ≤ 10000) (hq : Q (.bl (nmB d)) st) : F_is_name [d] st X Q := by
  obtain ⟨t, ht⟩ := hk
  have e := ty_isS ht
  simp only [F_is_name, wDef_ap]
  refine ⟨rfl, ?_⟩
  rw [wSeq_ap]
  simp [-wSeq_ap, ht]
  by_cases hs : isS d = true
  · cases d with
    | str x =>
      have hz := hz x rfl
      have h4 : x.length ≤ sizeLine := by rw [sizeLine_eq]; omega
      cases ht
      simp [-wSeq_ap]
      rw [cLen_str h4]
      simp [-wSeq_ap]
      have hq : Q (.bl (nameOk x)) st := hq
      unfold nameOk at hq
      by_cases h1 : (1 : Int) ≤ x.length
      · rw [if_pos h1]
        by_cases h2 : (x.length : Int) ≤ 8
        · rw [if_pos h2, if_pos h4, on_some]
          have h1' : 1 ≤ x.length := by omega
          have h2' : x.length ≤ 8 := by omega
          refine compL_imp (enc := fun c => D.str ⟨#[c]⟩) (fun c => [some (.str x), some (D.str ⟨#[c]⟩)]) (fun c => !decide (c ∈ (Str.ofString "abcdefghijklmnopqrstuvwxyz").cps.toList)) (fun c => D.str ⟨#[c]⟩) ?_ ?_ ?_ trivial ?_
          · simp
          · intro c hc Q hq
            have h8 : dNotIn st (.str ⟨#[c]⟩) (.str (Str.ofString "abcdefghijklmnopqrstuvwxyz")) = some (.bl (!decide (c ∈ (Str.ofString "abcdefghijklmnopqrstuvwxyz").cps.toList))) := rfl
            simp [h8]
            simpa using hq
          · intro c hc _ Q hq
            simpa using hq
          · rw [List.nil_append, dEq_lnil (plL_map fun _ _ => pl_str), on_some]
            have e9 : ((x.cps.toList.filter fun c => !decide (c ∈ (Str.ofString "abcdefghijklmnopqrstuvwxyz").cps.toList)).map fun c => D.str ⟨#[c]⟩).isEmpty = x.cps.toList.all fun c => decide (97 ≤ c) && decide (c ≤ 122) := by
              rw [Bool.eq_iff_iff, List.isEmpty_iff, List.map_eq_nil_iff, List.filter_eq_nil_iff, List.all_eq_true]
              refine forall_congr' fun c => imp_congr_right fun hc => ?_
              simp only [Bool.not_eq_true', decide_eq_false_iff_not, Decidable.not_not, Bool.and_eq_true, decide_eq_true_iff]
              exact ⟨letters_of c, fun h => letters_mem h.1 h.2⟩
            rw [e9, Sto.keepOnly_self]
            simpa [h1', h2'] using hq
        · rw [if_neg h2]
          have : decide (x.length ≤ 8) = false := decide_eq_false (by omega)
          rw [this] at hq
          simpa using hq
      · rw [if_neg h1]
        have : decide (1 ≤ x.length) = false := decide_eq_false (by omega)
        rw [this] at hq
        simpa using hq
    | _ => cases hs
  · have hne : ¬ t = "str" := fun z => hs (by rw [← e]; exact decide_eq_true z)
    rw [if_neg hne]
    have : nmB d = false := by
      cases d <;> first | rfl | exact absurd rfl hs
    rw [this] at hq
    simpa using hq
def hsB (m : Int) : D → Bool
  | .int h => decide (0 ≤ h) && decide (h < m)
  | _ => false
theorem ap_is_houseD {d : D} {m : Int} (hk : Kn st d) (hq : Q (.bl (hsB m d)) st) : F_is_house [.int m, d] st X Q := by
  simp only [F_is_house, wDef_ap]
  refine ⟨rfl, ?_⟩
  simp
  refine ap_is_wholeD hk ?_
  cases d with
  | int h =>
    simp [isI]
    have hq : Q (.bl (decide (0 ≤ h) && decide (h < m))) st := hq
    by_cases h0 : 0 ≤ h
    · rw [if_pos h0]
      simpa [h0] using hq
    · rw [if_neg h0]
      simpa [h0] using hq
  | _ => simpa [isI, hsB] using hq
end
end DL
/-! SH28: sure claims. -/
namespace DL
open PySem PySem.Spec PyProof.Rows L2
section
variable {w : Wo} {n : Nat} {h k u : Int} {x p : Str} {es fs : List En}
/-- no asking of a world reaches above a round -/
def AskTo (T : Int) (w : Wo) : Prop := ∀ es ∈ w.logs, ∀ e ∈ es, e.kind = "ask" → e.i4 ≤ T
theorem taken_noask {m now : Int} {l : Le} : ∀ e ∈ (taken m h es l now).es, e.kind ≠ "ask" := by
  cases l with
  | ask s t n k p u =>
    unfold taken askTaken
    dsimp only
    split
    · intro e he; cases he
    · split
      · intro e he; rw [List.mem_singleton.mp he]; simp [En.kind]
      · split
        · intro e he; cases he
        · split <;> (intro e he; cases he)
  | word s t n k u =>
    unfold taken wordTaken
    dsimp only
    split
    · intro e he; cases he
    · split
      · intro e he; cases he
      · split
        · intro e he; cases he
        · intro e he; rw [List.mem_singleton.mp he]; simp [En.kind]
  | no s t n k =>
    unfold taken noTaken
    dsimp only
    split
    · intro e he; cases he
    · split
      · intro e he; cases he
      · intro e he; rw [List.mem_singleton.mp he]; simp [En.kind]
  | back s t n k =>
    unfold taken backTaken
    dsimp only
    split
    · intro e he; cases he
    · split
      · intro e he; rw [List.mem_singleton.mp he]; simp [En.kind]
      · intro e he; cases he
  | told s t n k p u => intro e he; cases he
theorem askTo_carried {T : Int} (ha : AskTo T w) {j : Nat} : AskTo T (carriedW w j) := by
  unfold carriedW
  split
  · exact ha
  · rename_i l hl
    intro es hes
    have hes : es ∈ w.logs.set l.to.toNat (w.log l.to ++ (taken w.m l.to (w.log l.to) l w.now).es) := hes
    rcases List.mem_or_eq_of_mem_set hes with hm | rfl
    · exact ha es hm
    · intro e he hk
      rcases List.mem_append.mp he with he | he
      · unfold Wo.log at he
        cases hg : w.logs[l.to.toNat]? with
        | none => rw [hg] at he; cases he
        | some z =>
          rw [hg] at he
          exact ha z (List.mem_of_getElem? hg) e he hk
      · exact absurd hk (taken_noask e he)
theorem askTo_quietN {T : Int} : ∀ {f : Nat} {w : Wo}, AskTo T w → AskTo T (quietN f w)
  | 0, w, ha => ha
  | f + 1, w, ha => by
    unfold quietN
    split
    · exact ha
    · exact askTo_quietN (askTo_carried ha)
theorem askTo_quiet {T : Int} {r : Wo} (ha : AskTo T w) (h : Quiet w r) : AskTo T r := by
  obtain ⟨f, rfl, _⟩ := h
  exact askTo_quietN ha
theorem askTo_quietR {T : Int} : ∀ {j : Nat} {w v : Wo}, AskTo T w → QuietR j w v → AskTo T v
  | 0, w, v, ha, h => by
    have e : v = w := h
    rw [e]; exact ha
  | j + 1, w, v, ha, h => by
    obtain ⟨r, h1, h2⟩ := h
    have h3 : AskTo T r := askTo_quiet ha h1
    exact askTo_quietR (w := behindW r .round) h3 h2
theorem maxL_le {l : List Int} {a v : Int} (h0 : a ≤ v) (h : ∀ y ∈ l, y ≤ v) : maxL a l ≤ v := by
  rcases maxL_mem l a with e | e
  · rw [e]; exact h0
  · exact h _ e
theorem stands_late {T : Int} (ha : AskTo T w) (h0 : houseOk w.m h) (hT : 0 ≤ T) (hn : T ≤ w.now) : standsW w h x = false := by
  unfold standsW
  split
  · rfl
  · rename_i c hc
    refine decide_eq_false ?_
    have : c.til ≤ T := by
      unfold claimOf at hc
      simp only at hc
      split at hc
      · cases hc
      · injection hc with hc
        subst hc
        refine maxL_le hT ?_
        intro y hy
        obtain ⟨e, he, rfl⟩ := List.mem_map.mp hy
        obtain ⟨h1, h2, h3⟩ := ents_kind (List.mem_filter.mp he).1
        exact ha _ (log_at h0).2 e h1 h2
    omega
theorem ents_app {kind : String} : entsOf (es ++ fs) kind x = entsOf es kind x ++ entsOf fs kind x := by
  unfold entsOf
  rw [List.filter_append]
theorem ents_noask (hn : ∀ e ∈ fs, e.kind ≠ "ask") : entsOf fs "ask" x = [] := by
  refine List.filter_eq_nil_iff.mpr fun e he => ?_
  have := hn e he
  simp [this]
/-- the claim that an asking makes -/
theorem claim_made (hk : 1 ≤ k) (hg : greatest es x ≤ k) (hb : En.back x k ∉ es) (hf : ∀ e ∈ fs, e.kind ≠ "ask" ∧ ∀ y j, e ≠ .back y j) :
    ∃ c, claimOf ((es ++ [.ask x k p u]) ++ fs) x = some c ∧ c.num = k ∧ c.per = p := by
  have hna : entsOf fs "ask" x = [] := ents_noask fun e he => (hf e he).1
  have e1 := (claimOf_asked (es := es) (p := p) (u := u) hk hg hb).1
  have e2 : greatest ((es ++ [.ask x k p u]) ++ fs) x = k := by
    refine Eq.trans ?_ e1
    unfold greatest askedNums
    rw [ents_app, hna, List.append_nil]
  have key : ¬ (k = 0 ∨ En.back x k ∈ (es ++ [En.ask x k p u]) ++ fs) := by
    rintro (h1 | h1)
    · omega
    · rcases List.mem_append.mp h1 with h1 | h1
      · rcases List.mem_append.mp h1 with h1 | h1
        · exact hb h1
        · simp at h1
      · exact (hf _ h1).2 x k rfl
  cases hc : claimOf ((es ++ [En.ask x k p u]) ++ fs) x with
  | none =>
    unfold claimOf at hc
    simp only [e2] at hc
    rw [if_neg key] at hc
    cases hc
  | some c =>
    unfold claimOf at hc
    simp only [e2] at hc
    rw [if_neg key] at hc
    injection hc with hc
    subst hc
    refine ⟨_, rfl, rfl, ?_⟩
    show ((((ats ((es ++ [En.ask x k p u]) ++ fs) "ask" x k).getLast?).map En.per).getD "") = p
    have e3 : ats ((es ++ [En.ask x k p u]) ++ fs) "ask" x k = ats es "ask" x k ++ [En.ask x k p u] := by
      have : ats ((es ++ [En.ask x k p u]) ++ fs) "ask" x k = ats (es ++ [En.ask x k p u]) "ask" x k := by
        unfold ats
        rw [ents_app, hna, List.append_nil]
      rw [this, ats_snoc, if_pos ⟨rfl, rfl, rfl⟩]
    rw [e3]
    simp [En.per]
theorem ownWord_no {now : Int} : ∀ e ∈ ownWord es h x k u now, e.kind ≠ "ask" ∧ ∀ y j, e ≠ .back y j := by
  unfold ownWord
  split
  · intro e he
    simp at he
    rcases he with rfl | rfl <;> exact ⟨by simp [En.kind], fun _ _ z => by cases z⟩
  · split
    · split
      · intro e he; cases he
      · intro e he
        rw [List.mem_singleton.mp he]
        exact ⟨by simp [En.kind], fun _ _ z => by cases z⟩
    · intro e he; cases he
theorem asked_log (ok : WOk n w) (h0 : houseOk w.m h) : (askedW w h x k p).log h = (w.log h ++ [.ask x k p (w.now + w.term)]) ++ ownWord (w.log h ++ [.ask x k p (w.now + w.term)]) h x k (w.now + w.term) w.now := by
  have hl := (log_at h0).1
  unfold askedW movedW
  show ((w.logs.set h.toNat _)[h.toNat]?).getD [] = _
  rw [List.getElem?_set_self (by have := h0.1; have h2 := h0.2; unfold Wo.m at h2; omega)]
  simp
/-- all houses up, no parting -/
def risenW (w : Wo) : Wo := { w with side := [], down := [] }
end
end DL
/-! SH29: sure claims, by the program. -/
namespace DL
open PySem PySem.Spec PyProof.Rows L2
def F_claimed_surely : WF := wDef 6 4 true (wSeq (wIfS (wTOr (wTNot (wTT (wFn F_is_house (wCons (wCall cLen (wCons (wBin ixD (wVar 0) (wC (.int 2))) wNil)) (wCons (wVar 1) wNil))))) (wTOr (wTNot (wTT (wFn F_is_name (wCons (wVar 2) wNil)))) (wTNot (wTT (wFn F_is_name (wCons (wVar 3) wNil)))))) (wRaise "NoDeed") wSkip) (wSeq (wSet 4 (wFn F_done (wCons (wVar 0) (wCons (wTup (wCons (wC (.str "heal")) wNil)) wNil)))) (wSeq (wFor (wiSeq (wBin ixD (wVar 0) (wC (.int 4)))) (.nm 5) (wSet 4 (wFn F_done (wCons (wVar 4) (wCons (wTup (wCons (wC (.str "rise")) (wCons (wVar 5) wNil))) wNil)))) [5]) (wSeq (wSet 4 (wFn F_done (wCons (wFn F_quiet_rounds (wCons (wVar 4) (wCons (wBin ixD (wVar 0) (wC (.int 1))) wNil))) (wCons (wTup (wCons (wC (.str "claim")) (wCons (wVar 1) (wCons (wVar 2) (wCons (wVar 3) wNil))))) wNil)))) (wRet (wTup (wCons (wFn F_quiet_round (wCons (wVar 4) wNil)) (wCons (wBin ixD (wFn F_claim_in (wCons (wBin ixD (wBin ixD (wVar 4) (wC (.int 2))) (wVar 1)) (wCons (wVar 2) wNil))) (wC (.int 0))) wNil))))))))
section
variable {st : Sto} {X : PoX} {Q : PoE} {w : Wo} {n : Nat} {h : Int} {x p : Str}
theorem ap_surely_no {dh dn dp : D} (ok : WOk n w) (kh : Kn st dh) (kn : Kn st dn) (kp : Kn st dp) (zn : ∀ x, dn = .str x → x.length ≤ 10000) (zp : ∀ x, dp = .str x → x.length ≤ 10000)
    (hno : (hsB w.m dh && (nmB dn && nmB dp)) = false) (hx : X (Str.ofString "NoDeed") st) : F_claimed_surely [w.d, dh, dn, dp] st X Q := by
  simp only [F_claimed_surely, wDef_ap]
  refine ⟨rfl, ?_⟩
  rw [wSeq_ap]
  simp [-wSeq_ap]
  refine ap_is_houseD (m := w.logs.length) kh ?_
  have e : hsB w.logs.length dh = hsB w.m dh := rfl
  rw [e]
  cases h1 : hsB w.m dh with
  | false => simpa using hx
  | true =>
    rw [h1] at hno
    simp
    refine ap_is_nameD kn zn ?_
    cases h2 : nmB dn with
    | false => simpa using hx
    | true =>
      rw [h2] at hno
      simp
      refine ap_is_nameD kp zp ?_
      have h3 : nmB dp = false := by simpa using hno
      rw [h3]
      simpa using hx
/-- what a sure claim tells -/
structure Sure (w : Wo) (h : Int) (x p : Str) (r : Wo) (num : Int) : Prop where
  ex : ∃ v q, QuietR w.term.toNat (risenW w) v ∧ num = 1 + maxAsk (v.log h) ∧ Quiet (behindW v (.claim h x p)) q ∧ r = behindW q .round ∧ v.now = w.now + w.term ∧ v.down = [] ∧ v.side = [] ∧ v.term = w.term ∧ v.m = w.m
theorem risen_ok (ok : WOk n w) : WOk n (risenW w) :=
  { ok with down := fun h hh => (by cases hh), dlen := Nat.zero_le _, dsrt := List.Pairwise.nil }
theorem heal_d : De.heal.d = .tup [.str "heal"] := rfl
theorem rise_ref {o : Int} (h : o ∈ w.down) : refusal w (.rise o) = none := by
  unfold refusal
  have r1 : letRef w (.rise o) = none := rfl
  have r2 : upRef w (.rise o) = none := if_pos h
  have r3 : wayRef w (.rise o) = none := rfl
  have r4 : clRef w (.rise o) = none := rfl
  rw [r1, r2, r3, r4]; rfl
theorem claim_free (hd : h ∉ w.down) (hs : standsW w h x = false) : refusal w (.claim h x p) = none := by
  unfold refusal
  have r1 : letRef w (.claim h x p) = none := rfl
  have r2 : upRef w (.claim h x p) = none := if_neg hd
  have r3 : wayRef w (.claim h x p) = none := rfl
  have r4 : clRef w (.claim h x p) = none := by
    unfold clRef
    simp only [hs]
    rfl
  rw [r1, r2, r3, r4]; rfl
theorem rising_len : ∀ {l : List Int} {a m : Int}, l.Pairwise (· < ·) → (∀ y ∈ l, a ≤ y ∧ y < m) → a ≤ m → (l.length : Int) ≤ m - a
  | [], a, m, _, _, h => by simp; omega
  | y :: r, a, m, hp, hb, h => by
    rw [List.pairwise_cons] at hp
    have hy := hb y List.mem_cons_self
    have := rising_len (l := r) (a := y + 1) (m := m) hp.2 (fun z hz => by
      have := hp.1 z hz
      have := hb z (List.mem_cons_of_mem _ hz)
      omega) (by omega)
    rw [List.length_cons]
    omega
theorem meas_grow {w' : Wo} {ls : List Le} (h1 : w'.down = w.down) (h2 : w'.side = w.side) (h3 : w'.yard = w.yard ++ ls) : meas w' ≤ meas w + 8 * ls.length := by
  have cc : canCarry w' = canCarry w := by
    funext l
    unfold canCarry partedW
    rw [h1, h2]
  have f1 := wsum_filter (p := canCarry w) (a := ls)
  have f2 := wsum_le8 (a := ls)
  unfold meas
  rw [cc, h3, List.filter_append, wsum_app]
  omega
theorem claim_meas (m7 : w.m ≤ 7) : meas (behindW w (.claim h x p)) ≤ meas w + 112 := by
  have hya := behind_yard (w := w) (e := .claim h x p) m7
  obtain ⟨ls, hls⟩ : ∃ ls, (behindW w (.claim h x p)).yard = w.yard ++ ls := ⟨_, rfl⟩
  have := meas_grow (w := w) (w' := behindW w (.claim h x p)) (ls := ls) rfl rfl hls
  rw [hls, List.length_append] at hya
  omega
/-- the claim that stands behind a claim -/
theorem claim_num (ok : WOk n w) (h0 : houseOk w.m h) (hx : nameOk x = true) : ∃ c, claimOf ((behindW w (.claim h x p)).log h) x = some c ∧ c.num = 1 + maxAsk (w.log h) ∧ c.per = p := by
  have mn := maxAsk_nn (es := w.log h)
  have gm := greatest_le_max (es := w.log h) (x := x)
  show ∃ c, claimOf ((askedW w h x (1 + maxAsk (w.log h)) p).log h) x = some c ∧ _
  rw [asked_log ok h0]
  refine claim_made (by omega) (by omega) (fun hb => ?_) ownWord_no
  have := (ok.log h0).bk _ _ hb
  omega
theorem ap_claimed_surely (ok : WOk n w) (h0 : houseOk w.m h) (hx : nameOk x = true) (hp : nameOk p = true) (t9 : w.term ≤ 9) (hn : n + 8 * w.yard.length + 135 ≤ 1285)
    (hq : ∀ r num, Sure w h x p r num → 1 ≤ num → Q (.tup [r.d, .int num]) st) : F_claimed_surely [w.d, .int h, .str x, .str p] st X Q := by
  have m7 : (w.logs.length : Int) ≤ 7 := ok.m7
  have tm := ok.term
  have nw := ok.now
  simp only [F_claimed_surely, wDef_ap]
  refine ⟨rfl, ?_⟩
  rw [wSeq_ap]
  simp [-wSeq_ap]
  refine ap_is_house h0.1 h0.2 ?_
  simp [-wSeq_ap]
  refine ap_is_name hx ?_
  simp [-wSeq_ap]
  refine ap_is_name hp ?_
  simp [-wSeq_ap]
  rw [wSeq_ap]
  simp [-wSeq_ap]
  refine ap_done (e := .heal) ok (by omega) trivial (fun y hy => by cases hy) (fun _ => ?_)
  rw [wSeq_ap]
  simp [-wSeq_ap]
  refine wForL_typed (enc := D.int) (fun rest e' st' => st = st' ∧ ∃ (w' : Wo) (n' : Nat), WOk n' w' ∧ n' + rest.length = n + 1 + w.down.length ∧ w' = { w with side := [], down := rest } ∧ e' = [some w.d, some (.int h), some (.str x), some (.str p), some w'.d, none]) (fun _ _ _ _ => trivial) ?_ ?_ _ _ _
    ⟨rfl, behindW w .heal, n + 1, behind_ok ok trivial rfl, rfl, rfl, rfl⟩
  · rintro e' st' ⟨rfl, w', n', ok', hn', hw', rfl⟩
    have hw' : w' = risenW w := hw'
    subst hw'
    dsimp only
    rw [wSeq_ap]
    simp [-wSeq_ap]
    have hdl : w.down.length ≤ n := ok.dlen
    have hd7 : (w.down.length : Int) ≤ w.m - 0 := rising_len ok.dsrt ok.down (by have := ok.m1; omega)
    have hm7 := ok.m7
    have hyl : meas (risenW w) ≤ 8 * w.yard.length := meas_le _
    simp at hn'
    obtain ⟨v, hv, okv, vm, vt, vn, vd, vs, vz⟩ := quietR_ex w.term.toNat ok'
    have vz := vz (by omega)
    have et : ((w.term.toNat : Nat) : Int) = w.term := by omega
    rw [← et]
    refine ap_quiet_rounds ok' (by omega) (by omega) hv ?_
    have ha : AskTo (w.now + w.term) v := askTo_quietR (w := risenW w) (fun es hes e he _ => ok.til es hes e he) hv
    have vm' : v.m = w.m := vm
    have hv0 : houseOk v.m h := by rw [vm']; exact h0
    have vnow : v.now = w.now + w.term := by rw [vn, et]; rfl
    have hstand : standsW v h x = false := stands_late ha hv0 (by omega) (by omega)
    have hdown : v.down = [] := vd
    have rf : refusal v (.claim h x p) = none := claim_free (by rw [hdown]; simp) hstand
    have he : (De.claim h x p).ok v.m := ⟨hv0, hx, hp⟩
    refine ap_done (e := .claim h x p) okv (by omega) he (fun y hy => by rw [rf] at hy; cases hy) (fun _ => ?_)
    have okc := behind_ok okv he rf
    have hcm := claim_meas (w := v) (h := h) (x := x) (p := p) (by rw [vm']; exact hm7)
    obtain ⟨q, hQ, okq, -⟩ := quiet_ex (meas (behindW v (.claim h x p))) okc (Nat.le_refl _)
    obtain ⟨cl, hcl, hnum, -⟩ := claim_num (p := p) okv hv0 hx
    have mn := maxAsk_nn (es := v.log h)
    refine ap_quiet_round okc (by omega) hQ ?_
    simp
    rw [atI_log (w := behindW v (.claim h x p)) (by rw [behind_m]; exact hv0), on_some]
    have lo := okc.log (h := h) (by rw [behind_m]; exact hv0)
    refine ap_claim_in lo.ok (by have := lo.len; omega) ?_
    rw [hcl]
    simp [clD, Cl.d, hnum]
    exact hq _ _ ⟨v, q, hv, rfl, hQ, rfl, vnow, hdown, vs, vt, vm'⟩ (by omega)
  · rintro o rest e' st' N ⟨rfl, w', n', ok', hn', hw', rfl⟩ hN
    rw [List.length_cons] at hn'
    have hd7 : (w.down.length : Int) ≤ w.m - 0 := rising_len ok.dsrt ok.down (by have := ok.m1; omega)
    have hm7 := ok.m7
    simp
    have hmem : o ∈ w'.down := by rw [hw']; exact List.mem_cons_self
    have hm' : w'.m = w.m := by rw [hw']; rfl
    have ho : houseOk w'.m o := ok'.down o hmem
    have rf := rise_ref hmem
    refine ap_done (e := .rise o) ok' (by omega) ho (fun y hy => by rw [rf] at hy; cases hy) (fun _ => ?_)
    have eb : behindW w' (.rise o) = { w with side := [], down := rest } := by
      have hs := ok'.dsrt
      rw [hw'] at hs ⊢
      have hs : (o :: rest).Pairwise (· < ·) := hs
      rw [List.pairwise_cons] at hs
      show ({ w with side := [], down := (o :: rest).filter fun x => !decide (x = o) } : Wo) = _
      rw [List.filter_cons, if_neg (by simp), List.filter_eq_self.mpr (fun y hy => by
        have := hs.1 y hy
        simp; omega)]
    exact hN _ _ ⟨rfl, behindW w' (.rise o), n' + 1, behind_ok ok' ho rf, by omega, eb, rfl⟩
end
end DL
/-! ### the text's defs as functions of data -/
namespace Wk36
open PySem PySem.Spec PyProof.Rows L2 DL
section functions
def F__law_behind_o : WF := wDef 3 2 true (wSeq (wSet 2 (wC .non)) (wSeq (wTryN Y_all (wSet 2 (wFnT F_done (wCons (wVar 0) (wCons (wVar 1) wNil)))) [("HouseError", (wSet 2 (wC .non)))]) (wRet (wVar 2))))
def F__law_run_o : WF := wDef 7 4 true (wSeq (wSet 4 (wFn F_world_of (wCons (wVar 1) (wCons (wVar 2) wNil)))) (wSeq (wFor (wiRange (wCons (wVar 3) wNil)) (.nm 5) (wSeq (wSet 6 (wFn F__law_behind_o (wCons (wVar 4) (wCons (wFn F__law_deed (wCons (wVar 0) (wCons (wVar 4) wNil))) wNil)))) (wIfS (wTB (wBin dIsNot (wVar 6) (wC .non))) (wSet 4 (wVar 6)) wSkip)) [5, 6]) (wRet (wVar 4))))
def F__law_refused : WF := wDef 6 4 true (wSeq (wSet 4 (wC .non)) (wSeq (wTryAs Y_all "HouseError" 5 (wDrop (wFnT F_claimed_surely (wCons (wVar 0) (wCons (wVar 1) (wCons (wVar 2) (wCons (wVar 3) wNil)))))) (wSet 4 (wVar 5))) (wSeq (wIfS (wTT (wCall (cIsX Y_all) (wCons (wVar 4) (wCons (wTup (wCons (wC (.cls "Busy")) (wCons (wC (.cls "Down")) (wCons (wC (.cls "NoClaim")) (wCons (wC (.cls "NoLetter")) (wCons (wC (.cls "NoRow")) (wCons (wC (.cls "NoText")) (wCons (wC (.cls "TooMany")) (wCons (wC (.cls "Up")) wNil))))))))) wNil)))) (wRet (wC (.bl false))) wSkip) (wRet (wAnd (wCall (cIsX Y_all) (wCons (wVar 4) (wCons (wC (.cls "NoDeed")) wNil))) (wCall (cIsX Y_all) (wCons (wVar 4) (wCons (wC (.ty "ValueError")) wNil))))))))
def F__law_no_name : WF := wDef 4 1 false (wSeq (wSet 1 (wLst (wCons (wC (.str "")) (wCons (wC (.str "abcdefghi")) (wCons (wC (.str "aB")) (wCons (wC (.str "a1")) (wCons (wC (.str "a b")) (wCons (wC (.str " ab")) (wCons (wC (.str "ab ")) (wCons (wC (.str "ab\n")) (wCons (wC (.str "-")) (wCons (wC .non) (wCons (wC (.int 0)) (wCons (wC (.bl true)) (wCons (wLst (wCons (wC (.str "a")) wNil)) (wCons (wTup (wCons (wC (.str "a")) wNil)) (wCons wDictR (wCons (wC (.str "A")) (wCons (wC (.str "a_")) wNil))))))))))))))))))) (wSeq (wSet 2 (wC (.str " !\"#$&'()*+,-./0123456789:;<=>?@ABCDEFGHIJKLMNOPQRSTUVWXYZ[\\]^_`{|}~\n"))) (wSeq (wSet 3 (wBin ixD (wVar 2) (wFn F__law_pull (wCons (wVar 0) (wCons (wCall cLen (wCons (wVar 2) wNil)) wNil))))) (wSeq (wSet 1 (wBin dAdd (wVar 1) (wLst (wCons (wVar 3) (wCons (wBin dAdd (wC (.str "a")) (wVar 3)) (wCons (wBin dAdd (wVar 3) (wC (.str "b"))) (wCons (wC (.str "a{")) wNil))))))) (wRet (wBin ixD (wVar 1) (wFn F__law_pull (wCons (wVar 0) (wCons (wC (.int 21)) wNil)))))))))
def F_law : WF := wDef 11 1 true (wSeq (wFor (wiSeq (wBin dAdd (wSl (wVar 0) wNo (wPart (wC (.int 5)))) (wLst (wCons (wCall cLen (wCons (wVar 0) wNil)) wNil)))) (.nm 1) (wSeq (wSet 2 (wFn F__law_pot (wCons (wVar 1) wNil))) (wSeq (wSet 3 (wBin dAdd (wC (.int 1)) (wFn F__law_pull (wCons (wVar 2) (wCons (wC (.int 7)) wNil))))) (wSeq (wSet 4 (wFn F__law_run_o (wCons (wVar 2) (wCons (wVar 3) (wCons (wBin dAdd (wC (.int 2)) (wFn F__law_pull (wCons (wVar 2) (wCons (wC (.int 8)) wNil)))) (wCons (wFn F__law_pull (wCons (wVar 2) (wCons (wC (.int 21)) wNil))) wNil)))))) (wSeq (wFor (wiRange (wCons (wC (.int 6)) wNil)) (.nm 5) (wSeq (wSet 6 (wBin dAdd (wC (.int 1)) (wFn F__law_pull (wCons (wVar 2) (wCons (wC (.int 7)) wNil))))) (wSeq (wSet 7 (wFn F__law_pull (wCons (wVar 2) (wCons (wVar 3) wNil)))) (wSeq (wSet 8 (wC (.str "ab"))) (wSeq (wSet 9 (wC (.str "joe"))) (wSeq (wIfS (wTB (wBin dEq (wBin dMod (wVar 6) (wC (.int 2))) (wC (.int 1)))) (wSeq (wSet 10 (wBin dAdd (wBin dAdd (wVar 3) (wC (.int 1))) (wFn F__law_pull (wCons (wVar 2) (wCons (wC (.int 1000000000)) wNil))))) (wSet 7 (wBin ixD (wLst (wCons (wC (.int (-1))) (wCons (wVar 3) (wCons (wVar 10) (wCons (wBin dSub (wC (.int 0)) (wVar 10)) (wCons (wC (.bl true)) (wCons (wC (.bl false)) (wCons (wC .non) (wCons (wC (.str "0")) (wCons (wLst (wCons (wC (.int 0)) wNil)) (wCons (wTup (wCons (wC (.int 0)) wNil)) (wCons wDictR wNil)))))))))))) (wFn F__law_pull (wCons (wVar 2) (wCons (wC (.int 11)) wNil)))))) wSkip) (wSeq (wIfS (wTB (wBin dEq (wBin dMod (wBin dFdiv (wVar 6) (wC (.int 2))) (wC (.int 2))) (wC (.int 1)))) (wSet 8 (wFn F__law_no_name (wCons (wVar 2) wNil))) wSkip) (wSeq (wIfS (wTB (wBin dEq (wBin dFdiv (wVar 6) (wC (.int 4))) (wC (.int 1)))) (wSet 9 (wFn F__law_no_name (wCons (wVar 2) wNil))) wSkip) (wIfS (wTNot (wTT (wFn F__law_refused (wCons (wVar 4) (wCons (wVar 7) (wCons (wVar 8) (wCons (wVar 9) wNil))))))) (wRet (wC (.bl false))) wSkip)))))))) [5, 6, 7, 8, 9, 10]) (wIfS (wTB (wBin dLt (wBin ixD (wFn F_claimed_surely (wCons (wVar 4) (wCons (wFn F__law_pull (wCons (wVar 2) (wCons (wVar 3) wNil))) (wCons (wC (.str "ab")) (wCons (wC (.str "joe")) wNil))))) (wC (.int 1))) (wC (.int 1)))) (wRet (wC (.bl false))) wSkip))))) [1, 2, 3, 4, 5, 6, 7, 8, 9, 10]) (wRet (wC (.bl true))))
end functions
end Wk36
namespace Wk36
open PySem PySem.Spec PyProof.Rows L2 DL
abbrev signsT : Str := Str.ofString " !\"#$&'()*+,-./0123456789:;<=>?@ABCDEFGHIJKLMNOPQRSTUVWXYZ[\\]^_`{|}~\n"
section
variable {st : Sto} {X : PoX} {Q : PoE} {w : Wo} {n : Nat} {a : Addr} {r : List D} {b : Nat}
/-- a thing whose kind is known, another one than the pot -/
structure KnD (a : Addr) (st : Sto) (d : D) : Prop where
  kn : Kn st d
  ne : ∀ q, d = .ref q → q ≠ a
  zz : ∀ x, d = .str x → x.length ≤ 10000
theorem kn_on {st st' : Sto} {d : D} (h : KnD a st d) (hs : ∀ q, q ≠ a → st q ≠ none → st' q = st q) : KnD a st' d := by
  refine ⟨?_, h.ne, h.zz⟩
  obtain ⟨t, ht⟩ := h.kn
  cases d with
  | ref q =>
    refine ⟨t, ?_⟩
    have hq := h.ne q rfl
    have hne : st q ≠ none := fun z => by
      unfold tyNm at ht
      simp only [z] at ht
      cases ht
    unfold tyNm at ht ⊢
    dsimp only at ht ⊢
    rw [hs q hq hne]
    exact ht
  | _ => exact ⟨t, ht⟩
theorem nameOk_bad {x : Str} {c : Nat} (hc : c ∈ x.cps.toList) (hl : ¬ low c) : nameOk x = false := by
  unfold nameOk
  rw [Bool.and_eq_false_iff]
  right
  rw [List.all_eq_false]
  refine ⟨c, hc, ?_⟩
  unfold low at hl
  simp only [Bool.and_eq_true, decide_eq_true_iff]
  exact hl
theorem signs_bad : ∀ c ∈ signsT.cps.toList, ¬ low c := by
  have h : (signsT.cps.toList.all fun c => !(decide (97 ≤ c) && decide (c ≤ 122))) = true := by decide +kernel
  intro c hc
  have := List.all_eq_true.mp h c hc
  unfold low
  simp only [Bool.not_eq_true', Bool.and_eq_false_iff, decide_eq_false_iff_not] at this
  rintro ⟨h1, h2⟩
  rcases this with h | h
  · exact h h1
  · exact h h2
theorem ixD_in {z : Str} {i : Int} (h0 : 0 ≤ i) (h1 : i < z.length) (hz : z.length ≤ 10000) : ∃ c ∈ z.cps.toList, ixD st (.str z) (.int i) = some (.str ⟨#[c]⟩) := by
  have sz := sizeLine_eq
  have h2 : i.toNat < z.cps.toList.length := by
    have : z.length = z.cps.toList.length := by show z.cps.size = _; simp
    omega
  refine ⟨z.cps.toList[i.toNat], List.getElem_mem h2, ?_⟩
  show (if z.length ≤ sizeLine then (atI z.cps.toList i).map (fun c => D.str ⟨#[c]⟩) else none) = _
  rw [if_pos (by omega)]
  have e : atI z.cps.toList i = some z.cps.toList[i.toNat] := by
    rw [← List.getElem?_eq_getElem h2, ← atI_N, show ((i.toNat : Nat) : Int) = i by omega]
  rw [e]
  rfl
theorem ap_no_name (hr : st a = some (.lst r)) (ok : PotOk b r) (hb : b ≤ 10 ^ 10) (h : ∀ d st' r', st' a = some (.lst r') → PotOk (b + 2) r' → KnD a st' d → nmB d = false → (∀ q, q ≠ a → st q ≠ none → st' q = st q) → Q d st') : F__law_no_name [.ref a] st X Q := by
  simp only [F__law_no_name, wDef_ap]
  refine ⟨rfl, ?_⟩
  rw [wSeq_ap]
  simp [-wSeq_ap]
  intro p hp
  have pa : p ≠ a := fun z => by subst z; rw [hr] at hp; cases hp
  rw [wSeq_ap]
  simp [-wSeq_ap]
  rw [wSeq_ap]
  simp [-wSeq_ap]
  have sz := sizeLine_eq
  have hl1 : 1 ≤ signsT.length := by decide +kernel
  have hl2 : signsT.length ≤ 100 := by decide +kernel
  have h1a : (st.set p (.dk [])) a = some (.lst r) := by rw [Sto.set_ne (Ne.symm pa)]; exact hr
  change on (cLen (st.set p (.dk [])) [.str signsT]) _
  rw [cLen_str (by omega), on_some]
  refine ap_pull h1a ok (by omega) (by omega) (by omega) (fun i1 r1 i10 i11 ok1 => ?_)
  change on (ixD _ (.str signsT) (.int i1)) _
  obtain ⟨c, hc, ec⟩ := ixD_in (st := (st.set p (.dk [])).set a (.lst r1)) (z := signsT) i10 i11 (by omega)
  rw [ec, on_some]
  have hbad := signs_bad c hc
  rw [wSeq_ap]
  simp [-wSeq_ap]
  have ea : (⟨#[c]⟩ : Str) = txt [c] := rfl
  have e1 : Str.ofString "a" = txt [97] := by decide +kernel
  have e2 : Str.ofString "b" = txt [98] := by decide +kernel
  rw [ea, e1, dAdd_txt (by simp), on_some, e2, dAdd_txt (by simp), on_some, dAdd_lst (by simp [sizeLine_eq]), on_some]
  refine ap_pull Sto.set_same ok1 (by omega) (by omega) (by omega) (fun i2 r2 i20 i21 ok2 => ?_)
  simp only [ixD_lst, Sto.set_set]
  have b1 : nameOk (txt [c]) = false := nameOk_bad (c := c) (by rw [txt_list]; simp) hbad
  have b2 : nameOk (txt ([97] ++ [c])) = false := nameOk_bad (c := c) (by rw [txt_list]; simp) hbad
  have b3 : nameOk (txt ([c] ++ [98])) = false := nameOk_bad (c := c) (by rw [txt_list]; simp) hbad
  have l1 : (txt [c]).length ≤ 10000 := by rw [txt_len]; simp
  have l2 : (txt ([97] ++ [c])).length ≤ 10000 := by rw [txt_len]; simp
  have l3 : (txt ([c] ++ [98])).length ≤ 10000 := by rw [txt_len]; simp
  generalize txt ([97] ++ [c]) = s2 at *
  generalize txt ([c] ++ [98]) = s3 at *
  generalize txt [c] = s1 at *
  generalize hst : (st.set p (.dk [])).set a (.lst r2) = st4
  have a4 : st4 a = some (.lst r2) := by rw [← hst, Sto.set_same]
  have p4 : st4 p = some (.dk []) := by rw [← hst, Sto.set_ne pa, Sto.set_same]
  have k4 : ∀ q, q ≠ a → st q ≠ none → st4 q = st q := fun q hq hs => by
    have qp : q ≠ p := fun z => by
      subst z
      exact hs hp
    rw [← hst, Sto.set_ne hq, Sto.set_ne qp]
  refine on_iff.mpr ?_
  obtain ⟨d, hd, e⟩ := atI_mem (i := i2) (ds := [D.str (Str.ofString ""), D.str (Str.ofString "abcdefghi"), D.str (Str.ofString "aB"),
                  D.str (Str.ofString "a1"), D.str (Str.ofString "a b"), D.str (Str.ofString " ab"),
                  D.str (Str.ofString "ab "), D.str (Str.ofString "ab\n"), D.str (Str.ofString "-"), D.non, D.int 0,
                  D.bl true, D.lst [D.str (txt [97])], D.tup [D.str (txt [97])], D.ref p,
                  D.str (Str.ofString "A"), D.str (Str.ofString "a_")] ++ [.str s1, .str s2, .str s3, .str (Str.ofString "a{")]) i20 (by simpa using i21)
  have one : ∀ {x : Str}, nameOk x = false → x.length ≤ 10000 → KnD a st4 (.str x) ∧ nmB (.str x) = false := fun {x} h1 h2 => ⟨⟨⟨_, rfl⟩, fun q h => (by cases h), fun y h => (by cases h; exact h2)⟩, h1⟩
  have hP : KnD a st4 d ∧ nmB d = false := by
    simp only [List.mem_append, List.mem_cons, List.not_mem_nil, or_false] at hd
    rcases hd with (rfl | rfl | rfl | rfl | rfl | rfl | rfl | rfl | rfl | rfl | rfl | rfl | rfl | rfl | rfl | rfl | rfl) | (rfl | rfl | rfl | rfl)
    all_goals first
      | exact one b1 l1
      | exact one b2 l2
      | exact one b3 l3
      | exact one (by decide +kernel) (by decide +kernel)
      | exact ⟨⟨⟨_, rfl⟩, fun q h => (by cases h), fun y h => (by cases h)⟩, rfl⟩
      | exact ⟨⟨⟨"dict", by unfold tyNm; dsimp only; rw [p4]⟩, fun q h => (by cases h; exact pa), fun y h => (by cases h)⟩, rfl⟩
  exact ⟨d, e, h d st4 r2 a4 ok2 hP.1 hP.2 k4⟩
abbrev oth : List D := [.cls (Str.ofString "Busy"), .cls (Str.ofString "Down"), .cls (Str.ofString "NoClaim"), .cls (Str.ofString "NoLetter"), .cls (Str.ofString "NoRow"), .cls (Str.ofString "NoText"), .cls (Str.ofString "TooMany"), .cls (Str.ofString "Up")]
theorem is1 : cIsX Y_all st [.exc (Str.ofString "NoDeed"), .tup oth] = some (.bl false) := by kernel_rfl
theorem is2 : cIsX Y_all st [.exc (Str.ofString "NoDeed"), .cls (Str.ofString "NoDeed")] = some (.bl true) := by kernel_rfl
theorem is3 : cIsX Y_all st [.exc (Str.ofString "NoDeed"), .ty "ValueError"] = some (.bl true) := by kernel_rfl
theorem ap_refused {dh dn dp : D} (ok : WOk n w) (kh : KnD a st dh) (kn : KnD a st dn) (kp : KnD a st dp) (hno : (hsB w.m dh && (nmB dn && nmB dp)) = false) (hq : Q (.bl true) st) : F__law_refused [w.d, dh, dn, dp] st X Q := by
  simp only [F__law_refused, wDef_ap]
  refine ⟨rfl, ?_⟩
  rw [wSeq_ap]
  simp [-wSeq_ap]
  rw [wSeq_ap]
  simp [-wSeq_ap, wFnT]
  refine ap_surely_no ok kh.kn kn.kn kp.kn kn.zz kp.zz hno ⟨.inr (.inl rfl), ?_⟩
  rw [if_pos (by decide)]
  rw [wSeq_ap]
  simp [-wSeq_ap, is1]
  simp [is2, is3]
  exact hq
theorem wok_up {n' : Nat} (ok : WOk n w) (h : n ≤ n') : WOk n' w := by
  obtain ⟨d, rfl⟩ : ∃ d, n' = n + d := ⟨n' - n, by omega⟩
  induction d with
  | zero => exact ok
  | succ d ih => exact (ih (by omega)).mono
theorem no_house {m far : Int} {p : Addr} (hm : 1 ≤ m) (hf : m < far) {i : Int} (h0 : 0 ≤ i) (h1 : i < 11) (pa : p ≠ a) (hp : st p = some (.dk [])) :
    ∃ d, atI [D.int (-1), .int m, .int far, .int (0 - far), .bl true, .bl false, .non, .str (Str.ofString "0"), .lst [.int 0], .tup [.int 0], .ref p] i = some d ∧ KnD a st d ∧ hsB m d = false := by
  obtain ⟨d, hd, e⟩ := atI_mem (i := i) (ds := [D.int (-1), .int m, .int far, .int (0 - far), .bl true, .bl false, .non, .str (Str.ofString "0"), .lst [.int 0], .tup [.int 0], .ref p]) h0 (by simpa using h1)
  refine ⟨d, e, ?_⟩
  simp only [List.mem_cons, List.not_mem_nil, or_false] at hd
  have num : ∀ {k : Int}, ¬ (0 ≤ k ∧ k < m) → KnD a st (.int k) ∧ hsB m (.int k) = false := fun {k} hk => by
    refine ⟨⟨⟨_, rfl⟩, fun q h => (by cases h), fun y h => (by cases h)⟩, ?_⟩
    unfold hsB
    simp only [Bool.and_eq_false_iff, decide_eq_false_iff_not]
    by_cases hk0 : 0 ≤ k
    · exact .inr fun z => hk ⟨hk0, z⟩
    · exact .inl hk0
  rcases hd with rfl | rfl | rfl | rfl | rfl | rfl | rfl | rfl | rfl | rfl | rfl
  · exact num (by omega)
  · exact num (by omega)
  · exact num (by omega)
  · exact num (by omega)
  · exact ⟨⟨⟨_, rfl⟩, fun q h => (by cases h), fun y h => (by cases h)⟩, rfl⟩
  · exact ⟨⟨⟨_, rfl⟩, fun q h => (by cases h), fun y h => (by cases h)⟩, rfl⟩
  · exact ⟨⟨⟨_, rfl⟩, fun q h => (by cases h), fun y h => (by cases h)⟩, rfl⟩
  · exact ⟨⟨⟨_, rfl⟩, fun q h => (by cases h), fun y h => (by cases h; exact (by decide +kernel : (Str.ofString "0").length ≤ 10000))⟩, rfl⟩
  · exact ⟨⟨⟨_, rfl⟩, fun q h => (by cases h), fun y h => (by cases h)⟩, rfl⟩
  · exact ⟨⟨⟨_, rfl⟩, fun q h => (by cases h), fun y h => (by cases h)⟩, rfl⟩
  · exact ⟨⟨⟨"dict", by unfold tyNm; dsimp only; rw [hp]⟩, fun q h => (by cases h; exact pa), fun y h => (by cases h)⟩, rfl⟩
end
theorem why_all : ∀ y ∈ whyNot, y ∈ Y_all ∧ subE y (Str.ofString "HouseError") = true := by decide
theorem law_true (script : List Int) (hl : script.length ≤ 63) : F_law [.kl (script.map D.int)] (fun _ => none) XF (fun d _ => d = .bl true) := by
  simp only [F_law, wDef_ap]
  refine ⟨rfl, ?_⟩
  rw [wSeq_ap]
  simp [-wSeq_ap]
  rw [scriptE hl (by omega), on_some]
  simp only [sqOf_lst, on_some]
  refine wForL_same (enc := D.int) (fun _ => trivial) ?_ ?_
  · intro st
    dsimp only
    simp
  · intro c _ st N hN
    simp [-wSeq_ap]
    rw [wSeq_ap]
    simp [-wSeq_ap]
    refine ap_pot (fun a r hp ok => ?_)
    rw [wSeq_ap]
    simp [-wSeq_ap]
    refine ap_pull Sto.set_same ok (by omega) (by omega) (by omega) (fun n1 r1 h0 h1 ok1 => ?_)
    simp only [dAdd_int, on_some, Sto.set_set]
    have m1 : 1 ≤ 1 + n1 := by omega
    have m7 : 1 + n1 ≤ 7 := by omega
    generalize 1 + n1 = many at *
    rw [wSeq_ap]
    simp [-wSeq_ap]
    refine ap_pull Sto.set_same ok1 (by omega) (by omega) (by omega) (fun n2 r2 h2 h3 ok2 => ?_)
    simp only [dAdd_int, on_some, Sto.set_set]
    have t2 : 2 ≤ 2 + n2 := by omega
    have t9 : 2 + n2 ≤ 9 := by omega
    generalize 2 + n2 = term at *
    refine ap_pull Sto.set_same ok2 (by omega) (by omega) (by omega) (fun n3 r3 h4 h5 ok3 => ?_)
    simp only [Sto.set_set]
    show F_runY (F_behindY Y_all) _ _ _ _
    refine ap_runY why_all Sto.set_same ok3 (by omega) m1 m7 t2 t9 h4 (by omega) (fun w r4 hro ok4 => ?_)
    simp only [Sto.set_set]
    rw [wSeq_ap]
    simp [-wSeq_ap]
    rw [rangeOf_1 (by omega) (by omega), on_some]
    have hrl : (rangeL 0 6).length = 6 := by decide
    have hww : w.m = many := hro.hm
    refine wForL_inv (fun ds e' st' => ∃ (b : Nat) (r' : List D), b + 10 * ds.length ≤ 400 ∧ PotOk b r' ∧ st' a = some (.lst r') ∧ e' = [some (D.kl (List.map D.int script)), some (D.int c), some (D.ref a), some (D.int many), some w.d, none, none, none, none, none, none]) (fun _ _ _ _ => trivial) ?_ ?_ _ _ _
      ⟨_, r4, by rw [hrl]; omega, ok4, Sto.set_same, rfl⟩
    · rintro e' st' ⟨b, r', hb, okp, ha, rfl⟩
      dsimp only
      simp
      refine ap_pull ha okp (by simp at hb; omega) (by omega) (by omega) (fun h0 r5 hh0 hh1 ok5 => ?_)
      refine ap_claimed_surely hro.ok (by rw [hww]; exact ⟨hh0, hh1⟩) nm1 nm2 (by rw [hro.ht]; exact t9) (by have := hro.hy; omega) (fun r num hs hn => ?_)
      simp
      exact ⟨hn, hN _⟩
    · rintro d ds e' st' M ⟨b, r', hb, okp, ha, rfl⟩ hM
      rw [List.length_cons] at hb
      simp [-wSeq_ap]
      rw [wSeq_ap]
      simp [-wSeq_ap]
      refine ap_pull ha okp (by omega) (by omega) (by omega) (fun nb r5 hb0 hb1 ok5 => ?_)
      simp only [dAdd_int, on_some]
      have bb1 : 1 ≤ 1 + nb := by omega
      have bb7 : 1 + nb ≤ 7 := by omega
      generalize 1 + nb = bits at *
      rw [wSeq_ap]
      simp [-wSeq_ap]
      refine ap_pull Sto.set_same ok5 (by omega) (by omega) (by omega) (fun hs r6 hs0 hs1 ok6 => ?_)
      rw [wSeq_ap]
      simp [-wSeq_ap]
      rw [wSeq_ap]
      simp [-wSeq_ap]
      generalize hst1 : st'.set a (.lst r6) = st1
      have a1 : st1 a = some (.lst r6) := by rw [← hst1, Sto.set_same]
      refine seq_via (fun e2 st2 => ∃ (dh : D) (o : Option D) (r7 : List D), KnD a st2 dh ∧ (bits % 2 = 1 → hsB many dh = false) ∧ PotOk (b + 4) r7 ∧ st2 a = some (.lst r7) ∧
        e2 = [some (D.kl (List.map D.int script)), some (D.int c), some (D.ref a), some (D.int many), some w.d, some d, some (D.int bits), some dh, some (.str (Str.ofString "ab")), some (.str (Str.ofString "joe")), o]) ?_ ?_
      · intro M2 hM2
        simp (disch := omega) [-wSeq_ap, dMod_int]
        by_cases hodd : bits % 2 = 1
        · rw [if_pos hodd]
          rw [wSeq_ap]
          simp [-wSeq_ap]
          refine ap_pull a1 ok6 (by omega) (by omega) (by omega) (fun nf r7 hf0 hf1 ok7 => ?_)
          simp only [dAdd_int, on_some]
          have hfar : many < many + 1 + nf := by omega
          generalize many + 1 + nf = far at *
          simp
          intro q hq
          have qa : q ≠ a := fun z => by subst z; simp at hq
          refine ap_pull (st := (st1.set a (.lst r7)).set q (.dk [])) (by rw [Sto.set_ne (Ne.symm qa), Sto.set_same]) ok7 (by omega) (by omega) (by omega) (fun i r8 hi0 hi1 ok8 => ?_)
          simp only [ixD_lst]
          obtain ⟨dh, eat, kdh, hdh⟩ := no_house (st := ((st1.set a (.lst r7)).set q (.dk [])).set a (.lst r8)) (a := a) m1 hfar hi0 hi1 qa (by rw [Sto.set_ne qa, Sto.set_same])
          rw [Int.zero_sub] at eat
          rw [eat, on_some]
          exact hM2 _ _ ⟨dh, _, r8, kdh, fun _ => hdh, ok8.mono (by omega), Sto.set_same, rfl⟩
        · rw [if_neg hodd]
          exact hM2 _ _ ⟨.int hs, _, r6, ⟨⟨_, rfl⟩, fun q h => (by cases h), fun y h => (by cases h)⟩, fun z => absurd z hodd, ok6.mono (by omega), a1, rfl⟩
      rintro e2 st2 ⟨dh, o, r7, kdh, hdh, ok7, a2, rfl⟩
      refine seq_via (fun e3 st3 => ∃ (dn : D) (r8 : List D), KnD a st3 dh ∧ KnD a st3 dn ∧ (bits / 2 % 2 = 1 → nmB dn = false) ∧ PotOk (b + 6) r8 ∧ st3 a = some (.lst r8) ∧
        e3 = [some (D.kl (List.map D.int script)), some (D.int c), some (D.ref a), some (D.int many), some w.d, some d, some (D.int bits), some dh, some dn, some (.str (Str.ofString "joe")), o]) ?_ ?_
      · intro M3 hM3
        simp (disch := first | omega | decide +kernel) [dMod_int, dFdiv_int]
        by_cases hodd : bits / 2 % 2 = 1
        · rw [if_pos hodd]
          refine ap_no_name a2 ok7 (by omega) (fun dn st3 r8 a3 ok8 kdn hdn k3 => ?_)
          exact hM3 _ _ ⟨dn, r8, kn_on kdh k3, kdn, fun _ => hdn, ok8, a3, rfl⟩
        · rw [if_neg hodd]
          exact hM3 _ _ ⟨_, r7, kdh, ⟨⟨_, rfl⟩, fun q h => (by cases h), fun y h => (by cases h; decide +kernel)⟩, fun z => absurd z hodd, ok7.mono (by omega), a2, rfl⟩
      rintro e3 st3 ⟨dn, r8, kdh3, kdn, hdn, ok8, a3, rfl⟩
      refine seq_via (fun e4 st4 => ∃ (dp : D) (r9 : List D), KnD a st4 dh ∧ KnD a st4 dn ∧ KnD a st4 dp ∧ (bits / 4 = 1 → nmB dp = false) ∧ PotOk (b + 8) r9 ∧ st4 a = some (.lst r9) ∧
        e4 = [some (D.kl (List.map D.int script)), some (D.int c), some (D.ref a), some (D.int many), some w.d, some d, some (D.int bits), some dh, some dn, some dp, o]) ?_ ?_
      · intro M4 hM4
        simp (disch := first | omega | decide +kernel) [dMod_int, dFdiv_int]
        by_cases hodd : bits / 4 = 1
        · rw [if_pos hodd]
          refine ap_no_name a3 ok8 (by omega) (fun dp st4 r9 a4 ok9 kdp hdp k4 => ?_)
          exact hM4 _ _ ⟨dp, r9, kn_on kdh3 k4, kn_on kdn k4, kdp, fun _ => hdp, ok9, a4, rfl⟩
        · rw [if_neg hodd]
          exact hM4 _ _ ⟨_, r8, kdh3, kdn, ⟨⟨_, rfl⟩, fun q h => (by cases h), fun y h => (by cases h; decide +kernel)⟩, fun z => absurd z hodd, ok8.mono (by omega), a3, rfl⟩
      rintro e4 st4 ⟨dp, r9, kdh4, kdn4, kdp, hdp, ok9, a4, rfl⟩
      simp
      have hno : (hsB w.m dh && (nmB dn && nmB dp)) = false := by
        rw [hww]
        have : bits % 2 = 1 ∨ bits / 2 % 2 = 1 ∨ bits / 4 = 1 := by omega
        rcases this with h | h | h
        · rw [hdh h]; rfl
        · rw [hdn h]; simp
        · rw [hdp h]; simp
      refine ap_refused hro.ok kdh4 kdn4 kdp hno ?_
      simp
      exact hM _ _ ⟨b + 8, r9, by omega, ok9, a4, rfl⟩
end Wk36
namespace Wk36
open PySem PySem.Spec PyProof.Rows L2 DL
section
variable {P : Program} {w : World} {K : PySem.W.Frag} {mg : Str → Option Value} {base : Heap}
theorem ok_is_whole {f : Addr} {fd : FuncData} (hm : mg "is_whole" = some (.ref f)) (F : FunD K "is_whole" "is_whole" (defArgs s_is_whole) (defBody s_is_whole) (defScope s_is_whole) [] [] f fd) (fr : Frees mg) :
    Good P w K mg base 1 "is_whole" 1 F_is_whole := by
  have S : FnScope ["thing"] ["thing"] (defScope s_is_whole) := ⟨rfl, rfl, rfl, by decide +kernel, rfl, by decide +kernel, by decide +kernel⟩
  have hN := S.nd
  refine good_def hm F (F.bindsN (ps := ["thing"]) fun _ _ _ _ _ _ us hl => match us, hl with | [_], _ => rfl) S rfl rfl fun cdv A outer s H E hr hp hx hu ht => ?_
  exact (b_one (s_ret (e_and (e_isi fr (a_cons (e_var 0) (a_cons (e_tint fr) a_nil))) (e_one (e_not (e_isi fr (a_cons (e_var 0) (a_cons (e_tbool fr) a_nil))))))))
theorem ok_is_name {f : Addr} {fd : FuncData} (hm : mg "is_name" = some (.ref f)) (F : FunD K "is_name" "is_name" (defArgs s_is_name) (defBody s_is_name) (defScope s_is_name) [] [] f fd) (fr : Frees mg) (c_LONGEST : ∃ t, mg "LONGEST" = some (.int 8 t)) (c_LETTERS : ∃ t, mg "LETTERS" = some (.str "abcdefghijklmnopqrstuvwxyz" t)) :
    Good P w K mg base 1 "is_name" 1 F_is_name := by
  have S : FnScope ["thing", "sign"] ["thing"] (defScope s_is_name) := ⟨rfl, rfl, rfl, by decide +kernel, rfl, by decide +kernel, by decide +kernel⟩
  have hN := S.nd
  refine good_def hm F (F.bindsN (ps := ["thing"]) fun _ _ _ _ _ _ us hl => match us, hl with | [_], _ => rfl) S rfl rfl fun cdv A outer s H E hr hp hx hu ht => ?_
  exact (b_cons (s_if (t_w (w_or (t_not (t_tru (e_isi fr (a_cons (e_var 0) (a_cons (e_tstr fr) a_nil))))) (w_or1 (t_not (t_chain op_le dLe_ok op_le dLe_ok e_int (e_len fr (a_cons (e_var 0) a_nil)) (e_gint c_LONGEST)))))) (b_one (s_ret e_bl)) b_nil) (b_one (s_ret (e_eq hu (e_comp [("sign", 1)] rfl hN (i_str (e_var 0)) (by kernel_rfl) (fun _ _ _ _ _ => (g_nm 1 hN)) (fun _ _ _ _ _ => (ts_one (t_nin hu (e_var 1) (e_gstr c_LETTERS)))) (fun _ _ _ _ _ => (e_var 1))) (e_lst a_nil)))))
theorem ok_is_house {f : Addr} {fd : FuncData} (hm : mg "is_house" = some (.ref f)) (F : FunD K "is_house" "is_house" (defArgs s_is_house) (defBody s_is_house) (defScope s_is_house) [] [] f fd) (fr : Frees mg) (G_is_whole : Good P w K mg base 1 "is_whole" 1 F_is_whole) :
    Good P w K mg base 2 "is_house" 2 F_is_house := by
  have S : FnScope ["many", "thing"] ["many", "thing"] (defScope s_is_house) := ⟨rfl, rfl, rfl, by decide +kernel, rfl, by decide +kernel, by decide +kernel⟩
  have hN := S.nd
  refine good_def hm F (F.bindsN (ps := ["many", "thing"]) fun _ _ _ _ _ _ us hl => match us, hl with | [_, _], _ => rfl) S rfl rfl fun cdv A outer s H E hr hp hx hu ht => ?_
  exact (b_one (s_ret (e_and (e_call G_is_whole hr hx (a_cons (e_var 1) a_nil)) (e_one (e_chain op_le dLe_ok op_ltD dLt_ok e_int (e_var 1) (e_var 0))))))
theorem ok_is_side {f : Addr} {fd : FuncData} (hm : mg "is_side" = some (.ref f)) (F : FunD K "is_side" "is_side" (defArgs s_is_side) (defBody s_is_side) (defScope s_is_side) [] [] f fd) (fr : Frees mg) (G_is_house : Good P w K mg base 2 "is_house" 2 F_is_house) :
    Good P w K mg base 3 "is_side" 2 F_is_side := by
  have S : FnScope ["many", "thing", "house"] ["many", "thing"] (defScope s_is_side) := ⟨rfl, rfl, rfl, by decide +kernel, rfl, by decide +kernel, by decide +kernel⟩
  have hN := S.nd
  refine good_def hm F (F.bindsN (ps := ["many", "thing"]) fun _ _ _ _ _ _ us hl => match us, hl with | [_, _], _ => rfl) S rfl rfl fun cdv A outer s H E hr hp hx hu ht => ?_
  exact (b_cons (s_if (t_w (w_or (t_not (t_tru (e_isi fr (a_cons (e_var 1) (a_cons (e_ttuple fr) a_nil))))) (w_or1 (t_ne hu (e_comp [("house", 2)] rfl hN (i_seq (e_var 1)) (by kernel_rfl) (fun _ _ _ _ _ => (g_nm 2 hN)) (fun _ _ _ _ _ => (ts_one (t_not (t_tru (e_call G_is_house hr passL (a_cons (e_var 0) (a_cons (e_var 2) a_nil))))))) (fun _ _ _ _ _ => (e_var 2))) (e_lst a_nil))))) (b_one (s_ret e_bl)) b_nil) (b_one (s_ret (e_and (e_chain op_ltD dLt_ok op_ltD dLt_ok e_int (e_len fr (a_cons (e_var 1) a_nil)) (e_var 0)) (e_one (e_eq hu (e_list fr (a_cons (e_var 1) a_nil)) (e_sortSet rfl fr (e_var 1))))))))
theorem ok_fits {f : Addr} {fd : FuncData} (hm : mg "fits" = some (.ref f)) (F : FunD K "fits" "fits" (defArgs s_fits) (defBody s_fits) (defScope s_fits) [] [] f fd) (fr : Frees mg) (G_is_house : Good P w K mg base 2 "is_house" 2 F_is_house) (G_is_name : Good P w K mg base 1 "is_name" 1 F_is_name) (G_is_whole : Good P w K mg base 1 "is_whole" 1 F_is_whole) (G_is_side : Good P w K mg base 3 "is_side" 2 F_is_side) :
    Good P w K mg base 4 "fits" 3 F_fits := by
  have S : FnScope ["many", "form", "thing"] ["many", "form", "thing"] (defScope s_fits) := ⟨rfl, rfl, rfl, by decide +kernel, rfl, by decide +kernel, by decide +kernel⟩
  have hN := S.nd
  refine good_def hm F (F.bindsN (ps := ["many", "form", "thing"]) fun _ _ _ _ _ _ us hl => match us, hl with | [_, _, _], _ => rfl) S rfl rfl fun cdv A outer s H E hr hp hx hu ht => ?_
  exact (b_cons (s_if (t_eq hu (e_var 1) e_str) (b_one (s_ret (e_call G_is_house hr hx (a_cons (e_var 0) (a_cons (e_var 2) a_nil))))) b_nil) (b_cons (s_if (t_eq hu (e_var 1) e_str) (b_one (s_ret (e_call G_is_name hr hx (a_cons (e_var 2) a_nil)))) b_nil) (b_cons (s_if (t_eq hu (e_var 1) e_str) (b_one (s_ret (e_and (e_call G_is_whole hr hx (a_cons (e_var 2) a_nil)) (e_one (e_ge (e_var 2) e_int))))) b_nil) (b_one (s_ret (e_call G_is_side hr hx (a_cons (e_var 0) (a_cons (e_var 2) a_nil))))))))
theorem ok_is_deed {f : Addr} {fd : FuncData} (hm : mg "is_deed" = some (.ref f)) (F : FunD K "is_deed" "is_deed" (defArgs s_is_deed) (defBody s_is_deed) (defScope s_is_deed) [] [] f fd) (fr : Frees mg) (c_FORMS : TabOk K w mg "FORMS" T_deeds) (G_fits : Good P w K mg base 4 "fits" 3 F_fits) :
    Good P w K mg base 5 "is_deed" 2 F_is_deed := by
  have S : FnScope ["many", "thing", "forms", "form", "part"] ["many", "thing"] (defScope s_is_deed) := ⟨rfl, rfl, rfl, by decide +kernel, rfl, by decide +kernel, by decide +kernel⟩
  have hN := S.nd
  refine good_def hm F (F.bindsN (ps := ["many", "thing"]) fun _ _ _ _ _ _ us hl => match us, hl with | [_, _], _ => rfl) S rfl rfl fun cdv A outer s H E hr hp hx hu ht => ?_
  exact (b_cons (s_if (t_w (w_or (t_not (t_tru (e_isi fr (a_cons (e_var 1) (a_cons (e_ttuple fr) a_nil))))) (w_or (t_eq hu (e_var 1) (e_tup a_nil)) (w_or (t_not (t_tru (e_isi fr (a_cons (e_ix hu (e_var 1) e_int) (a_cons (e_tstr fr) a_nil))))) (w_or1 (t_ninTab c_FORMS (e_ix hu (e_var 1) e_int))))))) (b_one (s_ret e_bl)) b_nil) (b_cons (s_set 2 hN (e_tabAt c_FORMS (e_ix hu (e_var 1) e_int))) (b_cons (s_if (t_ne hu (e_len fr (a_cons (e_var 1) a_nil)) (e_add e_int (e_len fr (a_cons (e_var 2) a_nil)))) (b_one (s_ret e_bl)) b_nil) (b_one (s_ret (e_eq hu (e_comp [("form", 3), ("part", 4)] rfl hN (i_zip rfl fr.zip (a_cons (e_var 2) (a_cons (e_sl (e_var 1) (o_part e_int) o_no) a_nil))) (by kernel_rfl) (fun _ _ _ _ _ => (g_tp rfl (gs_cons (g_nm 3 hN) (gs_cons (g_nm 4 hN) gs_nil)))) (fun _ _ _ _ _ => (ts_one (t_not (t_tru (e_call G_fits hr passL (a_cons (e_var 0) (a_cons (e_var 3) (a_cons (e_var 4) a_nil)))))))) (fun _ _ _ _ _ => e_int)) (e_lst a_nil)))))))
theorem ok_needed {f : Addr} {fd : FuncData} (hm : mg "needed" = some (.ref f)) (F : FunD K "needed" "needed" (defArgs s_needed) (defBody s_needed) (defScope s_needed) [] [] f fd) (fr : Frees mg) :
    Good P w K mg base 1 "needed" 1 F_needed := by
  have S : FnScope ["many"] ["many"] (defScope s_needed) := ⟨rfl, rfl, rfl, by decide +kernel, rfl, by decide +kernel, by decide +kernel⟩
  have hN := S.nd
  refine good_def hm F (F.bindsN (ps := ["many"]) fun _ _ _ _ _ _ us hl => match us, hl with | [_], _ => rfl) S rfl rfl fun cdv A outer s H E hr hp hx hu ht => ?_
  exact (b_one (s_ret (e_add (e_fdiv (e_var 0) e_int) e_int)))
theorem ok_reach_of {f : Addr} {fd : FuncData} (hm : mg "reach_of" = some (.ref f)) (F : FunD K "reach_of" "reach_of" (defArgs s_reach_of) (defBody s_reach_of) (defScope s_reach_of) [] [] f fd) (fr : Frees mg) (G_needed : Good P w K mg base 1 "needed" 1 F_needed) :
    Good P w K mg base 2 "reach_of" 2 F_reach_of := by
  have S : FnScope ["numbers", "many"] ["numbers", "many"] (defScope s_reach_of) := ⟨rfl, rfl, rfl, by decide +kernel, rfl, by decide +kernel, by decide +kernel⟩
  have hN := S.nd
  refine good_def hm F (F.bindsN (ps := ["numbers", "many"]) fun _ _ _ _ _ _ us hl => match us, hl with | [_, _], _ => rfl) S rfl rfl fun cdv A outer s H E hr hp hx hu ht => ?_
  exact (b_cons (s_if (t_lt (e_len fr (a_cons (e_var 0) a_nil)) (e_call G_needed hr hx (a_cons (e_var 1) a_nil))) (b_one (s_ret e_int)) b_nil) (b_one (s_ret (e_ix hu (e_sortR rfl fr.sorted (a_cons (e_var 0) a_nil)) (e_sub (e_call G_needed hr hx (a_cons (e_var 1) a_nil)) e_int)))))
theorem ok_entries_of {f : Addr} {fd : FuncData} (hm : mg "entries_of" = some (.ref f)) (F : FunD K "entries_of" "entries_of" (defArgs s_entries_of) (defBody s_entries_of) (defScope s_entries_of) [] [] f fd) (fr : Frees mg) :
    Good P w K mg base 1 "entries_of" 3 F_entries_of := by
  have S : FnScope ["log", "kind", "name", "entry"] ["log", "kind", "name"] (defScope s_entries_of) := ⟨rfl, rfl, rfl, by decide +kernel, rfl, by decide +kernel, by decide +kernel⟩
  have hN := S.nd
  refine good_def hm F (F.bindsN (ps := ["log", "kind", "name"]) fun _ _ _ _ _ _ us hl => match us, hl with | [_, _, _], _ => rfl) S rfl rfl fun cdv A outer s H E hr hp hx hu ht => ?_
  exact (b_one (s_ret (e_comp [("entry", 3)] rfl hN (i_seq (e_var 0)) (by kernel_rfl) (fun _ _ _ _ _ => (g_nm 3 hN)) (fun _ _ _ _ _ => (ts_one (t_w (w_and (t_eq hu (e_ix hu (e_var 3) e_int) (e_var 1)) (w_and1 (t_eq hu (e_ix hu (e_var 3) e_int) (e_var 2))))))) (fun _ _ _ _ _ => (e_var 3)))))
theorem ok_word_in {f : Addr} {fd : FuncData} (hm : mg "word_in" = some (.ref f)) (F : FunD K "word_in" "word_in" (defArgs s_word_in) (defBody s_word_in) (defScope s_word_in) [] [] f fd) (fr : Frees mg) :
    Good P w K mg base 1 "word_in" 2 F_word_in := by
  have S : FnScope ["log", "name", "found", "entry"] ["log", "name"] (defScope s_word_in) := ⟨rfl, rfl, rfl, by decide +kernel, rfl, by decide +kernel, by decide +kernel⟩
  have hN := S.nd
  refine good_def hm F (F.bindsN (ps := ["log", "name"]) fun _ _ _ _ _ _ us hl => match us, hl with | [_, _], _ => rfl) S rfl rfl fun cdv A outer s H E hr hp hx hu ht => ?_
  exact (b_cons (s_set 2 hN e_non) (b_cons (s_for [3] hp rfl (i_seq (e_var 0)) (g_nm 3 hN) (b_cons (s_if (t_w (w_and (t_eq hu (e_ix hu (e_var 3) e_int) e_str) (w_and1 (t_eq hu (e_ix hu (e_var 3) e_int) (e_var 1))))) (b_one (s_set 2 hN (e_sl (e_var 3) (o_part e_int) o_no))) b_nil) (b_one (s_if (t_w (w_and (t_eq hu (e_ix hu (e_var 3) e_int) e_str) (w_and (t_isnt (e_var 2) e_non) (w_and1 (t_eq hu (e_sl (e_var 3) (o_part e_int) o_no) (e_add (e_tup (a_cons (e_var 1) a_nil)) (e_sl (e_var 2) o_no (o_part e_int)))))))) (b_one (s_set 2 hN e_non)) b_nil)))) (b_one (s_ret (e_var 2)))))
theorem ok_greatest_asked {f : Addr} {fd : FuncData} (hm : mg "greatest_asked" = some (.ref f)) (F : FunD K "greatest_asked" "greatest_asked" (defArgs s_greatest_asked) (defBody s_greatest_asked) (defScope s_greatest_asked) [] [] f fd) (fr : Frees mg) (G_entries_of : Good P w K mg base 1 "entries_of" 3 F_entries_of) :
    Good P w K mg base 2 "greatest_asked" 2 F_greatest_asked := by
  have S : FnScope ["log", "name", "entry"] ["log", "name"] (defScope s_greatest_asked) := ⟨rfl, rfl, rfl, by decide +kernel, rfl, by decide +kernel, by decide +kernel⟩
  have hN := S.nd
  refine good_def hm F (F.bindsN (ps := ["log", "name"]) fun _ _ _ _ _ _ us hl => match us, hl with | [_, _], _ => rfl) S rfl rfl fun cdv A outer s H E hr hp hx hu ht => ?_
  exact (b_one (s_ret (e_max1 rfl fr (a_cons (e_add (e_lst (a_cons e_int a_nil)) (e_comp [("entry", 2)] rfl hN (i_seq (e_call G_entries_of hr hx (a_cons (e_var 0) (a_cons e_str (a_cons (e_var 1) a_nil))))) (by kernel_rfl) (fun _ _ _ _ _ => (g_nm 2 hN)) (fun _ _ _ _ _ => ts_nil) (fun _ _ _ _ _ => (e_ix hu (e_var 2) e_int)))) a_nil))))
theorem ok_claim_in {f : Addr} {fd : FuncData} (hm : mg "claim_in" = some (.ref f)) (F : FunD K "claim_in" "claim_in" (defArgs s_claim_in) (defBody s_claim_in) (defScope s_claim_in) [] [] f fd) (fr : Frees mg) (G_greatest_asked : Good P w K mg base 2 "greatest_asked" 2 F_greatest_asked) (G_entries_of : Good P w K mg base 1 "entries_of" 3 F_entries_of) :
    Good P w K mg base 3 "claim_in" 2 F_claim_in := by
  have S : FnScope ["log", "name", "number", "asked", "words", "entry", "noes", "others", "house"] ["log", "name"] (defScope s_claim_in) := ⟨rfl, rfl, rfl, by decide +kernel, rfl, by decide +kernel, by decide +kernel⟩
  have hN := S.nd
  refine good_def hm F (F.bindsN (ps := ["log", "name"]) fun _ _ _ _ _ _ us hl => match us, hl with | [_, _], _ => rfl) S rfl rfl fun cdv A outer s H E hr hp hx hu ht => ?_
  exact (b_cons (s_set 2 hN (e_call G_greatest_asked hr hx (a_cons (e_var 0) (a_cons (e_var 1) a_nil)))) (b_cons (s_if (t_w (w_or (t_eq hu (e_var 2) e_int) (w_or1 (t_in hu (e_tup (a_cons e_str (a_cons (e_var 1) (a_cons (e_var 2) a_nil)))) (e_var 0))))) (b_one (s_ret e_non)) b_nil) (b_cons (s_setC 3 [("entry", 5)] rfl hN (i_seq (e_call G_entries_of hr hx (a_cons (e_var 0) (a_cons e_str (a_cons (e_var 1) a_nil))))) (by kernel_rfl) (fun _ _ _ _ _ => (g_nm 5 hN)) (fun _ _ _ _ _ => (ts_one (t_eq hu (e_ix hu (e_var 5) e_int) (e_var 2)))) (fun _ _ _ _ _ => (e_var 5))) (b_cons (s_set 4 hN e_dictR) (b_cons (s_for [] hp rfl (i_seq (e_call G_entries_of hr hx (a_cons (e_var 0) (a_cons e_str (a_cons (e_var 1) a_nil))))) (g_nm 5 hN) (b_one (s_if (t_eq hu (e_ix hu (e_var 5) e_int) (e_var 2)) (b_one (s_put hu (e_var 4) (e_ix hu (e_var 5) e_int) (e_max2 rfl fr (a_cons (e_get2 hu (e_var 4) (e_ix hu (e_var 5) e_int) e_int) (a_cons (e_ix hu (e_var 5) e_int) a_nil))))) b_nil))) (b_cons (s_set 6 hN (e_dictP rfl fr (a_cons (e_comp [("entry", 5)] rfl hN (i_seq (e_call G_entries_of hr hx (a_cons (e_var 0) (a_cons e_str (a_cons (e_var 1) a_nil))))) (by kernel_rfl) (fun _ _ _ _ _ => (g_nm 5 hN)) (fun _ _ _ _ _ => (ts_one (t_eq hu (e_ix hu (e_var 5) e_int) (e_var 2)))) (fun _ _ _ _ _ => (e_tup (a_cons (e_ix hu (e_var 5) e_int) (a_cons e_bl a_nil))))) a_nil))) (b_cons (s_set 7 hN (e_tuple fr (a_cons (e_comp [("house", 8)] rfl hN (i_seq (e_sorted rfl fr (a_cons (e_var 6) a_nil))) (by kernel_rfl) (fun _ _ _ _ _ => (g_nm 8 hN)) (fun _ _ _ _ _ => (ts_one (t_nin hu (e_var 8) (e_var 4)))) (fun _ _ _ _ _ => (e_var 8))) a_nil))) (b_one (s_ret (e_tup (a_cons (e_var 2) (a_cons (e_ix hu (e_ix hu (e_var 3) (e_negC (v := -1) e_int)) e_int) (a_cons (e_max1 rfl fr (a_cons (e_comp [("entry", 5)] rfl hN (i_seq (e_var 3)) (by kernel_rfl) (fun _ _ _ _ _ => (g_nm 5 hN)) (fun _ _ _ _ _ => ts_nil) (fun _ _ _ _ _ => (e_ix hu (e_var 5) e_int))) a_nil)) (a_cons (e_tuple fr (a_cons (e_sortIt rfl fr (e_var 4)) a_nil)) (a_cons (e_var 7) a_nil)))))))))))))))
theorem ok_next_number {f : Addr} {fd : FuncData} (hm : mg "next_number" = some (.ref f)) (F : FunD K "next_number" "next_number" (defArgs s_next_number) (defBody s_next_number) (defScope s_next_number) [] [] f fd) (fr : Frees mg) :
    Good P w K mg base 1 "next_number" 1 F_next_number := by
  have S : FnScope ["log", "entry"] ["log"] (defScope s_next_number) := ⟨rfl, rfl, rfl, by decide +kernel, rfl, by decide +kernel, by decide +kernel⟩
  have hN := S.nd
  refine good_def hm F (F.bindsN (ps := ["log"]) fun _ _ _ _ _ _ us hl => match us, hl with | [_], _ => rfl) S rfl rfl fun cdv A outer s H E hr hp hx hu ht => ?_
  exact (b_one (s_ret (e_add e_int (e_max1 rfl fr (a_cons (e_add (e_lst (a_cons e_int a_nil)) (e_comp [("entry", 1)] rfl hN (i_seq (e_var 0)) (by kernel_rfl) (fun _ _ _ _ _ => (g_nm 1 hN)) (fun _ _ _ _ _ => (ts_one (t_eq hu (e_ix hu (e_var 1) e_int) e_str))) (fun _ _ _ _ _ => (e_ix hu (e_var 1) e_int)))) a_nil)))))
theorem ok_other_houses {f : Addr} {fd : FuncData} (hm : mg "other_houses" = some (.ref f)) (F : FunD K "other_houses" "other_houses" (defArgs s_other_houses) (defBody s_other_houses) (defScope s_other_houses) [] [] f fd) (fr : Frees mg) :
    Good P w K mg base 1 "other_houses" 2 F_other_houses := by
  have S : FnScope ["many", "house", "other"] ["many", "house"] (defScope s_other_houses) := ⟨rfl, rfl, rfl, by decide +kernel, rfl, by decide +kernel, by decide +kernel⟩
  have hN := S.nd
  refine good_def hm F (F.bindsN (ps := ["many", "house"]) fun _ _ _ _ _ _ us hl => match us, hl with | [_, _], _ => rfl) S rfl rfl fun cdv A outer s H E hr hp hx hu ht => ?_
  exact (b_one (s_ret (e_comp [("other", 2)] rfl hN (i_range1 rfl fr.range (a_cons (e_var 0) a_nil)) (by kernel_rfl) (fun _ _ _ _ _ => (g_nm 2 hN)) (fun _ _ _ _ _ => (ts_one (t_ne hu (e_var 2) (e_var 1)))) (fun _ _ _ _ _ => (e_var 2)))))
theorem ok_is_due {f : Addr} {fd : FuncData} (hm : mg "is_due" = some (.ref f)) (F : FunD K "is_due" "is_due" (defArgs s_is_due) (defBody s_is_due) (defScope s_is_due) [] [] f fd) (fr : Frees mg) (G_word_in : Good P w K mg base 1 "word_in" 2 F_word_in) :
    Good P w K mg base 2 "is_due" 6 F_is_due := by
  have S : FnScope ["log", "name", "house", "number", "until", "now", "word"] ["log", "name", "house", "number", "until", "now"] (defScope s_is_due) := ⟨rfl, rfl, rfl, by decide +kernel, rfl, by decide +kernel, by decide +kernel⟩
  have hN := S.nd
  refine good_def hm F (F.bindsN (ps := ["log", "name", "house", "number", "until", "now"]) fun _ _ _ _ _ _ us hl => match us, hl with | [_, _, _, _, _, _], _ => rfl) S rfl rfl fun cdv A outer s H E hr hp hx hu ht => ?_
  exact (b_cons (s_set 6 hN (e_call G_word_in hr hx (a_cons (e_var 0) (a_cons (e_var 1) a_nil)))) (b_cons (s_if (t_w (w_or (t_is (e_var 6) e_non) (w_or1 (t_le (e_ix hu (e_var 6) e_int) (e_var 5))))) (b_one (s_ret (e_gt (e_var 4) (e_var 5)))) b_nil) (b_one (s_ret (e_and (e_eq hu (e_sl (e_var 6) o_no (o_part e_int)) (e_tup (a_cons (e_var 2) (a_cons (e_var 3) a_nil)))) (e_one (e_lt (e_ix hu (e_var 6) e_int) (e_var 4))))))))
theorem ok_reach_in {f : Addr} {fd : FuncData} (hm : mg "reach_in" = some (.ref f)) (F : FunD K "reach_in" "reach_in" (defArgs s_reach_in) (defBody s_reach_in) (defScope s_reach_in) [] [] f fd) (fr : Frees mg) (G_claim_in : Good P w K mg base 3 "claim_in" 2 F_claim_in) (G_reach_of : Good P w K mg base 2 "reach_of" 2 F_reach_of) :
    Good P w K mg base 4 "reach_in" 3 F_reach_in := by
  have S : FnScope ["many", "log", "name", "claim", "house", "until"] ["many", "log", "name"] (defScope s_reach_in) := ⟨rfl, rfl, rfl, by decide +kernel, rfl, by decide +kernel, by decide +kernel⟩
  have hN := S.nd
  refine good_def hm F (F.bindsN (ps := ["many", "log", "name"]) fun _ _ _ _ _ _ us hl => match us, hl with | [_, _, _], _ => rfl) S rfl rfl fun cdv A outer s H E hr hp hx hu ht => ?_
  exact (b_cons (s_set 3 hN (e_call G_claim_in hr hx (a_cons (e_var 1) (a_cons (e_var 2) a_nil)))) (b_cons (s_if (t_is (e_var 3) e_non) (b_one (s_ret e_int)) b_nil) (b_one (s_ret (e_call G_reach_of hr hx (a_cons (e_comp [("house", 4), ("until", 5)] rfl hN (i_seq (e_ix hu (e_var 3) e_int)) (by kernel_rfl) (fun _ _ _ _ _ => (g_tp rfl (gs_cons (g_nm 4 hN) (gs_cons (g_nm 5 hN) gs_nil)))) (fun _ _ _ _ _ => ts_nil) (fun _ _ _ _ _ => (e_var 5))) (a_cons (e_var 0) a_nil)))))))
theorem ok_news_of {f : Addr} {fd : FuncData} (hm : mg "news_of" = some (.ref f)) (F : FunD K "news_of" "news_of" (defArgs s_news_of) (defBody s_news_of) (defScope s_news_of) [] [] f fd) (fr : Frees mg) (G_reach_in : Good P w K mg base 4 "reach_in" 3 F_reach_in) (G_claim_in : Good P w K mg base 3 "claim_in" 2 F_claim_in) (G_other_houses : Good P w K mg base 1 "other_houses" 2 F_other_houses) :
    Good P w K mg base 5 "news_of" 6 F_news_of := by
  have S : FnScope ["many", "house", "log", "entries", "name", "now", "reach", "claim", "notice", "other"] ["many", "house", "log", "entries", "name", "now"] (defScope s_news_of) := ⟨rfl, rfl, rfl, by decide +kernel, rfl, by decide +kernel, by decide +kernel⟩
  have hN := S.nd
  refine good_def hm F (F.bindsN (ps := ["many", "house", "log", "entries", "name", "now"]) fun _ _ _ _ _ _ us hl => match us, hl with | [_, _, _, _, _, _], _ => rfl) S rfl rfl fun cdv A outer s H E hr hp hx hu ht => ?_
  exact (b_cons (s_set 6 hN (e_call G_reach_in hr hx (a_cons (e_var 0) (a_cons (e_add (e_var 2) (e_var 3)) (a_cons (e_var 4) a_nil))))) (b_cons (s_if (t_w (w_or (t_le (e_var 6) (e_var 5)) (w_or1 (t_le (e_var 6) (e_call G_reach_in hr hx (a_cons (e_var 0) (a_cons (e_var 2) (a_cons (e_var 4) a_nil)))))))) (b_one (s_ret (e_tup (a_cons e_non (a_cons (e_lst a_nil) a_nil))))) b_nil) (b_cons (s_set 7 hN (e_call G_claim_in hr hx (a_cons (e_add (e_var 2) (e_var 3)) (a_cons (e_var 4) a_nil)))) (b_cons (s_set 8 hN (e_tup (a_cons (e_var 4) (a_cons (e_var 1) (a_cons (e_ix hu (e_var 7) e_int) (a_cons (e_ix hu (e_var 7) e_int) (a_cons (e_var 5) a_nil))))))) (b_one (s_ret (e_tup (a_cons (e_var 8) (a_cons (e_comp [("other", 9)] rfl hN (i_seq (e_call G_other_houses hr hx (a_cons (e_var 0) (a_cons (e_var 1) a_nil)))) (by kernel_rfl) (fun _ _ _ _ _ => (g_nm 9 hN)) (fun _ _ _ _ _ => ts_nil) (fun _ _ _ _ _ => (e_tup (a_cons e_str (a_cons (e_var 1) (a_cons (e_var 9) (a_cons (e_var 4) (a_cons (e_ix hu (e_var 7) e_int) (a_cons (e_ix hu (e_var 7) e_int) (a_cons (e_var 5) a_nil)))))))))) a_nil)))))))))
theorem ok_ask_taken {f : Addr} {fd : FuncData} (hm : mg "ask_taken" = some (.ref f)) (F : FunD K "ask_taken" "ask_taken" (defArgs s_ask_taken) (defBody s_ask_taken) (defScope s_ask_taken) [] [] f fd) (fr : Frees mg) (G_is_due : Good P w K mg base 2 "is_due" 6 F_is_due) (G_word_in : Good P w K mg base 1 "word_in" 2 F_word_in) :
    Good P w K mg base 3 "ask_taken" 4 F_ask_taken := by
  have S : FnScope ["house", "log", "letter", "now", "word", "sender", "to", "name", "number", "person", "until"] ["house", "log", "letter", "now"] (defScope s_ask_taken) := ⟨rfl, rfl, rfl, by decide +kernel, rfl, by decide +kernel, by decide +kernel⟩
  have hN := S.nd
  refine good_def hm F (F.bindsN (ps := ["house", "log", "letter", "now"]) fun _ _ _ _ _ _ us hl => match us, hl with | [_, _, _, _], _ => rfl) S rfl rfl fun cdv A outer s H E hr hp hx hu ht => ?_
  exact (b_cons (s_asg (e_sl (e_var 2) (o_part e_int) o_no) (g_tp rfl (gs_cons (g_nm 5 hN) (gs_cons (g_nm 6 hN) (gs_cons (g_nm 7 hN) (gs_cons (g_nm 8 hN) (gs_cons (g_nm 9 hN) (gs_cons (g_nm 10 hN) gs_nil)))))))) (b_cons (s_if (t_le (e_var 10) (e_var 3)) (b_one (s_ret (e_tup (a_cons (e_tup a_nil) (a_cons (e_tup a_nil) a_nil))))) b_nil) (b_cons (s_if (t_tru (e_call G_is_due hr hx (a_cons (e_var 1) (a_cons (e_var 7) (a_cons (e_var 5) (a_cons (e_var 8) (a_cons (e_var 10) (a_cons (e_var 3) a_nil)))))))) (b_one (s_ret (e_tup (a_cons (e_tup (a_cons (e_tup (a_cons e_str (a_cons (e_var 7) (a_cons (e_var 5) (a_cons (e_var 8) (a_cons (e_var 10) a_nil)))))) a_nil)) (a_cons (e_tup (a_cons (e_tup (a_cons e_str (a_cons (e_var 0) (a_cons (e_var 5) (a_cons (e_var 7) (a_cons (e_var 8) (a_cons (e_var 10) a_nil))))))) a_nil)) a_nil))))) b_nil) (b_cons (s_set 4 hN (e_call G_word_in hr hx (a_cons (e_var 1) (a_cons (e_var 7) a_nil)))) (b_cons (s_if (t_eq hu (e_sl (e_var 4) o_no (o_part e_int)) (e_tup (a_cons (e_var 5) (a_cons (e_var 8) a_nil)))) (b_one (s_ret (e_tup (a_cons (e_tup a_nil) (a_cons (e_tup (a_cons (e_tup (a_cons e_str (a_cons (e_var 0) (a_cons (e_var 5) (a_cons (e_var 7) (a_cons (e_var 8) (a_cons (e_ix hu (e_var 4) e_int) a_nil))))))) a_nil)) a_nil))))) b_nil) (b_one (s_ret (e_tup (a_cons (e_tup a_nil) (a_cons (e_tup (a_cons (e_tup (a_cons e_str (a_cons (e_var 0) (a_cons (e_var 5) (a_cons (e_var 7) (a_cons (e_var 8) a_nil)))))) a_nil)) a_nil))))))))))
theorem ok_word_taken {f : Addr} {fd : FuncData} (hm : mg "word_taken" = some (.ref f)) (F : FunD K "word_taken" "word_taken" (defArgs s_word_taken) (defBody s_word_taken) (defScope s_word_taken) [] [] f fd) (fr : Frees mg) (G_claim_in : Good P w K mg base 3 "claim_in" 2 F_claim_in) (G_news_of : Good P w K mg base 5 "news_of" 6 F_news_of) :
    Good P w K mg base 6 "word_taken" 5 F_word_taken := by
  have S : FnScope ["many", "house", "log", "letter", "now", "claim", "entries", "sender", "to", "name", "number", "until", "notice", "letters", "other", "known"] ["many", "house", "log", "letter", "now"] (defScope s_word_taken) := ⟨rfl, rfl, rfl, by decide +kernel, rfl, by decide +kernel, by decide +kernel⟩
  have hN := S.nd
  refine good_def hm F (F.bindsN (ps := ["many", "house", "log", "letter", "now"]) fun _ _ _ _ _ _ us hl => match us, hl with | [_, _, _, _, _], _ => rfl) S rfl rfl fun cdv A outer s H E hr hp hx hu ht => ?_
  exact (b_cons (s_asg (e_sl (e_var 3) (o_part e_int) o_no) (g_tp rfl (gs_cons (g_nm 7 hN) (gs_cons (g_nm 8 hN) (gs_cons (g_nm 9 hN) (gs_cons (g_nm 10 hN) (gs_cons (g_nm 11 hN) gs_nil))))))) (b_cons (s_set 5 hN (e_call G_claim_in hr hx (a_cons (e_var 2) (a_cons (e_var 9) a_nil)))) (b_cons (s_if (t_w (w_or (t_is (e_var 5) e_non) (w_or1 (t_ne hu (e_ix hu (e_var 5) e_int) (e_var 10))))) (b_one (s_ret (e_tup (a_cons (e_tup a_nil) (a_cons (e_tup (a_cons (e_tup (a_cons e_str (a_cons (e_var 1) (a_cons (e_var 7) (a_cons (e_var 9) (a_cons (e_var 10) a_nil)))))) a_nil)) (a_cons e_non a_nil)))))) b_nil) (b_cons (s_if (t_ne hu (e_comp [("other", 14), ("known", 15)] rfl hN (i_seq (e_ix hu (e_var 5) e_int)) (by kernel_rfl) (fun _ _ _ _ _ => (g_tp rfl (gs_cons (g_nm 14 hN) (gs_cons (g_nm 15 hN) gs_nil)))) (fun _ _ _ _ _ => (ts_one (t_w (w_and (t_eq hu (e_var 14) (e_var 7)) (w_and1 (t_ge (e_var 15) (e_var 11))))))) (fun _ _ _ _ _ => (e_var 15))) (e_lst a_nil)) (b_one (s_ret (e_tup (a_cons (e_tup a_nil) (a_cons (e_tup a_nil) (a_cons e_non a_nil)))))) b_nil) (b_cons (s_set 6 hN (e_tup (a_cons (e_tup (a_cons e_str (a_cons (e_var 9) (a_cons (e_var 10) (a_cons (e_var 7) (a_cons (e_var 11) a_nil)))))) a_nil))) (b_cons (s_asg (e_call G_news_of hr hx (a_cons (e_var 0) (a_cons (e_var 1) (a_cons (e_var 2) (a_cons (e_var 6) (a_cons (e_var 9) (a_cons (e_var 4) a_nil))))))) (g_tp rfl (gs_cons (g_nm 12 hN) (gs_cons (g_nm 13 hN) gs_nil)))) (b_one (s_ret (e_tup (a_cons (e_var 6) (a_cons (e_tuple fr (a_cons (e_var 13) a_nil)) (a_cons (e_var 12) a_nil))))))))))))
theorem ok_no_taken {f : Addr} {fd : FuncData} (hm : mg "no_taken" = some (.ref f)) (F : FunD K "no_taken" "no_taken" (defArgs s_no_taken) (defBody s_no_taken) (defScope s_no_taken) [] [] f fd) (fr : Frees mg) (G_claim_in : Good P w K mg base 3 "claim_in" 2 F_claim_in) :
    Good P w K mg base 4 "no_taken" 2 F_no_taken := by
  have S : FnScope ["log", "letter", "claim", "sender", "to", "name", "number", "other", "until"] ["log", "letter"] (defScope s_no_taken) := ⟨rfl, rfl, rfl, by decide +kernel, rfl, by decide +kernel, by decide +kernel⟩
  have hN := S.nd
  refine good_def hm F (F.bindsN (ps := ["log", "letter"]) fun _ _ _ _ _ _ us hl => match us, hl with | [_, _], _ => rfl) S rfl rfl fun cdv A outer s H E hr hp hx hu ht => ?_
  exact (b_cons (s_asg (e_sl (e_var 1) (o_part e_int) o_no) (g_tp rfl (gs_cons (g_nm 3 hN) (gs_cons (g_nm 4 hN) (gs_cons (g_nm 5 hN) (gs_cons (g_nm 6 hN) gs_nil)))))) (b_cons (s_set 2 hN (e_call G_claim_in hr hx (a_cons (e_var 0) (a_cons (e_var 5) a_nil)))) (b_cons (s_if (t_w (w_or (t_is (e_var 2) e_non) (w_or (t_ne hu (e_ix hu (e_var 2) e_int) (e_var 6)) (w_or1 (t_in hu (e_var 3) (e_ix hu (e_var 2) e_int)))))) (b_one (s_ret (e_tup a_nil))) b_nil) (b_cons (s_if (t_in hu (e_var 3) (e_comp [("other", 7), ("until", 8)] rfl hN (i_seq (e_ix hu (e_var 2) e_int)) (by kernel_rfl) (fun _ _ _ _ _ => (g_tp rfl (gs_cons (g_nm 7 hN) (gs_cons (g_nm 8 hN) gs_nil)))) (fun _ _ _ _ _ => ts_nil) (fun _ _ _ _ _ => (e_var 7)))) (b_one (s_ret (e_tup a_nil))) b_nil) (b_one (s_ret (e_tup (a_cons (e_tup (a_cons e_str (a_cons (e_var 5) (a_cons (e_var 6) (a_cons (e_var 3) a_nil))))) a_nil))))))))
theorem ok_back_taken {f : Addr} {fd : FuncData} (hm : mg "back_taken" = some (.ref f)) (F : FunD K "back_taken" "back_taken" (defArgs s_back_taken) (defBody s_back_taken) (defScope s_back_taken) [] [] f fd) (fr : Frees mg) (G_word_in : Good P w K mg base 1 "word_in" 2 F_word_in) :
    Good P w K mg base 2 "back_taken" 2 F_back_taken := by
  have S : FnScope ["log", "letter", "word", "sender", "to", "name", "number"] ["log", "letter"] (defScope s_back_taken) := ⟨rfl, rfl, rfl, by decide +kernel, rfl, by decide +kernel, by decide +kernel⟩
  have hN := S.nd
  refine good_def hm F (F.bindsN (ps := ["log", "letter"]) fun _ _ _ _ _ _ us hl => match us, hl with | [_, _], _ => rfl) S rfl rfl fun cdv A outer s H E hr hp hx hu ht => ?_
  exact (b_cons (s_asg (e_sl (e_var 1) (o_part e_int) o_no) (g_tp rfl (gs_cons (g_nm 3 hN) (gs_cons (g_nm 4 hN) (gs_cons (g_nm 5 hN) (gs_cons (g_nm 6 hN) gs_nil)))))) (b_cons (s_set 2 hN (e_call G_word_in hr hx (a_cons (e_var 0) (a_cons (e_var 5) a_nil)))) (b_cons (s_if (t_w (w_or (t_is (e_var 2) e_non) (w_or1 (t_ne hu (e_sl (e_var 2) o_no (o_part e_int)) (e_tup (a_cons (e_var 3) (a_cons (e_var 6) a_nil))))))) (b_one (s_ret (e_tup a_nil))) b_nil) (b_one (s_ret (e_tup (a_cons (e_tup (a_cons e_str (a_cons (e_var 5) (a_cons (e_var 3) (a_cons (e_var 6) a_nil))))) a_nil)))))))
theorem ok_taken {f : Addr} {fd : FuncData} (hm : mg "taken" = some (.ref f)) (F : FunD K "taken" "taken" (defArgs s_taken) (defBody s_taken) (defScope s_taken) [] [] f fd) (fr : Frees mg) (G_ask_taken : Good P w K mg base 3 "ask_taken" 4 F_ask_taken) (G_word_taken : Good P w K mg base 6 "word_taken" 5 F_word_taken) (G_no_taken : Good P w K mg base 4 "no_taken" 2 F_no_taken) (G_back_taken : Good P w K mg base 2 "back_taken" 2 F_back_taken) :
    Good P w K mg base 7 "taken" 5 F_taken := by
  have S : FnScope ["many", "house", "log", "letter", "now", "kind", "sender", "to", "name", "number", "person", "round_told"] ["many", "house", "log", "letter", "now"] (defScope s_taken) := ⟨rfl, rfl, rfl, by decide +kernel, rfl, by decide +kernel, by decide +kernel⟩
  have hN := S.nd
  refine good_def hm F (F.bindsN (ps := ["many", "house", "log", "letter", "now"]) fun _ _ _ _ _ _ us hl => match us, hl with | [_, _, _, _, _], _ => rfl) S rfl rfl fun cdv A outer s H E hr hp hx hu ht => ?_
  exact (b_cons (s_set 5 hN (e_ix hu (e_var 3) e_int)) (b_cons (s_if (t_eq hu (e_var 5) e_str) (b_one (s_ret (e_add (e_call G_ask_taken hr hx (a_cons (e_var 1) (a_cons (e_var 2) (a_cons (e_var 3) (a_cons (e_var 4) a_nil))))) (e_tup (a_cons e_non a_nil))))) b_nil) (b_cons (s_if (t_eq hu (e_var 5) e_str) (b_one (s_ret (e_call G_word_taken hr hx (a_cons (e_var 0) (a_cons (e_var 1) (a_cons (e_var 2) (a_cons (e_var 3) (a_cons (e_var 4) a_nil)))))))) b_nil) (b_cons (s_if (t_eq hu (e_var 5) e_str) (b_one (s_ret (e_tup (a_cons (e_call G_no_taken hr hx (a_cons (e_var 2) (a_cons (e_var 3) a_nil))) (a_cons (e_tup a_nil) (a_cons e_non a_nil)))))) b_nil) (b_cons (s_if (t_eq hu (e_var 5) e_str) (b_one (s_ret (e_tup (a_cons (e_call G_back_taken hr hx (a_cons (e_var 2) (a_cons (e_var 3) a_nil))) (a_cons (e_tup a_nil) (a_cons e_non a_nil)))))) b_nil) (b_cons (s_asg (e_sl (e_var 3) (o_part e_int) o_no) (g_tp rfl (gs_cons (g_nm 6 hN) (gs_cons (g_nm 7 hN) (gs_cons (g_nm 8 hN) (gs_cons (g_nm 9 hN) (gs_cons (g_nm 10 hN) (gs_cons (g_nm 11 hN) gs_nil)))))))) (b_one (s_ret (e_tup (a_cons (e_tup a_nil) (a_cons (e_tup a_nil) (a_cons (e_tup (a_cons (e_var 8) (a_cons (e_var 6) (a_cons (e_var 9) (a_cons (e_var 10) (a_cons (e_var 11) a_nil)))))) a_nil))))))))))))
theorem ok_world_of {f : Addr} {fd : FuncData} (hm : mg "world_of" = some (.ref f)) (F : FunD K "world_of" "world_of" (defArgs s_world_of) (defBody s_world_of) (defScope s_world_of) [] [] f fd) (fr : Frees mg) (c_E : ExnOk K mg Y_all) (c_MOST_HOUSES : ∃ t, mg "MOST_HOUSES" = some (.int 7 t)) (c_LEAST_TERM : ∃ t, mg "LEAST_TERM" = some (.int 2 t)) (c_GREATEST_TERM : ∃ t, mg "GREATEST_TERM" = some (.int 9 t)) (G_is_whole : Good P w K mg base 1 "is_whole" 1 F_is_whole) :
    Good P w K mg base 2 "world_of" 2 F_world_of := by
  have S : FnScope ["many", "term"] ["many", "term"] (defScope s_world_of) := ⟨rfl, rfl, rfl, by decide +kernel, rfl, by decide +kernel, by decide +kernel⟩
  have hN := S.nd
  refine good_def hm F (F.bindsN (ps := ["many", "term"]) fun _ _ _ _ _ _ us hl => match us, hl with | [_, _], _ => rfl) S rfl rfl fun cdv A outer s H E hr hp hx hu ht => ?_
  exact (b_cons (s_if (t_w (w_or (t_not (t_tru (e_call G_is_whole hr hx (a_cons (e_var 0) a_nil)))) (w_or1 (t_not (t_tru (e_call G_is_whole hr hx (a_cons (e_var 1) a_nil))))))) (b_one (s_raise c_E ht rfl)) b_nil) (b_cons (s_if (t_w (w_or (t_not (t_chain op_le dLe_ok op_le dLe_ok e_int (e_var 0) (e_gint c_MOST_HOUSES))) (w_or1 (t_not (t_chain op_le dLe_ok op_le dLe_ok (e_gint c_LEAST_TERM) (e_var 1) (e_gint c_GREATEST_TERM)))))) (b_one (s_raise c_E ht rfl)) b_nil) (b_one (s_ret (e_tup (a_cons e_int (a_cons (e_var 1) (a_cons (e_mulT (e_tup (a_cons (e_tup a_nil) a_nil)) (e_var 0)) (a_cons (e_mulT (e_tup (a_cons (e_tup a_nil) a_nil)) (e_var 0)) (a_cons (e_tup a_nil) (a_cons (e_tup a_nil) (a_cons (e_tup a_nil) a_nil))))))))))))
theorem ok_at_place {f : Addr} {fd : FuncData} (hm : mg "at_place" = some (.ref f)) (F : FunD K "at_place" "at_place" (defArgs s_at_place) (defBody s_at_place) (defScope s_at_place) [] [] f fd) (fr : Frees mg) :
    Good P w K mg base 1 "at_place" 3 F_at_place := by
  have S : FnScope ["some", "place", "thing"] ["some", "place", "thing"] (defScope s_at_place) := ⟨rfl, rfl, rfl, by decide +kernel, rfl, by decide +kernel, by decide +kernel⟩
  have hN := S.nd
  refine good_def hm F (F.bindsN (ps := ["some", "place", "thing"]) fun _ _ _ _ _ _ us hl => match us, hl with | [_, _, _], _ => rfl) S rfl rfl fun cdv A outer s H E hr hp hx hu ht => ?_
  exact (b_one (s_ret (e_add (e_add (e_sl (e_var 0) o_no (o_part (e_var 1))) (e_tup (a_cons (e_var 2) a_nil))) (e_sl (e_var 0) (o_part (e_add (e_var 1) e_int)) o_no))))
theorem ok_stands {f : Addr} {fd : FuncData} (hm : mg "stands" = some (.ref f)) (F : FunD K "stands" "stands" (defArgs s_stands) (defBody s_stands) (defScope s_stands) [] [] f fd) (fr : Frees mg) (G_claim_in : Good P w K mg base 3 "claim_in" 2 F_claim_in) :
    Good P w K mg base 4 "stands" 3 F_stands := by
  have S : FnScope ["world", "house", "name", "claim"] ["world", "house", "name"] (defScope s_stands) := ⟨rfl, rfl, rfl, by decide +kernel, rfl, by decide +kernel, by decide +kernel⟩
  have hN := S.nd
  refine good_def hm F (F.bindsN (ps := ["world", "house", "name"]) fun _ _ _ _ _ _ us hl => match us, hl with | [_, _, _], _ => rfl) S rfl rfl fun cdv A outer s H E hr hp hx hu ht => ?_
  exact (b_cons (s_set 3 hN (e_call G_claim_in hr hx (a_cons (e_ix hu (e_ix hu (e_var 0) e_int) (e_var 1)) (a_cons (e_var 2) a_nil)))) (b_one (s_ret (e_and (e_isnt (e_var 3) e_non) (e_one (e_gt (e_ix hu (e_var 3) e_int) (e_ix hu (e_var 0) e_int)))))))
theorem ok_is_parted {f : Addr} {fd : FuncData} (hm : mg "is_parted" = some (.ref f)) (F : FunD K "is_parted" "is_parted" (defArgs s_is_parted) (defBody s_is_parted) (defScope s_is_parted) [] [] f fd) (fr : Frees mg) :
    Good P w K mg base 1 "is_parted" 2 F_is_parted := by
  have S : FnScope ["world", "letter"] ["world", "letter"] (defScope s_is_parted) := ⟨rfl, rfl, rfl, by decide +kernel, rfl, by decide +kernel, by decide +kernel⟩
  have hN := S.nd
  refine good_def hm F (F.bindsN (ps := ["world", "letter"]) fun _ _ _ _ _ _ us hl => match us, hl with | [_, _], _ => rfl) S rfl rfl fun cdv A outer s H E hr hp hx hu ht => ?_
  exact (b_one (s_ret (e_ne hu (e_in hu (e_ix hu (e_var 1) e_int) (e_ix hu (e_var 0) e_int)) (e_in hu (e_ix hu (e_var 1) e_int) (e_ix hu (e_var 0) e_int)))))
theorem ok_can_be_carried {f : Addr} {fd : FuncData} (hm : mg "can_be_carried" = some (.ref f)) (F : FunD K "can_be_carried" "can_be_carried" (defArgs s_can_be_carried) (defBody s_can_be_carried) (defScope s_can_be_carried) [] [] f fd) (fr : Frees mg) (G_is_parted : Good P w K mg base 1 "is_parted" 2 F_is_parted) :
    Good P w K mg base 2 "can_be_carried" 2 F_can_be_carried := by
  have S : FnScope ["world", "letter"] ["world", "letter"] (defScope s_can_be_carried) := ⟨rfl, rfl, rfl, by decide +kernel, rfl, by decide +kernel, by decide +kernel⟩
  have hN := S.nd
  refine good_def hm F (F.bindsN (ps := ["world", "letter"]) fun _ _ _ _ _ _ us hl => match us, hl with | [_, _], _ => rfl) S rfl rfl fun cdv A outer s H E hr hp hx hu ht => ?_
  exact (b_one (s_ret (e_and (e_nin hu (e_ix hu (e_var 1) e_int) (e_ix hu (e_var 0) e_int)) (e_one (e_not (e_call G_is_parted hr hx (a_cons (e_var 0) (a_cons (e_var 1) a_nil))))))))
theorem ok_need_letter {f : Addr} {fd : FuncData} (hm : mg "need_letter" = some (.ref f)) (F : FunD K "need_letter" "need_letter" (defArgs s_need_letter) (defBody s_need_letter) (defScope s_need_letter) [] [] f fd) (fr : Frees mg) (c_E : ExnOk K mg Y_all) :
    Good P w K mg base 1 "need_letter" 2 F_need_letter := by
  have S : FnScope ["world", "deed"] ["world", "deed"] (defScope s_need_letter) := ⟨rfl, rfl, rfl, by decide +kernel, rfl, by decide +kernel, by decide +kernel⟩
  have hN := S.nd
  refine good_def hm F (F.bindsN (ps := ["world", "deed"]) fun _ _ _ _ _ _ us hl => match us, hl with | [_, _], _ => rfl) S rfl rfl fun cdv A outer s H E hr hp hx hu ht => ?_
  exact (b_one (s_if (t_w (w_and (t_in hu (e_ix hu (e_var 1) e_int) (e_tup (a_cons e_str (a_cons e_str (a_cons e_str a_nil))))) (w_and1 (t_ge (e_ix hu (e_var 1) e_int) (e_len fr (a_cons (e_ix hu (e_var 0) e_int) a_nil)))))) (b_one (s_raise c_E ht rfl)) b_nil))
theorem ok_need_up {f : Addr} {fd : FuncData} (hm : mg "need_up" = some (.ref f)) (F : FunD K "need_up" "need_up" (defArgs s_need_up) (defBody s_need_up) (defScope s_need_up) [] [] f fd) (fr : Frees mg) (c_E : ExnOk K mg Y_all) :
    Good P w K mg base 1 "need_up" 2 F_need_up := by
  have S : FnScope ["world", "deed"] ["world", "deed"] (defScope s_need_up) := ⟨rfl, rfl, rfl, by decide +kernel, rfl, by decide +kernel, by decide +kernel⟩
  have hN := S.nd
  refine good_def hm F (F.bindsN (ps := ["world", "deed"]) fun _ _ _ _ _ _ us hl => match us, hl with | [_, _], _ => rfl) S rfl rfl fun cdv A outer s H E hr hp hx hu ht => ?_
  exact (b_cons (s_if (t_w (w_and (t_in hu (e_ix hu (e_var 1) e_int) (e_tup (a_cons e_str (a_cons e_str (a_cons e_str (a_cons e_str a_nil)))))) (w_and1 (t_in hu (e_ix hu (e_var 1) e_int) (e_ix hu (e_var 0) e_int))))) (b_one (s_raise c_E ht rfl)) b_nil) (b_cons (s_if (t_w (w_and (t_eq hu (e_ix hu (e_var 1) e_int) e_str) (w_and1 (t_in hu (e_ix hu (e_ix hu (e_ix hu (e_var 0) e_int) (e_ix hu (e_var 1) e_int)) e_int) (e_ix hu (e_var 0) e_int))))) (b_one (s_raise c_E ht rfl)) b_nil) (b_one (s_if (t_w (w_and (t_eq hu (e_ix hu (e_var 1) e_int) e_str) (w_and1 (t_nin hu (e_ix hu (e_var 1) e_int) (e_ix hu (e_var 0) e_int))))) (b_one (s_raise c_E ht rfl)) b_nil))))
theorem ok_need_way {f : Addr} {fd : FuncData} (hm : mg "need_way" = some (.ref f)) (F : FunD K "need_way" "need_way" (defArgs s_need_way) (defBody s_need_way) (defScope s_need_way) [] [] f fd) (fr : Frees mg) (c_E : ExnOk K mg Y_all) (G_is_parted : Good P w K mg base 1 "is_parted" 2 F_is_parted) :
    Good P w K mg base 2 "need_way" 2 F_need_way := by
  have S : FnScope ["world", "deed"] ["world", "deed"] (defScope s_need_way) := ⟨rfl, rfl, rfl, by decide +kernel, rfl, by decide +kernel, by decide +kernel⟩
  have hN := S.nd
  refine good_def hm F (F.bindsN (ps := ["world", "deed"]) fun _ _ _ _ _ _ us hl => match us, hl with | [_, _], _ => rfl) S rfl rfl fun cdv A outer s H E hr hp hx hu ht => ?_
  exact (b_one (s_if (t_w (w_and (t_eq hu (e_ix hu (e_var 1) e_int) e_str) (w_and1 (t_tru (e_call G_is_parted hr hx (a_cons (e_var 0) (a_cons (e_ix hu (e_ix hu (e_var 0) e_int) (e_ix hu (e_var 1) e_int)) a_nil))))))) (b_one (s_raise c_E ht rfl)) b_nil))
theorem ok_need_claim {f : Addr} {fd : FuncData} (hm : mg "need_claim" = some (.ref f)) (F : FunD K "need_claim" "need_claim" (defArgs s_need_claim) (defBody s_need_claim) (defScope s_need_claim) [] [] f fd) (fr : Frees mg) (c_E : ExnOk K mg Y_all) (G_stands : Good P w K mg base 4 "stands" 3 F_stands) :
    Good P w K mg base 5 "need_claim" 2 F_need_claim := by
  have S : FnScope ["world", "deed"] ["world", "deed"] (defScope s_need_claim) := ⟨rfl, rfl, rfl, by decide +kernel, rfl, by decide +kernel, by decide +kernel⟩
  have hN := S.nd
  refine good_def hm F (F.bindsN (ps := ["world", "deed"]) fun _ _ _ _ _ _ us hl => match us, hl with | [_, _], _ => rfl) S rfl rfl fun cdv A outer s H E hr hp hx hu ht => ?_
  exact (b_cons (s_if (t_w (w_and (t_eq hu (e_ix hu (e_var 1) e_int) e_str) (w_and1 (t_tru (e_call G_stands hr hx (a_cons (e_var 0) (a_cons (e_ix hu (e_var 1) e_int) (a_cons (e_ix hu (e_var 1) e_int) a_nil)))))))) (b_one (s_raise c_E ht rfl)) b_nil) (b_one (s_if (t_w (w_and (t_in hu (e_ix hu (e_var 1) e_int) (e_tup (a_cons e_str (a_cons e_str a_nil)))) (w_and1 (t_not (t_tru (e_call G_stands hr hx (a_cons (e_var 0) (a_cons (e_ix hu (e_var 1) e_int) (a_cons (e_ix hu (e_var 1) e_int) a_nil))))))))) (b_one (s_raise c_E ht rfl)) b_nil)))
theorem ok_kept_notice {f : Addr} {fd : FuncData} (hm : mg "kept_notice" = some (.ref f)) (F : FunD K "kept_notice" "kept_notice" (defArgs s_kept_notice) (defBody s_kept_notice) (defScope s_kept_notice) [] [] f fd) (fr : Frees mg) :
    Good P w K mg base 1 "kept_notice" 2 F_kept_notice := by
  have S : FnScope ["notices", "notice", "found", "one", "name"] ["notices", "notice"] (defScope s_kept_notice) := ⟨rfl, rfl, rfl, by decide +kernel, rfl, by decide +kernel, by decide +kernel⟩
  have hN := S.nd
  refine good_def hm F (F.bindsN (ps := ["notices", "notice"]) fun _ _ _ _ _ _ us hl => match us, hl with | [_, _], _ => rfl) S rfl rfl fun cdv A outer s H E hr hp hx hu ht => ?_
  exact (b_cons (s_set 2 hN (e_dictP rfl fr (a_cons (e_comp [("one", 3)] rfl hN (i_seq (e_var 0)) (by kernel_rfl) (fun _ _ _ _ _ => (g_nm 3 hN)) (fun _ _ _ _ _ => ts_nil) (fun _ _ _ _ _ => (e_tup (a_cons (e_ix hu (e_var 3) e_int) (a_cons (e_var 3) a_nil))))) a_nil))) (b_cons (s_if (t_w (w_and (t_isnt (e_var 1) e_non) (w_and1 (t_w (w_or (t_nin hu (e_ix hu (e_var 1) e_int) (e_var 2)) (w_or1 (t_le (e_ix hu (e_ix hu (e_var 2) (e_ix hu (e_var 1) e_int)) e_int) (e_ix hu (e_var 1) e_int)))))))) (b_one (s_put hu (e_var 2) (e_ix hu (e_var 1) e_int) (e_var 1))) b_nil) (b_one (s_ret (e_tuple fr (a_cons (e_comp [("name", 4)] rfl hN (i_seq (e_sortedT rfl fr (a_cons (e_var 2) a_nil))) (by kernel_rfl) (fun _ _ _ _ _ => (g_nm 4 hN)) (fun _ _ _ _ _ => ts_nil) (fun _ _ _ _ _ => (e_ix hu (e_var 2) (e_var 4)))) a_nil))))))
theorem ok_moved {f : Addr} {fd : FuncData} (hm : mg "moved" = some (.ref f)) (F : FunD K "moved" "moved" (defArgs s_moved) (defBody s_moved) (defScope s_moved) [] [] f fd) (fr : Frees mg) (G_at_place : Good P w K mg base 1 "at_place" 3 F_at_place) (G_kept_notice : Good P w K mg base 1 "kept_notice" 2 F_kept_notice) :
    Good P w K mg base 2 "moved" 5 F_moved := by
  have S : FnScope ["world", "house", "entries", "letters", "notice", "logs", "notices", "now", "term", "down", "side", "yard"] ["world", "house", "entries", "letters", "notice"] (defScope s_moved) := ⟨rfl, rfl, rfl, by decide +kernel, rfl, by decide +kernel, by decide +kernel⟩
  have hN := S.nd
  refine good_def hm F (F.bindsN (ps := ["world", "house", "entries", "letters", "notice"]) fun _ _ _ _ _ _ us hl => match us, hl with | [_, _, _, _, _], _ => rfl) S rfl rfl fun cdv A outer s H E hr hp hx hu ht => ?_
  exact (b_cons (s_asg (e_var 0) (g_tp rfl (gs_cons (g_nm 7 hN) (gs_cons (g_nm 8 hN) (gs_cons (g_nm 5 hN) (gs_cons (g_nm 6 hN) (gs_cons (g_nm 9 hN) (gs_cons (g_nm 10 hN) (gs_cons (g_nm 11 hN) gs_nil))))))))) (b_cons (s_set 5 hN (e_call G_at_place hr hx (a_cons (e_var 5) (a_cons (e_var 1) (a_cons (e_add (e_ix hu (e_var 5) (e_var 1)) (e_tuple fr (a_cons (e_var 2) a_nil))) a_nil))))) (b_cons (s_set 6 hN (e_call G_at_place hr hx (a_cons (e_var 6) (a_cons (e_var 1) (a_cons (e_call G_kept_notice hr hx (a_cons (e_ix hu (e_var 6) (e_var 1)) (a_cons (e_var 4) a_nil))) a_nil))))) (b_one (s_ret (e_tup (a_cons (e_var 7) (a_cons (e_var 8) (a_cons (e_var 5) (a_cons (e_var 6) (a_cons (e_var 9) (a_cons (e_var 10) (a_cons (e_add (e_var 11) (e_tuple fr (a_cons (e_var 3) a_nil))) a_nil)))))))))))))
theorem ok_own_word {f : Addr} {fd : FuncData} (hm : mg "own_word" = some (.ref f)) (F : FunD K "own_word" "own_word" (defArgs s_own_word) (defBody s_own_word) (defScope s_own_word) [] [] f fd) (fr : Frees mg) (G_is_due : Good P w K mg base 2 "is_due" 6 F_is_due) (G_word_in : Good P w K mg base 1 "word_in" 2 F_word_in) (G_claim_in : Good P w K mg base 3 "claim_in" 2 F_claim_in) :
    Good P w K mg base 4 "own_word" 6 F_own_word := by
  have S : FnScope ["log", "house", "name", "number", "until", "now", "word", "claim", "other", "reach"] ["log", "house", "name", "number", "until", "now"] (defScope s_own_word) := ⟨rfl, rfl, rfl, by decide +kernel, rfl, by decide +kernel, by decide +kernel⟩
  have hN := S.nd
  refine good_def hm F (F.bindsN (ps := ["log", "house", "name", "number", "until", "now"]) fun _ _ _ _ _ _ us hl => match us, hl with | [_, _, _, _, _, _], _ => rfl) S rfl rfl fun cdv A outer s H E hr hp hx hu ht => ?_
  exact (b_cons (s_if (t_tru (e_call G_is_due hr hx (a_cons (e_var 0) (a_cons (e_var 2) (a_cons (e_var 1) (a_cons (e_var 3) (a_cons (e_var 4) (a_cons (e_var 5) a_nil)))))))) (b_one (s_ret (e_tup (a_cons (e_tup (a_cons e_str (a_cons (e_var 2) (a_cons (e_var 1) (a_cons (e_var 3) (a_cons (e_var 4) a_nil)))))) (a_cons (e_tup (a_cons e_str (a_cons (e_var 2) (a_cons (e_var 3) (a_cons (e_var 1) (a_cons (e_var 4) a_nil)))))) a_nil))))) b_nil) (b_cons (s_set 6 hN (e_call G_word_in hr hx (a_cons (e_var 0) (a_cons (e_var 2) a_nil)))) (b_cons (s_set 7 hN (e_call G_claim_in hr hx (a_cons (e_var 0) (a_cons (e_var 2) a_nil)))) (b_cons (s_if (t_w (w_or (t_eq hu (e_sl (e_var 6) o_no (o_part e_int)) (e_tup (a_cons (e_var 1) (a_cons (e_var 3) a_nil)))) (w_or (t_in hu (e_var 1) (e_ix hu (e_var 7) e_int)) (w_or1 (t_in hu (e_var 1) (e_comp [("other", 8), ("reach", 9)] rfl hN (i_seq (e_ix hu (e_var 7) e_int)) (by kernel_rfl) (fun _ _ _ _ _ => (g_tp rfl (gs_cons (g_nm 8 hN) (gs_cons (g_nm 9 hN) gs_nil)))) (fun _ _ _ _ _ => ts_nil) (fun _ _ _ _ _ => (e_var 8)))))))) (b_one (s_ret (e_tup a_nil))) b_nil) (b_one (s_ret (e_tup (a_cons (e_tup (a_cons e_str (a_cons (e_var 2) (a_cons (e_var 3) (a_cons (e_var 1) a_nil))))) a_nil))))))))
theorem ok_asked {f : Addr} {fd : FuncData} (hm : mg "asked" = some (.ref f)) (F : FunD K "asked" "asked" (defArgs s_asked) (defBody s_asked) (defScope s_asked) [] [] f fd) (fr : Frees mg) (G_own_word : Good P w K mg base 4 "own_word" 6 F_own_word) (G_other_houses : Good P w K mg base 1 "other_houses" 2 F_other_houses) (G_news_of : Good P w K mg base 5 "news_of" 6 F_news_of) (G_moved : Good P w K mg base 2 "moved" 5 F_moved) :
    Good P w K mg base 6 "asked" 5 F_asked := by
  have S : FnScope ["world", "house", "name", "number", "person", "many", "until", "log", "entries", "letters", "notice", "told", "other"] ["world", "house", "name", "number", "person"] (defScope s_asked) := ⟨rfl, rfl, rfl, by decide +kernel, rfl, by decide +kernel, by decide +kernel⟩
  have hN := S.nd
  refine good_def hm F (F.bindsN (ps := ["world", "house", "name", "number", "person"]) fun _ _ _ _ _ _ us hl => match us, hl with | [_, _, _, _, _], _ => rfl) S rfl rfl fun cdv A outer s H E hr hp hx hu ht => ?_
  exact (b_cons (s_set 5 hN (e_len fr (a_cons (e_ix hu (e_var 0) e_int) a_nil))) (b_cons (s_set 6 hN (e_add (e_ix hu (e_var 0) e_int) (e_ix hu (e_var 0) e_int))) (b_cons (s_set 7 hN (e_add (e_ix hu (e_ix hu (e_var 0) e_int) (e_var 1)) (e_tup (a_cons (e_tup (a_cons e_str (a_cons (e_var 2) (a_cons (e_var 3) (a_cons (e_var 4) (a_cons (e_var 6) a_nil)))))) a_nil)))) (b_cons (s_set 8 hN (e_call G_own_word hr hx (a_cons (e_var 7) (a_cons (e_var 1) (a_cons (e_var 2) (a_cons (e_var 3) (a_cons (e_var 6) (a_cons (e_ix hu (e_var 0) e_int) a_nil)))))))) (b_cons (s_setC 9 [("other", 12)] rfl hN (i_seq (e_call G_other_houses hr hx (a_cons (e_var 5) (a_cons (e_var 1) a_nil)))) (by kernel_rfl) (fun _ _ _ _ _ => (g_nm 12 hN)) (fun _ _ _ _ _ => ts_nil) (fun _ _ _ _ _ => (e_tup (a_cons e_str (a_cons (e_var 1) (a_cons (e_var 12) (a_cons (e_var 2) (a_cons (e_var 3) (a_cons (e_var 4) (a_cons (e_var 6) a_nil)))))))))) (b_cons (s_asg (e_call G_news_of hr hx (a_cons (e_var 5) (a_cons (e_var 1) (a_cons (e_var 7) (a_cons (e_var 8) (a_cons (e_var 2) (a_cons (e_ix hu (e_var 0) e_int) a_nil))))))) (g_tp rfl (gs_cons (g_nm 10 hN) (gs_cons (g_nm 11 hN) gs_nil)))) (b_one (s_ret (e_call G_moved hr hx (a_cons (e_var 0) (a_cons (e_var 1) (a_cons (e_add (e_sl (e_var 7) (o_part (e_negC (v := -1) e_int)) o_no) (e_var 8)) (a_cons (e_add (e_var 9) (e_var 11)) (a_cons (e_var 10) a_nil))))))))))))))
theorem ok_given_back {f : Addr} {fd : FuncData} (hm : mg "given_back" = some (.ref f)) (F : FunD K "given_back" "given_back" (defArgs s_given_back) (defBody s_given_back) (defScope s_given_back) [] [] f fd) (fr : Frees mg) (G_claim_in : Good P w K mg base 3 "claim_in" 2 F_claim_in) (G_word_in : Good P w K mg base 1 "word_in" 2 F_word_in) (G_other_houses : Good P w K mg base 1 "other_houses" 2 F_other_houses) (G_moved : Good P w K mg base 2 "moved" 5 F_moved) :
    Good P w K mg base 4 "given_back" 3 F_given_back := by
  have S : FnScope ["world", "house", "name", "log", "number", "entries", "word", "letters", "other"] ["world", "house", "name"] (defScope s_given_back) := ⟨rfl, rfl, rfl, by decide +kernel, rfl, by decide +kernel, by decide +kernel⟩
  have hN := S.nd
  refine good_def hm F (F.bindsN (ps := ["world", "house", "name"]) fun _ _ _ _ _ _ us hl => match us, hl with | [_, _, _], _ => rfl) S rfl rfl fun cdv A outer s H E hr hp hx hu ht => ?_
  exact (b_cons (s_set 3 hN (e_ix hu (e_ix hu (e_var 0) e_int) (e_var 1))) (b_cons (s_set 4 hN (e_ix hu (e_call G_claim_in hr hx (a_cons (e_var 3) (a_cons (e_var 2) a_nil))) e_int)) (b_cons (s_set 5 hN (e_lstR (a_cons (e_tup (a_cons e_str (a_cons (e_var 2) (a_cons (e_var 4) a_nil)))) a_nil))) (b_cons (s_set 6 hN (e_call G_word_in hr hx (a_cons (e_var 3) (a_cons (e_var 2) a_nil)))) (b_cons (s_if (t_w (w_and (t_isnt (e_var 6) e_non) (w_and1 (t_eq hu (e_sl (e_var 6) o_no (o_part e_int)) (e_tup (a_cons (e_var 1) (a_cons (e_var 4) a_nil))))))) (b_one (s_expr (e_append (e_var 5) (a_cons (e_tup (a_cons e_str (a_cons (e_var 2) (a_cons (e_var 1) (a_cons (e_var 4) a_nil))))) a_nil)))) b_nil) (b_cons (s_setC 7 [("other", 8)] rfl hN (i_seq (e_call G_other_houses hr hx (a_cons (e_len fr (a_cons (e_ix hu (e_var 0) e_int) a_nil)) (a_cons (e_var 1) a_nil)))) (by kernel_rfl) (fun _ _ _ _ _ => (g_nm 8 hN)) (fun _ _ _ _ _ => ts_nil) (fun _ _ _ _ _ => (e_tup (a_cons e_str (a_cons (e_var 1) (a_cons (e_var 8) (a_cons (e_var 2) (a_cons (e_var 4) a_nil)))))))) (b_one (s_ret (e_call G_moved hr hx (a_cons (e_var 0) (a_cons (e_var 1) (a_cons (e_var 5) (a_cons (e_var 7) (a_cons e_non a_nil))))))))))))))
theorem ok_carried {f : Addr} {fd : FuncData} (hm : mg "carried" = some (.ref f)) (F : FunD K "carried" "carried" (defArgs s_carried) (defBody s_carried) (defScope s_carried) [] [] f fd) (fr : Frees mg) (G_taken : Good P w K mg base 7 "taken" 5 F_taken) (G_moved : Good P w K mg base 2 "moved" 5 F_moved) :
    Good P w K mg base 8 "carried" 2 F_carried := by
  have S : FnScope ["world", "k", "letter", "house", "entries", "letters", "notice"] ["world", "k"] (defScope s_carried) := ⟨rfl, rfl, rfl, by decide +kernel, rfl, by decide +kernel, by decide +kernel⟩
  have hN := S.nd
  refine good_def hm F (F.bindsN (ps := ["world", "k"]) fun _ _ _ _ _ _ us hl => match us, hl with | [_, _], _ => rfl) S rfl rfl fun cdv A outer s H E hr hp hx hu ht => ?_
  exact (b_cons (s_set 2 hN (e_ix hu (e_ix hu (e_var 0) e_int) (e_var 1))) (b_cons (s_set 3 hN (e_ix hu (e_var 2) e_int)) (b_cons (s_asg (e_call G_taken hr hx (a_cons (e_len fr (a_cons (e_ix hu (e_var 0) e_int) a_nil)) (a_cons (e_var 3) (a_cons (e_ix hu (e_ix hu (e_var 0) e_int) (e_var 3)) (a_cons (e_var 2) (a_cons (e_ix hu (e_var 0) e_int) a_nil)))))) (g_tp rfl (gs_cons (g_nm 4 hN) (gs_cons (g_nm 5 hN) (gs_cons (g_nm 6 hN) gs_nil))))) (b_one (s_ret (e_call G_moved hr hx (a_cons (e_add (e_sl (e_var 0) o_no (o_part e_int)) (e_tup (a_cons (e_add (e_sl (e_ix hu (e_var 0) e_int) o_no (o_part (e_var 1))) (e_sl (e_ix hu (e_var 0) e_int) (o_part (e_add (e_var 1) e_int)) o_no)) a_nil))) (a_cons (e_var 3) (a_cons (e_var 4) (a_cons (e_var 5) (a_cons (e_var 6) a_nil)))))))))))
theorem ok_yard_done {f : Addr} {fd : FuncData} (hm : mg "yard_done" = some (.ref f)) (F : FunD K "yard_done" "yard_done" (defArgs s_yard_done) (defBody s_yard_done) (defScope s_yard_done) [] [] f fd) (fr : Frees mg) :
    Good P w K mg base 1 "yard_done" 3 F_yard_done := by
  have S : FnScope ["world", "word", "k", "yard"] ["world", "word", "k"] (defScope s_yard_done) := ⟨rfl, rfl, rfl, by decide +kernel, rfl, by decide +kernel, by decide +kernel⟩
  have hN := S.nd
  refine good_def hm F (F.bindsN (ps := ["world", "word", "k"]) fun _ _ _ _ _ _ us hl => match us, hl with | [_, _, _], _ => rfl) S rfl rfl fun cdv A outer s H E hr hp hx hu ht => ?_
  exact (b_cons (s_set 3 hN (e_ix hu (e_var 0) e_int)) (b_cons (s_if (t_eq hu (e_var 1) e_str) (b_one (s_ret (e_add (e_sl (e_var 0) o_no (o_part e_int)) (e_tup (a_cons (e_add (e_var 3) (e_tup (a_cons (e_ix hu (e_var 3) (e_var 2)) a_nil))) a_nil))))) b_nil) (b_one (s_ret (e_add (e_sl (e_var 0) o_no (o_part e_int)) (e_tup (a_cons (e_add (e_sl (e_var 3) o_no (o_part (e_var 2))) (e_sl (e_var 3) (o_part (e_add (e_var 2) e_int)) o_no)) a_nil)))))))
theorem ok_house_done {f : Addr} {fd : FuncData} (hm : mg "house_done" = some (.ref f)) (F : FunD K "house_done" "house_done" (defArgs s_house_done) (defBody s_house_done) (defScope s_house_done) [] [] f fd) (fr : Frees mg) (G_asked : Good P w K mg base 6 "asked" 5 F_asked) (G_next_number : Good P w K mg base 1 "next_number" 1 F_next_number) (G_claim_in : Good P w K mg base 3 "claim_in" 2 F_claim_in) (G_given_back : Good P w K mg base 4 "given_back" 3 F_given_back) :
    Good P w K mg base 7 "house_done" 2 F_house_done := by
  have S : FnScope ["world", "deed", "word", "house", "name", "claim"] ["world", "deed"] (defScope s_house_done) := ⟨rfl, rfl, rfl, by decide +kernel, rfl, by decide +kernel, by decide +kernel⟩
  have hN := S.nd
  refine good_def hm F (F.bindsN (ps := ["world", "deed"]) fun _ _ _ _ _ _ us hl => match us, hl with | [_, _], _ => rfl) S rfl rfl fun cdv A outer s H E hr hp hx hu ht => ?_
  exact (b_cons (s_asg (e_sl (e_var 1) o_no (o_part e_int)) (g_tp rfl (gs_cons (g_nm 2 hN) (gs_cons (g_nm 3 hN) (gs_cons (g_nm 4 hN) gs_nil))))) (b_cons (s_if (t_eq hu (e_var 2) e_str) (b_one (s_ret (e_call G_asked hr hx (a_cons (e_var 0) (a_cons (e_var 3) (a_cons (e_var 4) (a_cons (e_call G_next_number hr hx (a_cons (e_ix hu (e_ix hu (e_var 0) e_int) (e_var 3)) a_nil)) (a_cons (e_ix hu (e_var 1) e_int) a_nil)))))))) b_nil) (b_cons (s_if (t_eq hu (e_var 2) e_str) (b_cons (s_set 5 hN (e_call G_claim_in hr hx (a_cons (e_ix hu (e_ix hu (e_var 0) e_int) (e_var 3)) (a_cons (e_var 4) a_nil)))) (b_one (s_ret (e_call G_asked hr hx (a_cons (e_var 0) (a_cons (e_var 3) (a_cons (e_var 4) (a_cons (e_ix hu (e_var 5) e_int) (a_cons (e_ix hu (e_var 5) e_int) a_nil))))))))) b_nil) (b_one (s_ret (e_call G_given_back hr hx (a_cons (e_var 0) (a_cons (e_var 3) (a_cons (e_var 4) a_nil)))))))))
theorem ok_net_done {f : Addr} {fd : FuncData} (hm : mg "net_done" = some (.ref f)) (F : FunD K "net_done" "net_done" (defArgs s_net_done) (defBody s_net_done) (defScope s_net_done) [] [] f fd) (fr : Frees mg) (G_at_place : Good P w K mg base 1 "at_place" 3 F_at_place) :
    Good P w K mg base 2 "net_done" 2 F_net_done := by
  have S : FnScope ["world", "deed", "word", "now", "term", "logs", "notices", "down", "side", "yard", "house"] ["world", "deed"] (defScope s_net_done) := ⟨rfl, rfl, rfl, by decide +kernel, rfl, by decide +kernel, by decide +kernel⟩
  have hN := S.nd
  refine good_def hm F (F.bindsN (ps := ["world", "deed"]) fun _ _ _ _ _ _ us hl => match us, hl with | [_, _], _ => rfl) S rfl rfl fun cdv A outer s H E hr hp hx hu ht => ?_
  exact (b_cons (s_asg (e_var 0) (g_tp rfl (gs_cons (g_nm 3 hN) (gs_cons (g_nm 4 hN) (gs_cons (g_nm 5 hN) (gs_cons (g_nm 6 hN) (gs_cons (g_nm 7 hN) (gs_cons (g_nm 8 hN) (gs_cons (g_nm 9 hN) gs_nil))))))))) (b_cons (s_set 2 hN (e_ix hu (e_var 1) e_int)) (b_cons (s_if (t_eq hu (e_var 2) e_str) (b_one (s_ret (e_tup (a_cons (e_var 3) (a_cons (e_var 4) (a_cons (e_var 5) (a_cons (e_call G_at_place hr hx (a_cons (e_var 6) (a_cons (e_ix hu (e_var 1) e_int) (a_cons (e_tup a_nil) a_nil)))) (a_cons (e_tuple fr (a_cons (e_sortedTup fr (a_cons (e_add (e_var 7) (e_tup (a_cons (e_ix hu (e_var 1) e_int) a_nil))) a_nil)) a_nil)) (a_cons (e_var 8) (a_cons (e_var 9) a_nil)))))))))) b_nil) (b_cons (s_if (t_eq hu (e_var 2) e_str) (b_one (s_ret (e_tup (a_cons (e_var 3) (a_cons (e_var 4) (a_cons (e_var 5) (a_cons (e_var 6) (a_cons (e_tuple fr (a_cons (e_comp [("house", 10)] rfl hN (i_seq (e_var 7)) (by kernel_rfl) (fun _ _ _ _ _ => (g_nm 10 hN)) (fun _ _ _ _ _ => (ts_one (t_ne hu (e_var 10) (e_ix hu (e_var 1) e_int)))) (fun _ _ _ _ _ => (e_var 10))) a_nil)) (a_cons (e_var 8) (a_cons (e_var 9) a_nil)))))))))) b_nil) (b_cons (s_if (t_eq hu (e_var 2) e_str) (b_one (s_ret (e_tup (a_cons (e_var 3) (a_cons (e_var 4) (a_cons (e_var 5) (a_cons (e_var 6) (a_cons (e_var 7) (a_cons (e_ix hu (e_var 1) e_int) (a_cons (e_var 9) a_nil)))))))))) b_nil) (b_cons (s_if (t_eq hu (e_var 2) e_str) (b_one (s_ret (e_tup (a_cons (e_var 3) (a_cons (e_var 4) (a_cons (e_var 5) (a_cons (e_var 6) (a_cons (e_var 7) (a_cons (e_tup a_nil) (a_cons (e_var 9) a_nil)))))))))) b_nil) (b_one (s_ret (e_tup (a_cons (e_add (e_var 3) e_int) (a_cons (e_var 4) (a_cons (e_var 5) (a_cons (e_var 6) (a_cons (e_var 7) (a_cons (e_var 8) (a_cons (e_var 9) a_nil))))))))))))))))
theorem ok_done {f : Addr} {fd : FuncData} (hm : mg "done" = some (.ref f)) (F : FunD K "done" "done" (defArgs s_done) (defBody s_done) (defScope s_done) [] [] f fd) (fr : Frees mg) (c_E : ExnOk K mg Y_all) (G_is_deed : Good P w K mg base 5 "is_deed" 2 F_is_deed) (G_need_letter : Good P w K mg base 1 "need_letter" 2 F_need_letter) (G_need_up : Good P w K mg base 1 "need_up" 2 F_need_up) (G_need_way : Good P w K mg base 2 "need_way" 2 F_need_way) (G_need_claim : Good P w K mg base 5 "need_claim" 2 F_need_claim) (G_house_done : Good P w K mg base 7 "house_done" 2 F_house_done) (G_carried : Good P w K mg base 8 "carried" 2 F_carried) (G_yard_done : Good P w K mg base 1 "yard_done" 3 F_yard_done) (G_net_done : Good P w K mg base 2 "net_done" 2 F_net_done) :
    Good P w K mg base 9 "done" 2 F_done := by
  have S : FnScope ["world", "deed"] ["world", "deed"] (defScope s_done) := ⟨rfl, rfl, rfl, by decide +kernel, rfl, by decide +kernel, by decide +kernel⟩
  have hN := S.nd
  refine good_def hm F (F.bindsN (ps := ["world", "deed"]) fun _ _ _ _ _ _ us hl => match us, hl with | [_, _], _ => rfl) S rfl rfl fun cdv A outer s H E hr hp hx hu ht => ?_
  exact (b_cons (s_if (t_not (t_tru (e_call G_is_deed hr hx (a_cons (e_len fr (a_cons (e_ix hu (e_var 0) e_int) a_nil)) (a_cons (e_var 1) a_nil))))) (b_one (s_raise c_E ht rfl)) b_nil) (b_cons (s_expr (e_call G_need_letter hr hx (a_cons (e_var 0) (a_cons (e_var 1) a_nil)))) (b_cons (s_expr (e_call G_need_up hr hx (a_cons (e_var 0) (a_cons (e_var 1) a_nil)))) (b_cons (s_expr (e_call G_need_way hr hx (a_cons (e_var 0) (a_cons (e_var 1) a_nil)))) (b_cons (s_expr (e_call G_need_claim hr hx (a_cons (e_var 0) (a_cons (e_var 1) a_nil)))) (b_cons (s_if (t_in hu (e_ix hu (e_var 1) e_int) (e_tup (a_cons e_str (a_cons e_str (a_cons e_str a_nil))))) (b_one (s_ret (e_call G_house_done hr hx (a_cons (e_var 0) (a_cons (e_var 1) a_nil))))) b_nil) (b_cons (s_if (t_eq hu (e_ix hu (e_var 1) e_int) e_str) (b_one (s_ret (e_call G_carried hr hx (a_cons (e_var 0) (a_cons (e_ix hu (e_var 1) e_int) a_nil))))) b_nil) (b_cons (s_if (t_in hu (e_ix hu (e_var 1) e_int) (e_tup (a_cons e_str (a_cons e_str a_nil)))) (b_one (s_ret (e_call G_yard_done hr hx (a_cons (e_var 0) (a_cons (e_ix hu (e_var 1) e_int) (a_cons (e_ix hu (e_var 1) e_int) a_nil)))))) b_nil) (b_one (s_ret (e_call G_net_done hr hx (a_cons (e_var 0) (a_cons (e_var 1) a_nil)))))))))))))
theorem ok_first_carried {f : Addr} {fd : FuncData} (hm : mg "first_carried" = some (.ref f)) (F : FunD K "first_carried" "first_carried" (defArgs s_first_carried) (defBody s_first_carried) (defScope s_first_carried) [] [] f fd) (fr : Frees mg) (G_can_be_carried : Good P w K mg base 2 "can_be_carried" 2 F_can_be_carried) :
    Good P w K mg base 3 "first_carried" 1 F_first_carried := by
  have S : FnScope ["world", "k", "letter"] ["world"] (defScope s_first_carried) := ⟨rfl, rfl, rfl, by decide +kernel, rfl, by decide +kernel, by decide +kernel⟩
  have hN := S.nd
  refine good_def hm F (F.bindsN (ps := ["world"]) fun _ _ _ _ _ _ us hl => match us, hl with | [_], _ => rfl) S rfl rfl fun cdv A outer s H E hr hp hx hu ht => ?_
  exact (b_cons (s_for [1, 2] hp rfl (i_enumT rfl fr.enumerate (a_cons (e_ix hu (e_var 0) e_int) a_nil)) (g_tp rfl (gs_cons (g_nm 1 hN) (gs_cons (g_nm 2 hN) gs_nil))) (b_one (s_if (t_tru (e_call G_can_be_carried hr hx (a_cons (e_var 0) (a_cons (e_var 2) a_nil)))) (b_one (s_ret (e_var 1))) b_nil))) (b_one (s_ret e_non)))
theorem ok_quiet_round {f : Addr} {fd : FuncData} (hm : mg "quiet_round" = some (.ref f)) (F : FunD K "quiet_round" "quiet_round" (defArgs s_quiet_round) (defBody s_quiet_round) (defScope s_quiet_round) [] [] f fd) (fr : Frees mg) (G_first_carried : Good P w K mg base 3 "first_carried" 1 F_first_carried) (G_done : Good P w K mg base 9 "done" 2 F_done) :
    Good P w K mg base 10 "quiet_round" 1 F_quiet_round := by
  have S : FnScope ["world", "place"] ["world"] (defScope s_quiet_round) := ⟨rfl, rfl, rfl, by decide +kernel, rfl, by decide +kernel, by decide +kernel⟩
  have hN := S.nd
  refine good_def hm F (F.bindsN (ps := ["world"]) fun _ _ _ _ _ _ us hl => match us, hl with | [_], _ => rfl) S rfl rfl fun cdv A outer s H E hr hp hx hu ht => ?_
  exact (b_cons (s_set 1 hN (e_call G_first_carried hr hx (a_cons (e_var 0) a_nil))) (b_cons (s_while [] hp (t_isnt (e_var 1) e_non) (b_cons (s_set 0 hN (e_call G_done hr hx (a_cons (e_var 0) (a_cons (e_tup (a_cons e_str (a_cons (e_var 1) a_nil))) a_nil)))) (b_one (s_set 1 hN (e_call G_first_carried hr hx (a_cons (e_var 0) a_nil)))))) (b_one (s_ret (e_call G_done hr hx (a_cons (e_var 0) (a_cons (e_tup (a_cons e_str a_nil)) a_nil)))))))
theorem ok_quiet_rounds {f : Addr} {fd : FuncData} (hm : mg "quiet_rounds" = some (.ref f)) (F : FunD K "quiet_rounds" "quiet_rounds" (defArgs s_quiet_rounds) (defBody s_quiet_rounds) (defScope s_quiet_rounds) [] [] f fd) (fr : Frees mg) (G_quiet_round : Good P w K mg base 10 "quiet_round" 1 F_quiet_round) :
    Good P w K mg base 11 "quiet_rounds" 2 F_quiet_rounds := by
  have S : FnScope ["world", "rounds", "turn"] ["world", "rounds"] (defScope s_quiet_rounds) := ⟨rfl, rfl, rfl, by decide +kernel, rfl, by decide +kernel, by decide +kernel⟩
  have hN := S.nd
  refine good_def hm F (F.bindsN (ps := ["world", "rounds"]) fun _ _ _ _ _ _ us hl => match us, hl with | [_, _], _ => rfl) S rfl rfl fun cdv A outer s H E hr hp hx hu ht => ?_
  exact (b_cons (s_for [2] hp rfl (i_range1 rfl fr.range (a_cons (e_var 1) a_nil)) (g_nm 2 hN) (b_one (s_set 0 hN (e_call G_quiet_round hr hx (a_cons (e_var 0) a_nil))))) (b_one (s_ret (e_var 0))))
theorem ok_claimed_surely {f : Addr} {fd : FuncData} (hm : mg "claimed_surely" = some (.ref f)) (F : FunD K "claimed_surely" "claimed_surely" (defArgs s_claimed_surely) (defBody s_claimed_surely) (defScope s_claimed_surely) [] [] f fd) (fr : Frees mg) (c_E : ExnOk K mg Y_all) (G_is_house : Good P w K mg base 2 "is_house" 2 F_is_house) (G_is_name : Good P w K mg base 1 "is_name" 1 F_is_name) (G_done : Good P w K mg base 9 "done" 2 F_done) (G_quiet_rounds : Good P w K mg base 11 "quiet_rounds" 2 F_quiet_rounds) (G_claim_in : Good P w K mg base 3 "claim_in" 2 F_claim_in) (G_quiet_round : Good P w K mg base 10 "quiet_round" 1 F_quiet_round) :
    Good P w K mg base 12 "claimed_surely" 4 F_claimed_surely := by
  have S : FnScope ["world", "house", "name", "person", "found", "other"] ["world", "house", "name", "person"] (defScope s_claimed_surely) := ⟨rfl, rfl, rfl, by decide +kernel, rfl, by decide +kernel, by decide +kernel⟩
  have hN := S.nd
  refine good_def hm F (F.bindsN (ps := ["world", "house", "name", "person"]) fun _ _ _ _ _ _ us hl => match us, hl with | [_, _, _, _], _ => rfl) S rfl rfl fun cdv A outer s H E hr hp hx hu ht => ?_
  exact (b_cons (s_if (t_w (w_or (t_not (t_tru (e_call G_is_house hr hx (a_cons (e_len fr (a_cons (e_ix hu (e_var 0) e_int) a_nil)) (a_cons (e_var 1) a_nil))))) (w_or (t_not (t_tru (e_call G_is_name hr hx (a_cons (e_var 2) a_nil)))) (w_or1 (t_not (t_tru (e_call G_is_name hr hx (a_cons (e_var 3) a_nil)))))))) (b_one (s_raise c_E ht rfl)) b_nil) (b_cons (s_set 4 hN (e_call G_done hr hx (a_cons (e_var 0) (a_cons (e_tup (a_cons e_str a_nil)) a_nil)))) (b_cons (s_for [5] hp rfl (i_seq (e_ix hu (e_var 0) e_int)) (g_nm 5 hN) (b_one (s_set 4 hN (e_call G_done hr hx (a_cons (e_var 4) (a_cons (e_tup (a_cons e_str (a_cons (e_var 5) a_nil))) a_nil)))))) (b_cons (s_set 4 hN (e_call G_done hr hx (a_cons (e_call G_quiet_rounds hr hx (a_cons (e_var 4) (a_cons (e_ix hu (e_var 0) e_int) a_nil))) (a_cons (e_tup (a_cons e_str (a_cons (e_var 1) (a_cons (e_var 2) (a_cons (e_var 3) a_nil))))) a_nil)))) (b_one (s_ret (e_tup (a_cons (e_call G_quiet_round hr hx (a_cons (e_var 4) a_nil)) (a_cons (e_ix hu (e_call G_claim_in hr hx (a_cons (e_ix hu (e_ix hu (e_var 4) e_int) (e_var 1)) (a_cons (e_var 2) a_nil))) e_int) a_nil)))))))))
theorem ok__law_mixed {f : Addr} {fd : FuncData} (hm : mg "_law_mixed" = some (.ref f)) (F : FunD K "_law_mixed" "_law_mixed" (defArgs s__law_mixed) (defBody s__law_mixed) (defScope s__law_mixed) [] [] f fd) (fr : Frees mg) :
    Good P w K mg base 1 "_law_mixed" 2 F__law_mixed := by
  have S : FnScope ["cell", "k", "number"] ["cell", "k"] (defScope s__law_mixed) := ⟨rfl, rfl, rfl, by decide +kernel, rfl, by decide +kernel, by decide +kernel⟩
  have hN := S.nd
  refine good_def hm F (F.bindsN (ps := ["cell", "k"]) fun _ _ _ _ _ _ us hl => match us, hl with | [_, _], _ => rfl) S rfl rfl fun cdv A outer s H E hr hp hx hu ht => ?_
  exact (b_cons (s_set 2 hN (e_mod (e_mul (e_add (e_add (e_mod (e_var 0) e_int) (e_mul e_int (e_var 1))) e_int) e_int) e_int)) (b_cons (s_set 2 hN (e_mod (e_mul (e_var 2) (e_var 2)) e_int)) (b_one (s_ret (e_fdiv (e_mod (e_mul (e_add (e_var 2) (e_mul e_int (e_add (e_var 1) e_int))) e_int) e_int) e_int)))))
theorem ok__law_pot {f : Addr} {fd : FuncData} (hm : mg "_law_pot" = some (.ref f)) (F : FunD K "_law_pot" "_law_pot" (defArgs s__law_pot) (defBody s__law_pot) (defScope s__law_pot) [] [] f fd) (fr : Frees mg) :
    Good P w K mg base 1 "_law_pot" 1 F__law_pot := by
  have S : FnScope ["cell"] ["cell"] (defScope s__law_pot) := ⟨rfl, rfl, rfl, by decide +kernel, rfl, by decide +kernel, by decide +kernel⟩
  have hN := S.nd
  refine good_def hm F (F.bindsN (ps := ["cell"]) fun _ _ _ _ _ _ us hl => match us, hl with | [_], _ => rfl) S rfl rfl fun cdv A outer s H E hr hp hx hu ht => ?_
  exact (b_one (s_ret (e_lstR (a_cons (e_mul (e_mod (e_var 0) (e_mulC (v := 100000000000000000000000000000000000000000000000000000000000000000000000000000000000000000000000000000000000000000000000000000000000000000000000000000000000000000000000000000000000000000000000000000000) (e_mulC (v := 1000000000000000000000000000000000000000000000000000000000000000000000000000000000000000000000000000000000000000000000000000000000000000000000000000000) (e_mulC (v := 10000000000000000000000000000000000000000000000000000000000000000000000000000000000000000000000000000) (e_powC (v := 100000000000000000000000000000000000000000000000000)) (e_powC (v := 100000000000000000000000000000000000000000000000000))) (e_powC (v := 100000000000000000000000000000000000000000000000000))) (e_powC (v := 100000000000000000000000000000000000000000000000000)))) (e_toint fr (a_cons (e_ge (e_var 0) (e_powC (v := 1000000000000000000))) a_nil))) (a_cons (e_var 0) (a_cons e_int a_nil))))))
theorem ok__law_take {f : Addr} {fd : FuncData} (hm : mg "_law_take" = some (.ref f)) (F : FunD K "_law_take" "_law_take" (defArgs s__law_take) (defBody s__law_take) (defScope s__law_take) [] [] f fd) (fr : Frees mg) (G__law_mixed : Good P w K mg base 1 "_law_mixed" 2 F__law_mixed) :
    Good P w K mg base 2 "_law_take" 2 F__law_pull := by
  have S : FnScope ["pot", "many", "told"] ["pot", "many"] (defScope s__law_take) := ⟨rfl, rfl, rfl, by decide +kernel, rfl, by decide +kernel, by decide +kernel⟩
  have hN := S.nd
  refine good_def hm F (F.bindsN (ps := ["pot", "many"]) fun _ _ _ _ _ _ us hl => match us, hl with | [_, _], _ => rfl) S rfl rfl fun cdv A outer s H E hr hp hx hu ht => ?_
  exact (b_cons (s_put hu (e_var 0) e_int (e_add (e_ix hu (e_var 0) e_int) e_int)) (b_cons (s_if (t_gt (e_ix hu (e_var 0) e_int) e_int) (b_cons (s_set 2 hN (e_mod (e_ix hu (e_var 0) e_int) (e_var 1))) (b_cons (s_put hu (e_var 0) e_int (e_fdiv (e_ix hu (e_var 0) e_int) (e_var 1))) (b_one (s_ret (e_var 2))))) b_nil) (b_one (s_ret (e_mod (e_call G__law_mixed hr hx (a_cons (e_ix hu (e_var 0) e_int) (a_cons (e_ix hu (e_var 0) e_int) a_nil))) (e_var 1))))))
theorem ok__law_names {f : Addr} {fd : FuncData} (hm : mg "_law_names" = some (.ref f)) (F : FunD K "_law_names" "_law_names" (defArgs s__law_names) (defBody s__law_names) (defScope s__law_names) [] [] f fd) (fr : Frees mg) (G__law_mixed : Good P w K mg base 1 "_law_mixed" 2 F__law_mixed) :
    Good P w K mg base 2 "_law_names" 1 F__law_names := by
  have S : FnScope ["pot", "letters", "many", "word", "at", "other", "found", "k", "name"] ["pot"] (defScope s__law_names) := ⟨rfl, rfl, rfl, by decide +kernel, rfl, by decide +kernel, by decide +kernel⟩
  have hN := S.nd
  refine good_def hm F (F.bindsN (ps := ["pot"]) fun _ _ _ _ _ _ us hl => match us, hl with | [_], _ => rfl) S rfl rfl fun cdv A outer s H E hr hp hx hu ht => ?_
  exact (b_cons (s_set 1 hN e_str) (b_cons (s_set 2 hN (e_add e_int (e_mod (e_call G__law_mixed hr hx (a_cons (e_ix hu (e_var 0) e_int) (a_cons e_int a_nil))) e_int))) (b_cons (s_set 3 hN (e_join e_str (a_cons (e_comp [("k", 7)] rfl hN (i_range1 rfl fr.range (a_cons (e_var 2) a_nil)) (by kernel_rfl) (fun _ _ _ _ _ => (g_nm 7 hN)) (fun _ _ _ _ _ => ts_nil) (fun _ _ _ _ _ => (e_ix hu (e_var 1) (e_mod (e_call G__law_mixed hr passL (a_cons (e_ix hu (e_var 0) e_int) (a_cons (e_add e_int (e_var 7)) a_nil))) e_int)))) a_nil))) (b_cons (s_set 4 hN (e_mod (e_call G__law_mixed hr hx (a_cons (e_ix hu (e_var 0) e_int) (a_cons e_int a_nil))) (e_var 2))) (b_cons (s_set 5 hN (e_ix hu (e_var 1) (e_mod (e_add (e_add (e_find (e_var 1) (a_cons (e_ix hu (e_var 3) (e_var 4)) a_nil)) e_int) (e_mod (e_call G__law_mixed hr hx (a_cons (e_ix hu (e_var 0) e_int) (a_cons e_int a_nil))) e_int)) e_int))) (b_cons (s_set 6 hN (e_lst (a_cons e_str (a_cons e_str (a_cons e_str (a_cons e_str (a_cons (e_var 3) (a_cons (e_add (e_add (e_sl (e_var 3) o_no (o_part (e_var 4))) (e_var 5)) (e_sl (e_var 3) (o_part (e_add (e_var 4) e_int)) o_no)) a_nil)))))))) (b_one (s_ret (e_sortedT rfl fr (a_cons (e_dictP rfl fr (a_cons (e_comp [("name", 8)] rfl hN (i_seq (e_var 6)) (by kernel_rfl) (fun _ _ _ _ _ => (g_nm 8 hN)) (fun _ _ _ _ _ => ts_nil) (fun _ _ _ _ _ => (e_tup (a_cons (e_var 8) (a_cons e_bl a_nil))))) a_nil)) a_nil))))))))))
theorem ok__law_side {f : Addr} {fd : FuncData} (hm : mg "_law_side" = some (.ref f)) (F : FunD K "_law_side" "_law_side" (defArgs s__law_side) (defBody s__law_side) (defScope s__law_side) [] [] f fd) (fr : Frees mg) (G__law_take : Good P w K mg base 2 "_law_take" 2 F__law_pull) :
    Good P w K mg base 3 "_law_side" 2 F__law_side := by
  have S : FnScope ["pot", "many", "house"] ["pot", "many"] (defScope s__law_side) := ⟨rfl, rfl, rfl, by decide +kernel, rfl, by decide +kernel, by decide +kernel⟩
  have hN := S.nd
  refine good_def hm F (F.bindsN (ps := ["pot", "many"]) fun _ _ _ _ _ _ us hl => match us, hl with | [_, _], _ => rfl) S rfl rfl fun cdv A outer s H E hr hp hx hu ht => ?_
  exact (b_one (s_ret (e_tuple fr (a_cons (e_comp [("house", 2)] rfl hN (i_range1 rfl fr.range (a_cons (e_var 1) a_nil)) (by kernel_rfl) (fun _ _ _ _ _ => (g_nm 2 hN)) (fun _ _ _ _ _ => (ts_one (t_eq hu (e_call G__law_take hr passL (a_cons (e_var 0) (a_cons e_int a_nil))) e_int))) (fun _ _ _ _ _ => (e_var 2))) a_nil))))
theorem ok__law_deed {f : Addr} {fd : FuncData} (hm : mg "_law_deed" = some (.ref f)) (F : FunD K "_law_deed" "_law_deed" (defArgs s__law_deed) (defBody s__law_deed) (defScope s__law_deed) [] [] f fd) (fr : Frees mg) (G__law_take : Good P w K mg base 2 "_law_take" 2 F__law_pull) (G__law_names : Good P w K mg base 2 "_law_names" 1 F__law_names) (G__law_side : Good P w K mg base 3 "_law_side" 2 F__law_side) :
    Good P w K mg base 4 "_law_deed" 2 F__law_deed := by
  have S : FnScope ["pot", "world", "many", "house", "names", "name", "at", "way", "deeds", "side"] ["pot", "world"] (defScope s__law_deed) := ⟨rfl, rfl, rfl, by decide +kernel, rfl, by decide +kernel, by decide +kernel⟩
  have hN := S.nd
  refine good_def hm F (F.bindsN (ps := ["pot", "world"]) fun _ _ _ _ _ _ us hl => match us, hl with | [_, _], _ => rfl) S rfl rfl fun cdv A outer s H E hr hp hx hu ht => ?_
  exact (b_cons (s_set 2 hN (e_len fr (a_cons (e_ix hu (e_var 1) e_int) a_nil))) (b_cons (s_set 3 hN (e_call G__law_take hr hx (a_cons (e_var 0) (a_cons (e_var 2) a_nil)))) (b_cons (s_set 4 hN (e_call G__law_names hr hx (a_cons (e_var 0) a_nil))) (b_cons (s_set 5 hN (e_ix hu (e_add (e_lst (a_cons e_str (a_cons e_str (a_cons e_str a_nil)))) (e_var 4)) (e_call G__law_take hr hx (a_cons (e_var 0) (a_cons (e_add e_int (e_len fr (a_cons (e_var 4) a_nil))) a_nil))))) (b_cons (s_set 6 hN (e_call G__law_take hr hx (a_cons (e_var 0) (a_cons (e_max2 rfl fr (a_cons e_int (a_cons (e_len fr (a_cons (e_ix hu (e_var 1) e_int) a_nil)) a_nil))) a_nil)))) (b_cons (s_set 7 hN (e_call G__law_take hr hx (a_cons (e_var 0) (a_cons e_int a_nil)))) (b_cons (s_if (t_gt (e_len fr (a_cons (e_ix hu (e_var 1) e_int) a_nil)) e_int) (b_one (s_set 7 hN e_int)) b_nil) (b_cons (s_if (t_lt (e_var 7) e_int) (b_one (s_ret (e_tup (a_cons (e_ix hu (e_lst (a_cons e_str (a_cons e_str (a_cons e_str (a_cons e_str (a_cons e_str (a_cons e_str (a_cons e_str (a_cons e_str (a_cons e_str a_nil)))))))))) (e_var 7)) (a_cons (e_var 6) a_nil))))) b_nil) (b_cons (s_if (t_eq hu (e_var 7) e_int) (b_one (s_ret (e_tup (a_cons e_str a_nil)))) b_nil) (b_cons (s_if (t_lt (e_var 7) e_int) (b_one (s_ret (e_tup (a_cons e_str (a_cons (e_var 3) (a_cons (e_var 5) (a_cons (e_ix hu (e_add (e_lst (a_cons e_str (a_cons e_str a_nil))) (e_var 4)) (e_call G__law_take hr hx (a_cons (e_var 0) (a_cons (e_add e_int (e_len fr (a_cons (e_var 4) a_nil))) a_nil)))) a_nil))))))) b_nil) (b_cons (s_if (t_eq hu (e_var 7) e_int) (b_cons (s_set 9 hN (e_call G__law_side hr hx (a_cons (e_var 0) (a_cons (e_var 2) a_nil)))) (b_one (s_ret (e_ix hu (e_lst (a_cons (e_tup (a_cons e_str (a_cons (e_var 9) a_nil))) (a_cons (e_tup (a_cons e_str a_nil)) a_nil))) (e_toint fr (a_cons (e_or (e_eq hu (e_var 9) (e_tup a_nil)) (e_one (e_eq hu (e_len fr (a_cons (e_var 9) a_nil)) (e_var 2)))) a_nil)))))) b_nil) (b_cons (s_set 8 hN (e_lst (a_cons (e_tup (a_cons e_str (a_cons (e_var 3) (a_cons (e_var 5) a_nil)))) (a_cons (e_tup (a_cons e_str (a_cons (e_var 3) (a_cons (e_var 5) a_nil)))) (a_cons (e_tup (a_cons e_str (a_cons (e_var 3) a_nil))) (a_cons (e_tup (a_cons e_str (a_cons (e_var 3) a_nil))) (a_cons (e_tup (a_cons e_str a_nil)) a_nil))))))) (b_one (s_ret (e_ix hu (e_add (e_var 8) (e_lst (a_cons (e_tup (a_cons e_str a_nil)) (a_cons (e_tup (a_cons e_str a_nil)) a_nil)))) (e_sub (e_var 7) e_int))))))))))))))))
theorem ok__law_behind {f : Addr} {fd : FuncData} (hm : mg "_law_behind" = some (.ref f)) (F : FunD K "_law_behind" "_law_behind" (defArgs s__law_behind) (defBody s__law_behind) (defScope s__law_behind) [] [] f fd) (fr : Frees mg) (c_E : ExnOk K mg Y_all) (G_done : Good P w K mg base 9 "done" 2 F_done) :
    Good P w K mg base 10 "_law_behind" 2 F__law_behind_o := by
  have S : FnScope ["world", "deed", "found"] ["world", "deed"] (defScope s__law_behind) := ⟨rfl, rfl, rfl, by decide +kernel, rfl, by decide +kernel, by decide +kernel⟩
  have hN := S.nd
  refine good_def hm F (F.bindsN (ps := ["world", "deed"]) fun _ _ _ _ _ _ us hl => match us, hl with | [_, _], _ => rfl) S rfl rfl fun cdv A outer s H E hr hp hx hu ht => ?_
  exact (b_cons (s_set 2 hN e_non) (b_cons (s_tryN c_E ht rfl rfl (y_set 2 hN G_done hr (fun _ _ => (a_cons (e_var 0) (a_cons (e_var 1) a_nil)))) (h_cons (fun _ _ => (b_one (s_set 2 hN e_non))) h_nil)) (b_one (s_ret (e_var 2)))))
theorem ok__law_run {f : Addr} {fd : FuncData} (hm : mg "_law_run" = some (.ref f)) (F : FunD K "_law_run" "_law_run" (defArgs s__law_run) (defBody s__law_run) (defScope s__law_run) [] [] f fd) (fr : Frees mg) (G_world_of : Good P w K mg base 2 "world_of" 2 F_world_of) (G__law_behind : Good P w K mg base 10 "_law_behind" 2 F__law_behind_o) (G__law_deed : Good P w K mg base 4 "_law_deed" 2 F__law_deed) :
    Good P w K mg base 11 "_law_run" 4 F__law_run_o := by
  have S : FnScope ["pot", "many", "term", "size", "world", "k", "there"] ["pot", "many", "term", "size"] (defScope s__law_run) := ⟨rfl, rfl, rfl, by decide +kernel, rfl, by decide +kernel, by decide +kernel⟩
  have hN := S.nd
  refine good_def hm F (F.bindsN (ps := ["pot", "many", "term", "size"]) fun _ _ _ _ _ _ us hl => match us, hl with | [_, _, _, _], _ => rfl) S rfl rfl fun cdv A outer s H E hr hp hx hu ht => ?_
  exact (b_cons (s_set 4 hN (e_call G_world_of hr hx (a_cons (e_var 1) (a_cons (e_var 2) a_nil)))) (b_cons (s_for [5, 6] hp rfl (i_range1 rfl fr.range (a_cons (e_var 3) a_nil)) (g_nm 5 hN) (b_cons (s_set 6 hN (e_call G__law_behind hr hx (a_cons (e_var 4) (a_cons (e_call G__law_deed hr hx (a_cons (e_var 0) (a_cons (e_var 4) a_nil))) a_nil)))) (b_one (s_if (t_isnt (e_var 6) e_non) (b_one (s_set 4 hN (e_var 6))) b_nil)))) (b_one (s_ret (e_var 4)))))
theorem ok__law_refused {f : Addr} {fd : FuncData} (hm : mg "_law_refused" = some (.ref f)) (F : FunD K "_law_refused" "_law_refused" (defArgs s__law_refused) (defBody s__law_refused) (defScope s__law_refused) [] [] f fd) (fr : Frees mg) (c_E : ExnOk K mg Y_all) (G_claimed_surely : Good P w K mg base 12 "claimed_surely" 4 F_claimed_surely) :
    Good P w K mg base 13 "_law_refused" 4 F__law_refused := by
  have S : FnScope ["world", "house", "name", "person", "caught", "e"] ["world", "house", "name", "person"] (defScope s__law_refused) := ⟨rfl, rfl, rfl, by decide +kernel, rfl, by decide +kernel, by decide +kernel⟩
  have hN := S.nd
  refine good_def hm F (F.bindsN (ps := ["world", "house", "name", "person"]) fun _ _ _ _ _ _ us hl => match us, hl with | [_, _, _, _], _ => rfl) S rfl rfl fun cdv A outer s H E hr hp hx hu ht => ?_
  exact (b_cons (s_set 4 hN e_non) (b_cons (s_tryAs 5 hN c_E ht rfl rfl (y_drop G_claimed_surely hr (fun _ _ => (a_cons (e_var 0) (a_cons (e_var 1) (a_cons (e_var 2) (a_cons (e_var 3) a_nil)))))) (fun _ _ => (b_one (s_set 4 hN (e_var 5))))) (b_cons (s_if (t_tru (e_isx fr c_E (a_cons (e_var 4) (a_cons (e_tup (a_cons (e_cls c_E) (a_cons (e_cls c_E) (a_cons (e_cls c_E) (a_cons (e_cls c_E) (a_cons (e_cls c_E) (a_cons (e_cls c_E) (a_cons (e_cls c_E) (a_cons (e_cls c_E) a_nil))))))))) a_nil)))) (b_one (s_ret e_bl)) b_nil) (b_one (s_ret (e_and (e_isx fr c_E (a_cons (e_var 4) (a_cons (e_cls c_E) a_nil))) (e_one (e_isx fr c_E (a_cons (e_var 4) (a_cons (e_tval fr) a_nil))))))))))
theorem ok__law_no_name {f : Addr} {fd : FuncData} (hm : mg "_law_no_name" = some (.ref f)) (F : FunD K "_law_no_name" "_law_no_name" (defArgs s__law_no_name) (defBody s__law_no_name) (defScope s__law_no_name) [] [] f fd) (fr : Frees mg) (G__law_take : Good P w K mg base 2 "_law_take" 2 F__law_pull) :
    Good P w K mg base 3 "_law_no_name" 1 F__law_no_name := by
  have S : FnScope ["pot", "some", "signs", "sign"] ["pot"] (defScope s__law_no_name) := ⟨rfl, rfl, rfl, by decide +kernel, rfl, by decide +kernel, by decide +kernel⟩
  have hN := S.nd
  refine good_def hm F (F.bindsN (ps := ["pot"]) fun _ _ _ _ _ _ us hl => match us, hl with | [_], _ => rfl) S rfl rfl fun cdv A outer s H E hr hp hx hu ht => ?_
  exact (b_cons (s_set 1 hN (e_lst (a_cons e_str (a_cons e_str (a_cons e_str (a_cons e_str (a_cons e_str (a_cons e_str (a_cons e_str (a_cons e_str (a_cons e_str (a_cons e_non (a_cons e_int (a_cons e_bl (a_cons (e_lst (a_cons e_str a_nil)) (a_cons (e_tup (a_cons e_str a_nil)) (a_cons e_dictR (a_cons e_str (a_cons e_str a_nil))))))))))))))))))) (b_cons (s_set 2 hN e_str) (b_cons (s_set 3 hN (e_ix hu (e_var 2) (e_call G__law_take hr hx (a_cons (e_var 0) (a_cons (e_len fr (a_cons (e_var 2) a_nil)) a_nil))))) (b_cons (s_set 1 hN (e_add (e_var 1) (e_lst (a_cons (e_var 3) (a_cons (e_add e_str (e_var 3)) (a_cons (e_add (e_var 3) e_str) (a_cons e_str a_nil))))))) (b_one (s_ret (e_ix hu (e_var 1) (e_call G__law_take hr hx (a_cons (e_var 0) (a_cons e_int a_nil))))))))))
theorem fn_law {f : Addr} {fd : FuncData} (F : FunD K "law" "law" (defArgs s_law) (defBody s_law) (defScope s_law) [] [] f fd) (fr : Frees mg) (G__law_pot : Good P w K mg base 1 "_law_pot" 1 F__law_pot) (G__law_take : Good P w K mg base 2 "_law_take" 2 F__law_pull) (G__law_run : Good P w K mg base 11 "_law_run" 4 F__law_run_o) (G__law_no_name : Good P w K mg base 3 "_law_no_name" 1 F__law_no_name) (G__law_refused : Good P w K mg base 13 "_law_refused" 4 F__law_refused) (G_claimed_surely : Good P w K mg base 12 "claimed_surely" 4 F_claimed_surely) :
    FnOk P w K mg base (CXp P w) 14 f fd ["script"] (spF K mg 1 F_law) := by
  have S : FnScope ["script", "cell", "pot", "many", "world", "turn", "bits", "house", "name", "person", "far"] ["script"] (defScope s_law) := ⟨rfl, rfl, rfl, by decide +kernel, rfl, by decide +kernel, by decide +kernel⟩
  have hN := S.nd
  refine fn_def F S rfl rfl fun cdv A outer s H E hr hp hx hu ht => ?_
  exact (b_cons (s_for [1, 2, 3, 4, 5, 6, 7, 8, 9, 10] hp rfl (i_seq (e_add (e_sl (e_var 0) o_no (o_part e_int)) (e_lst (a_cons (e_len fr (a_cons (e_var 0) a_nil)) a_nil)))) (g_nm 1 hN) (b_cons (s_set 2 hN (e_call G__law_pot hr hx (a_cons (e_var 1) a_nil))) (b_cons (s_set 3 hN (e_add e_int (e_call G__law_take hr hx (a_cons (e_var 2) (a_cons e_int a_nil))))) (b_cons (s_set 4 hN (e_call G__law_run hr hx (a_cons (e_var 2) (a_cons (e_var 3) (a_cons (e_add e_int (e_call G__law_take hr hx (a_cons (e_var 2) (a_cons e_int a_nil)))) (a_cons (e_call G__law_take hr hx (a_cons (e_var 2) (a_cons e_int a_nil))) a_nil)))))) (b_cons (s_for [5, 6, 7, 8, 9, 10] hp rfl (i_range1 rfl fr.range (a_cons e_int a_nil)) (g_nm 5 hN) (b_cons (s_set 6 hN (e_add e_int (e_call G__law_take hr hx (a_cons (e_var 2) (a_cons e_int a_nil))))) (b_cons (s_set 7 hN (e_call G__law_take hr hx (a_cons (e_var 2) (a_cons (e_var 3) a_nil)))) (b_cons (s_set 8 hN e_str) (b_cons (s_set 9 hN e_str) (b_cons (s_if (t_eq hu (e_mod (e_var 6) e_int) e_int) (b_cons (s_set 10 hN (e_add (e_add (e_var 3) e_int) (e_call G__law_take hr hx (a_cons (e_var 2) (a_cons (e_powC (v := 1000000000)) a_nil))))) (b_one (s_set 7 hN (e_ix hu (e_lst (a_cons (e_negC (v := -1) e_int) (a_cons (e_var 3) (a_cons (e_var 10) (a_cons (e_sub e_int (e_var 10)) (a_cons e_bl (a_cons e_bl (a_cons e_non (a_cons e_str (a_cons (e_lst (a_cons e_int a_nil)) (a_cons (e_tup (a_cons e_int a_nil)) (a_cons e_dictR a_nil)))))))))))) (e_call G__law_take hr hx (a_cons (e_var 2) (a_cons e_int a_nil))))))) b_nil) (b_cons (s_if (t_eq hu (e_mod (e_fdiv (e_var 6) e_int) e_int) e_int) (b_one (s_set 8 hN (e_call G__law_no_name hr hx (a_cons (e_var 2) a_nil)))) b_nil) (b_cons (s_if (t_eq hu (e_fdiv (e_var 6) e_int) e_int) (b_one (s_set 9 hN (e_call G__law_no_name hr hx (a_cons (e_var 2) a_nil)))) b_nil) (b_one (s_if (t_not (t_tru (e_call G__law_refused hr hx (a_cons (e_var 4) (a_cons (e_var 7) (a_cons (e_var 8) (a_cons (e_var 9) a_nil))))))) (b_one (s_ret e_bl)) b_nil)))))))))) (b_one (s_if (t_lt (e_ix hu (e_call G_claimed_surely hr hx (a_cons (e_var 4) (a_cons (e_call G__law_take hr hx (a_cons (e_var 2) (a_cons (e_var 3) a_nil))) (a_cons e_str (a_cons e_str a_nil))))) e_int) e_int) (b_one (s_ret e_bl)) b_nil))))))) (b_one (s_ret e_bl)))
end
theorem facts {P : Program} {w : World} {K : PySem.W.Frag} {h : Heap} {mg : Str → Option Value} {f : Addr} (X : K.In h) (G : h.Ns mainGlobals mg) (hfa : mg ("law" : Str) = some (.ref f)) (cx : He.SaysX fa fn ts [] ex w h K) :
    ∃ fd : FuncData, (∀ (s : Shared) (v : Value), BindsTo s fd ⟨[v], []⟩ [("script", v)]) ∧ ∀ base : Heap, K.In base → base.Ns mainGlobals mg → FnOk P w K mg base (CXp P w) 14 f fd ["script"] (spF K mg 1 F_law) := by
  have c := cx.t.d
  have fr : Frees mg := ⟨He.free_ok X G (c.fact 62 (f := .free "len") rfl), He.free_ok X G (c.fact 63 (f := .free "int") rfl), He.free_ok X G (c.fact 64 (f := .free "bool") rfl), He.free_ok X G (c.fact 65 (f := .free "str") rfl), He.free_ok X G (c.fact 66 (f := .free "list") rfl), He.free_ok X G (c.fact 67 (f := .free "tuple") rfl), He.free_ok X G (c.fact 68 (f := .free "dict") rfl), He.free_ok X G (c.fact 69 (f := .free "set") rfl), He.free_ok X G (c.fact 70 (f := .free "range") rfl), He.free_ok X G (c.fact 71 (f := .free "enumerate") rfl), He.free_ok X G (c.fact 72 (f := .free "zip") rfl), He.free_ok X G (c.fact 73 (f := .free "max") rfl), He.free_ok X G (c.fact 74 (f := .free "min") rfl), He.free_ok X G (c.fact 75 (f := .free "sum") rfl), He.free_ok X G (c.fact 76 (f := .free "all") rfl), He.free_ok X G (c.fact 77 (f := .free "any") rfl), He.free_ok X G (c.fact 78 (f := .free "sorted") rfl), He.free_ok X G (c.fact 79 (f := .free "isinstance") rfl), He.free_ok X G (c.fact 80 (f := .free "repr") rfl), He.free_ok X G (c.fact 81 (f := .free "ValueError") rfl)⟩
  have c_LETTERS := He.str_ok X G (c.fact 56 (f := .str "LETTERS" "abcdefghijklmnopqrstuvwxyz") rfl)
  have c_LONGEST := He.int_ok X G (c.fact 57 (f := .int "LONGEST" 8) rfl)
  have c_MOST_HOUSES := He.int_ok X G (c.fact 58 (f := .int "MOST_HOUSES" 7) rfl)
  have c_LEAST_TERM := He.int_ok X G (c.fact 59 (f := .int "LEAST_TERM" 2) rfl)
  have c_GREATEST_TERM := He.int_ok X G (c.fact 60 (f := .int "GREATEST_TERM" 9) rfl)
  have c_FORMS := tab_ok (w := w) (tab := T_deeds) (He.glo_ok X G (c.fact 61 (f := .glo "FORMS") rfl)) (cx.t.tab 0 (t := (fun K => He.ga K "FORMS", T_deeds.map (·.1))) rfl) (ex_0 cx.more) (by decide +kernel)
  have c_E := exnB_ok (ys := Y_all) X G (ex_E cx.more)
  obtain ⟨fd_is_whole, F_is_whole_⟩ := c.def_ 0 (d := d_is_whole) rfl
  have hm_is_whole := He.glo_ok X G (c.fact 0 (f := .glo "is_whole") rfl)
  obtain ⟨fd_is_name, F_is_name_⟩ := c.def_ 1 (d := d_is_name) rfl
  have hm_is_name := He.glo_ok X G (c.fact 1 (f := .glo "is_name") rfl)
  obtain ⟨fd_is_house, F_is_house_⟩ := c.def_ 2 (d := d_is_house) rfl
  have hm_is_house := He.glo_ok X G (c.fact 2 (f := .glo "is_house") rfl)
  obtain ⟨fd_is_side, F_is_side_⟩ := c.def_ 3 (d := d_is_side) rfl
  have hm_is_side := He.glo_ok X G (c.fact 3 (f := .glo "is_side") rfl)
  obtain ⟨fd_fits, F_fits_⟩ := c.def_ 4 (d := d_fits) rfl
  have hm_fits := He.glo_ok X G (c.fact 4 (f := .glo "fits") rfl)
  obtain ⟨fd_is_deed, F_is_deed_⟩ := c.def_ 5 (d := d_is_deed) rfl
  have hm_is_deed := He.glo_ok X G (c.fact 5 (f := .glo "is_deed") rfl)
  obtain ⟨fd_needed, F_needed_⟩ := c.def_ 6 (d := d_needed) rfl
  have hm_needed := He.glo_ok X G (c.fact 6 (f := .glo "needed") rfl)
  obtain ⟨fd_reach_of, F_reach_of_⟩ := c.def_ 7 (d := d_reach_of) rfl
  have hm_reach_of := He.glo_ok X G (c.fact 7 (f := .glo "reach_of") rfl)
  obtain ⟨fd_entries_of, F_entries_of_⟩ := c.def_ 8 (d := d_entries_of) rfl
  have hm_entries_of := He.glo_ok X G (c.fact 8 (f := .glo "entries_of") rfl)
  obtain ⟨fd_word_in, F_word_in_⟩ := c.def_ 9 (d := d_word_in) rfl
  have hm_word_in := He.glo_ok X G (c.fact 9 (f := .glo "word_in") rfl)
  obtain ⟨fd_greatest_asked, F_greatest_asked_⟩ := c.def_ 10 (d := d_greatest_asked) rfl
  have hm_greatest_asked := He.glo_ok X G (c.fact 10 (f := .glo "greatest_asked") rfl)
  obtain ⟨fd_claim_in, F_claim_in_⟩ := c.def_ 11 (d := d_claim_in) rfl
  have hm_claim_in := He.glo_ok X G (c.fact 11 (f := .glo "claim_in") rfl)
  obtain ⟨fd_next_number, F_next_number_⟩ := c.def_ 12 (d := d_next_number) rfl
  have hm_next_number := He.glo_ok X G (c.fact 12 (f := .glo "next_number") rfl)
  obtain ⟨fd_other_houses, F_other_houses_⟩ := c.def_ 13 (d := d_other_houses) rfl
  have hm_other_houses := He.glo_ok X G (c.fact 13 (f := .glo "other_houses") rfl)
  obtain ⟨fd_is_due, F_is_due_⟩ := c.def_ 14 (d := d_is_due) rfl
  have hm_is_due := He.glo_ok X G (c.fact 14 (f := .glo "is_due") rfl)
  obtain ⟨fd_reach_in, F_reach_in_⟩ := c.def_ 15 (d := d_reach_in) rfl
  have hm_reach_in := He.glo_ok X G (c.fact 15 (f := .glo "reach_in") rfl)
  obtain ⟨fd_news_of, F_news_of_⟩ := c.def_ 16 (d := d_news_of) rfl
  have hm_news_of := He.glo_ok X G (c.fact 16 (f := .glo "news_of") rfl)
  obtain ⟨fd_ask_taken, F_ask_taken_⟩ := c.def_ 17 (d := d_ask_taken) rfl
  have hm_ask_taken := He.glo_ok X G (c.fact 17 (f := .glo "ask_taken") rfl)
  obtain ⟨fd_word_taken, F_word_taken_⟩ := c.def_ 18 (d := d_word_taken) rfl
  have hm_word_taken := He.glo_ok X G (c.fact 18 (f := .glo "word_taken") rfl)
  obtain ⟨fd_no_taken, F_no_taken_⟩ := c.def_ 19 (d := d_no_taken) rfl
  have hm_no_taken := He.glo_ok X G (c.fact 19 (f := .glo "no_taken") rfl)
  obtain ⟨fd_back_taken, F_back_taken_⟩ := c.def_ 20 (d := d_back_taken) rfl
  have hm_back_taken := He.glo_ok X G (c.fact 20 (f := .glo "back_taken") rfl)
  obtain ⟨fd_taken, F_taken_⟩ := c.def_ 21 (d := d_taken) rfl
  have hm_taken := He.glo_ok X G (c.fact 21 (f := .glo "taken") rfl)
  obtain ⟨fd_world_of, F_world_of_⟩ := c.def_ 22 (d := d_world_of) rfl
  have hm_world_of := He.glo_ok X G (c.fact 22 (f := .glo "world_of") rfl)
  obtain ⟨fd_at_place, F_at_place_⟩ := c.def_ 23 (d := d_at_place) rfl
  have hm_at_place := He.glo_ok X G (c.fact 23 (f := .glo "at_place") rfl)
  obtain ⟨fd_stands, F_stands_⟩ := c.def_ 24 (d := d_stands) rfl
  have hm_stands := He.glo_ok X G (c.fact 24 (f := .glo "stands") rfl)
  obtain ⟨fd_is_parted, F_is_parted_⟩ := c.def_ 25 (d := d_is_parted) rfl
  have hm_is_parted := He.glo_ok X G (c.fact 25 (f := .glo "is_parted") rfl)
  obtain ⟨fd_can_be_carried, F_can_be_carried_⟩ := c.def_ 26 (d := d_can_be_carried) rfl
  have hm_can_be_carried := He.glo_ok X G (c.fact 26 (f := .glo "can_be_carried") rfl)
  obtain ⟨fd_need_letter, F_need_letter_⟩ := c.def_ 27 (d := d_need_letter) rfl
  have hm_need_letter := He.glo_ok X G (c.fact 27 (f := .glo "need_letter") rfl)
  obtain ⟨fd_need_up, F_need_up_⟩ := c.def_ 28 (d := d_need_up) rfl
  have hm_need_up := He.glo_ok X G (c.fact 28 (f := .glo "need_up") rfl)
  obtain ⟨fd_need_way, F_need_way_⟩ := c.def_ 29 (d := d_need_way) rfl
  have hm_need_way := He.glo_ok X G (c.fact 29 (f := .glo "need_way") rfl)
  obtain ⟨fd_need_claim, F_need_claim_⟩ := c.def_ 30 (d := d_need_claim) rfl
  have hm_need_claim := He.glo_ok X G (c.fact 30 (f := .glo "need_claim") rfl)
  obtain ⟨fd_kept_notice, F_kept_notice_⟩ := c.def_ 31 (d := d_kept_notice) rfl
  have hm_kept_notice := He.glo_ok X G (c.fact 31 (f := .glo "kept_notice") rfl)
  obtain ⟨fd_moved, F_moved_⟩ := c.def_ 32 (d := d_moved) rfl
  have hm_moved := He.glo_ok X G (c.fact 32 (f := .glo "moved") rfl)
  obtain ⟨fd_own_word, F_own_word_⟩ := c.def_ 33 (d := d_own_word) rfl
  have hm_own_word := He.glo_ok X G (c.fact 33 (f := .glo "own_word") rfl)
  obtain ⟨fd_asked, F_asked_⟩ := c.def_ 34 (d := d_asked) rfl
  have hm_asked := He.glo_ok X G (c.fact 34 (f := .glo "asked") rfl)
  obtain ⟨fd_given_back, F_given_back_⟩ := c.def_ 35 (d := d_given_back) rfl
  have hm_given_back := He.glo_ok X G (c.fact 35 (f := .glo "given_back") rfl)
  obtain ⟨fd_carried, F_carried_⟩ := c.def_ 36 (d := d_carried) rfl
  have hm_carried := He.glo_ok X G (c.fact 36 (f := .glo "carried") rfl)
  obtain ⟨fd_yard_done, F_yard_done_⟩ := c.def_ 37 (d := d_yard_done) rfl
  have hm_yard_done := He.glo_ok X G (c.fact 37 (f := .glo "yard_done") rfl)
  obtain ⟨fd_house_done, F_house_done_⟩ := c.def_ 38 (d := d_house_done) rfl
  have hm_house_done := He.glo_ok X G (c.fact 38 (f := .glo "house_done") rfl)
  obtain ⟨fd_net_done, F_net_done_⟩ := c.def_ 39 (d := d_net_done) rfl
  have hm_net_done := He.glo_ok X G (c.fact 39 (f := .glo "net_done") rfl)
  obtain ⟨fd_done, F_done_⟩ := c.def_ 40 (d := d_done) rfl
  have hm_done := He.glo_ok X G (c.fact 40 (f := .glo "done") rfl)
  obtain ⟨fd_first_carried, F_first_carried_⟩ := c.def_ 41 (d := d_first_carried) rfl
  have hm_first_carried := He.glo_ok X G (c.fact 41 (f := .glo "first_carried") rfl)
  obtain ⟨fd_quiet_round, F_quiet_round_⟩ := c.def_ 42 (d := d_quiet_round) rfl
  have hm_quiet_round := He.glo_ok X G (c.fact 42 (f := .glo "quiet_round") rfl)
  obtain ⟨fd_quiet_rounds, F_quiet_rounds_⟩ := c.def_ 43 (d := d_quiet_rounds) rfl
  have hm_quiet_rounds := He.glo_ok X G (c.fact 43 (f := .glo "quiet_rounds") rfl)
  obtain ⟨fd_claimed_surely, F_claimed_surely_⟩ := c.def_ 44 (d := d_claimed_surely) rfl
  have hm_claimed_surely := He.glo_ok X G (c.fact 44 (f := .glo "claimed_surely") rfl)
  obtain ⟨fd__law_mixed, F__law_mixed_⟩ := c.def_ 45 (d := d__law_mixed) rfl
  have hm__law_mixed := He.glo_ok X G (c.fact 45 (f := .glo "_law_mixed") rfl)
  obtain ⟨fd__law_pot, F__law_pot_⟩ := c.def_ 46 (d := d__law_pot) rfl
  have hm__law_pot := He.glo_ok X G (c.fact 46 (f := .glo "_law_pot") rfl)
  obtain ⟨fd__law_take, F__law_take_⟩ := c.def_ 47 (d := d__law_take) rfl
  have hm__law_take := He.glo_ok X G (c.fact 47 (f := .glo "_law_take") rfl)
  obtain ⟨fd__law_names, F__law_names_⟩ := c.def_ 48 (d := d__law_names) rfl
  have hm__law_names := He.glo_ok X G (c.fact 48 (f := .glo "_law_names") rfl)
  obtain ⟨fd__law_side, F__law_side_⟩ := c.def_ 49 (d := d__law_side) rfl
  have hm__law_side := He.glo_ok X G (c.fact 49 (f := .glo "_law_side") rfl)
  obtain ⟨fd__law_deed, F__law_deed_⟩ := c.def_ 50 (d := d__law_deed) rfl
  have hm__law_deed := He.glo_ok X G (c.fact 50 (f := .glo "_law_deed") rfl)
  obtain ⟨fd__law_behind, F__law_behind_⟩ := c.def_ 51 (d := d__law_behind) rfl
  have hm__law_behind := He.glo_ok X G (c.fact 51 (f := .glo "_law_behind") rfl)
  obtain ⟨fd__law_run, F__law_run_⟩ := c.def_ 52 (d := d__law_run) rfl
  have hm__law_run := He.glo_ok X G (c.fact 52 (f := .glo "_law_run") rfl)
  obtain ⟨fd__law_refused, F__law_refused_⟩ := c.def_ 53 (d := d__law_refused) rfl
  have hm__law_refused := He.glo_ok X G (c.fact 53 (f := .glo "_law_refused") rfl)
  obtain ⟨fd__law_no_name, F__law_no_name_⟩ := c.def_ 54 (d := d__law_no_name) rfl
  have hm__law_no_name := He.glo_ok X G (c.fact 54 (f := .glo "_law_no_name") rfl)
  obtain ⟨fd_law, F_law_⟩ := c.def_ 55 (d := d_law) rfl
  have hm_law := He.glo_ok X G (c.fact 55 (f := .glo "law") rfl)
  have e := hfa.symm.trans hm_law
  cases e
  refine ⟨fd_law, fun s v => FunD.bindsA (ps := ["script"]) F_law_ (fun _ _ _ _ _ _ us hl => match us, hl with | [_], _ => rfl) s [v] rfl, fun base _ _ => ?_⟩
  have G_is_whole : Good P w K mg base 1 "is_whole" 1 F_is_whole := ok_is_whole hm_is_whole F_is_whole_ fr
  have G_is_name : Good P w K mg base 1 "is_name" 1 F_is_name := ok_is_name hm_is_name F_is_name_ fr c_LONGEST c_LETTERS
  have G_is_house : Good P w K mg base 2 "is_house" 2 F_is_house := ok_is_house hm_is_house F_is_house_ fr G_is_whole
  have G_is_side : Good P w K mg base 3 "is_side" 2 F_is_side := ok_is_side hm_is_side F_is_side_ fr G_is_house
  have G_fits : Good P w K mg base 4 "fits" 3 F_fits := ok_fits hm_fits F_fits_ fr G_is_house G_is_name G_is_whole G_is_side
  have G_is_deed : Good P w K mg base 5 "is_deed" 2 F_is_deed := ok_is_deed hm_is_deed F_is_deed_ fr c_FORMS G_fits
  have G_needed : Good P w K mg base 1 "needed" 1 F_needed := ok_needed hm_needed F_needed_ fr
  have G_reach_of : Good P w K mg base 2 "reach_of" 2 F_reach_of := ok_reach_of hm_reach_of F_reach_of_ fr G_needed
  have G_entries_of : Good P w K mg base 1 "entries_of" 3 F_entries_of := ok_entries_of hm_entries_of F_entries_of_ fr
  have G_word_in : Good P w K mg base 1 "word_in" 2 F_word_in := ok_word_in hm_word_in F_word_in_ fr
  have G_greatest_asked : Good P w K mg base 2 "greatest_asked" 2 F_greatest_asked := ok_greatest_asked hm_greatest_asked F_greatest_asked_ fr G_entries_of
  have G_claim_in : Good P w K mg base 3 "claim_in" 2 F_claim_in := ok_claim_in hm_claim_in F_claim_in_ fr G_greatest_asked G_entries_of
  have G_next_number : Good P w K mg base 1 "next_number" 1 F_next_number := ok_next_number hm_next_number F_next_number_ fr
  have G_other_houses : Good P w K mg base 1 "other_houses" 2 F_other_houses := ok_other_houses hm_other_houses F_other_houses_ fr
  have G_is_due : Good P w K mg base 2 "is_due" 6 F_is_due := ok_is_due hm_is_due F_is_due_ fr G_word_in
  have G_reach_in : Good P w K mg base 4 "reach_in" 3 F_reach_in := ok_reach_in hm_reach_in F_reach_in_ fr G_claim_in G_reach_of
  have G_news_of : Good P w K mg base 5 "news_of" 6 F_news_of := ok_news_of hm_news_of F_news_of_ fr G_reach_in G_claim_in G_other_houses
  have G_ask_taken : Good P w K mg base 3 "ask_taken" 4 F_ask_taken := ok_ask_taken hm_ask_taken F_ask_taken_ fr G_is_due G_word_in
  have G_word_taken : Good P w K mg base 6 "word_taken" 5 F_word_taken := ok_word_taken hm_word_taken F_word_taken_ fr G_claim_in G_news_of
  have G_no_taken : Good P w K mg base 4 "no_taken" 2 F_no_taken := ok_no_taken hm_no_taken F_no_taken_ fr G_claim_in
  have G_back_taken : Good P w K mg base 2 "back_taken" 2 F_back_taken := ok_back_taken hm_back_taken F_back_taken_ fr G_word_in
  have G_taken : Good P w K mg base 7 "taken" 5 F_taken := ok_taken hm_taken F_taken_ fr G_ask_taken G_word_taken G_no_taken G_back_taken
  have G_world_of : Good P w K mg base 2 "world_of" 2 F_world_of := ok_world_of hm_world_of F_world_of_ fr c_E c_MOST_HOUSES c_LEAST_TERM c_GREATEST_TERM G_is_whole
  have G_at_place : Good P w K mg base 1 "at_place" 3 F_at_place := ok_at_place hm_at_place F_at_place_ fr
  have G_stands : Good P w K mg base 4 "stands" 3 F_stands := ok_stands hm_stands F_stands_ fr G_claim_in
  have G_is_parted : Good P w K mg base 1 "is_parted" 2 F_is_parted := ok_is_parted hm_is_parted F_is_parted_ fr
  have G_can_be_carried : Good P w K mg base 2 "can_be_carried" 2 F_can_be_carried := ok_can_be_carried hm_can_be_carried F_can_be_carried_ fr G_is_parted
  have G_need_letter : Good P w K mg base 1 "need_letter" 2 F_need_letter := ok_need_letter hm_need_letter F_need_letter_ fr c_E
  have G_need_up : Good P w K mg base 1 "need_up" 2 F_need_up := ok_need_up hm_need_up F_need_up_ fr c_E
  have G_need_way : Good P w K mg base 2 "need_way" 2 F_need_way := ok_need_way hm_need_way F_need_way_ fr c_E G_is_parted
  have G_need_claim : Good P w K mg base 5 "need_claim" 2 F_need_claim := ok_need_claim hm_need_claim F_need_claim_ fr c_E G_stands
  have G_kept_notice : Good P w K mg base 1 "kept_notice" 2 F_kept_notice := ok_kept_notice hm_kept_notice F_kept_notice_ fr
  have G_moved : Good P w K mg base 2 "moved" 5 F_moved := ok_moved hm_moved F_moved_ fr G_at_place G_kept_notice
  have G_own_word : Good P w K mg base 4 "own_word" 6 F_own_word := ok_own_word hm_own_word F_own_word_ fr G_is_due G_word_in G_claim_in
  have G_asked : Good P w K mg base 6 "asked" 5 F_asked := ok_asked hm_asked F_asked_ fr G_own_word G_other_houses G_news_of G_moved
  have G_given_back : Good P w K mg base 4 "given_back" 3 F_given_back := ok_given_back hm_given_back F_given_back_ fr G_claim_in G_word_in G_other_houses G_moved
  have G_carried : Good P w K mg base 8 "carried" 2 F_carried := ok_carried hm_carried F_carried_ fr G_taken G_moved
  have G_yard_done : Good P w K mg base 1 "yard_done" 3 F_yard_done := ok_yard_done hm_yard_done F_yard_done_ fr
  have G_house_done : Good P w K mg base 7 "house_done" 2 F_house_done := ok_house_done hm_house_done F_house_done_ fr G_asked G_next_number G_claim_in G_given_back
  have G_net_done : Good P w K mg base 2 "net_done" 2 F_net_done := ok_net_done hm_net_done F_net_done_ fr G_at_place
  have G_done : Good P w K mg base 9 "done" 2 F_done := ok_done hm_done F_done_ fr c_E G_is_deed G_need_letter G_need_up G_need_way G_need_claim G_house_done G_carried G_yard_done G_net_done
  have G_first_carried : Good P w K mg base 3 "first_carried" 1 F_first_carried := ok_first_carried hm_first_carried F_first_carried_ fr G_can_be_carried
  have G_quiet_round : Good P w K mg base 10 "quiet_round" 1 F_quiet_round := ok_quiet_round hm_quiet_round F_quiet_round_ fr G_first_carried G_done
  have G_quiet_rounds : Good P w K mg base 11 "quiet_rounds" 2 F_quiet_rounds := ok_quiet_rounds hm_quiet_rounds F_quiet_rounds_ fr G_quiet_round
  have G_claimed_surely : Good P w K mg base 12 "claimed_surely" 4 F_claimed_surely := ok_claimed_surely hm_claimed_surely F_claimed_surely_ fr c_E G_is_house G_is_name G_done G_quiet_rounds G_claim_in G_quiet_round
  have G__law_mixed : Good P w K mg base 1 "_law_mixed" 2 F__law_mixed := ok__law_mixed hm__law_mixed F__law_mixed_ fr
  have G__law_pot : Good P w K mg base 1 "_law_pot" 1 F__law_pot := ok__law_pot hm__law_pot F__law_pot_ fr
  have G__law_take : Good P w K mg base 2 "_law_take" 2 F__law_pull := ok__law_take hm__law_take F__law_take_ fr G__law_mixed
  have G__law_names : Good P w K mg base 2 "_law_names" 1 F__law_names := ok__law_names hm__law_names F__law_names_ fr G__law_mixed
  have G__law_side : Good P w K mg base 3 "_law_side" 2 F__law_side := ok__law_side hm__law_side F__law_side_ fr G__law_take
  have G__law_deed : Good P w K mg base 4 "_law_deed" 2 F__law_deed := ok__law_deed hm__law_deed F__law_deed_ fr G__law_take G__law_names G__law_side
  have G__law_behind : Good P w K mg base 10 "_law_behind" 2 F__law_behind_o := ok__law_behind hm__law_behind F__law_behind_ fr c_E G_done
  have G__law_run : Good P w K mg base 11 "_law_run" 4 F__law_run_o := ok__law_run hm__law_run F__law_run_ fr G_world_of G__law_behind G__law_deed
  have G__law_refused : Good P w K mg base 13 "_law_refused" 4 F__law_refused := ok__law_refused hm__law_refused F__law_refused_ fr c_E G_claimed_surely
  have G__law_no_name : Good P w K mg base 3 "_law_no_name" 1 F__law_no_name := ok__law_no_name hm__law_no_name F__law_no_name_ fr G__law_take
  exact fn_law F_law_ fr G__law_pot G__law_take G__law_run G__law_no_name G__law_refused G_claimed_surely
end Wk36
open PySem PySem.W PySem.Calls PyProof.Rows
theorem PySem.Challenge.cw_onename_k36_no_sure_claims_holds : PySem.Challenge.rw_onename_k36_no_sure_claims.Holds := by
  w_on; o_law
  refine HandSHeadRun.head_any (r := OpenLaw.row PySem.Challenge.rw_onename_k36_no_sure_claims) (q := view (OpenLaw.row PySem.Challenge.rw_onename_k36_no_sure_claims).prog [78]) (H := Wk36.hk) (ob := Wk36.ob) (M := 8000) (loose := Wk36.names) (d := HandSHeadRun.topDef (OpenLaw.row PySem.Challenge.rw_onename_k36_no_sure_claims).prog 78) (kwd := []) Wk36.ob_eq
    (by kernel_rfl) (fun s => by kernel_rfl) Wk36.run (by kernel_rfl) (by kernel_rfl) (by kernel_rfl) (by rfl) (by first | assumption | decide +kernel) (by decide +kernel) ⟨rfl, rfl, rfl, rfl, rfl, by decide +kernel⟩ ?hw ?hc
  case hw => w_witness2
  case hc =>
    refine DL.walk_ofW (l := PySem.Challenge.rw_onename_k36_no_sure_claims) (n := 63) (k := 14) (x := "script") rfl (by decide) (by kernel_rfl) ⟨rfl, by decide, by decide⟩ ?F
    intro w mg fa h Y G hmg0
    obtain ⟨K, KX, c⟩ := Y
    have hmg : mg ("law" : PySem.Str) = some (.ref fa) := by
      have e : (HandSHeadRun.topDef (OpenLaw.row PySem.Challenge.rw_onename_k36_no_sure_claims).prog 78).name = ("law" : PySem.Str) := by kernel_rfl
      rw [← e]
      exact hmg0
    obtain ⟨fd, hb, hF⟩ := Wk36.facts (P := (PySem.Challenge.rw_onename_k36_no_sure_claims).prog) (w := w) KX G hmg c
    exact ⟨K, fd, DL.spF K mg 1 Wk36.F_law, KX, hb, fun H a ns hl hO hS => DL.law_start hl (by decide) hS Wk36.law_true, hF⟩
