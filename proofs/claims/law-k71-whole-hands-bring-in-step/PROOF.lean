import PyProof.Rows.All
import Wide.All
import OpenK.AllK
import Wide.FinOn
import KE.KStateDown
import Lean
import HandS.Base
import HandS.Call
import HandS.Ends
import HandS.More
import HandS.Words
import HandS.WordsExc
import HandS.Defaults
import HandS.Head0
import HandS.Head1
import HandS.Head2
import HandS.HeadEnd
import HandS.HeadHook1
import HandS.HeadHook2
import HandS.HeadHook3
import HandS.HeadHook4
import PySem.Challenge.RW_twainkeep_k71_whole_hands_bring_in_step
import HandS.ForMost
import HandS.Deep
import HandS.Style
import HandS.TupAny
import HandS.TupMul
import HandS.Wide
import HandS.Zip
import HandS.Conv
import HandS.CallLocal
import HandS.Flow
import KE.DataEq
import KE.DataCmp
import KE.DataMinMax
import KE.DataIsa
import KE.SortData
import PyProof.MaxThree
import HandS.NoneIn
import HandS.SortKw
import HandS.Small
import KE.KDictList
section
set_option Elab.async false
set_option linter.all false
set_option maxRecDepth 100000
set_option maxHeartbeats 0
namespace TK
open PySem PySem.Spec PyProof.Rows L2
def top (i : Nat) : Stmt := PySem.Challenge.pw_twainkeep_k71_whole_hands_bring_in_step.main.body.getD i (.Pass ⟨0, 0, 0, 0⟩)
abbrev s_name_at : Stmt := top 9
abbrev s_new_name : Stmt := top 10
abbrev s_names_in : Stmt := top 12
abbrev s_has_part : Stmt := top 13
abbrev s_side_of : Stmt := top 14
abbrev s_part_named : Stmt := top 15
abbrev s_text_of : Stmt := top 16
abbrev s_moments_of : Stmt := top 17
abbrev s_link_of : Stmt := top 18
abbrev s_Matching_init : Stmt := inClass (top 20) 0
abbrev s_Matching_is_given : Stmt := inClass (top 20) 1
abbrev s_Matching_grow : Stmt := inClass (top 20) 2
abbrev s_Matching_matched : Stmt := inClass (top 20) 3
abbrev s_Matching_single : Stmt := inClass (top 20) 4
abbrev s_Matching_free : Stmt := inClass (top 20) 5
abbrev s_stale_since : Stmt := top 22
abbrev s_state_of : Stmt := top 23
abbrev s_states : Stmt := top 24
abbrev s_lacking : Stmt := top 25
abbrev s_stale : Stmt := top 26
abbrev s_in_step : Stmt := top 27
abbrev s_step_names : Stmt := top 29
abbrev s_hands : Stmt := top 30
abbrev s_last_of : Stmt := top 31
abbrev s_fresh_link : Stmt := top 32
abbrev s_hand_deeds : Stmt := top 33
abbrev s_parts_with : Stmt := top 35
abbrev s_links_exchanged : Stmt := top 44
abbrev s_with_side : Stmt := top 49
abbrev s_look_behind : Stmt := top 50
abbrev s_is_alone : Stmt := top 51
abbrev s_put_done : Stmt := top 52
abbrev s_link_done : Stmt := top 60
abbrev s_own_link : Stmt := top 61
abbrev s_step_done : Stmt := top 63
abbrev s_done : Stmt := top 67
abbrev s_all_done : Stmt := top 68
abbrev s_words_of : Stmt := top 73
abbrev s_cores_of : Stmt := top 74
abbrev s_cores_in : Stmt := top 75
abbrev s_hits : Stmt := top 76
abbrev s_fits_of : Stmt := top 78
abbrev s_is_rising : Stmt := top 80
abbrev s_is_hand : Stmt := top 81
abbrev s_are_served : Stmt := top 82
abbrev s_is_paper : Stmt := top 83
abbrev s_shows_hands : Stmt := top 84
abbrev s__law_draws : Stmt := top 86
abbrev s__law_pick : Stmt := top 87
abbrev s__law_names : Stmt := top 88
abbrev s__law_moments : Stmt := top 89
abbrev s__law_text : Stmt := top 90
abbrev s__law_links : Stmt := top 91
abbrev s__law_book : Stmt := top 92
abbrev s__law_lacking : Stmt := top 93
abbrev s__law_is_stale : Stmt := top 94
abbrev s__law_couples : Stmt := top 95
abbrev s__law_all_in_step : Stmt := top 96
abbrev s__law_latest : Stmt := top 97
abbrev s__law_behind : Stmt := top 98
abbrev s_law : Stmt := top 99
def d_name_at : He.DefD := ⟨("name_at", none), "name_at", "name_at", defArgs s_name_at, defBody s_name_at, defScope s_name_at, [], []⟩
def d_new_name : He.DefD := ⟨("new_name", none), "new_name", "new_name", defArgs s_new_name, defBody s_new_name, defScope s_new_name, [], []⟩
def d_names_in : He.DefD := ⟨("names_in", none), "names_in", "names_in", defArgs s_names_in, defBody s_names_in, defScope s_names_in, [], []⟩
def d_has_part : He.DefD := ⟨("has_part", none), "has_part", "has_part", defArgs s_has_part, defBody s_has_part, defScope s_has_part, [], []⟩
def d_side_of : He.DefD := ⟨("side_of", none), "side_of", "side_of", defArgs s_side_of, defBody s_side_of, defScope s_side_of, [], []⟩
def d_part_named : He.DefD := ⟨("part_named", none), "part_named", "part_named", defArgs s_part_named, defBody s_part_named, defScope s_part_named, [], []⟩
def d_text_of : He.DefD := ⟨("text_of", none), "text_of", "text_of", defArgs s_text_of, defBody s_text_of, defScope s_text_of, [], []⟩
def d_moments_of : He.DefD := ⟨("moments_of", none), "moments_of", "moments_of", defArgs s_moments_of, defBody s_moments_of, defScope s_moments_of, [], []⟩
def d_link_of : He.DefD := ⟨("link_of", none), "link_of", "link_of", defArgs s_link_of, defBody s_link_of, defScope s_link_of, [], []⟩
def d_Matching_init : He.DefD := ⟨("Matching", some "__init__"), "__init__", "Matching.__init__", defArgs s_Matching_init, defBody s_Matching_init, defScope s_Matching_init, [], []⟩
def d_Matching_is_given : He.DefD := ⟨("Matching", some "is_given"), "is_given", "Matching.is_given", defArgs s_Matching_is_given, defBody s_Matching_is_given, defScope s_Matching_is_given, [], []⟩
def d_Matching_grow : He.DefD := ⟨("Matching", some "grow"), "grow", "Matching.grow", defArgs s_Matching_grow, defBody s_Matching_grow, defScope s_Matching_grow, [], []⟩
def d_Matching_matched : He.DefD := ⟨("Matching", some "matched"), "matched", "Matching.matched", defArgs s_Matching_matched, defBody s_Matching_matched, defScope s_Matching_matched, [], []⟩
def d_Matching_single : He.DefD := ⟨("Matching", some "single"), "single", "Matching.single", defArgs s_Matching_single, defBody s_Matching_single, defScope s_Matching_single, [], []⟩
def d_Matching_free : He.DefD := ⟨("Matching", some "free"), "free", "Matching.free", defArgs s_Matching_free, defBody s_Matching_free, defScope s_Matching_free, [], []⟩
def d_stale_since : He.DefD := ⟨("stale_since", none), "stale_since", "stale_since", defArgs s_stale_since, defBody s_stale_since, defScope s_stale_since, [], []⟩
def d_state_of : He.DefD := ⟨("state_of", none), "state_of", "state_of", defArgs s_state_of, defBody s_state_of, defScope s_state_of, [], []⟩
def d_states : He.DefD := ⟨("states", none), "states", "states", defArgs s_states, defBody s_states, defScope s_states, [], []⟩
def d_lacking : He.DefD := ⟨("lacking", none), "lacking", "lacking", defArgs s_lacking, defBody s_lacking, defScope s_lacking, [], []⟩
def d_stale : He.DefD := ⟨("stale", none), "stale", "stale", defArgs s_stale, defBody s_stale, defScope s_stale, [], []⟩
def d_in_step : He.DefD := ⟨("in_step", none), "in_step", "in_step", defArgs s_in_step, defBody s_in_step, defScope s_in_step, [], []⟩
def d_step_names : He.DefD := ⟨("step_names", none), "step_names", "step_names", defArgs s_step_names, defBody s_step_names, defScope s_step_names, [], []⟩
def d_hands : He.DefD := ⟨("hands", none), "hands", "hands", defArgs s_hands, defBody s_hands, defScope s_hands, [], []⟩
def d_last_of : He.DefD := ⟨("last_of", none), "last_of", "last_of", defArgs s_last_of, defBody s_last_of, defScope s_last_of, [], []⟩
def d_fresh_link : He.DefD := ⟨("fresh_link", none), "fresh_link", "fresh_link", defArgs s_fresh_link, defBody s_fresh_link, defScope s_fresh_link, [], []⟩
def d_hand_deeds : He.DefD := ⟨("hand_deeds", none), "hand_deeds", "hand_deeds", defArgs s_hand_deeds, defBody s_hand_deeds, defScope s_hand_deeds, [], []⟩
def d_parts_with : He.DefD := ⟨("parts_with", none), "parts_with", "parts_with", defArgs s_parts_with, defBody s_parts_with, defScope s_parts_with, [], []⟩
def d_links_exchanged : He.DefD := ⟨("links_exchanged", none), "links_exchanged", "links_exchanged", defArgs s_links_exchanged, defBody s_links_exchanged, defScope s_links_exchanged, [], []⟩
def d_with_side : He.DefD := ⟨("with_side", none), "with_side", "with_side", defArgs s_with_side, defBody s_with_side, defScope s_with_side, [], []⟩
def d_look_behind : He.DefD := ⟨("look_behind", none), "look_behind", "look_behind", defArgs s_look_behind, defBody s_look_behind, defScope s_look_behind, [], []⟩
def d_is_alone : He.DefD := ⟨("is_alone", none), "is_alone", "is_alone", defArgs s_is_alone, defBody s_is_alone, defScope s_is_alone, [], []⟩
def d_put_done : He.DefD := ⟨("put_done", none), "put_done", "put_done", defArgs s_put_done, defBody s_put_done, defScope s_put_done, [], []⟩
def d_link_done : He.DefD := ⟨("link_done", none), "link_done", "link_done", defArgs s_link_done, defBody s_link_done, defScope s_link_done, [], []⟩
def d_own_link : He.DefD := ⟨("own_link", none), "own_link", "own_link", defArgs s_own_link, defBody s_own_link, defScope s_own_link, [], []⟩
def d_step_done : He.DefD := ⟨("step_done", none), "step_done", "step_done", defArgs s_step_done, defBody s_step_done, defScope s_step_done, [], []⟩
def d_done : He.DefD := ⟨("done", none), "done", "done", defArgs s_done, defBody s_done, defScope s_done, [], []⟩
def d_all_done : He.DefD := ⟨("all_done", none), "all_done", "all_done", defArgs s_all_done, defBody s_all_done, defScope s_all_done, [], []⟩
def d_words_of : He.DefD := ⟨("words_of", none), "words_of", "words_of", defArgs s_words_of, defBody s_words_of, defScope s_words_of, [], []⟩
def d_cores_of : He.DefD := ⟨("cores_of", none), "cores_of", "cores_of", defArgs s_cores_of, defBody s_cores_of, defScope s_cores_of, [], []⟩
def d_cores_in : He.DefD := ⟨("cores_in", none), "cores_in", "cores_in", defArgs s_cores_in, defBody s_cores_in, defScope s_cores_in, [], []⟩
def d_hits : He.DefD := ⟨("hits", none), "hits", "hits", defArgs s_hits, defBody s_hits, defScope s_hits, [], []⟩
def d_fits_of : He.DefD := ⟨("fits_of", none), "fits_of", "fits_of", defArgs s_fits_of, defBody s_fits_of, defScope s_fits_of, [], []⟩
def d_is_rising : He.DefD := ⟨("is_rising", none), "is_rising", "is_rising", defArgs s_is_rising, defBody s_is_rising, defScope s_is_rising, [], []⟩
def d_is_hand : He.DefD := ⟨("is_hand", none), "is_hand", "is_hand", defArgs s_is_hand, defBody s_is_hand, defScope s_is_hand, [], []⟩
def d_are_served : He.DefD := ⟨("are_served", none), "are_served", "are_served", defArgs s_are_served, defBody s_are_served, defScope s_are_served, [], []⟩
def d_is_paper : He.DefD := ⟨("is_paper", none), "is_paper", "is_paper", defArgs s_is_paper, defBody s_is_paper, defScope s_is_paper, [], []⟩
def d_shows_hands : He.DefD := ⟨("shows_hands", none), "shows_hands", "shows_hands", defArgs s_shows_hands, defBody s_shows_hands, defScope s_shows_hands, [], []⟩
def d__law_draws : He.DefD := ⟨("_law_draws", none), "_law_draws", "_law_draws", defArgs s__law_draws, defBody s__law_draws, defScope s__law_draws, [], []⟩
def d__law_pick : He.DefD := ⟨("_law_pick", none), "_law_pick", "_law_pick", defArgs s__law_pick, defBody s__law_pick, defScope s__law_pick, [], []⟩
def d__law_names : He.DefD := ⟨("_law_names", none), "_law_names", "_law_names", defArgs s__law_names, defBody s__law_names, defScope s__law_names, [], []⟩
def d__law_moments : He.DefD := ⟨("_law_moments", none), "_law_moments", "_law_moments", defArgs s__law_moments, defBody s__law_moments, defScope s__law_moments, [], []⟩
def d__law_text : He.DefD := ⟨("_law_text", none), "_law_text", "_law_text", defArgs s__law_text, defBody s__law_text, defScope s__law_text, [], []⟩
def d__law_links : He.DefD := ⟨("_law_links", none), "_law_links", "_law_links", defArgs s__law_links, defBody s__law_links, defScope s__law_links, [], []⟩
def d__law_book : He.DefD := ⟨("_law_book", none), "_law_book", "_law_book", defArgs s__law_book, defBody s__law_book, defScope s__law_book, [], []⟩
def d__law_lacking : He.DefD := ⟨("_law_lacking", none), "_law_lacking", "_law_lacking", defArgs s__law_lacking, defBody s__law_lacking, defScope s__law_lacking, [], []⟩
def d__law_is_stale : He.DefD := ⟨("_law_is_stale", none), "_law_is_stale", "_law_is_stale", defArgs s__law_is_stale, defBody s__law_is_stale, defScope s__law_is_stale, [], []⟩
def d__law_couples : He.DefD := ⟨("_law_couples", none), "_law_couples", "_law_couples", defArgs s__law_couples, defBody s__law_couples, defScope s__law_couples, [], []⟩
def d__law_all_in_step : He.DefD := ⟨("_law_all_in_step", none), "_law_all_in_step", "_law_all_in_step", defArgs s__law_all_in_step, defBody s__law_all_in_step, defScope s__law_all_in_step, [], []⟩
def d__law_latest : He.DefD := ⟨("_law_latest", none), "_law_latest", "_law_latest", defArgs s__law_latest, defBody s__law_latest, defScope s__law_latest, [], []⟩
def d__law_behind : He.DefD := ⟨("_law_behind", none), "_law_behind", "_law_behind", defArgs s__law_behind, defBody s__law_behind, defScope s__law_behind, [], []⟩
def d_law : He.DefD := ⟨("law", none), "law", "law", defArgs s_law, defBody s_law, defScope s_law, [], []⟩
def fn1 : List He.DefD := [d_name_at, d_new_name, d_names_in, d_has_part, d_side_of, d_part_named, d_text_of, d_moments_of, d_link_of, d_Matching_init, d_Matching_is_given, d_Matching_grow, d_Matching_matched, d_Matching_single, d_Matching_free, d_stale_since, d_state_of, d_states, d_lacking, d_stale, d_in_step, d_step_names, d_hands, d_last_of, d_fresh_link, d_hand_deeds, d_parts_with, d_links_exchanged, d_with_side, d_look_behind, d_is_alone]
def fn2 : List He.DefD := [d_put_done, d_link_done, d_own_link, d_step_done, d_done, d_all_done, d_words_of, d_cores_of, d_cores_in, d_hits, d_fits_of, d_is_rising, d_is_hand, d_are_served, d_is_paper, d_shows_hands, d__law_draws, d__law_pick, d__law_names, d__law_moments, d__law_text, d__law_links, d__law_book, d__law_lacking, d__law_is_stale, d__law_couples, d__law_all_in_step, d__law_latest, d__law_behind, d_law]
def fn : List He.DefD := fn1 ++ fn2
def fa1 : List He.Fa := [.glo "name_at", .glo "new_name", .glo "names_in", .glo "has_part", .glo "side_of", .glo "part_named", .glo "text_of", .glo "moments_of", .glo "link_of", .glo "stale_since", .glo "state_of", .glo "states", .glo "lacking", .glo "stale", .glo "in_step", .glo "step_names", .glo "hands", .glo "last_of", .glo "fresh_link", .glo "hand_deeds", .glo "parts_with", .glo "links_exchanged", .glo "with_side", .glo "look_behind", .glo "is_alone", .glo "put_done", .glo "link_done", .glo "own_link", .glo "step_done", .glo "done"]
def fa2 : List He.Fa := [.glo "all_done", .glo "words_of", .glo "cores_of", .glo "cores_in", .glo "hits", .glo "fits_of", .glo "is_rising", .glo "is_hand", .glo "are_served", .glo "is_paper", .glo "shows_hands", .glo "_law_draws", .glo "_law_pick", .glo "_law_names", .glo "_law_moments", .glo "_law_text", .glo "_law_links", .glo "_law_book", .glo "_law_lacking", .glo "_law_is_stale", .glo "_law_couples", .glo "_law_all_in_step", .glo "_law_latest", .glo "_law_behind", .glo "law", .glo "Matching", .free "len", .free "tuple", .free "list", .free "sorted"]
def fa3 : List He.Fa := [.free "any", .free "all", .free "min", .free "max", .free "sum", .free "abs", .free "int", .free "isinstance", .free "range", .free "enumerate", .free "zip", .str "LETTERS" "abcdefghijklmnopqrstuvwxyz", .str "SMALL" "abcdefghijklmnopqrstuvwxyz", .str "GREAT" "ABCDEFGHIJKLMNOPQRSTUVWXYZ", .str "FIGURES" "0123456789", .cls "Matching", .noat "Matching" "lefts", .noat "Matching" "rights", .noat "Matching" "ways", .noat "Matching" "mates", .meth "Matching" "is_given", .meth "Matching" "grow", .meth "Matching" "matched", .meth "Matching" "single", .meth "Matching" "free", .mkr "Matching", .glo "DEEDS"]
def fa : List He.Fa := fa1 ++ fa2 ++ fa3
def ts : List He.Tab := [(fun K => He.ga K "DEEDS", ["put", "take", "part", "join", "move", "change", "word", "link", "loose", "step", "alone", "lack"])]
def exB (K : PySem.W.Frag) : Bool := He.valsB K (He.ga K "DEEDS") [("put", .glo "put_done"), ("link", .glo "link_done"), ("step", .glo "step_done")]
def loose1 : List Str := ["TwainError", "NoPart", "NoPlace", "Twice", "Linked", "Apart", "LETTERS", "name_at", "new_name", "names_in", "has_part", "side_of", "part_named", "text_of", "moments_of", "link_of", "Matching", "stale_since", "state_of", "states", "lacking", "stale", "in_step", "step_names", "hands", "last_of", "fresh_link", "hand_deeds", "parts_with", "parts_without"]
def loose2 : List Str := ["parts_changed", "rising_with", "word_spans", "names_with", "names_without", "side_changed", "links_exchanged", "links_more", "links_fewer", "links_lost", "with_side", "look_behind", "is_alone", "put_done", "take_done", "part_done", "join_done", "move_done", "text_changed", "change_done", "word_done", "link_done", "own_link", "loose_done", "step_done", "alone_done", "lack_done", "DEEDS", "done", "all_done"]
def loose3 : List Str := ["FIGURES", "SMALL", "GREAT", "words_of", "cores_of", "cores_in", "hits", "fits_of", "is_rising", "is_hand", "are_served", "is_paper", "shows_hands", "_law_draws", "_law_pick", "_law_names", "_law_moments", "_law_text", "_law_links", "_law_book", "_law_lacking", "_law_is_stale", "_law_couples", "_law_all_in_step", "_law_latest", "_law_behind"]
def loose : List Str := loose1 ++ loose2 ++ loose3
abbrev R : PySem.W.OpenRow := PySem.W.OpenLaw.row PySem.Challenge.rw_twainkeep_k71_whole_hands_bring_in_step
end TK
end
section
set_option Elab.async false
set_option linter.all false
set_option maxRecDepth 100000
set_option maxHeartbeats 0
namespace TK
open PySem PySem.Spec PyProof.Rows L2
def nxt (g : Addr → Option Obj) (as : List Addr) : List Addr := as.flatMap fun a => match g a with
  | some o => He.refsO o
  | none => []
def nxd (g : Addr → Option Obj) (as : List Addr) : List Addr := as.flatMap fun a => match g a with
  | some o => (match o.data with
    | .dict _ _ => He.refsO o
    | _ => [])
  | none => []
/-- what the top's names reach: the defs, their codes, the classes' names, methods, their codes -/
def asK (g : Addr → Option Obj) : List Addr := (fun l1 => (fun l2 => (fun l3 => mainGlobals :: (l1 ++ (l2 ++ (l3 ++ nxt g l3)))) (nxd g l2)) (nxt g l1)) (nxt g [mainGlobals])
def obsY (g : Addr → Option Obj) : He.AlX := (fun K => (He.obsT fa fn ts K, exB K)) (He.frG g (asK g))
def hk : PySem.W.Hook where
  α := He.AlX
  obs := fun s => obsY s.heap.get?
  val := fun w => (He.valT fn ts w, true)
  says := fun w h => ∃ K : PySem.W.Frag, K.In h ∧ He.SaysT fa fn ts w K ∧ exB K = true
  of := fun _ _ e => ⟨_, He.frG_in, congrArg (fun z : He.AlX => z.1) e, congrArg (fun z : He.AlX => z.2) e⟩
  keeps := fun _ _ _ ⟨K, hK, c⟩ k => ⟨K, PySem.W.Frag.In.keeps hK k, c⟩
def ob (s : PySem.W.SharedT) : He.AlX := obsY (HandSHeadRun.getT s)
theorem ob_eq (s : PySem.W.SharedT) : ob s = hk.obs s.abs := by
  have e : HandSHeadRun.getT s = s.abs.heap.get? := funext (HandSHeadRun.getT_eq s)
  show obsY _ = obsY _
  rw [e]
theorem runF (w : World) : HandSHeadRun.RunEq R (PySem.W.view R.prog [99]) hk ob 20000 loose (w.withFollow "special-get-raises" false) := by
  intro os
  kernel_rfl
theorem runT (w : World) : HandSHeadRun.RunEq R (PySem.W.view R.prog [99]) hk ob 20000 loose (w.withFollow "special-get-raises" true) := by
  intro os
  kernel_rfl
theorem run (w : World) : HandSHeadRun.RunEq R (PySem.W.view R.prog [99]) hk ob 20000 loose w :=
  PySem.W.byRow2 "special-get-raises" (P := fun w => HandSHeadRun.RunEq R (PySem.W.view R.prog [99]) hk ob 20000 loose w) runF runT w
end TK
end
section
set_option Elab.async false
set_option linter.all false
set_option maxRecDepth 100000
set_option maxHeartbeats 4000000
/-! Data of any depth as plain Lean terms: what a value of the heap reads as (Dv), how the frozen part of the heap grows (Stp), what a def's slots hold (SE). -/
namespace TK
open PySem PySem.Spec PyProof.Rows L2

abbrev D := PyData

mutual
inductive Dv (F : Hp) : V → D → Prop
  | non : Dv F .non .none
  | bl (b : Bool) : Dv F (.bl b) (.bool b)
  | int (i : Int) : Dv F (.int i) (.int i)
  | str (x : Str) : Dv F (.str x) (.str x)
  | lst {a : Addr} {xs : List V} {ds : List D} : F a = some (.lst xs) → DvAll F xs ds → Dv F (.ref a) (.list ds)
  | tup {a : Addr} {xs : List V} {ds : List D} : F a = some (.tup xs) → DvAll F xs ds → Dv F (.ref a) (.tuple ds)
  | dic {a : Addr} {kvs : List (Key × V)} {ks : List Str} : F a = some (.dK kvs) → kvs.map (·.1) = ks.map Sum.inr → Dv F (.ref a) (.dict (ks.map fun k => (.str k, .none)))
  /-- an object that is not looked into -/
  | obj {a : Addr} : Dv F (.ref a) (.dict [(.int (a : Nat), .none)])
inductive DvAll (F : Hp) : List V → List D → Prop
  | nil : DvAll F [] []
  | cons {v : V} {vs : List V} {d : D} {ds : List D} : Dv F v d → DvAll F vs ds → DvAll F (v :: vs) (d :: ds)
end

section
variable {F F' H H' : Hp}
mutual
theorem Dv.mono (k : Same F F') : ∀ (d : D) (v : V), Dv F v d → Dv F' v d
  | .none, _, h => by cases h; exact .non
  | .bool b, _, h => by cases h; exact .bl b
  | .int i, _, h => by cases h; exact .int i
  | .str x, _, h => by cases h; exact .str x
  | .list ds, _, h => by
    cases h with
    | lst e a => exact .lst (k _ _ e) (DvAll.mono k ds _ a)
  | .tuple ds, _, h => by
    cases h with
    | tup e a => exact .tup (k _ _ e) (DvAll.mono k ds _ a)
  | .dict _, _, h => by
    cases h with
    | dic e a => exact .dic (k _ _ e) a
    | obj => exact .obj
theorem DvAll.mono (k : Same F F') : ∀ (ds : List D) (vs : List V), DvAll F vs ds → DvAll F' vs ds
  | [], _, h => by cases h; exact .nil
  | d :: ds, _, h => by
    cases h with
    | cons h1 h2 => exact .cons (Dv.mono k d _ h1) (DvAll.mono k ds _ h2)
end
theorem Dv.up {v : V} {d : D} (h : Dv F v d) (k : Same F F') : Dv F' v d := Dv.mono k d v h
theorem DvAll.up {v : List V} {d : List D} (h : DvAll F v d) (k : Same F F') : DvAll F' v d := DvAll.mono k d v h
mutual
theorem Dv.dp (K : PySem.W.Frag) : ∀ (d : D) (v : V), d.plain = true → Dv F v d → Dp K F v d
  | .none, _, _, h => by cases h; exact .non
  | .bool b, _, _, h => by cases h; exact .bl b
  | .int i, _, _, h => by cases h; exact .int i
  | .str x, _, _, h => by cases h; exact .str x
  | .list ds, _, p, h => by
    cases h with
    | lst e a => exact .lst (SqL.of e) (DvAll.dp K ds _ (by simpa [PyData.plain] using p) a)
  | .tuple ds, _, p, h => by
    cases h with
    | tup e a => exact .tup (SqT.of e) (DvAll.dp K ds _ (by simpa [PyData.plain] using p) a)
  | .dict _, _, p, h => by simp [PyData.plain] at p
theorem DvAll.dp (K : PySem.W.Frag) : ∀ (ds : List D) (vs : List V), PyData.plainAll ds = true → DvAll F vs ds → DpAll K F vs ds
  | [], _, _, h => by cases h; exact .nil
  | d :: ds, _, p, h => by
    cases h with
    | cons h1 h2 =>
      simp only [PyData.plainAll, Bool.and_eq_true] at p
      exact .cons (Dv.dp K d _ p.1 h1) (DvAll.dp K ds _ p.2 h2)
end
theorem DvAll.len : ∀ {vs : List V} {ds : List D}, DvAll F vs ds → vs.length = ds.length
  | _, _, .nil => rfl
  | _, _, .cons _ t => by rw [List.length_cons, List.length_cons, DvAll.len t]
theorem DvAll.get : ∀ {vs : List V} {ds : List D} {i : Nat} {d : D}, DvAll F vs ds → ds[i]? = some d → ∃ v, vs[i]? = some v ∧ Dv F v d
  | _, _, _, _, .nil, e => by simp at e
  | _, _, 0, _, .cons r _, e => by simp at e; subst e; exact ⟨_, rfl, r⟩
  | _, _, i + 1, _, .cons _ t, e => by
    obtain ⟨v, h1, h2⟩ := DvAll.get (i := i) t (by simpa using e)
    exact ⟨v, by simpa using h1, h2⟩
theorem DvAll.getV : ∀ {vs : List V} {ds : List D} {i : Nat} {v : V}, DvAll F vs ds → vs[i]? = some v → ∃ d, ds[i]? = some d ∧ Dv F v d
  | _, _, _, _, .nil, e => by simp at e
  | _, _, 0, _, .cons r _, e => by simp at e; subst e; exact ⟨_, rfl, r⟩
  | _, _, i + 1, _, .cons _ t, e => by
    obtain ⟨v, h1, h2⟩ := DvAll.getV (i := i) t (by simpa using e)
    exact ⟨v, by simpa using h1, h2⟩
theorem DvAll.app : ∀ {vs ws : List V} {ds es : List D}, DvAll F vs ds → DvAll F ws es → DvAll F (vs ++ ws) (ds ++ es)
  | _, _, _, _, .nil, h => h
  | _, _, _, _, .cons r t, h => .cons r (DvAll.app t h)
theorem DvAll.snoc {vs : List V} {v : V} {ds : List D} {d : D} (h : DvAll F vs ds) (r : Dv F v d) : DvAll F (vs ++ [v]) (ds ++ [d]) := h.app (.cons r .nil)
theorem DvAll.drop : ∀ {vs : List V} {ds : List D} (n : Nat), DvAll F vs ds → DvAll F (vs.drop n) (ds.drop n)
  | _, _, 0, h => h
  | _, _, _ + 1, .nil => .nil
  | _, _, n + 1, .cons _ t => DvAll.drop n t
theorem DvAll.take : ∀ {vs : List V} {ds : List D} (n : Nat), DvAll F vs ds → DvAll F (vs.take n) (ds.take n)
  | _, _, 0, _ => .nil
  | _, _, _ + 1, .nil => .nil
  | _, _, n + 1, .cons r t => .cons r (DvAll.take n t)
theorem DvAll.set : ∀ {vs : List V} {ds : List D} (n : Nat) {v : V} {d : D}, DvAll F vs ds → Dv F v d → DvAll F (vs.set n v) (ds.set n d)
  | _, _, _, _, _, .nil, _ => .nil
  | _, _, 0, _, _, .cons _ t, r => .cons r t
  | _, _, n + 1, _, _, .cons q t, r => .cons q (DvAll.set n t r)
theorem DvAll.erase : ∀ {vs : List V} {ds : List D} (n : Nat), DvAll F vs ds → DvAll F (vs.eraseIdx n) (ds.eraseIdx n)
  | _, _, _, .nil => .nil
  | _, _, 0, .cons _ t => t
  | _, _, n + 1, .cons q t => .cons q (DvAll.erase n t)
theorem DvAll.rep {vs : List V} {ds : List D} (h : DvAll F vs ds) : ∀ n : Nat, DvAll F (List.replicate n vs).flatten (List.replicate n ds).flatten
  | 0 => .nil
  | n + 1 => by
    rw [List.replicate_succ, List.replicate_succ, List.flatten_cons, List.flatten_cons]
    exact h.app (DvAll.rep h n)
theorem dv_ints : ∀ {vs : List V} {ns : List Int}, DvAll F vs (ns.map .int) → vs = ns.map .int
  | [], [], _ => rfl
  | [], _ :: _, h => by cases h
  | _ :: _, [], h => by cases h
  | v :: vs, n :: ns, h => by
    cases h with
    | cons h1 h2 =>
      cases h1
      rw [dv_ints h2] <;> rfl
theorem ints_dv : ∀ {ns : List Int}, DvAll F (ns.map .int) (ns.map .int)
  | [] => .nil
  | n :: ns => .cons (.int n) (ints_dv (ns := ns))
theorem dv_bools : ∀ {vs : List V} {bs : List Bool}, DvAll F vs (bs.map .bool) → vs = bs.map .bl
  | [], [], _ => rfl
  | [], _ :: _, h => by cases h
  | _ :: _, [], h => by cases h
  | v :: vs, n :: ns, h => by
    cases h with
    | cons h1 h2 =>
      cases h1
      rw [dv_bools h2] <;> rfl
end

theorem Dv.reads {X : Cx} {pins : List (Addr × Obj)} {σ : L2.St} {F H : Hp} {s : Shared} {d : D} {v : V} {u : Value} (I : Inv X pins σ H s) (k : Same F H) (p : d.plain = true) (h : Dv F v d) (r : RelV v u) : ∃ as, Reads s.heap u d as :=
  Dp.reads I d v u (Dv.dp X.K d v p (h.up k)) r
theorem DvAll.reads {X : Cx} {pins : List (Addr × Obj)} {σ : L2.St} {F H : Hp} {s : Shared} {d : List D} {v : List V} {u : List Value} (I : Inv X pins σ H s) (k : Same F H) (p : PyData.plainAll d = true) (h : DvAll F v d) (r : Vals v u) : ∃ as, ReadsAll s.heap u d as :=
  Dp.readsAll I d v u (DvAll.dp X.K d v p (h.up k)) r

/-! ### how the heap goes on -/
def isDr (dr : Option (Addr × Addr)) (a : Addr) : Prop := match dr with
  | none => False
  | some (p, q) => a = p ∨ a = q
structure Stp (dr : Option (Addr × Addr)) (F H F' H' : Hp) : Prop where
  ff : Same F F'
  fh : Same F' H'
  keep : ∀ a o, H a = some o → ¬ isDr dr a → H' a = some o
  dom : ∀ a, H a ≠ none → H' a ≠ none
  old : ∀ a, F a = none → H a ≠ none → F' a = none
abbrev Stq := Stp none
section
variable {dr : Option (Addr × Addr)} {F H F' H' F2 H2 : Hp}
theorem Stp.refl (k : Same F H) : Stp dr F H F H := ⟨Same.refl F, k, fun _ _ e _ => e, fun _ e => e, fun _ e _ => e⟩
theorem Stp.trans (a : Stp dr F H F' H') (b : Stp dr F' H' F2 H2) : Stp dr F H F2 H2 :=
  ⟨a.ff.trans b.ff, b.fh, fun x o e n => b.keep x o (a.keep x o e n) n, fun x e => b.dom x (a.dom x e), fun x e n => b.old x (a.old x e n) (a.dom x n)⟩
theorem Stp.up (a : Stq F H F' H') : Stp dr F H F' H' := ⟨a.ff, a.fh, fun x o e _ => a.keep x o e (fun z => z), a.dom, a.old⟩
theorem Stp.same (a : Stq F H F' H') : Same H H' := fun x o e => a.keep x o e fun z => z
theorem ne_dom {p : Addr} (hp : H p = none) {x : Addr} (e : H x ≠ none) : x ≠ p := fun z => e (z ▸ hp)
theorem Stp.new {p : Addr} {o : HO} (k : Same F H) (hp : H p = none) : Stp dr F H (upd F p o) (upd H p o) := by
  have fp : F p = none := k.free hp
  refine ⟨fun x u e => by rw [upd_ne (ne_of_none e fp)]; exact e, fun x u e => ?_, fun x u e _ => by rw [upd_ne (ne_of_none e hp)]; exact e, fun x e => by rw [upd_ne (ne_dom hp e)]; exact e, fun x e n => by rw [upd_ne (ne_dom hp n)]; exact e⟩
  by_cases z : x = p
  · subst z
    rw [upd_same] at e ⊢
    exact e
  · rw [upd_ne z] at e ⊢
    exact k x u e
/-- a new object that is not (yet) among the frozen -/
theorem Stp.lay {p : Addr} {o : HO} (k : Same F H) (hp : H p = none) : Stp dr F H F (upd H p o) := by
  refine ⟨Same.refl F, fun x u e => by rw [upd_ne (ne_of_none (k x u e) hp)]; exact k x u e, fun x u e _ => by rw [upd_ne (ne_of_none e hp)]; exact e, fun x e => by rw [upd_ne (ne_dom hp e)]; exact e, fun x e _ => e⟩
/-- what was laid is frozen -/
theorem Stp.freeze {p : Addr} {o : HO} (a : Stp dr F H F' H') (hp : H p = none) (hf : F' p = none) (e : H' p = some o) : Stp dr F H (upd F' p o) H' := by
  refine ⟨fun x u q => ?_, fun x u q => ?_, a.keep, a.dom, fun x q n => by rw [upd_ne (ne_dom hp n)]; exact a.old x q n⟩
  · rw [upd_ne (ne_of_none (a.ff x u q) hf)]
    exact a.ff x u q
  · by_cases z : x = p
    · subst z
      rw [upd_same] at q
      rw [e]
      exact q
    · rw [upd_ne z] at q
      exact a.fh x u q
theorem same_new {p : Addr} {o : HO} (hf : F p = none) : Same F (upd F p o) := fun x u q => by rw [upd_ne (ne_of_none q hf)]; exact q
end

/-! ### the law's draws -/
abbrev G := Int × List Int
def DRo (dr : Option (Addr × Addr)) (γ : G) (F H : Hp) : Prop := match dr with
  | none => True
  | some (p, q) => p ≠ q ∧ F p = none ∧ F q = none ∧ H p = some (.lst [.int γ.1, .ref q]) ∧ H q = some (.lst (γ.2.map .int))
theorem DRo.step {dr : Option (Addr × Addr)} {γ : G} {F H F' H' : Hp} (d : DRo dr γ F H) (a : Stq F H F' H') : DRo dr γ F' H' := by
  cases dr with
  | none => trivial
  | some pq =>
    obtain ⟨p, q⟩ := pq
    obtain ⟨n, fp, fq, hp, hq⟩ := d
    exact ⟨n, a.old p fp (by rw [hp]; simp), a.old q fq (by rw [hq]; simp), a.same _ _ hp, a.same _ _ hq⟩

/-! ### slots -/
inductive Kd where | pure | lst | dic | nest
  deriving DecidableEq
def SlOk (F H : Hp) : Kd → V → D → List Addr → Prop
  | .pure, v, d, fp => Dv F v d ∧ fp = []
  | .lst, v, d, fp => ∃ a xs ds, v = .ref a ∧ d = .list ds ∧ fp = [a] ∧ H a = some (.lst xs) ∧ DvAll F xs ds
  | .dic, v, d, fp => ∃ a kvs ks, v = .ref a ∧ d = .dict ((ks : List Str).map fun k => (.str k, .none)) ∧ fp = [a] ∧ H a = some (.dK kvs) ∧ kvs.map (·.1) = ks.map Sum.inr
  | .nest, v, d, fp => ∃ a l m xs ys ds es, v = .ref a ∧ d = .list [.list ds, .list es] ∧ fp = [a, l, m] ∧ a ≠ l ∧ a ≠ m ∧ l ≠ m ∧ H a = some (.lst [.ref l, .ref m]) ∧ H l = some (.lst xs) ∧ H m = some (.lst ys) ∧ DvAll F xs ds ∧ DvAll F ys es
theorem SlOk.step {F H F' H' : Hp} {k : Kd} {v : V} {d : D} {fp : List Addr} (h : SlOk F H k v d fp) (kf : Same F F') (kh : ∀ a ∈ fp, H' a = H a) : SlOk F' H' k v d fp := by
  cases k with
  | pure => exact ⟨h.1.up kf, h.2⟩
  | lst =>
    obtain ⟨a, xs, ds, e1, e2, e3, e4, e5⟩ := h
    exact ⟨a, xs, ds, e1, e2, e3, by rw [kh a (by rw [e3]; simp)]; exact e4, e5.up kf⟩
  | dic =>
    obtain ⟨a, xs, ds, e1, e2, e3, e4, e5⟩ := h
    exact ⟨a, xs, ds, e1, e2, e3, by rw [kh a (by rw [e3]; simp)]; exact e4, e5⟩
  | nest =>
    obtain ⟨a, l, m, xs, ys, ds, es, e1, e2, e3, n1, n2, n3, e4, e5, e6, e7, e8⟩ := h
    exact ⟨a, l, m, xs, ys, ds, es, e1, e2, e3, n1, n2, n3, by rw [kh a (by rw [e3]; simp)]; exact e4, by rw [kh l (by rw [e3]; simp)]; exact e5, by rw [kh m (by rw [e3]; simp)]; exact e6, e7.up kf, e8.up kf⟩

abbrev Env := List (Option D)
structure Cfg where
  dr : Option (Addr × Addr)
  ds : Nat
  kd : Nat → Kd
  F0 : Hp
  H0 : Hp
  /-- addresses that no slot owns -/
  av : Addr → Prop := fun _ => False
structure SE (C : Cfg) (ρ : Env) (γ : G) (σ : L2.St) (F H : Hp) : Prop where
  ent : Stp C.dr C.F0 C.H0 F H
  dr : DRo C.dr γ F H
  drh : ∀ a, isDr C.dr a → C.H0 a ≠ none
  dsl : ∀ p q, C.dr = some (p, q) → σ[C.ds]? = some (some (.ref p))
  len : ρ.length = σ.length
  sl : ∃ fp : Nat → List Addr, (∀ i d, ρ[i]? = some (some d) → ∃ v, σ[i]? = some (some v) ∧ SlOk F H (C.kd i) v d (fp i)) ∧ (∀ i a, a ∈ fp i → F a = none ∧ C.H0 a = none ∧ H a ≠ none ∧ ¬ C.av a) ∧ ∀ i j, i ≠ j → ∀ a ∈ fp i, a ∉ fp j
section
variable {C : Cfg} {ρ : Env} {γ γ' : G} {σ : L2.St} {F H F' H' : Hp}
theorem SE.fh (s : SE C ρ γ σ F H) : Same F H := s.ent.fh
theorem SE.nodr (s : SE C ρ γ σ F H) {a : Addr} (h : C.H0 a = none) : ¬ isDr C.dr a := fun z => s.drh a z h
theorem SE.step (s : SE C ρ γ σ F H) (a : Stp C.dr F H F' H') (d : DRo C.dr γ' F' H') : SE C ρ γ' σ F' H' := by
  obtain ⟨fp, h1, h2, h3⟩ := s.sl
  refine ⟨s.ent.trans a, d, s.drh, s.dsl, s.len, fp, fun i x e => ?_, fun i x m => ?_, h3⟩
  · obtain ⟨v, hv, ok⟩ := h1 i x e
    refine ⟨v, hv, ok.step a.ff fun b m => ?_⟩
    obtain ⟨n1, n2, n3, _⟩ := h2 i b m
    cases q : H b with
    | none => exact absurd q n3
    | some o => exact a.keep b o q (s.nodr n2)
  · obtain ⟨n1, n2, n3, n4⟩ := h2 i x m
    exact ⟨a.old x n1 n3, n2, a.dom x n3, n4⟩
theorem SE.stq (s : SE C ρ γ σ F H) (a : Stq F H F' H') : SE C ρ γ σ F' H' := s.step a.up (s.dr.step a)
end
end TK
end
section
set_option Elab.async false
set_option linter.all false
set_option maxRecDepth 100000
set_option maxHeartbeats 4000000
/-! What operators and built-ins do on data, and that the machine does so. -/
namespace TK
open PySem PySem.Spec PyProof.Rows L2

def LINE : Nat := 100000
theorem line_le {n : Nat} (h : n ≤ LINE) : n ≤ sizeLine := Nat.le_trans h (by decide)
theorem line_lt {n : Nat} (h : n < LINE) : n < sizeLine := Nat.lt_of_lt_of_le h (by decide)
/-- depths and kinds that comparisons take -/
def okD (d : D) : Bool := d.plain && decide (d.depth ≤ 30)
theorem okD_plain {d : D} (h : okD d = true) : d.plain = true := (Bool.and_eq_true_iff.mp h).1
theorem okD_depth {d : D} (h : okD d = true) : d.depth ≤ 30 := of_decide_eq_true (Bool.and_eq_true_iff.mp h).2

/-! ### readable values: frozen, or a list or dict of the def's own -/
def Dr (dr : Option (Addr × Addr)) (F H : Hp) (v : V) (d : D) : Prop :=
  Dv F v d ∨ (∃ a xs ds, v = .ref a ∧ d = .list ds ∧ H a = some (.lst xs) ∧ DvAll F xs ds ∧ ¬ isDr dr a) ∨
    ∃ a kvs ks, v = .ref a ∧ d = .dict ((ks : List Str).map fun k => (.str k, .none)) ∧ H a = some (.dK kvs) ∧ kvs.map (·.1) = ks.map Sum.inr ∧ ¬ isDr dr a
def strKeys (kv : List (D × D)) : Bool := kv.all fun p => match p.1 with
  | .str _ => true
  | _ => false
section
variable {dr : Option (Addr × Addr)} {F H F' H' : Hp} {v : V}
theorem Dr.step {d : D} (h : Dr dr F H v d) (a : Stp dr F H F' H') : Dr dr F' H' v d := by
  rcases h with h | ⟨b, xs, ds, e1, e2, e3, e4, e5⟩ | ⟨b, xs, ds, e1, e2, e3, e4, e5⟩
  · exact .inl (h.up a.ff)
  · exact .inr (.inl ⟨b, xs, ds, e1, e2, a.keep b _ e3 e5, e4.up a.ff, e5⟩)
  · exact .inr (.inr ⟨b, xs, ds, e1, e2, a.keep b _ e3 e5, e4, e5⟩)
theorem Dr.list {ds : List D} (h : Dr dr F H v (.list ds)) (k : Same F H) : ∃ a xs, v = .ref a ∧ H a = some (.lst xs) ∧ DvAll F xs ds := by
  rcases h with h | ⟨b, xs, ds', e1, e2, e3, e4, e5⟩ | ⟨b, xs, ds', e1, e2, e3, e4, e5⟩
  · cases h with
    | lst e a => exact ⟨_, _, rfl, k _ _ e, a⟩
  · cases e2
    exact ⟨b, xs, e1, e3, e4⟩
  · cases e2
theorem Dr.tup {ds : List D} (h : Dr dr F H v (.tuple ds)) (k : Same F H) : ∃ a xs, v = .ref a ∧ H a = some (.tup xs) ∧ DvAll F xs ds := by
  rcases h with h | ⟨b, xs, ds', e1, e2, e3, e4, e5⟩ | ⟨b, xs, ds', e1, e2, e3, e4, e5⟩
  · cases h with
    | tup e a => exact ⟨_, _, rfl, k _ _ e, a⟩
  · cases e2
  · cases e2
theorem Dr.dic {kv : List (D × D)} (h : Dr dr F H v (.dict kv)) (hk : strKeys kv = true) (k : Same F H) : ∃ a kvs ks, v = .ref a ∧ kv = (ks : List Str).map (fun k => (.str k, .none)) ∧ H a = some (.dK kvs) ∧ kvs.map (·.1) = ks.map Sum.inr := by
  rcases h with h | ⟨b, xs, ds', e1, e2, e3, e4, e5⟩ | ⟨b, xs, ds', e1, e2, e3, e4, e5⟩
  · cases h with
    | dic e a => exact ⟨_, _, _, rfl, rfl, k _ _ e, a⟩
    | obj => exact absurd hk (by simp [strKeys])
  · cases e2
  · exact ⟨b, xs, ds', e1, by injection e2, e3, e4⟩
theorem Dr.scal {d : D} (h : Dr dr F H v d) (n : ∀ xs, d ≠ .list xs) (n2 : ∀ kv, d ≠ .dict kv) : Dv F v d := by
  rcases h with h | ⟨b, xs, ds', e1, e2, e3, e4, e5⟩ | ⟨b, xs, ds', e1, e2, e3, e4, e5⟩
  · exact h
  · exact absurd e2 (n _)
  · exact absurd e2 (n2 _)
end

/-! ### two-place operators -/
def rD (o : D → D → Option D) : R2 := fun x y H Q => ∃ F d e z, Same F H ∧ Dv F x d ∧ Dv F y e ∧ o d e = some z ∧ ∀ w F' H', Stq F H F' H' → Dv F' w z → Q w H'
/-- the right one readable -/
def rDr (o : D → D → Option D) : R2 := fun x y H Q => ∃ dr F d e z, Same F H ∧ Dv F x d ∧ Dr dr F H y e ∧ o d e = some z ∧ ∀ w F' H', Stq F H F' H' → Dv F' w z → Q w H'
/-- the left one readable -/
def rDl (o : D → D → Option D) : R2 := fun x y H Q => ∃ dr F d e z, Same F H ∧ Dr dr F H x d ∧ Dv F y e ∧ o d e = some z ∧ ∀ w F' H', Stq F H F' H' → Dv F' w z → Q w H'
theorem fin0 {F H : Hp} {w : V} {z : D} {Q : VK} (k : Same F H) (q : ∀ w F' H', Stq F H F' H' → Dv F' w z → Q w H') (d : Dv F w z) : Q w H := q w F H (Stp.refl k) d
theorem finL {F H : Hp} {xs : List V} {zs : List D} {Q : VK} {p : Addr} (k : Same F H) (q : ∀ w F' H', Stq F H F' H' → Dv F' w (.list zs) → Q w H') (hp : H p = none) (d : DvAll F xs zs) : Q (.ref p) (upd H p (.lst xs)) :=
  q _ _ _ (Stp.new k hp) (.lst upd_same (d.up (same_new (k.free hp))))
theorem finT {F H : Hp} {xs : List V} {zs : List D} {Q : VK} {p : Addr} (k : Same F H) (q : ∀ w F' H', Stq F H F' H' → Dv F' w (.tuple zs) → Q w H') (hp : H p = none) (d : DvAll F xs zs) : Q (.ref p) (upd H p (.tup xs)) :=
  q _ _ _ (Stp.new k hp) (.tup upd_same (d.up (same_new (k.free hp))))

def addD : D → D → Option D
  | .int i, .int j => some (.int (i + j))
  | .str x, .str y => if x.length + y.length ≤ LINE then some (.str (x ++ y)) else none
  | .list xs, .list ys => if xs.length + ys.length ≤ LINE then some (.list (xs ++ ys)) else none
  | .tuple xs, .tuple ys => if xs.length + ys.length ≤ LINE then some (.tuple (xs ++ ys)) else none
  | _, _ => none
def subD : D → D → Option D
  | .int i, .int j => some (.int (i - j))
  | _, _ => none
def mulD : D → D → Option D
  | .int i, .int j => if i.natAbs.log2 + j.natAbs.log2 < 1000000 then some (.int (i * j)) else none
  | .str x, .int n => if 0 ≤ n ∧ n ≤ 1000 ∧ x.length ≤ 1000 then some (.str (Txt.mul x n)) else none
  | .list xs, .int n => if 0 ≤ n ∧ n ≤ 1000 ∧ xs.length ≤ 1000 then some (.list (List.replicate n.toNat xs).flatten) else none
  | _, _ => none
def fdivD : D → D → Option D
  | .int i, .int j => if 0 < j ∧ j.natAbs.log2 < 9000 then some (.int (i / j)) else none
  | _, _ => none
def modD : D → D → Option D
  | .int i, .int j => if 0 < j then some (.int (i % j)) else none
  | _, _ => none
def powD : D → D → Option D
  | .int i, .int j => if 0 ≤ j ∧ j ≤ 1000000 ∧ i.natAbs < 2 ^ 64 then some (.int (i ^ j.toNat)) else none
  | _, _ => none
def eqD (d e : D) : Option D := if okD d && okD e then some (.bool (PyData.eqv d e)) else none
def neD (d e : D) : Option D := if okD d && okD e then some (.bool (!PyData.eqv d e)) else none
def okLt (d e : D) : Bool := okD d && (okD e && (PySem.W.alike d e && (match d with | .none => false | _ => true)))
def ltD (d e : D) : Option D := if okLt d e then some (.bool (PySem.W.dataLt d e)) else none
def gtD (d e : D) : Option D := if okLt d e then some (.bool (PySem.W.dataLt e d)) else none
def geD (d e : D) : Option D := if okLt d e then some (.bool (!PySem.W.dataLt d e)) else none
def isNone : D → Bool
  | .none => true
  | _ => false
def isND (d e : D) : Option D := match e with
  | .none => some (.bool (isNone d))
  | _ => none
def notND (d e : D) : Option D := match e with
  | .none => some (.bool (!isNone d))
  | _ => none
def isntBD (d e : D) : Option D := match d, e with
  | .bool a, .bool b => some (.bool (!decide (a = b)))
  | _, _ => none
def hasK (x : Str) (kv : List (D × D)) : Bool := kv.any fun p => match p.1 with
  | .str y => decide (y = x)
  | _ => false
def inD0 (d e : D) : Option Bool := match e with
  | .str z => (match d with
    | .str x => (match x.cps.toList with
      | [c] => some (decide (c ∈ z.cps.toList))
      | _ => none)
    | _ => none)
  | .list xs => if okD d && okD (.list xs) then some (xs.any fun y => PyData.eqv y d) else none
  | .tuple xs => if okD d && okD (.tuple xs) then some (xs.any fun y => PyData.eqv y d) else none
  | .dict kv => (match d with
    | .str x => if strKeys kv then some (hasK x kv) else none
    | _ => none)
  | _ => none
def inD (d e : D) : Option D := (inD0 d e).map fun b => .bool b
def notInD (d e : D) : Option D := (inD0 d e).map fun b => .bool (!b)

theorem str_one {x : Str} {c : Nat} (h : x.cps.toList = [c]) : x = ⟨#[c]⟩ := by
  cases x with
  | mk cps =>
    have e : cps = #[c] := Array.toList_inj.mp h
    rw [e]

section
variable {X : Cx}
theorem op_addD : OpR X (binaryOp .Add) (rD addD) := by
  intro pins s σ H x y v u Q I rx ry h
  obtain ⟨F, d, e, z, k, dx, dy, ho, q⟩ := h
  unfold addD at ho
  split at ho
  · cases ho; cases dx; cases dy
    exact op_add pins s σ H _ _ v u Q I rx ry ⟨_, _, rfl, rfl, fin0 k q (.int _)⟩
  · split at ho
    · cases ho; cases dx; cases dy
      rename_i hz
      exact op_add_str pins s σ H _ _ v u Q I rx ry ⟨_, _, rfl, rfl, line_le hz, fin0 k q (.str _)⟩
    · cases ho
  · split at ho
    · cases ho
      rename_i hz
      cases dx with
      | lst e1 a1 =>
      cases dy with
      | lst e2 a2 =>
      exact op_cat pins s σ H _ _ v u Q I rx ry ⟨_, _, _, _, rfl, rfl, k _ _ e1, k _ _ e2, by rw [a1.len, a2.len]; exact line_le hz, fun p hp => finL k q hp (a1.app a2)⟩
    · cases ho
  · split at ho
    · cases ho
      rename_i hz
      cases dx with
      | tup e1 a1 =>
      cases dy with
      | tup e2 a2 =>
      refine op_catA pins s σ H _ _ v u Q I rx ry ⟨_, _, _, _, rfl, rfl, SqT.of (k _ _ e1), SqT.of (k _ _ e2), by rw [a1.len, a2.len]; exact line_le hz, fun q0 => ?_, fun _ q0 => ?_, fun _ _ p hp => finT k q hp (a1.app a2)⟩
      · subst q0
        cases a1
        exact fin0 k q (.tup e2 a2)
      · subst q0
        cases a2
        rw [List.append_nil] at q
        exact fin0 k q (.tup e1 a1)
    · cases ho
  · cases ho
theorem op_subD : OpR X (binaryOp .Sub) (rD subD) := by
  intro pins s σ H x y v u Q I rx ry h
  obtain ⟨F, d, e, z, k, dx, dy, ho, q⟩ := h
  unfold subD at ho
  split at ho
  · cases ho; cases dx; cases dy
    exact op_sub pins s σ H _ _ v u Q I rx ry ⟨_, _, rfl, rfl, fin0 k q (.int _)⟩
  · cases ho
theorem mul_ok {x : Str} {n : Int} (h : 0 ≤ n ∧ n ≤ 1000 ∧ x.length ≤ 1000) : MulOk x n := by
  obtain ⟨h1, h2, h3⟩ := h
  refine ⟨by rw [decide_eq_false (by omega), decide_eq_false (by omega)] <;> rfl, fun hn _ => ?_, fun _ _ => ?_⟩
  · have e : (1000 : Int) ≤ (2 ^ 63 - 1) / n := (Int.le_ediv_iff_mul_le (by omega)).mpr (by omega)
    omega
  · have e : x.length * n.toNat ≤ 1000 * 1000 := Nat.mul_le_mul h3 (by omega)
    unfold Builtin.Str.tooLong
    rw [sizeLine_eq]
    exact decide_eq_false (by omega)
theorem op_mulD : OpR X (binaryOp .Mult) (rD mulD) := by
  intro pins s σ H x y v u Q I rx ry h
  obtain ⟨F, d, e, z, k, dx, dy, ho, q⟩ := h
  unfold mulD at ho
  split at ho
  · split at ho
    · rename_i hz
      cases ho; cases dx; cases dy
      exact op_mulW pins s σ H _ _ v u Q I rx ry ⟨_, _, rfl, rfl, hz, fin0 k q (.int _)⟩
    · cases ho
  · split at ho
    · rename_i hz
      cases ho; cases dx; cases dy
      obtain ⟨t, rfl⟩ := rx
      obtain ⟨t', rfl⟩ := ry
      refine SB.mul (mul_ok hz) fun t2 tk => ⟨.str _, H, I.tok _, ⟨_, rfl⟩, fin0 k q (.str _)⟩
    · cases ho
  · split at ho
    · rename_i hz
      cases ho
      cases dy
      cases dx with
      | lst e1 a1 =>
      obtain ⟨h1, h2, h3⟩ := hz
      refine op_rep pins s σ H _ _ v u Q I rx ry ⟨_, _, _, rfl, rfl, k _ _ e1, by omega, by omega, ?_, fun p hp => finL k q hp (a1.rep _)⟩
      rw [a1.len, sizeLine_eq]
      exact Nat.le_trans (Nat.mul_le_mul h3 (show _ ≤ 1000 by omega)) (by decide)
    · cases ho
  · cases ho
theorem op_fdivD : OpR X (binaryOp .FloorDiv) (rD fdivD) := by
  intro pins s σ H x y v u Q I rx ry h
  obtain ⟨F, d, e, z, k, dx, dy, ho, q⟩ := h
  unfold fdivD at ho
  split at ho
  · split at ho
    · rename_i hz
      cases ho; cases dx; cases dy
      exact op_fdivW pins s σ H _ _ v u Q I rx ry ⟨_, _, rfl, rfl, hz, fin0 k q (.int _)⟩
    · cases ho
  · cases ho
theorem op_modD : OpR X (binaryOp .Mod) (rD modD) := by
  intro pins s σ H x y v u Q I rx ry h
  obtain ⟨F, d, e, z, k, dx, dy, ho, q⟩ := h
  unfold modD at ho
  split at ho
  · split at ho
    · rename_i hz
      cases ho; cases dx; cases dy
      exact op_mod pins s σ H _ _ v u Q I rx ry ⟨_, _, rfl, rfl, hz, fin0 k q (.int _)⟩
    · cases ho
  · cases ho
theorem op_powD : OpR X (binaryOp .Pow) (rD powD) := by
  intro pins s σ H x y v u Q I rx ry h
  obtain ⟨F, d, e, z, k, dx, dy, ho, q⟩ := h
  unfold powD at ho
  split at ho
  · split at ho
    · rename_i hz
      cases ho; cases dx; cases dy
      exact op_pow pins s σ H _ _ v u Q I rx ry ⟨_, _, rfl, rfl, hz, fin0 k q (.int _)⟩
    · cases ho
  · cases ho
theorem ba2 {a b : Bool} (h : (a && b) = true) : a = true ∧ b = true := Bool.and_eq_true_iff.mp h
theorem op_eqDD (hu : X.A.units + 64 < cLine) : OpR X (compareOp .Eq) (rD eqD) := by
  intro pins s σ H x y v u Q I rx ry h
  obtain ⟨F, d, e, z, k, dx, dy, ho, q⟩ := h
  unfold eqD at ho
  split at ho
  · rename_i hz
    obtain ⟨h1, h2⟩ := ba2 hz
    cases ho
    obtain ⟨as, ra⟩ := dx.reads I k (okD_plain h1) rx
    obtain ⟨bs, rb⟩ := dy.reads I k (okD_plain h2) ry
    have := okD_depth h1
    exact PySem.SeqAt.eq_plain ra rb (okD_plain h1) (okD_plain h2) (by omega) ⟨.bl _, H, I, rfl, fin0 k q (.bl _)⟩
  · cases ho
theorem op_neDD (hu : X.A.units + 64 < cLine) : OpR X (compareOp .NotEq) (rD neD) := by
  intro pins s σ H x y v u Q I rx ry h
  obtain ⟨F, d, e, z, k, dx, dy, ho, q⟩ := h
  unfold neD at ho
  split at ho
  · rename_i hz
    obtain ⟨h1, h2⟩ := ba2 hz
    cases ho
    obtain ⟨as, ra⟩ := dx.reads I k (okD_plain h1) rx
    obtain ⟨bs, rb⟩ := dy.reads I k (okD_plain h2) ry
    have := okD_depth h1
    exact PySem.SeqAt.ne_plain ra rb (okD_plain h1) (okD_plain h2) (by omega) ⟨.bl _, H, I, rfl, fin0 k q (.bl _)⟩
  · cases ho
theorem okLt_un {d e : D} (h : okLt d e = true) : okD d = true ∧ okD e = true ∧ PySem.W.alike d e = true ∧ d ≠ .none := by
  obtain ⟨h1, h2⟩ := ba2 h
  obtain ⟨h2, h3⟩ := ba2 h2
  obtain ⟨h3, h4⟩ := ba2 h3
  exact ⟨h1, h2, h3, fun z => by rw [z] at h4; cases h4⟩
theorem op_ltDD (hu : X.A.units + 64 < cLine) : OpR X (compareOp .Lt) (rD ltD) := by
  intro pins s σ H x y v u Q I rx ry h
  obtain ⟨F, d, e, z, k, dx, dy, ho, q⟩ := h
  unfold ltD at ho
  split at ho
  · rename_i hz
    obtain ⟨h1, h2, h3, h4⟩ := okLt_un hz
    cases ho
    obtain ⟨as, ra⟩ := dx.reads I k (okD_plain h1) rx
    obtain ⟨bs, rb⟩ := dy.reads I k (okD_plain h2) ry
    have := okD_depth h1
    exact PySem.W.lt_data ra rb h3 h4 (by omega) ⟨.bl _, H, I, rfl, fin0 k q (.bl _)⟩
  · cases ho
theorem op_gtDD (hu : X.A.units + 64 < cLine) : OpR X (compareOp .Gt) (rD gtD) := by
  intro pins s σ H x y v u Q I rx ry h
  obtain ⟨F, d, e, z, k, dx, dy, ho, q⟩ := h
  unfold gtD at ho
  split at ho
  · rename_i hz
    obtain ⟨h1, h2, h3, h4⟩ := okLt_un hz
    cases ho
    obtain ⟨as, ra⟩ := dx.reads I k (okD_plain h1) rx
    obtain ⟨bs, rb⟩ := dy.reads I k (okD_plain h2) ry
    have := okD_depth h1
    exact PySem.W.gt_data ra rb h3 h4 (by omega) ⟨.bl _, H, I, rfl, fin0 k q (.bl _)⟩
  · cases ho
theorem op_geDD (hu : X.A.units + 64 < cLine) : OpR X (compareOp .GtE) (rD geD) := by
  intro pins s σ H x y v u Q I rx ry h
  obtain ⟨F, d, e, z, k, dx, dy, ho, q⟩ := h
  unfold geD at ho
  split at ho
  · rename_i hz
    obtain ⟨h1, h2, h3, h4⟩ := okLt_un hz
    cases ho
    obtain ⟨as, ra⟩ := dx.reads I k (okD_plain h1) rx
    obtain ⟨bs, rb⟩ := dy.reads I k (okD_plain h2) ry
    have := okD_depth h1
    exact PySem.W.ge_data ra rb h3 h4 (by omega) ⟨.bl _, H, I, rfl, fin0 k q (.bl _)⟩
  · cases ho
theorem dv_none {F : Hp} {x : V} {d : D} (h : Dv F x d) : decide (x = V.non) = isNone d := by
  cases h <;> simp [isNone]
theorem op_isND : OpR X (compareOp .Is) (rD isND) := by
  intro pins s σ H x y v u Q I rx ry h
  obtain ⟨F, d, e, z, k, dx, dy, ho, q⟩ := h
  unfold isND at ho
  split at ho
  · cases ho; cases dy
    refine op_isN pins s σ H _ _ v u Q I rx ry ⟨rfl, ?_⟩
    rw [dv_none dx]
    exact fin0 k q (.bl _)
  · cases ho
theorem op_notND : OpR X (compareOp .IsNot) (rD notND) := by
  intro pins s σ H x y v u Q I rx ry h
  obtain ⟨F, d, e, z, k, dx, dy, ho, q⟩ := h
  unfold notND at ho
  split at ho
  · cases ho; cases dy
    refine op_notN pins s σ H _ _ v u Q I rx ry ⟨rfl, ?_⟩
    rw [dv_none dx]
    exact fin0 k q (.bl _)
  · cases ho
theorem op_isntBD : OpR X (compareOp .IsNot) (rD isntBD) := by
  intro pins s σ H x y v u Q I rx ry h
  obtain ⟨F, d, e, z, k, dx, dy, ho, q⟩ := h
  unfold isntBD at ho
  split at ho
  · cases ho; cases dy; cases dx
    exact op_notBl pins s σ H _ _ v u Q I rx ry ⟨_, _, rfl, rfl, fin0 k q (.bl _)⟩
  · cases ho
theorem hasK_eq (x : Str) : ∀ {kvs : List (Key × V)} {ks : List Str}, kvs.map (·.1) = ks.map Sum.inr → (valV kvs (Sum.inr x : Key)).isSome = hasK x (ks.map fun k => (.str k, .none))
  | [], [], _ => rfl
  | [], _ :: _, h => by cases h
  | _ :: _, [], h => by cases h
  | (k, w) :: r, z :: ks, h => by
    rw [List.map_cons, List.map_cons] at h
    injection h with h1 h2
    have ih := hasK_eq x h2
    have h1' : k = Sum.inr z := h1
    subst h1'
    by_cases e : z = x
    · subst e
      rw [valV_pos rfl]
      simp [hasK]
    · rw [valV_neg (fun q => e (Sum.inr.inj q)), ih]
      simp [hasK, e]
theorem op_inDD (hu : X.A.units + 65 < cLine) : OpR X (compareOp .In) (rDr inD) := by
  intro pins s σ H x y v u Q I rx ry h
  obtain ⟨dr, F, d, e, z, k, dx, dy, ho, q⟩ := h
  unfold inD inD0 at ho
  cases e with
  | str w =>
    cases d with
    | str x =>
      have dw := dy.scal (fun _ z => by cases z) (fun _ z => by cases z)
      cases dw; cases dx
      simp only at ho
      split at ho
      · rename_i c hc
        cases ho
        rw [str_one hc] at rx
        exact op_in_sign pins s σ H _ _ v u Q I rx ry ⟨_, _, rfl, rfl, fin0 k q (.bl _)⟩
      · cases ho
    | _ => cases ho
  | list xs =>
    simp only at ho
    split at ho
    · rename_i hz
      obtain ⟨h1, h2⟩ := ba2 hz
      cases ho
      obtain ⟨as, ra⟩ := dx.reads I k (okD_plain h1) rx
      have dep := okD_depth h1
      obtain ⟨a, vs, rfl, eH, al⟩ := dy.list k
      have p2 : PyData.plainAll xs = true := by simpa [PyData.plain] using okD_plain h2
      obtain ⟨bs, rb⟩ := Dp.reads I (.list xs) _ _ (.lst (SqL.of eH) (DvAll.dp X.K xs vs p2 (al.up k))) ry
      exact PySem.SeqAt.in_list_data rb ra p2 (okD_plain h1) (by omega) ⟨.bl _, H, I, rfl, fin0 k q (.bl _)⟩
    · cases ho
  | tuple xs =>
    simp only at ho
    split at ho
    · rename_i hz
      obtain ⟨h1, h2⟩ := ba2 hz
      cases ho
      obtain ⟨as, ra⟩ := dx.reads I k (okD_plain h1) rx
      have dep := okD_depth h1
      obtain ⟨a, vs, rfl, eH, al⟩ := dy.tup k
      have p2 : PyData.plainAll xs = true := by simpa [PyData.plain] using okD_plain h2
      obtain ⟨bs, rb⟩ := Dp.reads I (.tuple xs) _ _ (.tup (SqT.of eH) (DvAll.dp X.K xs vs p2 (al.up k))) ry
      exact PySem.SeqAt.in_tuple_data rb ra p2 (okD_plain h1) (by omega) ⟨.bl _, H, I, rfl, fin0 k q (.bl _)⟩
    · cases ho
  | dict kv =>
    cases d with
    | str x =>
      have ho' : ∃ hk : strKeys kv = true, some (PyData.bool (hasK x kv)) = some z := by
        by_cases hk : strKeys kv = true
        · simp only [hk, if_true, Option.map_some] at ho
          exact ⟨hk, ho⟩
        · simp only [hk] at ho
          cases ho
      obtain ⟨hk0, ho'⟩ := ho'
      cases ho'
      cases dx
      obtain ⟨a, kvs, ks, rfl, rfl, eH, hk⟩ := dy.dic hk0 k
      cases ry
      refine d_in (y := .str x) (a := a) (by omega) I (DGet.k (k := Sum.inr x) eH) rx fun s' I' => ⟨.bl _, H, I', rfl, ?_⟩
      rw [hasK_eq x hk]
      exact fin0 k q (.bl _)
    | _ => cases ho
  | _ => cases ho
theorem op_notInDD (hu : X.A.units + 65 < cLine) : OpR X (compareOp .NotIn) (rDr notInD) := by
  intro pins s σ H x y v u Q I rx ry h
  obtain ⟨dr, F, d, e, z, k, dx, dy, ho, q⟩ := h
  unfold notInD inD0 at ho
  cases e with
  | str w =>
    cases d with
    | str x =>
      have dw := dy.scal (fun _ z => by cases z) (fun _ z => by cases z)
      cases dw; cases dx
      simp only at ho
      split at ho
      · rename_i c hc
        cases ho
        rw [str_one hc] at rx
        exact op_notIn_sign pins s σ H _ _ v u Q I rx ry ⟨_, _, rfl, rfl, fin0 k q (.bl _)⟩
      · cases ho
    | _ => cases ho
  | list xs =>
    simp only at ho
    split at ho
    · rename_i hz
      obtain ⟨h1, h2⟩ := ba2 hz
      cases ho
      obtain ⟨as, ra⟩ := dx.reads I k (okD_plain h1) rx
      have dep := okD_depth h1
      obtain ⟨a, vs, rfl, eH, al⟩ := dy.list k
      have p2 : PyData.plainAll xs = true := by simpa [PyData.plain] using okD_plain h2
      obtain ⟨bs, rb⟩ := Dp.reads I (.list xs) _ _ (.lst (SqL.of eH) (DvAll.dp X.K xs vs p2 (al.up k))) ry
      exact PySem.SeqAt.notIn_list_data rb ra p2 (okD_plain h1) (by omega) ⟨.bl _, H, I, rfl, fin0 k q (.bl _)⟩
    · cases ho
  | tuple xs =>
    simp only at ho
    split at ho
    · rename_i hz
      obtain ⟨h1, h2⟩ := ba2 hz
      cases ho
      obtain ⟨as, ra⟩ := dx.reads I k (okD_plain h1) rx
      have dep := okD_depth h1
      obtain ⟨a, vs, rfl, eH, al⟩ := dy.tup k
      have p2 : PyData.plainAll xs = true := by simpa [PyData.plain] using okD_plain h2
      obtain ⟨bs, rb⟩ := Dp.reads I (.tuple xs) _ _ (.tup (SqT.of eH) (DvAll.dp X.K xs vs p2 (al.up k))) ry
      exact PySem.SeqAt.notIn_tuple_data rb ra p2 (okD_plain h1) (by omega) ⟨.bl _, H, I, rfl, fin0 k q (.bl _)⟩
    · cases ho
  | dict kv =>
    cases d with
    | str x =>
      have ho' : ∃ hk : strKeys kv = true, some (PyData.bool (!hasK x kv)) = some z := by
        by_cases hk : strKeys kv = true
        · simp only [hk, if_true, Option.map_some] at ho
          exact ⟨hk, ho⟩
        · simp only [hk] at ho
          cases ho
      obtain ⟨hk0, ho'⟩ := ho'
      cases ho'
      cases dx
      obtain ⟨a, kvs, ks, rfl, rfl, eH, hk⟩ := dy.dic hk0 k
      cases ry
      refine d_notIn (y := .str x) (a := a) (by omega) I (DGet.k (k := Sum.inr x) eH) rx fun s' I' => ⟨.bl _, H, I', rfl, ?_⟩
      rw [hasK_eq x hk]
      exact fin0 k q (.bl _)
    | _ => cases ho
  | _ => cases ho

/-! ### one place, a cut -/
def idxD : D → D → Option D
  | .list xs, .int i => atI xs i
  | .tuple xs, .int i => atI xs i
  | .str z, .int i => if z.length ≤ LINE then (atI z.cps.toList i).map fun c => .str ⟨#[c]⟩ else none
  | _, _ => none
theorem atI_dv {F : Hp} {vs : List V} {ds : List D} {i : Int} {z : D} (a : DvAll F vs ds) (h : atI ds i = some z) : ∃ v, atI vs i = some v ∧ Dv F v z := by
  unfold atI at h ⊢
  rw [a.len]
  cases e : ixN ds.length i with
  | none => rw [e] at h; cases h
  | some j =>
    rw [e] at h
    exact a.get h
theorem ix_D : IxR X (rDl idxD) := by
  intro value slice pins s σ H x y v u Q I rx ry h hs
  obtain ⟨dr, F, d, e, z, k, dx, dy, ho, q⟩ := h
  refine ix_seq value slice pins s σ H x y v u Q I rx ry ?_ hs
  unfold idxD at ho
  split at ho
  · obtain ⟨a, vs, rfl, eH, al⟩ := dx.list k
    cases dy
    obtain ⟨w, hw, dw⟩ := atI_dv al ho
    exact .inl ⟨_, _, _, w, rfl, rfl, SqL.of eH, hw, fin0 k q dw⟩
  · obtain ⟨a, vs, rfl, eH, al⟩ := dx.tup k
    cases dy
    obtain ⟨w, hw, dw⟩ := atI_dv al ho
    exact .inr (.inl ⟨_, _, _, w, rfl, rfl, SqT.of eH, hw, fin0 k q dw⟩)
  · have dw := dx.scal (fun _ z => by cases z) (fun _ z => by cases z)
    cases dw
    cases dy
    split at ho
    · rename_i hz
      obtain ⟨c, hc, e⟩ := Option.map_eq_some_iff.mp ho
      subst e
      exact .inr (.inr ⟨_, _, c, rfl, rfl, line_le hz, hc, fin0 k q (.str _)⟩)
    · cases ho
  · cases ho
def cutD (xs : List D) (lo hi : Option Int) : List D := (xs.drop (HT.sIx xs.length 0 lo)).take (HT.sIx xs.length xs.length hi - HT.sIx xs.length 0 lo)
def sliceD : D → Option Int → Option Int → Option D
  | .list xs, lo, hi => some (.list (cutD xs lo hi))
  | .tuple xs, lo, hi => some (.tuple (cutD xs lo hi))
  | .str z, lo, hi => if z.length ≤ LINE then some (.str (cutS z lo hi)) else none
  | _, _, _ => none
theorem cut_dv {F : Hp} {vs : List V} {ds : List D} {lo hi : Option Int} (a : DvAll F vs ds) : DvAll F (cutV vs lo hi) (cutD ds lo hi) := by
  unfold cutV cutD
  rw [a.len]
  exact (a.drop _).take _
def rSlD (o : D → Option Int → Option Int → Option D) : V → Option Int → Option Int → Hp → VK → Prop := fun x lo hi H Q => ∃ dr F d z, Same F H ∧ Dr dr F H x d ∧ o d lo hi = some z ∧ ∀ w F' H', Stq F H F' H' → Dv F' w z → Q w H'
theorem sl_D : SlR X (rSlD sliceD) := by
  intro pins s σ H x v vl vu lo hi sl Q I rx hs pl pu h
  obtain ⟨dr, F, d, z, k, dx, ho, q⟩ := h
  refine (sl_list.or (sl_tupA.or sl_str)) pins s σ H x v vl vu lo hi sl Q I rx hs pl pu ?_
  unfold sliceD at ho
  split at ho
  · cases ho
    obtain ⟨a, vs, rfl, eH, al⟩ := dx.list k
    exact .inl ⟨_, _, rfl, SqL.of eH, fun p hp => finL k q hp (cut_dv al)⟩
  · cases ho
    obtain ⟨a, vs, rfl, eH, al⟩ := dx.tup k
    refine .inr (.inl ⟨_, vs, rfl, SqT.of eH, fun hw => ?_, fun _ p hp => finT k q hp (cut_dv al)⟩)
    have e : cutV vs lo hi = vs := by
      unfold cutV
      rw [hw.1, hw.2, List.drop_zero, Nat.sub_zero, List.take_length]
    have e2 := cut_dv (lo := lo) (hi := hi) al
    rw [e] at e2
    rcases dx with h | ⟨b, xs, ds', e1, e2, e3, e4, e5⟩ | ⟨b, xs, ds', e1, e2, e3, e4, e5⟩
    · cases h with
      | tup e0 a0 =>
        have exs := (k _ _ e0).symm.trans eH
        cases exs
        exact fin0 k q (.tup e0 e2)
    · cases e2
    · cases e2
  · have dw := dx.scal (fun _ z => by cases z) (fun _ z => by cases z)
    cases dw
    split at ho
    · rename_i hz
      cases ho
      exact .inr (.inr ⟨_, rfl, line_le hz, fin0 k q (.str _)⟩)
    · cases ho
  · cases ho
end
end TK
end
section
set_option Elab.async false
set_option linter.all false
set_option maxRecDepth 100000
set_option maxHeartbeats 4000000
/-! Built-ins on data. -/
namespace TK
open PySem PySem.Spec PyProof.Rows L2

/-! ### sorted of a tuple, of a list -/
section
variable {prog : Program} {w : World} {A : Around} {E : Value → Shared → Prop} {s : Shared}
/-- a list, a tuple of these items stands there -/
def SeqIs (h : Heap) (l : Addr) (vs : List Value) : Prop := ∃ o T n, h.get? l = some o ∧ o.cls = .type T ∧ (T = "list" ∨ T = "tuple") ∧ o.data = .seq vs.toArray n
theorem collect_seqIs {l : Addr} {vs : List Value} {Q : List Value → Shared → Prop} (hl : SeqIs s.heap l vs) (hz : vs.length ≤ sizeLine)
    (h : Q vs { s with heap := (s.heap.push (seqObj "list" #[] 0)).update s.heap.objs.size (Obj.mapSeq (· ++ vs.toArray)) }) : wpAny (model prog w) A (collect (.ref l)) Q E s := by
  obtain ⟨o, T, n, ho, hc, hT, hd⟩ := hl
  unfold collect
  refine wpAny_bind (wpAny_runValue (codeAny_builtin entry_proto_collect' ?_))
  refine wpAny_bind (m := newList []) (wpAny_newList (wpAny_pure ⟨Code.quiet_builtin _ (by decide +kernel), codeAny_builtin entry_list_iadd' ?_⟩))
  have h1 : (s.heap.push (seqObj "list" #[] 0)).get? l = some o := Heap.get?_push_of_some _ ho
  have h2 : (s.heap.push (seqObj "list" #[] 0)).get? s.heap.objs.size = some (seqObj "list" #[] 0) := Heap.get?_push_size _ rfl
  show wpAny _ _ (Builtin.List.listExtendWith (.ref s.heap.objs.size) (.ref l) (.ref s.heap.objs.size)) _ _ { s with heap := s.heap.push (seqObj "list" #[] 0) }
  unfold Builtin.List.listExtendWith
  refine wpAny_bind (wpAny_typeOf (T := T) ⟨o, h1, hc⟩ ?_)
  have e : (Builtin.List.listSameRef (.ref s.heap.objs.size) (.ref l) || Value.type T == .type "list" || Value.type T == .type "tuple") = true := by
    rcases hT with rfl | rfl
    · rw [show (Value.type "list" == Value.type "list") = true from rfl]
      simp
    · rw [show (Value.type "tuple" == Value.type "tuple") = true from rfl]
      simp
  rw [if_pos e]
  refine wpAny_bind (listItems_at h1 hd (wpAny_bind (listItems_at h2 rfl ?_)))
  rw [if_neg (by simp)]
  refine wpAny_bind (listUpdate_at h2 rfl (wpAny_pure ?_) (Nat.zero_le _) (by show (#[] ++ vs.toArray).size ≤ sizeLine + 1; simp only [Array.size_append, List.size_toArray, List.length_nil]; omega))
  refine wpAny_bind (wpAny_load (get?_update_seq h2 _) ?_)
  show wpAny _ _ (pure ((#[] : Array Value) ++ vs.toArray).toList) Q E _
  rw [show ((#[] : Array Value) ++ vs.toArray).toList = vs by simp]
  exact wpAny_pure h
theorem sorted_seqIs {l : Addr} {vs : List Value} {κ : KeyKind} {Q : Value → Shared → Prop} (hl : SeqIs s.heap l vs) (hz : vs.length ≤ sizeLine)
    (S : PySem.W.SortsAt prog w A.in1.in1 { s with heap := PySem.W.sortingHeap (PySem.W.copyHeap s.heap vs) (s.heap.objs.size + 1) vs } κ vs)
    (h : Q (.ref (s.heap.objs.size + 1)) { s with heap := sortedAll s.heap vs (PySem.W.sortVals κ false vs vs).toArray }) : wpAny (model prog w) A (call (.builtin "sorted") [.ref l]) Q E s := by
  refine Calls.call_function_entry kind_sorted plain_sorted entry_sorted (args_sorted1 _) ?_
  unfold Builtin.«sorted»
  refine wpAny_bind (m := checkCount "sorted" 1 1 _) (wpAny_pure (wpAny_bind (collect_seqIs hl hz (wpAny_bind (wpAny_newList ?_ hz)))))
  have hsz : ((s.heap.push (seqObj "list" #[] 0)).update s.heap.objs.size (Obj.mapSeq (· ++ vs.toArray))).objs.size = s.heap.objs.size + 1 := by
    rw [Heap.size_update, size_push']
  show wpAny _ _ _ _ _ { s with heap := PySem.W.copyHeap s.heap vs }
  rw [hsz]
  refine wpAny_bind (wpAny_holding (wpAny_call_entry slot_list_sort ⟨_, PySem.W.copyHeap_at s.heap vs, rfl⟩ entry_list_sort (PySem.W.list_sort_vals (s := { s with heap := PySem.W.copyHeap s.heap vs }) (PySem.W.copyHeap_at s.heap vs) S hz ?_) (args_list_sort _)))
  exact ⟨_, rfl, wpAny_pure ⟨_, rfl, h⟩⟩
end
theorem seq_list {X : Cx} {pins : List (Addr × Obj)} {σ : L2.St} {H : Hp} {s : Shared} {a : Addr} {xs : List V} (I : Inv X pins σ H s) (h : H a = some (.lst xs)) : ∃ its, Vals xs its ∧ SeqIs s.heap a its ∧ xs.length ≤ sizeLine := by
  obtain ⟨its, r, ⟨o, n, e, c, _, d⟩, hz⟩ := I.list (SqL.of h)
  exact ⟨its, r, ⟨o, "list", n, e, c, .inl rfl, d⟩, hz⟩
theorem seq_tup {X : Cx} {pins : List (Addr × Obj)} {σ : L2.St} {H : Hp} {s : Shared} {a : Addr} {xs : List V} (I : Inv X pins σ H s) (h : H a = some (.tup xs)) : ∃ its, Vals xs its ∧ SeqIs s.heap a its ∧ xs.length ≤ sizeLine := by
  obtain ⟨its, r, ⟨o, e, c, n, d⟩, hz⟩ := I.tuple (SqT.of h)
  exact ⟨its, r, ⟨o, "tuple", n, e, c, .inr rfl, d⟩, hz⟩

def tupC : D → Bool
  | .tuple (_ :: _) => true
  | _ => false
def noTN : D → Bool
  | .tuple _ => false
  | .none => false
  | _ => true
def okSort (ds : List D) : Bool := ds.all okD && (ds.all (fun d => ds.all (PySem.W.alike d)) && (ds.all tupC || ds.all noTN))
def sortD (ds : List D) : List D := ds.mergeSort (PySem.W.dataLe false id)
def itemsD : D → Option (List D)
  | .list xs => some xs
  | .tuple xs => some xs
  | _ => none
def sortedD (d : D) : Option D := (itemsD d).bind fun xs => if okSort xs then some (.list (sortD xs)) else none
theorem okSort_alike {ds : List D} (h : okSort ds = true) : PySem.W.AllAlike ds := by
  obtain ⟨_, h2⟩ := ba2 h
  obtain ⟨h2, _⟩ := ba2 h2
  intro d hd e he
  exact List.all_eq_true.mp (List.all_eq_true.mp h2 d hd) e he
theorem okSort_sortable {ds : List D} (h : okSort ds = true) : PySem.W.Sortable ds := by
  obtain ⟨_, h2⟩ := ba2 h
  obtain ⟨_, h2⟩ := ba2 h2
  rcases Bool.or_eq_true_iff.mp h2 with h3 | h3
  · refine .inl fun d hd => ?_
    have q := List.all_eq_true.mp h3 d hd
    unfold tupC at q
    split at q
    · exact ⟨_, _, rfl⟩
    · cases q
  · refine .inr fun d hd => ?_
    have q := List.all_eq_true.mp h3 d hd
    unfold noTN at q
    split at q
    · cases q
    · cases q
    · rename_i h1 h2
      exact ⟨h2, h1⟩
theorem okSort_ok {ds : List D} (h : okSort ds = true) : ∀ d ∈ ds, okD d = true := List.all_eq_true.mp (ba2 h).1

section
variable {X : Cx} {pins : List (Addr × Obj)} {σ : L2.St} {s : Shared} {F H : Hp}
theorem each_of : ∀ {xs : List V} {us : List Value} {ds : List D}, Vals xs us → DvAll F xs ds → PySem.W.EachIs (fun u (b : V × D) => RelV b.1 u ∧ Dv F b.1 b.2) us (xs.zip ds)
  | _, _, _, .nil, .nil => .nil
  | _, _, _, .cons r rr, .cons d dd => .cons ⟨r, d⟩ (each_of rr dd)
theorem of_each : ∀ {us : List Value} {bs : List (V × D)}, PySem.W.EachIs (fun u (b : V × D) => RelV b.1 u ∧ Dv F b.1 b.2) us bs → Vals (bs.map (·.1)) us ∧ DvAll F (bs.map (·.1)) (bs.map (·.2))
  | _, _, .nil => ⟨.nil, .nil⟩
  | _, _, .cons h t => ⟨.cons h.1 (of_each t).1, .cons h.2 (of_each t).2⟩
theorem sort_core {a : Addr} {xs : List V} {its : List Value} {ds : List D} {Q : VK} (hu : X.A.units + 64 < cLine) (I : Inv X pins σ H s) (k : Same F H) (rv : Vals xs its) (hs : SeqIs s.heap a its) (hz : xs.length ≤ sizeLine) (al : DvAll F xs ds)
    (ok : okSort ds = true) (q : ∀ w F' H', Stq F H F' H' → Dv F' w (.list (sortD ds)) → Q w H') : wpAny (model X.prog X.w) X.A (call (.builtin "sorted") [.ref a]) (EP X pins σ Q) X.xe s := by
  have e := each_of rv al
  have hl := rv.length
  have emap : (xs.zip ds).map Prod.snd = ds := List.map_snd_zip (by rw [al.len]; exact Nat.le_refl _)
  have hal : PySem.W.AllAlike ((xs.zip ds).map Prod.snd) := by rw [emap]; exact okSort_alike ok
  have hk : PySem.W.Sortable ((xs.zip ds).map Prod.snd) := by rw [emap]; exact okSort_sortable ok
  have er : PySem.W.EachIs (fun v (b : V × D) => ∃ as, Reads (PySem.W.sortingHeap (PySem.W.copyHeap s.heap its) (s.heap.objs.size + 1) its) v b.2 as) its (xs.zip ds) := by
    refine PySem.W.EachIs.of_zip e.length fun p hp => ?_
    have z := e.zip p hp
    have hm : p.2.2 ∈ ds := by
      have h2 : p.2 ∈ xs.zip ds := (List.of_mem_zip hp).2
      exact (List.of_mem_zip (a := p.2.1) (b := p.2.2) h2).2
    obtain ⟨as, r⟩ := z.2.reads I k (okD_plain (okSort_ok ok _ hm)) z.1
    exact ⟨as, PyProof.Rows.Reads.keeps (fun _ _ => PySem.W.sorting_copy_old) r⟩
  have hu2 : ∀ d, d ∈ (xs.zip ds).map Prod.snd → X.A.in1.in1.units + d.depth < cLine := fun d hd => by
    rw [emap] at hd
    have := okD_depth (okSort_ok ok d hd)
    show X.A.units + 1 + 1 + d.depth < cLine
    omega
  refine sorted_seqIs hs (by rw [← hl]; exact hz) (PySem.W.SortsAt.data (s := { s with heap := PySem.W.sortingHeap (PySem.W.copyHeap s.heap its) (s.heap.objs.size + 1) its }) (PySem.W.each_map (R := fun v d => ∃ as, Reads (PySem.W.sortingHeap (PySem.W.copyHeap s.heap its) (s.heap.objs.size + 1) its) v d as) Prod.snd er) hal hk hu2) ?_
  have out := PySem.W.sortVals_data (enc := Prod.snd) false e er hal
  obtain ⟨rv2, al2⟩ := of_each out
  have hlen : (PySem.W.sortVals (PySem.W.dataKind (PySem.W.sortingHeap (PySem.W.copyHeap s.heap its) (s.heap.objs.size + 1) its) ((xs.zip ds).map Prod.snd)) false its its).length = its.length := PySem.W.sortVals_length false rfl
  have ed : ((xs.zip ds).mergeSort (PySem.W.dataLe false Prod.snd)).map (·.2) = sortD ds := by
    have z := PySem.W.sort_maps (r := PySem.W.dataLe false (Prod.snd : V × D → D)) (s := PySem.W.dataLe false id) (Prod.snd : V × D → D) (l := xs.zip ds) (fun _ _ _ _ => rfl)
    rw [emap] at z
    exact z
  rw [ed] at al2
  obtain ⟨c, hc⟩ := sortedAll_at s.heap its (PySem.W.sortVals (PySem.W.dataKind (PySem.W.sortingHeap (PySem.W.copyHeap s.heap its) (s.heap.objs.size + 1) its) ((xs.zip ds).map Prod.snd)) false its its).toArray
  have fr : H (s.heap.objs.size + 1) = none := I.hok.fresh (Nat.le_succ _)
  refine ⟨.ref (s.heap.objs.size + 1), _, I.laid (t' := s.toks) (a := s.heap.objs.size + 1) (o := .lst (((xs.zip ds).mergeSort (PySem.W.dataLe false Prod.snd)).map (·.1))) (fun b u e => sortedAll_old e) (Nat.le_succ _) ?_, rfl, finL k q fr al2⟩
  refine ⟨?_, _, c, rv2, hc⟩
  rw [rv2.length, hlen, ← hl]
  exact hz
end

/-! ### one argument -/
def rC1 (o : D → Option D) : List V → Hp → VK → Prop := fun vs H Q => ∃ dr v F d z, vs = [v] ∧ Same F H ∧ Dr dr F H v d ∧ o d = some z ∧ ∀ w F' H', Stq F H F' H' → Dv F' w z → Q w H'
def lenD : D → Option D
  | .list xs => some (.int xs.length)
  | .tuple xs => some (.int xs.length)
  | .str z => if z.length ≤ LINE then some (.int z.length) else none
  | _ => none
def tupleD (d : D) : Option D := (itemsD d).map .tuple
def listD (d : D) : Option D := (itemsD d).map .list
def boolsD : List D → Option (List Bool)
  | [] => some []
  | .bool b :: r => (boolsD r).map (b :: ·)
  | _ => none
def intsD : List D → Option (List Int)
  | [] => some []
  | .int b :: r => (intsD r).map (b :: ·)
  | _ => none
theorem boolsD_eq : ∀ {ds : List D} {bs : List Bool}, boolsD ds = some bs → ds = bs.map .bool
  | [], _, h => by cases h; rfl
  | d :: r, bs, h => by
    cases d with
    | bool b =>
      obtain ⟨cs, h1, h2⟩ := Option.map_eq_some_iff.mp (show (boolsD r).map (b :: ·) = some bs from h)
      subst h2
      rw [boolsD_eq h1] <;> rfl
    | _ => cases h
theorem intsD_eq : ∀ {ds : List D} {bs : List Int}, intsD ds = some bs → ds = bs.map .int
  | [], _, h => by cases h; rfl
  | d :: r, bs, h => by
    cases d with
    | int b =>
      obtain ⟨cs, h1, h2⟩ := Option.map_eq_some_iff.mp (show (intsD r).map (b :: ·) = some bs from h)
      subst h2
      rw [intsD_eq h1] <;> rfl
    | _ => cases h
def anyD : D → Option D
  | .list xs => (boolsD xs).map fun bs => .bool (bs.any id)
  | _ => none
def allD : D → Option D
  | .list xs => (boolsD xs).map fun bs => .bool (bs.all id)
  | _ => none
def sumD : D → Option D
  | .list xs => (intsD xs).map fun ns => .int ns.sum
  | _ => none
def absD : D → Option D
  | .int i => some (.int (if i < 0 then -i else i))
  | _ => none
def intD : D → Option D
  | .int i => some (.int i)
  | .bool b => some (.int (if b then 1 else 0))
  | _ => none
def negD : D → Option D
  | .int i => some (.int (-i))
  | _ => none
def okMin (xs : List D) : Bool := xs.all okD && (xs.all (fun d => xs.all (PySem.W.alike d)) && xs.all (fun d => !isNone d))
def minD1 (d : D) : Option D := (itemsD d).bind fun xs => match xs with
  | [] => none
  | x :: r => if okMin (x :: r) then some (PySem.W.minD x r) else none
def maxD1 : D → Option D
  | .list (x :: r) => if okMin (x :: r) then some (PySem.W.maxD x r) else none
  | _ => none
/-- min(xs, default=None) -/
def minDN : D → Option D
  | .list [] => some .none
  | .list (x :: r) => if okMin (x :: r) then some (PySem.W.minD x r) else none
  | _ => none
def isTupD : D → Option D
  | .dict _ => none
  | .tuple _ => some (.bool true)
  | _ => some (.bool false)
def lowerD : D → Option D
  | .str z => if z.length ≤ LINE then some (.str (Txt.lower z)) else none
  | _ => none
def upperD : D → Option D
  | .str z => if z.length ≤ LINE then some (.str (Txt.upper z)) else none
  | _ => none

section
variable {X : Cx}
theorem cl_len : CallR X (.builtin "len") (rC1 lenD) := by
  intro pins s σ H vs us Q I r h
  obtain ⟨dr, v, F, d, z, rfl, k, dv, ho, q⟩ := h
  refine call_len pins s σ H [v] us Q I r ?_
  unfold lenD at ho
  split at ho
  · cases ho
    obtain ⟨a, xs, rfl, eH, al⟩ := dv.list k
    refine ⟨_, xs.length, rfl, .inl ⟨_, SqL.of eH, rfl⟩, ?_⟩
    rw [al.len]
    exact fin0 k q (.int _)
  · cases ho
    obtain ⟨a, xs, rfl, eH, al⟩ := dv.tup k
    refine ⟨_, xs.length, rfl, .inr ⟨_, SqT.of eH, rfl⟩, ?_⟩
    rw [al.len]
    exact fin0 k q (.int _)
  · have dw := dv.scal (fun _ z => by cases z) (fun _ z => by cases z)
    cases dw
    split at ho
    · rename_i hz
      cases ho
      exact ⟨_, _, rfl, ⟨line_le hz, rfl⟩, fin0 k q (.int _)⟩
    · cases ho
  · cases ho
theorem cl_tuple : CallR X (.type "tuple") (rC1 tupleD) := by
  intro pins s σ H vs us Q I r h
  obtain ⟨dr, v, F, d, z, rfl, k, dv, ho, q⟩ := h
  refine call_tuple_of pins s σ H [v] us Q I r ?_
  cases d with
  | list xs =>
    cases ho
    obtain ⟨a, xs, rfl, eH, al⟩ := dv.list k
    exact ⟨_, _, rfl, .inl ⟨SqL.of eH, fun l hl => finT k q hl al⟩⟩
  | tuple xs =>
    cases ho
    obtain ⟨a, ys, rfl, eH, al⟩ := dv.tup k
    have dw := dv.scal (fun _ z => by cases z) (fun _ z => by cases z)
    exact ⟨_, _, rfl, .inr ⟨SqT.of eH, fin0 k q dw⟩⟩
  | _ => cases ho
theorem cl_sorted (hu : X.A.units + 64 < cLine) : CallR X (.builtin "sorted") (rC1 sortedD) := by
  intro pins s σ H vs us Q I r h
  obtain ⟨dr, v, F, d, z, rfl, k, dv, ho, q⟩ := h
  unfold sortedD at ho
  cases d with
  | list xs =>
    have ho' : (if okSort xs then some (PyData.list (sortD xs)) else none) = some z := ho
    split at ho'
    · rename_i ok
      cases ho'
      obtain ⟨a, ys, rfl, eH, al⟩ := dv.list k
      rw [Vals.ref1 r]
      obtain ⟨its, rv, hs, hz⟩ := seq_list I eH
      exact sort_core hu I k rv hs hz al ok q
    · cases ho'
  | tuple xs =>
    have ho' : (if okSort xs then some (PyData.list (sortD xs)) else none) = some z := ho
    split at ho'
    · rename_i ok
      cases ho'
      obtain ⟨a, ys, rfl, eH, al⟩ := dv.tup k
      rw [Vals.ref1 r]
      obtain ⟨its, rv, hs, hz⟩ := seq_tup I eH
      exact sort_core hu I k rv hs hz al ok q
    · cases ho'
  | _ => cases ho
theorem cl_any (hc : X.calm = true) : CallR X (.builtin "any") (rC1 anyD) := by
  intro pins s σ H vs us Q I r h
  obtain ⟨dr, v, F, d, z, rfl, k, dv, ho, q⟩ := h
  cases d with
  | list xs =>
    obtain ⟨bs, h1, h2⟩ := Option.map_eq_some_iff.mp (show (boolsD xs).map (fun bs => PyData.bool (bs.any id)) = some z from ho)
    subst h2
    obtain ⟨a, ys, rfl, eH, al⟩ := dv.list k
    rw [boolsD_eq h1] at al
    rw [dv_bools al] at eH
    exact cr_any hc pins s σ H _ us Q I r ⟨a, bs, rfl, SqL.of eH, fin0 k q (.bl _)⟩
  | _ => cases ho
theorem cl_all (hc : X.calm = true) : CallR X (.builtin "all") (rC1 allD) := by
  intro pins s σ H vs us Q I r h
  obtain ⟨dr, v, F, d, z, rfl, k, dv, ho, q⟩ := h
  cases d with
  | list xs =>
    obtain ⟨bs, h1, h2⟩ := Option.map_eq_some_iff.mp (show (boolsD xs).map (fun bs => PyData.bool (bs.all id)) = some z from ho)
    subst h2
    obtain ⟨a, ys, rfl, eH, al⟩ := dv.list k
    rw [boolsD_eq h1] at al
    rw [dv_bools al] at eH
    exact cr_all hc pins s σ H _ us Q I r ⟨a, bs, rfl, SqL.of eH, fin0 k q (.bl _)⟩
  | _ => cases ho
theorem cl_sum (hc : X.calm = true) : CallR X (.builtin "sum") (rC1 sumD) := by
  intro pins s σ H vs us Q I r h
  obtain ⟨dr, v, F, d, z, rfl, k, dv, ho, q⟩ := h
  cases d with
  | list xs =>
    obtain ⟨bs, h1, h2⟩ := Option.map_eq_some_iff.mp (show (intsD xs).map (fun ns => PyData.int ns.sum) = some z from ho)
    subst h2
    obtain ⟨a, ys, rfl, eH, al⟩ := dv.list k
    rw [intsD_eq h1] at al
    rw [dv_ints al] at eH
    exact cr_sum hc pins s σ H _ us Q I r ⟨a, bs, rfl, SqL.of eH, fin0 k q (.int _)⟩
  | _ => cases ho
theorem cl_abs : CallR X (.builtin "abs") (rC1 absD) := by
  intro pins s σ H vs us Q I r h
  obtain ⟨dr, v, F, d, z, rfl, k, dv, ho, q⟩ := h
  cases d with
  | int i =>
    have dw := dv.scal (fun _ z => by cases z) (fun _ z => by cases z)
    cases ho; cases dw
    exact call_abs pins s σ H _ us Q I r ⟨_, rfl, fin0 k q (.int _)⟩
  | _ => cases ho
theorem cl_int : CallR X (.type "int") (rC1 intD) := by
  intro pins s σ H vs us Q I r h
  obtain ⟨dr, v, F, d, z, rfl, k, dv, ho, q⟩ := h
  cases d with
  | int i =>
    have dw := dv.scal (fun _ z => by cases z) (fun _ z => by cases z)
    cases ho; cases dw
    exact call_int1 pins s σ H _ us Q I r (.inl ⟨_, rfl, fin0 k q (.int _)⟩)
  | bool b =>
    have dw := dv.scal (fun _ z => by cases z) (fun _ z => by cases z)
    cases ho; cases dw
    exact call_int1 pins s σ H _ us Q I r (.inr ⟨_, rfl, fin0 k q (.int _)⟩)
  | _ => cases ho
theorem okMin_alike {x : D} {xs : List D} (h : okMin (x :: xs) = true) : PySem.W.AlikeAll (x :: xs) := by
  obtain ⟨h1, h2⟩ := ba2 h
  obtain ⟨h2, h3⟩ := ba2 h2
  refine ⟨fun d hd e he => List.all_eq_true.mp (List.all_eq_true.mp h2 d hd) e he, fun d hd z => ?_⟩
  have q := List.all_eq_true.mp h3 d hd
  rw [z] at q
  cases q
theorem plain_all {xs : List D} (h : ∀ d ∈ xs, okD d = true) : PyData.plainAll xs = true ∧ PyData.depthAll xs ≤ 30 := by
  induction xs with
  | nil => exact ⟨rfl, Nat.zero_le _⟩
  | cons x r ih =>
    obtain ⟨i1, i2⟩ := ih fun d hd => h d (List.mem_cons_of_mem _ hd)
    have hx := h x List.mem_cons_self
    refine ⟨by rw [PyData.plainAll, okD_plain hx, i1] <;> rfl, by rw [PyData.depthAll]; exact Nat.max_le.mpr ⟨okD_depth hx, i2⟩⟩
theorem minD_mem : ∀ (r : List D) (x : D), PySem.W.minD x r ∈ x :: r
  | [], x => List.mem_cons_self
  | y :: r, x => by
    have ih := minD_mem r (if PySem.W.dataLt y x then y else x)
    have e : PySem.W.minD x (y :: r) = PySem.W.minD (if PySem.W.dataLt y x then y else x) r := rfl
    rw [e]
    rcases List.mem_cons.mp ih with h | h
    · rw [h]
      split
      · exact List.mem_cons_of_mem _ List.mem_cons_self
      · exact List.mem_cons_self
    · exact List.mem_cons_of_mem _ (List.mem_cons_of_mem _ h)
theorem maxD_mem : ∀ (r : List D) (x : D), PySem.W.maxD x r ∈ x :: r
  | [], x => List.mem_cons_self
  | y :: r, x => by
    have ih := maxD_mem r (if PySem.W.dataLt x y then y else x)
    have e : PySem.W.maxD x (y :: r) = PySem.W.maxD (if PySem.W.dataLt x y then y else x) r := rfl
    rw [e]
    rcases List.mem_cons.mp ih with h | h
    · rw [h]
      split
      · exact List.mem_cons_of_mem _ List.mem_cons_self
      · exact List.mem_cons_self
    · exact List.mem_cons_of_mem _ (List.mem_cons_of_mem _ h)
/-- the item that came out reads as the least, so it is that item -/
theorem pick_dv {pins : List (Addr × Obj)} {σ : L2.St} {s : Shared} {F H : Hp} {xs : List V} {its : List Value} {ds : List D} {i : Nat} {v : Value} {m : D} {h' : Heap} {bs : List Addr} (I : Inv X pins σ H s) (k : Same F H) (rv : Vals xs its) (al : DvAll F xs ds)
    (ok : ∀ d ∈ ds, okD d = true) (hm : m ∈ ds) (hi : its[i]? = some v) (r : Reads h' v m bs) (hk : ∀ b o, s.heap.get? b = some o → h'.get? b = some o) : ∃ x, RelV x v ∧ Dv F x m := by
  have hlt : i < its.length := (List.getElem?_eq_some_iff.mp hi).1
  have hx : i < xs.length := by rw [rv.length]; exact hlt
  obtain ⟨u, hu, ru⟩ := rv.get (List.getElem?_eq_getElem hx)
  rw [hi] at hu
  cases hu
  obtain ⟨d, hd, dd⟩ := al.getV (List.getElem?_eq_getElem hx)
  have okd := ok d (List.mem_of_getElem? hd)
  obtain ⟨as, ra⟩ := dd.reads I k (okD_plain okd) ru
  have e := PySem.SeqAt.plain_unique d m v as bs (okD_plain okd) (PyProof.Rows.Reads.keeps hk ra) r
  rw [← e]
  exact ⟨_, ru, dd⟩
theorem cl_min (hc : X.calm = true) (hu : X.A.units + 64 < cLine) : CallR X (.builtin "min") (rC1 minD1) := by
  intro pins s σ H vs us Q I r h
  obtain ⟨dr, v, F, d, z, rfl, k, dv, ho, q⟩ := h
  unfold minD1 at ho
  cases d with
  | list xs =>
    cases xs with
    | nil => cases ho
    | cons x xs =>
      have ho' : (if okMin (x :: xs) then some (PySem.W.minD x xs) else none) = some z := ho
      split at ho'
      · rename_i ok
        cases ho'
        obtain ⟨a, ys, rfl, eH, al⟩ := dv.list k
        rw [Vals.ref1 r]
        obtain ⟨its, rv, hl, hz⟩ := I.list (SqL.of eH)
        have okA := List.all_eq_true.mp (ba2 ok).1
        obtain ⟨p1, p2⟩ := plain_all okA
        obtain ⟨as, rs⟩ := al.reads I k p1 rv
        refine PySem.W.min_list_data (I.ok.hd hc) hl.isList rs (okMin_alike ok) (by omega) fun i u h' tk bs hi hr hk => ?_
        obtain ⟨y, ry, dy⟩ := pick_dv I k rv al okA (minD_mem _ _) (by simpa using hi) hr hk
        exact ⟨y, H, I.kept hk, ry, fin0 k q dy⟩
      · cases ho'
  | tuple xs =>
    cases xs with
    | nil => cases ho
    | cons x xs =>
      have ho' : (if okMin (x :: xs) then some (PySem.W.minD x xs) else none) = some z := ho
      split at ho'
      · rename_i ok
        cases ho'
        obtain ⟨a, ys, rfl, eH, al⟩ := dv.tup k
        rw [Vals.ref1 r]
        obtain ⟨its, rv, hl, hz⟩ := I.tuple (SqT.of eH)
        have okA := List.all_eq_true.mp (ba2 ok).1
        obtain ⟨p1, p2⟩ := plain_all okA
        obtain ⟨as, rs⟩ := al.reads I k p1 rv
        refine PySem.W.min_tuple_data (I.ok.hd hc) (show s.heap.IsTuple a its.toArray from hl) rs (okMin_alike ok) (by omega) fun i u h' tk bs hi hr hk => ?_
        obtain ⟨y, ry, dy⟩ := pick_dv I k rv al okA (minD_mem _ _) (by simpa using hi) hr hk
        exact ⟨y, H, I.kept hk, ry, fin0 k q dy⟩
      · cases ho'
  | _ => cases ho
theorem cl_max (hc : X.calm = true) (hu : X.A.units + 64 < cLine) : CallR X (.builtin "max") (rC1 maxD1) := by
  intro pins s σ H vs us Q I r h
  obtain ⟨dr, v, F, d, z, rfl, k, dv, ho, q⟩ := h
  unfold maxD1 at ho
  split at ho
  · split at ho
    · rename_i ok
      cases ho
      obtain ⟨a, ys, rfl, eH, al⟩ := dv.list k
      rw [Vals.ref1 r]
      obtain ⟨its, rv, hl, hz⟩ := I.list (SqL.of eH)
      have okA := List.all_eq_true.mp (ba2 ok).1
      obtain ⟨p1, p2⟩ := plain_all okA
      obtain ⟨as, rs⟩ := al.reads I k p1 rv
      refine PySem.W.max_list_data (I.ok.hd hc) hl.isList rs (okMin_alike ok) (by omega) fun i u h' tk bs hi hr hk => ?_
      obtain ⟨y, ry, dy⟩ := pick_dv I k rv al okA (maxD_mem _ _) (by simpa using hi) hr hk
      exact ⟨y, H, I.kept hk, ry, fin0 k q dy⟩
    · cases ho
  · cases ho
def tyN : D → String
  | .none => "NoneType" | .bool _ => "bool" | .int _ => "int" | .str _ => "str" | .list _ => "list" | .tuple _ => "tuple" | .dict _ => "dict"
/-- isinstance(x, tuple) -/
theorem cl_isTup : CallR X (.builtin "isinstance") (fun vs H Q => ∃ v F d z, vs = [v, .ty "tuple"] ∧ Same F H ∧ Dv F v d ∧ isTupD d = some z ∧ ∀ w F' H', Stq F H F' H' → Dv F' w z → Q w H') := by
  intro pins s σ H vs us Q I r h
  obtain ⟨v, F, d, z, rfl, k, dv, ho, q⟩ := h
  obtain ⟨u, u2, rfl, rv, rt⟩ := vals2 r
  cases rt
  have ty : TyOf X.K H v (.type (tyN d)) := by
    cases dv with
    | non => exact .non
    | bl b => exact .bl b
    | int i => exact .int i
    | str x => exact .str x
    | lst e a => exact .lst (k _ _ e)
    | tup e a => exact .tup (k _ _ e)
    | dic e a => exact .dK (k _ _ e)
    | obj => cases ho
  unfold isTupD at ho
  have fin : ∀ b, z = .bool b → PySem.W.kitOne X.K (.type (tyN d)) (.type "tuple") = some b →
      wpAny (model X.prog X.w) X.A (call (.builtin "isinstance") [u, .type "tuple"]) (EP X pins σ Q) X.xe s := fun b e1 e2 => by
    subst e1
    exact isinst_ok I rv ty e2 fun tk => ⟨.bl b, H, I.tok _, rfl, fin0 k q (.bl b)⟩
  cases d with
  | dict _ => cases ho
  | tuple _ => cases ho; exact fin true rfl (by unfold PySem.W.kitOne; first | rfl | decide +kernel | kernel_rfl)
  | none => cases ho; exact fin false rfl (by unfold PySem.W.kitOne; first | rfl | decide +kernel | kernel_rfl)
  | bool _ => cases ho; exact fin false rfl (by unfold PySem.W.kitOne; first | rfl | decide +kernel | kernel_rfl)
  | int _ => cases ho; exact fin false rfl (by unfold PySem.W.kitOne; first | rfl | decide +kernel | kernel_rfl)
  | str _ => cases ho; exact fin false rfl (by unfold PySem.W.kitOne; first | rfl | decide +kernel | kernel_rfl)
  | list _ => cases ho; exact fin false rfl (by unfold PySem.W.kitOne; first | rfl | decide +kernel | kernel_rfl)
end
end TK
end
section
set_option Elab.async false
set_option linter.all false
set_option maxRecDepth 100000
set_option maxHeartbeats 4000000
/-! Expressions as plain functions of the slots' data and of the law's draws. -/
namespace TK
open PySem PySem.Spec PyProof.Rows L2

abbrev GE := Env → G → Option (D × G)
abbrev GT := Env → G → Option (Bool × G)
abbrev GA := Env → G → Option (List D × G)
abbrev GO := Env → G → Option (Option Int × G)
/-- an expression: its value frozen; readable; a new list; a test; arguments -/
def tD (C : Cfg) (g : GE) : TE := fun σ H Q => ∃ ρ γ F d γ', SE C ρ γ σ F H ∧ g ρ γ = some (d, γ') ∧ ∀ v F' H', Stp C.dr F H F' H' → DRo C.dr γ' F' H' → Dv F' v d → Q v H'
def tR (C : Cfg) (g : GE) : TE := fun σ H Q => ∃ ρ γ F d γ', SE C ρ γ σ F H ∧ g ρ γ = some (d, γ') ∧ ∀ v F' H', Stp C.dr F H F' H' → DRo C.dr γ' F' H' → Dr C.dr F' H' v d → Q v H'
def tN (C : Cfg) (g : GA) : TE := fun σ H Q => ∃ ρ γ F ds γ', SE C ρ γ σ F H ∧ g ρ γ = some (ds, γ') ∧ ∀ a xs F' H', Stp C.dr F H F' H' → DRo C.dr γ' F' H' → H a = none → F' a = none → H' a = some (.lst xs) → DvAll F' xs ds → Q (.ref a) H'
def tT (C : Cfg) (g : GT) : TT := fun σ H Q => ∃ ρ γ F b γ', SE C ρ γ σ F H ∧ g ρ γ = some (b, γ') ∧ ∀ F' H', Stp C.dr F H F' H' → DRo C.dr γ' F' H' → Q b H'
def tA (C : Cfg) (g : GA) : TA := fun σ H Q => ∃ ρ γ F ds γ', SE C ρ γ σ F H ∧ g ρ γ = some (ds, γ') ∧ ∀ vs F' H', Stp C.dr F H F' H' → DRo C.dr γ' F' H' → DvAll F' vs ds → Q vs H'
def tO (C : Cfg) (g : GO) : TO := fun σ H Q => ∃ ρ γ F o γ', SE C ρ γ σ F H ∧ g ρ γ = some (o, γ') ∧ ∀ F' H', Stp C.dr F H F' H' → DRo C.dr γ' F' H' → Q o H'
abbrev DE (X : Cx) (C : Cfg) (e : Expr) (g : GE) : Prop := PE X e (tD C g)
abbrev RE (X : Cx) (C : Cfg) (e : Expr) (g : GE) : Prop := PE X e (tR C g)
abbrev NE (X : Cx) (C : Cfg) (e : Expr) (g : GA) : Prop := PE X e (tN C g)
abbrev DT (X : Cx) (C : Cfg) (e : Expr) (g : GT) : Prop := PT X e (tT C g)
abbrev DA (X : Cx) (C : Cfg) (es : List Expr) (g : GA) : Prop := PA X es (tA C g)
abbrev DO (X : Cx) (C : Cfg) (e : Option Expr) (g : GO) : Prop := PO X e (tO C g)

theorem PE.imp {X : Cx} {e : Expr} {t t' : TE} (h : PE X e t) (w : ∀ σ H Q, t' σ H Q → t σ H Q) : PE X e t' := ⟨fun pins s σ H Q I q => h.run pins s σ H Q I (w σ H Q q)⟩
theorem PT.imp {X : Cx} {e : Expr} {t t' : TT} (h : PT X e t) (w : ∀ σ H Q, t' σ H Q → t σ H Q) : PT X e t' := ⟨fun pins s σ H Q I q => h.run pins s σ H Q I (w σ H Q q)⟩
theorem PW.imp {X : Cx} {e : Expr} {t t' : TT} (h : PW X e t) (w : ∀ σ H Q, t' σ H Q → t σ H Q) : PW X e t' := ⟨fun wh pins s σ H Q I q => h.run wh pins s σ H Q I (w σ H Q q)⟩
theorem PA.imp {X : Cx} {e : List Expr} {t t' : TA} (h : PA X e t) (w : ∀ σ H Q, t' σ H Q → t σ H Q) : PA X e t' := ⟨fun pos pins s σ H Q I q => h.run pos pins s σ H Q I (w σ H Q q)⟩
theorem PO.imp {X : Cx} {e : Option Expr} {t t' : TO} (h : PO X e t) (w : ∀ σ H Q, t' σ H Q → t σ H Q) : PO X e t' := ⟨fun pins s σ H Q I q => h.run pins s σ H Q I (w σ H Q q)⟩
theorem PS.imp {X : Cx} {e : Stmt} {t t' : TS} (h : PS X e t) (w : ∀ E σ H, t' E σ H → t E σ H) : PS X e t' := ⟨fun pins s σ H E I q => h.run pins s σ H E I (w E σ H q)⟩
theorem PSs.imp {X : Cx} {e : List Stmt} {t t' : TS} (h : PSs X e t) (w : ∀ E σ H, t' E σ H → t E σ H) : PSs X e t' := ⟨fun pins s σ H E I q => h.run pins s σ H E I (w E σ H q)⟩

def varE (i : Nat) : GE := fun ρ γ => match ρ[i]? with
  | some (some d) => some (d, γ)
  | _ => none
def cE (d : D) : GE := fun _ γ => some (d, γ)
def binE (o : D → D → Option D) (a b : GE) : GE := fun ρ γ => (a ρ γ).bind fun x => (b ρ x.2).bind fun y => (o x.1 y.1).bind fun z => some (z, y.2)
def unE (o : D → Option D) (a : GE) : GE := fun ρ γ => (a ρ γ).bind fun x => (o x.1).bind fun z => some (z, x.2)
def nilA : GA := fun _ γ => some ([], γ)
def consA (a : GE) (r : GA) : GA := fun ρ γ => (a ρ γ).bind fun x => (r ρ x.2).bind fun y => some (x.1 :: y.1, y.2)
def tupE (a : GA) : GE := fun ρ γ => (a ρ γ).bind fun x => if x.1.length ≤ LINE then some (.tuple x.1, x.2) else none
def lstN (a : GA) : GA := fun ρ γ => (a ρ γ).bind fun x => if x.1.length ≤ LINE then some (x.1, x.2) else none
def newE (a : GA) : GE := fun ρ γ => (a ρ γ).bind fun x => some (.list x.1, x.2)
def listN (a : GE) : GA := fun ρ γ => (a ρ γ).bind fun x => (itemsD x.1).bind fun z => some (z, x.2)
def callE (f : List D → Option D) (a : GA) : GE := fun ρ γ => (a ρ γ).bind fun x => (f x.1).bind fun z => some (z, x.2)
def callGE (f : List D → G → Option (D × G)) (a : GA) : GE := fun ρ γ => (a ρ γ).bind fun x => f x.1 x.2
def noneO : GO := fun _ γ => some (none, γ)
def someO (a : GE) : GO := fun ρ γ => (a ρ γ).bind fun x => match x.1 with
  | .int i => some (some i, x.2)
  | _ => none
def sliceE (a : GE) (l h : GO) : GE := fun ρ γ => (a ρ γ).bind fun x => (l ρ x.2).bind fun y => (h ρ y.2).bind fun z => (sliceD x.1 y.1 z.1).bind fun w => some (w, z.2)
def valT (a : GE) : GT := fun ρ γ => (a ρ γ).bind fun x => match x.1 with
  | .bool b => some (b, x.2)
  | _ => none
def andT (a b : GT) : GT := fun ρ γ => (a ρ γ).bind fun x => if x.1 then b ρ x.2 else some (false, x.2)
def orT (a b : GT) : GT := fun ρ γ => (a ρ γ).bind fun x => if x.1 then some (true, x.2) else b ρ x.2
def notT (a : GT) : GT := fun ρ γ => (a ρ γ).bind fun x => some (!x.1, x.2)
def andE (a b : GE) : GE := fun ρ γ => (a ρ γ).bind fun x => match x.1 with
  | .bool c => if c then b ρ x.2 else some (.bool false, x.2)
  | _ => none
def orE (a b : GE) : GE := fun ρ γ => (a ρ γ).bind fun x => match x.1 with
  | .bool c => if c then some (.bool true, x.2) else b ρ x.2
  | _ => none
def notE (a : GE) : GE := fun ρ γ => (a ρ γ).bind fun x => match x.1 with
  | .bool c => some (.bool (!c), x.2)
  | _ => none

theorem bnd {α β : Type} {x : Option α} {f : α → Option β} {z : β} (h : x.bind f = some z) : ∃ a, x = some a ∧ f a = some z := Option.bind_eq_some_iff.mp h

section
variable {X : Cx} {C : Cfg} {a b : Expr} {pos : Pos} {ga gb : GE}
theorem varE_un {i : Nat} {ρ : Env} {γ γ' : G} {d : D} (h : varE i ρ γ = some (d, γ')) : ρ[i]? = some (some d) ∧ γ' = γ := by
  unfold varE at h
  split at h
  · rename_i e
    cases h
    exact ⟨e, rfl⟩
  · cases h
theorem de_var {i : Nat} {e : Expr} (h : PE X e (tVar i)) (hk : C.kd i = .pure) : DE X C e (varE i) := by
  refine PE.imp h fun σ H Q q => ?_
  obtain ⟨ρ, γ, F, d, γ', se, hg, q⟩ := q
  obtain ⟨e1, rfl⟩ := varE_un hg
  obtain ⟨fp, h1, h2, h3⟩ := se.sl
  obtain ⟨v, hv, ok⟩ := h1 i d e1
  rw [hk] at ok
  exact ⟨v, hv, q v F H (Stp.refl se.fh) se.dr ok.1⟩
theorem re_var {i : Nat} {e : Expr} (h : PE X e (tVar i)) (hk : C.kd i ≠ .nest) : RE X C e (varE i) := by
  refine PE.imp h fun σ H Q q => ?_
  obtain ⟨ρ, γ, F, d, γ', se, hg, q⟩ := q
  obtain ⟨e1, rfl⟩ := varE_un hg
  obtain ⟨fp, h1, h2, h3⟩ := se.sl
  obtain ⟨v, hv, ok⟩ := h1 i d e1
  refine ⟨v, hv, q v F H (Stp.refl se.fh) se.dr ?_⟩
  cases hk2 : C.kd i with
  | pure =>
    rw [hk2] at ok
    exact .inl ok.1
  | lst =>
    rw [hk2] at ok
    obtain ⟨x, xs, ds, o1, o2, o3, o4, o5⟩ := ok
    exact .inr (.inl ⟨x, xs, ds, o1, o2, o4, o5, se.nodr (h2 i x (by rw [o3]; simp)).2.1⟩)
  | dic =>
    rw [hk2] at ok
    obtain ⟨x, xs, ds, o1, o2, o3, o4, o5⟩ := ok
    exact .inr (.inr ⟨x, xs, ds, o1, o2, o4, o5, se.nodr (h2 i x (by rw [o3]; simp)).2.1⟩)
  | nest => exact absurd hk2 hk
theorem DE.rd (h : DE X C a ga) : RE X C a ga := PE.imp h fun σ H Q ⟨ρ, γ, F, d, γ', se, hg, q⟩ => ⟨ρ, γ, F, d, γ', se, hg, fun v F' H' st dr dv => q v F' H' st dr (.inl dv)⟩
theorem de_c {v : V} {d : D} (h : PE X a (tC v)) (hd : ∀ F, Dv F v d) : DE X C a (cE d) := PE.imp h fun σ H Q ⟨ρ, γ, F, d', γ', se, hg, q⟩ => by
  cases hg
  exact q v F H (Stp.refl se.fh) se.dr (hd F)
theorem de_int {i j} : DE X C (.Constant (.int i) j pos) (cE (.int i)) := de_c pe_int fun _ => .int i
theorem de_str {i j} : DE X C (.Constant (.str i) j pos) (cE (.str i)) := de_c pe_str fun _ => .str i
theorem de_bl {i j} : DE X C (.Constant (.bool i) j pos) (cE (.bool i)) := de_c pe_bl fun _ => .bl i
theorem de_non {j} : DE X C (.Constant .none j pos) (cE .none) := de_c pe_non fun _ => .non
/-- a module's text -/
theorem de_gstr {x z : Str} (hg : Gl X x) (hm : ∃ t, X.mg x = some (.str z t)) (hd : (x == ("__debug__" : Str)) = false := by decide) : DE X C (.Name x pos) (cE (.str z)) := by
  obtain ⟨t, hm⟩ := hm
  exact de_c (v := .str z) (pe_glob hg hm ⟨t, rfl⟩ hd) fun _ => .str z
theorem two {o : D → D → Option D} {σ : L2.St} {H : Hp} {Q : VK} (q : tD C (binE o ga gb) σ H Q) : tOp (rD o) (tD C ga) (tD C gb) σ H Q := by
  obtain ⟨ρ, γ, F, d, γ', se, hg, q⟩ := q
  obtain ⟨⟨x, γ1⟩, e1, hg⟩ := bnd hg
  obtain ⟨⟨y, γ2⟩, e2, hg⟩ := bnd hg
  obtain ⟨z, e3, hg⟩ := bnd hg
  cases hg
  refine ⟨ρ, γ, F, x, γ1, se, e1, fun v F1 H1 st1 dr1 dv1 => ⟨ρ, γ1, F1, y, γ2, se.step st1 dr1, e2, fun w F2 H2 st2 dr2 dv2 => ?_⟩⟩
  exact ⟨F2, x, y, _, st2.fh, dv1.up st2.ff, dv2, e3, fun u F3 H3 st3 dv3 => q u F3 H3 ((st1.trans st2).trans st3.up) (dr2.step st3) dv3⟩
theorem twor {o : D → D → Option D} {σ : L2.St} {H : Hp} {Q : VK} (q : tD C (binE o ga gb) σ H Q) : tOp (rDr o) (tD C ga) (tR C gb) σ H Q := by
  obtain ⟨ρ, γ, F, d, γ', se, hg, q⟩ := q
  obtain ⟨⟨x, γ1⟩, e1, hg⟩ := bnd hg
  obtain ⟨⟨y, γ2⟩, e2, hg⟩ := bnd hg
  obtain ⟨z, e3, hg⟩ := bnd hg
  cases hg
  refine ⟨ρ, γ, F, x, γ1, se, e1, fun v F1 H1 st1 dr1 dv1 => ⟨ρ, γ1, F1, y, γ2, se.step st1 dr1, e2, fun w F2 H2 st2 dr2 dv2 => ?_⟩⟩
  exact ⟨C.dr, F2, x, y, _, st2.fh, dv1.up st2.ff, dv2, e3, fun u F3 H3 st3 dv3 => q u F3 H3 ((st1.trans st2).trans st3.up) (dr2.step st3) dv3⟩
theorem twol {o : D → D → Option D} {σ : L2.St} {H : Hp} {Q : VK} (q : tD C (binE o ga gb) σ H Q) : tOp (rDl o) (tR C ga) (tD C gb) σ H Q := by
  obtain ⟨ρ, γ, F, d, γ', se, hg, q⟩ := q
  obtain ⟨⟨x, γ1⟩, e1, hg⟩ := bnd hg
  obtain ⟨⟨y, γ2⟩, e2, hg⟩ := bnd hg
  obtain ⟨z, e3, hg⟩ := bnd hg
  cases hg
  refine ⟨ρ, γ, F, x, γ1, se, e1, fun v F1 H1 st1 dr1 dv1 => ⟨ρ, γ1, F1, y, γ2, se.step st1 dr1, e2, fun w F2 H2 st2 dr2 dv2 => ?_⟩⟩
  exact ⟨C.dr, F2, x, y, _, st2.fh, dv1.step st2, dv2, e3, fun u F3 H3 st3 dv3 => q u F3 H3 ((st1.trans st2).trans st3.up) (dr2.step st3) dv3⟩
theorem de_op {op : Operator} {o : D → D → Option D} (ho : OpR X (binaryOp op) (rD o)) (ha : DE X C a ga) (hb : DE X C b gb) : DE X C (.BinOp a op b pos) (binE o ga gb) := PE.imp (pe_op ho ha hb) fun _ _ _ q => two q
theorem de_cmp {op : CmpOp} {o : D → D → Option D} (ho : OpR X (compareOp op) (rD o)) (ha : DE X C a ga) (hb : DE X C b gb) (hm : behindInMarks op b = false) : DE X C (.Compare a [op] [b] pos) (binE o ga gb) := PE.imp (pe_cmpR ho ha hb hm) fun _ _ _ q => two q
theorem de_in {op : CmpOp} {o : D → D → Option D} (ho : OpR X (compareOp op) (rDr o)) (ha : DE X C a ga) (hb : RE X C b gb) (hm : behindInMarks op b = false) : DE X C (.Compare a [op] [b] pos) (binE o ga gb) := PE.imp (pe_cmpR ho ha hb hm) fun _ _ _ q => twor q
theorem boolT {σ : L2.St} {H : Hp} {Q : Bool → Hp → Prop} (q : tT C (valT ga) σ H Q) : tD C ga σ H fun x H' => ∃ k, x = .bl k ∧ Q k H' := by
  obtain ⟨ρ, γ, F, b, γ', se, hg, q⟩ := q
  obtain ⟨⟨x, γ1⟩, e1, hg⟩ := bnd hg
  cases x with
  | bool c =>
    cases hg
    exact ⟨ρ, γ, F, _, _, se, e1, fun v F' H' st dr dv => by cases dv; exact ⟨_, rfl, q F' H' st dr⟩⟩
  | _ => cases hg
theorem dt_cmp {op : CmpOp} {o : D → D → Option D} (ho : OpR X (compareOp op) (rD o)) (ha : DE X C a ga) (hb : DE X C b gb) (hm : behindInMarks op b = false) : DT X C (.Compare a [op] [b] pos) (valT (binE o ga gb)) :=
  PT.imp (pt_cmpR ho ha hb hm) fun _ _ _ q => two (boolT q)
theorem dt_in {op : CmpOp} {o : D → D → Option D} (ho : OpR X (compareOp op) (rDr o)) (ha : DE X C a ga) (hb : RE X C b gb) (hm : behindInMarks op b = false) : DT X C (.Compare a [op] [b] pos) (valT (binE o ga gb)) :=
  PT.imp (pt_cmpR ho ha hb hm) fun _ _ _ q => twor (boolT q)
theorem dt_val (h : DE X C a ga) (he : ∀ whole, isTrue a X.env whole = (do let v ← whole; standAt a.pos; holding [v] (truthy v)) := by intro _; rfl) : DT X C a (valT ga) := PT.imp (pt_val h he) fun _ _ _ q => boolT q
theorem dt_not {ta : GT} (h : DT X C a ta) : DT X C (.UnaryOp .Not a pos) (notT ta) := PT.imp (pt_not h) fun σ H Q q => by
  obtain ⟨ρ, γ, F, b, γ', se, hg, q⟩ := q
  obtain ⟨⟨x, γ1⟩, e1, hg⟩ := bnd hg
  cases hg
  exact ⟨ρ, γ, F, _, _, se, e1, fun F' H' st dr => q F' H' st dr⟩
abbrev WT (X : Cx) (C : Cfg) (e : Expr) (g : GT) : Prop := PW X e (tT C g)
theorem WT.dt {g : GT} (h : WT X C a g) : DT X C a g := PW.pt h
theorem wt_and1 {g : GT} (h : DT X C a g) : WT X C (.BoolOp .And [a] pos) g := pw_and1 h
theorem wt_or1 {g : GT} (h : DT X C a g) : WT X C (.BoolOp .Or [a] pos) g := pw_or1 h
theorem wt_and {rest : List Expr} {g g' : GT} (ha : DT X C a g) (hb : WT X C (.BoolOp .And (b :: rest) pos) g') : WT X C (.BoolOp .And (a :: b :: rest) pos) (andT g g') := PW.imp (pw_and ha hb) fun σ H Q q => by
  obtain ⟨ρ, γ, F, r, γ', se, hg, q⟩ := q
  obtain ⟨⟨x, γ1⟩, e1, hg⟩ := bnd hg
  refine ⟨ρ, γ, F, x, γ1, se, e1, fun F' H' st dr => ?_⟩
  cases x with
  | true => exact ⟨ρ, γ1, F', r, γ', se.step st dr, hg, fun F2 H2 st2 dr2 => q F2 H2 (st.trans st2) dr2⟩
  | false =>
    cases hg
    exact q F' H' st dr
theorem wt_or {rest : List Expr} {g g' : GT} (ha : DT X C a g) (hb : WT X C (.BoolOp .Or (b :: rest) pos) g') : WT X C (.BoolOp .Or (a :: b :: rest) pos) (orT g g') := PW.imp (pw_or ha hb) fun σ H Q q => by
  obtain ⟨ρ, γ, F, r, γ', se, hg, q⟩ := q
  obtain ⟨⟨x, γ1⟩, e1, hg⟩ := bnd hg
  refine ⟨ρ, γ, F, x, γ1, se, e1, fun F' H' st dr => ?_⟩
  cases x with
  | true =>
    cases hg
    exact q F' H' st dr
  | false => exact ⟨ρ, γ1, F', r, γ', se.step st dr, hg, fun F2 H2 st2 dr2 => q F2 H2 (st.trans st2) dr2⟩
theorem de_one {op} (h : DE X C a ga) : DE X C (.BoolOp op [a] pos) ga := pe_one h
theorem de_and {rest : List Expr} (ha : DE X C a ga) (hb : DE X C (.BoolOp .And (b :: rest) pos) gb) : DE X C (.BoolOp .And (a :: b :: rest) pos) (andE ga gb) := PE.imp (pe_and ha hb) fun σ H Q q => by
  obtain ⟨ρ, γ, F, r, γ', se, hg, q⟩ := q
  obtain ⟨⟨x, γ1⟩, e1, hg⟩ := bnd hg
  refine ⟨ρ, γ, F, x, γ1, se, e1, fun v F' H' st dr dv => ?_⟩
  cases x with
  | bool c =>
    cases dv
    refine ⟨c, rfl, ?_⟩
    cases c with
    | true => exact ⟨ρ, γ1, F', r, γ', se.step st dr, hg, fun w F2 H2 st2 dr2 => q w F2 H2 (st.trans st2) dr2⟩
    | false =>
      cases hg
      exact q _ F' H' st dr (.bl false)
  | _ => cases hg
theorem de_or {rest : List Expr} (ha : DE X C a ga) (hb : DE X C (.BoolOp .Or (b :: rest) pos) gb) : DE X C (.BoolOp .Or (a :: b :: rest) pos) (orE ga gb) := PE.imp (pe_or ha hb) fun σ H Q q => by
  obtain ⟨ρ, γ, F, r, γ', se, hg, q⟩ := q
  obtain ⟨⟨x, γ1⟩, e1, hg⟩ := bnd hg
  refine ⟨ρ, γ, F, x, γ1, se, e1, fun v F' H' st dr dv => ?_⟩
  cases x with
  | bool c =>
    cases dv
    refine ⟨c, rfl, ?_⟩
    cases c with
    | false => exact ⟨ρ, γ1, F', r, γ', se.step st dr, hg, fun w F2 H2 st2 dr2 => q w F2 H2 (st.trans st2) dr2⟩
    | true =>
      cases hg
      exact q _ F' H' st dr (.bl true)
  | _ => cases hg
theorem de_not (ha : DE X C a ga) : DE X C (.UnaryOp .Not a pos) (notE ga) := PE.imp (pe_not ha) fun σ H Q q => by
  obtain ⟨ρ, γ, F, r, γ', se, hg, q⟩ := q
  obtain ⟨⟨x, γ1⟩, e1, hg⟩ := bnd hg
  refine ⟨ρ, γ, F, x, γ1, se, e1, fun v F' H' st dr dv => ?_⟩
  cases x with
  | bool c =>
    cases dv
    cases hg
    exact ⟨c, rfl, q _ F' H' st dr (.bl _)⟩
  | _ => cases hg
theorem de_neg (ha : DE X C a ga) : DE X C (.UnaryOp .USub a pos) (unE negD ga) := PE.imp (pe_un un_neg ha) fun σ H Q q => by
  obtain ⟨ρ, γ, F, r, γ', se, hg, q⟩ := q
  obtain ⟨⟨x, γ1⟩, e1, hg⟩ := bnd hg
  obtain ⟨z, e3, hg⟩ := bnd hg
  cases hg
  refine ⟨ρ, γ, F, x, _, se, e1, fun v F' H' st dr dv => ?_⟩
  cases x with
  | int i =>
    cases e3; cases dv
    exact ⟨i, rfl, q _ F' H' st dr (.int _)⟩
  | _ => cases e3
theorem de_ix (ha : RE X C a ga) (hb : DE X C b gb) (hs : PlainIx b) : DE X C (.Subscript a b pos) (binE idxD ga gb) := PE.imp (pe_ix ix_D ha hb hs) fun _ _ _ q => twol q
theorem do_none : DO X C none noneO := PO.imp po_none fun σ H Q q => by
  obtain ⟨ρ, γ, F, r, γ', se, hg, q⟩ := q
  cases hg
  exact q F H (Stp.refl se.fh) se.dr
theorem do_some (ha : DE X C a ga) : DO X C (some a) (someO ga) := PO.imp (po_some ha) fun σ H Q q => by
  obtain ⟨ρ, γ, F, r, γ', se, hg, q⟩ := q
  obtain ⟨⟨x, γ1⟩, e1, hg⟩ := bnd hg
  refine ⟨ρ, γ, F, x, γ1, se, e1, fun v F' H' st dr dv => ?_⟩
  cases x with
  | int i =>
    cases hg; cases dv
    exact ⟨i, rfl, q F' H' st dr⟩
  | _ => cases hg
theorem de_slice {lo hi : Option Expr} {p2 : Pos} {gl gh : GO} (ha : RE X C a ga) (hl : DO X C lo gl) (hh : DO X C hi gh) : DE X C (.Subscript a (.Slice lo hi none p2) pos) (sliceE ga gl gh) := PE.imp (pe_slice sl_D ha hl hh) fun σ H Q q => by
  obtain ⟨ρ, γ, F, r, γ', se, hg, q⟩ := q
  obtain ⟨⟨x, γ1⟩, e1, hg⟩ := bnd hg
  obtain ⟨⟨y, γ2⟩, e2, hg⟩ := bnd hg
  obtain ⟨⟨z, γ3⟩, e3, hg⟩ := bnd hg
  obtain ⟨w, e4, hg⟩ := bnd hg
  cases hg
  refine ⟨ρ, γ, F, x, γ1, se, e1, fun v F1 H1 st1 dr1 dv1 => ⟨ρ, γ1, F1, y, γ2, se.step st1 dr1, e2, fun F2 H2 st2 dr2 => ⟨ρ, γ2, F2, z, _, (se.step st1 dr1).step st2 dr2, e3, fun F3 H3 st3 dr3 => ?_⟩⟩⟩
  exact ⟨C.dr, F3, x, _, st3.fh, (dv1.step st2).step st3, e4, fun u F4 H4 st4 dv4 => q u F4 H4 (((st1.trans st2).trans st3).trans st4.up) (dr3.step st4) dv4⟩

/-! ### arguments, displays, calls -/
theorem da_nil : DA X C [] nilA := PA.imp pa_nil fun σ H Q q => by
  obtain ⟨ρ, γ, F, r, γ', se, hg, q⟩ := q
  cases hg
  exact q [] F H (Stp.refl se.fh) se.dr .nil
theorem da_cons {es : List Expr} {gr : GA} (ha : DE X C a ga) (hr : DA X C es gr) (hs : starEach (a :: es) X.env = (false, eval a X.env) :: starEach es X.env := by rfl) : DA X C (a :: es) (consA ga gr) := PA.imp (pa_cons ha hr hs) fun σ H Q q => by
  obtain ⟨ρ, γ, F, r, γ', se, hg, q⟩ := q
  obtain ⟨⟨x, γ1⟩, e1, hg⟩ := bnd hg
  obtain ⟨⟨y, γ2⟩, e2, hg⟩ := bnd hg
  cases hg
  refine ⟨ρ, γ, F, x, γ1, se, e1, fun v F1 H1 st1 dr1 dv1 => ⟨ρ, γ1, F1, y, _, se.step st1 dr1, e2, fun w F2 H2 st2 dr2 dv2 => ?_⟩⟩
  exact q _ F2 H2 (st1.trans st2) dr2 (.cons (dv1.up st2.ff) dv2)
theorem de_tup {es : List Expr} {k : Nat} {g : GA} (h : DA X C es g) : DE X C (.Tuple es k pos) (tupE g) := PE.imp (pe_tup h) fun σ H Q q => by
  obtain ⟨ρ, γ, F, r, γ', se, hg, q⟩ := q
  obtain ⟨⟨x, γ1⟩, e1, hg⟩ := bnd hg
  split at hg
  · rename_i hz
    cases hg
    refine ⟨ρ, γ, F, x, _, se, e1, fun vs F1 H1 st1 dr1 al => ⟨by rw [al.len]; exact line_le hz, fun p hp => ?_⟩⟩
    exact q _ _ _ (st1.trans (Stp.new st1.fh hp)) (dr1.step (Stp.new st1.fh hp)) (.tup upd_same (al.up (same_new (st1.fh.free hp))))
  · cases hg
theorem ne_lst {es : List Expr} {g : GA} (h : DA X C es g) : NE X C (.List es pos) (lstN g) := PE.imp (pe_lst h) fun σ H Q q => by
  obtain ⟨ρ, γ, F, r, γ', se, hg, q⟩ := q
  obtain ⟨⟨x, γ1⟩, e1, hg⟩ := bnd hg
  split at hg
  · rename_i hz
    cases hg
    refine ⟨ρ, γ, F, x, _, se, e1, fun vs F1 H1 st1 dr1 al => ⟨by rw [al.len]; exact line_le hz, fun p hp => ?_⟩⟩
    have hp0 : H p = none := by
      cases z : H p with
      | none => rfl
      | some o => exact absurd hp (st1.dom p (by rw [z]; simp))
    refine q p vs F1 _ (st1.trans (Stp.lay st1.fh hp)) ?_ hp0 (st1.fh.free hp) upd_same al
    cases hC : C.dr with
    | none => trivial
    | some pq =>
      obtain ⟨p', q'⟩ := pq
      rw [hC] at dr1
      obtain ⟨n, d1, d2, d3, d4⟩ := dr1
      exact ⟨n, d1, d2, by rw [upd_ne (ne_of_none d3 hp)]; exact d3, by rw [upd_ne (ne_of_none d4 hp)]; exact d4⟩
  · cases hg
/-- a new list, frozen at once -/
theorem NE.de {g : GA} (h : NE X C a g) : DE X C a (newE g) := PE.imp h fun σ H Q q => by
  obtain ⟨ρ, γ, F, r, γ', se, hg, q⟩ := q
  obtain ⟨⟨x, γ1⟩, e1, hg⟩ := bnd hg
  cases hg
  refine ⟨ρ, γ, F, x, _, se, e1, fun p xs F1 H1 st dr hp hf hl al => ?_⟩
  refine q (.ref p) _ _ (st.freeze hp hf hl) ?_ (.lst upd_same (al.up (same_new hf)))
  cases hC : C.dr with
  | none => trivial
  | some pq =>
    obtain ⟨p', q'⟩ := pq
    rw [hC] at dr
    have d0 := se.dr
    rw [hC] at d0
    obtain ⟨n, d1, d2, d3, d4⟩ := dr
    obtain ⟨_, _, _, z3, z4⟩ := d0
    exact ⟨n, by rw [upd_ne (ne_of_none z3 hp)]; exact d1, by rw [upd_ne (ne_of_none z4 hp)]; exact d2, d3, d4⟩
/-- a built-in of one argument -/
theorem one1 {o : D → Option D} {σ : L2.St} {H : Hp} {Q : VK} (q : tD C (unE o ga) σ H Q) : tCB (rC1 o) (tCons (tR C ga) tNil) σ H Q := by
  obtain ⟨ρ, γ, F, r, γ', se, hg, q⟩ := q
  obtain ⟨⟨x, γ1⟩, e1, hg⟩ := bnd hg
  obtain ⟨z, e2, hg⟩ := bnd hg
  cases hg
  exact ⟨ρ, γ, F, x, _, se, e1, fun v F1 H1 st1 dr1 dv1 => ⟨C.dr, v, F1, x, _, rfl, st1.fh, dv1, e2, fun u F2 H2 st2 dv2 => q u F2 H2 (st1.trans st2.up) (dr1.step st2) dv2⟩⟩
theorem de_b1 {id : String} {x : Str} {p : Pos} {o : D → Option D} (hc : CallR X (.builtin id) (rC1 o)) (hg : Gl X x) (hm : X.mg x = none) (hv : bootBuiltins x = some (.builtin id)) (ha : RE X C a ga) (hn : x ≠ "__name__" := by decide) (hdb : (x == ("__debug__" : Str)) = false := by decide)
    (he : starEach (a :: []) X.env = (false, eval a X.env) :: starEach [] X.env := by rfl) (hpl : (backTo pos (starEach [] X.env)).any (·.1) = false := by rfl) : DE X C (.Call (.Name x p) (a :: []) [] pos) (unE o ga) :=
  PE.imp (pe_callB hc hg hm hv (pa_cons ha pa_nil he) hn hdb he hpl) fun _ _ _ q => one1 q
theorem de_y1 {T : String} {x : Str} {p : Pos} {o : D → Option D} (hc : CallR X (.type T) (rC1 o)) (hg : Gl X x) (hm : X.mg x = none) (hv : bootBuiltins x = some (.type T)) (ha : RE X C a ga) (hn : x ≠ "__name__" := by decide) (hdb : (x == ("__debug__" : Str)) = false := by decide)
    (he : starEach (a :: []) X.env = (false, eval a X.env) :: starEach [] X.env := by rfl) (hpl : (backTo pos (starEach [] X.env)).any (·.1) = false := by rfl) : DE X C (.Call (.Name x p) (a :: []) [] pos) (unE o ga) :=
  PE.imp (pe_callTy hc hg hm hv (pa_cons ha pa_nil he) hn hdb he hpl) fun _ _ _ q => one1 q
theorem ne_list {x : Str} {p : Pos} (hg : Gl X x) (hm : X.mg x = none) (hv : bootBuiltins x = some (.type "list")) (ha : RE X C a ga) (hn : x ≠ "__name__" := by decide) (hdb : (x == ("__debug__" : Str)) = false := by decide)
    (he : starEach (a :: []) X.env = (false, eval a X.env) :: starEach [] X.env := by rfl) (hpl : (backTo pos (starEach [] X.env)).any (·.1) = false := by rfl) : NE X C (.Call (.Name x p) (a :: []) [] pos) (listN ga) :=
  PE.imp (pe_callTy call_list_of hg hm hv (pa_cons ha pa_nil he) hn hdb he hpl) fun σ H Q q => by
    obtain ⟨ρ, γ, F, r, γ', se, hg, q⟩ := q
    obtain ⟨⟨x, γ1⟩, e1, hg⟩ := bnd hg
    obtain ⟨z, e2, hg⟩ := bnd hg
    cases hg
    refine ⟨ρ, γ, F, x, _, se, e1, fun v F1 H1 st1 dr1 dv1 => ?_⟩
    have fin : ∀ (xs : List V) (l : Addr), DvAll F1 xs r → H1 l = none → Q (.ref l) (upd H1 l (.lst xs)) := fun xs l al hl => by
      have hp0 : H l = none := by
        cases z : H l with
        | none => rfl
        | some o => exact absurd hl (st1.dom l (by rw [z]; simp))
      refine q l xs F1 _ (st1.trans (Stp.lay st1.fh hl)) ?_ hp0 (st1.fh.free hl) upd_same al
      cases hC : C.dr with
      | none => trivial
      | some pq =>
        obtain ⟨p', q'⟩ := pq
        rw [hC] at dr1
        obtain ⟨n, d1, d2, d3, d4⟩ := dr1
        exact ⟨n, d1, d2, by rw [upd_ne (ne_of_none d3 hl)]; exact d3, by rw [upd_ne (ne_of_none d4 hl)]; exact d4⟩
    cases x with
    | list zs =>
      cases e2
      obtain ⟨p, xs, rfl, eH, al⟩ := dv1.list st1.fh
      exact ⟨p, xs, rfl, .inl (SqL.of eH), fun l hl => fin xs l al hl⟩
    | tuple zs =>
      cases e2
      obtain ⟨p, xs, rfl, eH, al⟩ := dv1.tup st1.fh
      exact ⟨p, xs, rfl, .inr (SqT.of eH), fun l hl => fin xs l al hl⟩
    | _ => cases e2
/-- isinstance(a, tuple) -/
theorem de_isT {p p2 : Pos} (hg : Gl X "isinstance") (hm : X.mg "isinstance" = none) (hg2 : Gl X "tuple") (hm2 : X.mg "tuple" = none) (ha : DE X C a ga)
    (he : starEach (a :: [.Name "tuple" p2]) X.env = (false, eval a X.env) :: starEach [.Name "tuple" p2] X.env := by rfl) (he2 : starEach (.Name "tuple" p2 :: []) X.env = (false, eval (.Name "tuple" p2) X.env) :: starEach [] X.env := by rfl)
    (hpl : (backTo pos (starEach [.Name "tuple" p2] X.env)).any (·.1) = false := by rfl) : DE X C (.Call (.Name "isinstance" p) (a :: [.Name "tuple" p2]) [] pos) (unE isTupD ga) :=
  PE.imp (pe_callB cl_isTup hg hm (by decide +kernel) (pa_cons ha (pa_cons (pe_bltn (v := .ty "tuple") hg2 hm2 (u := .type "tuple") (by decide +kernel) rfl) pa_nil he2) he) (by decide) (by decide) he hpl) fun σ H Q q => by
    obtain ⟨ρ, γ, F, r, γ', se, hg, q⟩ := q
    obtain ⟨⟨x, γ1⟩, e1, hg⟩ := bnd hg
    obtain ⟨z, e2, hg⟩ := bnd hg
    cases hg
    exact ⟨ρ, γ, F, x, _, se, e1, fun v F1 H1 st1 dr1 dv1 => ⟨v, F1, x, r, rfl, st1.fh, dv1, e2, fun u F2 H2 st2 dv2 => q u F2 H2 (st1.trans st2.up) (dr1.step st2) dv2⟩⟩
/-- s.lower(), s.upper() -/
theorem de_lower {apos : Pos} (ha : DE X C a ga) (hbase : attributeBase a "lower" X.env (eval a X.env) = eval a X.env := by rfl) (hline : (apos.endLine == pos.line) = true := by rfl) : DE X C (.Call (.Attribute a "lower" apos) [] [] pos) (unE lowerD ga) :=
  PE.imp (pe_lower ha hbase hline) fun σ H Q q => by
    obtain ⟨ρ, γ, F, r, γ', se, hg, q⟩ := q
    obtain ⟨⟨x, γ1⟩, e1, hg⟩ := bnd hg
    obtain ⟨z, e2, hg⟩ := bnd hg
    cases hg
    refine ⟨ρ, γ, F, x, _, se, e1, fun v F1 H1 st1 dr1 dv1 => ?_⟩
    cases x with
    | str w =>
      cases dv1
      have e2' : (if w.length ≤ LINE then some (PyData.str (Txt.lower w)) else none) = some r := e2
      split at e2'
      · rename_i hz
        cases e2'
        exact ⟨⟨_, rfl⟩, _, rfl, rfl, Nat.le_trans hz (by decide), q _ F1 H1 st1 dr1 (.str _)⟩
      · cases e2'
    | _ => cases e2
theorem de_upper {apos : Pos} (ha : DE X C a ga) (hbase : attributeBase a "upper" X.env (eval a X.env) = eval a X.env := by rfl) (hline : (apos.endLine == pos.line) = true := by rfl) : DE X C (.Call (.Attribute a "upper" apos) [] [] pos) (unE upperD ga) :=
  PE.imp (pe_upper ha hbase hline) fun σ H Q q => by
    obtain ⟨ρ, γ, F, r, γ', se, hg, q⟩ := q
    obtain ⟨⟨x, γ1⟩, e1, hg⟩ := bnd hg
    obtain ⟨z, e2, hg⟩ := bnd hg
    cases hg
    refine ⟨ρ, γ, F, x, _, se, e1, fun v F1 H1 st1 dr1 dv1 => ?_⟩
    cases x with
    | str w =>
      cases dv1
      have e2' : (if w.length ≤ LINE then some (PyData.str (Txt.upper w)) else none) = some r := e2
      split at e2'
      · rename_i hz
        cases e2'
        exact ⟨⟨_, rfl⟩, _, rfl, rfl, Nat.le_trans hz (by decide), q _ F1 H1 st1 dr1 (.str _)⟩
      · cases e2'
    | _ => cases e2

/-! ### calls of the text's defs -/
/-- a def that changes nothing: its answer a function of its arguments' data -/
def spD (n : Nat) (f : List D → Option D) : Sp := fun vs H Q _ => ∃ F ds d, ds.length = n ∧ Same F H ∧ DvAll F vs ds ∧ f ds = some d ∧ ∀ v F' H', Stq F H F' H' → Dv F' v d → Q v H'
/-- a def that is handed the draws first -/
def spG (n : Nat) (f : List D → G → Option (D × G)) : Sp := fun vs H Q _ => ∃ p q F γ ws ds d γ', vs = .ref p :: ws ∧ ds.length = n ∧ Same F H ∧ DRo (some (p, q)) γ F H ∧ DvAll F ws ds ∧ f ds γ = some (d, γ') ∧
  ∀ v F' H', Stp (some (p, q)) F H F' H' → DRo (some (p, q)) γ' F' H' → Dv F' v d → Q v H'
theorem de_call {k n : Nat} {f : Addr} {fd : FuncData} {ps : List Str} {x : Str} {p : Pos} {es : List Expr} {fn : List D → Option D} {g : GA} (Fk : FnOk X.prog X.w X.K X.mg X.base CX0 k f fd ps (spD n fn)) (hr : Room k X.A) (hg : Gl X x) (hm : X.mg x = some (.ref f))
    (hk : PySem.W.keepIn X.K (.ref f) = true) (hb : Binds X.K fd ps []) (ha : DA X C (a :: es) g) (hn : ∀ ρ γ z, g ρ γ = some z → z.1.length = n) (hdb : (x == ("__debug__" : Str)) = false := by decide) (he : starEach (a :: es) X.env = (false, eval a X.env) :: starEach es X.env := by rfl)
    (hpl : (backTo pos (starEach es X.env)).any (·.1) = false := by rfl) : DE X C (.Call (.Name x p) (a :: es) [] pos) (callE fn g) :=
  PE.imp (pe_call Fk hr hg hm hk hb .nil pass0 ha hdb he hpl) fun σ H Q q => by
    obtain ⟨ρ, γ, F, r, γ', se, hg, q⟩ := q
    obtain ⟨⟨x, γ1⟩, e1, hg⟩ := bnd hg
    obtain ⟨z, e2, hg⟩ := bnd hg
    cases hg
    refine ⟨ρ, γ, F, x, _, se, e1, fun vs F1 H1 st1 dr1 al => ⟨F1, x, r, hn _ _ _ e1, st1.fh, by rw [List.append_nil]; exact al, e2, fun v F2 H2 st2 dv2 => q v F2 H2 (st1.trans st2.up) (dr1.step st2) dv2⟩⟩
theorem de_callG {k n : Nat} {f : Addr} {fd : FuncData} {ps : List Str} {x y : Str} {p py : Pos} {es : List Expr} {fn : List D → G → Option (D × G)} {g : GA} (Fk : FnOk X.prog X.w X.K X.mg X.base CX0 k f fd ps (spG n fn)) (hr : Room k X.A) (hg : Gl X x) (hm : X.mg x = some (.ref f))
    (hk : PySem.W.keepIn X.K (.ref f) = true) (hb : Binds X.K fd ps []) (hC : C.dr.isSome = true) (hy : PE X (.Name y py) (tVar C.ds)) (ha : DA X C es g) (hn : ∀ ρ γ z, g ρ γ = some z → z.1.length = n) (hdb : (x == ("__debug__" : Str)) = false := by decide)
    (he : starEach (.Name y py :: es) X.env = (false, eval (.Name y py) X.env) :: starEach es X.env := by rfl) (hpl : (backTo pos (starEach es X.env)).any (·.1) = false := by rfl) : DE X C (.Call (.Name x p) (.Name y py :: es) [] pos) (callGE fn g) :=
  PE.imp (pe_call Fk hr hg hm hk hb .nil pass0 (pa_cons hy ha he) hdb he hpl) fun σ H Q q => by
    obtain ⟨ρ, γ, F, r, γ', se, hg, q⟩ := q
    obtain ⟨⟨x, γ1⟩, e1, hg⟩ := bnd hg
    cases hC2 : C.dr with
    | none => rw [hC2] at hC; cases hC
    | some pq =>
      obtain ⟨pp, pq⟩ := pq
      refine ⟨.ref pp, se.dsl pp pq hC2, ρ, γ, F, x, γ1, se, e1, fun vs F1 H1 st1 dr1 al => ?_⟩
      rw [hC2] at st1 dr1 q
      exact ⟨pp, pq, F1, γ1, vs, x, r, γ', by rw [List.append_nil], hn _ _ _ e1, st1.fh, dr1, al, hg, fun v F2 H2 st2 dr2 dv2 => q v F2 H2 (st1.trans st2) dr2 dv2⟩
end
theorem nilA_len : ∀ (ρ : Env) (γ : G) z, nilA ρ γ = some z → z.1.length = 0 := fun _ _ _ h => by cases h; rfl
theorem consA_len {n : Nat} {a : GE} {r : GA} (h : ∀ (ρ : Env) (γ : G) z, r ρ γ = some z → z.1.length = n) : ∀ (ρ : Env) (γ : G) z, consA a r ρ γ = some z → z.1.length = n + 1 := fun ρ γ z e => by
  obtain ⟨x, e1, e⟩ := bnd e
  obtain ⟨y, e2, e⟩ := bnd e
  cases e
  rw [List.length_cons, h _ _ _ e2]
end TK
end
section
set_option Elab.async false
set_option linter.all false
set_option maxRecDepth 100000
set_option maxHeartbeats 4000000
/-! Targets, what is walked, comprehensions, statements, loops, defs, as plain functions. -/
namespace TK
open PySem PySem.Spec PyProof.Rows L2

theorem set_get {α : Type} {l : List (Option α)} {i j : Nat} {x : Option α} {y : α} (h : (l.set i x)[j]? = some (some y)) : (j = i ∧ x = some y ∧ i < l.length) ∨ (j ≠ i ∧ l[j]? = some (some y)) := by
  by_cases e : j = i
  · subst e
    by_cases hl : j < l.length
    · rw [List.getElem?_set_self hl] at h
      exact .inl ⟨rfl, Option.some.inj h, hl⟩
    · rw [List.getElem?_eq_none (by rw [List.length_set]; omega)] at h
      cases h
  · rw [List.getElem?_set_ne (Ne.symm e)] at h
    exact .inr ⟨e, h⟩
abbrev OffD (C : Cfg) (i : Nat) : Prop := (C.dr.isNone || i != C.ds) = true
theorem offD {C : Cfg} {i : Nat} {p q : Addr} (h : OffD C i) (e : C.dr = some (p, q)) : i ≠ C.ds := fun z => by
  rw [OffD, e, z] at h
  simp at h
section
variable {C : Cfg} {ρ : Env} {γ γ' : G} {σ : L2.St} {F H F' H' : Hp} {i : Nat} {d : D} {v : V}
theorem SE.slot (s : SE C ρ γ σ F H) (e : ρ[i]? = some (some d)) (hk : C.kd i = .pure) : ∃ v, σ[i]? = some (some v) ∧ Dv F v d := by
  obtain ⟨fp, h1, h2, h3⟩ := s.sl
  obtain ⟨w, hw, ok⟩ := h1 i d e
  rw [hk] at ok
  exact ⟨w, hw, ok.1⟩
theorem SE.put (s : SE C ρ γ σ F H) (hk : C.kd i = .pure) (hd : OffD C i) (dv : Dv F v d) : SE C (ρ.set i (some d)) γ (σ.set i (some v)) F H := by
  obtain ⟨fp, h1, h2, h3⟩ := s.sl
  refine ⟨s.ent, s.dr, s.drh, fun p q e => by rw [List.getElem?_set_ne (offD hd e)]; exact s.dsl p q e, by simpa using s.len, fun j => if j = i then [] else fp j, fun j x e => ?_, fun j a m => ?_, fun j l n a m => ?_⟩
  · rcases set_get e with ⟨e1, e2, e3⟩ | ⟨e1, e2⟩
    · subst e1
      cases e2
      refine ⟨v, List.getElem?_set_self (by rw [← s.len]; exact e3), ?_⟩
      simp only [if_true, hk]
      exact ⟨dv, rfl⟩
    · obtain ⟨w, hw, ok⟩ := h1 j x e2
      refine ⟨w, by rw [List.getElem?_set_ne (Ne.symm e1)]; exact hw, ?_⟩
      simp only [if_neg e1]
      exact ok
  · by_cases e : j = i
    · simp [e] at m
    · simp only [if_neg e] at m
      exact h2 j a m
  · by_cases e : j = i
    · simp [e] at m
    · simp only [if_neg e] at m
      by_cases e2 : l = i
      · simp [e2]
      · simp only [if_neg e2]
        exact h3 j l n a m
theorem SE.unset (s : SE C ρ γ σ F H) (hd : OffD C i) : SE C (ρ.set i none) γ (σ.set i none) F H := by
  obtain ⟨fp, h1, h2, h3⟩ := s.sl
  refine ⟨s.ent, s.dr, s.drh, fun p q e => by rw [List.getElem?_set_ne (offD hd e)]; exact s.dsl p q e, by simpa using s.len, fp, fun j x e => ?_, h2, h3⟩
  rcases set_get e with ⟨e1, e2, e3⟩ | ⟨e1, e2⟩
  · cases e2
  · obtain ⟨w, hw, ok⟩ := h1 j x e2
    exact ⟨w, by rw [List.getElem?_set_ne (Ne.symm e1)]; exact hw, ok⟩
def wipeR (ρ : Env) : List Nat → Env
  | [] => ρ
  | v :: vs => (wipeR ρ vs).set v none
theorem SE.wipe (s : SE C ρ γ σ F H) : ∀ {vs : List Nat}, (∀ i ∈ vs, OffD C i) → SE C (wipeR ρ vs) γ (L2.wipe σ vs) F H
  | [], _ => s
  | v :: vs, h => (SE.wipe s fun i m => h i (List.mem_cons_of_mem _ m)).unset (h v List.mem_cons_self)
/-- a new list in a slot that owns -/
theorem SE.own {a : Addr} {xs : List V} {ds : List D} (s : SE C ρ γ σ F H) (st : Stp C.dr F H F' H') (dr : DRo C.dr γ' F' H') (hk : C.kd i = .lst) (hd : OffD C i) (hav : ∀ a, C.av a → H a ≠ none) (ha : H a = none) (hf : F' a = none) (hl : H' a = some (.lst xs)) (al : DvAll F' xs ds) :
    SE C (ρ.set i (some (.list ds))) γ' (σ.set i (some (.ref a))) F' H' := by
  have s2 := s.step st dr
  obtain ⟨fp, h1, h2, h3⟩ := s.sl
  have n0 : C.H0 a = none := by
    cases z : C.H0 a with
    | none => rfl
    | some o => exact absurd ha (s.ent.dom a (by rw [z]; simp))
  refine ⟨s2.ent, dr, s.drh, fun p q e => by rw [List.getElem?_set_ne (offD hd e)]; exact s.dsl p q e, by simpa using s.len, fun j => if j = i then [a] else fp j, fun j x e => ?_, fun j b m => ?_, fun j l n b m => ?_⟩
  · rcases set_get e with ⟨e1, e2, e3⟩ | ⟨e1, e2⟩
    · subst e1
      cases e2
      refine ⟨.ref a, List.getElem?_set_self (by rw [← s.len]; exact e3), ?_⟩
      simp only [if_true, hk]
      exact ⟨a, xs, ds, rfl, rfl, rfl, hl, al⟩
    · obtain ⟨w, hw, ok⟩ := h1 j x e2
      refine ⟨w, by rw [List.getElem?_set_ne (Ne.symm e1)]; exact hw, ?_⟩
      simp only [if_neg e1]
      refine ok.step st.ff fun b m => ?_
      obtain ⟨n1, n2, n3, _⟩ := h2 j b m
      cases q : H b with
      | none => exact absurd q n3
      | some o => exact st.keep b o q (s.nodr n2)
  · by_cases e : j = i
    · simp [e] at m
      subst m
      exact ⟨hf, n0, by rw [hl]; simp, fun z => hav _ z ha⟩
    · simp only [if_neg e] at m
      obtain ⟨n1, n2, n3, n4⟩ := h2 j b m
      exact ⟨st.old b n1 n3, n2, st.dom b n3, n4⟩
  · by_cases e : j = i
    · simp [e] at m
      subst m
      have e2 : l ≠ i := fun z => n (e.trans z.symm)
      simp only [if_neg e2]
      intro hb
      exact (h2 l _ hb).2.2.1 ha
    · simp only [if_neg e] at m
      by_cases e2 : l = i
      · simp only [e2, if_true, List.mem_singleton]
        intro z
        subst z
        exact (h2 j _ m).2.2.1 ha
      · simp only [if_neg e2]
        exact h3 j l n b m
/-- a slot that owns a list: the list changed -/
theorem SE.mut {ds : List D} (s : SE C ρ γ σ F H) (hk : C.kd i = .lst) (e : ρ[i]? = some (some (.list ds))) : ∃ a xs, σ[i]? = some (some (.ref a)) ∧ H a = some (.lst xs) ∧ DvAll F xs ds ∧ ¬ isDr C.dr a ∧
    ∀ ys es, DvAll F ys es → SE C (ρ.set i (some (.list es))) γ σ F (upd H a (.lst ys)) := by
  obtain ⟨fp, h1, h2, h3⟩ := s.sl
  obtain ⟨v, hv, ok⟩ := h1 i _ e
  rw [hk] at ok
  obtain ⟨a, xs, ds', o1, o2, o3, o4, o5⟩ := ok
  cases o2
  subst o1
  have ha := h2 i a (by rw [o3]; simp)
  obtain ⟨n1, n2, n3, n4⟩ := ha
  have nd := s.nodr n2
  refine ⟨a, xs, hv, o4, o5, nd, fun ys es al => ?_⟩
  have fh : Same F (upd H a (.lst ys)) := fun x u q => by rw [upd_ne (ne_of_none q n1)]; exact s.fh x u q
  refine ⟨⟨s.ent.ff, fh, fun x u q nq => by rw [upd_ne (ne_of_none q n2)]; exact s.ent.keep x u q nq, fun x q => ?_, s.ent.old⟩, ?_, s.drh, s.dsl, by simpa using s.len, fp, fun j x q => ?_, fun j b m => ?_, h3⟩
  · by_cases z : x = a
    · subst z
      rw [upd_same]
      simp
    · rw [upd_ne z]
      exact s.ent.dom x q
  · have dr := s.dr
    cases hC : C.dr with
    | none => trivial
    | some pq =>
      obtain ⟨p, q⟩ := pq
      rw [hC] at dr nd
      obtain ⟨m, d1, d2, d3, d4⟩ := dr
      have np : p ≠ a := fun z => nd (.inl z.symm)
      have nq : q ≠ a := fun z => nd (.inr z.symm)
      exact ⟨m, d1, d2, by rw [upd_ne np]; exact d3, by rw [upd_ne nq]; exact d4⟩
  · rcases set_get q with ⟨e1, e2, e3⟩ | ⟨e1, e2⟩
    · subst e1
      cases e2
      refine ⟨.ref a, hv, ?_⟩
      rw [hk]
      exact ⟨a, ys, es, rfl, rfl, o3, upd_same, al⟩
    · obtain ⟨w, hw, ok⟩ := h1 j x e2
      refine ⟨w, hw, ok.step (Same.refl F) fun b m => upd_ne fun z => ?_⟩
      subst z
      exact h3 j i e1 b m (by rw [o3]; simp)
  · obtain ⟨m1, m2, m3, m4⟩ := h2 j b m
    refine ⟨m1, m2, ?_, m4⟩
    by_cases z : b = a
    · subst z
      rw [upd_same]
      simp
    · rw [upd_ne z]
      exact m3
/-- an address that no slot may own -/
abbrev Cfg.avoid (C : Cfg) (x : Addr) : Cfg := { C with av := fun a => C.av a ∨ a = x }
theorem SE.enter {x : Addr} {o : HO} (s : SE C ρ γ σ F H) (hx : H x = none) : SE (C.avoid x) ρ γ σ F (upd H x o) := by
  have st : Stp C.dr F H F (upd H x o) := Stp.lay s.fh hx
  have s2 : SE C ρ γ σ F (upd H x o) := s.step st (by
    have dr := s.dr
    cases hC : C.dr with
    | none => trivial
    | some pq =>
      obtain ⟨p, q⟩ := pq
      rw [hC] at dr
      obtain ⟨m, d1, d2, d3, d4⟩ := dr
      exact ⟨m, d1, d2, by rw [upd_ne (ne_of_none d3 hx)]; exact d3, by rw [upd_ne (ne_of_none d4 hx)]; exact d4⟩)
  obtain ⟨fp, h1, h2, h3⟩ := s.sl
  refine ⟨s2.ent, s2.dr, s.drh, s.dsl, s.len, fp, fun j d e => ?_, fun j a m => ?_, h3⟩
  · obtain ⟨w, hw, ok⟩ := h1 j d e
    exact ⟨w, hw, ok.step (Same.refl F) fun b m => upd_ne fun z => (h2 j b m).2.2.1 (by rw [z]; exact hx)⟩
  · obtain ⟨n1, n2, n3, n4⟩ := h2 j a m
    refine ⟨n1, n2, st.dom a n3, fun z => ?_⟩
    rcases z with z | z
    · exact n4 z
    · rw [z] at n3
      exact n3 hx
/-- what stands there may change -/
theorem SE.chg {x : Addr} {o : HO} (s : SE (C.avoid x) ρ γ σ F H) (hf : F x = none) (h0 : C.H0 x = none) (hx : H x ≠ none) : SE (C.avoid x) ρ γ σ F (upd H x o) := by
  have nd : ¬ isDr C.dr x := s.nodr h0
  obtain ⟨fp, h1, h2, h3⟩ := s.sl
  refine ⟨⟨s.ent.ff, fun y u q => by rw [upd_ne (ne_of_none q hf)]; exact s.fh y u q, fun y u q nq => by rw [upd_ne (ne_of_none q h0)]; exact s.ent.keep y u q nq, fun y q => ?_, s.ent.old⟩, ?_, s.drh, s.dsl, s.len, fp, fun j d e => ?_, fun j a m => ?_, h3⟩
  · by_cases z : y = x
    · subst z
      rw [upd_same]
      simp
    · rw [upd_ne z]
      exact s.ent.dom y q
  · have dr := s.dr
    show DRo C.dr γ F (upd H x o)
    have dr : DRo C.dr γ F H := dr
    cases hC : C.dr with
    | none => trivial
    | some pq =>
      obtain ⟨p, q⟩ := pq
      rw [hC] at dr nd
      obtain ⟨m, d1, d2, d3, d4⟩ := dr
      exact ⟨m, d1, d2, by rw [upd_ne fun z => nd (.inl z.symm)]; exact d3, by rw [upd_ne fun z => nd (.inr z.symm)]; exact d4⟩
  · obtain ⟨w, hw, ok⟩ := h1 j d e
    refine ⟨w, hw, ok.step (Same.refl F) fun b m => upd_ne fun z => (h2 j b m).2.2.2 (.inr z)⟩
  · obtain ⟨n1, n2, n3, n4⟩ := h2 j a m
    exact ⟨n1, n2, by rw [upd_ne fun z => n4 (.inr z)]; exact n3, n4⟩
theorem Stp.chg {dr : Option (Addr × Addr)} {x : Addr} {o : HO} (s : Stp dr F H F' H') (h0 : H x = none) (hf : F' x = none) : Stp dr F H F' (upd H' x o) := by
  refine ⟨s.ff, fun y u q => by rw [upd_ne (ne_of_none q hf)]; exact s.fh y u q, fun y u q n => by rw [upd_ne (ne_of_none q h0)]; exact s.keep y u q n, fun y q => ?_, s.old⟩
  by_cases z : y = x
  · subst z
    rw [upd_same]
    simp
  · rw [upd_ne z]
    exact s.dom y q
end

/-! ### targets -/
abbrev GTg := D → Env → Option Env
def tgN (i : Nat) : GTg := fun d ρ => some (ρ.set i (some d))
def setAll : List Nat → List D → Env → Option Env
  | [], [], ρ => some ρ
  | i :: is, d :: ds, ρ => setAll is ds (ρ.set i (some d))
  | _, _, _ => none
def tgT (is : List Nat) : GTg := fun d ρ => (match d with
  | .tuple ds => some ds
  | _ => none).bind fun ds => setAll is ds ρ
def tgL (is : List Nat) : GTg := fun d ρ => (match d with
  | .list ds => some ds
  | _ => none).bind fun ds => setAll is ds ρ
def tG (C : Cfg) (g : GTg) (is : List Nat) : TG := fun v σ H Q => ∃ ρ γ F d ρ', SE C ρ γ σ F H ∧ Dv F v d ∧ g d ρ = some ρ' ∧ ∀ σ', SE C ρ' γ σ' F H → (∀ vs, (∀ i ∈ is, i ∈ vs) → L2.wipe σ' vs = L2.wipe σ vs) → Q σ' H
def tGs (C : Cfg) (is : List Nat) : TGs := fun vs σ H Q => ∃ ρ γ F ds ρ', SE C ρ γ σ F H ∧ DvAll F vs ds ∧ setAll is ds ρ = some ρ' ∧ ∀ σ', SE C ρ' γ σ' F H → (∀ vs, (∀ i ∈ is, i ∈ vs) → L2.wipe σ' vs = L2.wipe σ vs) → Q σ' H
theorem wipe_get {σ : L2.St} {j : Nat} : ∀ {vs : List Nat}, (L2.wipe σ vs)[j]? = if j ∈ vs then (σ[j]?).map (fun _ => none) else σ[j]?
  | [] => by simp [L2.wipe]
  | v :: vs => by
    unfold L2.wipe
    by_cases e : v = j
    · subst e
      rw [if_pos List.mem_cons_self]
      by_cases hl : v < σ.length
      · rw [List.getElem?_set_self (by rw [L2.wipe_length]; exact hl), List.getElem?_eq_getElem hl] <;> rfl
      · rw [List.getElem?_eq_none (by rw [List.length_set, L2.wipe_length]; omega), List.getElem?_eq_none (by omega)] <;> rfl
    · rw [List.getElem?_set_ne e, wipe_get]
      have e2 : (j ∈ v :: vs) = (j ∈ vs) := by
        rw [List.mem_cons]
        exact propext ⟨fun z => z.elim (fun q => absurd q.symm e) id, .inr⟩
      simp only [e2]
theorem wipe_set {σ : L2.St} {i : Nat} {x : Option V} {vs : List Nat} (h : i ∈ vs) : L2.wipe (σ.set i x) vs = L2.wipe σ vs := by
  refine List.ext_getElem? fun j => ?_
  rw [wipe_get, wipe_get]
  by_cases hj : j ∈ vs
  · rw [if_pos hj, if_pos hj]
    by_cases e : i = j
    · subst e
      by_cases hl : i < σ.length
      · rw [List.getElem?_set_self hl, List.getElem?_eq_getElem hl] <;> rfl
      · rw [List.getElem?_eq_none (by rw [List.length_set]; omega), List.getElem?_eq_none (by omega)]
    · rw [List.getElem?_set_ne e]
  · rw [if_neg hj, if_neg hj, List.getElem?_set_ne fun e => hj (by rw [← e]; exact h)]
theorem PG.imp {X : Cx} {e : Expr} {t t' : TG} (h : PG X e t) (w : ∀ v σ H Q, t' v σ H Q → t v σ H Q) : PG X e t' := ⟨fun pins s σ H v u Q I r q => h.run pins s σ H v u Q I r (w v σ H Q q)⟩
theorem PGs.imp {X : Cx} {e : List Expr} {t t' : TGs} (h : PGs X e t) (w : ∀ v σ H Q, t' v σ H Q → t v σ H Q) : PGs X e t' := ⟨fun pins s σ H v u Q I r q => h.run pins s σ H v u Q I r (w v σ H Q q)⟩
section
variable {X : Cx} {C : Cfg} {pos : Pos}
theorem dg_name {i : Nat} {e : Expr} (h : PG X e (gName i)) (hk : C.kd i = .pure) (hd : OffD C i) : PG X e (tG C (tgN i) [i]) := PG.imp h fun v σ H Q q => by
  obtain ⟨ρ, γ, F, d, ρ', se, dv, hg, q⟩ := q
  cases hg
  exact q _ (se.put hk hd dv) fun vs h => wipe_set (h i List.mem_cons_self)
theorem dgs_nil : PGs X [] (tGs C []) := PGs.imp pgs_nil fun vs σ H Q q => by
  obtain ⟨ρ, γ, F, ds, ρ', se, al, hg, q⟩ := q
  cases al with
  | nil =>
    cases hg
    exact ⟨rfl, q σ se fun _ _ => rfl⟩
  | cons _ _ => cases hg
theorem dgs_cons {i : Nat} {is : List Nat} {e : Expr} {es : List Expr} (h : PG X e (gName i)) (hk : C.kd i = .pure) (hd : OffD C i) (hs : PGs X es (tGs C is)) (he : (assignEach (e :: es) X.env).map (·.2) = assign e X.env :: (assignEach es X.env).map (·.2) := by rfl) : PGs X (e :: es) (tGs C (i :: is)) :=
  PGs.imp (pgs_cons h hs he) fun vs σ H Q q => by
    obtain ⟨ρ, γ, F, ds, ρ', se, al, hg, q⟩ := q
    cases al with
    | nil => cases hg
    | cons dv al =>
      refine ⟨_, _, rfl, ?_⟩
      refine ⟨_, γ, F, _, ρ', se.put hk hd dv, al, hg, fun σ' s' w => q σ' s' fun vs hm => ?_⟩
      rw [w vs fun j m => hm j (List.mem_cons_of_mem _ m)]
      exact wipe_set (hm i List.mem_cons_self)
theorem setAll_len : ∀ {is : List Nat} {ds : List D} {ρ ρ' : Env}, setAll is ds ρ = some ρ' → ds.length = is.length
  | [], [], _, _, _ => rfl
  | [], _ :: _, _, _, h => by cases h
  | _ :: _, [], _, _, h => by cases h
  | _ :: is, _ :: ds, _, _, h => by rw [List.length_cons, List.length_cons, setAll_len (is := is) h]
theorem dg_tup {is : List Nat} {es : List Expr} {k : Nat} (hc : X.calm = true) (h : PGs X es (tGs C is)) (hn : (assignEach es X.env).length = is.length := by rfl) (hst : (assignEach es X.env).findIdx? (·.1) = none := by rfl) : PG X (.Tuple es k pos) (tG C (tgT is) is) :=
  PG.imp (pg_tup hc h hn hst) fun v σ H Q q => by
    obtain ⟨ρ, γ, F, d, ρ', se, dv, hg, q⟩ := q
    obtain ⟨ds, e1, hg⟩ := bnd hg
    cases d with
    | tuple zs =>
      cases e1
      cases dv with
      | tup e a => exact ⟨_, _, rfl, SqT.of (se.fh _ _ e), by rw [a.len]; exact setAll_len hg, ρ, γ, F, ds, ρ', se, a, hg, q⟩
    | _ => cases e1
theorem dg_lst {is : List Nat} {es : List Expr} {k : Nat} (hc : X.calm = true) (h : PGs X es (tGs C is)) (hn : (assignEach es X.env).length = is.length := by rfl) (hst : (assignEach es X.env).findIdx? (·.1) = none := by rfl) : PG X (.Tuple es k pos) (tG C (tgL is) is) :=
  PG.imp (pg_unl hc h hn hst) fun v σ H Q q => by
    obtain ⟨ρ, γ, F, d, ρ', se, dv, hg, q⟩ := q
    obtain ⟨ds, e1, hg⟩ := bnd hg
    cases d with
    | list zs =>
      cases e1
      cases dv with
      | lst e a => exact ⟨_, _, rfl, SqL.of (se.fh _ _ e), by rw [a.len]; exact setAll_len hg, ρ, γ, F, ds, ρ', se, a, hg, q⟩
    | _ => cases e1
end

/-! ### what is walked -/
def ItOk (J : It) (R : Hp → Hp → Prop) (ds : List D) : Prop := ∀ F H, R F H → Same F H → ∀ i, (ds.length ≤ i → J.stop i H) ∧ ∀ d, ds[i]? = some d → J.go i H ∧ ∀ x H', J.yld i H x H' → ∃ F', Stq F H F' H' ∧ Dv F' x d
def kept (dr : Option (Addr × Addr)) (F1 H1 : Hp) : Hp → Hp → Prop := fun F H => Same F1 F ∧ ∀ a o, H1 a = some o → ¬ isDr dr a → H a = some o
/-- over what is frozen; over what stands now -/
def tI (C : Cfg) (g : GA) : TI := fun σ H R => ∃ ρ γ F ds γ', SE C ρ γ σ F H ∧ g ρ γ = some (ds, γ') ∧ ∀ F' H' J, Stp C.dr F H F' H' → DRo C.dr γ' F' H' → ItOk J (fun F2 _ => Same F' F2) ds → R J H'
def tIr (C : Cfg) (g : GA) : TI := fun σ H R => ∃ ρ γ F ds γ', SE C ρ γ σ F H ∧ g ρ γ = some (ds, γ') ∧ ∀ F' H' J, Stp C.dr F H F' H' → DRo C.dr γ' F' H' → ItOk J (kept C.dr F' H') ds → R J H'
theorem PI.imp {X : Cx} {tg e : Expr} {t t' : TI} (h : PI X tg e t) (w : ∀ σ H Q, t' σ H Q → t σ H Q) : PI X tg e t' := ⟨fun pins s σ H Q I q => h.run pins s σ H Q I (w σ H Q q)⟩
theorem PI.rd {X : Cx} {C : Cfg} {tg e : Expr} {g : GA} (h : PI X tg e (tI C g)) : PI X tg e (tIr C g) := PI.imp h fun σ H R ⟨ρ, γ, F, ds, γ', se, hg, q⟩ => ⟨ρ, γ, F, ds, γ', se, hg, fun F' H' J st dr ok => q F' H' J st dr fun F2 H2 k => ok F2 H2 k.1⟩
def seqI (a : GE) : GA := fun ρ γ => (a ρ γ).bind fun x => (itemsD x.1).bind fun z => some (z, x.2)
def strI (a : GE) : GA := fun ρ γ => (a ρ γ).bind fun x => match x.1 with
  | .str z => some (z.cps.toList.map fun c => .str ⟨#[c]⟩, x.2)
  | _ => none
def rngI (a : GE) : GA := fun ρ γ => (a ρ γ).bind fun x => match x.1 with
  | .int n => if n ≤ 100000 ∧ -100000 ≤ n then some ((List.range n.toNat).map fun k : Nat => .int (k : Int), x.2) else none
  | _ => none
def enumD (xs : List D) : List D := (List.range xs.length).zipWith (fun (k : Nat) x => .tuple [.int (k : Int), x]) xs
def enuI (a : GE) : GA := fun ρ γ => (a ρ γ).bind fun x => match x.1 with
  | .list xs => some (enumD xs, x.2)
  | _ => none
def zipD (xs ys : List D) : List D := xs.zipWith (fun x y => .tuple [x, y]) ys
def zipI (a b : GE) : GA := fun ρ γ => (a ρ γ).bind fun x => (b ρ x.2).bind fun y => match x.1, y.1 with
  | .list xs, .list ys => some (zipD xs ys, y.2)
  | .tuple xs, .tuple ys => some (zipD xs ys, y.2)
  | _, _ => none
section
variable {X : Cx} {C : Cfg} {tg e : Expr} {g : GE} {pos : Pos}
theorem okL' {K : PySem.W.Frag} {a : Addr} {xs : List V} {ds : List D} {R : Hp → Hp → Prop} (h : ∀ F H, R F H → Same F H → H a = some (.lst xs) ∧ DvAll F xs ds) : ItOk (Itl K a) R ds := by
  intro F H r k i
  obtain ⟨eH, al⟩ := h F H r k
  refine ⟨fun hi => ⟨xs, SqL.of eH, by rw [al.len]; exact hi⟩, fun d hd => ?_⟩
  obtain ⟨v, hv, dv⟩ := al.get hd
  refine ⟨⟨xs, v, SqL.of eH, hv⟩, fun x H' y => ?_⟩
  obtain ⟨e1, y⟩ := y
  subst e1
  have e2 := y xs (SqL.of eH)
  rw [hv] at e2
  cases e2
  exact ⟨F, Stp.refl k, dv⟩
theorem okT {K : PySem.W.Frag} {a : Addr} {xs : List V} {ds : List D} {R : Hp → Hp → Prop} (h : ∀ F H, R F H → Same F H → H a = some (.tup xs) ∧ DvAll F xs ds) : ItOk (Itt K a) R ds := by
  intro F H r k i
  obtain ⟨eH, al⟩ := h F H r k
  refine ⟨fun hi => ⟨xs, SqT.of eH, by rw [al.len]; exact hi⟩, fun d hd => ?_⟩
  obtain ⟨v, hv, dv⟩ := al.get hd
  refine ⟨⟨xs, v, SqT.of eH, hv⟩, fun x H' y => ?_⟩
  obtain ⟨e1, y⟩ := y
  subst e1
  have e2 := y xs (SqT.of eH)
  rw [hv] at e2
  cases e2
  exact ⟨F, Stp.refl k, dv⟩
theorem pi_seq (he : DE X C e g) : PI X tg e (tI C (seqI g)) := ⟨fun pins s σ H R I h => by
  obtain ⟨ρ, γ, F, ds, γ', se, hg, q⟩ := h
  obtain ⟨⟨x, γ1⟩, e1, hg⟩ := bnd hg
  obtain ⟨z, e2, hg⟩ := bnd hg
  cases hg
  cases x with
  | list zs =>
    cases e2
    refine (pi_list he).run pins s σ H R I ⟨ρ, γ, F, _, _, se, e1, fun v F' H' st dr dv => ?_⟩
    cases dv with
    | lst eF al => exact ⟨_, rfl, ⟨_, SqL.of (st.fh _ _ eF)⟩, q F' H' _ st dr (okL' fun F2 H2 k k2 => ⟨k2 _ _ (k _ _ eF), al.up k⟩)⟩
  | tuple zs =>
    cases e2
    refine (pi_tup he).run pins s σ H R I ⟨ρ, γ, F, _, _, se, e1, fun v F' H' st dr dv => ?_⟩
    cases dv with
    | tup eF al => exact ⟨_, rfl, ⟨_, SqT.of (st.fh _ _ eF)⟩, q F' H' _ st dr (okT fun F2 H2 k k2 => ⟨k2 _ _ (k _ _ eF), al.up k⟩)⟩
  | _ => cases e2⟩
theorem pi_seqr (he : RE X C e g) : PI X tg e (tIr C (seqI g)) := ⟨fun pins s σ H R I h => by
  obtain ⟨ρ, γ, F, ds, γ', se, hg, q⟩ := h
  obtain ⟨⟨x, γ1⟩, e1, hg⟩ := bnd hg
  obtain ⟨z, e2, hg⟩ := bnd hg
  cases hg
  cases x with
  | list zs =>
    cases e2
    refine (pi_list he).run pins s σ H R I ⟨ρ, γ, F, _, _, se, e1, fun v F' H' st dr dv => ?_⟩
    rcases dv with dv | ⟨b, xs, ds', o1, o2, o3, o4, o5⟩ | ⟨b, xs, ds', o1, o2, o3, o4, o5⟩
    · cases dv with
      | lst eF al => exact ⟨_, rfl, ⟨_, SqL.of (st.fh _ _ eF)⟩, q F' H' _ st dr (okL' fun F2 H2 k k2 => ⟨k2 _ _ (k.1 _ _ eF), al.up k.1⟩)⟩
    · cases o2
      subst o1
      exact ⟨_, rfl, ⟨_, SqL.of o3⟩, q F' H' _ st dr (okL' fun F2 H2 k k2 => ⟨k.2 _ _ o3 o5, o4.up k.1⟩)⟩
    · cases o2
  | tuple zs =>
    cases e2
    refine (pi_tup he).run pins s σ H R I ⟨ρ, γ, F, _, _, se, e1, fun v F' H' st dr dv => ?_⟩
    obtain ⟨a, xs, rfl, eH, al⟩ := dv.tup st.fh
    have dv2 := dv.scal (fun _ z => by cases z) (fun _ z => by cases z)
    cases dv2 with
    | tup eF al => exact ⟨_, rfl, ⟨_, SqT.of (st.fh _ _ eF)⟩, q F' H' _ st dr (okT fun F2 H2 k k2 => ⟨k2 _ _ (k.1 _ _ eF), al.up k.1⟩)⟩
  | _ => cases e2⟩
theorem pi_strD (he : DE X C e g) : PI X tg e (tI C (strI g)) := PI.imp (pi_str he) fun σ H R h => by
  obtain ⟨ρ, γ, F, ds, γ', se, hg, q⟩ := h
  obtain ⟨⟨x, γ1⟩, e1, hg⟩ := bnd hg
  cases x with
  | str z =>
    cases hg
    refine ⟨ρ, γ, F, _, _, se, e1, fun v F' H' st dr dv => ?_⟩
    cases dv
    refine ⟨z, rfl, q F' H' _ st dr fun F2 H2 k k2 i => ⟨fun hi => ?_, fun d hd => ?_⟩⟩
    · show z.cps.size ≤ i
      simpa using hi
    · rw [List.getElem?_map] at hd
      obtain ⟨c, hc, e2⟩ := Option.map_eq_some_iff.mp hd
      subst e2
      have hc' : z.cps[i]? = some c := by simpa using hc
      refine ⟨?_, fun x H' y => ?_⟩
      · show i < z.cps.size
        exact (Array.getElem?_eq_some_iff.mp hc').1
      · obtain ⟨e3, c', h1, h2⟩ := y
        subst e3
        rw [hc'] at h1
        cases h1
        subst h2
        exact ⟨F2, Stp.refl k2, .str _⟩
  | _ => cases hg
theorem pi_rngD {p : Pos} (hg : Gl X "range") (hm : X.mg "range" = none) (he : DE X C e g) (hs : starEach [e] X.env = [(false, eval e X.env)] := by rfl) (hs2 : starEach (e :: []) X.env = (false, eval e X.env) :: starEach [] X.env := by rfl) : PI X tg (.Call (.Name "range" p) [e] [] pos) (tI C (rngI g)) :=
  PI.imp (pi_range1 hg hm (da_cons he da_nil hs2) hs) fun σ H R h => by
    obtain ⟨ρ, γ, F, ds, γ', se, hg, q⟩ := h
    obtain ⟨⟨x, γ1⟩, e1, hg⟩ := bnd hg
    cases x with
    | int n =>
      simp only at hg
      split at hg
      · rename_i hz
        have hA : consA g nilA ρ γ = some ([.int n], γ1) := by
          unfold consA
          rw [e1]
          rfl
        cases hg
        refine ⟨ρ, γ, F, _, _, se, hA, fun vs F' H' st dr al => ?_⟩
        · cases al with
          | cons dv al =>
          cases al
          cases dv
          refine ⟨n, rfl, by omega, by omega, q F' H' _ st dr fun F2 H2 k k2 i => ⟨fun hi => ?_, fun d hd => ?_⟩⟩
          · show n.toNat ≤ i
            simpa using hi
          · rw [List.getElem?_map] at hd
            obtain ⟨c, hc, e2⟩ := Option.map_eq_some_iff.mp hd
            subst e2
            obtain ⟨hl, hv⟩ := List.getElem?_eq_some_iff.mp hc
            have ei : c = i := by
              rw [List.getElem_range] at hv
              exact hv.symm
            subst ei
            refine ⟨by rw [List.length_range] at hl; exact hl, fun x H' y => ?_⟩
            obtain ⟨e3, e4⟩ := y
            subst e3 e4
            rw [Int.zero_add]
            exact ⟨F2, Stp.refl k2, .int _⟩
      · cases hg
    | _ => cases hg
theorem pi_enuD {p tpos : Pos} {elts : List Expr} {kk : Nat} (hg : Gl X "enumerate") (hm : X.mg "enumerate" = none) (he : DE X C e g) (hs : starEach [e] X.env = [(false, eval e X.env)] := by rfl) (hs2 : starEach (e :: []) X.env = (false, eval e X.env) :: starEach [] X.env := by rfl) :
    PI X (.Tuple elts kk tpos) (.Call (.Name "enumerate" p) [e] [] pos) (tI C (enuI g)) :=
  PI.imp (pi_enum hg hm (da_cons he da_nil hs2) hs) fun σ H R h => by
    obtain ⟨ρ, γ, F, ds, γ', se, hg, q⟩ := h
    obtain ⟨⟨x, γ1⟩, e1, hg⟩ := bnd hg
    cases x with
    | list zs =>
      have hA : consA g nilA ρ γ = some ([.list zs], γ1) := by
        unfold consA
        rw [e1]
        rfl
      cases hg
      refine ⟨ρ, γ, F, _, _, se, hA, fun vs F' H' st dr al => ?_⟩
      · cases al with
        | cons dv al =>
        cases al
        cases dv with
        | @lst a xs _ eF al =>
        have eH := st.fh _ _ eF
        refine ⟨_, _, rfl, SqL.of eH, q F' H' _ st dr fun F2 H2 k k2 i => ?_⟩
        have eH2 := k2 _ _ (k _ _ eF)
        have ll := al.len
        refine ⟨fun hi => ⟨_, SqL.of eH2, ?_⟩, fun d hd => ?_⟩
        · rw [ll]
          simpa [enumD] using hi
        · unfold enumD at hd
          obtain ⟨c, hc, e5⟩ : ∃ c, zs[i]? = some c ∧ d = .tuple [.int (i : Int), c] := by
            rw [List.getElem?_zipWith] at hd
            have hlt : i < zs.length := by
              cases z : zs[i]? with
              | none => rw [z] at hd; simp at hd
              | some c => exact (List.getElem?_eq_some_iff.mp z).1
            rw [List.getElem?_range hlt, List.getElem?_eq_getElem hlt] at hd
            exact ⟨_, List.getElem?_eq_getElem hlt, by simpa using hd.symm⟩
          subst e5
          obtain ⟨v, hv, dv⟩ := (al.up k).get hc
          refine ⟨⟨_, v, SqL.of eH2, hv⟩, fun x H' y => ?_⟩
          obtain ⟨T, w, e3, hT, e4, hw⟩ := y
          subst e3 e4
          have e6 := hw _ (SqL.of eH2)
          rw [hv] at e6
          cases e6
          exact ⟨_, Stp.new k2 hT, .tup upd_same (.cons (.int _) (.cons (dv.up (same_new (k2.free hT))) .nil))⟩
    | _ => cases hg
theorem pi_zipD {e2 : Expr} {g2 : GE} {p tpos : Pos} {elts : List Expr} {kk : Nat} (hg : Gl X "zip") (hm : X.mg "zip" = none) (he : DE X C e g) (he2 : DE X C e2 g2)
    (hs : starEach [e, e2] X.env = (false, eval e X.env) :: starEach [e2] X.env := by rfl) (hpl : (backTo pos (starEach [e2] X.env)).any (·.1) = false := by rfl)
    (hs3 : starEach (e2 :: []) X.env = (false, eval e2 X.env) :: starEach [] X.env := by rfl) :
    PI X (.Tuple elts kk tpos) (.Call (.Name "zip" p) [e, e2] [] pos) (tI C (zipI g g2)) :=
  PI.imp (RZ.pi_zipA hg hm (da_cons he (da_cons he2 da_nil hs3) hs) hs hpl) fun σ H R h => by
    obtain ⟨ρ, γ, F, ds, γ', se, hg, q⟩ := h
    obtain ⟨⟨x, γ1⟩, h1, hg⟩ := bnd hg
    obtain ⟨⟨y, γ2⟩, h2, hg⟩ := bnd hg
    have hA : consA g (consA g2 nilA) ρ γ = some ([x, y], γ2) := by
      unfold consA
      rw [h1]
      show ((consA g2 nilA) ρ γ1).bind _ = _
      unfold consA
      rw [h2]
      rfl
    have pick : ∀ {zs ws : List D} {i : Nat} {d : D}, (zipD zs ws)[i]? = some d → ∃ a b, zs[i]? = some a ∧ ws[i]? = some b ∧ d = .tuple [a, b] := fun {zs ws i d} hd => by
      unfold zipD at hd
      rw [List.getElem?_zipWith] at hd
      cases z1 : zs[i]? with
      | none => rw [z1] at hd; simp at hd
      | some a =>
        cases z2 : ws[i]? with
        | none => rw [z1, z2] at hd; simp at hd
        | some b =>
          rw [z1, z2] at hd
          exact ⟨a, b, rfl, rfl, by simpa using hd.symm⟩
    simp only at hg
    split at hg
    · cases hg
      refine ⟨ρ, γ, F, _, _, se, hA, fun vs F' H' st dr al => ?_⟩
      cases al with
      | cons dv al =>
      cases al with
      | cons dv2 al =>
      cases al
      cases dv with
      | lst eF al =>
      cases dv2 with
      | lst eF2 al2 =>
      refine ⟨_, _, _, _, rfl, .inl ⟨SqL.of (st.fh _ _ eF), SqL.of (st.fh _ _ eF2), q F' H' _ st dr fun F2 H2 k k2 i => ?_⟩⟩
      have eH := k2 _ _ (k _ _ eF)
      have eH2 := k2 _ _ (k _ _ eF2)
      have l1 := al.len
      have l2 := al2.len
      refine ⟨fun hi => ⟨_, _, SqL.of eH, SqL.of eH2, ?_⟩, fun d hd => ?_⟩
      · rw [l1, l2]
        rw [zipD, List.length_zipWith] at hi
        omega
      · obtain ⟨a, b, ha, hb, e5⟩ := pick hd
        subst e5
        obtain ⟨v, hv, dv⟩ := (al.up k).get ha
        obtain ⟨w, hw, dw⟩ := (al2.up k).get hb
        refine ⟨⟨_, _, v, w, SqL.of eH, SqL.of eH2, hv, hw⟩, fun x H' y => ?_⟩
        obtain ⟨T, v', w', e3, hT, e4, hv', hw'⟩ := y
        subst e3 e4
        have e6 := hv' _ (SqL.of eH)
        rw [hv] at e6
        cases e6
        have e7 := hw' _ (SqL.of eH2)
        rw [hw] at e7
        cases e7
        have sn := same_new (o := HO.tup [v, w]) (k2.free hT)
        exact ⟨_, Stp.new k2 hT, .tup upd_same (.cons (dv.up sn) (.cons (dw.up sn) .nil))⟩
    · cases hg
      refine ⟨ρ, γ, F, _, _, se, hA, fun vs F' H' st dr al => ?_⟩
      cases al with
      | cons dv al =>
      cases al with
      | cons dv2 al =>
      cases al
      cases dv with
      | tup eF al =>
      cases dv2 with
      | tup eF2 al2 =>
      refine ⟨_, _, _, _, rfl, .inr ⟨SqT.of (st.fh _ _ eF), SqT.of (st.fh _ _ eF2), q F' H' _ st dr fun F2 H2 k k2 i => ?_⟩⟩
      have eH := k2 _ _ (k _ _ eF)
      have eH2 := k2 _ _ (k _ _ eF2)
      have l1 := al.len
      have l2 := al2.len
      refine ⟨fun hi => ⟨_, _, SqT.of eH, SqT.of eH2, ?_⟩, fun d hd => ?_⟩
      · rw [l1, l2]
        rw [zipD, List.length_zipWith] at hi
        omega
      · obtain ⟨a, b, ha, hb, e5⟩ := pick hd
        subst e5
        obtain ⟨v, hv, dv⟩ := (al.up k).get ha
        obtain ⟨w, hw, dw⟩ := (al2.up k).get hb
        refine ⟨⟨_, _, v, w, SqT.of eH, SqT.of eH2, hv, hw⟩, fun x H' y => ?_⟩
        obtain ⟨T, v', w', e3, hT, e4, hv', hw'⟩ := y
        subst e3 e4
        have e6 := hv' _ (SqT.of eH)
        rw [hv] at e6
        cases e6
        have e7 := hw' _ (SqT.of eH2)
        rw [hw] at e7
        cases e7
        have sn := same_new (o := HO.tup [v, w]) (k2.free hT)
        exact ⟨_, Stp.new k2 hT, .tup upd_same (.cons (dv.up sn) (.cons (dw.up sn) .nil))⟩
    · cases hg
end

/-! ### comprehensions -/
def yesT : GT := fun _ γ => some (true, γ)
def compL (tg : GTg) (t : GT) (el : GE) : List D → Env → G → Option (List D × G)
  | [], _, γ => some ([], γ)
  | d :: ds, ρ, γ => (tg d ρ).bind fun ρ1 => (t ρ1 γ).bind fun b => match b.1 with
    | true => (el ρ1 b.2).bind fun y => (compL tg t el ds ρ y.2).bind fun r => some (y.1 :: r.1, r.2)
    | false => compL tg t el ds ρ b.2
def compN (it : GA) (tg : GTg) (t : GT) (el : GE) (vs : List Nat) : GA := fun ρ γ => (it ρ γ).bind fun x => if x.1.length ≤ LINE then compL tg t el x.1 (wipeR ρ vs) x.2 else none
theorem PTs.imp {X : Cx} {e : List Expr} {t t' : TT} (h : PTs X e t) (w : ∀ σ H Q, t' σ H Q → t σ H Q) : PTs X e t' := ⟨fun pins s σ H Q I q => h.run pins s σ H Q I (w σ H Q q)⟩
theorem dts_nil {X : Cx} {C : Cfg} : PTs X [] (tT C yesT) := PTs.imp pts_nil fun σ H Q q => by
  obtain ⟨ρ, γ, F, b, γ', se, hg, q⟩ := q
  cases hg
  exact q F H (Stp.refl se.fh) se.dr
theorem dts_one {X : Cx} {C : Cfg} {c : Expr} {g : GT} (h : DT X C c g) : PTs X [c] (tT C g) := pts_one h
theorem comp_read {C : Cfg} {it : GA} {tg : GTg} {t : GT} {el : GE} {vs is : List Nat} {σ : L2.St} {H : Hp} {Q : VK} {wi : TI} {g : TG} {tt : TT} {te : TE} (hwi : ∀ σ H R, tIr C it σ H R → wi σ H R) (hg : ∀ x v σ H Q, tG (C.avoid x) tg is v σ H Q → g v σ H Q) (htt : ∀ x σ H Q, tT (C.avoid x) t σ H Q → tt σ H Q) (hte : ∀ x σ H Q, tD (C.avoid x) el σ H Q → te σ H Q)
    (his : ∀ i ∈ is, i ∈ vs) (hvs : ∀ i ∈ vs, OffD C i) (q : tN C (compN it tg t el vs) σ H Q) : tLc wi g tt te vs σ H Q := by
  obtain ⟨ρ, γ, F, out, γ', se, hgo, q⟩ := q
  obtain ⟨⟨ds, γ1⟩, e1, hgo⟩ := bnd hgo
  split at hgo
  rotate_left 1
  · cases hgo
  rename_i hline
  refine hwi _ _ _ ⟨ρ, γ, F, ds, γ1, se, e1, fun F1 H1 J st1 dr1 ok D hD => ?_⟩
  have hD0 : H D = none := by
    cases z : H D with
    | none => rfl
    | some o => exact absurd hD (st1.dom D (by rw [z]; simp))
  have se1 := se.step st1 dr1
  have h00 : C.H0 D = none := by
    cases z : C.H0 D with
    | none => rfl
    | some o => exact absurd hD0 (se.ent.dom D (by rw [z]; simp))
  have fD1 : F1 D = none := st1.fh.free hD
  -- W: what is made so far, what is left
  refine ⟨fun i m Hc => ∃ Fc γc acc ads rest, m = ds.length - i ∧ i ≤ ds.length ∧ SE (C.avoid D) (wipeR ρ vs) γc (L2.wipe σ vs) Fc Hc ∧ Fc D = none ∧ Hc D = some (.lst acc) ∧ DvAll Fc acc ads ∧ ads.length ≤ i ∧ compL tg t el (ds.drop i) (wipeR ρ vs) γc = some (rest, γ') ∧ ads ++ rest = out ∧ Stp C.dr F1 H1 Fc Hc,
    ⟨ds.length, F1, γ1, [], [], out, rfl, Nat.zero_le _, (se1.wipe hvs).enter hD, fD1, upd_same, .nil, Nat.zero_le _, by rw [List.drop_zero]; exact hgo, rfl, Stp.lay st1.fh hD⟩, ?_⟩
  rintro i m Hc ⟨Fc, γc, acc, ads, rest, rfl, hi, sec, fD, aD, al, hle, hc, hout, stc⟩
  have okc := ok Fc Hc ⟨stc.ff, stc.keep⟩ sec.fh i
  by_cases hlt : i < ds.length
  · right
    have hdi : ds[i]? = some ds[i] := List.getElem?_eq_getElem hlt
    obtain ⟨go, yl⟩ := okc.2 _ hdi
    have hdrop : ds.drop i = ds[i] :: ds.drop (i + 1) := List.drop_eq_getElem_cons hlt
    rw [hdrop] at hc
    obtain ⟨ρ1, g1, hc⟩ := bnd hc
    obtain ⟨⟨b, γ2⟩, g2, hc⟩ := bnd hc
    refine ⟨go, fun H' => ∃ m', m' < ds.length - i ∧ ∃ Fc γc acc ads rest, m' = ds.length - (i + 1) ∧ i + 1 ≤ ds.length ∧ SE (C.avoid D) (wipeR ρ vs) γc (L2.wipe σ vs) Fc H' ∧ Fc D = none ∧ H' D = some (.lst acc) ∧ DvAll Fc acc ads ∧ ads.length ≤ i + 1 ∧ compL tg t el (ds.drop (i + 1)) (wipeR ρ vs) γc = some (rest, γ') ∧ ads ++ rest = out ∧ Stp C.dr F1 H1 Fc H',
      fun _ h => h, fun x Hy hy => ?_⟩
    obtain ⟨F2, st2, dv2⟩ := yl x Hy hy
    have se2 := sec.stq st2
    refine hg D _ _ _ _ ⟨_, γc, F2, _, ρ1, se2, dv2, g1, fun σ2 se3 hw => ⟨?_, ?_⟩⟩
    · rw [hw vs his]
      refine List.ext_getElem? fun j => ?_
      rw [wipe_get]
      by_cases hj : j ∈ vs
      · rw [if_pos hj, wipe_get, if_pos hj]
        cases σ[j]? <;> rfl
      · rw [if_neg hj]
    refine htt D _ _ _ ⟨ρ1, γc, F2, b, γ2, se3, g2, fun F3 H3 st3 dr3 => ?_⟩
    have seW : SE (C.avoid D) (wipeR ρ vs) γ2 (L2.wipe σ vs) F3 H3 := (se2.step st3 dr3)
    have st13 : Stp C.dr Fc Hc F3 H3 := (st2.up).trans st3
    have nd : ¬ isDr C.dr D := se.nodr h00
    have aD3 : H3 D = some (.lst acc) := st13.keep D _ aD nd
    have fD3 : F3 D = none := st13.old D fD (by rw [aD]; simp)
    cases b with
    | false =>
      show ite (false = true) _ _
      rw [if_neg Bool.false_ne_true]
      exact ⟨ds.length - (i + 1), by omega, F3, γ2, acc, ads, rest, rfl, hlt, seW, fD3, aD3, al.up st13.ff, Nat.le_succ_of_le hle, hc, hout, stc.trans st13⟩
    | true =>
      show ite (true = true) _ _
      rw [if_pos rfl]
      obtain ⟨⟨y, γ3⟩, g3, hc⟩ := bnd hc
      obtain ⟨⟨r, γ4⟩, g4, hc⟩ := bnd hc
      cases hc
      refine hte D _ _ _ ⟨ρ1, γ2, F3, y, γ3, se3.step st3 dr3, g3, fun v F4 H4 st4 dr4 dv4 => ?_⟩
      have aD4 : H4 D = some (.lst acc) := st4.keep D _ aD3 nd
      have fD4 : F4 D = none := st4.old D fD3 (by rw [aD3]; simp)
      refine ⟨acc, aD4, ?_, ds.length - (i + 1), by omega, F4, γ3, acc ++ [v], ads ++ [y], r, rfl, hlt, ?_, fD4, upd_same, ?_, ?_, g4, ?_, ?_⟩
      · have := al.len
        have hl2 : ds.length ≤ LINE := hline
        exact line_lt (by omega)
      · exact ((seW.step st4 dr4).chg fD4 h00 (by rw [aD4]; simp))
      · exact (al.up (st13.ff.trans st4.ff)).snoc dv4
      · rw [List.length_append, List.length_singleton]
        omega
      · rw [List.append_assoc]
        exact hout
      · exact ((stc.trans st13).trans st4).chg hD fD4
  · left
    have ei : i = ds.length := by omega
    subst ei
    rw [List.drop_length] at hc
    cases hc
    rw [List.append_nil] at hout
    subst hout
    exact ⟨okc.1 (Nat.le_refl _), q D acc Fc Hc (st1.trans stc) sec.dr hD0 fD aD al⟩
section
variable {X : Cx} {C : Cfg}
theorem ne_lc {elt tge iter : Expr} {ifs : List Expr} {scope : Scope} {own : List (Str × Nat)} {is : List Nat} {pos : Pos} {it : GA} {tg : GTg} {t : GT} {el : GE} (hc : X.calm = true) (hN : X.N.Nodup) (hi : PI X tge iter (tIr C it)) (ok : BlkOk X.N X.env.scope scope own) (his : ∀ i ∈ is, i ∈ own.map (·.2)) (hvs : ∀ i ∈ own.map (·.2), OffD C i)
    (hg : ∀ (x : Addr) (s : Shared) (H : Hp) (C0 : Addr) (cl : List (Str × Addr)) (fp : List Addr), PG (X.blk s H scope (compEnvC scope cl C0 X.env) fp) tge (tG (C.avoid x) tg is)) (ht : ∀ (x : Addr) (s : Shared) (H : Hp) (C0 : Addr) (cl : List (Str × Addr)) (fp : List Addr), PTs (X.blk s H scope (compEnvC scope cl C0 X.env) fp) ifs (tT (C.avoid x) t))
    (he : ∀ (x : Addr) (s : Shared) (H : Hp) (C0 : Addr) (cl : List (Str × Addr)) (fp : List Addr), DE (X.blk s H scope (compEnvC scope cl C0 X.env) fp) (C.avoid x) elt el) (hs : ∀ x, foldedSetIterable iter X.env x = pure x := by intro _; rfl) :
    NE X C (.ListComp elt [⟨tge, iter, ifs, 0⟩] scope pos) (compN it tg t el (own.map (·.2))) :=
  PE.imp (pe_lc (wi := tIr C it) (g := fun v σ H Q => ∃ x, tG (C.avoid x) tg is v σ H Q) (tt := fun σ H Q => ∃ x, tT (C.avoid x) t σ H Q) (te := fun σ H Q => ∃ x, tD (C.avoid x) el σ H Q) hc hN hi ok
    (fun s H C0 cl fp => ⟨fun pins s1 σ H1 v u Q I r q => q.elim fun x q => (hg x s H C0 cl fp).run pins s1 σ H1 v u Q I r q⟩) (fun s H C0 cl fp => ⟨fun pins s1 σ H1 Q I q => q.elim fun x q => (ht x s H C0 cl fp).run pins s1 σ H1 Q I q⟩)
    (fun s H C0 cl fp => ⟨fun pins s1 σ H1 Q I q => q.elim fun x q => (he x s H C0 cl fp).run pins s1 σ H1 Q I q⟩) hs) fun σ H Q q =>
    comp_read (fun _ _ _ h => h) (fun x _ _ _ _ h => ⟨x, h⟩) (fun x _ _ _ h => ⟨x, h⟩) (fun x _ _ _ h => ⟨x, h⟩) his hvs q
/-- name = [..] on one line -/
theorem ps_lc {i : Nat} {y : Str} {py : Pos} {elt tge iter : Expr} {ifs : List Expr} {scope : Scope} {own : List (Str × Nat)} {is : List Nat} {pos spos : Pos} {it : GA} {tg : GTg} {t : GT} {el : GE} (hc : X.calm = true) (hN : X.N.Nodup) (hy : X.N[i]? = some y) (hyl : X.env.scope.names.lookup y = some .local)
    (hsw : swapsWith (.ListComp elt [⟨tge, iter, ifs, 0⟩] scope pos) (some (.Name y py)) spos.line X.env = pure true) (hi : PI X tge iter (tIr C it)) (ok : BlkOk X.N X.env.scope scope own) (his : ∀ i ∈ is, i ∈ own.map (·.2)) (hvs : ∀ i ∈ own.map (·.2), OffD C i)
    (hg : ∀ (x : Addr) (s : Shared) (H : Hp) (C0 : Addr) (cl : List (Str × Addr)) (fp : List Addr), PG (X.blk s H scope (compEnvC scope cl C0 X.env) fp) tge (tG (C.avoid x) tg is)) (ht : ∀ (x : Addr) (s : Shared) (H : Hp) (C0 : Addr) (cl : List (Str × Addr)) (fp : List Addr), PTs (X.blk s H scope (compEnvC scope cl C0 X.env) fp) ifs (tT (C.avoid x) t))
    (he : ∀ (x : Addr) (s : Shared) (H : Hp) (C0 : Addr) (cl : List (Str × Addr)) (fp : List Addr), DE (X.blk s H scope (compEnvC scope cl C0 X.env) fp) (C.avoid x) elt el) (hs : ∀ x, foldedSetIterable iter X.env x = pure x := by intro _; rfl) :
    PS X (.Assign [.Name y py] (.ListComp elt [⟨tge, iter, ifs, 0⟩] scope pos) spos) (tAsg (tN C (compN it tg t el (own.map (·.2)))) (gName i)) :=
  PS.imp (ps_setLc (wi := tIr C it) (g := fun v σ H Q => ∃ x, tG (C.avoid x) tg is v σ H Q) (tt := fun σ H Q => ∃ x, tT (C.avoid x) t σ H Q) (te := fun σ H Q => ∃ x, tD (C.avoid x) el σ H Q) hc hN hy hyl hsw hi ok
    (fun s H C0 cl fp => ⟨fun pins s1 σ H1 v u Q I r q => q.elim fun x q => (hg x s H C0 cl fp).run pins s1 σ H1 v u Q I r q⟩) (fun s H C0 cl fp => ⟨fun pins s1 σ H1 Q I q => q.elim fun x q => (ht x s H C0 cl fp).run pins s1 σ H1 Q I q⟩)
    (fun s H C0 cl fp => ⟨fun pins s1 σ H1 Q I q => q.elim fun x q => (he x s H C0 cl fp).run pins s1 σ H1 Q I q⟩) hs) fun E σ H q =>
    comp_read (fun _ _ _ h => h) (fun x _ _ _ _ h => ⟨x, h⟩) (fun x _ _ _ h => ⟨x, h⟩) (fun x _ _ _ h => ⟨x, h⟩) his hvs q
end
end TK
end
section
set_option Elab.async false
set_option linter.all false
set_option maxRecDepth 100000
set_option maxHeartbeats 4000000
/-! Statements, loops, defs, as plain functions. -/
namespace TK
open PySem PySem.Spec PyProof.Rows L2

inductive Out where
  | nx (ρ : Env)
  | rt (d : D)
abbrev GS := Env → G → Option (Out × G)
def FinO (C : Cfg) (o : Out) (γ : G) (F : Hp) (E : Ends) : Prop := match o with
  | .nx ρ => ∀ σ F' H', Same F F' → SE C ρ γ σ F' H' → E.nx σ H'
  | .rt d => ∀ v F' H', Same F F' → Stp C.dr C.F0 C.H0 F' H' → DRo C.dr γ F' H' → Dv F' v d → E.rt v H'
theorem FinO.mono {C : Cfg} {o : Out} {γ : G} {F F2 : Hp} {E : Ends} (h : FinO C o γ F E) (k : Same F F2) : FinO C o γ F2 E := by
  cases o with
  | nx ρ => exact fun σ F' H' k2 => h σ F' H' (k.trans k2)
  | rt d => exact fun v F' H' k2 => h v F' H' (k.trans k2)
def tS (C : Cfg) (g : GS) : TS := fun E σ H => ∃ ρ γ F o γ', SE C ρ γ σ F H ∧ g ρ γ = some (o, γ') ∧ FinO C o γ' F E
abbrev DS (X : Cx) (C : Cfg) (s : Stmt) (g : GS) : Prop := PS X s (tS C g)
abbrev DSs (X : Cx) (C : Cfg) (s : List Stmt) (g : GS) : Prop := PSs X s (tS C g)

def nextS : GS := fun ρ γ => some (.nx ρ, γ)
def seqS (a b : GS) : GS := fun ρ γ => (a ρ γ).bind fun x => match x.1 with
  | .nx ρ' => b ρ' x.2
  | .rt d => some (.rt d, x.2)
def failS : GS := fun _ _ => none
def dropS (a : GE) : GS := fun ρ γ => (a ρ γ).bind fun x => some (.nx ρ, x.2)
def setS (i : Nat) (a : GE) : GS := fun ρ γ => (a ρ γ).bind fun x => some (.nx (ρ.set i (some x.1)), x.2)
def ownS (i : Nat) (a : GA) : GS := fun ρ γ => (a ρ γ).bind fun x => some (.nx (ρ.set i (some (.list x.1))), x.2)
def tgtS (tg : GTg) (a : GE) : GS := fun ρ γ => (a ρ γ).bind fun x => (tg x.1 ρ).bind fun ρ' => some (.nx ρ', x.2)
def dicS (i : Nat) : GS := fun ρ γ => some (.nx (ρ.set i (some (.dict []))), γ)
def retS (a : GE) : GS := fun ρ γ => (a ρ γ).bind fun x => some (.rt x.1, x.2)
def ifS (c : GT) (a b : GS) : GS := fun ρ γ => (c ρ γ).bind fun x => if x.1 then a ρ x.2 else b ρ x.2
def ownL (ρ : Env) (i : Nat) : Option (List D) := match ρ[i]? with
  | some (some (.list ds)) => some ds
  | _ => none
def appS (i : Nat) (a : GE) : GS := fun ρ γ => (ownL ρ i).bind fun ds => (a ρ γ).bind fun x => if ds.length < LINE then some (.nx (ρ.set i (some (.list (ds ++ [x.1])))), x.2) else none
def extS (i : Nat) (a : GE) : GS := fun ρ γ => (ownL ρ i).bind fun ds => (a ρ γ).bind fun x => (itemsD x.1).bind fun es => if ds.length + es.length < LINE then some (.nx (ρ.set i (some (.list (ds ++ es)))), x.2) else none
def stxS (i : Nat) (k a : GE) : GS := fun ρ γ => (a ρ γ).bind fun x => (ownL ρ i).bind fun ds => (k ρ x.2).bind fun y => match y.1 with
  | .int n => (ixN ds.length n).bind fun j => some (.nx (ρ.set i (some (.list (ds.set j x.1)))), y.2)
  | _ => none
def putKs (x : Str) (kv : List (D × D)) : List (D × D) := if hasK x kv then kv else kv ++ [(.str x, .none)]
def putS (i : Nat) (k a : GE) : GS := fun ρ γ => (a ρ γ).bind fun x => (k ρ x.2).bind fun y => match ρ[i]?, y.1 with
  | some (some (.dict kv)), .str s => if kv.length < LINE then some (.nx (ρ.set i (some (.dict (putKs s kv)))), y.2) else none
  | _, _ => none
def forL (tg : GTg) (b : GS) : List D → GS
  | [], ρ, γ => some (.nx ρ, γ)
  | d :: ds, ρ, γ => (tg d ρ).bind fun ρ1 => (b ρ1 γ).bind fun r => match r.1 with
    | .nx ρ2 => forL tg b ds ρ2 r.2
    | .rt z => some (.rt z, r.2)
def forS (it : GA) (tg : GTg) (b : GS) : GS := fun ρ γ => (it ρ γ).bind fun x => forL tg b x.1 ρ x.2
def whlL (c : GT) (b : GS) : Nat → GS
  | 0, _, _ => none
  | n + 1, ρ, γ => (c ρ γ).bind fun x => if x.1 then (b ρ x.2).bind fun r => match r.1 with
    | .nx ρ2 => whlL c b n ρ2 r.2
    | .rt z => some (.rt z, r.2)
    else some (.nx ρ, x.2)
def whlS (c : GT) (b : GS) : GS := whlL c b 1000

section
variable {X : Cx} {C : Cfg} {s : Stmt} {rest : List Stmt} {g u : GS} {e : Expr} {ge : GE} {ga : GA} {pos : Pos} {i : Nat}
theorem dss_nil : DSs X C [] nextS := PSs.imp pss_nil fun E σ H q => by
  obtain ⟨ρ, γ, F, o, γ', se, hg, q⟩ := q
  cases hg
  exact q σ F H (Same.refl F) se
theorem dss_cons (h1 : DS X C s g) (h2 : DSs X C rest u) : DSs X C (s :: rest) (seqS g u) := PSs.imp (pss_cons h1 h2) fun E σ H q => by
  obtain ⟨ρ, γ, F, o, γ', se, hg, q⟩ := q
  obtain ⟨⟨o1, γ1⟩, e1, hg⟩ := bnd hg
  refine ⟨ρ, γ, F, o1, γ1, se, e1, ?_⟩
  cases o1 with
  | nx ρ1 => exact fun σ' F' H' k se' => ⟨ρ1, γ1, F', o, γ', se', hg, q.mono k⟩
  | rt d =>
    cases hg
    exact q
theorem dss_one (h1 : DS X C s g) : DSs X C [s] g := pss_one h1
theorem ds_never : DS X C s failS := PS.imp ps_never fun E σ H q => by
  obtain ⟨ρ, γ, F, o, γ', se, hg, q⟩ := q
  cases hg
theorem ds_drop (h : PS X s (tDrop (tD C ge))) : DS X C s (dropS ge) := PS.imp h fun E σ H q => by
  obtain ⟨ρ, γ, F, o, γ', se, hg, q⟩ := q
  obtain ⟨⟨x, γ1⟩, e1, hg⟩ := bnd hg
  cases hg
  exact ⟨ρ, γ, F, x, _, se, e1, fun v F' H' st dr dv => q σ F' H' st.ff (se.step st dr)⟩
theorem ds_set (h : PS X s (tAsg (tD C ge) (gName i))) (hk : C.kd i = .pure) (hd : OffD C i) : DS X C s (setS i ge) := PS.imp h fun E σ H q => by
  obtain ⟨ρ, γ, F, o, γ', se, hg, q⟩ := q
  obtain ⟨⟨x, γ1⟩, e1, hg⟩ := bnd hg
  cases hg
  exact ⟨ρ, γ, F, x, _, se, e1, fun v F' H' st dr dv => q _ F' H' st.ff ((se.step st dr).put hk hd dv)⟩
theorem tN_frozen {σ : L2.St} {H : Hp} {Q : VK} (q : tD C (newE ga) σ H Q) : tN C ga σ H Q := by
  obtain ⟨ρ, γ, F, r, γ', se, hg, q⟩ := q
  obtain ⟨⟨x, γ1⟩, e1, hg⟩ := bnd hg
  cases hg
  refine ⟨ρ, γ, F, x, _, se, e1, fun p xs F1 H1 st dr hp hf hl al => ?_⟩
  refine q (.ref p) _ _ (st.freeze hp hf hl) ?_ (.lst upd_same (al.up (same_new hf)))
  cases hC : C.dr with
  | none => trivial
  | some pq =>
    obtain ⟨p', q'⟩ := pq
    rw [hC] at dr
    have d0 := se.dr
    rw [hC] at d0
    obtain ⟨n, d1, d2, d3, d4⟩ := dr
    obtain ⟨_, _, _, z3, z4⟩ := d0
    exact ⟨n, by rw [upd_ne (ne_of_none z3 hp)]; exact d1, by rw [upd_ne (ne_of_none z4 hp)]; exact d2, d3, d4⟩
/-- name = a new list, frozen at once -/
theorem ds_setN (h : PS X s (tAsg (tN C ga) (gName i))) (hk : C.kd i = .pure) (hd : OffD C i) : DS X C s (setS i (newE ga)) :=
  ds_set (PS.imp h fun E σ H q => tN_frozen q) hk hd
/-- name = a new list, the name's own -/
theorem ds_own (h : PS X s (tAsg (tN C ga) (gName i))) (hk : C.kd i = .lst) (hd : OffD C i) (hav : C.av = fun _ => False) : DS X C s (ownS i ga) := PS.imp h fun E σ H q => by
  obtain ⟨ρ, γ, F, o, γ', se, hg, q⟩ := q
  obtain ⟨⟨x, γ1⟩, e1, hg⟩ := bnd hg
  cases hg
  exact ⟨ρ, γ, F, x, _, se, e1, fun a xs F' H' st dr ha hf hl al => q _ F' H' st.ff (se.own st dr hk hd (fun b z => by rw [hav] at z; exact z.elim) ha hf hl al)⟩
theorem ds_tgt {tg : GTg} {is : List Nat} (h : PS X s (tAsg (tD C ge) (tG C tg is))) : DS X C s (tgtS tg ge) := PS.imp h fun E σ H q => by
  obtain ⟨ρ, γ, F, o, γ', se, hg, q⟩ := q
  obtain ⟨⟨x, γ1⟩, e1, hg⟩ := bnd hg
  obtain ⟨ρ', e2, hg⟩ := bnd hg
  cases hg
  exact ⟨ρ, γ, F, x, _, se, e1, fun v F' H' st dr dv => ⟨ρ, γ1, F', x, ρ', se.step st dr, dv, e2, fun σ' se' _ => q _ F' H' st.ff se'⟩⟩
theorem ds_ret (h : PS X s (tRet (tD C ge))) : DS X C s (retS ge) := PS.imp h fun E σ H q => by
  obtain ⟨ρ, γ, F, o, γ', se, hg, q⟩ := q
  obtain ⟨⟨x, γ1⟩, e1, hg⟩ := bnd hg
  cases hg
  exact ⟨ρ, γ, F, x, _, se, e1, fun v F' H' st dr dv => q v F' H' st.ff (se.ent.trans st) dr dv⟩
/-- the own list of a slot is handed back -/
theorem ds_retown (h : PS X s (tRet (tVar i))) (hk : C.kd i = .lst ∨ C.kd i = .dic) : DS X C s (retS (varE i)) := PS.imp h fun E σ H q => by
  obtain ⟨ρ, γ, F, o, γ', se, hg, q⟩ := q
  obtain ⟨⟨x, γ1⟩, e1, hg⟩ := bnd hg
  cases hg
  have hγ : γ1 = γ := (varE_un e1).2
  have e1' := (varE_un e1).1
  subst hγ
  obtain ⟨fp, h1, h2, h3⟩ := se.sl
  obtain ⟨v, hv, ok⟩ := h1 i x e1'
  refine ⟨v, hv, ?_⟩
  have fin : ∀ (a : Addr) (o : HO), a ∈ fp i → H a = some o → Same F (upd F a o) ∧ Stp C.dr C.F0 C.H0 (upd F a o) H ∧ DRo C.dr γ1 (upd F a o) H := fun a o m ho => by
    obtain ⟨n1, n2, n3, n4⟩ := h2 i a m
    have nd := se.nodr n2
    refine ⟨same_new n1, se.ent.freeze n2 n1 ho, ?_⟩
    have dr := se.dr
    cases hC : C.dr with
    | none => trivial
    | some pq =>
      obtain ⟨p', q'⟩ := pq
      rw [hC] at dr nd
      obtain ⟨n, d1, d2, d3, d4⟩ := dr
      exact ⟨n, by rw [upd_ne fun z => nd (.inl z.symm)]; exact d1, by rw [upd_ne fun z => nd (.inr z.symm)]; exact d2, d3, d4⟩
  rcases hk with hk | hk
  · rw [hk] at ok
    obtain ⟨a, xs, ds, rfl, rfl, o3, o4, o5⟩ := ok
    obtain ⟨k1, k2, k3⟩ := fin a _ (by rw [o3]; simp) o4
    exact q _ _ H k1 k2 k3 (.lst upd_same (o5.up k1))
  · rw [hk] at ok
    obtain ⟨a, xs, ds, rfl, rfl, o3, o4, o5⟩ := ok
    obtain ⟨k1, k2, k3⟩ := fin a _ (by rw [o3]; simp) o4
    exact q _ _ H k1 k2 k3 (.dic upd_same o5)
theorem ds_if {c : Expr} {a b : List Stmt} {gc : GT} {gA gB : GS} (hc : DT X C c gc) (ha : DSs X C a gA) (hb : DSs X C b gB) : DS X C (.If c a b pos) (ifS gc gA gB) := PS.imp (ps_if hc ha hb) fun E σ H q => by
  obtain ⟨ρ, γ, F, o, γ', se, hg, q⟩ := q
  obtain ⟨⟨x, γ1⟩, e1, hg⟩ := bnd hg
  refine ⟨ρ, γ, F, x, γ1, se, e1, fun F' H' st dr => ?_⟩
  cases x with
  | true =>
    show ite (true = true) _ _
    rw [if_pos rfl]
    exact ⟨ρ, γ1, F', o, γ', se.step st dr, hg, q.mono st.ff⟩
  | false =>
    show ite (false = true) _ _
    rw [if_neg Bool.false_ne_true]
    exact ⟨ρ, γ1, F', o, γ', se.step st dr, hg, q.mono st.ff⟩
theorem ownL_un {ρ : Env} {ds : List D} (h : ownL ρ i = some ds) : ρ[i]? = some (some (.list ds)) := by
  unfold ownL at h
  split at h
  · cases h
    assumption
  · cases h
theorem tyL {K : PySem.W.Frag} {a : Addr} {xs : List V} {H : Hp} (h : H a = some (.lst xs)) : tyV K "list" (.ref a) H := .inl ⟨rfl, xs, SqL.of h⟩
theorem tyDi {K : PySem.W.Frag} {a : Addr} {xs : List (Key × V)} {H : Hp} (h : H a = some (.dK xs)) : tyV K "dict" (.ref a) H := .inr (.inr (.inl ⟨rfl, .inl ⟨xs, h⟩⟩))
/-- x.append(e) for the slot's own list -/
theorem ds_app {y : Str} {py apos cpos : Pos} (hy : PE X (.Name y py) (tVar i)) (he : DE X C e ge) (hk : C.kd i = .lst)
    (hbase : attributeBase (.Name y py) "append" X.env (eval (.Name y py) X.env) = eval (.Name y py) X.env := by rfl)
    (hfew : ((backTo cpos (starEach (e :: []) X.env)).all (fun x => !x.1) && (backToKw cpos (keywordEach [] X.env)).all (fun x => x.1.isSome)
      && decide ((e :: []).length + ([] : List Keyword).length + (if ([] : List Keyword).isEmpty then 0 else 1) < 30)) = true := by rfl)
    (hline : (apos.endLine == cpos.line) = true := by rfl) (hs : starEach (e :: []) X.env = (false, eval e X.env) :: starEach [] X.env := by rfl) (hplain : (backTo cpos (starEach [] X.env)).any (·.1) = false := by rfl)
    (hsw : swapsWith (.Call (.Attribute (.Name y py) "append" apos) (e :: []) [] cpos) none pos.line X.env = pure false := by rfl) :
    DS X C (.Expr (.Call (.Attribute (.Name y py) "append" apos) (e :: []) [] cpos) pos) (appS i ge) :=
  PS.imp (ps_expr (pe_bm PySem.F.plainAttrs_list PySem.F.slot_list_append PySem.F.type_list_append mt_append hy (pa_cons he pa_nil hs) hbase hfew hline hs hplain) hsw) fun E σ H q => by
    obtain ⟨ρ, γ, F, o, γ', se, hg, q⟩ := q
    obtain ⟨ds, e0, hg⟩ := bnd hg
    obtain ⟨⟨x, γ1⟩, e1, hg⟩ := bnd hg
    split at hg
    · rename_i hz
      cases hg
      have e0 := ownL_un e0
      obtain ⟨a, xs, hv, ha, al, nd, _⟩ := se.mut hk e0
      refine ⟨.ref a, hv, tyL ha, ρ, γ, F, x, γ1, se, e1, fun v F' H' st dr dv => ?_⟩
      have se2 := se.step st dr
      obtain ⟨a2, xs2, hv2, ha2, al2, nd2, mk⟩ := se2.mut hk e0
      rw [hv] at hv2
      cases hv2
      exact ⟨a, xs2, v, rfl, rfl, ha2, by rw [al2.len]; exact line_lt hz, q σ F' _ st.ff (mk _ _ (al2.snoc dv))⟩
    · cases hg
theorem extend_list_tup (l : Addr) (items : Array Value) (n : Nat) (b : Addr) (dc : Option Addr) (sl : Array (Option Value)) (items2 : Array Value) (n2 : Nat) (hs0 : ¬(!items.isEmpty && Builtin.List.listTooLong (items.size + items2.size)) = true) (hs1 : items.size ≤ sizeLine) (hs2 : items.size + items2.size ≤ sizeLine + 1) :
    PySem.Meets (Builtin.«list.extend» ⟨[.ref l, .ref b], []⟩) (fun _ R s => s.heap.get? l = some { cls := .type "list", dict := none, data := .seq items n, slots := #[] } ∧ s.heap.get? b = some { cls := .type "tuple", dict := dc, data := .seq items2 n2, slots := sl } ∧ R (.ok (.ret Value.none)) { s with heap := s.heap.update l (Obj.mapSeq fun x => x ++ items2), toks := s.toks }) :=
  .of_wp fun prog w A R s h => by
    obtain ⟨hp, g, d, tk, os⟩ := s; obtain ⟨hl, hb, h⟩ := h; have f1 := AutoSeq1.idx_int; have f2 := AutoSeq1.sub_tuple_tuple; have f3 := AutoSeq1.sub_list_list; have f4 := AutoSeq1.sub_tuple_list; have f5 := AutoSeq1.sub_list_tuple;
    have hz' : (items ++ items2).size ≤ sizeLine + 1 := by rw [Array.size_append]; exact hs2
    wp_walk using (wpAny_updateSeq hl rfl (hz := hs1) (_hz' := hz')), AutoSeq1.wpAny_loadPart' hl, AutoSeq1.wpAny_loadPart' hb; exact ⟨_, rfl, h⟩
theorem mt_extendT : MtM X "list.extend" (fun x vs H Q => ∃ l b xs zs, x = .ref l ∧ vs = [.ref b] ∧ H l = some (.lst xs) ∧ H b = some (.tup zs) ∧ xs.length + zs.length ≤ sizeLine ∧ Q .non (upd H l (.lst (xs ++ zs)))) := by
  intro pins s σ H x vs v us Q I rx rv h
  obtain ⟨l, b, xs, zs, rfl, rfl, hH, hB, hz, q⟩ := h
  cases rx
  obtain ⟨u, rfl, ru⟩ := rv.one
  cases ru
  obtain ⟨z, its, n, r, hl, e⟩ := I.lstM hH
  obtain ⟨z3, its3, r3, ob, e3, e4, n3, e5⟩ := I.hok b _ hB
  have hl2 := r3.length
  obtain ⟨oc, od, odt, osl⟩ := ob
  cases e4
  cases e5
  have hsz : its.toArray.size + its3.toArray.size ≤ sizeLine := by rw [List.size_toArray, List.size_toArray]; omega
  have hlong : ¬ (!its.toArray.isEmpty && Builtin.List.listTooLong (its.toArray.size + its3.toArray.size)) = true := by
    rw [notLongL hsz, Bool.and_false]
    exact Bool.false_ne_true
  refine call_meets F.slot_list_extend ⟨_, e, rfl⟩ F.entry_list_extend (F.args_list_extend_2 _ _)
    (extend_list_tup l its.toArray n b _ _ its3.toArray n3 hlong (by rw [List.size_toArray]; omega) (by omega)) ⟨e, e3, ?_⟩
  refine ⟨.non, _, I.lset (its' := its ++ its3) hH e (by simp) (r.append r3) ?_, rfl, q⟩
  rw [List.length_append]
  omega
/-- x.extend(e) for the slot's own list -/
theorem ds_ext {y : Str} {py apos cpos : Pos} (hy : PE X (.Name y py) (tVar i)) (he : RE X C e ge) (hk : C.kd i = .lst)
    (hbase : attributeBase (.Name y py) "extend" X.env (eval (.Name y py) X.env) = eval (.Name y py) X.env := by rfl)
    (hfew : ((backTo cpos (starEach (e :: []) X.env)).all (fun x => !x.1) && (backToKw cpos (keywordEach [] X.env)).all (fun x => x.1.isSome)
      && decide ((e :: []).length + ([] : List Keyword).length + (if ([] : List Keyword).isEmpty then 0 else 1) < 30)) = true := by rfl)
    (hline : (apos.endLine == cpos.line) = true := by rfl) (hs : starEach (e :: []) X.env = (false, eval e X.env) :: starEach [] X.env := by rfl) (hplain : (backTo cpos (starEach [] X.env)).any (·.1) = false := by rfl)
    (hsw : swapsWith (.Call (.Attribute (.Name y py) "extend" apos) (e :: []) [] cpos) none pos.line X.env = pure false := by rfl) :
    DS X C (.Expr (.Call (.Attribute (.Name y py) "extend" apos) (e :: []) [] cpos) pos) (extS i ge) :=
  PS.imp (ps_expr (pe_bm PySem.F.plainAttrs_list PySem.F.slot_list_extend PySem.F.type_list_extend (MtR.or mt_extend mt_extendT) hy (pa_cons he pa_nil hs) hbase hfew hline hs hplain) hsw) fun E σ H q => by
    obtain ⟨ρ, γ, F, o, γ', se, hg, q⟩ := q
    obtain ⟨ds, e0, hg⟩ := bnd hg
    obtain ⟨⟨x, γ1⟩, e1, hg⟩ := bnd hg
    obtain ⟨es, e2, hg⟩ := bnd hg
    split at hg
    · rename_i hz
      cases hg
      have e0 := ownL_un e0
      obtain ⟨a, xs, hv, ha, al, nd, _⟩ := se.mut hk e0
      refine ⟨.ref a, hv, tyL ha, ρ, γ, F, x, γ1, se, e1, fun v F' H' st dr dv => ?_⟩
      have se2 := se.step st dr
      obtain ⟨a2, xs2, hv2, ha2, al2, nd2, mk⟩ := se2.mut hk e0
      rw [hv] at hv2
      cases hv2
      cases x with
      | list zs =>
        cases e2
        obtain ⟨b, ys, rfl, hb, al3⟩ := dv.list st.fh
        exact .inl ⟨a, b, xs2, ys, rfl, rfl, ha2, hb, by rw [al2.len, al3.len]; exact line_le (Nat.le_of_lt hz), q σ F' _ st.ff (mk _ _ (al2.app al3))⟩
      | tuple zs =>
        cases e2
        obtain ⟨b, ys, rfl, hb, al3⟩ := dv.tup st.fh
        exact .inr ⟨a, b, xs2, ys, rfl, rfl, ha2, hb, by rw [al2.len, al3.len]; exact line_le (Nat.le_of_lt hz), q σ F' _ st.ff (mk _ _ (al2.app al3))⟩
      | _ => cases e2
    · cases hg
/-- x[k] = e for the slot's own list -/
theorem ds_stx {o k : Expr} {gk : GE} {tpos : Pos} (h : PS X (.Assign [.Subscript o k tpos] e pos) (tAsg (tD C ge) (gSub (tVar i) (tD C gk) rSetL))) (hk : C.kd i = .lst) :
    DS X C (.Assign [.Subscript o k tpos] e pos) (stxS i gk ge) := PS.imp h fun E σ H q => by
  obtain ⟨ρ, γ, F, o, γ', se, hg, q⟩ := q
  obtain ⟨⟨x, γ1⟩, e1, hg⟩ := bnd hg
  obtain ⟨ds, e0, hg⟩ := bnd hg
  obtain ⟨⟨y, γ2⟩, e2, hg⟩ := bnd hg
  cases y with
  | int n =>
    obtain ⟨j, e3, hg⟩ := bnd hg
    cases hg
    have e0 := ownL_un e0
    refine ⟨ρ, γ, F, x, γ1, se, e1, fun v F' H' st dr dv => ?_⟩
    have se2 := se.step st dr
    obtain ⟨a, xs, hv, ha, al, nd, _⟩ := se2.mut hk e0
    refine ⟨.ref a, hv, ρ, γ1, F', _, _, se2, e2, fun w F2 H2 st2 dr2 dw => ?_⟩
    cases dw
    have se3 := se2.step st2 dr2
    obtain ⟨a2, xs2, hv2, ha2, al2, nd2, mk⟩ := se3.mut hk e0
    rw [hv] at hv2
    cases hv2
    exact ⟨a, xs2, n, j, rfl, rfl, ha2, by rw [al2.len]; exact e3, q σ F2 _ (st.ff.trans st2.ff) (mk _ _ (al2.set j (dv.up st2.ff)))⟩
  | _ => cases hg
/-- a slot that owns a dict -/
theorem mut_dic {ρ : Env} {γ : G} {σ : L2.St} {F H : Hp} {kv : List (D × D)} (s : SE C ρ γ σ F H) (hk : C.kd i = .dic) (e : ρ[i]? = some (some (.dict kv))) : ∃ a kvs ks, kv = (ks : List Str).map (fun k => (.str k, .none)) ∧ σ[i]? = some (some (.ref a)) ∧ H a = some (.dK kvs) ∧ kvs.map (·.1) = ks.map Sum.inr ∧ ¬ isDr C.dr a ∧
    ∀ kvs2 (ks2 : List Str), kvs2.map (·.1) = ks2.map Sum.inr → SE C (ρ.set i (some (.dict (ks2.map fun k => (.str k, .none))))) γ σ F (upd H a (.dK kvs2)) := by
  obtain ⟨fp, h1, h2, h3⟩ := s.sl
  obtain ⟨v, hv, ok⟩ := h1 i _ e
  rw [hk] at ok
  obtain ⟨a, xs, ds', o1, o2, o3, o4, o5⟩ := ok
  cases o2
  subst o1
  have ha := h2 i a (by rw [o3]; simp)
  obtain ⟨n1, n2, n3, n4⟩ := ha
  have nd := s.nodr n2
  refine ⟨a, xs, ds', rfl, hv, o4, o5, nd, fun ys es al => ?_⟩
  have fh : Same F (upd H a (.dK ys)) := fun x u q => by rw [upd_ne (ne_of_none q n1)]; exact s.fh x u q
  refine ⟨⟨s.ent.ff, fh, fun x u q nq => by rw [upd_ne (ne_of_none q n2)]; exact s.ent.keep x u q nq, fun x q => ?_, s.ent.old⟩, ?_, s.drh, s.dsl, by simpa using s.len, fp, fun j x q => ?_, fun j b m => ?_, h3⟩
  · by_cases z : x = a
    · subst z
      rw [upd_same]
      simp
    · rw [upd_ne z]
      exact s.ent.dom x q
  · have dr := s.dr
    cases hC : C.dr with
    | none => trivial
    | some pq =>
      obtain ⟨p, q⟩ := pq
      rw [hC] at dr nd
      obtain ⟨m, d1, d2, d3, d4⟩ := dr
      have np : p ≠ a := fun z => nd (.inl z.symm)
      have nq : q ≠ a := fun z => nd (.inr z.symm)
      exact ⟨m, d1, d2, by rw [upd_ne np]; exact d3, by rw [upd_ne nq]; exact d4⟩
  · rcases set_get q with ⟨e1, e2, e3⟩ | ⟨e1, e2⟩
    · subst e1
      cases e2
      refine ⟨.ref a, hv, ?_⟩
      rw [hk]
      exact ⟨a, ys, es, rfl, rfl, o3, upd_same, al⟩
    · obtain ⟨w, hw, ok⟩ := h1 j x e2
      refine ⟨w, hw, ok.step (Same.refl F) fun b m => upd_ne fun z => ?_⟩
      subst z
      exact h3 j i e1 b m (by rw [o3]; simp)
  · obtain ⟨m1, m2, m3, m4⟩ := h2 j b m
    refine ⟨m1, m2, ?_, m4⟩
    by_cases z : b = a
    · subst z
      rw [upd_same]
      simp
    · rw [upd_ne z]
      exact m3
theorem putK_keys {x : Str} {v : V} {kvs : List (Key × V)} {ks : List Str} (h : kvs.map (·.1) = ks.map Sum.inr) : ∃ ks2 : List Str, (putK kvs (Sum.inr x : Key) v).map (·.1) = ks2.map Sum.inr ∧ putKs x (ks.map fun k => (.str k, .none)) = ks2.map fun k => (.str k, .none) := by
  have hk := hasK_eq x h
  unfold putKs
  rw [← hk]
  cases hv : valV kvs (Sum.inr x : Key) with
  | none =>
    refine ⟨ks ++ [x], ?_, ?_⟩
    · rw [putK_new v hv, List.map_append, List.map_append, h] <;> rfl
    · simp
  | some y =>
    refine ⟨ks, ?_, by simp⟩
    rw [← h]
    unfold putK
    split
    · rw [List.map_map]
      refine List.map_congr_left fun q _ => ?_
      show (if q.1 = _ then (q.1, v) else q).1 = q.1
      split <;> rfl
    · rename_i hn
      exfalso
      apply hn
      rw [List.any_eq_true]
      unfold valV at hv
      obtain ⟨q, hq, e⟩ := Option.map_eq_some_iff.mp hv
      have := List.find?_some hq
      exact ⟨q, List.mem_of_find?_eq_some hq, this⟩
/-- x = {} -/
theorem ds_dnew (h : PS X s (tAsg tDNewK (gName i))) (hk : C.kd i = .dic) (hd : OffD C i) (hav : C.av = fun _ => False) : DS X C s (dicS i) := PS.imp h fun E σ H q => by
  obtain ⟨ρ, γ, F, o, γ', se, hg, q⟩ := q
  cases hg
  intro a ha
  have hf : F a = none := se.fh.free ha
  have n0 : C.H0 a = none := by
    cases z : C.H0 a with
    | none => rfl
    | some o => exact absurd ha (se.ent.dom a (by rw [z]; simp))
  have s2 := se.enter (o := .dK []) ha
  refine q _ F _ (Same.refl F) ?_
  obtain ⟨fp, h1, h2, h3⟩ := s2.sl
  obtain ⟨fp0, _, _, _⟩ := se.sl
  have h2' : ∀ j b, b ∈ fp j → b ≠ a := fun j b m z => (h2 j b m).2.2.2 (.inr z)
  refine ⟨s2.ent, s2.dr, s2.drh, fun p q e => by rw [List.getElem?_set_ne (offD hd e)]; exact se.dsl p q e, by simpa using se.len, fun j => if j = i then [a] else fp j, fun j x e => ?_, fun j b m => ?_, fun j l n b m => ?_⟩
  · rcases set_get e with ⟨e1, e2, e3⟩ | ⟨e1, e2⟩
    · subst e1
      cases e2
      refine ⟨.ref a, List.getElem?_set_self (by rw [← se.len]; exact e3), ?_⟩
      simp only [if_true, hk]
      exact ⟨a, [], [], rfl, rfl, rfl, upd_same, rfl⟩
    · obtain ⟨w, hw, ok⟩ := h1 j x e2
      refine ⟨w, by rw [List.getElem?_set_ne (Ne.symm e1)]; exact hw, ?_⟩
      simp only [if_neg e1]
      exact ok
  · by_cases e : j = i
    · simp [e] at m
      subst m
      exact ⟨hf, n0, by rw [upd_same]; simp, fun z => by rw [hav] at z; exact z⟩
    · simp only [if_neg e] at m
      obtain ⟨n1, n2, n3, n4⟩ := h2 j b m
      exact ⟨n1, n2, n3, fun z => n4 (.inl z)⟩
  · by_cases e : j = i
    · simp [e] at m
      subst m
      have e2 : l ≠ i := fun z => n (e.trans z.symm)
      simp only [if_neg e2]
      intro hb
      exact h2' l _ hb rfl
    · simp only [if_neg e] at m
      by_cases e2 : l = i
      · simp only [e2, if_true, List.mem_singleton]
        exact h2' j b m
      · simp only [if_neg e2]
        exact h3 j l n b m
/-- x[k] = e for the slot's own dict -/
theorem ds_put {o k : Expr} {gk : GE} {tpos : Pos} (h : PS X (.Assign [.Subscript o k tpos] e pos) (sDPut (tVar i) (tD C gk) (tD C ge))) (hk : C.kd i = .dic) :
    DS X C (.Assign [.Subscript o k tpos] e pos) (putS i gk ge) := PS.imp h fun E σ H q => by
  obtain ⟨ρ, γ, F, o, γ', se, hg, q⟩ := q
  obtain ⟨⟨x, γ1⟩, e1, hg⟩ := bnd hg
  obtain ⟨⟨y, γ2⟩, e2, hg⟩ := bnd hg
  obtain ⟨kv, w, e0, rfl, hz, e3⟩ : ∃ kv w, ρ[i]? = some (some (.dict kv)) ∧ y = .str w ∧ kv.length < LINE ∧ some (Out.nx (ρ.set i (some (.dict (putKs w kv)))), γ2) = some (o, γ') := by
    simp only at hg
    split at hg
    · split at hg
      · rename_i hz
        exact ⟨_, _, by assumption, rfl, hz, hg⟩
      · cases hg
    · cases hg
  cases e3
  refine ⟨ρ, γ, F, x, γ1, se, e1, fun v F' H' st dr dv => ?_⟩
  have se2 := se.step st dr
  obtain ⟨a, kvs, ks, rfl, hv, ha, hks, nd, _⟩ := mut_dic se2 hk e0
  refine ⟨.ref a, hv, ρ, γ1, F', _, _, se2, e2, fun u F2 H2 st2 dr2 du => ?_⟩
  cases du
  have se3 := se2.step st2 dr2
  obtain ⟨a2, kvs2, ks2, eks, hv2, ha2, hks2, nd2, mk⟩ := mut_dic se3 hk e0
  rw [hv] at hv2
  cases hv2
  obtain ⟨ks3, h3, h4⟩ := putK_keys (v := v) (x := w) hks2
  rw [eks, h4] at q
  have hlen : kvs2.length = ks2.length := by
    have := congrArg List.length hks2
    simpa using this
  refine ⟨a, _, rfl, DPut.k (k := Sum.inr w) ha2 (by
    rw [hlen]
    rw [eks, List.length_map] at hz
    exact line_lt hz), q σ F2 _ (st.ff.trans st2.ff) (mk _ _ h3)⟩

/-! ### loops -/
theorem ds_for {tge iter : Expr} {body : List Stmt} {it : GA} {tg : GTg} {is : List Nat} {gb : GS} (hp : PassesOwn (model X.prog X.w) X.A X.env X.xe) (hc : X.calm = true) (hi : PI X tge iter (tI C it)) (hg : PG X tge (tG C tg is)) (hb : DSs X C body gb)
    (hs : ∀ x, foldedSetIterable iter X.env x = pure x := by intro _; rfl) : DS X C (.For tge iter body [] pos) (forS it tg gb) := PS.imp (ps_for hp hc hi hg hb hs) fun E σ H q => by
  obtain ⟨ρ, γ, F, o, γ', se, hg, q⟩ := q
  obtain ⟨⟨ds, γ1⟩, e1, hg⟩ := bnd hg
  refine ⟨ρ, γ, F, ds, γ1, se, e1, fun F1 H1 J st1 dr1 ok => ?_⟩
  refine ⟨fun i m σ Hc => ∃ Fc ρc γc o, m = ds.length - i ∧ i ≤ ds.length ∧ SE C ρc γc σ Fc Hc ∧ Same F1 Fc ∧ forL tg gb (ds.drop i) ρc γc = some (o, γ') ∧ FinO C o γ' Fc E,
    ⟨ds.length, F1, ρ, γ1, o, rfl, Nat.zero_le _, se.step st1 dr1, Same.refl F1, by rw [List.drop_zero]; exact hg, q.mono st1.ff⟩, ?_⟩
  rintro i m σc Hc ⟨Fc, ρc, γc, o, rfl, hi, sec, kc, hl, qc⟩
  have okc := ok Fc Hc kc sec.fh i
  by_cases hlt : i < ds.length
  · right
    have hdi : ds[i]? = some ds[i] := List.getElem?_eq_getElem hlt
    obtain ⟨go, yl⟩ := okc.2 _ hdi
    have hdrop : ds.drop i = ds[i] :: ds.drop (i + 1) := List.drop_eq_getElem_cons hlt
    rw [hdrop] at hl
    obtain ⟨ρ1, g1, hl⟩ := bnd hl
    obtain ⟨⟨r, γ2⟩, g2, hl⟩ := bnd hl
    refine ⟨go, fun σ' H' => ∃ m', m' < ds.length - i ∧ ∃ Fc ρc γc o, m' = ds.length - (i + 1) ∧ i + 1 ≤ ds.length ∧ SE C ρc γc σ' Fc H' ∧ Same F1 Fc ∧ forL tg gb (ds.drop (i + 1)) ρc γc = some (o, γ') ∧ FinO C o γ' Fc E,
      fun _ _ h => h, fun x Hy hy => ?_⟩
    obtain ⟨F2, st2, dv2⟩ := yl x Hy hy
    have se2 := sec.stq st2
    refine ⟨_, γc, F2, _, ρ1, se2, dv2, g1, fun σ2 se3 _ => ⟨ρ1, γc, F2, r, γ2, se3, g2, ?_⟩⟩
    cases r with
    | nx ρ2 => exact fun σ3 F3 H3 k3 se4 => ⟨ds.length - (i + 1), by omega, F3, ρ2, γ2, o, rfl, hlt, se4, (kc.trans st2.ff).trans k3, hl, qc.mono (st2.ff.trans k3)⟩
    | rt z =>
      cases hl
      exact (qc.mono st2.ff : FinO C (.rt z) _ F2 E)
  · left
    have ei : i = ds.length := by omega
    subst ei
    rw [List.drop_length] at hl
    cases hl
    exact ⟨okc.1 (Nat.le_refl _), qc σc Fc Hc (Same.refl Fc) sec⟩
theorem ds_while {c : Expr} {body : List Stmt} {gc : GT} {gb : GS} (hp : PassesOwn (model X.prog X.w) X.A X.env X.xe) (hc : DT X C c gc) (hb : DSs X C body gb) : DS X C (.While c body [] pos) (whlS gc gb) := PS.imp (ps_while hp hc hb) fun E σ H q => by
  obtain ⟨ρ, γ, F, o, γ', se, hg, q⟩ := q
  refine ⟨fun m σ Hc => ∃ Fc ρc γc o, SE C ρc γc σ Fc Hc ∧ whlL gc gb m ρc γc = some (o, γ') ∧ FinO C o γ' Fc E, ⟨1000, F, ρ, γ, o, se, hg, q⟩, ?_⟩
  rintro m σc Hc ⟨Fc, ρc, γc, o, sec, hl, qc⟩
  cases m with
  | zero => cases hl
  | succ m =>
    obtain ⟨⟨b, γ1⟩, e1, hl⟩ := bnd hl
    refine ⟨ρc, γc, Fc, b, γ1, sec, e1, fun F' H' st dr => ?_⟩
    cases b with
    | false =>
      cases hl
      show ite (false = true) _ _
      rw [if_neg Bool.false_ne_true]
      exact qc σc F' H' st.ff (sec.step st dr)
    | true =>
      show ite (true = true) _ _
      rw [if_pos rfl]
      obtain ⟨⟨r, γ2⟩, e2, hl⟩ := bnd hl
      refine ⟨fun σ' H' => ∃ Fc ρc γc o, SE C ρc γc σ' Fc H' ∧ whlL gc gb m ρc γc = some (o, γ') ∧ FinO C o γ' Fc E, fun σ' H' h => ⟨m, Nat.lt_succ_self m, h⟩, ρc, γ1, F', r, γ2, sec.step st dr, e2, ?_⟩
      cases r with
      | nx ρ2 => exact fun σ3 F3 H3 k3 se4 => ⟨F3, ρ2, γ2, o, se4, hl, qc.mono (st.ff.trans k3)⟩
      | rt z =>
        cases hl
        exact (qc.mono st.ff : FinO C (.rt z) _ F' E)
end

/-! ### defs -/
def outD : Out → D
  | .nx _ => .none
  | .rt d => d
def startE (n : Nat) (ds : List D) : Env := ds.map some ++ List.replicate (n - ds.length) none
def runP (n : Nat) (g : GS) : List D → Option D := fun ds => (g (startE n ds) (0, [])).bind fun r => some (outD r.1)
def runG (n : Nat) (g : GS) : List D → G → Option (D × G) := fun ds γ => (g (none :: startE (n - 1) ds) γ).bind fun r => some (outD r.1, r.2)
theorem start_get {N : List Str} {vs : List V} {ds : List D} {F : Hp} (al : DvAll F vs ds) : ∀ {i : Nat} {d : D}, (startE N.length ds)[i]? = some (some d) → ∃ v, (L2.start N vs)[i]? = some (some v) ∧ Dv F v d := by
  intro i d e
  unfold startE at e
  unfold L2.start
  by_cases hi : i < ds.length
  · rw [List.getElem?_append_left (by simpa using hi)] at e
    rw [List.getElem?_append_left (by rw [List.length_map, al.len]; exact hi)]
    rw [List.getElem?_map] at e ⊢
    obtain ⟨x, hx, e2⟩ := Option.map_eq_some_iff.mp e
    cases e2
    obtain ⟨v, hv, dv⟩ := al.get hx
    exact ⟨v, by rw [hv]; rfl, dv⟩
  · rw [List.getElem?_append_right (by simpa using hi)] at e
    rw [List.getElem?_replicate] at e
    split at e
    · cases e
    · cases e
def cfgP (kd : Nat → Kd) (F H : Hp) : Cfg := { dr := none, ds := 0, kd := kd, F0 := F, H0 := H }
def cfgG (p q : Addr) (kd : Nat → Kd) (F H : Hp) : Cfg := { dr := some (p, q), ds := 0, kd := kd, F0 := F, H0 := H }
section
variable {P : Program} {w : World} {K : PySem.W.Frag} {mg : Str → Option Value} {base : Heap} {x qual : Str} {params : Arguments} {body : List Stmt} {scope : Scope} {f : Addr} {fd : FuncData} {N ps : List Str} {k n : Nat} {g : GS}
theorem fn_pure (Fd : FunD K x qual params body scope [] [] f fd) (S : FnScope N ps scope) (kd : Nat → Kd) (hps : ps.length = n) (hkd : ∀ i, i < n → kd i = .pure)
    (hbody : ∀ (cdv : Value) (A : Around) (outer : List PySem.Env) (s : Shared) (H F : Hp) (E : XK), Room k (A.deeper (envOfC qual scope s.heap.objs.size f cdv)) → DSs (cxOf CX0 P w K mg base N qual scope f cdv A outer s H E).nox (cfgP kd F H) body g) :
    FnOk P w K mg base CX0 (k + 1) f fd ps (spD n (runP N.length g)) := by
  refine Fd.ok S (fun vs H Q E h => ?_) (fun cdv A outer s H vs Q E hr h => ?_)
  · obtain ⟨F, ds, d, hl, k, al, _⟩ := h
    rw [al.len, hl, hps]
  · obtain ⟨F, ds, d, hl, k, al, hf, q⟩ := h
    refine ⟨_, PSs.nox (hbody cdv A outer s H F E hr), ?_⟩
    obtain ⟨⟨o, γ'⟩, e1, e2⟩ := bnd hf
    cases e2
    refine ⟨startE N.length ds, (0, []), F, o, γ', ⟨Stp.refl k, trivial, fun a z => z.elim, fun p q e => (by cases e), ?_, fun _ => [], fun i d e => ?_, fun i a m => (by cases m), fun i j _ a m => (by cases m)⟩, e1, ?_⟩
    · unfold startE L2.start
      rw [List.length_append, List.length_append, List.length_map, List.length_map, List.length_replicate, List.length_replicate, al.len]
    · obtain ⟨v, hv, dv⟩ := start_get al e
      refine ⟨v, hv, ?_⟩
      have hi : i < ds.length := by
        rcases Nat.lt_or_ge i ds.length with h | h
        · exact h
        · unfold startE at e
          rw [List.getElem?_append_right (by simpa using h), List.getElem?_replicate] at e
          split at e <;> cases e
      show SlOk F H (kd i) v d []
      rw [hkd i (by rw [← hl]; exact hi)]
      exact ⟨dv, rfl⟩
    · cases o with
      | nx ρ => exact fun σ F' H' _ se => q .non F' H' se.ent .non
      | rt d => exact fun v F' H' _ st _ dv => q v F' H' st dv
theorem fn_draws (Fd : FunD K x qual params body scope [] [] f fd) (S : FnScope N ps scope) (kd : Nat → Kd) (hps : ps.length = n + 1) (hN : 0 < N.length) (hkd : ∀ i, i < n → kd (i + 1) = .pure)
    (hbody : ∀ (cdv : Value) (A : Around) (outer : List PySem.Env) (s : Shared) (H F : Hp) (p q : Addr) (E : XK), Room k (A.deeper (envOfC qual scope s.heap.objs.size f cdv)) → DSs (cxOf CX0 P w K mg base N qual scope f cdv A outer s H E).nox (cfgG p q kd F H) body g) :
    FnOk P w K mg base CX0 (k + 1) f fd ps (spG n (runG N.length g)) := by
  refine Fd.ok S (fun vs H Q E h => ?_) (fun cdv A outer s H vs Q E hr h => ?_)
  · obtain ⟨p, q, F, γ, ws, ds, d, γ', rfl, hl, k, dr, al, _⟩ := h
    rw [List.length_cons, al.len, hl, hps]
  · obtain ⟨p, q, F, γ, ws, ds, d, γ', rfl, hl, k, dr, al, hf, hq⟩ := h
    refine ⟨_, PSs.nox (hbody cdv A outer s H F p q E hr), ?_⟩
    obtain ⟨⟨o, γ2⟩, e1, e2⟩ := bnd hf
    cases e2
    have hlen : N.length = (N.tail).length + 1 := by
      rw [List.length_tail]
      omega
    have hst : L2.start N (.ref p :: ws) = some (.ref p) :: L2.start N.tail ws := by
      unfold L2.start
      rw [List.map_cons, List.cons_append, List.length_cons, List.length_tail, Nat.sub_sub, Nat.add_comm 1]
    have hse : startE (N.length - 1) ds = startE N.tail.length ds := by rw [List.length_tail]
    rw [hst]
    have dr0 := dr
    obtain ⟨n1, d1, d2, d3, d4⟩ := dr0
    refine ⟨none :: startE (N.length - 1) ds, γ, F, o, γ2, ⟨Stp.refl k, dr, fun a z => ?_, fun p' q' e => ?_, ?_, fun _ => [], fun i d e => ?_, fun i a m => (by cases m), fun i j _ a m => (by cases m)⟩, e1, ?_⟩
    · rcases z with z | z
      · subst z
        show H _ ≠ none
        rw [d3]
        simp
      · subst z
        show H _ ≠ none
        rw [d4]
        simp
    · have e' : some (p, q) = some (p', q') := e
      cases e'
      rfl
    · rw [hse]
      unfold startE L2.start
      rw [List.length_cons, List.length_cons, List.length_append, List.length_append, List.length_map, List.length_map, List.length_replicate, List.length_replicate, al.len]
    · rw [hse] at e
      cases i with
      | zero => cases e
      | succ i =>
        rw [List.getElem?_cons_succ] at e
        obtain ⟨v, hv, dv⟩ := start_get al e
        refine ⟨v, by rw [List.getElem?_cons_succ]; exact hv, ?_⟩
        have hi : i < ds.length := by
          rcases Nat.lt_or_ge i ds.length with h | h
          · exact h
          · unfold startE at e
            rw [List.getElem?_append_right (by simpa using h), List.getElem?_replicate] at e
            split at e <;> cases e
        show SlOk F H (kd (i + 1)) v d []
        rw [hkd i (by rw [← hl]; exact hi)]
        exact ⟨dv, rfl⟩
    · cases o with
      | nx ρ => exact fun σ F' H' _ se => hq .non F' H' se.ent se.dr .non
      | rt d => exact fun v F' H' _ st dr dv => hq v F' H' st dr dv
end
end TK
end
section
set_option Elab.async false
set_option linter.all false
set_option maxRecDepth 100000
set_option maxHeartbeats 4000000
/-! Some more built-ins, and the facts of the head in handy form. -/
namespace TK
open PySem PySem.Spec PyProof.Rows L2

/-! ### tuple * int -/
theorem tup_mul1 (l : Addr) (items : Array Value) (n : Nat) (dd : Option Addr) (sl : Array (Option Value)) (u : Tok) :
    Meets (Builtin.«tuple.__mul__» ⟨[.ref l, .int 1 u], []⟩) (fun _ R s => s.heap.get? l = some { cls := .type "tuple", dict := dd, data := .seq items n, slots := sl } ∧ R (.ok (.ret (Value.ref l))) s) :=
  .of_wp fun prog w A R s h => by
    obtain ⟨hp, g, d, tk, os⟩ := s
    obtain ⟨hl, h⟩ := h
    have f1 := AutoSeq1.idx_int
    have c0 : (decide ((1 : Int) < -(2 ^ 63)) || decide ((1 : Int) ≥ 2 ^ 63)) = false := by decide
    have c1 : (items.isEmpty || ((1 : Int) == 1)) = true := by simp
    wp_walk using AutoSeq1.wpAny_loadPart' hl
    repeat (first
      | (refine wpAny_ite_false (decide_eq_false (by rw [c0]; exact Bool.false_ne_true)) ?_; wp_walk using AutoSeq1.wpAny_loadPart' hl)
      | (refine wpAny_ite_true (decide_eq_true c1) ?_; wp_walk using AutoSeq1.wpAny_loadPart' hl))
    exact ⟨_, rfl, h⟩
theorem tup_mul0 (l : Addr) (items : Array Value) (n : Nat) (dd : Option Addr) (sl : Array (Option Value)) (u : Tok) (hi : items.isEmpty = false) :
    Meets (Builtin.«tuple.__mul__» ⟨[.ref l, .int 0 u], []⟩) (fun _ R s => s.heap.get? l = some { cls := .type "tuple", dict := dd, data := .seq items n, slots := sl } ∧
      R (.ok (.ret (Value.ref s.heap.objs.size))) { s with heap := s.heap.push { cls := Value.type "tuple", data := Data.seq #[] }, toks := s.toks }) :=
  .of_wp fun prog w A R s h => by
    obtain ⟨hp, g, d, tk, os⟩ := s
    obtain ⟨hl, h⟩ := h
    have f1 := AutoSeq1.idx_int
    have c0 : (decide ((0 : Int) < -(2 ^ 63)) || decide ((0 : Int) ≥ 2 ^ 63)) = false := by decide
    have c1 : (items.isEmpty || ((0 : Int) == 1)) = false := by rw [hi]; rfl
    have c2 : (decide ((0 : Int) ≤ 0) || items.isEmpty) = true := by simp
    wp_walk using AutoSeq1.wpAny_loadPart' hl
    repeat (first
      | (refine wpAny_ite_false (decide_eq_false (by rw [c0]; exact Bool.false_ne_true)) ?_; wp_walk using AutoSeq1.wpAny_loadPart' hl)
      | (refine wpAny_ite_false (decide_eq_false (by rw [c1]; exact Bool.false_ne_true)) ?_; wp_walk using AutoSeq1.wpAny_loadPart' hl)
      | (refine wpAny_ite_true (decide_eq_true c2) ?_; wp_walk using AutoSeq1.wpAny_loadPart' hl))
    exact ⟨_, rfl, h⟩
def mulTD : D → D → Option D
  | .tuple (x :: xs), .int n => if 0 ≤ n ∧ n ≤ 1000 ∧ (x :: xs).length ≤ 1000 then some (.tuple (List.replicate n.toNat (x :: xs)).flatten) else none
  | _, _ => none
section
variable {X : Cx}
theorem op_mulTD : OpR X (binaryOp .Mult) (rD mulTD) := by
  intro pins s σ H x y v u Q I rx ry h
  obtain ⟨F, d, e, z, k, dx, dy, ho, q⟩ := h
  unfold mulTD at ho
  split at ho
  · rename_i z0 zs n
    split at ho
    · rename_i hz
      cases ho
      cases dy
      cases dx with
      | @tup a xs _ e1 a1 =>
      have hl := a1.len
      have eH := k _ _ e1
      obtain ⟨h1, h2, h3⟩ := hz
      have hxn : xs ≠ [] := fun z => by
        rw [z] at hl
        cases hl
      have hcase : n = 0 ∨ n = 1 ∨ 2 ≤ n := by omega
      rcases hcase with hn | hn | hn
      · subst hn
        cases rx
        obtain ⟨t, rfl⟩ := ry
        obtain ⟨its, r, ⟨⟨cls, dd, data, sl⟩, ho, hc, n, hd⟩, hs⟩ := I.tuple (SqT.of eH)
        simp only at hc hd
        subst hc hd
        have hi : its.toArray.isEmpty = false := by
          cases r with
          | nil => exact absurd rfl hxn
          | cons _ _ => rfl
        refine wpAny_binaryOp_repeat_ref (T := "tuple") (U := "int") (by decide) ⟨_, ho, rfl⟩ (fun s' => typeIs_int s' 0 t) noFill_tuple_mul PySem.F.fills_int_mul PySem.F.slot_int_rmul repeat_tuple PySem.F.slot_int_index.lookup
          (call_meets PySem.F.slot_int_rmul (typeIs_int s 0 t) PySem.F.entry_int_rmul (PySem.F.args_int_rmul_2 _ _) (int_rmul_tuple 0 t a its.toArray n dd sl)
            ⟨ho, rfl, ⟨_, ho, rfl⟩, call_meets PySem.F.slot_tuple_mul ⟨_, ho, rfl⟩ PySem.F.entry_tuple_mul (PySem.F.args_tuple_mul_2 _ _) (tup_mul0 a its.toArray n dd sl t hi) ⟨ho, ?_⟩⟩)
        refine ⟨.ref s.heap.objs.size, _, I.laid (t' := s.toks) (o := .tup []) (fun b ob q => Heap.get?_push_of_some _ q) (Nat.le_refl _) ?_, rfl, finT k q (I.hok.fresh (Nat.le_refl _)) .nil⟩
        exact ⟨Nat.zero_le _, [], .nil, IsTup.new _ _⟩
      · subst hn
        cases rx
        obtain ⟨t, rfl⟩ := ry
        obtain ⟨its, r, ⟨⟨cls, dd, data, sl⟩, ho, hc, n, hd⟩, hs⟩ := I.tuple (SqT.of eH)
        simp only at hc hd
        subst hc hd
        refine wpAny_binaryOp_repeat_ref (T := "tuple") (U := "int") (by decide) ⟨_, ho, rfl⟩ (fun s' => typeIs_int s' 1 t) noFill_tuple_mul PySem.F.fills_int_mul PySem.F.slot_int_rmul repeat_tuple PySem.F.slot_int_index.lookup
          (call_meets PySem.F.slot_int_rmul (typeIs_int s 1 t) PySem.F.entry_int_rmul (PySem.F.args_int_rmul_2 _ _) (int_rmul_tuple 1 t a its.toArray n dd sl)
            ⟨ho, rfl, ⟨_, ho, rfl⟩, call_meets PySem.F.slot_tuple_mul ⟨_, ho, rfl⟩ PySem.F.entry_tuple_mul (PySem.F.args_tuple_mul_2 _ _) (tup_mul1 a its.toArray n dd sl t) ⟨ho, ?_⟩⟩)
        refine ⟨.ref a, H, I, rfl, fin0 k q ?_⟩
        have e2 : (List.replicate (1 : Int).toNat (z0 :: zs)).flatten = z0 :: zs := by simp
        rw [e2]
        exact .tup e1 a1
      · exact op_repT pins s σ H _ _ v u Q I rx ry ⟨a, n, xs, rfl, rfl, SqT.of eH, hxn, hn, h2, by rw [hl]; exact h3, fun p hp => finT k q hp (a1.rep _)⟩
    · cases ho
  · cases ho

/-! ### min of three ints; min of a list with a default -/
def min3D : List D → Option D
  | [.int a, .int b, .int c] => some (.int (if b < a then (if c < b then c else b) else (if c < a then c else a)))
  | _ => none
theorem cl_min3 (hc : X.calm = true) : CallR X (.builtin "min") (fun vs H Q => ∃ F ds z, Same F H ∧ DvAll F vs ds ∧ min3D ds = some z ∧ ∀ w F' H', Stq F H F' H' → Dv F' w z → Q w H') := by
  intro pins s σ H vs us Q I r h
  obtain ⟨F, ds, z, k, al, ho, q⟩ := h
  unfold min3D at ho
  split at ho
  · cases ho
    cases al with
    | cons d1 al =>
    cases al with
    | cons d2 al =>
    cases al with
    | cons d3 al =>
    cases al
    cases d1; cases d2; cases d3
    cases r with
    | cons r1 r =>
    cases r with
    | cons r2 r =>
    cases r with
    | cons r3 r =>
    cases r
    obtain ⟨t1, rfl⟩ := r1
    obtain ⟨t2, rfl⟩ := r2
    obtain ⟨t3, rfl⟩ := r3
    refine PySem.min_three_ints (I.ok.hd hc) fun h' tk hk => ⟨_, H, I.kept hk, ?_, fin0 k q (.int _)⟩
    split <;> split <;> exact ⟨_, rfl⟩
  · cases ho
theorem cr_minN (hc : X.calm = true) (hu : X.A.units + 64 < cLine) : CallRK X (.builtin "min") [Str.ofString "default"] (fun vs zs H Q => ∃ dr v F d z, vs = [v] ∧ zs = [.non] ∧ Same F H ∧ Dr dr F H v d ∧ minDN d = some z ∧ ∀ w F' H', Stq F H F' H' → Dv F' w z → Q w H') := by
  intro pins s σ H vs zs us ws Q I r rz h
  obtain ⟨dr, v, F, d, z, rfl, rfl, k, dv, ho, q⟩ := h
  unfold minDN at ho
  have hw : ws = [.none] := by
    cases rz with
    | cons r1 r2 =>
      cases r2
      cases r1
      rfl
  subst hw
  cases d with
  | list xs =>
    obtain ⟨a, ys, rfl, eH, al⟩ := dv.list k
    rw [Vals.ref1 r]
    obtain ⟨its, rv, hl, hz⟩ := I.list (SqL.of eH)
    cases xs with
    | nil =>
      cases ho
      obtain ⟨as, rs⟩ := al.reads I k (by rfl) rv
      refine PySem.W.min_list_default (I.ok.hd hc) hl.isList rs ⟨fun _ h => (by cases h), fun _ h => (by cases h)⟩ (by have : PyData.depthAll [] = 0 := rfl; omega) (fun _ h' tk hk => ⟨.non, H, I.kept hk, rfl, fin0 k q .non⟩) fun y ys i v h' tk bs e => by cases e
    | cons x xs =>
      have ho' : (if okMin (x :: xs) then some (PySem.W.minD x xs) else none) = some z := ho
      split at ho'
      · rename_i ok
        cases ho'
        have okA := List.all_eq_true.mp (ba2 ok).1
        obtain ⟨p1, p2⟩ := plain_all okA
        obtain ⟨as, rs⟩ := al.reads I k p1 rv
        refine PySem.W.min_list_default (I.ok.hd hc) hl.isList rs (okMin_alike ok) (by omega) (fun e => by cases e) fun y0 ys0 i u h' tk bs e hi hr hk => ?_
        cases e
        obtain ⟨y, ry, dy⟩ := pick_dv I k rv al okA (minD_mem _ _) (by simpa using hi) hr hk
        exact ⟨y, H, I.kept hk, ry, fin0 k q dy⟩
      · cases ho'
  | _ => cases ho
variable {C : Cfg} {a b c : Expr} {ga gb gc : GE} {pos : Pos}
/-- min(xs, default=None) -/
theorem de_minN {p kp np : Pos} {j : Nat} (hc : X.calm = true) (hu : X.A.units + 64 < cLine) (hg : Gl X "min") (hm : X.mg "min" = none) (ha : RE X C a ga)
    (he : starEach (a :: []) X.env = (false, eval a X.env) :: starEach [] X.env := by rfl)
    (he2 : backTo pos (starEach (a :: []) X.env) = (false, eval a X.env) :: backTo pos (starEach [] X.env) := by rfl) (hpl : (backTo pos (starEach (a :: []) X.env)).any (·.1) = false := by rfl) :
    DE X C (.Call (.Name "min" p) (a :: []) [⟨some "default", .Constant .none j np, kp⟩] pos) (unE minDN ga) :=
  PE.imp (pe_callBK (ks := [Str.ofString "default"]) (cr_minN hc hu) hg hm (by decide +kernel) (pa_cons ha pa_nil he) (pk_cons pe_non pk_nil) (by decide) (by decide) he2 hpl) fun σ H Q q => by
    obtain ⟨ρ, γ, F, r, γ', se, hg, q⟩ := q
    obtain ⟨⟨x, γ1⟩, e1, hg⟩ := bnd hg
    obtain ⟨z, e2, hg⟩ := bnd hg
    cases hg
    exact ⟨ρ, γ, F, x, _, se, e1, fun v F1 H1 st1 dr1 dv1 => ⟨C.dr, v, F1, x, _, rfl, rfl, st1.fh, dv1, e2, fun u F2 H2 st2 dv2 => q u F2 H2 (st1.trans st2.up) (dr1.step st2) dv2⟩⟩
/-- min(a, b, c) of ints -/
theorem de_min3 {p : Pos} {es : List Expr} {g : GA} (hc : X.calm = true) (hg : Gl X "min") (hm : X.mg "min" = none) (ha : DA X C (a :: es) g)
    (he : starEach (a :: es) X.env = (false, eval a X.env) :: starEach es X.env := by rfl) (hpl : (backTo pos (starEach es X.env)).any (·.1) = false := by rfl) :
    DE X C (.Call (.Name "min" p) (a :: es) [] pos) (callE min3D g) :=
  PE.imp (pe_callB (cl_min3 hc) hg hm (by decide +kernel) ha (by decide) (by decide) he hpl) fun σ H Q q => by
    obtain ⟨ρ, γ, F, r, γ', se, hg, q⟩ := q
    obtain ⟨⟨x, γ1⟩, e1, hg⟩ := bnd hg
    obtain ⟨z, e2, hg⟩ := bnd hg
    cases hg
    exact ⟨ρ, γ, F, x, _, se, e1, fun vs F1 H1 st1 dr1 al => ⟨F1, x, _, st1.fh, al, e2, fun u F2 H2 st2 dv2 => q u F2 H2 (st1.trans st2.up) (dr1.step st2) dv2⟩⟩
end

def kdOf (l : List Kd) : Nat → Kd := fun i => l.getD i .pure
/-! ### the head's facts -/
structure Wd (K : PySem.W.Frag) (mg : Str → Option Value) : Prop where
  ns : ∃ h : Heap, K.In h ∧ h.Ns mainGlobals mg
  c : He.SaysD fa fn K
section
variable {K : PySem.W.Frag} {mg : Str → Option Value}
theorem Wd.free (W : Wd K mg) (i : Nat) {x : Str} (h : fa[i]? = some (.free x) := by rfl) : mg x = none := by
  obtain ⟨hp, X, G⟩ := W.ns
  exact He.free_ok X G (W.c.fact i h)
theorem Wd.glo (W : Wd K mg) (i : Nat) {x : Str} (h : fa[i]? = some (.glo x) := by rfl) : mg x = some (.ref (He.ga K x)) := by
  obtain ⟨hp, X, G⟩ := W.ns
  exact He.glo_ok X G (W.c.fact i h)
theorem Wd.str (W : Wd K mg) (i : Nat) {x z : Str} (h : fa[i]? = some (.str x z) := by rfl) : ∃ t, mg x = some (.str z t) := by
  obtain ⟨hp, X, G⟩ := W.ns
  exact He.str_ok X G (W.c.fact i h)
end
/-- a def under its name -/
structure Fk (P : Program) (w : World) (K : PySem.W.Frag) (mg : Str → Option Value) (base : Heap) (k : Nat) (x : Str) (ps : List Str) (sp : Sp) : Prop where
  ex : ∃ f fd, FnOk P w K mg base CX0 k f fd ps sp ∧ mg x = some (.ref f) ∧ PySem.W.keepIn K (.ref f) = true ∧ Binds K fd ps []
section
variable {P : Program} {w : World} {K : PySem.W.Frag} {mg : Str → Option Value} {base : Heap} {x : Str} {N ps : List Str} {k n : Nat} {g : GS} {d : He.DefD}
theorem fk_of (W : Wd K mg) (i j : Nat) (hd : fn[j]? = some d) (hx : fa[i]? = some (.glo x)) (e1 : d.dfl = []) (e2 : d.kwd = []) (e3 : d.at_ = (x, none)) {sp : Sp}
    (hok : ∀ f fd, FunD K d.name d.qual d.params d.body d.scope [] [] f fd → FnOk P w K mg base CX0 k f fd ps sp)
    (hb : ∀ (kV doc pm : Value) (an : Option Addr) (cdv ct : Value) (us : List Value), us.length = ps.length → bindArgs (PySem.W.fnOf d.name d.qual d.params d.body d.scope .none kV doc pm an cdv ct) ⟨us, []⟩ = pure (ps.zip us)) :
    Fk P w K mg base k x ps sp := by
  obtain ⟨fd, F⟩ := W.c.def_ j hd
  have ha : He.fAd K d.at_ = He.ga K x := by rw [e3] <;> rfl
  unfold He.DefD.dvs He.DefD.kws at F
  rw [e1, e2, ha] at F
  exact ⟨_, fd, hok _ fd F, W.glo i hx, F.kp, F.bindsN hb⟩
theorem fk_pure (W : Wd K mg) (i j : Nat) (hd : fn[j]? = some d) (hx : fa[i]? = some (.glo x)) (e1 : d.dfl = []) (e2 : d.kwd = []) (e3 : d.at_ = (x, none)) (S : FnScope N ps d.scope) (kd : Nat → Kd) (hps : ps.length = n) (hkd : ((List.range n).all fun i => decide (kd i = .pure)) = true)
    (hb : ∀ (kV doc pm : Value) (an : Option Addr) (cdv ct : Value) (us : List Value), us.length = ps.length → bindArgs (PySem.W.fnOf d.name d.qual d.params d.body d.scope .none kV doc pm an cdv ct) ⟨us, []⟩ = pure (ps.zip us))
    (hbody : ∀ (f : Addr) (cdv : Value) (A : Around) (outer : List PySem.Env) (s : Shared) (H F : Hp) (E : XK), Room k (A.deeper (envOfC d.qual d.scope s.heap.objs.size f cdv)) → DSs (cxOf CX0 P w K mg base N d.qual d.scope f cdv A outer s H E).nox (cfgP kd F H) d.body g) :
    Fk P w K mg base (k + 1) x ps (spD n (runP N.length g)) :=
  fk_of W i j hd hx e1 e2 e3 (fun f fd F => fn_pure F S kd hps (fun i hi => of_decide_eq_true (List.all_eq_true.mp hkd i (List.mem_range.mpr hi))) fun cdv A outer s H F E => hbody f cdv A outer s H F E) hb
theorem fk_draws (W : Wd K mg) (i j : Nat) (hd : fn[j]? = some d) (hx : fa[i]? = some (.glo x)) (e1 : d.dfl = []) (e2 : d.kwd = []) (e3 : d.at_ = (x, none)) (S : FnScope N ps d.scope) (kd : Nat → Kd) (hps : ps.length = n + 1) (hN : 0 < N.length) (hkd : ((List.range n).all fun i => decide (kd (i + 1) = .pure)) = true)
    (hb : ∀ (kV doc pm : Value) (an : Option Addr) (cdv ct : Value) (us : List Value), us.length = ps.length → bindArgs (PySem.W.fnOf d.name d.qual d.params d.body d.scope .none kV doc pm an cdv ct) ⟨us, []⟩ = pure (ps.zip us))
    (hbody : ∀ (f : Addr) (cdv : Value) (A : Around) (outer : List PySem.Env) (s : Shared) (H F : Hp) (p q : Addr) (E : XK), Room k (A.deeper (envOfC d.qual d.scope s.heap.objs.size f cdv)) → DSs (cxOf CX0 P w K mg base N d.qual d.scope f cdv A outer s H E).nox (cfgG p q kd F H) d.body g) :
    Fk P w K mg base (k + 1) x ps (spG n (runG N.length g)) :=
  fk_of W i j hd hx e1 e2 e3 (fun f fd F => fn_draws F S kd hps hN (fun i hi => of_decide_eq_true (List.all_eq_true.mp hkd i (List.mem_range.mpr hi))) fun cdv A outer s H F p q E => hbody f cdv A outer s H F p q E) hb
end
section
variable {X : Cx} {C : Cfg} {pos : Pos}
theorem de_callF {k n m : Nat} {ps : List Str} {x : Str} {p : Pos} {a : Expr} {es : List Expr} {fn : List D → Option D} {g : GA} (h : Fk X.prog X.w X.K X.mg X.base k x ps (spD n fn)) (hr : Room m X.A) (hk : k ≤ m) (hg : Gl X x)
    (ha : DA X C (a :: es) g) (hn : ∀ ρ γ z, g ρ γ = some z → z.1.length = n) (hdb : (x == ("__debug__" : Str)) = false := by decide) (he : starEach (a :: es) X.env = (false, eval a X.env) :: starEach es X.env := by rfl)
    (hpl : (backTo pos (starEach es X.env)).any (·.1) = false := by rfl) : DE X C (.Call (.Name x p) (a :: es) [] pos) (callE fn g) := by
  obtain ⟨f, fd, Fk, hm, hkp, hb⟩ := h
  exact de_call Fk (hr.mono hk) hg hm hkp hb ha hn hdb he hpl
theorem de_callGF {k n m : Nat} {ps : List Str} {x y : Str} {p py : Pos} {es : List Expr} {fn : List D → G → Option (D × G)} {g : GA} (h : Fk X.prog X.w X.K X.mg X.base k x ps (spG n fn)) (hr : Room m X.A) (hk : k ≤ m) (hg : Gl X x) (hC : C.dr.isSome = true) (hy : PE X (.Name y py) (tVar C.ds)) (ha : DA X C es g) (hn : ∀ ρ γ z, g ρ γ = some z → z.1.length = n) (hdb : (x == ("__debug__" : Str)) = false := by decide)
    (he : starEach (.Name y py :: es) X.env = (false, eval (.Name y py) X.env) :: starEach es X.env := by rfl) (hpl : (backTo pos (starEach es X.env)).any (·.1) = false := by rfl) : DE X C (.Call (.Name x p) (.Name y py :: es) [] pos) (callGE fn g) := by
  obtain ⟨f, fd, Fk, hm, hkp, hb⟩ := h
  exact de_callG Fk (hr.mono hk) hg hm hkp hb hC hy ha hn hdb he hpl
theorem re_own {i : Nat} {e : Expr} (h : PE X e (tVar i)) (hk : (C.kd i == .lst || C.kd i == .dic) = true) : RE X C e (varE i) := re_var h fun z => by rw [z] at hk; exact Bool.noConfusion hk
def inL (is vs : List Nat) : Bool := is.all fun i => vs.contains i
theorem inL_ok {is vs : List Nat} (h : inL is vs = true) : ∀ i ∈ is, i ∈ vs := fun i m => by
  have := List.all_eq_true.mp h i m
  simpa using this
def offL (C : Cfg) (vs : List Nat) : Bool := vs.all fun i => C.dr.isNone || i != C.ds
theorem offL_ok {vs : List Nat} (h : offL C vs = true) : ∀ i ∈ vs, OffD C i := fun i m => List.all_eq_true.mp h i m
theorem ne_comp {elt tge iter : Expr} {ifs : List Expr} {scope : Scope} {own : List (Str × Nat)} {is : List Nat} {it : GA} {tg : GTg} {t : GT} {el : GE} (hc : X.calm = true) (hN : X.N.Nodup) (ok : blkC X.N X.env.scope scope own = true) (his : inL is (own.map (·.2)) = true) (hvs : offL C (own.map (·.2)) = true) (hi : PI X tge iter (tIr C it))
    (hg : ∀ (x : Addr) (s : Shared) (H : Hp) (C0 : Addr) (cl : List (Str × Addr)) (fp : List Addr), PG (X.blk s H scope (compEnvC scope cl C0 X.env) fp) tge (tG (C.avoid x) tg is)) (ht : ∀ (x : Addr) (s : Shared) (H : Hp) (C0 : Addr) (cl : List (Str × Addr)) (fp : List Addr), PTs (X.blk s H scope (compEnvC scope cl C0 X.env) fp) ifs (tT (C.avoid x) t))
    (he : ∀ (x : Addr) (s : Shared) (H : Hp) (C0 : Addr) (cl : List (Str × Addr)) (fp : List Addr), DE (X.blk s H scope (compEnvC scope cl C0 X.env) fp) (C.avoid x) elt el) (hs : ∀ x, foldedSetIterable iter X.env x = pure x := by intro _; rfl) :
    NE X C (.ListComp elt [⟨tge, iter, ifs, 0⟩] scope pos) (compN it tg t el (own.map (·.2))) := ne_lc hc hN hi (blkOk_by ok) (inL_ok his) (offL_ok hvs) hg ht he hs
/-- name = [..] on one line, the name a plain local -/
theorem ps_comp {i : Nat} {y : Str} {py : Pos} {elt tge iter : Expr} {ifs : List Expr} {scope : Scope} {own : List (Str × Nat)} {is : List Nat} {spos : Pos} {it : GA} {tg : GTg} {t : GT} {el : GE} (hc : X.calm = true) (hN : X.N.Nodup) (hy : X.N[i]? = some y) (hyl : X.env.scope.names.lookup y = some .local) (hkind : X.env.scope.kind = .function) (hl : (py.line == pos.line) = true)
    (hnn : (scope.names.any fun (n, k) => n == y && (k == .local || k == .cell)) = false) (ok : blkC X.N X.env.scope scope own = true) (his : inL is (own.map (·.2)) = true) (hvs : offL C (own.map (·.2)) = true) (hi : PI X tge iter (tIr C it))
    (hg : ∀ (x : Addr) (s : Shared) (H : Hp) (C0 : Addr) (cl : List (Str × Addr)) (fp : List Addr), PG (X.blk s H scope (compEnvC scope cl C0 X.env) fp) tge (tG (C.avoid x) tg is)) (ht : ∀ (x : Addr) (s : Shared) (H : Hp) (C0 : Addr) (cl : List (Str × Addr)) (fp : List Addr), PTs (X.blk s H scope (compEnvC scope cl C0 X.env) fp) ifs (tT (C.avoid x) t))
    (he : ∀ (x : Addr) (s : Shared) (H : Hp) (C0 : Addr) (cl : List (Str × Addr)) (fp : List Addr), DE (X.blk s H scope (compEnvC scope cl C0 X.env) fp) (C.avoid x) elt el) (hs : ∀ x, foldedSetIterable iter X.env x = pure x := by intro _; rfl) :
    PS X (.Assign [.Name y py] (.ListComp elt [⟨tge, iter, ifs, 0⟩] scope pos) spos) (tAsg (tN C (compN it tg t el (own.map (·.2)))) (gName i)) :=
  ps_lc hc hN hy hyl (sw_true hkind hyl hl hnn) hi (blkOk_by ok) (inL_ok his) (offL_ok hvs) hg ht he hs
end
end TK
end
section
set_option Elab.async false
set_option linter.all false
set_option maxRecDepth 100000
set_option maxHeartbeats 4000000
/-! What reads and writes the law's draws. -/
namespace TK
open PySem PySem.Spec PyProof.Rows L2
def drLen : GE := fun _ γ => some (.int γ.2.length, γ)
def drHd : GE := fun _ γ => match γ.2 with
  | [] => none
  | d :: _ => some (.int d, γ)
def drMix : GE := fun _ γ => some (.int γ.1, γ)
def drPop : GS := fun ρ γ => match γ.2 with
  | [] => none
  | _ :: r => some (.nx ρ, (γ.1, r))
def drSetHd (e : GE) : GS := fun ρ γ => (e ρ γ).bind fun x => match x.1, x.2.2 with
  | .int n, _ :: r => some (.nx ρ, (x.2.1, n :: r))
  | _, _ => none
def drSetMix (e : GE) : GS := fun ρ γ => (e ρ γ).bind fun x => match x.1 with
  | .int n => some (.nx ρ, (n, x.2.2))
  | _ => none
theorem ixN0 (n : Nat) : ixN (n + 1) 0 = some 0 := by
  unfold ixN
  simp
theorem atI0 {α : Type} (x : α) (l : List α) : atI (x :: l) 0 = some x := by
  unfold atI
  rw [List.length_cons, ixN0]
  rfl
section
variable {X : Cx} {C : Cfg} {pos py ip : Pos} {y : Str} {j : Nat} {e : Expr} {ge : GE}
theorem dr_un {ρ : Env} {γ : G} {σ : L2.St} {F H : Hp} (se : SE C ρ γ σ F H) (hC : C.dr.isSome = true) : ∃ p q, C.dr = some (p, q) ∧ σ[C.ds]? = some (some (.ref p)) ∧ p ≠ q ∧ F p = none ∧ F q = none ∧ H p = some (.lst [.int γ.1, .ref q]) ∧ H q = some (.lst (γ.2.map .int)) := by
  have d := se.dr
  cases h : C.dr with
  | none => rw [h] at hC; cases hC
  | some pq =>
    obtain ⟨p, q⟩ := pq
    rw [h] at d
    exact ⟨p, q, rfl, se.dsl p q h, d⟩
theorem set_q {ρ : Env} {γ : G} {σ : L2.St} {F H : Hp} {p q : Addr} {ns : List Int} (se : SE C ρ γ σ F H) (hC : C.dr = some (p, q)) : SE C ρ (γ.1, ns) σ F (upd H q (.lst (ns.map .int))) := by
  have d := se.dr
  rw [hC] at d
  obtain ⟨n, fp, fq, hp, hq⟩ := d
  have st : Stp C.dr F H F (upd H q (.lst (ns.map .int))) := by
    rw [hC]
    refine ⟨Same.refl F, fun x o e => by rw [upd_ne (ne_of_none e fq)]; exact se.fh x o e, fun x o e nd => by rw [upd_ne fun z => nd (.inr z)]; exact e, fun x e => ?_, fun x e _ => e⟩
    by_cases z : x = q
    · subst z
      rw [upd_same]
      simp
    · rw [upd_ne z]
      exact e
  refine se.step st ?_
  rw [hC]
  exact ⟨n, fp, fq, by rw [upd_ne n]; exact hp, upd_same⟩
theorem set_p {ρ : Env} {γ : G} {σ : L2.St} {F H : Hp} {p q : Addr} {m : Int} (se : SE C ρ γ σ F H) (hC : C.dr = some (p, q)) : SE C ρ (m, γ.2) σ F (upd H p (.lst [.int m, .ref q])) := by
  have d := se.dr
  rw [hC] at d
  obtain ⟨n, fp, fq, hp, hq⟩ := d
  have st : Stp C.dr F H F (upd H p (.lst [.int m, .ref q])) := by
    rw [hC]
    refine ⟨Same.refl F, fun x o e => by rw [upd_ne (ne_of_none e fp)]; exact se.fh x o e, fun x o e nd => by rw [upd_ne fun z => nd (.inl z)]; exact e, fun x e => ?_, fun x e _ => e⟩
    by_cases z : x = p
    · subst z
      rw [upd_same]
      simp
    · rw [upd_ne z]
      exact e
  refine se.step st ?_
  rw [hC]
  exact ⟨n, fp, fq, upd_same, by rw [upd_ne n.symm]; exact hq⟩
def tQ (C : Cfg) : TE := fun σ H Q => ∃ ρ γ F, SE C ρ γ σ F H ∧ ∀ p q, C.dr = some (p, q) → Q (.ref q) H
theorem pe_dr1 (hy : PE X (.Name y py) (tVar C.ds)) (hC : C.dr.isSome = true) : PE X (.Subscript (.Name y py) (.Constant (.int 1) j ip) pos) (tQ C) := PE.imp (pe_ix ix_seq hy pe_int (fun _ _ => rfl)) fun σ H Q q => by
  obtain ⟨ρ, γ, F, se, q⟩ := q
  obtain ⟨p, r, hd, hs, n, fp, fq, hp, hq⟩ := dr_un se hC
  exact ⟨_, hs, .inl ⟨_, _, _, _, rfl, rfl, SqL.of hp, rfl, q p r hd⟩⟩
theorem de_dr0 (hy : PE X (.Name y py) (tVar C.ds)) (hC : C.dr.isSome = true) : DE X C (.Subscript (.Name y py) (.Constant (.int 0) j ip) pos) drMix := PE.imp (pe_ix ix_seq hy pe_int (fun _ _ => rfl)) fun σ H Q q => by
  obtain ⟨ρ, γ, F, d, γ', se, hg, q⟩ := q
  cases hg
  obtain ⟨p, r, hd, hs, n, fp, fq, hp, hq⟩ := dr_un se hC
  exact ⟨_, hs, .inl ⟨_, _, _, _, rfl, rfl, SqL.of hp, rfl, q _ F H (Stp.refl se.fh) se.dr (.int _)⟩⟩
theorem dr_list {γ : G} {F H : Hp} {q : Addr} (hq : H q = some (.lst (γ.2.map .int))) : Dr none F H (.ref q) (.list (γ.2.map .int)) := .inr (.inl ⟨q, _, _, rfl, rfl, hq, ints_dv, fun z => z⟩)
theorem de_drlen {p2 p3 : Pos} (hy : PE X (.Name y py) (tVar C.ds)) (hC : C.dr.isSome = true) (hg : Gl X "len") (hm : X.mg "len" = none) (hv : bootBuiltins "len" = some (.builtin "len"))
    (he : starEach (.Subscript (.Name y py) (.Constant (.int 1) j ip) pos :: []) X.env = (false, eval (.Subscript (.Name y py) (.Constant (.int 1) j ip) pos) X.env) :: starEach [] X.env := by rfl) (hpl : (backTo p3 (starEach [] X.env)).any (·.1) = false := by rfl) :
    DE X C (.Call (.Name "len" p2) (.Subscript (.Name y py) (.Constant (.int 1) j ip) pos :: []) [] p3) drLen :=
  PE.imp (pe_callB cl_len hg hm hv (pa_cons (pe_dr1 hy hC) pa_nil he) (by decide) (by decide) he hpl) fun σ H Q q => by
    obtain ⟨ρ, γ, F, d, γ', se, hg, q⟩ := q
    cases hg
    obtain ⟨p, r, hd, hs, n, fp, fq, hp, hq⟩ := dr_un se hC
    refine ⟨ρ, γ, F, se, fun p' r' hd' => ?_⟩
    rw [hd] at hd'
    cases hd'
    refine ⟨none, _, F, _, .int γ.2.length, rfl, se.fh, dr_list hq, ?_, fun w F' H' st dv => q w F' H' st.up (se.dr.step st) dv⟩
    show lenD (.list (γ.2.map .int)) = _
    unfold lenD
    simp
theorem de_dr10 {k : Nat} {p2 p3 : Pos} (hy : PE X (.Name y py) (tVar C.ds)) (hC : C.dr.isSome = true) : DE X C (.Subscript (.Subscript (.Name y py) (.Constant (.int 1) j ip) pos) (.Constant (.int 0) k p2) p3) drHd := PE.imp (pe_ix ix_D (pe_dr1 hy hC) pe_int (fun _ _ => rfl)) fun σ H Q q => by
  obtain ⟨ρ, γ, F, d, γ', se, hg, q⟩ := q
  obtain ⟨p, r, hd, hs, n, fp, fq, hp, hq⟩ := dr_un se hC
  refine ⟨ρ, γ, F, se, fun p' r' hd' => ?_⟩
  rw [hd] at hd'
  cases hd'
  unfold drHd at hg
  cases e : γ.2 with
  | nil => rw [e] at hg; cases hg
  | cons a l =>
    rw [e] at hg
    cases hg
    refine ⟨none, F, _, .int 0, .int a, se.fh, dr_list hq, .int 0, ?_, fun w F' H' st dv => q w F' H' st.up (se.dr.step st) dv⟩
    rw [e]
    exact atI0 _ _
theorem ds_drpop {k : Nat} {apos ap cpos spos : Pos} (hy : PE X (.Name y py) (tVar C.ds)) (hC : C.dr.isSome = true)
    (hbase : attributeBase (.Subscript (.Name y py) (.Constant (.int 1) j ip) pos) "pop" X.env (eval (.Subscript (.Name y py) (.Constant (.int 1) j ip) pos) X.env) = eval (.Subscript (.Name y py) (.Constant (.int 1) j ip) pos) X.env := by rfl)
    (hfew : ((backTo cpos (starEach (.Constant (.int 0) k ap :: []) X.env)).all (fun x => !x.1) && (backToKw cpos (keywordEach [] X.env)).all (fun x => x.1.isSome)
      && decide ((Expr.Constant (.int 0) k ap :: []).length + ([] : List Keyword).length + (if ([] : List Keyword).isEmpty then 0 else 1) < 30)) = true := by rfl)
    (hline : (apos.endLine == cpos.line) = true := by rfl) (hs : starEach (.Constant (.int 0) k ap :: []) X.env = (false, eval (.Constant (.int 0) k ap) X.env) :: starEach [] X.env := by rfl) (hplain : (backTo cpos (starEach [] X.env)).any (·.1) = false := by rfl)
    (hsw : swapsWith (.Call (.Attribute (.Subscript (.Name y py) (.Constant (.int 1) j ip) pos) "pop" apos) (.Constant (.int 0) k ap :: []) [] cpos) none spos.line X.env = pure false := by rfl) :
    DS X C (.Expr (.Call (.Attribute (.Subscript (.Name y py) (.Constant (.int 1) j ip) pos) "pop" apos) (.Constant (.int 0) k ap :: []) [] cpos) spos) drPop :=
  PS.imp (ps_expr (pe_bm PySem.F.plainAttrs_list PySem.F.slot_list_pop PySem.F.type_list_pop mt_popAt (pe_dr1 hy hC) (pa_cons pe_int pa_nil hs) hbase hfew hline hs hplain) hsw) fun E σ H q => by
    obtain ⟨ρ, γ, F, o, γ', se, hg, q⟩ := q
    obtain ⟨p, r, hd, hs, n, fp, fq, hp, hq⟩ := dr_un se hC
    refine ⟨ρ, γ, F, se, fun p' r' hd' => ?_⟩
    rw [hd] at hd'
    cases hd'
    unfold drPop at hg
    cases e : γ.2 with
    | nil => rw [e] at hg; cases hg
    | cons a l =>
      rw [e] at hg
      cases hg
      refine ⟨tyL hq, r, _, 0, 0, .int a, rfl, rfl, hq, by decide, by decide, ?_, ?_, ?_⟩
      · rw [e, List.map_cons, List.length_cons]
        exact (ixN_seq (ixN0 _)).1
      · rw [e]
        rfl
      · rw [e]
        exact q σ F _ (Same.refl F) (set_q (ns := l) se hd)
theorem ds_drhd {k : Nat} {p2 p3 spos : Pos} (h : PS X (.Assign [.Subscript (.Subscript (.Name y py) (.Constant (.int 1) j ip) pos) (.Constant (.int 0) k p2) p3] e spos) (tAsg (tD C ge) (gSub (tQ C) (tC (.int 0)) rSetL))) (hC : C.dr.isSome = true) :
    DS X C (.Assign [.Subscript (.Subscript (.Name y py) (.Constant (.int 1) j ip) pos) (.Constant (.int 0) k p2) p3] e spos) (drSetHd ge) := PS.imp h fun E σ H q => by
  obtain ⟨ρ, γ, F, o, γ', se, hg, q⟩ := q
  obtain ⟨⟨x, γ1⟩, e1, hg⟩ := bnd hg
  refine ⟨ρ, γ, F, x, γ1, se, e1, fun v F' H' st dr dv => ?_⟩
  have se2 := se.step st dr
  obtain ⟨p, r, hd, hs, n, fp, fq, hp, hq⟩ := dr_un se2 hC
  refine ⟨ρ, γ1, F', se2, fun p' r' hd' => ?_⟩
  rw [hd] at hd'
  cases hd'
  cases x with
  | int m =>
    cases dv
    cases e2 : γ1.2 with
    | nil =>
      simp only [e2] at hg
      cases hg
    | cons a l =>
      simp only [e2] at hg
      cases hg
      refine ⟨r, _, 0, 0, rfl, rfl, hq, ?_, ?_⟩
      · rw [e2]
        exact ixN0 _
      · rw [e2]
        exact q σ F' _ st.ff (set_q (ns := m :: l) se2 hd)
  | _ => cases hg
theorem ds_drmix {k : Nat} {p3 spos : Pos} (h : PS X (.Assign [.Subscript (.Name y py) (.Constant (.int 0) k ip) p3] e spos) (tAsg (tD C ge) (gSub (tVar C.ds) (tC (.int 0)) rSetL))) (hC : C.dr.isSome = true) :
    DS X C (.Assign [.Subscript (.Name y py) (.Constant (.int 0) k ip) p3] e spos) (drSetMix ge) := PS.imp h fun E σ H q => by
  obtain ⟨ρ, γ, F, o, γ', se, hg, q⟩ := q
  obtain ⟨⟨x, γ1⟩, e1, hg⟩ := bnd hg
  refine ⟨ρ, γ, F, x, γ1, se, e1, fun v F' H' st dr dv => ?_⟩
  have se2 := se.step st dr
  obtain ⟨p, r, hd, hs, n, fp, fq, hp, hq⟩ := dr_un se2 hC
  cases x with
  | int m =>
    cases dv
    cases hg
    exact ⟨.ref p, hs, p, _, 0, 0, rfl, rfl, hp, rfl, q σ F' _ st.ff (set_p se2 hd)⟩
  | _ => cases hg
end
end TK
end
section
set_option Elab.async false
set_option linter.all false
set_option maxRecDepth 100000
set_option maxHeartbeats 4000000
/-! Slots that own more: two lists in a list, freezing, pop within a display. -/
namespace TK
open PySem PySem.Spec PyProof.Rows L2

section
variable {C : Cfg} {ρ : Env} {γ γ' : G} {σ : L2.St} {F H F' H' F2 : Hp} {i : Nat} {d : D} {v : V}
/-- a new value in a slot that owns -/
theorem SE.ownG {L : List Addr} (s : SE C ρ γ σ F H) (st : Stp C.dr F H F' H') (dr : DRo C.dr γ' F' H') (hd : OffD C i) (hav : C.av = fun _ => False) (hL : ∀ a ∈ L, H a = none ∧ F' a = none ∧ H' a ≠ none) (ok : SlOk F' H' (C.kd i) v d L) :
    SE C (ρ.set i (some d)) γ' (σ.set i (some v)) F' H' := by
  have s2 := s.step st dr
  obtain ⟨fp, h1, h2, h3⟩ := s.sl
  refine ⟨s2.ent, dr, s.drh, fun p q e => by rw [List.getElem?_set_ne (offD hd e)]; exact s.dsl p q e, by simpa using s.len, fun j => if j = i then L else fp j, fun j x e => ?_, fun j b m => ?_, fun j l n b m => ?_⟩
  · rcases set_get e with ⟨e1, e2, e3⟩ | ⟨e1, e2⟩
    · subst e1
      cases e2
      refine ⟨v, List.getElem?_set_self (by rw [← s.len]; exact e3), ?_⟩
      simp only [if_true]
      exact ok
    · obtain ⟨w, hw, ok⟩ := h1 j x e2
      refine ⟨w, by rw [List.getElem?_set_ne (Ne.symm e1)]; exact hw, ?_⟩
      simp only [if_neg e1]
      refine ok.step st.ff fun b m => ?_
      obtain ⟨n1, n2, n3, _⟩ := h2 j b m
      cases q : H b with
      | none => exact absurd q n3
      | some o => exact st.keep b o q (s.nodr n2)
  · by_cases e : j = i
    · simp only [if_pos e] at m
      obtain ⟨m1, m2, m3⟩ := hL b m
      refine ⟨m2, ?_, m3, fun z => by rw [hav] at z; exact z⟩
      cases z : C.H0 b with
      | none => rfl
      | some o => exact absurd m1 (s.ent.dom b (by rw [z]; simp))
    · simp only [if_neg e] at m
      obtain ⟨n1, n2, n3, n4⟩ := h2 j b m
      exact ⟨st.old b n1 n3, n2, st.dom b n3, n4⟩
  · by_cases e : j = i
    · simp only [if_pos e] at m
      have e2 : l ≠ i := fun z => n (e.trans z.symm)
      simp only [if_neg e2]
      intro hb
      exact (h2 l _ hb).2.2.1 (hL b m).1
    · simp only [if_neg e] at m
      by_cases e2 : l = i
      · simp only [if_pos e2]
        intro z
        exact (h2 j _ m).2.2.1 (hL b z).1
      · simp only [if_neg e2]
        exact h3 j l n b m
/-- an owned object changes -/
theorem SE.mutG (s : SE C ρ γ σ F H) (e : ρ[i]? = some (some d)) : ∃ v L, σ[i]? = some (some v) ∧ SlOk F H (C.kd i) v d L ∧ (∀ a ∈ L, ¬ isDr C.dr a) ∧
    ∀ b o d1, b ∈ L → SlOk F (upd H b o) (C.kd i) v d1 L → SE C (ρ.set i (some d1)) γ σ F (upd H b o) := by
  obtain ⟨fp, h1, h2, h3⟩ := s.sl
  obtain ⟨v, hv, ok⟩ := h1 i _ e
  refine ⟨v, fp i, hv, ok, fun a m => s.nodr (h2 i a m).2.1, fun b o d1 hb ok2 => ?_⟩
  obtain ⟨n1, n2, n3, n4⟩ := h2 i b hb
  have nd := s.nodr n2
  have fh : Same F (upd H b o) := fun x u q => by rw [upd_ne (ne_of_none q n1)]; exact s.fh x u q
  refine ⟨⟨s.ent.ff, fh, fun x u q nq => by rw [upd_ne (ne_of_none q n2)]; exact s.ent.keep x u q nq, fun x q => ?_, s.ent.old⟩, ?_, s.drh, s.dsl, by simpa using s.len, fp, fun j x q => ?_, fun j b' m => ?_, h3⟩
  · by_cases z : x = b
    · subst z
      rw [upd_same]
      simp
    · rw [upd_ne z]
      exact s.ent.dom x q
  · have dr := s.dr
    cases hC : C.dr with
    | none => trivial
    | some pq =>
      obtain ⟨p, q⟩ := pq
      rw [hC] at dr nd
      obtain ⟨m, d1, d2, d3, d4⟩ := dr
      have np : p ≠ b := fun z => nd (.inl z.symm)
      have nq : q ≠ b := fun z => nd (.inr z.symm)
      exact ⟨m, d1, d2, by rw [upd_ne np]; exact d3, by rw [upd_ne nq]; exact d4⟩
  · rcases set_get q with ⟨e1, e2, e3⟩ | ⟨e1, e2⟩
    · subst e1
      cases e2
      exact ⟨v, hv, ok2⟩
    · obtain ⟨w, hw, ok⟩ := h1 j x e2
      refine ⟨w, hw, ok.step (Same.refl F) fun b' m => upd_ne fun z => ?_⟩
      subst z
      exact h3 j i e1 _ m hb
  · obtain ⟨m1, m2, m3, m4⟩ := h2 j b' m
    refine ⟨m1, m2, ?_, m4⟩
    by_cases z : b' = b
    · subst z
      rw [upd_same]
      simp
    · rw [upd_ne z]
      exact m3
/-- what a slot owns is frozen -/
theorem frz_val {k : Kd} {L : List Addr} (ok : SlOk F H k v d L) (fh : Same F H) (hF : ∀ a ∈ L, F a = none) : ∃ F2, Same F F2 ∧ Same F2 H ∧ (∀ b, b ∉ L → F2 b = F b) ∧ Dv F2 v d := by
  have one : ∀ {F : Hp} {a : Addr} {o : HO}, Same F H → F a = none → H a = some o → Same F (upd F a o) ∧ Same (upd F a o) H ∧ ∀ b, b ≠ a → upd F a o b = F b := fun {F a o} fh n e => by
    refine ⟨same_new n, fun x u q => ?_, fun b hb => upd_ne hb⟩
    by_cases z : x = a
    · subst z
      rw [upd_same] at q
      rw [e]
      exact q
    · rw [upd_ne z] at q
      exact fh x u q
  cases k with
  | pure => exact ⟨F, Same.refl F, fh, fun _ _ => rfl, ok.1⟩
  | lst =>
    obtain ⟨a, xs, ds, rfl, rfl, rfl, e4, e5⟩ := ok
    obtain ⟨k1, k2, k3⟩ := one fh (hF a (by simp)) e4
    exact ⟨_, k1, k2, fun b hb => k3 b (by simpa using hb), .lst upd_same (e5.up k1)⟩
  | dic =>
    obtain ⟨a, xs, ds, rfl, rfl, rfl, e4, e5⟩ := ok
    obtain ⟨k1, k2, k3⟩ := one fh (hF a (by simp)) e4
    exact ⟨_, k1, k2, fun b hb => k3 b (by simpa using hb), .dic upd_same e5⟩
  | nest =>
    obtain ⟨a, l, m, xs, ys, ds, es, rfl, rfl, rfl, n1, n2, n3, e4, e5, e6, e7, e8⟩ := ok
    obtain ⟨k1, k2, k3⟩ := one fh (hF l (by simp)) e5
    have hm : upd F l (HO.lst xs) m = none := by rw [upd_ne (Ne.symm n3)]; exact hF m (by simp)
    obtain ⟨j1, j2, j3⟩ := one k2 hm e6
    have ha : upd (upd F l (HO.lst xs)) m (HO.lst ys) a = none := by rw [upd_ne n2, upd_ne n1]; exact hF a (by simp)
    obtain ⟨i1, i2, i3⟩ := one j2 ha e4
    refine ⟨_, (k1.trans j1).trans i1, i2, fun b hb => ?_, .lst upd_same (.cons (.lst (i1 _ _ (j1 _ _ upd_same)) (e7.up ((k1.trans j1).trans i1))) (.cons (.lst (i1 _ _ upd_same) (e8.up ((k1.trans j1).trans i1))) .nil))⟩
    simp only [List.mem_cons, List.not_mem_nil, or_false, not_or] at hb
    rw [i3 b hb.1, j3 b hb.2.2, k3 b hb.2.1]
theorem SE.frz {l : List Kd} (s : SE C ρ γ σ F H) (hC : C.kd = kdOf l) : ∃ F2, Same F F2 ∧ SE { C with kd := kdOf (l.set i .pure) } ρ γ σ F2 H := by
  obtain ⟨fp, h1, h2, h3⟩ := s.sl
  have hk : ∀ j, j ≠ i → kdOf (l.set i .pure) j = C.kd j := fun j n => by
    rw [hC]
    unfold kdOf
    rw [List.getD_eq_getElem?_getD, List.getD_eq_getElem?_getD, List.getElem?_set_ne (Ne.symm n)]
  have hki : kdOf (l.set i .pure) i = .pure := by
    unfold kdOf
    rw [List.getD_eq_getElem?_getD]
    by_cases hl : i < l.length
    · rw [List.getElem?_set_self hl] <;> rfl
    · rw [List.getElem?_eq_none (by rw [List.length_set]; omega)] <;> rfl
  have main : ∀ F2, Same F F2 → Same F2 H → (∀ b, b ∉ fp i → F2 b = F b) → (∀ x, ρ[i]? = some (some x) → ∃ v, σ[i]? = some (some v) ∧ Dv F2 v x) → SE { C with kd := kdOf (l.set i .pure) } ρ γ σ F2 H := fun F2 k1 k2 k3 hv => by
    have nf : ∀ {b : Addr}, C.H0 b ≠ none → b ∉ fp i := fun hb m => hb (h2 i _ m).2.1
    refine ⟨⟨s.ent.ff.trans k1, k2, s.ent.keep, s.ent.dom, fun a e n => by rw [k3 a (nf n)]; exact s.ent.old a e n⟩, ?_, s.drh, s.dsl, s.len, fun j => if j = i then [] else fp j, fun j x e => ?_, fun j b m => ?_, fun j l n b m => ?_⟩
    · have dr := s.dr
      show DRo C.dr γ F2 H
      cases e : C.dr with
      | none => trivial
      | some pq =>
        obtain ⟨p, q⟩ := pq
        have dh := s.drh
        rw [e] at dr dh
        obtain ⟨m, d1, d2, d3, d4⟩ := dr
        exact ⟨m, by rw [k3 p (nf (dh p (.inl rfl)))]; exact d1, by rw [k3 q (nf (dh q (.inr rfl)))]; exact d2, d3, d4⟩
    · by_cases ej : j = i
      · subst ej
        obtain ⟨v, hv1, hv2⟩ := hv x e
        refine ⟨v, hv1, ?_⟩
        show SlOk F2 H (kdOf (l.set j .pure) j) v x _
        rw [hki]
        simp only [if_true]
        exact ⟨hv2, rfl⟩
      · obtain ⟨v, hv1, ok⟩ := h1 j x e
        refine ⟨v, hv1, ?_⟩
        show SlOk F2 H (kdOf (l.set i .pure) j) v x _
        rw [hk j ej]
        simp only [if_neg ej]
        exact ok.step k1 fun _ _ => rfl
    · by_cases ej : j = i
      · simp [ej] at m
      · simp only [if_neg ej] at m
        obtain ⟨n1, n2, n3, n4⟩ := h2 j b m
        exact ⟨by rw [k3 b (h3 j i ej b m)]; exact n1, n2, n3, n4⟩
    · by_cases e : j = i
      · simp [e] at m
      · simp only [if_neg e] at m
        by_cases e2 : l = i
        · simp [e2]
        · simp only [if_neg e2]
          exact h3 j l n b m
  by_cases hx : ∃ x, ρ[i]? = some (some x)
  · obtain ⟨x, hx⟩ := hx
    obtain ⟨v, hv, ok⟩ := h1 i x hx
    obtain ⟨F2, k1, k2, k3, dv⟩ := frz_val ok s.fh fun a m => (h2 i a m).1
    exact ⟨F2, k1, main F2 k1 k2 k3 fun y hy => by
      rw [hx] at hy
      cases hy
      exact ⟨v, hv, dv⟩⟩
  · exact ⟨F, Same.refl F, main F (Same.refl F) s.fh (fun _ _ => rfl) fun y hy => absurd ⟨y, hy⟩ hx⟩
end
def frzS (g : GS) : GS := fun ρ γ => (g ρ γ).bind fun r => match r.1 with
  | .rt d => some (.rt d, r.2)
  | .nx _ => none
section
variable {X : Cx} {C : Cfg} {pos spos : Pos} {s : Stmt} {rest : List Stmt} {g : GS} {i : Nat} {e : Expr} {ge : GE}
theorem dss_frz {l : List Kd} (i : Nat) (hC : C.kd = kdOf l) (h : DSs X { C with kd := kdOf (l.set i .pure) } rest g) : DSs X C rest (frzS g) := PSs.imp h fun E σ H q => by
  obtain ⟨ρ, γ, F, o, γ', se, hg, q⟩ := q
  obtain ⟨⟨r, γ1⟩, e1, hg⟩ := bnd hg
  obtain ⟨F2, k, se2⟩ := se.frz (i := i) hC
  cases r with
  | nx ρ' => cases hg
  | rt d =>
    cases hg
    exact ⟨ρ, γ, F2, .rt d, _, se2, e1, fun v F' H' k2 st dr dv => q v F' H' (k.trans k2) st dr dv⟩
/-- x = [[], []] -/
def nestS (i : Nat) : GS := fun ρ γ => some (.nx (ρ.set i (some (.list [.list [], .list []]))), γ)
theorem ds_nest (h : PS X s (tAsg (tLst (tCons (tLst tNil) (tCons (tLst tNil) tNil))) (gName i))) (hk : C.kd i = .nest) (hd : OffD C i) (hav : C.av = fun _ => False) : DS X C s (nestS i) := PS.imp h fun E σ H q => by
  obtain ⟨ρ, γ, F, o, γ', se, hg, q⟩ := q
  cases hg
  refine ⟨Nat.zero_le _, fun l hl => ⟨Nat.zero_le _, fun m hm => ⟨(by decide : 2 ≤ sizeLine), fun a ha => ?_⟩⟩⟩
  have nlm : m ≠ l := fun z => by rw [z, upd_same] at hm; cases hm
  have hm0 : H m = none := by rw [upd_ne nlm] at hm; exact hm
  have nam : a ≠ m := fun z => by rw [z, upd_same] at ha; cases ha
  have ha1 : upd H l (HO.lst []) a = none := by rw [upd_ne nam] at ha; exact ha
  have nal : a ≠ l := fun z => by rw [z, upd_same] at ha1; cases ha1
  have ha0 : H a = none := by rw [upd_ne nal] at ha1; exact ha1
  have st : Stp C.dr F H F (upd (upd (upd H l (HO.lst [])) m (HO.lst [])) a (HO.lst [.ref l, .ref m])) := by
    have s1 : Stp C.dr F H F (upd H l (HO.lst [])) := Stp.lay se.fh hl
    have s2 : Stp C.dr F (upd H l (HO.lst [])) F (upd (upd H l (HO.lst [])) m (HO.lst [])) := Stp.lay s1.fh hm
    exact (s1.trans s2).trans (Stp.lay s2.fh ha)
  have dr : ∀ g0, DRo C.dr g0 F H → DRo C.dr g0 F (upd (upd (upd H l (HO.lst [])) m (HO.lst [])) a (HO.lst [.ref l, .ref m])) := fun g0 dr => by
    cases hC : C.dr with
    | none => trivial
    | some pq =>
      obtain ⟨p, q⟩ := pq
      rw [hC] at dr
      obtain ⟨n, d1, d2, d3, d4⟩ := dr
      refine ⟨n, d1, d2, ?_, ?_⟩
      · rw [upd_ne (ne_of_none d3 ha0), upd_ne (ne_of_none d3 hm0), upd_ne (ne_of_none d3 hl)]
        exact d3
      · rw [upd_ne (ne_of_none d4 ha0), upd_ne (ne_of_none d4 hm0), upd_ne (ne_of_none d4 hl)]
        exact d4
  refine q _ F _ (Same.refl F) (se.ownG (L := [a, l, m]) st (dr _ se.dr) hd hav (fun b hb => ?_) ?_)
  · simp only [List.mem_cons, List.not_mem_nil, or_false] at hb
    rcases hb with rfl | rfl | rfl
    · exact ⟨ha0, se.fh.free ha0, by rw [upd_same]; simp⟩
    · exact ⟨hl, se.fh.free hl, by rw [upd_ne (Ne.symm nal), upd_ne (Ne.symm nlm), upd_same]; simp⟩
    · exact ⟨hm0, se.fh.free hm0, by rw [upd_ne (Ne.symm nam), upd_same]; simp⟩
  · rw [hk]
    exact ⟨a, l, m, [], [], [], [], rfl, rfl, rfl, nal, nam, Ne.symm nlm, upd_same, by rw [upd_ne (Ne.symm nal), upd_ne (Ne.symm nlm), upd_same], by rw [upd_ne (Ne.symm nam), upd_same], .nil, .nil⟩
/-- x[k].append(e) for a slot of two lists -/
def twoD : D → Option (List D × List D)
  | .list [.list ds, .list es] => some (ds, es)
  | _ => none
theorem twoD_un {d : D} {z : List D × List D} (h : twoD d = some z) : d = .list [.list z.1, .list z.2] := by
  unfold twoD at h
  split at h
  · cases h
    rfl
  · cases h
def nestL (ρ : Env) (i : Nat) : Option (List D × List D) := match ρ[i]? with
  | some (some d) => twoD d
  | _ => none
theorem nestL_un {ρ : Env} {z : List D × List D} (h : nestL ρ i = some z) : ρ[i]? = some (some (.list [.list z.1, .list z.2])) := by
  unfold nestL at h
  split at h
  · rename_i d e
    rw [e, twoD_un h]
  · cases h
def nappS (i : Nat) (k a : GE) : GS := fun ρ γ => (k ρ γ).bind fun y => (a ρ y.2).bind fun x => (nestL ρ i).bind fun z => match y.1 with
  | .int 0 => if z.1.length < LINE then some (.nx (ρ.set i (some (.list [.list (z.1 ++ [x.1]), .list z.2]))), x.2) else none
  | .int 1 => if z.2.length < LINE then some (.nx (ρ.set i (some (.list [.list z.1, .list (z.2 ++ [x.1])]))), x.2) else none
  | _ => none
theorem ds_napp {y : Str} {py ip : Pos} {k : Expr} {gk : GE} {apos cpos : Pos} (hy : PE X (.Name y py) (tVar i)) (hkk : DE X C k gk) (hix : PlainIx k) (he : DE X C e ge) (hk : C.kd i = .nest)
    (hbase : attributeBase (.Subscript (.Name y py) k ip) "append" X.env (eval (.Subscript (.Name y py) k ip) X.env) = eval (.Subscript (.Name y py) k ip) X.env := by rfl)
    (hfew : ((backTo cpos (starEach (e :: []) X.env)).all (fun x => !x.1) && (backToKw cpos (keywordEach [] X.env)).all (fun x => x.1.isSome)
      && decide ((e :: []).length + ([] : List Keyword).length + (if ([] : List Keyword).isEmpty then 0 else 1) < 30)) = true := by rfl)
    (hline : (apos.endLine == cpos.line) = true := by rfl) (hs : starEach (e :: []) X.env = (false, eval e X.env) :: starEach [] X.env := by rfl) (hplain : (backTo cpos (starEach [] X.env)).any (·.1) = false := by rfl)
    (hsw : swapsWith (.Call (.Attribute (.Subscript (.Name y py) k ip) "append" apos) (e :: []) [] cpos) none pos.line X.env = pure false := by rfl) :
    DS X C (.Expr (.Call (.Attribute (.Subscript (.Name y py) k ip) "append" apos) (e :: []) [] cpos) pos) (nappS i gk ge) :=
  PS.imp (ps_expr (pe_bm PySem.F.plainAttrs_list PySem.F.slot_list_append PySem.F.type_list_append mt_append (pe_ix ix_seq hy hkk hix) (pa_cons he pa_nil hs) hbase hfew hline hs hplain) hsw) fun E σ H q => by
    obtain ⟨ρ, γ, F, o, γ', se, hg, q⟩ := q
    obtain ⟨⟨y, γ1⟩, e1, hg⟩ := bnd hg
    obtain ⟨⟨x, γ2⟩, e2, hg⟩ := bnd hg
    obtain ⟨⟨ds, es⟩, e0, hg⟩ := bnd hg
    have e0 := nestL_un e0
    simp only at hg
    obtain ⟨v0, L0, hv0, ok0, nd0, _⟩ := se.mutG e0
    refine ⟨v0, hv0, ρ, γ, F, y, γ1, se, e1, fun kv F' H' st dr dv => ?_⟩
    have se2 := se.step st dr
    obtain ⟨v1, L1, hv1, ok1, nd1, _⟩ := se2.mutG e0
    rw [hv0] at hv1
    cases hv1
    rw [hk] at ok1
    obtain ⟨a, l, m, xs, ys, ds', es', rfl, ed, rfl, n1, n2, n3, o4, o5, o6, o7, o8⟩ := ok1
    cases ed
    have fin : ∀ (b : Addr) (zs : List V), (b = l ∨ b = m) → H' b = some (.lst zs) → (∀ v F2 H2 zs2, Stp C.dr F' H' F2 H2 → DRo C.dr γ2 F2 H2 → Dv F2 v x → H2 b = some (.lst zs2) → zs2.length < sizeLine ∧ E.nx σ (upd H2 b (.lst (zs2 ++ [v])))) →
        tyV X.K "list" (.ref b) H' ∧ tCons (tD C ge) tNil σ H' fun xs H2 => rAppend (.ref b) xs H2 fun _ H1 => E.nx σ H1 := fun b zs hb hz q2 => by
      refine ⟨tyL hz, ρ, γ1, F', x, γ2, se2, e2, fun v F2 H2 st2 dr2 dv2 => ?_⟩
      have hz2 : H2 b = some (.lst zs) := st2.keep b _ hz (nd1 b (by rcases hb with rfl | rfl <;> simp))
      obtain ⟨h1, h2⟩ := q2 v F2 H2 zs st2 dr2 dv2 hz2
      exact ⟨b, zs, v, rfl, rfl, hz2, h1, h2⟩
    split at hg
    · split at hg
      · rename_i hz
        cases hg
        cases dv
        refine .inl ⟨a, [.ref l, .ref m], 0, .ref l, rfl, rfl, SqL.of o4, atI0 _ _, fin l xs (.inl rfl) o5 fun v F2 H2 zs2 st2 dr2 dv2 hz2 => ?_⟩
        have se3 := se2.step st2 dr2
        obtain ⟨v3, L3, hv3, ok3, nd3, mk⟩ := se3.mutG e0
        rw [hv0] at hv3
        cases hv3
        rw [hk] at ok3
        obtain ⟨a', l', m', xs', ys', ds', es', ev, ed, rfl, n1', n2', n3', p4, p5, p6, p7, p8⟩ := ok3
        cases ev
        cases ed
        have pa := (st2.keep _ _ o4 (nd1 _ (by simp))).symm.trans p4
        cases pa
        rw [p5] at hz2
        cases hz2
        refine ⟨by rw [p7.len]; exact line_lt hz, q σ F2 _ (st.ff.trans st2.ff) (mk l (.lst (zs2 ++ [v])) _ (by simp) ?_)⟩
        rw [hk]
        exact ⟨a, l, m, zs2 ++ [v], ys', _, _, rfl, rfl, rfl, n1, n2, n3, by rw [upd_ne n1]; exact p4, upd_same, by rw [upd_ne (Ne.symm n3)]; exact p6, p7.snoc dv2, p8⟩
      · cases hg
    · split at hg
      · rename_i hz
        cases hg
        cases dv
        refine .inl ⟨a, [.ref l, .ref m], 1, .ref m, rfl, rfl, SqL.of o4, rfl, fin m ys (.inr rfl) o6 fun v F2 H2 zs2 st2 dr2 dv2 hz2 => ?_⟩
        have se3 := se2.step st2 dr2
        obtain ⟨v3, L3, hv3, ok3, nd3, mk⟩ := se3.mutG e0
        rw [hv0] at hv3
        cases hv3
        rw [hk] at ok3
        obtain ⟨a', l', m', xs', ys', ds', es', ev, ed, rfl, n1', n2', n3', p4, p5, p6, p7, p8⟩ := ok3
        cases ev
        cases ed
        have pa := (st2.keep _ _ o4 (nd1 _ (by simp))).symm.trans p4
        cases pa
        rw [p6] at hz2
        cases hz2
        refine ⟨by rw [p8.len]; exact line_lt hz, q σ F2 _ (st.ff.trans st2.ff) (mk m (.lst (zs2 ++ [v])) _ (by simp) ?_)⟩
        rw [hk]
        exact ⟨a, l, m, xs', zs2 ++ [v], _, _, rfl, rfl, rfl, n1, n2, n3, by rw [upd_ne n2]; exact p4, by rw [upd_ne n3]; exact p5, upd_same, p7, p8.snoc dv2⟩
      · cases hg
    · cases hg
end
end TK
end
section
set_option Elab.async false
set_option linter.all false
set_option maxRecDepth 100000
set_option maxHeartbeats 4000000
namespace TK
open PySem PySem.Spec PyProof.Rows L2
def g_name_at : GS := seqS (setS 1 (cE (.str ""))) (seqS (setS 2 (binE addD (varE 0) (cE (.int 1)))) (seqS (whlS (valT (binE gtD (varE 2) (cE (.int 0)))) (seqS (setS 2 (binE subD (varE 2) (cE (.int 1)))) (seqS (setS 1 (binE addD (binE idxD (cE (.str "abcdefghijklmnopqrstuvwxyz")) (binE modD (varE 2) (unE lenD (cE (.str "abcdefghijklmnopqrstuvwxyz"))))) (varE 1))) (setS 2 (binE fdivD (varE 2) (unE lenD (cE (.str "abcdefghijklmnopqrstuvwxyz")))))))) (retS (varE 1))))
def f_name_at : List D → Option D := runP 3 g_name_at
def g_new_name : GS := seqS (setS 1 (cE (.int 0))) (seqS (whlS (valT (binE inD (callE f_name_at (consA (varE 1) (nilA))) (varE 0))) (setS 1 (binE addD (varE 1) (cE (.int 1))))) (retS (callE f_name_at (consA (varE 1) (nilA)))))
def f_new_name : List D → Option D := runP 2 g_new_name
def g_names_in : GS := retS (newE (compN (seqI (varE 0)) (tgN 1) (yesT) (binE idxD (varE 1) (cE (.int 0))) [1]))
def f_names_in : List D → Option D := runP 2 g_names_in
def g_has_part : GS := retS (orE (binE inD (varE 1) (callE f_names_in (consA (binE idxD (varE 0) (cE (.int 0))) (nilA)))) (binE inD (varE 1) (callE f_names_in (consA (binE idxD (varE 0) (cE (.int 1))) (nilA)))))
def f_has_part : List D → Option D := runP 2 g_has_part
def g_side_of : GS := seqS (forS (seqI (tupE (consA (cE (.int 0)) (consA (cE (.int 1)) (nilA))))) (tgN 2) (ifS (valT (binE inD (varE 1) (callE f_names_in (consA (binE idxD (varE 0) (varE 2)) (nilA))))) (retS (varE 2)) (nextS))) (failS)
def f_side_of : List D → Option D := runP 3 g_side_of
def g_part_named : GS := seqS (forS (seqI (binE idxD (varE 0) (callE f_side_of (consA (varE 0) (consA (varE 1) (nilA)))))) (tgN 2) (ifS (valT (binE eqD (binE idxD (varE 2) (cE (.int 0))) (varE 1))) (retS (varE 2)) (nextS))) (failS)
def f_part_named : List D → Option D := runP 3 g_part_named
def g_text_of : GS := retS (binE idxD (callE f_part_named (consA (varE 0) (consA (varE 1) (nilA)))) (cE (.int 1)))
def f_text_of : List D → Option D := runP 2 g_text_of
def g_moments_of : GS := retS (binE idxD (callE f_part_named (consA (varE 0) (consA (varE 1) (nilA)))) (cE (.int 2)))
def f_moments_of : List D → Option D := runP 2 g_moments_of
def g_link_of : GS := seqS (setS 2 (callE f_side_of (consA (varE 0) (consA (varE 1) (nilA))))) (seqS (forS (seqI (binE idxD (varE 0) (cE (.int 2)))) (tgN 3) (ifS (valT (binE inD (varE 1) (binE idxD (varE 3) (varE 2)))) (retS (varE 3)) (nextS))) (retS (cE .none)))
def f_link_of : List D → Option D := runP 4 g_link_of
def g_stale_since : GS := seqS (ownS 3 (listN (binE idxD (binE idxD (varE 1) (cE (.int 3))) (binE subD (cE (.int 1)) (varE 2))))) (seqS (forS (seqI (binE idxD (varE 1) (binE subD (cE (.int 1)) (varE 2)))) (tgN 4) (extS 3 (callE f_moments_of (consA (varE 0) (consA (varE 4) (nilA)))))) (retS (unE minDN (newE (compN (seqI (varE 3)) (tgN 5) (valT (binE gtD (varE 5) (binE idxD (varE 1) (cE (.int 2))))) (varE 5) [5])))))
def f_stale_since : List D → Option D := runP 6 g_stale_since
def g_state_of : GS := seqS (setS 2 (callE f_side_of (consA (varE 0) (consA (varE 1) (nilA))))) (seqS (ifS (valT (binE inD (varE 1) (binE idxD (varE 0) (cE (.int 3))))) (retS (tupE (consA (cE (.str "alone")) (nilA)))) (nextS)) (seqS (setS 3 (callE f_link_of (consA (varE 0) (consA (varE 1) (nilA))))) (seqS (ifS (valT (binE isND (varE 3) (cE .none))) (retS (tupE (consA (cE (.str "lacking")) (nilA)))) (nextS)) (seqS (setS 4 (callE f_stale_since (consA (varE 0) (consA (varE 3) (consA (varE 2) (nilA)))))) (seqS (ifS (valT (binE isND (varE 4) (cE .none))) (retS (tupE (consA (cE (.str "step")) (nilA)))) (nextS)) (retS (tupE (consA (cE (.str "stale")) (consA (varE 4) (nilA))))))))))
def f_state_of : List D → Option D := runP 5 g_state_of
def g_states : GS := seqS (setS 1 (newE (compN (seqI (sliceE (varE 0) (noneO) (someO (cE (.int 2))))) (tgN 2) (yesT) (unE tupleD (newE (compN (seqI (varE 2)) (tgN 3) (yesT) (tupE (consA (binE idxD (varE 3) (cE (.int 0))) (consA (callE f_state_of (consA (varE 0) (consA (binE idxD (varE 3) (cE (.int 0))) (nilA)))) (nilA)))) [3]))) [2]))) (retS (tupE (consA (binE idxD (varE 1) (cE (.int 0))) (consA (binE idxD (varE 1) (cE (.int 1))) (nilA)))))
def f_states : List D → Option D := runP 4 g_states
def g_lacking : GS := seqS (setS 1 (newE (compN (seqI (callE f_states (consA (varE 0) (nilA)))) (tgN 2) (yesT) (unE tupleD (newE (compN (seqI (varE 2)) (tgT [3, 4]) (valT (binE eqD (varE 4) (tupE (consA (cE (.str "lacking")) (nilA))))) (varE 3) [3, 4]))) [2]))) (retS (tupE (consA (binE idxD (varE 1) (cE (.int 0))) (consA (binE idxD (varE 1) (cE (.int 1))) (nilA)))))
def f_lacking : List D → Option D := runP 5 g_lacking
def g_stale : GS := seqS (tgtS (tgT [2, 3]) (callE f_states (consA (varE 0) (nilA)))) (seqS (setS 1 (newE (compN (seqI (binE addD (varE 2) (varE 3))) (tgT [4, 5]) (valT (binE eqD (binE idxD (varE 5) (cE (.int 0))) (cE (.str "stale")))) (tupE (consA (binE idxD (varE 5) (cE (.int 1))) (consA (varE 4) (nilA)))) [4, 5]))) (retS (unE tupleD (newE (compN (seqI (unE sortedD (varE 1))) (tgT [6, 4]) (yesT) (tupE (consA (varE 4) (consA (varE 6) (nilA)))) [6, 4])))))
def f_stale : List D → Option D := runP 7 g_stale
def g_in_step : GS := seqS (tgtS (tgT [1, 2]) (callE f_states (consA (varE 0) (nilA)))) (retS (unE allD (newE (compN (seqI (binE addD (varE 1) (varE 2))) (tgT [3, 4]) (yesT) (binE inD (binE idxD (varE 4) (cE (.int 0))) (tupE (consA (cE (.str "step")) (consA (cE (.str "alone")) (nilA))))) [3, 4]))))
def f_in_step : List D → Option D := runP 5 g_in_step
def g_step_names : GS := seqS (setS 1 (newE (compN (seqI (callE f_stale (consA (varE 0) (nilA)))) (tgT [5, 6]) (yesT) (varE 5) [5, 6]))) (seqS (ownS 2 (lstN (nilA))) (seqS (forS (seqI (binE idxD (varE 0) (cE (.int 2)))) (tgN 3) (seqS (setS 4 (binE addD (binE idxD (varE 3) (cE (.int 0))) (binE idxD (varE 3) (cE (.int 1))))) (ifS (valT (unE anyD (newE (compN (seqI (varE 4)) (tgN 5) (yesT) (binE inD (varE 5) (varE 1)) [5])))) (appS 2 (unE minD1 (varE 4))) (nextS)))) (retS (unE sortedD (varE 2)))))
def f_step_names : List D → Option D := runP 7 g_step_names
def g_last_of : GS := seqS (ifS (valT (binE eqD (unE lenD (varE 0)) (cE (.int 0)))) (retS (cE (.str ""))) (nextS)) (retS (binE idxD (binE idxD (varE 0) (unE negD (cE (.int 1)))) (cE (.int 0))))
def f_last_of : List D → Option D := runP 1 g_last_of
def g_fresh_link : GS := seqS (ifS (valT (binE eqD (varE 0) (cE (.int 0)))) (retS (tupE (consA (cE (.str "link")) (consA (varE 3) (consA (tupE (consA (varE 1) (nilA))) (consA (tupE (consA (varE 2) (nilA))) (nilA))))))) (nextS)) (retS (tupE (consA (cE (.str "link")) (consA (varE 3) (consA (tupE (consA (varE 2) (nilA))) (consA (tupE (consA (varE 1) (nilA))) (nilA)))))))
def f_fresh_link : List D → Option D := runP 4 g_fresh_link
def g_parts_with : GS := seqS (ifS (valT (binE eqD (varE 2) (cE (.str "")))) (retS (binE addD (tupE (consA (varE 1) (nilA))) (varE 0))) (nextS)) (seqS (ownS 3 (lstN (nilA))) (seqS (forS (seqI (varE 0)) (tgN 4) (seqS (appS 3 (varE 4)) (ifS (valT (binE eqD (binE idxD (varE 4) (cE (.int 0))) (varE 2))) (appS 3 (varE 1)) (nextS)))) (retS (unE tupleD (varE 3)))))
def f_parts_with : List D → Option D := runP 5 g_parts_with
def g_links_exchanged : GS := seqS (ownS 3 (compN (seqI (varE 0)) (tgN 4) (valT (binE neD (varE 4) (varE 1))) (varE 4) [4])) (seqS (ifS (valT (binE notND (varE 2) (cE .none))) (appS 3 (varE 2)) (nextS)) (retS (unE tupleD (unE sortedD (varE 3)))))
def f_links_exchanged : List D → Option D := runP 5 g_links_exchanged
def g_with_side : GS := retS (binE addD (binE addD (sliceE (varE 0) (noneO) (someO (varE 1))) (tupE (consA (varE 2) (nilA)))) (sliceE (varE 0) (someO (binE addD (varE 1) (cE (.int 1)))) (noneO)))
def f_with_side : List D → Option D := runP 3 g_with_side
def g_look_behind : GS := ifS (andT (valT (binE neD (varE 2) (cE (.str "")))) (valT (binE neD (callE f_side_of (consA (varE 0) (consA (varE 2) (nilA)))) (varE 1)))) (failS) (nextS)
def f_look_behind : List D → Option D := runP 3 g_look_behind
def g_is_alone : GS := retS (binE inD (varE 1) (binE idxD (varE 0) (cE (.int 3))))
def f_is_alone : List D → Option D := runP 2 g_is_alone
def g_put_done : GS := seqS (tgtS (tgT [2, 3, 4, 5, 6, 7]) (varE 1)) (seqS (dropS (callE f_look_behind (consA (varE 0) (consA (varE 4) (consA (varE 5) (nilA)))))) (seqS (ifS (valT (callE f_has_part (consA (varE 0) (consA (varE 6) (nilA))))) (failS) (nextS)) (retS (callE f_with_side (consA (varE 0) (consA (varE 4) (consA (callE f_parts_with (consA (binE idxD (varE 0) (varE 4)) (consA (tupE (consA (varE 6) (consA (varE 7) (consA (tupE (consA (varE 3) (nilA))) (nilA))))) (consA (varE 5) (nilA))))) (nilA))))))))
def f_put_done : List D → Option D := runP 8 g_put_done
def g_link_done : GS := seqS (tgtS (tgT [4, 5, 6, 7]) (varE 1)) (seqS (setS 2 (newE (compN (seqI (binE addD (varE 6) (varE 7))) (tgN 8) (yesT) (callE f_side_of (consA (varE 0) (consA (varE 8) (nilA)))) [8]))) (seqS (ifS (valT (binE neD (varE 2) (binE addD (binE mulD (newE (lstN (consA (cE (.int 0)) (nilA)))) (unE lenD (varE 6))) (binE mulD (newE (lstN (consA (cE (.int 1)) (nilA)))) (unE lenD (varE 7)))))) (failS) (nextS)) (seqS (ifS (valT (unE anyD (newE (compN (seqI (binE addD (varE 6) (varE 7))) (tgN 8) (yesT) (orE (binE notND (callE f_link_of (consA (varE 0) (consA (varE 8) (nilA)))) (cE .none)) (callE f_is_alone (consA (varE 0) (consA (varE 8) (nilA))))) [8])))) (failS) (nextS)) (seqS (setS 3 (tupE (consA (unE tupleD (unE sortedD (varE 6))) (consA (unE tupleD (unE sortedD (varE 7))) (consA (varE 5) (consA (tupE (consA (tupE (nilA)) (consA (tupE (nilA)) (nilA)))) (nilA))))))) (retS (binE addD (sliceE (varE 0) (noneO) (someO (cE (.int 2)))) (tupE (consA (callE f_links_exchanged (consA (binE idxD (varE 0) (cE (.int 2))) (consA (cE .none) (consA (varE 3) (nilA))))) (consA (binE idxD (varE 0) (cE (.int 3))) (nilA))))))))))
def f_link_done : List D → Option D := runP 9 g_link_done
def g_own_link : GS := seqS (setS 2 (callE f_link_of (consA (varE 0) (consA (varE 1) (nilA))))) (seqS (ifS (valT (binE isND (varE 2) (cE .none))) (failS) (nextS)) (retS (varE 2)))
def f_own_link : List D → Option D := runP 3 g_own_link
def g_step_done : GS := seqS (setS 2 (callE f_own_link (consA (varE 0) (consA (binE idxD (varE 1) (cE (.int 2))) (nilA))))) (retS (binE addD (sliceE (varE 0) (noneO) (someO (cE (.int 2)))) (tupE (consA (callE f_links_exchanged (consA (binE idxD (varE 0) (cE (.int 2))) (consA (varE 2) (consA (binE addD (sliceE (varE 2) (noneO) (someO (cE (.int 2)))) (tupE (consA (binE idxD (varE 1) (cE (.int 1))) (consA (tupE (consA (tupE (nilA)) (consA (tupE (nilA)) (nilA)))) (nilA))))) (nilA))))) (consA (binE idxD (varE 0) (cE (.int 3))) (nilA))))))
def f_step_done : List D → Option D := runP 3 g_step_done
def g_words_of : GS := seqS (ownS 1 (lstN (nilA))) (seqS (setS 2 (cE (.str ""))) (seqS (forS (strI (varE 0)) (tgN 3) (ifS (orT (valT (binE inD (varE 3) (cE (.str "abcdefghijklmnopqrstuvwxyz")))) (orT (valT (binE inD (varE 3) (cE (.str "ABCDEFGHIJKLMNOPQRSTUVWXYZ")))) (valT (binE inD (varE 3) (cE (.str "0123456789")))))) (setS 2 (binE addD (varE 2) (varE 3))) (ifS (valT (binE neD (varE 2) (cE (.str "")))) (seqS (appS 1 (varE 2)) (setS 2 (cE (.str "")))) (nextS)))) (seqS (ifS (valT (binE neD (varE 2) (cE (.str "")))) (appS 1 (varE 2)) (nextS)) (retS (unE tupleD (varE 1))))))
def f_words_of : List D → Option D := runP 4 g_words_of
def g_cores_of : GS := retS (unE tupleD (newE (compN (seqI (callE f_words_of (consA (varE 0) (nilA)))) (tgN 1) (yesT) (unE lowerD (varE 1)) [1])))
def f_cores_of : List D → Option D := runP 2 g_cores_of
def g_cores_in : GS := seqS (dicS 1) (seqS (forS (seqI (varE 0)) (tgN 2) (forS (seqI (callE f_cores_of (consA (varE 2) (nilA)))) (tgN 3) (putS 1 (varE 3) (cE (.bool true))))) (retS (varE 1)))
def f_cores_in : List D → Option D := runP 4 g_cores_in
def g_hits : GS := seqS (setS 3 (callE f_cores_in (consA (varE 0) (nilA)))) (seqS (setS 4 (callE f_cores_in (consA (varE 1) (nilA)))) (retS (unE lenD (newE (compN (seqI (varE 2)) (tgN 5) (andT (valT (binE inD (binE idxD (varE 5) (cE (.int 0))) (varE 3))) (valT (binE inD (binE idxD (varE 5) (cE (.int 1))) (varE 4)))) (varE 5) [5])))))
def f_hits : List D → Option D := runP 6 g_hits
def g_fits_of : GS := seqS (tgtS (tgT [5, 6]) (callE f_lacking (consA (varE 0) (nilA)))) (seqS (ownS 3 (lstN (nilA))) (seqS (forS (seqI (varE 5)) (tgN 4) (forS (seqI (varE 6)) (tgN 7) (ifS (valT (binE geD (callE f_hits (consA (tupE (consA (callE f_text_of (consA (varE 0) (consA (varE 4) (nilA)))) (nilA))) (consA (tupE (consA (callE f_text_of (consA (varE 0) (consA (varE 7) (nilA)))) (nilA))) (consA (varE 1) (nilA))))) (varE 2))) (appS 3 (tupE (consA (varE 4) (consA (varE 7) (nilA))))) (nextS)))) (retS (unE tupleD (unE sortedD (varE 3))))))
def f_fits_of : List D → Option D := runP 8 g_fits_of
def g_is_rising : GS := retS (unE allD (newE (compN (zipI (varE 0) (sliceE (varE 0) (someO (cE (.int 1))) (noneO))) (tgT [1, 2]) (yesT) (binE ltD (varE 1) (varE 2)) [1, 2])))
def f_is_rising : List D → Option D := runP 3 g_is_rising
def g_is_hand : GS := seqS (ifS (notT (valT (unE isTupD (varE 0)))) (retS (cE (.bool false))) (nextS)) (seqS (ifS (valT (binE eqD (unE lenD (varE 0)) (cE (.int 3)))) (retS (andE (binE eqD (binE idxD (varE 0) (cE (.int 0))) (cE (.str "pair"))) (binE inD (sliceE (varE 0) (someO (cE (.int 1))) (noneO)) (varE 1)))) (nextS)) (retS (andE (binE eqD (unE lenD (varE 0)) (cE (.int 2))) (andE (binE eqD (binE idxD (varE 0) (cE (.int 0))) (cE (.str "make"))) (binE inD (binE idxD (varE 0) (cE (.int 1))) (varE 2))))))
def f_is_hand : List D → Option D := runP 3 g_is_hand
def g_are_served : GS := seqS (ifS (notT (valT (unE allD (newE (compN (seqI (varE 0)) (tgN 7) (yesT) (callE f_is_hand (consA (varE 7) (consA (varE 1) (consA (binE addD (varE 2) (varE 3)) (nilA))))) [7]))))) (retS (cE (.bool false))) (nextS)) (seqS (setS 4 (newE (compN (seqI (varE 0)) (tgN 7) (valT (binE eqD (binE idxD (varE 7) (cE (.int 0))) (cE (.str "pair")))) (varE 7) [7]))) (seqS (setS 5 (sliceE (varE 0) (someO (unE lenD (varE 4))) (noneO))) (seqS (ifS (orT (notT (valT (unE allD (newE (compN (seqI (varE 5)) (tgN 7) (yesT) (binE eqD (binE idxD (varE 7) (cE (.int 0))) (cE (.str "make"))) [7]))))) (orT (notT (valT (callE f_is_rising (consA (varE 4) (nilA))))) (notT (valT (callE f_is_rising (consA (varE 5) (nilA))))))) (retS (cE (.bool false))) (nextS)) (seqS (ownS 6 (lstN (nilA))) (seqS (forS (seqI (varE 0)) (tgN 7) (extS 6 (sliceE (varE 7) (someO (cE (.int 1))) (noneO)))) (retS (binE eqD (unE sortedD (varE 6)) (unE sortedD (binE addD (varE 2) (varE 3))))))))))
def f_are_served : List D → Option D := runP 8 g_are_served
def g_is_paper : GS := seqS (ifS (orT (notT (valT (unE isTupD (varE 0)))) (orT (notT (valT (unE allD (newE (compN (seqI (varE 0)) (tgN 3) (yesT) (binE inD (varE 3) (varE 2)) [3]))))) (notT (valT (callE f_is_rising (consA (varE 0) (nilA))))))) (retS (cE (.bool false))) (nextS)) (retS (notE (unE anyD (newE (compN (seqI (varE 1)) (tgT [4, 5]) (yesT) (andE (binE inD (varE 4) (varE 0)) (binE inD (varE 5) (varE 0))) [4, 5])))))
def f_is_paper : List D → Option D := runP 6 g_is_paper
def g_shows_hands : GS := seqS (ifS (orT (notT (valT (unE isTupD (varE 2)))) (orT (valT (binE neD (unE lenD (varE 2)) (cE (.int 2)))) (notT (valT (unE isTupD (binE idxD (varE 2) (cE (.int 0)))))))) (retS (cE (.bool false))) (nextS)) (seqS (tgtS (tgT [4, 5]) (varE 2)) (seqS (setS 3 (callE f_step_names (consA (varE 0) (nilA)))) (seqS (tgtS (tgT [6, 7]) (callE f_lacking (consA (varE 0) (nilA)))) (seqS (ifS (valT (binE neD (sliceE (varE 4) (noneO) (someO (unE lenD (varE 3)))) (unE tupleD (newE (compN (seqI (varE 3)) (tgN 8) (yesT) (tupE (consA (cE (.str "step")) (consA (varE 8) (nilA)))) [8]))))) (retS (cE (.bool false))) (nextS)) (seqS (ifS (notT (valT (callE f_are_served (consA (newE (listN (sliceE (varE 4) (someO (unE lenD (varE 3))) (noneO)))) (consA (varE 1) (consA (varE 6) (consA (varE 7) (nilA)))))))) (retS (cE (.bool false))) (nextS)) (retS (andE (callE f_is_paper (consA (varE 5) (consA (varE 1) (consA (binE addD (newE (listN (binE addD (varE 6) (varE 7)))) (varE 3)) (nilA))))) (binE eqD (unE lenD (varE 5)) (unE lenD (varE 4))))))))))
def f_shows_hands : List D → Option D := runP 9 g_shows_hands
def g__law_lacking : GS := seqS (setS 1 (newE (listN (binE idxD (varE 0) (cE (.int 3)))))) (seqS (forS (seqI (binE idxD (varE 0) (cE (.int 2)))) (tgN 2) (setS 1 (binE addD (binE addD (varE 1) (newE (listN (binE idxD (varE 2) (cE (.int 0)))))) (newE (listN (binE idxD (varE 2) (cE (.int 1)))))))) (retS (newE (compN (seqI (sliceE (varE 0) (noneO) (someO (cE (.int 2))))) (tgN 3) (yesT) (newE (compN (seqI (varE 3)) (tgN 4) (valT (binE notInD (binE idxD (varE 4) (cE (.int 0))) (varE 1))) (binE idxD (varE 4) (cE (.int 0))) [4])) [3]))))
def f__law_lacking : List D → Option D := runP 5 g__law_lacking
def g__law_is_stale : GS := seqS (setS 2 (binE addD (newE (listN (binE idxD (binE idxD (varE 1) (cE (.int 3))) (cE (.int 0))))) (newE (listN (binE idxD (binE idxD (varE 1) (cE (.int 3))) (cE (.int 1))))))) (seqS (forS (seqI (binE addD (binE idxD (varE 0) (cE (.int 0))) (binE idxD (varE 0) (cE (.int 1))))) (tgT [3, 4, 5]) (ifS (valT (binE inD (varE 3) (binE addD (binE idxD (varE 1) (cE (.int 0))) (binE idxD (varE 1) (cE (.int 1)))))) (setS 2 (binE addD (varE 2) (newE (listN (varE 5))))) (nextS))) (retS (unE anyD (newE (compN (seqI (varE 2)) (tgN 6) (yesT) (binE gtD (varE 6) (binE idxD (varE 1) (cE (.int 2)))) [6])))))
def f__law_is_stale : List D → Option D := runP 7 g__law_is_stale
def g__law_all_in_step : GS := seqS (tgtS (tgL [1, 2]) (callE f__law_lacking (consA (varE 0) (nilA)))) (retS (andE (binE eqD (binE addD (varE 1) (varE 2)) (newE (lstN (nilA)))) (notE (unE anyD (newE (compN (seqI (binE idxD (varE 0) (cE (.int 2)))) (tgN 3) (yesT) (callE f__law_is_stale (consA (varE 0) (consA (varE 3) (nilA)))) [3]))))))
def f__law_all_in_step : List D → Option D := runP 4 g__law_all_in_step
def g__law_latest : GS := seqS (ownS 1 (lstN (consA (cE (.int 0)) (nilA)))) (seqS (forS (seqI (binE addD (binE idxD (varE 0) (cE (.int 0))) (binE idxD (varE 0) (cE (.int 1))))) (tgT [2, 3, 4]) (extS 1 (varE 4))) (seqS (forS (seqI (binE idxD (varE 0) (cE (.int 2)))) (tgT [5, 6, 7, 8]) (extS 1 (binE addD (binE addD (newE (lstN (consA (varE 7) (nilA)))) (newE (listN (binE idxD (varE 8) (cE (.int 0)))))) (newE (listN (binE idxD (varE 8) (cE (.int 1)))))))) (retS (unE maxD1 (varE 1)))))
def f__law_latest : List D → Option D := runP 9 g__law_latest
end TK
end
section
set_option Elab.async false
set_option linter.all false
set_option maxRecDepth 100000
set_option maxHeartbeats 4000000
namespace TK
open PySem PySem.Spec PyProof.Rows L2
theorem b_len : bootBuiltins "len" = some (.builtin "len") := by decide +kernel
theorem b_sorted : bootBuiltins "sorted" = some (.builtin "sorted") := by decide +kernel
theorem b_any : bootBuiltins "any" = some (.builtin "any") := by decide +kernel
theorem b_all : bootBuiltins "all" = some (.builtin "all") := by decide +kernel
theorem b_sum : bootBuiltins "sum" = some (.builtin "sum") := by decide +kernel
theorem b_abs : bootBuiltins "abs" = some (.builtin "abs") := by decide +kernel
theorem b_min : bootBuiltins "min" = some (.builtin "min") := by decide +kernel
theorem b_max : bootBuiltins "max" = some (.builtin "max") := by decide +kernel
theorem b_tuple : bootBuiltins "tuple" = some (.type "tuple") := by decide +kernel
theorem b_int : bootBuiltins "int" = some (.type "int") := by decide +kernel
theorem b_list : bootBuiltins "list" = some (.type "list") := by decide +kernel
theorem _root_.L2.Room.u65 {k : Nat} {A : Around} (r : Room k A) : A.units + 65 < cLine := by have := r.un; omega
theorem _root_.L2.Room.u1 {k : Nat} {A : Around} (r : Room k A) : A.units + 1 < cLine := by have := r.un; omega
section
variable {P : Program} {w : World} {K : PySem.W.Frag} {mg : Str → Option Value} {base : Heap}
theorem sc_name_at : FnScope ["k", "name", "left"] ["k"] d_name_at.scope := ⟨rfl, rfl, rfl, by decide +kernel, rfl, by decide +kernel, by decide +kernel⟩
theorem ok_name_at (W : Wd K mg) : Fk P w K mg base 1 "name_at" ["k"] (spD 1 f_name_at) :=
  have S := sc_name_at
  fk_pure (g := g_name_at) (d := d_name_at) (N := ["k", "name", "left"]) W 0 0 rfl rfl rfl rfl rfl S (kdOf [.pure, .pure, .pure]) rfl rfl (fun _ _ _ _ _ _ us hl => match us, hl with | [_], _ => rfl) fun f cdv A outer s H F E hr =>
  dss_cons (ds_set (ps_set (i := 1) S.nd rfl (by first | exact .inl rfl | exact .inr rfl) (de_str)) rfl rfl)
  (dss_cons (ds_set (ps_set (i := 2) S.nd rfl (by first | exact .inl rfl | exact .inr rfl) (de_op op_addD (de_var (pv 0) rfl) (de_int))) rfl rfl)
  (dss_cons (ds_while PassesOwn.never (dt_cmp (op_gtDD hr.units) (de_var (pv 2) rfl) (de_int) rfl) (dss_cons (ds_set (ps_set (i := 2) S.nd rfl (by first | exact .inl rfl | exact .inr rfl) (de_op op_subD (de_var (pv 2) rfl) (de_int))) rfl rfl)
  (dss_cons (ds_set (ps_set (i := 1) S.nd rfl (by first | exact .inl rfl | exact .inr rfl) (de_op op_addD (de_ix (DE.rd (de_gstr rfl (W.str 71))) (de_op op_modD (de_var (pv 2) rfl) (de_b1 cl_len rfl (W.free 56) b_len (DE.rd (de_gstr rfl (W.str 71))))) (fun _ _ => rfl)) (de_var (pv 1) rfl))) rfl rfl)
  (dss_one (ds_set (ps_set (i := 2) S.nd rfl (by first | exact .inl rfl | exact .inr rfl) (de_op op_fdivD (de_var (pv 2) rfl) (de_b1 cl_len rfl (W.free 56) b_len (DE.rd (de_gstr rfl (W.str 71)))))) rfl rfl)))))
  (dss_one (ds_ret (ps_ret (de_var (pv 1) rfl))))))
theorem sc_new_name : FnScope ["names", "k"] ["names"] d_new_name.scope := ⟨rfl, rfl, rfl, by decide +kernel, rfl, by decide +kernel, by decide +kernel⟩
theorem ok_new_name (W : Wd K mg) : Fk P w K mg base 2 "new_name" ["names"] (spD 1 f_new_name) :=
  have S := sc_new_name
  fk_pure (g := g_new_name) (d := d_new_name) (N := ["names", "k"]) W 1 1 rfl rfl rfl rfl rfl S (kdOf [.pure, .pure]) rfl rfl (fun _ _ _ _ _ _ us hl => match us, hl with | [_], _ => rfl) fun f cdv A outer s H F E hr =>
  dss_cons (ds_set (ps_set (i := 1) S.nd rfl (by first | exact .inl rfl | exact .inr rfl) (de_int)) rfl rfl)
  (dss_cons (ds_while PassesOwn.never (dt_in (op_inDD hr.u65) (de_callF (ok_name_at W) hr (by decide) rfl (da_cons (de_var (pv 1) rfl) (da_nil)) (consA_len (nilA_len))) (DE.rd (de_var (pv 0) rfl)) rfl) (dss_one (ds_set (ps_set (i := 1) S.nd rfl (by first | exact .inl rfl | exact .inr rfl) (de_op op_addD (de_var (pv 1) rfl) (de_int))) rfl rfl)))
  (dss_one (ds_ret (ps_ret (de_callF (ok_name_at W) hr (by decide) rfl (da_cons (de_var (pv 1) rfl) (da_nil)) (consA_len (nilA_len)))))))
theorem sc_names_in : FnScope ["parts", "part"] ["parts"] d_names_in.scope := ⟨rfl, rfl, rfl, by decide +kernel, rfl, by decide +kernel, by decide +kernel⟩
theorem ok_names_in (W : Wd K mg) : Fk P w K mg base 1 "names_in" ["parts"] (spD 1 f_names_in) :=
  have S := sc_names_in
  fk_pure (g := g_names_in) (d := d_names_in) (N := ["parts", "part"]) W 2 2 rfl rfl rfl rfl rfl S (kdOf [.pure, .pure]) rfl rfl (fun _ _ _ _ _ _ us hl => match us, hl with | [_], _ => rfl) fun f cdv A outer s H F E hr =>
  dss_one (ds_ret (ps_ret (NE.de (ne_comp (own := [("part", 1)]) (is := [1]) rfl S.nd rfl rfl rfl (PI.rd (pi_seq (de_var (pv 0) rfl))) (fun _ _ _ _ _ _ => dg_name (pg_name (i := 1) S.nd rfl (by first | exact .inl rfl | exact .inr rfl)) rfl rfl) (fun _ _ _ _ _ _ => dts_nil) (fun _ _ _ _ _ _ => de_ix (DE.rd (de_var (pv 1) rfl)) (de_int) (fun _ _ => rfl))))))
theorem sc_has_part : FnScope ["book", "name"] ["book", "name"] d_has_part.scope := ⟨rfl, rfl, rfl, by decide +kernel, rfl, by decide +kernel, by decide +kernel⟩
theorem ok_has_part (W : Wd K mg) : Fk P w K mg base 2 "has_part" ["book", "name"] (spD 2 f_has_part) :=
  have S := sc_has_part
  fk_pure (g := g_has_part) (d := d_has_part) (N := ["book", "name"]) W 3 3 rfl rfl rfl rfl rfl S (kdOf [.pure, .pure]) rfl rfl (fun _ _ _ _ _ _ us hl => match us, hl with | [_, _], _ => rfl) fun f cdv A outer s H F E hr =>
  dss_one (ds_ret (ps_ret (de_or (de_in (op_inDD hr.u65) (de_var (pv 1) rfl) (DE.rd (de_callF (ok_names_in W) hr (by decide) rfl (da_cons (de_ix (DE.rd (de_var (pv 0) rfl)) (de_int) (fun _ _ => rfl)) (da_nil)) (consA_len (nilA_len)))) rfl) (de_one (de_in (op_inDD hr.u65) (de_var (pv 1) rfl) (DE.rd (de_callF (ok_names_in W) hr (by decide) rfl (da_cons (de_ix (DE.rd (de_var (pv 0) rfl)) (de_int) (fun _ _ => rfl)) (da_nil)) (consA_len (nilA_len)))) rfl)))))
theorem sc_side_of : FnScope ["book", "name", "side"] ["book", "name"] d_side_of.scope := ⟨rfl, rfl, rfl, by decide +kernel, rfl, by decide +kernel, by decide +kernel⟩
theorem ok_side_of (W : Wd K mg) : Fk P w K mg base 2 "side_of" ["book", "name"] (spD 2 f_side_of) :=
  have S := sc_side_of
  fk_pure (g := g_side_of) (d := d_side_of) (N := ["book", "name", "side"]) W 4 4 rfl rfl rfl rfl rfl S (kdOf [.pure, .pure, .pure]) rfl rfl (fun _ _ _ _ _ _ us hl => match us, hl with | [_, _], _ => rfl) fun f cdv A outer s H F E hr =>
  dss_cons (ds_for PassesOwn.never rfl (pi_seq (de_tup (da_cons (de_int) (da_cons (de_int) (da_nil))))) (dg_name (pg_name (i := 2) S.nd rfl (by first | exact .inl rfl | exact .inr rfl)) rfl rfl) (dss_one (ds_if (dt_in (op_inDD hr.u65) (de_var (pv 1) rfl) (DE.rd (de_callF (ok_names_in W) hr (by decide) rfl (da_cons (de_ix (DE.rd (de_var (pv 0) rfl)) (de_var (pv 2) rfl) (fun _ _ => rfl)) (da_nil)) (consA_len (nilA_len)))) rfl) (dss_one (ds_ret (ps_ret (de_var (pv 2) rfl)))) (dss_nil))))
  (dss_one (ds_never))
theorem sc_part_named : FnScope ["book", "name", "part"] ["book", "name"] d_part_named.scope := ⟨rfl, rfl, rfl, by decide +kernel, rfl, by decide +kernel, by decide +kernel⟩
theorem ok_part_named (W : Wd K mg) : Fk P w K mg base 3 "part_named" ["book", "name"] (spD 2 f_part_named) :=
  have S := sc_part_named
  fk_pure (g := g_part_named) (d := d_part_named) (N := ["book", "name", "part"]) W 5 5 rfl rfl rfl rfl rfl S (kdOf [.pure, .pure, .pure]) rfl rfl (fun _ _ _ _ _ _ us hl => match us, hl with | [_, _], _ => rfl) fun f cdv A outer s H F E hr =>
  dss_cons (ds_for PassesOwn.never rfl (pi_seq (de_ix (DE.rd (de_var (pv 0) rfl)) (de_callF (ok_side_of W) hr (by decide) rfl (da_cons (de_var (pv 0) rfl) (da_cons (de_var (pv 1) rfl) (da_nil))) (consA_len (consA_len (nilA_len)))) (fun _ _ => rfl))) (dg_name (pg_name (i := 2) S.nd rfl (by first | exact .inl rfl | exact .inr rfl)) rfl rfl) (dss_one (ds_if (dt_cmp (op_eqDD hr.units) (de_ix (DE.rd (de_var (pv 2) rfl)) (de_int) (fun _ _ => rfl)) (de_var (pv 1) rfl) rfl) (dss_one (ds_ret (ps_ret (de_var (pv 2) rfl)))) (dss_nil))))
  (dss_one (ds_never))
theorem sc_text_of : FnScope ["book", "name"] ["book", "name"] d_text_of.scope := ⟨rfl, rfl, rfl, by decide +kernel, rfl, by decide +kernel, by decide +kernel⟩
theorem ok_text_of (W : Wd K mg) : Fk P w K mg base 4 "text_of" ["book", "name"] (spD 2 f_text_of) :=
  have S := sc_text_of
  fk_pure (g := g_text_of) (d := d_text_of) (N := ["book", "name"]) W 6 6 rfl rfl rfl rfl rfl S (kdOf [.pure, .pure]) rfl rfl (fun _ _ _ _ _ _ us hl => match us, hl with | [_, _], _ => rfl) fun f cdv A outer s H F E hr =>
  dss_one (ds_ret (ps_ret (de_ix (DE.rd (de_callF (ok_part_named W) hr (by decide) rfl (da_cons (de_var (pv 0) rfl) (da_cons (de_var (pv 1) rfl) (da_nil))) (consA_len (consA_len (nilA_len))))) (de_int) (fun _ _ => rfl))))
theorem sc_moments_of : FnScope ["book", "name"] ["book", "name"] d_moments_of.scope := ⟨rfl, rfl, rfl, by decide +kernel, rfl, by decide +kernel, by decide +kernel⟩
theorem ok_moments_of (W : Wd K mg) : Fk P w K mg base 4 "moments_of" ["book", "name"] (spD 2 f_moments_of) :=
  have S := sc_moments_of
  fk_pure (g := g_moments_of) (d := d_moments_of) (N := ["book", "name"]) W 7 7 rfl rfl rfl rfl rfl S (kdOf [.pure, .pure]) rfl rfl (fun _ _ _ _ _ _ us hl => match us, hl with | [_, _], _ => rfl) fun f cdv A outer s H F E hr =>
  dss_one (ds_ret (ps_ret (de_ix (DE.rd (de_callF (ok_part_named W) hr (by decide) rfl (da_cons (de_var (pv 0) rfl) (da_cons (de_var (pv 1) rfl) (da_nil))) (consA_len (consA_len (nilA_len))))) (de_int) (fun _ _ => rfl))))
theorem sc_link_of : FnScope ["book", "name", "side", "link"] ["book", "name"] d_link_of.scope := ⟨rfl, rfl, rfl, by decide +kernel, rfl, by decide +kernel, by decide +kernel⟩
theorem ok_link_of (W : Wd K mg) : Fk P w K mg base 3 "link_of" ["book", "name"] (spD 2 f_link_of) :=
  have S := sc_link_of
  fk_pure (g := g_link_of) (d := d_link_of) (N := ["book", "name", "side", "link"]) W 8 8 rfl rfl rfl rfl rfl S (kdOf [.pure, .pure, .pure, .pure]) rfl rfl (fun _ _ _ _ _ _ us hl => match us, hl with | [_, _], _ => rfl) fun f cdv A outer s H F E hr =>
  dss_cons (ds_set (ps_set (i := 2) S.nd rfl (by first | exact .inl rfl | exact .inr rfl) (de_callF (ok_side_of W) hr (by decide) rfl (da_cons (de_var (pv 0) rfl) (da_cons (de_var (pv 1) rfl) (da_nil))) (consA_len (consA_len (nilA_len))))) rfl rfl)
  (dss_cons (ds_for PassesOwn.never rfl (pi_seq (de_ix (DE.rd (de_var (pv 0) rfl)) (de_int) (fun _ _ => rfl))) (dg_name (pg_name (i := 3) S.nd rfl (by first | exact .inl rfl | exact .inr rfl)) rfl rfl) (dss_one (ds_if (dt_in (op_inDD hr.u65) (de_var (pv 1) rfl) (DE.rd (de_ix (DE.rd (de_var (pv 3) rfl)) (de_var (pv 2) rfl) (fun _ _ => rfl))) rfl) (dss_one (ds_ret (ps_ret (de_var (pv 3) rfl)))) (dss_nil))))
  (dss_one (ds_ret (ps_ret (de_non)))))
theorem sc_stale_since : FnScope ["book", "link", "side", "moments", "name", "moment"] ["book", "link", "side"] d_stale_since.scope := ⟨rfl, rfl, rfl, by decide +kernel, rfl, by decide +kernel, by decide +kernel⟩
theorem ok_stale_since (W : Wd K mg) : Fk P w K mg base 5 "stale_since" ["book", "link", "side"] (spD 3 f_stale_since) :=
  have S := sc_stale_since
  fk_pure (g := g_stale_since) (d := d_stale_since) (N := ["book", "link", "side", "moments", "name", "moment"]) W 9 15 rfl rfl rfl rfl rfl S (kdOf [.pure, .pure, .pure, .lst, .pure, .pure]) rfl rfl (fun _ _ _ _ _ _ us hl => match us, hl with | [_, _, _], _ => rfl) fun f cdv A outer s H F E hr =>
  dss_cons (ds_own (ps_set (i := 3) S.nd rfl (by first | exact .inl rfl | exact .inr rfl) (ne_list rfl (W.free 58) b_list (DE.rd (de_ix (DE.rd (de_ix (DE.rd (de_var (pv 1) rfl)) (de_int) (fun _ _ => rfl))) (de_op op_subD (de_int) (de_var (pv 2) rfl)) (fun _ _ => rfl))))) rfl rfl rfl)
  (dss_cons (ds_for PassesOwn.never rfl (pi_seq (de_ix (DE.rd (de_var (pv 1) rfl)) (de_op op_subD (de_int) (de_var (pv 2) rfl)) (fun _ _ => rfl))) (dg_name (pg_name (i := 4) S.nd rfl (by first | exact .inl rfl | exact .inr rfl)) rfl rfl) (dss_one (ds_ext (pv 3) (DE.rd (de_callF (ok_moments_of W) hr (by decide) rfl (da_cons (de_var (pv 0) rfl) (da_cons (de_var (pv 4) rfl) (da_nil))) (consA_len (consA_len (nilA_len))))) rfl)))
  (dss_one (ds_ret (ps_ret (de_minN rfl hr.units rfl (W.free 62) (DE.rd (NE.de (ne_comp (own := [("moment", 5)]) (is := [5]) rfl S.nd rfl rfl rfl (pi_seqr (re_own (pv 3) rfl)) (fun _ _ _ _ _ _ => dg_name (pg_name (i := 5) S.nd rfl (by first | exact .inl rfl | exact .inr rfl)) rfl rfl) (fun _ _ _ _ _ _ => dts_one (dt_cmp (op_gtDD hr.units) (de_var (pv 5) rfl) (de_ix (DE.rd (de_var (pv 1) rfl)) (de_int) (fun _ _ => rfl)) rfl)) (fun _ _ _ _ _ _ => de_var (pv 5) rfl)))))))))
theorem sc_state_of : FnScope ["book", "name", "side", "link", "since"] ["book", "name"] d_state_of.scope := ⟨rfl, rfl, rfl, by decide +kernel, rfl, by decide +kernel, by decide +kernel⟩
theorem ok_state_of (W : Wd K mg) : Fk P w K mg base 6 "state_of" ["book", "name"] (spD 2 f_state_of) :=
  have S := sc_state_of
  fk_pure (g := g_state_of) (d := d_state_of) (N := ["book", "name", "side", "link", "since"]) W 10 16 rfl rfl rfl rfl rfl S (kdOf [.pure, .pure, .pure, .pure, .pure]) rfl rfl (fun _ _ _ _ _ _ us hl => match us, hl with | [_, _], _ => rfl) fun f cdv A outer s H F E hr =>
  dss_cons (ds_set (ps_set (i := 2) S.nd rfl (by first | exact .inl rfl | exact .inr rfl) (de_callF (ok_side_of W) hr (by decide) rfl (da_cons (de_var (pv 0) rfl) (da_cons (de_var (pv 1) rfl) (da_nil))) (consA_len (consA_len (nilA_len))))) rfl rfl)
  (dss_cons (ds_if (dt_in (op_inDD hr.u65) (de_var (pv 1) rfl) (DE.rd (de_ix (DE.rd (de_var (pv 0) rfl)) (de_int) (fun _ _ => rfl))) rfl) (dss_one (ds_ret (ps_ret (de_tup (da_cons (de_str) (da_nil)))))) (dss_nil))
  (dss_cons (ds_set (ps_set (i := 3) S.nd rfl (by first | exact .inl rfl | exact .inr rfl) (de_callF (ok_link_of W) hr (by decide) rfl (da_cons (de_var (pv 0) rfl) (da_cons (de_var (pv 1) rfl) (da_nil))) (consA_len (consA_len (nilA_len))))) rfl rfl)
  (dss_cons (ds_if (dt_cmp op_isND (de_var (pv 3) rfl) (de_non) rfl) (dss_one (ds_ret (ps_ret (de_tup (da_cons (de_str) (da_nil)))))) (dss_nil))
  (dss_cons (ds_set (ps_set (i := 4) S.nd rfl (by first | exact .inl rfl | exact .inr rfl) (de_callF (ok_stale_since W) hr (by decide) rfl (da_cons (de_var (pv 0) rfl) (da_cons (de_var (pv 3) rfl) (da_cons (de_var (pv 2) rfl) (da_nil)))) (consA_len (consA_len (consA_len (nilA_len)))))) rfl rfl)
  (dss_cons (ds_if (dt_cmp op_isND (de_var (pv 4) rfl) (de_non) rfl) (dss_one (ds_ret (ps_ret (de_tup (da_cons (de_str) (da_nil)))))) (dss_nil))
  (dss_one (ds_ret (ps_ret (de_tup (da_cons (de_str) (da_cons (de_var (pv 4) rfl) (da_nil))))))))))))
theorem sc_states : FnScope ["book", "told", "parts", "part"] ["book"] d_states.scope := ⟨rfl, rfl, rfl, by decide +kernel, rfl, by decide +kernel, by decide +kernel⟩
theorem ok_states (W : Wd K mg) : Fk P w K mg base 7 "states" ["book"] (spD 1 f_states) :=
  have S := sc_states
  fk_pure (g := g_states) (d := d_states) (N := ["book", "told", "parts", "part"]) W 11 17 rfl rfl rfl rfl rfl S (kdOf [.pure, .pure, .pure, .pure]) rfl rfl (fun _ _ _ _ _ _ us hl => match us, hl with | [_], _ => rfl) fun f cdv A outer s H F E hr =>
  dss_cons (ds_setN (ps_comp (i := 1) (own := [("parts", 2)]) (is := [2]) rfl S.nd rfl rfl rfl rfl rfl rfl rfl rfl (PI.rd (pi_seq (de_slice (DE.rd (de_var (pv 0) rfl)) (do_none) (do_some (de_int))))) (fun _ _ _ _ _ _ => dg_name (pg_name (i := 2) S.nd rfl (by first | exact .inl rfl | exact .inr rfl)) rfl rfl) (fun _ _ _ _ _ _ => dts_nil) (fun _ _ _ _ _ _ => de_y1 cl_tuple rfl (W.free 57) b_tuple (DE.rd (NE.de (ne_comp (own := [("part", 3)]) (is := [3]) rfl S.nd rfl rfl rfl (PI.rd (pi_seq (de_var (pv 2) rfl))) (fun _ _ _ _ _ _ => dg_name (pg_name (i := 3) S.nd rfl (by first | exact .inl rfl | exact .inr rfl)) rfl rfl) (fun _ _ _ _ _ _ => dts_nil) (fun _ _ _ _ _ _ => de_tup (da_cons (de_ix (DE.rd (de_var (pv 3) rfl)) (de_int) (fun _ _ => rfl)) (da_cons (de_callF (ok_state_of W) hr (by decide) rfl (da_cons (de_var (pv 0) rfl) (da_cons (de_ix (DE.rd (de_var (pv 3) rfl)) (de_int) (fun _ _ => rfl)) (da_nil))) (consA_len (consA_len (nilA_len)))) (da_nil))))))))) rfl rfl)
  (dss_one (ds_ret (ps_ret (de_tup (da_cons (de_ix (DE.rd (de_var (pv 1) rfl)) (de_int) (fun _ _ => rfl)) (da_cons (de_ix (DE.rd (de_var (pv 1) rfl)) (de_int) (fun _ _ => rfl)) (da_nil)))))))
theorem sc_lacking : FnScope ["book", "told", "parts", "name", "standing"] ["book"] d_lacking.scope := ⟨rfl, rfl, rfl, by decide +kernel, rfl, by decide +kernel, by decide +kernel⟩
theorem ok_lacking (W : Wd K mg) : Fk P w K mg base 8 "lacking" ["book"] (spD 1 f_lacking) :=
  have S := sc_lacking
  fk_pure (g := g_lacking) (d := d_lacking) (N := ["book", "told", "parts", "name", "standing"]) W 12 18 rfl rfl rfl rfl rfl S (kdOf [.pure, .pure, .pure, .pure, .pure]) rfl rfl (fun _ _ _ _ _ _ us hl => match us, hl with | [_], _ => rfl) fun f cdv A outer s H F E hr =>
  dss_cons (ds_setN (ps_comp (i := 1) (own := [("parts", 2)]) (is := [2]) rfl S.nd rfl rfl rfl rfl rfl rfl rfl rfl (PI.rd (pi_seq (de_callF (ok_states W) hr (by decide) rfl (da_cons (de_var (pv 0) rfl) (da_nil)) (consA_len (nilA_len))))) (fun _ _ _ _ _ _ => dg_name (pg_name (i := 2) S.nd rfl (by first | exact .inl rfl | exact .inr rfl)) rfl rfl) (fun _ _ _ _ _ _ => dts_nil) (fun _ _ _ _ _ _ => de_y1 cl_tuple rfl (W.free 57) b_tuple (DE.rd (NE.de (ne_comp (own := [("name", 3), ("standing", 4)]) (is := [3, 4]) rfl S.nd rfl rfl rfl (PI.rd (pi_seq (de_var (pv 2) rfl))) (fun _ _ _ _ _ _ => dg_tup rfl (dgs_cons (pg_name (i := 3) S.nd rfl (by first | exact .inl rfl | exact .inr rfl)) rfl rfl (dgs_cons (pg_name (i := 4) S.nd rfl (by first | exact .inl rfl | exact .inr rfl)) rfl rfl (dgs_nil)))) (fun _ _ _ _ _ _ => dts_one (dt_cmp (op_eqDD hr.units) (de_var (pv 4) rfl) (de_tup (da_cons (de_str) (da_nil))) rfl)) (fun _ _ _ _ _ _ => de_var (pv 3) rfl)))))) rfl rfl)
  (dss_one (ds_ret (ps_ret (de_tup (da_cons (de_ix (DE.rd (de_var (pv 1) rfl)) (de_int) (fun _ _ => rfl)) (da_cons (de_ix (DE.rd (de_var (pv 1) rfl)) (de_int) (fun _ _ => rfl)) (da_nil)))))))
theorem sc_stale : FnScope ["book", "found", "left", "right", "name", "standing", "since"] ["book"] d_stale.scope := ⟨rfl, rfl, rfl, by decide +kernel, rfl, by decide +kernel, by decide +kernel⟩
theorem ok_stale (W : Wd K mg) : Fk P w K mg base 8 "stale" ["book"] (spD 1 f_stale) :=
  have S := sc_stale
  fk_pure (g := g_stale) (d := d_stale) (N := ["book", "found", "left", "right", "name", "standing", "since"]) W 13 19 rfl rfl rfl rfl rfl S (kdOf [.pure, .pure, .pure, .pure, .pure, .pure, .pure]) rfl rfl (fun _ _ _ _ _ _ us hl => match us, hl with | [_], _ => rfl) fun f cdv A outer s H F E hr =>
  dss_cons (ds_tgt (ps_asg (de_callF (ok_states W) hr (by decide) rfl (da_cons (de_var (pv 0) rfl) (da_nil)) (consA_len (nilA_len))) (dg_tup rfl (dgs_cons (pg_name (i := 2) S.nd rfl (by first | exact .inl rfl | exact .inr rfl)) rfl rfl (dgs_cons (pg_name (i := 3) S.nd rfl (by first | exact .inl rfl | exact .inr rfl)) rfl rfl (dgs_nil))))))
  (dss_cons (ds_setN (ps_comp (i := 1) (own := [("name", 4), ("standing", 5)]) (is := [4, 5]) rfl S.nd rfl rfl rfl rfl rfl rfl rfl rfl (PI.rd (pi_seq (de_op op_addD (de_var (pv 2) rfl) (de_var (pv 3) rfl)))) (fun _ _ _ _ _ _ => dg_tup rfl (dgs_cons (pg_name (i := 4) S.nd rfl (by first | exact .inl rfl | exact .inr rfl)) rfl rfl (dgs_cons (pg_name (i := 5) S.nd rfl (by first | exact .inl rfl | exact .inr rfl)) rfl rfl (dgs_nil)))) (fun _ _ _ _ _ _ => dts_one (dt_cmp (op_eqDD hr.units) (de_ix (DE.rd (de_var (pv 5) rfl)) (de_int) (fun _ _ => rfl)) (de_str) rfl)) (fun _ _ _ _ _ _ => de_tup (da_cons (de_ix (DE.rd (de_var (pv 5) rfl)) (de_int) (fun _ _ => rfl)) (da_cons (de_var (pv 4) rfl) (da_nil))))) rfl rfl)
  (dss_one (ds_ret (ps_ret (de_y1 cl_tuple rfl (W.free 57) b_tuple (DE.rd (NE.de (ne_comp (own := [("since", 6), ("name", 4)]) (is := [6, 4]) rfl S.nd rfl rfl rfl (PI.rd (pi_seq (de_b1 (cl_sorted hr.units) rfl (W.free 59) b_sorted (DE.rd (de_var (pv 1) rfl))))) (fun _ _ _ _ _ _ => dg_tup rfl (dgs_cons (pg_name (i := 6) S.nd rfl (by first | exact .inl rfl | exact .inr rfl)) rfl rfl (dgs_cons (pg_name (i := 4) S.nd rfl (by first | exact .inl rfl | exact .inr rfl)) rfl rfl (dgs_nil)))) (fun _ _ _ _ _ _ => dts_nil) (fun _ _ _ _ _ _ => de_tup (da_cons (de_var (pv 4) rfl) (da_cons (de_var (pv 6) rfl) (da_nil))))))))))))
theorem sc_in_step : FnScope ["book", "left", "right", "name", "standing"] ["book"] d_in_step.scope := ⟨rfl, rfl, rfl, by decide +kernel, rfl, by decide +kernel, by decide +kernel⟩
theorem ok_in_step (W : Wd K mg) : Fk P w K mg base 8 "in_step" ["book"] (spD 1 f_in_step) :=
  have S := sc_in_step
  fk_pure (g := g_in_step) (d := d_in_step) (N := ["book", "left", "right", "name", "standing"]) W 14 20 rfl rfl rfl rfl rfl S (kdOf [.pure, .pure, .pure, .pure, .pure]) rfl rfl (fun _ _ _ _ _ _ us hl => match us, hl with | [_], _ => rfl) fun f cdv A outer s H F E hr =>
  dss_cons (ds_tgt (ps_asg (de_callF (ok_states W) hr (by decide) rfl (da_cons (de_var (pv 0) rfl) (da_nil)) (consA_len (nilA_len))) (dg_tup rfl (dgs_cons (pg_name (i := 1) S.nd rfl (by first | exact .inl rfl | exact .inr rfl)) rfl rfl (dgs_cons (pg_name (i := 2) S.nd rfl (by first | exact .inl rfl | exact .inr rfl)) rfl rfl (dgs_nil))))))
  (dss_one (ds_ret (ps_ret (de_b1 (cl_all rfl) rfl (W.free 61) b_all (DE.rd (NE.de (ne_comp (own := [("name", 3), ("standing", 4)]) (is := [3, 4]) rfl S.nd rfl rfl rfl (PI.rd (pi_seq (de_op op_addD (de_var (pv 1) rfl) (de_var (pv 2) rfl)))) (fun _ _ _ _ _ _ => dg_tup rfl (dgs_cons (pg_name (i := 3) S.nd rfl (by first | exact .inl rfl | exact .inr rfl)) rfl rfl (dgs_cons (pg_name (i := 4) S.nd rfl (by first | exact .inl rfl | exact .inr rfl)) rfl rfl (dgs_nil)))) (fun _ _ _ _ _ _ => dts_nil) (fun _ _ _ _ _ _ => de_in (op_inDD hr.u65) (de_ix (DE.rd (de_var (pv 4) rfl)) (de_int) (fun _ _ => rfl)) (DE.rd (de_tup (da_cons (de_str) (da_cons (de_str) (da_nil))))) rfl))))))))
theorem sc_step_names : FnScope ["book", "old", "found", "link", "names", "name", "since"] ["book"] d_step_names.scope := ⟨rfl, rfl, rfl, by decide +kernel, rfl, by decide +kernel, by decide +kernel⟩
theorem ok_step_names (W : Wd K mg) : Fk P w K mg base 9 "step_names" ["book"] (spD 1 f_step_names) :=
  have S := sc_step_names
  fk_pure (g := g_step_names) (d := d_step_names) (N := ["book", "old", "found", "link", "names", "name", "since"]) W 15 21 rfl rfl rfl rfl rfl S (kdOf [.pure, .pure, .lst, .pure, .pure, .pure, .pure]) rfl rfl (fun _ _ _ _ _ _ us hl => match us, hl with | [_], _ => rfl) fun f cdv A outer s H F E hr =>
  dss_cons (ds_setN (ps_set (i := 1) S.nd rfl (by first | exact .inl rfl | exact .inr rfl) (ne_comp (own := [("name", 5), ("since", 6)]) (is := [5, 6]) rfl S.nd rfl rfl rfl (PI.rd (pi_seq (de_callF (ok_stale W) hr (by decide) rfl (da_cons (de_var (pv 0) rfl) (da_nil)) (consA_len (nilA_len))))) (fun _ _ _ _ _ _ => dg_tup rfl (dgs_cons (pg_name (i := 5) S.nd rfl (by first | exact .inl rfl | exact .inr rfl)) rfl rfl (dgs_cons (pg_name (i := 6) S.nd rfl (by first | exact .inl rfl | exact .inr rfl)) rfl rfl (dgs_nil)))) (fun _ _ _ _ _ _ => dts_nil) (fun _ _ _ _ _ _ => de_var (pv 5) rfl))) rfl rfl)
  (dss_cons (ds_own (ps_set (i := 2) S.nd rfl (by first | exact .inl rfl | exact .inr rfl) (ne_lst (da_nil))) rfl rfl rfl)
  (dss_cons (ds_for PassesOwn.never rfl (pi_seq (de_ix (DE.rd (de_var (pv 0) rfl)) (de_int) (fun _ _ => rfl))) (dg_name (pg_name (i := 3) S.nd rfl (by first | exact .inl rfl | exact .inr rfl)) rfl rfl) (dss_cons (ds_set (ps_set (i := 4) S.nd rfl (by first | exact .inl rfl | exact .inr rfl) (de_op op_addD (de_ix (DE.rd (de_var (pv 3) rfl)) (de_int) (fun _ _ => rfl)) (de_ix (DE.rd (de_var (pv 3) rfl)) (de_int) (fun _ _ => rfl)))) rfl rfl)
  (dss_one (ds_if (dt_val (de_b1 (cl_any rfl) rfl (W.free 60) b_any (DE.rd (NE.de (ne_comp (own := [("name", 5)]) (is := [5]) rfl S.nd rfl rfl rfl (PI.rd (pi_seq (de_var (pv 4) rfl))) (fun _ _ _ _ _ _ => dg_name (pg_name (i := 5) S.nd rfl (by first | exact .inl rfl | exact .inr rfl)) rfl rfl) (fun _ _ _ _ _ _ => dts_nil) (fun _ _ _ _ _ _ => de_in (op_inDD hr.u65) (de_var (pv 5) rfl) (DE.rd (de_var (pv 1) rfl)) rfl)))))) (dss_one (ds_app (pv 2) (de_b1 (cl_min rfl hr.units) rfl (W.free 62) b_min (DE.rd (de_var (pv 4) rfl))) rfl)) (dss_nil)))))
  (dss_one (ds_ret (ps_ret (de_b1 (cl_sorted hr.units) rfl (W.free 59) b_sorted (re_own (pv 2) rfl)))))))
theorem sc_last_of : FnScope ["parts"] ["parts"] d_last_of.scope := ⟨rfl, rfl, rfl, by decide +kernel, rfl, by decide +kernel, by decide +kernel⟩
theorem ok_last_of (W : Wd K mg) : Fk P w K mg base 1 "last_of" ["parts"] (spD 1 f_last_of) :=
  have S := sc_last_of
  fk_pure (g := g_last_of) (d := d_last_of) (N := ["parts"]) W 17 23 rfl rfl rfl rfl rfl S (kdOf [.pure]) rfl rfl (fun _ _ _ _ _ _ us hl => match us, hl with | [_], _ => rfl) fun f cdv A outer s H F E hr =>
  dss_cons (ds_if (dt_cmp (op_eqDD hr.units) (de_b1 cl_len rfl (W.free 56) b_len (DE.rd (de_var (pv 0) rfl))) (de_int) rfl) (dss_one (ds_ret (ps_ret (de_str)))) (dss_nil))
  (dss_one (ds_ret (ps_ret (de_ix (DE.rd (de_ix (DE.rd (de_var (pv 0) rfl)) (de_neg (de_int)) (fun _ _ => rfl))) (de_int) (fun _ _ => rfl)))))
theorem sc_fresh_link : FnScope ["side", "name", "fresh", "t"] ["side", "name", "fresh", "t"] d_fresh_link.scope := ⟨rfl, rfl, rfl, by decide +kernel, rfl, by decide +kernel, by decide +kernel⟩
theorem ok_fresh_link (W : Wd K mg) : Fk P w K mg base 1 "fresh_link" ["side", "name", "fresh", "t"] (spD 4 f_fresh_link) :=
  have S := sc_fresh_link
  fk_pure (g := g_fresh_link) (d := d_fresh_link) (N := ["side", "name", "fresh", "t"]) W 18 24 rfl rfl rfl rfl rfl S (kdOf [.pure, .pure, .pure, .pure]) rfl rfl (fun _ _ _ _ _ _ us hl => match us, hl with | [_, _, _, _], _ => rfl) fun f cdv A outer s H F E hr =>
  dss_cons (ds_if (dt_cmp (op_eqDD hr.units) (de_var (pv 0) rfl) (de_int) rfl) (dss_one (ds_ret (ps_ret (de_tup (da_cons (de_str) (da_cons (de_var (pv 3) rfl) (da_cons (de_tup (da_cons (de_var (pv 1) rfl) (da_nil))) (da_cons (de_tup (da_cons (de_var (pv 2) rfl) (da_nil))) (da_nil))))))))) (dss_nil))
  (dss_one (ds_ret (ps_ret (de_tup (da_cons (de_str) (da_cons (de_var (pv 3) rfl) (da_cons (de_tup (da_cons (de_var (pv 2) rfl) (da_nil))) (da_cons (de_tup (da_cons (de_var (pv 1) rfl) (da_nil))) (da_nil)))))))))
theorem sc_parts_with : FnScope ["parts", "part", "behind", "made", "one"] ["parts", "part", "behind"] d_parts_with.scope := ⟨rfl, rfl, rfl, by decide +kernel, rfl, by decide +kernel, by decide +kernel⟩
theorem ok_parts_with (W : Wd K mg) : Fk P w K mg base 1 "parts_with" ["parts", "part", "behind"] (spD 3 f_parts_with) :=
  have S := sc_parts_with
  fk_pure (g := g_parts_with) (d := d_parts_with) (N := ["parts", "part", "behind", "made", "one"]) W 20 26 rfl rfl rfl rfl rfl S (kdOf [.pure, .pure, .pure, .lst, .pure]) rfl rfl (fun _ _ _ _ _ _ us hl => match us, hl with | [_, _, _], _ => rfl) fun f cdv A outer s H F E hr =>
  dss_cons (ds_if (dt_cmp (op_eqDD hr.units) (de_var (pv 2) rfl) (de_str) rfl) (dss_one (ds_ret (ps_ret (de_op op_addD (de_tup (da_cons (de_var (pv 1) rfl) (da_nil))) (de_var (pv 0) rfl))))) (dss_nil))
  (dss_cons (ds_own (ps_set (i := 3) S.nd rfl (by first | exact .inl rfl | exact .inr rfl) (ne_lst (da_nil))) rfl rfl rfl)
  (dss_cons (ds_for PassesOwn.never rfl (pi_seq (de_var (pv 0) rfl)) (dg_name (pg_name (i := 4) S.nd rfl (by first | exact .inl rfl | exact .inr rfl)) rfl rfl) (dss_cons (ds_app (pv 3) (de_var (pv 4) rfl) rfl)
  (dss_one (ds_if (dt_cmp (op_eqDD hr.units) (de_ix (DE.rd (de_var (pv 4) rfl)) (de_int) (fun _ _ => rfl)) (de_var (pv 2) rfl) rfl) (dss_one (ds_app (pv 3) (de_var (pv 1) rfl) rfl)) (dss_nil)))))
  (dss_one (ds_ret (ps_ret (de_y1 cl_tuple rfl (W.free 57) b_tuple (re_own (pv 3) rfl)))))))
theorem sc_links_exchanged : FnScope ["links", "old", "new", "left", "link"] ["links", "old", "new"] d_links_exchanged.scope := ⟨rfl, rfl, rfl, by decide +kernel, rfl, by decide +kernel, by decide +kernel⟩
theorem ok_links_exchanged (W : Wd K mg) : Fk P w K mg base 1 "links_exchanged" ["links", "old", "new"] (spD 3 f_links_exchanged) :=
  have S := sc_links_exchanged
  fk_pure (g := g_links_exchanged) (d := d_links_exchanged) (N := ["links", "old", "new", "left", "link"]) W 21 27 rfl rfl rfl rfl rfl S (kdOf [.pure, .pure, .pure, .lst, .pure]) rfl rfl (fun _ _ _ _ _ _ us hl => match us, hl with | [_, _, _], _ => rfl) fun f cdv A outer s H F E hr =>
  dss_cons (ds_own (ps_comp (i := 3) (own := [("link", 4)]) (is := [4]) rfl S.nd rfl rfl rfl rfl rfl rfl rfl rfl (PI.rd (pi_seq (de_var (pv 0) rfl))) (fun _ _ _ _ _ _ => dg_name (pg_name (i := 4) S.nd rfl (by first | exact .inl rfl | exact .inr rfl)) rfl rfl) (fun _ _ _ _ _ _ => dts_one (dt_cmp (op_neDD hr.units) (de_var (pv 4) rfl) (de_var (pv 1) rfl) rfl)) (fun _ _ _ _ _ _ => de_var (pv 4) rfl)) rfl rfl rfl)
  (dss_cons (ds_if (dt_cmp op_notND (de_var (pv 2) rfl) (de_non) rfl) (dss_one (ds_app (pv 3) (de_var (pv 2) rfl) rfl)) (dss_nil))
  (dss_one (ds_ret (ps_ret (de_y1 cl_tuple rfl (W.free 57) b_tuple (DE.rd (de_b1 (cl_sorted hr.units) rfl (W.free 59) b_sorted (re_own (pv 3) rfl))))))))
theorem sc_with_side : FnScope ["book", "side", "parts"] ["book", "side", "parts"] d_with_side.scope := ⟨rfl, rfl, rfl, by decide +kernel, rfl, by decide +kernel, by decide +kernel⟩
theorem ok_with_side (W : Wd K mg) : Fk P w K mg base 1 "with_side" ["book", "side", "parts"] (spD 3 f_with_side) :=
  have S := sc_with_side
  fk_pure (g := g_with_side) (d := d_with_side) (N := ["book", "side", "parts"]) W 22 28 rfl rfl rfl rfl rfl S (kdOf [.pure, .pure, .pure]) rfl rfl (fun _ _ _ _ _ _ us hl => match us, hl with | [_, _, _], _ => rfl) fun f cdv A outer s H F E hr =>
  dss_one (ds_ret (ps_ret (de_op op_addD (de_op op_addD (de_slice (DE.rd (de_var (pv 0) rfl)) (do_none) (do_some (de_var (pv 1) rfl))) (de_tup (da_cons (de_var (pv 2) rfl) (da_nil)))) (de_slice (DE.rd (de_var (pv 0) rfl)) (do_some (de_op op_addD (de_var (pv 1) rfl) (de_int))) (do_none)))))
theorem sc_look_behind : FnScope ["book", "side", "behind"] ["book", "side", "behind"] d_look_behind.scope := ⟨rfl, rfl, rfl, by decide +kernel, rfl, by decide +kernel, by decide +kernel⟩
theorem ok_look_behind (W : Wd K mg) : Fk P w K mg base 3 "look_behind" ["book", "side", "behind"] (spD 3 f_look_behind) :=
  have S := sc_look_behind
  fk_pure (g := g_look_behind) (d := d_look_behind) (N := ["book", "side", "behind"]) W 23 29 rfl rfl rfl rfl rfl S (kdOf [.pure, .pure, .pure]) rfl rfl (fun _ _ _ _ _ _ us hl => match us, hl with | [_, _, _], _ => rfl) fun f cdv A outer s H F E hr =>
  dss_one (ds_if (WT.dt (wt_and (dt_cmp (op_neDD hr.units) (de_var (pv 2) rfl) (de_str) rfl) (wt_and1 (dt_cmp (op_neDD hr.units) (de_callF (ok_side_of W) hr (by decide) rfl (da_cons (de_var (pv 0) rfl) (da_cons (de_var (pv 2) rfl) (da_nil))) (consA_len (consA_len (nilA_len)))) (de_var (pv 1) rfl) rfl)))) (dss_one (ds_never)) (dss_nil))
theorem sc_is_alone : FnScope ["book", "name"] ["book", "name"] d_is_alone.scope := ⟨rfl, rfl, rfl, by decide +kernel, rfl, by decide +kernel, by decide +kernel⟩
theorem ok_is_alone (W : Wd K mg) : Fk P w K mg base 1 "is_alone" ["book", "name"] (spD 2 f_is_alone) :=
  have S := sc_is_alone
  fk_pure (g := g_is_alone) (d := d_is_alone) (N := ["book", "name"]) W 24 30 rfl rfl rfl rfl rfl S (kdOf [.pure, .pure]) rfl rfl (fun _ _ _ _ _ _ us hl => match us, hl with | [_, _], _ => rfl) fun f cdv A outer s H F E hr =>
  dss_one (ds_ret (ps_ret (de_in (op_inDD hr.u65) (de_var (pv 1) rfl) (DE.rd (de_ix (DE.rd (de_var (pv 0) rfl)) (de_int) (fun _ _ => rfl))) rfl)))
theorem sc_put_done : FnScope ["book", "deed", "word", "t", "side", "behind", "name", "text"] ["book", "deed"] d_put_done.scope := ⟨rfl, rfl, rfl, by decide +kernel, rfl, by decide +kernel, by decide +kernel⟩
theorem ok_put_done (W : Wd K mg) : Fk P w K mg base 4 "put_done" ["book", "deed"] (spD 2 f_put_done) :=
  have S := sc_put_done
  fk_pure (g := g_put_done) (d := d_put_done) (N := ["book", "deed", "word", "t", "side", "behind", "name", "text"]) W 25 31 rfl rfl rfl rfl rfl S (kdOf [.pure, .pure, .pure, .pure, .pure, .pure, .pure, .pure]) rfl rfl (fun _ _ _ _ _ _ us hl => match us, hl with | [_, _], _ => rfl) fun f cdv A outer s H F E hr =>
  dss_cons (ds_tgt (ps_asg (de_var (pv 1) rfl) (dg_tup rfl (dgs_cons (pg_name (i := 2) S.nd rfl (by first | exact .inl rfl | exact .inr rfl)) rfl rfl (dgs_cons (pg_name (i := 3) S.nd rfl (by first | exact .inl rfl | exact .inr rfl)) rfl rfl (dgs_cons (pg_name (i := 4) S.nd rfl (by first | exact .inl rfl | exact .inr rfl)) rfl rfl (dgs_cons (pg_name (i := 5) S.nd rfl (by first | exact .inl rfl | exact .inr rfl)) rfl rfl (dgs_cons (pg_name (i := 6) S.nd rfl (by first | exact .inl rfl | exact .inr rfl)) rfl rfl (dgs_cons (pg_name (i := 7) S.nd rfl (by first | exact .inl rfl | exact .inr rfl)) rfl rfl (dgs_nil))))))))))
  (dss_cons (ds_drop (ps_expr (de_callF (ok_look_behind W) hr (by decide) rfl (da_cons (de_var (pv 0) rfl) (da_cons (de_var (pv 4) rfl) (da_cons (de_var (pv 5) rfl) (da_nil)))) (consA_len (consA_len (consA_len (nilA_len)))))))
  (dss_cons (ds_if (dt_val (de_callF (ok_has_part W) hr (by decide) rfl (da_cons (de_var (pv 0) rfl) (da_cons (de_var (pv 6) rfl) (da_nil))) (consA_len (consA_len (nilA_len))))) (dss_one (ds_never)) (dss_nil))
  (dss_one (ds_ret (ps_ret (de_callF (ok_with_side W) hr (by decide) rfl (da_cons (de_var (pv 0) rfl) (da_cons (de_var (pv 4) rfl) (da_cons (de_callF (ok_parts_with W) hr (by decide) rfl (da_cons (de_ix (DE.rd (de_var (pv 0) rfl)) (de_var (pv 4) rfl) (fun _ _ => rfl)) (da_cons (de_tup (da_cons (de_var (pv 6) rfl) (da_cons (de_var (pv 7) rfl) (da_cons (de_tup (da_cons (de_var (pv 3) rfl) (da_nil))) (da_nil))))) (da_cons (de_var (pv 5) rfl) (da_nil)))) (consA_len (consA_len (consA_len (nilA_len))))) (da_nil)))) (consA_len (consA_len (consA_len (nilA_len))))))))))
theorem sc_link_done : FnScope ["book", "deed", "sides", "link", "word", "t", "ones", "others", "name"] ["book", "deed"] d_link_done.scope := ⟨rfl, rfl, rfl, by decide +kernel, rfl, by decide +kernel, by decide +kernel⟩
theorem ok_link_done (W : Wd K mg) : Fk P w K mg base 4 "link_done" ["book", "deed"] (spD 2 f_link_done) :=
  have S := sc_link_done
  fk_pure (g := g_link_done) (d := d_link_done) (N := ["book", "deed", "sides", "link", "word", "t", "ones", "others", "name"]) W 26 32 rfl rfl rfl rfl rfl S (kdOf [.pure, .pure, .pure, .pure, .pure, .pure, .pure, .pure, .pure]) rfl rfl (fun _ _ _ _ _ _ us hl => match us, hl with | [_, _], _ => rfl) fun f cdv A outer s H F E hr =>
  dss_cons (ds_tgt (ps_asg (de_var (pv 1) rfl) (dg_tup rfl (dgs_cons (pg_name (i := 4) S.nd rfl (by first | exact .inl rfl | exact .inr rfl)) rfl rfl (dgs_cons (pg_name (i := 5) S.nd rfl (by first | exact .inl rfl | exact .inr rfl)) rfl rfl (dgs_cons (pg_name (i := 6) S.nd rfl (by first | exact .inl rfl | exact .inr rfl)) rfl rfl (dgs_cons (pg_name (i := 7) S.nd rfl (by first | exact .inl rfl | exact .inr rfl)) rfl rfl (dgs_nil))))))))
  (dss_cons (ds_setN (ps_comp (i := 2) (own := [("name", 8)]) (is := [8]) rfl S.nd rfl rfl rfl rfl rfl rfl rfl rfl (PI.rd (pi_seq (de_op op_addD (de_var (pv 6) rfl) (de_var (pv 7) rfl)))) (fun _ _ _ _ _ _ => dg_name (pg_name (i := 8) S.nd rfl (by first | exact .inl rfl | exact .inr rfl)) rfl rfl) (fun _ _ _ _ _ _ => dts_nil) (fun _ _ _ _ _ _ => de_callF (ok_side_of W) hr (by decide) rfl (da_cons (de_var (pv 0) rfl) (da_cons (de_var (pv 8) rfl) (da_nil))) (consA_len (consA_len (nilA_len))))) rfl rfl)
  (dss_cons (ds_if (dt_cmp (op_neDD hr.units) (de_var (pv 2) rfl) (de_op op_addD (de_op op_mulD (NE.de (ne_lst (da_cons (de_int) (da_nil)))) (de_b1 cl_len rfl (W.free 56) b_len (DE.rd (de_var (pv 6) rfl)))) (de_op op_mulD (NE.de (ne_lst (da_cons (de_int) (da_nil)))) (de_b1 cl_len rfl (W.free 56) b_len (DE.rd (de_var (pv 7) rfl))))) rfl) (dss_one (ds_never)) (dss_nil))
  (dss_cons (ds_if (dt_val (de_b1 (cl_any rfl) rfl (W.free 60) b_any (DE.rd (NE.de (ne_comp (own := [("name", 8)]) (is := [8]) rfl S.nd rfl rfl rfl (PI.rd (pi_seq (de_op op_addD (de_var (pv 6) rfl) (de_var (pv 7) rfl)))) (fun _ _ _ _ _ _ => dg_name (pg_name (i := 8) S.nd rfl (by first | exact .inl rfl | exact .inr rfl)) rfl rfl) (fun _ _ _ _ _ _ => dts_nil) (fun _ _ _ _ _ _ => de_or (de_cmp op_notND (de_callF (ok_link_of W) hr (by decide) rfl (da_cons (de_var (pv 0) rfl) (da_cons (de_var (pv 8) rfl) (da_nil))) (consA_len (consA_len (nilA_len)))) (de_non) rfl) (de_one (de_callF (ok_is_alone W) hr (by decide) rfl (da_cons (de_var (pv 0) rfl) (da_cons (de_var (pv 8) rfl) (da_nil))) (consA_len (consA_len (nilA_len))))))))))) (dss_one (ds_never)) (dss_nil))
  (dss_cons (ds_set (ps_set (i := 3) S.nd rfl (by first | exact .inl rfl | exact .inr rfl) (de_tup (da_cons (de_y1 cl_tuple rfl (W.free 57) b_tuple (DE.rd (de_b1 (cl_sorted hr.units) rfl (W.free 59) b_sorted (DE.rd (de_var (pv 6) rfl))))) (da_cons (de_y1 cl_tuple rfl (W.free 57) b_tuple (DE.rd (de_b1 (cl_sorted hr.units) rfl (W.free 59) b_sorted (DE.rd (de_var (pv 7) rfl))))) (da_cons (de_var (pv 5) rfl) (da_cons (de_tup (da_cons (de_tup (da_nil)) (da_cons (de_tup (da_nil)) (da_nil)))) (da_nil))))))) rfl rfl)
  (dss_one (ds_ret (ps_ret (de_op op_addD (de_slice (DE.rd (de_var (pv 0) rfl)) (do_none) (do_some (de_int))) (de_tup (da_cons (de_callF (ok_links_exchanged W) hr (by decide) rfl (da_cons (de_ix (DE.rd (de_var (pv 0) rfl)) (de_int) (fun _ _ => rfl)) (da_cons (de_non) (da_cons (de_var (pv 3) rfl) (da_nil)))) (consA_len (consA_len (consA_len (nilA_len))))) (da_cons (de_ix (DE.rd (de_var (pv 0) rfl)) (de_int) (fun _ _ => rfl)) (da_nil))))))))))))
theorem sc_own_link : FnScope ["book", "name", "link"] ["book", "name"] d_own_link.scope := ⟨rfl, rfl, rfl, by decide +kernel, rfl, by decide +kernel, by decide +kernel⟩
theorem ok_own_link (W : Wd K mg) : Fk P w K mg base 4 "own_link" ["book", "name"] (spD 2 f_own_link) :=
  have S := sc_own_link
  fk_pure (g := g_own_link) (d := d_own_link) (N := ["book", "name", "link"]) W 27 33 rfl rfl rfl rfl rfl S (kdOf [.pure, .pure, .pure]) rfl rfl (fun _ _ _ _ _ _ us hl => match us, hl with | [_, _], _ => rfl) fun f cdv A outer s H F E hr =>
  dss_cons (ds_set (ps_set (i := 2) S.nd rfl (by first | exact .inl rfl | exact .inr rfl) (de_callF (ok_link_of W) hr (by decide) rfl (da_cons (de_var (pv 0) rfl) (da_cons (de_var (pv 1) rfl) (da_nil))) (consA_len (consA_len (nilA_len))))) rfl rfl)
  (dss_cons (ds_if (dt_cmp op_isND (de_var (pv 2) rfl) (de_non) rfl) (dss_one (ds_never)) (dss_nil))
  (dss_one (ds_ret (ps_ret (de_var (pv 2) rfl)))))
theorem sc_step_done : FnScope ["book", "deed", "link"] ["book", "deed"] d_step_done.scope := ⟨rfl, rfl, rfl, by decide +kernel, rfl, by decide +kernel, by decide +kernel⟩
theorem ok_step_done (W : Wd K mg) : Fk P w K mg base 5 "step_done" ["book", "deed"] (spD 2 f_step_done) :=
  have S := sc_step_done
  fk_pure (g := g_step_done) (d := d_step_done) (N := ["book", "deed", "link"]) W 28 34 rfl rfl rfl rfl rfl S (kdOf [.pure, .pure, .pure]) rfl rfl (fun _ _ _ _ _ _ us hl => match us, hl with | [_, _], _ => rfl) fun f cdv A outer s H F E hr =>
  dss_cons (ds_set (ps_set (i := 2) S.nd rfl (by first | exact .inl rfl | exact .inr rfl) (de_callF (ok_own_link W) hr (by decide) rfl (da_cons (de_var (pv 0) rfl) (da_cons (de_ix (DE.rd (de_var (pv 1) rfl)) (de_int) (fun _ _ => rfl)) (da_nil))) (consA_len (consA_len (nilA_len))))) rfl rfl)
  (dss_one (ds_ret (ps_ret (de_op op_addD (de_slice (DE.rd (de_var (pv 0) rfl)) (do_none) (do_some (de_int))) (de_tup (da_cons (de_callF (ok_links_exchanged W) hr (by decide) rfl (da_cons (de_ix (DE.rd (de_var (pv 0) rfl)) (de_int) (fun _ _ => rfl)) (da_cons (de_var (pv 2) rfl) (da_cons (de_op op_addD (de_slice (DE.rd (de_var (pv 2) rfl)) (do_none) (do_some (de_int))) (de_tup (da_cons (de_ix (DE.rd (de_var (pv 1) rfl)) (de_int) (fun _ _ => rfl)) (da_cons (de_tup (da_cons (de_tup (da_nil)) (da_cons (de_tup (da_nil)) (da_nil)))) (da_nil))))) (da_nil)))) (consA_len (consA_len (consA_len (nilA_len))))) (da_cons (de_ix (DE.rd (de_var (pv 0) rfl)) (de_int) (fun _ _ => rfl)) (da_nil))))))))
end
end TK
end
section
set_option Elab.async false
set_option linter.all false
set_option maxRecDepth 100000
set_option maxHeartbeats 4000000
namespace TK
open PySem PySem.Spec PyProof.Rows L2
section
variable {P : Program} {w : World} {K : PySem.W.Frag} {mg : Str → Option Value} {base : Heap}
theorem sc_words_of : FnScope ["text", "runs", "run", "sign"] ["text"] d_words_of.scope := ⟨rfl, rfl, rfl, by decide +kernel, rfl, by decide +kernel, by decide +kernel⟩
theorem ok_words_of (W : Wd K mg) : Fk P w K mg base 1 "words_of" ["text"] (spD 1 f_words_of) :=
  have S := sc_words_of
  fk_pure (g := g_words_of) (d := d_words_of) (N := ["text", "runs", "run", "sign"]) W 31 37 rfl rfl rfl rfl rfl S (kdOf [.pure, .lst, .pure, .pure]) rfl rfl (fun _ _ _ _ _ _ us hl => match us, hl with | [_], _ => rfl) fun f cdv A outer s H F E hr =>
  dss_cons (ds_own (ps_set (i := 1) S.nd rfl (by first | exact .inl rfl | exact .inr rfl) (ne_lst (da_nil))) rfl rfl rfl)
  (dss_cons (ds_set (ps_set (i := 2) S.nd rfl (by first | exact .inl rfl | exact .inr rfl) (de_str)) rfl rfl)
  (dss_cons (ds_for PassesOwn.never rfl (pi_strD (de_var (pv 0) rfl)) (dg_name (pg_name (i := 3) S.nd rfl (by first | exact .inl rfl | exact .inr rfl)) rfl rfl) (dss_one (ds_if (WT.dt (wt_or (dt_in (op_inDD hr.u65) (de_var (pv 3) rfl) (DE.rd (de_gstr rfl (W.str 72))) rfl) (wt_or (dt_in (op_inDD hr.u65) (de_var (pv 3) rfl) (DE.rd (de_gstr rfl (W.str 73))) rfl) (wt_or1 (dt_in (op_inDD hr.u65) (de_var (pv 3) rfl) (DE.rd (de_gstr rfl (W.str 74))) rfl))))) (dss_one (ds_set (ps_set (i := 2) S.nd rfl (by first | exact .inl rfl | exact .inr rfl) (de_op op_addD (de_var (pv 2) rfl) (de_var (pv 3) rfl))) rfl rfl)) (dss_one (ds_if (dt_cmp (op_neDD hr.units) (de_var (pv 2) rfl) (de_str) rfl) (dss_cons (ds_app (pv 1) (de_var (pv 2) rfl) rfl)
  (dss_one (ds_set (ps_set (i := 2) S.nd rfl (by first | exact .inl rfl | exact .inr rfl) (de_str)) rfl rfl))) (dss_nil))))))
  (dss_cons (ds_if (dt_cmp (op_neDD hr.units) (de_var (pv 2) rfl) (de_str) rfl) (dss_one (ds_app (pv 1) (de_var (pv 2) rfl) rfl)) (dss_nil))
  (dss_one (ds_ret (ps_ret (de_y1 cl_tuple rfl (W.free 57) b_tuple (re_own (pv 1) rfl))))))))
theorem sc_cores_of : FnScope ["text", "word"] ["text"] d_cores_of.scope := ⟨rfl, rfl, rfl, by decide +kernel, rfl, by decide +kernel, by decide +kernel⟩
theorem ok_cores_of (W : Wd K mg) : Fk P w K mg base 2 "cores_of" ["text"] (spD 1 f_cores_of) :=
  have S := sc_cores_of
  fk_pure (g := g_cores_of) (d := d_cores_of) (N := ["text", "word"]) W 32 38 rfl rfl rfl rfl rfl S (kdOf [.pure, .pure]) rfl rfl (fun _ _ _ _ _ _ us hl => match us, hl with | [_], _ => rfl) fun f cdv A outer s H F E hr =>
  dss_one (ds_ret (ps_ret (de_y1 cl_tuple rfl (W.free 57) b_tuple (DE.rd (NE.de (ne_comp (own := [("word", 1)]) (is := [1]) rfl S.nd rfl rfl rfl (PI.rd (pi_seq (de_callF (ok_words_of W) hr (by decide) rfl (da_cons (de_var (pv 0) rfl) (da_nil)) (consA_len (nilA_len))))) (fun _ _ _ _ _ _ => dg_name (pg_name (i := 1) S.nd rfl (by first | exact .inl rfl | exact .inr rfl)) rfl rfl) (fun _ _ _ _ _ _ => dts_nil) (fun _ _ _ _ _ _ => de_lower (de_var (pv 1) rfl))))))))
theorem sc_cores_in : FnScope ["texts", "cores", "text", "core"] ["texts"] d_cores_in.scope := ⟨rfl, rfl, rfl, by decide +kernel, rfl, by decide +kernel, by decide +kernel⟩
theorem ok_cores_in (W : Wd K mg) : Fk P w K mg base 3 "cores_in" ["texts"] (spD 1 f_cores_in) :=
  have S := sc_cores_in
  fk_pure (g := g_cores_in) (d := d_cores_in) (N := ["texts", "cores", "text", "core"]) W 33 39 rfl rfl rfl rfl rfl S (kdOf [.pure, .dic, .pure, .pure]) rfl rfl (fun _ _ _ _ _ _ us hl => match us, hl with | [_], _ => rfl) fun f cdv A outer s H F E hr =>
  dss_cons (ds_dnew (ps_set (i := 1) S.nd rfl (by first | exact .inl rfl | exact .inr rfl) pe_dnewK) rfl rfl rfl)
  (dss_cons (ds_for PassesOwn.never rfl (pi_seq (de_var (pv 0) rfl)) (dg_name (pg_name (i := 2) S.nd rfl (by first | exact .inl rfl | exact .inr rfl)) rfl rfl) (dss_one (ds_for PassesOwn.never rfl (pi_seq (de_callF (ok_cores_of W) hr (by decide) rfl (da_cons (de_var (pv 2) rfl) (da_nil)) (consA_len (nilA_len)))) (dg_name (pg_name (i := 3) S.nd rfl (by first | exact .inl rfl | exact .inr rfl)) rfl rfl) (dss_one (ds_put (ps_dput hr.u1 (pv 1) (de_var (pv 3) rfl) (de_bl) rfl) rfl)))))
  (dss_one (ds_retown (ps_ret (pv 1)) (.inr rfl))))
theorem sc_hits : FnScope ["ones", "others", "words", "left", "right", "pair"] ["ones", "others", "words"] d_hits.scope := ⟨rfl, rfl, rfl, by decide +kernel, rfl, by decide +kernel, by decide +kernel⟩
theorem ok_hits (W : Wd K mg) : Fk P w K mg base 4 "hits" ["ones", "others", "words"] (spD 3 f_hits) :=
  have S := sc_hits
  fk_pure (g := g_hits) (d := d_hits) (N := ["ones", "others", "words", "left", "right", "pair"]) W 34 40 rfl rfl rfl rfl rfl S (kdOf [.pure, .pure, .pure, .pure, .pure, .pure]) rfl rfl (fun _ _ _ _ _ _ us hl => match us, hl with | [_, _, _], _ => rfl) fun f cdv A outer s H F E hr =>
  dss_cons (ds_set (ps_set (i := 3) S.nd rfl (by first | exact .inl rfl | exact .inr rfl) (de_callF (ok_cores_in W) hr (by decide) rfl (da_cons (de_var (pv 0) rfl) (da_nil)) (consA_len (nilA_len)))) rfl rfl)
  (dss_cons (ds_set (ps_set (i := 4) S.nd rfl (by first | exact .inl rfl | exact .inr rfl) (de_callF (ok_cores_in W) hr (by decide) rfl (da_cons (de_var (pv 1) rfl) (da_nil)) (consA_len (nilA_len)))) rfl rfl)
  (dss_one (ds_ret (ps_ret (de_b1 cl_len rfl (W.free 56) b_len (DE.rd (NE.de (ne_comp (own := [("pair", 5)]) (is := [5]) rfl S.nd rfl rfl rfl (PI.rd (pi_seq (de_var (pv 2) rfl))) (fun _ _ _ _ _ _ => dg_name (pg_name (i := 5) S.nd rfl (by first | exact .inl rfl | exact .inr rfl)) rfl rfl) (fun _ _ _ _ _ _ => dts_one (WT.dt (wt_and (dt_in (op_inDD hr.u65) (de_ix (DE.rd (de_var (pv 5) rfl)) (de_int) (fun _ _ => rfl)) (DE.rd (de_var (pv 3) rfl)) rfl) (wt_and1 (dt_in (op_inDD hr.u65) (de_ix (DE.rd (de_var (pv 5) rfl)) (de_int) (fun _ _ => rfl)) (DE.rd (de_var (pv 4) rfl)) rfl))))) (fun _ _ _ _ _ _ => de_var (pv 5) rfl)))))))))
theorem sc_fits_of : FnScope ["book", "words", "least", "found", "one", "lefts", "rights", "other"] ["book", "words", "least"] d_fits_of.scope := ⟨rfl, rfl, rfl, by decide +kernel, rfl, by decide +kernel, by decide +kernel⟩
theorem ok_fits_of (W : Wd K mg) : Fk P w K mg base 9 "fits_of" ["book", "words", "least"] (spD 3 f_fits_of) :=
  have S := sc_fits_of
  fk_pure (g := g_fits_of) (d := d_fits_of) (N := ["book", "words", "least", "found", "one", "lefts", "rights", "other"]) W 35 41 rfl rfl rfl rfl rfl S (kdOf [.pure, .pure, .pure, .lst, .pure, .pure, .pure, .pure]) rfl rfl (fun _ _ _ _ _ _ us hl => match us, hl with | [_, _, _], _ => rfl) fun f cdv A outer s H F E hr =>
  dss_cons (ds_tgt (ps_asg (de_callF (ok_lacking W) hr (by decide) rfl (da_cons (de_var (pv 0) rfl) (da_nil)) (consA_len (nilA_len))) (dg_tup rfl (dgs_cons (pg_name (i := 5) S.nd rfl (by first | exact .inl rfl | exact .inr rfl)) rfl rfl (dgs_cons (pg_name (i := 6) S.nd rfl (by first | exact .inl rfl | exact .inr rfl)) rfl rfl (dgs_nil))))))
  (dss_cons (ds_own (ps_set (i := 3) S.nd rfl (by first | exact .inl rfl | exact .inr rfl) (ne_lst (da_nil))) rfl rfl rfl)
  (dss_cons (ds_for PassesOwn.never rfl (pi_seq (de_var (pv 5) rfl)) (dg_name (pg_name (i := 4) S.nd rfl (by first | exact .inl rfl | exact .inr rfl)) rfl rfl) (dss_one (ds_for PassesOwn.never rfl (pi_seq (de_var (pv 6) rfl)) (dg_name (pg_name (i := 7) S.nd rfl (by first | exact .inl rfl | exact .inr rfl)) rfl rfl) (dss_one (ds_if (dt_cmp (op_geDD hr.units) (de_callF (ok_hits W) hr (by decide) rfl (da_cons (de_tup (da_cons (de_callF (ok_text_of W) hr (by decide) rfl (da_cons (de_var (pv 0) rfl) (da_cons (de_var (pv 4) rfl) (da_nil))) (consA_len (consA_len (nilA_len)))) (da_nil))) (da_cons (de_tup (da_cons (de_callF (ok_text_of W) hr (by decide) rfl (da_cons (de_var (pv 0) rfl) (da_cons (de_var (pv 7) rfl) (da_nil))) (consA_len (consA_len (nilA_len)))) (da_nil))) (da_cons (de_var (pv 1) rfl) (da_nil)))) (consA_len (consA_len (consA_len (nilA_len))))) (de_var (pv 2) rfl) rfl) (dss_one (ds_app (pv 3) (de_tup (da_cons (de_var (pv 4) rfl) (da_cons (de_var (pv 7) rfl) (da_nil)))) rfl)) (dss_nil))))))
  (dss_one (ds_ret (ps_ret (de_y1 cl_tuple rfl (W.free 57) b_tuple (DE.rd (de_b1 (cl_sorted hr.units) rfl (W.free 59) b_sorted (re_own (pv 3) rfl)))))))))
theorem sc_is_rising : FnScope ["things", "one", "other"] ["things"] d_is_rising.scope := ⟨rfl, rfl, rfl, by decide +kernel, rfl, by decide +kernel, by decide +kernel⟩
theorem ok_is_rising (W : Wd K mg) : Fk P w K mg base 1 "is_rising" ["things"] (spD 1 f_is_rising) :=
  have S := sc_is_rising
  fk_pure (g := g_is_rising) (d := d_is_rising) (N := ["things", "one", "other"]) W 36 42 rfl rfl rfl rfl rfl S (kdOf [.pure, .pure, .pure]) rfl rfl (fun _ _ _ _ _ _ us hl => match us, hl with | [_], _ => rfl) fun f cdv A outer s H F E hr =>
  dss_one (ds_ret (ps_ret (de_b1 (cl_all rfl) rfl (W.free 61) b_all (DE.rd (NE.de (ne_comp (own := [("one", 1), ("other", 2)]) (is := [1, 2]) rfl S.nd rfl rfl rfl (PI.rd (pi_zipD rfl (W.free 70) (de_var (pv 0) rfl) (de_slice (DE.rd (de_var (pv 0) rfl)) (do_some (de_int)) (do_none)))) (fun _ _ _ _ _ _ => dg_tup rfl (dgs_cons (pg_name (i := 1) S.nd rfl (by first | exact .inl rfl | exact .inr rfl)) rfl rfl (dgs_cons (pg_name (i := 2) S.nd rfl (by first | exact .inl rfl | exact .inr rfl)) rfl rfl (dgs_nil)))) (fun _ _ _ _ _ _ => dts_nil) (fun _ _ _ _ _ _ => de_cmp (op_ltDD hr.units) (de_var (pv 1) rfl) (de_var (pv 2) rfl) rfl)))))))
theorem sc_is_hand : FnScope ["hand", "couples", "names"] ["hand", "couples", "names"] d_is_hand.scope := ⟨rfl, rfl, rfl, by decide +kernel, rfl, by decide +kernel, by decide +kernel⟩
theorem ok_is_hand (W : Wd K mg) : Fk P w K mg base 1 "is_hand" ["hand", "couples", "names"] (spD 3 f_is_hand) :=
  have S := sc_is_hand
  fk_pure (g := g_is_hand) (d := d_is_hand) (N := ["hand", "couples", "names"]) W 37 43 rfl rfl rfl rfl rfl S (kdOf [.pure, .pure, .pure]) rfl rfl (fun _ _ _ _ _ _ us hl => match us, hl with | [_, _, _], _ => rfl) fun f cdv A outer s H F E hr =>
  dss_cons (ds_if (dt_not (dt_val (de_isT rfl (W.free 67) rfl (W.free 57) (de_var (pv 0) rfl)))) (dss_one (ds_ret (ps_ret (de_bl)))) (dss_nil))
  (dss_cons (ds_if (dt_cmp (op_eqDD hr.units) (de_b1 cl_len rfl (W.free 56) b_len (DE.rd (de_var (pv 0) rfl))) (de_int) rfl) (dss_one (ds_ret (ps_ret (de_and (de_cmp (op_eqDD hr.units) (de_ix (DE.rd (de_var (pv 0) rfl)) (de_int) (fun _ _ => rfl)) (de_str) rfl) (de_one (de_in (op_inDD hr.u65) (de_slice (DE.rd (de_var (pv 0) rfl)) (do_some (de_int)) (do_none)) (DE.rd (de_var (pv 1) rfl)) rfl)))))) (dss_nil))
  (dss_one (ds_ret (ps_ret (de_and (de_cmp (op_eqDD hr.units) (de_b1 cl_len rfl (W.free 56) b_len (DE.rd (de_var (pv 0) rfl))) (de_int) rfl) (de_and (de_cmp (op_eqDD hr.units) (de_ix (DE.rd (de_var (pv 0) rfl)) (de_int) (fun _ _ => rfl)) (de_str) rfl) (de_one (de_in (op_inDD hr.u65) (de_ix (DE.rd (de_var (pv 0) rfl)) (de_int) (fun _ _ => rfl)) (DE.rd (de_var (pv 2) rfl)) rfl))))))))
theorem sc_are_served : FnScope ["some", "couples", "lefts", "rights", "pairs", "makes", "names", "hand"] ["some", "couples", "lefts", "rights"] d_are_served.scope := ⟨rfl, rfl, rfl, by decide +kernel, rfl, by decide +kernel, by decide +kernel⟩
theorem ok_are_served (W : Wd K mg) : Fk P w K mg base 2 "are_served" ["some", "couples", "lefts", "rights"] (spD 4 f_are_served) :=
  have S := sc_are_served
  fk_pure (g := g_are_served) (d := d_are_served) (N := ["some", "couples", "lefts", "rights", "pairs", "makes", "names", "hand"]) W 38 44 rfl rfl rfl rfl rfl S (kdOf [.pure, .pure, .pure, .pure, .pure, .pure, .lst, .pure]) rfl rfl (fun _ _ _ _ _ _ us hl => match us, hl with | [_, _, _, _], _ => rfl) fun f cdv A outer s H F E hr =>
  dss_cons (ds_if (dt_not (dt_val (de_b1 (cl_all rfl) rfl (W.free 61) b_all (DE.rd (NE.de (ne_comp (own := [("hand", 7)]) (is := [7]) rfl S.nd rfl rfl rfl (PI.rd (pi_seq (de_var (pv 0) rfl))) (fun _ _ _ _ _ _ => dg_name (pg_name (i := 7) S.nd rfl (by first | exact .inl rfl | exact .inr rfl)) rfl rfl) (fun _ _ _ _ _ _ => dts_nil) (fun _ _ _ _ _ _ => de_callF (ok_is_hand W) hr (by decide) rfl (da_cons (de_var (pv 7) rfl) (da_cons (de_var (pv 1) rfl) (da_cons (de_op op_addD (de_var (pv 2) rfl) (de_var (pv 3) rfl)) (da_nil)))) (consA_len (consA_len (consA_len (nilA_len))))))))))) (dss_one (ds_ret (ps_ret (de_bl)))) (dss_nil))
  (dss_cons (ds_setN (ps_comp (i := 4) (own := [("hand", 7)]) (is := [7]) rfl S.nd rfl rfl rfl rfl rfl rfl rfl rfl (PI.rd (pi_seq (de_var (pv 0) rfl))) (fun _ _ _ _ _ _ => dg_name (pg_name (i := 7) S.nd rfl (by first | exact .inl rfl | exact .inr rfl)) rfl rfl) (fun _ _ _ _ _ _ => dts_one (dt_cmp (op_eqDD hr.units) (de_ix (DE.rd (de_var (pv 7) rfl)) (de_int) (fun _ _ => rfl)) (de_str) rfl)) (fun _ _ _ _ _ _ => de_var (pv 7) rfl)) rfl rfl)
  (dss_cons (ds_set (ps_set (i := 5) S.nd rfl (by first | exact .inl rfl | exact .inr rfl) (de_slice (DE.rd (de_var (pv 0) rfl)) (do_some (de_b1 cl_len rfl (W.free 56) b_len (DE.rd (de_var (pv 4) rfl)))) (do_none))) rfl rfl)
  (dss_cons (ds_if (WT.dt (wt_or (dt_not (dt_val (de_b1 (cl_all rfl) rfl (W.free 61) b_all (DE.rd (NE.de (ne_comp (own := [("hand", 7)]) (is := [7]) rfl S.nd rfl rfl rfl (PI.rd (pi_seq (de_var (pv 5) rfl))) (fun _ _ _ _ _ _ => dg_name (pg_name (i := 7) S.nd rfl (by first | exact .inl rfl | exact .inr rfl)) rfl rfl) (fun _ _ _ _ _ _ => dts_nil) (fun _ _ _ _ _ _ => de_cmp (op_eqDD hr.units) (de_ix (DE.rd (de_var (pv 7) rfl)) (de_int) (fun _ _ => rfl)) (de_str) rfl))))))) (wt_or (dt_not (dt_val (de_callF (ok_is_rising W) hr (by decide) rfl (da_cons (de_var (pv 4) rfl) (da_nil)) (consA_len (nilA_len))))) (wt_or1 (dt_not (dt_val (de_callF (ok_is_rising W) hr (by decide) rfl (da_cons (de_var (pv 5) rfl) (da_nil)) (consA_len (nilA_len))))))))) (dss_one (ds_ret (ps_ret (de_bl)))) (dss_nil))
  (dss_cons (ds_own (ps_set (i := 6) S.nd rfl (by first | exact .inl rfl | exact .inr rfl) (ne_lst (da_nil))) rfl rfl rfl)
  (dss_cons (ds_for PassesOwn.never rfl (pi_seq (de_var (pv 0) rfl)) (dg_name (pg_name (i := 7) S.nd rfl (by first | exact .inl rfl | exact .inr rfl)) rfl rfl) (dss_one (ds_ext (pv 6) (DE.rd (de_slice (DE.rd (de_var (pv 7) rfl)) (do_some (de_int)) (do_none))) rfl)))
  (dss_one (ds_ret (ps_ret (de_cmp (op_eqDD hr.units) (de_b1 (cl_sorted hr.units) rfl (W.free 59) b_sorted (re_own (pv 6) rfl)) (de_b1 (cl_sorted hr.units) rfl (W.free 59) b_sorted (DE.rd (de_op op_addD (de_var (pv 2) rfl) (de_var (pv 3) rfl)))) rfl)))))))))
theorem sc_is_paper : FnScope ["paper", "couples", "names", "name", "one", "other"] ["paper", "couples", "names"] d_is_paper.scope := ⟨rfl, rfl, rfl, by decide +kernel, rfl, by decide +kernel, by decide +kernel⟩
theorem ok_is_paper (W : Wd K mg) : Fk P w K mg base 2 "is_paper" ["paper", "couples", "names"] (spD 3 f_is_paper) :=
  have S := sc_is_paper
  fk_pure (g := g_is_paper) (d := d_is_paper) (N := ["paper", "couples", "names", "name", "one", "other"]) W 39 45 rfl rfl rfl rfl rfl S (kdOf [.pure, .pure, .pure, .pure, .pure, .pure]) rfl rfl (fun _ _ _ _ _ _ us hl => match us, hl with | [_, _, _], _ => rfl) fun f cdv A outer s H F E hr =>
  dss_cons (ds_if (WT.dt (wt_or (dt_not (dt_val (de_isT rfl (W.free 67) rfl (W.free 57) (de_var (pv 0) rfl)))) (wt_or (dt_not (dt_val (de_b1 (cl_all rfl) rfl (W.free 61) b_all (DE.rd (NE.de (ne_comp (own := [("name", 3)]) (is := [3]) rfl S.nd rfl rfl rfl (PI.rd (pi_seq (de_var (pv 0) rfl))) (fun _ _ _ _ _ _ => dg_name (pg_name (i := 3) S.nd rfl (by first | exact .inl rfl | exact .inr rfl)) rfl rfl) (fun _ _ _ _ _ _ => dts_nil) (fun _ _ _ _ _ _ => de_in (op_inDD hr.u65) (de_var (pv 3) rfl) (DE.rd (de_var (pv 2) rfl)) rfl))))))) (wt_or1 (dt_not (dt_val (de_callF (ok_is_rising W) hr (by decide) rfl (da_cons (de_var (pv 0) rfl) (da_nil)) (consA_len (nilA_len))))))))) (dss_one (ds_ret (ps_ret (de_bl)))) (dss_nil))
  (dss_one (ds_ret (ps_ret (de_not (de_b1 (cl_any rfl) rfl (W.free 60) b_any (DE.rd (NE.de (ne_comp (own := [("one", 4), ("other", 5)]) (is := [4, 5]) rfl S.nd rfl rfl rfl (PI.rd (pi_seq (de_var (pv 1) rfl))) (fun _ _ _ _ _ _ => dg_tup rfl (dgs_cons (pg_name (i := 4) S.nd rfl (by first | exact .inl rfl | exact .inr rfl)) rfl rfl (dgs_cons (pg_name (i := 5) S.nd rfl (by first | exact .inl rfl | exact .inr rfl)) rfl rfl (dgs_nil)))) (fun _ _ _ _ _ _ => dts_nil) (fun _ _ _ _ _ _ => de_and (de_in (op_inDD hr.u65) (de_var (pv 4) rfl) (DE.rd (de_var (pv 0) rfl)) rfl) (de_one (de_in (op_inDD hr.u65) (de_var (pv 5) rfl) (DE.rd (de_var (pv 0) rfl)) rfl)))))))))))
theorem sc_shows_hands : FnScope ["book", "couples", "told", "steps", "some", "paper", "lefts", "rights", "name"] ["book", "couples", "told"] d_shows_hands.scope := ⟨rfl, rfl, rfl, by decide +kernel, rfl, by decide +kernel, by decide +kernel⟩
theorem ok_shows_hands (W : Wd K mg) : Fk P w K mg base 10 "shows_hands" ["book", "couples", "told"] (spD 3 f_shows_hands) :=
  have S := sc_shows_hands
  fk_pure (g := g_shows_hands) (d := d_shows_hands) (N := ["book", "couples", "told", "steps", "some", "paper", "lefts", "rights", "name"]) W 40 46 rfl rfl rfl rfl rfl S (kdOf [.pure, .pure, .pure, .pure, .pure, .pure, .pure, .pure, .pure]) rfl rfl (fun _ _ _ _ _ _ us hl => match us, hl with | [_, _, _], _ => rfl) fun f cdv A outer s H F E hr =>
  dss_cons (ds_if (WT.dt (wt_or (dt_not (dt_val (de_isT rfl (W.free 67) rfl (W.free 57) (de_var (pv 2) rfl)))) (wt_or (dt_cmp (op_neDD hr.units) (de_b1 cl_len rfl (W.free 56) b_len (DE.rd (de_var (pv 2) rfl))) (de_int) rfl) (wt_or1 (dt_not (dt_val (de_isT rfl (W.free 67) rfl (W.free 57) (de_ix (DE.rd (de_var (pv 2) rfl)) (de_int) (fun _ _ => rfl))))))))) (dss_one (ds_ret (ps_ret (de_bl)))) (dss_nil))
  (dss_cons (ds_tgt (ps_asg (de_var (pv 2) rfl) (dg_tup rfl (dgs_cons (pg_name (i := 4) S.nd rfl (by first | exact .inl rfl | exact .inr rfl)) rfl rfl (dgs_cons (pg_name (i := 5) S.nd rfl (by first | exact .inl rfl | exact .inr rfl)) rfl rfl (dgs_nil))))))
  (dss_cons (ds_set (ps_set (i := 3) S.nd rfl (by first | exact .inl rfl | exact .inr rfl) (de_callF (ok_step_names W) hr (by decide) rfl (da_cons (de_var (pv 0) rfl) (da_nil)) (consA_len (nilA_len)))) rfl rfl)
  (dss_cons (ds_tgt (ps_asg (de_callF (ok_lacking W) hr (by decide) rfl (da_cons (de_var (pv 0) rfl) (da_nil)) (consA_len (nilA_len))) (dg_tup rfl (dgs_cons (pg_name (i := 6) S.nd rfl (by first | exact .inl rfl | exact .inr rfl)) rfl rfl (dgs_cons (pg_name (i := 7) S.nd rfl (by first | exact .inl rfl | exact .inr rfl)) rfl rfl (dgs_nil))))))
  (dss_cons (ds_if (dt_cmp (op_neDD hr.units) (de_slice (DE.rd (de_var (pv 4) rfl)) (do_none) (do_some (de_b1 cl_len rfl (W.free 56) b_len (DE.rd (de_var (pv 3) rfl))))) (de_y1 cl_tuple rfl (W.free 57) b_tuple (DE.rd (NE.de (ne_comp (own := [("name", 8)]) (is := [8]) rfl S.nd rfl rfl rfl (PI.rd (pi_seq (de_var (pv 3) rfl))) (fun _ _ _ _ _ _ => dg_name (pg_name (i := 8) S.nd rfl (by first | exact .inl rfl | exact .inr rfl)) rfl rfl) (fun _ _ _ _ _ _ => dts_nil) (fun _ _ _ _ _ _ => de_tup (da_cons (de_str) (da_cons (de_var (pv 8) rfl) (da_nil)))))))) rfl) (dss_one (ds_ret (ps_ret (de_bl)))) (dss_nil))
  (dss_cons (ds_if (dt_not (dt_val (de_callF (ok_are_served W) hr (by decide) rfl (da_cons (NE.de (ne_list rfl (W.free 58) b_list (DE.rd (de_slice (DE.rd (de_var (pv 4) rfl)) (do_some (de_b1 cl_len rfl (W.free 56) b_len (DE.rd (de_var (pv 3) rfl)))) (do_none))))) (da_cons (de_var (pv 1) rfl) (da_cons (de_var (pv 6) rfl) (da_cons (de_var (pv 7) rfl) (da_nil))))) (consA_len (consA_len (consA_len (consA_len (nilA_len)))))))) (dss_one (ds_ret (ps_ret (de_bl)))) (dss_nil))
  (dss_one (ds_ret (ps_ret (de_and (de_callF (ok_is_paper W) hr (by decide) rfl (da_cons (de_var (pv 5) rfl) (da_cons (de_var (pv 1) rfl) (da_cons (de_op op_addD (NE.de (ne_list rfl (W.free 58) b_list (DE.rd (de_op op_addD (de_var (pv 6) rfl) (de_var (pv 7) rfl))))) (de_var (pv 3) rfl)) (da_nil)))) (consA_len (consA_len (consA_len (nilA_len))))) (de_one (de_cmp (op_eqDD hr.units) (de_b1 cl_len rfl (W.free 56) b_len (DE.rd (de_var (pv 5) rfl))) (de_b1 cl_len rfl (W.free 56) b_len (DE.rd (de_var (pv 4) rfl))) rfl)))))))))))
theorem sc__law_lacking : FnScope ["_law_book_here", "_law_taken", "_law_link", "_law_side", "_law_part"] ["_law_book_here"] d__law_lacking.scope := ⟨rfl, rfl, rfl, by decide +kernel, rfl, by decide +kernel, by decide +kernel⟩
theorem ok__law_lacking (W : Wd K mg) : Fk P w K mg base 1 "_law_lacking" ["_law_book_here"] (spD 1 f__law_lacking) :=
  have S := sc__law_lacking
  fk_pure (g := g__law_lacking) (d := d__law_lacking) (N := ["_law_book_here", "_law_taken", "_law_link", "_law_side", "_law_part"]) W 48 54 rfl rfl rfl rfl rfl S (kdOf [.pure, .pure, .pure, .pure, .pure]) rfl rfl (fun _ _ _ _ _ _ us hl => match us, hl with | [_], _ => rfl) fun f cdv A outer s H F E hr =>
  dss_cons (ds_setN (ps_set (i := 1) S.nd rfl (by first | exact .inl rfl | exact .inr rfl) (ne_list rfl (W.free 58) b_list (DE.rd (de_ix (DE.rd (de_var (pv 0) rfl)) (de_int) (fun _ _ => rfl))))) rfl rfl)
  (dss_cons (ds_for PassesOwn.never rfl (pi_seq (de_ix (DE.rd (de_var (pv 0) rfl)) (de_int) (fun _ _ => rfl))) (dg_name (pg_name (i := 2) S.nd rfl (by first | exact .inl rfl | exact .inr rfl)) rfl rfl) (dss_one (ds_set (ps_set (i := 1) S.nd rfl (by first | exact .inl rfl | exact .inr rfl) (de_op op_addD (de_op op_addD (de_var (pv 1) rfl) (NE.de (ne_list rfl (W.free 58) b_list (DE.rd (de_ix (DE.rd (de_var (pv 2) rfl)) (de_int) (fun _ _ => rfl)))))) (NE.de (ne_list rfl (W.free 58) b_list (DE.rd (de_ix (DE.rd (de_var (pv 2) rfl)) (de_int) (fun _ _ => rfl))))))) rfl rfl)))
  (dss_one (ds_ret (ps_ret (NE.de (ne_comp (own := [("_law_side", 3)]) (is := [3]) rfl S.nd rfl rfl rfl (PI.rd (pi_seq (de_slice (DE.rd (de_var (pv 0) rfl)) (do_none) (do_some (de_int))))) (fun _ _ _ _ _ _ => dg_name (pg_name (i := 3) S.nd rfl (by first | exact .inl rfl | exact .inr rfl)) rfl rfl) (fun _ _ _ _ _ _ => dts_nil) (fun _ _ _ _ _ _ => NE.de (ne_comp (own := [("_law_part", 4)]) (is := [4]) rfl S.nd rfl rfl rfl (PI.rd (pi_seq (de_var (pv 3) rfl))) (fun _ _ _ _ _ _ => dg_name (pg_name (i := 4) S.nd rfl (by first | exact .inl rfl | exact .inr rfl)) rfl rfl) (fun _ _ _ _ _ _ => dts_one (dt_in (op_notInDD hr.u65) (de_ix (DE.rd (de_var (pv 4) rfl)) (de_int) (fun _ _ => rfl)) (DE.rd (de_var (pv 1) rfl)) rfl)) (fun _ _ _ _ _ _ => de_ix (DE.rd (de_var (pv 4) rfl)) (de_int) (fun _ _ => rfl))))))))))
theorem sc__law_is_stale : FnScope ["_law_book_here", "_law_link", "_law_moments_here", "_law_name", "_law_text_here", "_law_mine", "_law_moment"] ["_law_book_here", "_law_link"] d__law_is_stale.scope := ⟨rfl, rfl, rfl, by decide +kernel, rfl, by decide +kernel, by decide +kernel⟩
theorem ok__law_is_stale (W : Wd K mg) : Fk P w K mg base 1 "_law_is_stale" ["_law_book_here", "_law_link"] (spD 2 f__law_is_stale) :=
  have S := sc__law_is_stale
  fk_pure (g := g__law_is_stale) (d := d__law_is_stale) (N := ["_law_book_here", "_law_link", "_law_moments_here", "_law_name", "_law_text_here", "_law_mine", "_law_moment"]) W 49 55 rfl rfl rfl rfl rfl S (kdOf [.pure, .pure, .pure, .pure, .pure, .pure, .pure]) rfl rfl (fun _ _ _ _ _ _ us hl => match us, hl with | [_, _], _ => rfl) fun f cdv A outer s H F E hr =>
  dss_cons (ds_set (ps_set (i := 2) S.nd rfl (by first | exact .inl rfl | exact .inr rfl) (de_op op_addD (NE.de (ne_list rfl (W.free 58) b_list (DE.rd (de_ix (DE.rd (de_ix (DE.rd (de_var (pv 1) rfl)) (de_int) (fun _ _ => rfl))) (de_int) (fun _ _ => rfl))))) (NE.de (ne_list rfl (W.free 58) b_list (DE.rd (de_ix (DE.rd (de_ix (DE.rd (de_var (pv 1) rfl)) (de_int) (fun _ _ => rfl))) (de_int) (fun _ _ => rfl))))))) rfl rfl)
  (dss_cons (ds_for PassesOwn.never rfl (pi_seq (de_op op_addD (de_ix (DE.rd (de_var (pv 0) rfl)) (de_int) (fun _ _ => rfl)) (de_ix (DE.rd (de_var (pv 0) rfl)) (de_int) (fun _ _ => rfl)))) (dg_tup rfl (dgs_cons (pg_name (i := 3) S.nd rfl (by first | exact .inl rfl | exact .inr rfl)) rfl rfl (dgs_cons (pg_name (i := 4) S.nd rfl (by first | exact .inl rfl | exact .inr rfl)) rfl rfl (dgs_cons (pg_name (i := 5) S.nd rfl (by first | exact .inl rfl | exact .inr rfl)) rfl rfl (dgs_nil))))) (dss_one (ds_if (dt_in (op_inDD hr.u65) (de_var (pv 3) rfl) (DE.rd (de_op op_addD (de_ix (DE.rd (de_var (pv 1) rfl)) (de_int) (fun _ _ => rfl)) (de_ix (DE.rd (de_var (pv 1) rfl)) (de_int) (fun _ _ => rfl)))) rfl) (dss_one (ds_set (ps_set (i := 2) S.nd rfl (by first | exact .inl rfl | exact .inr rfl) (de_op op_addD (de_var (pv 2) rfl) (NE.de (ne_list rfl (W.free 58) b_list (DE.rd (de_var (pv 5) rfl)))))) rfl rfl)) (dss_nil))))
  (dss_one (ds_ret (ps_ret (de_b1 (cl_any rfl) rfl (W.free 60) b_any (DE.rd (NE.de (ne_comp (own := [("_law_moment", 6)]) (is := [6]) rfl S.nd rfl rfl rfl (PI.rd (pi_seq (de_var (pv 2) rfl))) (fun _ _ _ _ _ _ => dg_name (pg_name (i := 6) S.nd rfl (by first | exact .inl rfl | exact .inr rfl)) rfl rfl) (fun _ _ _ _ _ _ => dts_nil) (fun _ _ _ _ _ _ => de_cmp (op_gtDD hr.units) (de_var (pv 6) rfl) (de_ix (DE.rd (de_var (pv 1) rfl)) (de_int) (fun _ _ => rfl)) rfl)))))))))
theorem sc__law_all_in_step : FnScope ["_law_book_here", "_law_lefts", "_law_rights", "_law_link"] ["_law_book_here"] d__law_all_in_step.scope := ⟨rfl, rfl, rfl, by decide +kernel, rfl, by decide +kernel, by decide +kernel⟩
theorem ok__law_all_in_step (W : Wd K mg) : Fk P w K mg base 2 "_law_all_in_step" ["_law_book_here"] (spD 1 f__law_all_in_step) :=
  have S := sc__law_all_in_step
  fk_pure (g := g__law_all_in_step) (d := d__law_all_in_step) (N := ["_law_book_here", "_law_lefts", "_law_rights", "_law_link"]) W 51 57 rfl rfl rfl rfl rfl S (kdOf [.pure, .pure, .pure, .pure]) rfl rfl (fun _ _ _ _ _ _ us hl => match us, hl with | [_], _ => rfl) fun f cdv A outer s H F E hr =>
  dss_cons (ds_tgt (ps_asg (de_callF (ok__law_lacking W) hr (by decide) rfl (da_cons (de_var (pv 0) rfl) (da_nil)) (consA_len (nilA_len))) (dg_lst rfl (dgs_cons (pg_name (i := 1) S.nd rfl (by first | exact .inl rfl | exact .inr rfl)) rfl rfl (dgs_cons (pg_name (i := 2) S.nd rfl (by first | exact .inl rfl | exact .inr rfl)) rfl rfl (dgs_nil))))))
  (dss_one (ds_ret (ps_ret (de_and (de_cmp (op_eqDD hr.units) (de_op op_addD (de_var (pv 1) rfl) (de_var (pv 2) rfl)) (NE.de (ne_lst (da_nil))) rfl) (de_one (de_not (de_b1 (cl_any rfl) rfl (W.free 60) b_any (DE.rd (NE.de (ne_comp (own := [("_law_link", 3)]) (is := [3]) rfl S.nd rfl rfl rfl (PI.rd (pi_seq (de_ix (DE.rd (de_var (pv 0) rfl)) (de_int) (fun _ _ => rfl)))) (fun _ _ _ _ _ _ => dg_name (pg_name (i := 3) S.nd rfl (by first | exact .inl rfl | exact .inr rfl)) rfl rfl) (fun _ _ _ _ _ _ => dts_nil) (fun _ _ _ _ _ _ => de_callF (ok__law_is_stale W) hr (by decide) rfl (da_cons (de_var (pv 0) rfl) (da_cons (de_var (pv 3) rfl) (da_nil))) (consA_len (consA_len (nilA_len))))))))))))))
theorem sc__law_latest : FnScope ["_law_book_here", "_law_moments_here", "_law_name", "_law_text_here", "_law_mine", "_law_ones", "_law_others", "_law_told", "_law_lost"] ["_law_book_here"] d__law_latest.scope := ⟨rfl, rfl, rfl, by decide +kernel, rfl, by decide +kernel, by decide +kernel⟩
theorem ok__law_latest (W : Wd K mg) : Fk P w K mg base 1 "_law_latest" ["_law_book_here"] (spD 1 f__law_latest) :=
  have S := sc__law_latest
  fk_pure (g := g__law_latest) (d := d__law_latest) (N := ["_law_book_here", "_law_moments_here", "_law_name", "_law_text_here", "_law_mine", "_law_ones", "_law_others", "_law_told", "_law_lost"]) W 52 58 rfl rfl rfl rfl rfl S (kdOf [.pure, .lst, .pure, .pure, .pure, .pure, .pure, .pure, .pure]) rfl rfl (fun _ _ _ _ _ _ us hl => match us, hl with | [_], _ => rfl) fun f cdv A outer s H F E hr =>
  dss_cons (ds_own (ps_set (i := 1) S.nd rfl (by first | exact .inl rfl | exact .inr rfl) (ne_lst (da_cons (de_int) (da_nil)))) rfl rfl rfl)
  (dss_cons (ds_for PassesOwn.never rfl (pi_seq (de_op op_addD (de_ix (DE.rd (de_var (pv 0) rfl)) (de_int) (fun _ _ => rfl)) (de_ix (DE.rd (de_var (pv 0) rfl)) (de_int) (fun _ _ => rfl)))) (dg_tup rfl (dgs_cons (pg_name (i := 2) S.nd rfl (by first | exact .inl rfl | exact .inr rfl)) rfl rfl (dgs_cons (pg_name (i := 3) S.nd rfl (by first | exact .inl rfl | exact .inr rfl)) rfl rfl (dgs_cons (pg_name (i := 4) S.nd rfl (by first | exact .inl rfl | exact .inr rfl)) rfl rfl (dgs_nil))))) (dss_one (ds_ext (pv 1) (DE.rd (de_var (pv 4) rfl)) rfl)))
  (dss_cons (ds_for PassesOwn.never rfl (pi_seq (de_ix (DE.rd (de_var (pv 0) rfl)) (de_int) (fun _ _ => rfl))) (dg_tup rfl (dgs_cons (pg_name (i := 5) S.nd rfl (by first | exact .inl rfl | exact .inr rfl)) rfl rfl (dgs_cons (pg_name (i := 6) S.nd rfl (by first | exact .inl rfl | exact .inr rfl)) rfl rfl (dgs_cons (pg_name (i := 7) S.nd rfl (by first | exact .inl rfl | exact .inr rfl)) rfl rfl (dgs_cons (pg_name (i := 8) S.nd rfl (by first | exact .inl rfl | exact .inr rfl)) rfl rfl (dgs_nil)))))) (dss_one (ds_ext (pv 1) (DE.rd (de_op op_addD (de_op op_addD (NE.de (ne_lst (da_cons (de_var (pv 7) rfl) (da_nil)))) (NE.de (ne_list rfl (W.free 58) b_list (DE.rd (de_ix (DE.rd (de_var (pv 8) rfl)) (de_int) (fun _ _ => rfl)))))) (NE.de (ne_list rfl (W.free 58) b_list (DE.rd (de_ix (DE.rd (de_var (pv 8) rfl)) (de_int) (fun _ _ => rfl))))))) rfl)))
  (dss_one (ds_ret (ps_ret (de_b1 (cl_max rfl hr.units) rfl (W.free 63) b_max (re_own (pv 1) rfl)))))))
end
end TK
end
section
set_option Elab.async false
set_option linter.all false
set_option maxRecDepth 100000
set_option maxHeartbeats 4000000
namespace TK
open PySem PySem.Spec PyProof.Rows L2
/-! ### pop within a display; a pair's second into a dict -/
section
variable {C : Cfg} {ρ : Env} {γ γ' : G} {σ : L2.St} {F H : Hp} {i : Nat}
theorem SE.skip (s : SE C ρ γ σ F H) (hd : OffD C i) (v : Option V) (e : ∀ d, ρ[i]? ≠ some (some d)) : SE C ρ γ (σ.set i v) F H := by
  obtain ⟨fp, h1, h2, h3⟩ := s.sl
  refine ⟨s.ent, s.dr, s.drh, fun p q e => by rw [List.getElem?_set_ne (offD hd e)]; exact s.dsl p q e, by simpa using s.len, fp, fun j x ex => ?_, h2, h3⟩
  have n : j ≠ i := fun z => e x (by rw [← z]; exact ex)
  obtain ⟨w, hw, ok⟩ := h1 j x ex
  exact ⟨w, by rw [List.getElem?_set_ne (Ne.symm n)]; exact hw, ok⟩
end
def tP (C : Cfg) (i : Nat) (g : GA) : TA := fun σ H Q => ∃ ρ γ F ds γ' w r, SE C ρ γ σ F H ∧ g ρ γ = some (ds, γ') ∧ ownL ρ i = some (w :: r) ∧ ∀ vs F' H', Same F F' → SE C (ρ.set i (some (.list r))) γ' σ F' H' → DvAll F' vs (ds ++ [w]) → Q vs H'
def popS (j i : Nat) (a : GA) : GS := fun ρ γ => (ownL ρ j).bind fun ds => (a ρ γ).bind fun x => (ownL ρ i).bind fun ws => match ws with
  | [] => none
  | w :: r => if ds.length < LINE ∧ x.1.length < LINE ∧ i ≠ j then some (.nx ((ρ.set i (some (.list r))).set j (some (.list (ds ++ [.tuple (x.1 ++ [w])])))), x.2) else none
section
variable {X : Cx} {C : Cfg} {pos : Pos} {i j : Nat} {a e : Expr} {ga ge : GE} {g : GA}
theorem pa_pop {y : Str} {py apos cpos ip : Pos} {k : Nat} (hy : PE X (.Name y py) (tVar i)) (hk : C.kd i = .lst)
    (hs0 : starEach (.Call (.Attribute (.Name y py) "pop" apos) (.Constant (.int 0) k ip :: []) [] cpos :: []) X.env = (false, eval (.Call (.Attribute (.Name y py) "pop" apos) (.Constant (.int 0) k ip :: []) [] cpos) X.env) :: starEach [] X.env := by rfl)
    (hbase : attributeBase (.Name y py) "pop" X.env (eval (.Name y py) X.env) = eval (.Name y py) X.env := by rfl)
    (hfew : ((backTo cpos (starEach (.Constant (.int 0) k ip :: []) X.env)).all (fun x => !x.1) && (backToKw cpos (keywordEach [] X.env)).all (fun x => x.1.isSome)
      && decide ((Expr.Constant (.int 0) k ip :: []).length + ([] : List Keyword).length + (if ([] : List Keyword).isEmpty then 0 else 1) < 30)) = true := by rfl)
    (hline : (apos.endLine == cpos.line) = true := by rfl) (hs : starEach (.Constant (.int 0) k ip :: []) X.env = (false, eval (.Constant (.int 0) k ip) X.env) :: starEach [] X.env := by rfl) (hplain : (backTo cpos (starEach [] X.env)).any (·.1) = false := by rfl) :
    PA X [.Call (.Attribute (.Name y py) "pop" apos) (.Constant (.int 0) k ip :: []) [] cpos] (tP C i nilA) :=
  PA.imp (pa_cons (pe_bm PySem.F.plainAttrs_list PySem.F.slot_list_pop PySem.F.type_list_pop mt_popAt hy (pa_cons pe_int pa_nil hs) hbase hfew hline hs hplain) pa_nil hs0) fun σ H Q q => by
    obtain ⟨ρ, γ, F, ds, γ', w, r, se, hg, e0, q⟩ := q
    cases hg
    have e0 := ownL_un e0
    obtain ⟨a, xs, hv, ha, al, nd, mk⟩ := se.mut hk e0
    cases al with
    | @cons v vs _ _ dv al =>
    refine ⟨.ref a, hv, tyL ha, a, v :: vs, 0, 0, v, rfl, rfl, ha, by decide, by decide, ?_, rfl, ?_⟩
    · rw [List.length_cons]
      exact (ixN_seq (ixN0 _)).1
    · show Q [v] (upd H a (.lst ((v :: vs).eraseIdx 0)))
      rw [List.eraseIdx_zero, List.tail_cons]
      exact q [v] F _ (Same.refl F) (mk vs r al) (.cons dv .nil)
theorem pa_popc {es : List Expr} (ha : DE X C a ga) (hr : PA X es (tP C i g)) (hs : starEach (a :: es) X.env = (false, eval a X.env) :: starEach es X.env := by rfl) : PA X (a :: es) (tP C i (consA ga g)) := PA.imp (pa_cons ha hr hs) fun σ H Q q => by
  obtain ⟨ρ, γ, F, ds, γ', w, r, se, hg, e0, q⟩ := q
  obtain ⟨⟨x, γ1⟩, e1, hg⟩ := bnd hg
  obtain ⟨⟨y, γ2⟩, e2, hg⟩ := bnd hg
  cases hg
  refine ⟨ρ, γ, F, x, γ1, se, e1, fun v F1 H1 st1 dr1 dv1 => ⟨ρ, γ1, F1, y, _, w, r, se.step st1 dr1, e2, e0, fun vs F2 H2 k2 se2 al2 => ?_⟩⟩
  exact q (v :: vs) F2 H2 (st1.ff.trans k2) se2 (.cons (dv1.up k2) al2)
/-- deeds.append((e, .., waiting.pop(0))) -/
theorem ds_popapp {y : Str} {py tp apos cpos : Pos} {es : List Expr} {kt : Nat} (hy : PE X (.Name y py) (tVar j)) (he : PA X es (tP C i g)) (hk : C.kd j = .lst)
    (hbase : attributeBase (.Name y py) "append" X.env (eval (.Name y py) X.env) = eval (.Name y py) X.env := by rfl)
    (hfew : ((backTo cpos (starEach (.Tuple es kt tp :: []) X.env)).all (fun x => !x.1) && (backToKw cpos (keywordEach [] X.env)).all (fun x => x.1.isSome)
      && decide ((Expr.Tuple es kt tp :: []).length + ([] : List Keyword).length + (if ([] : List Keyword).isEmpty then 0 else 1) < 30)) = true := by rfl)
    (hline : (apos.endLine == cpos.line) = true := by rfl) (hs : starEach (.Tuple es kt tp :: []) X.env = (false, eval (.Tuple es kt tp) X.env) :: starEach [] X.env := by rfl) (hplain : (backTo cpos (starEach [] X.env)).any (·.1) = false := by rfl)
    (hsw : swapsWith (.Call (.Attribute (.Name y py) "append" apos) (.Tuple es kt tp :: []) [] cpos) none pos.line X.env = pure false := by rfl) :
    DS X C (.Expr (.Call (.Attribute (.Name y py) "append" apos) (.Tuple es kt tp :: []) [] cpos) pos) (popS j i g) :=
  PS.imp (ps_expr (pe_bm PySem.F.plainAttrs_list PySem.F.slot_list_append PySem.F.type_list_append mt_append hy (pa_cons (pe_tup he) pa_nil hs) hbase hfew hline hs hplain) hsw) fun E σ H q => by
    obtain ⟨ρ, γ, F, o, γ', se, hg, q⟩ := q
    obtain ⟨ds, e0, hg⟩ := bnd hg
    obtain ⟨⟨x, γ1⟩, e1, hg⟩ := bnd hg
    obtain ⟨ws, e2, hg⟩ := bnd hg
    cases ws with
    | nil => cases hg
    | cons w r =>
      simp only at hg
      split at hg
      · rename_i hz
        obtain ⟨z1, z2, z3⟩ := hz
        cases hg
        have e0 := ownL_un e0
        obtain ⟨a, xs, hv, ha, al, nd, _⟩ := se.mut hk e0
        refine ⟨.ref a, hv, tyL ha, ρ, γ, F, x, _, w, r, se, e1, e2, fun vs F' H' k1 se1 al1 => ⟨?_, fun p hp => ?_⟩⟩
        · rw [al1.len, List.length_append, List.length_singleton]
          exact line_le (by omega)
        · have st := Stp.new (dr := none) (o := HO.tup vs) se1.fh hp
          have se2 := se1.stq st
          have e3 : (ρ.set i (some (.list r)))[j]? = some (some (.list ds)) := by
            rw [List.getElem?_set_ne z3]
            exact e0
          obtain ⟨a2, xs2, hv2, ha2, al2, nd2, mk⟩ := se2.mut hk e3
          rw [hv] at hv2
          cases hv2
          have dv : Dv (upd F' p (HO.tup vs)) (.ref p) (.tuple (x ++ [w])) := .tup upd_same (al1.up (same_new (se1.fh.free hp)))
          exact ⟨a, xs2, .ref p, rfl, rfl, ha2, by rw [al2.len]; exact line_lt z1, q σ _ _ (k1.trans (same_new (se1.fh.free hp))) (mk _ _ (al2.snoc dv))⟩
      · cases hg
/-- t, d[k] = a pair -/
def wordsS (it iw : Nat) (k a : GE) : GS := fun ρ γ => (a ρ γ).bind fun x => match x.1 with
  | .tuple [u, v] => (k (ρ.set it (some u)) x.2).bind fun y => match (ρ.set it (some u))[iw]?, y.1 with
    | some (some (.dict kv)), .str s => if kv.length < LINE then some (.nx ((ρ.set it (some u)).set iw (some (.dict (putKs s kv)))), y.2) else none
    | _, _ => none
  | _ => none
theorem ds_words {it iw : Nat} {gk : GE} {s : Stmt}
    (h : PS X s (tAsg (tD C ge) (gTup X.K 2 (gCons (gName it) (gCons (gSub (tVar iw) (tD C gk) rSetD) gNil))))) (hk : C.kd iw = .dic) (hkt : C.kd it = .pure) (hd : OffD C it) :
    DS X C s (wordsS it iw gk ge) := PS.imp h fun E σ H q => by
  obtain ⟨ρ, γ, F, o, γ', se, hg, q⟩ := q
  obtain ⟨⟨x, γ1⟩, e1, hg⟩ := bnd hg
  obtain ⟨u, v, rfl, hg⟩ : ∃ u v, x = .tuple [u, v] ∧ ((gk (ρ.set it (some u)) γ1).bind fun y => match (ρ.set it (some u))[iw]?, y.1 with
    | some (some (.dict kv)), .str s => if kv.length < LINE then some (Out.nx ((ρ.set it (some u)).set iw (some (.dict (putKs s kv)))), y.2) else none
    | _, _ => none) = some (o, γ') := by
    simp only at hg
    split at hg
    · exact ⟨_, _, rfl, hg⟩
    · cases hg
  obtain ⟨⟨y, γ2⟩, e2, hg⟩ := bnd hg
  obtain ⟨kv, w, e0, rfl, hz, e3⟩ : ∃ kv w, (ρ.set it (some u))[iw]? = some (some (.dict kv)) ∧ y = .str w ∧ kv.length < LINE ∧ some (Out.nx ((ρ.set it (some u)).set iw (some (.dict (putKs w kv)))), γ2) = some (o, γ') := by
    simp only at hg
    split at hg
    · split at hg
      · rename_i hz
        exact ⟨_, _, by assumption, rfl, hz, hg⟩
      · cases hg
    · cases hg
  cases e3
  refine ⟨ρ, γ, F, _, γ1, se, e1, fun v0 F' H' st dr dv => ?_⟩
  cases dv with
  | tup eF al =>
  cases al with
  | @cons v1 _ _ _ d1 al =>
  cases al with
  | @cons v2 _ _ _ d2 al =>
  cases al
  have se2 := (se.step st dr).put hkt hd d1
  refine ⟨_, [v1, v2], rfl, SqT.of (st.fh _ _ eF), rfl, v1, [v2], rfl, ?_⟩
  refine ⟨v2, [], rfl, ?_⟩
  obtain ⟨a, kvs, ks, rfl, hv, ha, hks, nd, _⟩ := mut_dic se2 hk e0
  refine ⟨.ref a, hv, _, γ1, F', _, _, se2, e2, fun z F2 H2 st2 dr2 du => ?_⟩
  cases du
  have se3 := se2.step st2 dr2
  obtain ⟨a2, kvs2, ks2, eks, hv2, ha2, hks2, nd2, mk⟩ := mut_dic se3 hk e0
  rw [hv] at hv2
  cases hv2
  obtain ⟨ks3, h3, h4⟩ := putK_keys (v := v2) (x := w) hks2
  rw [eks, h4] at q
  have hlen : kvs2.length = ks2.length := by
    have := congrArg List.length hks2
    simpa using this
  refine ⟨a, _, rfl, DPut.k (k := Sum.inr w) ha2 (by
    rw [hlen]
    rw [eks, List.length_map] at hz
    exact line_lt hz), rfl, q _ F2 _ (st.ff.trans st2.ff) (mk _ _ h3)⟩
end
/-! ### done -/
def h_done : List D → Option D
  | [b, .tuple (.str x :: r)] => if x = "put" then f_put_done [b, .tuple (.str x :: r)] else if x = "link" then f_link_done [b, .tuple (.str x :: r)] else if x = "step" then f_step_done [b, .tuple (.str x :: r)] else none
  | _ => none
def g_done : GS := fun ρ γ => match ρ[0]?, ρ[1]?, ρ[2]? with
  | some (some b), some (some d), some none => (h_done [b, d]).bind fun z => some (.rt z, γ)
  | _, _, _ => none
def f_done : List D → Option D := runP 3 g_done
theorem sc_done : FnScope ["book", "deed", "doer"] ["book", "deed"] d_done.scope := ⟨rfl, rfl, rfl, by decide +kernel, rfl, by decide +kernel, by decide +kernel⟩
structure Wt (w : World) (K : PySem.W.Frag) : Prop where
  tab : ∃ es n, KDict K w (He.ga K "DEEDS") es n
  ex : exB K = true
section
variable {P : Program} {w : World} {K : PySem.W.Frag} {mg : Str → Option Value} {base : Heap}
theorem Wt.at_ (T : Wt w K) {x y : Str} (h : (x, He.Dv.glo y) ∈ [(("put" : Str), He.Dv.glo "put_done"), ("link", .glo "link_done"), ("step", .glo "step_done")]) : KDct K w (He.ga K "DEEDS") x (.ref (He.ga K y)) := by
  obtain ⟨es, n, kd⟩ := T.tab
  obtain ⟨u, e, r⟩ := He.valsB_ok T.ex h
  exact ⟨es, n, u, kd.at_, kd.lit, e, r⟩
theorem Fk.at_ {k : Nat} {x : Str} {ps : List Str} {sp : Sp} {f : Addr} (h : Fk P w K mg base k x ps sp) (e : mg x = some (.ref f)) : ∃ fd, FnOk P w K mg base CX0 k f fd ps sp ∧ PySem.W.keepIn K (.ref f) = true ∧ Binds K fd ps [] := by
  obtain ⟨f', fd, h1, h2, h3, h4⟩ := h
  rw [e] at h2
  cases h2
  exact ⟨fd, h1, h3, h4⟩
theorem ok_done (W : Wd K mg) (T : Wt w K) : Fk P w K mg base 6 "done" ["book", "deed"] (spD 2 f_done) := by
  have S := sc_done
  refine fk_pure (g := g_done) (d := d_done) (N := ["book", "deed", "doer"]) W 29 35 rfl rfl rfl rfl rfl S (kdOf [.pure, .pure, .pure]) rfl rfl (fun _ _ _ _ _ _ us hl => match us, hl with | [_, _], _ => rfl) fun f cdv A outer s H F E hr => ?_
  have one : ∀ (y : Str) (fn : List D → Option D) (a : Addr) (k : Nat) (ps : List Str), k ≤ 5 → Fk P w K mg base k y ps (spD 2 fn) → mg y = some (.ref a) →
      PSs (cxOf CX0 P w K mg base ["book", "deed", "doer"] d_done.qual d_done.scope f cdv A outer s H E).nox d_done.body
        (tSeq (tAsg (tOp (rIxD K w) (tC (.ref (He.ga K "DEEDS"))) (tD (cfgP (kdOf [.pure, .pure, .pure]) F H) (binE idxD (varE 1) (cE (.int 0))))) (gName 2))
          (tRet (tCallL 2 a (spD 2 fn) [] E0 (tA (cfgP (kdOf [.pure, .pure, .pure]) F H) (consA (varE 0) (consA (varE 1) nilA)))))) := fun y fn a k ps hk h e => by
    obtain ⟨fd, h1, h2, h3⟩ := h.at_ e
    exact pss_cons (ps_set (i := 2) S.nd rfl (by first | exact .inl rfl | exact .inr rfl) (pe_ix ix_kdict (pe_glob rfl (W.glo 86) rfl) (de_ix (DE.rd (de_var (pv 1) rfl)) de_int (fun _ _ => rfl)) (fun _ _ => rfl)))
      (pss_one (ps_ret (pe_callL h1 (hr.mono hk) rfl (.inl rfl) h2 h3 .nil pass0 (da_cons (de_var (pv 0) rfl) (da_cons (de_var (pv 1) rfl) da_nil)))))
  refine ⟨fun pins s1 σ H1 En I q => ?_⟩
  obtain ⟨ρ, γ, F1, o, γ', se, hg, q⟩ := q
  obtain ⟨b, d, e0, e1, e2, hg⟩ : ∃ b d, ρ[0]? = some (some b) ∧ ρ[1]? = some (some d) ∧ ρ[2]? = some none ∧ ((h_done [b, d]).bind fun z => some (Out.rt z, γ)) = some (o, γ') := by
    unfold g_done at hg
    split at hg
    · exact ⟨_, _, by assumption, by assumption, by assumption, hg⟩
    · cases hg
  obtain ⟨z, hf, hg⟩ := bnd hg
  cases hg
  -- the word
  have go : ∀ (x y : Str) (fn : List D → Option D) (k : Nat) (ps : List Str) (r : List D), d = .tuple (.str x :: r) → fn [b, d] = some z → k ≤ 5 → Fk P w K mg base k y ps (spD 2 fn) → mg y = some (.ref (He.ga K y)) → KDct K w (He.ga K "DEEDS") x (.ref (He.ga K y)) →
      wpAny (model P w) (A.deeper (envOfC d_done.qual d_done.scope s.heap.objs.size f cdv)) (execs d_done.body (envOfC d_done.qual d_done.scope s.heap.objs.size f cdv)) (SP (cxOf CX0 P w K mg base ["book", "deed", "doer"] d_done.qual d_done.scope f cdv A outer s H E).nox pins En) (fun _ _ => False) s1 := fun x y fn k ps r hd hfn hk h e kd => by
    refine (one y fn _ k ps hk h e).run pins s1 σ H1 En I ?_
    refine ⟨ρ, γ, F1, .str x, γ, se, ?_, fun v F2 H2 st dr dv => ?_⟩
    · show binE idxD (varE 1) (cE (.int 0)) ρ γ = _
      unfold binE varE cE
      rw [e1, hd]
      show (atI (PyData.str x :: r) 0).bind _ = _
      rw [atI0]
      rfl
    · cases dv
      refine ⟨_, x, _, rfl, rfl, kd, ?_⟩
      have se2 : SE (cfgP (kdOf [.pure, .pure, .pure]) F H) ρ γ (σ.set 2 (some (.ref (He.ga K y)))) F2 H2 := (se.step st dr).skip rfl _ fun d' z => by
        rw [e2] at z
        cases z
      have hl : 2 < σ.length := by
        rw [← se.len]
        exact (List.getElem?_eq_some_iff.mp e2).1
      refine ⟨List.getElem?_set_self hl, ρ, γ, F2, [b, d], γ, se2, ?_, fun vs F3 H3 st3 dr3 al => ?_⟩
      · unfold consA varE
        rw [e0, e1]
        rfl
      · show spD 2 fn (vs ++ []) H3 En.rt E0
        rw [List.append_nil]
        exact ⟨F3, [b, d], z, rfl, st3.fh, al, hfn, fun v F4 H4 st4 dv4 => q v F4 H4 ((st.ff.trans st3.ff).trans st4.ff) (((se.ent.trans st).trans st3).trans st4) trivial dv4⟩
  unfold h_done at hf
  split at hf
  · rename_i b' x r heq
    cases heq
    split at hf
    · rename_i hx
      subst hx
      exact go _ "put_done" f_put_done 4 _ r rfl hf (by decide) (ok_put_done W) (W.glo 25) (T.at_ (by simp))
    · split at hf
      · rename_i hx
        subst hx
        exact go _ "link_done" f_link_done 4 _ r rfl hf (by decide) (ok_link_done W) (W.glo 26) (T.at_ (by simp))
      · split at hf
        · rename_i hx
          subst hx
          exact go _ "step_done" f_step_done 5 _ r rfl hf (by decide) (ok_step_done W) (W.glo 28) (T.at_ (by simp))
        · cases hf
  · cases hf
end
end TK
end
section
set_option Elab.async false
set_option linter.all false
set_option maxRecDepth 100000
set_option maxHeartbeats 4000000
namespace TK
open PySem PySem.Spec PyProof.Rows L2
def g__law_pick : GS := seqS (whlS (andT (valT (binE gtD (drLen) (cE (.int 0)))) (valT (binE eqD (drHd) (cE (.int 0))))) (drPop)) (seqS (ifS (valT (binE gtD (drLen) (cE (.int 0)))) (seqS (setS 2 (binE modD (drHd) (varE 1))) (seqS (drSetHd (binE fdivD (drHd) (varE 1))) (retS (varE 2)))) (nextS)) (seqS (drSetMix (binE modD (binE addD (binE mulD (drMix) (cE (.int 6364136223846793005))) (cE (.int 1442695040888963407))) (binE subD (binE powD (cE (.int 2)) (cE (.int 61))) (cE (.int 1))))) (retS (binE modD (binE fdivD (binE modD (binE mulD (drMix) (binE addD (binE modD (drMix) (cE (.int 65521))) (cE (.int 11)))) (binE subD (binE powD (cE (.int 2)) (cE (.int 61))) (cE (.int 1)))) (cE (.int 4099))) (varE 1)))))
def f__law_pick : List D → G → Option (D × G) := runG 3 g__law_pick
def g__law_names : GS := seqS (setS 2 (cE (.str "abcdefghijklmnopqrstuvwxyz"))) (seqS (setS 3 (binE mulD (callGE f__law_pick (consA (cE (.int 26)) (nilA))) (unE intD (binE gtD (callGE f__law_pick (consA (cE (.int 3)) (nilA))) (cE (.int 0)))))) (seqS (setS 4 (binE idxD (newE (lstN (consA (cE (.int 1)) (consA (cE (.int 3)) (consA (cE (.int 5)) (consA (cE (.int 7)) (consA (cE (.int 9)) (consA (cE (.int 11)) (nilA))))))))) (callGE f__law_pick (consA (cE (.int 6)) (nilA))))) (seqS (setS 5 (binE addD (cE (.int 1)) (callGE f__law_pick (consA (cE (.int 4)) (nilA))))) (seqS (setS 6 (binE idxD (varE 2) (callGE f__law_pick (consA (cE (.int 26)) (nilA))))) (seqS (ownS 7 (lstN (nilA))) (seqS (forS (rngI (varE 1)) (tgN 8) (seqS (setS 9 (binE idxD (varE 2) (binE modD (binE addD (varE 3) (binE mulD (varE 4) (varE 8))) (cE (.int 26))))) (appS 7 (binE addD (varE 9) (binE mulD (varE 6) (binE modD (binE addD (binE mulD (varE 8) (varE 8)) (varE 3)) (varE 5))))))) (retS (varE 7))))))))
def f__law_names : List D → G → Option (D × G) := runG 10 g__law_names
def g__law_moments : GS := seqS (ownS 2 (lstN (nilA))) (seqS (forS (rngI (binE addD (varE 1) (callGE f__law_pick (consA (cE (.int 3)) (nilA))))) (tgN 3) (seqS (setS 4 (binE addD (cE (.int 1)) (callGE f__law_pick (consA (cE (.int 6)) (nilA))))) (seqS (ifS (valT (binE eqD (varE 3) (cE (.int 0)))) (setS 4 (binE addD (callGE f__law_pick (consA (cE (.int 9)) (nilA))) (binE mulD (binE powD (cE (.int 10)) (cE (.int 11))) (unE intD (binE eqD (callGE f__law_pick (consA (cE (.int 12)) (nilA))) (cE (.int 11))))))) (nextS)) (appS 2 (binE addD (unE sumD (sliceE (varE 2) (someO (unE negD (cE (.int 1)))) (noneO))) (varE 4)))))) (retS (unE tupleD (varE 2))))
def f__law_moments : List D → G → Option (D × G) := runG 5 g__law_moments
def g__law_text : GS := seqS (setS 2 (newE (compN (rngI (callGE f__law_pick (consA (cE (.int 5)) (nilA)))) (tgN 5) (yesT) (binE idxD (varE 1) (callGE f__law_pick (consA (unE lenD (varE 1)) (nilA)))) [5]))) (seqS (setS 3 (binE idxD (newE (lstN (consA (cE (.str "")) (consA (cE (.str " ")) (consA (cE (.str "- ")) (nilA)))))) (callGE f__law_pick (consA (cE (.int 3)) (nilA))))) (seqS (forS (seqI (varE 2)) (tgN 4) (seqS (setS 3 (binE addD (varE 3) (binE idxD (newE (lstN (consA (varE 4) (consA (varE 4) (consA (unE upperD (varE 4)) (consA (binE addD (unE upperD (sliceE (varE 4) (noneO) (someO (cE (.int 1))))) (sliceE (varE 4) (someO (cE (.int 1))) (noneO))) (nilA))))))) (callGE f__law_pick (consA (cE (.int 4)) (nilA)))))) (setS 3 (binE addD (varE 3) (binE idxD (newE (lstN (consA (cE (.str " ")) (consA (cE (.str ", ")) (consA (cE (.str "_")) (consA (cE (.str "\n")) (consA (cE (.str ". ")) (nilA)))))))) (callGE f__law_pick (consA (cE (.int 5)) (nilA)))))))) (retS (tupE (consA (varE 3) (consA (varE 2) (nilA)))))))
def f__law_text : List D → G → Option (D × G) := runG 6 g__law_text
def g__law_links : GS := seqS (setS 3 (callE min3D (consA (unE lenD (varE 1)) (consA (unE lenD (varE 2)) (consA (binE addD (cE (.int 1)) (callGE f__law_pick (consA (cE (.int 8)) (nilA)))) (nilA)))))) (seqS (ownS 4 (lstN (nilA))) (seqS (forS (rngI (varE 3)) (tgN 5) (seqS (setS 6 (binE addD (newE (lstN (consA (binE idxD (varE 1) (varE 5)) (nilA)))) (newE (compN (enuI (sliceE (varE 1) (someO (varE 3)) (noneO))) (tgT [10, 11]) (valT (binE eqD (binE modD (varE 10) (varE 3)) (varE 5))) (varE 11) [10, 11])))) (seqS (setS 7 (binE addD (newE (lstN (consA (binE idxD (varE 2) (varE 5)) (nilA)))) (newE (compN (enuI (sliceE (varE 2) (someO (varE 3)) (noneO))) (tgT [10, 11]) (valT (binE eqD (binE modD (binE addD (varE 10) (cE (.int 1))) (varE 3)) (varE 5))) (varE 11) [10, 11])))) (seqS (setS 8 (binE addD (callGE f__law_pick (consA (cE (.int 14)) (nilA))) (binE mulD (binE powD (cE (.int 10)) (cE (.int 11))) (unE intD (binE eqD (callGE f__law_pick (consA (cE (.int 12)) (nilA))) (cE (.int 11))))))) (seqS (setS 9 (tupE (consA (callGE f__law_moments (consA (cE (.int 0)) (nilA))) (consA (callGE f__law_moments (consA (cE (.int 0)) (nilA))) (nilA))))) (appS 4 (tupE (consA (unE tupleD (unE sortedD (varE 6))) (consA (unE tupleD (unE sortedD (varE 7))) (consA (varE 8) (consA (varE 9) (nilA)))))))))))) (retS (unE tupleD (unE sortedD (varE 4))))))
def f__law_links : List D → G → Option (D × G) := runG 12 g__law_links
def g__law_couples : GS := seqS (setS 3 (binE idxD (newE (lstN (consA (cE (.int 2)) (consA (cE (.int 3)) (consA (cE (.int 5)) (nilA)))))) (callGE f__law_pick (consA (cE (.int 3)) (nilA))))) (seqS (ownS 4 (lstN (nilA))) (seqS (forS (seqI (varE 1)) (tgN 5) (forS (seqI (varE 2)) (tgN 6) (ifS (valT (binE eqD (callGE f__law_pick (consA (varE 3) (nilA))) (cE (.int 0)))) (appS 4 (tupE (consA (varE 5) (consA (varE 6) (nilA))))) (nextS)))) (retS (unE tupleD (unE sortedD (varE 4))))))
def f__law_couples : List D → G → Option (D × G) := runG 7 g__law_couples
def g__law_book : GS := seqS (setS 1 (binE idxD (newE (lstN (consA (cE (.int 8)) (consA (cE (.int 13)) (nilA))))) (unE intD (binE eqD (callGE f__law_pick (consA (cE (.int 8)) (nilA))) (cE (.int 7)))))) (seqS (setS 2 (binE eqD (callGE f__law_pick (consA (cE (.int 3)) (nilA))) (cE (.int 0)))) (seqS (setS 3 (newE (lstN (consA (callGE f__law_pick (consA (varE 1) (nilA))) (consA (callGE f__law_pick (consA (varE 1) (nilA))) (nilA)))))) (seqS (setS 4 (callGE f__law_names (consA (unE sumD (varE 3)) (nilA)))) (seqS (setS 5 (newE (lstN (consA (sliceE (varE 4) (noneO) (someO (binE idxD (varE 3) (cE (.int 0))))) (consA (sliceE (varE 4) (someO (binE idxD (varE 3) (cE (.int 0)))) (noneO)) (nilA)))))) (seqS (nestS 6) (seqS (ownS 7 (lstN (nilA))) (seqS (nestS 8) (seqS (dicS 9) (seqS (forS (rngI (cE (.int 2))) (tgN 10) (forS (seqI (binE idxD (varE 5) (varE 10))) (tgN 12) (seqS (wordsS 14 9 (varE 12) (callGE f__law_text (consA (binE idxD (newE (lstN (consA (newE (lstN (consA (cE (.str "ka")) (consA (cE (.str "lo")) (consA (cE (.str "mi7")) (consA (cE (.str "x")) (nilA))))))) (consA (newE (lstN (consA (cE (.str "aur")) (consA (cE (.str "ka")) (consA (cE (.str "sol")) (consA (cE (.str "9")) (nilA))))))) (nilA))))) (varE 10)) (nilA)))) (seqS (nappS 8 (varE 10) (tupE (consA (varE 12) (consA (varE 14) (consA (callGE f__law_moments (consA (cE (.int 1)) (nilA))) (nilA)))))) (seqS (setS 13 (callGE f__law_pick (consA (cE (.int 7)) (nilA)))) (seqS (ifS (valT (binE eqD (varE 13) (cE (.int 6)))) (appS 7 (varE 12)) (nextS)) (ifS (andT (valT (binE inD (varE 13) (tupE (consA (cE (.int 3)) (consA (cE (.int 4)) (consA (cE (.int 5)) (nilA))))))) (notT (valT (varE 2)))) (nappS 6 (varE 10) (varE 12)) (nextS)))))))) (frzS (frzS (frzS (seqS (setS 11 (callGE f__law_links (consA (binE idxD (varE 6) (cE (.int 0))) (consA (binE idxD (varE 6) (cE (.int 1))) (nilA))))) (retS (tupE (consA (tupE (consA (unE tupleD (binE idxD (varE 8) (cE (.int 0)))) (consA (unE tupleD (binE idxD (varE 8) (cE (.int 1)))) (consA (varE 11) (consA (unE tupleD (unE sortedD (varE 7))) (nilA)))))) (consA (varE 9) (nilA))))))))))))))))))
def f__law_book : List D → G → Option (D × G) := runG 15 g__law_book
end TK
end
section
set_option Elab.async false
set_option linter.all false
set_option maxRecDepth 100000
set_option maxHeartbeats 4000000
namespace TK
open PySem PySem.Spec PyProof.Rows L2
def g_hand_deeds : GS := seqS (ownS 4 (compN (seqI (binE addD (binE idxD (varE 0) (cE (.int 0))) (binE idxD (varE 0) (cE (.int 1))))) (tgN 9) (yesT) (binE idxD (varE 9) (cE (.int 0))) [9])) (seqS (ownS 5 (lstN (consA (callE f_last_of (consA (binE idxD (varE 0) (cE (.int 0))) (nilA))) (consA (callE f_last_of (consA (binE idxD (varE 0) (cE (.int 1))) (nilA))) (nilA))))) (seqS (ownS 6 (listN (varE 3))) (seqS (ownS 7 (lstN (nilA))) (seqS (forS (seqI (varE 1)) (tgN 8) (ifS (valT (binE eqD (binE idxD (varE 8) (cE (.int 0))) (cE (.str "step")))) (appS 7 (tupE (consA (cE (.str "step")) (consA (varE 2) (consA (binE idxD (varE 8) (cE (.int 1))) (nilA)))))) (ifS (valT (binE eqD (binE idxD (varE 8) (cE (.int 0))) (cE (.str "pair")))) (appS 7 (tupE (consA (cE (.str "link")) (consA (varE 2) (consA (tupE (consA (binE idxD (varE 8) (cE (.int 1))) (nilA))) (consA (tupE (consA (binE idxD (varE 8) (cE (.int 2))) (nilA))) (nilA))))))) (seqS (setS 10 (callE f_side_of (consA (varE 0) (consA (binE idxD (varE 8) (cE (.int 1))) (nilA))))) (seqS (setS 11 (callE f_new_name (consA (unE tupleD (varE 4)) (nilA)))) (seqS (popS 7 6 (consA (cE (.str "put")) (consA (varE 2) (consA (binE subD (cE (.int 1)) (varE 10)) (consA (binE idxD (varE 5) (binE subD (cE (.int 1)) (varE 10))) (consA (varE 11) (nilA))))))) (seqS (appS 7 (callE f_fresh_link (consA (varE 10) (consA (binE idxD (varE 8) (cE (.int 1))) (consA (varE 11) (consA (varE 2) (nilA))))))) (seqS (appS 4 (varE 11)) (stxS 5 (binE subD (cE (.int 1)) (varE 10)) (varE 11)))))))))) (retS (unE tupleD (varE 7)))))))
def f_hand_deeds : List D → Option D := runP 12 g_hand_deeds
def g_all_done : GS := seqS (forS (seqI (varE 1)) (tgN 2) (setS 0 (callE f_done (consA (varE 0) (consA (varE 2) (nilA)))))) (retS (varE 0))
def f_all_done : List D → Option D := runP 3 g_all_done
def g__law_behind : GS := seqS (setS 3 (unE lenD (newE (compN (seqI (varE 1)) (tgN 5) (valT (binE eqD (binE idxD (varE 5) (cE (.int 0))) (cE (.str "make")))) (varE 5) [5])))) (seqS (setS 4 (sliceE (binE mulTD (tupE (consA (cE (.str "ka")) (consA (cE (.str "")) (consA (cE (.str "sol ka")) (nilA))))) (varE 3)) (noneO) (someO (varE 3)))) (retS (callE f_all_done (consA (varE 0) (consA (callE f_hand_deeds (consA (varE 0) (consA (varE 1) (consA (varE 2) (consA (varE 4) (nilA)))))) (nilA))))))
def f__law_behind : List D → Option D := runP 6 g__law_behind
end TK
end
section
set_option Elab.async false
set_option linter.all false
set_option maxRecDepth 100000
set_option maxHeartbeats 4000000
namespace TK
open PySem PySem.Spec PyProof.Rows L2
section
variable {P : Program} {w : World} {K : PySem.W.Frag} {mg : Str → Option Value} {base : Heap}
theorem sc__law_pick : FnScope ["_law_draws_here", "_law_many", "_law_digit"] ["_law_draws_here", "_law_many"] d__law_pick.scope := ⟨rfl, rfl, rfl, by decide +kernel, rfl, by decide +kernel, by decide +kernel⟩
theorem ok__law_pick (W : Wd K mg) : Fk P w K mg base 1 "_law_pick" ["_law_draws_here", "_law_many"] (spG 1 f__law_pick) :=
  have S := sc__law_pick
  fk_draws (g := g__law_pick) (d := d__law_pick) (N := ["_law_draws_here", "_law_many", "_law_digit"]) W 42 48 rfl rfl rfl rfl rfl S (kdOf [.pure, .pure, .pure]) rfl (by decide) rfl (fun _ _ _ _ _ _ us hl => match us, hl with | [_, _], _ => rfl) fun f cdv A outer s H F p q E hr =>
  dss_cons (ds_while PassesOwn.never (WT.dt (wt_and (dt_cmp (op_gtDD hr.units) (de_drlen (pv 0) rfl rfl (W.free 56) b_len) (de_int) rfl) (wt_and1 (dt_cmp (op_eqDD hr.units) (de_dr10 (pv 0) rfl) (de_int) rfl)))) (dss_one (ds_drpop (pv 0) rfl)))
  (dss_cons (ds_if (dt_cmp (op_gtDD hr.units) (de_drlen (pv 0) rfl rfl (W.free 56) b_len) (de_int) rfl) (dss_cons (ds_set (ps_set (i := 2) S.nd rfl (by first | exact .inl rfl | exact .inr rfl) (de_op op_modD (de_dr10 (pv 0) rfl) (de_var (pv 1) rfl))) rfl rfl)
  (dss_cons (ds_drhd (ps_asg (de_op op_fdivD (de_dr10 (pv 0) rfl) (de_var (pv 1) rfl)) (pg_sub (pe_dr1 (pv 0) rfl) pe_int set_list)) rfl)
  (dss_one (ds_ret (ps_ret (de_var (pv 2) rfl)))))) (dss_nil))
  (dss_cons (ds_drmix (ps_asg (de_op op_modD (de_op op_addD (de_op op_mulD (de_dr0 (pv 0) rfl) (de_int)) (de_int)) (de_op op_subD (de_op op_powD (de_int) (de_int)) (de_int))) (pg_sub (pv 0) pe_int set_list)) rfl)
  (dss_one (ds_ret (ps_ret (de_op op_modD (de_op op_fdivD (de_op op_modD (de_op op_mulD (de_dr0 (pv 0) rfl) (de_op op_addD (de_op op_modD (de_dr0 (pv 0) rfl) (de_int)) (de_int))) (de_op op_subD (de_op op_powD (de_int) (de_int)) (de_int))) (de_int)) (de_var (pv 1) rfl)))))))
theorem sc__law_names : FnScope ["_law_draws_here", "_law_many", "_law_letters", "_law_first", "_law_step", "_law_most", "_law_tail", "_law_names_here", "_law_k", "_law_name"] ["_law_draws_here", "_law_many"] d__law_names.scope := ⟨rfl, rfl, rfl, by decide +kernel, rfl, by decide +kernel, by decide +kernel⟩
theorem ok__law_names (W : Wd K mg) : Fk P w K mg base 2 "_law_names" ["_law_draws_here", "_law_many"] (spG 1 f__law_names) :=
  have S := sc__law_names
  fk_draws (g := g__law_names) (d := d__law_names) (N := ["_law_draws_here", "_law_many", "_law_letters", "_law_first", "_law_step", "_law_most", "_law_tail", "_law_names_here", "_law_k", "_law_name"]) W 43 49 rfl rfl rfl rfl rfl S (kdOf [.pure, .pure, .pure, .pure, .pure, .pure, .pure, .lst, .pure, .pure]) rfl (by decide) rfl (fun _ _ _ _ _ _ us hl => match us, hl with | [_, _], _ => rfl) fun f cdv A outer s H F p q E hr =>
  dss_cons (ds_set (ps_set (i := 2) S.nd rfl (by first | exact .inl rfl | exact .inr rfl) (de_str)) rfl rfl)
  (dss_cons (ds_set (ps_set (i := 3) S.nd rfl (by first | exact .inl rfl | exact .inr rfl) (de_op op_mulD (de_callGF (ok__law_pick W) hr (by decide) rfl rfl (pv 0) (da_cons (de_int) (da_nil)) (consA_len (nilA_len))) (de_y1 cl_int rfl (W.free 66) b_int (DE.rd (de_cmp (op_gtDD hr.units) (de_callGF (ok__law_pick W) hr (by decide) rfl rfl (pv 0) (da_cons (de_int) (da_nil)) (consA_len (nilA_len))) (de_int) rfl))))) rfl rfl)
  (dss_cons (ds_set (ps_set (i := 4) S.nd rfl (by first | exact .inl rfl | exact .inr rfl) (de_ix (DE.rd (NE.de (ne_lst (da_cons (de_int) (da_cons (de_int) (da_cons (de_int) (da_cons (de_int) (da_cons (de_int) (da_cons (de_int) (da_nil)))))))))) (de_callGF (ok__law_pick W) hr (by decide) rfl rfl (pv 0) (da_cons (de_int) (da_nil)) (consA_len (nilA_len))) (fun _ _ => rfl))) rfl rfl)
  (dss_cons (ds_set (ps_set (i := 5) S.nd rfl (by first | exact .inl rfl | exact .inr rfl) (de_op op_addD (de_int) (de_callGF (ok__law_pick W) hr (by decide) rfl rfl (pv 0) (da_cons (de_int) (da_nil)) (consA_len (nilA_len))))) rfl rfl)
  (dss_cons (ds_set (ps_set (i := 6) S.nd rfl (by first | exact .inl rfl | exact .inr rfl) (de_ix (DE.rd (de_var (pv 2) rfl)) (de_callGF (ok__law_pick W) hr (by decide) rfl rfl (pv 0) (da_cons (de_int) (da_nil)) (consA_len (nilA_len))) (fun _ _ => rfl))) rfl rfl)
  (dss_cons (ds_own (ps_set (i := 7) S.nd rfl (by first | exact .inl rfl | exact .inr rfl) (ne_lst (da_nil))) rfl rfl rfl)
  (dss_cons (ds_for PassesOwn.never rfl (pi_rngD rfl (W.free 68) (de_var (pv 1) rfl)) (dg_name (pg_name (i := 8) S.nd rfl (by first | exact .inl rfl | exact .inr rfl)) rfl rfl) (dss_cons (ds_set (ps_set (i := 9) S.nd rfl (by first | exact .inl rfl | exact .inr rfl) (de_ix (DE.rd (de_var (pv 2) rfl)) (de_op op_modD (de_op op_addD (de_var (pv 3) rfl) (de_op op_mulD (de_var (pv 4) rfl) (de_var (pv 8) rfl))) (de_int)) (fun _ _ => rfl))) rfl rfl)
  (dss_one (ds_app (pv 7) (de_op op_addD (de_var (pv 9) rfl) (de_op op_mulD (de_var (pv 6) rfl) (de_op op_modD (de_op op_addD (de_op op_mulD (de_var (pv 8) rfl) (de_var (pv 8) rfl)) (de_var (pv 3) rfl)) (de_var (pv 5) rfl)))) rfl))))
  (dss_one (ds_retown (ps_ret (pv 7)) (.inl rfl)))))))))
theorem sc__law_moments : FnScope ["_law_draws_here", "_law_least", "_law_moments_here", "_law_k", "_law_after"] ["_law_draws_here", "_law_least"] d__law_moments.scope := ⟨rfl, rfl, rfl, by decide +kernel, rfl, by decide +kernel, by decide +kernel⟩
theorem ok__law_moments (W : Wd K mg) : Fk P w K mg base 2 "_law_moments" ["_law_draws_here", "_law_least"] (spG 1 f__law_moments) :=
  have S := sc__law_moments
  fk_draws (g := g__law_moments) (d := d__law_moments) (N := ["_law_draws_here", "_law_least", "_law_moments_here", "_law_k", "_law_after"]) W 44 50 rfl rfl rfl rfl rfl S (kdOf [.pure, .pure, .lst, .pure, .pure]) rfl (by decide) rfl (fun _ _ _ _ _ _ us hl => match us, hl with | [_, _], _ => rfl) fun f cdv A outer s H F p q E hr =>
  dss_cons (ds_own (ps_set (i := 2) S.nd rfl (by first | exact .inl rfl | exact .inr rfl) (ne_lst (da_nil))) rfl rfl rfl)
  (dss_cons (ds_for PassesOwn.never rfl (pi_rngD rfl (W.free 68) (de_op op_addD (de_var (pv 1) rfl) (de_callGF (ok__law_pick W) hr (by decide) rfl rfl (pv 0) (da_cons (de_int) (da_nil)) (consA_len (nilA_len))))) (dg_name (pg_name (i := 3) S.nd rfl (by first | exact .inl rfl | exact .inr rfl)) rfl rfl) (dss_cons (ds_set (ps_set (i := 4) S.nd rfl (by first | exact .inl rfl | exact .inr rfl) (de_op op_addD (de_int) (de_callGF (ok__law_pick W) hr (by decide) rfl rfl (pv 0) (da_cons (de_int) (da_nil)) (consA_len (nilA_len))))) rfl rfl)
  (dss_cons (ds_if (dt_cmp (op_eqDD hr.units) (de_var (pv 3) rfl) (de_int) rfl) (dss_one (ds_set (ps_set (i := 4) S.nd rfl (by first | exact .inl rfl | exact .inr rfl) (de_op op_addD (de_callGF (ok__law_pick W) hr (by decide) rfl rfl (pv 0) (da_cons (de_int) (da_nil)) (consA_len (nilA_len))) (de_op op_mulD (de_op op_powD (de_int) (de_int)) (de_y1 cl_int rfl (W.free 66) b_int (DE.rd (de_cmp (op_eqDD hr.units) (de_callGF (ok__law_pick W) hr (by decide) rfl rfl (pv 0) (da_cons (de_int) (da_nil)) (consA_len (nilA_len))) (de_int) rfl)))))) rfl rfl)) (dss_nil))
  (dss_one (ds_app (pv 2) (de_op op_addD (de_b1 (cl_sum rfl) rfl (W.free 64) b_sum (DE.rd (de_slice (re_own (pv 2) rfl) (do_some (de_neg (de_int))) (do_none)))) (de_var (pv 4) rfl)) rfl)))))
  (dss_one (ds_ret (ps_ret (de_y1 cl_tuple rfl (W.free 57) b_tuple (re_own (pv 2) rfl))))))
theorem sc__law_text : FnScope ["_law_draws_here", "_law_words", "_law_some", "_law_text_here", "_law_one", "_law_k"] ["_law_draws_here", "_law_words"] d__law_text.scope := ⟨rfl, rfl, rfl, by decide +kernel, rfl, by decide +kernel, by decide +kernel⟩
theorem ok__law_text (W : Wd K mg) : Fk P w K mg base 2 "_law_text" ["_law_draws_here", "_law_words"] (spG 1 f__law_text) :=
  have S := sc__law_text
  fk_draws (g := g__law_text) (d := d__law_text) (N := ["_law_draws_here", "_law_words", "_law_some", "_law_text_here", "_law_one", "_law_k"]) W 45 51 rfl rfl rfl rfl rfl S (kdOf [.pure, .pure, .pure, .pure, .pure, .pure]) rfl (by decide) rfl (fun _ _ _ _ _ _ us hl => match us, hl with | [_, _], _ => rfl) fun f cdv A outer s H F p q E hr =>
  dss_cons (ds_setN (ps_comp (i := 2) (own := [("_law_k", 5)]) (is := [5]) rfl S.nd rfl rfl rfl rfl rfl rfl rfl rfl (PI.rd (pi_rngD rfl (W.free 68) (de_callGF (ok__law_pick W) hr (by decide) rfl rfl (pv 0) (da_cons (de_int) (da_nil)) (consA_len (nilA_len))))) (fun _ _ _ _ _ _ => dg_name (pg_name (i := 5) S.nd rfl (by first | exact .inl rfl | exact .inr rfl)) rfl rfl) (fun _ _ _ _ _ _ => dts_nil) (fun _ _ _ _ _ _ => de_ix (DE.rd (de_var (pv 1) rfl)) (de_callGF (ok__law_pick W) hr (by decide) rfl rfl (pv 0) (da_cons (de_b1 cl_len rfl (W.free 56) b_len (DE.rd (de_var (pv 1) rfl))) (da_nil)) (consA_len (nilA_len))) (fun _ _ => rfl))) rfl rfl)
  (dss_cons (ds_set (ps_set (i := 3) S.nd rfl (by first | exact .inl rfl | exact .inr rfl) (de_ix (DE.rd (NE.de (ne_lst (da_cons (de_str) (da_cons (de_str) (da_cons (de_str) (da_nil))))))) (de_callGF (ok__law_pick W) hr (by decide) rfl rfl (pv 0) (da_cons (de_int) (da_nil)) (consA_len (nilA_len))) (fun _ _ => rfl))) rfl rfl)
  (dss_cons (ds_for PassesOwn.never rfl (pi_seq (de_var (pv 2) rfl)) (dg_name (pg_name (i := 4) S.nd rfl (by first | exact .inl rfl | exact .inr rfl)) rfl rfl) (dss_cons (ds_set (ps_set (i := 3) S.nd rfl (by first | exact .inl rfl | exact .inr rfl) (de_op op_addD (de_var (pv 3) rfl) (de_ix (DE.rd (NE.de (ne_lst (da_cons (de_var (pv 4) rfl) (da_cons (de_var (pv 4) rfl) (da_cons (de_upper (de_var (pv 4) rfl)) (da_cons (de_op op_addD (de_upper (de_slice (DE.rd (de_var (pv 4) rfl)) (do_none) (do_some (de_int)))) (de_slice (DE.rd (de_var (pv 4) rfl)) (do_some (de_int)) (do_none))) (da_nil)))))))) (de_callGF (ok__law_pick W) hr (by decide) rfl rfl (pv 0) (da_cons (de_int) (da_nil)) (consA_len (nilA_len))) (fun _ _ => rfl)))) rfl rfl)
  (dss_one (ds_set (ps_set (i := 3) S.nd rfl (by first | exact .inl rfl | exact .inr rfl) (de_op op_addD (de_var (pv 3) rfl) (de_ix (DE.rd (NE.de (ne_lst (da_cons (de_str) (da_cons (de_str) (da_cons (de_str) (da_cons (de_str) (da_cons (de_str) (da_nil))))))))) (de_callGF (ok__law_pick W) hr (by decide) rfl rfl (pv 0) (da_cons (de_int) (da_nil)) (consA_len (nilA_len))) (fun _ _ => rfl)))) rfl rfl))))
  (dss_one (ds_ret (ps_ret (de_tup (da_cons (de_var (pv 3) rfl) (da_cons (de_var (pv 2) rfl) (da_nil)))))))))
theorem sc__law_links : FnScope ["_law_draws_here", "_law_lefts", "_law_rights", "_law_many", "_law_links_here", "_law_k", "_law_ones", "_law_others", "_law_told", "_law_lost", "_law_j", "_law_one"] ["_law_draws_here", "_law_lefts", "_law_rights"] d__law_links.scope := ⟨rfl, rfl, rfl, by decide +kernel, rfl, by decide +kernel, by decide +kernel⟩
theorem ok__law_links (W : Wd K mg) : Fk P w K mg base 3 "_law_links" ["_law_draws_here", "_law_lefts", "_law_rights"] (spG 2 f__law_links) :=
  have S := sc__law_links
  fk_draws (g := g__law_links) (d := d__law_links) (N := ["_law_draws_here", "_law_lefts", "_law_rights", "_law_many", "_law_links_here", "_law_k", "_law_ones", "_law_others", "_law_told", "_law_lost", "_law_j", "_law_one"]) W 46 52 rfl rfl rfl rfl rfl S (kdOf [.pure, .pure, .pure, .pure, .lst, .pure, .pure, .pure, .pure, .pure, .pure, .pure]) rfl (by decide) rfl (fun _ _ _ _ _ _ us hl => match us, hl with | [_, _, _], _ => rfl) fun f cdv A outer s H F p q E hr =>
  dss_cons (ds_set (ps_set (i := 3) S.nd rfl (by first | exact .inl rfl | exact .inr rfl) (de_min3 rfl rfl (W.free 62) (da_cons (de_b1 cl_len rfl (W.free 56) b_len (DE.rd (de_var (pv 1) rfl))) (da_cons (de_b1 cl_len rfl (W.free 56) b_len (DE.rd (de_var (pv 2) rfl))) (da_cons (de_op op_addD (de_int) (de_callGF (ok__law_pick W) hr (by decide) rfl rfl (pv 0) (da_cons (de_int) (da_nil)) (consA_len (nilA_len)))) (da_nil)))))) rfl rfl)
  (dss_cons (ds_own (ps_set (i := 4) S.nd rfl (by first | exact .inl rfl | exact .inr rfl) (ne_lst (da_nil))) rfl rfl rfl)
  (dss_cons (ds_for PassesOwn.never rfl (pi_rngD rfl (W.free 68) (de_var (pv 3) rfl)) (dg_name (pg_name (i := 5) S.nd rfl (by first | exact .inl rfl | exact .inr rfl)) rfl rfl) (dss_cons (ds_set (ps_set (i := 6) S.nd rfl (by first | exact .inl rfl | exact .inr rfl) (de_op op_addD (NE.de (ne_lst (da_cons (de_ix (DE.rd (de_var (pv 1) rfl)) (de_var (pv 5) rfl) (fun _ _ => rfl)) (da_nil)))) (NE.de (ne_comp (own := [("_law_j", 10), ("_law_one", 11)]) (is := [10, 11]) rfl S.nd rfl rfl rfl (PI.rd (pi_enuD rfl (W.free 69) (de_slice (DE.rd (de_var (pv 1) rfl)) (do_some (de_var (pv 3) rfl)) (do_none)))) (fun _ _ _ _ _ _ => dg_tup rfl (dgs_cons (pg_name (i := 10) S.nd rfl (by first | exact .inl rfl | exact .inr rfl)) rfl rfl (dgs_cons (pg_name (i := 11) S.nd rfl (by first | exact .inl rfl | exact .inr rfl)) rfl rfl (dgs_nil)))) (fun _ _ _ _ _ _ => dts_one (dt_cmp (op_eqDD hr.units) (de_op op_modD (de_var (pv 10) rfl) (de_var (pv 3) rfl)) (de_var (pv 5) rfl) rfl)) (fun _ _ _ _ _ _ => de_var (pv 11) rfl))))) rfl rfl)
  (dss_cons (ds_set (ps_set (i := 7) S.nd rfl (by first | exact .inl rfl | exact .inr rfl) (de_op op_addD (NE.de (ne_lst (da_cons (de_ix (DE.rd (de_var (pv 2) rfl)) (de_var (pv 5) rfl) (fun _ _ => rfl)) (da_nil)))) (NE.de (ne_comp (own := [("_law_j", 10), ("_law_one", 11)]) (is := [10, 11]) rfl S.nd rfl rfl rfl (PI.rd (pi_enuD rfl (W.free 69) (de_slice (DE.rd (de_var (pv 2) rfl)) (do_some (de_var (pv 3) rfl)) (do_none)))) (fun _ _ _ _ _ _ => dg_tup rfl (dgs_cons (pg_name (i := 10) S.nd rfl (by first | exact .inl rfl | exact .inr rfl)) rfl rfl (dgs_cons (pg_name (i := 11) S.nd rfl (by first | exact .inl rfl | exact .inr rfl)) rfl rfl (dgs_nil)))) (fun _ _ _ _ _ _ => dts_one (dt_cmp (op_eqDD hr.units) (de_op op_modD (de_op op_addD (de_var (pv 10) rfl) (de_int)) (de_var (pv 3) rfl)) (de_var (pv 5) rfl) rfl)) (fun _ _ _ _ _ _ => de_var (pv 11) rfl))))) rfl rfl)
  (dss_cons (ds_set (ps_set (i := 8) S.nd rfl (by first | exact .inl rfl | exact .inr rfl) (de_op op_addD (de_callGF (ok__law_pick W) hr (by decide) rfl rfl (pv 0) (da_cons (de_int) (da_nil)) (consA_len (nilA_len))) (de_op op_mulD (de_op op_powD (de_int) (de_int)) (de_y1 cl_int rfl (W.free 66) b_int (DE.rd (de_cmp (op_eqDD hr.units) (de_callGF (ok__law_pick W) hr (by decide) rfl rfl (pv 0) (da_cons (de_int) (da_nil)) (consA_len (nilA_len))) (de_int) rfl)))))) rfl rfl)
  (dss_cons (ds_set (ps_set (i := 9) S.nd rfl (by first | exact .inl rfl | exact .inr rfl) (de_tup (da_cons (de_callGF (ok__law_moments W) hr (by decide) rfl rfl (pv 0) (da_cons (de_int) (da_nil)) (consA_len (nilA_len))) (da_cons (de_callGF (ok__law_moments W) hr (by decide) rfl rfl (pv 0) (da_cons (de_int) (da_nil)) (consA_len (nilA_len))) (da_nil))))) rfl rfl)
  (dss_one (ds_app (pv 4) (de_tup (da_cons (de_y1 cl_tuple rfl (W.free 57) b_tuple (DE.rd (de_b1 (cl_sorted hr.units) rfl (W.free 59) b_sorted (DE.rd (de_var (pv 6) rfl))))) (da_cons (de_y1 cl_tuple rfl (W.free 57) b_tuple (DE.rd (de_b1 (cl_sorted hr.units) rfl (W.free 59) b_sorted (DE.rd (de_var (pv 7) rfl))))) (da_cons (de_var (pv 8) rfl) (da_cons (de_var (pv 9) rfl) (da_nil)))))) rfl)))))))
  (dss_one (ds_ret (ps_ret (de_y1 cl_tuple rfl (W.free 57) b_tuple (DE.rd (de_b1 (cl_sorted hr.units) rfl (W.free 59) b_sorted (re_own (pv 4) rfl)))))))))
theorem sc__law_couples : FnScope ["_law_draws_here", "_law_lefts", "_law_rights", "_law_dear", "_law_couples_here", "_law_one", "_law_other"] ["_law_draws_here", "_law_lefts", "_law_rights"] d__law_couples.scope := ⟨rfl, rfl, rfl, by decide +kernel, rfl, by decide +kernel, by decide +kernel⟩
theorem ok__law_couples (W : Wd K mg) : Fk P w K mg base 2 "_law_couples" ["_law_draws_here", "_law_lefts", "_law_rights"] (spG 2 f__law_couples) :=
  have S := sc__law_couples
  fk_draws (g := g__law_couples) (d := d__law_couples) (N := ["_law_draws_here", "_law_lefts", "_law_rights", "_law_dear", "_law_couples_here", "_law_one", "_law_other"]) W 50 56 rfl rfl rfl rfl rfl S (kdOf [.pure, .pure, .pure, .pure, .lst, .pure, .pure]) rfl (by decide) rfl (fun _ _ _ _ _ _ us hl => match us, hl with | [_, _, _], _ => rfl) fun f cdv A outer s H F p q E hr =>
  dss_cons (ds_set (ps_set (i := 3) S.nd rfl (by first | exact .inl rfl | exact .inr rfl) (de_ix (DE.rd (NE.de (ne_lst (da_cons (de_int) (da_cons (de_int) (da_cons (de_int) (da_nil))))))) (de_callGF (ok__law_pick W) hr (by decide) rfl rfl (pv 0) (da_cons (de_int) (da_nil)) (consA_len (nilA_len))) (fun _ _ => rfl))) rfl rfl)
  (dss_cons (ds_own (ps_set (i := 4) S.nd rfl (by first | exact .inl rfl | exact .inr rfl) (ne_lst (da_nil))) rfl rfl rfl)
  (dss_cons (ds_for PassesOwn.never rfl (pi_seq (de_var (pv 1) rfl)) (dg_name (pg_name (i := 5) S.nd rfl (by first | exact .inl rfl | exact .inr rfl)) rfl rfl) (dss_one (ds_for PassesOwn.never rfl (pi_seq (de_var (pv 2) rfl)) (dg_name (pg_name (i := 6) S.nd rfl (by first | exact .inl rfl | exact .inr rfl)) rfl rfl) (dss_one (ds_if (dt_cmp (op_eqDD hr.units) (de_callGF (ok__law_pick W) hr (by decide) rfl rfl (pv 0) (da_cons (de_var (pv 3) rfl) (da_nil)) (consA_len (nilA_len))) (de_int) rfl) (dss_one (ds_app (pv 4) (de_tup (da_cons (de_var (pv 5) rfl) (da_cons (de_var (pv 6) rfl) (da_nil)))) rfl)) (dss_nil))))))
  (dss_one (ds_ret (ps_ret (de_y1 cl_tuple rfl (W.free 57) b_tuple (DE.rd (de_b1 (cl_sorted hr.units) rfl (W.free 59) b_sorted (re_own (pv 4) rfl)))))))))
theorem sc__law_book : FnScope ["_law_draws_here", "_law_most", "_law_bare", "_law_many", "_law_names_here", "_law_sides", "_law_linked", "_law_alone", "_law_parts", "_law_words", "_law_side", "_law_links_here", "_law_name", "_law_way", "_law_text_here"] ["_law_draws_here"] d__law_book.scope := ⟨rfl, rfl, rfl, by decide +kernel, rfl, by decide +kernel, by decide +kernel⟩
theorem ok__law_book (W : Wd K mg) : Fk P w K mg base 4 "_law_book" ["_law_draws_here"] (spG 0 f__law_book) :=
  have S := sc__law_book
  fk_draws (g := g__law_book) (d := d__law_book) (N := ["_law_draws_here", "_law_most", "_law_bare", "_law_many", "_law_names_here", "_law_sides", "_law_linked", "_law_alone", "_law_parts", "_law_words", "_law_side", "_law_links_here", "_law_name", "_law_way", "_law_text_here"]) W 47 53 rfl rfl rfl rfl rfl S (kdOf [.pure, .pure, .pure, .pure, .pure, .pure, .nest, .lst, .nest, .dic, .pure, .pure, .pure, .pure, .pure]) rfl (by decide) rfl (fun _ _ _ _ _ _ us hl => match us, hl with | [_], _ => rfl) fun f cdv A outer s H F p q E hr =>
  dss_cons (ds_set (ps_set (i := 1) S.nd rfl (by first | exact .inl rfl | exact .inr rfl) (de_ix (DE.rd (NE.de (ne_lst (da_cons (de_int) (da_cons (de_int) (da_nil)))))) (de_y1 cl_int rfl (W.free 66) b_int (DE.rd (de_cmp (op_eqDD hr.units) (de_callGF (ok__law_pick W) hr (by decide) rfl rfl (pv 0) (da_cons (de_int) (da_nil)) (consA_len (nilA_len))) (de_int) rfl))) (fun _ _ => rfl))) rfl rfl)
  (dss_cons (ds_set (ps_set (i := 2) S.nd rfl (by first | exact .inl rfl | exact .inr rfl) (de_cmp (op_eqDD hr.units) (de_callGF (ok__law_pick W) hr (by decide) rfl rfl (pv 0) (da_cons (de_int) (da_nil)) (consA_len (nilA_len))) (de_int) rfl)) rfl rfl)
  (dss_cons (ds_setN (ps_set (i := 3) S.nd rfl (by first | exact .inl rfl | exact .inr rfl) (ne_lst (da_cons (de_callGF (ok__law_pick W) hr (by decide) rfl rfl (pv 0) (da_cons (de_var (pv 1) rfl) (da_nil)) (consA_len (nilA_len))) (da_cons (de_callGF (ok__law_pick W) hr (by decide) rfl rfl (pv 0) (da_cons (de_var (pv 1) rfl) (da_nil)) (consA_len (nilA_len))) (da_nil))))) rfl rfl)
  (dss_cons (ds_set (ps_set (i := 4) S.nd rfl (by first | exact .inl rfl | exact .inr rfl) (de_callGF (ok__law_names W) hr (by decide) rfl rfl (pv 0) (da_cons (de_b1 (cl_sum rfl) rfl (W.free 64) b_sum (DE.rd (de_var (pv 3) rfl))) (da_nil)) (consA_len (nilA_len)))) rfl rfl)
  (dss_cons (ds_setN (ps_set (i := 5) S.nd rfl (by first | exact .inl rfl | exact .inr rfl) (ne_lst (da_cons (de_slice (DE.rd (de_var (pv 4) rfl)) (do_none) (do_some (de_ix (DE.rd (de_var (pv 3) rfl)) (de_int) (fun _ _ => rfl)))) (da_cons (de_slice (DE.rd (de_var (pv 4) rfl)) (do_some (de_ix (DE.rd (de_var (pv 3) rfl)) (de_int) (fun _ _ => rfl))) (do_none)) (da_nil))))) rfl rfl)
  (dss_cons (ds_nest (ps_set (i := 6) S.nd rfl (by first | exact .inl rfl | exact .inr rfl) (pe_lst (pa_cons (pe_lst pa_nil) (pa_cons (pe_lst pa_nil) pa_nil)))) rfl rfl rfl)
  (dss_cons (ds_own (ps_set (i := 7) S.nd rfl (by first | exact .inl rfl | exact .inr rfl) (ne_lst (da_nil))) rfl rfl rfl)
  (dss_cons (ds_nest (ps_set (i := 8) S.nd rfl (by first | exact .inl rfl | exact .inr rfl) (pe_lst (pa_cons (pe_lst pa_nil) (pa_cons (pe_lst pa_nil) pa_nil)))) rfl rfl rfl)
  (dss_cons (ds_dnew (ps_set (i := 9) S.nd rfl (by first | exact .inl rfl | exact .inr rfl) pe_dnewK) rfl rfl rfl)
  (dss_cons (ds_for PassesOwn.never rfl (pi_rngD rfl (W.free 68) (de_int)) (dg_name (pg_name (i := 10) S.nd rfl (by first | exact .inl rfl | exact .inr rfl)) rfl rfl) (dss_one (ds_for PassesOwn.never rfl (pi_seq (de_ix (DE.rd (de_var (pv 5) rfl)) (de_var (pv 10) rfl) (fun _ _ => rfl))) (dg_name (pg_name (i := 12) S.nd rfl (by first | exact .inl rfl | exact .inr rfl)) rfl rfl) (dss_cons (ds_words (ps_asg (de_callGF (ok__law_text W) hr (by decide) rfl rfl (pv 0) (da_cons (de_ix (DE.rd (NE.de (ne_lst (da_cons (NE.de (ne_lst (da_cons (de_str) (da_cons (de_str) (da_cons (de_str) (da_cons (de_str) (da_nil))))))) (da_cons (NE.de (ne_lst (da_cons (de_str) (da_cons (de_str) (da_cons (de_str) (da_cons (de_str) (da_nil))))))) (da_nil)))))) (de_var (pv 10) rfl) (fun _ _ => rfl)) (da_nil)) (consA_len (nilA_len))) (pg_tup rfl (pgs_cons (pg_name (i := 14) S.nd rfl (by first | exact .inl rfl | exact .inr rfl)) (pgs_cons (pg_sub (pv 9) (de_var (pv 12) rfl) (set_dict hr.u1)) pgs_nil)))) rfl rfl rfl)
  (dss_cons (ds_napp (pv 8) (de_var (pv 10) rfl) (fun _ _ => rfl) (de_tup (da_cons (de_var (pv 12) rfl) (da_cons (de_var (pv 14) rfl) (da_cons (de_callGF (ok__law_moments W) hr (by decide) rfl rfl (pv 0) (da_cons (de_int) (da_nil)) (consA_len (nilA_len))) (da_nil))))) rfl)
  (dss_cons (ds_set (ps_set (i := 13) S.nd rfl (by first | exact .inl rfl | exact .inr rfl) (de_callGF (ok__law_pick W) hr (by decide) rfl rfl (pv 0) (da_cons (de_int) (da_nil)) (consA_len (nilA_len)))) rfl rfl)
  (dss_cons (ds_if (dt_cmp (op_eqDD hr.units) (de_var (pv 13) rfl) (de_int) rfl) (dss_one (ds_app (pv 7) (de_var (pv 12) rfl) rfl)) (dss_nil))
  (dss_one (ds_if (WT.dt (wt_and (dt_in (op_inDD hr.u65) (de_var (pv 13) rfl) (DE.rd (de_tup (da_cons (de_int) (da_cons (de_int) (da_cons (de_int) (da_nil)))))) rfl) (wt_and1 (dt_not (dt_val (de_var (pv 2) rfl)))))) (dss_one (ds_napp (pv 6) (de_var (pv 10) rfl) (fun _ _ => rfl) (de_var (pv 12) rfl) rfl)) (dss_nil))))))))))
  (dss_frz 6 rfl (dss_frz 8 rfl (dss_frz 9 rfl (dss_cons (ds_set (ps_set (i := 11) S.nd rfl (by first | exact .inl rfl | exact .inr rfl) (de_callGF (ok__law_links W) hr (by decide) rfl rfl (pv 0) (da_cons (de_ix (DE.rd (de_var (pv 6) rfl)) (de_int) (fun _ _ => rfl)) (da_cons (de_ix (DE.rd (de_var (pv 6) rfl)) (de_int) (fun _ _ => rfl)) (da_nil))) (consA_len (consA_len (nilA_len))))) rfl rfl)
  (dss_one (ds_ret (ps_ret (de_tup (da_cons (de_tup (da_cons (de_y1 cl_tuple rfl (W.free 57) b_tuple (DE.rd (de_ix (DE.rd (de_var (pv 8) rfl)) (de_int) (fun _ _ => rfl)))) (da_cons (de_y1 cl_tuple rfl (W.free 57) b_tuple (DE.rd (de_ix (DE.rd (de_var (pv 8) rfl)) (de_int) (fun _ _ => rfl)))) (da_cons (de_var (pv 11) rfl) (da_cons (de_y1 cl_tuple rfl (W.free 57) b_tuple (DE.rd (de_b1 (cl_sorted hr.units) rfl (W.free 59) b_sorted (re_own (pv 7) rfl)))) (da_nil)))))) (da_cons (de_var (pv 9) rfl) (da_nil))))))))))))))))))))
end
end TK
end
section
set_option Elab.async false
set_option linter.all false
set_option maxRecDepth 100000
set_option maxHeartbeats 4000000
namespace TK
open PySem PySem.Spec PyProof.Rows L2
section
variable {P : Program} {w : World} {K : PySem.W.Frag} {mg : Str → Option Value} {base : Heap}
theorem sc_hand_deeds : FnScope ["book", "some", "t", "texts", "names", "last", "waiting", "deeds", "hand", "part", "side", "fresh"] ["book", "some", "t", "texts"] d_hand_deeds.scope := ⟨rfl, rfl, rfl, by decide +kernel, rfl, by decide +kernel, by decide +kernel⟩
theorem ok_hand_deeds (W : Wd K mg) : Fk P w K mg base 3 "hand_deeds" ["book", "some", "t", "texts"] (spD 4 f_hand_deeds) :=
  have S := sc_hand_deeds
  fk_pure (g := g_hand_deeds) (d := d_hand_deeds) (N := ["book", "some", "t", "texts", "names", "last", "waiting", "deeds", "hand", "part", "side", "fresh"]) W 19 25 rfl rfl rfl rfl rfl S (kdOf [.pure, .pure, .pure, .pure, .lst, .lst, .lst, .lst, .pure, .pure, .pure, .pure]) rfl rfl (fun _ _ _ _ _ _ us hl => match us, hl with | [_, _, _, _], _ => rfl) fun f cdv A outer s H F E hr =>
  dss_cons (ds_own (ps_comp (i := 4) (own := [("part", 9)]) (is := [9]) rfl S.nd rfl rfl rfl rfl rfl rfl rfl rfl (PI.rd (pi_seq (de_op op_addD (de_ix (DE.rd (de_var (pv 0) rfl)) (de_int) (fun _ _ => rfl)) (de_ix (DE.rd (de_var (pv 0) rfl)) (de_int) (fun _ _ => rfl))))) (fun _ _ _ _ _ _ => dg_name (pg_name (i := 9) S.nd rfl (by first | exact .inl rfl | exact .inr rfl)) rfl rfl) (fun _ _ _ _ _ _ => dts_nil) (fun _ _ _ _ _ _ => de_ix (DE.rd (de_var (pv 9) rfl)) (de_int) (fun _ _ => rfl))) rfl rfl rfl)
  (dss_cons (ds_own (ps_set (i := 5) S.nd rfl (by first | exact .inl rfl | exact .inr rfl) (ne_lst (da_cons (de_callF (ok_last_of W) hr (by decide) rfl (da_cons (de_ix (DE.rd (de_var (pv 0) rfl)) (de_int) (fun _ _ => rfl)) (da_nil)) (consA_len (nilA_len))) (da_cons (de_callF (ok_last_of W) hr (by decide) rfl (da_cons (de_ix (DE.rd (de_var (pv 0) rfl)) (de_int) (fun _ _ => rfl)) (da_nil)) (consA_len (nilA_len))) (da_nil))))) rfl rfl rfl)
  (dss_cons (ds_own (ps_set (i := 6) S.nd rfl (by first | exact .inl rfl | exact .inr rfl) (ne_list rfl (W.free 58) b_list (DE.rd (de_var (pv 3) rfl)))) rfl rfl rfl)
  (dss_cons (ds_own (ps_set (i := 7) S.nd rfl (by first | exact .inl rfl | exact .inr rfl) (ne_lst (da_nil))) rfl rfl rfl)
  (dss_cons (ds_for PassesOwn.never rfl (pi_seq (de_var (pv 1) rfl)) (dg_name (pg_name (i := 8) S.nd rfl (by first | exact .inl rfl | exact .inr rfl)) rfl rfl) (dss_one (ds_if (dt_cmp (op_eqDD hr.units) (de_ix (DE.rd (de_var (pv 8) rfl)) (de_int) (fun _ _ => rfl)) (de_str) rfl) (dss_one (ds_app (pv 7) (de_tup (da_cons (de_str) (da_cons (de_var (pv 2) rfl) (da_cons (de_ix (DE.rd (de_var (pv 8) rfl)) (de_int) (fun _ _ => rfl)) (da_nil))))) rfl)) (dss_one (ds_if (dt_cmp (op_eqDD hr.units) (de_ix (DE.rd (de_var (pv 8) rfl)) (de_int) (fun _ _ => rfl)) (de_str) rfl) (dss_one (ds_app (pv 7) (de_tup (da_cons (de_str) (da_cons (de_var (pv 2) rfl) (da_cons (de_tup (da_cons (de_ix (DE.rd (de_var (pv 8) rfl)) (de_int) (fun _ _ => rfl)) (da_nil))) (da_cons (de_tup (da_cons (de_ix (DE.rd (de_var (pv 8) rfl)) (de_int) (fun _ _ => rfl)) (da_nil))) (da_nil)))))) rfl)) (dss_cons (ds_set (ps_set (i := 10) S.nd rfl (by first | exact .inl rfl | exact .inr rfl) (de_callF (ok_side_of W) hr (by decide) rfl (da_cons (de_var (pv 0) rfl) (da_cons (de_ix (DE.rd (de_var (pv 8) rfl)) (de_int) (fun _ _ => rfl)) (da_nil))) (consA_len (consA_len (nilA_len))))) rfl rfl)
  (dss_cons (ds_set (ps_set (i := 11) S.nd rfl (by first | exact .inl rfl | exact .inr rfl) (de_callF (ok_new_name W) hr (by decide) rfl (da_cons (de_y1 cl_tuple rfl (W.free 57) b_tuple (re_own (pv 4) rfl)) (da_nil)) (consA_len (nilA_len)))) rfl rfl)
  (dss_cons (ds_popapp (pv 7) (pa_popc (de_str) (pa_popc (de_var (pv 2) rfl) (pa_popc (de_op op_subD (de_int) (de_var (pv 10) rfl)) (pa_popc (de_ix (re_own (pv 5) rfl) (de_op op_subD (de_int) (de_var (pv 10) rfl)) (fun _ _ => rfl)) (pa_popc (de_var (pv 11) rfl) (pa_pop (pv 6) rfl)))))) rfl)
  (dss_cons (ds_app (pv 7) (de_callF (ok_fresh_link W) hr (by decide) rfl (da_cons (de_var (pv 10) rfl) (da_cons (de_ix (DE.rd (de_var (pv 8) rfl)) (de_int) (fun _ _ => rfl)) (da_cons (de_var (pv 11) rfl) (da_cons (de_var (pv 2) rfl) (da_nil))))) (consA_len (consA_len (consA_len (consA_len (nilA_len)))))) rfl)
  (dss_cons (ds_app (pv 4) (de_var (pv 11) rfl) rfl)
  (dss_one (ds_stx (ps_asg (de_var (pv 11) rfl) (pg_sub (pv 5) (de_op op_subD (de_int) (de_var (pv 10) rfl)) set_list)) rfl))))))))))))
  (dss_one (ds_ret (ps_ret (de_y1 cl_tuple rfl (W.free 57) b_tuple (re_own (pv 7) rfl)))))))))
theorem sc_all_done : FnScope ["book", "deeds", "deed"] ["book", "deeds"] d_all_done.scope := ⟨rfl, rfl, rfl, by decide +kernel, rfl, by decide +kernel, by decide +kernel⟩
theorem ok_all_done (W : Wd K mg) (T : Wt w K) : Fk P w K mg base 7 "all_done" ["book", "deeds"] (spD 2 f_all_done) :=
  have S := sc_all_done
  fk_pure (g := g_all_done) (d := d_all_done) (N := ["book", "deeds", "deed"]) W 30 36 rfl rfl rfl rfl rfl S (kdOf [.pure, .pure, .pure]) rfl rfl (fun _ _ _ _ _ _ us hl => match us, hl with | [_, _], _ => rfl) fun f cdv A outer s H F E hr =>
  dss_cons (ds_for PassesOwn.never rfl (pi_seq (de_var (pv 1) rfl)) (dg_name (pg_name (i := 2) S.nd rfl (by first | exact .inl rfl | exact .inr rfl)) rfl rfl) (dss_one (ds_set (ps_set (i := 0) S.nd rfl (by first | exact .inl rfl | exact .inr rfl) (de_callF (ok_done W T) hr (by decide) rfl (da_cons (de_var (pv 0) rfl) (da_cons (de_var (pv 2) rfl) (da_nil))) (consA_len (consA_len (nilA_len))))) rfl rfl)))
  (dss_one (ds_ret (ps_ret (de_var (pv 0) rfl))))
theorem sc__law_behind : FnScope ["_law_book_here", "_law_told", "_law_t", "_law_many", "_law_texts", "_law_hand"] ["_law_book_here", "_law_told", "_law_t"] d__law_behind.scope := ⟨rfl, rfl, rfl, by decide +kernel, rfl, by decide +kernel, by decide +kernel⟩
theorem ok__law_behind (W : Wd K mg) (T : Wt w K) : Fk P w K mg base 8 "_law_behind" ["_law_book_here", "_law_told", "_law_t"] (spD 3 f__law_behind) :=
  have S := sc__law_behind
  fk_pure (g := g__law_behind) (d := d__law_behind) (N := ["_law_book_here", "_law_told", "_law_t", "_law_many", "_law_texts", "_law_hand"]) W 53 59 rfl rfl rfl rfl rfl S (kdOf [.pure, .pure, .pure, .pure, .pure, .pure]) rfl rfl (fun _ _ _ _ _ _ us hl => match us, hl with | [_, _, _], _ => rfl) fun f cdv A outer s H F E hr =>
  dss_cons (ds_set (ps_set (i := 3) S.nd rfl (by first | exact .inl rfl | exact .inr rfl) (de_b1 cl_len rfl (W.free 56) b_len (DE.rd (NE.de (ne_comp (own := [("_law_hand", 5)]) (is := [5]) rfl S.nd rfl rfl rfl (PI.rd (pi_seq (de_var (pv 1) rfl))) (fun _ _ _ _ _ _ => dg_name (pg_name (i := 5) S.nd rfl (by first | exact .inl rfl | exact .inr rfl)) rfl rfl) (fun _ _ _ _ _ _ => dts_one (dt_cmp (op_eqDD hr.units) (de_ix (DE.rd (de_var (pv 5) rfl)) (de_int) (fun _ _ => rfl)) (de_str) rfl)) (fun _ _ _ _ _ _ => de_var (pv 5) rfl)))))) rfl rfl)
  (dss_cons (ds_set (ps_set (i := 4) S.nd rfl (by first | exact .inl rfl | exact .inr rfl) (de_slice (DE.rd (de_op op_mulTD (de_tup (da_cons (de_str) (da_cons (de_str) (da_cons (de_str) (da_nil))))) (de_var (pv 3) rfl))) (do_none) (do_some (de_var (pv 3) rfl)))) rfl rfl)
  (dss_one (ds_ret (ps_ret (de_callF (ok_all_done W T) hr (by decide) rfl (da_cons (de_var (pv 0) rfl) (da_cons (de_callF (ok_hand_deeds W) hr (by decide) rfl (da_cons (de_var (pv 0) rfl) (da_cons (de_var (pv 1) rfl) (da_cons (de_var (pv 2) rfl) (da_cons (de_var (pv 4) rfl) (da_nil))))) (consA_len (consA_len (consA_len (consA_len (nilA_len)))))) (da_nil))) (consA_len (consA_len (nilA_len))))))))
end
end TK
end
section
set_option Elab.async false
set_option linter.all false
set_option maxRecDepth 100000
set_option maxHeartbeats 4000000
/-! Matching: is_given. -/
namespace TK
open PySem PySem.Spec PyProof.Rows L2
abbrev Mt := List (Str × Str)
abbrev Wy := List (Str × List Str)
def lkM (ms : Mt) (k : Str) : Option Str := (ms.find? fun p => decide (p.1 = k)).map (·.2)
def lkW (ws : Wy) (k : Str) : Option (List Str) := (ws.find? fun p => decide (p.1 = k)).map (·.2)
def putM (ms : Mt) (k v : Str) : Mt := if ms.any (fun p => decide (p.1 = k)) then ms.map (fun p => if p.1 = k then (p.1, v) else p) else ms ++ [(k, v)]
def giveL (rec : Str → Mt → List Str → Option (Bool × Mt × List Str)) (one : Str) : List Str → Mt → List Str → Option (Bool × Mt × List Str)
  | [], ms, tr => some (false, ms, tr)
  | o :: os, ms, tr => if o ∈ tr then giveL rec one os ms tr
    else if tr.length < LINE then (match lkM ms o with
      | none => if ms.length < LINE then some (true, putM ms o one, tr ++ [o]) else none
      | some mate => (rec mate ms (tr ++ [o])).bind fun r => match r.1 with
        | true => if r.2.1.length < LINE then some (true, putM r.2.1 o one, r.2.2) else none
        | false => giveL rec one os r.2.1 r.2.2)
    else none
def give (W : Wy) : Nat → Str → Mt → List Str → Option (Bool × Mt × List Str)
  | 0, _, _, _ => none
  | n + 1, one, ms, tr => (lkW W one).bind fun os => giveL (give W n) one os ms tr
/-! ### the heap's side -/
def mkM (ms : Mt) : List (Key × V) := ms.map fun p => (Sum.inr p.1, V.str p.2)
def mkT (tr : List Str) : List (Key × V) := tr.map fun k => (Sum.inr k, V.bl true)
theorem find_map {α : Type} (f : α → Key × V) (p : α → Bool) (k : Str) (h : ∀ a, decide ((f a).1 = (Sum.inr k : Key)) = p a) : ∀ l : List α, (l.map f).find? (fun kv => decide (kv.1 = (Sum.inr k : Key))) = (l.find? p).map f
  | [] => rfl
  | a :: l => by
    rw [List.map_cons, List.find?_cons, List.find?_cons, h a]
    cases p a with
    | true => rfl
    | false => exact find_map f p k h l
theorem dec_inr (x k : Str) : decide ((Sum.inr x : Key) = Sum.inr k) = decide (x = k) := by
  by_cases h : x = k
  · rw [decide_eq_true h, decide_eq_true (by rw [h])]
  · rw [decide_eq_false h, decide_eq_false fun z => h (Sum.inr.inj z)]
theorem valM (ms : Mt) (k : Str) : valV (mkM ms) (Sum.inr k : Key) = (lkM ms k).map V.str := by
  unfold valV mkM lkM
  rw [find_map (fun p : Str × Str => ((Sum.inr p.1 : Key), V.str p.2)) (fun p => decide (p.1 = k)) k (fun a => dec_inr _ _)]
  cases ms.find? (fun p => decide (p.1 = k)) <;> rfl
theorem valTr (tr : List Str) (k : Str) : (valV (mkT tr) (Sum.inr k : Key)).isSome = decide (k ∈ tr) := by
  unfold valV mkT
  rw [find_map (fun x : Str => ((Sum.inr x : Key), V.bl true)) (fun x => decide (x = k)) k (fun a => dec_inr _ _)]
  by_cases h : k ∈ tr
  · rw [decide_eq_true h]
    cases e : tr.find? (fun x => decide (x = k)) with
    | some y => rfl
    | none =>
      have := List.find?_eq_none.mp e k h
      simp at this
  · rw [decide_eq_false h]
    cases e : tr.find? (fun x => decide (x = k)) with
    | none => rfl
    | some y =>
      have h1 := List.find?_some e
      have h2 := List.mem_of_find?_eq_some e
      have h3 : y = k := by simpa using h1
      rw [h3] at h2
      exact absurd h2 h
theorem any_map {α : Type} (f : α → Key × V) (p : α → Bool) (k : Str) (h : ∀ a, decide ((f a).1 = (Sum.inr k : Key)) = p a) : ∀ l : List α, ((l.map f).any fun kv => decide (kv.1 = (Sum.inr k : Key))) = l.any p
  | [] => rfl
  | a :: l => by rw [List.map_cons, List.any_cons, List.any_cons, h a, any_map f p k h l]
theorem put_M (ms : Mt) (k v : Str) : putK (mkM ms) (Sum.inr k : Key) (V.str v) = mkM (putM ms k v) := by
  unfold putK putM
  unfold mkM
  rw [any_map (fun p : Str × Str => ((Sum.inr p.1 : Key), V.str p.2)) (fun p => decide (p.1 = k)) k (fun a => dec_inr _ _)]
  cases ms.any (fun p => decide (p.1 = k)) with
  | true =>
    simp only [if_true, List.map_map]
    refine List.map_congr_left fun p _ => ?_
    show (if (Sum.inr p.1 : Key) = Sum.inr k then _ else _) = ((Sum.inr (if p.1 = k then (p.1, v) else p).1 : Key), V.str (if p.1 = k then (p.1, v) else p).2)
    by_cases h : p.1 = k
    · rw [if_pos h, if_pos (by rw [h])]
    · rw [if_neg h, if_neg fun z => h (Sum.inr.inj z)]
  | false =>
    simp
theorem put_T {tr : List Str} {k : Str} (h : k ∉ tr) : putK (mkT tr) (Sum.inr k : Key) (V.bl true) = mkT (tr ++ [k]) := by
  have e : valV (mkT tr) (Sum.inr k : Key) = none := by
    have := valTr tr k
    rw [decide_eq_false h] at this
    cases z : valV (mkT tr) (Sum.inr k : Key) with
    | none => rfl
    | some y => rw [z] at this; cases this
  rw [putK_new _ e]
  unfold mkT
  rw [List.map_append] <;> rfl
structure GAt (C : Addr) (W : Wy) (x m t : Addr) (ms : Mt) (tr : List Str) (H : Hp) : Prop where
  ex : ∃ dx vl vr Wa wk, H x = some (.ins C dx [("lefts", vl), ("rights", vr), ("ways", .ref Wa), ("mates", .ref m)]) ∧ H Wa = some (.dK wk) ∧ (∀ k l, lkW W k = some l → ∃ a, valV wk (Sum.inr k : Key) = some (.ref a) ∧ H a = some (.lst (l.map .str))) ∧ Wa ≠ m ∧ Wa ≠ t
  mt : m ≠ t
  hm : H m = some (.dK (mkM ms))
  ht : H t = some (.dK (mkT tr))
theorem GAt.upd {C : Addr} {W : Wy} {x m t : Addr} {ms ms' : Mt} {tr tr' : List Str} {H H' : Hp} (g : GAt C W x m t ms tr H) (hm : H' m = some (.dK (mkM ms'))) (ht : H' t = some (.dK (mkT tr'))) (ho : ∀ a, a ≠ m → a ≠ t → H' a = H a) : GAt C W x m t ms' tr' H' := by
  obtain ⟨dx, vl, vr, Wa, wk, h1, h2, h3, h4, h5⟩ := g.ex
  refine ⟨⟨dx, vl, vr, Wa, wk, ?_, ?_, fun k l e => ?_, h4, h5⟩, g.mt, hm, ht⟩
  · rw [ho x (fun z => by rw [z, g.hm] at h1; cases h1) (fun z => by rw [z, g.ht] at h1; cases h1)]
    exact h1
  · rw [ho Wa h4 h5]
    exact h2
  · obtain ⟨a, ha, hl⟩ := h3 k l e
    refine ⟨a, ha, ?_⟩
    rw [ho a (fun z => by rw [z, g.hm] at hl; cases hl) (fun z => by rw [z, g.ht] at hl; cases hl)]
    exact hl
def spGive (C : Addr) (W : Wy) (n : Nat) : Sp := fun vs H Q _ => ∃ x m t one ms tr r ms' tr', vs = [.ref x, .str one, .ref t] ∧ GAt C W x m t ms tr H ∧ give W n one ms tr = some (r, ms', tr') ∧
  ∀ H', H' m = some (.dK (mkM ms')) → H' t = some (.dK (mkT tr')) → (∀ a, a ≠ m → a ≠ t → H' a = H a) → Q (.bl r) H'
theorem sc_given : FnScope ["self", "one", "tried", "other"] ["self", "one", "tried"] d_Matching_is_given.scope := ⟨rfl, rfl, rfl, by decide +kernel, rfl, by decide +kernel, by decide +kernel⟩
/-- a method under its name -/
structure Fm (P : Program) (w : World) (K : PySem.W.Frag) (mg : Str → Option Value) (base : Heap) (k : Nat) (m : Str) (ps : List Str) (sp : Sp) : Prop where
  ex : ∃ fd, FnOk P w K mg base CX0 k (He.ma K (He.ga K "Matching") m) fd ps sp ∧ Binds K fd ps []
section
variable {P : Program} {w : World} {K : PySem.W.Frag} {mg : Str → Option Value} {base : Heap} {m : Str} {ps : List Str} {k : Nat} {d : He.DefD}
theorem fm_of (W : Wd K mg) (j : Nat) (hd : fn[j]? = some d) (e1 : d.dfl = []) (e2 : d.kwd = []) (e3 : d.at_ = (("Matching" : Str), some m)) {sp : Sp}
    (hok : ∀ f fd, FunD K d.name d.qual d.params d.body d.scope [] [] f fd → FnOk P w K mg base CX0 k f fd ps sp)
    (hb : ∀ (kV doc pm : Value) (an : Option Addr) (cdv ct : Value) (us : List Value), us.length = ps.length → bindArgs (PySem.W.fnOf d.name d.qual d.params d.body d.scope .none kV doc pm an cdv ct) ⟨us, []⟩ = pure (ps.zip us)) :
    Fm P w K mg base k m ps sp := by
  obtain ⟨fd, F⟩ := W.c.def_ j hd
  have ha : He.fAd K d.at_ = He.ma K (He.ga K "Matching") m := by rw [e3] <;> rfl
  unfold He.DefD.dvs He.DefD.kws at F
  rw [e1, e2, ha] at F
  exact ⟨fd, hok _ fd F, F.bindsN hb⟩
theorem Wd.cls (W : Wd K mg) : Cls K (He.ga K "Matching") := He.cls_ok (W.c.fact 75 (f := .cls "Matching") rfl)
theorem Wd.noat (W : Wd K mg) (i : Nat) {x : Str} (h : fa[i]? = some (.noat "Matching" x) := by rfl) : NoAttr K (He.ga K "Matching") x := He.noat_ok (W.c.fact i h)
theorem Wd.meth (W : Wd K mg) (i : Nat) {x : Str} (h : fa[i]? = some (.meth "Matching" x) := by rfl) : Meth K (He.ga K "Matching") x (He.ma K (He.ga K "Matching") x) := He.meth_ok (W.c.fact i h)
theorem Wd.mkr (W : Wd K mg) : Mk K (He.ga K "Matching") (He.ma K (He.ga K "Matching") "__init__") := He.mkr_ok (W.c.fact 85 (f := .mkr "Matching") rfl)
def t_given (K : PySem.W.Frag) (C : Addr) (W : Wy) (n : Nat) : TS :=
  tSeq (tFor (iList K (tDGet (tFld K (tVar 0) "ways") (tVar 1))) (gName 3)
    (tIfS (tB (tDNotIn (tVar 3) (tVar 2)))
      (tSeq (sDPut (tVar 2) (tVar 3) (tC (.bl true)))
        (tIfS (tOr (tB (tDNotIn (tVar 3) (tFld K (tVar 0) "mates"))) (tB (tMeth C "is_given" (spGive C W n) [] E0 (tVar 0) (tCons (tDGet (tFld K (tVar 0) "mates") (tVar 3)) (tCons (tVar 2) tNil)))))
          (tSeq (sDPut (tFld K (tVar 0) "mates") (tVar 3) (tVar 1)) (tRet (tC (.bl true)))) tNext)) tNext))
    (tRet (tC (.bl false)))
theorem walk_given (W : Wd K mg) (Wy : TK.Wy) (n k : Nat) (G : Fm P w K mg base k "is_given" ["self", "one", "tried"] (spGive (He.ga K "Matching") Wy n))
    (f : Addr) (cdv : Value) (A : Around) (outer : List PySem.Env) (s : Shared) (H : Hp) (E : XK) (hr : Room k (A.deeper (envOfC d_Matching_is_given.qual d_Matching_is_given.scope s.heap.objs.size f cdv))) :
    PSs (cxOf CX0 P w K mg base ["self", "one", "tried", "other"] d_Matching_is_given.qual d_Matching_is_given.scope f cdv A outer s H E).nox d_Matching_is_given.body (t_given K (He.ga K "Matching") Wy n) := by
  have S := sc_given
  obtain ⟨fd, G1, G2⟩ := G
  exact pss_cons (ps_for PassesOwn.never rfl (pi_list (pe_dget hr.u1 (pe_fld (pv 0) rfl) (pv 1) (fun _ _ => rfl))) (pg_name (i := 3) S.nd rfl (by first | exact .inl rfl | exact .inr rfl))
    (pss_one (ps_if (pt_cmp (pc_dnotin hr.u1 (pv 3) (pv 2)) rfl)
      (pss_cons (ps_dput hr.u1 (pv 2) (pv 3) pe_bl rfl)
        (pss_one (ps_if (PW.pt (pw_or (pt_cmp (pc_dnotin hr.u1 (pv 3) (pe_fld (pv 0) rfl)) rfl) (pw_or1 (pt_val (pe_meth (pv 0) W.cls (W.meth 80) G1 hr G2 .nil pass0 (pa_cons (pe_dget hr.u1 (pe_fld (pv 0) rfl) (pv 3) (fun _ _ => rfl)) (pa_cons (pv 2) pa_nil)))))))
          (pss_cons (ps_dput hr.u1 (pe_fld (pv 0) rfl) (pv 3) (pv 1) rfl) (pss_one (ps_ret pe_bl))) pss_nil))) pss_nil)))
    (pss_one (ps_ret pe_bl))
theorem read_given (C : Addr) (cls : Cls K C) (nw : NoAttr K C "ways") (nm : NoAttr K C "mates") (Wy : TK.Wy) (n : Nat) (vs : List V) (H : Hp) (Q : VK) (E : XK) (h : spGive C Wy (n + 1) vs H Q E) :
    t_given K C Wy n { nx := fun _ H' => Q .non H', rt := Q } (L2.start ["self", "one", "tried", "other"] vs) H := by
  obtain ⟨x, m, t, one, ms, tr, r, ms', tr', rfl, g, hg, q⟩ := h
  obtain ⟨os, e1, hg⟩ := bnd hg
  obtain ⟨dx, vl, vr, Wa, wk, h1, h2, h3, h4, h5⟩ := g.ex
  obtain ⟨a, ha, hl⟩ := h3 one os e1
  have nam : a ≠ m := fun z => by rw [z, g.hm] at hl; cases hl
  have nat : a ≠ t := fun z => by rw [z, g.ht] at hl; cases hl
  have fld : ∀ {ms tr Hc}, GAt C Wy x m t ms tr Hc → ∃ dx vl vr Wa, Hc x = some (.ins C dx [("lefts", vl), ("rights", vr), ("ways", .ref Wa), ("mates", .ref m)]) := fun g => by
    obtain ⟨dx, vl, vr, Wa, wk, h1, _⟩ := g.ex
    exact ⟨dx, vl, vr, Wa, h1⟩
  have dg : ∀ {ms tr Hc k}, GAt C Wy x m t ms tr Hc → ∀ o, lkM ms k = o → DGet Hc m (.str k) (o.map V.str) := fun {ms tr Hc k} g o e => by
    rw [← e, ← valM]
    exact DGet.k (k := Sum.inr k) g.hm
  refine ⟨.ref x, rfl, x, C, dx, _, .ref Wa, rfl, h1, cls, nw, rfl, .str one, rfl, Wa, .ref a, rfl, ?_, a, rfl, ⟨_, SqL.of hl⟩, ?_⟩
  · rw [← ha]
    exact DGet.k (k := Sum.inr one) h2
  refine for_list (xs := os.map .str) (fun i σ Hc => ∃ o3 ms tr, σ = [some (.ref x), some (.str one), some (.ref t), o3] ∧ GAt C Wy x m t ms tr Hc ∧ (∀ b, b ≠ m → b ≠ t → Hc b = H b) ∧ giveL (give Wy n) one (os.drop i) ms tr = some (r, ms', tr')) ⟨none, ms, tr, rfl, g, fun _ _ _ => rfl, by rw [List.drop_zero]; exact hg⟩
    (fun i σ Hc _ p => ?_) (fun i y σ Hc hi p => ?_) (fun σ Hc p => ?_)
  · obtain ⟨o3, ms, tr, rfl, g2, fr, hg⟩ := p
    refine SqL.of ?_
    rw [fr a nam nat]
    exact hl
  · obtain ⟨o3, ms, tr, rfl, g2, fr, hg⟩ := p
    rw [List.getElem?_map] at hi
    obtain ⟨o, ho, e⟩ := Option.map_eq_some_iff.mp hi
    subst e
    obtain ⟨hlt, hoe⟩ := List.getElem?_eq_some_iff.mp ho
    have hdrop : os.drop i = o :: os.drop (i + 1) := by rw [← hoe]; exact List.drop_eq_getElem_cons hlt
    rw [hdrop] at hg
    show tIfS _ _ _ _ _ _
    refine ⟨.str o, rfl, .ref t, rfl, t, valV (mkT tr) (Sum.inr o : Key), rfl, DGet.k (k := Sum.inr o) g2.ht, _, rfl, ?_⟩
    rw [valTr]
    unfold giveL at hg
    by_cases hm : o ∈ tr
    · rw [if_pos hm] at hg
      rw [decide_eq_true hm]
      exact ⟨_, ms, tr, rfl, g2, fr, hg⟩
    · rw [if_neg hm] at hg
      rw [decide_eq_false hm]
      show ite (true = true) _ _
      rw [if_pos rfl]
      split at hg
      · rename_i hz
        have hz2 : (mkT tr).length < sizeLine := by
          unfold mkT
          rw [List.length_map]
          exact line_lt hz
        -- tried[other] = True
        refine ⟨.ref t, rfl, .str o, rfl, t, upd Hc t (.dK (mkT (tr ++ [o]))), rfl, ?_, ?_⟩
        · rw [← put_T hm]
          exact DPut.k (k := Sum.inr o) g2.ht hz2
        have fr2 : ∀ b, b ≠ m → b ≠ t → upd Hc t (.dK (mkT (tr ++ [o]))) b = H b := fun b b1 b2 => by rw [upd_ne b2]; exact fr b b1 b2
        have g3 : GAt C Wy x m t ms (tr ++ [o]) (upd Hc t (.dK (mkT (tr ++ [o])))) := g2.upd (by rw [upd_ne g2.mt]; exact g2.hm) upd_same fun b _ b2 => upd_ne b2
        obtain ⟨dx3, vl3, vr3, Wa3, hx3⟩ := fld g3
        -- if other not in self.mates or ..
        refine ⟨.str o, rfl, .ref x, rfl, x, C, dx3, _, .ref m, rfl, hx3, cls, nm, rfl, m, (lkM ms o).map V.str, rfl, dg g3 _ rfl, _, rfl, ?_⟩
        -- self.mates[other] = one, return True
        have fin : ∀ (ms2 : Mt) (tr2 : List Str) (H2 : Hp) (σ2 : L2.St), σ2 = [some (.ref x), some (.str one), some (.ref t), some (.str o)] → GAt C Wy x m t ms2 tr2 H2 → (∀ b, b ≠ m → b ≠ t → H2 b = H b) → ms2.length < LINE → some (true, putM ms2 o one, tr2) = some (r, ms', tr') →
            ∀ D : Ends, D.rt = Q → tSeq (sDPut (tFld K (tVar 0) "mates") (tVar 3) (tVar 1)) (tRet (tC (.bl true))) D σ2 H2 := fun ms2 tr2 H2 σ2 es g4 fr4 hz4 e D hD => by
          subst es
          cases e
          obtain ⟨dx4, vl4, vr4, Wa4, hx4⟩ := fld g4
          refine ⟨.str one, rfl, .ref x, rfl, x, C, dx4, _, .ref m, rfl, hx4, cls, nm, rfl, .str o, rfl, m, upd H2 m (.dK (mkM (putM ms2 o one))), rfl, ?_, ?_⟩
          · rw [← put_M]
            exact DPut.k (k := Sum.inr o) g4.hm (by unfold mkM; rw [List.length_map]; exact line_lt hz4)
          · show D.rt (.bl true) _
            rw [hD]
            exact q _ upd_same (by rw [upd_ne g4.mt.symm]; exact g4.ht) fun b b1 b2 => by rw [upd_ne b1]; exact fr4 b b1 b2
        cases hk : lkM ms o with
        | none =>
          rw [hk] at hg
          simp only at hg
          split at hg
          · rename_i hz4
            show ite (true = true) _ _
            rw [if_pos rfl]
            show ite (true = true) _ _
            rw [if_pos rfl]
            exact fin ms (tr ++ [o]) _ _ rfl g3 fr2 hz4 hg _ rfl
          · cases hg
        | some mate =>
          rw [hk] at hg
          simp only at hg
          obtain ⟨⟨r2, ms2, tr2⟩, e2, hg⟩ := bnd hg
          show ite (false = true) _ _
          rw [if_neg Bool.false_ne_true]
          refine ⟨.ref x, rfl, x, dx3, _, rfl, hx3, rfl, .ref x, rfl, x, C, dx3, _, .ref m, rfl, hx3, cls, nm, rfl, .str o, rfl, m, .str mate, rfl, ?_, .ref t, rfl, ?_⟩
          · have := dg (k := o) g3 _ hk
            exact this
          · refine ⟨x, m, t, mate, ms, tr ++ [o], r2, ms2, tr2, rfl, g3, e2, fun H2 p1 p2 p3 => ⟨r2, rfl, ?_⟩⟩
            have g4 := g3.upd p1 p2 p3
            have fr4 : ∀ b, b ≠ m → b ≠ t → H2 b = H b := fun b b1 b2 => by rw [p3 b b1 b2]; exact fr2 b b1 b2
            cases r2 with
            | true =>
              simp only at hg
              split at hg
              · rename_i hz4
                show ite (true = true) _ _
                rw [if_pos rfl]
                exact fin ms2 tr2 _ _ rfl g4 fr4 hz4 hg _ rfl
              · cases hg
            | false =>
              simp only at hg
              show ite (false = true) _ _
              rw [if_neg Bool.false_ne_true]
              exact ⟨_, ms2, tr2, rfl, g4, fr4, hg⟩
      · cases hg
  · obtain ⟨o3, ms, tr, rfl, g2, fr, hg⟩ := p
    rw [List.length_map, List.drop_length] at hg
    cases hg
    exact q _ g2.hm g2.ht fr
theorem ok_given (W : Wd K mg) (Wy : TK.Wy) : ∀ n, Fm P w K mg base (n + 1) "is_given" ["self", "one", "tried"] (spGive (He.ga K "Matching") Wy n)
  | 0 => fm_of (d := d_Matching_is_given) W 10 rfl rfl rfl rfl (fun f fd F => F.ok sc_given (fun vs H Q E h => by
      obtain ⟨x, m, t, one, ms, tr, r, ms', tr', rfl, _⟩ := h
      rfl) fun cdv A outer s H vs Q E hr h => by
      obtain ⟨x, m, t, one, ms, tr, r, ms', tr', rfl, g, hg, q⟩ := h
      cases hg) (fun _ _ _ _ _ _ us hl => match us, hl with | [_, _, _], _ => rfl)
  | n + 1 => fm_of (d := d_Matching_is_given) W 10 rfl rfl rfl rfl (fun f fd F => F.ok sc_given (fun vs H Q E h => by
      obtain ⟨x, m, t, one, ms, tr, r, ms', tr', rfl, _⟩ := h
      rfl) fun cdv A outer s H vs Q E hr h => ⟨_, PSs.nox (walk_given W Wy n (n + 1) (ok_given W Wy n) f cdv A outer s H E hr), read_given _ W.cls (W.noat 78) (W.noat 79) Wy n vs H Q E h⟩) (fun _ _ _ _ _ _ us hl => match us, hl with | [_, _, _], _ => rfl)
end
end TK
end
section
set_option Elab.async false
set_option linter.all false
set_option maxRecDepth 100000
set_option maxHeartbeats 4000000
/-! Matching: grow, __init__. -/
namespace TK
open PySem PySem.Spec PyProof.Rows L2
def growL (W : Wy) (n : Nat) : List Str → Mt → Option Mt
  | [], ms => some ms
  | l :: ls, ms => (give W n l ms []).bind fun r => growL W n ls r.2.1
structure MAt (C : Addr) (W : Wy) (L : List Str) (x m : Addr) (ms : Mt) (H : Hp) : Prop where
  ex : ∃ dx al vr Wa wk, H x = some (.ins C dx [("lefts", .ref al), ("rights", vr), ("ways", .ref Wa), ("mates", .ref m)]) ∧ H al = some (.tup (L.map .str)) ∧ H Wa = some (.dK wk) ∧ (∀ k l, lkW W k = some l → ∃ a, valV wk (Sum.inr k : Key) = some (.ref a) ∧ H a = some (.lst (l.map .str))) ∧ Wa ≠ m
  hm : H m = some (.dK (mkM ms))
theorem MAt.step {C : Addr} {W : Wy} {L : List Str} {x m : Addr} {ms ms' : Mt} {H H' : Hp} (g : MAt C W L x m ms H) (hm : H' m = some (.dK (mkM ms'))) (ho : ∀ a o, H a = some o → a ≠ m → H' a = some o) : MAt C W L x m ms' H' := by
  obtain ⟨dx, al, vr, Wa, wk, h1, h2, h3, h4, h5⟩ := g.ex
  refine ⟨⟨dx, al, vr, Wa, wk, ho x _ h1 fun z => ?_, ho al _ h2 fun z => ?_, ho Wa _ h3 h5, fun k l e => ?_, h5⟩, hm⟩
  · rw [z, g.hm] at h1; cases h1
  · rw [z, g.hm] at h2; cases h2
  · obtain ⟨a, ha, hl⟩ := h4 k l e
    exact ⟨a, ha, ho a _ hl fun z => by rw [z, g.hm] at hl; cases hl⟩
theorem MAt.give {C : Addr} {W : Wy} {L : List Str} {x m t : Addr} {ms : Mt} {H : Hp} (g : MAt C W L x m ms H) (ht : H t = none) : GAt C W x m t ms [] (upd H t (.dK [])) := by
  have ne : ∀ {a o}, H a = some o → a ≠ t := fun e => ne_of_none e ht
  obtain ⟨dx, al, vr, Wa, wk, h1, h2, h3, h4, h5⟩ := g.ex
  refine ⟨⟨dx, _, vr, Wa, wk, by rw [upd_ne (ne h1)]; exact h1, by rw [upd_ne (ne h3)]; exact h3, fun k l e => ?_, h5, ne h3⟩, ne g.hm, by rw [upd_ne (ne g.hm)]; exact g.hm, upd_same⟩
  obtain ⟨a, ha, hl⟩ := h4 k l e
  exact ⟨a, ha, by rw [upd_ne (ne hl)]; exact hl⟩
def spGrow (C : Addr) (W : Wy) (n : Nat) : Sp := fun vs H Q _ => ∃ x m L ms ms', vs = [.ref x] ∧ MAt C W L x m ms H ∧ growL W n L ms = some ms' ∧
  ∀ H', H' m = some (.dK (mkM ms')) → (∀ a o, H a = some o → a ≠ m → H' a = some o) → Q .non H'
theorem sc_grow : FnScope ["self", "one"] ["self"] d_Matching_grow.scope := ⟨rfl, rfl, rfl, by decide +kernel, rfl, by decide +kernel, by decide +kernel⟩
def t_grow (K : PySem.W.Frag) (C : Addr) (W : Wy) (n : Nat) : TS :=
  tFor (iTup K (tFld K (tVar 0) "lefts")) (gName 1) (tDrop (tMeth C "is_given" (spGive C W n) [] E0 (tVar 0) (tCons (tVar 1) (tCons tDNewK tNil))))
section
variable {P : Program} {w : World} {K : PySem.W.Frag} {mg : Str → Option Value} {base : Heap}
theorem walk_grow (W : Wd K mg) (Wy : TK.Wy) (n k : Nat) (G : Fm P w K mg base k "is_given" ["self", "one", "tried"] (spGive (He.ga K "Matching") Wy n))
    (f : Addr) (cdv : Value) (A : Around) (outer : List PySem.Env) (s : Shared) (H : Hp) (E : XK) (hr : Room k (A.deeper (envOfC d_Matching_grow.qual d_Matching_grow.scope s.heap.objs.size f cdv))) :
    PSs (cxOf CX0 P w K mg base ["self", "one"] d_Matching_grow.qual d_Matching_grow.scope f cdv A outer s H E).nox d_Matching_grow.body (t_grow K (He.ga K "Matching") Wy n) := by
  have S := sc_grow
  obtain ⟨fd, G1, G2⟩ := G
  exact pss_one (ps_for PassesOwn.never rfl (pi_tup (pe_fld (pv 0) rfl)) (pg_name (i := 1) S.nd rfl (by first | exact .inl rfl | exact .inr rfl))
    (pss_one (ps_expr (pe_meth (pv 0) W.cls (W.meth 80) G1 hr G2 .nil pass0 (pa_cons (pv 1) (pa_cons pe_dnewK pa_nil))))))
theorem read_grow (C : Addr) (cls : Cls K C) (nl : NoAttr K C "lefts") (Wy : TK.Wy) (n : Nat) (vs : List V) (H : Hp) (Q : VK) (E : XK) (h : spGrow C Wy n vs H Q E) :
    t_grow K C Wy n { nx := fun _ H' => Q .non H', rt := Q } (L2.start ["self", "one"] vs) H := by
  obtain ⟨x, m, L, ms, ms', rfl, g, hg, q⟩ := h
  obtain ⟨dx, al, vr, Wa, wk, h1, h2, h3, h4, h5⟩ := g.ex
  refine ⟨.ref x, rfl, x, C, dx, _, .ref al, rfl, h1, cls, nl, rfl, al, rfl, ⟨_, SqT.of h2⟩, ?_⟩
  refine for_tup (xs := L.map .str) (fun i σ Hc => ∃ o1 ms, σ = [some (.ref x), o1] ∧ MAt C Wy L x m ms Hc ∧ (∀ a o, H a = some o → a ≠ m → Hc a = some o) ∧ growL Wy n (L.drop i) ms = some ms') ⟨none, ms, rfl, g, fun _ _ e _ => e, by rw [List.drop_zero]; exact hg⟩
    (fun i σ Hc _ p => ?_) (fun i y σ Hc hi p => ?_) (fun σ Hc p => ?_)
  · obtain ⟨o1, ms, rfl, g2, fr, hg⟩ := p
    exact SqT.of (fr al _ h2 fun z => by rw [z, g.hm] at h2; cases h2)
  · obtain ⟨o1, ms, rfl, g2, fr, hg⟩ := p
    rw [List.getElem?_map] at hi
    obtain ⟨o, ho, e⟩ := Option.map_eq_some_iff.mp hi
    subst e
    obtain ⟨hlt, hoe⟩ := List.getElem?_eq_some_iff.mp ho
    have hdrop : L.drop i = o :: L.drop (i + 1) := by rw [← hoe]; exact List.drop_eq_getElem_cons hlt
    rw [hdrop] at hg
    obtain ⟨⟨r, ms2, tr2⟩, e2, hg⟩ := bnd hg
    obtain ⟨dx2, al2, vr2, Wa2, wk2, k1, k2, k3, k4, k5⟩ := g2.ex
    refine ⟨.ref x, rfl, x, dx2, _, rfl, k1, rfl, .str o, rfl, fun t ht => ?_⟩
    have g3 := g2.give ht
    refine ⟨x, m, t, o, ms, [], r, ms2, tr2, rfl, g3, e2, fun H2 p1 p2 p3 => ?_⟩
    have keep : ∀ a o, Hc a = some o → a ≠ m → H2 a = some o := fun a o e n => by
      rw [p3 a n (ne_of_none e ht), upd_ne (ne_of_none e ht)]
      exact e
    exact ⟨_, ms2, rfl, g2.step p1 keep, fun a o e n => keep a o (fr a o e n) n, hg⟩
  · obtain ⟨o1, ms, rfl, g2, fr, hg⟩ := p
    rw [List.length_map, List.drop_length] at hg
    cases hg
    exact q _ g2.hm fr
theorem ok_grow (W : Wd K mg) (Wy : TK.Wy) (n : Nat) : Fm P w K mg base (n + 2) "grow" ["self"] (spGrow (He.ga K "Matching") Wy n) :=
  fm_of (d := d_Matching_grow) W 11 rfl rfl rfl rfl (fun f fd F => F.ok sc_grow (fun vs H Q E h => by
      obtain ⟨x, m, L, ms, ms', rfl, _⟩ := h
      rfl) fun cdv A outer s H vs Q E hr h => ⟨_, PSs.nox (walk_grow W Wy n (n + 1) (ok_given W Wy n) f cdv A outer s H E hr), read_grow _ W.cls (W.noat 76) Wy n vs H Q E h⟩) (fun _ _ _ _ _ _ us hl => match us, hl with | [_], _ => rfl)
end
end TK
end
section
set_option Elab.async false
set_option linter.all false
set_option maxRecDepth 100000
set_option maxHeartbeats 4000000
/-! Matching.__init__. -/
namespace TK
open PySem PySem.Spec PyProof.Rows L2
abbrev strsD (l : List Str) : List D := l.map PyData.str
abbrev pairD (p : Str × Str) : D := .tuple [.str p.1, .str p.2]
def waysFor (one : Str) (cs : List (Str × Str)) : List Str := (cs.filter fun p => decide (p.1 = one)).map (·.2)
def waysOf (L : List Str) (cs : List (Str × Str)) : Wy := L.map fun one => (one, waysFor one cs)
theorem dv_strs {F : Hp} : ∀ {vs : List V} {l : List Str}, DvAll F vs (strsD l) → vs = l.map .str
  | [], [], _ => rfl
  | [], _ :: _, h => by cases h
  | _ :: _, [], h => by cases h
  | v :: vs, n :: ns, h => by
    cases h with
    | cons h1 h2 =>
      cases h1
      rw [dv_strs h2] <;> rfl
theorem strs_dv {F : Hp} : ∀ {l : List Str}, DvAll F (l.map .str) (strsD l)
  | [] => .nil
  | x :: l => .cons (.str x) (strs_dv (l := l))
theorem eqD_str (x y : Str) : eqD (.str x) (.str y) = some (.bool (decide (x = y))) := by
  have h : ∀ z : Str, okD (.str z) = true := fun z => by unfold okD; simp [PyData.plain, PyData.depth]
  unfold eqD
  rw [h x, h y]
  simp [PyData.eqv, Bool.beq_eq_decide_eq]
def gWays : GA := compN (seqI (varE 3)) (tgT [5, 6]) (valT (binE eqD (varE 5) (varE 4))) (varE 6) [5, 6]
abbrev rho (cs : List (Str × Str)) (one : Str) : Env := [none, none, none, some (.tuple (cs.map pairD)), some (.str one), none, none]
theorem gWays_compL (cs0 : List (Str × Str)) (one : Str) (γ : G) : ∀ cs : List (Str × Str), compL (tgT [5, 6]) (valT (binE eqD (varE 5) (varE 4))) (varE 6) (cs.map pairD) (rho cs0 one) γ = some (strsD (waysFor one cs), γ)
  | [] => rfl
  | p :: cs => by
    have ih := gWays_compL cs0 one γ cs
    rw [List.map_cons]
    unfold compL
    have e0 : tgT [5, 6] (pairD p) (rho cs0 one) = some [none, none, none, some (.tuple (cs0.map pairD)), some (.str one), some (.str p.1), some (.str p.2)] := rfl
    rw [e0]
    have e : (valT (binE eqD (varE 5) (varE 4))) [none, none, none, some (.tuple (cs0.map pairD)), some (.str one), some (.str p.1), some (.str p.2)] γ = some (decide (p.1 = one), γ) := by
      show (((eqD (.str p.1) (.str one)).bind fun z => some (z, γ)).bind _) = _
      rw [eqD_str] <;> rfl
    rw [Option.bind_some, e, Option.bind_some]
    unfold waysFor
    by_cases h : p.1 = one
    · rw [List.filter_cons_of_pos (by simpa using h), decide_eq_true h]
      show ((compL (tgT [5, 6]) (valT (binE eqD (varE 5) (varE 4))) (varE 6) (cs.map pairD) (rho cs0 one) γ).bind _) = _
      rw [ih] <;> rfl
    · rw [List.filter_cons_of_neg (by simpa using h), decide_eq_false h]
      exact ih
theorem gWays_eq (cs : List (Str × Str)) (one : Str) (γ : G) (h : cs.length ≤ LINE) : gWays (rho cs one) γ = some (strsD (waysFor one cs), γ) := by
  show (if (cs.map pairD).length ≤ LINE then _ else _) = _
  rw [if_pos (by rw [List.length_map]; exact h)]
  exact gWays_compL cs one γ cs
def spInit (C : Addr) : Sp := fun vs H Q _ => ∃ x dx vl vr vc F L Rr cs, vs = [.ref x, vl, vr, vc] ∧ Same F H ∧ F x = none ∧ H x = some (.ins C dx []) ∧ Dv F vl (.tuple (strsD L)) ∧ Dv F vr (.tuple (strsD Rr)) ∧ Dv F vc (.tuple (cs.map pairD)) ∧ L.length < LINE ∧ cs.length ≤ LINE ∧
  ∀ H' F' Wa m wk dx', Same F F' → Same F' H' → H' x = some (.ins C dx' [("lefts", vl), ("rights", vr), ("ways", .ref Wa), ("mates", .ref m)]) → H' Wa = some (.dK wk) → H' m = some (.dK []) → Wa ≠ m → F' x = none → F' Wa = none → F' m = none → H Wa = none → H m = none →
    (∀ k ∈ L, ∃ a, valV wk (Sum.inr k : Key) = some (.ref a) ∧ H' a = some (.lst ((waysFor k cs).map .str)) ∧ F' a = none ∧ H a = none) → (∀ a o, H a = some o → a ≠ x → H' a = some o) → Q .non H'
theorem sc_init : FnScope ["self", "lefts", "rights", "couples", "one", "first", "other"] ["self", "lefts", "rights", "couples"] d_Matching_init.scope := ⟨rfl, rfl, rfl, by decide +kernel, rfl, by decide +kernel, by decide +kernel⟩
def t_init (K : PySem.W.Frag) (C : Cfg) : TS :=
  tSeq (sFld K (tVar 0) (tVar 1) "lefts") (tSeq (sFld K (tVar 0) (tVar 2) "rights") (tSeq (sFld K (tVar 0) tDNewK "ways")
    (tSeq (tFor (iTup K (tVar 1)) (gName 4) (sDPut (tFld K (tVar 0) "ways") (tVar 4) (tN C gWays))) (sFld K (tVar 0) tDNewK "mates"))))
section
variable {P : Program} {w : World} {K : PySem.W.Frag} {mg : Str → Option Value} {base : Heap}
theorem walk_init (W : Wd K mg) (k : Nat) (F0 : Hp) (f : Addr) (cdv : Value) (A : Around) (outer : List PySem.Env) (s : Shared) (H : Hp) (E : XK) (hr : Room k (A.deeper (envOfC d_Matching_init.qual d_Matching_init.scope s.heap.objs.size f cdv))) :
    PSs (cxOf CX0 P w K mg base ["self", "lefts", "rights", "couples", "one", "first", "other"] d_Matching_init.qual d_Matching_init.scope f cdv A outer s H E).nox d_Matching_init.body (t_init K (cfgP (fun _ => .pure) F0 F0)) := by
  have S := sc_init
  exact pss_cons (ps_fld (pv 0) (pv 1) rfl) (pss_cons (ps_fld (pv 0) (pv 2) rfl) (pss_cons (ps_fld (pv 0) pe_dnewK rfl)
    (pss_cons (ps_for PassesOwn.never rfl (pi_tup (pv 1)) (pg_name (i := 4) S.nd rfl (by first | exact .inl rfl | exact .inr rfl))
      (pss_one (ps_dput hr.u1 (pe_fld (pv 0) rfl) (pv 4)
        (ne_comp (own := [("first", 5), ("other", 6)]) (is := [5, 6]) rfl S.nd rfl rfl rfl (PI.rd (pi_seq (de_var (pv 3) rfl)))
          (fun _ _ _ _ _ _ => dg_tup rfl (dgs_cons (pg_name (i := 5) S.nd rfl (by first | exact .inl rfl | exact .inr rfl)) rfl rfl (dgs_cons (pg_name (i := 6) S.nd rfl (by first | exact .inl rfl | exact .inr rfl)) rfl rfl dgs_nil)))
          (fun _ _ _ _ _ _ => dts_one (dt_cmp (op_eqDD hr.units) (de_var (pv 5) rfl) (de_var (pv 4) rfl) rfl)) (fun _ _ _ _ _ _ => de_var (pv 6) rfl)) rfl)))
      (pss_one (ps_fld (pv 0) pe_dnewK rfl)))))
theorem se_pure {F0 F H : Hp} {ρ : Env} {σ : L2.St} (k1 : Same F0 F) (k2 : Same F H) (hl : ρ.length = σ.length) (h : ∀ (i : Nat) (d : D), ρ[i]? = some (some d) → ∃ v, σ[i]? = some (some v) ∧ Dv F v d) : SE (cfgP (fun _ => .pure) F0 F0) ρ (0, []) σ F H :=
  ⟨⟨k1, k2, fun a o e _ => k2 a o (k1 a o e), fun a e z => (by
    cases q : F0 a with
    | none => exact e q
    | some o =>
      rw [k2 a o (k1 a o q)] at z
      cases z), fun a e n => absurd e n⟩, trivial, fun a z => z.elim, fun p q e => (by cases e), hl, fun _ => [], fun i d e => (by
      obtain ⟨v, hv, dv⟩ := h i d e
      exact ⟨v, hv, dv, rfl⟩), fun i a m => (by cases m), fun i j _ a m => (by cases m)⟩
theorem put_len (kvs : List (Key × V)) (k : Key) (v : V) : (putK kvs k v).length ≤ kvs.length + 1 := by
  unfold putK
  split
  · rw [List.length_map]
    omega
  · rw [List.length_append, List.length_singleton]
    exact Nat.le_refl _
theorem putF1 (a : V) : putF "lefts" a [] = ([("lefts", a)] : List (Str × V)) := by rfl
theorem putF2 (a b : V) : putF "rights" b [("lefts", a)] = ([("lefts", a), ("rights", b)] : List (Str × V)) := by rfl
theorem putF3 (a b c : V) : putF "ways" c [("lefts", a), ("rights", b)] = ([("lefts", a), ("rights", b), ("ways", c)] : List (Str × V)) := by rfl
theorem putF4 (a b c d : V) : putF "mates" d [("lefts", a), ("rights", b), ("ways", c)] = ([("lefts", a), ("rights", b), ("ways", c), ("mates", d)] : List (Str × V)) := by rfl
theorem read_init (C : Addr) (cls : Cls K C) (nl : NoAttr K C "lefts") (nr : NoAttr K C "rights") (nw : NoAttr K C "ways") (nm : NoAttr K C "mates") (vs : List V) (H : Hp) (Q : VK) (E : XK) (h : spInit C vs H Q E) :
    ∃ F0, t_init K (cfgP (fun _ => .pure) F0 F0) { nx := fun _ H' => Q .non H', rt := Q } (L2.start ["self", "lefts", "rights", "couples", "one", "first", "other"] vs) H := by
  obtain ⟨x, dx, vl, vr, vc, F, L, Rr, cs, rfl, kF, fx, hx, dl, dr, dc, hL, hcs, q⟩ := h
  refine ⟨F, ?_⟩
  have ups : ∀ {G : Hp} {o : HO}, Same F G → Same F (upd G x o) := fun {G o} k a u e => by rw [upd_ne (ne_of_none e fx)]; exact k a u e
  -- self.lefts, self.rights
  refine ⟨vl, rfl, .ref x, rfl, x, C, dx, [], rfl, hx, cls, nl, by show (0 : Nat) < 1000; decide, ?_⟩
  rw [putF1]
  refine ⟨vr, rfl, .ref x, rfl, x, C, dx, _, rfl, upd_same, cls, nr, by show (1 : Nat) < 1000; decide, ?_⟩
  rw [putF2]
  generalize hG : upd (upd H x (.ins C dx [("lefts", vl)])) x (.ins C dx [("lefts", vl), ("rights", vr)]) = G
  have gx : G x = some (.ins C dx [("lefts", vl), ("rights", vr)]) := by rw [← hG]; exact upd_same
  have go : ∀ a, a ≠ x → G a = H a := fun a n => by rw [← hG, upd_ne n, upd_ne n]
  have kG : Same F G := by rw [← hG]; exact ups (ups kF)
  -- self.ways = {}
  refine fun Wa hWa => ⟨.ref x, rfl, x, C, dx, _, rfl, by rw [upd_ne (ne_of_none gx hWa)]; exact gx, cls, nw, by show (2 : Nat) < 1000; decide, ?_⟩
  rw [putF3]
  have hxW : x ≠ Wa := ne_of_none gx hWa
  have hWa0 : H Wa = none := by
    rw [go Wa hxW.symm] at hWa
    exact hWa
  have fWa : F Wa = none := kF.free hWa0
  generalize hG2 : upd (upd G Wa (.dK [])) x (.ins C dx [("lefts", vl), ("rights", vr), ("ways", .ref Wa)]) = G2
  have g2x : G2 x = some (.ins C dx [("lefts", vl), ("rights", vr), ("ways", .ref Wa)]) := by rw [← hG2]; exact upd_same
  have g2w : G2 Wa = some (.dK []) := by rw [← hG2, upd_ne hxW.symm]; exact upd_same
  have g2o : ∀ a, a ≠ x → a ≠ Wa → G2 a = H a := fun a n n2 => by rw [← hG2, upd_ne n, upd_ne n2, go a n]
  have kG2 : Same F G2 := fun a o e => by rw [g2o a (ne_of_none e fx) (ne_of_none e fWa)]; exact kF a o e
  -- the loop
  obtain ⟨al, xl, rfl, hal, dal⟩ : ∃ al xl, vl = .ref al ∧ F al = some (.tup xl) ∧ DvAll F xl (strsD L) := by
    cases dl with
    | tup e a => exact ⟨_, _, rfl, e, a⟩
  have exl := dv_strs dal
  subst exl
  refine ⟨.ref al, rfl, al, rfl, ⟨_, SqT.of (kG2 _ _ hal)⟩, ?_⟩
  refine for_tup (xs := L.map .str) (fun i σ Hc => ∃ o4 o5 o6 Fc wk, σ = [some (.ref x), some (.ref al), some vr, some vc, o4, o5, o6] ∧ Same F Fc ∧ Same Fc Hc ∧ Fc x = none ∧ Fc Wa = none ∧ Hc x = some (.ins C dx [("lefts", .ref al), ("rights", vr), ("ways", .ref Wa)]) ∧ Hc Wa = some (.dK wk) ∧ wk.length ≤ i ∧
      (∀ k ∈ L.take i, ∃ a, valV wk (Sum.inr k : Key) = some (.ref a) ∧ Hc a = some (.lst ((waysFor k cs).map .str)) ∧ Fc a = none ∧ H a = none) ∧ (∀ a o, H a = some o → a ≠ x → Hc a = some o))
    ⟨none, none, none, F, [], rfl, Same.refl F, kG2, fx, fWa, g2x, g2w, Nat.zero_le _, fun k m => (by simp at m), fun a o e n => by rw [g2o a n (ne_of_none e hWa0)]; exact e⟩
    (fun i σ Hc _ p => ?_) (fun i y σ Hc hi p => ?_) (fun σ Hc p => ?_)
  · obtain ⟨o4, o5, o6, Fc, wk, rfl, k1, k2, _⟩ := p
    exact SqT.of (k2 _ _ (k1 _ _ hal))
  · obtain ⟨o4, o5, o6, Fc, wk, rfl, k1, k2, n1, n2, hxc, hwc, hle, hk, fr⟩ := p
    rw [List.getElem?_map] at hi
    obtain ⟨o, ho, e⟩ := Option.map_eq_some_iff.mp hi
    subst e
    obtain ⟨hlt, hoe⟩ := List.getElem?_eq_some_iff.mp ho
    have dvc := dc.up k1
    refine ⟨rho cs o, (0, []), Fc, strsD (waysFor o cs), (0, []), se_pure k1 k2 rfl fun j d e => ?_, gWays_eq cs o (0, []) hcs, fun a xs F' H' st _ ha hf hl al' => ?_⟩
    · match j, e with
      | 0, e => cases e
      | 1, e => cases e
      | 2, e => cases e
      | 3, e =>
        cases e
        exact ⟨vc, rfl, dvc⟩
      | 4, e =>
        cases e
        exact ⟨.str o, rfl, .str o⟩
      | 5, e => cases e
      | 6, e => cases e
      | j + 7, e => cases e
    · have exs := dv_strs al'
      subst exs
      have hx' : H' x = _ := st.keep x _ hxc (fun z => z)
      have hw' : H' Wa = _ := st.keep Wa _ hwc (fun z => z)
      have ne_a : ∀ {b o}, Hc b = some o → b ≠ a := fun e => ne_of_none e ha
      refine ⟨.ref x, rfl, x, C, dx, _, .ref Wa, rfl, hx', cls, nw, rfl, .str o, rfl, Wa, upd H' Wa (.dK (putK wk (Sum.inr o : Key) (.ref a))), rfl, DPut.k (k := Sum.inr o) hw' ?_, ?_⟩
      · have hh : i < LINE := by omega
        exact Nat.lt_of_le_of_lt hle (line_lt hh)
      · have fx' : F' x = none := st.old x n1 (by rw [hxc]; simp)
        have fw' : F' Wa = none := st.old Wa n2 (by rw [hwc]; simp)
        refine ⟨_, o5, o6, F', putK wk (Sum.inr o : Key) (.ref a), rfl, k1.trans st.ff, fun b u e => by rw [upd_ne (ne_of_none e fw')]; exact st.fh b u e, fx', fw', by rw [upd_ne hxW]; exact hx', upd_same, ?_, fun k m => ?_, fun b u e n => ?_⟩
        · have := put_len wk (Sum.inr o : Key) (V.ref a)
          omega
        · rw [valV_put]
          rw [List.take_succ, ho] at m
          have hm : k ∈ L.take i ∨ k = o := by simpa using m
          have hnew : H' a = some (.lst ((waysFor o cs).map .str)) := hl
          by_cases e : k = o
          · subst e
            refine ⟨a, by rw [if_pos rfl], ?_, hf, ?_⟩
            · rw [upd_ne (ne_a hwc).symm]
              exact hnew
            · cases z : H a with
              | none => rfl
              | some u =>
                have hax : a ≠ x := (ne_a hxc).symm
                have := fr a u z hax
                rw [ha] at this
                cases this
          · obtain ⟨b, h1, h2, h3, h4⟩ := hk k (hm.resolve_right e)
            refine ⟨b, by rw [if_neg fun z => e (Sum.inr.inj z)]; exact h1, ?_, st.old b h3 (by rw [h2]; simp), h4⟩
            rw [upd_ne fun z => by rw [z, hwc] at h2; cases h2]
            exact st.keep b _ h2 fun z => z
        · have h1 := fr b u e n
          rw [upd_ne fun z => by rw [z] at e; rw [hWa0] at e; cases e]
          exact st.keep b _ h1 fun z => z
  · obtain ⟨o4, o5, o6, Fc, wk, rfl, k1, k2, n1, n2, hxc, hwc, hle, hk, fr⟩ := p
    rw [List.length_map, List.take_length] at hk
    -- self.mates = {}
    refine fun m hm => ⟨.ref x, rfl, x, C, dx, _, rfl, by rw [upd_ne (ne_of_none hxc hm)]; exact hxc, cls, nm, by show (3 : Nat) < 1000; decide, ?_⟩
    rw [putF4]
    have nxm : x ≠ m := ne_of_none hxc hm
    have nwm : Wa ≠ m := ne_of_none hwc hm
    have hm0 : H m = none := by
      cases z : H m with
      | none => rfl
      | some u => rw [fr m u z nxm.symm] at hm; cases hm
    refine q _ Fc Wa m wk dx k1 (fun b u e => ?_) upd_same ?_ ?_ nwm n1 n2 (k2.free hm) hWa0 hm0 (fun k mk => ?_) fun b u e n => ?_
    · rw [upd_ne (ne_of_none e n1), upd_ne (ne_of_none (k2 b u e) hm)]
      exact k2 b u e
    · rw [upd_ne hxW.symm, upd_ne nwm]
      exact hwc
    · rw [upd_ne nxm.symm]
      exact upd_same
    · obtain ⟨a, h1, h2, h3, h4⟩ := hk k mk
      refine ⟨a, h1, ?_, h3, h4⟩
      rw [upd_ne (fun z => by rw [z, hxc] at h2; cases h2), upd_ne (ne_of_none h2 hm)]
      exact h2
    · have h1 := fr b u e n
      rw [upd_ne n, upd_ne (ne_of_none h1 hm)]
      exact h1
theorem ok_init (W : Wd K mg) : Fm P w K mg base 1 "__init__" ["self", "lefts", "rights", "couples"] (spInit (He.ga K "Matching")) :=
  fm_of (d := d_Matching_init) W 9 rfl rfl rfl rfl (fun f fd F => F.ok sc_init (fun vs H Q E h => by
      obtain ⟨x, dx, vl, vr, vc, F, L, Rr, cs, rfl, _⟩ := h
      rfl) fun cdv A outer s H vs Q E hr h => by
      obtain ⟨F0, h2⟩ := read_init _ W.cls (W.noat 76) (W.noat 77) (W.noat 78) (W.noat 79) vs H Q E h
      exact ⟨_, PSs.nox (walk_init W 0 F0 f cdv A outer s H E hr), h2⟩) (fun _ _ _ _ _ _ us hl => match us, hl with | [_, _, _, _], _ => rfl)
end
end TK
end
section
set_option Elab.async false
set_option linter.all false
set_option maxRecDepth 100000
set_option maxHeartbeats 4000000
/-! Matching once it stands: what reads it. -/
namespace TK
open PySem PySem.Spec PyProof.Rows L2
structure MS where
  L : List Str
  R : List Str
  ways : Wy
  mates : Mt
def objD (x : Addr) : D := .dict [(.int (x : Nat), .none)]
def isObj (x : Addr) : D → Bool
  | .dict [(.int n, .none)] => decide (n = (x : Nat))
  | _ => false
def isObjAt (ρ : Env) (i : Nat) (x : Addr) : Bool := match ρ[i]? with
  | some (some d) => isObj x d
  | _ => false
theorem isObj_un {x : Addr} {d : D} (h : isObj x d = true) : d = objD x := by
  unfold isObj at h
  split at h
  · rw [of_decide_eq_true h] <;> rfl
  · cases h
theorem isObjAt_un {ρ : Env} {i : Nat} {x : Addr} (h : isObjAt ρ i x = true) : ρ[i]? = some (some (objD x)) := by
  unfold isObjAt at h
  split at h
  · rename_i d e
    rw [e, isObj_un h]
  · cases h
theorem isObj_self (x : Addr) : isObj x (objD x) = true := decide_eq_true rfl
theorem dv_obj {F : Hp} {v : V} {x : Addr} (h : Dv F v (objD x)) : v = .ref x := by
  unfold objD at h
  generalize hd : PyData.dict [(.int (x : Nat), .none)] = d at h
  cases h with
  | dic e a =>
    rename_i ks
    cases ks with
    | nil => cases hd
    | cons k ks =>
      simp at hd
  | obj =>
    simp at hd
    exact congrArg V.ref (Int.ofNat.inj hd).symm
  | _ => cases hd
structure MatF (Cc : Addr) (M : MS) (x : Addr) (F : Hp) : Prop where
  ex : ∃ dx vl vr W wk m, F x = some (.ins Cc dx [("lefts", vl), ("rights", vr), ("ways", .ref W), ("mates", .ref m)]) ∧ Dv F vl (.tuple (strsD M.L)) ∧ Dv F vr (.tuple (strsD M.R)) ∧ F W = some (.dK wk) ∧ F m = some (.dK (mkM M.mates)) ∧
    ∀ k l, lkW M.ways k = some l → ∃ a, valV wk (Sum.inr k : Key) = some (.ref a) ∧ F a = some (.lst (l.map .str))
def objE (i : Nat) (x : Addr) (v : D) : GE := fun ρ γ => if isObjAt ρ i x then some (v, γ) else none
def keysD (mates : Mt) : D := .dict ((mates.map (·.1)).map fun k => (.str k, .none))
section
variable {X : Cx} {C : Cfg} {pos py ap : Pos} {y : Str} {i : Nat} {x Cc : Addr} {M : MS}
theorem obj_at {ρ : Env} {γ : G} {σ : L2.St} {F H : Hp} (se : SE C ρ γ σ F H) (hk : C.kd i = .pure) (h : isObjAt ρ i x = true) : σ[i]? = some (some (.ref x)) := by
  obtain ⟨v, hv, dv⟩ := se.slot (isObjAt_un h) hk
  rw [dv_obj dv] at hv
  exact hv
theorem objE_un {v d : D} {ρ : Env} {γ γ' : G} (h : objE i x v ρ γ = some (d, γ')) : isObjAt ρ i x = true ∧ d = v ∧ γ' = γ := by
  unfold objE at h
  split at h
  · rename_i e
    cases h
    exact ⟨e, rfl, rfl⟩
  · cases h
theorem de_lefts (hM : MatF Cc M x C.F0) (hy : PE X (.Name y py) (tVar i)) (hk : C.kd i = .pure) (cls : Cls X.K Cc) (na : NoAttr X.K Cc "lefts") (hb : attributeBase (.Name y py) "lefts" X.env (eval (.Name y py) X.env) = eval (.Name y py) X.env := by rfl) : DE X C (.Attribute (.Name y py) "lefts" pos) (objE i x (.tuple (strsD M.L))) := PE.imp (pe_fld hy hb) fun σ H Q q => by
  obtain ⟨ρ, γ, F, d, γ', se, hg, q⟩ := q
  obtain ⟨h1, rfl, rfl⟩ := objE_un hg
  obtain ⟨dx, vl, vr, W, wk, m, f1, f2, f3, f4, f5, f6⟩ := hM.ex
  exact ⟨_, obj_at se hk h1, x, Cc, dx, _, vl, rfl, se.fh _ _ (se.ent.ff _ _ f1), cls, na, rfl, q vl F H (Stp.refl se.fh) se.dr (f2.up se.ent.ff)⟩
theorem de_rights (hM : MatF Cc M x C.F0) (hy : PE X (.Name y py) (tVar i)) (hk : C.kd i = .pure) (cls : Cls X.K Cc) (na : NoAttr X.K Cc "rights") (hb : attributeBase (.Name y py) "rights" X.env (eval (.Name y py) X.env) = eval (.Name y py) X.env := by rfl) : DE X C (.Attribute (.Name y py) "rights" pos) (objE i x (.tuple (strsD M.R))) := PE.imp (pe_fld hy hb) fun σ H Q q => by
  obtain ⟨ρ, γ, F, d, γ', se, hg, q⟩ := q
  obtain ⟨h1, rfl, rfl⟩ := objE_un hg
  obtain ⟨dx, vl, vr, W, wk, m, f1, f2, f3, f4, f5, f6⟩ := hM.ex
  exact ⟨_, obj_at se hk h1, x, Cc, dx, _, vr, rfl, se.fh _ _ (se.ent.ff _ _ f1), cls, na, rfl, q vr F H (Stp.refl se.fh) se.dr (f3.up se.ent.ff)⟩
theorem mkM_keys (mates : Mt) : (mkM mates).map (·.1) = (mates.map (·.1)).map Sum.inr := by
  unfold mkM
  rw [List.map_map, List.map_map] <;> rfl
theorem de_mates (hM : MatF Cc M x C.F0) (hy : PE X (.Name y py) (tVar i)) (hk : C.kd i = .pure) (cls : Cls X.K Cc) (na : NoAttr X.K Cc "mates") (hb : attributeBase (.Name y py) "mates" X.env (eval (.Name y py) X.env) = eval (.Name y py) X.env := by rfl) : DE X C (.Attribute (.Name y py) "mates" pos) (objE i x (keysD M.mates)) := PE.imp (pe_fld hy hb) fun σ H Q q => by
  obtain ⟨ρ, γ, F, d, γ', se, hg, q⟩ := q
  obtain ⟨h1, rfl, rfl⟩ := objE_un hg
  obtain ⟨dx, vl, vr, W, wk, m, f1, f2, f3, f4, f5, f6⟩ := hM.ex
  exact ⟨_, obj_at se hk h1, x, Cc, dx, _, .ref m, rfl, se.fh _ _ (se.ent.ff _ _ f1), cls, na, rfl, q (.ref m) F H (Stp.refl se.fh) se.dr (.dic (se.ent.ff _ _ f5) (mkM_keys _))⟩
/-- self.mates.get(e) -/
def getE (i : Nat) (x : Addr) (mates : Mt) (a : GE) : GE := fun ρ γ => if isObjAt ρ i x then (a ρ γ).bind fun y => match y.1 with
  | .str k => some ((match lkM mates k with
    | some v => .str v
    | none => .none), y.2)
  | _ => none
  else none
theorem de_getm {e : Expr} {ge : GE} {p2 apos cpos : Pos} (hu : X.A.units + 1 < cLine) (hM : MatF Cc M x C.F0) (hy : PE X (.Name y py) (tVar i)) (hk : C.kd i = .pure) (cls : Cls X.K Cc) (na : NoAttr X.K Cc "mates") (he : DE X C e ge)
    (m1 : M1 X (.Attribute (.Name y py) "mates" p2) "get" apos e cpos) (hb : attributeBase (.Name y py) "mates" X.env (eval (.Name y py) X.env) = eval (.Name y py) X.env := by rfl) :
    DE X C (.Call (.Attribute (.Attribute (.Name y py) "mates" p2) "get" apos) [e] [] cpos) (getE i x M.mates ge) := PE.imp (pe_dget1 hu (pe_fld hy hb) he m1) fun σ H Q q => by
  obtain ⟨ρ, γ, F, d, γ', se, hg, q⟩ := q
  unfold getE at hg
  split at hg
  · rename_i h1
    obtain ⟨⟨k, γ1⟩, e1, hg⟩ := bnd hg
    obtain ⟨dx, vl, vr, W, wk, m, f1, f2, f3, f4, f5, f6⟩ := hM.ex
    have hm : H m = some (.dK (mkM M.mates)) := se.fh _ _ (se.ent.ff _ _ f5)
    refine ⟨_, obj_at se hk h1, x, Cc, dx, _, .ref m, rfl, se.fh _ _ (se.ent.ff _ _ f1), cls, na, rfl, m, rfl, .inl ⟨_, .inl hm⟩, ρ, γ, F, k, γ1, se, e1, fun v F' H' st dr dv => ?_⟩
    cases k with
    | str k =>
      cases dv
      simp only at hg
      have hm' : H' m = some (.dK (mkM M.mates)) := st.fh _ _ (st.ff _ _ (se.ent.ff _ _ f5))
      refine ⟨(lkM M.mates k).map .str, by rw [← valM]; exact DGet.k (k := Sum.inr k) hm', ?_⟩
      cases h : lkM M.mates k with
      | none =>
        rw [h] at hg
        cases hg
        exact q .non F' H' st dr .non
      | some v =>
        rw [h] at hg
        cases hg
        exact q (.str v) F' H' st dr (.str v)
    | _ => cases hg
  · cases hg
/-! ### list(d.values()), list(d) -/
def tListVals (td : TE) : TE := fun σ H Q => td σ H fun x H1 => ∃ a kvs, x = V.ref a ∧ H1 a = some (.dK kvs) ∧ ∀ p, H1 p = none → Q (.ref p) (upd H1 p (.lst (kvs.map (·.2))))
theorem kv_vals {kvs : List (Key × V)} {vs : List (Key × Value)} (h : KV kvs vs) : Vals (kvs.map (·.2)) (vs.map (·.2)) := by
  induction h with
  | nil => exact .nil
  | cons r _ ih => exact .cons r.2 ih
theorem pe_listVals {o : Expr} {p pos apos mpos : Pos} {td : TE} (hc : X.calm = true) (hg : Gl X "list") (hm : X.mg "list" = none) (hd : PE X o td) (hbase : attributeBase o "values" X.env (eval o X.env) = eval o X.env := by rfl) (hline : (apos.endLine == mpos.line) = true := by rfl)
    (hse : starEach [Expr.Call (.Attribute o "values" apos) [] [] mpos] X.env = [(false, eval (Expr.Call (.Attribute o "values" apos) [] [] mpos) X.env)] := by rfl) :
    PE X (.Call (.Name "list" p) [.Call (.Attribute o "values" apos) [] [] mpos] [] pos) (tListVals td) := by
  refine ⟨fun pins s σ H Q I h => ?_⟩
  refine wpAny_Call_Name_kw (ld_blt I hg hm (u := .type "list") (by first | rfl | decide +kernel) ?_ (by first | decide +kernel | decide) (by first | decide +kernel | decide))
  rw [hse]
  refine PySem.callWith_type1 (wpAny_Call_method0_late hbase hline (thn (hd.run pins s σ H _ I h) fun v s1 ⟨x, H1, I1, r1, a, kvs, ex, ha, q⟩ => ?_))
  subst ex
  obtain rfl : v = Value.ref a := r1
  obtain ⟨z, hsys, vs, rel, dof⟩ := dk_of I1.hok ha
  obtain ⟨ep, dat⟩ := dof.dictAt
  have dat' := dat
  obtain ⟨ob, es, ho, ex, hdat, hko, hpr, hnd⟩ := dat'
  refine ⟨"dict", "dict.values", PySem.F.plainAttrs_dict, PySem.F.slot_dict_values, PySem.F.type_dict_values, ⟨ob, ho, ex.1⟩, fun b e => ?_, Calls.callWith_builtin rfl (PySem.evalArgs_none ?_)⟩
  · cases e
    exact ⟨ob, ho, ex.2.1⟩
  refine call_meetsIn PySem.F.slot_dict_values ⟨ob, ho, ex.1⟩ PySem.F.entry_dict_values (PySem.F.args_dict_values_1 _) (meets_dict_values (mixKind X.prog X.w) a hsys) ⟨⟨vs, dof⟩, ?_⟩
  have k1 : ∀ b u, s1.heap.get? b = some u → (s1.heap.push { cls := .type "dict_values", data := .fields #[.ref a] }).get? b = some u := fun b u e => Heap.get?_push_of_some _ e
  have dat1 : (s1.heap.push { cls := .type "dict_values", data := .fields #[.ref a] }).DictAt (mixKind X.prog X.w) a vs ep := dat.keep k1
  have hlen : kvs.length = vs.length := Paired.length rel
  refine PySem.W.kdl_call (PySem.W.kdl_values (knd := mixKind X.prog X.w) (r := s1.heap.objs.size) (d := a) (kvs := vs) (ep := ep)) (I1.ok.hd hc) ⟨⟨_, Heap.get?_push_size _ rfl, rfl, rfl⟩, dat1⟩ (by rw [← hlen]; exact z) fun h' tk acc c' hk hD hacc => ?_
  have hsz : (s1.heap.push { cls := .type "dict_values", data := .fields #[.ref a] }).objs.size = s1.heap.objs.size + 1 := Heap.size_push _ _
  rw [hsz] at hD ⊢
  have hv : Vals (kvs.map (·.2)) acc.toList := by
    have e : acc.toList = vs.map (·.2) := by
      refine List.ext_getElem? fun j => ?_
      rw [List.getElem?_map]
      by_cases hj : j < vs.length
      · have hj2 : j < acc.size := by rw [hacc.1]; exact hj
        have h1 : acc[j]? = some acc[j] := Array.getElem?_eq_getElem hj2
        obtain ⟨k, hk2⟩ := hacc.2 j _ h1
        rw [hk2, Array.getElem?_toList, h1] <;> rfl
      · rw [List.getElem?_eq_none (by rw [Array.length_toList, hacc.1]; omega), List.getElem?_eq_none (by omega)] <;> rfl
    rw [e]
    exact kv_vals rel
  refine ⟨.ref (s1.heap.objs.size + 1), upd H1 (s1.heap.objs.size + 1) (.lst (kvs.map (·.2))), I1.laid (t' := tk) (fun b u e => hk b u (k1 b u e)) (Nat.le_succ _)
    (show ObjOk X.prog X.w _ _ _ (.lst (kvs.map (·.2))) from ⟨by rw [List.length_map]; exact z, acc.toList, c', hv, by rw [Array.toArray_toList]; exact hD⟩), rfl, q _ (I1.hok.fresh (Nat.le_succ _))⟩
end
end TK
end
section
set_option Elab.async false
set_option linter.all false
set_option maxRecDepth 100000
set_option maxHeartbeats 4000000
namespace TK
open PySem PySem.Spec PyProof.Rows L2
section
variable {X : Cx} {C : Cfg} {pos py ap : Pos} {y : Str} {i : Nat} {x Cc : Addr} {M : MS}
/-- list(self.mates.values()) -/
def valsN (i : Nat) (x : Addr) (l : List D) : GA := fun ρ γ => if isObjAt ρ i x then some (l, γ) else none
theorem lay_dr {γ : G} {F H : Hp} {p : Addr} {o : HO} (d : DRo C.dr γ F H) (hp : H p = none) : DRo C.dr γ F (upd H p o) := by
  cases hC : C.dr with
  | none => trivial
  | some pq =>
    obtain ⟨p', q'⟩ := pq
    rw [hC] at d
    obtain ⟨n, d1, d2, d3, d4⟩ := d
    exact ⟨n, d1, d2, by rw [upd_ne (ne_of_none d3 hp)]; exact d3, by rw [upd_ne (ne_of_none d4 hp)]; exact d4⟩
theorem vals_map (ms : Mt) : (mkM ms).map (·.2) = (ms.map (·.2)).map V.str := by
  unfold mkM
  rw [List.map_map, List.map_map] <;> rfl
theorem ne_vals {p p2 apos mpos : Pos} (hc : X.calm = true) (hg : Gl X "list") (hm : X.mg "list" = none) (hM : MatF Cc M x C.F0) (hy : PE X (.Name y py) (tVar i)) (hk : C.kd i = .pure) (cls : Cls X.K Cc) (na : NoAttr X.K Cc "mates")
    (hb : attributeBase (.Name y py) "mates" X.env (eval (.Name y py) X.env) = eval (.Name y py) X.env := by rfl)
    (hbase : attributeBase (.Attribute (.Name y py) "mates" p2) "values" X.env (eval (.Attribute (.Name y py) "mates" p2) X.env) = eval (.Attribute (.Name y py) "mates" p2) X.env := by rfl) (hline : (apos.endLine == mpos.line) = true := by rfl)
    (hse : starEach [Expr.Call (.Attribute (.Attribute (.Name y py) "mates" p2) "values" apos) [] [] mpos] X.env = [(false, eval (Expr.Call (.Attribute (.Attribute (.Name y py) "mates" p2) "values" apos) [] [] mpos) X.env)] := by rfl) :
    NE X C (.Call (.Name "list" p) [.Call (.Attribute (.Attribute (.Name y py) "mates" p2) "values" apos) [] [] mpos] [] pos) (valsN i x (strsD (M.mates.map (·.2)))) := PE.imp (pe_listVals hc hg hm (pe_fld hy hb) hbase hline hse) fun σ H Q q => by
  obtain ⟨ρ, γ, F, ds, γ', se, hg, q⟩ := q
  unfold valsN at hg
  split at hg
  · rename_i h1
    cases hg
    obtain ⟨dx, vl, vr, W, wk, m, f1, f2, f3, f4, f5, f6⟩ := hM.ex
    have hm : H m = some (.dK (mkM M.mates)) := se.fh _ _ (se.ent.ff _ _ f5)
    refine ⟨_, obj_at se hk h1, x, Cc, dx, _, .ref m, rfl, se.fh _ _ (se.ent.ff _ _ f1), cls, na, rfl, m, _, rfl, hm, fun p hp => ?_⟩
    rw [vals_map]
    exact q p _ F _ (Stp.lay se.fh hp) (lay_dr se.dr hp) hp (se.fh.free hp) upd_same strs_dv
  · cases hg
/-- list(d), the slot's own dict -/
def keysL (ρ : Env) (i : Nat) : Option (List D) := match ρ[i]? with
  | some (some (.dict kv)) => some (kv.map (·.1))
  | _ => none
theorem keysL_un {ρ : Env} {ds : List D} (h : keysL ρ i = some ds) : ∃ kv, ρ[i]? = some (some (.dict kv)) ∧ ds = kv.map (·.1) := by
  unfold keysL at h
  split at h
  · cases h
    exact ⟨_, by assumption, rfl⟩
  · cases h
def listdN (i : Nat) : GA := fun ρ γ => (keysL ρ i).bind fun l => some (l, γ)
theorem kV_keys {F : Hp} : ∀ {kvs : List (Key × V)} {ks : List Str}, kvs.map (·.1) = ks.map Sum.inr → DvAll F (kvs.map fun kv => kV kv.1) (strsD ks)
  | [], [], _ => .nil
  | [], _ :: _, h => by cases h
  | _ :: _, [], h => by cases h
  | (k, v) :: r, z :: ks, h => by
    rw [List.map_cons, List.map_cons] at h
    injection h with h1 h2
    have h1' : k = Sum.inr z := h1
    subst h1'
    exact .cons (.str z) (kV_keys h2)
theorem ne_listd {p : Pos} (hc : X.calm = true) (hg : Gl X "list") (hm : X.mg "list" = none) (hv : bootBuiltins "list" = some (.type "list")) (hy : PE X (.Name y py) (tVar i)) (hk : C.kd i = .dic)
    (he : starEach (.Name y py :: []) X.env = (false, eval (.Name y py) X.env) :: starEach [] X.env := by rfl) (hpl : (backTo pos (starEach [] X.env)).any (·.1) = false := by rfl) : NE X C (.Call (.Name "list" p) (.Name y py :: []) [] pos) (listdN i) :=
  PE.imp (pe_callTy (call_listD hc) hg hm hv (pa_cons hy pa_nil he) (by decide) (by decide) he hpl) fun σ H Q q => by
    obtain ⟨ρ, γ, F, ds, γ', se, hg, q⟩ := q
    obtain ⟨l, e1, hg⟩ := bnd hg
    cases hg
    obtain ⟨kv, e2, rfl⟩ := keysL_un e1
    obtain ⟨a, kvs, ks, rfl, hv, ha, hks, nd, _⟩ := mut_dic se hk e2
    refine ⟨_, hv, a, kvs, rfl, .inl ha, fun p hp => ?_⟩
    have al : DvAll F (kvs.map fun kv => kV kv.1) ((ks.map fun k => ((.str k, .none) : D × D)).map (·.1)) := by
      rw [List.map_map]
      exact kV_keys hks
    exact q p _ F _ (Stp.lay se.fh hp) (lay_dr se.dr hp) hp (se.fh.free hp) upd_same al
/-- for one in waiting: met[one] = True -/
def formetL (im io : Nat) : List D → Env → Option Env
  | [], ρ => some ρ
  | d :: ds, ρ => match d, ρ[im]? with
    | .str s, some (some (.dict kv)) => if kv.length < LINE then formetL im io ds ((ρ.set io (some d)).set im (some (.dict (putKs s kv)))) else none
    | _, _ => none
def formetS (j im io : Nat) : GS := fun ρ γ => (ownL ρ j).bind fun ws => if io ≠ j ∧ im ≠ j ∧ io ≠ im ∧ io < ρ.length then (formetL im io ws ρ).bind fun ρ' => some (.nx ρ', γ) else none
theorem ds_formet {j im io : Nat} {s : Stmt} (hd : OffD C io) (hkj : C.kd j = .lst) (hkm : C.kd im = .dic) (hko : C.kd io = .pure)
    (h : PS X s (tFor (iList X.K (tVar j)) (gName io) (sDPut (tVar im) (tVar io) (tC (.bl true))))) : DS X C s (formetS j im io) := PS.imp h fun E σ H q => by
  obtain ⟨ρ, γ, F, o, γ', se, hg, q⟩ := q
  obtain ⟨ws, e0, hg⟩ := bnd hg
  split at hg
  · rename_i hne
    obtain ⟨n1, n2, n3, n4⟩ := hne
    obtain ⟨ρ', e1, hg⟩ := bnd hg
    cases hg
    obtain ⟨a, xs, hv, ha, al, nd, _⟩ := se.mut hkj (ownL_un e0)
    refine ⟨.ref a, hv, a, rfl, ⟨_, SqL.of ha⟩, ?_⟩
    refine for_list (xs := xs) (fun i σc Hc => ∃ ρc, SE C ρc γ σc F Hc ∧ σc[j]? = some (some (.ref a)) ∧ Hc a = some (.lst xs) ∧ formetL im io (ws.drop i) ρc = some ρ' ∧ ρc.length = ρ.length) ⟨ρ, se, hv, ha, by rw [List.drop_zero]; exact e1, rfl⟩
      (fun i σc Hc _ p => ?_) (fun i v σc Hc hi p => ?_) (fun σc Hc p => ?_)
    · obtain ⟨ρc, p1, p2, p3, p4, pl⟩ := p
      exact SqL.of p3
    · obtain ⟨ρc, p1, p2, p3, p4, pl⟩ := p
      obtain ⟨d, hd', dv⟩ := al.getV hi
      obtain ⟨hlt, hoe⟩ := List.getElem?_eq_some_iff.mp hd'
      have hdrop : ws.drop i = d :: ws.drop (i + 1) := by rw [← hoe]; exact List.drop_eq_getElem_cons hlt
      rw [hdrop] at p4
      unfold formetL at p4
      split at p4
      · rename_i w kv e3
        split at p4
        · rename_i hz
          cases dv
          have se1 := p1.put (i := io) hko hd (Dv.str (F := F) w)
          have e4 : (ρc.set io (some (.str w)))[im]? = some (some (.dict kv)) := by rw [List.getElem?_set_ne n3]; exact e3
          obtain ⟨b, kvs, ks, eks, hvb, hb, hks, ndb, mk⟩ := mut_dic se1 hkm e4
          obtain ⟨ks3, h3, h4⟩ := putK_keys (v := .bl true) (x := w) hks
          rw [eks, h4] at p4
          have hlen : kvs.length = ks.length := by
            have := congrArg List.length hks
            simpa using this
          have hio : io < σc.length := by rw [← p1.len, pl]; exact n4
          have nab : a ≠ b := fun z => by rw [z, hb] at p3; cases p3
          refine ⟨.ref b, hvb, .str w, List.getElem?_set_self hio, b, _, rfl, DPut.k (k := Sum.inr w) hb (by
            rw [hlen]
            rw [eks, List.length_map] at hz
            exact line_lt hz), _, mk _ _ h3, by rw [List.getElem?_set_ne n1]; exact p2, by rw [upd_ne nab]; exact p3, p4, by rw [List.length_set, List.length_set]; exact pl⟩
        · cases p4
      · cases p4
    · obtain ⟨ρc, p1, p2, p3, p4, pl⟩ := p
      rw [al.len, List.drop_length] at p4
      cases p4
      exact q σc F Hc (Same.refl F) p1
  · cases hg
/-- the loop over what is frozen -/
theorem loop_ok {tg : GTg} {is : List Nat} {g : TG} {tb : TS} {gb : GS} {J : It} {F1 H1 : Hp} {ds : List D} {ρ : Env} {γ γ' : G} {o : Out} {E : Ends} {σ : L2.St} (hgt : ∀ v σ H Q, tG C tg is v σ H Q → g v σ H Q) (hb : ∀ E σ H, tS C gb E σ H → tb E σ H)
    (ok : ItOk J (fun F2 _ => Same F1 F2) ds) (se : SE C ρ γ σ F1 H1) (hg : forL tg gb ds ρ γ = some (o, γ')) (q : FinO C o γ' F1 E) :
    ∃ W : Nat → Nat → L2.St → Hp → Prop, (∃ m, W 0 m σ H1) ∧ ∀ i m σ H, W i m σ H →
      (J.stop i H ∧ E.nx σ H) ∨ (J.go i H ∧ ∃ N : L2.St → Hp → Prop, (∀ σ' H', N σ' H' → ∃ m', m' < m ∧ W (i + 1) m' σ' H') ∧ ∀ x H', J.yld i H x H' → g x σ H' fun σ2 H2 => tb { E with nx := N, ct := N, bk := E.nx } σ2 H2) := by
  refine ⟨fun i m σ Hc => ∃ Fc ρc γc o, m = ds.length - i ∧ i ≤ ds.length ∧ SE C ρc γc σ Fc Hc ∧ Same F1 Fc ∧ forL tg gb (ds.drop i) ρc γc = some (o, γ') ∧ FinO C o γ' Fc E,
    ⟨ds.length, F1, ρ, γ, o, rfl, Nat.zero_le _, se, Same.refl F1, by rw [List.drop_zero]; exact hg, q⟩, ?_⟩
  rintro i m σc Hc ⟨Fc, ρc, γc, o, rfl, hi, sec, kc, hl, qc⟩
  have okc := ok Fc Hc kc sec.fh i
  by_cases hlt : i < ds.length
  · right
    have hdi : ds[i]? = some ds[i] := List.getElem?_eq_getElem hlt
    obtain ⟨go, yl⟩ := okc.2 _ hdi
    have hdrop : ds.drop i = ds[i] :: ds.drop (i + 1) := List.drop_eq_getElem_cons hlt
    rw [hdrop] at hl
    obtain ⟨ρ1, g1, hl⟩ := bnd hl
    obtain ⟨⟨r, γ2⟩, g2, hl⟩ := bnd hl
    refine ⟨go, fun σ' H' => ∃ m', m' < ds.length - i ∧ ∃ Fc ρc γc o, m' = ds.length - (i + 1) ∧ i + 1 ≤ ds.length ∧ SE C ρc γc σ' Fc H' ∧ Same F1 Fc ∧ forL tg gb (ds.drop (i + 1)) ρc γc = some (o, γ') ∧ FinO C o γ' Fc E,
      fun _ _ h => h, fun x Hy hy => ?_⟩
    obtain ⟨F2, st2, dv2⟩ := yl x Hy hy
    have se2 := sec.stq st2
    refine hgt _ _ _ _ ⟨_, γc, F2, _, ρ1, se2, dv2, g1, fun σ2 se3 _ => hb _ _ _ ⟨ρ1, γc, F2, r, γ2, se3, g2, ?_⟩⟩
    cases r with
    | nx ρ2 => exact fun σ3 F3 H3 k3 se4 => ⟨ds.length - (i + 1), by omega, F3, ρ2, γ2, o, rfl, hlt, se4, (kc.trans st2.ff).trans k3, hl, qc.mono (st2.ff.trans k3)⟩
    | rt z =>
      cases hl
      exact (qc.mono st2.ff : FinO C (.rt z) _ F2 E)
  · left
    have ei : i = ds.length := by omega
    subst ei
    rw [List.drop_length] at hl
    cases hl
    exact ⟨okc.1 (Nat.le_refl _), qc σc Fc Hc (Same.refl Fc) sec⟩
/-- for .. in self.ways[waiting.pop()] -/
def forpopS (i j : Nat) (x : Addr) (ways : Wy) (tg : GTg) (b : GS) : GS := fun ρ γ => if isObjAt ρ i x then (ownL ρ j).bind fun ws => match ws.getLast? with
  | some (.str k) => (lkW ways k).bind fun l => forL tg b (strsD l) (ρ.set j (some (.list ws.dropLast))) γ
  | _ => none
  else none
theorem DvAll.dropLast {F : Hp} {vs : List V} {ds : List D} (h : DvAll F vs ds) : DvAll F vs.dropLast ds.dropLast := by
  rw [List.dropLast_eq_take, List.dropLast_eq_take, h.len]
  exact h.take _
theorem ds_forpop {j : Nat} {tg : GTg} {is : List Nat} {gb : GS} {s : Stmt} (hM : MatF Cc M x C.F0) (hk : C.kd i = .pure) (hkj : C.kd j = .lst) (cls : Cls X.K Cc) (na : NoAttr X.K Cc "ways")
    (h : PS X s (tFor (iList X.K (tDGet (tFld X.K (tVar i) "ways") (tBM0 X.K "list" rPop (tVar j)))) (tG C tg is) (tS C gb))) : DS X C s (forpopS i j x M.ways tg gb) := PS.imp h fun E σ H q => by
  obtain ⟨ρ, γ, F, o, γ', se, hg, q⟩ := q
  unfold forpopS at hg
  split at hg
  · rename_i h1
    obtain ⟨ws, e0, hg⟩ := bnd hg
    obtain ⟨k, hlast, hg⟩ : ∃ k, ws.getLast? = some (.str k) ∧ ((lkW M.ways k).bind fun l => forL tg gb (strsD l) (ρ.set j (some (.list ws.dropLast))) γ) = some (o, γ') := by
      split at hg
      · exact ⟨_, by assumption, hg⟩
      · cases hg
    obtain ⟨l, e1, hg⟩ := bnd hg
    obtain ⟨dx, vl, vr, W, wk, m, f1, f2, f3, f4, f5, f6⟩ := hM.ex
    obtain ⟨a, xs, hv, ha, al, nd, mk⟩ := se.mut hkj (ownL_un e0)
    have hl2 : ws[ws.length - 1]? = some (.str k) := by rw [← List.getLast?_eq_getElem?]; exact hlast
    obtain ⟨v, hvl, dv⟩ := al.get hl2
    cases dv
    have se2 := mk xs.dropLast ws.dropLast al.dropLast
    refine ⟨_, obj_at se hk h1, x, Cc, dx, _, .ref W, rfl, se.fh _ _ (se.ent.ff _ _ f1), cls, na, rfl, .ref a, hv, tyL ha, a, xs, .str k, rfl, rfl, ha, by rw [al.len]; exact hvl, ?_⟩
    obtain ⟨la, hw, hla⟩ := f6 k l e1
    have hW2 : upd H a (HO.lst xs.dropLast) W = some (.dK wk) := se2.fh _ _ (se2.ent.ff _ _ f4)
    have hF : F la = some (.lst (l.map .str)) := se.ent.ff _ _ hla
    refine ⟨W, .ref la, rfl, by rw [← hw]; exact DGet.k (k := Sum.inr k) hW2, la, rfl, ⟨_, SqL.of (se2.fh _ _ hF)⟩, ?_⟩
    exact loop_ok (fun _ _ _ _ h => h) (fun _ _ _ h => h) (okL' fun F2 H2 k k2 => ⟨k2 _ _ (k _ _ hF), strs_dv⟩) se2 hg q
  · cases hg
end
end TK
end
section
set_option Elab.async false
set_option linter.all false
set_option maxRecDepth 100000
set_option maxHeartbeats 4000000
namespace TK
open PySem PySem.Spec PyProof.Rows L2
/-- a method that only reads -/
def spRo (Cc : Addr) (M : MS) (r : Addr → Option D) : Sp := fun vs H Q _ => ∃ x F d, vs = [.ref x] ∧ Same F H ∧ MatF Cc M x F ∧ r x = some d ∧ ∀ v F' H', Stq F H F' H' → Dv F' v d → Q v H'
def runX (n : Nat) (g : Addr → GS) : Addr → Option D := fun x => (g x (startE n [objD x]) (0, [])).bind fun r => some (outD r.1)
section
variable {P : Program} {w : World} {K : PySem.W.Frag} {mg : Str → Option Value} {base : Heap} {m : Str} {N : List Str} {k : Nat} {d : He.DefD} {g : Addr → GS}
theorem fm_ro (W : Wd K mg) (j : Nat) (hd : fn[j]? = some d) (e1 : d.dfl = []) (e2 : d.kwd = []) (e3 : d.at_ = (("Matching" : Str), some m)) (S : FnScope N ["self"] d.scope) (kd : Nat → Kd) (hkd : kd 0 = .pure) (M : MS)
    (hb : ∀ (kV doc pm : Value) (an : Option Addr) (cdv ct : Value) (us : List Value), us.length = (["self"] : List Str).length → bindArgs (PySem.W.fnOf d.name d.qual d.params d.body d.scope .none kV doc pm an cdv ct) ⟨us, []⟩ = pure ((["self"] : List Str).zip us))
    (hbody : ∀ (f : Addr) (cdv : Value) (A : Around) (outer : List PySem.Env) (s : Shared) (H F : Hp) (E : XK) (x : Addr), MatF (He.ga K "Matching") M x F → Room k (A.deeper (envOfC d.qual d.scope s.heap.objs.size f cdv)) → DSs (cxOf CX0 P w K mg base N d.qual d.scope f cdv A outer s H E).nox (cfgP kd F H) d.body (g x)) :
    Fm P w K mg base (k + 1) m ["self"] (spRo (He.ga K "Matching") M (runX N.length g)) :=
  fm_of W j hd e1 e2 e3 (fun f fd Fd => Fd.ok S (fun vs H Q E h => by
      obtain ⟨x, F, d, rfl, _⟩ := h
      rfl) fun cdv A outer s H vs Q E hr h => by
      obtain ⟨x, F, z, rfl, kF, hM, hf, q⟩ := h
      refine ⟨_, PSs.nox (hbody f cdv A outer s H F E x hM hr), ?_⟩
      obtain ⟨⟨o, γ'⟩, e1, e2⟩ := bnd hf
      cases e2
      obtain ⟨dx, vl, vr, W', wk, m', f1, _⟩ := hM.ex
      have al : DvAll F [.ref x] [objD x] := .cons .obj .nil
      refine ⟨startE N.length [objD x], (0, []), F, o, γ', ⟨Stp.refl kF, trivial, fun a z => z.elim, fun p q e => (by cases e), ?_, fun _ => [], fun i d e => ?_, fun i a m => (by cases m), fun i j _ a m => (by cases m)⟩, e1, ?_⟩
      · unfold startE L2.start
        rw [List.length_append, List.length_append, List.length_map, List.length_map, List.length_replicate, List.length_replicate] <;> rfl
      · obtain ⟨v, hv, dv⟩ := start_get al e
        refine ⟨v, hv, ?_⟩
        have hi : i < 1 := by
          rcases Nat.lt_or_ge i 1 with h | h
          · exact h
          · unfold startE at e
            rw [List.getElem?_append_right (by simpa using h), List.getElem?_replicate] at e
            split at e <;> cases e
        show SlOk F H (kd i) v d []
        have e0 : i = 0 := by omega
        rw [e0, hkd]
        exact ⟨dv, rfl⟩
      · cases o with
        | nx ρ => exact fun σ F' H' _ se => q .non F' H' se.ent .non
        | rt d => exact fun v F' H' _ st _ dv => q v F' H' st dv) hb
end
end TK
end
section
set_option Elab.async false
set_option linter.all false
set_option maxRecDepth 100000
set_option maxHeartbeats 4000000
namespace TK
open PySem PySem.Spec PyProof.Rows L2
def g_Matching_single (M : MS) (x : Addr) : GS := seqS (setS 1 (newE (valsN 0 x (strsD (M.mates.map (·.2)))))) (retS (binE addD (newE (compN (seqI (objE 0 x (.tuple (strsD M.L)))) (tgN 2) (valT (binE notInD (varE 2) (varE 1))) (varE 2) [2])) (newE (compN (seqI (objE 0 x (.tuple (strsD M.R)))) (tgN 2) (valT (binE notInD (varE 2) (objE 0 x (keysD M.mates)))) (varE 2) [2]))))
def f_Matching_single (M : MS) : Addr → Option D := runX 3 (g_Matching_single M)
def g_Matching_free (M : MS) (x : Addr) : GS := seqS (setS 1 (newE (valsN 0 x (strsD (M.mates.map (·.2)))))) (seqS (ownS 2 (compN (seqI (objE 0 x (.tuple (strsD M.L)))) (tgN 4) (valT (binE notInD (varE 4) (varE 1))) (varE 4) [4])) (seqS (dicS 3) (seqS (formetS 2 3 4) (seqS (dicS 5) (seqS (whlS (valT (binE gtD (unE lenD (varE 2)) (cE (.int 0)))) (forpopS 0 2 x M.ways (tgN 6) (seqS (putS 5 (varE 6) (cE (.bool true))) (seqS (setS 7 (getE 0 x M.mates (varE 6))) (ifS (andT (valT (binE notND (varE 7) (cE .none))) (valT (binE notInD (varE 7) (varE 3)))) (seqS (putS 3 (varE 7) (cE (.bool true))) (appS 2 (varE 7))) (nextS)))))) (retS (binE addD (newE (listdN 3)) (newE (compN (seqI (objE 0 x (.tuple (strsD M.R)))) (tgN 6) (valT (binE notInD (varE 6) (varE 5))) (varE 6) [6])))))))))
def f_Matching_free (M : MS) : Addr → Option D := runX 8 (g_Matching_free M)
end TK
end
section
set_option Elab.async false
set_option linter.all false
set_option maxRecDepth 100000
set_option maxHeartbeats 4000000
namespace TK
open PySem PySem.Spec PyProof.Rows L2
section
variable {P : Program} {w : World} {K : PySem.W.Frag} {mg : Str → Option Value} {base : Heap}
theorem sc_Matching_single : FnScope ["self", "taken", "one"] ["self"] d_Matching_single.scope := ⟨rfl, rfl, rfl, by decide +kernel, rfl, by decide +kernel, by decide +kernel⟩
theorem ok_Matching_single (W : Wd K mg) (M : MS) : Fm P w K mg base 1 "single" ["self"] (spRo (He.ga K "Matching") M (f_Matching_single M)) :=
  have S := sc_Matching_single
  fm_ro (g := g_Matching_single M) (d := d_Matching_single) (N := ["self", "taken", "one"]) W 13 rfl rfl rfl rfl S (kdOf [.pure, .pure, .pure]) rfl M (fun _ _ _ _ _ _ us hl => match us, hl with | [_], _ => rfl) fun f cdv A outer s H F E x hM hr =>
  dss_cons (ds_setN (ps_set (i := 1) S.nd rfl (by first | exact .inl rfl | exact .inr rfl) (ne_vals rfl rfl (W.free 58) hM (pv 0) rfl W.cls (W.noat 79))) rfl rfl)
  (dss_one (ds_ret (ps_ret (de_op op_addD (NE.de (ne_comp (own := [("one", 2)]) (is := [2]) rfl S.nd rfl rfl rfl (PI.rd (pi_seq (de_lefts hM (pv 0) rfl W.cls (W.noat 76)))) (fun _ _ _ _ _ _ => dg_name (pg_name (i := 2) S.nd rfl (by first | exact .inl rfl | exact .inr rfl)) rfl rfl) (fun _ _ _ _ _ _ => dts_one (dt_in (op_notInDD hr.u65) (de_var (pv 2) rfl) (DE.rd (de_var (pv 1) rfl)) rfl)) (fun _ _ _ _ _ _ => de_var (pv 2) rfl))) (NE.de (ne_comp (own := [("one", 2)]) (is := [2]) rfl S.nd rfl rfl rfl (PI.rd (pi_seq (de_rights hM (pv 0) rfl W.cls (W.noat 77)))) (fun _ _ _ _ _ _ => dg_name (pg_name (i := 2) S.nd rfl (by first | exact .inl rfl | exact .inr rfl)) rfl rfl) (fun _ _ _ _ _ _ => dts_one (dt_in (op_notInDD hr.u65) (de_var (pv 2) rfl) (DE.rd (de_mates hM (pv 0) rfl W.cls (W.noat 79))) rfl)) (fun _ _ _ _ _ _ => de_var (pv 2) rfl)))))))
theorem sc_Matching_free : FnScope ["self", "taken", "waiting", "met", "one", "passed", "other", "mate"] ["self"] d_Matching_free.scope := ⟨rfl, rfl, rfl, by decide +kernel, rfl, by decide +kernel, by decide +kernel⟩
theorem ok_Matching_free (W : Wd K mg) (M : MS) : Fm P w K mg base 1 "free" ["self"] (spRo (He.ga K "Matching") M (f_Matching_free M)) :=
  have S := sc_Matching_free
  fm_ro (g := g_Matching_free M) (d := d_Matching_free) (N := ["self", "taken", "waiting", "met", "one", "passed", "other", "mate"]) W 14 rfl rfl rfl rfl S (kdOf [.pure, .pure, .lst, .dic, .pure, .dic, .pure, .pure]) rfl M (fun _ _ _ _ _ _ us hl => match us, hl with | [_], _ => rfl) fun f cdv A outer s H F E x hM hr =>
  dss_cons (ds_setN (ps_set (i := 1) S.nd rfl (by first | exact .inl rfl | exact .inr rfl) (ne_vals rfl rfl (W.free 58) hM (pv 0) rfl W.cls (W.noat 79))) rfl rfl)
  (dss_cons (ds_own (ps_comp (i := 2) (own := [("one", 4)]) (is := [4]) rfl S.nd rfl rfl rfl rfl rfl rfl rfl rfl (PI.rd (pi_seq (de_lefts hM (pv 0) rfl W.cls (W.noat 76)))) (fun _ _ _ _ _ _ => dg_name (pg_name (i := 4) S.nd rfl (by first | exact .inl rfl | exact .inr rfl)) rfl rfl) (fun _ _ _ _ _ _ => dts_one (dt_in (op_notInDD hr.u65) (de_var (pv 4) rfl) (DE.rd (de_var (pv 1) rfl)) rfl)) (fun _ _ _ _ _ _ => de_var (pv 4) rfl)) rfl rfl rfl)
  (dss_cons (ds_dnew (ps_set (i := 3) S.nd rfl (by first | exact .inl rfl | exact .inr rfl) pe_dnewK) rfl rfl rfl)
  (dss_cons (ds_formet rfl rfl rfl rfl (ps_for PassesOwn.never rfl (pi_list (pv 2)) (pg_name (i := 4) S.nd rfl (by first | exact .inl rfl | exact .inr rfl)) (pss_one (ps_dput hr.u1 (pv 3) (pv 4) pe_bl rfl))))
  (dss_cons (ds_dnew (ps_set (i := 5) S.nd rfl (by first | exact .inl rfl | exact .inr rfl) pe_dnewK) rfl rfl rfl)
  (dss_cons (ds_while PassesOwn.never (dt_cmp (op_gtDD hr.units) (de_b1 cl_len rfl (W.free 56) b_len (re_own (pv 2) rfl)) (de_int) rfl) (dss_one (ds_forpop (i := 0) (j := 2) hM rfl rfl W.cls (W.noat 78) (ps_for PassesOwn.never rfl (pi_list (pe_dget hr.u1 (pe_fld (pv 0) rfl) (pe_bm0 PySem.F.plainAttrs_list PySem.F.slot_list_pop PySem.F.type_list_pop mt_pop (pv 2)) (fun _ _ => rfl))) (dg_name (pg_name (i := 6) S.nd rfl (by first | exact .inl rfl | exact .inr rfl)) rfl rfl) (dss_cons (ds_put (ps_dput hr.u1 (pv 5) (de_var (pv 6) rfl) (de_bl) rfl) rfl)
  (dss_cons (ds_set (ps_set (i := 7) S.nd rfl (by first | exact .inl rfl | exact .inr rfl) (de_getm hr.u1 hM (pv 0) rfl W.cls (W.noat 79) (de_var (pv 6) rfl) ⟨rfl, rfl, rfl, rfl⟩)) rfl rfl)
  (dss_one (ds_if (WT.dt (wt_and (dt_cmp op_notND (de_var (pv 7) rfl) (de_non) rfl) (wt_and1 (dt_in (op_notInDD hr.u65) (de_var (pv 7) rfl) (re_own (pv 3) rfl) rfl)))) (dss_cons (ds_put (ps_dput hr.u1 (pv 3) (de_var (pv 7) rfl) (de_bl) rfl) rfl)
  (dss_one (ds_app (pv 2) (de_var (pv 7) rfl) rfl))) (dss_nil)))))))))
  (dss_one (ds_ret (ps_ret (de_op op_addD (NE.de (ne_listd rfl rfl (W.free 58) b_list (pv 3) rfl)) (NE.de (ne_comp (own := [("other", 6)]) (is := [6]) rfl S.nd rfl rfl rfl (PI.rd (pi_seq (de_rights hM (pv 0) rfl W.cls (W.noat 77)))) (fun _ _ _ _ _ _ => dg_name (pg_name (i := 6) S.nd rfl (by first | exact .inl rfl | exact .inr rfl)) rfl rfl) (fun _ _ _ _ _ _ => dts_one (dt_in (op_notInDD hr.u65) (de_var (pv 6) rfl) (re_own (pv 5) rfl) rfl)) (fun _ _ _ _ _ _ => de_var (pv 6) rfl))))))))))))
end
end TK
end
section
set_option Elab.async false
set_option linter.all false
set_option maxRecDepth 100000
set_option maxHeartbeats 4000000
/-! Matching.matched. -/
namespace TK
open PySem PySem.Spec PyProof.Rows L2
def itemsM (mates : Mt) : List D := mates.map fun p => .tuple [.str p.1, .str p.2]
def gMatched (x : Addr) (mates : Mt) : GA := compN (fun ρ γ => if isObjAt ρ 0 x then some (itemsM mates, γ) else none) (tgT [2, 1]) yesT (tupE (consA (varE 1) (consA (varE 2) nilA))) [2, 1]
def f_Matching_matched (M : MS) : Addr → Option D := fun x => (gMatched x M.mates [some (objD x), none, none] (0, [])).bind fun r => sortedD (.list r.1)
theorem sc_matched : FnScope ["self", "one", "other"] ["self"] d_Matching_matched.scope := ⟨rfl, rfl, rfl, by decide +kernel, rfl, by decide +kernel, by decide +kernel⟩
theorem items_ok {dr : Option (Addr × Addr)} {F1 H1 : Hp} {m : Addr} {od : Obj} {mates : Mt} (hm : H1 m = some (.frz od (.dK (mkM mates)))) (nd : ¬ isDr dr m) : ItOk (Iti m od (mkM mates)) (kept dr F1 H1) (itemsM mates) := by
  intro F H r k i
  have hH := r.2 m _ hm nd
  have hl : (itemsM mates).length = (mkM mates).length := by unfold itemsM mkM; rw [List.length_map, List.length_map]
  refine ⟨fun hi => ⟨hH, by rw [← hl]; exact hi⟩, fun d hd => ?_⟩
  unfold itemsM at hd
  rw [List.getElem?_map] at hd
  obtain ⟨p, hp, e⟩ := Option.map_eq_some_iff.mp hd
  subst e
  have hk : (mkM mates)[i]? = some (Sum.inr p.1, V.str p.2) := by unfold mkM; rw [List.getElem?_map, hp] <;> rfl
  refine ⟨⟨hH, (List.getElem?_eq_some_iff.mp hk).1⟩, fun x H' y => ?_⟩
  obtain ⟨T, k', v, h1, rfl, hT, rfl⟩ := y
  rw [hk] at h1
  cases h1
  exact ⟨_, Stp.new k hT, .tup upd_same (.cons (.str _) (.cons (.str _) .nil))⟩
section
variable {P : Program} {w : World} {K : PySem.W.Frag} {mg : Str → Option Value} {base : Heap}
theorem ok_Matching_matched (W : Wd K mg) (M : MS) : Fm P w K mg base 1 "matched" ["self"] (spRo (He.ga K "Matching") M (f_Matching_matched M)) :=
  have S := sc_matched
  fm_of (d := d_Matching_matched) W 12 rfl rfl rfl rfl (fun f fd Fd => Fd.ok S (fun vs H Q E h => by
      obtain ⟨x, F, d, rfl, _⟩ := h
      rfl) fun cdv A outer s H vs Q E hr h => by
    obtain ⟨x, F, z, rfl, kF, hM, hf, q⟩ := h
    have cls := W.cls
    have nm := W.noat 79
    let gG : TG := fun v σ H Q => ∃ (C2 : Cfg) (x : Addr), C2.kd = (fun _ => .pure) ∧ C2.dr = none ∧ tG (C2.avoid x) (tgT [2, 1]) [2, 1] v σ H Q
    let tT' : TT := fun σ H Q => ∃ (C2 : Cfg) (x : Addr), tT (C2.avoid x) yesT σ H Q
    let tE : TE := fun σ H Q => ∃ (C2 : Cfg) (x : Addr), C2.kd = (fun _ => .pure) ∧ tD (C2.avoid x) (tupE (consA (varE 1) (consA (varE 2) nilA))) σ H Q
    have core : PSs (cxOf CX0 P w K mg base ["self", "one", "other"] d_Matching_matched.qual d_Matching_matched.scope f cdv A outer s H E).nox d_Matching_matched.body
        (tRet (tCB (rC1 sortedD) (tCons (tLockE (tLc (iItems (tFld K (tVar 0) "mates")) gG tT' tE [2, 1])) tNil))) :=
      pss_one (ps_ret (pe_callB (cl_sorted hr.units) rfl (W.free 59) b_sorted (pa_cons (pe_lock (pe_lc (wi := iItems (tFld K (tVar 0) "mates")) (g := gG) (tt := tT') (te := tE) (own := [("other", 2), ("one", 1)]) rfl S.nd
        (pi_items (pe_fld (pv 0) rfl)) (blkOk_by rfl)
        (fun s' H C0 cl fp => ⟨fun pins s1 σ H1 v u Q I r q => by
          obtain ⟨C2, x, hkd, hdr, q⟩ := q
          have off : ∀ i, OffD C2 i := fun i => by unfold OffD; rw [hdr]; rfl
          exact (show PG _ _ (tG (C2.avoid x) (tgT [2, 1]) [2, 1]) from dg_tup rfl (dgs_cons (pg_name (i := 2) S.nd rfl (by first | exact .inl rfl | exact .inr rfl)) (by show C2.kd 2 = _; rw [hkd]) (off 2) (dgs_cons (pg_name (i := 1) S.nd rfl (by first | exact .inl rfl | exact .inr rfl)) (by show C2.kd 1 = _; rw [hkd]) (off 1) dgs_nil))).run pins s1 σ H1 v u Q I r q⟩)
        (fun s' H C0 cl fp => ⟨fun pins s1 σ H1 Q I q => by
          obtain ⟨C2, x, q⟩ := q
          exact (show PTs _ _ (tT (C2.avoid x) yesT) from dts_nil).run pins s1 σ H1 Q I q⟩)
        (fun s' H C0 cl fp => ⟨fun pins s1 σ H1 Q I q => by
          obtain ⟨C2, x, hkd, q⟩ := q
          exact (show DE _ (C2.avoid x) _ _ from de_tup (da_cons (de_var (pv 1) (by show C2.kd 1 = _; rw [hkd])) (da_cons (de_var (pv 2) (by show C2.kd 2 = _; rw [hkd])) da_nil))).run pins s1 σ H1 Q I q⟩))) pa_nil) (by decide) (by decide)))
    refine ⟨_, PSs.nox core, ?_⟩
    obtain ⟨dx, vl, vr, W', wk, m, f1, f2, f3, f4, f5, f6⟩ := hM.ex
    obtain ⟨⟨out, γ'⟩, e1, e2⟩ := bnd hf
    have hm : H m = some (.dK (mkM M.mates)) := kF _ _ f5
    have nxm : x ≠ m := fun z => by rw [z, f5] at f1; cases f1
    -- the frozen heap without the mates
    let F2 : Hp := fun a => if a = m then none else F a
    have f2m : F2 m = none := if_pos rfl
    have f2o : ∀ a, a ≠ m → F2 a = F a := fun a n => if_neg n
    have sub : Same F2 F := fun a o e => by
      by_cases h : a = m
      · rw [h, f2m] at e; cases e
      · rw [f2o a h] at e; exact e
    refine ⟨m, _, hm, trivial, fun od => ?_⟩
    let C2 : Cfg := { dr := none, ds := 0, kd := fun _ => .pure, F0 := F2, H0 := upd F2 m (.frz od (.dK (mkM M.mates))) }
    have hC2 : upd F2 m (.frz od (.dK (mkM M.mates))) = C2.H0 := rfl
    have k2 : Same F2 (upd H m (.frz od (.dK (mkM M.mates)))) := fun a o e => by
      by_cases h : a = m
      · rw [h, f2m] at e; cases e
      · rw [upd_ne h]; exact kF a o (sub a o e)
    have st2 : Stp none F2 (upd F2 m (.frz od (.dK (mkM M.mates)))) F2 (upd H m (.frz od (.dK (mkM M.mates)))) := by
      refine ⟨Same.refl F2, k2, fun a o e _ => ?_, fun a e => ?_, fun a e _ => e⟩
      · by_cases h : a = m
        · rw [h, upd_same] at e ⊢
          exact e
        · rw [upd_ne h] at e ⊢
          exact kF a o (sub a o e)
      · by_cases h : a = m
        · rw [h, upd_same]; simp
        · rw [upd_ne h] at e ⊢
          cases q : F2 a with
          | none => exact absurd q e
          | some o => rw [kF a o (sub a o q)]; simp
    have se : SE C2 [some (objD x), none, none] (0, []) (L2.start ["self", "one", "other"] [.ref x]) F2 (upd H m (.frz od (.dK (mkM M.mates)))) := by
      refine ⟨st2, trivial, fun a z => z.elim, fun p q e => (by cases e), rfl, fun _ => [], fun i d e => ?_, fun i a m => (by cases m), fun i j _ a m => (by cases m)⟩
      match i, e with
      | 0, e =>
        cases e
        exact ⟨.ref x, rfl, .obj, rfl⟩
      | 1, e => cases e
      | 2, e => cases e
      | i + 3, e => cases e
    refine comp_read (C := C2) (it := fun ρ γ => if isObjAt ρ 0 x then some (itemsM M.mates, γ) else none) (tg := tgT [2, 1]) (t := yesT) (el := tupE (consA (varE 1) (consA (varE 2) nilA))) (is := [2, 1]) (fun σ H R h => ?_) (fun x v σ H Q h => ⟨C2, x, rfl, rfl, h⟩) (fun x σ H Q h => ⟨C2, x, h⟩) (fun x σ H Q h => ⟨C2, x, rfl, h⟩) (fun i h => h) (fun i _ => rfl) ?_
    · obtain ⟨ρ, γ, F', ds, γ', se', hg, q'⟩ := h
      simp only at hg
      split at hg
      · rename_i h1
        cases hg
        have hm' := se'.ent.keep m _ (hC2 ▸ upd_same) (fun z => z)
        exact ⟨_, obj_at se' rfl h1, x, _, dx, _, .ref m, rfl, se'.fh _ _ (se'.ent.ff _ _ (show F2 x = some (.ins (He.ga K "Matching") dx [("lefts", vl), ("rights", vr), ("ways", .ref W'), ("mates", .ref m)]) by rw [f2o x nxm]; exact f1)), cls, nm, rfl, m, od, _, rfl, hm', q' F' H (Iti m od (mkM M.mates)) (Stp.refl se'.fh) se'.dr (items_ok hm' fun z => z)⟩
      · cases hg
    · refine ⟨_, _, F2, out, γ', se, e1, fun a xs F' H' st dr ha hf' hl al => ⟨st.keep m _ upd_same fun z => z, ?_⟩⟩
      have fm : F' m = none := st.old m f2m (by rw [upd_same]; simp)
      have nam : a ≠ m := fun z => by rw [z, upd_same] at ha; cases ha
      have q1 : Stq F H (upd F' m (.dK (mkM M.mates))) (upd H' m (.dK (mkM M.mates))) := by
        refine ⟨fun b o e => ?_, fun b o e => ?_, fun b o e _ => ?_, fun b e => ?_, fun b e n => ?_⟩
        · by_cases h : b = m
          · rw [h, upd_same]; rw [h, f5] at e; exact e
          · rw [upd_ne h]; exact st.ff b o (by rw [f2o b h]; exact e)
        · by_cases h : b = m
          · rw [h, upd_same] at e ⊢; exact e
          · rw [upd_ne h] at e ⊢; exact st.fh b o e
        · by_cases h : b = m
          · rw [h, upd_same]; rw [h, hm] at e; exact e
          · rw [upd_ne h]; exact st.keep b o (by rw [upd_ne h]; exact e) fun z => z
        · by_cases h : b = m
          · rw [h, upd_same]; simp
          · rw [upd_ne h]; exact st.dom b (by rw [upd_ne h]; exact e)
        · have h : b ≠ m := fun z => by rw [z, f5] at e; cases e
          rw [upd_ne h]
          exact st.old b (by rw [f2o b h]; exact e) (by rw [upd_ne h]; exact n)
      refine ⟨none, .ref a, upd F' m (.dK (mkM M.mates)), .list out, z, rfl, q1.fh, .inr (.inl ⟨a, xs, out, rfl, rfl, by rw [upd_ne nam]; exact hl, al.up (same_new fm), fun z => z⟩), e2, fun v F4 H4 st4 dv4 => q v F4 H4 (q1.trans st4) dv4⟩) (fun _ _ _ _ _ _ us hl => match us, hl with | [_], _ => rfl)
end
end TK
end
section
set_option Elab.async false
set_option linter.all false
set_option maxRecDepth 100000
set_option maxHeartbeats 4000000
/-! hands: what makes and asks a Matching. -/
namespace TK
open PySem PySem.Spec PyProof.Rows L2
def roE (i : Nat) (x : Addr) (r : Addr → Option D) : GE := fun ρ γ => if isObjAt ρ i x then (r x).bind fun d => some (d, γ) else none
theorem MatF.up {Cc : Addr} {M : MS} {x : Addr} {F F' : Hp} (h : MatF Cc M x F) (k : Same F F') : MatF Cc M x F' := by
  obtain ⟨dx, vl, vr, W, wk, m, f1, f2, f3, f4, f5, f6⟩ := h.ex
  exact ⟨dx, vl, vr, W, wk, m, k _ _ f1, f2.up k, f3.up k, k _ _ f4, k _ _ f5, fun a l e => (f6 a l e).imp fun b h => ⟨h.1, k _ _ h.2⟩⟩
section
variable {X : Cx} {C : Cfg} {pos py ap : Pos} {y m : Str} {i : Nat} {x Cc : Addr} {M : MS}
theorem de_ro {apos : Pos} {kk n : Nat} {r : Addr → Option D} {pl : Sem Bool} (hM : MatF Cc M x C.F0) (hy : PE X (.Name y py) (tVar i)) (hk : C.kd i = .pure) (cls : Cls X.K Cc) (hm : Meth X.K Cc m (He.ma X.K Cc m)) (hC : Cc = He.ga X.K "Matching") (Fm' : Fm X.prog X.w X.K X.mg X.base kk m ["self"] (spRo Cc M r)) (hr : Room n X.A) (hkn : kk ≤ n)
    (hl : ∀ a b c d : V, List.lookup m ([("lefts", a), ("rights", b), ("ways", c), ("mates", d)] : List (Str × V)) = none)
    (ht : eval (.Call (.Attribute (.Name y py) m apos) [] [] pos) X.env = (do
      let ov ← eval (.Name y py) X.env
      standAt apos.atName
      let (f, first) ← holding [ov] (getMethod ov m pl)
      callWith pos f first (backTo pos (starEach [] X.env)) (backToKw pos (keywordEach [] X.env))) := by rfl) :
    DE X C (.Call (.Attribute (.Name y py) m apos) [] [] pos) (roE i x r) := by
  subst hC
  obtain ⟨fd, G1, G2⟩ := Fm'
  refine PE.imp (pe_meth0 hy cls hm G1 (hr.mono hkn) G2 .nil pass0 ht) fun σ H Q q => ?_
  obtain ⟨ρ, γ, F, d, γ', se, hg, q⟩ := q
  unfold roE at hg
  split at hg
  · rename_i h1
    obtain ⟨z, e1, hg⟩ := bnd hg
    cases hg
    obtain ⟨dx, vl, vr, W, wk, m', f1, f2, f3, f4, f5, f6⟩ := hM.ex
    exact ⟨_, obj_at se hk h1, x, dx, _, rfl, se.fh _ _ (se.ent.ff _ _ f1), hl _ _ _ _, x, F, _, rfl, se.fh, hM.up se.ent.ff, e1, fun v F' H' st dv => q v F' H' st.up (se.dr.step st) dv⟩
  · cases hg
end
def strsOf : List D → Option (List Str)
  | [] => some []
  | .str x :: r => (strsOf r).map (x :: ·)
  | _ :: _ => none
theorem strsOf_eq : ∀ {ds : List D} {l : List Str}, strsOf ds = some l → ds = strsD l
  | [], l, h => by cases h; rfl
  | .str x :: r, l, h => by
    obtain ⟨b, h1, h2⟩ := Option.map_eq_some_iff.mp h
    subst h2
    rw [strsOf_eq h1] <;> rfl
  | .none :: _, _, h => by cases h
  | .bool _ :: _, _, h => by cases h
  | .int _ :: _, _, h => by cases h
  | .list _ :: _, _, h => by cases h
  | .tuple _ :: _, _, h => by cases h
  | .dict _ :: _, _, h => by cases h
def pairOf : D → Option (Str × Str)
  | .tuple [.str a, .str b] => some (a, b)
  | _ => none
theorem pairOf_eq {d : D} {p : Str × Str} (h : pairOf d = some p) : d = pairD p := by
  unfold pairOf at h
  split at h
  · cases h; rfl
  · cases h
def pairsOf : List D → Option (List (Str × Str))
  | [] => some []
  | d :: r => (pairOf d).bind fun p => (pairsOf r).map (p :: ·)
theorem pairsOf_eq : ∀ {ds : List D} {l : List (Str × Str)}, pairsOf ds = some l → ds = l.map pairD
  | [], l, h => by cases h; rfl
  | d :: r, l, h => by
    obtain ⟨p, h1, h2⟩ := bnd h
    obtain ⟨b, h3, h4⟩ := Option.map_eq_some_iff.mp h2
    subst h4
    rw [pairOf_eq h1, pairsOf_eq h3] <;> rfl
def tupAt (ρ : Env) (i : Nat) : Option (List D) := match ρ[i]? with
  | some (some (.tuple ds)) => some ds
  | _ => none
theorem tupAt_un {ρ : Env} {i : Nat} {ds : List D} (h : tupAt ρ i = some ds) : ρ[i]? = some (some (.tuple ds)) := by
  unfold tupAt at h
  split at h
  · cases h; assumption
  · cases h
def pureAt (kd : Nat → Kd) (ρ : Env) : Bool := (List.range ρ.length).all fun i => decide (kd i = .pure) || (match ρ[i]? with
  | some (some _) => false
  | _ => true)
theorem pureAt_un {kd : Nat → Kd} {ρ : Env} (h : pureAt kd ρ = true) {i : Nat} {d : D} (e : ρ[i]? = some (some d)) : kd i = .pure := by
  have hi := (List.getElem?_eq_some_iff.mp e).1
  have h1 := List.all_eq_true.mp h i (List.mem_range.mpr hi)
  rw [e] at h1
  simpa using h1
def FUEL : Nat := 20
/-- matching = Matching(lefts, rights, couples); matching.grow(); the rest -/
def matS (iL iR iC iM : Nat) (kd : Nat → Kd) (rest : MS → Addr → GS) (x : Addr) : GS := fun ρ γ => (tupAt ρ iL).bind fun dl => (tupAt ρ iR).bind fun dr => (tupAt ρ iC).bind fun dc => (strsOf dl).bind fun L => (strsOf dr).bind fun R => (pairsOf dc).bind fun cs =>
  if L.length < LINE ∧ cs.length ≤ LINE ∧ pureAt kd ρ = true ∧ kd iM = .pure ∧ iM < ρ.length then (growL (waysOf L cs) FUEL L []).bind fun ms => frzS (rest ⟨L, R, waysOf L cs, ms⟩ x) (ρ.set iM (some (objD x))) γ else none
theorem lkW_of {L : List Str} {cs : List (Str × Str)} {k : Str} {l : List Str} (h : lkW (waysOf L cs) k = some l) : k ∈ L ∧ l = waysFor k cs := by
  unfold lkW waysOf at h
  obtain ⟨p, h1, h2⟩ := Option.map_eq_some_iff.mp h
  have h3 := List.find?_some h1
  have h4 := List.mem_of_find?_eq_some h1
  obtain ⟨one, h5, h6⟩ := List.mem_map.mp h4
  subst h6
  have h7 : one = k := of_decide_eq_true h3
  subst h7
  exact ⟨h5, h2.symm⟩
section
variable {X : Cx} {K : PySem.W.Frag} {mg : Str → Option Value}
theorem pss_mat {iL iR iC iM : Nat} {kd : Nat → Kd} {F0 H0 : Hp} {rest : MS → Addr → GS} {s1 s2 : Stmt} {sts : List Stmt} (W : Wd X.K mg)
    (h1 : PS X s1 (tAsg (tMake (He.ga X.K "Matching") (spInit (He.ga X.K "Matching")) [] E0 (tCons (tVar iL) (tCons (tVar iR) (tCons (tVar iC) tNil)))) (gName iM)))
    (h2 : ∀ Wy, PS X s2 (tDrop (tMeth (He.ga X.K "Matching") "grow" (spGrow (He.ga X.K "Matching") Wy FUEL) [] E0 (tVar iM) tNil)))
    (h3 : ∀ M x F H, MatF (He.ga X.K "Matching") M x F → DSs X (cfgP kd F H) sts (rest M x)) (hkL : kd iL = .pure) (hkR : kd iR = .pure) (hkC : kd iC = .pure) :
    PSs X (s1 :: s2 :: sts) (fun E σ H => ∃ ρ γ F d γ', SE (cfgP kd F0 H0) ρ γ σ F H ∧ (∀ x, matS iL iR iC iM kd rest x ρ γ = some (.rt d, γ')) ∧ FinO (cfgP kd F0 H0) (.rt d) γ' F E) := by
  let restT : TS := fun E σ H => ∃ M x F H2, MatF (He.ga X.K "Matching") M x F ∧ tS (cfgP kd F H2) (rest M x) E σ H
  have hrest : PSs X sts restT := ⟨fun pins s σ H E I q => by
    obtain ⟨M, x, F, H2, hM, q⟩ := q
    exact (h3 M x F H2 hM).run pins s σ H E I q⟩
  let growT : TS := fun E σ H => ∃ Wy, tDrop (tMeth (He.ga X.K "Matching") "grow" (spGrow (He.ga X.K "Matching") Wy FUEL) [] E0 (tVar iM) tNil) E σ H
  have hgrow : PS X s2 growT := ⟨fun pins s σ H E I q => by
    obtain ⟨Wy, q⟩ := q
    exact (h2 Wy).run pins s σ H E I q⟩
  refine PSs.imp (pss_cons h1 (pss_cons hgrow hrest)) fun E σ H q => ?_
  obtain ⟨ρ, γ, F, d, γ', se, hg, q⟩ := q
  have hg0 := hg 0
  obtain ⟨dl, t1, hg0⟩ := bnd hg0
  obtain ⟨dr, t2, hg0⟩ := bnd hg0
  obtain ⟨dc, t3, hg0⟩ := bnd hg0
  obtain ⟨L, t4, hg0⟩ := bnd hg0
  obtain ⟨Rr, t5, hg0⟩ := bnd hg0
  obtain ⟨cs, t6, hg0⟩ := bnd hg0
  split at hg0
  rotate_left 1
  · cases hg0
  rename_i hcond
  obtain ⟨c1, c2, c3, c4, c5⟩ := hcond
  obtain ⟨ms, t7, _⟩ := bnd hg0
  have hgx : ∀ x, frzS (rest ⟨L, Rr, waysOf L cs, ms⟩ x) (ρ.set iM (some (objD x))) γ = some (.rt d, γ') := fun x => by
    have := hg x
    unfold matS at this
    rw [t1, t2, t3] at this
    simp only [Option.bind_some] at this
    rw [t4, t5, t6] at this
    simp only [Option.bind_some] at this
    rw [if_pos ⟨c1, c2, c3, c4, c5⟩, t7] at this
    exact this
  have el := strsOf_eq t4
  have er := strsOf_eq t5
  have ec := pairsOf_eq t6
  subst el er ec
  obtain ⟨vl, hvl, dl⟩ := se.slot (tupAt_un t1) hkL
  obtain ⟨vr, hvr, dr⟩ := se.slot (tupAt_un t2) hkR
  obtain ⟨vc, hvc, dc⟩ := se.slot (tupAt_un t3) hkC
  have nn : ∀ {a : Addr}, H a = none → (cfgP kd F0 H0).H0 a = none := fun {a} e => by
    cases z : (cfgP kd F0 H0).H0 a with
    | none => rfl
    | some o => exact absurd e (se.ent.dom a (by rw [z]; simp))
  refine ⟨vl, hvl, vr, hvr, vc, hvc, fun x dx hx hdx hne => ?_⟩
  have kF1 : Same F (upd (upd H dx (.own x)) x (.ins (He.ga X.K "Matching") dx [])) := fun a o e => by
    have := se.fh a o e
    rw [upd_ne (ne_of_none this hx), upd_ne (ne_of_none this hdx)]
    exact this
  refine ⟨x, dx, vl, vr, vc, F, L, Rr, cs, rfl, kF1, se.fh.free hx, upd_same, dl, dr, dc, c1, c2, fun H' F' Wa m wk dx' kF kH hx' hW hm nWm fx fW fm oW om hw keep => ⟨rfl, ?_⟩⟩
  have fresh : ∀ {a : Addr}, upd (upd H dx (.own x)) x (.ins (He.ga X.K "Matching") dx []) a = none → a ≠ x ∧ H a = none := fun {a} e => by
    have n1 : a ≠ x := fun z => by rw [z, upd_same] at e; cases e
    rw [upd_ne n1] at e
    have n2 : a ≠ dx := fun z => by rw [z, upd_same] at e; cases e
    rw [upd_ne n2] at e
    exact ⟨n1, e⟩
  have oldk : ∀ a o, H a = some o → H' a = some o := fun a o e => keep a o (by rw [upd_ne (ne_of_none e hx), upd_ne (ne_of_none e hdx)]; exact e) (ne_of_none e hx)
  obtain ⟨al, xl, rfl, hal, dal⟩ : ∃ al xl, vl = .ref al ∧ F al = some (.tup xl) ∧ DvAll F xl (strsD L) := by
    cases dl with
    | tup e a => exact ⟨_, _, rfl, e, a⟩
  have exl := dv_strs dal
  subst exl
  have hs : (σ.set iM (some (V.ref x)))[iM]? = some (some (.ref x)) := List.getElem?_set_self (by rw [← se.len]; exact c5)
  have hways : ∀ k l, lkW (waysOf L cs) k = some l → ∃ a, valV wk (Sum.inr k : Key) = some (.ref a) ∧ H' a = some (.lst (l.map .str)) ∧ H a = none := fun k l e => by
    obtain ⟨e1, e2⟩ := lkW_of e
    obtain ⟨a, h1, h2, h3, h4⟩ := hw k e1
    subst e2
    exact ⟨a, h1, h2, (fresh h4).2⟩
  refine ⟨waysOf L cs, .ref x, hs, x, dx', _, rfl, hx', rfl, x, m, L, [], ms, rfl, ⟨⟨dx', al, vr, Wa, wk, hx', kH _ _ (kF _ _ hal), hW, fun k l e => (hways k l e).imp fun a h => ⟨h.1, h.2.1⟩, nWm⟩, hm⟩, t7, fun H2 hm2 keep2 => ?_⟩
  obtain ⟨nmx, om'⟩ := fresh om
  obtain ⟨nWx, oW'⟩ := fresh oW
  -- all that is new is frozen
  let F3 : Hp := fun b => if H b = none then H2 b else F b
  have f3n : ∀ {b : Addr}, H b = none → F3 b = H2 b := fun {b} e => if_pos e
  have f3o : ∀ {b : Addr}, H b ≠ none → F3 b = F b := fun {b} e => if_neg e
  have old2 : ∀ a o, H a = some o → H2 a = some o := fun a o e => keep2 a o (oldk a o e) (ne_of_none e om')
  have k1 : Same F F3 := fun a o e => by rw [f3o (by rw [se.fh a o e]; simp)]; exact e
  have k2 : Same F3 H2 := fun a o e => by
    by_cases h : H a = none
    · rw [f3n h] at e; exact e
    · rw [f3o h] at e; exact old2 a o (se.fh a o e)
  have st : Stp none F H F3 H2 := ⟨k1, k2, fun a o e _ => old2 a o e, fun a e => by
    cases z : H a with
    | none => exact absurd z e
    | some o => rw [old2 a o z]; simp, fun a e n => by rw [f3o n]; exact e⟩
  have x2 : H2 x = some (.ins (He.ga X.K "Matching") dx' [("lefts", .ref al), ("rights", vr), ("ways", .ref Wa), ("mates", .ref m)]) := keep2 x _ hx' (Ne.symm nmx)
  have hM : MatF (He.ga X.K "Matching") ⟨L, Rr, waysOf L cs, ms⟩ x F3 := by
    refine ⟨dx', .ref al, vr, Wa, wk, m, by rw [f3n hx]; exact x2, .tup (k1 _ _ hal) strs_dv, dr.up k1, by rw [f3n oW']; exact keep2 Wa _ hW nWm, by rw [f3n om']; exact hm2, fun k l e => ?_⟩
    obtain ⟨a, h1, h2, h3⟩ := hways k l e
    exact ⟨a, h1, by rw [f3n h3]; exact keep2 a _ h2 fun z => by rw [z, hm] at h2; cases h2⟩
  refine ⟨⟨L, Rr, waysOf L cs, ms⟩, x, F3, H2, hM, ρ.set iM (some (objD x)), γ, F3, .rt d, γ', ⟨Stp.refl k2, trivial, fun a z => z.elim, fun p q e => (by cases e), by simpa using se.len, fun _ => [], fun i dd e => ?_, fun i a m => (by cases m), fun i j _ a m => (by cases m)⟩, ?_, ?_⟩
  · rcases set_get e with ⟨e1, e2, e3⟩ | ⟨e1, e2⟩
    · subst e1
      cases e2
      refine ⟨.ref x, hs, ?_⟩
      show SlOk F3 H2 (kd i) _ _ _
      rw [c4]
      exact ⟨.obj, rfl⟩
    · have hk := pureAt_un c3 e2
      obtain ⟨v, hv, dv⟩ := se.slot e2 hk
      refine ⟨v, by rw [List.getElem?_set_ne (Ne.symm e1)]; exact hv, ?_⟩
      show SlOk F3 H2 (kd i) _ _ _
      rw [hk]
      exact ⟨dv.up k1, rfl⟩
  · have := hgx x
    unfold frzS at this
    obtain ⟨⟨r, γ2⟩, e1, e2⟩ := bnd this
    cases r with
    | nx _ => cases e2
    | rt z =>
      cases e2
      exact e1
  · exact fun v F5 H5 k5 st5 _ dv5 => q v F5 H5 (k1.trans k5) ((se.ent.trans st).trans st5) trivial dv5
end
end TK
end
section
set_option Elab.async false
set_option linter.all false
set_option maxRecDepth 100000
set_option maxHeartbeats 4000000
namespace TK
open PySem PySem.Spec PyProof.Rows L2
/-- what holds whatever the address -/
def tX (C : Cfg) (b : Addr → GS) : TS := fun E σ H => ∃ ρ γ F d γ', SE C ρ γ σ F H ∧ (∀ x, b x ρ γ = some (.rt d, γ')) ∧ FinO C (.rt d) γ' F E
theorem dss_consX {X : Cx} {C : Cfg} {s : Stmt} {rest : List Stmt} {g : GS} {b : Addr → GS} (h1 : DS X C s g) (h2 : PSs X rest (tX C b)) : PSs X (s :: rest) (tX C fun x => seqS g (b x)) := PSs.imp (pss_cons h1 h2) fun E σ H q => by
  obtain ⟨ρ, γ, F, d, γ', se, hg, q⟩ := q
  obtain ⟨⟨o1, γ1⟩, e1, _⟩ := bnd (hg 0)
  refine ⟨ρ, γ, F, o1, γ1, se, e1, ?_⟩
  have hx : ∀ x, (match o1 with
    | .nx ρ' => b x ρ' γ1
    | .rt d => some (.rt d, γ1)) = some (.rt d, γ') := fun x => by
    have this : seqS g (b x) ρ γ = some (.rt d, γ') := hg x
    unfold seqS at this
    rw [e1] at this
    exact this
  cases o1 with
  | nx ρ1 => exact fun σ' F' H' k se' => ⟨ρ1, γ1, F', d, γ', se', hx, q.mono k⟩
  | rt z =>
    have := hx 0
    cases this
    exact q
open Classical in
noncomputable def runAll (n : Nat) (g : Addr → GS) (ds : List D) : Option D := if h : ∃ d, ∀ x, g x (startE n ds) (0, []) = some (.rt d, (0, [])) then some h.choose else none
theorem runAll_un {n : Nat} {g : Addr → GS} {ds : List D} {d : D} (h : runAll n g ds = some d) : ∀ x, g x (startE n ds) (0, []) = some (.rt d, (0, [])) := by
  unfold runAll at h
  split at h
  · rename_i hx
    cases h
    exact hx.choose_spec
  · cases h
theorem runAll_of {n : Nat} {g : Addr → GS} {ds : List D} {d : D} (h : ∀ x, g x (startE n ds) (0, []) = some (.rt d, (0, []))) : runAll n g ds = some d := by
  have hx : ∃ d, ∀ x, g x (startE n ds) (0, []) = some (.rt d, (0, [])) := ⟨d, h⟩
  unfold runAll
  rw [dif_pos hx]
  have := (hx.choose_spec 0).symm.trans (h 0)
  injection this with this
  injection this with h1 _
  injection h1 with h1
  rw [h1]
section
variable {P : Program} {w : World} {K : PySem.W.Frag} {mg : Str → Option Value} {base : Heap} {x : Str} {N ps : List Str} {k n : Nat} {g : Addr → GS} {d : He.DefD}
theorem fk_all (W : Wd K mg) (i j : Nat) (hd : fn[j]? = some d) (hx : fa[i]? = some (.glo x)) (e1 : d.dfl = []) (e2 : d.kwd = []) (e3 : d.at_ = (x, none)) (S : FnScope N ps d.scope) (kd : Nat → Kd) (hps : ps.length = n) (hkd : ((List.range n).all fun i => decide (kd i = .pure)) = true)
    (hb : ∀ (kV doc pm : Value) (an : Option Addr) (cdv ct : Value) (us : List Value), us.length = ps.length → bindArgs (PySem.W.fnOf d.name d.qual d.params d.body d.scope .none kV doc pm an cdv ct) ⟨us, []⟩ = pure (ps.zip us))
    (hbody : ∀ (f : Addr) (cdv : Value) (A : Around) (outer : List PySem.Env) (s : Shared) (H F : Hp) (E : XK), Room k (A.deeper (envOfC d.qual d.scope s.heap.objs.size f cdv)) → PSs (cxOf CX0 P w K mg base N d.qual d.scope f cdv A outer s H E).nox d.body (tX (cfgP kd F H) g)) :
    Fk P w K mg base (k + 1) x ps (spD n (runAll N.length g)) :=
  fk_of W i j hd hx e1 e2 e3 (fun f fd Fd => Fd.ok S (fun vs H Q E h => by
      obtain ⟨F, ds, d, hl, k, al, _⟩ := h
      rw [al.len, hl, hps]) fun cdv A outer s H vs Q E hr h => by
    obtain ⟨F, ds, d, hl, k, al, hf, q⟩ := h
    refine ⟨_, PSs.nox (hbody f cdv A outer s H F E hr), ?_⟩
    refine ⟨startE N.length ds, (0, []), F, d, (0, []), ⟨Stp.refl k, trivial, fun a z => z.elim, fun p q e => (by cases e), ?_, fun _ => [], fun i d e => ?_, fun i a m => (by cases m), fun i j _ a m => (by cases m)⟩, runAll_un hf, fun v F' H' _ st _ dv => q v F' H' st dv⟩
    · unfold startE L2.start
      rw [List.length_append, List.length_append, List.length_map, List.length_map, List.length_replicate, List.length_replicate, al.len]
    · obtain ⟨v, hv, dv⟩ := start_get al e
      refine ⟨v, hv, ?_⟩
      have hi : i < ds.length := by
        rcases Nat.lt_or_ge i ds.length with h | h
        · exact h
        · unfold startE at e
          rw [List.getElem?_append_right (by simpa using h), List.getElem?_replicate] at e
          split at e <;> cases e
      show SlOk F H (kd i) v d []
      rw [of_decide_eq_true (List.all_eq_true.mp hkd i (List.mem_range.mpr (by rw [← hl]; exact hi)))]
      exact ⟨dv, rfl⟩) hb
end
end TK
end
section
set_option Elab.async false
set_option linter.all false
set_option maxRecDepth 100000
set_option maxHeartbeats 4000000
namespace TK
open PySem PySem.Spec PyProof.Rows L2
def g_hands_rest (M : MS) (x : Addr) : GS := seqS (ownS 4 (compN (seqI (varE 2)) (tgN 7) (yesT) (tupE (consA (cE (.str "step")) (consA (varE 7) (nilA)))) [7])) (seqS (extS 4 (newE (compN (seqI (roE 3 x (f_Matching_matched M))) (tgT [8, 9]) (yesT) (tupE (consA (cE (.str "pair")) (consA (varE 8) (consA (varE 9) (nilA))))) [8, 9]))) (seqS (extS 4 (newE (compN (seqI (unE sortedD (roE 3 x (f_Matching_single M)))) (tgN 7) (yesT) (tupE (consA (cE (.str "make")) (consA (varE 7) (nilA)))) [7]))) (retS (tupE (consA (unE tupleD (varE 4)) (consA (unE tupleD (unE sortedD (binE addD (varE 2) (roE 3 x (f_Matching_free M))))) (nilA)))))))
def g_hands (x : Addr) : GS := seqS (setS 2 (callE f_step_names (consA (varE 0) (nilA)))) (seqS (tgtS (tgT [5, 6]) (callE f_lacking (consA (varE 0) (nilA)))) (matS 5 6 1 3 (kdOf [.pure, .pure, .pure, .pure, .lst, .pure, .pure, .pure, .pure, .pure]) g_hands_rest x))
noncomputable def f_hands : List D → Option D := runAll 10 g_hands
end TK
end
section
set_option Elab.async false
set_option linter.all false
set_option maxRecDepth 100000
set_option maxHeartbeats 4000000
namespace TK
open PySem PySem.Spec PyProof.Rows L2
section
variable {P : Program} {w : World} {K : PySem.W.Frag} {mg : Str → Option Value} {base : Heap}
theorem sc_hands : FnScope ["book", "couples", "steps", "matching", "told", "lefts", "rights", "name", "one", "other"] ["book", "couples"] d_hands.scope := ⟨rfl, rfl, rfl, by decide +kernel, rfl, by decide +kernel, by decide +kernel⟩
theorem ok_hands (W : Wd K mg) : Fk P w K mg base 24 "hands" ["book", "couples"] (spD 2 f_hands) := by
  have S := sc_hands
  refine fk_all (g := g_hands) (d := d_hands) (N := ["book", "couples", "steps", "matching", "told", "lefts", "rights", "name", "one", "other"]) W 16 22 rfl rfl rfl rfl rfl S (kdOf [.pure, .pure, .pure, .pure, .lst, .pure, .pure, .pure, .pure, .pure]) rfl rfl (fun _ _ _ _ _ _ us hl => match us, hl with | [_, _], _ => rfl) fun f cdv A outer s H F E hr => ?_
  obtain ⟨fdI, I1, I2⟩ := (ok_init W : Fm P w K mg base 1 "__init__" _ _)
  refine dss_consX (ds_set (ps_set (i := 2) S.nd rfl (by first | exact .inl rfl | exact .inr rfl) (de_callF (ok_step_names W) hr (by decide) rfl (da_cons (de_var (pv 0) rfl) (da_nil)) (consA_len (nilA_len)))) rfl rfl) (dss_consX (ds_tgt (ps_asg (de_callF (ok_lacking W) hr (by decide) rfl (da_cons (de_var (pv 0) rfl) (da_nil)) (consA_len (nilA_len))) (dg_tup rfl (dgs_cons (pg_name (i := 5) S.nd rfl (by first | exact .inl rfl | exact .inr rfl)) rfl rfl (dgs_cons (pg_name (i := 6) S.nd rfl (by first | exact .inl rfl | exact .inr rfl)) rfl rfl (dgs_nil)))))) (pss_mat (rest := g_hands_rest) W (ps_set (i := 3) S.nd rfl (by first | exact .inl rfl | exact .inr rfl) (pe_make W.mkr I1 (hr.mono (by decide)) rfl (W.glo 55) I2 .nil pass0 (pa_cons (pv 5) (pa_cons (pv 6) (pa_cons (pv 1) pa_nil))))) (fun Wy => ?_) (fun M x F H hM => ?_) rfl rfl rfl))
  · obtain ⟨fdG, G1, G2⟩ := (ok_grow W Wy FUEL : Fm P w K mg base (FUEL + 2) "grow" _ _)
    exact ps_expr (pe_meth0 (pv 3) W.cls (W.meth 81) G1 (hr.mono (by decide)) G2 .nil pass0)
  · exact dss_cons (ds_own (ps_comp (i := 4) (own := [("name", 7)]) (is := [7]) rfl S.nd rfl rfl rfl rfl rfl rfl rfl rfl (PI.rd (pi_seq (de_var (pv 2) rfl))) (fun _ _ _ _ _ _ => dg_name (pg_name (i := 7) S.nd rfl (by first | exact .inl rfl | exact .inr rfl)) rfl rfl) (fun _ _ _ _ _ _ => dts_nil) (fun _ _ _ _ _ _ => de_tup (da_cons (de_str) (da_cons (de_var (pv 7) rfl) (da_nil))))) rfl rfl rfl)
        (dss_cons (ds_ext (pv 4) (DE.rd (NE.de (ne_comp (own := [("one", 8), ("other", 9)]) (is := [8, 9]) rfl S.nd rfl rfl rfl (PI.rd (pi_seq (de_ro hM (pv 3) rfl W.cls (W.meth 82) rfl (ok_Matching_matched W M) hr (by decide) (fun _ _ _ _ => rfl)))) (fun _ _ _ _ _ _ => dg_tup rfl (dgs_cons (pg_name (i := 8) S.nd rfl (by first | exact .inl rfl | exact .inr rfl)) rfl rfl (dgs_cons (pg_name (i := 9) S.nd rfl (by first | exact .inl rfl | exact .inr rfl)) rfl rfl (dgs_nil)))) (fun _ _ _ _ _ _ => dts_nil) (fun _ _ _ _ _ _ => de_tup (da_cons (de_str) (da_cons (de_var (pv 8) rfl) (da_cons (de_var (pv 9) rfl) (da_nil)))))))) rfl)
        (dss_cons (ds_ext (pv 4) (DE.rd (NE.de (ne_comp (own := [("name", 7)]) (is := [7]) rfl S.nd rfl rfl rfl (PI.rd (pi_seq (de_b1 (cl_sorted hr.units) rfl (W.free 59) b_sorted (DE.rd (de_ro hM (pv 3) rfl W.cls (W.meth 83) rfl (ok_Matching_single W M) hr (by decide) (fun _ _ _ _ => rfl)))))) (fun _ _ _ _ _ _ => dg_name (pg_name (i := 7) S.nd rfl (by first | exact .inl rfl | exact .inr rfl)) rfl rfl) (fun _ _ _ _ _ _ => dts_nil) (fun _ _ _ _ _ _ => de_tup (da_cons (de_str) (da_cons (de_var (pv 7) rfl) (da_nil))))))) rfl)
        (dss_one (ds_ret (ps_ret (de_tup (da_cons (de_y1 cl_tuple rfl (W.free 57) b_tuple (re_own (pv 4) rfl)) (da_cons (de_y1 cl_tuple rfl (W.free 57) b_tuple (DE.rd (de_b1 (cl_sorted hr.units) rfl (W.free 59) b_sorted (DE.rd (de_op op_addD (de_var (pv 2) rfl) (de_ro hM (pv 3) rfl W.cls (W.meth 84) rfl (ok_Matching_free W M) hr (by decide) (fun _ _ _ _ => rfl))))))) (da_nil)))))))))
end
end TK
end
section
set_option Elab.async false
set_option linter.all false
set_option maxRecDepth 100000
set_option maxHeartbeats 4000000
/-! The script, as the law's draws read it. -/
namespace TK
open PySem PySem.Spec PyProof.Rows L2
def intsL (ns : List Int) : List D := ns.map PyData.int
def scrIx (i : Nat) (x : Addr) (ns : List Int) : GE := fun ρ γ => if isObjAt ρ i x then (match ns with
  | [] => none
  | n :: _ => some (.int n, γ)) else none
def scrI (i : Nat) (x : Addr) (ns : List Int) : GA := fun ρ γ => if isObjAt ρ i x then some (intsL ns, γ) else none
section
variable {X : Cx} {C : Cfg} {pos py ap : Pos} {y : Str} {i : Nat} {x : Addr} {ns : List Int}
theorem scr_at {ρ : Env} {γ : G} {σ : L2.St} {F H : Hp} (hS : SqL X.K C.F0 x (ns.map V.int)) (se : SE C ρ γ σ F H) : SqL X.K H x (ns.map V.int) := Same.seq (fun a o e => se.fh a o (se.ent.ff a o e)) hS
theorem de_slen {p : Pos} (hS : SqL X.K C.F0 x (ns.map V.int)) (hy : PE X (.Name y py) (tVar i)) (hk : C.kd i = .pure) (hg : Gl X "len") (hm : X.mg "len" = none)
    (he : starEach (.Name y py :: []) X.env = (false, eval (.Name y py) X.env) :: starEach [] X.env := by rfl) (hpl : (backTo pos (starEach [] X.env)).any (·.1) = false := by rfl) :
    DE X C (.Call (.Name "len" p) (.Name y py :: []) [] pos) (objE i x (.int ns.length)) :=
  PE.imp (pe_callB call_len hg hm boot_len (pa_cons hy pa_nil he) (by decide) (by decide) he hpl) fun σ H Q q => by
    obtain ⟨ρ, γ, F, d, γ', se, hg, q⟩ := q
    obtain ⟨h1, rfl, rfl⟩ := objE_un hg
    refine ⟨_, obj_at se hk h1, _, (ns.map V.int).length, rfl, Or.inl ⟨_, scr_at hS se, rfl⟩, ?_⟩
    rw [List.length_map]
    exact q (.int ns.length) F H (Stp.refl se.fh) se.dr (.int _)
theorem de_six {j : Nat} {ip : Pos} (hS : SqL X.K C.F0 x (ns.map V.int)) (hy : PE X (.Name y py) (tVar i)) (hk : C.kd i = .pure) : DE X C (.Subscript (.Name y py) (.Constant (.int 0) j ip) pos) (scrIx i x ns) := PE.imp (pe_ix ix_seq hy pe_int (fun _ _ => rfl)) fun σ H Q q => by
  obtain ⟨ρ, γ, F, d, γ', se, hg, q⟩ := q
  unfold scrIx at hg
  split at hg
  · rename_i h1
    cases ns with
    | nil => cases hg
    | cons n ns =>
      cases hg
      exact ⟨_, obj_at se hk h1, .inl ⟨_, _, _, _, rfl, rfl, scr_at hS se, atI0 _ _, q _ F H (Stp.refl se.fh) se.dr (.int _)⟩⟩
  · cases hg
theorem okS {K : PySem.W.Frag} {a : Addr} {xs : List V} {ds : List D} {R : Hp → Hp → Prop} (h : ∀ F H, R F H → Same F H → SqL K H a xs ∧ DvAll F xs ds) : ItOk (Itl K a) R ds := by
  intro F H r k i
  obtain ⟨eH, al⟩ := h F H r k
  refine ⟨fun hi => ⟨xs, eH, by rw [al.len]; exact hi⟩, fun d hd => ?_⟩
  obtain ⟨v, hv, dv⟩ := al.get hd
  refine ⟨⟨xs, v, eH, hv⟩, fun x H' y => ?_⟩
  obtain ⟨e1, y⟩ := y
  subst e1
  have e2 := y xs eH
  rw [hv] at e2
  cases e2
  exact ⟨F, Stp.refl k, dv⟩
theorem pi_scr {tg : Expr} (hS : SqL X.K C.F0 x (ns.map V.int)) (hy : PE X (.Name y py) (tVar i)) (hk : C.kd i = .pure) : PI X tg (.Name y py) (tI C (scrI i x ns)) := PI.imp (pi_list hy) fun σ H R h => by
  obtain ⟨ρ, γ, F, ds, γ', se, hg, q⟩ := h
  unfold scrI at hg
  split at hg
  · rename_i h1
    cases hg
    refine ⟨_, obj_at se hk h1, x, rfl, ⟨_, scr_at hS se⟩, q F H _ (Stp.refl se.fh) se.dr (okS fun F2 H2 k k2 => ⟨Same.seq (fun a o e => k2 a o (k a o (se.ent.ff a o e))) hS, ints_dv⟩)⟩
  · cases hg
theorem de_sslice {lo hi : Int} {j1 j2 : Nat} {p1 p2 p3 : Pos} (hS : SqL X.K C.F0 x (ns.map V.int)) (hy : PE X (.Name y py) (tVar i)) (hk : C.kd i = .pure) :
    DE X C (.Subscript (.Name y py) (.Slice (some (.Constant (.int lo) j1 p1)) (some (.Constant (.int hi) j2 p2)) none p3) pos) (objE i x (.list (cutD (intsL ns) (some lo) (some hi)))) := PE.imp (pe_slice sl_list hy (po_some pe_int) (po_some pe_int)) fun σ H Q q => by
  obtain ⟨ρ, γ, F, d, γ', se, hg, q⟩ := q
  obtain ⟨h1, rfl, rfl⟩ := objE_un hg
  refine ⟨_, obj_at se hk h1, _, rfl, _, rfl, _, _, rfl, scr_at hS se, fun p hp => ?_⟩
  have al : DvAll F (ns.map V.int) (intsL ns) := ints_dv
  exact q _ _ _ (Stp.new se.fh hp) (se.dr.step (Stp.new se.fh hp)) (.lst upd_same ((cut_dv al).up (same_new (se.fh.free hp))))
end
/-! ### the script's def -/
def spScr (K : PySem.W.Frag) (r : List Int → Addr → Option D) : Sp := fun vs H Q _ => ∃ a ns d, vs = [.ref a] ∧ SqL K H a (ns.map V.int) ∧ r ns a = some d ∧ ∀ v F' H', Stq H H F' H' → Dv F' v d → Q v H'
section
variable {P : Program} {w : World} {K : PySem.W.Frag} {mg : Str → Option Value} {base : Heap} {x : Str} {N ps : List Str} {k : Nat} {g : List Int → Addr → GS} {d : He.DefD}
theorem fk_scr (W : Wd K mg) (i j : Nat) (hd : fn[j]? = some d) (hx : fa[i]? = some (.glo x)) (e1 : d.dfl = []) (e2 : d.kwd = []) (e3 : d.at_ = (x, none)) (S : FnScope N ps d.scope) (kd : Nat → Kd) (hps : ps.length = 1) (hkd : kd 0 = .pure)
    (hb : ∀ (kV doc pm : Value) (an : Option Addr) (cdv ct : Value) (us : List Value), us.length = ps.length → bindArgs (PySem.W.fnOf d.name d.qual d.params d.body d.scope .none kV doc pm an cdv ct) ⟨us, []⟩ = pure (ps.zip us))
    (hbody : ∀ (f : Addr) (cdv : Value) (A : Around) (outer : List PySem.Env) (s : Shared) (H : Hp) (E : XK) (x : Addr) (ns : List Int), SqL K H x (ns.map V.int) → Room k (A.deeper (envOfC d.qual d.scope s.heap.objs.size f cdv)) → DSs (cxOf CX0 P w K mg base N d.qual d.scope f cdv A outer s H E).nox (cfgP kd H H) d.body (g ns x)) :
    Fk P w K mg base (k + 1) x ps (spScr K fun ns => runX N.length (g ns)) :=
  fk_of W i j hd hx e1 e2 e3 (fun f fd Fd => Fd.ok S (fun vs H Q E h => by
      obtain ⟨a, ns, d, rfl, _⟩ := h
      rw [hps] <;> rfl) fun cdv A outer s H vs Q E hr h => by
      obtain ⟨x, ns, z, rfl, hS, hf, q⟩ := h
      refine ⟨_, PSs.nox (hbody f cdv A outer s H E x ns hS hr), ?_⟩
      obtain ⟨⟨o, γ'⟩, e1, e2⟩ := bnd hf
      cases e2
      have al : DvAll H [.ref x] [objD x] := .cons .obj .nil
      refine ⟨startE N.length [objD x], (0, []), H, o, γ', ⟨Stp.refl (Same.refl H), trivial, fun a z => z.elim, fun p q e => (by cases e), ?_, fun _ => [], fun i d e => ?_, fun i a m => (by cases m), fun i j _ a m => (by cases m)⟩, e1, ?_⟩
      · unfold startE L2.start
        rw [List.length_append, List.length_append, List.length_map, List.length_map, List.length_replicate, List.length_replicate] <;> rfl
      · obtain ⟨v, hv, dv⟩ := start_get al e
        refine ⟨v, hv, ?_⟩
        have hi : i < 1 := by
          rcases Nat.lt_or_ge i 1 with h | h
          · exact h
          · unfold startE at e
            rw [List.getElem?_append_right (by simpa using h), List.getElem?_replicate] at e
            split at e <;> cases e
        show SlOk H H (kd i) v d []
        have e0 : i = 0 := by omega
        rw [e0, hkd]
        exact ⟨dv, rfl⟩
      · cases o with
        | nx ρ => exact fun σ F' H' _ se => q .non F' H' se.ent .non
        | rt d => exact fun v F' H' _ st _ dv => q v F' H' st dv) hb
end
end TK
end
section
set_option Elab.async false
set_option linter.all false
set_option maxRecDepth 100000
set_option maxHeartbeats 4000000
namespace TK
open PySem PySem.Spec PyProof.Rows L2
def g__law_draws (ns : List Int) (x : Addr) : GS := seqS (setS 1 (binE addD (objE 0 x (.int ns.length)) (cE (.int 11)))) (seqS (forS (scrI 0 x ns) (tgN 2) (setS 1 (binE modD (binE addD (binE addD (binE mulD (varE 1) (cE (.int 69069))) (binE modD (unE absD (varE 2)) (binE powD (cE (.int 10)) (cE (.int 40))))) (cE (.int 5))) (binE subD (binE powD (cE (.int 2)) (cE (.int 61))) (cE (.int 1)))))) (seqS (ifS (andT (valT (binE gtD (objE 0 x (.int ns.length)) (cE (.int 0)))) (valT (binE eqD (binE modD (scrIx 0 x ns) (cE (.int 2))) (cE (.int 1))))) (retS (newE (lstN (consA (varE 1) (consA (binE addD (newE (lstN (consA (binE fdivD (unE absD (scrIx 0 x ns)) (cE (.int 2))) (nilA)))) (newE (compN (seqI (objE 0 x (.list (cutD (intsL ns) (some 1) (some 63))))) (tgN 2) (yesT) (unE absD (varE 2)) [2]))) (nilA)))))) (nextS)) (retS (newE (lstN (consA (varE 1) (consA (newE (lstN (nilA))) (nilA))))))))
def f__law_draws (ns : List Int) : Addr → Option D := runX 3 (g__law_draws ns)
noncomputable def g_law_rest : GS := seqS (tgtS (tgT [6, 7]) (callGE f__law_book (nilA))) (seqS (tgtS (tgL [8, 9]) (callE f__law_lacking (consA (varE 6) (nilA)))) (seqS (setS 2 (callGE f__law_couples (consA (varE 8) (consA (varE 9) (nilA))))) (seqS (ifS (valT (binE eqD (callGE f__law_pick (consA (cE (.int 3)) (nilA))) (cE (.int 0)))) (setS 2 (callE f_fits_of (consA (varE 6) (consA (tupE (consA (tupE (consA (cE (.str "ka")) (consA (cE (.str "sol")) (nilA)))) (consA (tupE (consA (cE (.str "lo")) (consA (cE (.str "aur")) (nilA)))) (consA (tupE (consA (cE (.str "x")) (consA (cE (.str "9")) (nilA)))) (consA (tupE (consA (cE (.str "ka")) (consA (cE (.str "ka")) (nilA)))) (nilA)))))) (consA (cE (.int 1)) (nilA)))))) (nextS)) (seqS (tgtS (tgT [10, 11]) (callE f_hands (consA (varE 6) (consA (varE 2) (nilA))))) (seqS (ifS (orT (valT (binE neD (unE lenD (varE 10)) (unE lenD (varE 11)))) (valT (binE isntBD (callE f_shows_hands (consA (varE 6) (consA (varE 2) (consA (tupE (consA (varE 10) (consA (varE 11) (nilA)))) (nilA))))) (cE (.bool true))))) (retS (cE (.bool false))) (nextS)) (seqS (setS 3 (binE addD (callE f__law_latest (consA (varE 6) (nilA))) (callGE f__law_pick (consA (cE (.int 3)) (nilA))))) (seqS (setS 4 (callE f__law_behind (consA (varE 6) (consA (varE 10) (consA (varE 3) (nilA)))))) (seqS (ifS (orT (notT (valT (callE f__law_all_in_step (consA (varE 4) (nilA))))) (valT (binE isntBD (callE f_in_step (consA (varE 4) (nilA))) (cE (.bool true))))) (retS (cE (.bool false))) (nextS)) (seqS (forS (rngI (binE mulD (cE (.int 3)) (unE intD (binE neD (varE 10) (tupE (nilA)))))) (tgN 5) (seqS (setS 12 (callGE f__law_pick (consA (unE lenD (varE 10)) (nilA)))) (seqS (setS 13 (callE f__law_behind (consA (varE 6) (consA (binE addD (sliceE (varE 10) (noneO) (someO (varE 12))) (sliceE (varE 10) (someO (binE addD (varE 12) (cE (.int 1)))) (noneO))) (consA (varE 3) (nilA)))))) (ifS (orT (valT (callE f__law_all_in_step (consA (varE 13) (nilA)))) (valT (binE isntBD (callE f_in_step (consA (varE 13) (nilA))) (cE (.bool false))))) (retS (cE (.bool false))) (nextS))))) (retS (cE (.bool true))))))))))))
def lawSlot : Nat := 1
def lawLen : Nat := 14
def lawKd : Nat → Kd := (kdOf [.pure, .pure, .pure, .pure, .pure, .pure, .pure, .pure, .pure, .pure, .pure, .pure, .pure, .pure])
def cfgL (p q : Addr) (F H : Hp) : Cfg := { dr := some (p, q), ds := lawSlot, kd := lawKd, F0 := F, H0 := H }
end TK
end
section
set_option Elab.async false
set_option linter.all false
set_option maxRecDepth 100000
set_option maxHeartbeats 4000000
namespace TK
open PySem PySem.Spec PyProof.Rows L2
section
variable {P : Program} {w : World} {K : PySem.W.Frag} {mg : Str → Option Value} {base : Heap}
theorem sc__law_draws : FnScope ["_law_script", "_law_mixed", "_law_cell"] ["_law_script"] d__law_draws.scope := ⟨rfl, rfl, rfl, by decide +kernel, rfl, by decide +kernel, by decide +kernel⟩
theorem ok__law_draws (W : Wd K mg) : Fk P w K mg base 1 "_law_draws" ["_law_script"] (spScr K f__law_draws) :=
  have S := sc__law_draws
  fk_scr (g := g__law_draws) (d := d__law_draws) (N := ["_law_script", "_law_mixed", "_law_cell"]) W 41 47 rfl rfl rfl rfl rfl S (kdOf [.pure, .pure, .pure]) rfl rfl (fun _ _ _ _ _ _ us hl => match us, hl with | [_], _ => rfl) fun f cdv A outer s H E x ns hS hr =>
  dss_cons (ds_set (ps_set (i := 1) S.nd rfl (by first | exact .inl rfl | exact .inr rfl) (de_op op_addD (de_slen hS (pv 0) rfl rfl (W.free 56)) (de_int))) rfl rfl)
  (dss_cons (ds_for PassesOwn.never rfl (pi_scr hS (pv 0) rfl) (dg_name (pg_name (i := 2) S.nd rfl (by first | exact .inl rfl | exact .inr rfl)) rfl rfl) (dss_one (ds_set (ps_set (i := 1) S.nd rfl (by first | exact .inl rfl | exact .inr rfl) (de_op op_modD (de_op op_addD (de_op op_addD (de_op op_mulD (de_var (pv 1) rfl) (de_int)) (de_op op_modD (de_b1 cl_abs rfl (W.free 65) b_abs (DE.rd (de_var (pv 2) rfl))) (de_op op_powD (de_int) (de_int)))) (de_int)) (de_op op_subD (de_op op_powD (de_int) (de_int)) (de_int)))) rfl rfl)))
  (dss_cons (ds_if (WT.dt (wt_and (dt_cmp (op_gtDD hr.units) (de_slen hS (pv 0) rfl rfl (W.free 56)) (de_int) rfl) (wt_and1 (dt_cmp (op_eqDD hr.units) (de_op op_modD (de_six hS (pv 0) rfl) (de_int)) (de_int) rfl)))) (dss_one (ds_ret (ps_ret (NE.de (ne_lst (da_cons (de_var (pv 1) rfl) (da_cons (de_op op_addD (NE.de (ne_lst (da_cons (de_op op_fdivD (de_b1 cl_abs rfl (W.free 65) b_abs (DE.rd (de_six hS (pv 0) rfl))) (de_int)) (da_nil)))) (NE.de (ne_comp (own := [("_law_cell", 2)]) (is := [2]) rfl S.nd rfl rfl rfl (PI.rd (pi_seq (de_sslice hS (pv 0) rfl))) (fun _ _ _ _ _ _ => dg_name (pg_name (i := 2) S.nd rfl (by first | exact .inl rfl | exact .inr rfl)) rfl rfl) (fun _ _ _ _ _ _ => dts_nil) (fun _ _ _ _ _ _ => de_b1 cl_abs rfl (W.free 65) b_abs (DE.rd (de_var (pv 2) rfl)))))) (da_nil)))))))) (dss_nil))
  (dss_one (ds_ret (ps_ret (NE.de (ne_lst (da_cons (de_var (pv 1) rfl) (da_cons (NE.de (ne_lst (da_nil))) (da_nil))))))))))
theorem sc_law : FnScope ["_law_script", "_law_draws_here", "_law_couples_here", "_law_t", "_law_behind_here", "_law_turn", "_law_book_here", "_law_words", "_law_lefts", "_law_rights", "_law_told", "_law_paper", "_law_at", "_law_less"] ["_law_script"] d_law.scope := ⟨rfl, rfl, rfl, by decide +kernel, rfl, by decide +kernel, by decide +kernel⟩
theorem walk_law (W : Wd K mg) (T : Wt w K) (f : Addr) (cdv : Value) (A : Around) (outer : List PySem.Env) (s : Shared) (H : Hp) (E : XK) (hr : Room 24 (A.deeper (envOfC d_law.qual d_law.scope s.heap.objs.size f cdv))) (p q : Addr) (F0 H0 : Hp) :
    DSs (cxOf CX0 P w K mg base ["_law_script", "_law_draws_here", "_law_couples_here", "_law_t", "_law_behind_here", "_law_turn", "_law_book_here", "_law_words", "_law_lefts", "_law_rights", "_law_told", "_law_paper", "_law_at", "_law_less"] d_law.qual d_law.scope f cdv A outer s H E).nox (cfgL p q F0 H0) (d_law.body.drop 1) g_law_rest :=
  have S := sc_law
  dss_cons (ds_tgt (ps_asg (de_callGF (ok__law_book W) hr (by decide) rfl rfl (pv 1) (da_nil) (nilA_len)) (dg_tup rfl (dgs_cons (pg_name (i := 6) S.nd rfl (by first | exact .inl rfl | exact .inr rfl)) rfl rfl (dgs_cons (pg_name (i := 7) S.nd rfl (by first | exact .inl rfl | exact .inr rfl)) rfl rfl (dgs_nil))))))
  (dss_cons (ds_tgt (ps_asg (de_callF (ok__law_lacking W) hr (by decide) rfl (da_cons (de_var (pv 6) rfl) (da_nil)) (consA_len (nilA_len))) (dg_lst rfl (dgs_cons (pg_name (i := 8) S.nd rfl (by first | exact .inl rfl | exact .inr rfl)) rfl rfl (dgs_cons (pg_name (i := 9) S.nd rfl (by first | exact .inl rfl | exact .inr rfl)) rfl rfl (dgs_nil))))))
  (dss_cons (ds_set (ps_set (i := 2) S.nd rfl (by first | exact .inl rfl | exact .inr rfl) (de_callGF (ok__law_couples W) hr (by decide) rfl rfl (pv 1) (da_cons (de_var (pv 8) rfl) (da_cons (de_var (pv 9) rfl) (da_nil))) (consA_len (consA_len (nilA_len))))) rfl rfl)
  (dss_cons (ds_if (dt_cmp (op_eqDD hr.units) (de_callGF (ok__law_pick W) hr (by decide) rfl rfl (pv 1) (da_cons (de_int) (da_nil)) (consA_len (nilA_len))) (de_int) rfl) (dss_one (ds_set (ps_set (i := 2) S.nd rfl (by first | exact .inl rfl | exact .inr rfl) (de_callF (ok_fits_of W) hr (by decide) rfl (da_cons (de_var (pv 6) rfl) (da_cons (de_tup (da_cons (de_tup (da_cons (de_str) (da_cons (de_str) (da_nil)))) (da_cons (de_tup (da_cons (de_str) (da_cons (de_str) (da_nil)))) (da_cons (de_tup (da_cons (de_str) (da_cons (de_str) (da_nil)))) (da_cons (de_tup (da_cons (de_str) (da_cons (de_str) (da_nil)))) (da_nil)))))) (da_cons (de_int) (da_nil)))) (consA_len (consA_len (consA_len (nilA_len)))))) rfl rfl)) (dss_nil))
  (dss_cons (ds_tgt (ps_asg (de_callF (ok_hands W) hr (by decide) rfl (da_cons (de_var (pv 6) rfl) (da_cons (de_var (pv 2) rfl) (da_nil))) (consA_len (consA_len (nilA_len)))) (dg_tup rfl (dgs_cons (pg_name (i := 10) S.nd rfl (by first | exact .inl rfl | exact .inr rfl)) rfl rfl (dgs_cons (pg_name (i := 11) S.nd rfl (by first | exact .inl rfl | exact .inr rfl)) rfl rfl (dgs_nil))))))
  (dss_cons (ds_if (WT.dt (wt_or (dt_cmp (op_neDD hr.units) (de_b1 cl_len rfl (W.free 56) b_len (DE.rd (de_var (pv 10) rfl))) (de_b1 cl_len rfl (W.free 56) b_len (DE.rd (de_var (pv 11) rfl))) rfl) (wt_or1 (dt_cmp op_isntBD (de_callF (ok_shows_hands W) hr (by decide) rfl (da_cons (de_var (pv 6) rfl) (da_cons (de_var (pv 2) rfl) (da_cons (de_tup (da_cons (de_var (pv 10) rfl) (da_cons (de_var (pv 11) rfl) (da_nil)))) (da_nil)))) (consA_len (consA_len (consA_len (nilA_len))))) (de_bl) rfl)))) (dss_one (ds_ret (ps_ret (de_bl)))) (dss_nil))
  (dss_cons (ds_set (ps_set (i := 3) S.nd rfl (by first | exact .inl rfl | exact .inr rfl) (de_op op_addD (de_callF (ok__law_latest W) hr (by decide) rfl (da_cons (de_var (pv 6) rfl) (da_nil)) (consA_len (nilA_len))) (de_callGF (ok__law_pick W) hr (by decide) rfl rfl (pv 1) (da_cons (de_int) (da_nil)) (consA_len (nilA_len))))) rfl rfl)
  (dss_cons (ds_set (ps_set (i := 4) S.nd rfl (by first | exact .inl rfl | exact .inr rfl) (de_callF (ok__law_behind W T) hr (by decide) rfl (da_cons (de_var (pv 6) rfl) (da_cons (de_var (pv 10) rfl) (da_cons (de_var (pv 3) rfl) (da_nil)))) (consA_len (consA_len (consA_len (nilA_len)))))) rfl rfl)
  (dss_cons (ds_if (WT.dt (wt_or (dt_not (dt_val (de_callF (ok__law_all_in_step W) hr (by decide) rfl (da_cons (de_var (pv 4) rfl) (da_nil)) (consA_len (nilA_len))))) (wt_or1 (dt_cmp op_isntBD (de_callF (ok_in_step W) hr (by decide) rfl (da_cons (de_var (pv 4) rfl) (da_nil)) (consA_len (nilA_len))) (de_bl) rfl)))) (dss_one (ds_ret (ps_ret (de_bl)))) (dss_nil))
  (dss_cons (ds_for PassesOwn.never rfl (pi_rngD rfl (W.free 68) (de_op op_mulD (de_int) (de_y1 cl_int rfl (W.free 66) b_int (DE.rd (de_cmp (op_neDD hr.units) (de_var (pv 10) rfl) (de_tup (da_nil)) rfl))))) (dg_name (pg_name (i := 5) S.nd rfl (by first | exact .inl rfl | exact .inr rfl)) rfl rfl) (dss_cons (ds_set (ps_set (i := 12) S.nd rfl (by first | exact .inl rfl | exact .inr rfl) (de_callGF (ok__law_pick W) hr (by decide) rfl rfl (pv 1) (da_cons (de_b1 cl_len rfl (W.free 56) b_len (DE.rd (de_var (pv 10) rfl))) (da_nil)) (consA_len (nilA_len)))) rfl rfl)
  (dss_cons (ds_set (ps_set (i := 13) S.nd rfl (by first | exact .inl rfl | exact .inr rfl) (de_callF (ok__law_behind W T) hr (by decide) rfl (da_cons (de_var (pv 6) rfl) (da_cons (de_op op_addD (de_slice (DE.rd (de_var (pv 10) rfl)) (do_none) (do_some (de_var (pv 12) rfl))) (de_slice (DE.rd (de_var (pv 10) rfl)) (do_some (de_op op_addD (de_var (pv 12) rfl) (de_int))) (do_none))) (da_cons (de_var (pv 3) rfl) (da_nil)))) (consA_len (consA_len (consA_len (nilA_len)))))) rfl rfl)
  (dss_one (ds_if (WT.dt (wt_or (dt_val (de_callF (ok__law_all_in_step W) hr (by decide) rfl (da_cons (de_var (pv 13) rfl) (da_nil)) (consA_len (nilA_len)))) (wt_or1 (dt_cmp op_isntBD (de_callF (ok_in_step W) hr (by decide) rfl (da_cons (de_var (pv 13) rfl) (da_nil)) (consA_len (nilA_len))) (de_bl) rfl)))) (dss_one (ds_ret (ps_ret (de_bl)))) (dss_nil))))))
  (dss_one (ds_ret (ps_ret (de_bl)))))))))))))
end
end TK
end
section
set_option Elab.async false
set_option linter.all false
set_option maxRecDepth 100000
set_option maxHeartbeats 4000000
/-! The law's def, whole. -/
namespace TK
open PySem PySem.Spec PyProof.Rows L2
def lawSem (ns : List Int) : Prop := ∃ m ds γ', (∀ x, f__law_draws ns x = some (.list [.int m, .list (intsL ds)])) ∧ g_law_rest (List.replicate lawLen none) (m, ds) = some (.rt (.bool true), γ')
def spLaw (K : PySem.W.Frag) : Sp := fun vs H Q _ => ∃ a ns, vs = [.ref a] ∧ SqL K H a (ns.map V.int) ∧ Only H ∧ lawSem ns ∧ ∀ H', Q (.bl true) H'
section
variable {P : Program} {w : World} {K : PySem.W.Frag} {mg : Str → Option Value} {base : Heap}
theorem law_fn (W : Wd K mg) (T : Wt w K) (f : Addr) (fd : FuncData) (Fd : FunD K d_law.name d_law.qual d_law.params d_law.body d_law.scope [] [] f fd) : FnOk P w K mg base CX0 25 f fd ["_law_script"] (spLaw K) :=
  have S := sc_law
  Fd.ok S (fun vs H Q E h => by
      obtain ⟨a, ns, rfl, _⟩ := h
      rfl) fun cdv A outer s H vs Q E hr h => by
    obtain ⟨a, ns, rfl, hS, hO, ⟨m, ds, γ', hd, hg⟩, q⟩ := h
    obtain ⟨fD, fdD, D1, D2, D3, D4⟩ := ok__law_draws (P := P) (w := w) (base := base) W
    let restT : TS := fun E σ H => ∃ p q F0 H0, tS (cfgL p q F0 H0) g_law_rest E σ H
    have hrest : PSs (cxOf CX0 P w K mg base ["_law_script", "_law_draws_here", "_law_couples_here", "_law_t", "_law_behind_here", "_law_turn", "_law_book_here", "_law_words", "_law_lefts", "_law_rights", "_law_told", "_law_paper", "_law_at", "_law_less"] d_law.qual d_law.scope f cdv A outer s H E).nox (d_law.body.drop 1) restT := ⟨fun pins s1 σ H1 En I q => by
      obtain ⟨p, q', F0, H0, q⟩ := q
      exact (walk_law W T f cdv A outer s H E hr p q' F0 H0).run pins s1 σ H1 En I q⟩
    refine ⟨_, PSs.nox (show PSs _ d_law.body _ from pss_cons (ps_set (i := 1) S.nd rfl (by first | exact .inl rfl | exact .inr rfl) (pe_call D1 (hr.mono (by decide)) rfl D2 D3 D4 .nil pass0 (pa_cons (pv 0) pa_nil))) hrest), ?_⟩
    refine ⟨.ref a, rfl, a, ns, _, by rfl, hS, hd a, fun v F' H' st dv => ?_⟩
    have hl : ∀ {b o}, F' b = some (.lst o) → H b = none := fun {b o} e => by
      rcases hO b with h | ⟨u, xs, h⟩
      · exact h
      · have := st.ff b _ h
        rw [e] at this
        cases this
    cases dv with
    | @lst p xs _ e al =>
    cases al with
    | cons d1 al =>
    cases al with
    | cons d2 al =>
    cases al
    cases d1
    cases d2 with
    | @lst q0 ys _ e2 al2 =>
    have ey := dv_ints al2
    subst ey
    have hpq : p ≠ q0 := fun z => by
      rw [z, e2] at e
      cases ds with
      | nil => cases e
      | cons d r =>
        simp only [List.map_cons, Option.some.injEq, HO.lst.injEq, List.cons.injEq] at e
        cases r with
        | nil => simp at e
        | cons d' r => simp at e
    refine ⟨p, q0, H, H', List.replicate lawLen none, (m, ds), H, _, γ', ⟨Stp.refl (fun b o x => st.same b o x), ⟨hpq, hl e, hl e2, st.fh _ _ e, st.fh _ _ e2⟩, fun b z => ?_, fun p' q' z => ?_, rfl, fun _ => [], fun i d z => ?_, fun i b z => (by cases z), fun i j _ b z => (by cases z)⟩, hg, fun v F5 H5 _ _ _ dv5 => ?_⟩
    · rcases z with z | z
      · rw [z]
        show H' p ≠ none
        rw [st.fh _ _ e]
        simp
      · rw [z]
        show H' q0 ≠ none
        rw [st.fh _ _ e2]
        simp
    · have z' : some (p, q0) = some (p', q') := z
      cases z'
      rfl
    · rw [List.getElem?_replicate] at z
      split at z <;> cases z
    · cases dv5
      exact q H5
end
end TK
end
section
set_option Elab.async false
set_option linter.all false
set_option maxRecDepth 100000
set_option maxHeartbeats 4000000
/-! Plain laws of data: equality, membership, sorting, loops. -/
namespace TK.M
open PySem PySem.Spec PyProof.Rows L2
/-! ### depth and kind -/
def flat (n : Nat) (d : D) : Prop := d.plain = true ∧ d.depth ≤ n
theorem flat_str (n : Nat) (x : Str) : flat n (.str x) := ⟨rfl, Nat.zero_le _⟩
theorem flat_int (n : Nat) (x : Int) : flat n (.int x) := ⟨rfl, Nat.zero_le _⟩
theorem flat_bool (n : Nat) (x : Bool) : flat n (.bool x) := ⟨rfl, Nat.zero_le _⟩
theorem flat_non (n : Nat) : flat n .none := ⟨rfl, Nat.zero_le _⟩
theorem flat_all {n : Nat} : ∀ {ds : List D}, (∀ d ∈ ds, flat n d) → PyData.plainAll ds = true ∧ PyData.depthAll ds ≤ n
  | [], _ => ⟨rfl, Nat.zero_le _⟩
  | d :: ds, h => by
    obtain ⟨h1, h2⟩ := h d List.mem_cons_self
    obtain ⟨h3, h4⟩ := flat_all (ds := ds) fun e he => h e (List.mem_cons_of_mem _ he)
    refine ⟨?_, ?_⟩
    · simp only [PyData.plainAll, h1, h3, Bool.and_self]
    · simp only [PyData.depthAll]
      omega
theorem flat_tup {n : Nat} {ds : List D} (h : ∀ d ∈ ds, flat n d) : flat (n + 1) (.tuple ds) := by
  obtain ⟨h1, h2⟩ := flat_all h
  exact ⟨by simpa [PyData.plain] using h1, by simp only [PyData.depth]; omega⟩
theorem flat_lst {n : Nat} {ds : List D} (h : ∀ d ∈ ds, flat n d) : flat (n + 1) (.list ds) := by
  obtain ⟨h1, h2⟩ := flat_all h
  exact ⟨by simpa [PyData.plain] using h1, by simp only [PyData.depth]; omega⟩
theorem flat.mono {n m : Nat} {d : D} (h : flat n d) (k : n ≤ m) : flat m d := ⟨h.1, Nat.le_trans h.2 k⟩
theorem flat.ok {n : Nat} {d : D} (h : flat n d) (k : n ≤ 30 := by decide) : okD d = true := by
  unfold okD
  rw [h.1, decide_eq_true (Nat.le_trans h.2 k)] <;> rfl
theorem flat_strs (n : Nat) (l : List Str) : ∀ d ∈ strsD l, flat n d := fun d h => by
  obtain ⟨x, _, rfl⟩ := List.mem_map.mp h
  exact flat_str n x
theorem flat_ints (n : Nat) (l : List Int) : ∀ d ∈ intsL l, flat n d := fun d h => by
  obtain ⟨x, _, rfl⟩ := List.mem_map.mp h
  exact flat_int n x
/-! ### equality -/
theorem eqv_str (x y : Str) : PyData.eqv (.str x) (.str y) = decide (x = y) := by
  show (x == y) = _
  exact Bool.beq_eq_decide_eq x y
theorem eqv_int (x y : Int) : PyData.eqv (.int x) (.int y) = decide (x = y) := by
  show (x == y) = _
  exact Bool.beq_eq_decide_eq x y
mutual
theorem eqv_refl : ∀ d : D, d.plain = true → PyData.eqv d d = true
  | .none, _ => by simp [PyData.eqv]
  | .bool b, _ => by simp [PyData.eqv]
  | .int i, _ => by simp [PyData.eqv]
  | .str x, _ => by simp [PyData.eqv]
  | .list xs, h => by
    simp only [PyData.eqv]
    exact eqvAll_refl xs (by simpa [PyData.plain] using h)
  | .tuple xs, h => by
    simp only [PyData.eqv]
    exact eqvAll_refl xs (by simpa [PyData.plain] using h)
  | .dict _, h => by simp [PyData.plain] at h
theorem eqvAll_refl : ∀ ds : List D, PyData.plainAll ds = true → PyData.eqvAll ds ds = true
  | [], _ => by simp [PyData.eqvAll]
  | d :: ds, h => by
    simp only [PyData.plainAll, Bool.and_eq_true] at h
    simp only [PyData.eqvAll, eqv_refl d h.1, eqvAll_refl ds h.2, Bool.and_self]
end
theorem eqvAll_map {α : Type} [DecidableEq α] (enc : α → D) (h : ∀ x y, PyData.eqv (enc x) (enc y) = decide (x = y)) : ∀ xs ys : List α, PyData.eqvAll (xs.map enc) (ys.map enc) = decide (xs = ys)
  | [], [] => by simp [PyData.eqvAll]
  | [], _ :: _ => by simp [PyData.eqvAll]
  | _ :: _, [] => by simp [PyData.eqvAll]
  | x :: xs, y :: ys => by
    simp only [List.map_cons, PyData.eqvAll, h x y, eqvAll_map enc h xs ys, List.cons.injEq]
    by_cases h1 : x = y <;> by_cases h2 : xs = ys <;> simp [h1, h2]
theorem eqvAll_strs (a b : List Str) : PyData.eqvAll (strsD a) (strsD b) = decide (a = b) := eqvAll_map PyData.str eqv_str a b
theorem eqvAll_ints (a b : List Int) : PyData.eqvAll (intsL a) (intsL b) = decide (a = b) := eqvAll_map PyData.int eqv_int a b
theorem eqD_of {d e : D} {n m : Nat} (h1 : flat n d) (h2 : flat m e) (k1 : n ≤ 30 := by decide) (k2 : m ≤ 30 := by decide) : eqD d e = some (.bool (PyData.eqv d e)) := by
  unfold eqD
  rw [h1.ok k1, h2.ok k2] <;> rfl
theorem neD_of {d e : D} {n m : Nat} (h1 : flat n d) (h2 : flat m e) (k1 : n ≤ 30 := by decide) (k2 : m ≤ 30 := by decide) : neD d e = some (.bool (!PyData.eqv d e)) := by
  unfold neD
  rw [h1.ok k1, h2.ok k2] <;> rfl
@[simp] theorem eqD_int (x y : Int) : eqD (.int x) (.int y) = some (.bool (decide (x = y))) := by
  rw [eqD_of (flat_int 0 x) (flat_int 0 y), eqv_int]
@[simp] theorem eqD_strs (x y : Str) : eqD (.str x) (.str y) = some (.bool (decide (x = y))) := eqD_str x y
/-! ### membership -/
theorem any_enc {α : Type} [DecidableEq α] (enc : α → D) (h : ∀ x y, PyData.eqv (enc x) (enc y) = decide (x = y)) (x : α) : ∀ l : List α, ((l.map enc).any fun y => PyData.eqv y (enc x)) = decide (x ∈ l)
  | [] => by simp
  | y :: l => by
    rw [List.map_cons, List.any_cons, h, any_enc enc h x l]
    by_cases h1 : y = x
    · subst h1; simp
    · simp [h1, Ne.symm h1]
theorem inD0_list {d : D} {xs : List D} {n m : Nat} (h1 : flat n d) (h2 : ∀ e ∈ xs, flat m e) (k1 : n ≤ 30 := by decide) (k2 : m + 1 ≤ 30 := by decide) : inD0 d (.list xs) = some (xs.any fun y => PyData.eqv y d) := by
  unfold inD0
  simp only [h1.ok k1, (flat_lst h2).ok k2, Bool.and_self, if_true]
theorem inD0_tup {d : D} {xs : List D} {n m : Nat} (h1 : flat n d) (h2 : ∀ e ∈ xs, flat m e) (k1 : n ≤ 30 := by decide) (k2 : m + 1 ≤ 30 := by decide) : inD0 d (.tuple xs) = some (xs.any fun y => PyData.eqv y d) := by
  unfold inD0
  simp only [h1.ok k1, (flat_tup h2).ok k2, Bool.and_self, if_true]
theorem inD0_strsL (x : Str) (l : List Str) : inD0 (.str x) (.list (strsD l)) = some (decide (x ∈ l)) := by
  rw [inD0_list (flat_str 0 x) (flat_strs 0 l), any_enc PyData.str eqv_str]
theorem inD0_strsT (x : Str) (l : List Str) : inD0 (.str x) (.tuple (strsD l)) = some (decide (x ∈ l)) := by
  rw [inD0_tup (flat_str 0 x) (flat_strs 0 l), any_enc PyData.str eqv_str]
@[simp] theorem inD_strsL (x : Str) (l : List Str) : inD (.str x) (.list (strsD l)) = some (.bool (decide (x ∈ l))) := by unfold inD; rw [inD0_strsL] <;> rfl
@[simp] theorem inD_strsT (x : Str) (l : List Str) : inD (.str x) (.tuple (strsD l)) = some (.bool (decide (x ∈ l))) := by unfold inD; rw [inD0_strsT] <;> rfl
@[simp] theorem notInD_strsL (x : Str) (l : List Str) : notInD (.str x) (.list (strsD l)) = some (.bool (!decide (x ∈ l))) := by unfold notInD; rw [inD0_strsL] <;> rfl
@[simp] theorem notInD_strsT (x : Str) (l : List Str) : notInD (.str x) (.tuple (strsD l)) = some (.bool (!decide (x ∈ l))) := by unfold notInD; rw [inD0_strsT] <;> rfl
/-! ### comprehensions and loops -/
theorem compL_map {α : Type} (enc : α → D) {tg : GTg} {t : GT} {el : GE} {ρ : Env} {γ : G} (f : α → Bool) (h : α → D) : ∀ xs : List α, (∀ x ∈ xs, ∃ ρ1, tg (enc x) ρ = some ρ1 ∧ t ρ1 γ = some (f x, γ) ∧ (f x = true → el ρ1 γ = some (h x, γ))) → compL tg t el (xs.map enc) ρ γ = some ((xs.filter f).map h, γ)
  | [], _ => rfl
  | x :: xs, H => by
    obtain ⟨ρ1, h1, h2, h3⟩ := H x List.mem_cons_self
    have ih := compL_map enc f h xs fun y hy => H y (List.mem_cons_of_mem _ hy)
    rw [List.map_cons]
    unfold compL
    rw [h1, Option.bind_some, h2, Option.bind_some]
    cases hf : f x with
    | true =>
      rw [List.filter_cons_of_pos hf]
      show ((el ρ1 γ).bind _) = _
      rw [h3 hf, Option.bind_some]
      show ((compL tg t el (xs.map enc) ρ γ).bind _) = _
      rw [ih] <;> rfl
    | false =>
      rw [List.filter_cons_of_neg (by rw [hf]; exact Bool.false_ne_true)]
      exact ih
theorem compL_map' {α : Type} (enc : α → D) {tg : GTg} {el : GE} {ρ : Env} {γ : G} (h : α → D) (xs : List α) (H : ∀ x ∈ xs, ∃ ρ1, tg (enc x) ρ = some ρ1 ∧ el ρ1 γ = some (h x, γ)) : compL tg yesT el (xs.map enc) ρ γ = some (xs.map h, γ) := by
  have := compL_map enc (t := yesT) (fun _ => true) h xs fun x hx => by
    obtain ⟨ρ1, h1, h2⟩ := H x hx
    exact ⟨ρ1, h1, rfl, fun _ => h2⟩
  rw [this, List.filter_eq_self.mpr fun _ _ => rfl]
theorem forL_find {α : Type} (enc : α → D) (Q : Env → Prop) (f : α → Bool) (r : α → D) {tg : GTg} {b : GS} {γ : G} : ∀ (xs : List α) (ρ : Env), (∀ x ∈ xs, ∀ ρ, Q ρ → ∃ ρ1, tg (enc x) ρ = some ρ1 ∧ (f x = true → b ρ1 γ = some (.rt (r x), γ)) ∧ (f x = false → ∃ ρ2, b ρ1 γ = some (.nx ρ2, γ) ∧ Q ρ2)) → Q ρ →
    (∃ x, xs.find? f = some x ∧ forL tg b (xs.map enc) ρ γ = some (.rt (r x), γ)) ∨ (xs.find? f = none ∧ ∃ ρ', forL tg b (xs.map enc) ρ γ = some (.nx ρ', γ) ∧ Q ρ')
  | [], ρ, _, q => .inr ⟨rfl, ρ, rfl, q⟩
  | x :: xs, ρ, H, q => by
    obtain ⟨ρ1, h1, h2, h3⟩ := H x List.mem_cons_self ρ q
    cases hf : f x with
    | true =>
      refine .inl ⟨x, by rw [List.find?_cons_of_pos hf], ?_⟩
      rw [List.map_cons]
      unfold forL
      rw [h1, Option.bind_some, h2 hf] <;> rfl
    | false =>
      obtain ⟨ρ2, h4, h5⟩ := h3 hf
      have ih := forL_find enc Q f r (tg := tg) (b := b) (γ := γ) xs ρ2 (fun y hy => H y (List.mem_cons_of_mem _ hy)) h5
      rw [List.find?_cons_of_neg (by rw [hf]; exact Bool.false_ne_true)]
      have e : forL tg b ((x :: xs).map enc) ρ γ = forL tg b (xs.map enc) ρ2 γ := by
        rw [List.map_cons]
        show ((tg (enc x) ρ).bind _) = _
        rw [h1, Option.bind_some, h4] <;> rfl
      rw [e]
      exact ih
theorem forL_fold {α : Type} (enc : α → D) (P : List α → Env → G → Prop) {tg : GTg} {b : GS} : ∀ (xs don : List α) (ρ : Env) (γ : G), (∀ x ∈ xs, ∀ don ρ γ, P don ρ γ → ∃ ρ1 ρ2 γ2, tg (enc x) ρ = some ρ1 ∧ b ρ1 γ = some (.nx ρ2, γ2) ∧ P (don ++ [x]) ρ2 γ2) → P don ρ γ →
    ∃ ρ' γ', forL tg b (xs.map enc) ρ γ = some (.nx ρ', γ') ∧ P (don ++ xs) ρ' γ'
  | [], don, ρ, γ, _, q => ⟨ρ, γ, rfl, by rw [List.append_nil]; exact q⟩
  | x :: xs, don, ρ, γ, H, q => by
    obtain ⟨ρ1, ρ2, γ2, h1, h2, h3⟩ := H x List.mem_cons_self don ρ γ q
    obtain ⟨ρ', γ', h4, h5⟩ := forL_fold enc P xs (don ++ [x]) ρ2 γ2 (fun y hy => H y (List.mem_cons_of_mem _ hy)) h3
    refine ⟨ρ', γ', ?_, by rw [List.append_assoc] at h5; exact h5⟩
    rw [List.map_cons]
    show ((tg (enc x) ρ).bind _) = _
    rw [h1, Option.bind_some, h2]
    exact h4
theorem forL_fold2 {α : Type} (enc : α → D) (P : List α → Env → G → Prop) {tg : GTg} {b : GS} (xs : List α) : ∀ (rest don : List α) (ρ : Env) (γ : G), xs = don ++ rest → (∀ don x rest, xs = don ++ x :: rest → ∀ ρ γ, P don ρ γ → ∃ ρ1 ρ2 γ2, tg (enc x) ρ = some ρ1 ∧ b ρ1 γ = some (.nx ρ2, γ2) ∧ P (don ++ [x]) ρ2 γ2) → P don ρ γ →
    ∃ ρ' γ', forL tg b (rest.map enc) ρ γ = some (.nx ρ', γ') ∧ P xs ρ' γ'
  | [], don, ρ, γ, e, _, q => ⟨ρ, γ, rfl, by rw [e, List.append_nil]; exact q⟩
  | x :: rest, don, ρ, γ, e, H, q => by
    obtain ⟨ρ1, ρ2, γ2, h1, h2, h3⟩ := H don x rest e ρ γ q
    obtain ⟨ρ', γ', h4, h5⟩ := forL_fold2 enc P (tg := tg) (b := b) xs rest (don ++ [x]) ρ2 γ2 (by rw [e, List.append_assoc] <;> rfl) H h3
    refine ⟨ρ', γ', ?_, h5⟩
    rw [List.map_cons]
    show ((tg (enc x) ρ).bind _) = _
    rw [h1, Option.bind_some, h2]
    exact h4
theorem forL_all {α : Type} (enc : α → D) (P : List α → Env → G → Prop) {tg : GTg} {b : GS} (xs : List α) (ρ : Env) (γ : G) (H : ∀ don x rest, xs = don ++ x :: rest → ∀ ρ γ, P don ρ γ → ∃ ρ1 ρ2 γ2, tg (enc x) ρ = some ρ1 ∧ b ρ1 γ = some (.nx ρ2, γ2) ∧ P (don ++ [x]) ρ2 γ2) (q : P [] ρ γ) :
    ∃ ρ' γ', forL tg b (xs.map enc) ρ γ = some (.nx ρ', γ') ∧ P xs ρ' γ' := forL_fold2 enc P xs xs [] ρ γ rfl H q
/-! ### sorting -/
theorem sortD_perm (ds : List D) : (sortD ds).Perm ds := List.mergeSort_perm ..
theorem sortD_mem {ds : List D} {d : D} : d ∈ sortD ds ↔ d ∈ ds := (sortD_perm ds).mem_iff
theorem sortD_len (ds : List D) : (sortD ds).length = ds.length := (sortD_perm ds).length_eq
theorem sortD_le (ds : List D) : (sortD ds).Pairwise fun a b => PySem.W.dataLt b a = false := by
  have h := PySem.W.sort_pairwise (PySem.W.sortLe_total (listOrd itemOrd) false fun d : D => PySem.W.keyToks (id d)) ds
  refine h.imp fun {a b} e => ?_
  have e' : (!PySem.W.dataLt b a) = true := e
  simpa using e'
end TK.M
end
section
set_option Elab.async false
set_option linter.all false
set_option maxRecDepth 100000
set_option maxHeartbeats 4000000
/-! The book as typed data; what the text's defs answer on it. -/
namespace TK.M
open PySem PySem.Spec PyProof.Rows L2
structure Pt where
  n : Str
  x : Str
  ms : List Int
  deriving DecidableEq
structure Lk where
  a : List Str
  b : List Str
  t : Int
  la : List Int
  lb : List Int
  deriving DecidableEq
structure Bk where
  p : List Pt
  q : List Pt
  ls : List Lk
  al : List Str
abbrev ePt (p : Pt) : D := .tuple [.str p.n, .str p.x, .tuple (intsL p.ms)]
abbrev eLk (l : Lk) : D := .tuple [.tuple (strsD l.a), .tuple (strsD l.b), .int l.t, .tuple [.tuple (intsL l.la), .tuple (intsL l.lb)]]
abbrev eBk (b : Bk) : D := .tuple [.tuple (b.p.map ePt), .tuple (b.q.map ePt), .tuple (b.ls.map eLk), .tuple (strsD b.al)]
abbrev nms (ps : List Pt) : List Str := ps.map Pt.n
structure Sz (b : Bk) : Prop where
  p : b.p.length ≤ 1000
  q : b.q.length ≤ 1000
  ls : b.ls.length ≤ 1000
  al : b.al.length ≤ 1000
  ms : ∀ x ∈ b.p ++ b.q, x.ms.length ≤ 100
  la : ∀ l ∈ b.ls, l.a.length ≤ 100 ∧ l.b.length ≤ 100 ∧ l.la.length ≤ 100 ∧ l.lb.length ≤ 100
/-- which side -/
abbrev sdI (s : Bool) : D := .int (if s then 1 else 0)
def Bk.sd (b : Bk) (s : Bool) : List Pt := if s then b.q else b.p
def Lk.sd (l : Lk) (s : Bool) : List Str := if s then l.b else l.a
def Lk.lost (l : Lk) (s : Bool) : List Int := if s then l.lb else l.la
theorem ixN_nat {n k : Nat} (h : k < n) : ixN n (k : Int) = some k := by
  unfold ixN
  rw [if_pos (Int.natCast_nonneg k), if_pos (by omega)] <;> rfl
theorem atI_nat {α : Type} {l : List α} {k : Nat} {x : α} (h : l[k]? = some x) : atI l (k : Int) = some x := by
  unfold atI
  rw [ixN_nat (List.getElem?_eq_some_iff.mp h).1]
  exact h
@[simp] theorem idx0 (x : D) (l : List D) : idxD (.tuple (x :: l)) (.int 0) = some x := atI_nat (k := 0) rfl
@[simp] theorem idx1 (x y : D) (l : List D) : idxD (.tuple (x :: y :: l)) (.int 1) = some y := atI_nat (k := 1) rfl
@[simp] theorem idx2 (x y z : D) (l : List D) : idxD (.tuple (x :: y :: z :: l)) (.int 2) = some z := atI_nat (k := 2) rfl
@[simp] theorem idx3 (x y z u : D) (l : List D) : idxD (.tuple (x :: y :: z :: u :: l)) (.int 3) = some u := atI_nat (k := 3) rfl
@[simp] theorem idxL0 (x : D) (l : List D) : idxD (.list (x :: l)) (.int 0) = some x := atI_nat (k := 0) rfl
@[simp] theorem idxL1 (x y : D) (l : List D) : idxD (.list (x :: y :: l)) (.int 1) = some y := atI_nat (k := 1) rfl
@[simp] theorem idx_sd (b : Bk) (s : Bool) : idxD (eBk b) (sdI s) = some (.tuple ((b.sd s).map ePt)) := by
  cases s with
  | true => exact idx1 _ _ _
  | false => exact idx0 _ _
@[simp] theorem idxl_sd (l : Lk) (s : Bool) : idxD (eLk l) (sdI s) = some (.tuple (strsD (l.sd s))) := by
  cases s with
  | true => exact idx1 _ _ _
  | false => exact idx0 _ _
theorem line_of {n : Nat} (h : n ≤ 10000) : n ≤ LINE := Nat.le_trans h (by decide)
/-! ### the combinators, unfolded -/
section
variable {ρ : Env} {γ : G} {i n : Nat} {g g' : GS} {e a b : GE} {r : GA} {t u : GT} {lo hi : GO} {o : D → D → Option D} {o1 : D → Option D} {f : List D → Option D} {fg : List D → G → Option (D × G)} {d : D} {ds : List D} {is vs : List Nat} {tg : GTg}
@[simp] theorem s_runP : runP n g ds = (g (startE n ds) (0, [])).bind fun r => some (outD r.1) := rfl
@[simp] theorem s_runG : runG n g ds γ = (g (none :: startE (n - 1) ds) γ).bind fun r => some (outD r.1, r.2) := rfl
@[simp] theorem s_startE : startE n ds = ds.map some ++ List.replicate (n - ds.length) none := rfl
@[simp] theorem s_outR : outD (.rt d) = d := rfl
@[simp] theorem s_outN : outD (.nx ρ) = .none := rfl
@[simp] theorem s_seqS : seqS g g' ρ γ = (g ρ γ).bind fun x => match x.1 with
  | .nx ρ' => g' ρ' x.2
  | .rt d => some (.rt d, x.2) := rfl
@[simp] theorem s_nextS : nextS ρ γ = some (.nx ρ, γ) := rfl
@[simp] theorem s_failS : failS ρ γ = none := rfl
@[simp] theorem s_dropS : dropS e ρ γ = (e ρ γ).bind fun x => some (.nx ρ, x.2) := rfl
@[simp] theorem s_setS : setS i e ρ γ = (e ρ γ).bind fun x => some (.nx (ρ.set i (some x.1)), x.2) := rfl
@[simp] theorem s_ownS : ownS i r ρ γ = (r ρ γ).bind fun x => some (.nx (ρ.set i (some (.list x.1))), x.2) := rfl
@[simp] theorem s_tgtS : tgtS tg e ρ γ = (e ρ γ).bind fun x => (tg x.1 ρ).bind fun ρ' => some (.nx ρ', x.2) := rfl
@[simp] theorem s_retS : retS e ρ γ = (e ρ γ).bind fun x => some (.rt x.1, x.2) := rfl
@[simp] theorem s_ifS : ifS t g g' ρ γ = (t ρ γ).bind fun x => if x.1 then g ρ x.2 else g' ρ x.2 := rfl
@[simp] theorem s_appS : appS i e ρ γ = (ownL ρ i).bind fun ds => (e ρ γ).bind fun x => if ds.length < LINE then some (.nx (ρ.set i (some (.list (ds ++ [x.1])))), x.2) else none := rfl
@[simp] theorem s_extS : extS i e ρ γ = (ownL ρ i).bind fun ds => (e ρ γ).bind fun x => (itemsD x.1).bind fun es => if ds.length + es.length < LINE then some (.nx (ρ.set i (some (.list (ds ++ es)))), x.2) else none := rfl
@[simp] theorem s_forS : forS r tg g ρ γ = (r ρ γ).bind fun x => forL tg g x.1 ρ x.2 := rfl
@[simp] theorem s_ownL : ownL ρ i = match ρ[i]? with
  | some (some (.list ds)) => some ds
  | _ => none := rfl
@[simp] theorem s_varE : varE i ρ γ = match ρ[i]? with
  | some (some d) => some (d, γ)
  | _ => none := rfl
@[simp] theorem s_cE : cE d ρ γ = some (d, γ) := rfl
@[simp] theorem s_binE : binE o a b ρ γ = (a ρ γ).bind fun x => (b ρ x.2).bind fun y => (o x.1 y.1).bind fun z => some (z, y.2) := rfl
@[simp] theorem s_unE : unE o1 a ρ γ = (a ρ γ).bind fun x => (o1 x.1).bind fun z => some (z, x.2) := rfl
@[simp] theorem s_nilA : nilA ρ γ = some ([], γ) := rfl
@[simp] theorem s_consA : consA a r ρ γ = (a ρ γ).bind fun x => (r ρ x.2).bind fun y => some (x.1 :: y.1, y.2) := rfl
@[simp] theorem s_tupE : tupE r ρ γ = (r ρ γ).bind fun x => if x.1.length ≤ LINE then some (.tuple x.1, x.2) else none := rfl
@[simp] theorem s_lstN : lstN r ρ γ = (r ρ γ).bind fun x => if x.1.length ≤ LINE then some (x.1, x.2) else none := rfl
@[simp] theorem s_newE : newE r ρ γ = (r ρ γ).bind fun x => some (.list x.1, x.2) := rfl
@[simp] theorem s_listN : listN a ρ γ = (a ρ γ).bind fun x => (itemsD x.1).bind fun z => some (z, x.2) := rfl
@[simp] theorem s_callE : callE f r ρ γ = (r ρ γ).bind fun x => (f x.1).bind fun z => some (z, x.2) := rfl
@[simp] theorem s_callGE : callGE fg r ρ γ = (r ρ γ).bind fun x => fg x.1 x.2 := rfl
@[simp] theorem s_noneO : noneO ρ γ = some (none, γ) := rfl
@[simp] theorem s_someO : someO a ρ γ = (a ρ γ).bind fun x => match x.1 with
  | .int i => some (some i, x.2)
  | _ => none := rfl
@[simp] theorem s_sliceE : sliceE a lo hi ρ γ = (a ρ γ).bind fun x => (lo ρ x.2).bind fun y => (hi ρ y.2).bind fun z => (sliceD x.1 y.1 z.1).bind fun w => some (w, z.2) := rfl
@[simp] theorem s_valT : valT a ρ γ = (a ρ γ).bind fun x => match x.1 with
  | .bool b => some (b, x.2)
  | _ => none := rfl
@[simp] theorem s_andT : andT t u ρ γ = (t ρ γ).bind fun x => if x.1 then u ρ x.2 else some (false, x.2) := rfl
@[simp] theorem s_orT : orT t u ρ γ = (t ρ γ).bind fun x => if x.1 then some (true, x.2) else u ρ x.2 := rfl
@[simp] theorem s_notT : notT t ρ γ = (t ρ γ).bind fun x => some (!x.1, x.2) := rfl
@[simp] theorem s_andE : andE a b ρ γ = (a ρ γ).bind fun x => match x.1 with
  | .bool c => if c then b ρ x.2 else some (.bool false, x.2)
  | _ => none := rfl
@[simp] theorem s_orE : orE a b ρ γ = (a ρ γ).bind fun x => match x.1 with
  | .bool c => if c then some (.bool true, x.2) else b ρ x.2
  | _ => none := rfl
@[simp] theorem s_notE : notE a ρ γ = (a ρ γ).bind fun x => match x.1 with
  | .bool c => some (.bool (!c), x.2)
  | _ => none := rfl
@[simp] theorem s_yesT : yesT ρ γ = some (true, γ) := rfl
@[simp] theorem s_compN : compN r tg t e vs ρ γ = (r ρ γ).bind fun x => if x.1.length ≤ LINE then compL tg t e x.1 (wipeR ρ vs) x.2 else none := rfl
@[simp] theorem s_wipe0 : wipeR ρ [] = ρ := rfl
@[simp] theorem s_wipe1 : wipeR ρ (i :: vs) = (wipeR ρ vs).set i none := rfl
@[simp] theorem s_seqI : seqI a ρ γ = (a ρ γ).bind fun x => (itemsD x.1).bind fun z => some (z, x.2) := rfl
@[simp] theorem s_itemsL : itemsD (.list ds) = some ds := rfl
@[simp] theorem s_itemsT : itemsD (.tuple ds) = some ds := rfl
@[simp] theorem s_tgN : tgN i d ρ = some (ρ.set i (some d)) := rfl
@[simp] theorem s_tgT : tgT is (.tuple ds) ρ = setAll is ds ρ := rfl
@[simp] theorem s_tgL : tgL is (.list ds) ρ = setAll is ds ρ := rfl
@[simp] theorem s_setAll0 : setAll [] [] ρ = some ρ := rfl
@[simp] theorem s_setAll1 : setAll (i :: is) (d :: ds) ρ = setAll is ds (ρ.set i (some d)) := rfl
@[simp] theorem s_addI (x y : Int) : addD (.int x) (.int y) = some (.int (x + y)) := rfl
@[simp] theorem s_subI (x y : Int) : subD (.int x) (.int y) = some (.int (x - y)) := rfl
@[simp] theorem s_addT (xs ys : List D) : addD (.tuple xs) (.tuple ys) = if xs.length + ys.length ≤ LINE then some (.tuple (xs ++ ys)) else none := rfl
@[simp] theorem s_addL (xs ys : List D) : addD (.list xs) (.list ys) = if xs.length + ys.length ≤ LINE then some (.list (xs ++ ys)) else none := rfl
@[simp] theorem s_tupleL (xs : List D) : tupleD (.list xs) = some (.tuple xs) := rfl
@[simp] theorem s_tupleT (xs : List D) : tupleD (.tuple xs) = some (.tuple xs) := rfl
@[simp] theorem s_lenL (xs : List D) : lenD (.list xs) = some (.int xs.length) := rfl
@[simp] theorem s_lenT (xs : List D) : lenD (.tuple xs) = some (.int xs.length) := rfl
@[simp] theorem s_isN (d : D) : isND d .none = some (.bool (isNone d)) := rfl
@[simp] theorem s_notN (d : D) : notND d .none = some (.bool (!isNone d)) := rfl
@[simp] theorem s_isNone0 : isNone .none = true := rfl
@[simp] theorem s_isNone1 (ds : List D) : isNone (.tuple ds) = false := rfl
@[simp] theorem s_isNone2 (x : Int) : isNone (.int x) = false := rfl
@[simp] theorem s_isNone3 (x : Str) : isNone (.str x) = false := rfl
end
@[simp] theorem line1 : 1 ≤ LINE := by decide
@[simp] theorem line2 : 2 ≤ LINE := by decide
@[simp] theorem line3 : 3 ≤ LINE := by decide
@[simp] theorem line4 : 4 ≤ LINE := by decide
@[simp] theorem line0 : 0 ≤ LINE := by decide
@[simp] theorem lineL0 : 0 < LINE := by decide
@[simp] theorem s_for0 {tg : GTg} {g : GS} {ρ : Env} {γ : G} : forL tg g [] ρ γ = some (.nx ρ, γ) := rfl
@[simp] theorem s_for1 {tg : GTg} {g : GS} {ρ : Env} {γ : G} {d : D} {ds : List D} : forL tg g (d :: ds) ρ γ = (tg d ρ).bind fun ρ1 => (g ρ1 γ).bind fun r => match r.1 with
  | .nx ρ2 => forL tg g ds ρ2 r.2
  | .rt z => some (.rt z, r.2) := rfl
theorem nms_str (ps : List Pt) : strsD (nms ps) = ps.map fun p => .str p.n := by
  unfold strsD nms
  rw [List.map_map] <;> rfl
theorem names_in_ok (ps : List Pt) (h : ps.length ≤ 10000) : f_names_in [.tuple (ps.map ePt)] = some (.list (strsD (nms ps))) := by
  have hl : ps.length ≤ LINE := line_of h
  have e := compL_map' ePt (tg := tgN 1) (el := binE idxD (varE 1) (cE (.int 0))) (ρ := [some (.tuple (ps.map ePt)), none]) (γ := (0, [])) (fun p => .str p.n) ps fun x _ => ⟨_, rfl, by simp⟩
  rw [nms_str]
  simp [-List.map_map, f_names_in, g_names_in, hl, e]
theorem has_part_ok {b : Bk} (z : Sz b) (x : Str) : f_has_part [eBk b, .str x] = some (.bool (decide (x ∈ nms b.p ∨ x ∈ nms b.q))) := by
  have h1 := names_in_ok b.p (Nat.le_trans z.p (by decide))
  have h2 := names_in_ok b.q (Nat.le_trans z.q (by decide))
  by_cases hx : x ∈ nms b.p
  · simp [-List.map_map, f_has_part, g_has_part, h1, h2, hx]
  · by_cases hy : x ∈ nms b.q <;> simp [-List.map_map, f_has_part, g_has_part, h1, h2, hx, hy]
theorem side_p {b : Bk} (z : Sz b) {x : Str} (hx : x ∈ nms b.p) : f_side_of [eBk b, .str x] = some (sdI false) := by
  have h1 := names_in_ok b.p (Nat.le_trans z.p (by decide))
  simp [-List.map_map, f_side_of, g_side_of, h1, hx]
theorem side_q {b : Bk} (z : Sz b) {x : Str} (hn : x ∉ nms b.p) (hx : x ∈ nms b.q) : f_side_of [eBk b, .str x] = some (sdI true) := by
  have h1 := names_in_ok b.p (Nat.le_trans z.p (by decide))
  have h2 := names_in_ok b.q (Nat.le_trans z.q (by decide))
  simp [-List.map_map, f_side_of, g_side_of, h1, h2, hn, hx]
structure WF (b : Bk) : Prop where
  nd : (nms b.p ++ nms b.q).Nodup
  la : ∀ l ∈ b.ls, ∀ x ∈ l.a, x ∈ nms b.p
  lb : ∀ l ∈ b.ls, ∀ x ∈ l.b, x ∈ nms b.q
  na : ∀ l ∈ b.ls, l.a ≠ []
  nb : ∀ l ∈ b.ls, l.b ≠ []
  da : b.ls.Pairwise fun l m => ∀ x ∈ l.a, x ∉ m.a
  db : b.ls.Pairwise fun l m => ∀ x ∈ l.b, x ∉ m.b
  al : ∀ x ∈ b.al, x ∈ nms b.p ∨ x ∈ nms b.q
  dal : ∀ l ∈ b.ls, ∀ x ∈ b.al, x ∉ l.a ∧ x ∉ l.b
  ne : ∀ x ∈ nms b.p ++ nms b.q, x ≠ ""
  sz : Sz b
/-- x stands on side s -/
def On (b : Bk) (s : Bool) (x : Str) : Prop := x ∈ nms (b.sd s)
theorem WF.side {b : Bk} (w : WF b) {s : Bool} {x : Str} (h : On b s x) : f_side_of [eBk b, .str x] = some (sdI s) := by
  cases s with
  | false => exact side_p w.sz h
  | true => exact side_q w.sz (fun z => (List.nodup_append.mp w.nd).2.2 x z x h rfl) h
theorem WF.lk {b : Bk} (w : WF b) {l : Lk} (hl : l ∈ b.ls) {s : Bool} {x : Str} (h : x ∈ l.sd s) : On b s x := by
  cases s with
  | false => exact w.la l hl x h
  | true => exact w.lb l hl x h
def ptOf (b : Bk) (s : Bool) (x : Str) : Option Pt := (b.sd s).find? fun p => decide (p.n = x)
theorem on_pt {b : Bk} {s : Bool} {x : Str} (h : On b s x) : ∃ p, ptOf b s x = some p ∧ p.n = x ∧ p ∈ b.sd s := by
  unfold On nms at h
  obtain ⟨p, hp, e⟩ := List.mem_map.mp h
  unfold ptOf
  cases hf : (b.sd s).find? fun p => decide (p.n = x) with
  | none =>
    have := List.find?_eq_none.mp hf p hp
    simp [e] at this
  | some q =>
    have h1 := List.find?_some hf
    exact ⟨q, rfl, by simpa using h1, List.mem_of_find?_eq_some hf⟩
theorem WF.named {b : Bk} (w : WF b) {s : Bool} {x : Str} {p : Pt} (h : On b s x) (hp : ptOf b s x = some p) : f_part_named [eBk b, .str x] = some (ePt p) := by
  have hs := w.side h
  rcases forL_find ePt (fun ρ => ∃ v, ρ = [some (eBk b), some (.str x), v]) (fun p => decide (p.n = x)) (fun p => ePt p) (tg := tgN 2)
    (b := ifS (valT (binE eqD (binE idxD (varE 2) (cE (.int 0))) (varE 1))) (retS (varE 2)) nextS) (γ := ((0, []) : G)) (b.sd s) [some (eBk b), some (.str x), none] (fun p _ ρ ⟨v, hv⟩ => by
      subst hv
      refine ⟨_, rfl, fun hf => ?_, fun hf => ⟨_, ?_, some (ePt p), rfl⟩⟩
      · have : p.n = x := by simpa using hf
        simp [this]
      · have : ¬ p.n = x := by simpa using hf
        simp [this]) ⟨none, rfl⟩ with ⟨q, h1, h2⟩ | ⟨h1, _⟩
  · unfold ptOf at hp
    rw [hp] at h1
    cases h1
    show ((((g_part_named [some (eBk b), some (.str x), none] (0, [])).bind _))) = _
    have e : g_part_named [some (eBk b), some (.str x), none] (0, []) = some (.rt (ePt p), (0, [])) := by
      unfold g_part_named
      rw [s_seqS, s_forS]
      have e1 : (seqI (binE idxD (varE 0) (callE f_side_of (consA (varE 0) (consA (varE 1) (nilA))))) [some (eBk b), some (.str x), none] (0, [])) = some ((b.sd s).map ePt, (0, [])) := by
        simp [-List.map_map, hs, idx_sd]
      rw [e1, Option.bind_some]
      show ((forL _ _ _ _ _).bind _) = _
      rw [h2] <;> rfl
    rw [e] <;> rfl
  · unfold ptOf at hp
    rw [hp] at h1
    cases h1
end TK.M
end
section
set_option Elab.async false
set_option linter.all false
set_option maxRecDepth 100000
set_option maxHeartbeats 4000000
namespace TK.M
open PySem PySem.Spec PyProof.Rows L2
def msOf (b : Bk) (s : Bool) (x : Str) : List Int := match ptOf b s x with
  | some p => p.ms
  | none => []
theorem WF.moments {b : Bk} (w : WF b) {s : Bool} {x : Str} (h : On b s x) : f_moments_of [eBk b, .str x] = some (.tuple (intsL (msOf b s x))) := by
  obtain ⟨p, hp, h1, h2⟩ := on_pt h
  have hn := w.named h hp
  unfold msOf
  rw [hp]
  simp [-List.map_map, f_moments_of, g_moments_of, hn]
theorem WF.text {b : Bk} (w : WF b) {s : Bool} {x : Str} (h : On b s x) : ∃ p, ptOf b s x = some p ∧ f_text_of [eBk b, .str x] = some (.str p.x) := by
  obtain ⟨p, hp, h1, h2⟩ := on_pt h
  have hn := w.named h hp
  exact ⟨p, hp, by simp [-List.map_map, f_text_of, g_text_of, hn]⟩
def lkOf (b : Bk) (s : Bool) (x : Str) : Option Lk := b.ls.find? fun l => decide (x ∈ l.sd s)
def oLk : Option Lk → D
  | some l => eLk l
  | none => .none
theorem WF.link {b : Bk} (w : WF b) {s : Bool} {x : Str} (h : On b s x) : f_link_of [eBk b, .str x] = some (oLk (lkOf b s x)) := by
  have hs := w.side h
  have e0 : g_link_of [some (eBk b), some (.str x), none, none] (0, []) = some (.rt (oLk (lkOf b s x)), (0, [])) := by
    unfold g_link_of
    have e1 : (setS 2 (callE f_side_of (consA (varE 0) (consA (varE 1) (nilA))))) [some (eBk b), some (.str x), none, none] (0, []) = some (.nx [some (eBk b), some (.str x), some (sdI s), none], (0, [])) := by
      simp [-List.map_map, hs]
    rw [s_seqS, e1, Option.bind_some]
    show seqS _ _ _ _ = _
    rw [s_seqS, s_forS]
    have e2 : (seqI (binE idxD (varE 0) (cE (.int 2)))) [some (eBk b), some (.str x), some (sdI s), none] (0, []) = some (b.ls.map eLk, (0, [])) := by simp [-List.map_map]
    rw [e2, Option.bind_some]
    rcases forL_find eLk (fun ρ => ∃ v, ρ = [some (eBk b), some (.str x), some (sdI s), v]) (fun l => decide (x ∈ l.sd s)) (fun l => eLk l) (tg := tgN 3)
      (b := ifS (valT (binE inD (varE 1) (binE idxD (varE 3) (varE 2)))) (retS (varE 3)) nextS) (γ := ((0, []) : G)) b.ls [some (eBk b), some (.str x), some (sdI s), none] (fun l _ ρ ⟨v, hv⟩ => by
        subst hv
        refine ⟨_, rfl, fun hf => ?_, fun hf => ⟨_, ?_, some (eLk l), rfl⟩⟩
        · have : x ∈ l.sd s := by simpa using hf
          simp [-List.map_map, this, idxl_sd]
        · have : x ∉ l.sd s := by simpa using hf
          simp [-List.map_map, this, idxl_sd]) ⟨none, rfl⟩ with ⟨l, h1, h2⟩ | ⟨h1, ρ', h2, v, hv⟩
    · unfold lkOf
      rw [h1]
      show ((forL _ _ _ _ _).bind _) = _
      rw [h2] <;> rfl
    · unfold lkOf
      rw [h1]
      show ((forL _ _ _ _ _).bind _) = _
      rw [h2]
      subst hv
      simp [oLk]
  unfold f_link_of
  rw [s_runP]
  show (g_link_of [some (eBk b), some (.str x), none, none] (0, [])).bind _ = _
  rw [e0] <;> rfl
theorem is_alone_ok (b : Bk) (x : Str) : f_is_alone [eBk b, .str x] = some (.bool (decide (x ∈ b.al))) := by
  simp [-List.map_map, f_is_alone, g_is_alone]
/-! ### stale_since -/
def allMs (b : Bk) (l : Lk) (s : Bool) : List Int := l.lost s ++ (l.sd s).flatMap (msOf b s)
def later (b : Bk) (l : Lk) (s : Bool) : List Int := (allMs b l s).filter fun m => decide (l.t < m)
theorem lkOf_mem {b : Bk} {s : Bool} {x : Str} {l : Lk} (h : lkOf b s x = some l) : l ∈ b.ls ∧ x ∈ l.sd s := ⟨List.mem_of_find?_eq_some h, by simpa using List.find?_some h⟩
theorem sd_len {b : Bk} (z : Sz b) {l : Lk} (h : l ∈ b.ls) (s : Bool) : (l.sd s).length ≤ 100 ∧ (l.lost s).length ≤ 100 := by
  obtain ⟨h1, h2, h3, h4⟩ := z.la l h
  cases s with
  | true => exact ⟨h2, h4⟩
  | false => exact ⟨h1, h3⟩
theorem ms_len {b : Bk} (z : Sz b) (s : Bool) (x : Str) : (msOf b s x).length ≤ 100 := by
  unfold msOf
  cases h : ptOf b s x with
  | none => exact Nat.zero_le _
  | some p =>
    have := List.mem_of_find?_eq_some h
    refine z.ms p ?_
    cases s with
    | true => exact List.mem_append_right _ this
    | false => exact List.mem_append_left _ this
theorem flat_len {b : Bk} (z : Sz b) (s : Bool) : ∀ l : List Str, (l.flatMap (msOf b s)).length ≤ 100 * l.length
  | [] => Nat.zero_le _
  | x :: l => by
    rw [List.flatMap_cons, List.length_append, List.length_cons]
    have := ms_len z s x
    have := flat_len z s l
    omega
theorem minD_int : ∀ (r : List Int) (x : Int), ∃ v, PySem.W.minD (.int x) (intsL r) = .int v := fun r x => by
  have := minD_mem (intsL r) (.int x)
  rcases List.mem_cons.mp this with h | h
  · exact ⟨x, h⟩
  · obtain ⟨v, _, e⟩ := List.mem_map.mp h
    exact ⟨v, e.symm⟩
theorem okMin_ints (r : List Int) : okMin (intsL r) = true := by
  unfold okMin
  have h1 : (intsL r).all okD = true := List.all_eq_true.mpr fun d h => (flat_ints 0 r d h).ok
  have h2 : (intsL r).all (fun d => (intsL r).all (PySem.W.alike d)) = true := List.all_eq_true.mpr fun d h => List.all_eq_true.mpr fun e he => by
    obtain ⟨x, _, rfl⟩ := List.mem_map.mp h
    obtain ⟨y, _, rfl⟩ := List.mem_map.mp he
    simp [PySem.W.alike]
  have h3 : (intsL r).all (fun d => !isNone d) = true := List.all_eq_true.mpr fun d h => by
    obtain ⟨x, _, rfl⟩ := List.mem_map.mp h
    rfl
  rw [h1, h2, h3] <;> rfl
theorem minN_ints (r : List Int) : ∃ v, minDN (.list (intsL r)) = some v ∧ (r = [] → v = .none) ∧ (r ≠ [] → ∃ i, v = .int i) := by
  cases r with
  | nil => exact ⟨.none, rfl, fun _ => rfl, fun h => absurd rfl h⟩
  | cons x r =>
    obtain ⟨v, hv⟩ := minD_int r x
    refine ⟨.int v, ?_, fun h => (by cases h), fun _ => ⟨v, rfl⟩⟩
    show (if okMin (intsL (x :: r)) then some (PySem.W.minD (.int x) (intsL r)) else none) = _
    rw [okMin_ints, hv] <;> rfl
theorem gtD_int (x y : Int) : gtD (.int x) (.int y) = some (.bool (decide (y < x))) := by
  have h : okLt (.int x) (.int y) = true := by
    unfold okLt
    rw [(flat_int 0 x).ok, (flat_int 0 y).ok]
    simp [PySem.W.alike]
  unfold gtD
  rw [h, PySem.W.dataLt_int] <;> rfl
theorem WF.stale {b : Bk} (w : WF b) {l : Lk} (hl : l ∈ b.ls) (s : Bool) : f_stale_since [eBk b, eLk l, sdI s] = minDN (.list (intsL (later b l (!s)))) := by
  obtain ⟨v, hv, c1, c2⟩ := minN_ints (later b l (!s))
  rw [hv]
  have z1 := sd_len w.sz hl (!s)
  have z2 := flat_len w.sz (!s) (l.sd (!s))
  have e0 : g_stale_since [some (eBk b), some (eLk l), some (sdI s), none, none, none] (0, []) = some (.rt v, (0, [])) := by
    unfold g_stale_since
    have e1 : (ownS 3 (listN (binE idxD (binE idxD (varE 1) (cE (.int 3))) (binE subD (cE (.int 1)) (varE 2))))) [some (eBk b), some (eLk l), some (sdI s), none, none, none] (0, []) = some (.nx [some (eBk b), some (eLk l), some (sdI s), some (.list (intsL (l.lost (!s)))), none, none], (0, [])) := by
      cases s <;> simp [-List.map_map, Lk.lost]
    rw [s_seqS, e1, Option.bind_some]
    show seqS _ _ _ _ = _
    rw [s_seqS, s_forS]
    have e2 : (seqI (binE idxD (varE 1) (binE subD (cE (.int 1)) (varE 2)))) [some (eBk b), some (eLk l), some (sdI s), some (.list (intsL (l.lost (!s)))), none, none] (0, []) = some ((l.sd (!s)).map .str, (0, [])) := by
      cases s <;> simp [-List.map_map, Lk.sd]
    rw [e2, Option.bind_some]
    obtain ⟨ρ', γ', h1, v4, h2, h3⟩ := forL_all PyData.str (fun don ρ γ => ∃ v4, ρ = [some (eBk b), some (eLk l), some (sdI s), some (.list (intsL (l.lost (!s) ++ don.flatMap (msOf b (!s))))), v4, none] ∧ γ = (0, [])) (tg := tgN 4)
      (b := extS 3 (callE f_moments_of (consA (varE 0) (consA (varE 4) (nilA))))) (l.sd (!s)) [some (eBk b), some (eLk l), some (sdI s), some (.list (intsL (l.lost (!s)))), none, none] (0, []) (fun don x rest e ρ γ ⟨v4, h1, h2⟩ => by
        subst h1 h2
        have hx : x ∈ l.sd (!s) := by rw [e]; simp
        have hm := w.moments (w.lk hl hx)
        have y1 := flat_len w.sz (!s) don
        have y2 := ms_len w.sz (!s) x
        have y3 : don.length ≤ (l.sd (!s)).length := by rw [e, List.length_append]; omega
        have hlen : (intsL (l.lost (!s) ++ don.flatMap (msOf b (!s)))).length + (intsL (msOf b (!s) x)).length < LINE := by
          unfold intsL
          rw [List.length_map, List.length_map, List.length_append]
          have : (20300 : Nat) < LINE := by decide
          omega
        refine ⟨_, _, _, rfl, ?_, some (.str x), rfl, rfl⟩
        have e9 : intsL (l.lost (!s) ++ (don ++ [x]).flatMap (msOf b (!s))) = intsL (l.lost (!s) ++ don.flatMap (msOf b (!s))) ++ intsL (msOf b (!s) x) := by
          unfold intsL
          rw [← List.map_append, List.flatMap_append, List.append_assoc]
          simp
        rw [e9]
        have e3 : ownL [some (eBk b), some (eLk l), some (sdI s), some (.list (intsL (l.lost (!s) ++ don.flatMap (msOf b (!s))))), some (.str x), none] 3 = some (intsL (l.lost (!s) ++ don.flatMap (msOf b (!s)))) := rfl
        have e4 : callE f_moments_of (consA (varE 0) (consA (varE 4) nilA)) [some (eBk b), some (eLk l), some (sdI s), some (.list (intsL (l.lost (!s) ++ don.flatMap (msOf b (!s))))), some (.str x), none] (0, []) = some (.tuple (intsL (msOf b (!s) x)), (0, [])) := by
          show (f_moments_of [eBk b, .str x]).bind _ = _
          rw [hm] <;> rfl
        show extS 3 (callE f_moments_of (consA (varE 0) (consA (varE 4) nilA))) [some (eBk b), some (eLk l), some (sdI s), some (.list (intsL (l.lost (!s) ++ don.flatMap (msOf b (!s))))), some (.str x), none] (0, []) = _
        rw [s_extS, e3, Option.bind_some, e4]
        show (if _ then _ else _) = _
        rw [if_pos hlen] <;> rfl) ⟨none, by simp, rfl⟩
    subst h2 h3
    show ((forL _ _ _ _ _).bind _) = _
    rw [h1]
    have ef := compL_map PyData.int (tg := tgN 5) (t := valT (binE gtD (varE 5) (binE idxD (varE 1) (cE (.int 2))))) (el := varE 5) (ρ := [some (eBk b), some (eLk l), some (sdI s), some (.list (intsL (allMs b l (!s)))), v4, none]) (γ := ((0, []) : G)) (fun m => decide (l.t < m)) (fun m => .int m) (allMs b l (!s)) fun m _ => ⟨_, rfl, by
      simp [-List.map_map, gtD_int], fun _ => rfl⟩
    have hlen : (allMs b l (!s)).length ≤ LINE := by
      unfold allMs
      rw [List.length_append]
      have : (20300 : Nat) ≤ LINE := by decide
      omega
    have hv' : minDN (.list (List.map (fun m => PyData.int m) (List.filter (fun m => decide (l.t < m)) (allMs b l (!s))))) = some v := hv
    have ef' : compL (tgN 5) (valT (binE gtD (varE 5) (binE idxD (varE 1) (cE (.int 2))))) (varE 5) (intsL (allMs b l (!s))) [some (eBk b), some (eLk l), some (sdI s), some (.list (intsL (allMs b l (!s)))), v4, none] ((0, []) : G) = _ := ef
    show (retS (unE minDN (newE (compN (seqI (varE 3)) (tgN 5) (valT (binE gtD (varE 5) (binE idxD (varE 1) (cE (.int 2))))) (varE 5) [5])))) [some (eBk b), some (eLk l), some (sdI s), some (.list (intsL (allMs b l (!s)))), v4, none] (0, []) = _
    show ((((((if (intsL (allMs b l (!s))).length ≤ LINE then _ else none) : Option (List D × G)).bind _).bind _).bind _)) = _
    rw [if_pos (by unfold intsL; rw [List.length_map]; exact hlen), show wipeR [some (eBk b), some (eLk l), some (sdI s), some (.list (intsL (allMs b l (!s)))), v4, none] [5] = [some (eBk b), some (eLk l), some (sdI s), some (.list (intsL (allMs b l (!s)))), v4, none] from rfl, ef']
    show ((minDN _).bind _).bind _ = _
    rw [hv'] <;> rfl
  unfold f_stale_since
  rw [s_runP]
  show (g_stale_since [some (eBk b), some (eLk l), some (sdI s), none, none, none] (0, [])).bind _ = _
  rw [e0] <;> rfl
end TK.M
end
section
set_option Elab.async false
set_option linter.all false
set_option maxRecDepth 100000
set_option maxHeartbeats 4000000
namespace TK.M
open PySem PySem.Spec PyProof.Rows L2
inductive St where
  | alone | lacking | step | stale (v : Int)
  deriving DecidableEq
def eSt : St → D
  | .alone => .tuple [.str "alone"]
  | .lacking => .tuple [.str "lacking"]
  | .step => .tuple [.str "step"]
  | .stale v => .tuple [.str "stale", .int v]
def since (b : Bk) (l : Lk) (s : Bool) : Int := match minDN (.list (intsL (later b l (!s)))) with
  | some (.int i) => i
  | _ => 0
theorem WF.since {b : Bk} (w : WF b) {l : Lk} (hl : l ∈ b.ls) (s : Bool) : f_stale_since [eBk b, eLk l, sdI s] = some (if later b l (!s) = [] then .none else .int (since b l s)) := by
  rw [w.stale hl s]
  obtain ⟨v, hv, c1, c2⟩ := minN_ints (later b l (!s))
  rw [hv]
  by_cases h : later b l (!s) = []
  · rw [if_pos h, c1 h]
  · rw [if_neg h]
    obtain ⟨i, hi⟩ := c2 h
    unfold TK.M.since
    rw [hv, hi]
def stOf (b : Bk) (s : Bool) (x : Str) : St := if x ∈ b.al then .alone else match lkOf b s x with
  | none => .lacking
  | some l => if later b l (!s) = [] then .step else .stale (since b l s)
theorem WF.state {b : Bk} (w : WF b) {s : Bool} {x : Str} (h : On b s x) : f_state_of [eBk b, .str x] = some (eSt (stOf b s x)) := by
  have hs := w.side h
  have hl := w.link h
  unfold stOf
  by_cases ha : x ∈ b.al
  · rw [if_pos ha]
    simp [-List.map_map, f_state_of, g_state_of, hs, ha, eSt]
  · rw [if_neg ha]
    cases hk : lkOf b s x with
    | none =>
      rw [hk] at hl
      simp [-List.map_map, f_state_of, g_state_of, hs, ha, hl, oLk, eSt]
    | some l =>
      rw [hk] at hl
      have hm := lkOf_mem hk
      have hst := w.since hm.1 s
      show _ = some (eSt (if later b l (!s) = [] then .step else .stale (TK.M.since b l s)))
      by_cases e : later b l (!s) = []
      · rw [if_pos e] at hst ⊢
        simp [-List.map_map, f_state_of, g_state_of, hs, ha, hl, oLk, eSt, hst]
      · rw [if_neg e] at hst ⊢
        simp [-List.map_map, f_state_of, g_state_of, hs, ha, hl, oLk, eSt, hst]
abbrev eNS (p : Str × St) : D := .tuple [.str p.1, eSt p.2]
def stsOf (b : Bk) (s : Bool) : List (Str × St) := (b.sd s).map fun p => (p.n, stOf b s p.n)
theorem stsOf_eq (b : Bk) (s : Bool) : (stsOf b s).map eNS = (b.sd s).map fun p => .tuple [.str p.n, eSt (stOf b s p.n)] := by
  unfold stsOf
  rw [List.map_map] <;> rfl
theorem WF.len {b : Bk} (w : WF b) (s : Bool) : (b.sd s).length ≤ 1000 := by
  cases s with
  | true => exact w.sz.q
  | false => exact w.sz.p
theorem WF.states {b : Bk} (w : WF b) : f_states [eBk b] = some (.tuple [.tuple ((stsOf b false).map eNS), .tuple ((stsOf b true).map eNS)]) := by
  have one : ∀ s : Bool, ∀ v1 : Option D, (unE tupleD (newE (compN (seqI (varE 2)) (tgN 3) (yesT) (tupE (consA (binE idxD (varE 3) (cE (.int 0))) (consA (callE f_state_of (consA (varE 0) (consA (binE idxD (varE 3) (cE (.int 0))) (nilA)))) (nilA)))) [3]))) [some (eBk b), v1, some (.tuple ((b.sd s).map ePt)), none] (0, []) = some (.tuple ((stsOf b s).map eNS), (0, [])) := fun s v1 => by
    have e := compL_map' ePt (tg := tgN 3) (el := tupE (consA (binE idxD (varE 3) (cE (.int 0))) (consA (callE f_state_of (consA (varE 0) (consA (binE idxD (varE 3) (cE (.int 0))) (nilA)))) (nilA)))) (ρ := [some (eBk b), v1, some (.tuple ((b.sd s).map ePt)), none]) (γ := ((0, []) : G)) (fun p => .tuple [.str p.n, eSt (stOf b s p.n)]) (b.sd s) fun p hp => ⟨_, rfl, by
      have hst := w.state (s := s) (x := p.n) (List.mem_map.mpr ⟨p, hp, rfl⟩)
      simp [-List.map_map, hst]⟩
    have hl : (b.sd s).length ≤ LINE := line_of (Nat.le_trans (w.len s) (by decide))
    rw [stsOf_eq]
    simp [-List.map_map, hl, e]
  have hsl : sliceD (eBk b) none (some 2) = some (.tuple [.tuple ((b.sd false).map ePt), .tuple ((b.sd true).map ePt)]) := rfl
  have h0 := one false none
  have h1 := one true none
  have e0 : compL (tgN 2) yesT (unE tupleD (newE (compN (seqI (varE 2)) (tgN 3) (yesT) (tupE (consA (binE idxD (varE 3) (cE (.int 0))) (consA (callE f_state_of (consA (varE 0) (consA (binE idxD (varE 3) (cE (.int 0))) (nilA)))) (nilA)))) [3]))) [.tuple ((b.sd false).map ePt), .tuple ((b.sd true).map ePt)] [some (eBk b), none, none, none] ((0, []) : G) = some ([.tuple ((stsOf b false).map eNS), .tuple ((stsOf b true).map eNS)], (0, [])) := by
    unfold compL
    show ((unE tupleD _ [some (eBk b), none, some (.tuple ((b.sd false).map ePt)), none] (0, [])).bind _) = _
    rw [h0, Option.bind_some]
    unfold compL
    show (((unE tupleD _ [some (eBk b), none, some (.tuple ((b.sd true).map ePt)), none] (0, [])).bind _).bind _) = _
    rw [h1] <;> rfl
  have e1 : (newE (compN (seqI (sliceE (varE 0) (noneO) (someO (cE (.int 2))))) (tgN 2) (yesT) (unE tupleD (newE (compN (seqI (varE 2)) (tgN 3) (yesT) (tupE (consA (binE idxD (varE 3) (cE (.int 0))) (consA (callE f_state_of (consA (varE 0) (consA (binE idxD (varE 3) (cE (.int 0))) (nilA)))) (nilA)))) [3]))) [2])) [some (eBk b), none, none, none] (0, []) = some (.list [.tuple ((stsOf b false).map eNS), .tuple ((stsOf b true).map eNS)], (0, [])) := by
    show ((compL (tgN 2) yesT (unE tupleD (newE (compN (seqI (varE 2)) (tgN 3) (yesT) (tupE (consA (binE idxD (varE 3) (cE (.int 0))) (consA (callE f_state_of (consA (varE 0) (consA (binE idxD (varE 3) (cE (.int 0))) (nilA)))) (nilA)))) [3]))) [.tuple ((b.sd false).map ePt), .tuple ((b.sd true).map ePt)] [some (eBk b), none, none, none] ((0, []) : G)).bind fun x => some (PyData.list x.1, x.2)) = _
    rw [e0] <;> rfl
  unfold f_states
  rw [s_runP]
  show (g_states [some (eBk b), none, none, none] (0, [])).bind _ = _
  unfold g_states
  rw [s_seqS, s_setS, e1] <;> simp [-List.map_map]
end TK.M
end
section
set_option Elab.async false
set_option linter.all false
set_option maxRecDepth 100000
set_option maxHeartbeats 4000000
namespace TK.M
open PySem PySem.Spec PyProof.Rows L2
theorem flat_st (st : St) : flat 1 (eSt st) := by
  cases st with
  | alone => exact flat_tup (n := 0) fun d h => by rw [List.mem_singleton.mp h]; exact flat_str _ _
  | lacking => exact flat_tup (n := 0) fun d h => by rw [List.mem_singleton.mp h]; exact flat_str _ _
  | step => exact flat_tup (n := 0) fun d h => by rw [List.mem_singleton.mp h]; exact flat_str _ _
  | stale v =>
    refine flat_tup (n := 0) fun d h => ?_
    simp only [List.mem_cons, List.not_mem_nil, or_false] at h
    rcases h with rfl | rfl
    · exact flat_str _ _
    · exact flat_int _ _
theorem eq_lacking (st : St) : eqD (eSt st) (.tuple [.str "lacking"]) = some (.bool (decide (st = .lacking))) := by
  rw [eqD_of (flat_st st) (show flat 1 (.tuple [.str "lacking"]) from flat_st .lacking)]
  cases st with
  | alone => rfl
  | lacking => rfl
  | step => rfl
  | stale v => rfl
def lackOf (b : Bk) (s : Bool) : List Str := ((stsOf b s).filter fun p => decide (p.2 = .lacking)).map (·.1)
def elL : GE := unE tupleD (newE (compN (seqI (varE 2)) (tgT [3, 4]) (valT (binE eqD (varE 4) (tupE (consA (cE (.str "lacking")) (nilA))))) (varE 3) [3, 4]))
theorem sts_len {b : Bk} (w : WF b) (s : Bool) : (stsOf b s).length ≤ 1000 := by
  unfold stsOf
  rw [List.length_map]
  exact w.len s
theorem WF.lacking {b : Bk} (w : WF b) : f_lacking [eBk b] = some (.tuple [.tuple (strsD (lackOf b false)), .tuple (strsD (lackOf b true))]) := by
  have hs := w.states
  have one : ∀ s : Bool, ∀ v1 : Option D, elL [some (eBk b), v1, some (.tuple ((stsOf b s).map eNS)), none, none] (0, []) = some (.tuple (strsD (lackOf b s)), (0, [])) := fun s v1 => by
    have e := compL_map eNS (tg := tgT [3, 4]) (t := valT (binE eqD (varE 4) (tupE (consA (cE (.str "lacking")) (nilA))))) (el := varE 3) (ρ := [some (eBk b), v1, some (.tuple ((stsOf b s).map eNS)), none, none]) (γ := ((0, []) : G)) (fun p => decide (p.2 = .lacking)) (fun p => .str p.1) (stsOf b s) fun p hp => ⟨_, rfl, by
      have := eq_lacking p.2
      simp [-List.map_map, this], fun _ => rfl⟩
    have hl : (stsOf b s).length ≤ LINE := line_of (Nat.le_trans (sts_len w s) (by decide))
    have e9 : strsD (lackOf b s) = ((stsOf b s).filter fun p => decide (p.2 = .lacking)).map fun p => .str p.1 := by
      unfold strsD lackOf
      rw [List.map_map] <;> rfl
    rw [e9]
    unfold elL
    simp [-List.map_map, hl, e]
  have h0 := one false none
  have h1 := one true none
  have e0 : compL (tgN 2) yesT elL [.tuple ((stsOf b false).map eNS), .tuple ((stsOf b true).map eNS)] [some (eBk b), none, none, none, none] ((0, []) : G) = some ([.tuple (strsD (lackOf b false)), .tuple (strsD (lackOf b true))], (0, [])) := by
    unfold compL
    show ((elL [some (eBk b), none, some (.tuple ((stsOf b false).map eNS)), none, none] (0, [])).bind _) = _
    rw [h0, Option.bind_some]
    unfold compL
    show (((elL [some (eBk b), none, some (.tuple ((stsOf b true).map eNS)), none, none] (0, [])).bind _).bind _) = _
    rw [h1] <;> rfl
  have e1 : (newE (compN (seqI (callE f_states (consA (varE 0) (nilA)))) (tgN 2) (yesT) elL [2])) [some (eBk b), none, none, none, none] (0, []) = some (.list [.tuple (strsD (lackOf b false)), .tuple (strsD (lackOf b true))], (0, [])) := by
    have e2 : seqI (callE f_states (consA (varE 0) (nilA))) [some (eBk b), none, none, none, none] (0, []) = some ([.tuple ((stsOf b false).map eNS), .tuple ((stsOf b true).map eNS)], (0, [])) := by
      show (((f_states [eBk b]).bind _).bind _) = _
      rw [hs] <;> rfl
    rw [s_newE, s_compN, e2, Option.bind_some]
    show ((compL (tgN 2) yesT elL [.tuple ((stsOf b false).map eNS), .tuple ((stsOf b true).map eNS)] [some (eBk b), none, none, none, none] ((0, []) : G)).bind fun x => some (PyData.list x.1, x.2)) = _
    rw [e0] <;> rfl
  unfold f_lacking
  rw [s_runP]
  show (g_lacking [some (eBk b), none, none, none, none] (0, [])).bind _ = _
  unfold g_lacking
  show ((((newE (compN (seqI (callE f_states (consA (varE 0) (nilA)))) (tgN 2) (yesT) elL [2])) [some (eBk b), none, none, none, none] (0, [])).bind _).bind _).bind _ = _
  rw [e1] <;> simp [-List.map_map]
/-! ### stale -/
def staleL (b : Bk) : List (Str × Int) := (stsOf b false ++ stsOf b true).filterMap fun p => match p.2 with
  | .stale v => some (p.1, v)
  | _ => none
theorem eq_stale (st : St) : (match idxD (eSt st) (.int 0) with
    | some d => eqD d (.str "stale")
    | none => none) = some (.bool (match st with
      | .stale _ => true
      | _ => false)) := by
  cases st <;> rfl
abbrev eVN (p : Str × Int) : D := .tuple [.int p.2, .str p.1]
/-- sorted, on typed data -/
def tsort {α : Type} (enc : α → D) (l : List α) : List α := l.mergeSort fun a b => PySem.W.dataLe false id (enc a) (enc b)
theorem sortD_map {α : Type} (enc : α → D) (l : List α) : sortD (l.map enc) = (tsort enc l).map enc := (PySem.W.sort_maps enc fun _ _ _ _ => rfl).symm
theorem tsort_perm {α : Type} (enc : α → D) (l : List α) : (tsort enc l).Perm l := List.mergeSort_perm ..
theorem tsort_mem {α : Type} {enc : α → D} {l : List α} {x : α} : x ∈ tsort enc l ↔ x ∈ l := (tsort_perm enc l).mem_iff
theorem tsort_len {α : Type} (enc : α → D) (l : List α) : (tsort enc l).length = l.length := (tsort_perm enc l).length_eq
theorem tsort_le {α : Type} (enc : α → D) (l : List α) : (tsort enc l).Pairwise fun a b => PySem.W.dataLt (enc b) (enc a) = false := by
  have h := sortD_le (l.map enc)
  rw [sortD_map] at h
  exact List.pairwise_map.mp h
theorem okSort_map {α : Type} (enc : α → D) (l : List α) {n : Nat} (hn : n ≤ 30) (h1 : ∀ x ∈ l, flat n (enc x)) (h2 : ∀ x ∈ l, ∀ y ∈ l, PySem.W.alike (enc x) (enc y) = true) (h3 : (∀ x ∈ l, tupC (enc x) = true) ∨ ∀ x ∈ l, noTN (enc x) = true) : okSort (l.map enc) = true := by
  unfold okSort
  have a1 : (l.map enc).all okD = true := List.all_eq_true.mpr fun d h => by
    obtain ⟨x, hx, rfl⟩ := List.mem_map.mp h
    exact (h1 x hx).ok hn
  have a2 : (l.map enc).all (fun d => (l.map enc).all (PySem.W.alike d)) = true := List.all_eq_true.mpr fun d h => List.all_eq_true.mpr fun e he => by
    obtain ⟨x, hx, rfl⟩ := List.mem_map.mp h
    obtain ⟨y, hy, rfl⟩ := List.mem_map.mp he
    exact h2 x hx y hy
  rw [a1, a2]
  rcases h3 with h3 | h3
  · have a3 : (l.map enc).all tupC = true := List.all_eq_true.mpr fun d h => by
      obtain ⟨x, hx, rfl⟩ := List.mem_map.mp h
      exact h3 x hx
    rw [a3] <;> rfl
  · have a3 : (l.map enc).all noTN = true := List.all_eq_true.mpr fun d h => by
      obtain ⟨x, hx, rfl⟩ := List.mem_map.mp h
      exact h3 x hx
    rw [a3]
    simp
theorem sorted_map {α : Type} (enc : α → D) (l : List α) (h : okSort (l.map enc) = true) (d : D) (hd : itemsD d = some (l.map enc)) : sortedD d = some (.list ((tsort enc l).map enc)) := by
  unfold sortedD
  rw [hd, Option.bind_some, if_pos h, sortD_map]
theorem okSort_strs (l : List Str) : okSort (strsD l) = true := okSort_map PyData.str l (n := 0) (by decide) (fun x _ => flat_str 0 x) (fun x _ y _ => by simp [PySem.W.alike]) (.inr fun _ _ => rfl)
abbrev ssort (l : List Str) : List Str := tsort PyData.str l
@[simp] theorem sorted_strsL (l : List Str) : sortedD (.list (strsD l)) = some (.list (strsD (ssort l))) := sorted_map PyData.str l (okSort_strs l) _ rfl
@[simp] theorem sorted_strsT (l : List Str) : sortedD (.tuple (strsD l)) = some (.list (strsD (ssort l))) := sorted_map PyData.str l (okSort_strs l) _ rfl
theorem okSort_vn (l : List (Str × Int)) : okSort (l.map eVN) = true := okSort_map eVN l (n := 1) (by decide) (fun x _ => flat_tup (n := 0) fun d h => by
    simp only [List.mem_cons, List.not_mem_nil, or_false] at h
    rcases h with h | h <;> rw [h]
    · exact flat_int _ _
    · exact flat_str _ _) (fun x _ y _ => by simp [PySem.W.alike, PySem.W.alikeAll]) (.inl fun _ _ => rfl)
def isStale (st : St) : Bool := match st with
  | .stale _ => true
  | _ => false
def stV (st : St) : Int := match st with
  | .stale v => v
  | _ => 0
def staleN (b : Bk) : List (Str × Int) := ((stsOf b false ++ stsOf b true).filter fun p => isStale p.2).map fun p => (p.1, stV p.2)
abbrev eNV (p : Str × Int) : D := .tuple [.str p.1, .int p.2]
theorem WF.stales {b : Bk} (w : WF b) : f_stale [eBk b] = some (.tuple ((tsort eVN (staleN b)).map eNV)) := by
  have hs := w.states
  have z0 := sts_len w false
  have z1 := sts_len w true
  have hl : ((stsOf b false).map eNS).length + ((stsOf b true).map eNS).length ≤ LINE := by
    rw [List.length_map, List.length_map]
    exact line_of (by omega)
  have hl2 : (stsOf b false ++ stsOf b true).length ≤ LINE := by
    rw [List.length_append]
    exact line_of (by omega)
  have e := compL_map eNS (tg := tgT [4, 5]) (t := valT (binE eqD (binE idxD (varE 5) (cE (.int 0))) (cE (.str "stale")))) (el := tupE (consA (binE idxD (varE 5) (cE (.int 1))) (consA (varE 4) (nilA)))) (ρ := [some (eBk b), none, some (.tuple ((stsOf b false).map eNS)), some (.tuple ((stsOf b true).map eNS)), none, none, none]) (γ := ((0, []) : G)) (fun p => isStale p.2) (fun p => eVN (p.1, stV p.2)) (stsOf b false ++ stsOf b true) fun p hp => by
    obtain ⟨x, st⟩ := p
    refine ⟨_, rfl, ?_, fun hf => ?_⟩
    · cases st <;> rfl
    · cases st with
      | stale v => rfl
      | _ => cases hf
  have e' : compL (tgT [4, 5]) (valT (binE eqD (binE idxD (varE 5) (cE (.int 0))) (cE (.str "stale")))) (tupE (consA (binE idxD (varE 5) (cE (.int 1))) (consA (varE 4) (nilA)))) ((stsOf b false).map eNS ++ (stsOf b true).map eNS) [some (eBk b), none, some (.tuple ((stsOf b false).map eNS)), some (.tuple ((stsOf b true).map eNS)), none, none, none] ((0, []) : G) = some ((staleN b).map eVN, (0, [])) := by
    rw [← List.map_append, e]
    unfold staleN
    rw [List.map_map] <;> rfl
  have hso := sorted_map eVN (staleN b) (okSort_vn _) (.list ((staleN b).map eVN)) rfl
  have hl3 : (tsort eVN (staleN b)).length ≤ LINE := by
    rw [tsort_len]
    unfold staleN
    rw [List.length_map]
    refine Nat.le_trans (List.length_filter_le _ _) hl2
  have e2 := compL_map' eVN (tg := tgT [6, 4]) (el := tupE (consA (varE 4) (consA (varE 6) (nilA)))) (ρ := [some (eBk b), some (.list ((staleN b).map eVN)), some (.tuple ((stsOf b false).map eNS)), some (.tuple ((stsOf b true).map eNS)), none, none, none]) (γ := ((0, []) : G)) (fun p => eNV p) (tsort eVN (staleN b)) fun p _ => ⟨_, rfl, rfl⟩
  unfold f_stale
  rw [s_runP]
  show (g_stale [some (eBk b), none, none, none, none, none, none] (0, [])).bind _ = _
  unfold g_stale
  have hl3' : ((tsort eVN (staleN b)).map eVN).length ≤ LINE := by rw [List.length_map]; exact hl3
  have hl2' : ((stsOf b false).map eNS ++ (stsOf b true).map eNS).length ≤ LINE := by rw [List.length_append]; exact hl
  simp [-List.map_map, -List.map_append, hs, hl, e', hso, hl3', hl2', e2, -List.length_map, -List.length_append]
/-! ### in_step -/
def good (st : St) : Bool := match st with
  | .step => true
  | .alone => true
  | _ => false
theorem in_good (st : St) : (match idxD (eSt st) (.int 0) with
    | some d => inD d (.tuple [.str "step", .str "alone"])
    | none => none) = some (.bool (good st)) := by
  cases st <;> rfl
theorem boolsD_map {α : Type} (f : α → Bool) : ∀ l : List α, boolsD (l.map fun x => .bool (f x)) = some (l.map f)
  | [] => rfl
  | x :: l => by
    show ((boolsD (l.map fun x => .bool (f x))).map (f x :: ·)) = _
    rw [boolsD_map f l] <;> rfl
theorem all_bools {α : Type} (f : α → Bool) (l : List α) : allD (.list (l.map fun x => .bool (f x))) = some (.bool (l.all f)) := by
  show ((boolsD _).map _) = _
  rw [boolsD_map]
  show some (PyData.bool ((l.map f).all id)) = _
  rw [List.all_map] <;> rfl
theorem any_bools {α : Type} (f : α → Bool) (l : List α) : anyD (.list (l.map fun x => .bool (f x))) = some (.bool (l.any f)) := by
  show ((boolsD _).map _) = _
  rw [boolsD_map]
  show some (PyData.bool ((l.map f).any id)) = _
  rw [List.any_map] <;> rfl
theorem WF.in_step {b : Bk} (w : WF b) : f_in_step [eBk b] = some (.bool ((stsOf b false ++ stsOf b true).all fun p => good p.2)) := by
  have hs := w.states
  have z0 := sts_len w false
  have z1 := sts_len w true
  have hl : ((stsOf b false).map eNS).length + ((stsOf b true).map eNS).length ≤ LINE := by
    rw [List.length_map, List.length_map]
    exact line_of (by omega)
  have hl2' : ((stsOf b false).map eNS ++ (stsOf b true).map eNS).length ≤ LINE := by rw [List.length_append]; exact hl
  have e := compL_map' eNS (tg := tgT [3, 4]) (el := binE inD (binE idxD (varE 4) (cE (.int 0))) (tupE (consA (cE (.str "step")) (consA (cE (.str "alone")) (nilA))))) (ρ := [some (eBk b), some (.tuple ((stsOf b false).map eNS)), some (.tuple ((stsOf b true).map eNS)), none, none]) (γ := ((0, []) : G)) (fun p => .bool (good p.2)) (stsOf b false ++ stsOf b true) fun p hp => by
    obtain ⟨x, st⟩ := p
    refine ⟨_, rfl, ?_⟩
    cases st <;> rfl
  rw [List.map_append] at e
  have ha := all_bools (fun p : Str × St => good p.2) (stsOf b false ++ stsOf b true)
  unfold f_in_step
  rw [s_runP]
  show (g_in_step [some (eBk b), none, none, none, none] (0, [])).bind _ = _
  unfold g_in_step
  simp [-List.map_map, -List.map_append, hs, hl, e, hl2', ha, -List.length_map, -List.length_append, -List.all_append]
/-! ### step_names -/
def oldN (b : Bk) : List Str := (tsort eVN (staleN b)).map (·.1)
theorem okMin_strs (r : List Str) : okMin (strsD r) = true := by
  unfold okMin
  have h1 : (strsD r).all okD = true := List.all_eq_true.mpr fun d h => (flat_strs 0 r d h).ok
  have h2 : (strsD r).all (fun d => (strsD r).all (PySem.W.alike d)) = true := List.all_eq_true.mpr fun d h => List.all_eq_true.mpr fun e he => by
    obtain ⟨x, _, rfl⟩ := List.mem_map.mp h
    obtain ⟨y, _, rfl⟩ := List.mem_map.mp he
    simp [PySem.W.alike]
  have h3 : (strsD r).all (fun d => !isNone d) = true := List.all_eq_true.mpr fun d h => by
    obtain ⟨x, _, rfl⟩ := List.mem_map.mp h
    rfl
  rw [h1, h2, h3] <;> rfl
theorem minS (l : List Str) (h : l ≠ []) : ∃ x ∈ l, minD1 (.tuple (strsD l)) = some (.str x) := by
  cases l with
  | nil => exact absurd rfl h
  | cons y r =>
    have := minD_mem (strsD r) (.str y)
    have e : ∃ x ∈ y :: r, PySem.W.minD (.str y) (strsD r) = .str x := by
      rcases List.mem_cons.mp this with h | h
      · exact ⟨y, List.mem_cons_self, h⟩
      · obtain ⟨v, hv, e⟩ := List.mem_map.mp h
        exact ⟨v, List.mem_cons_of_mem _ hv, e.symm⟩
    obtain ⟨x, hx, e⟩ := e
    refine ⟨x, hx, ?_⟩
    show (if okMin (strsD (y :: r)) then some (PySem.W.minD (.str y) (strsD r)) else none) = _
    rw [okMin_strs, e] <;> rfl
def minN (l : Lk) : Str := match minD1 (.tuple (strsD (l.a ++ l.b))) with
  | some (.str x) => x
  | _ => ""
def isOld (b : Bk) (l : Lk) : Bool := (l.a ++ l.b).any fun x => decide (x ∈ oldN b)
def stepL (b : Bk) : List Str := ssort ((b.ls.filter (isOld b)).map minN)
theorem WF.minN {b : Bk} (w : WF b) {l : Lk} (hl : l ∈ b.ls) : minD1 (.tuple (strsD (l.a ++ l.b))) = some (.str (minN l)) ∧ TK.M.minN l ∈ l.a ++ l.b := by
  obtain ⟨x, hx, e⟩ := minS (l.a ++ l.b) (fun z => w.na l hl (List.append_eq_nil_iff.mp z).1)
  unfold TK.M.minN
  rw [e]
  exact ⟨rfl, hx⟩
theorem WF.steps {b : Bk} (w : WF b) : f_step_names [eBk b] = some (.list (strsD (stepL b))) := by
  have hs := w.stales
  have hl3 : ((tsort eVN (staleN b)).map eNV).length ≤ LINE := by
    rw [List.length_map, tsort_len]
    unfold staleN
    rw [List.length_map]
    refine Nat.le_trans (List.length_filter_le _ _) ?_
    rw [List.length_append]
    have z0 := sts_len w false
    have z1 := sts_len w true
    exact line_of (by omega)
  have e1 := compL_map' eNV (tg := tgT [5, 6]) (el := varE 5) (ρ := [some (eBk b), none, none, none, none, none, none]) (γ := ((0, []) : G)) (fun p => .str p.1) (tsort eVN (staleN b)) fun p _ => ⟨_, rfl, rfl⟩
  have e1' : (newE (compN (seqI (callE f_stale (consA (varE 0) (nilA)))) (tgT [5, 6]) (yesT) (varE 5) [5, 6])) [some (eBk b), none, none, none, none, none, none] (0, []) = some (.list (strsD (oldN b)), (0, [])) := by
    have e9 : strsD (oldN b) = (tsort eVN (staleN b)).map fun p => .str p.1 := by
      unfold strsD oldN
      rw [List.map_map] <;> rfl
    rw [e9]
    simp [-List.map_map, hs, hl3, e1, -List.length_map]
  unfold f_step_names
  rw [s_runP]
  show (g_step_names [some (eBk b), none, none, none, none, none, none] (0, [])).bind _ = _
  unfold g_step_names
  rw [s_seqS, s_setS, e1', Option.bind_some, Option.bind_some]
  show (seqS _ _ [some (eBk b), some (.list (strsD (oldN b))), none, none, none, none, none] (0, [])).bind _ = _
  rw [s_seqS]
  show (seqS _ _ [some (eBk b), some (.list (strsD (oldN b))), some (.list []), none, none, none, none] (0, [])).bind _ = _
  rw [s_seqS, s_forS]
  have e2 : seqI (binE idxD (varE 0) (cE (.int 2))) [some (eBk b), some (.list (strsD (oldN b))), some (.list []), none, none, none, none] (0, []) = some (b.ls.map eLk, (0, [])) := by simp [-List.map_map]
  rw [e2, Option.bind_some]
  obtain ⟨ρ', γ', h1, v3, v4, v5, h2, h3⟩ := forL_all eLk (fun don ρ γ => ∃ v3 v4 v5, ρ = [some (eBk b), some (.list (strsD (oldN b))), some (.list (strsD ((don.filter (isOld b)).map TK.M.minN))), v3, v4, v5, none] ∧ γ = (0, [])) (tg := tgN 3)
    (b := seqS (setS 4 (binE addD (binE idxD (varE 3) (cE (.int 0))) (binE idxD (varE 3) (cE (.int 1))))) (ifS (valT (unE anyD (newE (compN (seqI (varE 4)) (tgN 5) (yesT) (binE inD (varE 5) (varE 1)) [5])))) (appS 2 (unE minD1 (varE 4))) (nextS)))
    b.ls [some (eBk b), some (.list (strsD (oldN b))), some (.list []), none, none, none, none] (0, []) (fun don l rest e ρ γ ⟨v3, v4, v5, h1, h2⟩ => by
      subst h1 h2
      have hl : l ∈ b.ls := by rw [e]; simp
      obtain ⟨m1, m2⟩ := w.minN hl
      obtain ⟨q1, q2, _, _⟩ := w.sz.la l hl
      have hdon : don.length ≤ 1000 := by
        have := w.sz.ls
        rw [e, List.length_append] at this
        omega
      have hln : (strsD l.a).length + (strsD l.b).length ≤ LINE := by
        rw [List.length_map, List.length_map]
        exact line_of (by omega)
      have e3 := compL_map' PyData.str (tg := tgN 5) (el := binE inD (varE 5) (varE 1)) (ρ := [some (eBk b), some (.list (strsD (oldN b))), some (.list (strsD ((don.filter (isOld b)).map TK.M.minN))), some (eLk l), some (.tuple (strsD (l.a ++ l.b))), none, none]) (γ := ((0, []) : G)) (fun x => .bool (decide (x ∈ oldN b))) (l.a ++ l.b) fun x _ => ⟨_, rfl, by simp [-List.map_map]⟩
      have ha := any_bools (fun x => decide (x ∈ oldN b)) (l.a ++ l.b)
      have hln2 : (strsD (l.a ++ l.b)).length ≤ LINE := by
        rw [List.length_map, List.length_append]
        exact line_of (by omega)
      have hap : strsD l.a ++ strsD l.b = strsD (l.a ++ l.b) := by unfold strsD; rw [List.map_append]
      have hfl : (strsD ((don.filter (isOld b)).map TK.M.minN)).length < LINE := by
        rw [List.length_map, List.length_map]
        have := List.length_filter_le (isOld b) don
        have : (1001 : Nat) ≤ LINE := by decide
        omega
      have hmb : (if isOld b l then some (Out.nx [some (eBk b), some (.list (strsD (oldN b))), some (.list (strsD ((don.filter (isOld b)).map TK.M.minN) ++ [.str (TK.M.minN l)])), some (eLk l), some (.tuple (strsD (l.a ++ l.b))), v5, none], ((0, []) : G)) else some (Out.nx [some (eBk b), some (.list (strsD (oldN b))), some (.list (strsD ((don.filter (isOld b)).map TK.M.minN))), some (eLk l), some (.tuple (strsD (l.a ++ l.b))), v5, none], ((0, []) : G))) = some (Out.nx [some (eBk b), some (.list (strsD (oldN b))), some (.list (strsD (((don ++ [l]).filter (isOld b)).map TK.M.minN))), some (eLk l), some (.tuple (strsD (l.a ++ l.b))), v5, none], ((0, []) : G)) := by
        rw [List.filter_append]
        cases ho : isOld b l with
        | true =>
          rw [List.filter_cons_of_pos ho, List.filter_nil, List.map_append]
          simp [strsD]
        | false =>
          rw [List.filter_cons_of_neg (by rw [ho]; exact Bool.false_ne_true), List.filter_nil, List.append_nil]
          simp
      refine ⟨_, _, _, rfl, ?_, some (eLk l), some (.tuple (strsD (l.a ++ l.b))), v5, rfl, rfl⟩
      rw [← hmb]
      show seqS _ _ [some (eBk b), some (.list (strsD (oldN b))), some (.list (strsD ((don.filter (isOld b)).map TK.M.minN))), some (eLk l), v4, v5, none] (0, []) = _
      rw [s_seqS]
      have e5 : (setS 4 (binE addD (binE idxD (varE 3) (cE (.int 0))) (binE idxD (varE 3) (cE (.int 1))))) [some (eBk b), some (.list (strsD (oldN b))), some (.list (strsD ((don.filter (isOld b)).map TK.M.minN))), some (eLk l), v4, v5, none] (0, []) = some (.nx [some (eBk b), some (.list (strsD (oldN b))), some (.list (strsD ((don.filter (isOld b)).map TK.M.minN))), some (eLk l), some (.tuple (strsD (l.a ++ l.b))), v5, none], (0, [])) := by
        rw [← hap]
        simp [-List.map_map, hln, -List.length_map, -List.map_append]
      rw [e5, Option.bind_some]
      show ifS _ _ _ [some (eBk b), some (.list (strsD (oldN b))), some (.list (strsD ((don.filter (isOld b)).map TK.M.minN))), some (eLk l), some (.tuple (strsD (l.a ++ l.b))), v5, none] (0, []) = _
      rw [s_ifS]
      have e6 : (valT (unE anyD (newE (compN (seqI (varE 4)) (tgN 5) (yesT) (binE inD (varE 5) (varE 1)) [5])))) [some (eBk b), some (.list (strsD (oldN b))), some (.list (strsD ((don.filter (isOld b)).map TK.M.minN))), some (eLk l), some (.tuple (strsD (l.a ++ l.b))), v5, none] (0, []) = some (isOld b l, (0, [])) := by
        simp [-List.map_map, hln2, -List.length_map, -List.map_append, e3, ha, isOld, -List.any_append]
      rw [e6, Option.bind_some]
      cases ho : isOld b l with
      | true =>
        simp [-List.map_map, m1, hfl, -List.length_map, -List.map_append]
      | false => simp) ⟨none, none, none, rfl, rfl⟩
  subst h2 h3
  show ((forL _ _ _ _ _).bind _).bind _ = _
  rw [h1]
  simp [-List.map_map, stepL]
end TK.M
end
section
set_option Elab.async false
set_option linter.all false
set_option maxRecDepth 100000
set_option maxHeartbeats 4000000
/-! Kuhn's matching, plainly. -/
namespace TK.M
open PySem PySem.Spec PyProof.Rows L2
/-! ### the list of pairs as a map -/
theorem lk_none {ms : Mt} {k : Str} : lkM ms k = none ↔ k ∉ ms.map (·.1) := by
  unfold lkM
  constructor
  · intro h m
    obtain ⟨p, hp, e⟩ := List.mem_map.mp m
    have h2 : ms.find? (fun p => decide (p.1 = k)) = none := by
      cases z : ms.find? (fun p => decide (p.1 = k)) with
      | none => rfl
      | some y => rw [z] at h; cases h
    have := List.find?_eq_none.mp h2 p hp
    simp [e] at this
  · intro h
    have h2 : ms.find? (fun p => decide (p.1 = k)) = none := List.find?_eq_none.mpr fun p hp e => h (List.mem_map.mpr ⟨p, hp, by simpa using e⟩)
    rw [h2] <;> rfl
theorem lk_mem {ms : Mt} {k v : Str} (h : lkM ms k = some v) : (k, v) ∈ ms := by
  unfold lkM at h
  obtain ⟨p, h1, h2⟩ := Option.map_eq_some_iff.mp h
  have h3 := List.find?_some h1
  have h4 := List.mem_of_find?_eq_some h1
  have h5 : p.1 = k := by simpa using h3
  have : p = (k, v) := Prod.ext h5 h2
  rw [← this]
  exact h4
theorem lk_of {ms : Mt} (nd : (ms.map (·.1)).Nodup) {k v : Str} (h : (k, v) ∈ ms) : lkM ms k = some v := by
  cases z : lkM ms k with
  | none => exact absurd (List.mem_map.mpr ⟨_, h, rfl⟩) (lk_none.mp z)
  | some u =>
    have hu := lk_mem z
    have : v = u := by
      induction ms with
      | nil => cases h
      | cons p t ih =>
        rw [List.map_cons, List.nodup_cons] at nd
        rcases List.mem_cons.mp h with e | h'
        · rcases List.mem_cons.mp hu with e2 | h2
          · rw [← e] at e2
            exact (Prod.mk.inj e2).2.symm
          · exact absurd (List.mem_map.mpr ⟨_, h2, by rw [← e]⟩) nd.1
        · rcases List.mem_cons.mp hu with e2 | h2
          · exact absurd (List.mem_map.mpr ⟨_, h', by rw [← e2]⟩) nd.1
          · have zt : lkM t k = some u := by
              unfold lkM at z ⊢
              have hne : ¬ p.1 = k := fun e => nd.1 (List.mem_map.mpr ⟨_, h', by rw [e]⟩)
              rw [List.find?_cons_of_neg (by simpa using hne)] at z
              exact z
            exact ih nd.2 h' zt h2
    rw [this]
theorem putM_new {ms : Mt} {k v : Str} (h : lkM ms k = none) : putM ms k v = ms ++ [(k, v)] := by
  unfold putM
  rw [if_neg]
  intro e
  obtain ⟨p, hp, e2⟩ := List.any_eq_true.mp e
  exact lk_none.mp h (List.mem_map.mpr ⟨p, hp, by simpa using e2⟩)
theorem putM_old {ms : Mt} {k v u : Str} (h : lkM ms k = some u) : putM ms k v = ms.map fun p => if p.1 = k then (p.1, v) else p := by
  unfold putM
  rw [if_pos]
  exact List.any_eq_true.mpr ⟨_, lk_mem h, by simp⟩
theorem keys_put (ms : Mt) (k v : Str) : (putM ms k v).map (·.1) = if k ∈ ms.map (·.1) then ms.map (·.1) else ms.map (·.1) ++ [k] := by
  cases h : lkM ms k with
  | none =>
    rw [putM_new h, if_neg (lk_none.mp h), List.map_append] <;> rfl
  | some u =>
    rw [putM_old h, if_pos (List.mem_map.mpr ⟨_, lk_mem h, rfl⟩), List.map_map]
    refine List.map_congr_left fun p _ => ?_
    show (if p.1 = k then (p.1, v) else p).1 = p.1
    split <;> rfl
theorem mem_put {ms : Mt} {k v : Str} {p : Str × Str} (h : p ∈ putM ms k v) : p = (k, v) ∨ (p ∈ ms ∧ p.1 ≠ k) := by
  cases z : lkM ms k with
  | none =>
    rw [putM_new z] at h
    rcases List.mem_append.mp h with h | h
    · exact .inr ⟨h, fun e => lk_none.mp z (List.mem_map.mpr ⟨p, h, e⟩)⟩
    · exact .inl (List.mem_singleton.mp h)
  | some u =>
    rw [putM_old z] at h
    obtain ⟨q, hq, e⟩ := List.mem_map.mp h
    by_cases hk : q.1 = k
    · rw [if_pos hk] at e
      exact .inl (by rw [← e, hk])
    · rw [if_neg hk] at e
      subst e
      exact .inr ⟨hq, hk⟩
theorem nodup_put {ms : Mt} {k v : Str} (nd : (ms.map (·.1)).Nodup) : ((putM ms k v).map (·.1)).Nodup := by
  rw [keys_put]
  split
  · exact nd
  · rename_i h
    rw [List.nodup_append]
    exact ⟨nd, by simp, fun a ha b hb e => by
      rw [List.mem_singleton] at hb
      subst hb
      subst e
      exact h ha⟩
theorem lk_put {ms : Mt} {k v : Str} (nd : (ms.map (·.1)).Nodup) (j : Str) : lkM (putM ms k v) j = if j = k then some v else lkM ms j := by
  have nd2 := nodup_put (k := k) (v := v) nd
  by_cases e : j = k
  · subst e
    rw [if_pos rfl]
    refine lk_of nd2 ?_
    cases z : lkM ms j with
    | none => rw [putM_new z]; simp
    | some u =>
      rw [putM_old z]
      exact List.mem_map.mpr ⟨_, lk_mem z, by simp⟩
  · rw [if_neg e]
    cases z : lkM ms j with
    | none =>
      refine lk_none.mpr fun m => ?_
      rw [keys_put] at m
      split at m
      · exact lk_none.mp z m
      · rcases List.mem_append.mp m with m | m
        · exact lk_none.mp z m
        · exact e (List.mem_singleton.mp m)
    | some u =>
      refine lk_of nd2 ?_
      have hz := lk_mem z
      cases zk : lkM ms k with
      | none => rw [putM_new zk]; exact List.mem_append_left _ hz
      | some u2 =>
        rw [putM_old zk]
        exact List.mem_map.mpr ⟨_, hz, by rw [if_neg e]⟩
/-- the values, counted -/
theorem vals_new {ms : Mt} {k v : Str} (h : lkM ms k = none) : ((putM ms k v).map (·.2)).Perm (v :: ms.map (·.2)) := by
  rw [putM_new h, List.map_append]
  exact List.perm_append_singleton v _
theorem vals_old {k v : Str} : ∀ {ms : Mt} {u : Str}, (ms.map (·.1)).Nodup → lkM ms k = some u → (u :: (putM ms k v).map (·.2)).Perm (v :: ms.map (·.2))
  | [], u, _, h => by cases h
  | p :: t, u, nd, h => by
    rw [List.map_cons, List.nodup_cons] at nd
    rw [putM_old h, List.map_map]
    by_cases e : p.1 = k
    · have hu : p.2 = u := by
        unfold lkM at h
        rw [List.find?_cons_of_pos (by simpa using e)] at h
        exact Option.some.inj h
      have ht : t.map ((fun q : Str × Str => q.2) ∘ fun p => if p.1 = k then (p.1, v) else p) = t.map (·.2) := by
        refine List.map_congr_left fun q hq => ?_
        have : q.1 ≠ k := fun z => nd.1 (List.mem_map.mpr ⟨q, hq, by rw [z, e]⟩)
        show (if q.1 = k then (q.1, v) else q).2 = q.2
        rw [if_neg this]
      rw [List.map_cons, List.map_cons, ht]
      show (u :: (if p.1 = k then (p.1, v) else p).2 :: t.map (·.2)).Perm _
      rw [if_pos e, hu]
      exact List.Perm.swap v u _
    · have h' : lkM t k = some u := by
        unfold lkM at h ⊢
        rw [List.find?_cons_of_neg (by simpa using e)] at h
        exact h
      have ih := vals_old (v := v) nd.2 h'
      rw [putM_old h', List.map_map] at ih
      rw [List.map_cons, List.map_cons]
      show (u :: (if p.1 = k then (p.1, v) else p).2 :: _).Perm _
      rw [if_neg e]
      exact ((List.Perm.swap p.2 u _).trans (ih.cons p.2)).trans (List.Perm.swap v p.2 _)
end TK.M
end
section
set_option Elab.async false
set_option linter.all false
set_option maxRecDepth 100000
set_option maxHeartbeats 4000000
/-! Kuhn's matching: one search, all of them. -/
namespace TK.M
open PySem PySem.Spec PyProof.Rows L2
theorem nodup_sub {α : Type} [DecidableEq α] : ∀ {l R : List α}, l.Nodup → (∀ x ∈ l, x ∈ R) → l.length ≤ R.length
  | [], _, _, _ => Nat.zero_le _
  | x :: l, R, nd, h => by
    rw [List.nodup_cons] at nd
    have hx := h x List.mem_cons_self
    have ih := nodup_sub (l := l) (R := R.erase x) nd.2 fun y hy => (List.mem_erase_of_ne fun e => nd.1 (by rw [← e]; exact hy)).mpr (h y (List.mem_cons_of_mem _ hy))
    rw [List.length_erase_of_mem hx] at ih
    have : 0 < R.length := List.length_pos_of_mem hx
    rw [List.length_cons]
    omega
structure Gr (W : Wy) (L R : List Str) : Prop where
  nL : L.Nodup
  nR : R.Nodup
  ways : ∀ l ∈ L, ∃ os, lkW W l = some os ∧ ∀ o ∈ os, o ∈ R
  small : R.length < LINE
structure Kok (W : Wy) (L : List Str) (ms : Mt) : Prop where
  nd : (ms.map (·.1)).Nodup
  ok : ∀ p ∈ ms, p.2 ∈ L ∧ ∃ os, lkW W p.2 = some os ∧ p.1 ∈ os
variable {W : Wy} {L R : List Str}
theorem Kok.inR (g : Gr W L R) {ms : Mt} (k : Kok W L ms) : ∀ r ∈ ms.map (·.1), r ∈ R := fun r h => by
  obtain ⟨p, hp, rfl⟩ := List.mem_map.mp h
  obtain ⟨h1, os, h2, h3⟩ := k.ok p hp
  obtain ⟨os', h4, h5⟩ := g.ways _ h1
  rw [h2] at h4
  cases h4
  exact h5 _ h3
theorem Kok.len (g : Gr W L R) {ms : Mt} (k : Kok W L ms) : ms.length ≤ R.length := by
  have := nodup_sub k.nd (k.inR g)
  rwa [List.length_map] at this
theorem Kok.put {ms : Mt} (k : Kok W L ms) {o one : Str} (h1 : one ∈ L) (h2 : ∃ os, lkW W one = some os ∧ o ∈ os) : Kok W L (putM ms o one) :=
  ⟨nodup_put k.nd, fun p hp => by
    rcases mem_put hp with rfl | ⟨h, _⟩
    · exact ⟨h1, h2⟩
    · exact k.ok p h⟩
/-- matched within D, and D never left -/
def Closed (W : Wy) (ms : Mt) (D : Str → Prop) : Prop := ∀ r, D r → ∃ l, lkM ms r = some l ∧ ∀ os, lkW W l = some os → ∀ o ∈ os, D o
structure Res (W : Wy) (L R : List Str) (one : Str) (os : List Str) (ms : Mt) (tr : List Str) (ok : Bool) (ms' : Mt) (tr' : List Str) : Prop where
  kok : Kok W L ms'
  sub : ∀ r ∈ tr, r ∈ tr'
  ndt : tr'.Nodup
  inR : ∀ r ∈ tr', r ∈ R
  no : ok = false → ms' = ms ∧ (∀ o ∈ os, o ∈ tr') ∧ ∀ r ∈ tr', r ∈ tr ∨ ∃ l, lkM ms r = some l ∧ ∀ os, lkW W l = some os → ∀ o ∈ os, o ∈ tr'
  yes : ok = true → (ms'.map (·.2)).Perm (one :: ms.map (·.2)) ∧ (∀ r ∈ tr, lkM ms' r = lkM ms r) ∧ ∀ r ∈ ms.map (·.1), r ∈ ms'.map (·.1)
  dead : ∀ D : Str → Prop, Closed W ms D → ((∀ o ∈ os, D o) → ok = false) ∧ ∀ r, D r → lkM ms' r = lkM ms r
theorem nodup_snoc {tr : List Str} {o : Str} (h : tr.Nodup) (n : o ∉ tr) : (tr ++ [o]).Nodup := by
  rw [List.nodup_append]
  exact ⟨h, by simp, fun a ha b hb e => by
    rw [List.mem_singleton] at hb
    subst hb
    subst e
    exact n ha⟩
theorem giveL_ok (g : Gr W L R) {rec : Str → Mt → List Str → Option (Bool × Mt × List Str)} {m : Nat} {one : Str} {os0 : List Str} (h1 : one ∈ L) (h0 : lkW W one = some os0)
    (hrec : ∀ mate ms tr, mate ∈ L → Kok W L ms → tr.Nodup → (∀ r ∈ tr, r ∈ R) → R.length < m + tr.length → ∃ ok ms' tr' os, rec mate ms tr = some (ok, ms', tr') ∧ lkW W mate = some os ∧ Res W L R mate os ms tr ok ms' tr') :
    ∀ (os : List Str) (ms : Mt) (tr : List Str), (∀ o ∈ os, o ∈ os0) → Kok W L ms → tr.Nodup → (∀ r ∈ tr, r ∈ R) → R.length < m + 1 + tr.length → ∃ ok ms' tr', giveL rec one os ms tr = some (ok, ms', tr') ∧ Res W L R one os ms tr ok ms' tr'
  | [], ms, tr, _, k, nd, hR, _ => ⟨false, ms, tr, rfl, k, fun _ h => h, nd, hR, fun _ => ⟨rfl, fun o h => (by cases h), fun r h => .inl h⟩, fun h => (by cases h), fun D _ => ⟨fun _ => rfl, fun _ _ => rfl⟩⟩
  | o :: os, ms, tr, hs, k, nd, hR, hn => by
    have hso := hs o List.mem_cons_self
    have hoR : o ∈ R := by
      obtain ⟨os', h4, h5⟩ := g.ways _ h1
      rw [h0] at h4
      cases h4
      exact h5 _ hso
    unfold giveL
    by_cases ht : o ∈ tr
    · rw [if_pos ht]
      obtain ⟨ok, ms', tr', e, r⟩ := giveL_ok g h1 h0 hrec os ms tr (fun x hx => hs x (List.mem_cons_of_mem _ hx)) k nd hR hn
      refine ⟨ok, ms', tr', e, r.kok, r.sub, r.ndt, r.inR, fun h => ?_, r.yes, fun D hD => ⟨fun h => (r.dead D hD).1 fun x hx => h x (List.mem_cons_of_mem _ hx), (r.dead D hD).2⟩⟩
      obtain ⟨a1, a2, a3⟩ := r.no h
      refine ⟨a1, fun x hx => ?_, a3⟩
      rcases List.mem_cons.mp hx with rfl | hx
      · exact r.sub _ ht
      · exact a2 x hx
    · rw [if_neg ht]
      have ht2 := nodup_snoc nd ht
      have hR2 : ∀ r ∈ tr ++ [o], r ∈ R := fun r h => by
        rcases List.mem_append.mp h with h | h
        · exact hR r h
        · rw [List.mem_singleton.mp h]; exact hoR
      have hlt := nodup_sub ht2 hR2
      rw [List.length_append, List.length_singleton] at hlt
      have hsm := g.small
      rw [if_pos (show tr.length < LINE by omega)]
      have hkl := k.len g
      cases hm : lkM ms o with
      | none =>
        simp only
        rw [if_pos (show ms.length < LINE by omega)]
        refine ⟨true, _, _, rfl, k.put h1 ⟨os0, h0, hso⟩, fun r h => List.mem_append_left _ h, ht2, hR2, fun h => (by cases h), fun _ => ⟨vals_new hm, fun r h => ?_, fun r h => ?_⟩, fun D hD => ⟨fun h => ?_, fun r hr => ?_⟩⟩
        · rw [lk_put k.nd, if_neg fun e => ht (by rw [← e]; exact h)]
        · rw [keys_put]
          split
          · exact h
          · exact List.mem_append_left _ h
        · obtain ⟨l, e, _⟩ := hD o (h o List.mem_cons_self)
          rw [hm] at e
          cases e
        · rw [lk_put k.nd, if_neg fun e => by
            obtain ⟨l, e2, _⟩ := hD r hr
            rw [e, hm] at e2
            cases e2]
      | some mate =>
        have hmL := (k.ok _ (lk_mem hm)).1
        obtain ⟨ok, ms2, tr2, osm, e1, e2, r⟩ := hrec mate ms (tr ++ [o]) hmL k ht2 hR2 (by rw [List.length_append, List.length_singleton]; omega)
        simp only
        rw [e1, Option.bind_some]
        cases ok with
        | true =>
          simp only
          have hk2 := r.kok.len g
          rw [if_pos (show ms2.length < LINE by omega)]
          obtain ⟨y1, y2, y3⟩ := r.yes rfl
          have ho2 : lkM ms2 o = some mate := by rw [y2 o (by simp), hm]
          have noD : ∀ D : Str → Prop, Closed W ms D → ¬ D o := fun D hD hd => by
            obtain ⟨l, e3, h3⟩ := hD o hd
            rw [hm] at e3
            cases e3
            have := (r.dead D hD).1 (h3 osm e2)
            cases this
          refine ⟨true, _, _, rfl, r.kok.put h1 ⟨os0, h0, hso⟩, fun x h => r.sub x (List.mem_append_left _ h), r.ndt, r.inR, fun h => (by cases h), fun _ => ⟨?_, fun x h => ?_, fun x h => ?_⟩, fun D hD => ⟨fun h => absurd (h o List.mem_cons_self) (noD D hD), fun x hx => ?_⟩⟩
          · have q1 := vals_old (v := one) r.kok.nd ho2
            have q2 : (mate :: (putM ms2 o one).map (·.2)).Perm (mate :: one :: ms.map (·.2)) := (q1.trans (y1.cons one)).trans (List.Perm.swap mate one _)
            exact (List.perm_cons mate).mp q2
          · rw [lk_put r.kok.nd, if_neg fun e => ht (by rw [← e]; exact h)]
            exact y2 x (List.mem_append_left _ h)
          · rw [keys_put]
            split
            · exact y3 x h
            · exact List.mem_append_left _ (y3 x h)
          · rw [lk_put r.kok.nd, if_neg fun e => noD D hD (by rw [← e]; exact hx)]
            exact (r.dead D hD).2 x hx
        | false =>
          simp only
          obtain ⟨n1, n2, n3⟩ := r.no rfl
          subst n1
          have hlen2 : tr.length + 1 ≤ tr2.length := by
            have := nodup_sub ht2 r.sub
            rwa [List.length_append, List.length_singleton] at this
          obtain ⟨ok, ms', tr', e, q⟩ := giveL_ok g h1 h0 hrec os ms2 tr2 (fun x hx => hs x (List.mem_cons_of_mem _ hx)) k r.ndt r.inR (by omega)
          refine ⟨ok, ms', tr', e, q.kok, fun x h => q.sub x (r.sub x (List.mem_append_left _ h)), q.ndt, q.inR, fun h => ?_, fun h => ?_, fun D hD => ⟨fun h => (q.dead D hD).1 fun x hx => h x (List.mem_cons_of_mem _ hx), (q.dead D hD).2⟩⟩
          · obtain ⟨a1, a2, a3⟩ := q.no h
            refine ⟨a1, fun x hx => ?_, fun x hx => ?_⟩
            · rcases List.mem_cons.mp hx with rfl | hx
              · exact q.sub _ (r.sub _ (by simp))
              · exact a2 x hx
            · rcases a3 x hx with hx | hx
              · rcases n3 x hx with hx | ⟨l, g1, g2⟩
                · rcases List.mem_append.mp hx with hx | hx
                  · exact .inl hx
                  · rw [List.mem_singleton] at hx
                    subst hx
                    refine .inr ⟨mate, hm, fun os' e' x hx => q.sub _ (n2 x ?_)⟩
                    rw [e2] at e'
                    cases e'
                    exact hx
                · exact .inr ⟨l, g1, fun os' e' x hx => q.sub _ (g2 os' e' x hx)⟩
              · exact .inr hx
          · obtain ⟨a1, a2, a3⟩ := q.yes h
            exact ⟨a1, fun x hx => a2 x (r.sub x (List.mem_append_left _ hx)), a3⟩
theorem give_ok (g : Gr W L R) : ∀ (n : Nat) (one : Str) (ms : Mt) (tr : List Str), one ∈ L → Kok W L ms → tr.Nodup → (∀ r ∈ tr, r ∈ R) → R.length < n + tr.length → ∃ ok ms' tr' os, give W n one ms tr = some (ok, ms', tr') ∧ lkW W one = some os ∧ Res W L R one os ms tr ok ms' tr'
  | 0, one, ms, tr, _, _, nd, hR, hn => by
    have := nodup_sub nd hR
    omega
  | n + 1, one, ms, tr, h1, k, nd, hR, hn => by
    obtain ⟨os, e, _⟩ := g.ways one h1
    obtain ⟨ok, ms', tr', e1, r⟩ := giveL_ok g h1 e (m := n) (fun mate ms tr a b c d f => give_ok g n mate ms tr a b c d f) os ms tr (fun _ h => h) k nd hR hn
    refine ⟨ok, ms', tr', os, ?_, e, r⟩
    unfold give
    rw [e, Option.bind_some, e1]
end TK.M
end
section
set_option Elab.async false
set_option linter.all false
set_option maxRecDepth 100000
set_option maxHeartbeats 4000000
/-! All searches; the free names; the count. -/
namespace TK.M
open PySem PySem.Spec PyProof.Rows L2
variable {W : Wy} {L R : List Str}
structure Gw (W : Wy) (L R : List Str) (don : List Str) (ms : Mt) : Prop where
  kok : Kok W L ms
  nv : (ms.map (·.2)).Nodup
  sub : ∀ l ∈ ms.map (·.2), l ∈ don
  D : ∃ D : Str → Prop, Closed W ms D ∧ ∀ l ∈ don, l ∉ ms.map (·.2) → ∀ os, lkW W l = some os → ∀ o ∈ os, D o
theorem grow_step (g : Gr W L R) {n : Nat} (hn : R.length < n) {don : List Str} {one : Str} {ms : Mt} (h : Gw W L R don ms) (h1 : one ∈ L) (hnd : one ∉ don) : ∃ ok ms' tr', give W n one ms [] = some (ok, ms', tr') ∧ Gw W L R (don ++ [one]) ms' := by
  obtain ⟨ok, ms', tr', os, e, eo, r⟩ := give_ok g n one ms [] h1 h.kok List.nodup_nil (fun _ h => by cases h) (by simpa using hn)
  refine ⟨ok, ms', tr', e, ?_⟩
  obtain ⟨D, hD, hd⟩ := h.D
  have nv : one ∉ ms.map (·.2) := fun z => hnd (h.sub _ z)
  cases ok with
  | true =>
    obtain ⟨y1, y2, y3⟩ := r.yes rfl
    refine ⟨r.kok, y1.nodup_iff.mpr (List.nodup_cons.mpr ⟨nv, h.nv⟩), fun l hl => ?_, D, fun x hx => ?_, fun l hl hn' os' e' o ho => ?_⟩
    · rcases List.mem_cons.mp (y1.mem_iff.mp hl) with rfl | hl
      · simp
      · exact List.mem_append_left _ (h.sub l hl)
    · obtain ⟨l, a1, a2⟩ := hD x hx
      exact ⟨l, by rw [(r.dead D hD).2 x hx]; exact a1, a2⟩
    · have hn2 : l ∉ one :: ms.map (·.2) := fun z => hn' (y1.mem_iff.mpr z)
      rw [List.mem_cons, not_or] at hn2
      rcases List.mem_append.mp hl with hl | hl
      · exact hd l hl hn2.2 os' e' o ho
      · exact absurd (List.mem_singleton.mp hl) hn2.1
  | false =>
    obtain ⟨n1, n2, n3⟩ := r.no rfl
    subst n1
    refine ⟨h.kok, h.nv, fun l hl => List.mem_append_left _ (h.sub l hl), fun x => D x ∨ x ∈ tr', fun x hx => ?_, fun l hl hn' os' e' o ho => ?_⟩
    · rcases hx with hx | hx
      · obtain ⟨l, a1, a2⟩ := hD x hx
        exact ⟨l, a1, fun os' e' o ho => .inl (a2 os' e' o ho)⟩
      · rcases n3 x hx with hx | ⟨l, a1, a2⟩
        · cases hx
        · exact ⟨l, a1, fun os' e' o ho => .inr (a2 os' e' o ho)⟩
    · rcases List.mem_append.mp hl with hl | hl
      · exact .inl (hd l hl hn' os' e' o ho)
      · rw [List.mem_singleton] at hl
        subst hl
        rw [eo] at e'
        cases e'
        exact .inr (n2 o ho)
theorem growL_ok (g : Gr W L R) {n : Nat} (hn : R.length < n) : ∀ (rest don : List Str) (ms : Mt), L = don ++ rest → Gw W L R don ms → ∃ ms', growL W n rest ms = some ms' ∧ Gw W L R L ms'
  | [], don, ms, e, h => ⟨ms, rfl, by rw [e, List.append_nil]; rw [e, List.append_nil] at h; exact h⟩
  | one :: rest, don, ms, e, h => by
    have h1 : one ∈ L := by rw [e]; simp
    have hnd : one ∉ don := fun z => by
      have := g.nL
      rw [e] at this
      exact (List.nodup_append.mp this).2.2 one z one (by simp) rfl
    obtain ⟨ok, ms', tr', e1, h'⟩ := grow_step g hn h h1 hnd
    obtain ⟨ms2, e2, h2⟩ := growL_ok g hn rest (don ++ [one]) ms' (by rw [e, List.append_assoc] <;> rfl) h'
    refine ⟨ms2, ?_, h2⟩
    unfold growL
    rw [e1]
    exact e2
theorem grow_ok (g : Gr W L R) {n : Nat} (hn : R.length < n) : ∃ ms, growL W n L [] = some ms ∧ Gw W L R L ms :=
  growL_ok g hn L [] [] rfl ⟨⟨List.nodup_nil, fun p h => by cases h⟩, List.nodup_nil, fun l h => (by cases h), fun _ => False, fun x h => h.elim, fun l h => (by cases h)⟩
/-! ### counting -/
theorem nodup_len {α : Type} [DecidableEq α] {l m : List α} (h1 : l.Nodup) (h2 : m.Nodup) (h : ∀ x, x ∈ l ↔ x ∈ m) : l.length = m.length := Nat.le_antisymm (nodup_sub h1 fun x hx => (h x).mp hx) (nodup_sub h2 fun x hx => (h x).mpr hx)
theorem filter_split {α : Type} (p : α → Bool) : ∀ l : List α, (l.filter p).length + (l.filter fun x => !p x).length = l.length
  | [] => rfl
  | x :: l => by
    have ih := filter_split p l
    cases h : p x with
    | true =>
      rw [List.filter_cons_of_pos h, List.filter_cons_of_neg (by rw [h]; exact Bool.false_ne_true), List.length_cons, List.length_cons]
      omega
    | false =>
      rw [List.filter_cons_of_neg (by rw [h]; exact Bool.false_ne_true), List.filter_cons_of_pos (by rw [h] <;> rfl), List.length_cons, List.length_cons]
      omega
theorem filter_out {α : Type} [DecidableEq α] {l m : List α} (h1 : l.Nodup) (h2 : m.Nodup) (h : ∀ x ∈ m, x ∈ l) : (l.filter fun x => !decide (x ∈ m)).length + m.length = l.length := by
  have a := filter_split (fun x => decide (x ∈ m)) l
  have b : (l.filter fun x => decide (x ∈ m)).length = m.length := nodup_len (h1.filter _) h2 fun x => by
    rw [List.mem_filter]
    exact ⟨fun z => by simpa using z.2, fun z => ⟨h x z, by simpa using z⟩⟩
  omega
/-! ### what no search reaches -/
def frStep (ms : Mt) (s : List Str × List Str × List Str) (o : Str) : List Str × List Str × List Str :=
  match lkM ms o with
  | some m => if m ∈ s.2.1 then (s.1, s.2.1, if o ∈ s.2.2 then s.2.2 else s.2.2 ++ [o]) else (s.1 ++ [m], s.2.1 ++ [m], if o ∈ s.2.2 then s.2.2 else s.2.2 ++ [o])
  | none => (s.1, s.2.1, if o ∈ s.2.2 then s.2.2 else s.2.2 ++ [o])
def frLoop (W : Wy) (ms : Mt) : Nat → List Str × List Str × List Str → Option (List Str × List Str × List Str)
  | 0, _ => none
  | n + 1, s => match s.1.getLast? with
    | none => some s
    | some l => (lkW W l).bind fun os => frLoop W ms n (os.foldl (frStep ms) (s.1.dropLast, s.2.1, s.2.2))
def unm (L : List Str) (ms : Mt) : List Str := L.filter fun l => !decide (l ∈ ms.map (·.2))
structure Fr (W : Wy) (L : List Str) (ms : Mt) (D : Str → Prop) (s : List Str × List Str × List Str) (cur : List Str) : Prop where
  nm : s.2.1.Nodup
  nw : s.1.Nodup
  np : s.2.2.Nodup
  wm : ∀ l ∈ s.1, l ∈ s.2.1
  mL : ∀ l ∈ s.2.1, l ∈ L
  un : ∀ l ∈ unm L ms, l ∈ s.2.1
  mD : ∀ l ∈ s.2.1, ∀ os, lkW W l = some os → ∀ o ∈ os, D o
  pD : ∀ r ∈ s.2.2, D r ∧ ∃ l, lkM ms r = some l ∧ l ∈ s.2.1
  ml : ∀ l ∈ s.2.1, l ∉ unm L ms → ∃ r ∈ s.2.2, lkM ms r = some l
  dn : ∀ l ∈ s.2.1, l ∉ s.1 → ∀ os, lkW W l = some os → ∀ o ∈ os, o ∈ s.2.2 ∨ o ∈ cur
theorem fr_step {ms : Mt} {D : Str → Prop} (hD : Closed W ms D) (hk : Kok W L ms) {s : List Str × List Str × List Str} {o : Str} {cur : List Str} (h : Fr W L ms D s (o :: cur)) (ho : D o) : Fr W L ms D (frStep ms s o) cur := by
  obtain ⟨m, e, hm⟩ := hD o ho
  have hmL := (hk.ok _ (lk_mem e)).1
  have hp : ∀ r, r ∈ (if o ∈ s.2.2 then s.2.2 else s.2.2 ++ [o]) ↔ r ∈ s.2.2 ∨ r = o := fun r => by
    split
    · rename_i z
      exact ⟨.inl, fun q => q.elim id fun q => by rw [q]; exact z⟩
    · simp
  have np : (if o ∈ s.2.2 then s.2.2 else s.2.2 ++ [o]).Nodup := by
    split
    · exact h.np
    · rename_i z
      exact nodup_snoc h.np z
  unfold frStep
  rw [e]
  by_cases z : m ∈ s.2.1
  · simp only [if_pos z]
    refine ⟨h.nm, h.nw, np, h.wm, h.mL, h.un, h.mD, fun r hr => ?_, fun l hl hn => ?_, fun l hl hn os e' x hx => ?_⟩
    · rcases (hp r).mp hr with hr | rfl
      · exact h.pD r hr
      · exact ⟨ho, m, e, z⟩
    · obtain ⟨r, h1, h2⟩ := h.ml l hl hn
      exact ⟨r, (hp r).mpr (.inl h1), h2⟩
    · rcases h.dn l hl hn os e' x hx with h1 | h1
      · exact .inl ((hp x).mpr (.inl h1))
      · rcases List.mem_cons.mp h1 with h1 | h1
        · exact .inl ((hp x).mpr (.inr h1))
        · exact .inr h1
  · simp only [if_neg z]
    have zw : m ∉ s.1 := fun q => z (h.wm m q)
    refine ⟨nodup_snoc h.nm z, nodup_snoc h.nw zw, np, fun l hl => ?_, fun l hl => ?_, fun l hl => List.mem_append_left _ (h.un l hl), fun l hl os e' x hx => ?_, fun r hr => ?_, fun l hl hn => ?_, fun l hl hn os e' x hx => ?_⟩
    · rcases List.mem_append.mp hl with hl | hl
      · exact List.mem_append_left _ (h.wm l hl)
      · exact List.mem_append_right _ hl
    · rcases List.mem_append.mp hl with hl | hl
      · exact h.mL l hl
      · rw [List.mem_singleton.mp hl]; exact hmL
    · rcases List.mem_append.mp hl with hl | hl
      · exact h.mD l hl os e' x hx
      · rw [List.mem_singleton.mp hl] at e'
        exact hm os e' x hx
    · rcases (hp r).mp hr with hr | rfl
      · obtain ⟨a, l, b, c⟩ := h.pD r hr
        exact ⟨a, l, b, List.mem_append_left _ c⟩
      · exact ⟨ho, m, e, by simp⟩
    · rcases List.mem_append.mp hl with hl | hl
      · obtain ⟨r, h1, h2⟩ := h.ml l hl hn
        exact ⟨r, (hp r).mpr (.inl h1), h2⟩
      · rw [List.mem_singleton.mp hl]
        exact ⟨o, (hp o).mpr (.inr rfl), e⟩
    · have hn2 : l ∉ s.1 := fun q => hn (List.mem_append_left _ q)
      rcases List.mem_append.mp hl with hl | hl
      · rcases h.dn l hl hn2 os e' x hx with h1 | h1
        · exact .inl ((hp x).mpr (.inl h1))
        · rcases List.mem_cons.mp h1 with h1 | h1
          · exact .inl ((hp x).mpr (.inr h1))
          · exact .inr h1
      · exact absurd (List.mem_append_right _ hl) hn
theorem fr_all {ms : Mt} {D : Str → Prop} (hD : Closed W ms D) (hk : Kok W L ms) : ∀ (cur : List Str) (s : List Str × List Str × List Str), Fr W L ms D s cur → (∀ o ∈ cur, D o) → Fr W L ms D (cur.foldl (frStep ms) s) []
  | [], s, h, _ => h
  | o :: cur, s, h, hc => fr_all hD hk cur (frStep ms s o) (fr_step hD hk h (hc o List.mem_cons_self)) fun x hx => hc x (List.mem_cons_of_mem _ hx)
theorem frStep_len (ms : Mt) (s : List Str × List Str × List Str) (o : Str) : (frStep ms s o).1.length + s.2.1.length = s.1.length + (frStep ms s o).2.1.length := by
  unfold frStep
  split
  · split
    · simp only
    · simp only [List.length_append, List.length_singleton]
      omega
  · simp only
theorem frAll_len (ms : Mt) : ∀ (cur : List Str) (s : List Str × List Str × List Str), (cur.foldl (frStep ms) s).1.length + s.2.1.length = s.1.length + (cur.foldl (frStep ms) s).2.1.length
  | [], s => rfl
  | o :: cur, s => by
    have a := frStep_len ms s o
    have b := frAll_len ms cur (frStep ms s o)
    rw [List.foldl_cons]
    omega
theorem fr_loop (g : Gr W L R) {ms : Mt} {D : Str → Prop} (hD : Closed W ms D) (hk : Kok W L ms) : ∀ (n : Nat) (s : List Str × List Str × List Str), Fr W L ms D s [] → L.length + s.1.length < n + s.2.1.length → ∃ s', frLoop W ms n s = some s' ∧ Fr W L ms D s' [] ∧ s'.1 = []
  | 0, s, h, hn => by
    have := nodup_sub h.nm h.mL
    omega
  | n + 1, s, h, hn => by
    unfold frLoop
    cases hl : s.1.getLast? with
    | none => exact ⟨s, rfl, h, List.getLast?_eq_none_iff.mp hl⟩
    | some l =>
      simp only
      have hne : s.1 ≠ [] := fun z => by rw [z] at hl; cases hl
      have hs1 : s.1 = s.1.dropLast ++ [l] := by
        have := List.dropLast_concat_getLast hne
        rw [List.getLast?_eq_some_getLast hne] at hl
        rw [← Option.some.inj hl]
        exact this.symm
      have hmem : l ∈ s.1 := by rw [hs1]; simp
      have hlm := h.wm l hmem
      obtain ⟨os, eo, _⟩ := g.ways l (h.mL l hlm)
      rw [eo, Option.bind_some]
      have hnl : l ∉ s.1.dropLast := fun z => by
        have := h.nw
        rw [hs1] at this
        exact (List.nodup_append.mp this).2.2 l z l (by simp) rfl
      have hsub : ∀ x ∈ s.1.dropLast, x ∈ s.1 := fun x hx => by rw [hs1]; exact List.mem_append_left _ hx
      have h' : Fr W L ms D (s.1.dropLast, s.2.1, s.2.2) os := ⟨h.nm, by
        have := h.nw
        rw [hs1] at this
        exact (List.nodup_append.mp this).1, h.np, fun x hx => h.wm x (hsub x hx), h.mL, h.un, h.mD, h.pD, h.ml, fun x hx hn' os' e' y hy => by
          by_cases e : x = l
          · subst e
            rw [eo] at e'
            cases e'
            exact .inr hy
          · refine .inl ((h.dn x hx (fun z => ?_) os' e' y hy).elim id fun z => by cases z)
            rw [hs1] at z
            rcases List.mem_append.mp z with z | z
            · exact hn' z
            · exact e (List.mem_singleton.mp z)⟩
      have hlen := frAll_len ms os (s.1.dropLast, s.2.1, s.2.2)
      have hdl : s.1.dropLast.length + 1 = s.1.length := by
        have := congrArg List.length hs1
        rw [List.length_append, List.length_singleton] at this
        exact this.symm
      simp only at hlen
      exact fr_loop g hD hk n _ (fr_all hD hk os _ h' fun o ho => h.mD l hlm os eo o ho) (by omega)
end TK.M
end
section
set_option Elab.async false
set_option linter.all false
set_option maxRecDepth 100000
set_option maxHeartbeats 4000000
/-! Koenig's count. -/
namespace TK.M
open PySem PySem.Spec PyProof.Rows L2
variable {W : Wy} {L R : List Str}
theorem vals_inj {ms : Mt} (nv : (ms.map (·.2)).Nodup) {r r' l : Str} (h : (r, l) ∈ ms) (h' : (r', l) ∈ ms) : r = r' := by
  induction ms with
  | nil => cases h
  | cons p t ih =>
    rw [List.map_cons, List.nodup_cons] at nv
    rcases List.mem_cons.mp h with e | h1
    · rcases List.mem_cons.mp h' with e2 | h2
      · rw [← e] at e2
        exact (Prod.mk.inj e2).1.symm
      · exact absurd (List.mem_map.mpr ⟨_, h2, by rw [← e]⟩) nv.1
    · rcases List.mem_cons.mp h' with e2 | h2
      · exact absurd (List.mem_map.mpr ⟨_, h1, by rw [← e2]⟩) nv.1
      · exact ih nv.2 h1 h2
theorem map_nodup {α β : Type} {f : α → β} : ∀ {l : List α}, l.Nodup → (∀ x ∈ l, ∀ y ∈ l, f x = f y → x = y) → (l.map f).Nodup
  | [], _, _ => List.nodup_nil
  | x :: l, nd, h => by
    rw [List.nodup_cons] at nd
    rw [List.map_cons, List.nodup_cons]
    refine ⟨fun m => ?_, map_nodup nd.2 fun a ha b hb => h a (List.mem_cons_of_mem _ ha) b (List.mem_cons_of_mem _ hb)⟩
    obtain ⟨y, hy, e⟩ := List.mem_map.mp m
    have := h y (List.mem_cons_of_mem _ hy) x List.mem_cons_self e
    rw [this] at hy
    exact nd.1 hy
/-- the names that free() tells -/
def freeN (R : List Str) (s : List Str × List Str × List Str) : List Str := s.2.1 ++ R.filter fun r => !decide (r ∈ s.2.2)
structure Kg (W : Wy) (L R : List Str) (ms : Mt) (s : List Str × List Str × List Str) : Prop where
  len : (freeN R s).length + ms.length = L.length + R.length
  ind : ∀ l ∈ s.2.1, ∀ os, lkW W l = some os → ∀ o ∈ os, o ∈ s.2.2
  nm : s.2.1.Nodup
  mL : ∀ l ∈ s.2.1, l ∈ L
theorem koenig (g : Gr W L R) {ms : Mt} (h : Gw W L R L ms) {n : Nat} (hn : L.length < n) : ∃ s, frLoop W ms n (unm L ms, unm L ms, []) = some s ∧ Kg W L R ms s := by
  obtain ⟨D, hD, hd⟩ := h.D
  have hu : ∀ l, l ∈ unm L ms ↔ l ∈ L ∧ l ∉ ms.map (·.2) := fun l => by
    unfold unm
    rw [List.mem_filter]
    simp
  have ndu : (unm L ms).Nodup := g.nL.filter _
  have h0 : Fr W L ms D (unm L ms, unm L ms, []) [] := ⟨ndu, ndu, List.nodup_nil, fun _ h => h, fun l hl => ((hu l).mp hl).1, fun _ h => h, fun l hl os e o ho => hd l ((hu l).mp hl).1 ((hu l).mp hl).2 os e o ho, fun r hr => (by cases hr), fun l hl hn => absurd hl hn, fun l hl hn => absurd hl hn⟩
  obtain ⟨s, e, hs, hw⟩ := fr_loop g hD h.kok n _ h0 (by simp only; omega)
  refine ⟨s, e, ?_, fun l hl os e' o ho => ?_, hs.nm, hs.mL⟩
  · -- the count
    have hp : ∀ r ∈ s.2.2, ∃ l, lkM ms r = some l ∧ l ∈ s.2.1 := fun r hr => (hs.pD r hr).2
    let f : Str → Str := fun r => (lkM ms r).getD ""
    have hf : ∀ r ∈ s.2.2, lkM ms r = some (f r) := fun r hr => by
      obtain ⟨l, h1, _⟩ := hp r hr
      show lkM ms r = some ((lkM ms r).getD "")
      rw [h1] <;> rfl
    have ndB : (s.2.2.map f).Nodup := map_nodup hs.np fun r hr r' hr' e => by
      have a := lk_mem (hf r hr)
      have b := lk_mem (hf r' hr')
      rw [← e] at b
      exact vals_inj h.nv a b
    have cA : (s.2.1.filter fun l => decide (l ∈ ms.map (·.2))).length = s.2.2.length := by
      rw [← List.length_map f (as := s.2.2)]
      refine nodup_len (hs.nm.filter _) ndB fun l => ?_
      rw [List.mem_filter]
      constructor
      · intro ⟨h1, h2⟩
        have h2' : l ∈ ms.map (·.2) := by simpa using h2
        have hnu : l ∉ unm L ms := fun z => ((hu l).mp z).2 h2'
        obtain ⟨r, hr, er⟩ := hs.ml l h1 hnu
        refine List.mem_map.mpr ⟨r, hr, ?_⟩
        have := hf r hr
        rw [er] at this
        exact (Option.some.inj this).symm
      · intro hm
        obtain ⟨r, hr, er⟩ := List.mem_map.mp hm
        obtain ⟨l', h1, h2⟩ := hp r hr
        have e3 := hf r hr
        rw [h1] at e3
        have : l' = l := (Option.some.inj e3).trans er
        rw [← this]
        refine ⟨h2, ?_⟩
        have : l' ∈ ms.map (·.2) := List.mem_map.mpr ⟨_, lk_mem h1, rfl⟩
        simpa using this
    have cB : (s.2.1.filter fun l => !decide (l ∈ ms.map (·.2))).length = (unm L ms).length := nodup_len (hs.nm.filter _) ndu fun l => by
      rw [List.mem_filter, hu]
      constructor
      · intro ⟨h1, h2⟩
        exact ⟨hs.mL l h1, by simpa using h2⟩
      · intro ⟨h1, h2⟩
        exact ⟨hs.un l ((hu l).mpr ⟨h1, h2⟩), by simpa using h2⟩
    have cM := filter_split (fun l => decide (l ∈ ms.map (·.2))) s.2.1
    have cU := filter_out g.nL h.nv (fun l hl => h.sub l hl)
    have inR : ∀ r ∈ s.2.2, r ∈ R := fun r hr => by
      obtain ⟨l, h1, _⟩ := hp r hr
      exact h.kok.inR g r (List.mem_map.mpr ⟨_, lk_mem h1, rfl⟩)
    have cR := filter_out g.nR hs.np inR
    have hUdef : (unm L ms).length = (L.filter fun x => !decide (x ∈ ms.map (·.2))).length := rfl
    unfold freeN
    rw [List.length_append]
    have : (ms.map (·.2)).length = ms.length := List.length_map ..

    omega
  · rcases hs.dn l hl (by rw [hw]; exact List.not_mem_nil) os e' o ho with h1 | h1
    · exact h1
    · cases h1
end TK.M
end
section
set_option Elab.async false
set_option linter.all false
set_option maxRecDepth 100000
set_option maxHeartbeats 4000000
/-! Matching's answers on typed data. -/
namespace TK.M
open PySem PySem.Spec PyProof.Rows L2
abbrev dL (l : List Str) : List (D × D) := l.map fun k => (.str k, .none)
theorem strKeys_dL (l : List Str) : strKeys (dL l) = true := List.all_eq_true.mpr fun p h => by
  obtain ⟨k, _, rfl⟩ := List.mem_map.mp h
  rfl
theorem hasK_dL (x : Str) : ∀ l : List Str, hasK x (dL l) = decide (x ∈ l)
  | [] => rfl
  | k :: l => by
    have ih := hasK_dL x l
    have e : hasK x (dL (k :: l)) = (decide (k = x) || hasK x (dL l)) := rfl
    rw [e, ih]
    by_cases h : k = x
    · subst h; simp
    · simp [h, Ne.symm h]
theorem inD0_dL (x : Str) (l : List Str) : inD0 (.str x) (.dict (dL l)) = some (decide (x ∈ l)) := by
  show (if strKeys (dL l) then some (hasK x (dL l)) else none) = _
  rw [if_pos (strKeys_dL l), hasK_dL]
@[simp] theorem notIn_dL (x : Str) (l : List Str) : notInD (.str x) (.dict (dL l)) = some (.bool (!decide (x ∈ l))) := by unfold notInD; rw [inD0_dL] <;> rfl
@[simp] theorem in_dL (x : Str) (l : List Str) : inD (.str x) (.dict (dL l)) = some (.bool (decide (x ∈ l))) := by unfold inD; rw [inD0_dL] <;> rfl
def addK (x : Str) (l : List Str) : List Str := if x ∈ l then l else l ++ [x]
theorem put_dL (x : Str) (l : List Str) : putKs x (dL l) = dL (addK x l) := by
  unfold putKs addK
  rw [hasK_dL]
  by_cases h : x ∈ l <;> simp [h, dL]
theorem keysD_eq (ms : Mt) : keysD ms = .dict (dL (ms.map (·.1))) := rfl
@[simp] theorem obj_self (x : Addr) (ρ : Env) : isObjAt (some (objD x) :: ρ) 0 x = true := isObj_self x
@[simp] theorem s_objE {i : Nat} {x : Addr} {v : D} {ρ : Env} {γ : G} : objE i x v ρ γ = if isObjAt ρ i x then some (v, γ) else none := rfl
@[simp] theorem s_valsN {i : Nat} {x : Addr} {l : List D} {ρ : Env} {γ : G} : valsN i x l ρ γ = if isObjAt ρ i x then some (l, γ) else none := rfl
theorem line_pos {n : Nat} (h : n ≤ 10000) : n < LINE := Nat.lt_of_le_of_lt h (by decide)
theorem single_ok (M : MS) (x : Addr) (hL : M.L.length ≤ 1000) (hR : M.R.length ≤ 1000) : f_Matching_single M x = some (.list (strsD (unm M.L M.mates ++ M.R.filter fun r => !decide (r ∈ M.mates.map (·.1))))) := by
  have l1 : (strsD M.L).length ≤ LINE := by rw [List.length_map]; exact line_of (by omega)
  have l2 : (strsD M.R).length ≤ LINE := by rw [List.length_map]; exact line_of (by omega)
  have e1 := compL_map PyData.str (tg := tgN 2) (t := valT (binE notInD (varE 2) (varE 1))) (el := varE 2) (ρ := [some (objD x), some (.list (strsD (M.mates.map (·.2)))), none]) (γ := ((0, []) : G)) (fun l => !decide (l ∈ M.mates.map (·.2))) (fun l => .str l) M.L fun l _ => ⟨_, rfl, by simp [-List.map_map], fun _ => rfl⟩
  have e2 := compL_map PyData.str (tg := tgN 2) (t := valT (binE notInD (varE 2) (objE 0 x (keysD M.mates)))) (el := varE 2) (ρ := [some (objD x), some (.list (strsD (M.mates.map (·.2)))), none]) (γ := ((0, []) : G)) (fun r => !decide (r ∈ M.mates.map (·.1))) (fun l => .str l) M.R fun l _ => ⟨_, rfl, by
    rw [keysD_eq]
    simp [-List.map_map], fun _ => rfl⟩
  have e3 : strsD (unm M.L M.mates ++ M.R.filter fun r => !decide (r ∈ M.mates.map (·.1))) = (M.L.filter fun l => !decide (l ∈ M.mates.map (·.2))).map (fun l => PyData.str l) ++ (M.R.filter fun r => !decide (r ∈ M.mates.map (·.1))).map (fun l => PyData.str l) := by
    unfold strsD unm
    rw [List.map_append]
  have l3 : ((M.L.filter fun l => !decide (l ∈ M.mates.map (·.2))).map (fun l => PyData.str l)).length + ((M.R.filter fun r => !decide (r ∈ M.mates.map (·.1))).map (fun l => PyData.str l)).length ≤ LINE := by
    rw [List.length_map, List.length_map]
    have a := List.length_filter_le (fun l => !decide (l ∈ M.mates.map (·.2))) M.L
    have b := List.length_filter_le (fun r => !decide (r ∈ M.mates.map (·.1))) M.R
    exact line_of (by omega)
  rw [e3]
  unfold f_Matching_single runX
  show (g_Matching_single M x [some (objD x), none, none] (0, [])).bind _ = _
  unfold g_Matching_single
  simp [-List.map_map, -List.length_map, -List.map_append, l1, l2, e1, e2, l3, -List.mem_map]
theorem flat_pair (p : Str × Str) : flat 1 (pairD p) := flat_tup (n := 0) fun d h => by
  simp only [List.mem_cons, List.not_mem_nil, or_false] at h
  rcases h with h | h <;> rw [h] <;> exact flat_str _ _
theorem okSort_pairs (l : List (Str × Str)) : okSort (l.map pairD) = true := okSort_map pairD l (n := 1) (by decide) (fun x _ => flat_pair x) (fun x _ y _ => by simp [PySem.W.alike, PySem.W.alikeAll]) (.inl fun _ _ => rfl)
/-- the pairs that matched() tells -/
def pairsN (ms : Mt) : List (Str × Str) := tsort pairD (ms.map fun p => (p.2, p.1))
theorem matched_ok (M : MS) (x : Addr) (h : M.mates.length ≤ 1000) : f_Matching_matched M x = some (.list ((pairsN M.mates).map pairD)) := by
  have e1 := compL_map' (fun p : Str × Str => (.tuple [.str p.1, .str p.2] : D)) (tg := tgT [2, 1]) (el := tupE (consA (varE 1) (consA (varE 2) nilA))) (ρ := [some (objD x), none, none]) (γ := ((0, []) : G)) (fun p => pairD (p.2, p.1)) M.mates fun p _ => ⟨_, rfl, rfl⟩
  have l1 : (itemsM M.mates).length ≤ LINE := by unfold itemsM; rw [List.length_map]; exact line_of (by omega)
  have hso := sorted_map pairD (M.mates.map fun p => (p.2, p.1)) (okSort_pairs _) (.list ((M.mates.map fun p => (p.2, p.1)).map pairD)) rfl
  have e2 : gMatched x M.mates [some (objD x), none, none] (0, []) = some ((M.mates.map fun p => (p.2, p.1)).map pairD, (0, [])) := by
    unfold gMatched
    rw [s_compN]
    show (((if isObjAt [some (objD x), none, none] 0 x then some (itemsM M.mates, (0, [])) else none) : Option (List D × G)).bind _) = _
    rw [obj_self, if_pos rfl, Option.bind_some]
    show (if (itemsM M.mates).length ≤ LINE then _ else _) = _
    rw [if_pos l1]
    show compL (tgT [2, 1]) yesT (tupE (consA (varE 1) (consA (varE 2) nilA))) (M.mates.map fun p : Str × Str => (.tuple [.str p.1, .str p.2] : D)) [some (objD x), none, none] (0, []) = _
    rw [e1, List.map_map] <;> rfl
  unfold f_Matching_matched
  rw [e2, Option.bind_some]
  exact hso
end TK.M
end
section
set_option Elab.async false
set_option linter.all false
set_option maxRecDepth 100000
set_option maxHeartbeats 4000000
/-! Matching.free on typed data. -/
namespace TK.M
open PySem PySem.Spec PyProof.Rows L2
theorem formet_ok (a b c e5 e6 e7 : Option D) : ∀ (ws m : List Str) (v4 : Option D), m.length + ws.length < LINE → ∃ v4', formetL 3 4 (strsD ws) [a, b, c, some (.dict (dL m)), v4, e5, e6, e7] = some [a, b, c, some (.dict (dL (ws.foldl (fun m x => addK x m) m))), v4', e5, e6, e7]
  | [], m, v4, _ => ⟨v4, rfl⟩
  | x :: ws, m, v4, h => by
    have hl : (addK x m).length ≤ m.length + 1 := by
      unfold addK
      split
      · omega
      · rw [List.length_append, List.length_singleton]
        exact Nat.le_refl _
    rw [List.length_cons] at h
    obtain ⟨v4', e⟩ := formet_ok a b c e5 e6 e7 ws (addK x m) (some (.str x)) (by omega)
    refine ⟨v4', ?_⟩
    show (if (dL m).length < LINE then formetL 3 4 (strsD ws) [a, b, c, some (.dict (putKs x (dL m))), some (.str x), e5, e6, e7] else none) = _
    rw [if_pos (by rw [List.length_map]; omega), put_dL]
    exact e
theorem addK_new {x : Str} {l : List Str} (h : x ∉ l) : addK x l = l ++ [x] := if_neg h
theorem fold_addK : ∀ (ws m : List Str), (m ++ ws).Nodup → ws.foldl (fun m x => addK x m) m = m ++ ws
  | [], m, _ => (List.append_nil m).symm
  | x :: ws, m, h => by
    have hx : x ∉ m := fun z => (List.nodup_append.mp h).2.2 x z x List.mem_cons_self rfl
    rw [List.foldl_cons, addK_new hx, fold_addK ws (m ++ [x]) (by rw [List.append_assoc]; exact h), List.append_assoc] <;> rfl
variable {W : Wy} {L R : List Str}
theorem fr_pre {ms : Mt} {D : Str → Prop} (hD : Closed W ms D) (hk : Kok W L ms) : ∀ (don cur : List Str) (s : List Str × List Str × List Str), Fr W L ms D s (don ++ cur) → (∀ o ∈ don, D o) → Fr W L ms D (don.foldl (frStep ms) s) cur
  | [], cur, s, h, _ => h
  | o :: don, cur, s, h, hc => fr_pre hD hk don cur (frStep ms s o) (fr_step hD hk h (hc o List.mem_cons_self)) fun x hx => hc x (List.mem_cons_of_mem _ hx)
abbrev envF (x : Addr) (t : D) (s : List Str × List Str × List Str) (v4 v6 v7 : Option D) : Env := [some (objD x), some t, some (.list (strsD s.1)), some (.dict (dL s.2.1)), v4, some (.dict (dL s.2.2)), v6, v7]
structure Bd (s : List Str × List Str × List Str) : Prop where
  w : s.1.length ≤ 5000
  m : s.2.1.length ≤ 5000
  p : s.2.2.length ≤ 5000
theorem fr_bd (g : Gr W L R) {ms : Mt} {D : Str → Prop} (hk : Kok W L ms) {s : List Str × List Str × List Str} {cur : List Str} (h : Fr W L ms D s cur) (hL : L.length ≤ 1000) (hR : R.length ≤ 1000) : Bd s := by
  have a := nodup_sub h.nm h.mL
  have b := nodup_sub h.nw h.wm
  have c := nodup_sub h.np fun r hr => hk.inR g r (by
    obtain ⟨_, l, e, _⟩ := h.pD r hr
    exact List.mem_map.mpr ⟨_, lk_mem e, rfl⟩)
  exact ⟨by omega, by omega, by omega⟩
def bodyF (x : Addr) (ms : Mt) : GS := seqS (putS 5 (varE 6) (cE (.bool true))) (seqS (setS 7 (getE 0 x ms (varE 6))) (ifS (andT (valT (binE notND (varE 7) (cE .none))) (valT (binE notInD (varE 7) (varE 3)))) (seqS (putS 3 (varE 7) (cE (.bool true))) (appS 2 (varE 7))) (nextS)))
theorem body_ok (x : Addr) (t : D) (ms : Mt) (s : List Str × List Str × List Str) (hb : Bd s) (o : Str) (v4 v7 : Option D) (γ : G) : ∃ v7', bodyF x ms (envF x t s v4 (some (.str o)) v7) γ = some (.nx (envF x t (frStep ms s o) v4 (some (.str o)) v7'), γ) := by
  have hp : (dL s.2.2).length < LINE := by rw [List.length_map]; exact line_pos (Nat.le_trans hb.p (by decide))
  have hm : (dL s.2.1).length < LINE := by rw [List.length_map]; exact line_pos (Nat.le_trans hb.m (by decide))
  have hw : (strsD s.1).length < LINE := by rw [List.length_map]; exact line_pos (Nat.le_trans hb.w (by decide))
  have e1 : putS 5 (varE 6) (cE (.bool true)) (envF x t s v4 (some (.str o)) v7) γ = some (.nx (envF x t (s.1, s.2.1, addK o s.2.2) v4 (some (.str o)) v7), γ) := by
    show (if (dL s.2.2).length < LINE then some (Out.nx _, γ) else none) = _
    rw [if_pos hp]
    show some (Out.nx [some (objD x), some t, some (.list (strsD s.1)), some (.dict (dL s.2.1)), v4, some (.dict (putKs o (dL s.2.2))), some (.str o), v7], γ) = _
    rw [put_dL]
  have e2 : setS 7 (getE 0 x ms (varE 6)) (envF x t (s.1, s.2.1, addK o s.2.2) v4 (some (.str o)) v7) γ = some (.nx (envF x t (s.1, s.2.1, addK o s.2.2) v4 (some (.str o)) (some (match lkM ms o with
    | some v => .str v
    | none => .none))), γ) := by
    show ((if isObjAt (envF x t (s.1, s.2.1, addK o s.2.2) v4 (some (.str o)) v7) 0 x then _ else _) : Option _).bind _ = _
    rw [obj_self, if_pos rfl] <;> rfl
  unfold bodyF
  rw [s_seqS, e1, Option.bind_some]
  show ∃ v7', seqS _ _ _ _ = _
  rw [s_seqS, e2, Option.bind_some]
  show ∃ v7', ifS _ _ _ (envF x t (s.1, s.2.1, addK o s.2.2) v4 (some (.str o)) _) γ = _
  unfold frStep
  cases h : lkM ms o with
  | none => exact ⟨some .none, rfl⟩
  | some m =>
    refine ⟨some (.str m), ?_⟩
    by_cases hz : m ∈ s.2.1
    · simp only [if_pos hz]
      rw [s_ifS]
      have e3 : (andT (valT (binE notND (varE 7) (cE .none))) (valT (binE notInD (varE 7) (varE 3)))) (envF x t (s.1, s.2.1, addK o s.2.2) v4 (some (.str o)) (some (.str m))) γ = some (false, γ) := by
        show ((((notInD (.str m) (.dict (dL s.2.1))).bind _).bind _) : Option (Bool × G)) = _
        rw [notIn_dL, decide_eq_true hz] <;> rfl
      rw [e3] <;> rfl
    · simp only [if_neg hz]
      rw [s_ifS]
      have e3 : (andT (valT (binE notND (varE 7) (cE .none))) (valT (binE notInD (varE 7) (varE 3)))) (envF x t (s.1, s.2.1, addK o s.2.2) v4 (some (.str o)) (some (.str m))) γ = some (true, γ) := by
        show ((((notInD (.str m) (.dict (dL s.2.1))).bind _).bind _) : Option (Bool × G)) = _
        rw [notIn_dL, decide_eq_false hz] <;> rfl
      rw [e3, Option.bind_some]
      show seqS _ _ _ _ = _
      have e4 : putS 3 (varE 7) (cE (.bool true)) (envF x t (s.1, s.2.1, addK o s.2.2) v4 (some (.str o)) (some (.str m))) γ = some (.nx (envF x t (s.1, s.2.1 ++ [m], addK o s.2.2) v4 (some (.str o)) (some (.str m))), γ) := by
        show (if (dL s.2.1).length < LINE then some (Out.nx _, γ) else none) = _
        rw [if_pos hm]
        show some (Out.nx [some (objD x), some t, some (.list (strsD s.1)), some (.dict (putKs m (dL s.2.1))), v4, some (.dict (dL (addK o s.2.2))), some (.str o), some (.str m)], γ) = _
        rw [put_dL, addK_new hz]
      rw [s_seqS, e4, Option.bind_some]
      show (if (strsD s.1).length < LINE then some (Out.nx _, γ) else none) = _
      rw [if_pos hw]
      show some (Out.nx [some (objD x), some t, some (.list (strsD s.1 ++ [.str m])), some (.dict (dL (s.2.1 ++ [m]))), v4, some (.dict (dL (addK o s.2.2))), some (.str o), some (.str m)], γ) = _
      rw [show strsD s.1 ++ [.str m] = strsD (s.1 ++ [m]) by unfold strsD; rw [List.map_append] <;> rfl]
      rfl
theorem pop_ok (g : Gr W L R) (x : Addr) (t : D) {ms : Mt} {D : Str → Prop} (hD : Closed W ms D) (hk : Kok W L ms) (hL : L.length ≤ 1000) (hR : R.length ≤ 1000) {s : List Str × List Str × List Str} {l : Str} {os : List Str} (hl : s.1.getLast? = some l) (eo : lkW W l = some os)
    (h : Fr W L ms D (s.1.dropLast, s.2.1, s.2.2) os) (ho : ∀ o ∈ os, D o) (v4 v6 v7 : Option TK.D) (γ : G) :
    ∃ v6' v7', forpopS 0 2 x W (tgN 6) (bodyF x ms) (envF x t s v4 v6 v7) γ = some (.nx (envF x t (os.foldl (frStep ms) (s.1.dropLast, s.2.1, s.2.2)) v4 v6' v7'), γ) := by
  have e0 : forpopS 0 2 x W (tgN 6) (bodyF x ms) (envF x t s v4 v6 v7) γ = forL (tgN 6) (bodyF x ms) (strsD os) (envF x t (s.1.dropLast, s.2.1, s.2.2) v4 v6 v7) γ := by
    have hlast : (strsD s.1).getLast? = some (.str l) := by
      unfold strsD
      rw [List.getLast?_map, hl] <;> rfl
    have hdl : (strsD s.1).dropLast = strsD s.1.dropLast := by
      unfold strsD
      rw [List.map_dropLast]
    show (if isObjAt (envF x t s v4 v6 v7) 0 x then (match (strsD s.1).getLast? with
      | some (.str k) => (lkW W k).bind fun l => forL (tgN 6) (bodyF x ms) (strsD l) ((envF x t s v4 v6 v7).set 2 (some (.list (strsD s.1).dropLast))) γ
      | _ => none) else none) = _
    rw [obj_self, if_pos rfl, hlast]
    show (lkW W l).bind _ = _
    rw [eo, Option.bind_some, hdl] <;> rfl
  rw [e0]
  obtain ⟨ρ', γ', h1, v6', v7', h2, h3⟩ := forL_all PyData.str (fun don ρ γ' => ∃ v6 v7, ρ = envF x t (don.foldl (frStep ms) (s.1.dropLast, s.2.1, s.2.2)) v4 v6 v7 ∧ γ' = γ) (tg := tgN 6) (b := bodyF x ms) os (envF x t (s.1.dropLast, s.2.1, s.2.2) v4 v6 v7) γ (fun don o rest e ρ γ' ⟨v6, v7, h1, h2⟩ => by
    subst h1 h2
    have hf := fr_pre hD hk don (o :: rest) _ (by rw [← e]; exact h) fun y hy => ho y (by rw [e]; exact List.mem_append_left _ hy)
    obtain ⟨v7', hb⟩ := body_ok x t ms _ (fr_bd g hk hf hL hR) o v4 v7 _
    refine ⟨_, _, _, rfl, hb, some (.str o), v7', ?_, rfl⟩
    rw [List.foldl_append] <;> rfl) ⟨v6, v7, rfl, rfl⟩
  subst h2 h3
  exact ⟨v6', v7', h1⟩
theorem while_ok (g : Gr W L R) (x : Addr) (t : D) {ms : Mt} {D : Str → Prop} (hD : Closed W ms D) (hk : Kok W L ms) (hL : L.length ≤ 1000) (hR : R.length ≤ 1000) : ∀ (n : Nat) (s : List Str × List Str × List Str) (v4 v6 v7 : Option TK.D) (γ : G), Fr W L ms D s [] → ∀ s', frLoop W ms n s = some s' →
    ∃ v6' v7', whlL (valT (binE gtD (unE lenD (varE 2)) (cE (.int 0)))) (forpopS 0 2 x W (tgN 6) (bodyF x ms)) n (envF x t s v4 v6 v7) γ = some (.nx (envF x t s' v4 v6' v7'), γ)
  | 0, s, v4, v6, v7, γ, _, s', h => by cases h
  | n + 1, s, v4, v6, v7, γ, h, s', hs => by
    have ec : (valT (binE gtD (unE lenD (varE 2)) (cE (.int 0)))) (envF x t s v4 v6 v7) γ = some (decide (0 < (s.1.length : Int)), γ) := by
      have e1 : (binE gtD (unE lenD (varE 2)) (cE (.int 0))) (envF x t s v4 v6 v7) γ = some (.bool (decide (0 < (s.1.length : Int))), γ) := by
        show ((gtD (.int (strsD s.1).length) (.int 0)).bind fun z => some (z, γ)) = _
        rw [gtD_int, List.length_map] <;> rfl
      rw [s_valT, e1] <;> rfl
    unfold whlL
    rw [ec, Option.bind_some]
    unfold frLoop at hs
    cases hl : s.1.getLast? with
    | none =>
      rw [hl] at hs
      cases hs
      have : s.1 = [] := List.getLast?_eq_none_iff.mp hl
      rw [this]
      exact ⟨v6, v7, rfl⟩
    | some l =>
      rw [hl] at hs
      simp only at hs
      obtain ⟨os, eo, hs⟩ := bnd hs
      have hne : s.1 ≠ [] := fun z => by rw [z] at hl; cases hl
      have hpos : 0 < s.1.length := List.length_pos_iff.mpr hne
      have hs1 : s.1 = s.1.dropLast ++ [l] := by
        have := List.dropLast_concat_getLast hne
        rw [List.getLast?_eq_some_getLast hne] at hl
        rw [← Option.some.inj hl]
        exact this.symm
      have hmem : l ∈ s.1 := by rw [hs1]; simp
      have hlm := h.wm l hmem
      have hnl : l ∉ s.1.dropLast := fun z => by
        have := h.nw
        rw [hs1] at this
        exact (List.nodup_append.mp this).2.2 l z l (by simp) rfl
      have hsub : ∀ x ∈ s.1.dropLast, x ∈ s.1 := fun x hx => by rw [hs1]; exact List.mem_append_left _ hx
      have h' : Fr W L ms D (s.1.dropLast, s.2.1, s.2.2) os := ⟨h.nm, by
        have := h.nw
        rw [hs1] at this
        exact (List.nodup_append.mp this).1, h.np, fun x hx => h.wm x (hsub x hx), h.mL, h.un, h.mD, h.pD, h.ml, fun x hx hn' os' e' y hy => by
          by_cases e : x = l
          · subst e
            rw [eo] at e'
            cases e'
            exact .inr hy
          · refine .inl ((h.dn x hx (fun z => ?_) os' e' y hy).elim id fun z => by cases z)
            rw [hs1] at z
            rcases List.mem_append.mp z with z | z
            · exact hn' z
            · exact e (List.mem_singleton.mp z)⟩
      have ho : ∀ o ∈ os, D o := fun o ho => h.mD l hlm os eo o ho
      obtain ⟨v6', v7', e1⟩ := pop_ok g x t hD hk hL hR hl eo h' ho v4 v6 v7 γ
      rw [decide_eq_true (show (0 : Int) < s.1.length by omega)]
      show ∃ v6' v7', (((forpopS 0 2 x W (tgN 6) (bodyF x ms)) (envF x t s v4 v6 v7) γ).bind _) = _
      rw [e1, Option.bind_some]
      exact while_ok g x t hD hk hL hR n _ v4 v6' v7' γ (fr_all hD hk os _ h' ho) s' hs
end TK.M
end
section
set_option Elab.async false
set_option linter.all false
set_option maxRecDepth 100000
set_option maxHeartbeats 4000000
/-! free() and hands() on typed data. -/
namespace TK.M
open PySem PySem.Spec PyProof.Rows L2
variable {W : Wy} {L R : List Str}
theorem seq_obj (x : Addr) (ds : List TK.D) (ρ : Env) (γ : G) : seqI (objE 0 x (.tuple ds)) (some (objD x) :: ρ) γ = some (ds, γ) := by
  rw [s_seqI, s_objE, obj_self] <;> rfl
theorem free_ok (g : Gr W L R) {ms : Mt} (h : Gw W L R L ms) (x : Addr) (hL : L.length ≤ 900) (hR : R.length ≤ 900) {s : List Str × List Str × List Str} (es : frLoop W ms 1000 (unm L ms, unm L ms, []) = some s) : f_Matching_free ⟨L, R, W, ms⟩ x = some (.list (strsD (freeN R s))) := by
  obtain ⟨D, hD, hd⟩ := h.D
  have hu : ∀ l, l ∈ unm L ms ↔ l ∈ L ∧ l ∉ ms.map (·.2) := fun l => by
    unfold unm
    rw [List.mem_filter]
    simp
  have ndu : (unm L ms).Nodup := g.nL.filter _
  have h0 : Fr W L ms D (unm L ms, unm L ms, []) [] := ⟨ndu, ndu, List.nodup_nil, fun _ h => h, fun l hl => ((hu l).mp hl).1, fun _ h => h, fun l hl os e o ho => hd l ((hu l).mp hl).1 ((hu l).mp hl).2 os e o ho, fun r hr => (by cases hr), fun l hl hn => absurd hl hn, fun l hl hn => absurd hl hn⟩
  obtain ⟨s2, e, hs, hw⟩ := fr_loop g hD h.kok 1000 _ h0 (by simp only; omega)
  rw [es] at e
  cases e
  have e := es
  have hkl := h.kok.len g
  have hul : (unm L ms).length ≤ L.length := List.length_filter_le _ _
  have bd := fr_bd g h.kok hs (by omega) (by omega)
  have l1 : (strsD L).length ≤ LINE := by rw [List.length_map]; exact line_of (by omega)
  have l2 : (strsD R).length ≤ LINE := by rw [List.length_map]; exact line_of (by omega)
  let t : TK.D := .list (strsD (ms.map (·.2)))
  have e1 : (setS 1 (newE (valsN 0 x (strsD (ms.map (·.2)))))) [some (objD x), none, none, none, none, none, none, none] (0, []) = some (.nx [some (objD x), some t, none, none, none, none, none, none], (0, [])) := by
    rw [s_setS, s_newE, s_valsN, obj_self] <;> rfl
  have c1 := compL_map PyData.str (tg := tgN 4) (t := valT (binE notInD (varE 4) (varE 1))) (el := varE 4) (ρ := [some (objD x), some t, none, none, none, none, none, none]) (γ := ((0, []) : G)) (fun l => !decide (l ∈ ms.map (·.2))) (fun l => .str l) L fun l _ => ⟨_, rfl, by simp [-List.map_map, t], fun _ => rfl⟩
  have e2 : (ownS 2 (compN (seqI (objE 0 x (.tuple (strsD L)))) (tgN 4) (valT (binE notInD (varE 4) (varE 1))) (varE 4) [4])) [some (objD x), some t, none, none, none, none, none, none] (0, []) = some (.nx [some (objD x), some t, some (.list (strsD (unm L ms))), none, none, none, none, none], (0, [])) := by
    rw [s_ownS, s_compN, seq_obj, Option.bind_some]
    show ((if (strsD L).length ≤ LINE then compL (tgN 4) (valT (binE notInD (varE 4) (varE 1))) (varE 4) (strsD L) [some (objD x), some t, none, none, none, none, none, none] (0, []) else none).bind _) = _
    rw [if_pos l1, c1] <;> rfl
  have lz : ([] : List Str).length + (unm L ms).length < LINE := by
    have : (2000 : Nat) < LINE := by decide
    simp only [List.length_nil]
    omega
  obtain ⟨v4, e3⟩ := formet_ok (some (objD x)) (some t) (some (.list (strsD (unm L ms)))) none none none (unm L ms) [] none lz
  have e4 : formetS 2 3 4 [some (objD x), some t, some (.list (strsD (unm L ms))), some (.dict []), none, none, none, none] (0, []) = some (.nx [some (objD x), some t, some (.list (strsD (unm L ms))), some (.dict (dL (unm L ms))), v4, none, none, none], (0, [])) := by
    have ho : ownL [some (objD x), some t, some (.list (strsD (unm L ms))), some (.dict []), none, none, none, none] 2 = some (strsD (unm L ms)) := rfl
    unfold formetS
    rw [ho, Option.bind_some, if_pos ⟨by decide, by decide, by decide, by show 4 < 8; decide⟩]
    have := e3
    rw [fold_addK (unm L ms) [] (by rw [List.nil_append]; exact ndu), List.nil_append] at this
    rw [show (some (PyData.dict []) : Option TK.D) = some (.dict (dL [])) from rfl, this] <;> rfl
  obtain ⟨v6, v7, e5⟩ := while_ok g x t hD h.kok (by omega) (by omega) 1000 _ v4 none none (0, []) h0 s e
  have c2 := compL_map PyData.str (tg := tgN 6) (t := valT (binE notInD (varE 6) (varE 5))) (el := varE 6) (ρ := [some (objD x), some t, some (.list (strsD s.1)), some (.dict (dL s.2.1)), v4, some (.dict (dL s.2.2)), none, v7]) (γ := ((0, []) : G)) (fun r => !decide (r ∈ s.2.2)) (fun l => .str l) R fun l _ => ⟨_, rfl, by
    show ((((notInD (.str l) (.dict (dL s.2.2))).bind _).bind _) : Option (Bool × G)) = _
    rw [notIn_dL] <;> rfl, fun _ => rfl⟩
  have hfr : ((dL s.2.1).map (·.1)) = strsD s.2.1 := by
    unfold dL strsD
    rw [List.map_map] <;> rfl
  have l3 : (strsD s.2.1).length + ((R.filter fun r => !decide (r ∈ s.2.2)).map fun l => PyData.str l).length ≤ LINE := by
    rw [List.length_map, List.length_map]
    have a := List.length_filter_le (fun r => !decide (r ∈ s.2.2)) R
    have b := bd.m
    exact line_of (by omega)
  have e6 : (retS (binE addD (newE (listdN 3)) (newE (compN (seqI (objE 0 x (.tuple (strsD R)))) (tgN 6) (valT (binE notInD (varE 6) (varE 5))) (varE 6) [6])))) (envF x t s v4 v6 v7) (0, []) = some (.rt (.list (strsD (freeN R s))), (0, [])) := by
    have a1 : (newE (listdN 3)) (envF x t s v4 v6 v7) (0, []) = some (.list (strsD s.2.1), (0, [])) := by
      show some (PyData.list ((dL s.2.1).map (·.1)), ((0, []) : G)) = _
      rw [hfr]
    have a2 : (newE (compN (seqI (objE 0 x (.tuple (strsD R)))) (tgN 6) (valT (binE notInD (varE 6) (varE 5))) (varE 6) [6])) (envF x t s v4 v6 v7) (0, []) = some (.list ((R.filter fun r => !decide (r ∈ s.2.2)).map fun l => .str l), (0, [])) := by
      have a3 : (seqI (objE 0 x (.tuple (strsD R)))) (envF x t s v4 v6 v7) (0, []) = some (strsD R, (0, [])) := seq_obj ..
      rw [s_newE, s_compN, a3, Option.bind_some]
      show ((if (strsD R).length ≤ LINE then compL (tgN 6) (valT (binE notInD (varE 6) (varE 5))) (varE 6) (strsD R) [some (objD x), some t, some (.list (strsD s.1)), some (.dict (dL s.2.1)), v4, some (.dict (dL s.2.2)), none, v7] (0, []) else none).bind _) = _
      rw [if_pos l2, c2] <;> rfl
    rw [s_retS, s_binE, a1, Option.bind_some, a2, Option.bind_some]
    show (((if (strsD s.2.1).length + ((R.filter fun r => !decide (r ∈ s.2.2)).map fun l => PyData.str l).length ≤ LINE then some _ else none).bind _).bind _) = _
    rw [if_pos l3]
    unfold freeN
    rw [show strsD (s.2.1 ++ R.filter fun r => !decide (r ∈ s.2.2)) = strsD s.2.1 ++ (R.filter fun r => !decide (r ∈ s.2.2)).map fun l => PyData.str l by unfold strsD; rw [List.map_append]] <;> rfl
  unfold f_Matching_free runX
  show (g_Matching_free ⟨L, R, W, ms⟩ x [some (objD x), none, none, none, none, none, none, none] (0, [])).bind _ = _
  unfold g_Matching_free
  rw [s_seqS, e1, Option.bind_some]
  show (seqS _ _ [some (objD x), some t, none, none, none, none, none, none] (0, [])).bind _ = _
  rw [s_seqS, e2, Option.bind_some]
  show (seqS _ _ [some (objD x), some t, some (.list (strsD (unm L ms))), some (.dict []), none, none, none, none] (0, [])).bind _ = _
  rw [s_seqS, e4, Option.bind_some]
  show (seqS _ _ (envF x t (unm L ms, unm L ms, []) v4 none none) (0, [])).bind _ = _
  rw [s_seqS]
  have e5' : whlS (valT (binE gtD (unE lenD (varE 2)) (cE (.int 0)))) (forpopS 0 2 x W (tgN 6) (bodyF x ms)) (envF x t (unm L ms, unm L ms, []) v4 none none) (0, []) = some (.nx (envF x t s v4 v6 v7), (0, [])) := e5
  unfold bodyF at e5'
  rw [e5', Option.bind_some]
  show ((retS _ (envF x t s v4 v6 v7) (0, [])).bind _) = _
  rw [e6] <;> rfl
end TK.M
end
section
set_option Elab.async false
set_option linter.all false
set_option maxRecDepth 100000
set_option maxHeartbeats 4000000
/-! hands() on typed data. -/
namespace TK.M
open PySem PySem.Spec PyProof.Rows L2
inductive Hd where
  | step (x : Str)
  | pair (x y : Str)
  | make (x : Str)
  deriving DecidableEq
def eHd : Hd → D
  | .step x => .tuple [.str "step", .str x]
  | .pair x y => .tuple [.str "pair", .str x, .str y]
  | .make x => .tuple [.str "make", .str x]
theorem lkW_ways {cs : List (Str × Str)} {k : Str} : ∀ {L : List Str}, k ∈ L → lkW (waysOf L cs) k = some (waysFor k cs)
  | a :: L, h => by
    unfold lkW waysOf
    rw [List.map_cons]
    by_cases e : a = k
    · rw [List.find?_cons_of_pos (by simp [e]), e] <;> rfl
    · rw [List.find?_cons_of_neg (by simp [e])]
      have h' : k ∈ L := (List.mem_cons.mp h).elim (fun z => absurd z.symm e) id
      exact lkW_ways h'
theorem mem_waysFor {one o : Str} {cs : List (Str × Str)} : o ∈ waysFor one cs ↔ (one, o) ∈ cs := by
  unfold waysFor
  simp
theorem gr_of {L R : List Str} {cs : List (Str × Str)} (nL : L.Nodup) (nR : R.Nodup) (h : ∀ p ∈ cs, p.1 ∈ L ∧ p.2 ∈ R) (z : R.length ≤ 1000) : Gr (waysOf L cs) L R :=
  ⟨nL, nR, fun l hl => ⟨_, lkW_ways hl, fun o ho => (h _ (mem_waysFor.mp ho)).2⟩, line_pos (by omega)⟩
theorem strsOf_ok : ∀ l : List Str, strsOf (strsD l) = some l
  | [] => rfl
  | x :: l => by
    show (strsOf (strsD l)).map (x :: ·) = _
    rw [strsOf_ok l] <;> rfl
theorem pairsOf_ok : ∀ l : List (Str × Str), pairsOf (l.map pairD) = some l
  | [] => rfl
  | x :: l => by
    show (pairOf (pairD x)).bind (fun p => (pairsOf (l.map pairD)).map (p :: ·)) = _
    rw [pairsOf_ok l] <;> rfl
def singleN (L R : List Str) (ms : Mt) : List Str := unm L ms ++ R.filter fun r => !decide (r ∈ ms.map (·.1))
def toldN (st L R : List Str) (ms : Mt) : List Hd := st.map .step ++ (pairsN ms).map (fun p => .pair p.1 p.2) ++ (ssort (singleN L R ms)).map .make
theorem s_roE {i : Nat} {x : Addr} {r : Addr → Option TK.D} {ρ : Env} {γ : G} : roE i x r ρ γ = if isObjAt ρ i x then (r x).bind fun d => some (d, γ) else none := rfl
theorem singleN_len (L R : List Str) (ms : Mt) : (singleN L R ms).length ≤ L.length + R.length := by
  unfold singleN unm
  rw [List.length_append]
  have a := List.length_filter_le (fun l => !decide (l ∈ ms.map (·.2))) L
  have b := List.length_filter_le (fun r => !decide (r ∈ ms.map (·.1))) R
  omega
theorem hands_ok {b : Bk} (w : WF b) {L R : List Str} (hL : lackOf b false = L) (hR : lackOf b true = R) (nL : L.Nodup) (nR : R.Nodup) {cs : List (Str × Str)} (hc : ∀ p ∈ cs, p.1 ∈ L ∧ p.2 ∈ R) (zL : L.length ≤ 15) (zR : R.length ≤ 15) (zc : cs.length ≤ 1000) (zs : (stepL b).length ≤ 1000) :
    ∃ ms s, Gw (waysOf L cs) L R L ms ∧ Kg (waysOf L cs) L R ms s ∧ f_hands [eBk b, .tuple (cs.map pairD)] = some (.tuple [.tuple ((toldN (stepL b) L R ms).map eHd), .tuple (strsD (ssort (stepL b ++ freeN R s)))]) := by
  have g := gr_of nL nR hc (by omega)
  obtain ⟨ms, e1, hw⟩ := grow_ok g (n := FUEL) (by unfold FUEL; omega)
  obtain ⟨s, e2, hk⟩ := koenig g hw (n := 1000) (by omega)
  have hml := hw.kok.len g
  refine ⟨ms, s, hw, hk, runAll_of fun x => ?_⟩
  have hst := w.steps
  have hla := w.lacking
  rw [hL, hR] at hla
  have hm : f_Matching_matched ⟨L, R, waysOf L cs, ms⟩ x = some (.list ((pairsN ms).map pairD)) := matched_ok _ x (by show ms.length ≤ _; omega)
  have hsi : f_Matching_single ⟨L, R, waysOf L cs, ms⟩ x = some (.list (strsD (singleN L R ms))) := single_ok _ x (by show L.length ≤ _; omega) (by show R.length ≤ _; omega)
  have hfr : f_Matching_free ⟨L, R, waysOf L cs, ms⟩ x = some (.list (strsD (freeN R s))) := free_ok g hw x (by omega) (by omega) e2
  let bD : TK.D := eBk b
  let cD : TK.D := .tuple (cs.map pairD)
  let sD : TK.D := .list (strsD (stepL b))
  let lD : TK.D := .tuple (strsD L)
  let rD : TK.D := .tuple (strsD R)
  let st := stepL b
  have a1 : (setS 2 (callE f_step_names (consA (varE 0) (nilA)))) [some bD, some cD, none, none, none, none, none, none, none, none] (0, []) = some (.nx [some bD, some cD, some sD, none, none, none, none, none, none, none], (0, [])) := by
    show (((f_step_names [eBk b]).bind _).bind _) = _
    rw [hst] <;> rfl
  have a2 : (tgtS (tgT [5, 6]) (callE f_lacking (consA (varE 0) (nilA)))) [some bD, some cD, some sD, none, none, none, none, none, none, none] (0, []) = some (.nx [some bD, some cD, some sD, none, none, some lD, some rD, none, none, none], (0, [])) := by
    show (((f_lacking [eBk b]).bind _).bind _) = _
    rw [hla] <;> rfl
  have zst : st.length ≤ 1000 := zs
  have hlst : st.length ≤ LINE := line_of (Nat.le_trans zs (by decide))
  -- the rest
  let M : MS := ⟨L, R, waysOf L cs, ms⟩
  let ρ3 : Env := [some bD, some cD, some sD, some (objD x), none, some lD, some rD, none, none, none]
  have obj3 : ∀ (v4 v7 v8 v9 : Option TK.D), isObjAt [some bD, some cD, some sD, some (objD x), v4, some lD, some rD, v7, v8, v9] 3 x = true := fun _ _ _ _ => isObj_self x
  have c1 := compL_map' PyData.str (tg := tgN 7) (el := tupE (consA (cE (.str "step")) (consA (varE 7) (nilA)))) (ρ := ρ3) (γ := ((0, []) : G)) (fun y => eHd (.step y)) st fun y _ => ⟨_, rfl, rfl⟩
  have b1 : (ownS 4 (compN (seqI (varE 2)) (tgN 7) (yesT) (tupE (consA (cE (.str "step")) (consA (varE 7) (nilA)))) [7])) ρ3 (0, []) = some (.nx [some bD, some cD, some sD, some (objD x), some (.list (st.map fun y => eHd (.step y))), some lD, some rD, none, none, none], (0, [])) := by
    rw [s_ownS, s_compN]
    show ((if (strsD st).length ≤ LINE then compL (tgN 7) yesT (tupE (consA (cE (.str "step")) (consA (varE 7) (nilA)))) (strsD st) ρ3 (0, []) else none).bind _) = _
    rw [if_pos (by rw [List.length_map]; exact hlst), c1] <;> rfl
  let d4 : TK.D := .list (st.map fun y => eHd (.step y))
  let ρ4 : Env := [some bD, some cD, some sD, some (objD x), some d4, some lD, some rD, none, none, none]
  have c2 := compL_map' pairD (tg := tgT [8, 9]) (el := tupE (consA (cE (.str "pair")) (consA (varE 8) (consA (varE 9) (nilA))))) (ρ := ρ4) (γ := ((0, []) : G)) (fun p => eHd (.pair p.1 p.2)) (pairsN ms) fun p _ => ⟨_, rfl, rfl⟩
  have lpn : (pairsN ms).length = ms.length := by
    unfold pairsN
    rw [tsort_len, List.length_map]
  let d5 : TK.D := .list ((st.map fun y => eHd (.step y)) ++ (pairsN ms).map fun p => eHd (.pair p.1 p.2))
  have b2 : (extS 4 (newE (compN (seqI (roE 3 x (f_Matching_matched M))) (tgT [8, 9]) (yesT) (tupE (consA (cE (.str "pair")) (consA (varE 8) (consA (varE 9) (nilA))))) [8, 9]))) ρ4 (0, []) = some (.nx [some bD, some cD, some sD, some (objD x), some d5, some lD, some rD, none, none, none], (0, [])) := by
    have q1 : (seqI (roE 3 x (f_Matching_matched M))) ρ4 (0, []) = some ((pairsN ms).map pairD, (0, [])) := by
      rw [s_seqI, s_roE, obj3, if_pos rfl, hm] <;> rfl
    have q2 : (newE (compN (seqI (roE 3 x (f_Matching_matched M))) (tgT [8, 9]) (yesT) (tupE (consA (cE (.str "pair")) (consA (varE 8) (consA (varE 9) (nilA))))) [8, 9])) ρ4 (0, []) = some (.list ((pairsN ms).map fun p => eHd (.pair p.1 p.2)), (0, [])) := by
      rw [s_newE, s_compN, q1, Option.bind_some]
      show ((if ((pairsN ms).map pairD).length ≤ LINE then compL (tgT [8, 9]) yesT (tupE (consA (cE (.str "pair")) (consA (varE 8) (consA (varE 9) (nilA))))) ((pairsN ms).map pairD) ρ4 (0, []) else none).bind _) = _
      rw [if_pos (by rw [List.length_map, lpn]; exact line_of (by omega)), c2] <;> rfl
    rw [s_extS]
    show ((newE _ ρ4 (0, [])).bind _) = _
    rw [q2]
    show (if (st.map fun y => eHd (.step y)).length + ((pairsN ms).map fun p => eHd (.pair p.1 p.2)).length < LINE then _ else none) = _
    rw [if_pos (by rw [List.length_map, List.length_map, lpn]; exact line_pos (by omega))] <;> rfl
  let ρ5 : Env := [some bD, some cD, some sD, some (objD x), some d5, some lD, some rD, none, none, none]
  have c3 := compL_map' PyData.str (tg := tgN 7) (el := tupE (consA (cE (.str "make")) (consA (varE 7) (nilA)))) (ρ := ρ5) (γ := ((0, []) : G)) (fun y => eHd (.make y)) (ssort (singleN L R ms)) fun y _ => ⟨_, rfl, rfl⟩
  have lsn : (ssort (singleN L R ms)).length ≤ 30 := by
    rw [tsort_len]
    have := singleN_len L R ms
    omega
  let d6 : TK.D := .list ((st.map fun y => eHd (.step y)) ++ ((pairsN ms).map fun p => eHd (.pair p.1 p.2)) ++ (ssort (singleN L R ms)).map fun y => eHd (.make y))
  have b3 : (extS 4 (newE (compN (seqI (unE sortedD (roE 3 x (f_Matching_single M)))) (tgN 7) (yesT) (tupE (consA (cE (.str "make")) (consA (varE 7) (nilA)))) [7]))) ρ5 (0, []) = some (.nx [some bD, some cD, some sD, some (objD x), some d6, some lD, some rD, none, none, none], (0, [])) := by
    have q1 : (seqI (unE sortedD (roE 3 x (f_Matching_single M)))) ρ5 (0, []) = some (strsD (ssort (singleN L R ms)), (0, [])) := by
      rw [s_seqI, s_unE, s_roE, obj3, if_pos rfl, hsi]
      show (((sortedD _).bind _).bind _) = _
      rw [sorted_strsL] <;> rfl
    have q2 : (newE (compN (seqI (unE sortedD (roE 3 x (f_Matching_single M)))) (tgN 7) (yesT) (tupE (consA (cE (.str "make")) (consA (varE 7) (nilA)))) [7])) ρ5 (0, []) = some (.list ((ssort (singleN L R ms)).map fun y => eHd (.make y)), (0, [])) := by
      rw [s_newE, s_compN, q1, Option.bind_some]
      show ((if (strsD (ssort (singleN L R ms))).length ≤ LINE then compL (tgN 7) yesT (tupE (consA (cE (.str "make")) (consA (varE 7) (nilA)))) (strsD (ssort (singleN L R ms))) ρ5 (0, []) else none).bind _) = _
      rw [if_pos (by rw [List.length_map]; exact line_of (by omega)), c3] <;> rfl
    rw [s_extS]
    show ((newE _ ρ5 (0, [])).bind _) = _
    rw [q2]
    show (if ((st.map fun y => eHd (.step y)) ++ (pairsN ms).map fun p => eHd (.pair p.1 p.2)).length + ((ssort (singleN L R ms)).map fun y => eHd (.make y)).length < LINE then _ else none) = _
    rw [if_pos (by rw [List.length_append, List.length_map, List.length_map, List.length_map, lpn]; exact line_pos (by omega))] <;> rfl
  let ρ6 : Env := [some bD, some cD, some sD, some (objD x), some d6, some lD, some rD, none, none, none]
  have hd6 : (unE tupleD (varE 4)) ρ6 (0, []) = some (.tuple ((toldN (stepL b) L R ms).map eHd), (0, [])) := by
    have : (toldN (stepL b) L R ms).map eHd = (st.map fun y => eHd (.step y)) ++ ((pairsN ms).map fun p => eHd (.pair p.1 p.2)) ++ (ssort (singleN L R ms)).map fun y => eHd (.make y) := by
      unfold toldN
      rw [List.map_append, List.map_append, List.map_map, List.map_map, List.map_map] <;> rfl
    rw [this] <;> rfl
  have lfr : (freeN R s).length ≤ 100 := by
    have := hk.len
    omega
  have b4 : (unE tupleD (unE sortedD (binE addD (varE 2) (roE 3 x (f_Matching_free M))))) ρ6 (0, []) = some (.tuple (strsD (ssort (stepL b ++ freeN R s))), (0, [])) := by
    have q1 : (binE addD (varE 2) (roE 3 x (f_Matching_free M))) ρ6 (0, []) = some (.list (strsD (stepL b ++ freeN R s)), (0, [])) := by
      rw [s_binE]
      show ((roE 3 x (f_Matching_free M) ρ6 (0, [])).bind _) = _
      rw [s_roE, obj3, if_pos rfl, hfr]
      show ((if (strsD st).length + (strsD (freeN R s)).length ≤ LINE then some (PyData.list (strsD st ++ strsD (freeN R s))) else none).bind _) = _
      rw [if_pos (by rw [List.length_map, List.length_map]; exact line_of (by omega))]
      rw [show strsD st ++ strsD (freeN R s) = strsD (stepL b ++ freeN R s) by unfold strsD; rw [List.map_append]] <;> rfl
    rw [s_unE, s_unE, q1]
    show (((sortedD _).bind _).bind _) = _
    rw [sorted_strsL] <;> rfl
  have b5 : (retS (tupE (consA (unE tupleD (varE 4)) (consA (unE tupleD (unE sortedD (binE addD (varE 2) (roE 3 x (f_Matching_free M))))) (nilA))))) ρ6 (0, []) = some (.rt (.tuple [.tuple ((toldN (stepL b) L R ms).map eHd), .tuple (strsD (ssort (stepL b ++ freeN R s)))]), (0, [])) := by
    rw [s_retS, s_tupE, s_consA, hd6, Option.bind_some, s_consA, b4] <;> rfl
  have b6 : g_hands_rest M x ρ3 (0, []) = some (.rt (.tuple [.tuple ((toldN (stepL b) L R ms).map eHd), .tuple (strsD (ssort (stepL b ++ freeN R s)))]), (0, [])) := by
    unfold g_hands_rest
    rw [s_seqS, b1, Option.bind_some]
    show seqS _ _ ρ4 (0, []) = _
    rw [s_seqS, b2, Option.bind_some]
    show seqS _ _ ρ5 (0, []) = _
    rw [s_seqS, b3, Option.bind_some]
    exact b5
  have a3 : (matS 5 6 1 3 (kdOf [.pure, .pure, .pure, .pure, .lst, .pure, .pure, .pure, .pure, .pure]) g_hands_rest x) [some bD, some cD, some sD, none, none, some lD, some rD, none, none, none] (0, []) = some (.rt (.tuple [.tuple ((toldN (stepL b) L R ms).map eHd), .tuple (strsD (ssort (stepL b ++ freeN R s)))]), (0, [])) := by
    show ((strsOf (strsD L)).bind fun L => (strsOf (strsD R)).bind fun R => (pairsOf (cs.map pairD)).bind fun cs => _) = _
    rw [strsOf_ok, Option.bind_some, strsOf_ok, Option.bind_some, pairsOf_ok, Option.bind_some]
    rw [if_pos ⟨line_pos (by omega), line_of (by omega), rfl, rfl, (by decide : 3 < 10)⟩, e1, Option.bind_some]
    show (g_hands_rest M x ρ3 (0, [])).bind _ = _
    rw [b6] <;> rfl
  show g_hands x [some bD, some cD, none, none, none, none, none, none, none, none] (0, []) = _
  unfold g_hands
  rw [s_seqS, a1, Option.bind_some]
  show seqS _ _ [some bD, some cD, some sD, none, none, none, none, none, none, none] (0, []) = _
  rw [s_seqS, a2, Option.bind_some]
  exact a3
end TK.M
end
section
set_option Elab.async false
set_option linter.all false
set_option maxRecDepth 100000
set_option maxHeartbeats 4000000
/-! Names, and put on typed books. -/
namespace TK.M
open PySem PySem.Spec PyProof.Rows L2
def nmAt (n : Nat) : Str := match f_name_at [.int (n : Int)] with
  | some (.str x) => x
  | _ => ""
theorem nm_all : ((List.range 60).all fun n => match f_name_at [.int (n : Int)] with
  | some (.str x) => decide (x ≠ "")
  | _ => false) = true := by decide +kernel
theorem name_at_ok {n : Nat} (h : n < 60) : f_name_at [.int (n : Int)] = some (.str (nmAt n)) ∧ nmAt n ≠ "" := by
  have := List.all_eq_true.mp nm_all n (List.mem_range.mpr h)
  unfold nmAt
  revert this
  cases f_name_at [.int (n : Int)] with
  | none => intro h; cases h
  | some d =>
    cases d with
    | str x => intro h; exact ⟨rfl, of_decide_eq_true h⟩
    | _ => intro h; cases h
theorem nmAt_nd : ((List.range 60).map nmAt).Nodup := by decide +kernel
theorem nm_free {l : List Str} (h : l.length < 60) : ∃ k, k < 60 ∧ nmAt k ∉ l := by
  apply Classical.byContradiction
  intro hn
  have : ∀ x ∈ (List.range 60).map nmAt, x ∈ l := fun x hx => by
    obtain ⟨k, hk, rfl⟩ := List.mem_map.mp hx
    apply Classical.byContradiction
    intro z
    exact hn ⟨k, List.mem_range.mp hk, z⟩
  have := nodup_sub nmAt_nd this
  rw [List.length_map, List.length_range] at this
  omega
theorem new_loop (l : List Str) : ∀ (d n f : Nat) (γ : G), n + d < 60 → nmAt (n + d) ∉ l → d < f →
    ∃ k, k < 60 ∧ nmAt k ∉ l ∧ whlL (valT (binE inD (callE f_name_at (consA (varE 1) (nilA))) (varE 0))) (setS 1 (binE addD (varE 1) (cE (.int 1)))) f [some (.tuple (strsD l)), some (.int (n : Int))] γ = some (.nx [some (.tuple (strsD l)), some (.int (k : Int))], γ)
  | d, n, 0, γ, _, _, h => absurd h (Nat.not_lt_zero _)
  | d, n, f + 1, γ, h1, h2, h3 => by
    have hn := (name_at_ok (show n < 60 by omega)).1
    have ec : (valT (binE inD (callE f_name_at (consA (varE 1) (nilA))) (varE 0))) [some (.tuple (strsD l)), some (.int (n : Int))] γ = some (decide (nmAt n ∈ l), γ) := by
      simp [-List.map_map, hn]
    unfold whlL
    rw [ec, Option.bind_some]
    by_cases hm : nmAt n ∈ l
    · rw [decide_eq_true hm]
      have hd : d ≠ 0 := fun z => by subst z; exact h2 hm
      obtain ⟨k, k1, k2, k3⟩ := new_loop l (d - 1) (n + 1) f γ (by omega) (by rw [show n + 1 + (d - 1) = n + d by omega]; exact h2) (by omega)
      exact ⟨k, k1, k2, k3⟩
    · rw [decide_eq_false hm]
      exact ⟨n, by omega, hm, rfl⟩
theorem new_name_ok {l : List Str} (h : l.length < 60) : ∃ x, f_new_name [.tuple (strsD l)] = some (.str x) ∧ x ∉ l ∧ x ≠ "" := by
  obtain ⟨k0, hk0, hk1⟩ := nm_free h
  obtain ⟨k, h1, h2, h3⟩ := new_loop l k0 0 1000 (0, []) (by omega) (by rw [Nat.zero_add]; exact hk1) (by omega)
  obtain ⟨e1, e2⟩ := name_at_ok h1
  refine ⟨nmAt k, ?_, h2, e2⟩
  have h3' : whlS (valT (binE inD (callE f_name_at (consA (varE 1) (nilA))) (varE 0))) (setS 1 (binE addD (varE 1) (cE (.int 1)))) [some (.tuple (strsD l)), some (.int 0)] (0, []) = some (.nx [some (.tuple (strsD l)), some (.int (k : Int))], (0, [])) := h3
  show (g_new_name [some (.tuple (strsD l)), none] (0, [])).bind _ = _
  unfold g_new_name
  rw [s_seqS]
  show (seqS _ _ [some (.tuple (strsD l)), some (.int 0)] (0, [])).bind _ = _
  rw [s_seqS, h3', Option.bind_some]
  simp [-List.map_map, e1]
/-! ### the last one of a side -/
def lastN (ps : List Pt) : Str := match ps.getLast? with
  | some p => p.n
  | none => ""
theorem atI_last {α : Type} (xs : List α) (x : α) : atI (xs ++ [x]) (-1) = some x := by
  unfold atI ixN
  rw [if_neg (by decide), if_pos (by rw [List.length_append, List.length_singleton]; omega), Option.bind_some]
  rw [show (-1 + ((xs ++ [x]).length : Int)).toNat = xs.length by rw [List.length_append, List.length_singleton]; omega]
  simp
theorem last_ok (ps : List Pt) : f_last_of [.tuple (ps.map ePt)] = some (.str (lastN ps)) := by
  rcases List.eq_nil_or_concat ps with rfl | ⟨i, p, rfl⟩
  · rfl
  · have e1 : idxD (.tuple ((i ++ [p]).map ePt)) (.int (-1)) = some (ePt p) := by
      rw [List.map_append]
      exact atI_last _ _
    have e2 : lastN (i ++ [p]) = p.n := by
      unfold lastN
      simp
    have e3 : ¬ ((((i ++ [p]).map ePt).length : Int) = 0) := by
      rw [List.length_map, List.length_append, List.length_singleton]
      omega
    have e4 : negD (.int 1) = some (.int (-1)) := rfl
    rw [List.concat_eq_append, e2]
    simp only [f_last_of, g_last_of, s_runP]
    show ((seqS _ _ [some (.tuple ((i ++ [p]).map ePt))] (0, [])).bind _) = _
    rw [s_seqS]
    have q1 : (ifS (valT (binE eqD (unE lenD (varE 0)) (cE (.int 0)))) (retS (cE (.str ""))) (nextS)) [some (.tuple ((i ++ [p]).map ePt))] (0, []) = some (.nx [some (.tuple ((i ++ [p]).map ePt))], (0, [])) := by
      rw [s_ifS]
      have q2 : (valT (binE eqD (unE lenD (varE 0)) (cE (.int 0)))) [some (.tuple ((i ++ [p]).map ePt))] (0, []) = some (false, (0, [])) := by
        show ((eqD (.int (((i ++ [p]).map ePt).length)) (.int 0)).bind fun z => some (z, ((0, []) : G))).bind _ = _
        rw [eqD_int, decide_eq_false e3] <;> rfl
      rw [q2] <;> rfl
    rw [q1, Option.bind_some]
    show ((((((idxD (.tuple ((i ++ [p]).map ePt)) (.int (-1))).bind _).bind _).bind _).bind _)) = _
    rw [e1] <;> rfl
/-! ### put -/
theorem parts_with_ok (ps : List Pt) (e : Pt) (nd : (nms ps).Nodup) (ne : ∀ x ∈ nms ps, x ≠ "") (hz : ps.length ≤ 1000) : f_parts_with [.tuple (ps.map ePt), ePt e, .str (lastN ps)] = some (.tuple ((ps ++ [e]).map ePt)) := by
  rcases List.eq_nil_or_concat ps with rfl | ⟨i, p, rfl⟩
  · rfl
  · rw [List.concat_eq_append] at nd ne hz ⊢
    have e2 : lastN (i ++ [p]) = p.n := by
      unfold lastN
      simp
    have hpn : p.n ≠ "" := ne p.n (by unfold nms; simp)
    rw [e2]
    let P : TK.D := .tuple ((i ++ [p]).map ePt)
    show (g_parts_with [some P, some (ePt e), some (.str p.n), none, none] (0, [])).bind _ = _
    unfold g_parts_with
    have q1 : (ifS (valT (binE eqD (varE 2) (cE (.str "")))) (retS (binE addD (tupE (consA (varE 1) (nilA))) (varE 0))) (nextS)) [some P, some (ePt e), some (.str p.n), none, none] (0, []) = some (.nx [some P, some (ePt e), some (.str p.n), none, none], (0, [])) := by
      have : ¬ p.n = "" := hpn
      simp [-List.map_map, this]
    rw [s_seqS, q1, Option.bind_some]
    show (seqS _ _ [some P, some (ePt e), some (.str p.n), none, none] (0, [])).bind _ = _
    rw [s_seqS]
    show (seqS _ _ [some P, some (ePt e), some (.str p.n), some (.list []), none] (0, [])).bind _ = _
    rw [s_seqS, s_forS]
    show ((forL _ _ ((i ++ [p]).map ePt) _ _).bind _).bind _ = _
    obtain ⟨ρ', γ', h1, v4, h2, h3⟩ := forL_all ePt (fun don ρ γ => ∃ v4, ρ = [some P, some (ePt e), some (.str p.n), some (.list ((don ++ if don.length = (i ++ [p]).length then [e] else []).map ePt)), v4] ∧ γ = (0, [])) (tg := tgN 4)
      (b := seqS (appS 3 (varE 4)) (ifS (valT (binE eqD (binE idxD (varE 4) (cE (.int 0))) (varE 2))) (appS 3 (varE 1)) (nextS))) (i ++ [p]) [some P, some (ePt e), some (.str p.n), some (.list []), none] (0, []) (fun don x rest ed ρ γ ⟨v4, h1, h2⟩ => by
        subst h1 h2
        have hdl : don.length + rest.length + 1 = (i ++ [p]).length := by
          rw [ed, List.length_append, List.length_cons]
          omega
        rw [if_neg (by omega), List.append_nil]
        have hl1 : (don.map ePt).length < LINE := by rw [List.length_map]; exact line_pos (by omega)
        have hl2 : ((don ++ [x]).map ePt).length < LINE := by rw [List.length_map, List.length_append, List.length_singleton]; exact line_pos (by omega)
        have a1 : (appS 3 (varE 4)) [some P, some (ePt e), some (.str p.n), some (.list (don.map ePt)), some (ePt x)] (0, []) = some (.nx [some P, some (ePt e), some (.str p.n), some (.list ((don ++ [x]).map ePt)), some (ePt x)], (0, [])) := by
          show (if (don.map ePt).length < LINE then some (Out.nx [some P, some (ePt e), some (.str p.n), some (.list (don.map ePt ++ [ePt x])), some (ePt x)], ((0, []) : G)) else none) = _
          rw [if_pos hl1, List.map_append] <;> rfl
        have a2 : (valT (binE eqD (binE idxD (varE 4) (cE (.int 0))) (varE 2))) [some P, some (ePt e), some (.str p.n), some (.list ((don ++ [x]).map ePt)), some (ePt x)] (0, []) = some (decide (x.n = p.n), (0, [])) := by
          simp [-List.map_map]
        refine ⟨_, _, _, rfl, ?_, some (ePt x), rfl, rfl⟩
        show seqS (appS 3 (varE 4)) _ [some P, some (ePt e), some (.str p.n), some (.list (don.map ePt)), some (ePt x)] (0, []) = _
        rw [s_seqS, a1, Option.bind_some]
        show ifS _ _ _ [some P, some (ePt e), some (.str p.n), some (.list ((don ++ [x]).map ePt)), some (ePt x)] (0, []) = _
        rw [s_ifS, a2, Option.bind_some]
        rcases List.eq_nil_or_concat rest with rfl | ⟨j, y, rfl⟩
        · have hx : x = p := by
            have := congrArg List.getLast? ed
            simpa using this.symm
          subst hx
          have hif : (if (don ++ [x]).length = (i ++ [x]).length then [e] else []) = [e] := if_pos (by rw [List.length_append, List.length_singleton]; simpa using hdl)
          rw [decide_eq_true rfl, hif]
          show (if ((don ++ [x]).map ePt).length < LINE then some (Out.nx [some P, some (ePt e), some (.str x.n), some (.list ((don ++ [x]).map ePt ++ [ePt e])), some (ePt x)], ((0, []) : G)) else none) = _
          rw [if_pos hl2, List.map_append (l₁ := don ++ [x]) (l₂ := [e])] <;> rfl
        · rw [List.concat_eq_append] at ed hdl
          have hy : y = p := by
            have := congrArg List.getLast? ed
            rw [show don ++ x :: (j ++ [y]) = (don ++ x :: j) ++ [y] by simp, List.getLast?_concat, List.getLast?_concat] at this
            exact (Option.some.inj this).symm
          have hne : x.n ≠ p.n := fun z => by
            rw [ed] at nd
            unfold nms at nd
            rw [List.map_append, List.map_cons, List.map_append] at nd
            have := (List.nodup_append.mp nd).2.1
            rw [List.nodup_cons] at this
            exact this.1 (List.mem_append_right _ (by rw [z, hy]; simp))
          have hif : (if (don ++ [x]).length = (i ++ [p]).length then [e] else []) = [] := if_neg (by rw [List.length_append, List.length_singleton]; rw [List.length_append, List.length_singleton] at hdl; omega)
          rw [decide_eq_false hne, hif, List.append_nil] <;> rfl) ⟨none, by simp, rfl⟩
    subst h2 h3
    rw [h1, if_pos rfl] <;> rfl
theorem h_put (b : TK.D) (r : List TK.D) : h_done [b, .tuple (.str "put" :: r)] = f_put_done [b, .tuple (.str "put" :: r)] := by
  unfold h_done
  exact if_pos rfl
theorem h_link (b : TK.D) (r : List TK.D) : h_done [b, .tuple (.str "link" :: r)] = f_link_done [b, .tuple (.str "link" :: r)] := by
  unfold h_done
  exact (if_neg (by decide)).trans (if_pos rfl)
theorem h_step (b : TK.D) (r : List TK.D) : h_done [b, .tuple (.str "step" :: r)] = f_step_done [b, .tuple (.str "step" :: r)] := by
  unfold h_done
  exact (if_neg (by decide)).trans ((if_neg (by decide)).trans (if_pos rfl))
def doPut (b : Bk) (s : Bool) (e : Pt) : Bk := if s then { b with q := b.q ++ [e] } else { b with p := b.p ++ [e] }
theorem lastN_mem {ps : List Pt} (h : lastN ps ≠ "") : lastN ps ∈ nms ps := by
  unfold lastN at h ⊢
  cases e : ps.getLast? with
  | none => rw [e] at h; exact absurd rfl h
  | some p => exact List.mem_map.mpr ⟨p, List.mem_of_getLast? e, rfl⟩
theorem look_ok {b : Bk} (w : WF b) (s : Bool) : f_look_behind [eBk b, sdI s, .str (lastN (b.sd s))] = some .none := by
  by_cases h : lastN (b.sd s) = ""
  · simp [-List.map_map, f_look_behind, g_look_behind, h, neD_of (flat_str 0 "") (flat_str 0 ""), eqv_str]
  · have h1 : neD (.str (lastN (b.sd s))) (.str "") = some (.bool true) := by
      rw [neD_of (flat_str 0 _) (flat_str 0 ""), eqv_str, decide_eq_false h] <;> rfl
    have h2 := w.side (s := s) (lastN_mem h)
    have h3 : neD (sdI s) (sdI s) = some (.bool false) := by cases s <;> rfl
    show (g_look_behind [some (eBk b), some (sdI s), some (.str (lastN (b.sd s)))] (0, [])).bind _ = _
    have e1 : (andT (valT (binE neD (varE 2) (cE (.str "")))) (valT (binE neD (callE f_side_of (consA (varE 0) (consA (varE 2) (nilA)))) (varE 1)))) [some (eBk b), some (sdI s), some (.str (lastN (b.sd s)))] (0, []) = some (false, (0, [])) := by
      rw [s_andT]
      have a1 : (valT (binE neD (varE 2) (cE (.str "")))) [some (eBk b), some (sdI s), some (.str (lastN (b.sd s)))] (0, []) = some (true, (0, [])) := by
        show ((neD (.str (lastN (b.sd s))) (.str "")).bind fun z => some (z, ((0, []) : G))).bind _ = _
        rw [h1] <;> rfl
      rw [a1, Option.bind_some]
      show (valT _ _ _) = _
      show ((((f_side_of [eBk b, .str (lastN (b.sd s))]).bind _).bind _).bind _) = _
      rw [h2]
      show (((neD (sdI s) (sdI s)).bind fun z => some (z, ((0, []) : G))).bind _) = _
      rw [h3] <;> rfl
    unfold g_look_behind
    rw [s_ifS, e1] <;> rfl
theorem side_nd {b : Bk} (w : WF b) (s : Bool) : (nms (b.sd s)).Nodup := by
  have := List.nodup_append.mp w.nd
  cases s with
  | true => exact this.2.1
  | false => exact this.1
theorem side_ne {b : Bk} (w : WF b) (s : Bool) : ∀ x ∈ nms (b.sd s), x ≠ "" := fun x hx => w.ne x (by
  cases s with
  | true => exact List.mem_append_right _ hx
  | false => exact List.mem_append_left _ hx)
theorem with_side_ok (b : Bk) (s : Bool) (e : Pt) : f_with_side [eBk b, sdI s, .tuple ((b.sd s ++ [e]).map ePt)] = some (eBk (doPut b s e)) := by
  cases s <;> rfl
theorem put_ok {b : Bk} (w : WF b) (s : Bool) {n : Str} (t : Str) (m : Int) (h1 : n ∉ nms b.p) (h2 : n ∉ nms b.q) : f_done [eBk b, .tuple [.str "put", .int m, sdI s, .str (lastN (b.sd s)), .str n, .str t]] = some (eBk (doPut b s ⟨n, t, [m]⟩)) := by
  let d : TK.D := .tuple [.str "put", .int m, sdI s, .str (lastN (b.sd s)), .str n, .str t]
  let l : Str := lastN (b.sd s)
  let e0 : Pt := ⟨n, t, [m]⟩
  have hlk := look_ok w s
  have hhp := has_part_ok w.sz n
  rw [decide_eq_false (fun z => z.elim h1 h2)] at hhp
  have hpw := parts_with_ok (b.sd s) ⟨n, t, [m]⟩ (side_nd w s) (side_ne w s) (w.len s)
  have hws := with_side_ok b s ⟨n, t, [m]⟩
  have e : f_put_done [eBk b, d] = some (eBk (doPut b s ⟨n, t, [m]⟩)) := by
    show (g_put_done [some (eBk b), some d, none, none, none, none, none, none] (0, [])).bind _ = _
    unfold g_put_done
    rw [s_seqS]
    show (seqS _ _ [some (eBk b), some d, some (.str "put"), some (.int m), some (sdI s), some (.str l), some (.str n), some (.str t)] (0, [])).bind _ = _
    have a1 : (dropS (callE f_look_behind (consA (varE 0) (consA (varE 4) (consA (varE 5) (nilA)))))) [some (eBk b), some d, some (.str "put"), some (.int m), some (sdI s), some (.str l), some (.str n), some (.str t)] (0, []) = some (.nx [some (eBk b), some d, some (.str "put"), some (.int m), some (sdI s), some (.str l), some (.str n), some (.str t)], (0, [])) := by
      show ((f_look_behind [eBk b, sdI s, .str l]).bind _).bind _ = _
      rw [hlk] <;> rfl
    rw [s_seqS, a1, Option.bind_some]
    show (seqS _ _ [some (eBk b), some d, some (.str "put"), some (.int m), some (sdI s), some (.str l), some (.str n), some (.str t)] (0, [])).bind _ = _
    have a2 : (ifS (valT (callE f_has_part (consA (varE 0) (consA (varE 6) (nilA))))) (failS) (nextS)) [some (eBk b), some d, some (.str "put"), some (.int m), some (sdI s), some (.str l), some (.str n), some (.str t)] (0, []) = some (.nx [some (eBk b), some d, some (.str "put"), some (.int m), some (sdI s), some (.str l), some (.str n), some (.str t)], (0, [])) := by
      rw [s_ifS]
      have a3 : (valT (callE f_has_part (consA (varE 0) (consA (varE 6) (nilA))))) [some (eBk b), some d, some (.str "put"), some (.int m), some (sdI s), some (.str l), some (.str n), some (.str t)] (0, []) = some (false, (0, [])) := by
        show ((f_has_part [eBk b, .str n]).bind fun z => some (z, ((0, []) : G))).bind _ = _
        rw [hhp] <;> rfl
      rw [a3] <;> rfl
    rw [s_seqS, a2, Option.bind_some]
    have a4 : (binE idxD (varE 0) (varE 4)) [some (eBk b), some d, some (.str "put"), some (.int m), some (sdI s), some (.str l), some (.str n), some (.str t)] (0, []) = some (.tuple ((b.sd s).map ePt), (0, [])) := by
      show ((idxD (eBk b) (sdI s)).bind _) = _
      rw [idx_sd] <;> rfl
    have a5 : (callE f_parts_with (consA (binE idxD (varE 0) (varE 4)) (consA (tupE (consA (varE 6) (consA (varE 7) (consA (tupE (consA (varE 3) (nilA))) (nilA))))) (consA (varE 5) (nilA))))) [some (eBk b), some d, some (.str "put"), some (.int m), some (sdI s), some (.str l), some (.str n), some (.str t)] (0, []) = some (.tuple ((b.sd s ++ [e0]).map ePt), (0, [])) := by
      rw [s_callE, s_consA, a4]
      show ((f_parts_with [.tuple ((b.sd s).map ePt), ePt e0, .str l]).bind _) = _
      rw [hpw] <;> rfl
    show (((retS _) [some (eBk b), some d, some (.str "put"), some (.int m), some (sdI s), some (.str l), some (.str n), some (.str t)] (0, [])).bind _) = _
    have a6 : (callE f_with_side (consA (varE 0) (consA (varE 4) (consA (callE f_parts_with (consA (binE idxD (varE 0) (varE 4)) (consA (tupE (consA (varE 6) (consA (varE 7) (consA (tupE (consA (varE 3) (nilA))) (nilA))))) (consA (varE 5) (nilA))))) (nilA))))) [some (eBk b), some d, some (.str "put"), some (.int m), some (sdI s), some (.str l), some (.str n), some (.str t)] (0, []) = some (eBk (doPut b s e0), (0, [])) := by
      rw [s_callE, s_consA, s_varE]
      show (((consA (varE 4) _ _ _).bind _).bind _) = _
      rw [s_consA, s_varE]
      show ((((consA _ _ _ _).bind _).bind _).bind _) = _
      rw [s_consA, a5]
      show ((f_with_side [eBk b, sdI s, .tuple ((b.sd s ++ [e0]).map ePt)]).bind _) = _
      rw [hws] <;> rfl
    rw [s_retS, a6] <;> rfl
  show (g_done [some (eBk b), some d, none] (0, [])).bind _ = _
  unfold g_done
  show ((h_done [eBk b, d]).bind fun z => some (Out.rt z, ((0, []) : G))).bind _ = _
  have e2 : h_done [eBk b, d] = f_put_done [eBk b, d] := h_put _ _
  rw [e2, e] <;> rfl
end TK.M
end
section
set_option Elab.async false
set_option linter.all false
set_option maxRecDepth 100000
set_option maxHeartbeats 4000000
/-! link and step on typed books. -/
namespace TK.M
open PySem PySem.Spec PyProof.Rows L2
theorem eqv_lk (l m : Lk) : PyData.eqv (eLk l) (eLk m) = decide (l = m) := by
  have e : PyData.eqv (eLk l) (eLk m) = (decide (l.a = m.a) && (decide (l.b = m.b) && (decide (l.t = m.t) && ((decide (l.la = m.la) && (decide (l.lb = m.lb) && true)) && true)))) := by
    simp only [eLk, PyData.eqv, PyData.eqvAll, eqvAll_strs, eqvAll_ints, Bool.beq_eq_decide_eq]
  rw [e]
  obtain ⟨a, b, t, c, d⟩ := l
  obtain ⟨a', b', t', c', d'⟩ := m
  simp only [Lk.mk.injEq, Bool.and_true, Bool.decide_and]
theorem flat_lk (l : Lk) : flat 3 (eLk l) := flat_tup (n := 2) fun d h => by
  simp only [List.mem_cons, List.not_mem_nil, or_false] at h
  rcases h with h | h | h | h <;> rw [h]
  · exact (flat_tup (flat_strs 0 _)).mono (by decide)
  · exact (flat_tup (flat_strs 0 _)).mono (by decide)
  · exact flat_int _ _
  · refine flat_tup (n := 1) fun d h => ?_
    simp only [List.mem_cons, List.not_mem_nil, or_false] at h
    rcases h with h | h <;> rw [h]
    · exact flat_tup (flat_ints 0 _)
    · exact flat_tup (flat_ints 0 _)
theorem alike_strs : ∀ a b : List Str, PySem.W.alikeAll (strsD a) (strsD b) = true
  | [], _ => by simp [PySem.W.alikeAll]
  | _ :: _, [] => by simp [PySem.W.alikeAll]
  | x :: a, y :: b => by
    show PySem.W.alikeAll (.str x :: strsD a) (.str y :: strsD b) = true
    simp only [PySem.W.alikeAll, PySem.W.alike, alike_strs a b, Bool.and_self]
theorem alike_ints : ∀ a b : List Int, PySem.W.alikeAll (intsL a) (intsL b) = true
  | [], _ => by simp [PySem.W.alikeAll, intsL]
  | _ :: _, [] => by simp [PySem.W.alikeAll, intsL]
  | x :: a, y :: b => by
    show PySem.W.alikeAll (.int x :: intsL a) (.int y :: intsL b) = true
    simp only [PySem.W.alikeAll, PySem.W.alike, alike_ints a b, Bool.and_self]
theorem alike_lk (l m : Lk) : PySem.W.alike (eLk l) (eLk m) = true := by
  simp only [eLk, PySem.W.alike, PySem.W.alikeAll, alike_strs, alike_ints, Bool.and_self]
theorem okSort_lks (l : List Lk) : okSort (l.map eLk) = true := okSort_map eLk l (n := 3) (by decide) (fun x _ => flat_lk x) (fun x _ y _ => alike_lk x y) (.inl fun _ _ => rfl)
abbrev lsort (l : List Lk) : List Lk := tsort eLk l
theorem sorted_lks (l : List Lk) : sortedD (.list (l.map eLk)) = some (.list ((lsort l).map eLk)) := sorted_map eLk l (okSort_lks l) _ rfl
theorem flat_olk (o : Option Lk) : flat 3 (oLk o) := by
  cases o with
  | none => exact flat_non 3
  | some l => exact flat_lk l
theorem ne_olk (l : Lk) (o : Option Lk) : neD (eLk l) (oLk o) = some (.bool (!decide (some l = o))) := by
  rw [neD_of (flat_lk l) (flat_olk o)]
  cases o with
  | none => simp [oLk, PyData.eqv]
  | some m =>
    show some (PyData.bool (!PyData.eqv (eLk l) (eLk m))) = _
    rw [eqv_lk]
    simp
theorem exchange_ok (ls : List Lk) (o : Option Lk) (n : Lk) (h : ls.length ≤ 1000) : f_links_exchanged [.tuple (ls.map eLk), oLk o, eLk n] = some (.tuple ((lsort (ls.filter (fun l => !decide (some l = o)) ++ [n])).map eLk)) := by
  let T : TK.D := .tuple (ls.map eLk)
  let ks := ls.filter fun l => !decide (some l = o)
  have hk : ks.length ≤ 1000 := Nat.le_trans (List.length_filter_le _ _) h
  have c := compL_map eLk (tg := tgN 4) (t := valT (binE neD (varE 4) (varE 1))) (el := varE 4) (ρ := [some T, some (oLk o), some (eLk n), none, none]) (γ := ((0, []) : G)) (fun l => !decide (some l = o)) eLk ls fun l _ => ⟨_, rfl, by
    show ((neD (eLk l) (oLk o)).bind fun z => some (z, ((0, []) : G))).bind _ = _
    rw [ne_olk] <;> rfl, fun _ => rfl⟩
  have e1 : (ownS 3 (compN (seqI (varE 0)) (tgN 4) (valT (binE neD (varE 4) (varE 1))) (varE 4) [4])) [some T, some (oLk o), some (eLk n), none, none] (0, []) = some (.nx [some T, some (oLk o), some (eLk n), some (.list (ks.map eLk)), none], (0, [])) := by
    rw [s_ownS, s_compN]
    show ((if (ls.map eLk).length ≤ LINE then compL (tgN 4) (valT (binE neD (varE 4) (varE 1))) (varE 4) (ls.map eLk) [some T, some (oLk o), some (eLk n), none, none] (0, []) else none).bind _) = _
    rw [if_pos (by rw [List.length_map]; exact line_of (by omega)), c] <;> rfl
  have e2 : (ifS (valT (binE notND (varE 2) (cE .none))) (appS 3 (varE 2)) (nextS)) [some T, some (oLk o), some (eLk n), some (.list (ks.map eLk)), none] (0, []) = some (.nx [some T, some (oLk o), some (eLk n), some (.list ((ks ++ [n]).map eLk)), none], (0, [])) := by
    show (if (ks.map eLk).length < LINE then some (Out.nx [some T, some (oLk o), some (eLk n), some (.list (ks.map eLk ++ [eLk n])), none], ((0, []) : G)) else none) = _
    rw [if_pos (by rw [List.length_map]; exact line_pos (by omega)), List.map_append] <;> rfl
  show (g_links_exchanged [some T, some (oLk o), some (eLk n), none, none] (0, [])).bind _ = _
  unfold g_links_exchanged
  rw [s_seqS, e1, Option.bind_some]
  show (seqS _ _ [some T, some (oLk o), some (eLk n), some (.list (ks.map eLk)), none] (0, [])).bind _ = _
  rw [s_seqS, e2, Option.bind_some]
  show ((((sortedD (.list ((ks ++ [n]).map eLk))).bind _).bind _).bind _).bind _ = _
  rw [sorted_lks] <;> rfl
def tk (b : Bk) (x : Str) : Prop := ∃ l ∈ b.ls, x ∈ l.a ∨ x ∈ l.b
theorem lk_free {b : Bk} {x : Str} (h : ¬ tk b x) (s : Bool) : lkOf b s x = none := by
  unfold lkOf
  refine List.find?_eq_none.mpr fun l hl e => h ⟨l, hl, ?_⟩
  have : x ∈ l.sd s := of_decide_eq_true e
  cases s with
  | true => exact .inr this
  | false => exact .inl this
theorem pw_ne {α : Type} {R : α → α → Prop} (sy : ∀ x y, R x y → R y x) : ∀ {l : List α}, l.Pairwise R → ∀ x ∈ l, ∀ y ∈ l, x ≠ y → R x y
  | a :: l, h, x, hx, y, hy, n => by
    rw [List.pairwise_cons] at h
    rcases List.mem_cons.mp hx with ex | hx2
    · rcases List.mem_cons.mp hy with ey | hy2
      · exact absurd (ex.trans ey.symm) n
      · rw [ex]
        exact h.1 y hy2
    · rcases List.mem_cons.mp hy with ey | hy2
      · rw [ey]
        exact sy _ _ (h.1 x hx2)
      · exact pw_ne sy h.2 x hx2 y hy2 n
theorem WF.djA {b : Bk} (w : WF b) : ∀ k ∈ b.ls, ∀ l ∈ b.ls, k ≠ l → ∀ z ∈ k.a, z ∉ l.a := pw_ne (R := fun l m : Lk => ∀ x ∈ l.a, x ∉ m.a) (fun _ _ h z hz hz' => h z hz' hz) w.da
theorem WF.djB {b : Bk} (w : WF b) : ∀ k ∈ b.ls, ∀ l ∈ b.ls, k ≠ l → ∀ z ∈ k.b, z ∉ l.b := pw_ne (R := fun l m : Lk => ∀ x ∈ l.b, x ∉ m.b) (fun _ _ h z hz hz' => h z hz' hz) w.db
theorem WF.cross {b : Bk} (w : WF b) {x : Str} (h1 : x ∈ nms b.p) (h2 : x ∈ nms b.q) : False := (List.nodup_append.mp w.nd).2.2 x h1 x h2 rfl
theorem WF.one {b : Bk} (w : WF b) {k l : Lk} (hk : k ∈ b.ls) (hl : l ∈ b.ls) {x : Str} (h1 : x ∈ k.a ∨ x ∈ k.b) (h2 : x ∈ l.a ∨ x ∈ l.b) : k = l := by
  apply Classical.byContradiction
  intro n
  rcases h1 with h1 | h1 <;> rcases h2 with h2 | h2
  · exact w.djA k hk l hl n x h1 h2
  · exact w.cross (w.la k hk x h1) (w.lb l hl x h2)
  · exact w.cross (w.la l hl x h2) (w.lb k hk x h1)
  · exact w.djB k hk l hl n x h1 h2
theorem sd_or {l : Lk} {s : Bool} {x : Str} (h : x ∈ l.sd s) : x ∈ l.a ∨ x ∈ l.b := by
  cases s with
  | true => exact .inr h
  | false => exact .inl h
theorem WF.lkOf {b : Bk} (w : WF b) {l : Lk} (hl : l ∈ b.ls) {s : Bool} {x : Str} (h : x ∈ l.sd s) : lkOf b s x = some l := by
  cases e : TK.M.lkOf b s x with
  | none =>
    have := List.find?_eq_none.mp e l hl
    exact absurd (decide_eq_true h) this
  | some k =>
    obtain ⟨h1, h2⟩ := lkOf_mem e
    rw [w.one h1 hl (sd_or h2) (sd_or h)]
def doLink (b : Bk) (m : Int) (x y : Str) : Bk := { b with ls := lsort (b.ls ++ [⟨[x], [y], m, [], []⟩]) }
def stepped (l : Lk) (m : Int) : Lk := { l with t := m, la := [], lb := [] }
def doStep (b : Bk) (m : Int) (l : Lk) : Bk := { b with ls := lsort (b.ls.filter (fun k => !decide (k = l)) ++ [stepped l m]) }
theorem ssort1 (x : Str) : ssort [x] = [x] := by
  have := tsort_perm PyData.str [x]
  exact List.perm_singleton.mp this
theorem link_ok {b : Bk} (w : WF b) (m : Int) {x y : Str} (hx : On b false x) (hy : On b true y) (nx : ¬ tk b x) (ny : ¬ tk b y) (ax : x ∉ b.al) (ay : y ∉ b.al) : f_done [eBk b, .tuple [.str "link", .int m, .tuple [.str x], .tuple [.str y]]] = some (eBk (doLink b m x y)) := by
  let d : TK.D := .tuple [.str "link", .int m, .tuple [.str x], .tuple [.str y]]
  have sx := w.side hx
  have sy := w.side hy
  have lx := w.link hx
  have ly := w.link hy
  rw [lk_free nx] at lx
  rw [lk_free ny] at ly
  have ix := is_alone_ok b x
  have iy := is_alone_ok b y
  rw [decide_eq_false ax] at ix
  rw [decide_eq_false ay] at iy
  have hex := exchange_ok b.ls none ⟨[x], [y], m, [], []⟩ w.sz.ls
  have hfil : (b.ls.filter fun l => !decide (some l = none)) = b.ls := List.filter_eq_self.mpr fun _ _ => rfl
  rw [hfil] at hex
  let sd2 : TK.D := .list [.int 0, .int 1]
  let X : TK.D := .tuple [.str x]
  let Y : TK.D := .tuple [.str y]
  have e : f_link_done [eBk b, d] = some (eBk (doLink b m x y)) := by
    show (g_link_done [some (eBk b), some d, none, none, none, none, none, none, none] (0, [])).bind _ = _
    unfold g_link_done
    rw [s_seqS]
    show (seqS _ _ [some (eBk b), some d, none, none, some (.str "link"), some (.int m), some X, some Y, none] (0, [])).bind _ = _
    have s1 : ∀ (v2 v3 : Option TK.D), (seqI (binE addD (varE 6) (varE 7))) [some (eBk b), some d, v2, v3, some (.str "link"), some (.int m), some X, some Y, none] (0, []) = some ([.str x, .str y], (0, [])) := fun _ _ => rfl
    have a1 : (setS 2 (newE (compN (seqI (binE addD (varE 6) (varE 7))) (tgN 8) (yesT) (callE f_side_of (consA (varE 0) (consA (varE 8) (nilA)))) [8]))) [some (eBk b), some d, none, none, some (.str "link"), some (.int m), some X, some Y, none] (0, []) = some (.nx [some (eBk b), some d, some sd2, none, some (.str "link"), some (.int m), some X, some Y, none], (0, [])) := by
      have c : compL (tgN 8) yesT (callE f_side_of (consA (varE 0) (consA (varE 8) (nilA)))) [.str x, .str y] [some (eBk b), some d, none, none, some (.str "link"), some (.int m), some X, some Y, none] ((0, []) : G) = some ([.int 0, .int 1], (0, [])) := by
        unfold compL
        show (((f_side_of [eBk b, .str x]).bind _).bind _) = _
        rw [sx]
        unfold compL
        show ((((f_side_of [eBk b, .str y]).bind _).bind _).bind _) = _
        rw [sy] <;> rfl
      rw [s_setS, s_newE, s_compN, s1, Option.bind_some]
      show (((compL (tgN 8) yesT (callE f_side_of (consA (varE 0) (consA (varE 8) (nilA)))) [.str x, .str y] [some (eBk b), some d, none, none, some (.str "link"), some (.int m), some X, some Y, none] ((0, []) : G)).bind _).bind _) = _
      rw [c] <;> rfl
    rw [s_seqS, a1, Option.bind_some]
    show (seqS _ _ [some (eBk b), some d, some sd2, none, some (.str "link"), some (.int m), some X, some Y, none] (0, [])).bind _ = _
    have a2 : (ifS (valT (binE neD (varE 2) (binE addD (binE mulD (newE (lstN (consA (cE (.int 0)) (nilA)))) (unE lenD (varE 6))) (binE mulD (newE (lstN (consA (cE (.int 1)) (nilA)))) (unE lenD (varE 7)))))) (failS) (nextS)) [some (eBk b), some d, some sd2, none, some (.str "link"), some (.int m), some X, some Y, none] (0, []) = some (.nx [some (eBk b), some d, some sd2, none, some (.str "link"), some (.int m), some X, some Y, none], (0, [])) := rfl
    rw [s_seqS, a2, Option.bind_some]
    show (seqS _ _ [some (eBk b), some d, some sd2, none, some (.str "link"), some (.int m), some X, some Y, none] (0, [])).bind _ = _
    have a3 : (ifS (valT (unE anyD (newE (compN (seqI (binE addD (varE 6) (varE 7))) (tgN 8) (yesT) (orE (binE notND (callE f_link_of (consA (varE 0) (consA (varE 8) (nilA)))) (cE .none)) (callE f_is_alone (consA (varE 0) (consA (varE 8) (nilA))))) [8])))) (failS) (nextS)) [some (eBk b), some d, some sd2, none, some (.str "link"), some (.int m), some X, some Y, none] (0, []) = some (.nx [some (eBk b), some d, some sd2, none, some (.str "link"), some (.int m), some X, some Y, none], (0, [])) := by
      have one : ∀ z, f_link_of [eBk b, .str z] = some .none → f_is_alone [eBk b, .str z] = some (.bool false) → (orE (binE notND (callE f_link_of (consA (varE 0) (consA (varE 8) (nilA)))) (cE .none)) (callE f_is_alone (consA (varE 0) (consA (varE 8) (nilA))))) [some (eBk b), some d, some sd2, none, some (.str "link"), some (.int m), some X, some Y, some (.str z)] (0, []) = some (.bool false, (0, [])) := fun z h1 h2 => by
        rw [s_orE]
        have h3 : (binE notND (callE f_link_of (consA (varE 0) (consA (varE 8) (nilA)))) (cE .none)) [some (eBk b), some d, some sd2, none, some (.str "link"), some (.int m), some X, some Y, some (.str z)] (0, []) = some (.bool false, (0, [])) := by
          show (((f_link_of [eBk b, .str z]).bind _).bind _) = _
          rw [h1] <;> rfl
        rw [h3, Option.bind_some]
        show ((f_is_alone [eBk b, .str z]).bind _) = _
        rw [h2] <;> rfl
      have c : compL (tgN 8) yesT (orE (binE notND (callE f_link_of (consA (varE 0) (consA (varE 8) (nilA)))) (cE .none)) (callE f_is_alone (consA (varE 0) (consA (varE 8) (nilA))))) [.str x, .str y] [some (eBk b), some d, some sd2, none, some (.str "link"), some (.int m), some X, some Y, none] ((0, []) : G) = some ([.bool false, .bool false], (0, [])) := by
        unfold compL
        show ((orE _ _ [some (eBk b), some d, some sd2, none, some (.str "link"), some (.int m), some X, some Y, some (.str x)] (0, [])).bind _) = _
        rw [one x lx ix, Option.bind_some]
        unfold compL
        show ((((orE _ _ [some (eBk b), some d, some sd2, none, some (.str "link"), some (.int m), some X, some Y, some (.str y)] (0, [])).bind _)).bind _) = _
        rw [one y ly iy] <;> rfl
      have c2 : (newE (compN (seqI (binE addD (varE 6) (varE 7))) (tgN 8) (yesT) (orE (binE notND (callE f_link_of (consA (varE 0) (consA (varE 8) (nilA)))) (cE .none)) (callE f_is_alone (consA (varE 0) (consA (varE 8) (nilA))))) [8])) [some (eBk b), some d, some sd2, none, some (.str "link"), some (.int m), some X, some Y, none] (0, []) = some (.list [.bool false, .bool false], (0, [])) := by
        rw [s_newE, s_compN, s1, Option.bind_some]
        show ((compL (tgN 8) yesT _ [.str x, .str y] [some (eBk b), some d, some sd2, none, some (.str "link"), some (.int m), some X, some Y, none] ((0, []) : G)).bind _) = _
        rw [c] <;> rfl
      rw [s_ifS, s_valT, s_unE, c2] <;> rfl
    rw [s_seqS, a3, Option.bind_some]
    show (seqS _ _ [some (eBk b), some d, some sd2, none, some (.str "link"), some (.int m), some X, some Y, none] (0, [])).bind _ = _
    let nl : Lk := ⟨[x], [y], m, [], []⟩
    have so : ∀ z : Str, (sortedD (.tuple [.str z])) = some (.list [.str z]) := fun z => by
      have := sorted_strsT [z]
      rw [ssort1] at this
      exact this
    have a4 : (setS 3 (tupE (consA (unE tupleD (unE sortedD (varE 6))) (consA (unE tupleD (unE sortedD (varE 7))) (consA (varE 5) (consA (tupE (consA (tupE (nilA)) (consA (tupE (nilA)) (nilA)))) (nilA))))))) [some (eBk b), some d, some sd2, none, some (.str "link"), some (.int m), some X, some Y, none] (0, []) = some (.nx [some (eBk b), some d, some sd2, some (eLk nl), some (.str "link"), some (.int m), some X, some Y, none], (0, [])) := by
      have q6 : (unE tupleD (unE sortedD (varE 6))) [some (eBk b), some d, some sd2, none, some (.str "link"), some (.int m), some X, some Y, none] (0, []) = some (X, (0, [])) := by
        show ((((sortedD (.tuple [.str x])).bind fun z => some (z, ((0, []) : G))).bind fun y => (tupleD y.1).bind fun z => some (z, y.2))) = _
        rw [so x] <;> rfl
      have q7 : (unE tupleD (unE sortedD (varE 7))) [some (eBk b), some d, some sd2, none, some (.str "link"), some (.int m), some X, some Y, none] (0, []) = some (Y, (0, [])) := by
        show ((((sortedD (.tuple [.str y])).bind fun z => some (z, ((0, []) : G))).bind fun y => (tupleD y.1).bind fun z => some (z, y.2))) = _
        rw [so y] <;> rfl
      rw [s_setS, s_tupE, s_consA, q6, Option.bind_some, s_consA]
      show (((((unE tupleD (unE sortedD (varE 7))) [some (eBk b), some d, some sd2, none, some (.str "link"), some (.int m), some X, some Y, none] (0, [])).bind _).bind _).bind _).bind _ = _
      rw [q7] <;> rfl
    rw [s_seqS, a4, Option.bind_some]
    show (retS _ [some (eBk b), some d, some sd2, some (eLk nl), some (.str "link"), some (.int m), some X, some Y, none] (0, [])).bind _ = _
    have a5 : (callE f_links_exchanged (consA (binE idxD (varE 0) (cE (.int 2))) (consA (cE .none) (consA (varE 3) (nilA))))) [some (eBk b), some d, some sd2, some (eLk nl), some (.str "link"), some (.int m), some X, some Y, none] (0, []) = some (.tuple ((lsort (b.ls ++ [nl])).map eLk), (0, [])) := by
      show ((f_links_exchanged [.tuple (b.ls.map eLk), .none, eLk nl]).bind _) = _
      have hex' : f_links_exchanged [.tuple (b.ls.map eLk), .none, eLk nl] = _ := hex
      rw [hex'] <;> rfl
    have a6 : (tupE (consA (callE f_links_exchanged (consA (binE idxD (varE 0) (cE (.int 2))) (consA (cE .none) (consA (varE 3) (nilA))))) (consA (binE idxD (varE 0) (cE (.int 3))) (nilA)))) [some (eBk b), some d, some sd2, some (eLk nl), some (.str "link"), some (.int m), some X, some Y, none] (0, []) = some (.tuple [.tuple ((lsort (b.ls ++ [nl])).map eLk), .tuple (strsD b.al)], (0, [])) := by
      rw [s_tupE, s_consA, a5] <;> rfl
    rw [s_retS, s_binE]
    show (((((tupE _ _ _).bind _).bind _).bind _)) = _
    rw [a6] <;> rfl
  show (g_done [some (eBk b), some d, none] (0, [])).bind _ = _
  unfold g_done
  show ((h_done [eBk b, d]).bind fun z => some (Out.rt z, ((0, []) : G))).bind _ = _
  have e2 : h_done [eBk b, d] = f_link_done [eBk b, d] := h_link _ _
  rw [e2, e] <;> rfl
theorem step_ok {b : Bk} (w : WF b) (m : Int) {l : Lk} (hl : l ∈ b.ls) {x : Str} (hx : x ∈ l.a ∨ x ∈ l.b) : f_done [eBk b, .tuple [.str "step", .int m, .str x]] = some (eBk (doStep b m l)) := by
  let d : TK.D := .tuple [.str "step", .int m, .str x]
  have hlk : f_link_of [eBk b, .str x] = some (eLk l) := by
    obtain ⟨s, hs⟩ : ∃ s, x ∈ l.sd s := hx.elim (fun h => ⟨false, h⟩) fun h => ⟨true, h⟩
    rw [w.link (w.lk hl hs), w.lkOf hl hs] <;> rfl
  have how : f_own_link [eBk b, .str x] = some (eLk l) := by
    show (g_own_link [some (eBk b), some (.str x), none] (0, [])).bind _ = _
    have a1 : (setS 2 (callE f_link_of (consA (varE 0) (consA (varE 1) (nilA))))) [some (eBk b), some (.str x), none] (0, []) = some (.nx [some (eBk b), some (.str x), some (eLk l)], (0, [])) := by
      show (((f_link_of [eBk b, .str x]).bind _).bind _) = _
      rw [hlk] <;> rfl
    unfold g_own_link
    rw [s_seqS, a1] <;> rfl
  have hex := exchange_ok b.ls (some l) (stepped l m) w.sz.ls
  have hfil : (b.ls.filter fun k => !decide (some k = some l)) = b.ls.filter fun k => !decide (k = l) := by
    congr 1
    funext k
    simp
  rw [hfil] at hex
  have e : f_step_done [eBk b, d] = some (eBk (doStep b m l)) := by
    show (g_step_done [some (eBk b), some d, none] (0, [])).bind _ = _
    unfold g_step_done
    have a1 : (setS 2 (callE f_own_link (consA (varE 0) (consA (binE idxD (varE 1) (cE (.int 2))) (nilA))))) [some (eBk b), some d, none] (0, []) = some (.nx [some (eBk b), some d, some (eLk l)], (0, [])) := by
      show (((f_own_link [eBk b, .str x]).bind _).bind _) = _
      rw [how] <;> rfl
    rw [s_seqS, a1, Option.bind_some]
    show (retS _ [some (eBk b), some d, some (eLk l)] (0, [])).bind _ = _
    have a5 : (callE f_links_exchanged (consA (binE idxD (varE 0) (cE (.int 2))) (consA (varE 2) (consA (binE addD (sliceE (varE 2) (noneO) (someO (cE (.int 2)))) (tupE (consA (binE idxD (varE 1) (cE (.int 1))) (consA (tupE (consA (tupE (nilA)) (consA (tupE (nilA)) (nilA)))) (nilA))))) (nilA))))) [some (eBk b), some d, some (eLk l)] (0, []) = some (.tuple ((lsort (b.ls.filter (fun k => !decide (k = l)) ++ [stepped l m])).map eLk), (0, [])) := by
      show ((f_links_exchanged [.tuple (b.ls.map eLk), oLk (some l), eLk (stepped l m)]).bind _) = _
      rw [hex] <;> rfl
    have a6 : (tupE (consA (callE f_links_exchanged (consA (binE idxD (varE 0) (cE (.int 2))) (consA (varE 2) (consA (binE addD (sliceE (varE 2) (noneO) (someO (cE (.int 2)))) (tupE (consA (binE idxD (varE 1) (cE (.int 1))) (consA (tupE (consA (tupE (nilA)) (consA (tupE (nilA)) (nilA)))) (nilA))))) (nilA))))) (consA (binE idxD (varE 0) (cE (.int 3))) (nilA)))) [some (eBk b), some d, some (eLk l)] (0, []) = some (.tuple [.tuple ((lsort (b.ls.filter (fun k => !decide (k = l)) ++ [stepped l m])).map eLk), .tuple (strsD b.al)], (0, [])) := by
      rw [s_tupE, s_consA, a5] <;> rfl
    rw [s_retS, s_binE]
    show (((((tupE _ _ _).bind _).bind _).bind _)) = _
    rw [a6] <;> rfl
  show (g_done [some (eBk b), some d, none] (0, [])).bind _ = _
  unfold g_done
  show ((h_done [eBk b, d]).bind fun z => some (Out.rt z, ((0, []) : G))).bind _ = _
  have e2 : h_done [eBk b, d] = f_step_done [eBk b, d] := h_step _ _
  rw [e2, e] <;> rfl
end TK.M
end
section
set_option Elab.async false
set_option linter.all false
set_option maxRecDepth 100000
set_option maxHeartbeats 4000000
/-! What the deeds of hands do, hand by hand. -/
namespace TK.M
open PySem PySem.Spec PyProof.Rows L2
def nmd (b : Bk) (x : Str) : Prop := x ∈ nms b.p ∨ x ∈ nms b.q
theorem nms_app (p : List Pt) (e : Pt) : nms (p ++ [e]) = nms p ++ [e.n] := by
  unfold nms
  rw [List.map_append] <;> rfl
theorem put_perm (b : Bk) (s : Bool) (e : Pt) : (nms (doPut b s e).p ++ nms (doPut b s e).q).Perm (e.n :: (nms b.p ++ nms b.q)) := by
  cases s with
  | true =>
    show (nms b.p ++ nms (b.q ++ [e])).Perm _
    rw [nms_app, ← List.append_assoc]
    exact List.perm_append_singleton _ _
  | false =>
    show (nms (b.p ++ [e]) ++ nms b.q).Perm _
    rw [nms_app, List.append_assoc]
    exact List.perm_middle
theorem put_nmd {b : Bk} {s : Bool} {e : Pt} {x : Str} : nmd (doPut b s e) x ↔ x = e.n ∨ nmd b x := by
  unfold nmd
  rw [← List.mem_append, ← List.mem_append, (put_perm b s e).mem_iff, List.mem_cons]
theorem put_p {b : Bk} {s : Bool} {e : Pt} {x : Str} (h : x ∈ nms b.p) : x ∈ nms (doPut b s e).p := by
  cases s with
  | true => exact h
  | false => show x ∈ nms (b.p ++ [e]); rw [nms_app]; exact List.mem_append_left _ h
theorem put_q {b : Bk} {s : Bool} {e : Pt} {x : Str} (h : x ∈ nms b.q) : x ∈ nms (doPut b s e).q := by
  cases s with
  | false => exact h
  | true => show x ∈ nms (b.q ++ [e]); rw [nms_app]; exact List.mem_append_left _ h
theorem put_ls (b : Bk) (s : Bool) (e : Pt) : (doPut b s e).ls = b.ls := by cases s <;> rfl
theorem put_al (b : Bk) (s : Bool) (e : Pt) : (doPut b s e).al = b.al := by cases s <;> rfl
theorem On_put {b : Bk} {s t : Bool} {e : Pt} {x : Str} (h : On b t x) : On (doPut b s e) t x := by
  cases t with
  | true => exact put_q h
  | false => exact put_p h
theorem On_new (b : Bk) (s : Bool) (e : Pt) : On (doPut b s e) s e.n := by
  cases s with
  | true => show e.n ∈ nms (b.q ++ [e]); rw [nms_app]; simp
  | false => show e.n ∈ nms (b.p ++ [e]); rw [nms_app]; simp
theorem WF_put {b : Bk} (w : WF b) (s : Bool) {e : Pt} (h : ¬ nmd b e.n) (h3 : e.n ≠ "") (z : Sz (doPut b s e)) : WF (doPut b s e) :=
  ⟨(put_perm b s e).nodup_iff.mpr (List.nodup_cons.mpr ⟨fun m => h (List.mem_append.mp m), w.nd⟩),
   fun l hl x hx => put_p (w.la l (by rw [put_ls] at hl; exact hl) x hx),
   fun l hl x hx => put_q (w.lb l (by rw [put_ls] at hl; exact hl) x hx),
   fun l hl => w.na l (by rw [put_ls] at hl; exact hl),
   fun l hl => w.nb l (by rw [put_ls] at hl; exact hl),
   by rw [put_ls]; exact w.da,
   by rw [put_ls]; exact w.db,
   fun x hx => (w.al x (by rw [put_al] at hx; exact hx)).imp put_p put_q,
   fun l hl x hx => w.dal l (by rw [put_ls] at hl; exact hl) x (by rw [put_al] at hx; exact hx),
   fun x hx => by
    rcases List.mem_cons.mp ((put_perm b s e).mem_iff.mp hx) with rfl | hx
    · exact h3
    · exact w.ne x hx,
   z⟩
theorem WF_links {b : Bk} (w : WF b) {X : List Lk} (la : ∀ l ∈ X, ∀ x ∈ l.a, x ∈ nms b.p) (lb : ∀ l ∈ X, ∀ x ∈ l.b, x ∈ nms b.q) (na : ∀ l ∈ X, l.a ≠ []) (nb : ∀ l ∈ X, l.b ≠ [])
    (da : X.Pairwise fun l m => ∀ x ∈ l.a, x ∉ m.a) (db : X.Pairwise fun l m => ∀ x ∈ l.b, x ∉ m.b) (dal : ∀ l ∈ X, ∀ x ∈ b.al, x ∉ l.a ∧ x ∉ l.b) (z : Sz { b with ls := lsort X }) : WF { b with ls := lsort X } :=
  ⟨w.nd, fun l hl => la l (tsort_mem.mp hl), fun l hl => lb l (tsort_mem.mp hl), fun l hl => na l (tsort_mem.mp hl), fun l hl => nb l (tsort_mem.mp hl),
   ((tsort_perm eLk X).pairwise_iff (fun {l m} h x hx hx' => h x hx' hx)).mpr da,
   ((tsort_perm eLk X).pairwise_iff (fun {l m} h x hx hx' => h x hx' hx)).mpr db,
   w.al, fun l hl => dal l (tsort_mem.mp hl), w.ne, z⟩
theorem mem_link {b : Bk} {m : Int} {x y : Str} {k : Lk} : k ∈ (doLink b m x y).ls ↔ k ∈ b.ls ∨ k = ⟨[x], [y], m, [], []⟩ := by
  show k ∈ lsort (b.ls ++ [⟨[x], [y], m, [], []⟩]) ↔ _
  rw [tsort_mem, List.mem_append, List.mem_singleton]
theorem mem_step {b : Bk} {m : Int} {l k : Lk} : k ∈ (doStep b m l).ls ↔ (k ∈ b.ls ∧ k ≠ l) ∨ k = stepped l m := by
  show k ∈ lsort (b.ls.filter (fun k => !decide (k = l)) ++ [stepped l m]) ↔ _
  rw [tsort_mem, List.mem_append, List.mem_singleton, List.mem_filter]
  simp
theorem tk_put {b : Bk} {s : Bool} {e : Pt} {x : Str} : tk (doPut b s e) x ↔ tk b x := by
  unfold tk
  rw [put_ls]
theorem tk_link {b : Bk} {m : Int} {x y z : Str} : tk (doLink b m x y) z ↔ tk b z ∨ z = x ∨ z = y := by
  constructor
  · rintro ⟨l, hl, h⟩
    rcases mem_link.mp hl with hl | rfl
    · exact .inl ⟨l, hl, h⟩
    · exact .inr (h.imp List.mem_singleton.mp List.mem_singleton.mp)
  · rintro (⟨l, hl, h⟩ | h)
    · exact ⟨l, mem_link.mpr (.inl hl), h⟩
    · exact ⟨_, mem_link.mpr (.inr rfl), h.imp List.mem_singleton.mpr List.mem_singleton.mpr⟩
theorem tk_step {b : Bk} {m : Int} {l : Lk} (hl : l ∈ b.ls) {z : Str} : tk (doStep b m l) z ↔ tk b z := by
  constructor
  · rintro ⟨k, hk, h⟩
    rcases mem_step.mp hk with ⟨hk, _⟩ | rfl
    · exact ⟨k, hk, h⟩
    · exact ⟨l, hl, h⟩
  · rintro ⟨k, hk, h⟩
    by_cases e : k = l
    · subst e
      exact ⟨_, mem_step.mpr (.inr rfl), h⟩
    · exact ⟨k, mem_step.mpr (.inl ⟨hk, e⟩), h⟩
theorem WF_link {b : Bk} (w : WF b) {m : Int} {x y : Str} (hx : On b false x) (hy : On b true y) (nx : ¬ tk b x) (ny : ¬ tk b y) (ax : x ∉ b.al) (ay : y ∉ b.al) (z : Sz (doLink b m x y)) : WF (doLink b m x y) := by
  have hm : ∀ l ∈ b.ls ++ [(⟨[x], [y], m, [], []⟩ : Lk)], l ∈ b.ls ∨ l = ⟨[x], [y], m, [], []⟩ := fun l hl => (List.mem_append.mp hl).imp id List.mem_singleton.mp
  refine WF_links w (fun l hl u hu => ?_) (fun l hl u hu => ?_) (fun l hl => ?_) (fun l hl => ?_) ?_ ?_ (fun l hl u hu => ?_) z
  · rcases hm l hl with h | rfl
    · exact w.la l h u hu
    · rw [List.mem_singleton.mp hu]; exact hx
  · rcases hm l hl with h | rfl
    · exact w.lb l h u hu
    · rw [List.mem_singleton.mp hu]; exact hy
  · rcases hm l hl with h | rfl
    · exact w.na l h
    · exact List.cons_ne_nil _ _
  · rcases hm l hl with h | rfl
    · exact w.nb l h
    · exact List.cons_ne_nil _ _
  · refine List.pairwise_append.mpr ⟨w.da, List.pairwise_singleton _ _, fun k hk l hl u hu hu' => ?_⟩
    rw [List.mem_singleton.mp hl] at hu'
    rw [List.mem_singleton.mp hu'] at hu
    exact nx ⟨k, hk, .inl hu⟩
  · refine List.pairwise_append.mpr ⟨w.db, List.pairwise_singleton _ _, fun k hk l hl u hu hu' => ?_⟩
    rw [List.mem_singleton.mp hl] at hu'
    rw [List.mem_singleton.mp hu'] at hu
    exact ny ⟨k, hk, .inr hu⟩
  · rcases hm l hl with h | rfl
    · exact w.dal l h u hu
    · exact ⟨fun q => ax (List.mem_singleton.mp q ▸ hu), fun q => ay (List.mem_singleton.mp q ▸ hu)⟩
theorem WF_step {b : Bk} (w : WF b) {m : Int} {l : Lk} (hl : l ∈ b.ls) (z : Sz (doStep b m l)) : WF (doStep b m l) := by
  have hf : ∀ k ∈ b.ls.filter (fun k => !decide (k = l)), k ∈ b.ls ∧ k ≠ l := fun k hk => by
    rw [List.mem_filter] at hk
    exact ⟨hk.1, by simpa using hk.2⟩
  have hm : ∀ k ∈ b.ls.filter (fun k => !decide (k = l)) ++ [stepped l m], (k ∈ b.ls ∧ k ≠ l) ∨ k = stepped l m := fun k hk => (List.mem_append.mp hk).imp (hf k) List.mem_singleton.mp
  refine WF_links w (fun k hk u hu => ?_) (fun k hk u hu => ?_) (fun k hk => ?_) (fun k hk => ?_) ?_ ?_ (fun k hk u hu => ?_) z
  · rcases hm k hk with h | rfl
    · exact w.la k h.1 u hu
    · exact w.la l hl u hu
  · rcases hm k hk with h | rfl
    · exact w.lb k h.1 u hu
    · exact w.lb l hl u hu
  · rcases hm k hk with h | rfl
    · exact w.na k h.1
    · exact w.na l hl
  · rcases hm k hk with h | rfl
    · exact w.nb k h.1
    · exact w.nb l hl
  · refine List.pairwise_append.mpr ⟨w.da.filter _, List.pairwise_singleton _ _, fun k hk j hj u hu hu' => ?_⟩
    rw [List.mem_singleton.mp hj] at hu'
    exact w.djA k (hf k hk).1 l hl (hf k hk).2 u hu hu'
  · refine List.pairwise_append.mpr ⟨w.db.filter _, List.pairwise_singleton _ _, fun k hk j hj u hu hu' => ?_⟩
    rw [List.mem_singleton.mp hj] at hu'
    exact w.djB k (hf k hk).1 l hl (hf k hk).2 u hu hu'
  · rcases hm k hk with h | rfl
    · exact w.dal k h.1 u hu
    · exact w.dal l hl u hu
theorem Sz_put {b : Bk} (z : Sz b) (s : Bool) {e : Pt} (h : e.ms.length ≤ 100) (hp : (doPut b s e).p.length ≤ 1000) (hq : (doPut b s e).q.length ≤ 1000) : Sz (doPut b s e) :=
  ⟨hp, hq, by rw [put_ls]; exact z.ls, by rw [put_al]; exact z.al, fun x hx => by
    have : x ∈ b.p ++ b.q ∨ x = e := by
      cases s with
      | true =>
        have hx' : x ∈ b.p ++ (b.q ++ [e]) := hx
        simp only [List.mem_append, List.mem_singleton] at hx' ⊢
        rcases hx' with h | h | h
        · exact .inl (.inl h)
        · exact .inl (.inr h)
        · exact .inr h
      | false =>
        have hx' : x ∈ (b.p ++ [e]) ++ b.q := hx
        simp only [List.mem_append, List.mem_singleton] at hx' ⊢
        rcases hx' with (h | h) | h
        · exact .inl (.inl h)
        · exact .inr h
        · exact .inl (.inr h)
    rcases this with h' | rfl
    · exact z.ms x h'
    · exact h, by rw [put_ls]; exact z.la⟩
theorem Sz_link {b : Bk} (z : Sz b) {m : Int} {x y : Str} (h : b.ls.length + 1 ≤ 1000) : Sz (doLink b m x y) :=
  ⟨z.p, z.q, by show (lsort _).length ≤ _; rw [tsort_len, List.length_append]; exact h, z.al, z.ms, fun l hl => by
    rcases mem_link.mp hl with hl | rfl
    · exact z.la l hl
    · exact ⟨(by decide : 1 ≤ 100), (by decide : 1 ≤ 100), (by decide : 0 ≤ 100), (by decide : 0 ≤ 100)⟩⟩
theorem step_len (b : Bk) (m : Int) (l : Lk) : (doStep b m l).ls.length ≤ b.ls.length + 1 := by
  show (lsort _).length ≤ _
  rw [tsort_len, List.length_append]
  have := List.length_filter_le (fun k => !decide (k = l)) b.ls
  simp only [List.length_singleton]
  omega
theorem Sz_step {b : Bk} (z : Sz b) {m : Int} {l : Lk} (hl : l ∈ b.ls) (h : b.ls.length + 1 ≤ 1000) : Sz (doStep b m l) :=
  ⟨z.p, z.q, Nat.le_trans (step_len b m l) h, z.al, z.ms, fun k hk => by
    rcases mem_step.mp hk with hk | rfl
    · exact z.la k hk.1
    · have := z.la l hl
      exact ⟨this.1, this.2.1, by show ([] : List Int).length ≤ 100; decide, by show ([] : List Int).length ≤ 100; decide⟩⟩
/-! ### the invariant -/
def serv : Hd → List Str
  | .step _ => []
  | .pair x y => [x, y]
  | .make x => [x]
def served (l : List Hd) : List Str := l.flatMap serv
theorem served_snoc (l : List Hd) (h : Hd) : served (l ++ [h]) = served l ++ serv h := by
  unfold served
  rw [List.flatMap_append]
  simp
structure Inv (b : Bk) (m : Int) (don : List Hd) (ex : List Str) (c : Bk) : Prop where
  wf : WF c
  zp : c.p.length ≤ b.p.length + don.length + ex.length
  zq : c.q.length ≤ b.q.length + don.length + ex.length
  zl : c.ls.length ≤ b.ls.length + don.length
  ep : ∃ e, c.p = b.p ++ e ∧ ∀ x ∈ e, x.ms = [m]
  eq : ∃ e, c.q = b.q ++ e ∧ ∀ x ∈ e, x.ms = [m]
  al : c.al = b.al
  nw : ∀ x, nmd c x → nmd b x ∨ tk c x ∨ x ∈ ex
  tk : ∀ x, nmd b x → (tk c x ↔ tk b x ∨ x ∈ served don)
  old : ∀ l ∈ c.ls, (l ∈ b.ls ∧ ∀ x, Hd.step x ∈ don → x ∉ l.a ∧ x ∉ l.b) ∨ (l.t = m ∧ l.la = [] ∧ l.lb = [])
  kp : ∀ l ∈ b.ls, (∀ x, Hd.step x ∈ don → x ∉ l.a ∧ x ∉ l.b) → l ∈ c.ls
theorem Inv.start {b : Bk} (w : WF b) (m : Int) : Inv b m [] [] b :=
  ⟨w, by simp, by simp, by simp, ⟨[], by simp, fun x h => by cases h⟩, ⟨[], by simp, fun x h => by cases h⟩, rfl, fun x h => .inl h, fun x _ => by simp [served], fun l hl => .inl ⟨hl, fun x h => by cases h⟩, fun l hl _ => hl⟩
theorem Inv.up {b : Bk} {m : Int} {don : List Hd} {ex : List Str} {c : Bk} (i : Inv b m don ex c) {s : Bool} {x : Str} (h : On b s x) : On c s x := by
  obtain ⟨e1, h1, _⟩ := i.ep
  obtain ⟨e2, h2, _⟩ := i.eq
  cases s with
  | true =>
    show x ∈ nms c.q
    unfold nms
    rw [h2, List.map_append]
    exact List.mem_append_left _ h
  | false =>
    show x ∈ nms c.p
    unfold nms
    rw [h1, List.map_append]
    exact List.mem_append_left _ h
theorem On.nmd {b : Bk} {s : Bool} {x : Str} (h : On b s x) : nmd b x := by
  cases s with
  | true => exact .inr h
  | false => exact .inl h
theorem nmd_on {b : Bk} {x : Str} (h : nmd b x) : ∃ s, On b s x := h.elim (fun h => ⟨false, h⟩) fun h => ⟨true, h⟩
theorem WF.tk_nmd {b : Bk} (w : WF b) {x : Str} (h : tk b x) : TK.M.nmd b x := by
  obtain ⟨l, hl, h⟩ := h
  exact h.imp (w.la l hl x) (w.lb l hl x)
theorem Inv.nup {b : Bk} {m : Int} {don : List Hd} {ex : List Str} {c : Bk} (i : Inv b m don ex c) {x : Str} (h : nmd b x) : nmd c x := by
  obtain ⟨s, hs⟩ := nmd_on h
  exact (i.up hs).nmd
theorem Inv.step {b : Bk} (w : WF b) {m : Int} {don : List Hd} {c : Bk} (i : Inv b m don [] c) (hz : b.ls.length + don.length + 1 ≤ 1000) {x : Str} (hx : TK.M.tk b x) : ∃ l ∈ c.ls, (x ∈ l.a ∨ x ∈ l.b) ∧ Inv b m (don ++ [.step x]) [] (doStep c m l) := by
  obtain ⟨l, hl, hxl⟩ := (i.tk x (w.tk_nmd hx)).mpr (.inl hx)
  have zl := i.zl
  refine ⟨l, hl, hxl, WF_step i.wf hl (Sz_step i.wf.sz hl (by omega)), ?_, ?_, ?_, i.ep, i.eq, i.al, fun z hz => ?_, fun z hz => ?_, fun k hk => ?_, fun k hk hs => ?_⟩
  · have := i.zp
    simp only [List.length_append, List.length_singleton, List.length_nil] at this ⊢
    exact Nat.le_trans this (by omega)
  · have := i.zq
    simp only [List.length_append, List.length_singleton, List.length_nil] at this ⊢
    exact Nat.le_trans this (by omega)
  · have := step_len c m l
    rw [List.length_append, List.length_singleton]
    omega
  · exact (i.nw z hz).imp id fun h => h.imp (tk_step hl).mpr id
  · rw [tk_step hl, i.tk z hz, served_snoc, show serv (.step x) = [] from rfl, List.append_nil]
  · rcases mem_step.mp hk with ⟨hk, hne⟩ | rfl
    · rcases i.old k hk with ⟨h1, h2⟩ | h
      · refine .inl ⟨h1, fun y hy => ?_⟩
        rcases List.mem_append.mp hy with hy | hy
        · exact h2 y hy
        · cases List.mem_singleton.mp hy
          exact ⟨fun z => hne (i.wf.one hk hl (.inl z) hxl), fun z => hne (i.wf.one hk hl (.inr z) hxl)⟩
      · exact .inr h
    · exact .inr ⟨rfl, rfl, rfl⟩
  · refine mem_step.mpr (.inl ⟨i.kp k hk fun y hy => hs y (List.mem_append_left _ hy), fun e => ?_⟩)
    have := hs x (List.mem_append_right _ (List.mem_singleton.mpr rfl))
    subst e
    exact hxl.elim this.1 this.2
theorem Inv.put {b : Bk} {m : Int} {don : List Hd} {c : Bk} (i : Inv b m don [] c) (hz : b.p.length + b.q.length + don.length + 1 ≤ 1000) (s : Bool) {n t : Str} (hn : ¬ nmd c n) (hne : n ≠ "") : Inv b m don [n] (doPut c s ⟨n, t, [m]⟩) := by
  have zp := i.zp
  have zq := i.zq
  have hp : (doPut c s ⟨n, t, [m]⟩).p.length ≤ c.p.length + 1 := by
    cases s with
    | true => exact Nat.le_succ _
    | false => show (c.p ++ [_]).length ≤ _; rw [List.length_append, List.length_singleton]; exact Nat.le_refl _
  have hq : (doPut c s ⟨n, t, [m]⟩).q.length ≤ c.q.length + 1 := by
    cases s with
    | false => exact Nat.le_succ _
    | true => show (c.q ++ [_]).length ≤ _; rw [List.length_append, List.length_singleton]; exact Nat.le_refl _
  simp only [List.length_nil, Nat.add_zero] at zp zq
  obtain ⟨e1, h1, h1'⟩ := i.ep
  obtain ⟨e2, h2, h2'⟩ := i.eq
  refine ⟨WF_put i.wf s hn hne (Sz_put i.wf.sz s (by show ([m] : List Int).length ≤ 100; simp) (by omega) (by omega)), by simp only [List.length_singleton]; omega, by simp only [List.length_singleton]; omega, by rw [put_ls]; exact i.zl, ?_, ?_, by rw [put_al]; exact i.al, fun z hz => ?_, fun z hz => ?_, fun l hl => ?_, fun l hl hs => ?_⟩
  · cases s with
    | true => exact ⟨e1, h1, h1'⟩
    | false => exact ⟨e1 ++ [⟨n, t, [m]⟩], by show c.p ++ [_] = _; rw [h1, List.append_assoc], fun x hx => (List.mem_append.mp hx).elim (h1' x) fun z => by rw [List.mem_singleton.mp z]⟩
  · cases s with
    | false => exact ⟨e2, h2, h2'⟩
    | true => exact ⟨e2 ++ [⟨n, t, [m]⟩], by show c.q ++ [_] = _; rw [h2, List.append_assoc], fun x hx => (List.mem_append.mp hx).elim (h2' x) fun z => by rw [List.mem_singleton.mp z]⟩
  · rcases put_nmd.mp hz with rfl | hz
    · exact .inr (.inr (List.mem_singleton.mpr rfl))
    · exact (i.nw z hz).imp id fun h => .inl (h.elim tk_put.mpr fun h => by cases h)
  · rw [tk_put, i.tk z hz]
  · rw [put_ls] at hl
    exact i.old l hl
  · rw [put_ls]
    exact i.kp l hl hs
theorem Inv.link {b : Bk} {m : Int} {don : List Hd} {ex : List Str} {c : Bk} (i : Inv b m don ex c) (hz : b.ls.length + don.length + 1 ≤ 1000) {x y : Str} {h : Hd} (hx : On c false x) (hy : On c true y) (nx : ¬ TK.M.tk c x) (ny : ¬ TK.M.tk c y) (ax : x ∉ c.al) (ay : y ∉ c.al) (hex : ∀ z ∈ ex, z = x ∨ z = y) (hel : ex.length ≤ 1)
    (hns : ∀ z, h ≠ .step z) (hsv : ∀ z, nmd b z → (z ∈ serv h ↔ z = x ∨ z = y)) : Inv b m (don ++ [h]) [] (doLink c m x y) := by
  have zl := i.zl
  refine ⟨WF_link i.wf hx hy nx ny ax ay (Sz_link i.wf.sz (by omega)), ?_, ?_, ?_, i.ep, i.eq, i.al, fun z hz => ?_, fun z hz => ?_, fun k hk => ?_, fun k hk hs => ?_⟩
  · have := i.zp
    simp only [List.length_append, List.length_singleton, List.length_nil] at this ⊢
    exact Nat.le_trans this (by omega)
  · have := i.zq
    simp only [List.length_append, List.length_singleton, List.length_nil] at this ⊢
    exact Nat.le_trans this (by omega)
  · show (lsort _).length ≤ _
    rw [tsort_len, List.length_append, List.length_append, List.length_singleton, List.length_singleton]
    omega
  · rcases i.nw z hz with h1 | h1 | h1
    · exact .inl h1
    · exact .inr (.inl (tk_link.mpr (.inl h1)))
    · exact .inr (.inl (tk_link.mpr (.inr (hex z h1))))
  · rw [tk_link, i.tk z hz, served_snoc, List.mem_append, hsv z hz, or_assoc]
  · rcases mem_link.mp hk with hk | rfl
    · rcases i.old k hk with ⟨h1, h2⟩ | h'
      · refine .inl ⟨h1, fun u hu => ?_⟩
        rcases List.mem_append.mp hu with hu | hu
        · exact h2 u hu
        · exact absurd (List.mem_singleton.mp hu).symm (hns u)
      · exact .inr h'
    · exact .inr ⟨rfl, rfl, rfl⟩
  · exact mem_link.mpr (.inl (i.kp k hk fun u hu => hs u (List.mem_append_left _ hu)))
end TK.M
end
section
set_option Elab.async false
set_option linter.all false
set_option maxRecDepth 100000
set_option maxHeartbeats 4000000
/-! hand_deeds and all_done on typed books. -/
namespace TK.M
open PySem PySem.Spec PyProof.Rows L2
inductive Dd where
  | step (x : Str)
  | link (x y : Str)
  | put (s : Bool) (a n t : Str)
def eDd (m : Int) : Dd → D
  | .step x => .tuple [.str "step", .int m, .str x]
  | .link x y => .tuple [.str "link", .int m, .tuple [.str x], .tuple [.str y]]
  | .put s a n t => .tuple [.str "put", .int m, sdI s, .str a, .str n, .str t]
def Run (m : Int) : D → List Dd → D → Prop
  | b, [], c => b = c
  | b, d :: ds, c => ∃ b1, f_done [b, eDd m d] = some b1 ∧ Run m b1 ds c
theorem Run.snoc {m : Int} {d : Dd} {c e : TK.D} (h : f_done [c, eDd m d] = some e) : ∀ {ds : List Dd} {b : TK.D}, Run m b ds c → Run m b (ds ++ [d]) e
  | [], b, r => by
    cases r
    exact ⟨e, h, rfl⟩
  | d0 :: ds, b, r => by
    obtain ⟨b1, h1, h2⟩ := r
    exact ⟨b1, h1, Run.snoc h h2⟩
theorem run_for {m : Int} {t : Option TK.D} (γ : G) : ∀ {ds : List Dd} {b c : TK.D} (v : Option TK.D), Run m b ds c → ∃ v', forL (tgN 2) (setS 0 (callE f_done (consA (varE 0) (consA (varE 2) (nilA))))) (ds.map (eDd m)) [some b, t, v] γ = some (.nx [some c, t, v'], γ)
  | [], b, c, v, r => by
    cases r
    exact ⟨v, rfl⟩
  | d :: ds, b, c, v, r => by
    obtain ⟨b1, h1, h2⟩ := r
    obtain ⟨v', ih⟩ := run_for γ (t := t) (some (eDd m d)) h2
    refine ⟨v', ?_⟩
    rw [List.map_cons]
    show ((((f_done [b, eDd m d]).bind _).bind _).bind _) = _
    rw [h1]
    exact ih
theorem all_done_ok {m : Int} {b c : TK.D} {ds : List Dd} (r : Run m b ds c) : f_all_done [b, .tuple (ds.map (eDd m))] = some c := by
  obtain ⟨v', h⟩ := run_for (0, []) (t := some (.tuple (ds.map (eDd m)))) none r
  show (g_all_done [some b, some (.tuple (ds.map (eDd m))), none] (0, [])).bind _ = _
  unfold g_all_done
  rw [s_seqS, s_forS]
  show (((forL _ _ (ds.map (eDd m)) [some b, some (.tuple (ds.map (eDd m))), none] (0, [])).bind _).bind _) = _
  rw [h] <;> rfl
structure Okh (b : Bk) (told : List Hd) : Prop where
  st : ∀ x, Hd.step x ∈ told → tk b x
  pr : ∀ x y, Hd.pair x y ∈ told → On b false x ∧ On b true y ∧ ¬ tk b x ∧ ¬ tk b y ∧ x ∉ b.al ∧ y ∉ b.al
  mke : ∀ x, Hd.make x ∈ told → ∃ s, On b s x ∧ ¬ tk b x ∧ x ∉ b.al
  nd : (served told).Nodup
def isMk : Hd → Bool
  | .make _ => true
  | _ => false
def mkN (l : List Hd) : Nat := (l.filter isMk).length
theorem mkN_app (a b : List Hd) : mkN (a ++ b) = mkN a + mkN b := by
  unfold mkN
  rw [List.filter_append, List.length_append]
theorem lastN_app (p : List Pt) (e : Pt) : lastN (p ++ [e]) = e.n := by
  unfold lastN
  simp
abbrev envH (B T TX : TK.D) (m : Int) (nm tx : List Str) (lp lq : Str) (ds : List Dd) (v8 v10 v11 : Option TK.D) : Env := [some B, some T, some (.int m), some TX, some (.list (strsD nm)), some (.list [.str lp, .str lq]), some (.list (strsD tx)), some (.list (ds.map (eDd m))), v8, none, v10, v11]
structure Ih (b : Bk) (m : Int) (TX : TK.D) (tn : Nat) (B T : TK.D) (don : List Hd) (ρ : Env) (γ : G) : Prop where
  ex : ∃ ds c nm tx v8 v10 v11, ρ = envH B T TX m nm tx (lastN c.p) (lastN c.q) ds v8 v10 v11 ∧ Run m (eBk b) ds (eBk c) ∧ Inv b m don [] c ∧ (∀ x, x ∈ nm ↔ nmd c x) ∧ nm.length ≤ b.p.length + b.q.length + don.length ∧ tx.length + mkN don = tn ∧ ds.length ≤ 2 * don.length
  g : γ = (0, [])
def bodyH : GS := ifS (valT (binE eqD (binE idxD (varE 8) (cE (.int 0))) (cE (.str "step")))) (appS 7 (tupE (consA (cE (.str "step")) (consA (varE 2) (consA (binE idxD (varE 8) (cE (.int 1))) (nilA)))))) (ifS (valT (binE eqD (binE idxD (varE 8) (cE (.int 0))) (cE (.str "pair")))) (appS 7 (tupE (consA (cE (.str "link")) (consA (varE 2) (consA (tupE (consA (binE idxD (varE 8) (cE (.int 1))) (nilA))) (consA (tupE (consA (binE idxD (varE 8) (cE (.int 2))) (nilA))) (nilA))))))) (seqS (setS 10 (callE f_side_of (consA (varE 0) (consA (binE idxD (varE 8) (cE (.int 1))) (nilA))))) (seqS (setS 11 (callE f_new_name (consA (unE tupleD (varE 4)) (nilA)))) (seqS (popS 7 6 (consA (cE (.str "put")) (consA (varE 2) (consA (binE subD (cE (.int 1)) (varE 10)) (consA (binE idxD (varE 5) (binE subD (cE (.int 1)) (varE 10))) (consA (varE 11) (nilA))))))) (seqS (appS 7 (callE f_fresh_link (consA (varE 10) (consA (binE idxD (varE 8) (cE (.int 1))) (consA (varE 11) (consA (varE 2) (nilA))))))) (seqS (appS 4 (varE 11)) (stxS 5 (binE subD (cE (.int 1)) (varE 10)) (varE 11))))))))
theorem eDds (m : Int) (ds : List Dd) (d : Dd) : ds.map (eDd m) ++ [eDd m d] = (ds ++ [d]).map (eDd m) := by
  rw [List.map_append] <;> rfl
theorem body_step {b : Bk} (w : WF b) {m : Int} {TX B T : TK.D} {tn : Nat} {don : List Hd} {x : Str} (hz : b.p.length + b.q.length + don.length + 1 ≤ 58) (hlz : b.ls.length ≤ 100) (hx : tk b x) {ρ : Env} {γ : G} (h : Ih b m TX tn B T don ρ γ) :
    ∃ ρ1 ρ2 γ2, tgN 8 (eHd (.step x)) ρ = some ρ1 ∧ bodyH ρ1 γ = some (.nx ρ2, γ2) ∧ Ih b m TX tn B T (don ++ [.step x]) ρ2 γ2 := by
  obtain ⟨⟨ds, c, nm, tx, v8, v10, v11, rfl, hr, hi, hn, hnl, htx, hdl⟩, rfl⟩ := h
  obtain ⟨l, hl, hxl, hi'⟩ := hi.step w (by omega) hx
  have hd := step_ok hi.wf m hl hxl
  have hr' : Run m (eBk b) (ds ++ [.step x]) (eBk (doStep c m l)) := hr.snoc hd
  have hdl' : (ds.map (eDd m)).length < LINE := by rw [List.length_map]; exact line_pos (by omega)
  refine ⟨_, envH B T TX m nm tx (lastN c.p) (lastN c.q) (ds ++ [.step x]) (some (eHd (.step x))) v10 v11, (0, []), rfl, ?_, ⟨ds ++ [.step x], doStep c m l, nm, tx, _, _, _, rfl, hr', hi', hn, ?_, ?_, ?_⟩, rfl⟩
  · show (if (ds.map (eDd m)).length < LINE then some (Out.nx [some B, some T, some (.int m), some TX, some (.list (strsD nm)), some (.list [.str (lastN c.p), .str (lastN c.q)]), some (.list (strsD tx)), some (.list (ds.map (eDd m) ++ [eDd m (.step x)])), some (eHd (.step x)), none, v10, v11], ((0, []) : G)) else none) = _
    rw [if_pos hdl', eDds]
  · rw [List.length_append, List.length_singleton]; omega
  · rw [mkN_app]
    show tx.length + (mkN don + 0) = tn
    omega
  · rw [List.length_append, List.length_append, List.length_singleton, List.length_singleton]; omega
theorem body_pair {b : Bk} (w : WF b) {m : Int} {TX B T : TK.D} {tn : Nat} {don : List Hd} {x y : Str} (hz : b.p.length + b.q.length + don.length + 1 ≤ 58) (hlz : b.ls.length ≤ 100) (hx : On b false x) (hy : On b true y) (nx : ¬ tk b x) (ny : ¬ tk b y) (ax : x ∉ b.al) (ay : y ∉ b.al) (sx : x ∉ served don) (sy : y ∉ served don) {ρ : Env} {γ : G} (h : Ih b m TX tn B T don ρ γ) :
    ∃ ρ1 ρ2 γ2, tgN 8 (eHd (.pair x y)) ρ = some ρ1 ∧ bodyH ρ1 γ = some (.nx ρ2, γ2) ∧ Ih b m TX tn B T (don ++ [.pair x y]) ρ2 γ2 := by
  obtain ⟨⟨ds, c, nm, tx, v8, v10, v11, rfl, hr, hi, hn, hnl, htx, hdl⟩, rfl⟩ := h
  have nx' : ¬ tk c x := fun z => ((hi.tk x hx.nmd).mp z).elim nx sx
  have ny' : ¬ tk c y := fun z => ((hi.tk y hy.nmd).mp z).elim ny sy
  have ax' : x ∉ c.al := by rw [hi.al]; exact ax
  have ay' : y ∉ c.al := by rw [hi.al]; exact ay
  have hd := link_ok hi.wf m (hi.up hx) (hi.up hy) nx' ny' ax' ay'
  have hi' := hi.link (h := .pair x y) (by omega) (hi.up hx) (hi.up hy) nx' ny' ax' ay' (fun z h => by cases h) (Nat.zero_le _) (fun z e => by cases e) (fun z _ => by simp [serv])
  have hr' : Run m (eBk b) (ds ++ [.link x y]) (eBk (doLink c m x y)) := hr.snoc hd
  have hdl' : (ds.map (eDd m)).length < LINE := by rw [List.length_map]; exact line_pos (by omega)
  refine ⟨_, envH B T TX m nm tx (lastN c.p) (lastN c.q) (ds ++ [.link x y]) (some (eHd (.pair x y))) v10 v11, (0, []), rfl, ?_, ⟨ds ++ [.link x y], doLink c m x y, nm, tx, _, _, _, rfl, hr', hi', hn, ?_, ?_, ?_⟩, rfl⟩
  · show (if (ds.map (eDd m)).length < LINE then some (Out.nx [some B, some T, some (.int m), some TX, some (.list (strsD nm)), some (.list [.str (lastN c.p), .str (lastN c.q)]), some (.list (strsD tx)), some (.list (ds.map (eDd m) ++ [eDd m (.link x y)])), some (eHd (.pair x y)), none, v10, v11], ((0, []) : G)) else none) = _
    rw [if_pos hdl', eDds]
  · rw [List.length_append, List.length_singleton]; omega
  · rw [mkN_app]
    show tx.length + (mkN don + 0) = tn
    omega
  · rw [List.length_append, List.length_append, List.length_singleton, List.length_singleton]; omega
def linkOf (s : Bool) (x n : Str) : Dd := if s then .link n x else .link x n
theorem body_make {b : Bk} (w : WF b) {m : Int} {TX T : TK.D} {tn : Nat} {don : List Hd} {x : Str} {s : Bool} (hz : b.p.length + b.q.length + don.length + 1 ≤ 58) (hlz : b.ls.length ≤ 100) (hx : On b s x) (nx : ¬ tk b x) (ax : x ∉ b.al) (sx : x ∉ served don) (ht : mkN don < tn) {ρ : Env} {γ : G} (h : Ih b m TX tn (eBk b) T don ρ γ) :
    ∃ ρ1 ρ2 γ2, tgN 8 (eHd (.make x)) ρ = some ρ1 ∧ bodyH ρ1 γ = some (.nx ρ2, γ2) ∧ Ih b m TX tn (eBk b) T (don ++ [.make x]) ρ2 γ2 := by
  obtain ⟨⟨ds, c, nm, tx, v8, v10, v11, rfl, hr, hi, hn, hnl, htx, hdl⟩, rfl⟩ := h
  have hs := w.side hx
  obtain ⟨n, e2, hnn, hne⟩ := new_name_ok (l := nm) (by omega)
  have hnc : ¬ nmd c n := fun z => hnn ((hn n).mpr z)
  cases tx with
  | nil => simp only [List.length_nil] at htx; omega
  | cons t0 tx =>
  have nx' : ¬ tk c x := fun z => ((hi.tk x hx.nmd).mp z).elim nx sx
  have ax' : x ∉ c.al := by rw [hi.al]; exact ax
  have hp := put_ok hi.wf (!s) t0 m (fun z => hnc (.inl z)) (fun z => hnc (.inr z))
  have hi1 := hi.put (by omega) (!s) (t := t0) hnc hne
  let c1 := doPut c (!s) ⟨n, t0, [m]⟩
  have hx1 : On c1 s x := hi1.up hx
  have hn1 : On c1 (!s) n := On_new c (!s) ⟨n, t0, [m]⟩
  have nx1 : ¬ tk c1 x := fun z => nx' (tk_put.mp z)
  have nn1 : ¬ tk c1 n := fun z => hnc (hi.wf.tk_nmd (tk_put.mp z))
  have ax1 : x ∉ c1.al := by rw [hi1.al]; exact ax
  have an1 : n ∉ c1.al := fun z => by
    rw [hi1.al] at z
    rw [← hi.al] at z
    exact hnc (hi.wf.al n z)
  have hnb : ¬ nmd b n := fun z => hnc (hi.nup z)
  -- the link
  obtain ⟨c2, hd2, hi2, hl1, hl2, hm2⟩ : ∃ c2, f_done [eBk c1, eDd m (linkOf s x n)] = some (eBk c2) ∧ Inv b m (don ++ [.make x]) [] c2 ∧ c2.p = c1.p ∧ c2.q = c1.q ∧ True := by
    cases s with
    | false =>
      refine ⟨doLink c1 m x n, link_ok hi1.wf m hx1 hn1 nx1 nn1 ax1 an1, hi1.link (h := .make x) (by omega) hx1 hn1 nx1 nn1 ax1 an1 (fun z hz => .inr (List.mem_singleton.mp hz)) (Nat.le_refl _) (fun z e => by cases e) (fun z hz => ?_), rfl, rfl, trivial⟩
      show z ∈ [x] ↔ _
      rw [List.mem_singleton]
      exact ⟨.inl, fun h => h.elim id fun e => absurd (e ▸ hz) hnb⟩
    | true =>
      refine ⟨doLink c1 m n x, link_ok hi1.wf m hn1 hx1 nn1 nx1 an1 ax1, hi1.link (h := .make x) (by omega) hn1 hx1 nn1 nx1 an1 ax1 (fun z hz => .inl (List.mem_singleton.mp hz)) (Nat.le_refl _) (fun z e => by cases e) (fun z hz => ?_), rfl, rfl, trivial⟩
      show z ∈ [x] ↔ _
      rw [List.mem_singleton]
      exact ⟨.inr, fun h => h.elim (fun e => absurd (e ▸ hz) hnb) id⟩
  have hr' : Run m (eBk b) (ds ++ [.put (!s) (lastN (c.sd (!s))) n t0] ++ [linkOf s x n]) (eBk c2) := (hr.snoc (d := .put (!s) (lastN (c.sd (!s))) n t0) hp).snoc hd2
  let ds1 := ds ++ [.put (!s) (lastN (c.sd (!s))) n t0]
  have hdl' : (ds.map (eDd m)).length < LINE := by rw [List.length_map]; exact line_pos (by omega)
  have hdl1 : (ds1.map (eDd m)).length < LINE := by rw [List.length_map, List.length_append, List.length_singleton]; exact line_pos (by omega)
  have hnl' : (strsD nm).length < LINE := by rw [List.length_map]; exact line_pos (by omega)
  have hsub : subD (.int 1) (sdI s) = some (sdI (!s)) := by cases s <;> rfl
  have hidx : idxD (.list [.str (lastN c.p), .str (lastN c.q)]) (sdI (!s)) = some (.str (lastN (c.sd (!s)))) := by cases s <;> rfl
  have hfl : f_fresh_link [sdI s, .str x, .str n, .int m] = some (eDd m (linkOf s x n)) := by cases s <;> rfl
  let H8 : TK.D := eHd (.make x)
  refine ⟨_, envH (eBk b) T TX m (nm ++ [n]) tx (lastN c2.p) (lastN c2.q) (ds1 ++ [linkOf s x n]) (some H8) (some (sdI s)) (some (.str n)), (0, []), rfl, ?_, ⟨ds1 ++ [linkOf s x n], c2, nm ++ [n], tx, _, _, _, rfl, hr', hi2, fun z => ?_, ?_, ?_, ?_⟩, rfl⟩
  · show bodyH (envH (eBk b) T TX m nm (t0 :: tx) (lastN c.p) (lastN c.q) ds (some H8) v10 v11) (0, []) = _
    unfold bodyH
    have a0 : (valT (binE eqD (binE idxD (varE 8) (cE (.int 0))) (cE (.str "step")))) (envH (eBk b) T TX m nm (t0 :: tx) (lastN c.p) (lastN c.q) ds (some H8) v10 v11) (0, []) = some (false, (0, [])) := rfl
    have a1 : (valT (binE eqD (binE idxD (varE 8) (cE (.int 0))) (cE (.str "pair")))) (envH (eBk b) T TX m nm (t0 :: tx) (lastN c.p) (lastN c.q) ds (some H8) v10 v11) (0, []) = some (false, (0, [])) := rfl
    rw [s_ifS, a0, Option.bind_some]
    show ifS _ _ _ (envH (eBk b) T TX m nm (t0 :: tx) (lastN c.p) (lastN c.q) ds (some H8) v10 v11) (0, []) = _
    rw [s_ifS, a1, Option.bind_some]
    show seqS _ _ (envH (eBk b) T TX m nm (t0 :: tx) (lastN c.p) (lastN c.q) ds (some H8) v10 v11) (0, []) = _
    have a2 : (setS 10 (callE f_side_of (consA (varE 0) (consA (binE idxD (varE 8) (cE (.int 1))) (nilA))))) (envH (eBk b) T TX m nm (t0 :: tx) (lastN c.p) (lastN c.q) ds (some H8) v10 v11) (0, []) = some (.nx (envH (eBk b) T TX m nm (t0 :: tx) (lastN c.p) (lastN c.q) ds (some H8) (some (sdI s)) v11), (0, [])) := by
      show (((f_side_of [eBk b, .str x]).bind _).bind _) = _
      rw [hs] <;> rfl
    rw [s_seqS, a2, Option.bind_some]
    show seqS _ _ (envH (eBk b) T TX m nm (t0 :: tx) (lastN c.p) (lastN c.q) ds (some H8) (some (sdI s)) v11) (0, []) = _
    have a3 : (setS 11 (callE f_new_name (consA (unE tupleD (varE 4)) (nilA)))) (envH (eBk b) T TX m nm (t0 :: tx) (lastN c.p) (lastN c.q) ds (some H8) (some (sdI s)) v11) (0, []) = some (.nx (envH (eBk b) T TX m nm (t0 :: tx) (lastN c.p) (lastN c.q) ds (some H8) (some (sdI s)) (some (.str n))), (0, [])) := by
      show (((f_new_name [.tuple (strsD nm)]).bind _).bind _) = _
      rw [e2] <;> rfl
    rw [s_seqS, a3, Option.bind_some]
    show seqS _ _ (envH (eBk b) T TX m nm (t0 :: tx) (lastN c.p) (lastN c.q) ds (some H8) (some (sdI s)) (some (.str n))) (0, []) = _
    have hsub' : ∀ (tx' : List Str) (ds' : List Dd), (binE subD (cE (.int 1)) (varE 10)) (envH (eBk b) T TX m nm tx' (lastN c.p) (lastN c.q) ds' (some H8) (some (sdI s)) (some (.str n))) (0, []) = some (sdI (!s), (0, [])) := fun tx' ds' => by
      show ((subD (.int 1) (sdI s)).bind fun z => some (z, ((0, []) : G))) = _
      rw [hsub] <;> rfl
    have hidx' : (binE idxD (varE 5) (binE subD (cE (.int 1)) (varE 10))) (envH (eBk b) T TX m nm (t0 :: tx) (lastN c.p) (lastN c.q) ds (some H8) (some (sdI s)) (some (.str n))) (0, []) = some (.str (lastN (c.sd (!s))), (0, [])) := by
      show (((binE subD (cE (.int 1)) (varE 10)) (envH (eBk b) T TX m nm (t0 :: tx) (lastN c.p) (lastN c.q) ds (some H8) (some (sdI s)) (some (.str n))) (0, [])).bind fun y => (idxD (.list [.str (lastN c.p), .str (lastN c.q)]) y.1).bind fun z => some (z, y.2)) = _
      rw [hsub', Option.bind_some]
      show ((idxD (.list [.str (lastN c.p), .str (lastN c.q)]) (sdI (!s))).bind fun z => some (z, ((0, []) : G))) = _
      rw [hidx] <;> rfl
    have a4 : (popS 7 6 (consA (cE (.str "put")) (consA (varE 2) (consA (binE subD (cE (.int 1)) (varE 10)) (consA (binE idxD (varE 5) (binE subD (cE (.int 1)) (varE 10))) (consA (varE 11) (nilA))))))) (envH (eBk b) T TX m nm (t0 :: tx) (lastN c.p) (lastN c.q) ds (some H8) (some (sdI s)) (some (.str n))) (0, []) = some (.nx (envH (eBk b) T TX m nm tx (lastN c.p) (lastN c.q) ds1 (some H8) (some (sdI s)) (some (.str n))), (0, [])) := by
      have q : (consA (cE (.str "put")) (consA (varE 2) (consA (binE subD (cE (.int 1)) (varE 10)) (consA (binE idxD (varE 5) (binE subD (cE (.int 1)) (varE 10))) (consA (varE 11) (nilA)))))) (envH (eBk b) T TX m nm (t0 :: tx) (lastN c.p) (lastN c.q) ds (some H8) (some (sdI s)) (some (.str n))) (0, []) = some ([.str "put", .int m, sdI (!s), .str (lastN (c.sd (!s))), .str n], (0, [])) := by
        rw [s_consA, s_cE, Option.bind_some, s_consA]
        show (((consA _ _ _ _).bind _).bind _) = _
        rw [s_consA, hsub', Option.bind_some, s_consA]
        show (((((binE idxD (varE 5) (binE subD (cE (.int 1)) (varE 10))) (envH (eBk b) T TX m nm (t0 :: tx) (lastN c.p) (lastN c.q) ds (some H8) (some (sdI s)) (some (.str n))) (0, [])).bind _).bind _).bind _).bind _ = _
        rw [hidx'] <;> rfl
      unfold popS
      show (((consA _ _ _ _).bind _)) = _
      rw [q]
      show (if (ds.map (eDd m)).length < LINE ∧ 5 < LINE ∧ 6 ≠ 7 then some (Out.nx (envH (eBk b) T TX m nm tx (lastN c.p) (lastN c.q) ds (some H8) (some (sdI s)) (some (.str n)) |>.set 7 (some (.list (ds.map (eDd m) ++ [eDd m (.put (!s) (lastN (c.sd (!s))) n t0)])))), ((0, []) : G)) else none) = _
      rw [if_pos ⟨hdl', by decide, by decide⟩, eDds] <;> rfl
    rw [s_seqS, a4, Option.bind_some]
    show seqS _ _ (envH (eBk b) T TX m nm tx (lastN c.p) (lastN c.q) ds1 (some H8) (some (sdI s)) (some (.str n))) (0, []) = _
    have a5 : (appS 7 (callE f_fresh_link (consA (varE 10) (consA (binE idxD (varE 8) (cE (.int 1))) (consA (varE 11) (consA (varE 2) (nilA))))))) (envH (eBk b) T TX m nm tx (lastN c.p) (lastN c.q) ds1 (some H8) (some (sdI s)) (some (.str n))) (0, []) = some (.nx (envH (eBk b) T TX m nm tx (lastN c.p) (lastN c.q) (ds1 ++ [linkOf s x n]) (some H8) (some (sdI s)) (some (.str n))), (0, [])) := by
      show (((f_fresh_link [sdI s, .str x, .str n, .int m]).bind fun z => some (z, ((0, []) : G))).bind fun y => if (ds1.map (eDd m)).length < LINE then some (Out.nx ((envH (eBk b) T TX m nm tx (lastN c.p) (lastN c.q) ds1 (some H8) (some (sdI s)) (some (.str n))).set 7 (some (.list (ds1.map (eDd m) ++ [y.1])))), y.2) else none) = _
      rw [hfl]
      show (if (ds1.map (eDd m)).length < LINE then _ else _) = _
      rw [if_pos hdl1]
      show some (Out.nx ((envH (eBk b) T TX m nm tx (lastN c.p) (lastN c.q) ds1 (some H8) (some (sdI s)) (some (.str n))).set 7 (some (.list (ds1.map (eDd m) ++ [eDd m (linkOf s x n)])))), ((0, []) : G)) = _
      rw [eDds] <;> rfl
    rw [s_seqS, a5, Option.bind_some]
    show seqS _ _ (envH (eBk b) T TX m nm tx (lastN c.p) (lastN c.q) (ds1 ++ [linkOf s x n]) (some H8) (some (sdI s)) (some (.str n))) (0, []) = _
    have a6 : (appS 4 (varE 11)) (envH (eBk b) T TX m nm tx (lastN c.p) (lastN c.q) (ds1 ++ [linkOf s x n]) (some H8) (some (sdI s)) (some (.str n))) (0, []) = some (.nx (envH (eBk b) T TX m (nm ++ [n]) tx (lastN c.p) (lastN c.q) (ds1 ++ [linkOf s x n]) (some H8) (some (sdI s)) (some (.str n))), (0, [])) := by
      show (if (strsD nm).length < LINE then some (Out.nx ((envH (eBk b) T TX m nm tx (lastN c.p) (lastN c.q) (ds1 ++ [linkOf s x n]) (some H8) (some (sdI s)) (some (.str n))).set 4 (some (.list (strsD nm ++ [.str n])))), ((0, []) : G)) else none) = _
      rw [if_pos hnl', show strsD nm ++ [.str n] = strsD (nm ++ [n]) by unfold strsD; rw [List.map_append] <;> rfl] <;> rfl
    rw [s_seqS, a6, Option.bind_some]
    show stxS 5 _ _ (envH (eBk b) T TX m (nm ++ [n]) tx (lastN c.p) (lastN c.q) (ds1 ++ [linkOf s x n]) (some H8) (some (sdI s)) (some (.str n))) (0, []) = _
    rw [hl1, hl2]
    cases s with
    | false =>
      have z : lastN (c.q ++ [⟨n, t0, [m]⟩]) = n := lastN_app _ _
      show some (Out.nx (envH (eBk b) T TX m (nm ++ [n]) tx (lastN c.p) n (ds1 ++ [linkOf false x n]) (some H8) (some (sdI false)) (some (.str n))), ((0, []) : G)) = some (Out.nx (envH (eBk b) T TX m (nm ++ [n]) tx (lastN c.p) (lastN (c.q ++ [⟨n, t0, [m]⟩])) (ds1 ++ [linkOf false x n]) (some H8) (some (sdI false)) (some (.str n))), ((0, []) : G))
      rw [z]
    | true =>
      have z : lastN (c.p ++ [⟨n, t0, [m]⟩]) = n := lastN_app _ _
      show some (Out.nx (envH (eBk b) T TX m (nm ++ [n]) tx n (lastN c.q) (ds1 ++ [linkOf true x n]) (some H8) (some (sdI true)) (some (.str n))), ((0, []) : G)) = some (Out.nx (envH (eBk b) T TX m (nm ++ [n]) tx (lastN (c.p ++ [⟨n, t0, [m]⟩])) (lastN c.q) (ds1 ++ [linkOf true x n]) (some H8) (some (sdI true)) (some (.str n))), ((0, []) : G))
      rw [z]
  · rw [List.mem_append, List.mem_singleton, hn z]
    have e : nmd c2 z ↔ nmd c1 z := by
      unfold nmd
      rw [hl1, hl2]
    rw [e]
    have e3 : nmd c1 z ↔ z = n ∨ nmd c z := put_nmd
    rw [e3]
    exact or_comm
  · rw [List.length_append, List.length_append, List.length_singleton, List.length_singleton]; omega
  · rw [mkN_app]
    show tx.length + (mkN don + 1) = tn
    simp only [List.length_cons] at htx
    omega
  · simp only [ds1, List.length_append, List.length_singleton]; omega
theorem deeds_ok {b : Bk} (w : WF b) (m : Int) {told : List Hd} (ok : Okh b told) {tl : List Str} (ht : mkN told ≤ tl.length) (hz : b.p.length + b.q.length + told.length ≤ 58) (hlz : b.ls.length ≤ 100) :
    ∃ ds c, f_hand_deeds [eBk b, .tuple (told.map eHd), .int m, .tuple (strsD tl)] = some (.tuple (ds.map (eDd m))) ∧ Run m (eBk b) ds (eBk c) ∧ Inv b m told [] c := by
  let B : TK.D := eBk b
  let T : TK.D := .tuple (told.map eHd)
  let TX : TK.D := .tuple (strsD tl)
  have hnm : strsD (nms b.p ++ nms b.q) = (b.p ++ b.q).map fun p => .str p.n := by
    unfold strsD nms
    rw [← List.map_append, List.map_map] <;> rfl
  have c1 := compL_map' ePt (tg := tgN 9) (el := binE idxD (varE 9) (cE (.int 0))) (ρ := [some B, some T, some (.int m), some TX, none, none, none, none, none, none, none, none]) (γ := ((0, []) : G)) (fun p => .str p.n) (b.p ++ b.q) fun p _ => ⟨_, rfl, rfl⟩
  have a1 : (ownS 4 (compN (seqI (binE addD (binE idxD (varE 0) (cE (.int 0))) (binE idxD (varE 0) (cE (.int 1))))) (tgN 9) (yesT) (binE idxD (varE 9) (cE (.int 0))) [9])) [some B, some T, some (.int m), some TX, none, none, none, none, none, none, none, none] (0, []) = some (.nx [some B, some T, some (.int m), some TX, some (.list (strsD (nms b.p ++ nms b.q))), none, none, none, none, none, none, none], (0, [])) := by
    have s1 : (seqI (binE addD (binE idxD (varE 0) (cE (.int 0))) (binE idxD (varE 0) (cE (.int 1))))) [some B, some T, some (.int m), some TX, none, none, none, none, none, none, none, none] (0, []) = some ((b.p ++ b.q).map ePt, (0, [])) := by
      show ((((if (b.p.map ePt).length + (b.q.map ePt).length ≤ LINE then some (PyData.tuple (b.p.map ePt ++ b.q.map ePt)) else none).bind fun z => some (z, ((0, []) : G))).bind _)) = _
      rw [if_pos (by rw [List.length_map, List.length_map]; exact line_of (by omega)), ← List.map_append] <;> rfl
    rw [s_ownS, s_compN, s1, Option.bind_some]
    show ((if ((b.p ++ b.q).map ePt).length ≤ LINE then compL (tgN 9) yesT (binE idxD (varE 9) (cE (.int 0))) ((b.p ++ b.q).map ePt) [some B, some T, some (.int m), some TX, none, none, none, none, none, none, none, none] ((0, []) : G) else none).bind _) = _
    rw [if_pos (by rw [List.length_map, List.length_append]; exact line_of (by omega)), c1, hnm] <;> rfl
  have a2 : (ownS 5 (lstN (consA (callE f_last_of (consA (binE idxD (varE 0) (cE (.int 0))) (nilA))) (consA (callE f_last_of (consA (binE idxD (varE 0) (cE (.int 1))) (nilA))) (nilA))))) [some B, some T, some (.int m), some TX, some (.list (strsD (nms b.p ++ nms b.q))), none, none, none, none, none, none, none] (0, []) = some (.nx [some B, some T, some (.int m), some TX, some (.list (strsD (nms b.p ++ nms b.q))), some (.list [.str (lastN b.p), .str (lastN b.q)]), none, none, none, none, none, none], (0, [])) := by
    have l1 := last_ok b.p
    have l2 := last_ok b.q
    show ((((((f_last_of [.tuple (b.p.map ePt)]).bind _).bind _).bind _).bind _)) = _
    rw [l1]
    show (((((((f_last_of [.tuple (b.q.map ePt)]).bind _).bind _).bind _).bind _).bind _)) = _
    rw [l2] <;> rfl
  obtain ⟨ρ', γ', h1, ⟨ds, c, nm, tx, v8, v10, v11, h2, h3, h4, _, _, _, _⟩, h5⟩ := forL_all eHd (fun don ρ γ => Ih b m TX tl.length B T don ρ γ) (tg := tgN 8) (b := bodyH) told (envH B T TX m (nms b.p ++ nms b.q) tl (lastN b.p) (lastN b.q) [] none none none) (0, []) (fun don h rest e ρ γ q => by
    have hdl : don.length + 1 ≤ told.length := by rw [e, List.length_append, List.length_cons]; omega
    have hmem : h ∈ told := by rw [e]; simp
    have hsv : (served don ++ (serv h ++ served rest)).Nodup := by
      have := ok.nd
      rw [e] at this
      unfold served at this ⊢
      rw [List.flatMap_append, List.flatMap_cons] at this
      exact this
    have hsn : ∀ z ∈ serv h, z ∉ served don := fun z hz hz' => (List.nodup_append.mp hsv).2.2 z hz' z (List.mem_append_left _ hz) rfl
    cases h with
    | step x => exact body_step w (by omega) hlz (ok.st x hmem) q
    | pair x y =>
      obtain ⟨p1, p2, p3, p4, p5, p6⟩ := ok.pr x y hmem
      exact body_pair w (by omega) hlz p1 p2 p3 p4 p5 p6 (hsn x (by simp [serv])) (hsn y (by simp [serv])) q
    | make x =>
      obtain ⟨s, p1, p2, p3⟩ := ok.mke x hmem
      have hmk : mkN don < tl.length := by
        have : mkN told = mkN don + (mkN rest + 1) := by
          rw [e, mkN_app]
          rfl
        omega
      exact body_make w (by omega) hlz p1 p2 p3 (hsn x (by simp [serv])) hmk q) ⟨⟨[], b, _, tl, none, none, none, rfl, rfl, Inv.start w m, fun x => List.mem_append, by simp [nms], by simp [mkN], by simp⟩, rfl⟩
  subst h2 h5
  refine ⟨ds, c, ?_, h3, h4⟩
  show (g_hand_deeds [some B, some T, some (.int m), some TX, none, none, none, none, none, none, none, none] (0, [])).bind _ = _
  unfold g_hand_deeds
  rw [s_seqS, a1, Option.bind_some]
  show (seqS _ _ [some B, some T, some (.int m), some TX, some (.list (strsD (nms b.p ++ nms b.q))), none, none, none, none, none, none, none] (0, [])).bind _ = _
  rw [s_seqS, a2, Option.bind_some]
  show (seqS _ _ [some B, some T, some (.int m), some TX, some (.list (strsD (nms b.p ++ nms b.q))), some (.list [.str (lastN b.p), .str (lastN b.q)]), none, none, none, none, none, none] (0, [])).bind _ = _
  have a3 : (ownS 6 (listN (varE 3))) [some B, some T, some (.int m), some TX, some (.list (strsD (nms b.p ++ nms b.q))), some (.list [.str (lastN b.p), .str (lastN b.q)]), none, none, none, none, none, none] (0, []) = some (.nx [some B, some T, some (.int m), some TX, some (.list (strsD (nms b.p ++ nms b.q))), some (.list [.str (lastN b.p), .str (lastN b.q)]), some (.list (strsD tl)), none, none, none, none, none], (0, [])) := rfl
  have a4 : (ownS 7 (lstN (nilA))) [some B, some T, some (.int m), some TX, some (.list (strsD (nms b.p ++ nms b.q))), some (.list [.str (lastN b.p), .str (lastN b.q)]), some (.list (strsD tl)), none, none, none, none, none] (0, []) = some (.nx (envH B T TX m (nms b.p ++ nms b.q) tl (lastN b.p) (lastN b.q) [] none none none), (0, [])) := rfl
  rw [s_seqS, a3, Option.bind_some]
  show (seqS _ _ [some B, some T, some (.int m), some TX, some (.list (strsD (nms b.p ++ nms b.q))), some (.list [.str (lastN b.p), .str (lastN b.q)]), some (.list (strsD tl)), none, none, none, none, none] (0, [])).bind _ = _
  rw [s_seqS, a4, Option.bind_some]
  show (seqS _ _ (envH B T TX m (nms b.p ++ nms b.q) tl (lastN b.p) (lastN b.q) [] none none none) (0, [])).bind _ = _
  rw [s_seqS, s_forS]
  show (((forL (tgN 8) bodyH (told.map eHd) (envH B T TX m (nms b.p ++ nms b.q) tl (lastN b.p) (lastN b.q) [] none none none) (0, [])).bind _).bind _) = _
  rw [h1] <;> rfl
end TK.M
end
section
set_option Elab.async false
set_option linter.all false
set_option maxRecDepth 100000
set_option maxHeartbeats 4000000
/-! In step: by states, by the law's own reading. -/
namespace TK.M
open PySem PySem.Spec PyProof.Rows L2
def Sync (b : Bk) : Prop := (∀ x, nmd b x → x ∈ b.al ∨ tk b x) ∧ ∀ l ∈ b.ls, ∀ s, later b l s = []
theorem tk_sd {b : Bk} (w : WF b) {s : Bool} {x : Str} (h : On b s x) {l : Lk} (hl : l ∈ b.ls) (hx : x ∈ l.a ∨ x ∈ l.b) : x ∈ l.sd s := by
  cases s with
  | false => exact hx.elim id fun z => (w.cross h (w.lb l hl x z)).elim
  | true => exact hx.elim (fun z => (w.cross (w.la l hl x z) h).elim) id
theorem good_st (b : Bk) (s : Bool) (x : Str) : good (stOf b s x) = true ↔ x ∈ b.al ∨ ∃ l, lkOf b s x = some l ∧ later b l (!s) = [] := by
  unfold stOf
  by_cases ha : x ∈ b.al
  · rw [if_pos ha]
    exact ⟨fun _ => .inl ha, fun _ => rfl⟩
  · rw [if_neg ha]
    cases hk : lkOf b s x with
    | none => exact ⟨fun h => (by cases h), fun h => h.elim (fun z => absurd z ha) fun ⟨l, z, _⟩ => (by cases z)⟩
    | some l =>
      by_cases hl : later b l (!s) = []
      · simp only [if_pos hl]
        exact ⟨fun _ => .inr ⟨l, rfl, hl⟩, fun _ => rfl⟩
      · simp only [if_neg hl]
        exact ⟨fun h => (by cases h), fun h => h.elim (fun z => absurd z ha) fun ⟨k, z, e⟩ => (by cases z; exact absurd e hl)⟩
theorem in_step_iff {b : Bk} (w : WF b) : ((stsOf b false ++ stsOf b true).all fun p => good p.2) = true ↔ Sync b := by
  have h0 : ((stsOf b false ++ stsOf b true).all fun p => good p.2) = true ↔ ∀ s x, On b s x → good (stOf b s x) = true := by
    rw [List.all_append, Bool.and_eq_true, List.all_eq_true, List.all_eq_true]
    constructor
    · intro ⟨h1, h2⟩ s x hx
      obtain ⟨p, hp, rfl⟩ := List.mem_map.mp hx
      cases s with
      | false => exact h1 (p.n, _) (List.mem_map.mpr ⟨p, hp, rfl⟩)
      | true => exact h2 (p.n, _) (List.mem_map.mpr ⟨p, hp, rfl⟩)
    · intro h
      refine ⟨fun q hq => ?_, fun q hq => ?_⟩
      · obtain ⟨p, hp, rfl⟩ := List.mem_map.mp hq
        exact h false p.n (List.mem_map.mpr ⟨p, hp, rfl⟩)
      · obtain ⟨p, hp, rfl⟩ := List.mem_map.mp hq
        exact h true p.n (List.mem_map.mpr ⟨p, hp, rfl⟩)
  rw [h0]
  constructor
  · intro h
    refine ⟨fun x hx => ?_, fun l hl s => ?_⟩
    · obtain ⟨s, hs⟩ := nmd_on hx
      rcases (good_st b s x).mp (h s x hs) with h1 | ⟨l, h1, _⟩
      · exact .inl h1
      · obtain ⟨h2, h3⟩ := lkOf_mem h1
        exact .inr ⟨l, h2, sd_or h3⟩
    · have hne : l.sd (!s) ≠ [] := by
        cases s with
        | false => exact w.nb l hl
        | true => exact w.na l hl
      obtain ⟨y, hy⟩ := List.exists_mem_of_ne_nil _ hne
      rcases (good_st b (!s) y).mp (h (!s) y (w.lk hl hy)) with h1 | ⟨k, h1, h2⟩
      · have := w.dal l hl y h1
        exact absurd (sd_or hy) (fun z => z.elim this.1 this.2)
      · rw [w.lkOf hl hy] at h1
        cases h1
        rw [Bool.not_not] at h2
        exact h2
  · intro ⟨h1, h2⟩ s x hx
    refine (good_st b s x).mpr ((h1 x hx.nmd).imp id fun ⟨l, hl, hxl⟩ => ⟨l, w.lkOf hl (tk_sd w hx hl hxl), h2 l hl _⟩)
/-! ### the law's own lacking -/
def taken (b : Bk) : List Str := b.al ++ b.ls.flatMap fun l => l.a ++ l.b
def lk0 (b : Bk) (s : Bool) : List Str := ((b.sd s).filter fun p => !decide (p.n ∈ taken b)).map Pt.n
theorem mem_taken {b : Bk} {x : Str} : x ∈ taken b ↔ x ∈ b.al ∨ tk b x := by
  unfold taken tk
  simp
theorem mem_lk0 {b : Bk} {s : Bool} {x : Str} : x ∈ lk0 b s ↔ On b s x ∧ x ∉ b.al ∧ ¬ tk b x := by
  unfold lk0 On nms
  constructor
  · intro h
    obtain ⟨p, hp, rfl⟩ := List.mem_map.mp h
    rw [List.mem_filter] at hp
    have : p.n ∉ taken b := by simpa using hp.2
    exact ⟨List.mem_map.mpr ⟨p, hp.1, rfl⟩, fun z => this (mem_taken.mpr (.inl z)), fun z => this (mem_taken.mpr (.inr z))⟩
  · intro ⟨h1, h2, h3⟩
    obtain ⟨p, hp, rfl⟩ := List.mem_map.mp h1
    refine List.mem_map.mpr ⟨p, List.mem_filter.mpr ⟨hp, ?_⟩, rfl⟩
    have : p.n ∉ taken b := fun z => (mem_taken.mp z).elim h2 h3
    simpa using this
theorem mem_lack {b : Bk} (w : WF b) {s : Bool} {x : Str} : x ∈ lackOf b s ↔ On b s x ∧ x ∉ b.al ∧ ¬ tk b x := by
  unfold lackOf stsOf
  constructor
  · intro h
    obtain ⟨q, hq, rfl⟩ := List.mem_map.mp h
    rw [List.mem_filter] at hq
    obtain ⟨p, hp, rfl⟩ := List.mem_map.mp hq.1
    have hon : On b s p.n := List.mem_map.mpr ⟨p, hp, rfl⟩
    have e : stOf b s p.n = .lacking := by simpa using hq.2
    unfold stOf at e
    by_cases ha : p.n ∈ b.al
    · rw [if_pos ha] at e; cases e
    · rw [if_neg ha] at e
      refine ⟨hon, ha, fun ⟨l, hl, hx⟩ => ?_⟩
      rw [w.lkOf hl (tk_sd w hon hl hx)] at e
      simp only at e
      split at e <;> cases e
  · intro ⟨h1, h2, h3⟩
    obtain ⟨p, hp, rfl⟩ := List.mem_map.mp h1
    refine List.mem_map.mpr ⟨(p.n, stOf b s p.n), List.mem_filter.mpr ⟨List.mem_map.mpr ⟨p, hp, rfl⟩, ?_⟩, rfl⟩
    unfold stOf
    rw [if_neg h2, lk_free h3] <;> rfl
theorem lack_nd {b : Bk} (w : WF b) (s : Bool) : (lackOf b s).Nodup := by
  unfold lackOf stsOf
  rw [List.filter_map, List.map_map]
  have := side_nd w s
  unfold nms at this
  exact (List.Sublist.map _ List.filter_sublist).nodup this
structure Sm (b : Bk) : Prop where
  p : b.p.length ≤ 200
  q : b.q.length ≤ 200
  ls : b.ls.length ≤ 200
theorem Sm.sd {b : Bk} (z : Sm b) (s : Bool) : (b.sd s).length ≤ 200 := by
  cases s with
  | true => exact z.q
  | false => exact z.p
theorem flat_le {α : Type} {f : α → List Str} {n : Nat} : ∀ {l : List α}, (∀ x ∈ l, (f x).length ≤ n) → (l.flatMap f).length ≤ l.length * n
  | [], _ => by simp
  | x :: l, h => by
    rw [List.flatMap_cons, List.length_append, List.length_cons]
    have a := h x List.mem_cons_self
    have c := flat_le fun y hy => h y (List.mem_cons_of_mem x hy)
    rw [Nat.succ_mul]
    omega
theorem flat_leI {α : Type} {f : α → List Int} {n : Nat} : ∀ {l : List α}, (∀ x ∈ l, (f x).length ≤ n) → (l.flatMap f).length ≤ l.length * n
  | [], _ => by simp
  | x :: l, h => by
    rw [List.flatMap_cons, List.length_append, List.length_cons]
    have a := h x List.mem_cons_self
    have c := flat_leI fun y hy => h y (List.mem_cons_of_mem x hy)
    rw [Nat.succ_mul]
    omega
theorem line_50 {n : Nat} (h : n ≤ 60000) : n ≤ LINE := Nat.le_trans h (by decide)
theorem addL_strs (a c : List Str) (h : a.length + c.length ≤ LINE) : addD (.list (strsD a)) (.list (strsD c)) = some (.list (strsD (a ++ c))) := by
  unfold strsD
  rw [s_addL, if_pos (by rw [List.length_map, List.length_map]; exact h), List.map_append]
theorem addL_ints (a c : List Int) (h : a.length + c.length ≤ LINE) : addD (.list (intsL a)) (.list (intsL c)) = some (.list (intsL (a ++ c))) := by
  unfold intsL
  rw [s_addL, if_pos (by rw [List.length_map, List.length_map]; exact h), List.map_append]
theorem law_lacking_ok {b : Bk} (w : WF b) (z : Sm b) : f__law_lacking [eBk b] = some (.list [.list (strsD (lk0 b false)), .list (strsD (lk0 b true))]) := by
  have a1 : (setS 1 (newE (listN (binE idxD (varE 0) (cE (.int 3)))))) [some (eBk b), none, none, none, none] (0, []) = some (.nx [some (eBk b), some (.list (strsD b.al)), none, none, none], (0, [])) := rfl
  obtain ⟨ρ', γ', h1, ⟨v2, h2⟩, h3⟩ := forL_all eLk (fun don ρ γ => (∃ v2, ρ = [some (eBk b), some (.list (strsD (b.al ++ don.flatMap fun l => l.a ++ l.b))), v2, none, none]) ∧ γ = (0, [])) (tg := tgN 2)
    (b := setS 1 (binE addD (binE addD (varE 1) (newE (listN (binE idxD (varE 2) (cE (.int 0)))))) (newE (listN (binE idxD (varE 2) (cE (.int 1))))))) b.ls [some (eBk b), some (.list (strsD b.al)), none, none, none] (0, []) (fun don l rest e ρ γ q => by
      obtain ⟨⟨v2, rfl⟩, rfl⟩ := q
      have hl : l ∈ b.ls := by rw [e]; simp
      have hdl : don.length ≤ 200 := by
        have := z.ls
        rw [e, List.length_append] at this
        omega
      have hfl := flat_le (l := don) (f := fun l => l.a ++ l.b) (n := 200) fun k hk => by
        obtain ⟨q1, q2, _, _⟩ := w.sz.la k (by rw [e]; exact List.mem_append_left _ hk)
        rw [List.length_append]
        omega
      have hal := w.sz.al
      obtain ⟨q1, q2, _, _⟩ := w.sz.la l hl
      let A := b.al ++ don.flatMap fun l => l.a ++ l.b
      have hA : A.length ≤ 41000 := by
        rw [List.length_append]
        have : don.length * 200 ≤ 200 * 200 := Nat.mul_le_mul_right _ hdl
        omega
      have eA : b.al ++ (don ++ [l]).flatMap (fun l => l.a ++ l.b) = A ++ l.a ++ l.b := by
        rw [List.flatMap_append, ← List.append_assoc]
        simp [A]
      refine ⟨_, _, _, rfl, ?_, ⟨some (eLk l), rfl⟩, rfl⟩
      rw [eA]
      have x1 : addD (.list (strsD A)) (.list (strsD l.a)) = some (.list (strsD (A ++ l.a))) := addL_strs A l.a (line_50 (by omega))
      have x2 : addD (.list (strsD (A ++ l.a))) (.list (strsD l.b)) = some (.list (strsD (A ++ l.a ++ l.b))) := addL_strs (A ++ l.a) l.b (line_50 (by rw [List.length_append]; omega))
      show ((((addD (.list (strsD A)) (.list (strsD l.a))).bind fun z => some (z, ((0, []) : G))).bind fun x => ((newE (listN (binE idxD (varE 2) (cE (.int 1))))) _ x.2).bind fun y => (addD x.1 y.1).bind fun z => some (z, y.2)).bind _) = _
      rw [x1]
      show (((addD (.list (strsD (A ++ l.a))) (.list (strsD l.b))).bind fun z => some (z, ((0, []) : G))).bind _) = _
      rw [x2] <;> rfl) ⟨⟨none, by simp⟩, rfl⟩
  subst h2 h3
  let T : TK.D := .list (strsD (taken b))
  have one : ∀ s : Bool, (newE (compN (seqI (varE 3)) (tgN 4) (valT (binE notInD (binE idxD (varE 4) (cE (.int 0))) (varE 1))) (binE idxD (varE 4) (cE (.int 0))) [4])) [some (eBk b), some T, v2, some (.tuple ((b.sd s).map ePt)), none] (0, []) = some (.list (strsD (lk0 b s)), (0, [])) := fun s => by
    have c := compL_map ePt (tg := tgN 4) (t := valT (binE notInD (binE idxD (varE 4) (cE (.int 0))) (varE 1))) (el := binE idxD (varE 4) (cE (.int 0))) (ρ := [some (eBk b), some T, v2, some (.tuple ((b.sd s).map ePt)), none]) (γ := ((0, []) : G)) (fun p => !decide (p.n ∈ taken b)) (fun p => .str p.n) (b.sd s) fun p _ => ⟨_, rfl, by
      show ((notInD (.str p.n) (.list (strsD (taken b)))).bind fun z => some (z, ((0, []) : G))).bind _ = _
      rw [notInD_strsL] <;> rfl, fun _ => rfl⟩
    have e9 : strsD (lk0 b s) = ((b.sd s).filter fun p => !decide (p.n ∈ taken b)).map fun p => .str p.n := by
      unfold strsD lk0
      rw [List.map_map] <;> rfl
    rw [s_newE, s_compN]
    show ((if ((b.sd s).map ePt).length ≤ LINE then compL (tgN 4) (valT (binE notInD (binE idxD (varE 4) (cE (.int 0))) (varE 1))) (binE idxD (varE 4) (cE (.int 0))) ((b.sd s).map ePt) [some (eBk b), some T, v2, some (.tuple ((b.sd s).map ePt)), none] ((0, []) : G) else none).bind _) = _
    rw [if_pos (by rw [List.length_map]; exact line_of (by have := z.sd s; omega)), c, e9] <;> rfl
  have h0 := one false
  have h9 := one true
  have e0 : compL (tgN 3) yesT (newE (compN (seqI (varE 3)) (tgN 4) (valT (binE notInD (binE idxD (varE 4) (cE (.int 0))) (varE 1))) (binE idxD (varE 4) (cE (.int 0))) [4])) [.tuple ((b.sd false).map ePt), .tuple ((b.sd true).map ePt)] [some (eBk b), some T, v2, none, none] ((0, []) : G) = some ([.list (strsD (lk0 b false)), .list (strsD (lk0 b true))], (0, [])) := by
    unfold compL
    show ((newE _ [some (eBk b), some T, v2, some (.tuple ((b.sd false).map ePt)), none] (0, [])).bind _) = _
    rw [h0, Option.bind_some]
    unfold compL
    show (((newE _ [some (eBk b), some T, v2, some (.tuple ((b.sd true).map ePt)), none] (0, [])).bind _).bind _) = _
    rw [h9] <;> rfl
  show (g__law_lacking [some (eBk b), none, none, none, none] (0, [])).bind _ = _
  unfold g__law_lacking
  rw [s_seqS, a1, Option.bind_some]
  show (seqS _ _ [some (eBk b), some (.list (strsD b.al)), none, none, none] (0, [])).bind _ = _
  rw [s_seqS, s_forS]
  show ((forL _ _ (b.ls.map eLk) [some (eBk b), some (.list (strsD b.al)), none, none, none] (0, [])).bind _).bind _ = _
  rw [h1, Option.bind_some]
  show ((((compL (tgN 3) yesT _ [.tuple ((b.sd false).map ePt), .tuple ((b.sd true).map ePt)] [some (eBk b), some T, v2, none, none] ((0, []) : G)).bind _).bind _).bind _) = _
  rw [e0] <;> rfl
/-! ### the law's own stale -/
def lawMs (b : Bk) (l : Lk) : List Int := l.la ++ l.lb ++ (b.p ++ b.q).flatMap fun p => if p.n ∈ l.a ++ l.b then p.ms else []
theorem law_stale_ok {b : Bk} (w : WF b) (z : Sm b) {l : Lk} (hl : l ∈ b.ls) : f__law_is_stale [eBk b, eLk l] = some (.bool ((lawMs b l).any fun m => decide (l.t < m))) := by
  obtain ⟨q1, q2, q3, q4⟩ := w.sz.la l hl
  have a1 : (setS 2 (binE addD (newE (listN (binE idxD (binE idxD (varE 1) (cE (.int 3))) (cE (.int 0))))) (newE (listN (binE idxD (binE idxD (varE 1) (cE (.int 3))) (cE (.int 1))))))) [some (eBk b), some (eLk l), none, none, none, none, none] (0, []) = some (.nx [some (eBk b), some (eLk l), some (.list (intsL (l.la ++ l.lb))), none, none, none, none], (0, [])) := by
    have x1 : addD (.list (intsL l.la)) (.list (intsL l.lb)) = some (.list (intsL (l.la ++ l.lb))) := by
      unfold intsL
      rw [s_addL, if_pos (by rw [List.length_map, List.length_map]; exact line_of (by omega)), List.map_append]
    show (((addD (.list (intsL l.la)) (.list (intsL l.lb))).bind fun z => some (z, ((0, []) : G))).bind _) = _
    rw [x1] <;> rfl
  obtain ⟨ρ', γ', h1, ⟨v3, v4, v5, h2⟩, h3⟩ := forL_all ePt (fun don ρ γ => (∃ v3 v4 v5, ρ = [some (eBk b), some (eLk l), some (.list (intsL (l.la ++ l.lb ++ don.flatMap fun p => if p.n ∈ l.a ++ l.b then p.ms else []))), v3, v4, v5, none]) ∧ γ = (0, [])) (tg := tgT [3, 4, 5])
    (b := ifS (valT (binE inD (varE 3) (binE addD (binE idxD (varE 1) (cE (.int 0))) (binE idxD (varE 1) (cE (.int 1)))))) (setS 2 (binE addD (varE 2) (newE (listN (varE 5))))) (nextS)) (b.p ++ b.q) [some (eBk b), some (eLk l), some (.list (intsL (l.la ++ l.lb))), none, none, none, none] (0, []) (fun don p rest e ρ γ q => by
      obtain ⟨⟨v3, v4, v5, rfl⟩, rfl⟩ := q
      have hp : p ∈ b.p ++ b.q := by rw [e]; simp
      have hdl : don.length ≤ 400 := by
        have := congrArg List.length e
        simp only [List.length_append] at this
        have := z.p
        have := z.q
        omega
      have hfl := flat_leI (l := don) (f := fun p => if p.n ∈ l.a ++ l.b then p.ms else []) (n := 100) fun k hk => by
        have := w.sz.ms k (by rw [e]; exact List.mem_append_left _ hk)
        show (if k.n ∈ l.a ++ l.b then k.ms else []).length ≤ 100
        split
        · exact this
        · exact Nat.zero_le _
      have hpm := w.sz.ms p hp
      let A := l.la ++ l.lb ++ don.flatMap fun p => if p.n ∈ l.a ++ l.b then p.ms else []
      have hA : A.length ≤ 40200 := by
        rw [List.length_append, List.length_append]
        have : don.length * 100 ≤ 400 * 100 := Nat.mul_le_mul_right _ hdl
        omega
      have eA : l.la ++ l.lb ++ (don ++ [p]).flatMap (fun p => if p.n ∈ l.a ++ l.b then p.ms else []) = A ++ if p.n ∈ l.a ++ l.b then p.ms else [] := by
        rw [List.flatMap_append, ← List.append_assoc]
        simp [A]
      have hin : (valT (binE inD (varE 3) (binE addD (binE idxD (varE 1) (cE (.int 0))) (binE idxD (varE 1) (cE (.int 1)))))) [some (eBk b), some (eLk l), some (.list (intsL A)), some (.str p.n), some (.str p.x), some (.tuple (intsL p.ms)), none] (0, []) = some (decide (p.n ∈ l.a ++ l.b), (0, [])) := by
        have x1 : addD (.tuple (strsD l.a)) (.tuple (strsD l.b)) = some (.tuple (strsD (l.a ++ l.b))) := by
          rw [s_addT, if_pos (by rw [List.length_map, List.length_map]; exact line_of (by omega))]
          unfold strsD
          rw [List.map_append]
        show ((((addD (.tuple (strsD l.a)) (.tuple (strsD l.b))).bind fun z => some (z, ((0, []) : G))).bind fun y => (inD (.str p.n) y.1).bind fun z => some (z, y.2)).bind _) = _
        rw [x1]
        show (((inD (.str p.n) (.tuple (strsD (l.a ++ l.b)))).bind fun z => some (z, ((0, []) : G))).bind _) = _
        rw [inD_strsT] <;> rfl
      refine ⟨[some (eBk b), some (eLk l), some (.list (intsL A)), some (.str p.n), some (.str p.x), some (.tuple (intsL p.ms)), none], [some (eBk b), some (eLk l), some (.list (intsL (A ++ if p.n ∈ l.a ++ l.b then p.ms else []))), some (.str p.n), some (.str p.x), some (.tuple (intsL p.ms)), none], (0, []), rfl, ?_, ⟨_, _, _, by rw [eA]⟩, rfl⟩
      rw [s_ifS, hin, Option.bind_some]
      by_cases hm : p.n ∈ l.a ++ l.b
      · rw [if_pos hm, decide_eq_true hm]
        have x2 : addD (.list (intsL A)) (.list (intsL p.ms)) = some (.list (intsL (A ++ p.ms))) := addL_ints A p.ms (line_50 (by omega))
        show (((addD (.list (intsL A)) (.list (intsL p.ms))).bind fun z => some (z, ((0, []) : G))).bind _) = _
        rw [x2] <;> rfl
      · rw [if_neg hm, decide_eq_false hm, List.append_nil] <;> rfl) ⟨⟨none, none, none, by simp⟩, rfl⟩
  subst h2 h3
  have hfl := flat_leI (l := b.p ++ b.q) (f := fun p => if p.n ∈ l.a ++ l.b then p.ms else []) (n := 100) fun k hk => by
    have := w.sz.ms k hk
    show (if k.n ∈ l.a ++ l.b then k.ms else []).length ≤ 100
    split
    · exact this
    · exact Nat.zero_le _
  have hlm : (lawMs b l).length ≤ 40200 := by
    unfold lawMs
    rw [List.length_append, List.length_append]
    have : (b.p ++ b.q).length ≤ 400 := by
      rw [List.length_append]
      have := z.p
      have := z.q
      omega
    have : (b.p ++ b.q).length * 100 ≤ 400 * 100 := Nat.mul_le_mul_right _ this
    omega
  let E : Env := [some (eBk b), some (eLk l), some (.list (intsL (lawMs b l))), v3, v4, v5, none]
  have c := compL_map' PyData.int (tg := tgN 6) (el := binE gtD (varE 6) (binE idxD (varE 1) (cE (.int 2)))) (ρ := E) (γ := ((0, []) : G)) (fun m => .bool (decide (l.t < m))) (lawMs b l) fun m _ => ⟨_, rfl, by
    show ((gtD (.int m) (.int l.t)).bind fun z => some (z, ((0, []) : G))) = _
    rw [gtD_int] <;> rfl⟩
  have ha := any_bools (fun m => decide (l.t < m)) (lawMs b l)
  have hpq : (binE addD (binE idxD (varE 0) (cE (.int 0))) (binE idxD (varE 0) (cE (.int 1)))) [some (eBk b), some (eLk l), some (.list (intsL (l.la ++ l.lb))), none, none, none, none] (0, []) = some (.tuple ((b.p ++ b.q).map ePt), (0, [])) := by
    have x1 : addD (.tuple (b.p.map ePt)) (.tuple (b.q.map ePt)) = some (.tuple ((b.p ++ b.q).map ePt)) := by
      rw [s_addT, if_pos (by rw [List.length_map, List.length_map]; exact line_of (by have := z.p; have := z.q; omega)), List.map_append]
    show ((addD (.tuple (b.p.map ePt)) (.tuple (b.q.map ePt))).bind fun z => some (z, ((0, []) : G))) = _
    rw [x1] <;> rfl
  show (g__law_is_stale [some (eBk b), some (eLk l), none, none, none, none, none] (0, [])).bind _ = _
  unfold g__law_is_stale
  rw [s_seqS, a1, Option.bind_some]
  show (seqS _ _ [some (eBk b), some (eLk l), some (.list (intsL (l.la ++ l.lb))), none, none, none, none] (0, [])).bind _ = _
  rw [s_seqS, s_forS, s_seqI, hpq]
  show ((forL _ _ ((b.p ++ b.q).map ePt) [some (eBk b), some (eLk l), some (.list (intsL (l.la ++ l.lb))), none, none, none, none] (0, [])).bind _).bind _ = _
  rw [h1, Option.bind_some]
  show (retS (unE anyD (newE (compN (seqI (varE 2)) (tgN 6) (yesT) (binE gtD (varE 6) (binE idxD (varE 1) (cE (.int 2)))) [6]))) E (0, [])).bind _ = _
  have e9 : (newE (compN (seqI (varE 2)) (tgN 6) (yesT) (binE gtD (varE 6) (binE idxD (varE 1) (cE (.int 2)))) [6])) E (0, []) = some (.list ((lawMs b l).map fun m => .bool (decide (l.t < m))), (0, [])) := by
    rw [s_newE, s_compN]
    show ((if (intsL (lawMs b l)).length ≤ LINE then compL (tgN 6) yesT (binE gtD (varE 6) (binE idxD (varE 1) (cE (.int 2)))) (intsL (lawMs b l)) E ((0, []) : G) else none).bind _) = _
    rw [if_pos (by unfold intsL; rw [List.length_map]; exact line_50 (by omega))]
    have c' : compL (tgN 6) yesT (binE gtD (varE 6) (binE idxD (varE 1) (cE (.int 2)))) (intsL (lawMs b l)) E ((0, []) : G) = _ := c
    rw [c'] <;> rfl
  rw [s_retS, s_unE, e9, Option.bind_some, ha] <;> rfl
theorem pt_of {b : Bk} (w : WF b) {s : Bool} {p : Pt} (h : p ∈ b.sd s) : ptOf b s p.n = some p := by
  obtain ⟨q, h1, h2, h3⟩ := on_pt (b := b) (s := s) (x := p.n) (List.mem_map.mpr ⟨p, h, rfl⟩)
  rw [h1]
  congr 1
  have nd := side_nd w s
  have inj : ∀ (ps : List Pt), (nms ps).Nodup → ∀ p ∈ ps, ∀ q ∈ ps, q.n = p.n → q = p := by
    intro ps
    induction ps with
    | nil => intro _ p hp; cases hp
    | cons a t ih =>
      intro nd p hp q hq e
      have nd' : (a.n :: nms t).Nodup := nd
      rw [List.nodup_cons] at nd'
      rcases List.mem_cons.mp hp with e1 | hp2 <;> rcases List.mem_cons.mp hq with e2 | hq2
      · rw [e1, e2]
      · exact absurd (List.mem_map.mpr ⟨q, hq2, e.trans (congrArg Pt.n e1)⟩) nd'.1
      · exact absurd (List.mem_map.mpr ⟨p, hp2, e.symm.trans (congrArg Pt.n e2)⟩) nd'.1
      · exact ih nd'.2 p hp2 q hq2 e
  exact inj _ nd p h q h3 h2
theorem mem_lawMs {b : Bk} (w : WF b) {l : Lk} (hl : l ∈ b.ls) {m : Int} : m ∈ lawMs b l ↔ ∃ s, m ∈ allMs b l s := by
  unfold lawMs allMs
  constructor
  · intro h
    rcases List.mem_append.mp h with h | h
    · rcases List.mem_append.mp h with h | h
      · exact ⟨false, List.mem_append_left _ h⟩
      · exact ⟨true, List.mem_append_left _ h⟩
    · obtain ⟨p, hp, hm⟩ := List.mem_flatMap.mp h
      split at hm
      · rename_i hn
        obtain ⟨s, hs⟩ : ∃ s, p ∈ b.sd s := (List.mem_append.mp hp).elim (fun h => ⟨false, h⟩) fun h => ⟨true, h⟩
        have hon : On b s p.n := List.mem_map.mpr ⟨p, hs, rfl⟩
        refine ⟨s, List.mem_append_right _ (List.mem_flatMap.mpr ⟨p.n, tk_sd w hon hl (List.mem_append.mp hn), ?_⟩)⟩
        unfold msOf
        rw [pt_of w hs]
        exact hm
      · cases hm
  · intro ⟨s, h⟩
    rcases List.mem_append.mp h with h | h
    · refine List.mem_append_left _ ?_
      cases s with
      | false => exact List.mem_append_left _ h
      | true => exact List.mem_append_right _ h
    · obtain ⟨x, hx, hm⟩ := List.mem_flatMap.mp h
      obtain ⟨p, h1, h2, h3⟩ := on_pt (w.lk hl hx)
      unfold msOf at hm
      rw [h1] at hm
      refine List.mem_append_right _ (List.mem_flatMap.mpr ⟨p, ?_, ?_⟩)
      · cases s with
        | false => exact List.mem_append_left _ h3
        | true => exact List.mem_append_right _ h3
      · rw [if_pos (by rw [h2]; exact List.mem_append.mpr (sd_or hx))]
        exact hm
theorem later_nil {b : Bk} {l : Lk} {s : Bool} : later b l s = [] ↔ ∀ m ∈ allMs b l s, ¬ l.t < m := by
  unfold later
  rw [List.filter_eq_nil_iff]
  simp
theorem law_any {b : Bk} (w : WF b) {l : Lk} (hl : l ∈ b.ls) : ((lawMs b l).any fun m => decide (l.t < m)) = true ↔ ∃ s, later b l s ≠ [] := by
  rw [List.any_eq_true]
  constructor
  · intro ⟨m, h1, h2⟩
    obtain ⟨s, hs⟩ := (mem_lawMs w hl).mp h1
    exact ⟨s, fun z => later_nil.mp z m hs (of_decide_eq_true h2)⟩
  · intro ⟨s, hs⟩
    apply Classical.byContradiction
    intro hn
    refine hs (later_nil.mpr fun m hm hlt => hn ⟨m, (mem_lawMs w hl).mpr ⟨s, hm⟩, decide_eq_true hlt⟩)
theorem law_all_ok {b : Bk} (w : WF b) (z : Sm b) : ∃ v, f__law_all_in_step [eBk b] = some (.bool v) ∧ (v = true ↔ Sync b) := by
  have hl := law_lacking_ok w z
  let A := lk0 b false
  let C := lk0 b true
  have hA : A.length ≤ 200 := by
    show (lk0 b false).length ≤ 200
    unfold lk0
    rw [List.length_map]
    exact Nat.le_trans (List.length_filter_le _ _) z.p
  have hC : C.length ≤ 200 := by
    show (lk0 b true).length ≤ 200
    unfold lk0
    rw [List.length_map]
    exact Nat.le_trans (List.length_filter_le _ _) z.q
  let E : Env := [some (eBk b), some (.list (strsD A)), some (.list (strsD C)), none]
  have a1 : (tgtS (tgL [1, 2]) (callE f__law_lacking (consA (varE 0) (nilA)))) [some (eBk b), none, none, none] (0, []) = some (.nx E, (0, [])) := by
    show ((((f__law_lacking [eBk b]).bind _).bind _)) = _
    rw [hl] <;> rfl
  have hne : ∀ v : Str, True := fun _ => trivial
  have e1 : (binE eqD (binE addD (varE 1) (varE 2)) (newE (lstN (nilA)))) E (0, []) = some (.bool (decide (A ++ C = [])), (0, [])) := by
    have x1 : addD (.list (strsD A)) (.list (strsD C)) = some (.list (strsD (A ++ C))) := by
      rw [s_addL, if_pos (by rw [List.length_map, List.length_map]; exact line_of (by omega))]
      unfold strsD
      rw [List.map_append]
    have x2 : eqD (.list (strsD (A ++ C))) (.list []) = some (.bool (decide (A ++ C = []))) := by
      rw [eqD_of (flat_lst (flat_strs 0 _)) (flat_lst (n := 0) (ds := []) fun d h => by cases h)]
      have := eqvAll_strs (A ++ C) []
      simp only [PyData.eqv]
      rw [← this] <;> rfl
    show ((((addD (.list (strsD A)) (.list (strsD C))).bind fun z => some (z, ((0, []) : G))).bind fun x => ((newE (lstN nilA)) E x.2).bind fun y => (eqD x.1 y.1).bind fun z => some (z, y.2))) = _
    rw [x1]
    show ((eqD (.list (strsD (A ++ C))) (.list [])).bind fun z => some (z, ((0, []) : G))) = _
    rw [x2] <;> rfl
  have c := compL_map' eLk (tg := tgN 3) (el := callE f__law_is_stale (consA (varE 0) (consA (varE 3) (nilA)))) (ρ := E) (γ := ((0, []) : G)) (fun l => .bool ((lawMs b l).any fun m => decide (l.t < m))) b.ls fun l hl => ⟨_, rfl, by
    show ((f__law_is_stale [eBk b, eLk l]).bind fun z => some (z, ((0, []) : G))) = _
    rw [law_stale_ok w z hl] <;> rfl⟩
  have ha := any_bools (fun l => (lawMs b l).any fun m => decide (l.t < m)) b.ls
  have e2 : (notE (unE anyD (newE (compN (seqI (binE idxD (varE 0) (cE (.int 2)))) (tgN 3) (yesT) (callE f__law_is_stale (consA (varE 0) (consA (varE 3) (nilA)))) [3])))) E (0, []) = some (.bool (!(b.ls.any fun l => (lawMs b l).any fun m => decide (l.t < m))), (0, [])) := by
    have x1 : (newE (compN (seqI (binE idxD (varE 0) (cE (.int 2)))) (tgN 3) (yesT) (callE f__law_is_stale (consA (varE 0) (consA (varE 3) (nilA)))) [3])) E (0, []) = some (.list (b.ls.map fun l => .bool ((lawMs b l).any fun m => decide (l.t < m))), (0, [])) := by
      rw [s_newE, s_compN]
      show ((if (b.ls.map eLk).length ≤ LINE then compL (tgN 3) yesT (callE f__law_is_stale (consA (varE 0) (consA (varE 3) (nilA)))) (b.ls.map eLk) E ((0, []) : G) else none).bind _) = _
      rw [if_pos (by rw [List.length_map]; exact line_of (by have := z.ls; omega)), c] <;> rfl
    rw [s_notE, s_unE, x1, Option.bind_some, ha] <;> rfl
  refine ⟨decide (A ++ C = []) && !(b.ls.any fun l => (lawMs b l).any fun m => decide (l.t < m)), ?_, ?_⟩
  · show (g__law_all_in_step [some (eBk b), none, none, none] (0, [])).bind _ = _
    unfold g__law_all_in_step
    rw [s_seqS, a1, Option.bind_some]
    show (retS _ E (0, [])).bind _ = _
    rw [s_retS, s_andE, e1, Option.bind_some]
    cases hd : decide (A ++ C = []) with
    | false => rfl
    | true =>
      show (((notE _ E (0, [])).bind _).bind _) = _
      rw [e2] <;> rfl
  · rw [Bool.and_eq_true, decide_eq_true_eq, List.append_eq_nil_iff, Bool.not_eq_true', ← Bool.not_eq_true, List.any_eq_true]
    constructor
    · intro ⟨⟨h1, h2⟩, h3⟩
      refine ⟨fun x hx => ?_, fun l hl s => ?_⟩
      · apply Classical.byContradiction
        intro hn
        have hn1 : x ∉ b.al := fun z => hn (.inl z)
        have hn2 : ¬ tk b x := fun z => hn (.inr z)
        obtain ⟨s, hs⟩ := nmd_on hx
        have hm := mem_lk0.mpr ⟨hs, hn1, hn2⟩
        cases s with
        | false =>
          have hm' : x ∈ A := hm
          rw [h1] at hm'; cases hm'
        | true =>
          have hm' : x ∈ C := hm
          rw [h2] at hm'; cases hm'
      · apply Classical.byContradiction
        intro hn
        exact h3 ⟨l, hl, (law_any w hl).mpr ⟨s, hn⟩⟩
    · intro ⟨h1, h2⟩
      have hno : ∀ s x, x ∉ lk0 b s := fun s x hx => by
        obtain ⟨k1, k2, k3⟩ := mem_lk0.mp hx
        exact (h1 x k1.nmd).elim k2 k3
      refine ⟨⟨List.eq_nil_iff_forall_not_mem.mpr (hno false), List.eq_nil_iff_forall_not_mem.mpr (hno true)⟩, fun ⟨l, hl, hx⟩ => ?_⟩
      obtain ⟨s, hs⟩ := (law_any w hl).mp hx
      exact hs (h2 l hl s)
end TK.M
end
section
set_option Elab.async false
set_option linter.all false
set_option maxRecDepth 100000
set_option maxHeartbeats 4000000
/-! Behind the deeds of the hands: in step; with one left out: not. -/
namespace TK.M
open PySem PySem.Spec PyProof.Rows L2
theorem fm_congr {α β : Type} {f g : α → List β} : ∀ {l : List α}, (∀ x ∈ l, f x = g x) → l.flatMap f = l.flatMap g
  | [], _ => rfl
  | x :: l, h => by
    rw [List.flatMap_cons, List.flatMap_cons, h x List.mem_cons_self, fm_congr fun y hy => h y (List.mem_cons_of_mem _ hy)]
theorem Inv.ex {b : Bk} {m : Int} {don : List Hd} {ex : List Str} {c : Bk} (i : Inv b m don ex c) (s : Bool) : ∃ e, c.sd s = b.sd s ++ e ∧ ∀ x ∈ e, x.ms = [m] := by
  cases s with
  | true => exact i.eq
  | false => exact i.ep
theorem Inv.msOf {b : Bk} {m : Int} {don : List Hd} {ex : List Str} {c : Bk} (i : Inv b m don ex c) {s : Bool} {x : Str} (h : On b s x) : msOf c s x = msOf b s x := by
  obtain ⟨p, hp, _⟩ := on_pt h
  obtain ⟨e, he, _⟩ := i.ex s
  have : ptOf c s x = some p := by
    unfold ptOf at hp ⊢
    rw [he, List.find?_append, hp] <;> rfl
  unfold TK.M.msOf
  rw [this, hp]
theorem Inv.later {b : Bk} (w : WF b) {m : Int} {don : List Hd} {ex : List Str} {c : Bk} (i : Inv b m don ex c) {l : Lk} (hl : l ∈ b.ls) (s : Bool) : later c l s = later b l s := by
  unfold TK.M.later allMs
  rw [fm_congr fun x hx => i.msOf (w.lk hl hx)]
theorem Inv.later0 {b : Bk} {m : Int} (hm : ∀ s, ∀ p ∈ b.sd s, ∀ j ∈ p.ms, j ≤ m) {don : List Hd} {ex : List Str} {c : Bk} (i : Inv b m don ex c) {l : Lk} (h1 : l.t = m) (h2 : l.la = []) (h3 : l.lb = []) (s : Bool) : TK.M.later c l s = [] := by
  refine later_nil.mpr fun j hj => ?_
  unfold allMs at hj
  have hlo : l.lost s = [] := by
    cases s with
    | true => exact h3
    | false => exact h2
  rw [hlo, List.nil_append] at hj
  obtain ⟨x, hx, hj⟩ := List.mem_flatMap.mp hj
  unfold TK.M.msOf at hj
  cases hp : ptOf c s x with
  | none => rw [hp] at hj; cases hj
  | some p =>
    rw [hp] at hj
    have hpm := List.mem_of_find?_eq_some hp
    obtain ⟨e, he, he'⟩ := i.ex s
    rw [he] at hpm
    have hjm : j ≤ m := by
      rcases List.mem_append.mp hpm with h | h
      · exact hm s p h j hj
      · have hj' : j ∈ p.ms := hj
        rw [he' p h] at hj'
        rw [List.mem_singleton.mp hj']
        exact Int.le_refl _
    rw [h1]
    omega
theorem told_sync {b : Bk} (w : WF b) {m : Int} (hm : ∀ s, ∀ p ∈ b.sd s, ∀ j ∈ p.ms, j ≤ m) {told : List Hd} {c : Bk} (i : Inv b m told [] c) :
    Sync c ↔ (∀ x, nmd b x → x ∈ b.al ∨ tk b x ∨ x ∈ served told) ∧ ∀ l ∈ b.ls, (∃ s, later b l s ≠ []) → ∃ x, Hd.step x ∈ told ∧ (x ∈ l.a ∨ x ∈ l.b) := by
  constructor
  · intro ⟨h1, h2⟩
    refine ⟨fun x hx => ?_, fun l hl ⟨s, hs⟩ => ?_⟩
    · rcases h1 x (i.nup hx) with h | h
      · rw [i.al] at h
        exact .inl h
      · exact .inr ((i.tk x hx).mp h)
    · apply Classical.byContradiction
      intro hn
      have hk := i.kp l hl fun x hx => ⟨fun z => hn ⟨x, hx, .inl z⟩, fun z => hn ⟨x, hx, .inr z⟩⟩
      have := h2 l hk s
      rw [i.later w hl] at this
      exact hs this
  · intro ⟨h1, h2⟩
    refine ⟨fun x hx => ?_, fun l hl s => ?_⟩
    · rcases i.nw x hx with h | h | h
      · rcases h1 x h with k | k
        · rw [i.al]
          exact .inl k
        · exact .inr ((i.tk x h).mpr k)
      · exact .inr h
      · cases h
    · rcases i.old l hl with ⟨k1, k2⟩ | ⟨k1, k2, k3⟩
      · rw [i.later w k1]
        apply Classical.byContradiction
        intro hn
        obtain ⟨x, hx, hxl⟩ := h2 l k1 ⟨s, hn⟩
        exact hxl.elim (k2 x hx).1 (k2 x hx).2
      · exact i.later0 hm k1 k2 k3 s
/-! ### the old ones -/
theorem stale_st (b : Bk) (s : Bool) (x : Str) : isStale (stOf b s x) = true ↔ x ∉ b.al ∧ ∃ l, lkOf b s x = some l ∧ later b l (!s) ≠ [] := by
  unfold stOf
  by_cases ha : x ∈ b.al
  · rw [if_pos ha]
    exact ⟨fun h => (by cases h), fun h => absurd ha h.1⟩
  · rw [if_neg ha]
    cases hk : lkOf b s x with
    | none => exact ⟨fun h => (by cases h), fun ⟨_, l, z, _⟩ => (by cases z)⟩
    | some l =>
      by_cases hl : later b l (!s) = []
      · simp only [if_pos hl]
        exact ⟨fun h => (by cases h), fun ⟨_, k, z, e⟩ => (by cases z; exact absurd hl e)⟩
      · simp only [if_neg hl]
        exact ⟨fun _ => ⟨ha, l, rfl, hl⟩, fun _ => rfl⟩
theorem mem_oldN {b : Bk} {x : Str} : x ∈ oldN b ↔ ∃ s, On b s x ∧ isStale (stOf b s x) = true := by
  unfold oldN
  constructor
  · intro h
    obtain ⟨p, hp, rfl⟩ := List.mem_map.mp h
    rw [tsort_mem] at hp
    unfold staleN at hp
    obtain ⟨q, hq, rfl⟩ := List.mem_map.mp hp
    rw [List.mem_filter] at hq
    rcases List.mem_append.mp hq.1 with h1 | h1
    · obtain ⟨r, hr, e⟩ := List.mem_map.mp h1
      refine ⟨false, ?_, ?_⟩
      · rw [← e]
        exact List.mem_map.mpr ⟨r, hr, rfl⟩
      · have := hq.2
        rw [← e] at this ⊢
        exact this
    · obtain ⟨r, hr, e⟩ := List.mem_map.mp h1
      refine ⟨true, ?_, ?_⟩
      · rw [← e]
        exact List.mem_map.mpr ⟨r, hr, rfl⟩
      · have := hq.2
        rw [← e] at this ⊢
        exact this
  · intro ⟨s, h1, h2⟩
    obtain ⟨r, hr, rfl⟩ := List.mem_map.mp h1
    refine List.mem_map.mpr ⟨(r.n, stV (stOf b s r.n)), tsort_mem.mpr (List.mem_map.mpr ⟨(r.n, stOf b s r.n), List.mem_filter.mpr ⟨?_, h2⟩, rfl⟩), rfl⟩
    have : (r.n, stOf b s r.n) ∈ stsOf b s := List.mem_map.mpr ⟨r, hr, rfl⟩
    cases s with
    | false => exact List.mem_append_left _ this
    | true => exact List.mem_append_right _ this
theorem isOld_iff {b : Bk} (w : WF b) {l : Lk} (hl : l ∈ b.ls) : isOld b l = true ↔ ∃ s, later b l s ≠ [] := by
  unfold isOld
  rw [List.any_eq_true]
  constructor
  · intro ⟨x, hx, h⟩
    obtain ⟨s, h1, h2⟩ := mem_oldN.mp (of_decide_eq_true h)
    obtain ⟨_, k, h3, h4⟩ := (stale_st b s x).mp h2
    obtain ⟨h5, h6⟩ := lkOf_mem h3
    have : k = l := w.one h5 hl (sd_or h6) (List.mem_append.mp hx)
    subst this
    exact ⟨!s, h4⟩
  · intro ⟨s, hs⟩
    have hne : l.sd (!s) ≠ [] := by
      cases s with
      | false => exact w.nb l hl
      | true => exact w.na l hl
    obtain ⟨y, hy⟩ := List.exists_mem_of_ne_nil _ hne
    refine ⟨y, List.mem_append.mpr (sd_or hy), decide_eq_true (mem_oldN.mpr ⟨!s, w.lk hl hy, (stale_st b (!s) y).mpr ⟨fun z => ?_, l, w.lkOf hl hy, by rw [Bool.not_not]; exact hs⟩⟩)⟩
    have := w.dal l hl y z
    exact (sd_or hy).elim this.1 this.2
theorem mem_stepL {b : Bk} {x : Str} : x ∈ stepL b ↔ ∃ l ∈ b.ls, isOld b l = true ∧ minN l = x := by
  unfold stepL
  rw [tsort_mem, List.mem_map]
  constructor
  · intro ⟨l, h1, h2⟩
    rw [List.mem_filter] at h1
    exact ⟨l, h1.1, h1.2, h2⟩
  · intro ⟨l, h1, h2, h3⟩
    exact ⟨l, List.mem_filter.mpr ⟨h1, h2⟩, h3⟩
theorem minN_in {b : Bk} (w : WF b) {l : Lk} (hl : l ∈ b.ls) : minN l ∈ l.a ∨ minN l ∈ l.b := List.mem_append.mp (w.minN hl).2
theorem ls_nd {b : Bk} (w : WF b) : b.ls.Nodup := by
  have h : ∀ {ls : List Lk}, (∀ l ∈ ls, l.a ≠ []) → (ls.Pairwise fun l m => ∀ x ∈ l.a, x ∉ m.a) → ls.Nodup := by
    intro ls
    induction ls with
    | nil => intro _ _; exact List.nodup_nil
    | cons a t ih =>
      intro h1 h2
      rw [List.pairwise_cons] at h2
      rw [List.nodup_cons]
      refine ⟨fun hm => ?_, ih (fun l hl => h1 l (List.mem_cons_of_mem _ hl)) h2.2⟩
      obtain ⟨x, hx⟩ := List.exists_mem_of_ne_nil _ (h1 a List.mem_cons_self)
      exact h2.1 a hm x hx hx
  exact h w.na w.da
theorem stepL_nd {b : Bk} (w : WF b) : (stepL b).Nodup := by
  unfold stepL
  rw [(tsort_perm PyData.str _).nodup_iff]
  refine map_nodup ((ls_nd w).filter _) fun l hl m hm e => ?_
  have h1 := (List.mem_filter.mp hl).1
  have h2 := (List.mem_filter.mp hm).1
  refine w.one h1 h2 (minN_in w h1) ?_
  rw [e]
  exact minN_in w h2
theorem stepL_len (b : Bk) : (stepL b).length ≤ b.ls.length := by
  unfold stepL
  rw [tsort_len, List.length_map]
  exact List.length_filter_le _ _
/-! ### the hands told -/
theorem mem_step_told {st L R : List Str} {ms : Mt} {x : Str} : Hd.step x ∈ toldN st L R ms ↔ x ∈ st := by
  unfold toldN
  rw [List.mem_append, List.mem_append, List.mem_map, List.mem_map, List.mem_map]
  constructor
  · rintro ((⟨y, h, e⟩ | ⟨y, h, e⟩) | ⟨y, h, e⟩)
    · cases e; exact h
    · cases e
    · cases e
  · exact fun h => .inl (.inl ⟨x, h, rfl⟩)
theorem mem_pairsN {ms : Mt} {x y : Str} : (x, y) ∈ pairsN ms ↔ (y, x) ∈ ms := by
  unfold pairsN
  rw [tsort_mem, List.mem_map]
  constructor
  · rintro ⟨⟨u, v⟩, h, e⟩
    cases e; exact h
  · exact fun h => ⟨(y, x), h, rfl⟩
theorem mem_pair_told {st L R : List Str} {ms : Mt} {x y : Str} : Hd.pair x y ∈ toldN st L R ms ↔ (y, x) ∈ ms := by
  unfold toldN
  rw [List.mem_append, List.mem_append, List.mem_map, List.mem_map, List.mem_map]
  constructor
  · rintro ((⟨z, h, e⟩ | ⟨⟨u, v⟩, h, e⟩) | ⟨z, h, e⟩)
    · cases e
    · cases e; exact mem_pairsN.mp h
    · cases e
  · exact fun h => .inl (.inr ⟨(x, y), mem_pairsN.mpr h, rfl⟩)
theorem mem_make_told {st L R : List Str} {ms : Mt} {x : Str} : Hd.make x ∈ toldN st L R ms ↔ x ∈ singleN L R ms := by
  unfold toldN
  rw [List.mem_append, List.mem_append, List.mem_map, List.mem_map, List.mem_map]
  constructor
  · rintro ((⟨y, h, e⟩ | ⟨y, h, e⟩) | ⟨y, h, e⟩)
    · cases e
    · cases e
    · cases e; exact tsort_mem.mp h
  · exact fun h => .inr ⟨x, tsort_mem.mpr h, rfl⟩
theorem flat_swap : ∀ P : List (Str × Str), (P.flatMap fun p => [p.1, p.2]).Perm (P.map (·.1) ++ P.map (·.2))
  | [] => .refl _
  | p :: P => by
    rw [List.flatMap_cons, List.map_cons, List.map_cons]
    exact .cons p.1 ((List.Perm.cons p.2 (flat_swap P)).trans List.perm_middle.symm)
theorem served_steps : ∀ st : List Str, served (st.map .step) = []
  | [] => rfl
  | _ :: st => served_steps st
theorem served_pairs : ∀ P : List (Str × Str), served (P.map fun p => .pair p.1 p.2) = P.flatMap fun p => [p.1, p.2]
  | [] => rfl
  | p :: P => by
    show [p.1, p.2] ++ served (P.map fun p => .pair p.1 p.2) = _
    rw [served_pairs P] <;> rfl
theorem served_makes : ∀ S : List Str, served (S.map .make) = S
  | [] => rfl
  | x :: S => by
    show [x] ++ served (S.map .make) = _
    rw [served_makes S] <;> rfl
theorem served_app (a b : List Hd) : served (a ++ b) = served a ++ served b := List.flatMap_append
theorem served_told (st L R : List Str) (ms : Mt) : (served (toldN st L R ms)).Perm ((ms.map (·.2) ++ ms.map (·.1)) ++ singleN L R ms) := by
  unfold toldN
  rw [served_app, served_app, served_steps, served_pairs, served_makes, List.nil_append]
  refine .append ((flat_swap _).trans (.append ?_ ?_)) (tsort_perm _ _)
  · have := (tsort_perm pairD (ms.map fun p => (p.2, p.1))).map (·.1)
    rw [List.map_map] at this
    exact this
  · have := (tsort_perm pairD (ms.map fun p => (p.2, p.1))).map (·.2)
    rw [List.map_map] at this
    exact this
variable {W : Wy} {L R : List Str}
theorem Gw.vL (h : Gw W L R L ms) : ∀ x ∈ ms.map (·.2), x ∈ L := h.sub
theorem mem_served (st : List Str) {ms : Mt} {x : Str} : x ∈ served (toldN st L R ms) ↔ (x ∈ ms.map (·.2) ∨ x ∈ ms.map (·.1)) ∨ (x ∈ L ∧ x ∉ ms.map (·.2)) ∨ (x ∈ R ∧ x ∉ ms.map (·.1)) := by
  rw [(served_told st L R ms).mem_iff, List.mem_append, List.mem_append]
  unfold singleN unm
  rw [List.mem_append, List.mem_filter, List.mem_filter]
  simp only [Bool.not_eq_true', decide_eq_false_iff_not]
theorem served_nd (st : List Str) (g : Gr W L R) {ms : Mt} (h : Gw W L R L ms) (dj : ∀ x ∈ L, x ∉ R) : (served (toldN st L R ms)).Nodup := by
  rw [(served_told st L R ms).nodup_iff]
  have hK := h.kok.inR g
  have hV := h.sub
  have hU : ∀ x ∈ unm L ms, x ∈ L ∧ x ∉ ms.map (·.2) := fun x hx => by
    unfold unm at hx
    rw [List.mem_filter] at hx
    exact ⟨hx.1, by simpa using hx.2⟩
  have hF : ∀ x ∈ R.filter (fun r => !decide (r ∈ ms.map (·.1))), x ∈ R ∧ x ∉ ms.map (·.1) := fun x hx => by
    rw [List.mem_filter] at hx
    exact ⟨hx.1, by simpa using hx.2⟩
  unfold singleN
  refine List.nodup_append.mpr ⟨List.nodup_append.mpr ⟨h.nv, h.kok.nd, fun a ha c hc e => ?_⟩, List.nodup_append.mpr ⟨g.nL.filter _, g.nR.filter _, fun a ha c hc e => ?_⟩, fun a ha c hc e => ?_⟩
  · subst e
    exact dj a (hV a ha) (hK a hc)
  · subst e
    exact dj a (hU a ha).1 (hF a hc).1
  · subst e
    rcases List.mem_append.mp ha with ha | ha <;> rcases List.mem_append.mp hc with hc | hc
    · exact (hU a hc).2 ha
    · exact dj a (hV a ha) (hF a hc).1
    · exact dj a (hU a hc).1 (hK a ha)
    · exact (hF a hc).2 ha
structure Tg (b : Bk) (W : Wy) (L R : List Str) (ms : Mt) : Prop where
  w : WF b
  hL : lackOf b false = L
  hR : lackOf b true = R
  g : Gr W L R
  h : Gw W L R L ms
variable {b : Bk} {ms : Mt}
theorem Tg.inL (t : Tg b W L R ms) {x : Str} : x ∈ L ↔ On b false x ∧ x ∉ b.al ∧ ¬ tk b x := by
  rw [← t.hL]
  exact mem_lack t.w
theorem Tg.inR (t : Tg b W L R ms) {x : Str} : x ∈ R ↔ On b true x ∧ x ∉ b.al ∧ ¬ tk b x := by
  rw [← t.hR]
  exact mem_lack t.w
theorem Tg.dj (t : Tg b W L R ms) : ∀ x ∈ L, x ∉ R := fun x h1 h2 => t.w.cross (t.inL.mp h1).1 (t.inR.mp h2).1
theorem Tg.ok (t : Tg b W L R ms) : Okh b (toldN (stepL b) L R ms) := by
  refine ⟨fun x hx => ?_, fun x y hx => ?_, fun x hx => ?_, served_nd _ t.g t.h t.dj⟩
  · obtain ⟨l, h1, h2, h3⟩ := mem_stepL.mp (mem_step_told.mp hx)
    refine ⟨l, h1, ?_⟩
    rw [← h3]
    exact minN_in t.w h1
  · have hm := mem_pair_told.mp hx
    have h1 : x ∈ L := t.h.sub x (List.mem_map.mpr ⟨(y, x), hm, rfl⟩)
    have h2 : y ∈ R := t.h.kok.inR t.g y (List.mem_map.mpr ⟨(y, x), hm, rfl⟩)
    obtain ⟨a1, a2, a3⟩ := t.inL.mp h1
    obtain ⟨c1, c2, c3⟩ := t.inR.mp h2
    exact ⟨a1, c1, a3, c3, a2, c2⟩
  · have hm := mem_make_told.mp hx
    unfold singleN unm at hm
    rcases List.mem_append.mp hm with h | h
    · obtain ⟨a1, a2, a3⟩ := t.inL.mp (List.mem_filter.mp h).1
      exact ⟨false, a1, a3, a2⟩
    · obtain ⟨a1, a2, a3⟩ := t.inR.mp (List.mem_filter.mp h).1
      exact ⟨true, a1, a3, a2⟩
theorem Tg.sync (t : Tg b W L R ms) {m : Int} (hm : ∀ s, ∀ p ∈ b.sd s, ∀ j ∈ p.ms, j ≤ m) {c : Bk} (i : Inv b m (toldN (stepL b) L R ms) [] c) : Sync c := by
  refine (told_sync t.w hm i).mpr ⟨fun x hx => ?_, fun l hl hs => ?_⟩
  · by_cases h1 : x ∈ b.al
    · exact .inl h1
    by_cases h2 : tk b x
    · exact .inr (.inl h2)
    refine .inr (.inr ((mem_served _).mpr ?_))
    obtain ⟨s, hs⟩ := nmd_on hx
    cases s with
    | false =>
      have hL := t.inL.mpr ⟨hs, h1, h2⟩
      by_cases hv : x ∈ ms.map (·.2)
      · exact .inl (.inl hv)
      · exact .inr (.inl ⟨hL, hv⟩)
    | true =>
      have hR := t.inR.mpr ⟨hs, h1, h2⟩
      by_cases hv : x ∈ ms.map (·.1)
      · exact .inl (.inr hv)
      · exact .inr (.inr ⟨hR, hv⟩)
  · exact ⟨minN l, mem_step_told.mpr (mem_stepL.mpr ⟨l, hl, (isOld_iff t.w hl).mpr hs, rfl⟩), minN_in t.w hl⟩
def stepsOf (l : List Hd) : List Str := l.flatMap fun
  | .step x => [x]
  | _ => []
theorem mem_stepsOf {l : List Hd} {x : Str} : x ∈ stepsOf l ↔ Hd.step x ∈ l := by
  unfold stepsOf
  rw [List.mem_flatMap]
  constructor
  · rintro ⟨h, hh, hx⟩
    cases h with
    | step y => rw [List.mem_singleton.mp hx]; exact hh
    | pair _ _ => cases hx
    | make _ => cases hx
  · exact fun h => ⟨_, h, List.mem_singleton.mpr rfl⟩
theorem stepsOf_told (st L R : List Str) (ms : Mt) : stepsOf (toldN st L R ms) = st := by
  have h1 : ∀ st : List Str, stepsOf (st.map .step) = st := by
    intro st
    induction st with
    | nil => rfl
    | cons x st ih => show [x] ++ stepsOf (st.map .step) = _; rw [ih] <;> rfl
  have h2 : ∀ P : List (Str × Str), stepsOf (P.map fun p => .pair p.1 p.2) = [] := by
    intro P
    induction P with
    | nil => rfl
    | cons x P ih => exact ih
  have h3 : ∀ S : List Str, stepsOf (S.map .make) = [] := by
    intro S
    induction S with
    | nil => rfl
    | cons x P ih => exact ih
  have app : ∀ a b, stepsOf (a ++ b) = stepsOf a ++ stepsOf b := fun a b => List.flatMap_append
  unfold toldN
  rw [app, app, h1, h2, h3, List.append_nil, List.append_nil]
theorem Okh.drop {pre post : List Hd} {h : Hd} (o : Okh b (pre ++ h :: post)) : Okh b (pre ++ post) := by
  have hs : ∀ k ∈ pre ++ post, k ∈ pre ++ h :: post := fun k hk => by
    rcases List.mem_append.mp hk with hk | hk
    · exact List.mem_append_left _ hk
    · exact List.mem_append_right _ (List.mem_cons_of_mem _ hk)
  refine ⟨fun x hx => o.st x (hs _ hx), fun x y hx => o.pr x y (hs _ hx), fun x hx => o.mke x (hs _ hx), ?_⟩
  have := o.nd
  rw [served_app] at this ⊢
  have e : served (h :: post) = serv h ++ served post := List.flatMap_cons
  rw [e] at this
  exact (List.Sublist.append_left (List.sublist_append_right _ _) _).nodup this
theorem Tg.notSync (t : Tg b W L R ms) {m : Int} (hm : ∀ s, ∀ p ∈ b.sd s, ∀ j ∈ p.ms, j ≤ m) {pre post : List Hd} {h : Hd} (e : toldN (stepL b) L R ms = pre ++ h :: post) {c : Bk} (i : Inv b m (pre ++ post) [] c) : ¬ Sync c := by
  intro sy
  obtain ⟨s1, s2⟩ := (told_sync t.w hm i).mp sy
  have ok := t.ok
  rw [e] at ok
  have hmem : h ∈ toldN (stepL b) L R ms := by rw [e]; simp
  have hsv : ∀ x ∈ serv h, x ∉ served (pre ++ post) := fun x hx hx' => by
    have := ok.nd
    rw [served_app] at this hx'
    have e2 : served (h :: post) = serv h ++ served post := List.flatMap_cons
    rw [e2] at this
    obtain ⟨_, n2, n3⟩ := List.nodup_append.mp this
    rcases List.mem_append.mp hx' with h' | h'
    · exact n3 x h' x (List.mem_append_left _ hx) rfl
    · exact (List.nodup_append.mp n2).2.2 x hx x h' rfl
  cases h with
  | step x =>
    obtain ⟨l, h1, h2, h3⟩ := mem_stepL.mp (mem_step_told.mp hmem)
    obtain ⟨y, hy, hyl⟩ := s2 l h1 ((isOld_iff t.w h1).mp h2)
    have hyt : Hd.step y ∈ toldN (stepL b) L R ms := by
      rw [e]
      rcases List.mem_append.mp hy with hk | hk
      · exact List.mem_append_left _ hk
      · exact List.mem_append_right _ (List.mem_cons_of_mem _ hk)
    obtain ⟨k, k1, k2, k3⟩ := mem_stepL.mp (mem_step_told.mp hyt)
    have hyk : y ∈ k.a ∨ y ∈ k.b := by
      rw [← k3]
      exact minN_in t.w k1
    have : k = l := t.w.one k1 h1 hyk hyl
    subst this
    have hxy : x = y := h3.symm.trans k3
    subst hxy
    have nd := stepL_nd t.w
    rw [← stepsOf_told (stepL b) L R ms, e] at nd
    have app : ∀ a b, stepsOf (a ++ b) = stepsOf a ++ stepsOf b := fun a b => List.flatMap_append
    rw [app] at nd
    have e2 : stepsOf (.step x :: post) = x :: stepsOf post := rfl
    rw [e2] at nd
    obtain ⟨_, n2, n3⟩ := List.nodup_append.mp nd
    rcases List.mem_append.mp hy with hk | hk
    · exact n3 x (mem_stepsOf.mpr hk) x List.mem_cons_self rfl
    · exact (List.nodup_cons.mp n2).1 (mem_stepsOf.mpr hk)
  | pair x y =>
    obtain ⟨p1, p2, p3, p4, p5, p6⟩ := t.ok.pr x y hmem
    exact (s1 x p1.nmd).elim p5 fun z => z.elim p3 (hsv x (by simp [serv]))
  | make x =>
    obtain ⟨s, p1, p2, p3⟩ := t.ok.mke x hmem
    exact (s1 x p1.nmd).elim p3 fun z => z.elim p2 (hsv x (by simp [serv]))
end TK.M
end
section
set_option Elab.async false
set_option linter.all false
set_option maxRecDepth 100000
set_option maxHeartbeats 4000000
/-! The law's book behind hands, and its latest moment. -/
namespace TK.M
open PySem PySem.Spec PyProof.Rows L2
def txt3 : List Str := ["ka", "", "sol ka"]
def txts (n : Nat) : List Str := (List.replicate n txt3).flatten.take n
theorem flat_rep (n : Nat) : (List.replicate n txt3).flatten.length = 3 * n := by
  induction n with
  | zero => rfl
  | succ n ih =>
    rw [List.replicate_succ, List.flatten_cons, List.length_append, ih]
    show 3 + 3 * n = _
    omega
theorem txts_len (n : Nat) : (txts n).length = n := by
  unfold txts
  rw [List.length_take, flat_rep]
  omega
theorem rep_strs (n : Nat) : (List.replicate n (strsD txt3)).flatten = strsD (List.replicate n txt3).flatten := by
  unfold strsD
  rw [List.map_flatten, List.map_replicate]
theorem txts_ok (n : Nat) (h : n ≤ 1000) : ((mulTD (.tuple (strsD txt3)) (.int (n : Int))).bind fun d => sliceD d none (some (n : Int))) = some (.tuple (strsD (txts n))) := by
  have e1 : mulTD (.tuple (strsD txt3)) (.int (n : Int)) = some (.tuple (strsD (List.replicate n txt3).flatten)) := by
    show (if 0 ≤ (n : Int) ∧ (n : Int) ≤ 1000 ∧ (strsD txt3).length ≤ 1000 then some (PyData.tuple (List.replicate (n : Int).toNat (strsD txt3)).flatten) else none) = _
    rw [if_pos ⟨by omega, by omega, by decide⟩, Int.toNat_natCast, rep_strs]
  rw [e1, Option.bind_some]
  show some (PyData.tuple (cutD _ none (some (n : Int)))) = _
  unfold cutD
  rw [HT.sIx_none, HT.sIx_nat, List.drop_zero, Nat.sub_zero]
  have hl : (strsD (List.replicate n txt3).flatten).length = 3 * n := by rw [List.length_map, flat_rep]
  rw [hl, Nat.min_eq_left (by omega)]
  unfold txts strsD
  rw [List.map_take]
theorem eq_mk (h : Hd) : (match idxD (eHd h) (.int 0) with
    | some d => eqD d (.str "make")
    | none => none) = some (.bool (isMk h)) := by
  cases h <;> rfl
theorem behind_ok {b : Bk} (w : WF b) (m : Int) {told : List Hd} (ok : Okh b told) (hz : b.p.length + b.q.length + told.length ≤ 58) (hlz : b.ls.length ≤ 100) :
    ∃ c, f__law_behind [eBk b, .tuple (told.map eHd), .int m] = some (eBk c) ∧ Inv b m told [] c := by
  have hmk : mkN told ≤ told.length := List.length_filter_le _ _
  obtain ⟨ds, c, h1, h2, h3⟩ := deeds_ok w m ok (tl := txts (mkN told)) (by rw [txts_len]; exact Nat.le_refl _) hz hlz
  have h4 := all_done_ok h2
  refine ⟨c, ?_, h3⟩
  let T : TK.D := .tuple (told.map eHd)
  have c1 := compL_map eHd (tg := tgN 5) (t := valT (binE eqD (binE idxD (varE 5) (cE (.int 0))) (cE (.str "make")))) (el := varE 5) (ρ := [some (eBk b), some T, some (.int m), none, none, none]) (γ := ((0, []) : G)) isMk eHd told fun h _ => ⟨_, rfl, by
    cases h <;> rfl, fun _ => rfl⟩
  have a1 : (setS 3 (unE lenD (newE (compN (seqI (varE 1)) (tgN 5) (valT (binE eqD (binE idxD (varE 5) (cE (.int 0))) (cE (.str "make")))) (varE 5) [5])))) [some (eBk b), some T, some (.int m), none, none, none] (0, []) = some (.nx [some (eBk b), some T, some (.int m), some (.int (mkN told : Int)), none, none], (0, [])) := by
    have x1 : (newE (compN (seqI (varE 1)) (tgN 5) (valT (binE eqD (binE idxD (varE 5) (cE (.int 0))) (cE (.str "make")))) (varE 5) [5])) [some (eBk b), some T, some (.int m), none, none, none] (0, []) = some (.list ((told.filter isMk).map eHd), (0, [])) := by
      rw [s_newE, s_compN]
      show ((if (told.map eHd).length ≤ LINE then compL (tgN 5) (valT (binE eqD (binE idxD (varE 5) (cE (.int 0))) (cE (.str "make")))) (varE 5) (told.map eHd) [some (eBk b), some T, some (.int m), none, none, none] ((0, []) : G) else none).bind _) = _
      rw [if_pos (by rw [List.length_map]; exact line_of (by omega)), c1] <;> rfl
    rw [s_setS, s_unE, x1, Option.bind_some]
    show ((((lenD (.list ((told.filter isMk).map eHd))).bind fun z => some (z, ((0, []) : G)))).bind _) = _
    rw [s_lenL, List.length_map] <;> rfl
  have hn : mkN told ≤ 1000 := by omega
  have a2 : (setS 4 (sliceE (binE mulTD (tupE (consA (cE (.str "ka")) (consA (cE (.str "")) (consA (cE (.str "sol ka")) (nilA))))) (varE 3)) (noneO) (someO (varE 3)))) [some (eBk b), some T, some (.int m), some (.int (mkN told : Int)), none, none] (0, []) = some (.nx [some (eBk b), some T, some (.int m), some (.int (mkN told : Int)), some (.tuple (strsD (txts (mkN told)))), none], (0, [])) := by
    have x1 := txts_ok (mkN told) hn
    obtain ⟨d, y1, y2⟩ := bnd x1
    rw [s_setS, s_sliceE]
    show (((((mulTD (.tuple (strsD txt3)) (.int (mkN told : Int))).bind fun z => some (z, ((0, []) : G))).bind _)).bind _) = _
    rw [y1]
    show ((((sliceD d none (some (mkN told : Int))).bind fun z => some (z, ((0, []) : G))).bind _)) = _
    rw [y2] <;> rfl
  show (g__law_behind [some (eBk b), some T, some (.int m), none, none, none] (0, [])).bind _ = _
  unfold g__law_behind
  rw [s_seqS, a1, Option.bind_some]
  show (seqS _ _ [some (eBk b), some T, some (.int m), some (.int (mkN told : Int)), none, none] (0, [])).bind _ = _
  rw [s_seqS, a2, Option.bind_some]
  show ((((((f_hand_deeds [eBk b, T, .int m, .tuple (strsD (txts (mkN told)))]).bind fun z => some (z, ((0, []) : G))).bind fun x => ((nilA _ x.2).bind fun y => some (x.1 :: y.1, y.2))).bind fun y => some (eBk b :: y.1, y.2)).bind fun x => (f_all_done x.1).bind fun z => some (z, x.2)).bind _).bind _ = _
  rw [h1]
  show ((((f_all_done [eBk b, .tuple (ds.map (eDd m))]).bind fun z => some (z, ((0, []) : G))).bind _).bind _) = _
  rw [h4] <;> rfl
/-! ### the latest -/
theorem foldl_max_ge : ∀ (l : List Int) (a : Int), a ≤ l.foldl max a ∧ ∀ x ∈ l, x ≤ l.foldl max a
  | [], a => ⟨Int.le_refl _, fun _ h => by cases h⟩
  | y :: l, a => by
    obtain ⟨h1, h2⟩ := foldl_max_ge l (max a y)
    refine ⟨Int.le_trans (Int.le_max_left a y) h1, fun x hx => ?_⟩
    rcases List.mem_cons.mp hx with rfl | hx
    · exact Int.le_trans (Int.le_max_right a x) h1
    · exact h2 x hx
theorem lasts_ok (A : List Int) (h : A.length ≤ 60000) {ρ : Env} {γ : G} : True := trivial
theorem latest_ok {b : Bk} (w : WF b) (z : Sm b) : ∃ M, f__law_latest [eBk b] = some (.int M) ∧ ∀ s, ∀ p ∈ b.sd s, ∀ j ∈ p.ms, j ≤ M := by
  have hpq : ∀ ρ : Env, (binE addD (binE idxD (varE 0) (cE (.int 0))) (binE idxD (varE 0) (cE (.int 1)))) (some (eBk b) :: ρ) (0, []) = some (.tuple ((b.p ++ b.q).map ePt), (0, [])) := fun ρ => by
    have x1 : addD (.tuple (b.p.map ePt)) (.tuple (b.q.map ePt)) = some (.tuple ((b.p ++ b.q).map ePt)) := by
      rw [s_addT, if_pos (by rw [List.length_map, List.length_map]; exact line_of (by have := z.p; have := z.q; omega)), List.map_append]
    show ((addD (.tuple (b.p.map ePt)) (.tuple (b.q.map ePt))).bind fun z => some (z, ((0, []) : G))) = _
    rw [x1] <;> rfl
  have hlen : (b.p ++ b.q).length ≤ 400 := by
    rw [List.length_append]
    have := z.p
    have := z.q
    omega
  let A1 : List Int := 0 :: (b.p ++ b.q).flatMap Pt.ms
  have hms : ∀ k ∈ b.p ++ b.q, k.ms.length ≤ 100 := w.sz.ms
  obtain ⟨ρ', γ', h1, ⟨v2, v3, v4, h2⟩, h3⟩ := forL_all ePt (fun don ρ γ => (∃ v2 v3 v4, ρ = [some (eBk b), some (.list (intsL (0 :: don.flatMap Pt.ms))), v2, v3, v4, none, none, none, none]) ∧ γ = (0, [])) (tg := tgT [2, 3, 4])
    (b := extS 1 (varE 4)) (b.p ++ b.q) [some (eBk b), some (.list (intsL [0])), none, none, none, none, none, none, none] (0, []) (fun don p rest e ρ γ q => by
      obtain ⟨⟨v2, v3, v4, rfl⟩, rfl⟩ := q
      have hdl : don.length ≤ 400 := by
        have h2 := hlen
        rw [e, List.length_append] at h2
        omega
      have hfl := flat_leI (l := don) (f := Pt.ms) (n := 100) fun k hk => hms k (by rw [e]; exact List.mem_append_left _ hk)
      have hp := hms p (by rw [e]; simp)
      have hA : (0 :: don.flatMap Pt.ms).length ≤ 40001 := by
        rw [List.length_cons]
        have : don.length * 100 ≤ 400 * 100 := Nat.mul_le_mul_right _ hdl
        omega
      have eA : (0 :: (don ++ [p]).flatMap Pt.ms : List Int) = (0 :: don.flatMap Pt.ms) ++ p.ms := by
        rw [List.flatMap_append]
        simp
      refine ⟨_, _, _, rfl, ?_, ⟨some (.str p.n), some (.str p.x), some (.tuple (intsL p.ms)), rfl⟩, rfl⟩
      rw [eA]
      show (if (intsL (0 :: don.flatMap Pt.ms)).length + (intsL p.ms).length < LINE then some (Out.nx [some (eBk b), some (.list (intsL (0 :: don.flatMap Pt.ms) ++ intsL p.ms)), some (.str p.n), some (.str p.x), some (.tuple (intsL p.ms)), none, none, none, none], ((0, []) : G)) else none) = _
      have hln : (intsL (0 :: don.flatMap Pt.ms)).length + (intsL p.ms).length < LINE := by
        unfold intsL
        rw [List.length_map, List.length_map]
        exact Nat.lt_of_le_of_lt (show _ ≤ 40101 by omega) (by decide)
      rw [if_pos hln]
      unfold intsL
      rw [List.map_append]) ⟨⟨none, none, none, by simp⟩, rfl⟩
  subst h2 h3
  have hA1 : A1.length ≤ 40001 := by
    show (0 :: (b.p ++ b.q).flatMap Pt.ms : List Int).length ≤ _
    have hfl := flat_leI (l := b.p ++ b.q) (f := Pt.ms) (n := 100) hms
    have : (b.p ++ b.q).length * 100 ≤ 400 * 100 := Nat.mul_le_mul_right _ hlen
    rw [List.length_cons]
    omega
  let lf : Lk → List Int := fun l => [l.t] ++ l.la ++ l.lb
  have hlf : ∀ k ∈ b.ls, (lf k).length ≤ 201 := fun k hk => by
    obtain ⟨_, _, q3, q4⟩ := w.sz.la k hk
    show ([k.t] ++ k.la ++ k.lb).length ≤ _
    rw [List.length_append, List.length_append, List.length_singleton]
    omega
  obtain ⟨ρ', γ', k1, ⟨v5, v6, v7, v8, k2⟩, k3⟩ := forL_all eLk (fun don ρ γ => (∃ v5 v6 v7 v8, ρ = [some (eBk b), some (.list (intsL (A1 ++ don.flatMap lf))), v2, v3, v4, v5, v6, v7, v8]) ∧ γ = (0, [])) (tg := tgT [5, 6, 7, 8])
    (b := extS 1 (binE addD (binE addD (newE (lstN (consA (varE 7) (nilA)))) (newE (listN (binE idxD (varE 8) (cE (.int 0)))))) (newE (listN (binE idxD (varE 8) (cE (.int 1))))))) b.ls [some (eBk b), some (.list (intsL A1)), v2, v3, v4, none, none, none, none] (0, []) (fun don l rest e ρ γ q => by
      obtain ⟨⟨v5, v6, v7, v8, rfl⟩, rfl⟩ := q
      have hl : l ∈ b.ls := by rw [e]; simp
      have hdl : don.length ≤ 200 := by
        have := congrArg List.length e
        rw [List.length_append] at this
        have := z.ls
        omega
      have hfl := flat_leI (l := don) (f := lf) (n := 201) fun k hk => hlf k (by rw [e]; exact List.mem_append_left _ hk)
      have hp := hlf l hl
      obtain ⟨_, _, q3, q4⟩ := w.sz.la l hl
      have hA : (A1 ++ don.flatMap lf).length ≤ 80301 := by
        rw [List.length_append]
        have : don.length * 201 ≤ 200 * 201 := Nat.mul_le_mul_right _ hdl
        omega
      have eA : A1 ++ (don ++ [l]).flatMap lf = (A1 ++ don.flatMap lf) ++ lf l := by
        rw [List.flatMap_append, List.append_assoc]
        simp
      let E : Env := [some (eBk b), some (.list (intsL (A1 ++ don.flatMap lf))), v2, v3, v4, some (.tuple (strsD l.a)), some (.tuple (strsD l.b)), some (.int l.t), some (.tuple [.tuple (intsL l.la), .tuple (intsL l.lb)])]
      have x1 : addD (.list [.int l.t]) (.list (intsL l.la)) = some (.list (intsL ([l.t] ++ l.la))) := by
        unfold intsL
        rw [s_addL, if_pos (by rw [List.length_map, List.length_singleton]; exact line_of (by omega)), List.map_append] <;> rfl
      have x2 : addD (.list (intsL ([l.t] ++ l.la))) (.list (intsL l.lb)) = some (.list (intsL (lf l))) := by
        unfold intsL
        rw [s_addL, if_pos (by rw [List.length_map, List.length_map, List.length_append, List.length_singleton]; exact line_of (by omega)), ← List.map_append]
      have x3 : (binE addD (binE addD (newE (lstN (consA (varE 7) (nilA)))) (newE (listN (binE idxD (varE 8) (cE (.int 0)))))) (newE (listN (binE idxD (varE 8) (cE (.int 1)))))) E (0, []) = some (.list (intsL (lf l)), (0, [])) := by
        show ((((addD (.list [.int l.t]) (.list (intsL l.la))).bind fun z => some (z, ((0, []) : G))).bind fun x => ((newE (listN (binE idxD (varE 8) (cE (.int 1))))) E x.2).bind fun y => (addD x.1 y.1).bind fun z => some (z, y.2))) = _
        rw [x1]
        show ((addD (.list (intsL ([l.t] ++ l.la))) (.list (intsL l.lb))).bind fun z => some (z, ((0, []) : G))) = _
        rw [x2] <;> rfl
      refine ⟨E, _, _, rfl, ?_, ⟨some (.tuple (strsD l.a)), some (.tuple (strsD l.b)), some (.int l.t), some (.tuple [.tuple (intsL l.la), .tuple (intsL l.lb)]), rfl⟩, rfl⟩
      rw [eA, s_extS]
      show (((binE addD _ _ E (0, [])).bind _) : Option (Out × G)) = _
      rw [x3]
      show (if (intsL (A1 ++ don.flatMap lf)).length + (intsL (lf l)).length < LINE then some (Out.nx [some (eBk b), some (.list (intsL (A1 ++ don.flatMap lf) ++ intsL (lf l))), v2, v3, v4, some (.tuple (strsD l.a)), some (.tuple (strsD l.b)), some (.int l.t), some (.tuple [.tuple (intsL l.la), .tuple (intsL l.lb)])], ((0, []) : G)) else none) = _
      have hln : (intsL (A1 ++ don.flatMap lf)).length + (intsL (lf l)).length < LINE := by
        unfold intsL
        rw [List.length_map, List.length_map]
        exact Nat.lt_of_le_of_lt (show _ ≤ 80502 by omega) (by decide)
      rw [if_pos hln]
      unfold intsL
      rw [List.map_append (l₁ := A1 ++ don.flatMap lf)]) ⟨⟨none, none, none, none, by simp⟩, rfl⟩
  subst k2 k3
  let rest : List Int := (b.p ++ b.q).flatMap Pt.ms ++ b.ls.flatMap lf
  refine ⟨rest.foldl max 0, ?_, fun s p hp j hj => ?_⟩
  · show (g__law_latest [some (eBk b), none, none, none, none, none, none, none, none] (0, [])).bind _ = _
    unfold g__law_latest
    rw [s_seqS]
    show (seqS _ _ [some (eBk b), some (.list (intsL [0])), none, none, none, none, none, none, none] (0, [])).bind _ = _
    rw [s_seqS, s_forS, s_seqI, hpq]
    show ((forL _ _ ((b.p ++ b.q).map ePt) [some (eBk b), some (.list (intsL [0])), none, none, none, none, none, none, none] (0, [])).bind _).bind _ = _
    rw [h1, Option.bind_some]
    show (seqS _ _ [some (eBk b), some (.list (intsL A1)), v2, v3, v4, none, none, none, none] (0, [])).bind _ = _
    rw [s_seqS, s_forS]
    show ((forL _ _ (b.ls.map eLk) [some (eBk b), some (.list (intsL A1)), v2, v3, v4, none, none, none, none] (0, [])).bind _).bind _ = _
    rw [k1, Option.bind_some]
    have e9 : maxD1 (.list (intsL (A1 ++ b.ls.flatMap lf))) = some (.int (rest.foldl max 0)) := by
      show (if okMin (intsL (0 :: rest)) then some (PySem.W.maxD (.int 0) (intsL rest)) else none) = _
      rw [okMin_ints, if_pos rfl]
      exact congrArg some (PySem.W.maxD_ints 0 rest)
    show ((((maxD1 (.list (intsL (A1 ++ b.ls.flatMap lf)))).bind _).bind _).bind _) = _
    rw [e9] <;> rfl
  · refine (foldl_max_ge rest 0).2 j (List.mem_append_left _ (List.mem_flatMap.mpr ⟨p, ?_, hj⟩))
    cases s with
    | false => exact List.mem_append_left _ hp
    | true => exact List.mem_append_right _ hp
end TK.M
end
section
set_option Elab.async false
set_option linter.all false
set_option maxRecDepth 100000
set_option maxHeartbeats 4000000
/-! shows_hands takes the hands. -/
namespace TK.M
open PySem PySem.Spec PyProof.Rows L2
/-! ### strict order -/
theorem str_tot {x y : Str} (h : PySem.W.dataLt (.str x) (.str y) = false) (k : PySem.W.dataLt (.str y) (.str x) = false) : x = y := by
  rw [PySem.W.dataLt_str] at h k
  exact PySem.W.str_of_cps (List.le_antisymm (of_decide_eq_false k) (of_decide_eq_false h))
theorem eqv_pair (p q : Str × Str) : PyData.eqv (pairD p) (pairD q) = decide (p = q) := by
  have e : PyData.eqv (pairD p) (pairD q) = (decide (p.1 = q.1) && (decide (p.2 = q.2) && true)) := by
    simp only [pairD, PyData.eqv, PyData.eqvAll, Bool.beq_eq_decide_eq]
  rw [e]
  obtain ⟨a, b⟩ := p
  obtain ⟨c, d⟩ := q
  simp only [Prod.mk.injEq, Bool.and_true, Bool.decide_and]
theorem pair_lt (p q : Str × Str) : PySem.W.dataLt (pairD p) (pairD q) = if p.1 = q.1 then (if p.2 = q.2 then false else PySem.W.dataLt (.str p.2) (.str q.2)) else PySem.W.dataLt (.str p.1) (.str q.1) := by
  have := PySem.W.dataLt_pair (x := .str p.1) (y := .str p.2) (x' := .str q.1) (y' := .str q.2) (by simp [PySem.W.alike]) (by simp [PySem.W.alike])
  rw [eqv_str, eqv_str] at this
  simp only [decide_eq_true_eq] at this
  exact this
theorem pair_tot {p q : Str × Str} (h : PySem.W.dataLt (pairD p) (pairD q) = false) (k : PySem.W.dataLt (pairD q) (pairD p) = false) : p = q := by
  rw [pair_lt] at h k
  by_cases e1 : p.1 = q.1
  · rw [if_pos e1] at h
    rw [if_pos e1.symm] at k
    by_cases e2 : p.2 = q.2
    · exact Prod.ext e1 e2
    · rw [if_neg e2] at h
      rw [if_neg (Ne.symm e2)] at k
      exact absurd (str_tot h k) e2
  · rw [if_neg e1] at h
    rw [if_neg (Ne.symm e1)] at k
    exact absurd (str_tot h k) e1
theorem tsort_lt {α : Type} (enc : α → TK.D) (tot : ∀ x y, PySem.W.dataLt (enc x) (enc y) = false → PySem.W.dataLt (enc y) (enc x) = false → x = y) {l : List α} (nd : l.Nodup) : (tsort enc l).Pairwise fun a b => PySem.W.dataLt (enc a) (enc b) = true := by
  have h := tsort_le enc l
  have nd' : (tsort enc l).Nodup := (tsort_perm enc l).nodup_iff.mpr nd
  have := h.and nd'
  refine this.imp fun {a b} ⟨h1, h2⟩ => ?_
  cases e : PySem.W.dataLt (enc a) (enc b) with
  | true => rfl
  | false => exact absurd (tot _ _ e h1) h2
theorem ssort_perm_eq {a c : List Str} (h : a.Perm c) : ssort a = ssort c :=
  List.Perm.eq_of_pairwise (le := fun x y : Str => PySem.W.dataLt (.str y) (.str x) = false) (fun x y _ _ h1 h2 => str_tot h2 h1) (tsort_le PyData.str a) (tsort_le PyData.str c) ((tsort_perm _ a).trans (h.trans (tsort_perm _ c).symm))
theorem ltD_of {d e : TK.D} {n m : Nat} (h1 : flat n d) (h2 : flat m e) (k1 : n ≤ 30) (k2 : m ≤ 30) (ha : PySem.W.alike d e = true) (hn : isNone d = false) (hl : PySem.W.dataLt d e = true) : ltD d e = some (.bool true) := by
  have : okLt d e = true := by
    unfold okLt
    rw [h1.ok k1, h2.ok k2, ha]
    cases d <;> first | rfl | cases hn
  unfold ltD
  rw [this, hl] <;> rfl
/-! ### cuts -/
theorem cut_from {xs : List TK.D} (k : Nat) : cutD xs (some (k : Int)) none = xs.drop k := by
  unfold cutD
  rw [HT.sIx_none, HT.sIx_nat]
  by_cases h : k ≤ xs.length
  · rw [Nat.min_eq_left h]
    exact List.take_of_length_le (by rw [List.length_drop]; omega)
  · rw [Nat.min_eq_right (by omega), List.drop_length, List.take_nil, List.drop_eq_nil_of_le (by omega)]
theorem cut_to {xs : List TK.D} (k : Nat) : cutD xs none (some (k : Int)) = xs.take k := by
  unfold cutD
  rw [HT.sIx_none, HT.sIx_nat, List.drop_zero, Nat.sub_zero]
  by_cases h : k ≤ xs.length
  · rw [Nat.min_eq_left h]
  · rw [Nat.min_eq_right (by omega), List.take_length, List.take_of_length_le (by omega)]
/-! ### rising -/
theorem zip_mem {α : Type} {R : α → α → Prop} : ∀ {xs : List α}, xs.Pairwise R → ∀ p ∈ List.zipWith Prod.mk xs (xs.drop 1), R p.1 p.2
  | [], _, p, hp => by cases hp
  | [a], _, p, hp => by cases hp
  | a :: b :: t, h, p, hp => by
    rw [List.pairwise_cons] at h
    have hp' : p ∈ (a, b) :: List.zipWith Prod.mk (b :: t) ((b :: t).drop 1) := hp
    rcases List.mem_cons.mp hp' with e | h2
    · rw [e]
      exact h.1 b List.mem_cons_self
    · exact zip_mem h.2 p h2
theorem zipD_map {α : Type} (enc : α → TK.D) (xs ys : List α) : zipD (xs.map enc) (ys.map enc) = (List.zipWith Prod.mk xs ys).map fun p => .tuple [enc p.1, enc p.2] := by
  unfold zipD
  rw [List.zipWith_map, List.map_zipWith]
theorem rising_ok {α : Type} (enc : α → TK.D) {xs : List α} (hl : xs.length ≤ 1000) (h : xs.Pairwise fun a b => ltD (enc a) (enc b) = some (.bool true)) : f_is_rising [.list (xs.map enc)] = some (.bool true) ∧ f_is_rising [.tuple (xs.map enc)] = some (.bool true) := by
  have one : ∀ X : TK.D, (zipI (varE 0) (sliceE (varE 0) (someO (cE (.int 1))) (noneO))) [some X, none, none] (0, []) = some ((List.zipWith Prod.mk xs (xs.drop 1)).map fun p => .tuple [enc p.1, enc p.2], (0, [])) → f_is_rising [X] = some (.bool true) := fun X hx => by
    have c := compL_map' (fun p : α × α => (.tuple [enc p.1, enc p.2] : TK.D)) (tg := tgT [1, 2]) (el := binE ltD (varE 1) (varE 2)) (ρ := [some X, none, none]) (γ := ((0, []) : G)) (fun _ => .bool true) (List.zipWith Prod.mk xs (xs.drop 1)) fun p hp => ⟨_, rfl, by
      have := zip_mem h p hp
      show ((ltD (enc p.1) (enc p.2)).bind fun z => some (z, ((0, []) : G))) = _
      rw [this] <;> rfl⟩
    have ha := all_bools (fun _ : α × α => true) (List.zipWith Prod.mk xs (xs.drop 1))
    have e : (newE (compN (zipI (varE 0) (sliceE (varE 0) (someO (cE (.int 1))) (noneO))) (tgT [1, 2]) (yesT) (binE ltD (varE 1) (varE 2)) [1, 2])) [some X, none, none] (0, []) = some (.list ((List.zipWith Prod.mk xs (xs.drop 1)).map fun _ => .bool true), (0, [])) := by
      rw [s_newE, s_compN, hx, Option.bind_some]
      show ((if ((List.zipWith Prod.mk xs (xs.drop 1)).map fun p => (.tuple [enc p.1, enc p.2] : TK.D)).length ≤ LINE then compL (tgT [1, 2]) yesT (binE ltD (varE 1) (varE 2)) ((List.zipWith Prod.mk xs (xs.drop 1)).map fun p => .tuple [enc p.1, enc p.2]) [some X, none, none] ((0, []) : G) else none).bind _) = _
      rw [if_pos (by rw [List.length_map, List.length_zipWith]; exact line_of (by omega)), c] <;> rfl
    show (g_is_rising [some X, none, none] (0, [])).bind _ = _
    unfold g_is_rising
    rw [s_retS, s_unE, e, Option.bind_some, ha, List.all_eq_true.mpr fun _ _ => rfl] <;> rfl
  constructor
  · refine one _ ?_
    show (some (zipD (xs.map enc) (cutD (xs.map enc) (some ((1 : Nat) : Int)) none), ((0, []) : G))) = _
    rw [cut_from, ← List.map_drop, zipD_map]
  · refine one _ ?_
    show (some (zipD (xs.map enc) (cutD (xs.map enc) (some ((1 : Nat) : Int)) none), ((0, []) : G))) = _
    rw [cut_from, ← List.map_drop, zipD_map]
theorem rising_strs {l : List Str} (hl : l.length ≤ 1000) (h : l.Pairwise fun a b => PySem.W.dataLt (.str a) (.str b) = true) : f_is_rising [.tuple (strsD l)] = some (.bool true) :=
  (rising_ok PyData.str hl (h.imp fun {a b} e => ltD_of (flat_str 0 a) (flat_str 0 b) (by decide) (by decide) (by simp [PySem.W.alike]) rfl e)).2
/-! ### hands -/
theorem flat_hd (h : Hd) : flat 1 (eHd h) := by
  cases h <;> refine flat_tup (n := 0) fun d h => ?_ <;> simp only [List.mem_cons, List.not_mem_nil, or_false] at h
  · rcases h with rfl | rfl <;> exact flat_str _ _
  · rcases h with rfl | rfl | rfl <;> exact flat_str _ _
  · rcases h with rfl | rfl <;> exact flat_str _ _
theorem lt_tail {x : Str} (a c : List TK.D) : PySem.W.dataLt (.tuple (.str x :: a)) (.tuple (.str x :: c)) = PySem.W.dataLt (.tuple a) (.tuple c) := by
  rw [PySem.W.dataLt_tuple, PySem.W.dataLt_tuple, PySem.W.dataLt_all_yes (by simp [PySem.W.alike]) (by rw [eqv_str]; simp)]
theorem lt_one {x y : Str} (h : x ≠ y) : PySem.W.dataLt (.tuple [.str x]) (.tuple [.str y]) = PySem.W.dataLt (.str x) (.str y) := by
  rw [PySem.W.dataLt_tuple, PySem.W.dataLt_cons (by simp [PySem.W.alike]), if_neg (by rw [eqv_str]; simpa using h)]
theorem rising_pairs {P : List (Str × Str)} (hl : P.length ≤ 1000) (h : P.Pairwise fun a b => PySem.W.dataLt (pairD a) (pairD b) = true) : f_is_rising [.list (P.map fun p => eHd (.pair p.1 p.2))] = some (.bool true) :=
  (rising_ok (fun p : Str × Str => eHd (.pair p.1 p.2)) hl (h.imp fun {a b} e => ltD_of (flat_hd (.pair a.1 a.2)) (flat_hd (.pair b.1 b.2)) (by decide) (by decide) (by simp [eHd, PySem.W.alike, PySem.W.alikeAll]) rfl (by
    show PySem.W.dataLt (.tuple [.str "pair", .str a.1, .str a.2]) (.tuple [.str "pair", .str b.1, .str b.2]) = true
    rw [lt_tail]
    exact e))).1
theorem rising_makes {S : List Str} (hl : S.length ≤ 1000) (h : S.Pairwise fun a b => PySem.W.dataLt (.str a) (.str b) = true) : f_is_rising [.list (S.map fun x => eHd (.make x))] = some (.bool true) :=
  (rising_ok (fun x : Str => eHd (.make x)) hl (h.imp fun {a b} e => ltD_of (flat_hd (.make a)) (flat_hd (.make b)) (by decide) (by decide) (by simp [eHd, PySem.W.alike, PySem.W.alikeAll]) rfl (by
    show PySem.W.dataLt (.tuple [.str "make", .str a]) (.tuple [.str "make", .str b]) = true
    rw [lt_tail, lt_one]
    · exact e
    · intro z
      rw [z, PySem.W.dataLt_str] at e
      exact absurd (of_decide_eq_true e) (List.lt_irrefl _)))).1
theorem in_pairs (p : Str × Str) (cs : List (Str × Str)) : inD (pairD p) (.tuple (cs.map pairD)) = some (.bool (decide (p ∈ cs))) := by
  unfold inD
  rw [inD0_tup (flat_pair p) (n := 1) (m := 1) (fun e he => by
    obtain ⟨q, _, rfl⟩ := List.mem_map.mp he
    exact flat_pair q), any_enc pairD eqv_pair]
  simp
theorem is_hand_pair {x y : Str} {cs : List (Str × Str)} (h : (x, y) ∈ cs) (ns : List Str) : f_is_hand [eHd (.pair x y), .tuple (cs.map pairD), .tuple (strsD ns)] = some (.bool true) := by
  have h1 := in_pairs (x, y) cs
  rw [decide_eq_true h] at h1
  have e : (andE (binE eqD (binE idxD (varE 0) (cE (.int 0))) (cE (.str "pair"))) (binE inD (sliceE (varE 0) (someO (cE (.int 1))) (noneO)) (varE 1))) [some (eHd (.pair x y)), some (.tuple (cs.map pairD)), some (.tuple (strsD ns))] (0, []) = some (.bool true, (0, [])) := by
    show ((inD (pairD (x, y)) (.tuple (cs.map pairD))).bind fun z => some (z, ((0, []) : G))) = _
    rw [h1] <;> rfl
  show (g_is_hand [some (eHd (.pair x y)), some (.tuple (cs.map pairD)), some (.tuple (strsD ns))] (0, [])).bind _ = _
  unfold g_is_hand
  rw [s_seqS]
  show (seqS (ifS _ (retS _) nextS) _ [some (eHd (.pair x y)), some (.tuple (cs.map pairD)), some (.tuple (strsD ns))] (0, [])).bind _ = _
  rw [s_seqS]
  show (((retS _ [some (eHd (.pair x y)), some (.tuple (cs.map pairD)), some (.tuple (strsD ns))] (0, [])).bind _).bind _) = _
  rw [s_retS, e] <;> rfl
theorem is_hand_make {x : Str} {ns : List Str} (h : x ∈ ns) (C : TK.D) : f_is_hand [eHd (.make x), C, .tuple (strsD ns)] = some (.bool true) := by
  have h1 := inD_strsT x ns
  rw [decide_eq_true h] at h1
  have e : (andE (binE eqD (unE lenD (varE 0)) (cE (.int 2))) (andE (binE eqD (binE idxD (varE 0) (cE (.int 0))) (cE (.str "make"))) (binE inD (binE idxD (varE 0) (cE (.int 1))) (varE 2)))) [some (eHd (.make x)), some C, some (.tuple (strsD ns))] (0, []) = some (.bool true, (0, [])) := by
    show ((inD (.str x) (.tuple (strsD ns))).bind fun z => some (z, ((0, []) : G))) = _
    rw [h1] <;> rfl
  show (g_is_hand [some (eHd (.make x)), some C, some (.tuple (strsD ns))] (0, [])).bind _ = _
  unfold g_is_hand
  rw [s_seqS]
  show (seqS (ifS _ (retS _) nextS) _ [some (eHd (.make x)), some C, some (.tuple (strsD ns))] (0, [])).bind _ = _
  rw [s_seqS]
  show ((retS _ [some (eHd (.make x)), some C, some (.tuple (strsD ns))] (0, [])).bind _) = _
  rw [s_retS, e] <;> rfl
def isPr : Hd → Bool
  | .pair _ _ => true
  | _ => false
theorem filt_pr (P : List (Str × Str)) (S : List Str) : (P.map (fun p => Hd.pair p.1 p.2) ++ S.map Hd.make).filter isPr = P.map fun p => Hd.pair p.1 p.2 := by
  rw [List.filter_append, List.filter_eq_self.mpr fun h hh => by
    obtain ⟨p, _, rfl⟩ := List.mem_map.mp hh
    rfl, List.filter_eq_nil_iff.mpr fun h hh => by
    obtain ⟨p, _, rfl⟩ := List.mem_map.mp hh
    exact Bool.false_ne_true, List.append_nil]
theorem served_ok {P : List (Str × Str)} {S L R : List Str} {cs : List (Str × Str)} (hP : P.Pairwise fun a b => PySem.W.dataLt (pairD a) (pairD b) = true) (hS : S.Pairwise fun a b => PySem.W.dataLt (.str a) (.str b) = true)
    (hc : ∀ p ∈ P, p ∈ cs) (hs : ∀ x ∈ S, x ∈ L ++ R) (hp : (served (P.map (fun p => Hd.pair p.1 p.2) ++ S.map Hd.make)).Perm (L ++ R)) (zP : P.length ≤ 100) (zS : S.length ≤ 100) (zL : L.length ≤ 100) (zR : R.length ≤ 100) :
    f_are_served [.list ((P.map (fun p => Hd.pair p.1 p.2) ++ S.map Hd.make).map eHd), .tuple (cs.map pairD), .tuple (strsD L), .tuple (strsD R)] = some (.bool true) := by
  let rs : List Hd := P.map (fun p => Hd.pair p.1 p.2) ++ S.map Hd.make
  have zr : rs.length ≤ 200 := by
    show (P.map (fun p => Hd.pair p.1 p.2) ++ S.map Hd.make).length ≤ 200
    rw [List.length_append, List.length_map, List.length_map]
    omega
  let A : TK.D := .list (rs.map eHd)
  let C : TK.D := .tuple (cs.map pairD)
  let l : TK.D := .tuple (strsD L)
  let r : TK.D := .tuple (strsD R)
  have hLR : addD l r = some (.tuple (strsD (L ++ R))) := by
    show addD (.tuple (strsD L)) (.tuple (strsD R)) = _
    rw [s_addT, if_pos (by rw [List.length_map, List.length_map]; exact line_of (by omega))]
    unfold strsD
    rw [List.map_append]
  have seqA : ∀ ρ : Env, seqI (varE 0) (some A :: ρ) (0, []) = some (rs.map eHd, (0, [])) := fun _ => rfl
  have lenA : (rs.map eHd).length ≤ LINE := by rw [List.length_map]; exact line_of (by omega)
  have hmem : ∀ h ∈ rs, (∃ p ∈ P, h = .pair p.1 p.2) ∨ ∃ x ∈ S, h = .make x := fun h hh => by
    rcases List.mem_append.mp hh with hh | hh
    · obtain ⟨p, hp, rfl⟩ := List.mem_map.mp hh
      exact .inl ⟨p, hp, rfl⟩
    · obtain ⟨p, hp, rfl⟩ := List.mem_map.mp hh
      exact .inr ⟨p, hp, rfl⟩
  let ρ0 : Env := [some A, some C, some l, some r, none, none, none, none]
  have c1 := compL_map' eHd (tg := tgN 7) (el := callE f_is_hand (consA (varE 7) (consA (varE 1) (consA (binE addD (varE 2) (varE 3)) (nilA))))) (ρ := ρ0) (γ := ((0, []) : G)) (fun _ => .bool true) rs fun h hh => ⟨_, rfl, by
    have hi : f_is_hand [eHd h, C, .tuple (strsD (L ++ R))] = some (.bool true) := by
      rcases hmem h hh with ⟨p, hp, rfl⟩ | ⟨x, hx, rfl⟩
      · exact is_hand_pair (hc p hp) _
      · exact is_hand_make (hs x hx) _
    show ((((((addD l r).bind fun z => some (z, ((0, []) : G))).bind fun x => ((nilA ρ0 x.2).bind fun y => some (x.1 :: y.1, y.2))).bind fun y => some (C :: y.1, y.2)).bind fun y => some (eHd h :: y.1, y.2)).bind fun x => (f_is_hand x.1).bind fun z => some (z, x.2)) = _
    rw [hLR]
    show ((f_is_hand [eHd h, C, .tuple (strsD (L ++ R))]).bind fun z => some (z, ((0, []) : G))) = _
    rw [hi] <;> rfl⟩
  have al1 := all_bools (fun _ : Hd => true) rs
  have n1 : (newE (compN (seqI (varE 0)) (tgN 7) (yesT) (callE f_is_hand (consA (varE 7) (consA (varE 1) (consA (binE addD (varE 2) (varE 3)) (nilA))))) [7])) ρ0 (0, []) = some (.list (rs.map fun _ => .bool true), (0, [])) := by
    rw [s_newE, s_compN, seqA, Option.bind_some]
    show ((if (rs.map eHd).length ≤ LINE then compL (tgN 7) yesT (callE f_is_hand (consA (varE 7) (consA (varE 1) (consA (binE addD (varE 2) (varE 3)) (nilA))))) (rs.map eHd) ρ0 ((0, []) : G) else none).bind _) = _
    rw [if_pos lenA, c1] <;> rfl
  have a1 : (ifS (notT (valT (unE allD (newE (compN (seqI (varE 0)) (tgN 7) (yesT) (callE f_is_hand (consA (varE 7) (consA (varE 1) (consA (binE addD (varE 2) (varE 3)) (nilA))))) [7]))))) (retS (cE (.bool false))) (nextS)) ρ0 (0, []) = some (.nx ρ0, (0, [])) := by
    rw [s_ifS, s_notT, s_valT, s_unE, n1, Option.bind_some, al1, List.all_eq_true.mpr fun _ _ => rfl] <;> rfl
  have c2 := compL_map eHd (tg := tgN 7) (t := valT (binE eqD (binE idxD (varE 7) (cE (.int 0))) (cE (.str "pair")))) (el := varE 7) (ρ := ρ0) (γ := ((0, []) : G)) isPr eHd rs fun h _ => ⟨_, rfl, by
    cases h <;> rfl, fun _ => rfl⟩
  let pD : TK.D := .list (P.map fun p => eHd (.pair p.1 p.2))
  let ρ1 : Env := [some A, some C, some l, some r, some pD, none, none, none]
  have a2 : (setS 4 (newE (compN (seqI (varE 0)) (tgN 7) (valT (binE eqD (binE idxD (varE 7) (cE (.int 0))) (cE (.str "pair")))) (varE 7) [7]))) ρ0 (0, []) = some (.nx ρ1, (0, [])) := by
    rw [s_setS, s_newE, s_compN, seqA, Option.bind_some]
    show (((if (rs.map eHd).length ≤ LINE then compL (tgN 7) (valT (binE eqD (binE idxD (varE 7) (cE (.int 0))) (cE (.str "pair")))) (varE 7) (rs.map eHd) ρ0 ((0, []) : G) else none).bind _).bind _) = _
    rw [if_pos lenA, c2, filt_pr, List.map_map] <;> rfl
  let mD : TK.D := .list (S.map fun x => eHd (.make x))
  let ρ2 : Env := [some A, some C, some l, some r, some pD, some mD, none, none]
  have a3 : (setS 5 (sliceE (varE 0) (someO (unE lenD (varE 4))) (noneO))) ρ1 (0, []) = some (.nx ρ2, (0, [])) := by
    show some (Out.nx [some A, some C, some l, some r, some pD, some (.list (cutD (rs.map eHd) (some (((P.map fun p => eHd (.pair p.1 p.2)).length : Nat) : Int)) none)), none, none], ((0, []) : G)) = _
    rw [cut_from, List.length_map]
    have : (rs.map eHd).drop P.length = S.map fun x => eHd (.make x) := by
      show ((P.map (fun p => Hd.pair p.1 p.2) ++ S.map Hd.make).map eHd).drop P.length = _
      rw [List.map_append, List.map_map, List.map_map, List.drop_append_of_le_length (by rw [List.length_map]; exact Nat.le_refl _), List.drop_of_length_le (by rw [List.length_map]; exact Nat.le_refl _), List.nil_append] <;> rfl
    rw [this]
  have c3 := compL_map' (fun x : Str => eHd (.make x)) (tg := tgN 7) (el := binE eqD (binE idxD (varE 7) (cE (.int 0))) (cE (.str "make"))) (ρ := ρ2) (γ := ((0, []) : G)) (fun _ => .bool true) S fun h _ => ⟨_, rfl, rfl⟩
  have al3 := all_bools (fun _ : Str => true) S
  have n3 : (newE (compN (seqI (varE 5)) (tgN 7) (yesT) (binE eqD (binE idxD (varE 7) (cE (.int 0))) (cE (.str "make"))) [7])) ρ2 (0, []) = some (.list (S.map fun _ => .bool true), (0, [])) := by
    rw [s_newE, s_compN]
    show ((if (S.map fun x => eHd (.make x)).length ≤ LINE then compL (tgN 7) yesT (binE eqD (binE idxD (varE 7) (cE (.int 0))) (cE (.str "make"))) (S.map fun x => eHd (.make x)) ρ2 ((0, []) : G) else none).bind _) = _
    rw [if_pos (by rw [List.length_map]; exact line_of (by omega)), c3] <;> rfl
  have r1 := rising_pairs (by omega) hP
  have r2 := rising_makes (by omega) hS
  have t1 : (notT (valT (unE allD (newE (compN (seqI (varE 5)) (tgN 7) (yesT) (binE eqD (binE idxD (varE 7) (cE (.int 0))) (cE (.str "make"))) [7]))))) ρ2 (0, []) = some (false, (0, [])) := by
    rw [s_notT, s_valT, s_unE, n3, Option.bind_some, al3, List.all_eq_true.mpr fun _ _ => rfl] <;> rfl
  have t2 : (notT (valT (callE f_is_rising (consA (varE 4) (nilA))))) ρ2 (0, []) = some (false, (0, [])) := by
    show ((((f_is_rising [pD]).bind fun z => some (z, ((0, []) : G))).bind _).bind _) = _
    rw [r1] <;> rfl
  have t3 : (notT (valT (callE f_is_rising (consA (varE 5) (nilA))))) ρ2 (0, []) = some (false, (0, [])) := by
    show ((((f_is_rising [mD]).bind fun z => some (z, ((0, []) : G))).bind _).bind _) = _
    rw [r2] <;> rfl
  have a4 : (ifS (orT (notT (valT (unE allD (newE (compN (seqI (varE 5)) (tgN 7) (yesT) (binE eqD (binE idxD (varE 7) (cE (.int 0))) (cE (.str "make"))) [7]))))) (orT (notT (valT (callE f_is_rising (consA (varE 4) (nilA))))) (notT (valT (callE f_is_rising (consA (varE 5) (nilA))))))) (retS (cE (.bool false))) (nextS)) ρ2 (0, []) = some (.nx ρ2, (0, [])) := by
    rw [s_ifS, s_orT, t1, Option.bind_some]
    show ((orT (notT (valT (callE f_is_rising (consA (varE 4) (nilA))))) (notT (valT (callE f_is_rising (consA (varE 5) (nilA))))) ρ2 (0, [])).bind _) = _
    rw [s_orT, t2, Option.bind_some]
    show ((notT (valT (callE f_is_rising (consA (varE 5) (nilA)))) ρ2 (0, [])).bind _) = _
    rw [t3] <;> rfl
  obtain ⟨ρ', γ', h1, ⟨v7, h2⟩, h3⟩ := forL_all eHd (fun don ρ γ => (∃ v7, ρ = [some A, some C, some l, some r, some pD, some mD, some (.list (strsD (served don))), v7]) ∧ γ = (0, [])) (tg := tgN 7)
    (b := extS 6 (sliceE (varE 7) (someO (cE (.int 1))) (noneO))) rs [some A, some C, some l, some r, some pD, some mD, some (.list []), none] (0, []) (fun don h rest e ρ γ q => by
      obtain ⟨⟨v7, rfl⟩, rfl⟩ := q
      have hh : h ∈ rs := by rw [e]; simp
      have hdl : don.length ≤ 200 := by
        have h2 := zr
        rw [e, List.length_append] at h2
        omega
      have hsd : (served don).length ≤ don.length * 2 := flat_le fun h _ => by cases h <;> simp [serv]
      have hsl : sliceD (eHd h) (some 1) none = some (.tuple (strsD (serv h))) := by
        rcases hmem h hh with ⟨p, hp, rfl⟩ | ⟨x, hx, rfl⟩ <;> rfl
      have hsv : (serv h).length ≤ 2 := by cases h <;> simp [serv]
      refine ⟨_, [some A, some C, some l, some r, some pD, some mD, some (.list (strsD (served (don ++ [h])))), some (eHd h)], (0, []), rfl, ?_, ⟨_, rfl⟩, rfl⟩
      show (((sliceD (eHd h) (some 1) none).bind fun z => some (z, ((0, []) : G))).bind _) = _
      rw [hsl]
      show (if (strsD (served don)).length + (strsD (serv h)).length < LINE then some (Out.nx [some A, some C, some l, some r, some pD, some mD, some (.list (strsD (served don) ++ strsD (serv h))), some (eHd h)], ((0, []) : G)) else none) = _
      rw [if_pos (by rw [List.length_map, List.length_map]; exact line_pos (by omega)), served_snoc]
      unfold strsD
      rw [List.map_append]) ⟨⟨none, rfl⟩, rfl⟩
  subst h2 h3
  have hso : ssort (served rs) = ssort (L ++ R) := ssort_perm_eq hp
  have a6 : (retS (binE eqD (unE sortedD (varE 6)) (unE sortedD (binE addD (varE 2) (varE 3))))) [some A, some C, some l, some r, some pD, some mD, some (.list (strsD (served rs))), v7] (0, []) = some (.rt (.bool true), (0, [])) := by
    rw [s_retS, s_binE]
    show ((((((sortedD (.list (strsD (served rs)))).bind fun z => some (z, ((0, []) : G))).bind fun x => (unE sortedD (binE addD (varE 2) (varE 3)) _ x.2).bind fun y => (eqD x.1 y.1).bind fun z => some (z, y.2))).bind _)) = _
    rw [sorted_strsL]
    show ((((((addD l r).bind fun z => some (z, ((0, []) : G))).bind fun x => (sortedD x.1).bind fun z => some (z, x.2)).bind fun y => (eqD (.list (strsD (ssort (served rs)))) y.1).bind fun z => some (z, y.2))).bind _) = _
    rw [hLR]
    show ((((sortedD (.tuple (strsD (L ++ R)))).bind fun z => some (z, ((0, []) : G))).bind fun y => (eqD (.list (strsD (ssort (served rs)))) y.1).bind fun z => some (z, y.2)).bind _) = _
    rw [sorted_strsT]
    show (((eqD (.list (strsD (ssort (served rs)))) (.list (strsD (ssort (L ++ R))))).bind fun z => some (z, ((0, []) : G))).bind _) = _
    rw [hso, eqD_of (flat_lst (flat_strs 0 _)) (flat_lst (flat_strs 0 _)), eqv_refl _ (flat_lst (flat_strs 0 _)).1] <;> rfl
  show (g_are_served ρ0 (0, [])).bind _ = _
  unfold g_are_served
  rw [s_seqS, a1, Option.bind_some]
  show (seqS _ _ ρ0 (0, [])).bind _ = _
  rw [s_seqS, a2, Option.bind_some]
  show (seqS _ _ ρ1 (0, [])).bind _ = _
  rw [s_seqS, a3, Option.bind_some]
  show (seqS _ _ ρ2 (0, [])).bind _ = _
  rw [s_seqS, a4, Option.bind_some]
  show (seqS _ _ ρ2 (0, [])).bind _ = _
  have a5 : (ownS 6 (lstN (nilA))) ρ2 (0, []) = some (.nx [some A, some C, some l, some r, some pD, some mD, some (.list []), none], (0, [])) := rfl
  rw [s_seqS, a5, Option.bind_some]
  show (seqS _ _ [some A, some C, some l, some r, some pD, some mD, some (.list []), none] (0, [])).bind _ = _
  rw [s_seqS, s_forS, seqA, Option.bind_some]
  show ((forL (tgN 7) _ (rs.map eHd) [some A, some C, some l, some r, some pD, some mD, some (.list []), none] (0, [])).bind _).bind _ = _
  rw [h1, Option.bind_some]
  show (retS _ [some A, some C, some l, some r, some pD, some mD, some (.list (strsD (served rs))), v7] (0, [])).bind _ = _
  rw [a6] <;> rfl
end TK.M
end
section
set_option Elab.async false
set_option linter.all false
set_option maxRecDepth 100000
set_option maxHeartbeats 4000000
/-! shows_hands takes the hands: the paper. -/
namespace TK.M
open PySem PySem.Spec PyProof.Rows L2
theorem is_paper_ok {paper names : List Str} {cs : List (Str × Str)} (hl : paper.length ≤ 1000) (hlc : cs.length ≤ 1000) (hp : paper.Pairwise fun a b => PySem.W.dataLt (.str a) (.str b) = true) (hs : ∀ x ∈ paper, x ∈ names) (hi : ∀ p ∈ cs, ¬ (p.1 ∈ paper ∧ p.2 ∈ paper)) :
    f_is_paper [.tuple (strsD paper), .tuple (cs.map pairD), .list (strsD names)] = some (.bool true) := by
  let A : TK.D := .tuple (strsD paper)
  let C : TK.D := .tuple (cs.map pairD)
  let N : TK.D := .list (strsD names)
  let ρ : Env := [some A, some C, some N, none, none, none]
  have c1 := compL_map' PyData.str (tg := tgN 3) (el := binE inD (varE 3) (varE 2)) (ρ := ρ) (γ := ((0, []) : G)) (fun _ => .bool true) paper fun x hx => ⟨_, rfl, by
    have := inD_strsL x names
    rw [decide_eq_true (hs x hx)] at this
    show ((inD (.str x) (.list (strsD names))).bind fun z => some (z, ((0, []) : G))) = _
    rw [this] <;> rfl⟩
  have al1 := all_bools (fun _ : Str => true) paper
  have n1 : (newE (compN (seqI (varE 0)) (tgN 3) (yesT) (binE inD (varE 3) (varE 2)) [3])) ρ (0, []) = some (.list (paper.map fun _ => .bool true), (0, [])) := by
    rw [s_newE, s_compN]
    show ((if (strsD paper).length ≤ LINE then compL (tgN 3) yesT (binE inD (varE 3) (varE 2)) (strsD paper) ρ ((0, []) : G) else none).bind _) = _
    rw [if_pos (by rw [List.length_map]; exact line_of (by omega)), c1] <;> rfl
  have t1 : (notT (valT (unE allD (newE (compN (seqI (varE 0)) (tgN 3) (yesT) (binE inD (varE 3) (varE 2)) [3]))))) ρ (0, []) = some (false, (0, [])) := by
    rw [s_notT, s_valT, s_unE, n1, Option.bind_some, al1, List.all_eq_true.mpr fun _ _ => rfl] <;> rfl
  have r1 := rising_strs hl hp
  have t2 : (notT (valT (callE f_is_rising (consA (varE 0) (nilA))))) ρ (0, []) = some (false, (0, [])) := by
    show ((((f_is_rising [A]).bind fun z => some (z, ((0, []) : G))).bind _).bind _) = _
    rw [r1] <;> rfl
  have a1 : (ifS (orT (notT (valT (unE isTupD (varE 0)))) (orT (notT (valT (unE allD (newE (compN (seqI (varE 0)) (tgN 3) (yesT) (binE inD (varE 3) (varE 2)) [3]))))) (notT (valT (callE f_is_rising (consA (varE 0) (nilA))))))) (retS (cE (.bool false))) (nextS)) ρ (0, []) = some (.nx ρ, (0, [])) := by
    rw [s_ifS]
    show ((orT (notT (valT (unE allD (newE (compN (seqI (varE 0)) (tgN 3) (yesT) (binE inD (varE 3) (varE 2)) [3]))))) (notT (valT (callE f_is_rising (consA (varE 0) (nilA))))) ρ (0, [])).bind _) = _
    rw [s_orT, t1, Option.bind_some]
    show ((notT (valT (callE f_is_rising (consA (varE 0) (nilA)))) ρ (0, [])).bind _) = _
    rw [t2] <;> rfl
  have c2 := compL_map' pairD (tg := tgT [4, 5]) (el := andE (binE inD (varE 4) (varE 0)) (binE inD (varE 5) (varE 0))) (ρ := ρ) (γ := ((0, []) : G)) (fun p => .bool (decide (p.1 ∈ paper) && decide (p.2 ∈ paper))) cs fun p _ => ⟨_, rfl, by
    have e1 := inD_strsT p.1 paper
    have e2 := inD_strsT p.2 paper
    show ((((inD (.str p.1) (.tuple (strsD paper))).bind fun z => some (z, ((0, []) : G)))).bind _) = _
    rw [e1]
    cases decide (p.1 ∈ paper) with
    | false => rfl
    | true =>
      show ((inD (.str p.2) (.tuple (strsD paper))).bind fun z => some (z, ((0, []) : G))) = _
      rw [e2] <;> rfl⟩
  have an := any_bools (fun p : Str × Str => decide (p.1 ∈ paper) && decide (p.2 ∈ paper)) cs
  have hno : (cs.any fun p => decide (p.1 ∈ paper) && decide (p.2 ∈ paper)) = false := by
    rw [← Bool.not_eq_true, List.any_eq_true]
    intro ⟨p, hp, h⟩
    rw [Bool.and_eq_true] at h
    exact hi p hp ⟨of_decide_eq_true h.1, of_decide_eq_true h.2⟩
  have n2 : (newE (compN (seqI (varE 1)) (tgT [4, 5]) (yesT) (andE (binE inD (varE 4) (varE 0)) (binE inD (varE 5) (varE 0))) [4, 5])) ρ (0, []) = some (.list (cs.map fun p => .bool (decide (p.1 ∈ paper) && decide (p.2 ∈ paper))), (0, [])) := by
    rw [s_newE, s_compN]
    show ((if (cs.map pairD).length ≤ LINE then compL (tgT [4, 5]) yesT (andE (binE inD (varE 4) (varE 0)) (binE inD (varE 5) (varE 0))) (cs.map pairD) ρ ((0, []) : G) else none).bind _) = _
    rw [if_pos (by rw [List.length_map]; exact line_of (by omega)), c2] <;> rfl
  show (g_is_paper ρ (0, [])).bind _ = _
  unfold g_is_paper
  rw [s_seqS, a1, Option.bind_some]
  show (retS _ ρ (0, [])).bind _ = _
  rw [s_retS, s_notE, s_unE, n2, Option.bind_some, an, hno] <;> rfl
variable {b : Bk} {L R : List Str} {ms : Mt} {cs : List (Str × Str)} {s : List Str × List Str × List Str}
theorem single_nd (t : Tg b (waysOf L cs) L R ms) : (singleN L R ms).Nodup := by
  unfold singleN unm
  refine List.nodup_append.mpr ⟨t.g.nL.filter _, t.g.nR.filter _, fun a ha c hc e => ?_⟩
  subst e
  exact t.dj a (List.mem_filter.mp ha).1 (List.mem_filter.mp hc).1
theorem single_len (t : Tg b (waysOf L cs) L R ms) : (singleN L R ms).length + 2 * ms.length = L.length + R.length := by
  unfold singleN unm
  rw [List.length_append]
  have h1 := filter_out t.g.nL t.h.nv t.h.sub
  have h2 := filter_out t.g.nR t.h.kok.nd (t.h.kok.inR t.g)
  rw [List.length_map] at h1 h2
  omega
theorem pairs_lt (t : Tg b (waysOf L cs) L R ms) : (pairsN ms).Pairwise fun a b => PySem.W.dataLt (pairD a) (pairD b) = true := by
  unfold pairsN
  refine tsort_lt pairD (fun x y => pair_tot) ?_
  have h := t.h.kok.nd
  have e : (ms.map fun p => (p.2, p.1)).map (·.2) = ms.map (·.1) := by rw [List.map_map] <;> rfl
  rw [← e] at h
  exact List.Pairwise.of_map (fun p : Str × Str => p.2) (fun a c (hne : a.2 ≠ c.2) e => hne (by rw [e])) h
theorem free_mem {x : Str} : x ∈ freeN R s ↔ x ∈ s.2.1 ∨ (x ∈ R ∧ x ∉ s.2.2) := by
  unfold freeN
  rw [List.mem_append, List.mem_filter]
  simp
theorem paper_nd (t : Tg b (waysOf L cs) L R ms) (k : Kg (waysOf L cs) L R ms s) : (stepL b ++ freeN R s).Nodup := by
  have hst : ∀ x ∈ stepL b, tk b x := fun x hx => by
    obtain ⟨l, h1, _, h3⟩ := mem_stepL.mp hx
    refine ⟨l, h1, ?_⟩
    rw [← h3]
    exact minN_in t.w h1
  refine List.nodup_append.mpr ⟨stepL_nd t.w, ?_, fun a ha c hc e => ?_⟩
  · unfold freeN
    refine List.nodup_append.mpr ⟨k.nm, t.g.nR.filter _, fun a ha c hc e => ?_⟩
    subst e
    exact t.dj a (k.mL a ha) (List.mem_filter.mp hc).1
  · subst e
    rcases free_mem.mp hc with h | h
    · exact (t.inL.mp (k.mL a h)).2.2 (hst a ha)
    · exact (t.inR.mp h.1).2.2 (hst a ha)
theorem told_len (t : Tg b (waysOf L cs) L R ms) (k : Kg (waysOf L cs) L R ms s) : (toldN (stepL b) L R ms).length = (ssort (stepL b ++ freeN R s)).length := by
  unfold toldN pairsN
  rw [tsort_len, List.length_append, List.length_append, List.length_append, List.length_map, List.length_map, List.length_map, tsort_len, tsort_len, List.length_map]
  have h1 := single_len t
  have h2 := k.len
  omega
theorem shows_ok (t : Tg b (waysOf L cs) L R ms) (k : Kg (waysOf L cs) L R ms s) (hc : ∀ p ∈ cs, p.1 ∈ L ∧ p.2 ∈ R) (zc : cs.length ≤ 1000) (zL : L.length ≤ 15) (zR : R.length ≤ 15) (zs : (stepL b).length ≤ 100) :
    f_shows_hands [eBk b, .tuple (cs.map pairD), .tuple [.tuple ((toldN (stepL b) L R ms).map eHd), .tuple (strsD (ssort (stepL b ++ freeN R s)))]] = some (.bool true) := by
  let st := stepL b
  have zst : st.length ≤ 100 := zs
  let P := pairsN ms
  let S := ssort (singleN L R ms)
  let rs : List Hd := P.map (fun p => Hd.pair p.1 p.2) ++ S.map Hd.make
  let paper := ssort (stepL b ++ freeN R s)
  have hml := t.h.kok.len t.g
  have zP : P.length ≤ 15 := by
    show (pairsN ms).length ≤ 15
    unfold pairsN
    rw [tsort_len, List.length_map]
    omega
  have zS : S.length ≤ 30 := by
    show (ssort (singleN L R ms)).length ≤ 30
    rw [tsort_len]
    have := singleN_len L R ms
    omega
  have htold : (toldN (stepL b) L R ms).map eHd = (st.map fun y => eHd (.step y)) ++ rs.map eHd := by
    show (st.map Hd.step ++ P.map (fun p => Hd.pair p.1 p.2) ++ S.map Hd.make).map eHd = _
    rw [List.append_assoc, List.map_append, List.map_map] <;> rfl
  have hfl : (freeN R s).length ≤ 30 := by
    have := k.len
    omega
  have zpa : paper.length ≤ 130 := by
    show (ssort (stepL b ++ freeN R s)).length ≤ 130
    rw [tsort_len, List.length_append]
    omega
  have hst := t.w.steps
  have hla := t.w.lacking
  rw [t.hL, t.hR] at hla
  let B : TK.D := eBk b
  let C : TK.D := .tuple (cs.map pairD)
  let T : TK.D := .tuple ((toldN (stepL b) L R ms).map eHd)
  let A : TK.D := .tuple (strsD paper)
  let X : TK.D := .tuple [T, A]
  let sD : TK.D := .list (strsD st)
  let lD : TK.D := .tuple (strsD L)
  let rD : TK.D := .tuple (strsD R)
  let E0 : Env := [some B, some C, some X, none, none, none, none, none, none]
  let E1 : Env := [some B, some C, some X, none, some T, some A, none, none, none]
  let E2 : Env := [some B, some C, some X, some sD, some T, some A, none, none, none]
  let E3 : Env := [some B, some C, some X, some sD, some T, some A, some lD, some rD, none]
  have a1 : (ifS (orT (notT (valT (unE isTupD (varE 2)))) (orT (valT (binE neD (unE lenD (varE 2)) (cE (.int 2)))) (notT (valT (unE isTupD (binE idxD (varE 2) (cE (.int 0)))))))) (retS (cE (.bool false))) (nextS)) E0 (0, []) = some (.nx E0, (0, [])) := rfl
  have a2 : (tgtS (tgT [4, 5]) (varE 2)) E0 (0, []) = some (.nx E1, (0, [])) := rfl
  have a3 : (setS 3 (callE f_step_names (consA (varE 0) (nilA)))) E1 (0, []) = some (.nx E2, (0, [])) := by
    show (((f_step_names [eBk b]).bind fun z => some (z, ((0, []) : G))).bind _) = _
    rw [hst] <;> rfl
  have a4 : (tgtS (tgT [6, 7]) (callE f_lacking (consA (varE 0) (nilA)))) E2 (0, []) = some (.nx E3, (0, [])) := by
    show (((f_lacking [eBk b]).bind fun z => some (z, ((0, []) : G))).bind _) = _
    rw [hla] <;> rfl
  -- the steps
  have c5 := compL_map' PyData.str (tg := tgN 8) (el := tupE (consA (cE (.str "step")) (consA (varE 8) (nilA)))) (ρ := E3) (γ := ((0, []) : G)) (fun y => eHd (.step y)) st fun y _ => ⟨_, rfl, rfl⟩
  have n5 : (unE tupleD (newE (compN (seqI (varE 3)) (tgN 8) (yesT) (tupE (consA (cE (.str "step")) (consA (varE 8) (nilA)))) [8]))) E3 (0, []) = some (.tuple (st.map fun y => eHd (.step y)), (0, [])) := by
    have q : (newE (compN (seqI (varE 3)) (tgN 8) (yesT) (tupE (consA (cE (.str "step")) (consA (varE 8) (nilA)))) [8])) E3 (0, []) = some (.list (st.map fun y => eHd (.step y)), (0, [])) := by
      rw [s_newE, s_compN]
      show ((if (strsD st).length ≤ LINE then compL (tgN 8) yesT (tupE (consA (cE (.str "step")) (consA (varE 8) (nilA)))) (strsD st) E3 ((0, []) : G) else none).bind _) = _
      rw [if_pos (by rw [List.length_map]; exact line_of (by omega)), c5] <;> rfl
    rw [s_unE, q] <;> rfl
  have s5 : (sliceE (varE 4) (noneO) (someO (unE lenD (varE 3)))) E3 (0, []) = some (.tuple (st.map fun y => eHd (.step y)), (0, [])) := by
    show some (PyData.tuple (cutD ((toldN (stepL b) L R ms).map eHd) none (some (((strsD st).length : Nat) : Int))), ((0, []) : G)) = _
    rw [cut_to, htold, List.take_left' (by rw [List.length_map, List.length_map])]
  have hfl5 : flat 2 (.tuple (st.map fun y => eHd (.step y))) := flat_tup (n := 1) fun d h => by
    obtain ⟨y, _, rfl⟩ := List.mem_map.mp h
    exact flat_hd (.step y)
  have a5 : (ifS (valT (binE neD (sliceE (varE 4) (noneO) (someO (unE lenD (varE 3)))) (unE tupleD (newE (compN (seqI (varE 3)) (tgN 8) (yesT) (tupE (consA (cE (.str "step")) (consA (varE 8) (nilA)))) [8]))))) (retS (cE (.bool false))) (nextS)) E3 (0, []) = some (.nx E3, (0, [])) := by
    rw [s_ifS, s_valT, s_binE, s5, Option.bind_some]
    show ((((((unE tupleD (newE (compN (seqI (varE 3)) (tgN 8) (yesT) (tupE (consA (cE (.str "step")) (consA (varE 8) (nilA)))) [8]))) E3 (0, [])).bind fun y => (neD (.tuple (st.map fun y => eHd (.step y))) y.1).bind fun z => some (z, y.2)).bind _).bind _) : Option (Out × G)) = _
    rw [n5]
    show ((((neD (.tuple (st.map fun y => eHd (.step y))) (.tuple (st.map fun y => eHd (.step y)))).bind fun z => some (z, ((0, []) : G))).bind _).bind _) = _
    rw [neD_of hfl5 hfl5, eqv_refl _ hfl5.1] <;> rfl
  -- the served
  have hserv : served rs = served (toldN (stepL b) L R ms) := by
    show _ = served (st.map Hd.step ++ P.map (fun p => Hd.pair p.1 p.2) ++ S.map Hd.make)
    rw [List.append_assoc, served_app (st.map Hd.step), served_steps, List.nil_append]
  have hperm : (served rs).Perm (L ++ R) := by
    rw [hserv]
    refine (List.perm_ext_iff_of_nodup (served_nd _ t.g t.h t.dj) (List.nodup_append.mpr ⟨t.g.nL, t.g.nR, fun a ha c hc e => t.dj a ha (e ▸ hc)⟩)).mpr fun x => ?_
    rw [mem_served, List.mem_append]
    constructor
    · rintro ((h | h) | h | h)
      · exact .inl (t.h.sub x h)
      · exact .inr (t.h.kok.inR t.g x h)
      · exact .inl h.1
      · exact .inr h.1
    · rintro (h | h)
      · by_cases hv : x ∈ ms.map (·.2)
        · exact .inl (.inl hv)
        · exact .inr (.inl ⟨h, hv⟩)
      · by_cases hv : x ∈ ms.map (·.1)
        · exact .inl (.inr hv)
        · exact .inr (.inr ⟨h, hv⟩)
  have hsv := served_ok (P := P) (S := S) (L := L) (R := R) (cs := cs) (pairs_lt t) (tsort_lt PyData.str (fun x y => str_tot) (single_nd t)) (fun p hp => by
    have hm := (mem_pairsN (x := p.1) (y := p.2)).mp hp
    obtain ⟨_, os, h2, h3⟩ := t.h.kok.ok _ hm
    obtain ⟨_, h4⟩ := lkW_of h2
    rw [h4] at h3
    exact mem_waysFor.mp h3) (fun x hx => by
    have hx' := tsort_mem.mp hx
    unfold singleN unm at hx'
    exact List.mem_append.mpr ((List.mem_append.mp hx').imp (fun h => (List.mem_filter.mp h).1) fun h => (List.mem_filter.mp h).1)) hperm (by omega) (by omega) (by omega) (by omega)
  have s6 : (newE (listN (sliceE (varE 4) (someO (unE lenD (varE 3))) (noneO)))) E3 (0, []) = some (.list (rs.map eHd), (0, [])) := by
    show some (PyData.list (cutD ((toldN (stepL b) L R ms).map eHd) (some (((strsD st).length : Nat) : Int)) none), ((0, []) : G)) = _
    rw [cut_from, htold, List.drop_left' (by rw [List.length_map, List.length_map])]
  have a6 : (ifS (notT (valT (callE f_are_served (consA (newE (listN (sliceE (varE 4) (someO (unE lenD (varE 3))) (noneO)))) (consA (varE 1) (consA (varE 6) (consA (varE 7) (nilA)))))))) (retS (cE (.bool false))) (nextS)) E3 (0, []) = some (.nx E3, (0, [])) := by
    rw [s_ifS, s_notT, s_valT, s_callE, s_consA, s6, Option.bind_some]
    show ((((((f_are_served [.list (rs.map eHd), C, lD, rD]).bind fun z => some (z, ((0, []) : G)))).bind _).bind _).bind _) = _
    rw [hsv] <;> rfl
  -- the paper
  have hst' : ∀ x ∈ stepL b, tk b x := fun x hx => by
    obtain ⟨l, h1, _, h3⟩ := mem_stepL.mp hx
    refine ⟨l, h1, ?_⟩
    rw [← h3]
    exact minN_in t.w h1
  have hpa := is_paper_ok (paper := paper) (names := L ++ R ++ st) (cs := cs) (by omega) zc (tsort_lt PyData.str (fun x y => str_tot) (paper_nd t k)) (fun x hx => by
    have hx' := tsort_mem.mp hx
    rcases List.mem_append.mp hx' with h | h
    · exact List.mem_append_right _ h
    · rcases free_mem.mp h with h | h
      · exact List.mem_append_left _ (List.mem_append_left _ (k.mL x h))
      · exact List.mem_append_left _ (List.mem_append_right _ h.1)) (fun p hp ⟨h1, h2⟩ => by
    obtain ⟨hl, hr⟩ := hc p hp
    rcases List.mem_append.mp (tsort_mem.mp h1) with h1 | h1
    · exact (t.inL.mp hl).2.2 (hst' _ h1)
    rcases List.mem_append.mp (tsort_mem.mp h2) with h2 | h2
    · exact (t.inR.mp hr).2.2 (hst' _ h2)
    have e1 : p.1 ∈ s.2.1 := (free_mem.mp h1).elim id fun z => (t.dj p.1 hl z.1).elim
    have e2 : p.2 ∉ s.2.2 := (free_mem.mp h2).elim (fun z => (t.dj p.2 (k.mL _ z) hr).elim) fun z => z.2
    exact e2 (k.ind p.1 e1 _ (lkW_ways hl) p.2 (mem_waysFor.mpr hp)))
  have x1 : addD lD rD = some (.tuple (strsD (L ++ R))) := by
    show addD (.tuple (strsD L)) (.tuple (strsD R)) = _
    rw [s_addT, if_pos (by rw [List.length_map, List.length_map]; exact line_of (by omega))]
    unfold strsD
    rw [List.map_append]
  have x2 : addD (.list (strsD (L ++ R))) sD = some (.list (strsD (L ++ R ++ st))) := addL_strs _ _ (line_of (by rw [List.length_append]; omega))
  have s7 : (binE addD (newE (listN (binE addD (varE 6) (varE 7)))) (varE 3)) E3 (0, []) = some (.list (strsD (L ++ R ++ st)), (0, [])) := by
    have q : (newE (listN (binE addD (varE 6) (varE 7)))) E3 (0, []) = some (.list (strsD (L ++ R)), (0, [])) := by
      show ((((((addD lD rD).bind fun z => some (z, ((0, []) : G)))).bind _)).bind _) = _
      rw [x1] <;> rfl
    rw [s_binE, q, Option.bind_some]
    show ((addD (.list (strsD (L ++ R))) sD).bind fun z => some (z, ((0, []) : G))) = _
    rw [x2] <;> rfl
  have s8 : (callE f_is_paper (consA (varE 5) (consA (varE 1) (consA (binE addD (newE (listN (binE addD (varE 6) (varE 7)))) (varE 3)) (nilA))))) E3 (0, []) = some (.bool true, (0, [])) := by
    show (((((((binE addD (newE (listN (binE addD (varE 6) (varE 7)))) (varE 3)) E3 (0, [])).bind fun x => ((nilA E3 x.2).bind fun y => some (x.1 :: y.1, y.2))).bind fun y => some (C :: y.1, y.2)).bind fun y => some (A :: y.1, y.2)).bind fun x => (f_is_paper x.1).bind fun z => some (z, x.2))) = _
    rw [s7]
    show ((f_is_paper [A, C, .list (strsD (L ++ R ++ st))]).bind fun z => some (z, ((0, []) : G))) = _
    rw [hpa] <;> rfl
  have hlen := told_len t k
  have s9 : (binE eqD (unE lenD (varE 5)) (unE lenD (varE 4))) E3 (0, []) = some (.bool true, (0, [])) := by
    show ((eqD (.int ((strsD paper).length : Nat)) (.int (((toldN (stepL b) L R ms).map eHd).length : Nat))).bind fun z => some (z, ((0, []) : G))) = _
    rw [eqD_int, List.length_map, List.length_map, hlen, decide_eq_true rfl] <;> rfl
  show (g_shows_hands E0 (0, [])).bind _ = _
  unfold g_shows_hands
  rw [s_seqS, a1, Option.bind_some]
  show (seqS _ _ E0 (0, [])).bind _ = _
  rw [s_seqS, a2, Option.bind_some]
  show (seqS _ _ E1 (0, [])).bind _ = _
  rw [s_seqS, a3, Option.bind_some]
  show (seqS _ _ E2 (0, [])).bind _ = _
  rw [s_seqS, a4, Option.bind_some]
  show (seqS _ _ E3 (0, [])).bind _ = _
  rw [s_seqS, a5, Option.bind_some]
  show (seqS _ _ E3 (0, [])).bind _ = _
  rw [s_seqS, a6, Option.bind_some]
  show (retS _ E3 (0, [])).bind _ = _
  rw [s_retS, s_andE, s8, Option.bind_some]
  show (((binE eqD (unE lenD (varE 5)) (unE lenD (varE 4)) E3 (0, [])).bind _).bind _) = _
  rw [s9] <;> rfl
end TK.M
end
section
set_option Elab.async false
set_option linter.all false
set_option maxRecDepth 100000
set_option maxHeartbeats 4000000
/-! The draws: pick, names, moments. -/
namespace TK.M
open PySem PySem.Spec PyProof.Rows L2
structure Gok (γ : G) : Prop where
  lo : 0 ≤ γ.1
  hi : γ.1 < 2 ^ 61
  len : γ.2.length ≤ 64
theorem pick_loop (m : Int) (ρ : Env) : ∀ (f : Nat) (l : List Int), l.length < f → ∃ l', l'.length ≤ l.length ∧ whlL (andT (valT (binE gtD (drLen) (cE (.int 0)))) (valT (binE eqD (drHd) (cE (.int 0))))) (drPop) f ρ (m, l) = some (.nx ρ, (m, l'))
  | 0, l, h => absurd h (Nat.not_lt_zero _)
  | f + 1, [], _ => ⟨[], Nat.le_refl _, rfl⟩
  | f + 1, d :: t, h => by
    have h' : t.length < f := by simpa using h
    have ec : (andT (valT (binE gtD (drLen) (cE (.int 0)))) (valT (binE eqD (drHd) (cE (.int 0))))) ρ (m, d :: t) = some (decide (d = 0), (m, d :: t)) := by
      rw [s_andT]
      have q : (valT (binE gtD (drLen) (cE (.int 0)))) ρ (m, d :: t) = some (true, (m, d :: t)) := by
        show ((gtD (.int ((d :: t).length : Nat)) (.int 0)).bind fun z => some (z, ((m, d :: t) : G))).bind _ = _
        rw [gtD_int, decide_eq_true (show (0 : Int) < ((d :: t).length : Nat) by simp only [List.length_cons]; omega)] <;> rfl
      have q9 : (valT (binE eqD (drHd) (cE (.int 0)))) ρ (m, d :: t) = some (decide (d = 0), (m, d :: t)) := by
        show ((eqD (.int d) (.int 0)).bind fun z => some (z, ((m, d :: t) : G))).bind _ = _
        rw [eqD_int] <;> rfl
      rw [q, Option.bind_some]
      exact q9
    unfold whlL
    rw [ec, Option.bind_some]
    by_cases hd : d = 0
    · rw [decide_eq_true hd]
      obtain ⟨l', h1, h2⟩ := pick_loop m ρ f t h'
      exact ⟨l', Nat.le_trans h1 (Nat.le_succ _), h2⟩
    · rw [decide_eq_false hd]
      exact ⟨d :: t, Nat.le_refl _, rfl⟩
theorem modD_pos {a c : Int} (h : 0 < c) : modD (.int a) (.int c) = some (.int (a % c)) := if_pos h
theorem fdivD_pos {a c : Int} (h : 0 < c) (k : c.natAbs.log2 < 9000) : fdivD (.int a) (.int c) = some (.int (a / c)) := if_pos ⟨h, k⟩
theorem log2_le {n k : Nat} (h : n < 2 ^ k) (hk : 0 < k) : n.log2 < k := by
  by_cases e : n = 0
  · subst e
    exact hk
  · exact (Nat.log2_lt e).mpr h
theorem mulD_small {a c : Int} (h1 : a.natAbs < 2 ^ 64) (h2 : c.natAbs < 2 ^ 64) : mulD (.int a) (.int c) = some (.int (a * c)) := by
  have a1 := log2_le h1 (by decide)
  have a2 := log2_le h2 (by decide)
  exact if_pos (by omega)
theorem pow2_61 : powD (.int 2) (.int 61) = some (.int (2 ^ 61)) := rfl
theorem pick_ok {γ : G} (g : Gok γ) (k : Nat) (hk : 0 < k) (hk2 : k ≤ 1000) : ∃ (n : Nat) (γ' : G), n < k ∧ f__law_pick [.int (k : Int)] γ = some (.int (n : Int), γ') ∧ Gok γ' := by
  obtain ⟨m, l⟩ := γ
  let ρ : Env := [none, some (.int (k : Int)), none]
  obtain ⟨l', h1, h2⟩ := pick_loop m ρ 1000 l (by have := g.len; simp only at this; omega)
  have hm1 := g.lo
  have hm2 := g.hi
  have hl := g.len
  simp only at hm1 hm2 hl
  have kp : (0 : Int) < (k : Int) := by omega
  have kl : (k : Int).natAbs.log2 < 9000 := by
    have : (k : Int).natAbs < 2 ^ 10 := by rw [Int.natAbs_natCast]; omega
    have := log2_le this (by decide)
    omega
  have h2' : whlS (andT (valT (binE gtD (drLen) (cE (.int 0)))) (valT (binE eqD (drHd) (cE (.int 0))))) (drPop) ρ (m, l) = some (.nx ρ, (m, l')) := h2
  cases l' with
  | cons d t =>
    have e0 : 0 ≤ d % (k : Int) := Int.emod_nonneg _ (by omega)
    have e1 : d % (k : Int) < k := Int.emod_lt_of_pos _ kp
    refine ⟨(d % (k : Int)).toNat, (m, (d / (k : Int)) :: t), by omega, ?_, ⟨hm1, hm2, ?_⟩⟩
    · show (g__law_pick ρ (m, l)).bind _ = _
      unfold g__law_pick
      rw [s_seqS, h2', Option.bind_some]
      show (seqS (ifS _ _ _) _ ρ (m, d :: t)).bind _ = _
      have q : (valT (binE gtD (drLen) (cE (.int 0)))) ρ (m, d :: t) = some (true, (m, d :: t)) := by
        show ((gtD (.int ((d :: t).length : Nat)) (.int 0)).bind fun z => some (z, ((m, d :: t) : G))).bind _ = _
        rw [gtD_int, decide_eq_true (show (0 : Int) < ((d :: t).length : Nat) by simp only [List.length_cons]; omega)] <;> rfl
      rw [s_seqS, s_ifS, q]
      show (((seqS _ _ ρ (m, d :: t)).bind _).bind _) = _
      have q2 : (setS 2 (binE modD (drHd) (varE 1))) ρ (m, d :: t) = some (.nx [none, some (.int (k : Int)), some (.int (d % (k : Int)))], (m, d :: t)) := by
        show (((modD (.int d) (.int (k : Int))).bind fun z => some (z, ((m, d :: t) : G))).bind _) = _
        rw [modD_pos kp] <;> rfl
      rw [s_seqS, q2]
      show (((seqS _ _ [none, some (.int (k : Int)), some (.int (d % (k : Int)))] (m, d :: t)).bind _).bind _) = _
      have q3 : (drSetHd (binE fdivD (drHd) (varE 1))) [none, some (.int (k : Int)), some (.int (d % (k : Int)))] (m, d :: t) = some (.nx [none, some (.int (k : Int)), some (.int (d % (k : Int)))], (m, (d / (k : Int)) :: t)) := by
        show (((fdivD (.int d) (.int (k : Int))).bind fun z => some (z, ((m, d :: t) : G))).bind _) = _
        rw [fdivD_pos kp kl] <;> rfl
      rw [s_seqS, q3]
      show some (PyData.int (d % (k : Int)), ((m, (d / (k : Int)) :: t) : G)) = _
      rw [Int.toNat_of_nonneg e0]
    · simp only [List.length_cons] at h1 ⊢
      omega
  | nil =>
    let m1 : Int := (m * 6364136223846793005 + 1442695040888963407) % (2 ^ 61 - 1)
    have mp : (0 : Int) < 2 ^ 61 - 1 := by decide
    have m1a : 0 ≤ m1 := Int.emod_nonneg _ (by decide)
    have m1b : m1 < 2 ^ 61 - 1 := Int.emod_lt_of_pos _ mp
    let r : Int := m1 * (m1 % 65521 + 11) % (2 ^ 61 - 1) / 4099 % (k : Int)
    have e0 : 0 ≤ r := Int.emod_nonneg _ (by omega)
    have e1 : r < k := Int.emod_lt_of_pos _ kp
    refine ⟨r.toNat, (m1, []), by omega, ?_, ⟨m1a, by show m1 < 2 ^ 61; omega, Nat.zero_le _⟩⟩
    show (g__law_pick ρ (m, l)).bind _ = _
    unfold g__law_pick
    rw [s_seqS, h2', Option.bind_some]
    have q0 : (ifS (valT (binE gtD (drLen) (cE (.int 0)))) (seqS (setS 2 (binE modD (drHd) (varE 1))) (seqS (drSetHd (binE fdivD (drHd) (varE 1))) (retS (varE 2)))) (nextS)) ρ (m, []) = some (.nx ρ, (m, [])) := rfl
    show (seqS (ifS _ _ _) _ ρ (m, [])).bind _ = _
    rw [s_seqS, q0, Option.bind_some]
    show (seqS _ _ ρ (m, [])).bind _ = _
    have hmm : m.natAbs < 2 ^ 64 := by
      have : m.natAbs < 2 ^ 61 := by omega
      exact Nat.lt_of_lt_of_le this (Nat.pow_le_pow_right (by decide) (by decide))
    have hm1m : m1.natAbs < 2 ^ 64 := by
      have : m1.natAbs < 2 ^ 61 := by omega
      exact Nat.lt_of_lt_of_le this (Nat.pow_le_pow_right (by decide) (by decide))
    have w1 : mulD (.int m) (.int 6364136223846793005) = some (.int (m * 6364136223846793005)) := mulD_small hmm (by
      have : (6364136223846793005 : Int).natAbs < 2 ^ 63 := by decide
      exact Nat.lt_of_lt_of_le this (Nat.pow_le_pow_right (by decide) (by decide)))
    have q3 : (drSetMix (binE modD (binE addD (binE mulD (drMix) (cE (.int 6364136223846793005))) (cE (.int 1442695040888963407))) (binE subD (binE powD (cE (.int 2)) (cE (.int 61))) (cE (.int 1))))) ρ (m, []) = some (.nx ρ, (m1, [])) := by
      have z1 : (binE modD (binE addD (binE mulD (drMix) (cE (.int 6364136223846793005))) (cE (.int 1442695040888963407))) (binE subD (binE powD (cE (.int 2)) (cE (.int 61))) (cE (.int 1)))) ρ (m, []) = some (.int m1, (m, [])) := by
        rw [s_binE, s_binE, s_binE]
        show (((((mulD (.int m) (.int 6364136223846793005)).bind fun z => some (z, ((m, []) : G))).bind _).bind _)) = _
        rw [w1]
        show ((modD (.int (m * 6364136223846793005 + 1442695040888963407)) (.int (2 ^ 61 - 1))).bind fun z => some (z, ((m, []) : G))) = _
        rw [modD_pos mp] <;> rfl
      unfold drSetMix
      rw [z1] <;> rfl
    rw [s_seqS, q3, Option.bind_some]
    show (retS _ ρ (m1, [])).bind _ = _
    have s1 : 0 ≤ m1 % 65521 := Int.emod_nonneg _ (by decide)
    have s2 : m1 % 65521 < 65521 := Int.emod_lt_of_pos _ (by decide)
    have w2 : mulD (.int m1) (.int (m1 % 65521 + 11)) = some (.int (m1 * (m1 % 65521 + 11))) := mulD_small hm1m (by
      have : (m1 % 65521 + 11).natAbs < 2 ^ 17 := by omega
      exact Nat.lt_of_lt_of_le this (Nat.pow_le_pow_right (by decide) (by decide)))
    have q4 : (binE modD (binE fdivD (binE modD (binE mulD (drMix) (binE addD (binE modD (drMix) (cE (.int 65521))) (cE (.int 11)))) (binE subD (binE powD (cE (.int 2)) (cE (.int 61))) (cE (.int 1)))) (cE (.int 4099))) (varE 1)) ρ (m1, []) = some (.int r, (m1, [])) := by
      have z1 : (binE addD (binE modD (drMix) (cE (.int 65521))) (cE (.int 11))) ρ (m1, []) = some (.int (m1 % 65521 + 11), (m1, [])) := rfl
      have z2 : (binE mulD (drMix) (binE addD (binE modD (drMix) (cE (.int 65521))) (cE (.int 11)))) ρ (m1, []) = some (.int (m1 * (m1 % 65521 + 11)), (m1, [])) := by
        rw [s_binE]
        show ((((binE addD (binE modD (drMix) (cE (.int 65521))) (cE (.int 11))) ρ (m1, [])).bind fun y => (mulD (.int m1) y.1).bind fun z => some (z, y.2))) = _
        rw [z1]
        show ((mulD (.int m1) (.int (m1 % 65521 + 11))).bind fun z => some (z, ((m1, []) : G))) = _
        rw [w2] <;> rfl
      have z3 : (binE modD (binE mulD (drMix) (binE addD (binE modD (drMix) (cE (.int 65521))) (cE (.int 11)))) (binE subD (binE powD (cE (.int 2)) (cE (.int 61))) (cE (.int 1)))) ρ (m1, []) = some (.int (m1 * (m1 % 65521 + 11) % (2 ^ 61 - 1)), (m1, [])) := by
        rw [s_binE, z2, Option.bind_some]
        show ((modD (.int (m1 * (m1 % 65521 + 11))) (.int (2 ^ 61 - 1))).bind fun z => some (z, ((m1, []) : G))) = _
        rw [modD_pos mp] <;> rfl
      have z4 : (binE fdivD (binE modD (binE mulD (drMix) (binE addD (binE modD (drMix) (cE (.int 65521))) (cE (.int 11)))) (binE subD (binE powD (cE (.int 2)) (cE (.int 61))) (cE (.int 1)))) (cE (.int 4099))) ρ (m1, []) = some (.int (m1 * (m1 % 65521 + 11) % (2 ^ 61 - 1) / 4099), (m1, [])) := by
        rw [s_binE, z3, Option.bind_some]
        show ((fdivD (.int (m1 * (m1 % 65521 + 11) % (2 ^ 61 - 1))) (.int 4099)).bind fun z => some (z, ((m1, []) : G))) = _
        rw [fdivD_pos (by decide) (by
          have : (4099 : Int).natAbs < 2 ^ 13 := by decide
          have := log2_le this (by decide)
          omega)] <;> rfl
      rw [s_binE, z4, Option.bind_some]
      show ((modD (.int (m1 * (m1 % 65521 + 11) % (2 ^ 61 - 1) / 4099)) (.int (k : Int))).bind fun z => some (z, ((m1, []) : G))) = _
      rw [modD_pos kp] <;> rfl
    rw [s_retS, q4]
    show some (PyData.int r, ((m1, []) : G)) = _
    rw [Int.toNat_of_nonneg e0]
/-! ### the draws' start -/
theorem powD_ok {a : Int} {n : Nat} (h : a.natAbs < 2 ^ 64) (k : n ≤ 1000000) : powD (.int a) (.int (n : Int)) = some (.int (a ^ n)) := by
  show (if 0 ≤ (n : Int) ∧ (n : Int) ≤ 1000000 ∧ a.natAbs < 2 ^ 64 then some (PyData.int (a ^ (n : Int).toNat)) else none) = _
  rw [if_pos ⟨by omega, by omega, h⟩, Int.toNat_natCast]
end TK.M
end
section
set_option Elab.async false
set_option linter.all false
set_option maxRecDepth 100000
set_option maxHeartbeats 4000000
/-! The draws: names, moments. -/
namespace TK.M
open PySem PySem.Spec PyProof.Rows L2
def lets : Str := "abcdefghijklmnopqrstuvwxyz"
def ltr (i : Nat) : Nat := lets.cps.toList.getD i 0
theorem lets_len : lets.cps.toList.length = 26 := by decide +kernel
theorem lets_line : lets.length ≤ LINE := by decide +kernel
theorem ltr_all : ((List.range 26).all fun i => (List.range 26).all fun j => decide (ltr i = ltr j → i = j)) = true := by decide +kernel
theorem ltr_inj {i j : Nat} (hi : i < 26) (hj : j < 26) (h : ltr i = ltr j) : i = j :=
  of_decide_eq_true (List.all_eq_true.mp (List.all_eq_true.mp ltr_all i (List.mem_range.mpr hi)) j (List.mem_range.mpr hj)) h
theorem idx_let {i : Nat} (h : i < 26) : idxD (.str lets) (.int (i : Int)) = some (.str ⟨#[ltr i]⟩) := by
  show (if lets.length ≤ LINE then (atI lets.cps.toList (i : Int)).map fun c => PyData.str ⟨#[c]⟩ else none) = _
  rw [if_pos lets_line]
  have hl : i < lets.cps.toList.length := by rw [lets_len]; exact h
  have : lets.cps.toList[i]? = some (ltr i) := by
    unfold ltr
    rw [List.getD_eq_getElem?_getD, List.getElem?_eq_getElem hl] <;> rfl
  rw [atI_nat this] <;> rfl
theorem pickE {k : Nat} {ρ : Env} {γ : G} : callGE f__law_pick (consA (cE (.int (k : Int))) (nilA)) ρ γ = f__law_pick [.int (k : Int)] γ := rfl
def nameK (f s m c k : Nat) : Str := ⟨#[ltr ((f + s * k) % 26)]⟩ ++ Txt.mul ⟨#[c]⟩ (((k * k + f) % m : Nat) : Int)
theorem mul_len (c e : Nat) (h : e < 4) : (Txt.mul ⟨#[c]⟩ (e : Int)).length ≤ 10 := by
  rcases (by omega : e = 0 ∨ e = 1 ∨ e = 2 ∨ e = 3) with rfl | rfl | rfl | rfl
  · exact (by decide : 0 ≤ 10)
  · exact (by decide : 1 ≤ 10)
  · exact (by decide : 2 ≤ 10)
  · exact (by decide : 3 ≤ 10)
theorem name_head {a : Nat} {t : Str} : ((⟨#[a]⟩ : Str) ++ t).cps.toList.head? = some a := by
  show (#[a] ++ t.cps).toList.head? = some a
  rw [Array.toList_append] <;> rfl
theorem nameK_inj {f s m c : Nat} (hs : s ∈ [1, 3, 5, 7, 9, 11]) {k k' : Nat} (hk : k < 26) (hk' : k' < 26) (h : nameK f s m c k = nameK f s m c k') : k = k' := by
  have h1 : ltr ((f + s * k) % 26) = ltr ((f + s * k') % 26) := by
    have := congrArg (fun x : Str => x.cps.toList.head?) h
    simp only [nameK, name_head, Option.some.injEq] at this
    exact this
  have h2 := ltr_inj (Nat.mod_lt _ (by decide)) (Nat.mod_lt _ (by decide)) h1
  simp only [List.mem_cons, List.not_mem_nil, or_false] at hs
  rcases hs with rfl | rfl | rfl | rfl | rfl | rfl <;> omega
theorem nameK_ne (f s m c k : Nat) : nameK f s m c k ≠ "" := fun h => by
  have := congrArg (fun x : Str => x.cps.toList.head?) h
  simp only [nameK, name_head] at this
  cases this
theorem names_ok {n : Nat} (hn : n ≤ 24) {γ : G} (g : Gok γ) : ∃ (l : List Str) (γ' : G), f__law_names [.int (n : Int)] γ = some (.list (strsD l), γ') ∧ Gok γ' ∧ l.length = n ∧ l.Nodup ∧ ∀ x ∈ l, x ≠ "" := by
  let N : TK.D := .int (n : Int)
  obtain ⟨p, γ1, p1, p2, g1⟩ := pick_ok g 26 (by decide) (by decide)
  obtain ⟨q, γ2, q1, q2, g2⟩ := pick_ok g1 3 (by decide) (by decide)
  obtain ⟨u, γ3, u1, u2, g3⟩ := pick_ok g2 6 (by decide) (by decide)
  obtain ⟨v, γ4, v1, v2, g4⟩ := pick_ok g3 4 (by decide) (by decide)
  obtain ⟨w, γ5, w1, w2, g5⟩ := pick_ok g4 26 (by decide) (by decide)
  let LT : TK.D := .str lets
  -- first
  obtain ⟨f, hf, a1⟩ : ∃ f : Nat, f < 26 ∧ (setS 3 (binE mulD (callGE f__law_pick (consA (cE (.int 26)) (nilA))) (unE intD (binE gtD (callGE f__law_pick (consA (cE (.int 3)) (nilA))) (cE (.int 0)))))) [none, some N, some LT, none, none, none, none, none, none, none] γ = some (.nx [none, some N, some LT, some (.int (f : Int)), none, none, none, none, none, none], γ2) := by
    have e1 : (unE intD (binE gtD (callGE f__law_pick (consA (cE (.int 3)) (nilA))) (cE (.int 0)))) [none, some N, some LT, none, none, none, none, none, none, none] γ1 = some (.int (if decide (0 < (q : Int)) then 1 else 0), γ2) := by
      show ((((f__law_pick [.int ((3 : Nat) : Int)] γ1).bind fun x => (gtD x.1 (.int 0)).bind fun z => some (z, x.2))).bind fun x => (intD x.1).bind fun z => some (z, x.2)) = _
      rw [q2]
      show (((gtD (.int (q : Int)) (.int 0)).bind fun z => some (z, γ2)).bind fun x => (intD x.1).bind fun z => some (z, x.2)) = _
      rw [gtD_int] <;> rfl
    have e2 : (binE mulD (callGE f__law_pick (consA (cE (.int 26)) (nilA))) (unE intD (binE gtD (callGE f__law_pick (consA (cE (.int 3)) (nilA))) (cE (.int 0))))) [none, some N, some LT, none, none, none, none, none, none, none] γ = some (.int ((p : Int) * (if decide (0 < (q : Int)) then 1 else 0)), γ2) := by
      rw [s_binE]
      show ((f__law_pick [.int ((26 : Nat) : Int)] γ).bind _) = _
      rw [p2]
      show ((unE intD _ [none, some N, some LT, none, none, none, none, none, none, none] γ1).bind fun y => (mulD (.int (p : Int)) y.1).bind fun z => some (z, y.2)) = _
      rw [e1]
      show ((mulD (.int (p : Int)) (.int (if decide (0 < (q : Int)) then 1 else 0))).bind fun z => some (z, γ2)) = _
      rw [mulD_small (by rw [Int.natAbs_natCast]; omega) (by split <;> decide)] <;> rfl
    by_cases hq : (0 : Int) < (q : Int)
    · refine ⟨p, p1, ?_⟩
      rw [s_setS, e2, decide_eq_true hq, if_pos rfl, Int.mul_one] <;> rfl
    · refine ⟨0, by decide, ?_⟩
      rw [s_setS, e2, decide_eq_false hq, if_neg Bool.false_ne_true, Int.mul_zero] <;> rfl
  -- step
  obtain ⟨s, hs, a2⟩ : ∃ s : Nat, s ∈ [1, 3, 5, 7, 9, 11] ∧ (setS 4 (binE idxD (newE (lstN (consA (cE (.int 1)) (consA (cE (.int 3)) (consA (cE (.int 5)) (consA (cE (.int 7)) (consA (cE (.int 9)) (consA (cE (.int 11)) (nilA))))))))) (callGE f__law_pick (consA (cE (.int 6)) (nilA))))) [none, some N, some LT, some (.int (f : Int)), none, none, none, none, none, none] γ2 = some (.nx [none, some N, some LT, some (.int (f : Int)), some (.int (s : Int)), none, none, none, none, none], γ3) := by
    have e : ∀ s : Int, idxD (.list [.int 1, .int 3, .int 5, .int 7, .int 9, .int 11]) (.int (u : Int)) = some (.int s) → (setS 4 (binE idxD (newE (lstN (consA (cE (.int 1)) (consA (cE (.int 3)) (consA (cE (.int 5)) (consA (cE (.int 7)) (consA (cE (.int 9)) (consA (cE (.int 11)) (nilA))))))))) (callGE f__law_pick (consA (cE (.int 6)) (nilA))))) [none, some N, some LT, some (.int (f : Int)), none, none, none, none, none, none] γ2 = some (.nx [none, some N, some LT, some (.int (f : Int)), some (.int s), none, none, none, none, none], γ3) := fun s he => by
      rw [s_setS, s_binE]
      show ((((f__law_pick [.int ((6 : Nat) : Int)] γ2).bind fun y => (idxD (.list [.int 1, .int 3, .int 5, .int 7, .int 9, .int 11]) y.1).bind fun z => some (z, y.2))).bind _) = _
      rw [u2]
      show (((idxD (.list [.int 1, .int 3, .int 5, .int 7, .int 9, .int 11]) (.int (u : Int))).bind fun z => some (z, γ3)).bind _) = _
      rw [he] <;> rfl
    rcases (by omega : u = 0 ∨ u = 1 ∨ u = 2 ∨ u = 3 ∨ u = 4 ∨ u = 5) with h | h | h | h | h | h
    · exact ⟨1, by decide, e 1 (by rw [h] <;> rfl)⟩
    · exact ⟨3, by decide, e 3 (by rw [h] <;> rfl)⟩
    · exact ⟨5, by decide, e 5 (by rw [h] <;> rfl)⟩
    · exact ⟨7, by decide, e 7 (by rw [h] <;> rfl)⟩
    · exact ⟨9, by decide, e 9 (by rw [h] <;> rfl)⟩
    · exact ⟨11, by decide, e 11 (by rw [h] <;> rfl)⟩
  let m : Nat := 1 + v
  have hm : m = 1 + v := rfl
  have a3 : (setS 5 (binE addD (cE (.int 1)) (callGE f__law_pick (consA (cE (.int 4)) (nilA))))) [none, some N, some LT, some (.int (f : Int)), some (.int (s : Int)), none, none, none, none, none] γ3 = some (.nx [none, some N, some LT, some (.int (f : Int)), some (.int (s : Int)), some (.int (m : Int)), none, none, none, none], γ4) := by
    show ((((f__law_pick [.int ((4 : Nat) : Int)] γ3).bind fun y => (addD (.int 1) y.1).bind fun z => some (z, y.2))).bind _) = _
    rw [v2]
    show some (Out.nx [none, some N, some LT, some (.int (f : Int)), some (.int (s : Int)), some (.int (1 + (v : Int))), none, none, none, none], γ4) = _
    rw [show (1 + (v : Int)) = (m : Int) by omega]
  let c : Nat := ltr w
  let TL : TK.D := .str ⟨#[c]⟩
  have a4 : (setS 6 (binE idxD (varE 2) (callGE f__law_pick (consA (cE (.int 26)) (nilA))))) [none, some N, some LT, some (.int (f : Int)), some (.int (s : Int)), some (.int (m : Int)), none, none, none, none] γ4 = some (.nx [none, some N, some LT, some (.int (f : Int)), some (.int (s : Int)), some (.int (m : Int)), some TL, none, none, none], γ5) := by
    show ((((f__law_pick [.int ((26 : Nat) : Int)] γ4).bind fun y => (idxD LT y.1).bind fun z => some (z, y.2))).bind _) = _
    rw [w2]
    show (((idxD (.str lets) (.int (w : Int))).bind fun z => some (z, γ5)).bind _) = _
    rw [idx_let w1] <;> rfl
  let nk := nameK f s m c
  obtain ⟨ρ', γ', h1, ⟨v8, v9, h2⟩, h3⟩ := forL_all (fun k : Nat => (.int (k : Int) : TK.D)) (fun don ρ γ => (∃ v8 v9, ρ = [none, some N, some LT, some (.int (f : Int)), some (.int (s : Int)), some (.int (m : Int)), some TL, some (.list (strsD (don.map nk))), v8, v9]) ∧ γ = γ5) (tg := tgN 8)
    (b := seqS (setS 9 (binE idxD (varE 2) (binE modD (binE addD (varE 3) (binE mulD (varE 4) (varE 8))) (cE (.int 26))))) (appS 7 (binE addD (varE 9) (binE mulD (varE 6) (binE modD (binE addD (binE mulD (varE 8) (varE 8)) (varE 3)) (varE 5)))))) (List.range n) [none, some N, some LT, some (.int (f : Int)), some (.int (s : Int)), some (.int (m : Int)), some TL, some (.list []), none, none] γ5 (fun don k rest e ρ γ z => by
      obtain ⟨⟨v8, v9, rfl⟩, rfl⟩ := z
      have hk : k < n := List.mem_range.mp (by rw [e]; simp)
      have hdl : don.length ≤ 24 := by
        have := congrArg List.length e
        rw [List.length_range, List.length_append] at this
        omega
      have hs' : s < 12 := by
        simp only [List.mem_cons, List.not_mem_nil, or_false] at hs
        omega
      let x9 : TK.D := .str ⟨#[ltr ((f + s * k) % 26)]⟩
      let E : Env := [none, some N, some LT, some (.int (f : Int)), some (.int (s : Int)), some (.int (m : Int)), some TL, some (.list (strsD (don.map nk))), some (.int (k : Int)), v9]
      let E2 : Env := [none, some N, some LT, some (.int (f : Int)), some (.int (s : Int)), some (.int (m : Int)), some TL, some (.list (strsD (don.map nk))), some (.int (k : Int)), some x9]
      have m1 : mulD (.int (s : Int)) (.int (k : Int)) = some (.int ((s : Int) * (k : Int))) := mulD_small (by rw [Int.natAbs_natCast]; omega) (by rw [Int.natAbs_natCast]; omega)
      have m2 : mulD (.int (k : Int)) (.int (k : Int)) = some (.int ((k : Int) * (k : Int))) := mulD_small (by rw [Int.natAbs_natCast]; omega) (by rw [Int.natAbs_natCast]; omega)
      have b1 : (setS 9 (binE idxD (varE 2) (binE modD (binE addD (varE 3) (binE mulD (varE 4) (varE 8))) (cE (.int 26))))) E γ = some (.nx E2, γ) := by
        have y1 : (binE modD (binE addD (varE 3) (binE mulD (varE 4) (varE 8))) (cE (.int 26))) E γ = some (.int (((f + s * k) % 26 : Nat) : Int), γ) := by
          rw [s_binE, s_binE]
          show (((((mulD (.int (s : Int)) (.int (k : Int))).bind fun z => some (z, γ)).bind fun y => (addD (.int (f : Int)) y.1).bind fun z => some (z, y.2)).bind fun x => ((cE (.int 26)) E x.2).bind fun y => (modD x.1 y.1).bind fun z => some (z, y.2))) = _
          rw [m1]
          show ((modD (.int ((f : Int) + (s : Int) * (k : Int))) (.int 26)).bind fun z => some (z, γ)) = _
          rw [modD_pos (by decide), show ((f : Int) + (s : Int) * (k : Int)) % 26 = (((f + s * k) % 26 : Nat) : Int) by push_cast; rfl] <;> rfl
        rw [s_setS, s_binE]
        show ((((binE modD (binE addD (varE 3) (binE mulD (varE 4) (varE 8))) (cE (.int 26))) E γ).bind fun y => (idxD LT y.1).bind fun z => some (z, y.2)).bind _) = _
        rw [y1]
        show (((idxD (.str lets) (.int (((f + s * k) % 26 : Nat) : Int))).bind fun z => some (z, γ)).bind _) = _
        rw [idx_let (Nat.mod_lt _ (by decide))] <;> rfl
      have hem : (k * k + f) % m < 4 := Nat.lt_of_lt_of_le (Nat.mod_lt _ (by omega)) (by omega)
      have b2 : (binE addD (varE 9) (binE mulD (varE 6) (binE modD (binE addD (binE mulD (varE 8) (varE 8)) (varE 3)) (varE 5)))) E2 γ = some (.str (nk k), γ) := by
        have y1 : (binE modD (binE addD (binE mulD (varE 8) (varE 8)) (varE 3)) (varE 5)) E2 γ = some (.int (((k * k + f) % m : Nat) : Int), γ) := by
          rw [s_binE, s_binE, s_binE]
          show ((((((mulD (.int (k : Int)) (.int (k : Int))).bind fun z => some (z, γ)).bind fun x => ((varE 3) E2 x.2).bind fun y => (addD x.1 y.1).bind fun z => some (z, y.2))).bind fun x => ((varE 5) E2 x.2).bind fun y => (modD x.1 y.1).bind fun z => some (z, y.2))) = _
          rw [m2]
          show ((modD (.int ((k : Int) * (k : Int) + (f : Int))) (.int (m : Int))).bind fun z => some (z, γ)) = _
          rw [modD_pos (by omega), show ((k : Int) * (k : Int) + (f : Int)) % (m : Int) = (((k * k + f) % m : Nat) : Int) by push_cast; rfl] <;> rfl
        have y2 : mulD (.str ⟨#[c]⟩) (.int (((k * k + f) % m : Nat) : Int)) = some (.str (Txt.mul ⟨#[c]⟩ (((k * k + f) % m : Nat) : Int))) := if_pos ⟨by omega, by omega, (by decide : 1 ≤ 1000)⟩
        have y3 : addD x9 (.str (Txt.mul ⟨#[c]⟩ (((k * k + f) % m : Nat) : Int))) = some (.str (nk k)) := by
          have h1 := mul_len c _ hem
          exact if_pos (line_of (show 1 + (Txt.mul ⟨#[c]⟩ (((k * k + f) % m : Nat) : Int)).length ≤ 10000 by omega))
        rw [s_binE]
        show ((((binE mulD (varE 6) (binE modD (binE addD (binE mulD (varE 8) (varE 8)) (varE 3)) (varE 5))) E2 γ).bind fun y => (addD x9 y.1).bind fun z => some (z, y.2))) = _
        rw [s_binE]
        show (((((binE modD (binE addD (binE mulD (varE 8) (varE 8)) (varE 3)) (varE 5)) E2 γ).bind fun y => (mulD TL y.1).bind fun z => some (z, y.2))).bind fun y => (addD x9 y.1).bind fun z => some (z, y.2)) = _
        rw [y1]
        show (((mulD (.str ⟨#[c]⟩) (.int (((k * k + f) % m : Nat) : Int))).bind fun z => some (z, γ)).bind fun y => (addD x9 y.1).bind fun z => some (z, y.2)) = _
        rw [y2]
        show ((addD x9 (.str (Txt.mul ⟨#[c]⟩ (((k * k + f) % m : Nat) : Int)))).bind fun z => some (z, γ)) = _
        rw [y3] <;> rfl
      refine ⟨E, [none, some N, some LT, some (.int (f : Int)), some (.int (s : Int)), some (.int (m : Int)), some TL, some (.list (strsD ((don ++ [k]).map nk))), some (.int (k : Int)), some x9], γ, rfl, ?_, ⟨_, _, rfl⟩, rfl⟩
      rw [s_seqS, b1, Option.bind_some]
      show appS 7 _ E2 γ = _
      rw [s_appS]
      show ((binE addD (varE 9) (binE mulD (varE 6) (binE modD (binE addD (binE mulD (varE 8) (varE 8)) (varE 3)) (varE 5))) E2 γ).bind _) = _
      rw [b2]
      show (if (strsD (don.map nk)).length < LINE then some (Out.nx [none, some N, some LT, some (.int (f : Int)), some (.int (s : Int)), some (.int (m : Int)), some TL, some (.list (strsD (don.map nk) ++ [.str (nk k)])), some (.int (k : Int)), some x9], γ) else none) = _
      rw [if_pos (by rw [List.length_map, List.length_map]; exact Nat.lt_of_le_of_lt hdl (by decide))]
      unfold strsD
      rw [List.map_append (l₁ := don), List.map_append] <;> rfl) ⟨⟨none, none, rfl⟩, rfl⟩
  subst h2 h3
  refine ⟨(List.range n).map nk, γ', ?_, g5, by rw [List.length_map, List.length_range], map_nodup List.nodup_range fun k hk k' hk' e => nameK_inj hs (by have := List.mem_range.mp hk; omega) (by have := List.mem_range.mp hk'; omega) e, fun x hx => ?_⟩
  · show (g__law_names [none, some N, none, none, none, none, none, none, none, none] γ).bind _ = _
    unfold g__law_names
    rw [s_seqS]
    show (seqS _ _ [none, some N, some LT, none, none, none, none, none, none, none] γ).bind _ = _
    rw [s_seqS, a1, Option.bind_some]
    show (seqS _ _ [none, some N, some LT, some (.int (f : Int)), none, none, none, none, none, none] γ2).bind _ = _
    rw [s_seqS, a2, Option.bind_some]
    show (seqS _ _ [none, some N, some LT, some (.int (f : Int)), some (.int (s : Int)), none, none, none, none, none] γ3).bind _ = _
    rw [s_seqS, a3, Option.bind_some]
    show (seqS _ _ [none, some N, some LT, some (.int (f : Int)), some (.int (s : Int)), some (.int (m : Int)), none, none, none, none] γ4).bind _ = _
    rw [s_seqS, a4, Option.bind_some]
    show (seqS _ _ [none, some N, some LT, some (.int (f : Int)), some (.int (s : Int)), some (.int (m : Int)), some TL, none, none, none] γ').bind _ = _
    rw [s_seqS]
    show (seqS _ _ [none, some N, some LT, some (.int (f : Int)), some (.int (s : Int)), some (.int (m : Int)), some TL, some (.list []), none, none] γ').bind _ = _
    have hr : rngI (varE 1) [none, some N, some LT, some (.int (f : Int)), some (.int (s : Int)), some (.int (m : Int)), some TL, some (.list []), none, none] γ' = some ((List.range n).map fun k : Nat => .int (k : Int), γ') := by
      show (if (n : Int) ≤ 100000 ∧ -100000 ≤ (n : Int) then some ((List.range (n : Int).toNat).map fun k : Nat => PyData.int (k : Int), γ') else none) = _
      rw [if_pos ⟨by omega, by omega⟩, Int.toNat_natCast]
    rw [s_seqS, s_forS, hr, Option.bind_some]
    show ((forL _ _ ((List.range n).map fun k : Nat => .int (k : Int)) _ _).bind _).bind _ = _
    rw [h1] <;> rfl
  · obtain ⟨k, _, rfl⟩ := List.mem_map.mp hx
    exact nameK_ne f s m c k
end TK.M
end
section
set_option Elab.async false
set_option linter.all false
set_option maxRecDepth 100000
set_option maxHeartbeats 4000000
/-! The draws: moments, text. -/
namespace TK.M
open PySem PySem.Spec PyProof.Rows L2
theorem intsD_ok : ∀ l : List Int, intsD (intsL l) = some l
  | [] => rfl
  | x :: l => by
    show (intsD (intsL l)).map (x :: ·) = _
    rw [intsD_ok l] <;> rfl
theorem sum_ok (l : List Int) : sumD (.list (intsL l)) = some (.int l.sum) := by
  show ((intsD (intsL l)).map _) = _
  rw [intsD_ok] <;> rfl
theorem cut_ints (l : List Int) (lo hi : Option Int) : ∃ l', cutD (intsL l) lo hi = intsL l' := by
  unfold cutD intsL
  rw [← List.map_drop, ← List.map_take]
  exact ⟨_, rfl⟩
theorem bool_int (c : Bool) : intD (.bool c) = some (.int (if c then 1 else 0)) := rfl
/-- 10**11 * int(pick(12) == 11) -/
theorem great_ok {ρ : Env} {γ : G} (g : Gok γ) : ∃ (j : Int) (γ' : G), (binE mulD (binE powD (cE (.int 10)) (cE (.int 11))) (unE intD (binE eqD (callGE f__law_pick (consA (cE (.int 12)) (nilA))) (cE (.int 11))))) ρ γ = some (.int j, γ') ∧ Gok γ' := by
  obtain ⟨p, γ1, p1, p2, g1⟩ := pick_ok g 12 (by decide) (by decide)
  refine ⟨10 ^ 11 * (if decide ((p : Int) = 11) then 1 else 0), γ1, ?_, g1⟩
  rw [s_binE]
  have e0 : (binE powD (cE (.int 10)) (cE (.int 11))) ρ γ = some (.int (10 ^ 11), γ) := rfl
  rw [e0, Option.bind_some]
  have e1 : (unE intD (binE eqD (callGE f__law_pick (consA (cE (.int 12)) (nilA))) (cE (.int 11)))) ρ γ = some (.int (if decide ((p : Int) = 11) then 1 else 0), γ1) := by
    show ((((f__law_pick [.int ((12 : Nat) : Int)] γ).bind fun x => (eqD x.1 (.int 11)).bind fun z => some (z, x.2))).bind fun x => (intD x.1).bind fun z => some (z, x.2)) = _
    rw [p2]
    show (((eqD (.int (p : Int)) (.int 11)).bind fun z => some (z, γ1)).bind fun x => (intD x.1).bind fun z => some (z, x.2)) = _
    rw [eqD_int] <;> rfl
  show (((unE intD (binE eqD (callGE f__law_pick (consA (cE (.int 12)) (nilA))) (cE (.int 11)))) ρ γ).bind fun y => (mulD (.int (10 ^ 11)) y.1).bind fun z => some (z, y.2)) = _
  rw [e1]
  show ((mulD (.int (10 ^ 11)) (.int (if decide ((p : Int) = 11) then 1 else 0))).bind fun z => some (z, γ1)) = _
  rw [mulD_small (by decide) (by split <;> decide)] <;> rfl
theorem moments_ok {n : Nat} (hn : n ≤ 1) {γ : G} (g : Gok γ) : ∃ (l : List Int) (γ' : G), f__law_moments [.int (n : Int)] γ = some (.tuple (intsL l), γ') ∧ Gok γ' ∧ l.length ≤ 3 := by
  let N : TK.D := .int (n : Int)
  obtain ⟨q, γ1, q1, q2, g1⟩ := pick_ok g 3 (by decide) (by decide)
  obtain ⟨ρ', γ', h1, ⟨l, v3, v4, h2, h3⟩, h4⟩ := forL_all (fun k : Nat => (.int (k : Int) : TK.D)) (fun don ρ γ => (∃ (l : List Int) (v3 v4 : Option TK.D), ρ = [none, some N, some (.list (intsL l)), v3, v4] ∧ l.length = don.length) ∧ Gok γ) (tg := tgN 3)
    (b := seqS (setS 4 (binE addD (cE (.int 1)) (callGE f__law_pick (consA (cE (.int 6)) (nilA))))) (seqS (ifS (valT (binE eqD (varE 3) (cE (.int 0)))) (setS 4 (binE addD (callGE f__law_pick (consA (cE (.int 9)) (nilA))) (binE mulD (binE powD (cE (.int 10)) (cE (.int 11))) (unE intD (binE eqD (callGE f__law_pick (consA (cE (.int 12)) (nilA))) (cE (.int 11))))))) (nextS)) (appS 2 (binE addD (unE sumD (sliceE (varE 2) (someO (unE negD (cE (.int 1)))) (noneO))) (varE 4)))))
    (List.range (n + q)) [none, some N, some (.list []), none, none] γ1 (fun don k rest e ρ γ z => by
      obtain ⟨⟨l, v3, v4, rfl, hl⟩, g⟩ := z
      have hdl : don.length ≤ 3 := by
        have := congrArg List.length e
        rw [List.length_range, List.length_append] at this
        omega
      obtain ⟨p, γ2, p1, p2, g2⟩ := pick_ok g 6 (by decide) (by decide)
      have b1 : (setS 4 (binE addD (cE (.int 1)) (callGE f__law_pick (consA (cE (.int 6)) (nilA))))) [none, some N, some (.list (intsL l)), some (.int (k : Int)), v4] γ = some (.nx [none, some N, some (.list (intsL l)), some (.int (k : Int)), some (.int (1 + (p : Int)))], γ2) := by
        show ((((f__law_pick [.int ((6 : Nat) : Int)] γ).bind fun y => (addD (.int 1) y.1).bind fun z => some (z, y.2))).bind _) = _
        rw [p2] <;> rfl
      obtain ⟨j, γ3, b2, g3⟩ : ∃ (j : Int) (γ3 : G), (ifS (valT (binE eqD (varE 3) (cE (.int 0)))) (setS 4 (binE addD (callGE f__law_pick (consA (cE (.int 9)) (nilA))) (binE mulD (binE powD (cE (.int 10)) (cE (.int 11))) (unE intD (binE eqD (callGE f__law_pick (consA (cE (.int 12)) (nilA))) (cE (.int 11))))))) (nextS)) [none, some N, some (.list (intsL l)), some (.int (k : Int)), some (.int (1 + (p : Int)))] γ2 = some (.nx [none, some N, some (.list (intsL l)), some (.int (k : Int)), some (.int j)], γ3) ∧ Gok γ3 := by
        have t : (valT (binE eqD (varE 3) (cE (.int 0)))) [none, some N, some (.list (intsL l)), some (.int (k : Int)), some (.int (1 + (p : Int)))] γ2 = some (decide ((k : Int) = 0), γ2) := by
          show (((eqD (.int (k : Int)) (.int 0)).bind fun z => some (z, γ2)).bind _) = _
          rw [eqD_int] <;> rfl
        by_cases hk : (k : Int) = 0
        · obtain ⟨u, γ4, u1, u2, g4⟩ := pick_ok g2 9 (by decide) (by decide)
          obtain ⟨w, γ5, w1, w2⟩ := great_ok (ρ := [none, some N, some (.list (intsL l)), some (.int (k : Int)), some (.int (1 + (p : Int)))]) g4
          refine ⟨(u : Int) + w, γ5, ?_, w2⟩
          rw [s_ifS, t, decide_eq_true hk, Option.bind_some]
          show ((((f__law_pick [.int ((9 : Nat) : Int)] γ2).bind fun x => ((binE mulD (binE powD (cE (.int 10)) (cE (.int 11))) (unE intD (binE eqD (callGE f__law_pick (consA (cE (.int 12)) (nilA))) (cE (.int 11))))) [none, some N, some (.list (intsL l)), some (.int (k : Int)), some (.int (1 + (p : Int)))] x.2).bind fun y => (addD x.1 y.1).bind fun z => some (z, y.2))).bind _) = _
          rw [u2]
          show ((((binE mulD (binE powD (cE (.int 10)) (cE (.int 11))) (unE intD (binE eqD (callGE f__law_pick (consA (cE (.int 12)) (nilA))) (cE (.int 11))))) [none, some N, some (.list (intsL l)), some (.int (k : Int)), some (.int (1 + (p : Int)))] γ4).bind fun y => (addD (.int (u : Int)) y.1).bind fun z => some (z, y.2)).bind _) = _
          rw [w1] <;> rfl
        · refine ⟨1 + (p : Int), γ2, ?_, g2⟩
          rw [s_ifS, t, decide_eq_false hk] <;> rfl
      obtain ⟨l', hl'⟩ := cut_ints l (some (-1)) none
      have b3 : (appS 2 (binE addD (unE sumD (sliceE (varE 2) (someO (unE negD (cE (.int 1)))) (noneO))) (varE 4))) [none, some N, some (.list (intsL l)), some (.int (k : Int)), some (.int j)] γ3 = some (.nx [none, some N, some (.list (intsL (l ++ [l'.sum + j]))), some (.int (k : Int)), some (.int j)], γ3) := by
        show ((((sumD (.list (cutD (intsL l) (some (-1)) none))).bind fun z => some (z, γ3)).bind fun x => ((varE 4) [none, some N, some (.list (intsL l)), some (.int (k : Int)), some (.int j)] x.2).bind fun y => (addD x.1 y.1).bind fun z => some (z, y.2)).bind _) = _
        rw [hl', sum_ok]
        show (if (intsL l).length < LINE then some (Out.nx [none, some N, some (.list (intsL l ++ [.int (l'.sum + j)])), some (.int (k : Int)), some (.int j)], γ3) else none) = _
        rw [if_pos (by unfold intsL; rw [List.length_map]; exact Nat.lt_of_le_of_lt (show _ ≤ 3 by omega) (by decide))]
        unfold intsL
        rw [List.map_append] <;> rfl
      refine ⟨_, _, γ3, rfl, ?_, ⟨l ++ [l'.sum + j], some (.int (k : Int)), some (.int j), rfl, by rw [List.length_append, List.length_append, hl] <;> rfl⟩, g3⟩
      show seqS _ _ [none, some N, some (.list (intsL l)), some (.int (k : Int)), v4] γ = _
      rw [s_seqS, b1, Option.bind_some]
      show seqS _ _ [none, some N, some (.list (intsL l)), some (.int (k : Int)), some (.int (1 + (p : Int)))] γ2 = _
      rw [s_seqS, b2, Option.bind_some]
      exact b3) ⟨⟨[], none, none, rfl, rfl⟩, g1⟩
  subst h2
  refine ⟨l, γ', ?_, h4, by rw [h3, List.length_range]; omega⟩
  show (g__law_moments [none, some N, none, none, none] γ).bind _ = _
  unfold g__law_moments
  rw [s_seqS]
  show (seqS _ _ [none, some N, some (.list []), none, none] γ).bind _ = _
  have hr : rngI (binE addD (varE 1) (callGE f__law_pick (consA (cE (.int 3)) (nilA)))) [none, some N, some (.list []), none, none] γ = some ((List.range (n + q)).map fun k : Nat => .int (k : Int), γ1) := by
    have e : (binE addD (varE 1) (callGE f__law_pick (consA (cE (.int 3)) (nilA)))) [none, some N, some (.list []), none, none] γ = some (.int ((n : Int) + (q : Int)), γ1) := by
      show (((f__law_pick [.int ((3 : Nat) : Int)] γ).bind fun y => (addD N y.1).bind fun z => some (z, y.2))) = _
      rw [q2] <;> rfl
    unfold rngI
    rw [e]
    show (if (n : Int) + (q : Int) ≤ 100000 ∧ -100000 ≤ (n : Int) + (q : Int) then some ((List.range ((n : Int) + (q : Int)).toNat).map fun k : Nat => PyData.int (k : Int), γ1) else none) = _
    rw [if_pos ⟨by omega, by omega⟩, show ((n : Int) + (q : Int)).toNat = n + q by omega]
  rw [s_seqS, s_forS, hr, Option.bind_some]
  show ((forL _ _ ((List.range (n + q)).map fun k : Nat => .int (k : Int)) _ _).bind _).bind _ = _
  rw [h1] <;> rfl
/-! ### text -/
theorem compL_G {α : Type} (enc : α → TK.D) {tg : GTg} {el : GE} {ρ : Env} (Q : TK.D → Prop) : ∀ (xs : List α) (γ : G), Gok γ → (∀ x ∈ xs, ∃ ρ1, tg (enc x) ρ = some ρ1 ∧ ∀ γ, Gok γ → ∃ y γ', el ρ1 γ = some (y, γ') ∧ Gok γ' ∧ Q y) → ∃ ys γ', compL tg yesT el (xs.map enc) ρ γ = some (ys, γ') ∧ Gok γ' ∧ ys.length = xs.length ∧ ∀ y ∈ ys, Q y
  | [], γ, g, _ => ⟨[], γ, rfl, g, rfl, fun _ h => by cases h⟩
  | x :: xs, γ, g, H => by
    obtain ⟨ρ1, h1, h2⟩ := H x List.mem_cons_self
    obtain ⟨y, γ1, h3, g1, q⟩ := h2 γ g
    obtain ⟨ys, γ2, h4, g2, h5, h6⟩ := compL_G enc Q xs γ1 g1 fun z hz => H z (List.mem_cons_of_mem _ hz)
    refine ⟨y :: ys, γ2, ?_, g2, by rw [List.length_cons, List.length_cons, h5], fun z hz => ?_⟩
    · rw [List.map_cons]
      unfold compL
      rw [h1, Option.bind_some]
      show ((el ρ1 γ).bind _) = _
      rw [h3]
      show ((compL tg yesT el (xs.map enc) ρ γ1).bind _) = _
      rw [h4] <;> rfl
    · rcases List.mem_cons.mp hz with e | hz
      · rw [e]; exact q
      · exact h6 z hz
theorem idx_strs {l : List Str} {n : Nat} (h : n < l.length) : ∃ y ∈ l, idxD (.list (strsD l)) (.int (n : Int)) = some (.str y) := by
  refine ⟨l[n], List.getElem_mem h, ?_⟩
  have : (strsD l)[n]? = some (.str l[n]) := by
    unfold strsD
    rw [List.getElem?_map, List.getElem?_eq_getElem h] <;> rfl
  exact atI_nat this
def wA : List Str := ["ka", "lo", "mi7", "x"]
def wB : List Str := ["aur", "ka", "sol", "9"]
def chkW (w : Str) : Bool := decide (w.length ≤ 10) && (decide ((Txt.upper w).length ≤ 10) && (decide ((cutS w none (some 1)).length ≤ 10) && decide ((Txt.upper (cutS w none (some 1))).length + (cutS w (some 1) none).length ≤ 10)))
theorem chk_all : (wA ++ wB).all chkW = true := by decide +kernel
def four (w : Str) : List Str := [w, w, Txt.upper w, Txt.upper (cutS w none (some 1)) ++ cutS w (some 1) none]
theorem str_app_len (a c : Str) : (a ++ c).length = a.length + c.length := by
  show (a.cps ++ c.cps).size = _
  rw [Array.size_append] <;> rfl
theorem four_ok {w : Str} (h : w ∈ wA ++ wB) {ρ0 ρ1 ρ2 ρ3 ρ5 : Option TK.D} {γ : G} : (newE (lstN (consA (varE 4) (consA (varE 4) (consA (unE upperD (varE 4)) (consA (binE addD (unE upperD (sliceE (varE 4) (noneO) (someO (cE (.int 1))))) (sliceE (varE 4) (someO (cE (.int 1))) (noneO))) (nilA))))))) [ρ0, ρ1, ρ2, ρ3, some (.str w), ρ5] γ = some (.list (strsD (four w)), γ) ∧ ∀ y ∈ four w, y.length ≤ 10 := by
  have hc := List.all_eq_true.mp chk_all w h
  unfold chkW at hc
  simp only [Bool.and_eq_true, decide_eq_true_eq] at hc
  obtain ⟨c1, c2, c3, c4⟩ := hc
  let E : Env := [ρ0, ρ1, ρ2, ρ3, some (.str w), ρ5]
  have u1 : upperD (.str w) = some (.str (Txt.upper w)) := if_pos (line_of (by omega))
  have l1 : sliceD (.str w) none (some 1) = some (.str (cutS w none (some 1))) := if_pos (line_of (by omega))
  have l2 : sliceD (.str w) (some 1) none = some (.str (cutS w (some 1) none)) := if_pos (line_of (by omega))
  have u2 : upperD (.str (cutS w none (some 1))) = some (.str (Txt.upper (cutS w none (some 1)))) := if_pos (line_of (by omega))
  have a1 : addD (.str (Txt.upper (cutS w none (some 1)))) (.str (cutS w (some 1) none)) = some (.str (Txt.upper (cutS w none (some 1)) ++ cutS w (some 1) none)) := if_pos (line_of (by omega))
  have e3 : (unE upperD (varE 4)) E γ = some (.str (Txt.upper w), γ) := by
    show ((upperD (.str w)).bind fun z => some (z, γ)) = _
    rw [u1] <;> rfl
  have e4 : (binE addD (unE upperD (sliceE (varE 4) (noneO) (someO (cE (.int 1))))) (sliceE (varE 4) (someO (cE (.int 1))) (noneO))) E γ = some (.str (Txt.upper (cutS w none (some 1)) ++ cutS w (some 1) none), γ) := by
    have q1 : (sliceE (varE 4) (noneO) (someO (cE (.int 1)))) E γ = some (.str (cutS w none (some 1)), γ) := by
      show ((sliceD (.str w) none (some 1)).bind fun z => some (z, γ)) = _
      rw [l1] <;> rfl
    have q2 : (sliceE (varE 4) (someO (cE (.int 1))) (noneO)) E γ = some (.str (cutS w (some 1) none), γ) := by
      show ((sliceD (.str w) (some 1) none).bind fun z => some (z, γ)) = _
      rw [l2] <;> rfl
    rw [s_binE, s_unE, q1, Option.bind_some, u2, Option.bind_some, Option.bind_some, q2, Option.bind_some, a1] <;> rfl
  refine ⟨?_, fun y hy => ?_⟩
  · show (((consA (varE 4) (consA (varE 4) (consA (unE upperD (varE 4)) (consA (binE addD (unE upperD (sliceE (varE 4) (noneO) (someO (cE (.int 1))))) (sliceE (varE 4) (someO (cE (.int 1))) (noneO))) (nilA))))) E γ).bind fun x => if x.1.length ≤ LINE then some (x.1, x.2) else none).bind _ = _
    have q : (consA (varE 4) (consA (varE 4) (consA (unE upperD (varE 4)) (consA (binE addD (unE upperD (sliceE (varE 4) (noneO) (someO (cE (.int 1))))) (sliceE (varE 4) (someO (cE (.int 1))) (noneO))) (nilA))))) E γ = some (strsD (four w), γ) := by
      rw [s_consA, s_varE]
      show (((consA (varE 4) (consA (unE upperD (varE 4)) (consA (binE addD (unE upperD (sliceE (varE 4) (noneO) (someO (cE (.int 1))))) (sliceE (varE 4) (someO (cE (.int 1))) (noneO))) (nilA)))) E γ).bind fun y => some (PyData.str w :: y.1, y.2)) = _
      rw [s_consA, s_varE]
      show ((((consA (unE upperD (varE 4)) (consA (binE addD (unE upperD (sliceE (varE 4) (noneO) (someO (cE (.int 1))))) (sliceE (varE 4) (someO (cE (.int 1))) (noneO))) (nilA))) E γ).bind fun y => some (PyData.str w :: y.1, y.2)).bind fun y => some (PyData.str w :: y.1, y.2)) = _
      rw [s_consA, e3, Option.bind_some, s_consA, e4] <;> rfl
    rw [q] <;> rfl
  · unfold four at hy
    simp only [List.mem_cons, List.not_mem_nil, or_false] at hy
    rcases hy with rfl | rfl | rfl | rfl
    · exact c1
    · exact c1
    · exact c2
    · rw [str_app_len]; exact c4
def seps : List Str := [" ", ", ", "_", "\n", ". "]
theorem seps_len : ∀ y ∈ seps, y.length ≤ 2 := by decide +kernel
def fronts : List Str := ["", " ", "- "]
theorem fronts_len : ∀ y ∈ fronts, y.length ≤ 2 := by decide +kernel
theorem addD_str {a c : Str} (h : a.length + c.length ≤ 10000) : addD (.str a) (.str c) = some (.str (a ++ c)) := if_pos (line_of h)
theorem strs_of {W : List Str} : ∀ {ys : List TK.D}, (∀ y ∈ ys, ∃ w ∈ W, y = .str w) → ∃ ws : List Str, ys = strsD ws ∧ ∀ w ∈ ws, w ∈ W
  | [], _ => ⟨[], rfl, fun _ h => by cases h⟩
  | y :: ys, h => by
    obtain ⟨w, h1, h2⟩ := h y List.mem_cons_self
    obtain ⟨ws, h3, h4⟩ := strs_of fun z hz => h z (List.mem_cons_of_mem _ hz)
    refine ⟨w :: ws, by rw [h2, h3] <;> rfl, fun v hv => ?_⟩
    rcases List.mem_cons.mp hv with e | hv
    · rw [e]; exact h1
    · exact h4 v hv
theorem text_ok {W : List Str} (hW : W = wA ∨ W = wB) {γ : G} (g : Gok γ) : ∃ (tx : Str) (ws : TK.D) (γ' : G), f__law_text [.list (strsD W)] γ = some (.tuple [.str tx, ws], γ') ∧ Gok γ' ∧ tx.length ≤ 100 := by
  have hWm : ∀ w ∈ W, w ∈ wA ++ wB := fun w hw => by
    rcases hW with rfl | rfl
    · exact List.mem_append_left _ hw
    · exact List.mem_append_right _ hw
  have hWl : W.length = 4 := by rcases hW with rfl | rfl <;> rfl
  let WD : TK.D := .list (strsD W)
  obtain ⟨n, γ1, n1, n2, g1⟩ := pick_ok g 5 (by decide) (by decide)
  obtain ⟨ys, γ2, c1, g2, c2, c3⟩ := compL_G (fun k : Nat => (.int (k : Int) : TK.D)) (tg := tgN 5) (el := binE idxD (varE 1) (callGE f__law_pick (consA (unE lenD (varE 1)) (nilA)))) (ρ := [none, some WD, none, none, none, none]) (fun y => ∃ w ∈ W, y = .str w) (List.range n) γ1 g1 fun k _ => ⟨_, rfl, fun γ g => by
    obtain ⟨p, γ3, p1, p2, g3⟩ := pick_ok g 4 (by decide) (by decide)
    obtain ⟨y, hy, e⟩ := idx_strs (l := W) (n := p) (by omega)
    refine ⟨.str y, γ3, ?_, g3, y, hy, rfl⟩
    have q : (unE lenD (varE 1)) [none, some WD, none, none, none, some (.int (k : Int))] γ = some (.int ((4 : Nat) : Int), γ) := by
      show ((lenD (.list (strsD W))).bind fun z => some (z, γ)) = _
      rw [s_lenL, List.length_map, hWl] <;> rfl
    show ((((unE lenD (varE 1)) [none, some WD, none, none, none, some (.int (k : Int))] γ).bind fun x => ((nilA [none, some WD, none, none, none, some (.int (k : Int))] x.2).bind fun y => some (x.1 :: y.1, y.2))).bind fun x => f__law_pick x.1 x.2).bind (fun y => (idxD WD y.1).bind fun z => some (z, y.2)) = _
    rw [q]
    show ((f__law_pick [.int ((4 : Nat) : Int)] γ).bind fun y => (idxD WD y.1).bind fun z => some (z, y.2)) = _
    rw [p2]
    show ((idxD (.list (strsD W)) (.int (p : Int))).bind fun z => some (z, γ3)) = _
    rw [e] <;> rfl⟩
  obtain ⟨ws, e1, hws⟩ := strs_of c3
  have hwl : ws.length ≤ 4 := by
    have : ys.length = ws.length := by rw [e1, List.length_map]
    rw [List.length_range] at c2
    omega
  subst e1
  let SD : TK.D := .list (strsD ws)
  obtain ⟨p, γ3, p1, p2, g3⟩ := pick_ok g2 3 (by decide) (by decide)
  obtain ⟨t0, ht0, e0⟩ := idx_strs (l := fronts) (n := p) p1
  have a1 : (setS 2 (newE (compN (rngI (callGE f__law_pick (consA (cE (.int 5)) (nilA)))) (tgN 5) (yesT) (binE idxD (varE 1) (callGE f__law_pick (consA (unE lenD (varE 1)) (nilA)))) [5]))) [none, some WD, none, none, none, none] γ = some (.nx [none, some WD, some SD, none, none, none], γ2) := by
    have hr : rngI (callGE f__law_pick (consA (cE (.int 5)) (nilA))) [none, some WD, none, none, none, none] γ = some ((List.range n).map fun k : Nat => .int (k : Int), γ1) := by
      unfold rngI
      show ((f__law_pick [.int ((5 : Nat) : Int)] γ).bind _) = _
      rw [n2]
      show (if (n : Int) ≤ 100000 ∧ -100000 ≤ (n : Int) then some ((List.range (n : Int).toNat).map fun k : Nat => PyData.int (k : Int), γ1) else none) = _
      rw [if_pos ⟨by omega, by omega⟩, Int.toNat_natCast]
    rw [s_setS, s_newE, s_compN, hr, Option.bind_some]
    show (((if ((List.range n).map fun k : Nat => (.int (k : Int) : TK.D)).length ≤ LINE then compL (tgN 5) yesT (binE idxD (varE 1) (callGE f__law_pick (consA (unE lenD (varE 1)) (nilA)))) ((List.range n).map fun k : Nat => .int (k : Int)) [none, some WD, none, none, none, none] γ1 else none).bind _).bind _) = _
    rw [if_pos (by rw [List.length_map, List.length_range]; exact line_of (by omega)), c1] <;> rfl
  have a2 : (setS 3 (binE idxD (newE (lstN (consA (cE (.str "")) (consA (cE (.str " ")) (consA (cE (.str "- ")) (nilA)))))) (callGE f__law_pick (consA (cE (.int 3)) (nilA))))) [none, some WD, some SD, none, none, none] γ2 = some (.nx [none, some WD, some SD, some (.str t0), none, none], γ3) := by
    show ((((f__law_pick [.int ((3 : Nat) : Int)] γ2).bind fun y => (idxD (.list (strsD fronts)) y.1).bind fun z => some (z, y.2))).bind _) = _
    rw [p2]
    show (((idxD (.list (strsD fronts)) (.int (p : Int))).bind fun z => some (z, γ3)).bind _) = _
    rw [e0] <;> rfl
  obtain ⟨ρ', γ', h1, ⟨tx, v4, h2, h3⟩, h4⟩ := forL_all PyData.str (fun don ρ γ => (∃ (tx : Str) (v4 : Option TK.D), ρ = [none, some WD, some SD, some (.str tx), v4, none] ∧ tx.length ≤ 2 + 12 * don.length) ∧ Gok γ) (tg := tgN 4)
    (b := seqS (setS 3 (binE addD (varE 3) (binE idxD (newE (lstN (consA (varE 4) (consA (varE 4) (consA (unE upperD (varE 4)) (consA (binE addD (unE upperD (sliceE (varE 4) (noneO) (someO (cE (.int 1))))) (sliceE (varE 4) (someO (cE (.int 1))) (noneO))) (nilA))))))) (callGE f__law_pick (consA (cE (.int 4)) (nilA)))))) (setS 3 (binE addD (varE 3) (binE idxD (newE (lstN (consA (cE (.str " ")) (consA (cE (.str ", ")) (consA (cE (.str "_")) (consA (cE (.str "\n")) (consA (cE (.str ". ")) (nilA)))))))) (callGE f__law_pick (consA (cE (.int 5)) (nilA)))))))
    ws [none, some WD, some SD, some (.str t0), none, none] γ3 (fun don w rest e ρ γ z => by
      obtain ⟨⟨tx, v4, rfl, hl⟩, g⟩ := z
      have hw : w ∈ ws := by rw [e]; simp
      have hdl : don.length ≤ 4 := by
        rw [e, List.length_append] at hwl
        omega
      obtain ⟨f1, f2⟩ := four_ok (hWm w (hws w hw)) (ρ0 := none) (ρ1 := some WD) (ρ2 := some SD) (ρ3 := some (.str tx)) (ρ5 := none) (γ := γ)
      obtain ⟨p, γ4, p1, p2, g4⟩ := pick_ok g 4 (by decide) (by decide)
      obtain ⟨y, hy, ey⟩ := idx_strs (l := four w) (n := p) p1
      have hyl := f2 y hy
      obtain ⟨q, γ5, q1, q2, g5⟩ := pick_ok g4 5 (by decide) (by decide)
      obtain ⟨u, hu, eu⟩ := idx_strs (l := seps) (n := q) q1
      have hul := seps_len u hu
      have b1 : (setS 3 (binE addD (varE 3) (binE idxD (newE (lstN (consA (varE 4) (consA (varE 4) (consA (unE upperD (varE 4)) (consA (binE addD (unE upperD (sliceE (varE 4) (noneO) (someO (cE (.int 1))))) (sliceE (varE 4) (someO (cE (.int 1))) (noneO))) (nilA))))))) (callGE f__law_pick (consA (cE (.int 4)) (nilA)))))) [none, some WD, some SD, some (.str tx), some (.str w), none] γ = some (.nx [none, some WD, some SD, some (.str (tx ++ y)), some (.str w), none], γ4) := by
        have z1 : (binE idxD (newE (lstN (consA (varE 4) (consA (varE 4) (consA (unE upperD (varE 4)) (consA (binE addD (unE upperD (sliceE (varE 4) (noneO) (someO (cE (.int 1))))) (sliceE (varE 4) (someO (cE (.int 1))) (noneO))) (nilA))))))) (callGE f__law_pick (consA (cE (.int 4)) (nilA)))) [none, some WD, some SD, some (.str tx), some (.str w), none] γ = some (.str y, γ4) := by
          rw [s_binE, f1, Option.bind_some]
          show ((f__law_pick [.int ((4 : Nat) : Int)] γ).bind fun x => (idxD (.list (strsD (four w))) x.1).bind fun z => some (z, x.2)) = _
          rw [p2]
          show ((idxD (.list (strsD (four w))) (.int (p : Int))).bind fun z => some (z, γ4)) = _
          rw [ey] <;> rfl
        rw [s_setS, s_binE]
        show ((((binE idxD _ _ [none, some WD, some SD, some (.str tx), some (.str w), none] γ).bind fun x => (addD (.str tx) x.1).bind fun z => some (z, x.2))).bind _) = _
        rw [z1]
        show (((addD (.str tx) (.str y)).bind fun z => some (z, γ4)).bind _) = _
        rw [addD_str (by omega)] <;> rfl
      have b2 : (setS 3 (binE addD (varE 3) (binE idxD (newE (lstN (consA (cE (.str " ")) (consA (cE (.str ", ")) (consA (cE (.str "_")) (consA (cE (.str "\n")) (consA (cE (.str ". ")) (nilA)))))))) (callGE f__law_pick (consA (cE (.int 5)) (nilA)))))) [none, some WD, some SD, some (.str (tx ++ y)), some (.str w), none] γ4 = some (.nx [none, some WD, some SD, some (.str (tx ++ y ++ u)), some (.str w), none], γ5) := by
        show (((((f__law_pick [.int ((5 : Nat) : Int)] γ4).bind fun x => (idxD (.list (strsD seps)) x.1).bind fun z => some (z, x.2))).bind fun x => (addD (.str (tx ++ y)) x.1).bind fun z => some (z, x.2)).bind _) = _
        rw [q2]
        show ((((idxD (.list (strsD seps)) (.int (q : Int))).bind fun z => some (z, γ5)).bind fun x => (addD (.str (tx ++ y)) x.1).bind fun z => some (z, x.2)).bind _) = _
        rw [eu]
        show (((addD (.str (tx ++ y)) (.str u)).bind fun z => some (z, γ5)).bind _) = _
        rw [addD_str (by rw [str_app_len]; omega)] <;> rfl
      refine ⟨_, _, γ5, rfl, ?_, ⟨tx ++ y ++ u, some (.str w), rfl, by rw [str_app_len, str_app_len, List.length_append, List.length_singleton]; omega⟩, g5⟩
      show seqS _ _ [none, some WD, some SD, some (.str tx), some (.str w), none] γ = _
      rw [s_seqS, b1, Option.bind_some]
      exact b2) ⟨⟨t0, none, rfl, by have := fronts_len t0 ht0; simp only [List.length_nil]; omega⟩, g3⟩
  subst h2
  refine ⟨tx, SD, γ', ?_, h4, by omega⟩
  show (g__law_text [none, some WD, none, none, none, none] γ).bind _ = _
  unfold g__law_text
  rw [s_seqS, a1, Option.bind_some]
  show (seqS _ _ [none, some WD, some SD, none, none, none] γ2).bind _ = _
  rw [s_seqS, a2, Option.bind_some]
  show (seqS _ _ [none, some WD, some SD, some (.str t0), none, none] γ3).bind _ = _
  rw [s_seqS, s_forS]
  show ((forL _ _ (ws.map .str) [none, some WD, some SD, some (.str t0), none, none] γ3).bind _).bind _ = _
  rw [h1] <;> rfl
end TK.M
end
section
set_option Elab.async false
set_option linter.all false
set_option maxRecDepth 100000
set_option maxHeartbeats 4000000
/-! The draws: links. -/
namespace TK.M
open PySem PySem.Spec PyProof.Rows L2
def enumN (l : List Str) : List (Nat × Str) := List.zipWith (fun k x => (k, x)) (List.range l.length) l
abbrev eJ (p : Nat × Str) : TK.D := .tuple [.int (p.1 : Int), .str p.2]
theorem enum_ok (l : List Str) : enumD (strsD l) = (enumN l).map eJ := by
  unfold enumD enumN strsD
  rw [List.length_map, List.map_zipWith, List.zipWith_map_right]
theorem enum_len (l : List Str) : (enumN l).length = l.length := by
  unfold enumN
  rw [List.length_zipWith, List.length_range, Nat.min_self]
theorem enum_mem {l : List Str} {p : Nat × Str} (h : p ∈ enumN l) : l[p.1]? = some p.2 := by
  obtain ⟨i, hi⟩ := List.mem_iff_getElem?.mp h
  unfold enumN at hi
  rw [List.getElem?_zipWith] at hi
  cases e1 : (List.range l.length)[i]? with
  | none => rw [e1] at hi; cases hi
  | some k =>
    cases e2 : l[i]? with
    | none => rw [e1, e2] at hi; cases hi
    | some x =>
      rw [e1, e2] at hi
      cases hi
      have hk : i < (List.range l.length).length := (List.getElem?_eq_some_iff.mp e1).1
      rw [List.getElem?_eq_getElem hk, List.getElem_range] at e1
      cases e1
      exact e2
def grp (tf : Int → Int) (l : List Str) (M k : Nat) : List Str := l.getD k "" :: ((enumN (l.drop M)).filter fun p => decide (tf (p.1 : Int) % (M : Int) = (k : Int))).map (·.2)
theorem grp_mem {tf : Int → Int} {l : List Str} {M k : Nat} (hk : k < l.length) {x : Str} (h : x ∈ grp tf l M k) : ∃ i, l[i]? = some x ∧ (i = k ∨ (M ≤ i ∧ tf ((i - M : Nat) : Int) % (M : Int) = (k : Int))) := by
  unfold grp at h
  rcases List.mem_cons.mp h with e | h
  · refine ⟨k, ?_, .inl rfl⟩
    rw [e, List.getElem?_eq_getElem hk, List.getD_eq_getElem?_getD, List.getElem?_eq_getElem hk] <;> rfl
  · obtain ⟨p, hp, rfl⟩ := List.mem_map.mp h
    rw [List.mem_filter] at hp
    have h1 := enum_mem hp.1
    rw [List.getElem?_drop] at h1
    refine ⟨M + p.1, h1, .inr ⟨Nat.le_add_right _ _, ?_⟩⟩
    rw [Nat.add_sub_cancel_left]
    exact of_decide_eq_true hp.2
theorem grp_in {tf : Int → Int} {l : List Str} {M k : Nat} (hk : k < l.length) {x : Str} (h : x ∈ grp tf l M k) : x ∈ l := by
  obtain ⟨i, h1, _⟩ := grp_mem hk h
  exact List.mem_of_getElem? h1
theorem grp_dj {tf : Int → Int} {l : List Str} (nd : l.Nodup) {M k k' : Nat} (hM : M ≤ l.length) (hk : k < M) (hk' : k' < M) (hne : k ≠ k') {x : Str} (h : x ∈ grp tf l M k) (h' : x ∈ grp tf l M k') : False := by
  obtain ⟨i, h1, h2⟩ := grp_mem (by omega) h
  obtain ⟨j, h3, h4⟩ := grp_mem (by omega) h'
  have hi : i < l.length := (List.getElem?_eq_some_iff.mp h1).1
  have e : i = j := (List.getElem?_inj hi nd).mp (h1.trans h3.symm)
  subst e
  rcases h2 with h2 | ⟨h2, h2'⟩ <;> rcases h4 with h4 | ⟨h4, h4'⟩
  · exact hne (h2.symm.trans h4)
  · omega
  · omega
  · rw [h2'] at h4'
    exact hne (by omega)
theorem grp_len {tf : Int → Int} {l : List Str} {M k : Nat} : (grp tf l M k).length ≤ l.length + 1 := by
  unfold grp
  rw [List.length_cons, List.length_map]
  have h1 := List.length_filter_le (fun p : Nat × Str => decide (tf (p.1 : Int) % (M : Int) = (k : Int))) (enumN (l.drop M))
  rw [enum_len, List.length_drop] at h1
  omega
theorem cut_drop {xs : List TK.D} (k : Nat) : cutD xs (some (k : Int)) none = xs.drop k := by
  unfold cutD
  rw [HT.sIx_none, HT.sIx_nat]
  by_cases h : k ≤ xs.length
  · rw [Nat.min_eq_left h]
    exact List.take_of_length_le (by rw [List.length_drop]; omega)
  · rw [Nat.min_eq_right (by omega), List.drop_length, List.take_nil, List.drop_eq_nil_of_le (by omega)]
theorem grp_eval {v1 v2 v4 v6 v7 v8 v9 : Option TK.D} {M k : Nat} {ge je : GE} {src : List Str} {tf : Int → Int} (hM : 0 < M) (hk : k < src.length) (hz : src.length ≤ 50)
    (hge : ∀ γ, ge [none, v1, v2, some (.int (M : Int)), v4, some (.int (k : Int)), v6, v7, v8, v9, none, none] γ = some (.list (strsD src), γ))
    (hje : ∀ (j : Int) (x : Str) (γ : G), je [none, v1, v2, some (.int (M : Int)), v4, some (.int (k : Int)), v6, v7, v8, v9, some (.int j), some (.str x)] γ = some (.int (tf j), γ)) (γ : G) :
    (binE addD (newE (lstN (consA (binE idxD ge (varE 5)) (nilA)))) (newE (compN (enuI (sliceE ge (someO (varE 3)) (noneO))) (tgT [10, 11]) (valT (binE eqD (binE modD je (varE 3)) (varE 5))) (varE 11) [10, 11]))) [none, v1, v2, some (.int (M : Int)), v4, some (.int (k : Int)), v6, v7, v8, v9, none, none] γ = some (.list (strsD (grp tf src M k)), γ) := by
  let E : Env := [none, v1, v2, some (.int (M : Int)), v4, some (.int (k : Int)), v6, v7, v8, v9, none, none]
  have e1 : (binE idxD ge (varE 5)) E γ = some (.str (src.getD k ""), γ) := by
    have hi : idxD (.list (strsD src)) (.int (k : Int)) = some (.str (src.getD k "")) := by
      have : (strsD src)[k]? = some (.str (src.getD k "")) := by
        unfold strsD
        rw [List.getElem?_map, List.getElem?_eq_getElem hk, List.getD_eq_getElem?_getD, List.getElem?_eq_getElem hk] <;> rfl
      exact atI_nat this
    rw [s_binE, hge, Option.bind_some]
    show ((idxD (.list (strsD src)) (.int (k : Int))).bind fun z => some (z, γ)) = _
    rw [hi] <;> rfl
  have e2 : (newE (lstN (consA (binE idxD ge (varE 5)) (nilA)))) E γ = some (.list [.str (src.getD k "")], γ) := by
    rw [s_newE, s_lstN, s_consA, e1] <;> rfl
  have e3 : (enuI (sliceE ge (someO (varE 3)) (noneO))) E γ = some ((enumN (src.drop M)).map eJ, γ) := by
    have q : (sliceE ge (someO (varE 3)) (noneO)) E γ = some (.list (strsD (src.drop M)), γ) := by
      rw [s_sliceE, hge, Option.bind_some]
      show some (PyData.list (cutD (strsD src) (some (M : Int)) none), γ) = _
      rw [cut_drop]
      unfold strsD
      rw [List.map_drop]
    unfold enuI
    rw [q]
    show some (enumD (strsD (src.drop M)), γ) = _
    rw [enum_ok]
  have c := compL_map eJ (tg := tgT [10, 11]) (t := valT (binE eqD (binE modD je (varE 3)) (varE 5))) (el := varE 11) (ρ := E) (γ := γ) (fun p => decide (tf (p.1 : Int) % (M : Int) = (k : Int))) (fun p => .str p.2) (enumN (src.drop M)) fun p _ => ⟨_, rfl, by
    have q := hje (p.1 : Int) p.2 γ
    have q2 : (binE modD je (varE 3)) [none, v1, v2, some (.int (M : Int)), v4, some (.int (k : Int)), v6, v7, v8, v9, some (.int (p.1 : Int)), some (.str p.2)] γ = some (.int (tf (p.1 : Int) % (M : Int)), γ) := by
      rw [s_binE, q, Option.bind_some]
      show ((modD (.int (tf (p.1 : Int))) (.int (M : Int))).bind fun z => some (z, γ)) = _
      rw [modD_pos (by omega)] <;> rfl
    show (valT (binE eqD (binE modD je (varE 3)) (varE 5))) [none, v1, v2, some (.int (M : Int)), v4, some (.int (k : Int)), v6, v7, v8, v9, some (.int (p.1 : Int)), some (.str p.2)] γ = _
    rw [s_valT, s_binE, q2, Option.bind_some]
    show (((eqD (.int (tf (p.1 : Int) % (M : Int))) (.int (k : Int))).bind fun z => some (z, γ)).bind _) = _
    rw [eqD_int] <;> rfl, fun _ => rfl⟩
  have e4 : (newE (compN (enuI (sliceE ge (someO (varE 3)) (noneO))) (tgT [10, 11]) (valT (binE eqD (binE modD je (varE 3)) (varE 5))) (varE 11) [10, 11])) E γ = some (.list (((enumN (src.drop M)).filter fun p => decide (tf (p.1 : Int) % (M : Int) = (k : Int))).map fun p => .str p.2), γ) := by
    rw [s_newE, s_compN, e3, Option.bind_some]
    show ((if ((enumN (src.drop M)).map eJ).length ≤ LINE then compL (tgT [10, 11]) (valT (binE eqD (binE modD je (varE 3)) (varE 5))) (varE 11) ((enumN (src.drop M)).map eJ) E γ else none).bind _) = _
    rw [if_pos (by rw [List.length_map, enum_len, List.length_drop]; exact line_of (by omega)), c] <;> rfl
  rw [s_binE, e2, Option.bind_some]
  show (((newE (compN _ _ _ _ _)) E γ).bind _) = _
  rw [e4]
  have hgl := grp_len (tf := tf) (l := src) (M := M) (k := k)
  have hst : strsD (grp tf src M k) = [.str (src.getD k "")] ++ ((enumN (src.drop M)).filter fun p => decide (tf (p.1 : Int) % (M : Int) = (k : Int))).map fun p => .str p.2 := by
    unfold strsD grp
    rw [List.map_cons, List.map_map] <;> rfl
  have hle : [(.str (src.getD k "") : TK.D)].length + (((enumN (src.drop M)).filter fun p => decide (tf (p.1 : Int) % (M : Int) = (k : Int))).map fun p => (.str p.2 : TK.D)).length ≤ LINE := by
    have h := congrArg List.length hst
    rw [List.length_append, List.length_map] at h
    rw [← h]
    exact line_of (by omega)
  rw [hst]
  show ((if _ then some _ else none : Option TK.D).bind fun z => some (z, γ)) = _
  rw [if_pos hle] <;> rfl
theorem min3_ok (a c d : Nat) : ∃ M : Nat, min3D [.int (a : Int), .int (c : Int), .int (d : Int)] = some (.int (M : Int)) ∧ M ≤ a ∧ M ≤ c ∧ M ≤ d := by
  show ∃ M : Nat, some (PyData.int (if (c : Int) < (a : Int) then (if (d : Int) < (c : Int) then (d : Int) else (c : Int)) else (if (d : Int) < (a : Int) then (d : Int) else (a : Int)))) = some (PyData.int (M : Int)) ∧ M ≤ a ∧ M ≤ c ∧ M ≤ d
  by_cases h1 : (c : Int) < (a : Int)
  · by_cases h2 : (d : Int) < (c : Int)
    · exact ⟨d, by rw [if_pos h1, if_pos h2], by omega, by omega, by omega⟩
    · exact ⟨c, by rw [if_pos h1, if_neg h2], by omega, by omega, by omega⟩
  · by_cases h2 : (d : Int) < (a : Int)
    · exact ⟨d, by rw [if_neg h1, if_pos h2], by omega, by omega, by omega⟩
    · exact ⟨a, by rw [if_neg h1, if_neg h2], by omega, by omega, by omega⟩
theorem pw_of {α : Type} {R : α → α → Prop} : ∀ {l : List α}, l.Nodup → (∀ x ∈ l, ∀ y ∈ l, x ≠ y → R x y) → l.Pairwise R
  | [], _, _ => List.Pairwise.nil
  | a :: l, nd, h => by
    rw [List.nodup_cons] at nd
    exact List.pairwise_cons.mpr ⟨fun y hy => h a List.mem_cons_self y (List.mem_cons_of_mem _ hy) fun e => nd.1 (e ▸ hy), pw_of nd.2 fun x hx y hy => h x (List.mem_cons_of_mem _ hx) y (List.mem_cons_of_mem _ hy)⟩
structure Lx (lf rt : List Str) (X : List Lk) : Prop where
  len : X.length ≤ 8
  a : ∀ l ∈ X, ∀ x ∈ l.a, x ∈ lf
  b : ∀ l ∈ X, ∀ x ∈ l.b, x ∈ rt
  na : ∀ l ∈ X, l.a ≠ []
  nb : ∀ l ∈ X, l.b ≠ []
  za : ∀ l ∈ X, l.a.length ≤ 100 ∧ l.b.length ≤ 100 ∧ l.la.length ≤ 100 ∧ l.lb.length ≤ 100
  da : X.Pairwise fun l m => ∀ x ∈ l.a, x ∉ m.a
  db : X.Pairwise fun l m => ∀ x ∈ l.b, x ∉ m.b
theorem links_ok {lf rt : List Str} (nl : lf.Nodup) (nr : rt.Nodup) (zl : lf.length ≤ 50) (zr : rt.length ≤ 50) {γ : G} (g : Gok γ) : ∃ (X : List Lk) (γ' : G), f__law_links [.list (strsD lf), .list (strsD rt)] γ = some (.tuple ((lsort X).map eLk), γ') ∧ Gok γ' ∧ Lx lf rt X := by
  let LD : TK.D := .list (strsD lf)
  let RD : TK.D := .list (strsD rt)
  obtain ⟨q, γ1, q1, q2, g1⟩ := pick_ok g 8 (by decide) (by decide)
  obtain ⟨M, hM, M1, M2, M3⟩ := min3_ok lf.length rt.length (1 + q)
  have a1 : (setS 3 (callE min3D (consA (unE lenD (varE 1)) (consA (unE lenD (varE 2)) (consA (binE addD (cE (.int 1)) (callGE f__law_pick (consA (cE (.int 8)) (nilA)))) (nilA)))))) [none, some LD, some RD, none, none, none, none, none, none, none, none, none] γ = some (.nx [none, some LD, some RD, some (.int (M : Int)), none, none, none, none, none, none, none, none], γ1) := by
    have e1 : (unE lenD (varE 1)) [none, some LD, some RD, none, none, none, none, none, none, none, none, none] γ = some (.int (lf.length : Int), γ) := by
      show ((lenD (.list (strsD lf))).bind fun z => some (z, γ)) = _
      rw [s_lenL, List.length_map] <;> rfl
    have e2 : (unE lenD (varE 2)) [none, some LD, some RD, none, none, none, none, none, none, none, none, none] γ = some (.int (rt.length : Int), γ) := by
      show ((lenD (.list (strsD rt))).bind fun z => some (z, γ)) = _
      rw [s_lenL, List.length_map] <;> rfl
    have e3 : (binE addD (cE (.int 1)) (callGE f__law_pick (consA (cE (.int 8)) (nilA)))) [none, some LD, some RD, none, none, none, none, none, none, none, none, none] γ = some (.int ((1 + q : Nat) : Int), γ1) := by
      show (((f__law_pick [.int ((8 : Nat) : Int)] γ).bind fun y => (addD (.int 1) y.1).bind fun z => some (z, y.2))) = _
      rw [q2]
      show some (PyData.int (1 + (q : Int)), γ1) = _
      rw [show (1 + (q : Int)) = ((1 + q : Nat) : Int) by omega]
    rw [s_setS, s_callE, s_consA, e1, Option.bind_some, s_consA, e2, Option.bind_some, s_consA, e3]
    show (((min3D [.int (lf.length : Int), .int (rt.length : Int), .int ((1 + q : Nat) : Int)]).bind fun z => some (z, γ1)).bind _) = _
    rw [hM] <;> rfl
  let A : Nat → List Str := fun k => ssort (grp id lf M k)
  let B : Nat → List Str := fun k => ssort (grp (fun j => j + 1) rt M k)
  obtain ⟨ρ', γ', h1, ⟨X, v5, v6, v7, v8, v9, h2, h3, h4, h5⟩, h6⟩ := forL_all (fun k : Nat => (.int (k : Int) : TK.D)) (fun don ρ γ => (∃ (X : List Lk) (v5 v6 v7 v8 v9 : Option TK.D), ρ = [none, some LD, some RD, some (.int (M : Int)), some (.list (X.map eLk)), v5, v6, v7, v8, v9, none, none] ∧ X.map Lk.a = don.map A ∧ X.map Lk.b = don.map B ∧ ∀ l ∈ X, l.la.length ≤ 3 ∧ l.lb.length ≤ 3) ∧ Gok γ) (tg := tgN 5)
    (b := seqS (setS 6 (binE addD (newE (lstN (consA (binE idxD (varE 1) (varE 5)) (nilA)))) (newE (compN (enuI (sliceE (varE 1) (someO (varE 3)) (noneO))) (tgT [10, 11]) (valT (binE eqD (binE modD (varE 10) (varE 3)) (varE 5))) (varE 11) [10, 11])))) (seqS (setS 7 (binE addD (newE (lstN (consA (binE idxD (varE 2) (varE 5)) (nilA)))) (newE (compN (enuI (sliceE (varE 2) (someO (varE 3)) (noneO))) (tgT [10, 11]) (valT (binE eqD (binE modD (binE addD (varE 10) (cE (.int 1))) (varE 3)) (varE 5))) (varE 11) [10, 11])))) (seqS (setS 8 (binE addD (callGE f__law_pick (consA (cE (.int 14)) (nilA))) (binE mulD (binE powD (cE (.int 10)) (cE (.int 11))) (unE intD (binE eqD (callGE f__law_pick (consA (cE (.int 12)) (nilA))) (cE (.int 11))))))) (seqS (setS 9 (tupE (consA (callGE f__law_moments (consA (cE (.int 0)) (nilA))) (consA (callGE f__law_moments (consA (cE (.int 0)) (nilA))) (nilA))))) (appS 4 (tupE (consA (unE tupleD (unE sortedD (varE 6))) (consA (unE tupleD (unE sortedD (varE 7))) (consA (varE 8) (consA (varE 9) (nilA)))))))))))
    (List.range M) [none, some LD, some RD, some (.int (M : Int)), some (.list []), none, none, none, none, none, none, none] γ1 (fun don k rest e ρ γ z => by
      obtain ⟨⟨X, v5, v6, v7, v8, v9, rfl, x1, x2, x3⟩, g⟩ := z
      have hk : k < M := List.mem_range.mp (by rw [e]; simp)
      have hdl : don.length ≤ 8 := by
        have := congrArg List.length e
        rw [List.length_range, List.length_append] at this
        omega
      have hXl : X.length = don.length := by
        have := congrArg List.length x1
        rwa [List.length_map, List.length_map] at this
      let XD : TK.D := .list (X.map eLk)
      let o1 : TK.D := .list (strsD (grp id lf M k))
      let o2 : TK.D := .list (strsD (grp (fun j => j + 1) rt M k))
      have b6 := grp_eval (v1 := some LD) (v2 := some RD) (v4 := some XD) (v6 := v6) (v7 := v7) (v8 := v8) (v9 := v9) (M := M) (k := k) (ge := varE 1) (je := varE 10) (src := lf) (tf := id) (by omega) (by omega) zl (fun _ => rfl) (fun _ _ _ => rfl) γ
      have b7 := grp_eval (v1 := some LD) (v2 := some RD) (v4 := some XD) (v6 := some o1) (v7 := v7) (v8 := v8) (v9 := v9) (M := M) (k := k) (ge := varE 2) (je := binE addD (varE 10) (cE (.int 1))) (src := rt) (tf := fun j => j + 1) (by omega) (by omega) zr (fun _ => rfl) (fun _ _ _ => rfl) γ
      obtain ⟨u, γ2, u1, u2, g2⟩ := pick_ok g 14 (by decide) (by decide)
      obtain ⟨j, γ3, j1, g3⟩ := great_ok (ρ := [none, some LD, some RD, some (.int (M : Int)), some XD, some (.int (k : Int)), some o1, some o2, v8, v9, none, none]) g2
      obtain ⟨la, γ4, m1, g4, m2⟩ := moments_ok (n := 0) (by decide) g3
      obtain ⟨lb, γ5, m3, g5, m4⟩ := moments_ok (n := 0) (by decide) g4
      let t : Int := (u : Int) + j
      let lD : TK.D := .tuple [.tuple (intsL la), .tuple (intsL lb)]
      have b8 : (setS 8 (binE addD (callGE f__law_pick (consA (cE (.int 14)) (nilA))) (binE mulD (binE powD (cE (.int 10)) (cE (.int 11))) (unE intD (binE eqD (callGE f__law_pick (consA (cE (.int 12)) (nilA))) (cE (.int 11))))))) [none, some LD, some RD, some (.int (M : Int)), some XD, some (.int (k : Int)), some o1, some o2, v8, v9, none, none] γ = some (.nx [none, some LD, some RD, some (.int (M : Int)), some XD, some (.int (k : Int)), some o1, some o2, some (.int t), v9, none, none], γ3) := by
        rw [s_setS, s_binE]
        show (((f__law_pick [.int ((14 : Nat) : Int)] γ).bind _).bind _) = _
        rw [u2]
        show ((((binE mulD (binE powD (cE (.int 10)) (cE (.int 11))) (unE intD (binE eqD (callGE f__law_pick (consA (cE (.int 12)) (nilA))) (cE (.int 11))))) [none, some LD, some RD, some (.int (M : Int)), some XD, some (.int (k : Int)), some o1, some o2, v8, v9, none, none] γ2).bind fun y => (addD (.int (u : Int)) y.1).bind fun z => some (z, y.2)).bind _) = _
        rw [j1] <;> rfl
      have b9 : (setS 9 (tupE (consA (callGE f__law_moments (consA (cE (.int 0)) (nilA))) (consA (callGE f__law_moments (consA (cE (.int 0)) (nilA))) (nilA))))) [none, some LD, some RD, some (.int (M : Int)), some XD, some (.int (k : Int)), some o1, some o2, some (.int t), v9, none, none] γ3 = some (.nx [none, some LD, some RD, some (.int (M : Int)), some XD, some (.int (k : Int)), some o1, some o2, some (.int t), some lD, none, none], γ5) := by
        rw [s_setS, s_tupE, s_consA]
        show ((((f__law_moments [.int ((0 : Nat) : Int)] γ3).bind _).bind _).bind _) = _
        rw [m1]
        show (((((consA (callGE f__law_moments (consA (cE (.int 0)) (nilA))) nilA) [none, some LD, some RD, some (.int (M : Int)), some XD, some (.int (k : Int)), some o1, some o2, some (.int t), v9, none, none] γ4).bind _).bind _).bind _) = _
        rw [s_consA]
        show (((((f__law_moments [.int ((0 : Nat) : Int)] γ4).bind _).bind _).bind _).bind _) = _
        rw [m3] <;> rfl
      let n : Lk := ⟨A k, B k, t, la, lb⟩
      have b10 : (appS 4 (tupE (consA (unE tupleD (unE sortedD (varE 6))) (consA (unE tupleD (unE sortedD (varE 7))) (consA (varE 8) (consA (varE 9) (nilA))))))) [none, some LD, some RD, some (.int (M : Int)), some XD, some (.int (k : Int)), some o1, some o2, some (.int t), some lD, none, none] γ5 = some (.nx [none, some LD, some RD, some (.int (M : Int)), some (.list ((X ++ [n]).map eLk)), some (.int (k : Int)), some o1, some o2, some (.int t), some lD, none, none], γ5) := by
        have y1 : (unE tupleD (unE sortedD (varE 6))) [none, some LD, some RD, some (.int (M : Int)), some XD, some (.int (k : Int)), some o1, some o2, some (.int t), some lD, none, none] γ5 = some (.tuple (strsD (A k)), γ5) := by
          show (((sortedD (.list (strsD (grp id lf M k)))).bind fun z => some (z, γ5)).bind _) = _
          rw [sorted_strsL] <;> rfl
        have y2 : (unE tupleD (unE sortedD (varE 7))) [none, some LD, some RD, some (.int (M : Int)), some XD, some (.int (k : Int)), some o1, some o2, some (.int t), some lD, none, none] γ5 = some (.tuple (strsD (B k)), γ5) := by
          show (((sortedD (.list (strsD (grp (fun j => j + 1) rt M k)))).bind fun z => some (z, γ5)).bind _) = _
          rw [sorted_strsL] <;> rfl
        have y3 : (tupE (consA (unE tupleD (unE sortedD (varE 6))) (consA (unE tupleD (unE sortedD (varE 7))) (consA (varE 8) (consA (varE 9) (nilA)))))) [none, some LD, some RD, some (.int (M : Int)), some XD, some (.int (k : Int)), some o1, some o2, some (.int t), some lD, none, none] γ5 = some (eLk n, γ5) := by
          rw [s_tupE, s_consA, y1, Option.bind_some, s_consA, y2] <;> rfl
        rw [s_appS]
        show ((tupE _ _ γ5).bind _) = _
        rw [y3]
        show (if (X.map eLk).length < LINE then some (Out.nx [none, some LD, some RD, some (.int (M : Int)), some (.list (X.map eLk ++ [eLk n])), some (.int (k : Int)), some o1, some o2, some (.int t), some lD, none, none], γ5) else none) = _
        rw [if_pos (by rw [List.length_map]; exact Nat.lt_of_le_of_lt (show _ ≤ 8 by omega) (by decide)), List.map_append] <;> rfl
      refine ⟨_, _, γ5, rfl, ?_, ⟨X ++ [n], some (.int (k : Int)), some o1, some o2, some (.int t), some lD, rfl, by rw [List.map_append, List.map_append, x1] <;> rfl, by rw [List.map_append, List.map_append, x2] <;> rfl, fun l hl => ?_⟩, g5⟩
      · show seqS _ _ [none, some LD, some RD, some (.int (M : Int)), some XD, some (.int (k : Int)), v6, v7, v8, v9, none, none] γ = _
        rw [s_seqS, s_setS, b6, Option.bind_some, Option.bind_some]
        show seqS _ _ [none, some LD, some RD, some (.int (M : Int)), some XD, some (.int (k : Int)), some o1, v7, v8, v9, none, none] γ = _
        rw [s_seqS, s_setS, b7, Option.bind_some, Option.bind_some]
        show seqS _ _ [none, some LD, some RD, some (.int (M : Int)), some XD, some (.int (k : Int)), some o1, some o2, v8, v9, none, none] γ = _
        rw [s_seqS, b8, Option.bind_some]
        show seqS _ _ [none, some LD, some RD, some (.int (M : Int)), some XD, some (.int (k : Int)), some o1, some o2, some (.int t), v9, none, none] γ3 = _
        rw [s_seqS, b9, Option.bind_some]
        exact b10
      · rcases List.mem_append.mp hl with hl | hl
        · exact x3 l hl
        · rw [List.mem_singleton.mp hl]
          exact ⟨m2, m4⟩) ⟨⟨[], none, none, none, none, none, rfl, rfl, rfl, fun _ h => by cases h⟩, g1⟩
  subst h2
  have hXl : X.length = M := by
    have := congrArg List.length h3
    rwa [List.length_map, List.length_map, List.length_range] at this
  have hXa : ∀ l ∈ X, ∃ k < M, l.a = A k := fun l hl => by
    have : l.a ∈ X.map Lk.a := List.mem_map.mpr ⟨l, hl, rfl⟩
    rw [h3] at this
    obtain ⟨k, hk, e⟩ := List.mem_map.mp this
    exact ⟨k, List.mem_range.mp hk, e.symm⟩
  have hXb : ∀ l ∈ X, ∃ k < M, l.b = B k := fun l hl => by
    have : l.b ∈ X.map Lk.b := List.mem_map.mpr ⟨l, hl, rfl⟩
    rw [h4] at this
    obtain ⟨k, hk, e⟩ := List.mem_map.mp this
    exact ⟨k, List.mem_range.mp hk, e.symm⟩
  have neA : ∀ k, A k ≠ [] := fun k e => by
    have := tsort_len PyData.str (grp id lf M k)
    have e' : (tsort PyData.str (grp id lf M k)).length = 0 := congrArg List.length e
    rw [e'] at this
    unfold grp at this
    simp at this
  have neB : ∀ k, B k ≠ [] := fun k e => by
    have := tsort_len PyData.str (grp (fun j => j + 1) rt M k)
    have e' : (tsort PyData.str (grp (fun j => j + 1) rt M k)).length = 0 := congrArg List.length e
    rw [e'] at this
    unfold grp at this
    simp at this
  refine ⟨X, γ', ?_, h6, ⟨by omega, fun l hl x hx => ?_, fun l hl x hx => ?_, fun l hl => ?_, fun l hl => ?_, fun l hl => ?_, ?_, ?_⟩⟩
  · show (g__law_links [none, some LD, some RD, none, none, none, none, none, none, none, none, none] γ).bind _ = _
    unfold g__law_links
    rw [s_seqS, a1, Option.bind_some]
    show (seqS _ _ [none, some LD, some RD, some (.int (M : Int)), none, none, none, none, none, none, none, none] γ1).bind _ = _
    rw [s_seqS]
    show (seqS _ _ [none, some LD, some RD, some (.int (M : Int)), some (.list []), none, none, none, none, none, none, none] γ1).bind _ = _
    have hr : rngI (varE 3) [none, some LD, some RD, some (.int (M : Int)), some (.list []), none, none, none, none, none, none, none] γ1 = some ((List.range M).map fun k : Nat => .int (k : Int), γ1) := by
      show (if (M : Int) ≤ 100000 ∧ -100000 ≤ (M : Int) then some ((List.range (M : Int).toNat).map fun k : Nat => PyData.int (k : Int), γ1) else none) = _
      rw [if_pos ⟨by omega, by omega⟩, Int.toNat_natCast]
    rw [s_seqS, s_forS, hr, Option.bind_some]
    show ((forL _ _ ((List.range M).map fun k : Nat => .int (k : Int)) _ _).bind _).bind _ = _
    rw [h1, Option.bind_some]
    show (((((sortedD (.list (X.map eLk))).bind fun z => some (z, γ')).bind _).bind _).bind _) = _
    rw [sorted_lks] <;> rfl
  · obtain ⟨k, hk, e⟩ := hXa l hl
    rw [e] at hx
    exact grp_in (by omega) (tsort_mem.mp hx)
  · obtain ⟨k, hk, e⟩ := hXb l hl
    rw [e] at hx
    exact grp_in (by omega) (tsort_mem.mp hx)
  · obtain ⟨k, hk, e⟩ := hXa l hl
    rw [e]
    exact neA k
  · obtain ⟨k, hk, e⟩ := hXb l hl
    rw [e]
    exact neB k
  · obtain ⟨k, hk, e⟩ := hXa l hl
    obtain ⟨k', hk', e'⟩ := hXb l hl
    obtain ⟨z1, z2⟩ := h5 l hl
    refine ⟨?_, ?_, by omega, by omega⟩
    · rw [e]
      show (ssort (grp id lf M k)).length ≤ 100
      rw [tsort_len]
      have := grp_len (tf := id) (l := lf) (M := M) (k := k)
      omega
    · rw [e']
      show (ssort (grp (fun j => j + 1) rt M k')).length ≤ 100
      rw [tsort_len]
      have := grp_len (tf := fun j => j + 1) (l := rt) (M := M) (k := k')
      omega
  · have : (X.map Lk.a).Pairwise fun p q => ∀ x ∈ p, x ∉ q := by
      rw [h3]
      refine List.pairwise_map.mpr (pw_of List.nodup_range fun k hk k' hk' hne x hx hx' => ?_)
      exact grp_dj nl M1 (List.mem_range.mp hk) (List.mem_range.mp hk') hne (tsort_mem.mp hx) (tsort_mem.mp hx')
    exact List.pairwise_map.mp this
  · have : (X.map Lk.b).Pairwise fun p q => ∀ x ∈ p, x ∉ q := by
      rw [h4]
      refine List.pairwise_map.mpr (pw_of List.nodup_range fun k hk k' hk' hne x hx hx' => ?_)
      exact grp_dj nr M2 (List.mem_range.mp hk) (List.mem_range.mp hk') hne (tsort_mem.mp hx) (tsort_mem.mp hx')
    exact List.pairwise_map.mp this
end TK.M
end
section
set_option Elab.async false
set_option linter.all false
set_option maxRecDepth 100000
set_option maxHeartbeats 4000000
/-! The draws: the book. -/
namespace TK.M
open PySem PySem.Spec PyProof.Rows L2
def nst (Z : Bool → List TK.D) : TK.D := .list [.list (Z false), .list (Z true)]
def upd1 {α : Type} (Z : Bool → List α) (s : Bool) (x : α) : Bool → List α := fun t => if t = s then Z t ++ [x] else Z t
theorem upd_same {α : Type} (Z : Bool → List α) (s : Bool) (x : α) : upd1 Z s x s = Z s ++ [x] := if_pos rfl
theorem upd_ne {α : Type} (Z : Bool → List α) {s t : Bool} (h : t ≠ s) (x : α) : upd1 Z s x t = Z t := if_neg h
theorem nst_upd (Z : Bool → List TK.D) (s : Bool) (x : TK.D) : nst (upd1 Z s x) = if s then .list [.list (Z false), .list (Z true ++ [x])] else .list [.list (Z false ++ [x]), .list (Z true)] := by
  cases s <;> rfl
theorem napp_ok {i : Nat} {k a : GE} {ρ : Env} {γ γ' : G} {Z : Bool → List TK.D} {s : Bool} {x : TK.D} (hk : k ρ γ = some (sdI s, γ)) (ha : a ρ γ = some (x, γ')) (hi : ρ[i]? = some (some (nst Z))) (hz : (Z s).length < LINE) :
    nappS i k a ρ γ = some (.nx (ρ.set i (some (nst (upd1 Z s x)))), γ') := by
  have hn : nestL ρ i = some (Z false, Z true) := by
    unfold nestL
    rw [hi] <;> rfl
  unfold nappS
  rw [hk, Option.bind_some]
  show ((a ρ γ).bind _) = _
  rw [ha, Option.bind_some, hn, Option.bind_some]
  cases s with
  | false =>
    show (if (Z false).length < LINE then _ else _) = _
    rw [if_pos hz] <;> rfl
  | true =>
    show (if (Z true).length < LINE then _ else _) = _
    rw [if_pos hz] <;> rfl
structure Jb (D : Bool → List Str) (P : Bool → List Pt) (K : Bool → List Str) (al : List Str) (kv : List (TK.D × TK.D)) : Prop where
  n : ∀ s, nms (P s) = D s
  ms : ∀ s, ∀ p ∈ P s, p.ms.length ≤ 3 ∧ p.x.length ≤ 100
  k : ∀ s, ∀ x ∈ K s, x ∈ D s
  nk : ∀ s, (K s).Nodup
  ala : ∀ x ∈ al, x ∈ D false ∨ x ∈ D true
  dj : ∀ s, ∀ x ∈ K s, x ∉ al
  zal : al.length ≤ (D false).length + (D true).length
  zkv : kv.length ≤ (D false).length + (D true).length
theorem upd_len (D : Bool → List Str) (s : Bool) (x : Str) : (upd1 D s x false).length + (upd1 D s x true).length = (D false).length + (D true).length + 1 := by
  cases s <;> simp [upd1] <;> omega
theorem upd_mem {D : Bool → List Str} {s t : Bool} {x y : Str} : y ∈ upd1 D s x t ↔ y ∈ D t ∨ (t = s ∧ y = x) := by
  unfold upd1
  by_cases h : t = s
  · rw [if_pos h, List.mem_append, List.mem_singleton]
    exact ⟨fun z => z.imp id fun e => ⟨h, e⟩, fun z => z.imp id fun e => e.2⟩
  · rw [if_neg h]
    exact ⟨.inl, fun z => z.elim id fun e => absurd e.1 h⟩
theorem putKs_len (x : Str) (kv : List (TK.D × TK.D)) : (putKs x kv).length ≤ kv.length + 1 := by
  unfold putKs
  split
  · exact Nat.le_succ _
  · rw [List.length_append] <;> exact Nat.le_refl _
variable {D : Bool → List Str} {P : Bool → List Pt} {K : Bool → List Str} {al : List Str} {kv : List (TK.D × TK.D)}
/-- a part is put; it goes nowhere else -/
theorem Jb.part (j : Jb D P K al kv) {s : Bool} {x tx : Str} {ms : List Int} (hm : ms.length ≤ 3) (ht : tx.length ≤ 100) : Jb (upd1 D s x) (upd1 P s ⟨x, tx, ms⟩) K al (putKs x kv) :=
  ⟨fun t => by
    unfold upd1
    by_cases h : t = s
    · rw [if_pos h, if_pos h, nms_app, j.n]
    · rw [if_neg h, if_neg h, j.n],
   fun t p hp => by
    unfold upd1 at hp
    by_cases h : t = s
    · rw [if_pos h] at hp
      rcases List.mem_append.mp hp with hp | hp
      · exact j.ms t p hp
      · rw [List.mem_singleton.mp hp]
        exact ⟨hm, ht⟩
    · rw [if_neg h] at hp
      exact j.ms t p hp,
   fun t y hy => upd_mem.mpr (.inl (j.k t y hy)), j.nk, fun y hy => (j.ala y hy).imp (fun h => upd_mem.mpr (.inl h)) fun h => upd_mem.mpr (.inl h), j.dj,
   by rw [upd_len]; exact Nat.le_succ_of_le j.zal, by rw [upd_len]; exact Nat.le_trans (putKs_len x kv) (Nat.succ_le_succ j.zkv)⟩
theorem Jb.alone (j : Jb D P K al kv) {s : Bool} {x : Str} (hx : x ∈ D s) (hK : ∀ t, x ∉ K t) (hz : al.length + 1 ≤ (D false).length + (D true).length) : Jb D P K (al ++ [x]) kv :=
  ⟨j.n, j.ms, j.k, j.nk, fun y hy => by
    rcases List.mem_append.mp hy with hy | hy
    · exact j.ala y hy
    · rw [List.mem_singleton.mp hy]
      cases s with
      | false => exact .inl hx
      | true => exact .inr hx,
   fun t y hy hya => by
    rcases List.mem_append.mp hya with h | h
    · exact j.dj t y hy h
    · rw [List.mem_singleton.mp h] at hy
      exact hK t hy, by rw [List.length_append]; exact hz, j.zkv⟩
theorem Jb.linked (j : Jb D P K al kv) {s : Bool} {x : Str} (hx : x ∈ D s) (hK : x ∉ K s) (ha : x ∉ al) : Jb D P (upd1 K s x) al kv :=
  ⟨j.n, j.ms, fun t y hy => by
    rcases upd_mem.mp hy with h | ⟨h, e⟩
    · exact j.k t y h
    · rw [h, e]; exact hx,
   fun t => by
    unfold upd1
    by_cases h : t = s
    · rw [if_pos h]
      subst h
      exact nodup_snoc (j.nk t) hK
    · rw [if_neg h]
      exact j.nk t,
   j.ala, fun t y hy hya => by
    rcases upd_mem.mp hy with h | ⟨h, e⟩
    · exact j.dj t y h hya
    · rw [e] at hya
      exact ha hya, j.zal, j.zkv⟩
abbrev envB (mo : TK.D) (bare : Bool) (mn nm sd : TK.D) (P : Bool → List Pt) (K : Bool → List Str) (al : List Str) (kv : List (TK.D × TK.D)) (v10 v12 v13 v14 : Option TK.D) : Env := [none, some mo, some (.bool bare), some mn, some nm, some sd, some (nst fun s => strsD (K s)), some (.list (strsD al)), some (nst fun s => (P s).map ePt), some (.dict kv), v10, none, v12, v13, v14]
def bodyB : GS := seqS (wordsS 14 9 (varE 12) (callGE f__law_text (consA (binE idxD (newE (lstN (consA (newE (lstN (consA (cE (.str "ka")) (consA (cE (.str "lo")) (consA (cE (.str "mi7")) (consA (cE (.str "x")) (nilA))))))) (consA (newE (lstN (consA (cE (.str "aur")) (consA (cE (.str "ka")) (consA (cE (.str "sol")) (consA (cE (.str "9")) (nilA))))))) (nilA))))) (varE 10)) (nilA)))) (seqS (nappS 8 (varE 10) (tupE (consA (varE 12) (consA (varE 14) (consA (callGE f__law_moments (consA (cE (.int 1)) (nilA))) (nilA)))))) (seqS (setS 13 (callGE f__law_pick (consA (cE (.int 7)) (nilA)))) (seqS (ifS (valT (binE eqD (varE 13) (cE (.int 6)))) (appS 7 (varE 12)) (nextS)) (ifS (andT (valT (binE inD (varE 13) (tupE (consA (cE (.int 3)) (consA (cE (.int 4)) (consA (cE (.int 5)) (nilA))))))) (notT (valT (varE 2)))) (nappS 6 (varE 10) (varE 12)) (nextS)))))
theorem map_upd {α : Type} (f : α → TK.D) (Z : Bool → List α) (s : Bool) (x : α) : upd1 (fun t => (Z t).map f) s (f x) = fun t => (upd1 Z s x t).map f := by
  funext t
  unfold upd1
  by_cases h : t = s
  · rw [if_pos h, if_pos h, List.map_append] <;> rfl
  · rw [if_neg h, if_neg h]
theorem body_book {mo mn nm sd : TK.D} {bare : Bool} {s : Bool} {x : Str} {v12 v13 v14 : Option TK.D} {γ : G} (j : Jb D P K al kv) (g : Gok γ) (hf : ∀ t, x ∉ D t) (hz : (D false).length + (D true).length ≤ 50) :
    ∃ P' K' al' kv' v13' v14' γ', bodyB (envB mo bare mn nm sd P K al kv (some (sdI s)) (some (.str x)) v13 v14) γ = some (.nx (envB mo bare mn nm sd P' K' al' kv' (some (sdI s)) (some (.str x)) v13' v14'), γ') ∧ Jb (upd1 D s x) P' K' al' kv' ∧ Gok γ' := by
  let W : List Str := if s then wB else wA
  have hW : W = wA ∨ W = wB := by
    cases s with
    | false => exact .inl rfl
    | true => exact .inr rfl
  obtain ⟨tx, ws, γ1, t1, g1, t2⟩ := text_ok hW g
  obtain ⟨ms, γ2, m1, g2, m2⟩ := moments_ok (n := 1) (by decide) g1
  obtain ⟨w, γ3, w1, w2, g3⟩ := pick_ok g2 7 (by decide) (by decide)
  have hPl : (P s).length ≤ 50 := by
    have := congrArg List.length (j.n s)
    unfold nms at this
    rw [List.length_map] at this
    cases s <;> omega
  have hsub : ∀ {l m : List Str}, l.Nodup → (∀ y ∈ l, y ∈ m) → l.length ≤ m.length := fun h1 h2 => nodup_sub h1 h2
  have hKl : (K s).length ≤ 50 := by
    have := nodup_sub (j.nk s) (j.k s)
    cases s <;> omega
  have hall : al.length ≤ 50 := by have := j.zal; omega
  have hkvl : kv.length ≤ 50 := by have := j.zkv; omega
  have hxK : ∀ t, x ∉ K t := fun t h => hf t (j.k t x h)
  have hxa : x ∉ al := fun h => (j.ala x h).elim (hf false) (hf true)
  have j1 := j.part (s := s) (x := x) (tx := tx) m2 t2
  have hxD : x ∈ upd1 D s x s := upd_mem.mpr (.inr ⟨rfl, rfl⟩)
  have e0 : (binE idxD (newE (lstN (consA (newE (lstN (consA (cE (.str "ka")) (consA (cE (.str "lo")) (consA (cE (.str "mi7")) (consA (cE (.str "x")) (nilA))))))) (consA (newE (lstN (consA (cE (.str "aur")) (consA (cE (.str "ka")) (consA (cE (.str "sol")) (consA (cE (.str "9")) (nilA))))))) (nilA))))) (varE 10)) (envB mo bare mn nm sd P K al kv (some (sdI s)) (some (.str x)) v13 v14) γ = some (.list (strsD W), γ) := by
    cases s <;> rfl
  have e1 : (callGE f__law_text (consA (binE idxD (newE (lstN (consA (newE (lstN (consA (cE (.str "ka")) (consA (cE (.str "lo")) (consA (cE (.str "mi7")) (consA (cE (.str "x")) (nilA))))))) (consA (newE (lstN (consA (cE (.str "aur")) (consA (cE (.str "ka")) (consA (cE (.str "sol")) (consA (cE (.str "9")) (nilA))))))) (nilA))))) (varE 10)) (nilA))) (envB mo bare mn nm sd P K al kv (some (sdI s)) (some (.str x)) v13 v14) γ = some (.tuple [.str tx, ws], γ1) := by
    rw [s_callGE, s_consA, e0]
    show f__law_text [.list (strsD W)] γ = _
    exact t1
  have b1 : (wordsS 14 9 (varE 12) (callGE f__law_text (consA (binE idxD (newE (lstN (consA (newE (lstN (consA (cE (.str "ka")) (consA (cE (.str "lo")) (consA (cE (.str "mi7")) (consA (cE (.str "x")) (nilA))))))) (consA (newE (lstN (consA (cE (.str "aur")) (consA (cE (.str "ka")) (consA (cE (.str "sol")) (consA (cE (.str "9")) (nilA))))))) (nilA))))) (varE 10)) (nilA)))) (envB mo bare mn nm sd P K al kv (some (sdI s)) (some (.str x)) v13 v14) γ = some (.nx (envB mo bare mn nm sd P K al (putKs x kv) (some (sdI s)) (some (.str x)) v13 (some (.str tx))), γ1) := by
    unfold wordsS
    rw [e1]
    show (if kv.length < LINE then some (Out.nx (envB mo bare mn nm sd P K al (putKs x kv) (some (sdI s)) (some (.str x)) v13 (some (.str tx))), γ1) else none) = _
    rw [if_pos (line_pos (by omega))]
  have b2 : (nappS 8 (varE 10) (tupE (consA (varE 12) (consA (varE 14) (consA (callGE f__law_moments (consA (cE (.int 1)) (nilA))) (nilA)))))) (envB mo bare mn nm sd P K al (putKs x kv) (some (sdI s)) (some (.str x)) v13 (some (.str tx))) γ1 = some (.nx (envB mo bare mn nm sd (upd1 P s ⟨x, tx, ms⟩) K al (putKs x kv) (some (sdI s)) (some (.str x)) v13 (some (.str tx))), γ2) := by
    have q : (tupE (consA (varE 12) (consA (varE 14) (consA (callGE f__law_moments (consA (cE (.int 1)) (nilA))) (nilA))))) (envB mo bare mn nm sd P K al (putKs x kv) (some (sdI s)) (some (.str x)) v13 (some (.str tx))) γ1 = some (ePt ⟨x, tx, ms⟩, γ2) := by
      show (((((f__law_moments [.int ((1 : Nat) : Int)] γ1).bind _).bind _).bind _).bind _) = _
      rw [m1] <;> rfl
    rw [napp_ok (Z := fun s => (P s).map ePt) (s := s) rfl q rfl (by rw [List.length_map]; exact line_pos (by omega)), map_upd] <;> rfl
  have b3 : (setS 13 (callGE f__law_pick (consA (cE (.int 7)) (nilA)))) (envB mo bare mn nm sd (upd1 P s ⟨x, tx, ms⟩) K al (putKs x kv) (some (sdI s)) (some (.str x)) v13 (some (.str tx))) γ2 = some (.nx (envB mo bare mn nm sd (upd1 P s ⟨x, tx, ms⟩) K al (putKs x kv) (some (sdI s)) (some (.str x)) (some (.int (w : Int))) (some (.str tx))), γ3) := by
    show ((f__law_pick [.int ((7 : Nat) : Int)] γ2).bind _) = _
    rw [w2] <;> rfl
  have hin : ∃ c : Bool, inD (.int (w : Int)) (.tuple [.int 3, .int 4, .int 5]) = some (.bool c) ∧ (w = 6 → c = false) := by
    rcases (by omega : w = 0 ∨ w = 1 ∨ w = 2 ∨ w = 3 ∨ w = 4 ∨ w = 5 ∨ w = 6) with h | h | h | h | h | h | h <;> subst h
    · exact ⟨false, rfl, fun _ => rfl⟩
    · exact ⟨false, rfl, fun _ => rfl⟩
    · exact ⟨false, rfl, fun _ => rfl⟩
    · exact ⟨true, rfl, fun h => by omega⟩
    · exact ⟨true, rfl, fun h => by omega⟩
    · exact ⟨true, rfl, fun h => by omega⟩
    · exact ⟨false, rfl, fun _ => rfl⟩
  obtain ⟨c, hc, hc6⟩ := hin
  let P' := upd1 P s ⟨x, tx, ms⟩
  let kv' := putKs x kv
  have b4t : ∀ al, (valT (binE eqD (varE 13) (cE (.int 6)))) (envB mo bare mn nm sd P' K al kv' (some (sdI s)) (some (.str x)) (some (.int (w : Int))) (some (.str tx))) γ3 = some (decide ((w : Int) = 6), γ3) := fun al => by
    show (((eqD (.int (w : Int)) (.int 6)).bind fun z => some (z, γ3)).bind _) = _
    rw [eqD_int] <;> rfl
  have b5t : ∀ al, (andT (valT (binE inD (varE 13) (tupE (consA (cE (.int 3)) (consA (cE (.int 4)) (consA (cE (.int 5)) (nilA))))))) (notT (valT (varE 2)))) (envB mo bare mn nm sd P' K al kv' (some (sdI s)) (some (.str x)) (some (.int (w : Int))) (some (.str tx))) γ3 = some (c && !bare, γ3) := fun al => by
    have q : (valT (binE inD (varE 13) (tupE (consA (cE (.int 3)) (consA (cE (.int 4)) (consA (cE (.int 5)) (nilA))))))) (envB mo bare mn nm sd P' K al kv' (some (sdI s)) (some (.str x)) (some (.int (w : Int))) (some (.str tx))) γ3 = some (c, γ3) := by
      show (((inD (.int (w : Int)) (.tuple [.int 3, .int 4, .int 5])).bind fun z => some (z, γ3)).bind _) = _
      rw [hc] <;> rfl
    rw [s_andT, q, Option.bind_some]
    cases c <;> rfl
  have step : ∀ al' K' γ', (∃ γ4, seqS (ifS (valT (binE eqD (varE 13) (cE (.int 6)))) (appS 7 (varE 12)) (nextS)) (ifS (andT (valT (binE inD (varE 13) (tupE (consA (cE (.int 3)) (consA (cE (.int 4)) (consA (cE (.int 5)) (nilA))))))) (notT (valT (varE 2)))) (nappS 6 (varE 10) (varE 12)) (nextS)) (envB mo bare mn nm sd P' K al kv' (some (sdI s)) (some (.str x)) (some (.int (w : Int))) (some (.str tx))) γ3 = some (.nx (envB mo bare mn nm sd P' K' al' kv' (some (sdI s)) (some (.str x)) (some (.int (w : Int))) (some (.str tx))), γ4) ∧ γ4 = γ') → bodyB (envB mo bare mn nm sd P K al kv (some (sdI s)) (some (.str x)) v13 v14) γ = some (.nx (envB mo bare mn nm sd P' K' al' kv' (some (sdI s)) (some (.str x)) (some (.int (w : Int))) (some (.str tx))), γ') := fun al' K' γ' ⟨γ4, h, e⟩ => by
    subst e
    unfold bodyB
    rw [s_seqS, b1, Option.bind_some]
    show seqS _ _ (envB mo bare mn nm sd P K al (putKs x kv) (some (sdI s)) (some (.str x)) v13 (some (.str tx))) γ1 = _
    rw [s_seqS, b2, Option.bind_some]
    show seqS _ _ (envB mo bare mn nm sd (upd1 P s ⟨x, tx, ms⟩) K al (putKs x kv) (some (sdI s)) (some (.str x)) v13 (some (.str tx))) γ2 = _
    rw [s_seqS, b3, Option.bind_some]
    exact h
  by_cases h6 : w = 6
  · have hcf := hc6 h6
    have j2 := j1.alone (s := s) hxD hxK (by rw [upd_len]; have := j.zal; omega)
    refine ⟨P', K, al ++ [x], kv', _, _, γ3, step (al ++ [x]) K γ3 ⟨γ3, ?_, rfl⟩, j2, g3⟩
    rw [s_seqS, s_ifS, b4t, decide_eq_true (by omega), Option.bind_some]
    have q : (appS 7 (varE 12)) (envB mo bare mn nm sd P' K al kv' (some (sdI s)) (some (.str x)) (some (.int (w : Int))) (some (.str tx))) γ3 = some (.nx (envB mo bare mn nm sd P' K (al ++ [x]) kv' (some (sdI s)) (some (.str x)) (some (.int (w : Int))) (some (.str tx))), γ3) := by
      show (if (strsD al).length < LINE then some (Out.nx ((envB mo bare mn nm sd P' K al kv' (some (sdI s)) (some (.str x)) (some (.int (w : Int))) (some (.str tx))).set 7 (some (.list (strsD al ++ [.str x])))), γ3) else none) = _
      rw [if_pos (by rw [List.length_map]; exact line_pos (by omega)), show strsD al ++ [.str x] = strsD (al ++ [x]) by unfold strsD; rw [List.map_append] <;> rfl] <;> rfl
    show (((appS 7 (varE 12)) (envB mo bare mn nm sd P' K al kv' (some (sdI s)) (some (.str x)) (some (.int (w : Int))) (some (.str tx))) γ3).bind _) = _
    rw [q, Option.bind_some]
    show ifS _ _ _ (envB mo bare mn nm sd P' K (al ++ [x]) kv' (some (sdI s)) (some (.str x)) (some (.int (w : Int))) (some (.str tx))) γ3 = _
    rw [s_ifS, b5t, hcf] <;> rfl
  · by_cases hcb : (c && !bare) = true
    · have j2 := j1.linked (s := s) hxD (hxK s) hxa
      refine ⟨P', upd1 K s x, al, kv', _, _, γ3, step al (upd1 K s x) γ3 ⟨γ3, ?_, rfl⟩, j2, g3⟩
      rw [s_seqS, s_ifS, b4t, decide_eq_false (by omega), Option.bind_some]
      show ifS _ _ _ (envB mo bare mn nm sd P' K al kv' (some (sdI s)) (some (.str x)) (some (.int (w : Int))) (some (.str tx))) γ3 = _
      rw [s_ifS, b5t, hcb, Option.bind_some]
      show nappS 6 (varE 10) (varE 12) (envB mo bare mn nm sd P' K al kv' (some (sdI s)) (some (.str x)) (some (.int (w : Int))) (some (.str tx))) γ3 = _
      rw [napp_ok (Z := fun s => strsD (K s)) (s := s) (x := .str x) (γ' := γ3) rfl rfl rfl (by rw [List.length_map]; exact line_pos (by omega)), map_upd] <;> rfl
    · refine ⟨P', K, al, kv', _, _, γ3, step al K γ3 ⟨γ3, ?_, rfl⟩, ⟨j1.n, j1.ms, j1.k, j1.nk, j1.ala, j1.dj, j1.zal, j1.zkv⟩, g3⟩
      rw [s_seqS, s_ifS, b4t, decide_eq_false (by omega), Option.bind_some]
      show ifS _ _ _ (envB mo bare mn nm sd P' K al kv' (some (sdI s)) (some (.str x)) (some (.int (w : Int))) (some (.str tx))) γ3 = _
      rw [s_ifS, b5t, Bool.eq_false_iff.mpr hcb] <;> rfl
/-- one side's loop -/
theorem side_book {mo mn nm sd : TK.D} {bare : Bool} {s : Bool} {xs : List Str} (nd : xs.Nodup) {v12 v13 v14 : Option TK.D} {γ : G} (j : Jb D P K al kv) (g : Gok γ) (h0 : D s = []) (hf : ∀ x ∈ xs, x ∉ D (!s)) (hz : (D (!s)).length + xs.length ≤ 50) :
    ∃ P' K' al' kv' v12' v13' v14' γ', forL (tgN 12) bodyB (strsD xs) (envB mo bare mn nm sd P K al kv (some (sdI s)) v12 v13 v14) γ = some (.nx (envB mo bare mn nm sd P' K' al' kv' (some (sdI s)) v12' v13' v14'), γ') ∧ Jb (fun t => if t = s then xs else D t) P' K' al' kv' ∧ Gok γ' := by
  obtain ⟨ρ', γ', h1, ⟨P', K', al', kv', v12', v13', v14', h2, h3⟩, h4⟩ := forL_all PyData.str (fun don ρ γ => (∃ P' K' al' kv' v12' v13' v14', ρ = envB mo bare mn nm sd P' K' al' kv' (some (sdI s)) v12' v13' v14' ∧ Jb (fun t => if t = s then don else D t) P' K' al' kv') ∧ Gok γ) (tg := tgN 12) (b := bodyB) xs (envB mo bare mn nm sd P K al kv (some (sdI s)) v12 v13 v14) γ (fun don x rest e ρ γ z => by
      obtain ⟨⟨P1, K1, al1, kv1, v12, v13, v14, rfl, j⟩, g⟩ := z
      have hdl : don.length + 1 ≤ xs.length := by rw [e, List.length_append, List.length_cons]; omega
      have hxd : x ∉ don := fun h => by
        rw [e] at nd
        exact (List.nodup_append.mp nd).2.2 x h x List.mem_cons_self rfl
      have hnn : (!s) ≠ s := by cases s <;> decide
      obtain ⟨P2, K2, al2, kv2, v13', v14', γ2, b1, b2, b3⟩ := body_book (mo := mo) (mn := mn) (nm := nm) (sd := sd) (bare := bare) (s := s) (x := x) (v12 := some (.str x)) (v13 := v13) (v14 := v14) j g (fun t => by
        by_cases h : t = s
        · simp only [h, if_true]
          exact hxd
        · simp only [if_neg h]
          have : t = !s := by cases s <;> cases t <;> first | rfl | exact absurd rfl h
          rw [this]
          exact hf x (by rw [e]; simp)) (by cases s <;> simp only [Bool.not_true, Bool.not_false] at hz <;> simp <;> omega)
      refine ⟨_, _, γ2, rfl, b1, ⟨P2, K2, al2, kv2, some (.str x), v13', v14', rfl, ?_⟩, b3⟩
      have eD : upd1 (fun t => if t = s then don else D t) s x = fun t => if t = s then don ++ [x] else D t := by
        funext t
        unfold upd1
        by_cases h : t = s
        · simp only [if_pos h]
        · simp only [if_neg h]
      rw [← eD]
      exact b2) ⟨⟨P, K, al, kv, v12, v13, v14, rfl, by
        have : (fun t => if t = s then ([] : List Str) else D t) = D := by
          funext t
          by_cases h : t = s
          · rw [if_pos h, h, h0]
          · rw [if_neg h]
        rw [this]
        exact j⟩, g⟩
  subst h2
  exact ⟨P', K', al', kv', v12', v13', v14', γ', h1, h3, h4⟩
end TK.M
end
section
set_option Elab.async false
set_option linter.all false
set_option maxRecDepth 100000
set_option maxHeartbeats 4000000
/-! The draws: the whole book. -/
namespace TK.M
open PySem PySem.Spec PyProof.Rows L2
structure Bkok (b : Bk) : Prop where
  wf : WF b
  zp : b.p.length ≤ 12
  zq : b.q.length ≤ 12
  zl : b.ls.length ≤ 8
  tx : ∀ s, ∀ p ∈ b.sd s, p.x.length ≤ 100
theorem book_of {D : Bool → List Str} {P : Bool → List Pt} {K : Bool → List Str} {al : List Str} {kv : List (TK.D × TK.D)} (j : Jb D P K al kv) {X : List Lk} (lx : Lx (K false) (K true) X) (nd : (D false ++ D true).Nodup) (ne : ∀ x ∈ D false ++ D true, x ≠ "") (z0 : (D false).length ≤ 12) (z1 : (D true).length ≤ 12) : Bkok ⟨P false, P true, lsort X, ssort al⟩ := by
  have e0 := j.n false
  have e1 := j.n true
  have zp : (P false).length ≤ 12 := by
    have := congrArg List.length e0
    unfold nms at this
    rw [List.length_map] at this
    omega
  have zq : (P true).length ≤ 12 := by
    have := congrArg List.length e1
    unfold nms at this
    rw [List.length_map] at this
    omega
  have zl : (lsort X).length ≤ 8 := by
    rw [tsort_len]
    exact lx.len
  have za : (ssort al).length ≤ 24 := by
    rw [tsort_len]
    have := j.zal
    omega
  refine ⟨⟨?_, fun l hl x hx => ?_, fun l hl x hx => ?_, fun l hl => lx.na l (tsort_mem.mp hl), fun l hl => lx.nb l (tsort_mem.mp hl), ?_, ?_, fun x hx => ?_, fun l hl x hx => ?_, ?_, ?_⟩, zp, zq, zl, fun s p hp => ?_⟩
  · show (nms (P false) ++ nms (P true)).Nodup
    rw [e0, e1]
    exact nd
  · show x ∈ nms (P false)
    rw [e0]
    exact j.k false x (lx.a l (tsort_mem.mp hl) x hx)
  · show x ∈ nms (P true)
    rw [e1]
    exact j.k true x (lx.b l (tsort_mem.mp hl) x hx)
  · exact ((tsort_perm eLk X).pairwise_iff (fun {l m} h x hx hx' => h x hx' hx)).mpr lx.da
  · exact ((tsort_perm eLk X).pairwise_iff (fun {l m} h x hx hx' => h x hx' hx)).mpr lx.db
  · show x ∈ nms (P false) ∨ x ∈ nms (P true)
    rw [e0, e1]
    exact j.ala x (tsort_mem.mp hx)
  · have hx' := tsort_mem.mp hx
    exact ⟨fun h => j.dj false x (lx.a l (tsort_mem.mp hl) x h) hx', fun h => j.dj true x (lx.b l (tsort_mem.mp hl) x h) hx'⟩
  · show ∀ x ∈ nms (P false) ++ nms (P true), x ≠ ""
    rw [e0, e1]
    exact ne
  · refine ⟨Nat.le_trans zp (by decide), Nat.le_trans zq (by decide), Nat.le_trans zl (by decide), Nat.le_trans za (by decide), fun p hp => ?_, fun l hl => lx.za l (tsort_mem.mp hl)⟩
    rcases List.mem_append.mp hp with h | h
    · exact Nat.le_trans (j.ms false p h).1 (by decide)
    · exact Nat.le_trans (j.ms true p h).1 (by decide)
  · cases s with
    | false => exact (j.ms false p hp).2
    | true => exact (j.ms true p hp).2
theorem sub_nd {a l : List Str} (h : a.Sublist l) (nd : l.Nodup) : a.Nodup := h.nodup nd
theorem book_ok {γ : G} (g : Gok γ) : ∃ (b : Bk) (ws : TK.D) (γ' : G), f__law_book [] γ = some (.tuple [eBk b, ws], γ') ∧ Gok γ' ∧ Bkok b := by
  let N : Option TK.D := none
  obtain ⟨p, γ1, p1, p2, g1⟩ := pick_ok g 8 (by decide) (by decide)
  obtain ⟨M, hM, a1⟩ : ∃ M : Nat, (M = 8 ∨ M = 13) ∧ (setS 1 (binE idxD (newE (lstN (consA (cE (.int 8)) (consA (cE (.int 13)) (nilA))))) (unE intD (binE eqD (callGE f__law_pick (consA (cE (.int 8)) (nilA))) (cE (.int 7)))))) [N, N, N, N, N, N, N, N, N, N, N, N, N, N, N] γ = some (.nx [N, some (.int (M : Int)), N, N, N, N, N, N, N, N, N, N, N, N, N], γ1) := by
    have e1 : (unE intD (binE eqD (callGE f__law_pick (consA (cE (.int 8)) (nilA))) (cE (.int 7)))) [N, N, N, N, N, N, N, N, N, N, N, N, N, N, N] γ = some (.int (if decide ((p : Int) = 7) then 1 else 0), γ1) := by
      show ((((f__law_pick [.int ((8 : Nat) : Int)] γ).bind fun x => (eqD x.1 (.int 7)).bind fun z => some (z, x.2))).bind fun x => (intD x.1).bind fun z => some (z, x.2)) = _
      rw [p2]
      show (((eqD (.int (p : Int)) (.int 7)).bind fun z => some (z, γ1)).bind fun x => (intD x.1).bind fun z => some (z, x.2)) = _
      rw [eqD_int] <;> rfl
    by_cases h : (p : Int) = 7
    · rw [decide_eq_true h] at e1
      refine ⟨13, .inr rfl, ?_⟩
      rw [s_setS, s_binE]
      show ((((unE intD (binE eqD (callGE f__law_pick (consA (cE (.int 8)) (nilA))) (cE (.int 7)))) [N, N, N, N, N, N, N, N, N, N, N, N, N, N, N] γ).bind fun y => (idxD (.list [.int 8, .int 13]) y.1).bind fun z => some (z, y.2)).bind _) = _
      rw [e1] <;> rfl
    · rw [decide_eq_false h] at e1
      refine ⟨8, .inl rfl, ?_⟩
      rw [s_setS, s_binE]
      show ((((unE intD (binE eqD (callGE f__law_pick (consA (cE (.int 8)) (nilA))) (cE (.int 7)))) [N, N, N, N, N, N, N, N, N, N, N, N, N, N, N] γ).bind fun y => (idxD (.list [.int 8, .int 13]) y.1).bind fun z => some (z, y.2)).bind _) = _
      rw [e1] <;> rfl
  let MD : TK.D := .int (M : Int)
  obtain ⟨q, γ2, q1, q2, g2⟩ := pick_ok g1 3 (by decide) (by decide)
  let bare : Bool := decide ((q : Int) = 0)
  have a2 : (setS 2 (binE eqD (callGE f__law_pick (consA (cE (.int 3)) (nilA))) (cE (.int 0)))) [N, some MD, N, N, N, N, N, N, N, N, N, N, N, N, N] γ1 = some (.nx [N, some MD, some (.bool bare), N, N, N, N, N, N, N, N, N, N, N, N], γ2) := by
    show ((((f__law_pick [.int ((3 : Nat) : Int)] γ1).bind fun x => (eqD x.1 (.int 0)).bind fun z => some (z, x.2))).bind _) = _
    rw [q2]
    show (((eqD (.int (q : Int)) (.int 0)).bind fun z => some (z, γ2)).bind _) = _
    rw [eqD_int] <;> rfl
  obtain ⟨n0, γ3, n1, n2, g3⟩ := pick_ok g2 M (by omega) (by omega)
  obtain ⟨m0, γ4, m1, m2, g4⟩ := pick_ok g3 M (by omega) (by omega)
  let mn : TK.D := .list [.int (n0 : Int), .int (m0 : Int)]
  have a3 : (setS 3 (newE (lstN (consA (callGE f__law_pick (consA (varE 1) (nilA))) (consA (callGE f__law_pick (consA (varE 1) (nilA))) (nilA)))))) [N, some MD, some (.bool bare), N, N, N, N, N, N, N, N, N, N, N, N] γ2 = some (.nx [N, some MD, some (.bool bare), some mn, N, N, N, N, N, N, N, N, N, N, N], γ4) := by
    rw [s_setS, s_newE, s_lstN, s_consA]
    show (((((f__law_pick [.int (M : Int)] γ2).bind _).bind _).bind _).bind _) = _
    rw [n2]
    show ((((((consA (callGE f__law_pick (consA (varE 1) (nilA))) (nilA)) [N, some MD, some (.bool bare), N, N, N, N, N, N, N, N, N, N, N, N] γ3).bind _).bind _).bind _).bind _) = _
    rw [s_consA]
    show ((((((f__law_pick [.int (M : Int)] γ3).bind _).bind _).bind _).bind _).bind _) = _
    rw [m2] <;> rfl
  obtain ⟨nl, γ5, k1, g5, k2, k3, k4⟩ := names_ok (n := n0 + m0) (by omega) g4
  let nm : TK.D := .list (strsD nl)
  have a4 : (setS 4 (callGE f__law_names (consA (unE sumD (varE 3)) (nilA)))) [N, some MD, some (.bool bare), some mn, N, N, N, N, N, N, N, N, N, N, N] γ4 = some (.nx [N, some MD, some (.bool bare), some mn, some nm, N, N, N, N, N, N, N, N, N, N], γ5) := by
    have e : (unE sumD (varE 3)) [N, some MD, some (.bool bare), some mn, N, N, N, N, N, N, N, N, N, N, N] γ4 = some (.int ((n0 + m0 : Nat) : Int), γ4) := by
      show ((sumD (.list (intsL [(n0 : Int), (m0 : Int)]))).bind fun z => some (z, γ4)) = _
      rw [sum_ok, show [(n0 : Int), (m0 : Int)].sum = ((n0 + m0 : Nat) : Int) by simp] <;> rfl
    rw [s_setS, s_callGE, s_consA, e]
    show ((f__law_names [.int ((n0 + m0 : Nat) : Int)] γ4).bind _) = _
    rw [k1] <;> rfl
  let x0 : List Str := nl.take n0
  let x1 : List Str := nl.drop n0
  let sd : TK.D := .list [.list (strsD x0), .list (strsD x1)]
  have a5 : (setS 5 (newE (lstN (consA (sliceE (varE 4) (noneO) (someO (binE idxD (varE 3) (cE (.int 0))))) (consA (sliceE (varE 4) (someO (binE idxD (varE 3) (cE (.int 0)))) (noneO)) (nilA)))))) [N, some MD, some (.bool bare), some mn, some nm, N, N, N, N, N, N, N, N, N, N] γ5 = some (.nx [N, some MD, some (.bool bare), some mn, some nm, some sd, N, N, N, N, N, N, N, N, N], γ5) := by
    have h0 : cutD (strsD nl) none (some (n0 : Int)) = strsD x0 := by
      rw [cut_to]
      unfold strsD
      rw [List.map_take]
    have h1 : cutD (strsD nl) (some (n0 : Int)) none = strsD x1 := by
      rw [cut_from]
      unfold strsD
      rw [List.map_drop]
    show some (Out.nx [N, some MD, some (.bool bare), some mn, some nm, some (.list [.list (cutD (strsD nl) none (some (n0 : Int))), .list (cutD (strsD nl) (some (n0 : Int)) none)]), N, N, N, N, N, N, N, N, N], γ5) = _
    rw [h0, h1]
  have hx : x0 ++ x1 = nl := List.take_append_drop _ _
  have hx0 : x0.length = n0 := by
    show (nl.take n0).length = n0
    rw [List.length_take]
    omega
  have hx1 : x1.length = m0 := by
    show (nl.drop n0).length = m0
    rw [List.length_drop]
    omega
  have ndx : (x0 ++ x1).Nodup := by rw [hx]; exact k3
  obtain ⟨nd0, nd1, ndc⟩ := List.nodup_append.mp ndx
  let J0 : Bool → List Str := fun _ => []
  have j0 : Jb J0 (fun _ => []) (fun _ => []) [] [] := ⟨fun _ => rfl, fun _ _ h => (by cases h), fun _ _ h => (by cases h), fun _ => List.nodup_nil, fun _ h => (by cases h), fun _ _ h => (by cases h), Nat.zero_le _, Nat.zero_le _⟩
  obtain ⟨P1, K1, al1, kv1, v12, v13, v14, γ6, b1, j1, g6⟩ := side_book (mo := MD) (mn := mn) (nm := nm) (sd := sd) (bare := bare) (s := false) nd0 (v12 := none) (v13 := none) (v14 := none) j0 g5 rfl (fun _ _ h => by cases h) (by show ([] : List Str).length + x0.length ≤ 50; rw [hx0, List.length_nil]; omega)
  let J1 : Bool → List Str := fun t => if t = false then x0 else J0 t
  obtain ⟨P2, K2, al2, kv2, w12, w13, w14, γ7, b2, j2, g7⟩ := side_book (mo := MD) (mn := mn) (nm := nm) (sd := sd) (bare := bare) (s := true) nd1 (v12 := v12) (v13 := v13) (v14 := v14) j1 g6 rfl (fun x hx h => ndc x h x hx rfl) (by show x0.length + x1.length ≤ 50; omega)
  obtain ⟨X, γ8, l1, g8, lx⟩ := links_ok (j2.nk false) (j2.nk true) (by
    have := nodup_sub (j2.nk false) (j2.k false)
    have e : (if false = true then x1 else if false = false then x0 else J0 false) = x0 := rfl
    have := this
    show (K2 false).length ≤ 50
    have h3 : (K2 false).length ≤ x0.length := this
    omega) (by
    have h3 : (K2 true).length ≤ x1.length := nodup_sub (j2.nk true) (j2.k true)
    omega) g7
  let b : Bk := ⟨P2 false, P2 true, lsort X, ssort al2⟩
  have hb : Bkok b := book_of j2 lx (by show (x0 ++ x1).Nodup; exact ndx) (by
    show ∀ x ∈ x0 ++ x1, x ≠ ""
    rw [hx]
    exact k4) (by show x0.length ≤ 12; omega) (by show x1.length ≤ 12; omega)
  refine ⟨b, .dict kv2, γ8, ?_, g8, hb⟩
  let B0 : Env := envB MD bare mn nm sd (fun _ => []) (fun _ => []) [] [] none none none none
  let B2 : Env := envB MD bare mn nm sd P2 K2 al2 kv2 (some (sdI true)) w12 w13 w14
  let LS : TK.D := .tuple ((lsort X).map eLk)
  have a6 : forS (rngI (cE (.int 2))) (tgN 10) (forS (seqI (binE idxD (varE 5) (varE 10))) (tgN 12) bodyB) B0 γ5 = some (.nx B2, γ7) := by
    show forL (tgN 10) (forS (seqI (binE idxD (varE 5) (varE 10))) (tgN 12) bodyB) [.int 0, .int 1] B0 γ5 = _
    rw [s_for1]
    show (((forL (tgN 12) bodyB (strsD x0) (envB MD bare mn nm sd (fun _ => []) (fun _ => []) [] [] (some (sdI false)) none none none) γ5)).bind _) = _
    rw [b1]
    show forL (tgN 10) (forS (seqI (binE idxD (varE 5) (varE 10))) (tgN 12) bodyB) [.int 1] (envB MD bare mn nm sd P1 K1 al1 kv1 (some (sdI false)) v12 v13 v14) γ6 = _
    rw [s_for1]
    show (((forL (tgN 12) bodyB (strsD x1) (envB MD bare mn nm sd P1 K1 al1 kv1 (some (sdI true)) v12 v13 v14) γ6)).bind _) = _
    rw [b2] <;> rfl
  have a7 : (setS 11 (callGE f__law_links (consA (binE idxD (varE 6) (cE (.int 0))) (consA (binE idxD (varE 6) (cE (.int 1))) (nilA))))) B2 γ7 = some (.nx (B2.set 11 (some LS)), γ8) := by
    show ((f__law_links [.list (strsD (K2 false)), .list (strsD (K2 true))] γ7).bind _) = _
    rw [l1] <;> rfl
  have a8 : (retS (tupE (consA (tupE (consA (unE tupleD (binE idxD (varE 8) (cE (.int 0)))) (consA (unE tupleD (binE idxD (varE 8) (cE (.int 1)))) (consA (varE 11) (consA (unE tupleD (unE sortedD (varE 7))) (nilA)))))) (consA (varE 9) (nilA))))) (B2.set 11 (some LS)) γ8 = some (.rt (.tuple [eBk b, .dict kv2]), γ8) := by
    have q1 : (unE tupleD (unE sortedD (varE 7))) (B2.set 11 (some LS)) γ8 = some (.tuple (strsD (ssort al2)), γ8) := by
      show (((sortedD (.list (strsD al2))).bind fun z => some (z, γ8)).bind _) = _
      rw [sorted_strsL] <;> rfl
    have q2 : (tupE (consA (unE tupleD (binE idxD (varE 8) (cE (.int 0)))) (consA (unE tupleD (binE idxD (varE 8) (cE (.int 1)))) (consA (varE 11) (consA (unE tupleD (unE sortedD (varE 7))) (nilA)))))) (B2.set 11 (some LS)) γ8 = some (eBk b, γ8) := by
      rw [s_tupE, s_consA]
      show ((((((consA (unE tupleD (unE sortedD (varE 7))) (nilA)) (B2.set 11 (some LS)) γ8).bind fun y => some (LS :: y.1, y.2)).bind fun y => some (PyData.tuple ((P2 true).map ePt) :: y.1, y.2)).bind fun y => some (PyData.tuple ((P2 false).map ePt) :: y.1, y.2)).bind fun x => if x.1.length ≤ LINE then some (PyData.tuple x.1, x.2) else none) = _
      rw [s_consA, q1] <;> rfl
    rw [s_retS, s_tupE, s_consA, q2] <;> rfl
  show (g__law_book [N, N, N, N, N, N, N, N, N, N, N, N, N, N, N] γ).bind _ = _
  unfold g__law_book
  rw [s_seqS, a1, Option.bind_some]
  show (seqS _ _ [N, some MD, N, N, N, N, N, N, N, N, N, N, N, N, N] γ1).bind _ = _
  rw [s_seqS, a2, Option.bind_some]
  show (seqS _ _ [N, some MD, some (.bool bare), N, N, N, N, N, N, N, N, N, N, N, N] γ2).bind _ = _
  rw [s_seqS, a3, Option.bind_some]
  show (seqS _ _ [N, some MD, some (.bool bare), some mn, N, N, N, N, N, N, N, N, N, N, N] γ4).bind _ = _
  rw [s_seqS, a4, Option.bind_some]
  show (seqS _ _ [N, some MD, some (.bool bare), some mn, some nm, N, N, N, N, N, N, N, N, N, N] γ5).bind _ = _
  rw [s_seqS, a5, Option.bind_some]
  have c6 : (nestS 6) [N, some MD, some (.bool bare), some mn, some nm, some sd, N, N, N, N, N, N, N, N, N] γ5 = some (.nx [N, some MD, some (.bool bare), some mn, some nm, some sd, some (nst fun _ => []), N, N, N, N, N, N, N, N], γ5) := rfl
  have c7 : (ownS 7 (lstN (nilA))) [N, some MD, some (.bool bare), some mn, some nm, some sd, some (nst fun _ => []), N, N, N, N, N, N, N, N] γ5 = some (.nx [N, some MD, some (.bool bare), some mn, some nm, some sd, some (nst fun _ => []), some (.list []), N, N, N, N, N, N, N], γ5) := rfl
  have c8 : (nestS 8) [N, some MD, some (.bool bare), some mn, some nm, some sd, some (nst fun _ => []), some (.list []), N, N, N, N, N, N, N] γ5 = some (.nx [N, some MD, some (.bool bare), some mn, some nm, some sd, some (nst fun _ => []), some (.list []), some (nst fun _ => []), N, N, N, N, N, N], γ5) := rfl
  have c9 : (dicS 9) [N, some MD, some (.bool bare), some mn, some nm, some sd, some (nst fun _ => []), some (.list []), some (nst fun _ => []), N, N, N, N, N, N] γ5 = some (.nx B0, γ5) := rfl
  show (seqS _ _ [N, some MD, some (.bool bare), some mn, some nm, some sd, N, N, N, N, N, N, N, N, N] γ5).bind _ = _
  rw [s_seqS, c6, Option.bind_some]
  show (seqS _ _ [N, some MD, some (.bool bare), some mn, some nm, some sd, some (nst fun _ => []), N, N, N, N, N, N, N, N] γ5).bind _ = _
  rw [s_seqS, c7, Option.bind_some]
  show (seqS _ _ [N, some MD, some (.bool bare), some mn, some nm, some sd, some (nst fun _ => []), some (.list []), N, N, N, N, N, N, N] γ5).bind _ = _
  rw [s_seqS, c8, Option.bind_some]
  show (seqS _ _ [N, some MD, some (.bool bare), some mn, some nm, some sd, some (nst fun _ => []), some (.list []), some (nst fun _ => []), N, N, N, N, N, N] γ5).bind _ = _
  rw [s_seqS, c9, Option.bind_some]
  show (seqS _ _ B0 γ5).bind _ = _
  have a6' := a6
  unfold bodyB at a6'
  rw [s_seqS, a6', Option.bind_some]
  have a9 : (seqS (setS 11 (callGE f__law_links (consA (binE idxD (varE 6) (cE (.int 0))) (consA (binE idxD (varE 6) (cE (.int 1))) (nilA))))) (retS (tupE (consA (tupE (consA (unE tupleD (binE idxD (varE 8) (cE (.int 0)))) (consA (unE tupleD (binE idxD (varE 8) (cE (.int 1)))) (consA (varE 11) (consA (unE tupleD (unE sortedD (varE 7))) (nilA)))))) (consA (varE 9) (nilA)))))) B2 γ7 = some (.rt (.tuple [eBk b, .dict kv2]), γ8) := by
    rw [s_seqS, a7, Option.bind_some]
    exact a8
  show (frzS (frzS (frzS _)) B2 γ7).bind _ = _
  unfold frzS
  rw [a9] <;> rfl
end TK.M
end
section
set_option Elab.async false
set_option linter.all false
set_option maxRecDepth 100000
set_option maxHeartbeats 4000000
/-! Couples, and fits. -/
namespace TK.M
open PySem PySem.Spec PyProof.Rows L2
theorem couples_ok {L R : List Str} (zL : L.length ≤ 12) (zR : R.length ≤ 12) {γ : G} (g : Gok γ) : ∃ (cs : List (Str × Str)) (γ' : G), f__law_couples [.list (strsD L), .list (strsD R)] γ = some (.tuple (cs.map pairD), γ') ∧ Gok γ' ∧ (∀ p ∈ cs, p.1 ∈ L ∧ p.2 ∈ R) ∧ cs.length ≤ 1000 := by
  let LD : TK.D := .list (strsD L)
  let RD : TK.D := .list (strsD R)
  obtain ⟨p, γ1, p1, p2, g1⟩ := pick_ok g 3 (by decide) (by decide)
  obtain ⟨d, hd, a1⟩ : ∃ d : Nat, (0 < d ∧ d ≤ 1000) ∧ (setS 3 (binE idxD (newE (lstN (consA (cE (.int 2)) (consA (cE (.int 3)) (consA (cE (.int 5)) (nilA)))))) (callGE f__law_pick (consA (cE (.int 3)) (nilA))))) [none, some LD, some RD, none, none, none, none] γ = some (.nx [none, some LD, some RD, some (.int (d : Int)), none, none, none], γ1) := by
    have e : ∀ d : Int, idxD (.list [.int 2, .int 3, .int 5]) (.int (p : Int)) = some (.int d) → (setS 3 (binE idxD (newE (lstN (consA (cE (.int 2)) (consA (cE (.int 3)) (consA (cE (.int 5)) (nilA)))))) (callGE f__law_pick (consA (cE (.int 3)) (nilA))))) [none, some LD, some RD, none, none, none, none] γ = some (.nx [none, some LD, some RD, some (.int d), none, none, none], γ1) := fun d he => by
      show ((((f__law_pick [.int ((3 : Nat) : Int)] γ).bind fun y => (idxD (.list [.int 2, .int 3, .int 5]) y.1).bind fun z => some (z, y.2))).bind _) = _
      rw [p2]
      show (((idxD (.list [.int 2, .int 3, .int 5]) (.int (p : Int))).bind fun z => some (z, γ1)).bind _) = _
      rw [he] <;> rfl
    rcases (by omega : p = 0 ∨ p = 1 ∨ p = 2) with h | h | h
    · exact ⟨2, by decide, e 2 (by rw [h] <;> rfl)⟩
    · exact ⟨3, by decide, e 3 (by rw [h] <;> rfl)⟩
    · exact ⟨5, by decide, e 5 (by rw [h] <;> rfl)⟩
  let dD : TK.D := .int (d : Int)
  obtain ⟨ρ', γ', h1, ⟨cs, v5, v6, h2, h3, h4⟩, h5⟩ := forL_all PyData.str (fun don ρ γ => (∃ (cs : List (Str × Str)) (v5 v6 : Option TK.D), ρ = [none, some LD, some RD, some dD, some (.list (cs.map pairD)), v5, v6] ∧ (∀ p ∈ cs, p.1 ∈ L ∧ p.2 ∈ R) ∧ cs.length ≤ don.length * R.length) ∧ Gok γ) (tg := tgN 5)
    (b := forS (seqI (varE 2)) (tgN 6) (ifS (valT (binE eqD (callGE f__law_pick (consA (varE 3) (nilA))) (cE (.int 0)))) (appS 4 (tupE (consA (varE 5) (consA (varE 6) (nilA))))) (nextS))) L [none, some LD, some RD, some dD, some (.list []), none, none] γ1 (fun don x rest e ρ γ z => by
      obtain ⟨⟨cs, v5, v6, rfl, c1, c2⟩, g⟩ := z
      have hx : x ∈ L := by rw [e]; simp
      have hdl : don.length + 1 ≤ L.length := by rw [e, List.length_append, List.length_cons]; omega
      have hb : don.length * R.length ≤ 12 * 12 := Nat.mul_le_mul (by omega) zR
      obtain ⟨ρ', γ', i1, ⟨cs', v6', i2, i3, i4⟩, i5⟩ := forL_all PyData.str (fun don' ρ γ => (∃ (cs' : List (Str × Str)) (v6 : Option TK.D), ρ = [none, some LD, some RD, some dD, some (.list (cs'.map pairD)), some (.str x), v6] ∧ (∀ p ∈ cs', p.1 ∈ L ∧ p.2 ∈ R) ∧ cs'.length ≤ don.length * R.length + don'.length) ∧ Gok γ) (tg := tgN 6)
        (b := ifS (valT (binE eqD (callGE f__law_pick (consA (varE 3) (nilA))) (cE (.int 0)))) (appS 4 (tupE (consA (varE 5) (consA (varE 6) (nilA))))) (nextS)) R [none, some LD, some RD, some dD, some (.list (cs.map pairD)), some (.str x), v6] γ (fun don' y rest' e' ρ γ z => by
          obtain ⟨⟨cs', v6, rfl, d1, d2⟩, g⟩ := z
          have hy : y ∈ R := by rw [e']; simp
          have hdl' : don'.length + 1 ≤ R.length := by rw [e', List.length_append, List.length_cons]; omega
          obtain ⟨w, γ2, w1, w2, g2⟩ := pick_ok g d hd.1 hd.2
          have t : (valT (binE eqD (callGE f__law_pick (consA (varE 3) (nilA))) (cE (.int 0)))) [none, some LD, some RD, some dD, some (.list (cs'.map pairD)), some (.str x), some (.str y)] γ = some (decide ((w : Int) = 0), γ2) := by
            show ((((f__law_pick [.int (d : Int)] γ).bind fun x => (eqD x.1 (.int 0)).bind fun z => some (z, x.2))).bind _) = _
            rw [w2]
            show (((eqD (.int (w : Int)) (.int 0)).bind fun z => some (z, γ2)).bind _) = _
            rw [eqD_int] <;> rfl
          by_cases h0 : (w : Int) = 0
          · refine ⟨_, [none, some LD, some RD, some dD, some (.list ((cs' ++ [(x, y)]).map pairD)), some (.str x), some (.str y)], γ2, rfl, ?_, ⟨cs' ++ [(x, y)], _, rfl, fun p hp => ?_, by rw [List.length_append, List.length_append, List.length_singleton, List.length_singleton]; omega⟩, g2⟩
            · show ifS _ _ _ [none, some LD, some RD, some dD, some (.list (cs'.map pairD)), some (.str x), some (.str y)] γ = _
              rw [s_ifS, t, decide_eq_true h0, Option.bind_some]
              show (if (cs'.map pairD).length < LINE then some (Out.nx [none, some LD, some RD, some dD, some (.list (cs'.map pairD ++ [pairD (x, y)])), some (.str x), some (.str y)], γ2) else none) = _
              rw [if_pos (by rw [List.length_map]; exact line_pos (by omega)), List.map_append] <;> rfl
            · rcases List.mem_append.mp hp with hp | hp
              · exact d1 p hp
              · rw [List.mem_singleton.mp hp]
                exact ⟨hx, hy⟩
          · refine ⟨_, [none, some LD, some RD, some dD, some (.list (cs'.map pairD)), some (.str x), some (.str y)], γ2, rfl, ?_, ⟨cs', _, rfl, d1, by rw [List.length_append]; omega⟩, g2⟩
            show ifS _ _ _ [none, some LD, some RD, some dD, some (.list (cs'.map pairD)), some (.str x), some (.str y)] γ = _
            rw [s_ifS, t, decide_eq_false h0] <;> rfl) ⟨⟨cs, v6, rfl, c1, by simpa using c2⟩, g⟩
      subst i2
      refine ⟨_, _, γ', rfl, ?_, ⟨cs', some (.str x), v6', rfl, i3, by rw [List.length_append, List.length_singleton, Nat.add_mul, Nat.one_mul]; exact i4⟩, i5⟩
      show forS (seqI (varE 2)) (tgN 6) _ [none, some LD, some RD, some dD, some (.list (cs.map pairD)), some (.str x), v6] γ = _
      rw [s_forS]
      show forL _ _ (strsD R) _ γ = _
      exact i1) ⟨⟨[], none, none, rfl, fun _ h => (by cases h), Nat.zero_le _⟩, g1⟩
  subst h2
  have hlen : cs.length ≤ 144 := Nat.le_trans h4 (Nat.mul_le_mul zL zR)
  refine ⟨tsort pairD cs, γ', ?_, h5, fun p hp => h3 p (tsort_mem.mp hp), by rw [tsort_len]; omega⟩
  show (g__law_couples [none, some LD, some RD, none, none, none, none] γ).bind _ = _
  unfold g__law_couples
  rw [s_seqS, a1, Option.bind_some]
  show (seqS _ _ [none, some LD, some RD, some dD, none, none, none] γ1).bind _ = _
  rw [s_seqS]
  show (seqS _ _ [none, some LD, some RD, some dD, some (.list []), none, none] γ1).bind _ = _
  rw [s_seqS, s_forS]
  show ((forL _ _ (strsD L) [none, some LD, some RD, some dD, some (.list []), none, none] γ1).bind _).bind _ = _
  rw [h1, Option.bind_some]
  have hso := sorted_map pairD cs (okSort_pairs cs) (.list (cs.map pairD)) rfl
  show (((((sortedD (.list (cs.map pairD))).bind fun z => some (z, γ')).bind _).bind _).bind _) = _
  rw [hso] <;> rfl
/-! ### words -/
theorem words_ok {x : Str} (hz : x.length ≤ 200) : ∃ ws : List Str, f_words_of [.str x] = some (.tuple (strsD ws)) ∧ ws.length ≤ 201 ∧ ∀ w ∈ ws, w.length ≤ 200 := by
  let n := x.cps.toList.length
  have hn : x.cps.toList.length ≤ 200 := by
    rw [Array.length_toList]
    exact hz
  let X : TK.D := .str x
  obtain ⟨ρ', γ', h1, ⟨ws, cur, v3, h2, h3, h4, h5⟩, h6⟩ := forL_all (fun c : Nat => (.str ⟨#[c]⟩ : TK.D)) (fun don ρ γ => (∃ (ws : List Str) (cur : Str) (v3 : Option TK.D), ρ = [some X, some (.list (strsD ws)), some (.str cur), v3] ∧ ws.length ≤ don.length ∧ cur.length ≤ don.length ∧ ∀ w ∈ ws, w.length ≤ 200) ∧ γ = (0, [])) (tg := tgN 3)
    (b := ifS (orT (valT (binE inD (varE 3) (cE (.str "abcdefghijklmnopqrstuvwxyz")))) (orT (valT (binE inD (varE 3) (cE (.str "ABCDEFGHIJKLMNOPQRSTUVWXYZ")))) (valT (binE inD (varE 3) (cE (.str "0123456789")))))) (setS 2 (binE addD (varE 2) (varE 3))) (ifS (valT (binE neD (varE 2) (cE (.str "")))) (seqS (appS 1 (varE 2)) (setS 2 (cE (.str "")))) (nextS)))
    x.cps.toList [some X, some (.list []), some (.str ""), none] (0, []) (fun don c rest e ρ γ z => by
      obtain ⟨⟨ws, cur, v3, rfl, c1, c2, c3⟩, rfl⟩ := z
      have hdl : don.length + 1 ≤ 200 := by
        have h := hn
        rw [e, List.length_append, List.length_cons] at h
        omega
      let E : Env := [some X, some (.list (strsD ws)), some (.str cur), some (.str ⟨#[c]⟩)]
      have tt : ∃ v : Bool, (orT (valT (binE inD (varE 3) (cE (.str "abcdefghijklmnopqrstuvwxyz")))) (orT (valT (binE inD (varE 3) (cE (.str "ABCDEFGHIJKLMNOPQRSTUVWXYZ")))) (valT (binE inD (varE 3) (cE (.str "0123456789")))))) E (0, []) = some (v, (0, [])) := by
        have one : ∀ z : Str, (valT (binE inD (varE 3) (cE (.str z)))) E (0, []) = some (decide (c ∈ z.cps.toList), (0, [])) := fun z => rfl
        rw [s_orT, one, Option.bind_some]
        cases decide (c ∈ ("abcdefghijklmnopqrstuvwxyz" : Str).cps.toList) with
        | true => exact ⟨true, rfl⟩
        | false =>
          show ∃ v : Bool, (orT (valT (binE inD (varE 3) (cE (.str "ABCDEFGHIJKLMNOPQRSTUVWXYZ")))) (valT (binE inD (varE 3) (cE (.str "0123456789"))))) E (0, []) = some (v, (0, []))
          rw [s_orT, one, Option.bind_some]
          cases decide (c ∈ ("ABCDEFGHIJKLMNOPQRSTUVWXYZ" : Str).cps.toList) with
          | true => exact ⟨true, rfl⟩
          | false => exact ⟨_, one "0123456789"⟩
      obtain ⟨v, hv⟩ := tt
      cases v with
      | true =>
        refine ⟨E, [some X, some (.list (strsD ws)), some (.str (cur ++ ⟨#[c]⟩)), some (.str ⟨#[c]⟩)], (0, []), rfl, ?_, ⟨ws, _, _, rfl, by rw [List.length_append]; omega, ?_, c3⟩, rfl⟩
        · rw [s_ifS, hv, Option.bind_some]
          show (((addD (.str cur) (.str ⟨#[c]⟩)).bind fun z => some (z, ((0, []) : G))).bind _) = _
          rw [addD_str (show cur.length + 1 ≤ 10000 by omega)] <;> rfl
        · rw [str_app_len, List.length_append]
          show cur.length + 1 ≤ don.length + 1
          omega
      | false =>
        have hne : (valT (binE neD (varE 2) (cE (.str "")))) E (0, []) = some (!decide (cur = ""), (0, [])) := by
          show (((neD (.str cur) (.str "")).bind fun z => some (z, ((0, []) : G))).bind _) = _
          rw [neD_of (flat_str 0 _) (flat_str 0 _), eqv_str] <;> rfl
        by_cases hc : cur = ""
        · refine ⟨E, E, (0, []), rfl, ?_, ⟨ws, cur, _, rfl, by rw [List.length_append]; omega, by rw [List.length_append]; omega, c3⟩, rfl⟩
          rw [s_ifS, hv, Option.bind_some]
          show ifS _ _ _ E (0, []) = _
          rw [s_ifS, hne, decide_eq_true hc] <;> rfl
        · refine ⟨E, [some X, some (.list (strsD (ws ++ [cur]))), some (.str ""), some (.str ⟨#[c]⟩)], (0, []), rfl, ?_, ⟨ws ++ [cur], "", _, rfl, by rw [List.length_append, List.length_append]; simp only [List.length_singleton]; omega, Nat.zero_le _, fun w hw => ?_⟩, rfl⟩
          · rw [s_ifS, hv, Option.bind_some]
            show ifS _ _ _ E (0, []) = _
            rw [s_ifS, hne, decide_eq_false hc, Option.bind_some]
            have q : (appS 1 (varE 2)) E (0, []) = some (.nx [some X, some (.list (strsD (ws ++ [cur]))), some (.str cur), some (.str ⟨#[c]⟩)], (0, [])) := by
              show (if (strsD ws).length < LINE then some (Out.nx [some X, some (.list (strsD ws ++ [.str cur])), some (.str cur), some (.str ⟨#[c]⟩)], ((0, []) : G)) else none) = _
              rw [if_pos (by rw [List.length_map]; exact line_pos (by omega)), show strsD ws ++ [.str cur] = strsD (ws ++ [cur]) by unfold strsD; rw [List.map_append] <;> rfl]
            show seqS (appS 1 (varE 2)) _ E (0, []) = _
            rw [s_seqS, q] <;> rfl
          · rcases List.mem_append.mp hw with hw | hw
            · exact c3 w hw
            · rw [List.mem_singleton.mp hw]
              omega) ⟨⟨[], "", none, rfl, Nat.zero_le _, Nat.zero_le _, fun _ h => by cases h⟩, rfl⟩
  subst h2 h6
  have hne : (valT (binE neD (varE 2) (cE (.str "")))) [some X, some (.list (strsD ws)), some (.str cur), v3] (0, []) = some (!decide (cur = ""), (0, [])) := by
    show (((neD (.str cur) (.str "")).bind fun z => some (z, ((0, []) : G))).bind _) = _
    rw [neD_of (flat_str 0 _) (flat_str 0 _), eqv_str] <;> rfl
  have fin : ∀ ws' : List Str, (ifS (valT (binE neD (varE 2) (cE (.str "")))) (appS 1 (varE 2)) (nextS)) [some X, some (.list (strsD ws)), some (.str cur), v3] (0, []) = some (.nx [some X, some (.list (strsD ws')), some (.str cur), v3], (0, [])) → f_words_of [.str x] = some (.tuple (strsD ws')) := fun ws' h => by
    show (g_words_of [some X, none, none, none] (0, [])).bind _ = _
    unfold g_words_of
    have f1 : (ownS 1 (lstN (nilA))) [some X, none, none, none] (0, []) = some (.nx [some X, some (.list []), none, none], (0, [])) := rfl
    have f2 : (setS 2 (cE (.str ""))) [some X, some (.list []), none, none] (0, []) = some (.nx [some X, some (.list []), some (.str ""), none], (0, [])) := rfl
    rw [s_seqS, f1, Option.bind_some]
    show (seqS _ _ [some X, some (.list []), none, none] (0, [])).bind _ = _
    rw [s_seqS, f2, Option.bind_some]
    show (seqS _ _ [some X, some (.list []), some (.str ""), none] (0, [])).bind _ = _
    rw [s_seqS, s_forS]
    show ((forL _ _ (x.cps.toList.map fun c : Nat => .str ⟨#[c]⟩) [some X, some (.list []), some (.str ""), none] (0, [])).bind _).bind _ = _
    rw [h1, Option.bind_some]
    show (seqS _ _ [some X, some (.list (strsD ws)), some (.str cur), v3] (0, [])).bind _ = _
    rw [s_seqS, h] <;> rfl
  by_cases hc : cur = ""
  · refine ⟨ws, fin ws ?_, by omega, h5⟩
    rw [s_ifS, hne, decide_eq_true hc] <;> rfl
  · refine ⟨ws ++ [cur], fin _ ?_, by rw [List.length_append, List.length_singleton]; omega, fun w hw => ?_⟩
    · rw [s_ifS, hne, decide_eq_false hc, Option.bind_some]
      show (if (strsD ws).length < LINE then some (Out.nx [some X, some (.list (strsD ws ++ [.str cur])), some (.str cur), v3], ((0, []) : G)) else none) = _
      rw [if_pos (by rw [List.length_map]; exact line_pos (by omega)), show strsD ws ++ [.str cur] = strsD (ws ++ [cur]) by unfold strsD; rw [List.map_append] <;> rfl]
    · rcases List.mem_append.mp hw with hw | hw
      · exact h5 w hw
      · rw [List.mem_singleton.mp hw]
        omega
theorem cores_ok {x : Str} (hz : x.length ≤ 200) : ∃ ws : List Str, f_cores_of [.str x] = some (.tuple (strsD ws)) ∧ ws.length ≤ 201 := by
  obtain ⟨ws, h1, h2, h3⟩ := words_ok hz
  refine ⟨ws.map Txt.lower, ?_, by rw [List.length_map]; exact h2⟩
  have c := compL_map' PyData.str (tg := tgN 1) (el := unE lowerD (varE 1)) (ρ := [some (.str x), none]) (γ := ((0, []) : G)) (fun w => .str (Txt.lower w)) ws fun w hw => ⟨_, rfl, by
    show ((if w.length ≤ LINE then some (PyData.str (Txt.lower w)) else none).bind fun z => some (z, ((0, []) : G))) = _
    rw [if_pos (line_of (by have := h3 w hw; omega))] <;> rfl⟩
  have e : strsD (ws.map Txt.lower) = ws.map fun w => .str (Txt.lower w) := by
    unfold strsD
    rw [List.map_map] <;> rfl
  rw [e]
  show (g_cores_of [some (.str x), none] (0, [])).bind _ = _
  unfold g_cores_of
  have q : (seqI (callE f_words_of (consA (varE 0) (nilA)))) [some (.str x), none] (0, []) = some (strsD ws, (0, [])) := by
    show (((f_words_of [.str x]).bind fun z => some (z, ((0, []) : G))).bind _) = _
    rw [h1] <;> rfl
  have q2 : (newE (compN (seqI (callE f_words_of (consA (varE 0) (nilA)))) (tgN 1) (yesT) (unE lowerD (varE 1)) [1])) [some (.str x), none] (0, []) = some (.list (ws.map fun w => .str (Txt.lower w)), (0, [])) := by
    rw [s_newE, s_compN, q, Option.bind_some]
    show ((if (strsD ws).length ≤ LINE then compL (tgN 1) yesT (unE lowerD (varE 1)) (strsD ws) [some (.str x), none] ((0, []) : G) else none).bind _) = _
    rw [if_pos (by rw [List.length_map]; exact line_of (by omega)), c] <;> rfl
  rw [s_retS, s_unE, q2] <;> rfl
theorem cores_in_ok {x : Str} (hz : x.length ≤ 200) : ∃ l : List Str, f_cores_in [.tuple [.str x]] = some (.dict (dL l)) := by
  obtain ⟨cs, h1, h2⟩ := cores_ok hz
  let T : TK.D := .tuple [.str x]
  obtain ⟨ρ', γ', k1, ⟨l, v3, k2, k3⟩, k4⟩ := forL_all PyData.str (fun don ρ γ => (∃ (l : List Str) (v3 : Option TK.D), ρ = [some T, some (.dict (dL l)), some (.str x), v3] ∧ l.length ≤ don.length) ∧ γ = (0, [])) (tg := tgN 3)
    (b := putS 1 (varE 3) (cE (.bool true))) cs [some T, some (.dict []), some (.str x), none] (0, []) (fun don c rest e ρ γ z => by
      obtain ⟨⟨l, v3, rfl, c1⟩, rfl⟩ := z
      have hdl : don.length ≤ 201 := by
        have h := h2
        rw [e, List.length_append] at h
        omega
      refine ⟨_, [some T, some (.dict (dL (addK c l))), some (.str x), some (.str c)], (0, []), rfl, ?_, ⟨_, _, rfl, ?_⟩, rfl⟩
      · show (if (dL l).length < LINE then some (Out.nx [some T, some (.dict (putKs c (dL l))), some (.str x), some (.str c)], ((0, []) : G)) else none) = _
        rw [if_pos (by rw [List.length_map]; exact line_pos (by omega)), put_dL]
      · rw [List.length_append, List.length_singleton]
        unfold addK
        split
        · omega
        · rw [List.length_append, List.length_singleton]; omega) ⟨⟨[], none, rfl, Nat.le_refl _⟩, rfl⟩
  subst k2 k4
  refine ⟨l, ?_⟩
  show (g_cores_in [some T, none, none, none] (0, [])).bind _ = _
  unfold g_cores_in
  rw [s_seqS]
  show (seqS _ _ [some T, some (.dict []), none, none] (0, [])).bind _ = _
  have q : (forS (seqI (callE f_cores_of (consA (varE 2) (nilA)))) (tgN 3) (putS 1 (varE 3) (cE (.bool true)))) [some T, some (.dict []), some (.str x), none] (0, []) = some (.nx [some T, some (.dict (dL l)), some (.str x), v3], (0, [])) := by
    have q2 : (seqI (callE f_cores_of (consA (varE 2) (nilA)))) [some T, some (.dict []), some (.str x), none] (0, []) = some (strsD cs, (0, [])) := by
      show (((f_cores_of [.str x]).bind fun z => some (z, ((0, []) : G))).bind _) = _
      rw [h1] <;> rfl
    rw [s_forS, q2, Option.bind_some]
    exact k1
  have q3 : (forS (seqI (varE 0)) (tgN 2) (forS (seqI (callE f_cores_of (consA (varE 2) (nilA)))) (tgN 3) (putS 1 (varE 3) (cE (.bool true))))) [some T, some (.dict []), none, none] (0, []) = some (.nx [some T, some (.dict (dL l)), some (.str x), v3], (0, [])) := by
    show forL (tgN 2) (forS (seqI (callE f_cores_of (consA (varE 2) (nilA)))) (tgN 3) (putS 1 (varE 3) (cE (.bool true)))) [.str x] [some T, some (.dict []), none, none] (0, []) = _
    rw [s_for1]
    show (((forS (seqI (callE f_cores_of (consA (varE 2) (nilA)))) (tgN 3) (putS 1 (varE 3) (cE (.bool true)))) [some T, some (.dict []), some (.str x), none] (0, [])).bind _) = _
    rw [q] <;> rfl
  rw [s_seqS, q3] <;> rfl
theorem inD_dL (k : Str) (l : List Str) : inD (.str k) (.dict (dL l)) = some (.bool (decide (k ∈ l))) := by
  unfold inD
  rw [inD0_dL] <;> rfl
theorem hits_ok {x y : Str} (hx : x.length ≤ 200) (hy : y.length ≤ 200) {kw : List (Str × Str)} (hk : kw.length ≤ 100) : ∃ n : Int, f_hits [.tuple [.str x], .tuple [.str y], .tuple (kw.map pairD)] = some (.int n) := by
  obtain ⟨l, h1⟩ := cores_in_ok hx
  obtain ⟨m, h2⟩ := cores_in_ok hy
  let X : TK.D := .tuple [.str x]
  let Y : TK.D := .tuple [.str y]
  let K : TK.D := .tuple (kw.map pairD)
  let E : Env := [some X, some Y, some K, some (.dict (dL l)), some (.dict (dL m)), none]
  have c := compL_map pairD (tg := tgN 5) (t := andT (valT (binE inD (binE idxD (varE 5) (cE (.int 0))) (varE 3))) (valT (binE inD (binE idxD (varE 5) (cE (.int 1))) (varE 4)))) (el := varE 5) (ρ := E) (γ := ((0, []) : G)) (fun p => decide (p.1 ∈ l) && decide (p.2 ∈ m)) pairD kw fun p _ => ⟨_, rfl, by
    let E5 : Env := [some X, some Y, some K, some (.dict (dL l)), some (.dict (dL m)), some (pairD p)]
    have q1 : (valT (binE inD (binE idxD (varE 5) (cE (.int 0))) (varE 3))) E5 (0, []) = some (decide (p.1 ∈ l), (0, [])) := by
      show (((inD (.str p.1) (.dict (dL l))).bind fun z => some (z, ((0, []) : G))).bind _) = _
      rw [inD_dL] <;> rfl
    have q2 : (valT (binE inD (binE idxD (varE 5) (cE (.int 1))) (varE 4))) E5 (0, []) = some (decide (p.2 ∈ m), (0, [])) := by
      show (((inD (.str p.2) (.dict (dL m))).bind fun z => some (z, ((0, []) : G))).bind _) = _
      rw [inD_dL] <;> rfl
    show andT _ _ E5 (0, []) = _
    rw [s_andT, q1, Option.bind_some]
    cases decide (p.1 ∈ l) with
    | false => rfl
    | true => exact q2, fun _ => rfl⟩
  let n := ((kw.filter fun p => decide (p.1 ∈ l) && decide (p.2 ∈ m)).map pairD).length
  refine ⟨(n : Int), ?_⟩
  show (g_hits [some X, some Y, some K, none, none, none] (0, [])).bind _ = _
  unfold g_hits
  have a1 : (setS 3 (callE f_cores_in (consA (varE 0) (nilA)))) [some X, some Y, some K, none, none, none] (0, []) = some (.nx [some X, some Y, some K, some (.dict (dL l)), none, none], (0, [])) := by
    show (((f_cores_in [X]).bind fun z => some (z, ((0, []) : G))).bind _) = _
    rw [h1] <;> rfl
  have a2 : (setS 4 (callE f_cores_in (consA (varE 1) (nilA)))) [some X, some Y, some K, some (.dict (dL l)), none, none] (0, []) = some (.nx E, (0, [])) := by
    show (((f_cores_in [Y]).bind fun z => some (z, ((0, []) : G))).bind _) = _
    rw [h2] <;> rfl
  have a3 : (newE (compN (seqI (varE 2)) (tgN 5) (andT (valT (binE inD (binE idxD (varE 5) (cE (.int 0))) (varE 3))) (valT (binE inD (binE idxD (varE 5) (cE (.int 1))) (varE 4)))) (varE 5) [5])) E (0, []) = some (.list ((kw.filter fun p => decide (p.1 ∈ l) && decide (p.2 ∈ m)).map pairD), (0, [])) := by
    rw [s_newE, s_compN]
    show ((if (kw.map pairD).length ≤ LINE then compL (tgN 5) (andT (valT (binE inD (binE idxD (varE 5) (cE (.int 0))) (varE 3))) (valT (binE inD (binE idxD (varE 5) (cE (.int 1))) (varE 4)))) (varE 5) (kw.map pairD) E ((0, []) : G) else none).bind _) = _
    rw [if_pos (by rw [List.length_map]; exact line_of (by omega)), c] <;> rfl
  rw [s_seqS, a1, Option.bind_some]
  show (seqS _ _ [some X, some Y, some K, some (.dict (dL l)), none, none] (0, [])).bind _ = _
  rw [s_seqS, a2, Option.bind_some]
  show (retS _ E (0, [])).bind _ = _
  rw [s_retS, s_unE, a3] <;> rfl
theorem geD_int (x y : Int) : geD (.int x) (.int y) = some (.bool (!decide (x < y))) := by
  have h : okLt (.int x) (.int y) = true := by
    unfold okLt
    rw [(flat_int 0 x).ok, (flat_int 0 y).ok]
    simp [PySem.W.alike]
  unfold geD
  rw [h, PySem.W.dataLt_int] <;> rfl
theorem fits_ok {b : Bk} (B : Bkok b) {L R : List Str} (hL : lackOf b false = L) (hR : lackOf b true = R) (zL : L.length ≤ 12) (zR : R.length ≤ 12) {kw : List (Str × Str)} (hk : kw.length ≤ 100) : ∃ cs : List (Str × Str), f_fits_of [eBk b, .tuple (kw.map pairD), .int 1] = some (.tuple (cs.map pairD)) ∧ (∀ p ∈ cs, p.1 ∈ L ∧ p.2 ∈ R) ∧ cs.length ≤ 1000 := by
  have w := B.wf
  have hla := w.lacking
  rw [hL, hR] at hla
  let BD : TK.D := eBk b
  let KD : TK.D := .tuple (kw.map pairD)
  let LD : TK.D := .tuple (strsD L)
  let RD : TK.D := .tuple (strsD R)
  have hin : ∀ (s : Bool) (x : Str), x ∈ lackOf b s → ∃ tx : Str, f_text_of [eBk b, .str x] = some (.str tx) ∧ tx.length ≤ 200 := fun s x hx => by
    have hon := ((mem_lack w).mp hx).1
    obtain ⟨p, hp, h⟩ := w.text hon
    refine ⟨p.x, h, ?_⟩
    have := B.tx s p (List.mem_of_find?_eq_some hp)
    omega
  obtain ⟨ρ', γ', h1, ⟨cs, v4, v7, h2, h3, h4⟩, h5⟩ := forL_all PyData.str (fun don ρ γ => (∃ (cs : List (Str × Str)) (v4 v7 : Option TK.D), ρ = [some BD, some KD, some (.int 1), some (.list (cs.map pairD)), v4, some LD, some RD, v7] ∧ (∀ p ∈ cs, p.1 ∈ L ∧ p.2 ∈ R) ∧ cs.length ≤ don.length * R.length) ∧ γ = (0, [])) (tg := tgN 4)
    (b := forS (seqI (varE 6)) (tgN 7) (ifS (valT (binE geD (callE f_hits (consA (tupE (consA (callE f_text_of (consA (varE 0) (consA (varE 4) (nilA)))) (nilA))) (consA (tupE (consA (callE f_text_of (consA (varE 0) (consA (varE 7) (nilA)))) (nilA))) (consA (varE 1) (nilA))))) (varE 2))) (appS 3 (tupE (consA (varE 4) (consA (varE 7) (nilA))))) (nextS))) L [some BD, some KD, some (.int 1), some (.list []), none, some LD, some RD, none] (0, []) (fun don x rest e ρ γ z => by
      obtain ⟨⟨cs, v4, v7, rfl, c1, c2⟩, rfl⟩ := z
      have hx : x ∈ L := by rw [e]; simp
      have hdl : don.length + 1 ≤ L.length := by rw [e, List.length_append, List.length_cons]; omega
      have hb : don.length * R.length ≤ 12 * 12 := Nat.mul_le_mul (by omega) zR
      obtain ⟨tx, t1, t2⟩ := hin false x (by rw [hL]; exact hx)
      obtain ⟨ρ', γ', i1, ⟨cs', v7', i2, i3, i4⟩, i5⟩ := forL_all PyData.str (fun don' ρ γ => (∃ (cs' : List (Str × Str)) (v7 : Option TK.D), ρ = [some BD, some KD, some (.int 1), some (.list (cs'.map pairD)), some (.str x), some LD, some RD, v7] ∧ (∀ p ∈ cs', p.1 ∈ L ∧ p.2 ∈ R) ∧ cs'.length ≤ don.length * R.length + don'.length) ∧ γ = (0, [])) (tg := tgN 7)
        (b := ifS (valT (binE geD (callE f_hits (consA (tupE (consA (callE f_text_of (consA (varE 0) (consA (varE 4) (nilA)))) (nilA))) (consA (tupE (consA (callE f_text_of (consA (varE 0) (consA (varE 7) (nilA)))) (nilA))) (consA (varE 1) (nilA))))) (varE 2))) (appS 3 (tupE (consA (varE 4) (consA (varE 7) (nilA))))) (nextS)) R [some BD, some KD, some (.int 1), some (.list (cs.map pairD)), some (.str x), some LD, some RD, v7] (0, []) (fun don' y rest' e' ρ γ z => by
          obtain ⟨⟨cs', v7, rfl, d1, d2⟩, rfl⟩ := z
          have hy : y ∈ R := by rw [e']; simp
          have hdl' : don'.length + 1 ≤ R.length := by rw [e', List.length_append, List.length_cons]; omega
          obtain ⟨ty, u1, u2⟩ := hin true y (by rw [hR]; exact hy)
          obtain ⟨n, hn⟩ := hits_ok t2 u2 hk
          let E : Env := [some BD, some KD, some (.int 1), some (.list (cs'.map pairD)), some (.str x), some LD, some RD, some (.str y)]
          have q1 : (tupE (consA (callE f_text_of (consA (varE 0) (consA (varE 4) (nilA)))) (nilA))) E (0, []) = some (.tuple [.str tx], (0, [])) := by
            show (((((f_text_of [eBk b, .str x]).bind fun z => some (z, ((0, []) : G))).bind _).bind _)) = _
            rw [t1] <;> rfl
          have q2 : (tupE (consA (callE f_text_of (consA (varE 0) (consA (varE 7) (nilA)))) (nilA))) E (0, []) = some (.tuple [.str ty], (0, [])) := by
            show (((((f_text_of [eBk b, .str y]).bind fun z => some (z, ((0, []) : G))).bind _).bind _)) = _
            rw [u1] <;> rfl
          have q3 : (callE f_hits (consA (tupE (consA (callE f_text_of (consA (varE 0) (consA (varE 4) (nilA)))) (nilA))) (consA (tupE (consA (callE f_text_of (consA (varE 0) (consA (varE 7) (nilA)))) (nilA))) (consA (varE 1) (nilA))))) E (0, []) = some (.int n, (0, [])) := by
            rw [s_callE, s_consA, q1, Option.bind_some, s_consA, q2]
            show ((f_hits [.tuple [.str tx], .tuple [.str ty], .tuple (kw.map pairD)]).bind fun z => some (z, ((0, []) : G))) = _
            rw [hn] <;> rfl
          have t : (valT (binE geD (callE f_hits (consA (tupE (consA (callE f_text_of (consA (varE 0) (consA (varE 4) (nilA)))) (nilA))) (consA (tupE (consA (callE f_text_of (consA (varE 0) (consA (varE 7) (nilA)))) (nilA))) (consA (varE 1) (nilA))))) (varE 2))) E (0, []) = some (!decide (n < 1), (0, [])) := by
            rw [s_valT, s_binE, q3]
            show (((geD (.int n) (.int 1)).bind fun z => some (z, ((0, []) : G))).bind _) = _
            rw [geD_int] <;> rfl
          by_cases h0 : n < 1
          · refine ⟨E, E, (0, []), rfl, ?_, ⟨cs', _, rfl, d1, by rw [List.length_append]; omega⟩, rfl⟩
            rw [s_ifS, t, decide_eq_true h0] <;> rfl
          · refine ⟨E, [some BD, some KD, some (.int 1), some (.list ((cs' ++ [(x, y)]).map pairD)), some (.str x), some LD, some RD, some (.str y)], (0, []), rfl, ?_, ⟨cs' ++ [(x, y)], _, rfl, fun p hp => ?_, by rw [List.length_append, List.length_append, List.length_singleton, List.length_singleton]; omega⟩, rfl⟩
            · rw [s_ifS, t, decide_eq_false h0, Option.bind_some]
              show (if (cs'.map pairD).length < LINE then some (Out.nx [some BD, some KD, some (.int 1), some (.list (cs'.map pairD ++ [pairD (x, y)])), some (.str x), some LD, some RD, some (.str y)], ((0, []) : G)) else none) = _
              rw [if_pos (by rw [List.length_map]; exact line_pos (by omega)), List.map_append] <;> rfl
            · rcases List.mem_append.mp hp with hp | hp
              · exact d1 p hp
              · rw [List.mem_singleton.mp hp]
                exact ⟨hx, hy⟩) ⟨⟨cs, v7, rfl, c1, by simpa using c2⟩, rfl⟩
      subst i2 i5
      refine ⟨_, _, (0, []), rfl, ?_, ⟨cs', some (.str x), v7', rfl, i3, by rw [List.length_append, List.length_singleton, Nat.add_mul, Nat.one_mul]; exact i4⟩, rfl⟩
      show forS (seqI (varE 6)) (tgN 7) _ [some BD, some KD, some (.int 1), some (.list (cs.map pairD)), some (.str x), some LD, some RD, v7] (0, []) = _
      rw [s_forS]
      show forL _ _ (strsD R) _ _ = _
      exact i1) ⟨⟨[], none, none, rfl, fun _ h => (by cases h), Nat.zero_le _⟩, rfl⟩
  subst h2 h5
  have hlen : cs.length ≤ 144 := Nat.le_trans h4 (Nat.mul_le_mul zL zR)
  refine ⟨tsort pairD cs, ?_, fun p hp => h3 p (tsort_mem.mp hp), by rw [tsort_len]; omega⟩
  show (g_fits_of [some BD, some KD, some (.int 1), none, none, none, none, none] (0, [])).bind _ = _
  have a1 : (tgtS (tgT [5, 6]) (callE f_lacking (consA (varE 0) (nilA)))) [some BD, some KD, some (.int 1), none, none, none, none, none] (0, []) = some (.nx [some BD, some KD, some (.int 1), none, none, some LD, some RD, none], (0, [])) := by
    show (((f_lacking [eBk b]).bind fun z => some (z, ((0, []) : G))).bind _) = _
    rw [hla] <;> rfl
  unfold g_fits_of
  rw [s_seqS, a1, Option.bind_some]
  show (seqS _ _ [some BD, some KD, some (.int 1), none, none, some LD, some RD, none] (0, [])).bind _ = _
  rw [s_seqS]
  show (seqS _ _ [some BD, some KD, some (.int 1), some (.list []), none, some LD, some RD, none] (0, [])).bind _ = _
  rw [s_seqS, s_forS]
  show ((forL _ _ (strsD L) [some BD, some KD, some (.int 1), some (.list []), none, some LD, some RD, none] (0, [])).bind _).bind _ = _
  rw [h1, Option.bind_some]
  have hso := sorted_map pairD cs (okSort_pairs cs) (.list (cs.map pairD)) rfl
  show (((((sortedD (.list (cs.map pairD))).bind fun z => some (z, ((0, []) : G))).bind _).bind _).bind _) = _
  rw [hso] <;> rfl
end TK.M
end
section
set_option Elab.async false
set_option linter.all false
set_option maxRecDepth 100000
set_option maxHeartbeats 4000000
/-! The draws of a script. -/
namespace TK.M
open PySem PySem.Spec PyProof.Rows L2
def absI (c : Int) : Int := if c < 0 then -c else c
def mixF (m c : Int) : Int := (m * 69069 + absI c % 10 ^ 40 + 5) % (2 ^ 61 - 1)
theorem mixF_ok (m c : Int) : 0 ≤ mixF m c ∧ mixF m c < 2 ^ 61 := by
  have h1 : 0 ≤ mixF m c := Int.emod_nonneg _ (by decide)
  have h2 : mixF m c < 2 ^ 61 - 1 := Int.emod_lt_of_pos _ (by decide)
  exact ⟨h1, by omega⟩
theorem fold_ok : ∀ (ns : List Int) (m : Int), 0 ≤ m ∧ m < 2 ^ 61 → 0 ≤ ns.foldl mixF m ∧ ns.foldl mixF m < 2 ^ 61
  | [], m, h => h
  | c :: ns, m, _ => fold_ok ns (mixF m c) (mixF_ok m c)
theorem draws_ok (ns : List Int) (h : ns.length ≤ 63) : ∃ (m : Int) (ds : List Int), (∀ x, f__law_draws ns x = some (.list [.int m, .list (intsL ds)])) ∧ Gok (m, ds) := by
  let m0 : Int := (ns.length : Int) + 11
  let m : Int := ns.foldl mixF m0
  have hm := fold_ok ns m0 ⟨by show 0 ≤ (ns.length : Int) + 11; omega, by show (ns.length : Int) + 11 < 2 ^ 61; omega⟩
  obtain ⟨cl, hcl⟩ := cut_ints ns (some 1) (some 63)
  have hll : cl.length ≤ 63 := by
    have e := congrArg List.length hcl
    unfold intsL cutD at e
    simp only [List.length_take, List.length_drop, List.length_map] at e
    omega
  let c : Bool := match ns with
    | [] => false
    | n :: _ => decide (n % 2 = 1)
  let hd : Int := match ns with
    | [] => 0
    | n :: _ => absI n / 2
  let ds : List Int := if c then [hd] ++ cl.map absI else []
  refine ⟨m, ds, fun x => ?_, ⟨hm.1, hm.2, ?_⟩⟩
  · have loop : ∃ v2 : Option TK.D, forL (tgN 2) (setS 1 (binE modD (binE addD (binE addD (binE mulD (varE 1) (cE (.int 69069))) (binE modD (unE absD (varE 2)) (binE powD (cE (.int 10)) (cE (.int 40))))) (cE (.int 5))) (binE subD (binE powD (cE (.int 2)) (cE (.int 61))) (cE (.int 1))))) (intsL ns) [some (objD x), some (.int m0), none] (0, []) = some (.nx [some (objD x), some (.int m), v2], (0, [])) := by
      obtain ⟨ρ', γ', h1, ⟨v2, h2⟩, h3⟩ := forL_all PyData.int (fun don ρ γ => (∃ v2 : Option TK.D, ρ = [some (objD x), some (.int (don.foldl mixF m0)), v2]) ∧ γ = (0, [])) (tg := tgN 2)
        (b := setS 1 (binE modD (binE addD (binE addD (binE mulD (varE 1) (cE (.int 69069))) (binE modD (unE absD (varE 2)) (binE powD (cE (.int 10)) (cE (.int 40))))) (cE (.int 5))) (binE subD (binE powD (cE (.int 2)) (cE (.int 61))) (cE (.int 1))))) ns [some (objD x), some (.int m0), none] (0, []) (fun don k rest e ρ γ z => by
          obtain ⟨⟨v2, rfl⟩, rfl⟩ := z
          let u : Int := don.foldl mixF m0
          have hu := fold_ok don m0 ⟨by show 0 ≤ (ns.length : Int) + 11; omega, by show (ns.length : Int) + 11 < 2 ^ 61; omega⟩
          have hu1 : 0 ≤ u := hu.1
          have hu2 : u < 2 ^ 61 := hu.2
          let E : Env := [some (objD x), some (.int u), some (.int k)]
          have q1 : (binE mulD (varE 1) (cE (.int 69069))) E (0, []) = some (.int (u * 69069), (0, [])) := by
            show ((mulD (.int u) (.int 69069)).bind fun z => some (z, ((0, []) : G))) = _
            rw [mulD_small (by omega) (by decide)] <;> rfl
          have q2 : (binE modD (unE absD (varE 2)) (binE powD (cE (.int 10)) (cE (.int 40)))) E (0, []) = some (.int (absI k % 10 ^ 40), (0, [])) := by
            have p : powD (.int 10) (.int 40) = some (.int (10 ^ 40)) := powD_ok (n := 40) (by decide) (by decide)
            show ((((powD (.int 10) (.int 40)).bind fun z => some (z, ((0, []) : G))).bind fun y => (modD (.int (absI k)) y.1).bind fun z => some (z, y.2))) = _
            rw [p]
            show ((modD (.int (absI k)) (.int (10 ^ 40))).bind fun z => some (z, ((0, []) : G))) = _
            rw [modD_pos (by decide)] <;> rfl
          have q3 : (binE addD (binE addD (binE mulD (varE 1) (cE (.int 69069))) (binE modD (unE absD (varE 2)) (binE powD (cE (.int 10)) (cE (.int 40))))) (cE (.int 5))) E (0, []) = some (.int (u * 69069 + absI k % 10 ^ 40 + 5), (0, [])) := by
            rw [s_binE, s_binE, q1, Option.bind_some, q2] <;> rfl
          have q4 : (binE modD (binE addD (binE addD (binE mulD (varE 1) (cE (.int 69069))) (binE modD (unE absD (varE 2)) (binE powD (cE (.int 10)) (cE (.int 40))))) (cE (.int 5))) (binE subD (binE powD (cE (.int 2)) (cE (.int 61))) (cE (.int 1)))) E (0, []) = some (.int (mixF u k), (0, [])) := by
            rw [s_binE, q3, Option.bind_some]
            show ((modD (.int (u * 69069 + absI k % 10 ^ 40 + 5)) (.int (2 ^ 61 - 1))).bind fun z => some (z, ((0, []) : G))) = _
            rw [modD_pos (by decide)] <;> rfl
          refine ⟨E, [some (objD x), some (.int (mixF u k)), some (.int k)], (0, []), rfl, ?_, ⟨_, by rw [List.foldl_append] <;> rfl⟩, rfl⟩
          rw [s_setS, q4] <;> rfl) ⟨⟨none, rfl⟩, rfl⟩
      subst h2 h3
      exact ⟨v2, h1⟩
    obtain ⟨v2, hloop⟩ := loop
    let E : Env := [some (objD x), some (.int m), v2]
    have hc : (andT (valT (binE gtD (objE 0 x (.int ns.length)) (cE (.int 0)))) (valT (binE eqD (binE modD (scrIx 0 x ns) (cE (.int 2))) (cE (.int 1))))) E (0, []) = some (c, (0, [])) := by
      have q : (valT (binE gtD (objE 0 x (.int ns.length)) (cE (.int 0)))) E (0, []) = some (decide ((0 : Int) < (ns.length : Int)), (0, [])) := by
        rw [s_valT, s_binE, s_objE, obj_self, if_pos rfl]
        show (((gtD (.int (ns.length : Int)) (.int 0)).bind fun z => some (z, ((0, []) : G))).bind _) = _
        rw [gtD_int] <;> rfl
      rw [s_andT, q, Option.bind_some]
      cases hns : ns with
      | nil =>
        subst hns
        rfl
      | cons n t =>
        subst hns
        have q0 : decide ((0 : Int) < ((n :: t).length : Int)) = true := decide_eq_true (by simp only [List.length_cons]; omega)
        rw [q0]
        have q2 : (scrIx 0 x (n :: t)) E (0, []) = some (.int n, (0, [])) := by
          show (if isObjAt E 0 x then _ else _) = _
          rw [obj_self, if_pos rfl]
        show (valT (binE eqD (binE modD (scrIx 0 x (n :: t)) (cE (.int 2))) (cE (.int 1)))) E (0, []) = _
        rw [s_valT, s_binE, s_binE, q2]
        show ((((modD (.int n) (.int 2)).bind fun z => some (z, ((0, []) : G))).bind fun x => (eqD x.1 (.int 1)).bind fun z => some (z, x.2)).bind _) = _
        rw [modD_pos (by decide)]
        show (((eqD (.int (n % 2)) (.int 1)).bind fun z => some (z, ((0, []) : G))).bind _) = _
        rw [eqD_int] <;> rfl
    show (g__law_draws ns x [some (objD x), none, none] (0, [])).bind _ = _
    unfold g__law_draws
    have a1 : (setS 1 (binE addD (objE 0 x (.int ns.length)) (cE (.int 11)))) [some (objD x), none, none] (0, []) = some (.nx [some (objD x), some (.int m0), none], (0, [])) := by
      rw [s_setS, s_binE, s_objE, obj_self, if_pos rfl] <;> rfl
    rw [s_seqS, a1, Option.bind_some]
    show (seqS _ _ [some (objD x), some (.int m0), none] (0, [])).bind _ = _
    have a2 : (forS (scrI 0 x ns) (tgN 2) (setS 1 (binE modD (binE addD (binE addD (binE mulD (varE 1) (cE (.int 69069))) (binE modD (unE absD (varE 2)) (binE powD (cE (.int 10)) (cE (.int 40))))) (cE (.int 5))) (binE subD (binE powD (cE (.int 2)) (cE (.int 61))) (cE (.int 1)))))) [some (objD x), some (.int m0), none] (0, []) = some (.nx E, (0, [])) := by
      have q : scrI 0 x ns [some (objD x), some (.int m0), none] (0, []) = some (intsL ns, (0, [])) := by
        show (if isObjAt _ 0 x then _ else _) = _
        rw [obj_self, if_pos rfl]
      rw [s_forS, q, Option.bind_some]
      exact hloop
    rw [s_seqS, a2, Option.bind_some]
    show (seqS (ifS _ _ _) _ E (0, [])).bind _ = _
    rw [s_seqS, s_ifS, hc, Option.bind_some]
    cases hcv : c with
    | false =>
      have hds : ds = [] := by
        show (if c then [hd] ++ cl.map absI else []) = []
        rw [hcv] <;> rfl
      rw [hds] <;> rfl
    | true =>
      have hds : ds = [hd] ++ cl.map absI := by
        show (if c then [hd] ++ cl.map absI else []) = _
        rw [hcv] <;> rfl
      rw [hds]
      have hhd : (binE fdivD (unE absD (scrIx 0 x ns)) (cE (.int 2))) E (0, []) = some (.int hd, (0, [])) := by
        cases hns : ns with
        | nil =>
          subst hns
          exact absurd (show false = true from hcv) Bool.false_ne_true
        | cons n t =>
          subst hns
          have q2 : (scrIx 0 x (n :: t)) E (0, []) = some (.int n, (0, [])) := by
            show (if isObjAt E 0 x then _ else _) = _
            rw [obj_self, if_pos rfl]
          rw [s_binE, s_unE, q2]
          show ((fdivD (.int (absI n)) (.int 2)).bind fun z => some (z, ((0, []) : G))) = _
          rw [fdivD_pos (by decide) (by
            have : (2 : Int).natAbs < 2 ^ 2 := by decide
            have := log2_le this (by decide)
            omega)] <;> rfl
      have hcp := compL_map' PyData.int (tg := tgN 2) (el := unE absD (varE 2)) (ρ := [some (objD x), some (.int m), none]) (γ := ((0, []) : G)) (fun k => .int (absI k)) cl fun k _ => ⟨_, rfl, rfl⟩
      have hq : (newE (compN (seqI (objE 0 x (.list (cutD (intsL ns) (some 1) (some 63))))) (tgN 2) (yesT) (unE absD (varE 2)) [2])) E (0, []) = some (.list (intsL (cl.map absI)), (0, [])) := by
        have q : (seqI (objE 0 x (.list (cutD (intsL ns) (some 1) (some 63))))) E (0, []) = some (intsL cl, (0, [])) := by
          rw [s_seqI, s_objE, obj_self, if_pos rfl, hcl] <;> rfl
        rw [s_newE, s_compN, q, Option.bind_some]
        show ((if (intsL cl).length ≤ LINE then compL (tgN 2) yesT (unE absD (varE 2)) (intsL cl) [some (objD x), some (.int m), none] ((0, []) : G) else none).bind _) = _
        have hcp' : compL (tgN 2) yesT (unE absD (varE 2)) (intsL cl) [some (objD x), some (.int m), none] ((0, []) : G) = _ := hcp
        rw [if_pos (by unfold intsL; rw [List.length_map]; exact line_of (by omega)), hcp']
        unfold intsL
        rw [List.map_map] <;> rfl
      have hadd : (binE addD (newE (lstN (consA (binE fdivD (unE absD (scrIx 0 x ns)) (cE (.int 2))) (nilA)))) (newE (compN (seqI (objE 0 x (.list (cutD (intsL ns) (some 1) (some 63))))) (tgN 2) (yesT) (unE absD (varE 2)) [2]))) E (0, []) = some (.list (intsL ([hd] ++ cl.map absI)), (0, [])) := by
        have q1 : (newE (lstN (consA (binE fdivD (unE absD (scrIx 0 x ns)) (cE (.int 2))) (nilA)))) E (0, []) = some (.list (intsL [hd]), (0, [])) := by
          rw [s_newE, s_lstN, s_consA, hhd] <;> rfl
        rw [s_binE, q1, Option.bind_some]
        show (((newE _ E (0, [])).bind _)) = _
        rw [hq]
        show ((addD (.list (intsL [hd])) (.list (intsL (cl.map absI)))).bind fun z => some (z, ((0, []) : G))) = _
        rw [addL_ints _ _ (line_of (by rw [List.length_map]; simp only [List.length_singleton]; omega))] <;> rfl
      show ((((retS (newE (lstN (consA (varE 1) (consA (binE addD (newE (lstN (consA (binE fdivD (unE absD (scrIx 0 x ns)) (cE (.int 2))) (nilA)))) (newE (compN (seqI (objE 0 x (.list (cutD (intsL ns) (some 1) (some 63))))) (tgN 2) (yesT) (unE absD (varE 2)) [2]))) (nilA))))) E (0, [])).bind _)).bind _) = _
      rw [s_retS, s_newE, s_lstN, s_consA]
      show ((((((((consA (binE addD (newE (lstN (consA (binE fdivD (unE absD (scrIx 0 x ns)) (cE (.int 2))) (nilA)))) (newE (compN (seqI (objE 0 x (.list (cutD (intsL ns) (some 1) (some 63))))) (tgN 2) (yesT) (unE absD (varE 2)) [2]))) (nilA)) E (0, [])).bind _).bind _).bind _).bind _).bind _).bind _) = _
      rw [s_consA, hadd] <;> rfl
  · show ds.length ≤ 64
    show (if c then [hd] ++ cl.map absI else []).length ≤ 64
    split
    · rw [List.length_append, List.length_map, List.length_singleton]; omega
    · exact Nat.zero_le _
end TK.M
end
section
set_option Elab.async false
set_option linter.all false
set_option maxRecDepth 100000
set_option maxHeartbeats 4000000
/-! The law, on every script. -/
namespace TK.M
open PySem PySem.Spec PyProof.Rows L2
theorem both_ok {c : Bk} (w : WF c) (z : Sm c) : ∃ v, f__law_all_in_step [eBk c] = some (.bool v) ∧ f_in_step [eBk c] = some (.bool v) ∧ (v = true ↔ Sync c) := by
  obtain ⟨v, h1, h2⟩ := law_all_ok w z
  refine ⟨v, h1, ?_, h2⟩
  rw [w.in_step]
  have h3 := in_step_iff w
  congr 2
  cases v with
  | true => exact h3.mpr (h2.mp rfl)
  | false =>
    rw [Bool.eq_false_iff]
    intro h
    exact Bool.false_ne_true (h2.mpr (h3.mp h))
theorem lk0_len {b : Bk} (s : Bool) : (lk0 b s).length ≤ (b.sd s).length := by
  unfold lk0
  rw [List.length_map]
  exact List.length_filter_le _ _
theorem lack_len {b : Bk} (s : Bool) : (lackOf b s).length ≤ (b.sd s).length := by
  unfold lackOf
  rw [List.length_map]
  have := List.length_filter_le (fun p : Str × St => decide (p.2 = .lacking)) (stsOf b s)
  unfold stsOf at this ⊢
  rw [List.length_map] at this
  exact this
def kws : List (Str × Str) := [("ka", "sol"), ("lo", "aur"), ("x", "9"), ("ka", "ka")]
theorem Inv.sm {b : Bk} {m : Int} {don : List Hd} {c : Bk} (i : Inv b m don [] c) (B : Bkok b) (h : don.length ≤ 100) : Sm c := by
  have := i.zp
  have := i.zq
  have := i.zl
  have := B.zp
  have := B.zq
  have := B.zl
  simp only [List.length_nil] at *
  exact ⟨by omega, by omega, by omega⟩
def bodyL : GS := seqS (setS 12 (callGE f__law_pick (consA (unE lenD (varE 10)) (nilA)))) (seqS (setS 13 (callE f__law_behind (consA (varE 6) (consA (binE addD (sliceE (varE 10) (noneO) (someO (varE 12))) (sliceE (varE 10) (someO (binE addD (varE 12) (cE (.int 1)))) (noneO))) (consA (varE 3) (nilA)))))) (ifS (orT (valT (callE f__law_all_in_step (consA (varE 13) (nilA)))) (valT (binE isntBD (callE f_in_step (consA (varE 13) (nilA))) (cE (.bool false))))) (retS (cE (.bool false))) (nextS)))
theorem rest_ok {γ : G} (g : Gok γ) : ∃ γ', g_law_rest (List.replicate lawLen none) γ = some (.rt (.bool true), γ') := by
  let N : Option TK.D := none
  obtain ⟨b, wd, γ1, k1, g1, B⟩ := book_ok g
  have w := B.wf
  have zp := B.zp
  have zq := B.zq
  have zl := B.zl
  have sm : Sm b := ⟨by omega, by omega, by omega⟩
  let BD : TK.D := eBk b
  have a1 : (tgtS (tgT [6, 7]) (callGE f__law_book (nilA))) [N, N, N, N, N, N, N, N, N, N, N, N, N, N] γ = some (.nx [N, N, N, N, N, N, some BD, some wd, N, N, N, N, N, N], γ1) := by
    show ((f__law_book [] γ).bind _) = _
    rw [k1] <;> rfl
  -- lacking
  let l0 := lk0 b false
  let r0 := lk0 b true
  let lD : TK.D := .list (strsD l0)
  let rD : TK.D := .list (strsD r0)
  have zl0 : l0.length ≤ 12 := Nat.le_trans (lk0_len false) zp
  have zr0 : r0.length ≤ 12 := Nat.le_trans (lk0_len true) zq
  have hll := law_lacking_ok w sm
  have a2 : (tgtS (tgL [8, 9]) (callE f__law_lacking (consA (varE 6) (nilA)))) [N, N, N, N, N, N, some BD, some wd, N, N, N, N, N, N] γ1 = some (.nx [N, N, N, N, N, N, some BD, some wd, some lD, some rD, N, N, N, N], γ1) := by
    show (((f__law_lacking [eBk b]).bind fun z => some (z, γ1)).bind _) = _
    rw [hll] <;> rfl
  obtain ⟨cs0, γ2, k2, g2, m2, z2⟩ := couples_ok zl0 zr0 g1
  have a3 : (setS 2 (callGE f__law_couples (consA (varE 8) (consA (varE 9) (nilA))))) [N, N, N, N, N, N, some BD, some wd, some lD, some rD, N, N, N, N] γ1 = some (.nx [N, N, some (.tuple (cs0.map pairD)), N, N, N, some BD, some wd, some lD, some rD, N, N, N, N], γ2) := by
    show ((f__law_couples [.list (strsD l0), .list (strsD r0)] γ1).bind _) = _
    rw [k2] <;> rfl
  let L := lackOf b false
  let R := lackOf b true
  have zL : L.length ≤ 12 := Nat.le_trans (lack_len false) zp
  have zR : R.length ≤ 12 := Nat.le_trans (lack_len true) zq
  have toL : ∀ x ∈ l0, x ∈ L := fun x hx => (mem_lack w).mpr (mem_lk0.mp hx)
  have toR : ∀ x ∈ r0, x ∈ R := fun x hx => (mem_lack w).mpr (mem_lk0.mp hx)
  -- couples or fits
  obtain ⟨p, γ3, p1, p2, g3⟩ := pick_ok g2 3 (by decide) (by decide)
  obtain ⟨cs, hcs, zcs, a4⟩ : ∃ cs : List (Str × Str), (∀ p ∈ cs, p.1 ∈ L ∧ p.2 ∈ R) ∧ cs.length ≤ 1000 ∧ (ifS (valT (binE eqD (callGE f__law_pick (consA (cE (.int 3)) (nilA))) (cE (.int 0)))) (setS 2 (callE f_fits_of (consA (varE 6) (consA (tupE (consA (tupE (consA (cE (.str "ka")) (consA (cE (.str "sol")) (nilA)))) (consA (tupE (consA (cE (.str "lo")) (consA (cE (.str "aur")) (nilA)))) (consA (tupE (consA (cE (.str "x")) (consA (cE (.str "9")) (nilA)))) (consA (tupE (consA (cE (.str "ka")) (consA (cE (.str "ka")) (nilA)))) (nilA)))))) (consA (cE (.int 1)) (nilA)))))) (nextS)) [N, N, some (.tuple (cs0.map pairD)), N, N, N, some BD, some wd, some lD, some rD, N, N, N, N] γ2 = some (.nx [N, N, some (.tuple (cs.map pairD)), N, N, N, some BD, some wd, some lD, some rD, N, N, N, N], γ3) := by
    have t : (valT (binE eqD (callGE f__law_pick (consA (cE (.int 3)) (nilA))) (cE (.int 0)))) [N, N, some (.tuple (cs0.map pairD)), N, N, N, some BD, some wd, some lD, some rD, N, N, N, N] γ2 = some (decide ((p : Int) = 0), γ3) := by
      show ((((f__law_pick [.int ((3 : Nat) : Int)] γ2).bind fun x => (eqD x.1 (.int 0)).bind fun z => some (z, x.2))).bind _) = _
      rw [p2]
      show (((eqD (.int (p : Int)) (.int 0)).bind fun z => some (z, γ3)).bind _) = _
      rw [eqD_int] <;> rfl
    by_cases h0 : (p : Int) = 0
    · obtain ⟨cs, f1, f2, f3⟩ := fits_ok B (L := L) (R := R) rfl rfl zL zR (kw := kws) (by decide)
      refine ⟨cs, f2, f3, ?_⟩
      rw [s_ifS, t, decide_eq_true h0, Option.bind_some]
      show (((f_fits_of [eBk b, .tuple (kws.map pairD), .int 1]).bind fun z => some (z, γ3)).bind _) = _
      rw [f1] <;> rfl
    · refine ⟨cs0, fun p hp => ⟨toL _ (m2 p hp).1, toR _ (m2 p hp).2⟩, z2, ?_⟩
      rw [s_ifS, t, decide_eq_false h0] <;> rfl
  -- hands
  have zst : (stepL b).length ≤ 8 := Nat.le_trans (stepL_len b) zl
  obtain ⟨ms, s, hw, hk, hh⟩ := hands_ok w (L := L) (R := R) rfl rfl (lack_nd w false) (lack_nd w true) hcs (by omega) (by omega) zcs (by omega)
  have t : Tg b (waysOf L cs) L R ms := ⟨w, rfl, rfl, gr_of (lack_nd w false) (lack_nd w true) hcs (by omega), hw⟩
  let told := toldN (stepL b) L R ms
  let paper := ssort (stepL b ++ freeN R s)
  let CD : TK.D := .tuple (cs.map pairD)
  let TD : TK.D := .tuple (told.map eHd)
  let PD : TK.D := .tuple (strsD paper)
  have htl : told.length = paper.length := told_len t hk
  have zt : told.length ≤ 32 := by
    rw [htl]
    show (ssort (stepL b ++ freeN R s)).length ≤ 32
    rw [tsort_len, List.length_append]
    have := hk.len
    omega
  have a5 : (tgtS (tgT [10, 11]) (callE f_hands (consA (varE 6) (consA (varE 2) (nilA))))) [N, N, some CD, N, N, N, some BD, some wd, some lD, some rD, N, N, N, N] γ3 = some (.nx [N, N, some CD, N, N, N, some BD, some wd, some lD, some rD, some TD, some PD, N, N], γ3) := by
    show (((f_hands [eBk b, .tuple (cs.map pairD)]).bind fun z => some (z, γ3)).bind _) = _
    rw [hh] <;> rfl
  have hsh := shows_ok t hk hcs zcs (by omega) (by omega) (by omega)
  have a6 : (ifS (orT (valT (binE neD (unE lenD (varE 10)) (unE lenD (varE 11)))) (valT (binE isntBD (callE f_shows_hands (consA (varE 6) (consA (varE 2) (consA (tupE (consA (varE 10) (consA (varE 11) (nilA)))) (nilA))))) (cE (.bool true))))) (retS (cE (.bool false))) (nextS)) [N, N, some CD, N, N, N, some BD, some wd, some lD, some rD, some TD, some PD, N, N] γ3 = some (.nx [N, N, some CD, N, N, N, some BD, some wd, some lD, some rD, some TD, some PD, N, N], γ3) := by
    have q1 : (valT (binE neD (unE lenD (varE 10)) (unE lenD (varE 11)))) [N, N, some CD, N, N, N, some BD, some wd, some lD, some rD, some TD, some PD, N, N] γ3 = some (false, γ3) := by
      show (((neD (.int ((told.map eHd).length : Nat)) (.int ((strsD paper).length : Nat))).bind fun z => some (z, γ3)).bind _) = _
      rw [neD_of (flat_int 0 _) (flat_int 0 _), eqv_int, List.length_map, List.length_map, htl, decide_eq_true rfl] <;> rfl
    have q2 : (valT (binE isntBD (callE f_shows_hands (consA (varE 6) (consA (varE 2) (consA (tupE (consA (varE 10) (consA (varE 11) (nilA)))) (nilA))))) (cE (.bool true)))) [N, N, some CD, N, N, N, some BD, some wd, some lD, some rD, some TD, some PD, N, N] γ3 = some (false, γ3) := by
      show ((((f_shows_hands [eBk b, .tuple (cs.map pairD), .tuple [.tuple ((toldN (stepL b) L R ms).map eHd), .tuple (strsD (ssort (stepL b ++ freeN R s)))]]).bind fun z => some (z, γ3)).bind _).bind _) = _
      rw [hsh] <;> rfl
    rw [s_ifS, s_orT, q1, Option.bind_some]
    show ((valT (binE isntBD (callE f_shows_hands (consA (varE 6) (consA (varE 2) (consA (tupE (consA (varE 10) (consA (varE 11) (nilA)))) (nilA))))) (cE (.bool true))) [N, N, some CD, N, N, N, some BD, some wd, some lD, some rD, some TD, some PD, N, N] γ3).bind _) = _
    rw [q2] <;> rfl
  -- the moment
  obtain ⟨M, hM, hMb⟩ := latest_ok w sm
  obtain ⟨q, γ4, q1, q2, g4⟩ := pick_ok g3 3 (by decide) (by decide)
  let m : Int := M + (q : Int)
  have hmm : ∀ s, ∀ p ∈ b.sd s, ∀ j ∈ p.ms, j ≤ m := fun s p hp j hj => by
    have := hMb s p hp j hj
    show j ≤ M + (q : Int)
    omega
  have a7 : (setS 3 (binE addD (callE f__law_latest (consA (varE 6) (nilA))) (callGE f__law_pick (consA (cE (.int 3)) (nilA))))) [N, N, some CD, N, N, N, some BD, some wd, some lD, some rD, some TD, some PD, N, N] γ3 = some (.nx [N, N, some CD, some (.int m), N, N, some BD, some wd, some lD, some rD, some TD, some PD, N, N], γ4) := by
    have e1 : (callE f__law_latest (consA (varE 6) (nilA))) [N, N, some CD, N, N, N, some BD, some wd, some lD, some rD, some TD, some PD, N, N] γ3 = some (.int M, γ3) := by
      show ((f__law_latest [eBk b]).bind fun z => some (z, γ3)) = _
      rw [hM] <;> rfl
    rw [s_setS, s_binE, e1, Option.bind_some]
    show (((f__law_pick [.int ((3 : Nat) : Int)] γ3).bind fun y => (addD (.int M) y.1).bind fun z => some (z, y.2)).bind _) = _
    rw [q2] <;> rfl
  -- behind all
  obtain ⟨c, hb, hi⟩ := behind_ok w m t.ok (by have : (toldN (stepL b) L R ms).length ≤ 32 := zt; omega) (by omega)
  have hsy := t.sync hmm hi
  obtain ⟨v, v1, v2, v3⟩ := both_ok hi.wf (hi.sm B (by show told.length ≤ 100; omega))
  have hv : v = true := v3.mpr hsy
  subst hv
  let HD : TK.D := eBk c
  have a8 : (setS 4 (callE f__law_behind (consA (varE 6) (consA (varE 10) (consA (varE 3) (nilA)))))) [N, N, some CD, some (.int m), N, N, some BD, some wd, some lD, some rD, some TD, some PD, N, N] γ4 = some (.nx [N, N, some CD, some (.int m), some HD, N, some BD, some wd, some lD, some rD, some TD, some PD, N, N], γ4) := by
    show (((f__law_behind [eBk b, .tuple ((toldN (stepL b) L R ms).map eHd), .int m]).bind fun z => some (z, γ4)).bind _) = _
    rw [hb] <;> rfl
  let E9 : Env := [N, N, some CD, some (.int m), some HD, N, some BD, some wd, some lD, some rD, some TD, some PD, N, N]
  have a9 : (ifS (orT (notT (valT (callE f__law_all_in_step (consA (varE 4) (nilA))))) (valT (binE isntBD (callE f_in_step (consA (varE 4) (nilA))) (cE (.bool true))))) (retS (cE (.bool false))) (nextS)) E9 γ4 = some (.nx E9, γ4) := by
    have q1 : (notT (valT (callE f__law_all_in_step (consA (varE 4) (nilA))))) E9 γ4 = some (false, γ4) := by
      show ((((f__law_all_in_step [eBk c]).bind fun z => some (z, γ4)).bind _).bind _) = _
      rw [v1] <;> rfl
    have q2 : (valT (binE isntBD (callE f_in_step (consA (varE 4) (nilA))) (cE (.bool true)))) E9 γ4 = some (false, γ4) := by
      show ((((f_in_step [eBk c]).bind fun z => some (z, γ4)).bind _).bind _) = _
      rw [v2] <;> rfl
    rw [s_ifS, s_orT, q1, Option.bind_some]
    show ((valT (binE isntBD (callE f_in_step (consA (varE 4) (nilA))) (cE (.bool true))) E9 γ4).bind _) = _
    rw [q2] <;> rfl
  -- the ones left out
  let envL (v5 v12 v13 : Option TK.D) : Env := [N, N, some CD, some (.int m), some HD, v5, some BD, some wd, some lD, some rD, some TD, some PD, v12, v13]
  have body : ∀ (v5 v12 v13 : Option TK.D) (γ : G), Gok γ → told ≠ [] → ∃ w12 w13 γ', bodyL (envL v5 v12 v13) γ = some (.nx (envL v5 w12 w13), γ') ∧ Gok γ' := fun v5 v12 v13 γ g hne => by
    have hpos : 0 < told.length := List.length_pos_iff.mpr hne
    obtain ⟨k, γ', u1, u2, g'⟩ := pick_ok g told.length hpos (by omega)
    let pre := told.take k
    let post := told.drop (k + 1)
    have hsplit : told = pre ++ told[k] :: post := by
      show told = told.take k ++ told[k] :: told.drop (k + 1)
      rw [← List.drop_eq_getElem_cons u1, List.take_append_drop]
    have ok' : Okh b (pre ++ post) := by
      have := t.ok
      have e : toldN (stepL b) L R ms = pre ++ told[k] :: post := hsplit
      rw [e] at this
      exact this.drop
    have zpp : (pre ++ post).length ≤ 32 := by
      rw [List.length_append]
      show (told.take k).length + (told.drop (k + 1)).length ≤ 32
      rw [List.length_take, List.length_drop]
      omega
    obtain ⟨c', hb', hi'⟩ := behind_ok w m ok' (by omega) (by omega)
    have hns := t.notSync hmm hsplit hi'
    obtain ⟨v, v1, v2, v3⟩ := both_ok hi'.wf (hi'.sm B (by omega))
    have hv : v = false := by
      cases v with
      | false => rfl
      | true => exact absurd (v3.mp rfl) hns
    subst hv
    refine ⟨some (.int (k : Int)), some (eBk c'), γ', ?_, g'⟩
    unfold bodyL
    have b1 : (setS 12 (callGE f__law_pick (consA (unE lenD (varE 10)) (nilA)))) (envL v5 v12 v13) γ = some (.nx (envL v5 (some (.int (k : Int))) v13), γ') := by
      have e : (unE lenD (varE 10)) (envL v5 v12 v13) γ = some (.int (told.length : Int), γ) := by
        show ((lenD (.tuple (told.map eHd))).bind fun z => some (z, γ)) = _
        rw [s_lenT, List.length_map] <;> rfl
      rw [s_setS, s_callGE, s_consA, e]
      show ((f__law_pick [.int (told.length : Int)] γ).bind _) = _
      rw [u2] <;> rfl
    have b2 : (setS 13 (callE f__law_behind (consA (varE 6) (consA (binE addD (sliceE (varE 10) (noneO) (someO (varE 12))) (sliceE (varE 10) (someO (binE addD (varE 12) (cE (.int 1)))) (noneO))) (consA (varE 3) (nilA)))))) (envL v5 (some (.int (k : Int))) v13) γ' = some (.nx (envL v5 (some (.int (k : Int))) (some (eBk c'))), γ') := by
      have e1 : (sliceE (varE 10) (noneO) (someO (varE 12))) (envL v5 (some (.int (k : Int))) v13) γ' = some (.tuple (pre.map eHd), γ') := by
        show some (PyData.tuple (cutD (told.map eHd) none (some (k : Int))), γ') = _
        rw [cut_to, ← List.map_take]
      have e2 : (sliceE (varE 10) (someO (binE addD (varE 12) (cE (.int 1)))) (noneO)) (envL v5 (some (.int (k : Int))) v13) γ' = some (.tuple (post.map eHd), γ') := by
        show some (PyData.tuple (cutD (told.map eHd) (some ((k + 1 : Nat) : Int)) none), γ') = _
        rw [cut_from, ← List.map_drop]
      have e3 : (binE addD (sliceE (varE 10) (noneO) (someO (varE 12))) (sliceE (varE 10) (someO (binE addD (varE 12) (cE (.int 1)))) (noneO))) (envL v5 (some (.int (k : Int))) v13) γ' = some (.tuple ((pre ++ post).map eHd), γ') := by
        rw [s_binE, e1, Option.bind_some, e2, Option.bind_some]
        show ((if (pre.map eHd).length + (post.map eHd).length ≤ LINE then some (PyData.tuple (pre.map eHd ++ post.map eHd)) else none).bind fun z => some (z, γ')) = _
        rw [if_pos (by rw [List.length_map, List.length_map]; rw [List.length_append] at zpp; exact line_of (by omega)), ← List.map_append] <;> rfl
      rw [s_setS, s_callE, s_consA]
      show ((((((consA (binE addD (sliceE (varE 10) (noneO) (someO (varE 12))) (sliceE (varE 10) (someO (binE addD (varE 12) (cE (.int 1)))) (noneO))) (consA (varE 3) (nilA))) (envL v5 (some (.int (k : Int))) v13) γ').bind fun y => some (BD :: y.1, y.2)).bind fun x => (f__law_behind x.1).bind fun z => some (z, x.2))).bind _) = _
      rw [s_consA, e3]
      show (((f__law_behind [eBk b, .tuple ((pre ++ post).map eHd), .int m]).bind fun z => some (z, γ')).bind _) = _
      rw [hb'] <;> rfl
    have b3 : (ifS (orT (valT (callE f__law_all_in_step (consA (varE 13) (nilA)))) (valT (binE isntBD (callE f_in_step (consA (varE 13) (nilA))) (cE (.bool false))))) (retS (cE (.bool false))) (nextS)) (envL v5 (some (.int (k : Int))) (some (eBk c'))) γ' = some (.nx (envL v5 (some (.int (k : Int))) (some (eBk c'))), γ') := by
      have q1 : (valT (callE f__law_all_in_step (consA (varE 13) (nilA)))) (envL v5 (some (.int (k : Int))) (some (eBk c'))) γ' = some (false, γ') := by
        show ((((f__law_all_in_step [eBk c']).bind fun z => some (z, γ')).bind _)) = _
        rw [v1] <;> rfl
      have q2 : (valT (binE isntBD (callE f_in_step (consA (varE 13) (nilA))) (cE (.bool false)))) (envL v5 (some (.int (k : Int))) (some (eBk c'))) γ' = some (false, γ') := by
        show ((((f_in_step [eBk c']).bind fun z => some (z, γ')).bind _).bind _) = _
        rw [v2] <;> rfl
      rw [s_ifS, s_orT, q1, Option.bind_some]
      show ((valT (binE isntBD (callE f_in_step (consA (varE 13) (nilA))) (cE (.bool false))) (envL v5 (some (.int (k : Int))) (some (eBk c'))) γ').bind _) = _
      rw [q2] <;> rfl
    rw [s_seqS, b1, Option.bind_some]
    show seqS _ _ (envL v5 (some (.int (k : Int))) v13) γ' = _
    rw [s_seqS, b2, Option.bind_some]
    exact b3
  obtain ⟨n, hn, hrng⟩ : ∃ n : Nat, (0 < n → told ≠ []) ∧ rngI (binE mulD (cE (.int 3)) (unE intD (binE neD (varE 10) (tupE (nilA))))) E9 γ4 = some ((List.range n).map fun k : Nat => .int (k : Int), γ4) := by
    have hfl : flat 2 TD := flat_tup (n := 1) fun d h => by
      obtain ⟨y, _, rfl⟩ := List.mem_map.mp h
      exact flat_hd y
    have hfe : flat 1 (.tuple [] : TK.D) := flat_tup (n := 0) fun d h => by cases h
    have e : ∀ v : Bool, PyData.eqv TD (.tuple []) = v → (binE mulD (cE (.int 3)) (unE intD (binE neD (varE 10) (tupE (nilA))))) E9 γ4 = some (.int (3 * (if !v then 1 else 0)), γ4) := fun v hv => by
      have q : (unE intD (binE neD (varE 10) (tupE (nilA)))) E9 γ4 = some (.int (if !v then 1 else 0), γ4) := by
        show ((((neD TD (.tuple [])).bind fun z => some (z, γ4)).bind fun x => (intD x.1).bind fun z => some (z, x.2))) = _
        rw [neD_of hfl hfe, hv] <;> rfl
      rw [s_binE]
      show (((unE intD (binE neD (varE 10) (tupE (nilA)))) E9 γ4).bind fun y => (mulD (.int 3) y.1).bind fun z => some (z, y.2)) = _
      rw [q]
      show ((mulD (.int 3) (.int (if !v then 1 else 0))).bind fun z => some (z, γ4)) = _
      rw [mulD_small (by decide) (by split <;> decide)] <;> rfl
    cases ht : told with
    | nil =>
      refine ⟨0, fun h => absurd h (Nat.lt_irrefl _), ?_⟩
      have hTD : TD = .tuple [] := by
        show PyData.tuple (told.map eHd) = _
        rw [ht] <;> rfl
      have := e true (by rw [hTD]; rfl)
      unfold rngI
      rw [this] <;> rfl
    | cons h0 tl =>
      refine ⟨3, fun _ => List.cons_ne_nil _ _, ?_⟩
      have hTD : TD = .tuple (eHd h0 :: tl.map eHd) := by
        show PyData.tuple (told.map eHd) = _
        rw [ht] <;> rfl
      have := e false (by rw [hTD]; simp [PyData.eqv, PyData.eqvAll])
      unfold rngI
      rw [this] <;> rfl
  obtain ⟨ρ', γ', h1, ⟨v5, v12, v13, h2⟩, h3⟩ := forL_all (fun k : Nat => (.int (k : Int) : TK.D)) (fun don ρ γ => (∃ v5 v12 v13, ρ = envL v5 v12 v13) ∧ Gok γ) (tg := tgN 5) (b := bodyL) (List.range n) E9 γ4 (fun don k rest e ρ γ z => by
      obtain ⟨⟨v5, v12, v13, rfl⟩, g⟩ := z
      have hk : k < n := List.mem_range.mp (by rw [e]; simp)
      obtain ⟨w12, w13, γ', b1, b2⟩ := body (some (.int (k : Int))) v12 v13 γ g (hn (by omega))
      exact ⟨_, _, γ', rfl, b1, ⟨_, _, _, rfl⟩, b2⟩) ⟨⟨none, none, none, rfl⟩, g4⟩
  subst h2
  refine ⟨γ', ?_⟩
  have hrep : List.replicate lawLen none = [N, N, N, N, N, N, N, N, N, N, N, N, N, N] := rfl
  rw [hrep]
  unfold g_law_rest
  rw [s_seqS, a1, Option.bind_some]
  show seqS _ _ [N, N, N, N, N, N, some BD, some wd, N, N, N, N, N, N] γ1 = _
  rw [s_seqS, a2, Option.bind_some]
  show seqS _ _ [N, N, N, N, N, N, some BD, some wd, some lD, some rD, N, N, N, N] γ1 = _
  rw [s_seqS, a3, Option.bind_some]
  show seqS _ _ [N, N, some (.tuple (cs0.map pairD)), N, N, N, some BD, some wd, some lD, some rD, N, N, N, N] γ2 = _
  rw [s_seqS, a4, Option.bind_some]
  show seqS _ _ [N, N, some CD, N, N, N, some BD, some wd, some lD, some rD, N, N, N, N] γ3 = _
  rw [s_seqS, a5, Option.bind_some]
  show seqS _ _ [N, N, some CD, N, N, N, some BD, some wd, some lD, some rD, some TD, some PD, N, N] γ3 = _
  rw [s_seqS, a6, Option.bind_some]
  show seqS _ _ [N, N, some CD, N, N, N, some BD, some wd, some lD, some rD, some TD, some PD, N, N] γ3 = _
  rw [s_seqS, a7, Option.bind_some]
  show seqS _ _ [N, N, some CD, some (.int m), N, N, some BD, some wd, some lD, some rD, some TD, some PD, N, N] γ4 = _
  rw [s_seqS, a8, Option.bind_some]
  show seqS _ _ E9 γ4 = _
  rw [s_seqS, a9, Option.bind_some]
  show seqS _ _ E9 γ4 = _
  have a10 : (forS (rngI (binE mulD (cE (.int 3)) (unE intD (binE neD (varE 10) (tupE (nilA)))))) (tgN 5) bodyL) E9 γ4 = some (.nx (envL v5 v12 v13), γ') := by
    rw [s_forS, hrng, Option.bind_some]
    exact h1
  unfold bodyL at a10
  rw [s_seqS, a10] <;> rfl
end TK.M
end
set_option Elab.async false
set_option linter.all false
set_option maxRecDepth 100000
set_option maxHeartbeats 0
namespace TK
open PySem PySem.Spec PyProof.Rows L2
theorem plain (ns : List Int) (h : ns.length ≤ 63) : lawSem ns := by
  obtain ⟨m, ds, h1, h2⟩ := M.draws_ok ns h
  obtain ⟨γ', h3⟩ := M.rest_ok h2
  exact ⟨m, ds, γ', h1, h3⟩
end TK
open PySem PySem.W PySem.Calls PyProof.Rows
theorem PySem.Challenge.cw_twainkeep_k71_whole_hands_bring_in_step_holds : PySem.Challenge.rw_twainkeep_k71_whole_hands_bring_in_step.Holds := by
  w_on; o_law
  refine HandSHeadRun.head_any (r := OpenLaw.row PySem.Challenge.rw_twainkeep_k71_whole_hands_bring_in_step) (q := view (OpenLaw.row PySem.Challenge.rw_twainkeep_k71_whole_hands_bring_in_step).prog [99]) (H := TK.hk) (ob := TK.ob) (M := 20000) (loose := TK.loose) (d := HandSHeadRun.topDef (OpenLaw.row PySem.Challenge.rw_twainkeep_k71_whole_hands_bring_in_step).prog 99) (kwd := []) TK.ob_eq
    (by kernel_rfl) (fun s => by kernel_rfl) TK.run (by kernel_rfl) (by kernel_rfl) (by kernel_rfl) (by rfl) (by first | assumption | decide +kernel) (by decide +kernel) ⟨rfl, rfl, rfl, rfl, rfl, by decide +kernel⟩ ?hw ?hc
  case hw => w_witness2
  case hc =>
    refine L2.walk_ofE (l := PySem.Challenge.rw_twainkeep_k71_whole_hands_bring_in_step) (n := 63) (k := 25) (x := "_law_script") (CX := L2.CX0) rfl (by decide) (by kernel_rfl) ⟨rfl, by decide, by decide⟩ ?F (fun _ _ _ _ z => z)
    intro w mg fa h Y G hmg0
    obtain ⟨K, KX, c, ex⟩ := Y
    have hmg : mg ("law" : PySem.Str) = some (.ref fa) := by
      have e : (HandSHeadRun.topDef (OpenLaw.row PySem.Challenge.rw_twainkeep_k71_whole_hands_bring_in_step).prog 99).name = ("law" : PySem.Str) := by kernel_rfl
      rw [← e]
      exact hmg0
    have W : TK.Wd K mg := ⟨⟨h, KX, G⟩, c.d⟩
    have T : TK.Wt w K := ⟨c.tab 0 (t := _) rfl, ex⟩
    obtain ⟨fdL, FL⟩ := W.c.def_ 60 (d := TK.d_law) rfl
    have hga : mg ("law" : PySem.Str) = some (.ref (He.ga K "law")) := W.glo 54 rfl
    have efa : fa = He.ga K "law" := by
      rw [hmg] at hga
      cases hga
      rfl
    subst efa
    have hb := L2.FunD.bindsA (ps := ["_law_script"]) FL fun _ _ _ _ _ _ us hl => match us, hl with | [_], _ => rfl
    refine ⟨K, fdL, TK.spLaw K, KX, fun s v => hb s [v] rfl, fun H a ns hl hO hS => ⟨a, ns, rfl, hS, hO, TK.plain ns hl, fun _ => rfl⟩, fun base _ _ => ?_⟩
    exact TK.law_fn W T _ fdL FL
