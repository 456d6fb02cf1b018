import PyProof.Rows.All
import Wide.All
import OpenK.AllK
import Wide.FinOn
import HandS.ForMost
import HandS.Defaults
import HandS.HeadHook4
import HandS.More
import HandS.Head0
import HandS.Head1
import HandS.Head2
import HandS.HeadEnd
import HandS.Deep
import KE.SortData
import KE.DataMinKey
import HandS.DictSubView
import HandS.SortKw
import KE.KUnpackStar
import KE.KDictCopyH
import KE.KDictSum
import HandS.IsInst
import HandS.CallLocal
import HandS.Codes
import HandS.Conv
import HandS.NoneIn
import HandS.Strs
import HandS.Lambda
import HandS.Nested
import PyProof.ListRange
import PyProof.TableCode
import HandS.HeadWalk
import PySem.Challenge.RW_watchednodes_k87_whole_what_a_fallen_hea
/-! ## Tx -/
set_option maxHeartbeats 200000
set_option Elab.async false
set_option linter.all false
set_option maxRecDepth 100000
/-! The text by places; the facts behind the top. Printed by gen_tx.py. -/
namespace Wd
open PySem L2
def top (i : Nat) : Stmt := PySem.Challenge.pw_watchednodes_k87_whole_what_a_fallen_hea.main.body.getD i (.Pass ⟨0, 0, 0, 0⟩)
abbrev s_is_whole : Stmt := top 17
abbrev s_is_word : Stmt := top 18
abbrev s_is_place : Stmt := top 22
abbrev s_is_plain : Stmt := top 34
abbrev s_first_nodes : Stmt := top 35
abbrev s_is_deed : Stmt := top 49
abbrev s_is_entry : Stmt := top 50
abbrev s_first_state : Stmt := top 51
abbrev s_done_deed : Stmt := top 54
abbrev s_ended : Stmt := top 55
abbrev s_done : Stmt := top 56
abbrev s_are_things : Stmt := top 60
abbrev s_is_seek : Stmt := top 62
abbrev s_is_one_place : Stmt := top 63
abbrev s_is_nothing : Stmt := top 64
abbrev s_is_sync : Stmt := top 65
abbrev s_is_propose : Stmt := top 66
abbrev s_is_letter : Stmt := top 70
abbrev s_is_beginning : Stmt := top 73
abbrev s_up_to : Stmt := top 74
abbrev s_behind : Stmt := top 75
abbrev s_last_place : Stmt := top 76
abbrev s_look_at_members : Stmt := top 80
abbrev s_most_of : Stmt := top 81
abbrev s_may_promise : Stmt := top 82
abbrev s_m_init : Stmt := inClass (top 83) 0
abbrev s_m_begin_anew : Stmt := inClass (top 83) 1
abbrev s_m_stand_down : Stmt := inClass (top 83) 2
abbrev s_m_others : Stmt := inClass (top 83) 3
abbrev s_m_last : Stmt := inClass (top 83) 4
abbrev s_m_has : Stmt := inClass (top 83) 5
abbrev s_m_say : Stmt := inClass (top 83) 6
abbrev s_m_go_on_to : Stmt := inClass (top 83) 7
abbrev s_m_seek : Stmt := inClass (top 83) 9
abbrev s_m_lead : Stmt := inClass (top 83) 10
abbrev s_m_leads : Stmt := inClass (top 83) 11
abbrev s_m_stands_by : Stmt := inClass (top 83) 12
abbrev s_m_is_settled : Stmt := inClass (top 83) 13
abbrev s_m_follow : Stmt := inClass (top 83) 14
abbrev s_m_sync_by : Stmt := inClass (top 83) 15
abbrev s_m_sync_for : Stmt := inClass (top 83) 16
abbrev s_m_look_done : Stmt := inClass (top 83) 17
abbrev s_m_put : Stmt := inClass (top 83) 18
abbrev s_m_beat : Stmt := inClass (top 83) 22
abbrev s_m_beat_for : Stmt := inClass (top 83) 23
abbrev s_m_ends : Stmt := inClass (top 83) 24
abbrev s_m_take : Stmt := inClass (top 83) 25
abbrev s_m_on_told : Stmt := inClass (top 83) 26
abbrev s_m_on_seek : Stmt := inClass (top 83) 27
abbrev s_m_on_promise : Stmt := inClass (top 83) 28
abbrev s_m_on_lead : Stmt := inClass (top 83) 29
abbrev s_m_on_sync : Stmt := inClass (top 83) 30
abbrev s_m_on_propose : Stmt := inClass (top 83) 31
abbrev s_m_on_done : Stmt := inClass (top 83) 32
abbrev s_m_head : Stmt := inClass (top 83) 36
abbrev s_m_epoch : Stmt := inClass (top 83) 38
abbrev s_m_row : Stmt := inClass (top 83) 41
abbrev s_m_done_row : Stmt := inClass (top 83) 42
abbrev s_law_pool : Stmt := top 85
abbrev s_law_take : Stmt := top 86
abbrev s_law_round : Stmt := top 87
abbrev s_law_calmed : Stmt := top 88
abbrev s_law_place : Stmt := top 89
abbrev s_law_started : Stmt := top 90
abbrev s_law_late : Stmt := top 91
abbrev s_law_lates : Stmt := top 92
abbrev s_law_right : Stmt := top 93
abbrev s_law : Stmt := top 94
abbrev hC (K : PySem.W.Frag) : Addr := He.ga K "House"
abbrev hM (K : PySem.W.Frag) (m : Str) : Addr := He.ma K (hC K) m
def fa0 : List He.Fa := [
  .glo "is_whole",
  .glo "is_word",
  .glo "is_place",
  .glo "is_plain",
  .glo "first_nodes",
  .glo "is_deed",
  .glo "is_entry",
  .glo "first_state",
  .glo "done_deed",
  .glo "ended",
  .glo "done",
  .glo "are_things",
  .glo "is_seek",
  .glo "is_one_place",
  .glo "is_nothing",
  .glo "is_sync",
  .glo "is_propose",
  .glo "is_letter",
  .glo "is_beginning",
  .glo "up_to"]
def fa1 : List He.Fa := [
  .glo "behind",
  .glo "last_place",
  .glo "look_at_members",
  .glo "most_of",
  .glo "may_promise",
  .glo "_law_pool",
  .glo "_law_take",
  .glo "_law_round",
  .glo "_law_calmed",
  .glo "_law_place",
  .glo "_law_started",
  .glo "_law_late",
  .glo "_law_lates",
  .glo "_law_right",
  .glo "law",
  .glo "is_forward",
  .glo "is_touch",
  .glo "is_ask",
  .glo "state_of",
  .glo "House"]
def fa2 : List He.Fa := [
  .glo "NOWHERE",
  .glo "FORMS",
  .glo "WAYS",
  .glo "LOOKS",
  .glo "NEVER",
  .glo "done_states",
  .free "isinstance",
  .free "int",
  .free "bool",
  .free "str",
  .free "tuple",
  .free "len",
  .free "all",
  .free "set",
  .free "sorted",
  .free "max",
  .free "min",
  .free "list",
  .free "range",
  .free "dict"]
def fa3 : List He.Fa := [
  .free "zip",
  .int "LONGEST" 8,
  .int "MOST_MEMBERS" 7,
  .str "LETTERS" "abcdefghijklmnopqrstuvwxyz",
  .str "ROOT" "/",
  .cls "House",
  .noat "House" "own_name",
  .noat "House" "own_members",
  .noat "House" "own_looks",
  .noat "House" "own_promised",
  .noat "House" "own_epoch",
  .noat "House" "own_row",
  .noat "House" "own_done",
  .noat "House" "own_state",
  .noat "House" "fresh",
  .noat "House" "own_role",
  .noat "House" "own_head",
  .noat "House" "sought",
  .noat "House" "promises",
  .noat "House" "taken"]
def fa4 : List He.Fa := [
  .noat "House" "own_clock",
  .noat "House" "heard_at",
  .meth "House" "begin_anew",
  .meth "House" "stand_down",
  .meth "House" "others",
  .meth "House" "last",
  .meth "House" "has",
  .meth "House" "say",
  .meth "House" "go_on_to",
  .meth "House" "seek",
  .meth "House" "lead",
  .meth "House" "leads",
  .meth "House" "stands_by",
  .meth "House" "is_settled",
  .meth "House" "follow",
  .meth "House" "sync_by",
  .meth "House" "sync_for",
  .meth "House" "look_done",
  .meth "House" "put",
  .meth "House" "beat"]
def fa5 : List He.Fa := [
  .meth "House" "beat_for",
  .meth "House" "ends",
  .meth "House" "take",
  .meth "House" "on_told",
  .meth "House" "on_seek",
  .meth "House" "on_promise",
  .meth "House" "on_lead",
  .meth "House" "on_sync",
  .meth "House" "on_propose",
  .meth "House" "on_done",
  .meth "House" "head",
  .meth "House" "epoch",
  .meth "House" "row",
  .meth "House" "done_row",
  .mkr "House"]
def fa : List He.Fa := fa0 ++ (fa1 ++ (fa2 ++ (fa3 ++ (fa4 ++ (fa5)))))
def fn0 : List He.DefD := [
  ⟨("is_whole", none), "is_whole", "is_whole", defArgs s_is_whole, defBody s_is_whole, defScope s_is_whole, [], []⟩,
  ⟨("is_word", none), "is_word", "is_word", defArgs s_is_word, defBody s_is_word, defScope s_is_word, [], []⟩,
  ⟨("is_place", none), "is_place", "is_place", defArgs s_is_place, defBody s_is_place, defScope s_is_place, [], []⟩,
  ⟨("is_plain", none), "is_plain", "is_plain", defArgs s_is_plain, defBody s_is_plain, defScope s_is_plain, [], []⟩,
  ⟨("first_nodes", none), "first_nodes", "first_nodes", defArgs s_first_nodes, defBody s_first_nodes, defScope s_first_nodes, [], []⟩,
  ⟨("is_deed", none), "is_deed", "is_deed", defArgs s_is_deed, defBody s_is_deed, defScope s_is_deed, [], []⟩,
  ⟨("is_entry", none), "is_entry", "is_entry", defArgs s_is_entry, defBody s_is_entry, defScope s_is_entry, [], []⟩,
  ⟨("first_state", none), "first_state", "first_state", defArgs s_first_state, defBody s_first_state, defScope s_first_state, [], []⟩,
  ⟨("done_deed", none), "done_deed", "done_deed", defArgs s_done_deed, defBody s_done_deed, defScope s_done_deed, [], []⟩,
  ⟨("ended", none), "ended", "ended", defArgs s_ended, defBody s_ended, defScope s_ended, [], []⟩,
  ⟨("done", none), "done", "done", defArgs s_done, defBody s_done, defScope s_done, [], []⟩,
  ⟨("are_things", none), "are_things", "are_things", defArgs s_are_things, defBody s_are_things, defScope s_are_things, [], []⟩,
  ⟨("is_seek", none), "is_seek", "is_seek", defArgs s_is_seek, defBody s_is_seek, defScope s_is_seek, [], []⟩,
  ⟨("is_one_place", none), "is_one_place", "is_one_place", defArgs s_is_one_place, defBody s_is_one_place, defScope s_is_one_place, [], []⟩,
  ⟨("is_nothing", none), "is_nothing", "is_nothing", defArgs s_is_nothing, defBody s_is_nothing, defScope s_is_nothing, [], []⟩,
  ⟨("is_sync", none), "is_sync", "is_sync", defArgs s_is_sync, defBody s_is_sync, defScope s_is_sync, [], []⟩,
  ⟨("is_propose", none), "is_propose", "is_propose", defArgs s_is_propose, defBody s_is_propose, defScope s_is_propose, [], []⟩,
  ⟨("is_letter", none), "is_letter", "is_letter", defArgs s_is_letter, defBody s_is_letter, defScope s_is_letter, [], []⟩,
  ⟨("is_beginning", none), "is_beginning", "is_beginning", defArgs s_is_beginning, defBody s_is_beginning, defScope s_is_beginning, [], []⟩,
  ⟨("up_to", none), "up_to", "up_to", defArgs s_up_to, defBody s_up_to, defScope s_up_to, [], []⟩]
def fn1 : List He.DefD := [
  ⟨("behind", none), "behind", "behind", defArgs s_behind, defBody s_behind, defScope s_behind, [], []⟩,
  ⟨("last_place", none), "last_place", "last_place", defArgs s_last_place, defBody s_last_place, defScope s_last_place, [], []⟩,
  ⟨("look_at_members", none), "look_at_members", "look_at_members", defArgs s_look_at_members, defBody s_look_at_members, defScope s_look_at_members, [], []⟩,
  ⟨("most_of", none), "most_of", "most_of", defArgs s_most_of, defBody s_most_of, defScope s_most_of, [], []⟩,
  ⟨("may_promise", none), "may_promise", "may_promise", defArgs s_may_promise, defBody s_may_promise, defScope s_may_promise, [], []⟩,
  ⟨("House", some "__init__"), "__init__", "House.__init__", defArgs s_m_init, defBody s_m_init, defScope s_m_init, [], [("looks", .str "all")]⟩,
  ⟨("House", some "begin_anew"), "begin_anew", "House.begin_anew", defArgs s_m_begin_anew, defBody s_m_begin_anew, defScope s_m_begin_anew, [], []⟩,
  ⟨("House", some "stand_down"), "stand_down", "House.stand_down", defArgs s_m_stand_down, defBody s_m_stand_down, defScope s_m_stand_down, [], []⟩,
  ⟨("House", some "others"), "others", "House.others", defArgs s_m_others, defBody s_m_others, defScope s_m_others, [], []⟩,
  ⟨("House", some "last"), "last", "House.last", defArgs s_m_last, defBody s_m_last, defScope s_m_last, [], []⟩,
  ⟨("House", some "has"), "has", "House.has", defArgs s_m_has, defBody s_m_has, defScope s_m_has, [], []⟩,
  ⟨("House", some "say"), "say", "House.say", defArgs s_m_say, defBody s_m_say, defScope s_m_say, [.adr (He.dflAt ("House", some "say") 0)], []⟩,
  ⟨("House", some "go_on_to"), "go_on_to", "House.go_on_to", defArgs s_m_go_on_to, defBody s_m_go_on_to, defScope s_m_go_on_to, [], []⟩,
  ⟨("House", some "seek"), "seek", "House.seek", defArgs s_m_seek, defBody s_m_seek, defScope s_m_seek, [], []⟩,
  ⟨("House", some "lead"), "lead", "House.lead", defArgs s_m_lead, defBody s_m_lead, defScope s_m_lead, [], []⟩,
  ⟨("House", some "leads"), "leads", "House.leads", defArgs s_m_leads, defBody s_m_leads, defScope s_m_leads, [], []⟩,
  ⟨("House", some "stands_by"), "stands_by", "House.stands_by", defArgs s_m_stands_by, defBody s_m_stands_by, defScope s_m_stands_by, [], []⟩,
  ⟨("House", some "is_settled"), "is_settled", "House.is_settled", defArgs s_m_is_settled, defBody s_m_is_settled, defScope s_m_is_settled, [], []⟩,
  ⟨("House", some "follow"), "follow", "House.follow", defArgs s_m_follow, defBody s_m_follow, defScope s_m_follow, [], []⟩,
  ⟨("House", some "sync_by"), "sync_by", "House.sync_by", defArgs s_m_sync_by, defBody s_m_sync_by, defScope s_m_sync_by, [], []⟩]
def fn2 : List He.DefD := [
  ⟨("House", some "sync_for"), "sync_for", "House.sync_for", defArgs s_m_sync_for, defBody s_m_sync_for, defScope s_m_sync_for, [], []⟩,
  ⟨("House", some "look_done"), "look_done", "House.look_done", defArgs s_m_look_done, defBody s_m_look_done, defScope s_m_look_done, [], []⟩,
  ⟨("House", some "put"), "put", "House.put", defArgs s_m_put, defBody s_m_put, defScope s_m_put, [], []⟩,
  ⟨("House", some "beat"), "beat", "House.beat", defArgs s_m_beat, defBody s_m_beat, defScope s_m_beat, [], []⟩,
  ⟨("House", some "beat_for"), "beat_for", "House.beat_for", defArgs s_m_beat_for, defBody s_m_beat_for, defScope s_m_beat_for, [], []⟩,
  ⟨("House", some "ends"), "ends", "House.ends", defArgs s_m_ends, defBody s_m_ends, defScope s_m_ends, [], []⟩,
  ⟨("House", some "take"), "take", "House.take", defArgs s_m_take, defBody s_m_take, defScope s_m_take, [], []⟩,
  ⟨("House", some "on_told"), "on_told", "House.on_told", defArgs s_m_on_told, defBody s_m_on_told, defScope s_m_on_told, [], []⟩,
  ⟨("House", some "on_seek"), "on_seek", "House.on_seek", defArgs s_m_on_seek, defBody s_m_on_seek, defScope s_m_on_seek, [], []⟩,
  ⟨("House", some "on_promise"), "on_promise", "House.on_promise", defArgs s_m_on_promise, defBody s_m_on_promise, defScope s_m_on_promise, [], []⟩,
  ⟨("House", some "on_lead"), "on_lead", "House.on_lead", defArgs s_m_on_lead, defBody s_m_on_lead, defScope s_m_on_lead, [], []⟩,
  ⟨("House", some "on_sync"), "on_sync", "House.on_sync", defArgs s_m_on_sync, defBody s_m_on_sync, defScope s_m_on_sync, [], []⟩,
  ⟨("House", some "on_propose"), "on_propose", "House.on_propose", defArgs s_m_on_propose, defBody s_m_on_propose, defScope s_m_on_propose, [], []⟩,
  ⟨("House", some "on_done"), "on_done", "House.on_done", defArgs s_m_on_done, defBody s_m_on_done, defScope s_m_on_done, [], []⟩,
  ⟨("House", some "head"), "head", "House.head", defArgs s_m_head, defBody s_m_head, defScope s_m_head, [], []⟩,
  ⟨("House", some "epoch"), "epoch", "House.epoch", defArgs s_m_epoch, defBody s_m_epoch, defScope s_m_epoch, [], []⟩,
  ⟨("House", some "row"), "row", "House.row", defArgs s_m_row, defBody s_m_row, defScope s_m_row, [], []⟩,
  ⟨("House", some "done_row"), "done_row", "House.done_row", defArgs s_m_done_row, defBody s_m_done_row, defScope s_m_done_row, [], []⟩,
  ⟨("_law_pool", none), "_law_pool", "_law_pool", defArgs s_law_pool, defBody s_law_pool, defScope s_law_pool, [], []⟩,
  ⟨("_law_take", none), "_law_take", "_law_take", defArgs s_law_take, defBody s_law_take, defScope s_law_take, [], []⟩]
def fn3 : List He.DefD := [
  ⟨("_law_round", none), "_law_round", "_law_round", defArgs s_law_round, defBody s_law_round, defScope s_law_round, [], []⟩,
  ⟨("_law_calmed", none), "_law_calmed", "_law_calmed", defArgs s_law_calmed, defBody s_law_calmed, defScope s_law_calmed, [], []⟩,
  ⟨("_law_place", none), "_law_place", "_law_place", defArgs s_law_place, defBody s_law_place, defScope s_law_place, [], []⟩,
  ⟨("_law_started", none), "_law_started", "_law_started", defArgs s_law_started, defBody s_law_started, defScope s_law_started, [], []⟩,
  ⟨("_law_late", none), "_law_late", "_law_late", defArgs s_law_late, defBody s_law_late, defScope s_law_late, [], []⟩,
  ⟨("_law_lates", none), "_law_lates", "_law_lates", defArgs s_law_lates, defBody s_law_lates, defScope s_law_lates, [], []⟩,
  ⟨("_law_right", none), "_law_right", "_law_right", defArgs s_law_right, defBody s_law_right, defScope s_law_right, [], []⟩,
  ⟨("law", none), "law", "law", defArgs s_law, defBody s_law, defScope s_law, [], []⟩]
def fn : List He.DefD := fn0 ++ (fn1 ++ (fn2 ++ (fn3)))
def formKeys : List Str := ["seek", "promise", "lead", "sync", "lack", "synced", "propose", "took", "done", "forward", "touch"]
def formVals : List (Str × He.Dv) := [("seek", .glo "is_seek"), ("promise", .glo "is_one_place"), ("lead", .glo "is_nothing"), ("sync", .glo "is_sync"), ("lack", .glo "is_nothing"), ("synced", .glo "is_one_place"), ("propose", .glo "is_propose"), ("took", .glo "is_one_place"), ("done", .glo "is_one_place"), ("forward", .glo "is_forward"), ("touch", .glo "is_touch")]
def ts : List He.Tab := [(fun K => He.ga K "FORMS", formKeys)]
abbrev restA (K : PySem.W.Frag) : Addr := He.dflAt ("House", some "say") 0 K
def tupAt (K : PySem.W.Frag) (a : Addr) (vs : List He.Dv) : Bool := match K.lookup a with
  | some ⟨.type c, _, .seq its _, _⟩ => decide (c = "tuple") && (decide (its.size ≤ sizeLine) && He.relAll (vs.map (He.Dv.v K)) its.toList)
  | _ => false
theorem tupAt_ok {K : PySem.W.Frag} {a : Addr} {vs : List He.Dv} (h : tupAt K a vs = true) (H : Hp) : SqT K H a (vs.map (He.Dv.v K)) := by
  unfold tupAt at h
  cases q : K.lookup a with
  | none =>
    rw [q] at h
    cases h
  | some o =>
    obtain ⟨oc, od, dt, osl⟩ := o
    rw [q] at h
    cases oc with
    | type c =>
      cases dt with
      | seq its n =>
        obtain ⟨h1, h2⟩ := He.ba (show (decide (c = "tuple") && (decide (its.size ≤ sizeLine) && He.relAll (vs.map (He.Dv.v K)) its.toList)) = true from h)
        obtain ⟨h3, h4⟩ := He.ba h2
        exact .inr ⟨_, its, n, q, congrArg Value.type (of_decide_eq_true h1), rfl, of_decide_eq_true h3, He.relAll_ok h4⟩
      | _ => cases h
    | _ => cases dt <;> cases h
def exB (K : PySem.W.Frag) : Bool := tupAt K (He.ga K "NOWHERE") [.int 0, .int 0] && (tupAt K (He.ga K "WAYS") [.str "more", .str "cut", .str "all"] && (tupAt K (He.ga K "LOOKS") [.str "all", .str "epoch", .str "none"] &&
  (tupAt K (He.ga K "NEVER") [.non, .int 0, .non, .glo "NOWHERE"] && (tupAt K (restA K) [] && (decide (He.ga K "done_states" = He.ga K "done") && He.valsB K (He.ga K "FORMS") formVals)))))
structure Txt (w : World) (K : PySem.W.Frag) (mg : Str → Option Value) : Prop where
  t : He.SaysT fa fn ts w K
  ex : exB K = true
  g : ∃ h : Heap, K.In h ∧ h.Ns mainGlobals mg
section
variable {w : World} {K : PySem.W.Frag} {mg : Str → Option Value}
theorem Txt.d (T : Txt w K mg) : He.SaysD fa fn K := T.t.d
theorem Txt.nowhere (T : Txt w K mg) (H : Hp) : SqT K H (He.ga K "NOWHERE") [.int 0, .int 0] := tupAt_ok (He.ba T.ex).1 H
theorem Txt.ways (T : Txt w K mg) (H : Hp) : SqT K H (He.ga K "WAYS") [.str "more", .str "cut", .str "all"] := tupAt_ok (He.ba (He.ba T.ex).2).1 H
theorem Txt.looks (T : Txt w K mg) (H : Hp) : SqT K H (He.ga K "LOOKS") [.str "all", .str "epoch", .str "none"] := tupAt_ok (He.ba (He.ba (He.ba T.ex).2).2).1 H
theorem Txt.never (T : Txt w K mg) (H : Hp) : SqT K H (He.ga K "NEVER") [.non, .int 0, .non, .ref (He.ga K "NOWHERE")] := tupAt_ok (He.ba (He.ba (He.ba (He.ba T.ex).2).2).2).1 H
theorem Txt.rest0 (T : Txt w K mg) (H : Hp) : SqT K H (restA K) [] := tupAt_ok (He.ba (He.ba (He.ba (He.ba (He.ba T.ex).2).2).2).2).1 H
theorem Txt.ds (T : Txt w K mg) : He.ga K "done_states" = He.ga K "done" := of_decide_eq_true (He.ba (He.ba (He.ba (He.ba (He.ba (He.ba T.ex).2).2).2).2).2).1
theorem Txt.form (T : Txt w K mg) {x f : Str} (h : (x, He.Dv.glo f) ∈ formVals) : PySem.W.nsIn K (He.ga K "FORMS") x = some (some (.ref (He.ga K f))) := by
  obtain ⟨u, h1, h2⟩ := He.valsB_ok (He.ba (He.ba (He.ba (He.ba (He.ba (He.ba T.ex).2).2).2).2).2).2 h
  rw [h1]
  have e : u = .ref (He.ga K f) := h2
  rw [e]
theorem Txt.forms (T : Txt w K mg) : ∃ es n, KDict K w (He.ga K "FORMS") es n := T.t.tab 0 rfl
theorem Txt.fact (T : Txt w K mg) (i : Nat) {f : He.Fa} (h : fa[i]? = some f) : f.ok K = true := T.d.fact i h
theorem Txt.def_ (T : Txt w K mg) (i : Nat) {d : He.DefD} (h : fn[i]? = some d) : ∃ fd, FunD K d.name d.qual d.params d.body d.scope (d.dvs K) (d.kws K) (He.fAd K d.at_) fd := T.d.def_ i h
theorem Txt.glo (T : Txt w K mg) (i : Nat) {x : Str} (h : fa[i]? = some (.glo x)) : mg x = some (.ref (He.ga K x)) := by
  obtain ⟨hp, X, G⟩ := T.g
  exact He.glo_ok X G (T.fact i h)
theorem Txt.free (T : Txt w K mg) (i : Nat) {x : Str} (h : fa[i]? = some (.free x)) : mg x = none := by
  obtain ⟨hp, X, G⟩ := T.g
  exact He.free_ok X G (T.fact i h)
theorem Txt.int (T : Txt w K mg) (i : Nat) {x : Str} {n : Int} (h : fa[i]? = some (.int x n)) : ∃ t, mg x = some (.int n t) := by
  obtain ⟨hp, X, G⟩ := T.g
  exact He.int_ok X G (T.fact i h)
theorem Txt.str (T : Txt w K mg) (i : Nat) {x z : Str} (h : fa[i]? = some (.str x z)) : ∃ t, mg x = some (.str z t) := by
  obtain ⟨hp, X, G⟩ := T.g
  exact He.str_ok X G (T.fact i h)
theorem Txt.g_is_whole (T : Txt w K mg) : mg "is_whole" = some (.ref (He.ga K "is_whole")) := T.glo 0 rfl
theorem Txt.g_is_word (T : Txt w K mg) : mg "is_word" = some (.ref (He.ga K "is_word")) := T.glo 1 rfl
theorem Txt.g_is_place (T : Txt w K mg) : mg "is_place" = some (.ref (He.ga K "is_place")) := T.glo 2 rfl
theorem Txt.g_is_plain (T : Txt w K mg) : mg "is_plain" = some (.ref (He.ga K "is_plain")) := T.glo 3 rfl
theorem Txt.g_first_nodes (T : Txt w K mg) : mg "first_nodes" = some (.ref (He.ga K "first_nodes")) := T.glo 4 rfl
theorem Txt.g_is_deed (T : Txt w K mg) : mg "is_deed" = some (.ref (He.ga K "is_deed")) := T.glo 5 rfl
theorem Txt.g_is_entry (T : Txt w K mg) : mg "is_entry" = some (.ref (He.ga K "is_entry")) := T.glo 6 rfl
theorem Txt.g_first_state (T : Txt w K mg) : mg "first_state" = some (.ref (He.ga K "first_state")) := T.glo 7 rfl
theorem Txt.g_done_deed (T : Txt w K mg) : mg "done_deed" = some (.ref (He.ga K "done_deed")) := T.glo 8 rfl
theorem Txt.g_ended (T : Txt w K mg) : mg "ended" = some (.ref (He.ga K "ended")) := T.glo 9 rfl
theorem Txt.g_done (T : Txt w K mg) : mg "done" = some (.ref (He.ga K "done")) := T.glo 10 rfl
theorem Txt.g_are_things (T : Txt w K mg) : mg "are_things" = some (.ref (He.ga K "are_things")) := T.glo 11 rfl
theorem Txt.g_is_seek (T : Txt w K mg) : mg "is_seek" = some (.ref (He.ga K "is_seek")) := T.glo 12 rfl
theorem Txt.g_is_one_place (T : Txt w K mg) : mg "is_one_place" = some (.ref (He.ga K "is_one_place")) := T.glo 13 rfl
theorem Txt.g_is_nothing (T : Txt w K mg) : mg "is_nothing" = some (.ref (He.ga K "is_nothing")) := T.glo 14 rfl
theorem Txt.g_is_sync (T : Txt w K mg) : mg "is_sync" = some (.ref (He.ga K "is_sync")) := T.glo 15 rfl
theorem Txt.g_is_propose (T : Txt w K mg) : mg "is_propose" = some (.ref (He.ga K "is_propose")) := T.glo 16 rfl
theorem Txt.g_is_letter (T : Txt w K mg) : mg "is_letter" = some (.ref (He.ga K "is_letter")) := T.glo 17 rfl
theorem Txt.g_is_beginning (T : Txt w K mg) : mg "is_beginning" = some (.ref (He.ga K "is_beginning")) := T.glo 18 rfl
theorem Txt.g_up_to (T : Txt w K mg) : mg "up_to" = some (.ref (He.ga K "up_to")) := T.glo 19 rfl
theorem Txt.g_behind (T : Txt w K mg) : mg "behind" = some (.ref (He.ga K "behind")) := T.glo 20 rfl
theorem Txt.g_last_place (T : Txt w K mg) : mg "last_place" = some (.ref (He.ga K "last_place")) := T.glo 21 rfl
theorem Txt.g_look_at_members (T : Txt w K mg) : mg "look_at_members" = some (.ref (He.ga K "look_at_members")) := T.glo 22 rfl
theorem Txt.g_most_of (T : Txt w K mg) : mg "most_of" = some (.ref (He.ga K "most_of")) := T.glo 23 rfl
theorem Txt.g_may_promise (T : Txt w K mg) : mg "may_promise" = some (.ref (He.ga K "may_promise")) := T.glo 24 rfl
theorem Txt.g_law_pool (T : Txt w K mg) : mg "_law_pool" = some (.ref (He.ga K "_law_pool")) := T.glo 25 rfl
theorem Txt.g_law_take (T : Txt w K mg) : mg "_law_take" = some (.ref (He.ga K "_law_take")) := T.glo 26 rfl
theorem Txt.g_law_round (T : Txt w K mg) : mg "_law_round" = some (.ref (He.ga K "_law_round")) := T.glo 27 rfl
theorem Txt.g_law_calmed (T : Txt w K mg) : mg "_law_calmed" = some (.ref (He.ga K "_law_calmed")) := T.glo 28 rfl
theorem Txt.g_law_place (T : Txt w K mg) : mg "_law_place" = some (.ref (He.ga K "_law_place")) := T.glo 29 rfl
theorem Txt.g_law_started (T : Txt w K mg) : mg "_law_started" = some (.ref (He.ga K "_law_started")) := T.glo 30 rfl
theorem Txt.g_law_late (T : Txt w K mg) : mg "_law_late" = some (.ref (He.ga K "_law_late")) := T.glo 31 rfl
theorem Txt.g_law_lates (T : Txt w K mg) : mg "_law_lates" = some (.ref (He.ga K "_law_lates")) := T.glo 32 rfl
theorem Txt.g_law_right (T : Txt w K mg) : mg "_law_right" = some (.ref (He.ga K "_law_right")) := T.glo 33 rfl
theorem Txt.g_law (T : Txt w K mg) : mg "law" = some (.ref (He.ga K "law")) := T.glo 34 rfl
theorem Txt.g_is_forward (T : Txt w K mg) : mg "is_forward" = some (.ref (He.ga K "is_forward")) := T.glo 35 rfl
theorem Txt.g_is_touch (T : Txt w K mg) : mg "is_touch" = some (.ref (He.ga K "is_touch")) := T.glo 36 rfl
theorem Txt.g_is_ask (T : Txt w K mg) : mg "is_ask" = some (.ref (He.ga K "is_ask")) := T.glo 37 rfl
theorem Txt.g_state_of (T : Txt w K mg) : mg "state_of" = some (.ref (He.ga K "state_of")) := T.glo 38 rfl
theorem Txt.g_House (T : Txt w K mg) : mg "House" = some (.ref (He.ga K "House")) := T.glo 39 rfl
theorem Txt.g_NOWHERE (T : Txt w K mg) : mg "NOWHERE" = some (.ref (He.ga K "NOWHERE")) := T.glo 40 rfl
theorem Txt.g_FORMS (T : Txt w K mg) : mg "FORMS" = some (.ref (He.ga K "FORMS")) := T.glo 41 rfl
theorem Txt.g_WAYS (T : Txt w K mg) : mg "WAYS" = some (.ref (He.ga K "WAYS")) := T.glo 42 rfl
theorem Txt.g_LOOKS (T : Txt w K mg) : mg "LOOKS" = some (.ref (He.ga K "LOOKS")) := T.glo 43 rfl
theorem Txt.g_NEVER (T : Txt w K mg) : mg "NEVER" = some (.ref (He.ga K "NEVER")) := T.glo 44 rfl
theorem Txt.g_done_states (T : Txt w K mg) : mg "done_states" = some (.ref (He.ga K "done_states")) := T.glo 45 rfl
theorem Txt.b_isinstance (T : Txt w K mg) : mg "isinstance" = none := T.free 46 rfl
theorem Txt.b_int (T : Txt w K mg) : mg "int" = none := T.free 47 rfl
theorem Txt.b_bool (T : Txt w K mg) : mg "bool" = none := T.free 48 rfl
theorem Txt.b_str (T : Txt w K mg) : mg "str" = none := T.free 49 rfl
theorem Txt.b_tuple (T : Txt w K mg) : mg "tuple" = none := T.free 50 rfl
theorem Txt.b_len (T : Txt w K mg) : mg "len" = none := T.free 51 rfl
theorem Txt.b_all (T : Txt w K mg) : mg "all" = none := T.free 52 rfl
theorem Txt.b_set (T : Txt w K mg) : mg "set" = none := T.free 53 rfl
theorem Txt.b_sorted (T : Txt w K mg) : mg "sorted" = none := T.free 54 rfl
theorem Txt.b_max (T : Txt w K mg) : mg "max" = none := T.free 55 rfl
theorem Txt.b_min (T : Txt w K mg) : mg "min" = none := T.free 56 rfl
theorem Txt.b_list (T : Txt w K mg) : mg "list" = none := T.free 57 rfl
theorem Txt.b_range (T : Txt w K mg) : mg "range" = none := T.free 58 rfl
theorem Txt.b_dict (T : Txt w K mg) : mg "dict" = none := T.free 59 rfl
theorem Txt.b_zip (T : Txt w K mg) : mg "zip" = none := T.free 60 rfl
theorem Txt.i_LONGEST (T : Txt w K mg) : ∃ t, mg "LONGEST" = some (.int 8 t) := T.int 61 rfl
theorem Txt.i_MOST_MEMBERS (T : Txt w K mg) : ∃ t, mg "MOST_MEMBERS" = some (.int 7 t) := T.int 62 rfl
theorem Txt.s_LETTERS (T : Txt w K mg) : ∃ t, mg "LETTERS" = some (.str "abcdefghijklmnopqrstuvwxyz" t) := T.str 63 rfl
theorem Txt.s_ROOT (T : Txt w K mg) : ∃ t, mg "ROOT" = some (.str "/" t) := T.str 64 rfl
theorem Txt.cl (T : Txt w K mg) : Cls K (hC K) := He.cls_ok (T.fact 65 rfl)
theorem Txt.n_own_name (T : Txt w K mg) : NoAttr K (hC K) "own_name" := He.noat_ok (T.fact 66 rfl)
theorem Txt.n_own_members (T : Txt w K mg) : NoAttr K (hC K) "own_members" := He.noat_ok (T.fact 67 rfl)
theorem Txt.n_own_looks (T : Txt w K mg) : NoAttr K (hC K) "own_looks" := He.noat_ok (T.fact 68 rfl)
theorem Txt.n_own_promised (T : Txt w K mg) : NoAttr K (hC K) "own_promised" := He.noat_ok (T.fact 69 rfl)
theorem Txt.n_own_epoch (T : Txt w K mg) : NoAttr K (hC K) "own_epoch" := He.noat_ok (T.fact 70 rfl)
theorem Txt.n_own_row (T : Txt w K mg) : NoAttr K (hC K) "own_row" := He.noat_ok (T.fact 71 rfl)
theorem Txt.n_own_done (T : Txt w K mg) : NoAttr K (hC K) "own_done" := He.noat_ok (T.fact 72 rfl)
theorem Txt.n_own_state (T : Txt w K mg) : NoAttr K (hC K) "own_state" := He.noat_ok (T.fact 73 rfl)
theorem Txt.n_fresh (T : Txt w K mg) : NoAttr K (hC K) "fresh" := He.noat_ok (T.fact 74 rfl)
theorem Txt.n_own_role (T : Txt w K mg) : NoAttr K (hC K) "own_role" := He.noat_ok (T.fact 75 rfl)
theorem Txt.n_own_head (T : Txt w K mg) : NoAttr K (hC K) "own_head" := He.noat_ok (T.fact 76 rfl)
theorem Txt.n_sought (T : Txt w K mg) : NoAttr K (hC K) "sought" := He.noat_ok (T.fact 77 rfl)
theorem Txt.n_promises (T : Txt w K mg) : NoAttr K (hC K) "promises" := He.noat_ok (T.fact 78 rfl)
theorem Txt.n_taken (T : Txt w K mg) : NoAttr K (hC K) "taken" := He.noat_ok (T.fact 79 rfl)
theorem Txt.n_own_clock (T : Txt w K mg) : NoAttr K (hC K) "own_clock" := He.noat_ok (T.fact 80 rfl)
theorem Txt.n_heard_at (T : Txt w K mg) : NoAttr K (hC K) "heard_at" := He.noat_ok (T.fact 81 rfl)
theorem Txt.me_begin_anew (T : Txt w K mg) : Meth K (hC K) "begin_anew" (hM K "begin_anew") := He.meth_ok (T.fact 82 rfl)
theorem Txt.me_stand_down (T : Txt w K mg) : Meth K (hC K) "stand_down" (hM K "stand_down") := He.meth_ok (T.fact 83 rfl)
theorem Txt.me_others (T : Txt w K mg) : Meth K (hC K) "others" (hM K "others") := He.meth_ok (T.fact 84 rfl)
theorem Txt.me_last (T : Txt w K mg) : Meth K (hC K) "last" (hM K "last") := He.meth_ok (T.fact 85 rfl)
theorem Txt.me_has (T : Txt w K mg) : Meth K (hC K) "has" (hM K "has") := He.meth_ok (T.fact 86 rfl)
theorem Txt.me_say (T : Txt w K mg) : Meth K (hC K) "say" (hM K "say") := He.meth_ok (T.fact 87 rfl)
theorem Txt.me_go_on_to (T : Txt w K mg) : Meth K (hC K) "go_on_to" (hM K "go_on_to") := He.meth_ok (T.fact 88 rfl)
theorem Txt.me_seek (T : Txt w K mg) : Meth K (hC K) "seek" (hM K "seek") := He.meth_ok (T.fact 89 rfl)
theorem Txt.me_lead (T : Txt w K mg) : Meth K (hC K) "lead" (hM K "lead") := He.meth_ok (T.fact 90 rfl)
theorem Txt.me_leads (T : Txt w K mg) : Meth K (hC K) "leads" (hM K "leads") := He.meth_ok (T.fact 91 rfl)
theorem Txt.me_stands_by (T : Txt w K mg) : Meth K (hC K) "stands_by" (hM K "stands_by") := He.meth_ok (T.fact 92 rfl)
theorem Txt.me_is_settled (T : Txt w K mg) : Meth K (hC K) "is_settled" (hM K "is_settled") := He.meth_ok (T.fact 93 rfl)
theorem Txt.me_follow (T : Txt w K mg) : Meth K (hC K) "follow" (hM K "follow") := He.meth_ok (T.fact 94 rfl)
theorem Txt.me_sync_by (T : Txt w K mg) : Meth K (hC K) "sync_by" (hM K "sync_by") := He.meth_ok (T.fact 95 rfl)
theorem Txt.me_sync_for (T : Txt w K mg) : Meth K (hC K) "sync_for" (hM K "sync_for") := He.meth_ok (T.fact 96 rfl)
theorem Txt.me_look_done (T : Txt w K mg) : Meth K (hC K) "look_done" (hM K "look_done") := He.meth_ok (T.fact 97 rfl)
theorem Txt.me_put (T : Txt w K mg) : Meth K (hC K) "put" (hM K "put") := He.meth_ok (T.fact 98 rfl)
theorem Txt.me_beat (T : Txt w K mg) : Meth K (hC K) "beat" (hM K "beat") := He.meth_ok (T.fact 99 rfl)
theorem Txt.me_beat_for (T : Txt w K mg) : Meth K (hC K) "beat_for" (hM K "beat_for") := He.meth_ok (T.fact 100 rfl)
theorem Txt.me_ends (T : Txt w K mg) : Meth K (hC K) "ends" (hM K "ends") := He.meth_ok (T.fact 101 rfl)
theorem Txt.me_take (T : Txt w K mg) : Meth K (hC K) "take" (hM K "take") := He.meth_ok (T.fact 102 rfl)
theorem Txt.me_on_told (T : Txt w K mg) : Meth K (hC K) "on_told" (hM K "on_told") := He.meth_ok (T.fact 103 rfl)
theorem Txt.me_on_seek (T : Txt w K mg) : Meth K (hC K) "on_seek" (hM K "on_seek") := He.meth_ok (T.fact 104 rfl)
theorem Txt.me_on_promise (T : Txt w K mg) : Meth K (hC K) "on_promise" (hM K "on_promise") := He.meth_ok (T.fact 105 rfl)
theorem Txt.me_on_lead (T : Txt w K mg) : Meth K (hC K) "on_lead" (hM K "on_lead") := He.meth_ok (T.fact 106 rfl)
theorem Txt.me_on_sync (T : Txt w K mg) : Meth K (hC K) "on_sync" (hM K "on_sync") := He.meth_ok (T.fact 107 rfl)
theorem Txt.me_on_propose (T : Txt w K mg) : Meth K (hC K) "on_propose" (hM K "on_propose") := He.meth_ok (T.fact 108 rfl)
theorem Txt.me_on_done (T : Txt w K mg) : Meth K (hC K) "on_done" (hM K "on_done") := He.meth_ok (T.fact 109 rfl)
theorem Txt.me_head (T : Txt w K mg) : Meth K (hC K) "head" (hM K "head") := He.meth_ok (T.fact 110 rfl)
theorem Txt.me_epoch (T : Txt w K mg) : Meth K (hC K) "epoch" (hM K "epoch") := He.meth_ok (T.fact 111 rfl)
theorem Txt.me_row (T : Txt w K mg) : Meth K (hC K) "row" (hM K "row") := He.meth_ok (T.fact 112 rfl)
theorem Txt.me_done_row (T : Txt w K mg) : Meth K (hC K) "done_row" (hM K "done_row") := He.meth_ok (T.fact 113 rfl)
theorem Txt.mkr (T : Txt w K mg) : Mk K (hC K) (hM K "__init__") := He.mkr_ok (T.fact 114 rfl)
theorem Txt.f_is_whole (T : Txt w K mg) : ∃ fd, FunD K "is_whole" "is_whole" (defArgs s_is_whole) (defBody s_is_whole) (defScope s_is_whole) [] [] (He.ga K "is_whole") fd := T.def_ 0 rfl
theorem Txt.f_is_word (T : Txt w K mg) : ∃ fd, FunD K "is_word" "is_word" (defArgs s_is_word) (defBody s_is_word) (defScope s_is_word) [] [] (He.ga K "is_word") fd := T.def_ 1 rfl
theorem Txt.f_is_place (T : Txt w K mg) : ∃ fd, FunD K "is_place" "is_place" (defArgs s_is_place) (defBody s_is_place) (defScope s_is_place) [] [] (He.ga K "is_place") fd := T.def_ 2 rfl
theorem Txt.f_is_plain (T : Txt w K mg) : ∃ fd, FunD K "is_plain" "is_plain" (defArgs s_is_plain) (defBody s_is_plain) (defScope s_is_plain) [] [] (He.ga K "is_plain") fd := T.def_ 3 rfl
theorem Txt.f_first_nodes (T : Txt w K mg) : ∃ fd, FunD K "first_nodes" "first_nodes" (defArgs s_first_nodes) (defBody s_first_nodes) (defScope s_first_nodes) [] [] (He.ga K "first_nodes") fd := T.def_ 4 rfl
theorem Txt.f_is_deed (T : Txt w K mg) : ∃ fd, FunD K "is_deed" "is_deed" (defArgs s_is_deed) (defBody s_is_deed) (defScope s_is_deed) [] [] (He.ga K "is_deed") fd := T.def_ 5 rfl
theorem Txt.f_is_entry (T : Txt w K mg) : ∃ fd, FunD K "is_entry" "is_entry" (defArgs s_is_entry) (defBody s_is_entry) (defScope s_is_entry) [] [] (He.ga K "is_entry") fd := T.def_ 6 rfl
theorem Txt.f_first_state (T : Txt w K mg) : ∃ fd, FunD K "first_state" "first_state" (defArgs s_first_state) (defBody s_first_state) (defScope s_first_state) [] [] (He.ga K "first_state") fd := T.def_ 7 rfl
theorem Txt.f_done_deed (T : Txt w K mg) : ∃ fd, FunD K "done_deed" "done_deed" (defArgs s_done_deed) (defBody s_done_deed) (defScope s_done_deed) [] [] (He.ga K "done_deed") fd := T.def_ 8 rfl
theorem Txt.f_ended (T : Txt w K mg) : ∃ fd, FunD K "ended" "ended" (defArgs s_ended) (defBody s_ended) (defScope s_ended) [] [] (He.ga K "ended") fd := T.def_ 9 rfl
theorem Txt.f_done (T : Txt w K mg) : ∃ fd, FunD K "done" "done" (defArgs s_done) (defBody s_done) (defScope s_done) [] [] (He.ga K "done") fd := T.def_ 10 rfl
theorem Txt.f_are_things (T : Txt w K mg) : ∃ fd, FunD K "are_things" "are_things" (defArgs s_are_things) (defBody s_are_things) (defScope s_are_things) [] [] (He.ga K "are_things") fd := T.def_ 11 rfl
theorem Txt.f_is_seek (T : Txt w K mg) : ∃ fd, FunD K "is_seek" "is_seek" (defArgs s_is_seek) (defBody s_is_seek) (defScope s_is_seek) [] [] (He.ga K "is_seek") fd := T.def_ 12 rfl
theorem Txt.f_is_one_place (T : Txt w K mg) : ∃ fd, FunD K "is_one_place" "is_one_place" (defArgs s_is_one_place) (defBody s_is_one_place) (defScope s_is_one_place) [] [] (He.ga K "is_one_place") fd := T.def_ 13 rfl
theorem Txt.f_is_nothing (T : Txt w K mg) : ∃ fd, FunD K "is_nothing" "is_nothing" (defArgs s_is_nothing) (defBody s_is_nothing) (defScope s_is_nothing) [] [] (He.ga K "is_nothing") fd := T.def_ 14 rfl
theorem Txt.f_is_sync (T : Txt w K mg) : ∃ fd, FunD K "is_sync" "is_sync" (defArgs s_is_sync) (defBody s_is_sync) (defScope s_is_sync) [] [] (He.ga K "is_sync") fd := T.def_ 15 rfl
theorem Txt.f_is_propose (T : Txt w K mg) : ∃ fd, FunD K "is_propose" "is_propose" (defArgs s_is_propose) (defBody s_is_propose) (defScope s_is_propose) [] [] (He.ga K "is_propose") fd := T.def_ 16 rfl
theorem Txt.f_is_letter (T : Txt w K mg) : ∃ fd, FunD K "is_letter" "is_letter" (defArgs s_is_letter) (defBody s_is_letter) (defScope s_is_letter) [] [] (He.ga K "is_letter") fd := T.def_ 17 rfl
theorem Txt.f_is_beginning (T : Txt w K mg) : ∃ fd, FunD K "is_beginning" "is_beginning" (defArgs s_is_beginning) (defBody s_is_beginning) (defScope s_is_beginning) [] [] (He.ga K "is_beginning") fd := T.def_ 18 rfl
theorem Txt.f_up_to (T : Txt w K mg) : ∃ fd, FunD K "up_to" "up_to" (defArgs s_up_to) (defBody s_up_to) (defScope s_up_to) [] [] (He.ga K "up_to") fd := T.def_ 19 rfl
theorem Txt.f_behind (T : Txt w K mg) : ∃ fd, FunD K "behind" "behind" (defArgs s_behind) (defBody s_behind) (defScope s_behind) [] [] (He.ga K "behind") fd := T.def_ 20 rfl
theorem Txt.f_last_place (T : Txt w K mg) : ∃ fd, FunD K "last_place" "last_place" (defArgs s_last_place) (defBody s_last_place) (defScope s_last_place) [] [] (He.ga K "last_place") fd := T.def_ 21 rfl
theorem Txt.f_look_at_members (T : Txt w K mg) : ∃ fd, FunD K "look_at_members" "look_at_members" (defArgs s_look_at_members) (defBody s_look_at_members) (defScope s_look_at_members) [] [] (He.ga K "look_at_members") fd := T.def_ 22 rfl
theorem Txt.f_most_of (T : Txt w K mg) : ∃ fd, FunD K "most_of" "most_of" (defArgs s_most_of) (defBody s_most_of) (defScope s_most_of) [] [] (He.ga K "most_of") fd := T.def_ 23 rfl
theorem Txt.f_may_promise (T : Txt w K mg) : ∃ fd, FunD K "may_promise" "may_promise" (defArgs s_may_promise) (defBody s_may_promise) (defScope s_may_promise) [] [] (He.ga K "may_promise") fd := T.def_ 24 rfl
theorem Txt.f_m_init (T : Txt w K mg) : ∃ fd, FunD K "__init__" "House.__init__" (defArgs s_m_init) (defBody s_m_init) (defScope s_m_init) [] [("looks", .str "all")] (hM K "__init__") fd := T.def_ 25 rfl
theorem Txt.f_m_begin_anew (T : Txt w K mg) : ∃ fd, FunD K "begin_anew" "House.begin_anew" (defArgs s_m_begin_anew) (defBody s_m_begin_anew) (defScope s_m_begin_anew) [] [] (hM K "begin_anew") fd := T.def_ 26 rfl
theorem Txt.f_m_stand_down (T : Txt w K mg) : ∃ fd, FunD K "stand_down" "House.stand_down" (defArgs s_m_stand_down) (defBody s_m_stand_down) (defScope s_m_stand_down) [] [] (hM K "stand_down") fd := T.def_ 27 rfl
theorem Txt.f_m_others (T : Txt w K mg) : ∃ fd, FunD K "others" "House.others" (defArgs s_m_others) (defBody s_m_others) (defScope s_m_others) [] [] (hM K "others") fd := T.def_ 28 rfl
theorem Txt.f_m_last (T : Txt w K mg) : ∃ fd, FunD K "last" "House.last" (defArgs s_m_last) (defBody s_m_last) (defScope s_m_last) [] [] (hM K "last") fd := T.def_ 29 rfl
theorem Txt.f_m_has (T : Txt w K mg) : ∃ fd, FunD K "has" "House.has" (defArgs s_m_has) (defBody s_m_has) (defScope s_m_has) [] [] (hM K "has") fd := T.def_ 30 rfl
theorem Txt.f_m_say (T : Txt w K mg) : ∃ fd, FunD K "say" "House.say" (defArgs s_m_say) (defBody s_m_say) (defScope s_m_say) [.ref (He.dflAt ("House", some "say") 0 K)] [] (hM K "say") fd := T.def_ 31 rfl
theorem Txt.f_m_go_on_to (T : Txt w K mg) : ∃ fd, FunD K "go_on_to" "House.go_on_to" (defArgs s_m_go_on_to) (defBody s_m_go_on_to) (defScope s_m_go_on_to) [] [] (hM K "go_on_to") fd := T.def_ 32 rfl
theorem Txt.f_m_seek (T : Txt w K mg) : ∃ fd, FunD K "seek" "House.seek" (defArgs s_m_seek) (defBody s_m_seek) (defScope s_m_seek) [] [] (hM K "seek") fd := T.def_ 33 rfl
theorem Txt.f_m_lead (T : Txt w K mg) : ∃ fd, FunD K "lead" "House.lead" (defArgs s_m_lead) (defBody s_m_lead) (defScope s_m_lead) [] [] (hM K "lead") fd := T.def_ 34 rfl
theorem Txt.f_m_leads (T : Txt w K mg) : ∃ fd, FunD K "leads" "House.leads" (defArgs s_m_leads) (defBody s_m_leads) (defScope s_m_leads) [] [] (hM K "leads") fd := T.def_ 35 rfl
theorem Txt.f_m_stands_by (T : Txt w K mg) : ∃ fd, FunD K "stands_by" "House.stands_by" (defArgs s_m_stands_by) (defBody s_m_stands_by) (defScope s_m_stands_by) [] [] (hM K "stands_by") fd := T.def_ 36 rfl
theorem Txt.f_m_is_settled (T : Txt w K mg) : ∃ fd, FunD K "is_settled" "House.is_settled" (defArgs s_m_is_settled) (defBody s_m_is_settled) (defScope s_m_is_settled) [] [] (hM K "is_settled") fd := T.def_ 37 rfl
theorem Txt.f_m_follow (T : Txt w K mg) : ∃ fd, FunD K "follow" "House.follow" (defArgs s_m_follow) (defBody s_m_follow) (defScope s_m_follow) [] [] (hM K "follow") fd := T.def_ 38 rfl
theorem Txt.f_m_sync_by (T : Txt w K mg) : ∃ fd, FunD K "sync_by" "House.sync_by" (defArgs s_m_sync_by) (defBody s_m_sync_by) (defScope s_m_sync_by) [] [] (hM K "sync_by") fd := T.def_ 39 rfl
theorem Txt.f_m_sync_for (T : Txt w K mg) : ∃ fd, FunD K "sync_for" "House.sync_for" (defArgs s_m_sync_for) (defBody s_m_sync_for) (defScope s_m_sync_for) [] [] (hM K "sync_for") fd := T.def_ 40 rfl
theorem Txt.f_m_look_done (T : Txt w K mg) : ∃ fd, FunD K "look_done" "House.look_done" (defArgs s_m_look_done) (defBody s_m_look_done) (defScope s_m_look_done) [] [] (hM K "look_done") fd := T.def_ 41 rfl
theorem Txt.f_m_put (T : Txt w K mg) : ∃ fd, FunD K "put" "House.put" (defArgs s_m_put) (defBody s_m_put) (defScope s_m_put) [] [] (hM K "put") fd := T.def_ 42 rfl
theorem Txt.f_m_beat (T : Txt w K mg) : ∃ fd, FunD K "beat" "House.beat" (defArgs s_m_beat) (defBody s_m_beat) (defScope s_m_beat) [] [] (hM K "beat") fd := T.def_ 43 rfl
theorem Txt.f_m_beat_for (T : Txt w K mg) : ∃ fd, FunD K "beat_for" "House.beat_for" (defArgs s_m_beat_for) (defBody s_m_beat_for) (defScope s_m_beat_for) [] [] (hM K "beat_for") fd := T.def_ 44 rfl
theorem Txt.f_m_ends (T : Txt w K mg) : ∃ fd, FunD K "ends" "House.ends" (defArgs s_m_ends) (defBody s_m_ends) (defScope s_m_ends) [] [] (hM K "ends") fd := T.def_ 45 rfl
theorem Txt.f_m_take (T : Txt w K mg) : ∃ fd, FunD K "take" "House.take" (defArgs s_m_take) (defBody s_m_take) (defScope s_m_take) [] [] (hM K "take") fd := T.def_ 46 rfl
theorem Txt.f_m_on_told (T : Txt w K mg) : ∃ fd, FunD K "on_told" "House.on_told" (defArgs s_m_on_told) (defBody s_m_on_told) (defScope s_m_on_told) [] [] (hM K "on_told") fd := T.def_ 47 rfl
theorem Txt.f_m_on_seek (T : Txt w K mg) : ∃ fd, FunD K "on_seek" "House.on_seek" (defArgs s_m_on_seek) (defBody s_m_on_seek) (defScope s_m_on_seek) [] [] (hM K "on_seek") fd := T.def_ 48 rfl
theorem Txt.f_m_on_promise (T : Txt w K mg) : ∃ fd, FunD K "on_promise" "House.on_promise" (defArgs s_m_on_promise) (defBody s_m_on_promise) (defScope s_m_on_promise) [] [] (hM K "on_promise") fd := T.def_ 49 rfl
theorem Txt.f_m_on_lead (T : Txt w K mg) : ∃ fd, FunD K "on_lead" "House.on_lead" (defArgs s_m_on_lead) (defBody s_m_on_lead) (defScope s_m_on_lead) [] [] (hM K "on_lead") fd := T.def_ 50 rfl
theorem Txt.f_m_on_sync (T : Txt w K mg) : ∃ fd, FunD K "on_sync" "House.on_sync" (defArgs s_m_on_sync) (defBody s_m_on_sync) (defScope s_m_on_sync) [] [] (hM K "on_sync") fd := T.def_ 51 rfl
theorem Txt.f_m_on_propose (T : Txt w K mg) : ∃ fd, FunD K "on_propose" "House.on_propose" (defArgs s_m_on_propose) (defBody s_m_on_propose) (defScope s_m_on_propose) [] [] (hM K "on_propose") fd := T.def_ 52 rfl
theorem Txt.f_m_on_done (T : Txt w K mg) : ∃ fd, FunD K "on_done" "House.on_done" (defArgs s_m_on_done) (defBody s_m_on_done) (defScope s_m_on_done) [] [] (hM K "on_done") fd := T.def_ 53 rfl
theorem Txt.f_m_head (T : Txt w K mg) : ∃ fd, FunD K "head" "House.head" (defArgs s_m_head) (defBody s_m_head) (defScope s_m_head) [] [] (hM K "head") fd := T.def_ 54 rfl
theorem Txt.f_m_epoch (T : Txt w K mg) : ∃ fd, FunD K "epoch" "House.epoch" (defArgs s_m_epoch) (defBody s_m_epoch) (defScope s_m_epoch) [] [] (hM K "epoch") fd := T.def_ 55 rfl
theorem Txt.f_m_row (T : Txt w K mg) : ∃ fd, FunD K "row" "House.row" (defArgs s_m_row) (defBody s_m_row) (defScope s_m_row) [] [] (hM K "row") fd := T.def_ 56 rfl
theorem Txt.f_m_done_row (T : Txt w K mg) : ∃ fd, FunD K "done_row" "House.done_row" (defArgs s_m_done_row) (defBody s_m_done_row) (defScope s_m_done_row) [] [] (hM K "done_row") fd := T.def_ 57 rfl
theorem Txt.f_law_pool (T : Txt w K mg) : ∃ fd, FunD K "_law_pool" "_law_pool" (defArgs s_law_pool) (defBody s_law_pool) (defScope s_law_pool) [] [] (He.ga K "_law_pool") fd := T.def_ 58 rfl
theorem Txt.f_law_take (T : Txt w K mg) : ∃ fd, FunD K "_law_take" "_law_take" (defArgs s_law_take) (defBody s_law_take) (defScope s_law_take) [] [] (He.ga K "_law_take") fd := T.def_ 59 rfl
theorem Txt.f_law_round (T : Txt w K mg) : ∃ fd, FunD K "_law_round" "_law_round" (defArgs s_law_round) (defBody s_law_round) (defScope s_law_round) [] [] (He.ga K "_law_round") fd := T.def_ 60 rfl
theorem Txt.f_law_calmed (T : Txt w K mg) : ∃ fd, FunD K "_law_calmed" "_law_calmed" (defArgs s_law_calmed) (defBody s_law_calmed) (defScope s_law_calmed) [] [] (He.ga K "_law_calmed") fd := T.def_ 61 rfl
theorem Txt.f_law_place (T : Txt w K mg) : ∃ fd, FunD K "_law_place" "_law_place" (defArgs s_law_place) (defBody s_law_place) (defScope s_law_place) [] [] (He.ga K "_law_place") fd := T.def_ 62 rfl
theorem Txt.f_law_started (T : Txt w K mg) : ∃ fd, FunD K "_law_started" "_law_started" (defArgs s_law_started) (defBody s_law_started) (defScope s_law_started) [] [] (He.ga K "_law_started") fd := T.def_ 63 rfl
theorem Txt.f_law_late (T : Txt w K mg) : ∃ fd, FunD K "_law_late" "_law_late" (defArgs s_law_late) (defBody s_law_late) (defScope s_law_late) [] [] (He.ga K "_law_late") fd := T.def_ 64 rfl
theorem Txt.f_law_lates (T : Txt w K mg) : ∃ fd, FunD K "_law_lates" "_law_lates" (defArgs s_law_lates) (defBody s_law_lates) (defScope s_law_lates) [] [] (He.ga K "_law_lates") fd := T.def_ 65 rfl
theorem Txt.f_law_right (T : Txt w K mg) : ∃ fd, FunD K "_law_right" "_law_right" (defArgs s_law_right) (defBody s_law_right) (defScope s_law_right) [] [] (He.ga K "_law_right") fd := T.def_ 66 rfl
theorem Txt.f_law (T : Txt w K mg) : ∃ fd, FunD K "law" "law" (defArgs s_law) (defBody s_law) (defScope s_law) [] [] (He.ga K "law") fd := T.def_ 67 rfl
end
theorem sc_is_whole : FnScope ["thing"] ["thing"] (defScope s_is_whole) := ⟨rfl, rfl, rfl, by decide +kernel, rfl, by decide +kernel, by decide +kernel⟩
theorem st_is_whole (v0 : V) : L2.start ["thing"] [v0] = [some v0] := rfl
theorem sc_is_word : FnScope ["thing", "sign"] ["thing"] (defScope s_is_word) := ⟨rfl, rfl, rfl, by decide +kernel, rfl, by decide +kernel, by decide +kernel⟩
theorem st_is_word (v0 : V) : L2.start ["thing", "sign"] [v0] = [some v0, none] := rfl
theorem sc_is_place : FnScope ["thing", "one"] ["thing"] (defScope s_is_place) := ⟨rfl, rfl, rfl, by decide +kernel, rfl, by decide +kernel, by decide +kernel⟩
theorem st_is_place (v0 : V) : L2.start ["thing", "one"] [v0] = [some v0, none] := rfl
theorem sc_is_plain : FnScope ["thing", "word", "path", "rest"] ["thing"] (defScope s_is_plain) := ⟨rfl, rfl, rfl, by decide +kernel, rfl, by decide +kernel, by decide +kernel⟩
theorem st_is_plain (v0 : V) : L2.start ["thing", "word", "path", "rest"] [v0] = [some v0, none, none, none] := rfl
theorem sc_first_nodes : FnScope [] [] (defScope s_first_nodes) := ⟨rfl, rfl, rfl, by decide +kernel, rfl, by decide +kernel, by decide +kernel⟩
theorem st_first_nodes : L2.start [] [] = [] := rfl
theorem sc_is_deed : FnScope ["thing", "one"] ["thing"] (defScope s_is_deed) := ⟨rfl, rfl, rfl, by decide +kernel, rfl, by decide +kernel, by decide +kernel⟩
theorem st_is_deed (v0 : V) : L2.start ["thing", "one"] [v0] = [some v0, none] := rfl
theorem sc_is_entry : FnScope ["thing"] ["thing"] (defScope s_is_entry) := ⟨rfl, rfl, rfl, by decide +kernel, rfl, by decide +kernel, by decide +kernel⟩
theorem st_is_entry (v0 : V) : L2.start ["thing"] [v0] = [some v0] := rfl
theorem sc_first_state : FnScope [] [] (defScope s_first_state) := ⟨rfl, rfl, rfl, by decide +kernel, rfl, by decide +kernel, by decide +kernel⟩
theorem st_first_state : L2.start [] [] = [] := rfl
theorem sc_done_deed : FnScope ["nodes", "limit", "deed", "asker", "word", "found", "events", "answer"] ["nodes", "limit", "deed", "asker"] (defScope s_done_deed) := ⟨rfl, rfl, rfl, by decide +kernel, rfl, by decide +kernel, by decide +kernel⟩
theorem st_done_deed (v0 v1 v2 v3 : V) : L2.start ["nodes", "limit", "deed", "asker", "word", "found", "events", "answer"] [v0, v1, v2, v3] = [some v0, some v1, some v2, some v3, none, none, none, none] := rfl
theorem sc_ended : FnScope ["nodes", "sessions", "asker", "limit", "stamp", "answer", "place", "found", "events"] ["nodes", "sessions", "asker"] (defScope s_ended) := ⟨rfl, rfl, rfl, by decide +kernel, rfl, by decide +kernel, by decide +kernel⟩
theorem st_ended (v0 v1 v2 : V) : L2.start ["nodes", "sessions", "asker", "limit", "stamp", "answer", "place", "found", "events"] [v0, v1, v2] = [some v0, some v1, some v2, none, none, none, none, none, none] := rfl
theorem sc_done : FnScope ["state", "entry", "place", "nodes", "sessions", "asker", "stamp", "deed", "limit", "last", "elder", "where", "found", "answer", "events", "one"] ["state", "entry", "place"] (defScope s_done) := ⟨rfl, rfl, rfl, by decide +kernel, rfl, by decide +kernel, by decide +kernel⟩
theorem st_done (v0 v1 v2 : V) : L2.start ["state", "entry", "place", "nodes", "sessions", "asker", "stamp", "deed", "limit", "last", "elder", "where", "found", "answer", "events", "one"] [v0, v1, v2] = [some v0, some v1, some v2, none, none, none, none, none, none, none, none, none, none, none, none, none] := rfl
theorem sc_are_things : FnScope ["thing", "base", "places", "place", "entry", "one", "other"] ["thing", "base"] (defScope s_are_things) := ⟨rfl, rfl, rfl, by decide +kernel, rfl, by decide +kernel, by decide +kernel⟩
theorem st_are_things (v0 v1 : V) : L2.start ["thing", "base", "places", "place", "entry", "one", "other"] [v0, v1] = [some v0, some v1, none, none, none, none, none] := rfl
theorem sc_is_seek : FnScope ["rest"] ["rest"] (defScope s_is_seek) := ⟨rfl, rfl, rfl, by decide +kernel, rfl, by decide +kernel, by decide +kernel⟩
theorem st_is_seek (v0 : V) : L2.start ["rest"] [v0] = [some v0] := rfl
theorem sc_is_one_place : FnScope ["rest"] ["rest"] (defScope s_is_one_place) := ⟨rfl, rfl, rfl, by decide +kernel, rfl, by decide +kernel, by decide +kernel⟩
theorem st_is_one_place (v0 : V) : L2.start ["rest"] [v0] = [some v0] := rfl
theorem sc_is_nothing : FnScope ["rest"] ["rest"] (defScope s_is_nothing) := ⟨rfl, rfl, rfl, by decide +kernel, rfl, by decide +kernel, by decide +kernel⟩
theorem st_is_nothing (v0 : V) : L2.start ["rest"] [v0] = [some v0] := rfl
theorem sc_is_sync : FnScope ["rest"] ["rest"] (defScope s_is_sync) := ⟨rfl, rfl, rfl, by decide +kernel, rfl, by decide +kernel, by decide +kernel⟩
theorem st_is_sync (v0 : V) : L2.start ["rest"] [v0] = [some v0] := rfl
theorem sc_is_propose : FnScope ["rest"] ["rest"] (defScope s_is_propose) := ⟨rfl, rfl, rfl, by decide +kernel, rfl, by decide +kernel, by decide +kernel⟩
theorem st_is_propose (v0 : V) : L2.start ["rest"] [v0] = [some v0] := rfl
theorem sc_is_letter : FnScope ["thing", "word", "sender", "to", "epoch", "rest", "looks"] ["thing"] (defScope s_is_letter) := ⟨rfl, rfl, rfl, by decide +kernel, rfl, by decide +kernel, by decide +kernel⟩
theorem st_is_letter (v0 : V) : L2.start ["thing", "word", "sender", "to", "epoch", "rest", "looks"] [v0] = [some v0, none, none, none, none, none, none] := rfl
theorem sc_is_beginning : FnScope ["one", "other"] ["one", "other"] (defScope s_is_beginning) := ⟨rfl, rfl, rfl, by decide +kernel, rfl, by decide +kernel, by decide +kernel⟩
theorem st_is_beginning (v0 v1 : V) : L2.start ["one", "other"] [v0, v1] = [some v0, some v1] := rfl
theorem sc_up_to : FnScope ["row", "place", "thing"] ["row", "place"] (defScope s_up_to) := ⟨rfl, rfl, rfl, by decide +kernel, rfl, by decide +kernel, by decide +kernel⟩
theorem st_up_to (v0 v1 : V) : L2.start ["row", "place", "thing"] [v0, v1] = [some v0, some v1, none] := rfl
theorem sc_behind : FnScope ["row", "place", "thing"] ["row", "place"] (defScope s_behind) := ⟨rfl, rfl, rfl, by decide +kernel, rfl, by decide +kernel, by decide +kernel⟩
theorem st_behind (v0 v1 : V) : L2.start ["row", "place", "thing"] [v0, v1] = [some v0, some v1, none] := rfl
theorem sc_last_place : FnScope ["row"] ["row"] (defScope s_last_place) := ⟨rfl, rfl, rfl, by decide +kernel, rfl, by decide +kernel, by decide +kernel⟩
theorem st_last_place (v0 : V) : L2.start ["row"] [v0] = [some v0] := rfl
theorem sc_look_at_members : FnScope ["thing", "one"] ["thing"] (defScope s_look_at_members) := ⟨rfl, rfl, rfl, by decide +kernel, rfl, by decide +kernel, by decide +kernel⟩
theorem st_look_at_members (v0 : V) : L2.start ["thing", "one"] [v0] = [some v0, none] := rfl
theorem sc_most_of : FnScope ["members"] ["members"] (defScope s_most_of) := ⟨rfl, rfl, rfl, by decide +kernel, rfl, by decide +kernel, by decide +kernel⟩
theorem st_most_of (v0 : V) : L2.start ["members"] [v0] = [some v0] := rfl
theorem sc_may_promise : FnScope ["looks", "own", "other"] ["looks", "own", "other"] (defScope s_may_promise) := ⟨rfl, rfl, rfl, by decide +kernel, rfl, by decide +kernel, by decide +kernel⟩
theorem st_may_promise (v0 v1 v2 : V) : L2.start ["looks", "own", "other"] [v0, v1, v2] = [some v0, some v1, some v2] := rfl
theorem sc_m_init : FnScope ["self", "name", "members", "looks"] ["self", "name", "members", "looks"] (defScope s_m_init) := ⟨rfl, rfl, rfl, by decide +kernel, rfl, by decide +kernel, by decide +kernel⟩
theorem st_m_init (v0 v1 v2 v3 : V) : L2.start ["self", "name", "members", "looks"] [v0, v1, v2, v3] = [some v0, some v1, some v2, some v3] := rfl
theorem sc_m_begin_anew : FnScope ["self"] ["self"] (defScope s_m_begin_anew) := ⟨rfl, rfl, rfl, by decide +kernel, rfl, by decide +kernel, by decide +kernel⟩
theorem st_m_begin_anew (v0 : V) : L2.start ["self"] [v0] = [some v0] := rfl
theorem sc_m_stand_down : FnScope ["self"] ["self"] (defScope s_m_stand_down) := ⟨rfl, rfl, rfl, by decide +kernel, rfl, by decide +kernel, by decide +kernel⟩
theorem st_m_stand_down (v0 : V) : L2.start ["self"] [v0] = [some v0] := rfl
theorem sc_m_others : FnScope ["self", "other"] ["self"] (defScope s_m_others) := ⟨rfl, rfl, rfl, by decide +kernel, rfl, by decide +kernel, by decide +kernel⟩
theorem st_m_others (v0 : V) : L2.start ["self", "other"] [v0] = [some v0, none] := rfl
theorem sc_m_last : FnScope ["self"] ["self"] (defScope s_m_last) := ⟨rfl, rfl, rfl, by decide +kernel, rfl, by decide +kernel, by decide +kernel⟩
theorem st_m_last (v0 : V) : L2.start ["self"] [v0] = [some v0] := rfl
theorem sc_m_has : FnScope ["self", "place", "own", "entry"] ["self", "place"] (defScope s_m_has) := ⟨rfl, rfl, rfl, by decide +kernel, rfl, by decide +kernel, by decide +kernel⟩
theorem st_m_has (v0 v1 : V) : L2.start ["self", "place", "own", "entry"] [v0, v1] = [some v0, some v1, none, none] := rfl
theorem sc_m_say : FnScope ["self", "word", "other", "epoch", "rest"] ["self", "word", "other", "epoch", "rest"] (defScope s_m_say) := ⟨rfl, rfl, rfl, by decide +kernel, rfl, by decide +kernel, by decide +kernel⟩
theorem st_m_say (v0 v1 v2 v3 v4 : V) : L2.start ["self", "word", "other", "epoch", "rest"] [v0, v1, v2, v3, v4] = [some v0, some v1, some v2, some v3, some v4] := rfl
theorem sc_m_go_on_to : FnScope ["self", "place", "own", "entry", "answer", "events"] ["self", "place"] (defScope s_m_go_on_to) := ⟨rfl, rfl, rfl, by decide +kernel, rfl, by decide +kernel, by decide +kernel⟩
theorem st_m_go_on_to (v0 v1 : V) : L2.start ["self", "place", "own", "entry", "answer", "events"] [v0, v1] = [some v0, some v1, none, none, none, none] := rfl
theorem sc_m_seek : FnScope ["self", "other"] ["self"] (defScope s_m_seek) := ⟨rfl, rfl, rfl, by decide +kernel, rfl, by decide +kernel, by decide +kernel⟩
theorem st_m_seek (v0 : V) : L2.start ["self", "other"] [v0] = [some v0, none] := rfl
theorem sc_m_lead : FnScope ["self", "letters", "other"] ["self"] (defScope s_m_lead) := ⟨rfl, rfl, rfl, by decide +kernel, rfl, by decide +kernel, by decide +kernel⟩
theorem st_m_lead (v0 : V) : L2.start ["self", "letters", "other"] [v0] = [some v0, none, none] := rfl
theorem sc_m_leads : FnScope ["self", "epoch"] ["self", "epoch"] (defScope s_m_leads) := ⟨rfl, rfl, rfl, by decide +kernel, rfl, by decide +kernel, by decide +kernel⟩
theorem st_m_leads (v0 v1 : V) : L2.start ["self", "epoch"] [v0, v1] = [some v0, some v1] := rfl
theorem sc_m_stands_by : FnScope ["self", "epoch"] ["self", "epoch"] (defScope s_m_stands_by) := ⟨rfl, rfl, rfl, by decide +kernel, rfl, by decide +kernel, by decide +kernel⟩
theorem st_m_stands_by (v0 v1 : V) : L2.start ["self", "epoch"] [v0, v1] = [some v0, some v1] := rfl
theorem sc_m_is_settled : FnScope ["self"] ["self"] (defScope s_m_is_settled) := ⟨rfl, rfl, rfl, by decide +kernel, rfl, by decide +kernel, by decide +kernel⟩
theorem st_m_is_settled (v0 : V) : L2.start ["self"] [v0] = [some v0] := rfl
theorem sc_m_follow : FnScope ["self", "other"] ["self", "other"] (defScope s_m_follow) := ⟨rfl, rfl, rfl, by decide +kernel, rfl, by decide +kernel, by decide +kernel⟩
theorem st_m_follow (v0 v1 : V) : L2.start ["self", "other"] [v0, v1] = [some v0, some v1] := rfl
theorem sc_m_sync_by : FnScope ["self", "other", "way", "base", "things"] ["self", "other", "way", "base"] (defScope s_m_sync_by) := ⟨rfl, rfl, rfl, by decide +kernel, rfl, by decide +kernel, by decide +kernel⟩
theorem st_m_sync_by (v0 v1 v2 v3 : V) : L2.start ["self", "other", "way", "base", "things"] [v0, v1, v2, v3] = [some v0, some v1, some v2, some v3, none] := rfl
theorem sc_m_sync_for : FnScope ["self", "other", "last", "lesser", "place", "entry"] ["self", "other"] (defScope s_m_sync_for) := ⟨rfl, rfl, rfl, by decide +kernel, rfl, by decide +kernel, by decide +kernel⟩
theorem st_m_sync_for (v0 v1 : V) : L2.start ["self", "other", "last", "lesser", "place", "entry"] [v0, v1] = [some v0, some v1, none, none, none, none] := rfl
theorem sc_m_look_done : FnScope ["self", "marks", "mark", "place", "places", "entry", "other"] ["self"] (defScope s_m_look_done) := ⟨rfl, rfl, rfl, by decide +kernel, rfl, by decide +kernel, by decide +kernel⟩
theorem st_m_look_done (v0 : V) : L2.start ["self", "marks", "mark", "place", "places", "entry", "other"] [v0] = [some v0, none, none, none, none, none, none] := rfl
theorem sc_m_put : FnScope ["self", "entry", "prior", "number", "place", "some", "letters", "other"] ["self", "entry"] (defScope s_m_put) := ⟨rfl, rfl, rfl, by decide +kernel, rfl, by decide +kernel, by decide +kernel⟩
theorem st_m_put (v0 v1 : V) : L2.start ["self", "entry", "prior", "number", "place", "some", "letters", "other"] [v0, v1] = [some v0, some v1, none, none, none, none, none, none] := rfl
theorem sc_m_beat : FnScope ["self", "letters", "other"] ["self"] (defScope s_m_beat) := ⟨rfl, rfl, rfl, by decide +kernel, rfl, by decide +kernel, by decide +kernel⟩
theorem st_m_beat (v0 : V) : L2.start ["self", "letters", "other"] [v0] = [some v0, none, none] := rfl
theorem sc_m_beat_for : FnScope ["self", "other", "prior", "letters", "place", "entry"] ["self", "other"] (defScope s_m_beat_for) := ⟨rfl, rfl, rfl, by decide +kernel, rfl, by decide +kernel, by decide +kernel⟩
theorem st_m_beat_for (v0 v1 : V) : L2.start ["self", "other", "prior", "letters", "place", "entry"] [v0, v1] = [some v0, some v1, none, none, none, none] := rfl
theorem sc_m_ends : FnScope ["self", "letters", "nodes", "sessions", "asker", "limit", "rest"] ["self"] (defScope s_m_ends) := ⟨rfl, rfl, rfl, by decide +kernel, rfl, by decide +kernel, by decide +kernel⟩
theorem st_m_ends (v0 : V) : L2.start ["self", "letters", "nodes", "sessions", "asker", "limit", "rest"] [v0] = [some v0, none, none, none, none, none, none] := rfl
theorem sc_m_take : FnScope ["self", "letter", "word", "other", "own", "epoch", "rest"] ["self", "letter"] (defScope s_m_take) := ⟨rfl, rfl, rfl, by decide +kernel, rfl, by decide +kernel, by decide +kernel⟩
theorem st_m_take (v0 v1 : V) : L2.start ["self", "letter", "word", "other", "own", "epoch", "rest"] [v0, v1] = [some v0, some v1, none, none, none, none, none] := rfl
theorem sc_m_on_told : FnScope ["self", "word", "other", "epoch", "rest"] ["self", "word", "other", "epoch", "rest"] (defScope s_m_on_told) := ⟨rfl, rfl, rfl, by decide +kernel, rfl, by decide +kernel, by decide +kernel⟩
theorem st_m_on_told (v0 v1 v2 v3 v4 : V) : L2.start ["self", "word", "other", "epoch", "rest"] [v0, v1, v2, v3, v4] = [some v0, some v1, some v2, some v3, some v4] := rfl
theorem sc_m_on_seek : FnScope ["self", "other", "epoch", "told"] ["self", "other", "epoch", "told"] (defScope s_m_on_seek) := ⟨rfl, rfl, rfl, by decide +kernel, rfl, by decide +kernel, by decide +kernel⟩
theorem st_m_on_seek (v0 v1 v2 v3 : V) : L2.start ["self", "other", "epoch", "told"] [v0, v1, v2, v3] = [some v0, some v1, some v2, some v3] := rfl
theorem sc_m_on_promise : FnScope ["self", "other", "epoch", "last"] ["self", "other", "epoch", "last"] (defScope s_m_on_promise) := ⟨rfl, rfl, rfl, by decide +kernel, rfl, by decide +kernel, by decide +kernel⟩
theorem st_m_on_promise (v0 v1 v2 v3 : V) : L2.start ["self", "other", "epoch", "last"] [v0, v1, v2, v3] = [some v0, some v1, some v2, some v3] := rfl
theorem sc_m_on_lead : FnScope ["self", "other", "epoch"] ["self", "other", "epoch"] (defScope s_m_on_lead) := ⟨rfl, rfl, rfl, by decide +kernel, rfl, by decide +kernel, by decide +kernel⟩
theorem st_m_on_lead (v0 v1 v2 : V) : L2.start ["self", "other", "epoch"] [v0, v1, v2] = [some v0, some v1, some v2] := rfl
theorem sc_m_on_sync : FnScope ["self", "other", "epoch", "told", "way", "base", "things", "place", "elder"] ["self", "other", "epoch", "told"] (defScope s_m_on_sync) := ⟨rfl, rfl, rfl, by decide +kernel, rfl, by decide +kernel, by decide +kernel⟩
theorem st_m_on_sync (v0 v1 v2 v3 : V) : L2.start ["self", "other", "epoch", "told", "way", "base", "things", "place", "elder"] [v0, v1, v2, v3] = [some v0, some v1, some v2, some v3, none, none, none, none, none] := rfl
theorem sc_m_on_propose : FnScope ["self", "other", "epoch", "told", "prior", "place", "entry"] ["self", "other", "epoch", "told"] (defScope s_m_on_propose) := ⟨rfl, rfl, rfl, by decide +kernel, rfl, by decide +kernel, by decide +kernel⟩
theorem st_m_on_propose (v0 v1 v2 v3 : V) : L2.start ["self", "other", "epoch", "told", "prior", "place", "entry"] [v0, v1, v2, v3] = [some v0, some v1, some v2, some v3, none, none, none] := rfl
theorem sc_m_on_done : FnScope ["self", "other", "epoch", "place"] ["self", "other", "epoch", "place"] (defScope s_m_on_done) := ⟨rfl, rfl, rfl, by decide +kernel, rfl, by decide +kernel, by decide +kernel⟩
theorem st_m_on_done (v0 v1 v2 v3 : V) : L2.start ["self", "other", "epoch", "place"] [v0, v1, v2, v3] = [some v0, some v1, some v2, some v3] := rfl
theorem sc_m_head : FnScope ["self"] ["self"] (defScope s_m_head) := ⟨rfl, rfl, rfl, by decide +kernel, rfl, by decide +kernel, by decide +kernel⟩
theorem st_m_head (v0 : V) : L2.start ["self"] [v0] = [some v0] := rfl
theorem sc_m_epoch : FnScope ["self"] ["self"] (defScope s_m_epoch) := ⟨rfl, rfl, rfl, by decide +kernel, rfl, by decide +kernel, by decide +kernel⟩
theorem st_m_epoch (v0 : V) : L2.start ["self"] [v0] = [some v0] := rfl
theorem sc_m_row : FnScope ["self"] ["self"] (defScope s_m_row) := ⟨rfl, rfl, rfl, by decide +kernel, rfl, by decide +kernel, by decide +kernel⟩
theorem st_m_row (v0 : V) : L2.start ["self"] [v0] = [some v0] := rfl
theorem sc_m_done_row : FnScope ["self"] ["self"] (defScope s_m_done_row) := ⟨rfl, rfl, rfl, by decide +kernel, rfl, by decide +kernel, by decide +kernel⟩
theorem st_m_done_row (v0 : V) : L2.start ["self"] [v0] = [some v0] := rfl
theorem sc_law_pool : FnScope ["_law_script", "_law_k", "_law_cell", "_law_seed"] ["_law_script", "_law_k"] (defScope s_law_pool) := ⟨rfl, rfl, rfl, by decide +kernel, rfl, by decide +kernel, by decide +kernel⟩
theorem st_law_pool (v0 v1 : V) : L2.start ["_law_script", "_law_k", "_law_cell", "_law_seed"] [v0, v1] = [some v0, some v1, none, none] := rfl
theorem sc_law_take : FnScope ["_law_pool_here", "_law_many", "_law_digit"] ["_law_pool_here", "_law_many"] (defScope s_law_take) := ⟨rfl, rfl, rfl, by decide +kernel, rfl, by decide +kernel, by decide +kernel⟩
theorem st_law_take (v0 v1 : V) : L2.start ["_law_pool_here", "_law_many", "_law_digit"] [v0, v1] = [some v0, some v1, none] := rfl
theorem sc_law_round : FnScope ["_law_houses", "_law_left", "_law_name", "_law_letter"] ["_law_houses", "_law_left"] (defScope s_law_round) := ⟨rfl, rfl, rfl, by decide +kernel, rfl, by decide +kernel, by decide +kernel⟩
theorem st_law_round (v0 v1 : V) : L2.start ["_law_houses", "_law_left", "_law_name", "_law_letter"] [v0, v1] = [some v0, some v1, none, none] := rfl
theorem sc_law_calmed : FnScope ["_law_houses", "_law_name", "_law_turn"] ["_law_houses", "_law_name"] (defScope s_law_calmed) := ⟨rfl, rfl, rfl, by decide +kernel, rfl, by decide +kernel, by decide +kernel⟩
theorem st_law_calmed (v0 v1 : V) : L2.start ["_law_houses", "_law_name", "_law_turn"] [v0, v1] = [some v0, some v1, none] := rfl
theorem sc_law_place : FnScope ["_law_house", "_law_thing"] ["_law_house"] (defScope s_law_place) := ⟨rfl, rfl, rfl, by decide +kernel, rfl, by decide +kernel, by decide +kernel⟩
theorem st_law_place (v0 : V) : L2.start ["_law_house", "_law_thing"] [v0] = [some v0, none] := rfl
theorem sc_law_started : FnScope ["_law_pool_here", "_law_members", "_law_houses", "_law_turn", "_law_name"] ["_law_pool_here"] (defScope s_law_started) := ⟨rfl, rfl, rfl, by decide +kernel, rfl, by decide +kernel, by decide +kernel⟩
theorem st_law_started (v0 : V) : L2.start ["_law_pool_here", "_law_members", "_law_houses", "_law_turn", "_law_name"] [v0] = [some v0, none, none, none, none] := rfl
theorem sc_law_late : FnScope ["_law_pool_here", "_law_houses", "_law_name", "_law_had", "_law_some", "_law_number", "_law_letters", "_law_letter"] ["_law_pool_here", "_law_houses"] (defScope s_law_late) := ⟨rfl, rfl, rfl, by decide +kernel, rfl, by decide +kernel, by decide +kernel⟩
theorem st_law_late (v0 v1 : V) : L2.start ["_law_pool_here", "_law_houses", "_law_name", "_law_had", "_law_some", "_law_number", "_law_letters", "_law_letter"] [v0, v1] = [some v0, some v1, none, none, none, none, none, none] := rfl
theorem sc_law_lates : FnScope ["_law_house", "_law_place_here", "_law_entry"] ["_law_house"] (defScope s_law_lates) := ⟨rfl, rfl, rfl, by decide +kernel, rfl, by decide +kernel, by decide +kernel⟩
theorem st_law_lates (v0 : V) : L2.start ["_law_house", "_law_place_here", "_law_entry"] [v0] = [some v0, none, none] := rfl
theorem sc_law_right : FnScope ["_law_pool_here", "_law_houses", "_law_had", "_law_house", "_law_rows", "_law_rest", "_law_there", "_law_best", "_law_top", "_law_turn", "_law_name", "_law_row"] ["_law_pool_here", "_law_houses", "_law_had"] (defScope s_law_right) := ⟨rfl, rfl, rfl, by decide +kernel, rfl, by decide +kernel, by decide +kernel⟩
theorem st_law_right (v0 v1 v2 : V) : L2.start ["_law_pool_here", "_law_houses", "_law_had", "_law_house", "_law_rows", "_law_rest", "_law_there", "_law_best", "_law_top", "_law_turn", "_law_name", "_law_row"] [v0, v1, v2] = [some v0, some v1, some v2, none, none, none, none, none, none, none, none, none] := rfl
theorem sc_law : FnScope ["_law_script", "_law_k", "_law_pool_here", "_law_houses", "_law_had"] ["_law_script"] (defScope s_law) := ⟨rfl, rfl, rfl, by decide +kernel, rfl, by decide +kernel, by decide +kernel⟩
theorem st_law (v0 : V) : L2.start ["_law_script", "_law_k", "_law_pool_here", "_law_houses", "_law_had"] [v0] = [some v0, none, none, none, none] := rfl
end Wd
/-! ## Hd -/
set_option Elab.async false
set_option linter.all false
set_option maxRecDepth 100000
set_option maxHeartbeats 0
/-! The head. Printed by gen_hd.py. -/
namespace Wd
open PySem PySem.Spec PyProof.Rows L2
def loose0 : List PySem.Str := ["_wall", "NoDeed", "NoEntry", "NoMembers", "NoLooks", "NoLetter", "NoHouse", "NotHead", "LETTERS", "FIGURES", "LONGEST", "MOST_PARTS", "MANY_FIGURES", "ROOT", "NOWHERE", "is_whole", "is_word", "is_part", "parts_of", "is_path", "is_place", "path_of", "parent_of", "last_part", "MOST_NODES", "MOST_MADE", "MOST_TEXT", "LONG", "is_text", "is_count"]
def loose1 : List PySem.Str := ["is_make", "is_plain", "first_nodes", "kids_of", "refused", "numbered_path", "make", "put", "dropped", "drop", "done_plain", "MOST_DEEDS", "MOST_LIMIT", "OK", "NEVER", "is_deed", "is_entry", "first_state", "without_owner", "done_all", "done_deed", "ended", "done", "done_states", "WAYS", "are_things", "is_ask", "is_seek", "is_one_place", "is_nothing"]
def loose2 : List PySem.Str := ["is_sync", "is_propose", "is_forward", "is_touch", "FORMS", "is_letter", "state_of", "is_beginning", "up_to", "behind", "last_place", "MOST_MEMBERS", "LOOKS", "look_at_members", "most_of", "may_promise", "House", "_law_pool", "_law_take", "_law_round", "_law_calmed", "_law_place", "_law_started", "_law_late", "_law_lates", "_law_right"]
def loose : List PySem.Str := loose0 ++ loose1 ++ loose2
abbrev R : PySem.W.OpenRow := PySem.W.OpenLaw.row PySem.Challenge.rw_watchednodes_k87_whole_what_a_fallen_hea
def tfD : List He.Defn := [("_law_right", none)]
/-- what is named by a thing: a function's code and defaults, a class's names, the items of tuples and dicts -/
def kidsY (o : Obj) : List Addr := match o.data with
  | .func fd => He.refV fd.code ++ (He.refV fd.defaults ++ He.refV fd.kwdefaults)
  | .cls cd => [cd.ns]
  | .seq its _ => its.toList.flatMap He.refV
  | .dict es _ => es.toList.flatMap fun x => He.refV x.val
  | _ => []
def nextY (g : Addr → Option Obj) (l : List Addr) : List Addr := l.flatMap fun a => match g a with
  | some o => kidsY o
  | none => []
/-- the steps from the module's names on, without looking at what was met -/
def stepsY (g : Addr → Option Obj) : Nat → List Addr → List Addr
  | 0, l => l
  | n + 1, l => l ++ stepsY g n (nextY g l)
def fragY (g : Addr → Option Obj) : PySem.W.Frag := He.frT g (stepsY g 5 [mainGlobals])
def obsY (g : Addr → Option Obj) : He.AlX := (fun K : PySem.W.Frag => (He.obsT fa fn ts K, exB K && He.tabsB g tfD K)) (fragY g)
theorem saysY {w : World} {h : Heap} (e : obsY h.get? = He.valX fn ts w) : He.SaysX fa fn ts tfD exB w h (fragY h.get?) := by
  have two : (exB (fragY h.get?) && He.tabsB h.get? tfD (fragY h.get?)) = true := congrArg Prod.snd e
  rw [Bool.and_eq_true] at two
  have tab : ∀ p ∈ tfD, PySem.W.codeHdIn (fragY h.get?) (He.cT (fragY h.get?) p).1 (He.cT (fragY h.get?) p).2 = true ∧ ∃ o, h.get? (He.cT (fragY h.get?) p).2 = some o ∧ He.emptyTab o = true := by
    intro p hp
    have q := List.all_eq_true.mp two.2 p hp
    rw [Bool.and_eq_true] at q
    refine ⟨q.1, ?_⟩
    have q2 := q.2
    cases c : h.get? (He.cT (fragY h.get?) p).2 with
    | some o => rw [c] at q2; exact ⟨o, rfl, q2⟩
    | none => rw [c] at q2; cases q2
  constructor
  · exact congrArg Prod.fst e
  · exact two.1
  · exact fun p hp => (tab p hp).1
  · intro p hp
    obtain ⟨_, o, c, z⟩ := tab p hp
    exact He.frT_none c z
  · intro p hp
    obtain ⟨_, o, c, z⟩ := tab p hp
    rw [c, He.emptyTab_eq z]
def hk : PySem.W.Hook where
  α := He.AlX
  obs := fun s => obsY s.heap.get?
  val := fun w => He.valX fn ts w
  says := fun w h => ∃ K : PySem.W.Frag, K.In h ∧ He.SaysX fa fn ts tfD exB w h K
  of := fun _ _ e => ⟨_, He.frT_in, saysY e⟩
  keeps := by
    intro w h h2 hh k
    obtain ⟨K, hK, c⟩ := hh
    exact ⟨K, hK.keeps k, ⟨c.t, c.more, c.hd, c.out, fun p hp => k _ _ (c.empty p hp)⟩⟩
def ob (s : PySem.W.SharedT) : He.AlX := obsY (HandSHeadRun.getT s)
theorem ob_eq (s : PySem.W.SharedT) : ob s = hk.obs s.abs := by
  have z : HandSHeadRun.getT s = s.abs.heap.get? := funext (HandSHeadRun.getT_eq s)
  unfold ob
  rw [z]; rfl
theorem runF (w : World) : HandSHeadRun.RunEq R (PySem.W.view R.prog [94]) hk ob 6000 loose (w.withFollow "special-get-raises" false) := fun os => by kernel_rfl
theorem runT (w : World) : HandSHeadRun.RunEq R (PySem.W.view R.prog [94]) hk ob 6000 loose (w.withFollow "special-get-raises" true) := fun os => by kernel_rfl
theorem run (w : World) : HandSHeadRun.RunEq R (PySem.W.view R.prog [94]) hk ob 6000 loose w :=
  PySem.W.byRow2 "special-get-raises" (P := fun w => HandSHeadRun.RunEq R (PySem.W.view R.prog [94]) hk ob 6000 loose w) runF runT w
end Wd
/-! ## Mrr -/
set_option maxHeartbeats 200000
/-! The mirror: what each House method and each law def computes, in plain Lean. Option none: a way that is not covered. -/
namespace M
abbrev Pl := Nat × Nat
def plt (a b : Pl) : Bool := Nat.blt a.1 b.1 || (Nat.beq a.1 b.1 && Nat.blt a.2 b.2)
def ple (a b : Pl) : Bool := !plt b a
def peq (a b : Pl) : Bool := Nat.beq a.1 b.1 && Nat.beq a.2 b.2
def pmax (a b : Pl) : Pl := bif plt a b then b else a
def pmin (a b : Pl) : Pl := bif plt b a then b else a
inductive En where
  | early | new | late (k : Nat)
  deriving DecidableEq, Repr
abbrev Thing := Pl × En
abbrev Row := List Thing
def upTo (r : Row) (p : Pl) : Row := r.filter fun t => ple t.1 p
def behind (r : Row) (p : Pl) : Row := r.filter fun t => plt p t.1
def lastOf : Row → Pl
  | [] => (0, 0)
  | [t] => t.1
  | _ :: t :: r => lastOf (t :: r)
def has (r : Row) (p : Pl) : Bool := peq p (0, 0) || r.any fun t => peq p t.1
def rising : Pl → Row → Bool
  | _, [] => true
  | b, t :: r => plt b t.1 && rising t.1 r
inductive Role where
  | seeks | follows | leads
  deriving DecidableEq, Repr
inductive Lt where
  | seek (f t e ep : Nat) (last : Pl)
  | promise (f t e : Nat) (last : Pl)
  | lead (f t e : Nat)
  | sync (f t e : Nat) (way : Nat) (base : Pl) (things : Row) (place : Pl)
  | synced (f t e : Nat) (last : Pl)
  | propose (f t e : Nat) (prior place : Pl) (en : En)
  | took (f t e : Nat) (last : Pl)
  | done (f t e : Nat) (place : Pl)
  deriving DecidableEq, Repr
abbrev Dic := List (Nat × Pl)
def dget : Dic → Nat → Option Pl
  | [], _ => none
  | (k, v) :: r, x => bif Nat.beq k x then some v else dget r x
def dhas (d : Dic) (x : Nat) : Bool := (dget d x).isSome
def dput (d : Dic) (x : Nat) (p : Pl) : Dic := bif dhas d x then d.map fun q => bif Nat.beq q.1 x then (q.1, p) else q else d ++ [(x, p)]
def ddrop (d : Dic) (x : Nat) : Dic := d.filter fun q => !Nat.beq q.1 x
structure Hs where
  name : Nat
  mem : List Nat
  promised : Nat
  epoch : Nat
  row : Row
  done : Pl
  role : Role
  head : Option Nat
  sought : Option Nat
  promises : Dic
  taken : Dic
  clock : Nat
  fresh : Nat
  deriving DecidableEq, Repr
def bnd : Nat := 1000
def most (h : Hs) : Nat := h.mem.length / 2 + 1
def others (h : Hs) : List Nat := h.mem.filter fun o => !Nat.beq o h.name
def last (h : Hs) : Pl := lastOf h.row
def standDown (h : Hs) : Hs := { h with role := .seeks, head := none, sought := none, promises := [], taken := [], clock := 0 }
def beginAnew (h : Hs) : Hs := standDown { h with done := (0, 0), fresh := 0 }
def fresh0 (name : Nat) (mem : List Nat) : Hs := ⟨name, mem, 0, 0, [], (0, 0), .seeks, none, none, [], [], 0, 0⟩
def newly (h : Hs) (p : Pl) : Row := h.row.filter fun t => plt h.done t.1 && ple t.1 p
def goOn (h : Hs) (p : Pl) : Option Hs :=
  bif Nat.ble (h.fresh + (newly h p).length) bnd then some { h with done := pmax h.done p, fresh := h.fresh + (newly h p).length } else none
def seek (h : Hs) : Hs × List Lt :=
  let h := standDown h
  let h := { h with promised := h.promised + 1, sought := some (h.promised + 1), promises := [(h.name, last h)] }
  (h, (others h).map fun o => .seek h.name o h.promised h.epoch (last h))
def isLeads : Role → Bool
  | .leads => true
  | _ => false
def isSeeks : Role → Bool
  | .seeks => true
  | _ => false
def leads (h : Hs) (e : Nat) : Bool := isLeads h.role && Nat.beq e h.epoch
def standsBy (h : Hs) (e : Nat) : Bool := Nat.beq e h.promised && (Nat.beq e h.epoch && !isLeads h.role)
def isSettled (h : Hs) : Bool := isLeads h.role && Nat.ble (most h) h.taken.length
def headIs (h : Hs) (o : Nat) : Bool := match h.head with
  | some x => Nat.beq x o
  | none => false
def follow (h : Hs) (o : Nat) : Hs := { (bif headIs h o then h else standDown h) with role := .follows, head := some o }
def syncBy (h : Hs) (o way : Nat) (base : Pl) : Lt := .sync h.name o h.epoch way base (behind h.row base) h.done
def lesser (h : Hs) (p : Pl) : Row := h.row.filter fun t => plt t.1 p
def syncFor (h : Hs) (o : Nat) : Option Lt := match dget h.promises o with
  | none => none
  | some l => some (bif has h.row l then syncBy h o 0 l else match lesser h l with
    | [] => syncBy h o 2 (0, 0)
    | t :: r => syncBy h o 1 (lastOf (t :: r)))
def insD (x : Pl) : List Pl → List Pl
  | [] => [x]
  | y :: r => bif plt y x then x :: y :: r else y :: insD x r
def sortD : List Pl → List Pl
  | [] => []
  | x :: r => insD x (sortD r)
def mark (h : Hs) : Pl := (sortD (h.taken.map (·.2))).getD (most h - 1) (0, 0)
def lookDone (h : Hs) : Option (Hs × List Lt) := bif isSettled h then
    match newly h (mark h) with
    | [] => some (h, [])
    | t :: r => match goOn h (lastOf (t :: r)) with
      | none => none
      | some h' => some (h', (others h).filterMap fun o => bif dhas h.taken o then some (.done h.name o h.epoch (lastOf (t :: r))) else none)
  else some (h, [])
def mapO {α β : Type} (f : α → Option β) : List α → Option (List β)
  | [] => some []
  | x :: r => match f x with
    | none => none
    | some y => match mapO f r with
      | none => none
      | some ys => some (y :: ys)
def lead (h : Hs) : Option (Hs × List Lt) :=
  let h := { h with role := .leads, head := some h.name, epoch := h.promised, taken := [(h.name, last h)] }
  match mapO (syncFor h) ((others h).filter fun o => dhas h.promises o) with
  | none => none
  | some ls => match lookDone h with
    | none => none
    | some (h', ds) => some (h', ls ++ ds)
def nextPlace (h : Hs) : Pl := (h.epoch, bif Nat.beq (last h).1 h.epoch then (last h).2 + 1 else 1)
def put (h : Hs) (en : En) : Option (Hs × List Lt) := bif isSettled h && (Nat.blt h.row.length bnd && Nat.blt h.taken.length bnd) then
    let prior := last h
    let place := nextPlace h
    let h := { h with row := h.row ++ [(place, en)], taken := dput h.taken h.name place }
    let ls := ((others h).filter fun o => dhas h.taken o).map fun o => Lt.propose h.name o h.epoch prior place en
    match lookDone h with
    | none => none
    | some (h', ds) => some (h', ls ++ ds)
  else none
def proposes (n o e : Nat) : Pl → Row → List Lt
  | _, [] => []
  | p, t :: r => .propose n o e p t.1 t.2 :: proposes n o e t.1 r
def beatFor (h : Hs) (o : Nat) : Option (List Lt) := bif dhas h.promises o then
    match dget h.taken o with
    | none => match syncFor h o with
      | none => none
      | some l => some [l]
    | some p => some (proposes h.name o h.epoch p (behind h.row p) ++ [.done h.name o h.epoch h.done])
  else some [.lead h.name o h.epoch]
def catO {α β : Type} (f : α → Option (List β)) : List α → Option (List β)
  | [] => some []
  | x :: r => match f x with
    | none => none
    | some y => match catO f r with
      | none => none
      | some ys => some (y ++ ys)
def beat (h : Hs) : Option (Hs × List Lt) := bif isLeads h.role then
    match catO (beatFor h) (others h) with
    | none => none
    | some ls => some (h, ls)
  else some (h, [])
def onSeek (h : Hs) (f e ep : Nat) (l : Pl) : Hs × List Lt := bif Nat.ble e h.promised then (h, []) else
  let h := { standDown h with promised := e }
  bif Nat.blt ep h.epoch || (Nat.beq ep h.epoch && plt l (last h)) then (h, []) else (h, [.promise h.name f e (last h)])
def onPromise (h : Hs) (f e : Nat) (l : Pl) : Option (Hs × List Lt) := bif !Nat.blt h.promises.length bnd then none else bif leads h e then
    let h := { h with promises := dput h.promises f l, taken := ddrop h.taken f }
    match syncFor h f with
    | none => none
    | some x => some (h, [x])
  else bif !Nat.beq e h.promised || !(match h.sought with
    | some s => Nat.beq s e
    | none => false) then some (h, [])
  else
    let h := { h with promises := dput h.promises f l }
    bif Nat.ble (most h) h.promises.length then lead h else some (h, [])
def onLead (h : Hs) (f e : Nat) : Hs × List Lt :=
  bif Nat.blt e h.promised || (Nat.beq e h.promised && !isSeeks h.role) then (h, []) else
  let h := { standDown h with promised := e }
  (h, [.promise h.name f e (last h)])
def eqRow : Row → Row → Bool
  | [], [] => true
  | t :: r, u :: s => peq t.1 u.1 && (decide (t.2 = u.2) && eqRow r s)
  | _, _ => false
def onSync (h : Hs) (f e : Nat) (base : Pl) (things : Row) (place : Pl) : Option (Hs × List Lt) :=
  bif Nat.beq e h.promised && Nat.blt h.epoch e then
    let row := upTo h.row base ++ things
    bif has h.row base && (Nat.ble row.length bnd && eqRow (upTo row h.done) (upTo h.row h.done)) then
      let h := follow { h with row := row, epoch := e } f
      match goOn h (pmin place (last h)) with
      | none => none
      | some h => some (h, [.synced h.name f e (last h)])
    else none
  else bif standsBy h e then
    let h := follow h f
    some (h, [.synced h.name f e (last h)])
  else some (h, [])
def onPropose (h : Hs) (f e : Nat) (prior place : Pl) (en : En) : Option (Hs × List Lt) := bif standsBy h e then
    bif Nat.blt h.row.length bnd then
      let h := follow h f
      let h := bif peq (last h) prior then { h with row := h.row ++ [(place, en)] } else h
      some (h, bif has h.row place then [.took h.name f e (last h)] else [])
    else none
  else some (h, [])
def onDone (h : Hs) (f e : Nat) (place : Pl) : Option (Hs × List Lt) := bif standsBy h e then
    let h := follow h f
    match goOn h (pmin place (last h)) with
    | none => none
    | some h => some (h, [])
  else some (h, [])
def tell (h : Hs) (f : Nat) (l : Pl) : Option (Hs × List Lt) := bif Nat.blt h.taken.length bnd then
    lookDone { h with taken := dput h.taken f (pmax ((dget h.taken f).getD (0, 0)) l) }
  else none
def onSynced (h : Hs) (f e : Nat) (l : Pl) : Option (Hs × List Lt) := bif leads h e then tell h f l else some (h, [])
def onTook (h : Hs) (f e : Nat) (l : Pl) : Option (Hs × List Lt) := bif leads h e then (bif dhas h.taken f then tell h f l else some (h, [])) else some (h, [])
def Lt.src : Lt → Nat
  | .seek f .. => f
  | .promise f .. => f
  | .lead f .. => f
  | .sync f .. => f
  | .synced f .. => f
  | .propose f .. => f
  | .took f .. => f
  | .done f .. => f
def Lt.dst : Lt → Nat
  | .seek _ t .. => t
  | .promise _ t .. => t
  | .lead _ t .. => t
  | .sync _ t .. => t
  | .synced _ t .. => t
  | .propose _ t .. => t
  | .took _ t .. => t
  | .done _ t .. => t
/-- what is_letter asks beside the kinds -/
def Lt.ok : Lt → Bool
  | .sync f t _ _ b th _ => !Nat.beq f t && rising b th
  | .propose f t _ p q _ => !Nat.beq f t && plt p q
  | l => !Nat.beq l.src l.dst
def take (h : Hs) (l : Lt) : Option (Hs × List Lt) :=
  bif l.ok && (Nat.beq l.dst h.name && h.mem.any fun o => Nat.beq o l.src) then
    match l with
    | .seek f _ e ep p => some (onSeek h f e ep p)
    | .promise f _ e p => onPromise h f e p
    | .lead f _ e => some (onLead h f e)
    | .sync f _ e _ b th p => onSync h f e b th p
    | .synced f _ e p => onSynced h f e p
    | .propose f _ e p q en => onPropose h f e p q en
    | .took f _ e p => onTook h f e p
    | .done f _ e p => onDone h f e p
  else none
/-! ### the law's defs -/
/-- the houses of a dict, in order -/
abbrev Ws := List Hs
def beats : Ws → Option (Ws × List Lt)
  | [] => some ([], [])
  | h :: r => match beat h with
    | none => none
    | some (h', ls) => match beats r with
      | none => none
      | some (r', ms) => some (h' :: r', ls ++ ms)
def isIn (ws : Ws) (x : Nat) : Bool := ws.any fun h => Nat.beq h.name x
def give : Ws → Lt → Option (Ws × List Lt)
  | [], _ => some ([], [])
  | h :: r, l => bif Nat.beq h.name l.dst then
      match take h l with
      | none => none
      | some (h', ls) => some (h' :: r, ls)
    else match give r l with
      | none => none
      | some (r', ls) => some (h :: r', ls)
def drain : Nat → Ws → List Lt → Option Ws
  | _, ws, [] => some ws
  | 0, _, _ :: _ => none
  | k + 1, ws, l :: ls => match give ws l with
    | none => none
    | some (ws', ms) => drain k ws' (ls ++ ms)
def fuel : Nat := 400
def round (ws : Ws) (left : List Lt) : Option Ws := match beats ws with
  | none => none
  | some (ws', ls) => drain fuel ws' (left ++ ls)
def rounds : Nat → Ws → Option Ws
  | 0, ws => some ws
  | k + 1, ws => match round ws [] with
    | none => none
    | some ws' => rounds k ws'
def at_ (x : Nat) : Ws → Option Hs
  | [] => none
  | h :: r => bif Nat.beq h.name x then some h else at_ x r
def setAt (x : Nat) (h' : Hs) : Ws → Ws
  | [] => []
  | h :: r => bif Nat.beq h.name x then h' :: r else h :: setAt x h' r
def calmed (ws : Ws) (x : Nat) : Option (Ws × Bool) := match at_ x ws with
  | none => none
  | some h => match round (setAt x (seek h).1 ws) (seek h).2 with
    | none => none
    | some ws => match rounds 3 ws with
      | none => none
      | some ws => match at_ x ws with
        | none => none
        | some h => some (ws, isSettled h)
/-- so many puts of an entry by x, each with a round -/
def putRounds (x : Nat) (en : En) : Nat → Ws → Option Ws
  | 0, ws => some ws
  | k + 1, ws => match at_ x ws with
    | none => none
    | some h => match put h en with
      | none => none
      | some (h', ls) => match round (setAt x h' ws) ls with
        | none => none
        | some ws => putRounds x en k ws
def mems (d : Nat) : List Nat := match d with
  | 0 => [0, 1, 2]
  | _ => [0, 1, 2, 3, 4]
def started (d t : Nat) : Option Ws := match calmed ((mems d).map fun i => fresh0 i (mems d)) 0 with
  | none => none
  | some (ws, _) => match putRounds 0 .early t ws with
    | none => none
    | some ws => round ws []
/-- each letter to one of some is taken, what is said to it is lost -/
def giveAll (some_ : List Nat) : Ws → List Lt → Option Ws
  | ws, [] => some ws
  | ws, l :: ls => bif some_.any fun x => Nat.beq x l.dst then
      match give ws l with
      | none => none
      | some (ws', _) => giveAll some_ ws' ls
    else giveAll some_ ws ls
def lateStep (some_ : List Nat) (k : Nat) (ws : Ws) : Option Ws := match at_ 0 ws with
  | none => none
  | some h => match put h (.late k) with
    | none => none
    | some (h', ls) => giveAll some_ (setAt 0 h' ws) ls
def keyLe (a b : Hs) : Bool := Nat.blt a.epoch b.epoch || (Nat.beq a.epoch b.epoch && ple (last a) (last b))
/-- the first greatest -/
def bestOf : Hs → Ws → Hs
  | b, [] => b
  | b, h :: r => bestOf (bif keyLe h b then b else h) r
def merge (ws there : Ws) : Ws := ws.map fun h => (at_ h.name there).getD h
def lates (r : Row) : List Nat := r.filterMap fun t => match t.2 with
  | .late k => some k
  | _ => none
def isPre (a b : Row) : Bool := eqRow (b.take a.length) a
def headOk (h : Hs) (b : Nat) : Bool := headIs h b
def allOk (ws : Ws) (b : Hs) : Bool := ws.all fun h => eqRow h.row b.row && (eqRow (upTo h.row h.done) h.row && headOk h b.name)
end M
/-! ## RlA -/
set_option maxHeartbeats 200000
set_option Elab.async false
set_option linter.all false
set_option maxRecDepth 100000
/-! Own rules: the order of data, max and min of two. -/
namespace Wd
open PySem PySem.Spec PyProof.Rows L2 PySem.W PySem.SeqAt
/-! ### the order of alike data -/
structure Ord2 (K : PySem.W.Frag) (H : Hp) (x y : V) (d e : PyData) : Prop where
  x : Dp K H x d
  y : Dp K H y e
  al : alike d e = true
  nn : d ≠ .none
  sm : min d.depth e.depth ≤ 60
def rLtD (K : PySem.W.Frag) : R2 := fun x y H Q => ∃ d e, Ord2 K H x y d e ∧ Q (.bl (dataLt d e)) H
def rGtD (K : PySem.W.Frag) : R2 := fun x y H Q => ∃ d e, Ord2 K H x y d e ∧ Q (.bl (dataLt e d)) H
def rLeD (K : PySem.W.Frag) : R2 := fun x y H Q => ∃ d e, Ord2 K H x y d e ∧ Q (.bl (!dataLt e d)) H
def rGeD (K : PySem.W.Frag) : R2 := fun x y H Q => ∃ d e, Ord2 K H x y d e ∧ Q (.bl (!dataLt d e)) H
section
variable {X : Cx}
theorem op_ltD (hu : X.A.units + 64 < cLine) : OpR X (compareOp .Lt) (rLtD X.K) := by
  intro pins s σ H x y v u Q I rx ry h
  obtain ⟨d, e, o, q⟩ := h
  obtain ⟨as, r1⟩ := Dp.reads I d x v o.x rx
  obtain ⟨bs, r2⟩ := Dp.reads I e y u o.y ry
  have := o.sm
  exact lt_data r1 r2 o.al o.nn (by omega) ⟨.bl _, H, I, rfl, q⟩
theorem op_gtD (hu : X.A.units + 64 < cLine) : OpR X (compareOp .Gt) (rGtD X.K) := by
  intro pins s σ H x y v u Q I rx ry h
  obtain ⟨d, e, o, q⟩ := h
  obtain ⟨as, r1⟩ := Dp.reads I d x v o.x rx
  obtain ⟨bs, r2⟩ := Dp.reads I e y u o.y ry
  have := o.sm
  exact gt_data r1 r2 o.al o.nn (by omega) ⟨.bl _, H, I, rfl, q⟩
theorem op_leD (hu : X.A.units + 64 < cLine) : OpR X (compareOp .LtE) (rLeD X.K) := by
  intro pins s σ H x y v u Q I rx ry h
  obtain ⟨d, e, o, q⟩ := h
  obtain ⟨as, r1⟩ := Dp.reads I d x v o.x rx
  obtain ⟨bs, r2⟩ := Dp.reads I e y u o.y ry
  have := o.sm
  exact le_data r1 r2 o.al o.nn (by omega) ⟨.bl _, H, I, rfl, q⟩
theorem op_geD (hu : X.A.units + 64 < cLine) : OpR X (compareOp .GtE) (rGeD X.K) := by
  intro pins s σ H x y v u Q I rx ry h
  obtain ⟨d, e, o, q⟩ := h
  obtain ⟨as, r1⟩ := Dp.reads I d x v o.x rx
  obtain ⟨bs, r2⟩ := Dp.reads I e y u o.y ry
  have := o.sm
  exact ge_data r1 r2 o.al o.nn (by omega) ⟨.bl _, H, I, rfl, q⟩
end
/-! ### max(a, b), min(a, b) of alike data -/
section
variable {prog : Program} {w : World} {A : Around} {E : Value → Shared → Prop} {s : Shared}
theorem call_max_twoH {a b : Value} {Q : Value → Shared → Prop}
    (h : wpAny (model prog w) A.in1 (pyIter (.ref s.heap.objs.size)) (fun it s₂ => ∃ I fp wr G n P St H bt, it = .ref I ∧ WalksS prog w A.in1 I fp wr G n P St ∧ St 0 s₂ ∧ (∀ b ∈ fp, b < s₂.heap.objs.size) ∧ 0 < n ∧
      (∀ b o, H.get? b = some o → b ∉ wr) ∧ (∀ b o, H.get? b = some o → s₂.heap.get? b = some o) ∧ CmpIn prog w A.in1 .Gt H P bt ∧ ∀ v s', P (argBest bt (n - 1)) v → Moved wr G s₂ s' → Q v s') E
      { s with heap := s.heap.push { cls := .type "tuple", data := .seq #[a, b] } }) :
    wpAny (model prog w) A (call (.builtin "max") [a, b]) Q E s := by
  have hname : (toString "max" ++ toString ".loop" : String) = "max.loop" := by decide
  refine call_function_tree F.kind_max F.plain_max F.entry_max (F.args_max2 _ _) ?_
  show wpAny _ A.in1 (Builtin.Builtins.bindParams "max" ["key", "default"] 0 ⟨[], []⟩ >>= _) _ _ s
  refine wpAny_bind (wpAny_of_eq (show Builtin.Builtins.bindParams "max" ["key", "default"] 0 ⟨[], []⟩ = pure [none, none] from rfl) ?_)
  show wpAny _ A.in1 (newTuple [a, b] >>= _) _ _ s
  refine wpAny_bind (wpAny_newObj_type ?_)
  refine wpAny_bind (wpAny_mono h (fun it s₂ h₂ => ?_) fun _ _ e => e)
  obtain ⟨I, fp, wr, G, n, P, St, H, bt, rfl, W, hst, hfp, hn, hw, hkeep, hcmp, hQ⟩ := h₂
  refine wpAny_bind (wpAny_newObj_type ?_)
  have hSf : s₂.heap.objs.size ∉ fp := fun hm => Nat.lt_irrefl _ (hfp _ hm)
  rw [hname]
  refine wpAny_pure ⟨plainId_quiet F.plain_max_loop _, codeAny_max_loop_firstH W H hw bt hcmp s₂.heap.objs.size hSf (fresh_in hkeep) _ hn (fun b o e => Heap.get?_push_of_some _ (hkeep b o e)) (W.frame 0 s₂ _ s₂.toks hst (Nat.le_refl _) fun b _ o e => Heap.get?_push_of_some _ e) (Heap.get?_push_size _ rfl) fun v s' hP hm => ?_⟩
  exact hQ v s' hP (Moved.drop_new (tk := s₂.toks) hm (Nat.le_refl _))
theorem call_min_twoH {a b : Value} {Q : Value → Shared → Prop}
    (h : wpAny (model prog w) A.in1 (pyIter (.ref s.heap.objs.size)) (fun it s₂ => ∃ I fp wr G n P St H bt, it = .ref I ∧ WalksS prog w A.in1 I fp wr G n P St ∧ St 0 s₂ ∧ (∀ b ∈ fp, b < s₂.heap.objs.size) ∧ 0 < n ∧
      (∀ b o, H.get? b = some o → b ∉ wr) ∧ (∀ b o, H.get? b = some o → s₂.heap.get? b = some o) ∧ CmpIn prog w A.in1 .Lt H P bt ∧ ∀ v s', P (argBest bt (n - 1)) v → Moved wr G s₂ s' → Q v s') E
      { s with heap := s.heap.push { cls := .type "tuple", data := .seq #[a, b] } }) :
    wpAny (model prog w) A (call (.builtin "min") [a, b]) Q E s := by
  have hname : (toString "min" ++ toString ".loop" : String) = "min.loop" := by decide
  refine call_function_tree F.kind_min F.plain_min F.entry_min (F.args_min2 _ _) ?_
  show wpAny _ A.in1 (Builtin.Builtins.bindParams "min" ["key", "default"] 0 ⟨[], []⟩ >>= _) _ _ s
  refine wpAny_bind (wpAny_of_eq (show Builtin.Builtins.bindParams "min" ["key", "default"] 0 ⟨[], []⟩ = pure [none, none] from rfl) ?_)
  show wpAny _ A.in1 (newTuple [a, b] >>= _) _ _ s
  refine wpAny_bind (wpAny_newObj_type ?_)
  refine wpAny_bind (wpAny_mono h (fun it s₂ h₂ => ?_) fun _ _ e => e)
  obtain ⟨I, fp, wr, G, n, P, St, H, bt, rfl, W, hst, hfp, hn, hw, hkeep, hcmp, hQ⟩ := h₂
  refine wpAny_bind (wpAny_newObj_type ?_)
  have hSf : s₂.heap.objs.size ∉ fp := fun hm => Nat.lt_irrefl _ (hfp _ hm)
  rw [hname]
  refine wpAny_pure ⟨plainId_quiet F.plain_min_loop _, codeAny_min_loop_firstH W H hw bt hcmp s₂.heap.objs.size hSf (fresh_in hkeep) _ hn (fun b o e => Heap.get?_push_of_some _ (hkeep b o e)) (W.frame 0 s₂ _ s₂.toks hst (Nat.le_refl _) fun b _ o e => Heap.get?_push_of_some _ e) (Heap.get?_push_size _ rfl) fun v s' hP hm => ?_⟩
  exact hQ v s' hP (Moved.drop_new (tk := s₂.toks) hm (Nat.le_refl _))
theorem alikeAll2 {da db : PyData} (h : alike da db = true) (ha : alike da da = true) (hb : alike db db = true) (na : da ≠ .none) (nb : db ≠ .none) : AlikeAll [da, db] := by
  have hc : alike db da = true := by rw [alike_comm]; exact h
  refine ⟨fun x hx y hy => ?_, fun x hx => ?_⟩
  · rcases List.mem_cons.mp hx with rfl | hx
    · rcases List.mem_cons.mp hy with rfl | hy
      · exact ha
      · rw [List.mem_singleton.mp hy]; exact h
    · rw [List.mem_singleton.mp hx]
      rcases List.mem_cons.mp hy with rfl | hy
      · exact hc
      · rw [List.mem_singleton.mp hy]; exact hb
  · rcases List.mem_cons.mp hx with rfl | hx
    · exact na
    · rw [List.mem_singleton.mp hx]; exact nb
theorem two_old {s' : Shared} {o1 o2 : Obj} {a : Addr} (ha : a = s.heap.objs.size + 1) (m : Moved [a] (fun a b => b = a) { s with heap := (s.heap.push o1).push o2 } s') : ∃ h' tk, s' = { s with heap := h', toks := tk } ∧ ∀ b o, s.heap.get? b = some o → h'.get? b = some o := by
  subst ha
  refine ⟨s'.heap, s'.toks, ?_, fun b ob eb => m.heap b ob (fun hb => by
    have hz := Heap.lt_size eb
    rw [List.mem_singleton.mp hb] at hz
    exact Nat.lt_irrefl _ (Nat.lt_of_succ_lt hz)) (Heap.get?_push_of_some _ (Heap.get?_push_of_some _ eb))⟩
  obtain ⟨hp, g, d, tk, os⟩ := s'
  have h1 : g = s.gens := m.gens
  have h2 : d = s.drawn := m.drawn
  have h3 : os = s.os := m.os
  subst h1 h2 h3
  rfl
theorem max_two_data {a b : Value} {da db : PyData} {as bs : List Addr} {Q : Value → Shared → Prop} (hh : A.handled = none) (ra : Reads s.heap a da as) (rb : Reads s.heap b db bs) (hal : AlikeAll [da, db]) (hu : A.units + 1 + PyData.depthAll [da, db] < cLine)
    (h : ∀ h' tk, (∀ c o, s.heap.get? c = some o → h'.get? c = some o) → Q (if dataLt da db = true then b else a) { s with heap := h', toks := tk }) :
    wpAny (model prog w) A (call (.builtin "max") [a, b]) Q E s := by
  have hsz : (s.heap.push { cls := .type "tuple", data := .seq #[a, b] }).objs.size = s.heap.objs.size + 1 := Heap.size_push ..
  have hT : (s.heap.push { cls := .type "tuple", data := .seq #[a, b] }).IsTuple s.heap.objs.size #[a, b] := ⟨_, Heap.get?_push_size _ rfl, rfl, 0, rfl⟩
  have hold : ∀ c o, s.heap.get? c = some o → (s.heap.push { cls := .type "tuple", data := .seq #[a, b] }).get? c = some o := fun c o e => Heap.get?_push_of_some _ e
  have hr : ReadsAll (s.heap.push { cls := .type "tuple", data := .seq #[a, b] }) (#[a, b] : Array Value).toList [da, db] _ := ReadsAll.cons (reads_keeps hold ra) (ReadsAll.cons (reads_keeps hold rb) ReadsAll.nil)
  refine call_max_twoH (iter_tupleW (A := A.in1) (s := { s with heap := s.heap.push { cls := .type "tuple", data := .seq #[a, b] } }) hh hT fun s₂ e W st hfp hw hk => ?_)
  subst e
  refine ⟨_, _, _, _, _, _, _, (s.heap.push { cls := .type "tuple", data := .seq #[a, b] }), _, rfl, W, st, hfp, by simp, hw, hk, cmpIn_gt (s := { s with heap := s.heap.push { cls := .type "tuple", data := .seq #[a, b] } }) hr hal (by show A.units + 1 + _ < _; exact hu), fun v s' hP hm => ?_⟩
  obtain ⟨h', tk, rfl, hk'⟩ := two_old (s := s) hsz hm
  have hv : v = if dataLt da db = true then b else a := by
    cases hc : dataLt da db <;> simp [argBest, hc] at hP <;> simp [hP]
  rw [hv]
  exact h h' tk hk'
theorem min_two_data {a b : Value} {da db : PyData} {as bs : List Addr} {Q : Value → Shared → Prop} (hh : A.handled = none) (ra : Reads s.heap a da as) (rb : Reads s.heap b db bs) (hal : AlikeAll [da, db]) (hu : A.units + 1 + PyData.depthAll [da, db] < cLine)
    (h : ∀ h' tk, (∀ c o, s.heap.get? c = some o → h'.get? c = some o) → Q (if dataLt db da = true then b else a) { s with heap := h', toks := tk }) :
    wpAny (model prog w) A (call (.builtin "min") [a, b]) Q E s := by
  have hsz : (s.heap.push { cls := .type "tuple", data := .seq #[a, b] }).objs.size = s.heap.objs.size + 1 := Heap.size_push ..
  have hT : (s.heap.push { cls := .type "tuple", data := .seq #[a, b] }).IsTuple s.heap.objs.size #[a, b] := ⟨_, Heap.get?_push_size _ rfl, rfl, 0, rfl⟩
  have hold : ∀ c o, s.heap.get? c = some o → (s.heap.push { cls := .type "tuple", data := .seq #[a, b] }).get? c = some o := fun c o e => Heap.get?_push_of_some _ e
  have hr : ReadsAll (s.heap.push { cls := .type "tuple", data := .seq #[a, b] }) (#[a, b] : Array Value).toList [da, db] _ := ReadsAll.cons (reads_keeps hold ra) (ReadsAll.cons (reads_keeps hold rb) ReadsAll.nil)
  refine call_min_twoH (iter_tupleW (A := A.in1) (s := { s with heap := s.heap.push { cls := .type "tuple", data := .seq #[a, b] } }) hh hT fun s₂ e W st hfp hw hk => ?_)
  subst e
  refine ⟨_, _, _, _, _, _, _, (s.heap.push { cls := .type "tuple", data := .seq #[a, b] }), _, rfl, W, st, hfp, by simp, hw, hk, cmpIn_lt (s := { s with heap := s.heap.push { cls := .type "tuple", data := .seq #[a, b] } }) hr hal (by show A.units + 1 + _ < _; exact hu), fun v s' hP hm => ?_⟩
  obtain ⟨h', tk, rfl, hk'⟩ := two_old (s := s) hsz hm
  have hv : v = if dataLt db da = true then b else a := by
    cases hc : dataLt db da <;> simp [argBest, hc] at hP <;> simp [hP]
  rw [hv]
  exact h h' tk hk'
end
section
variable {X : Cx}
def rMaxD (K : PySem.W.Frag) : List V → Hp → VK → Prop := fun xs H Q => ∃ x y d e, xs = [x, y] ∧ Dp K H x d ∧ Dp K H y e ∧ AlikeAll [d, e] ∧ PyData.depthAll [d, e] ≤ 60 ∧ Q (if dataLt d e = true then y else x) H
def rMinD (K : PySem.W.Frag) : List V → Hp → VK → Prop := fun xs H Q => ∃ x y d e, xs = [x, y] ∧ Dp K H x d ∧ Dp K H y e ∧ AlikeAll [d, e] ∧ PyData.depthAll [d, e] ≤ 60 ∧ Q (if dataLt e d = true then y else x) H
theorem cr_maxD (hc : X.calm = true) (hu : X.A.units + 64 < cLine) : CallR X (.builtin "max") (rMaxD X.K) := by
  intro pins s σ H xs us Q I r h
  obtain ⟨x, y, d, e, rfl, hx, hy, al, dp, q⟩ := h
  obtain ⟨u, v, rfl, rx, ry⟩ := vals2 r
  obtain ⟨as, r1⟩ := Dp.reads I d x u hx rx
  obtain ⟨bs, r2⟩ := Dp.reads I e y v hy ry
  refine max_two_data (I.ok.hd hc) r1 r2 al (by omega) fun h' tk k => ⟨_, H, I.kept k, ?_, q⟩
  by_cases hd : dataLt d e = true
  · rw [if_pos hd, if_pos hd]; exact ry
  · rw [if_neg hd, if_neg hd]; exact rx
theorem cr_minD (hc : X.calm = true) (hu : X.A.units + 64 < cLine) : CallR X (.builtin "min") (rMinD X.K) := by
  intro pins s σ H xs us Q I r h
  obtain ⟨x, y, d, e, rfl, hx, hy, al, dp, q⟩ := h
  obtain ⟨u, v, rfl, rx, ry⟩ := vals2 r
  obtain ⟨as, r1⟩ := Dp.reads I d x u hx rx
  obtain ⟨bs, r2⟩ := Dp.reads I e y v hy ry
  refine min_two_data (I.ok.hd hc) r1 r2 al (by omega) fun h' tk k => ⟨_, H, I.kept k, ?_, q⟩
  by_cases hd : dataLt e d = true
  · rw [if_pos hd, if_pos hd]; exact ry
  · rw [if_neg hd, if_neg hd]; exact rx
end
end Wd
/-! ## Rt -/
set_option maxHeartbeats 200000
set_option Elab.async false
set_option linter.all false
namespace M
abbrev Had := List (Nat × Nat)
def hadSet (had : Had) (s : List Nat) (n : Nat) : Had := had.map fun q => bif s.any (fun x => Nat.beq x q.1) then (q.1, n) else q
def lateRun : Nat → List (List Nat) → Ws → Had → Option (Ws × Had)
  | _, [], ws, had => some (ws, had)
  | k, s :: ss, ws, had => match lateStep s k ws with
    | none => none
    | some ws' => lateRun (k + 1) ss ws' (hadSet had s (k + 1))
def hadOf (had : Had) (x : Nat) : Nat := match had with
  | [] => 0
  | (y, n) :: r => bif Nat.beq y x then n else hadOf r x
def topOf (had : Had) (r : List Nat) : Nat := r.foldl (fun m x => Nat.max m (hadOf had x)) 0
def eqL : List Nat → List Nat → Bool
  | [], [] => true
  | x :: r, y :: s => Nat.beq x y && eqL r s
  | _, _ => false
/-- the last def: the houses, what each had, the names that are left, the number of puts -/
def rightRun (ws0 : Ws) (had : Had) (r : List Nat) (u : Nat) : Option Bool := match at_ 0 ws0 with
  | none => none
  | some h0 =>
    match r.filterMap fun x => at_ x (setAt 0 (beginAnew h0) ws0) with
    | [] => none
    | b0 :: bs => match calmed (b0 :: bs) (bestOf b0 bs).name with
      | none => none
      | some (th, ok) => match at_ (bestOf b0 bs).name th with
        | none => none
        | some bh => bif ok && eqL (lates bh.row) (List.range (topOf had r)) then
            match putRounds (bestOf b0 bs).name .new u th with
            | none => none
            | some th2 => match rounds 5 (merge (setAt 0 (beginAnew h0) ws0) th2) with
              | none => none
              | some wsE => match at_ (bestOf b0 bs).name wsE with
                | none => none
                | some be => some (allOk wsE be && (ws0.map fun h => upTo h.row h.done).all fun a => isPre a be.row)
          else none
end M
namespace Wd
/-- the sets of those that took the late ones: each within the last, with the head -/
def Chain : List Nat → List (List Nat) → Prop
  | _, [] => True
  | s0, s :: ss => (∃ f : Nat → Bool, f 0 = true ∧ s = s0.filter f) ∧ Chain s ss
end Wd
/-! ## Bs -/
set_option maxHeartbeats 200000
set_option Elab.async false
set_option linter.all false
set_option maxRecDepth 100000
/-! Data: places, entries, letters as Python data; what persists; comprehensions. -/
namespace Wd
open PySem PySem.Spec PyProof.Rows L2 PySem.W PySem.SeqAt
/-! ### names -/
def nm (i : Nat) : Str := ⟨#[97 + i]⟩
theorem nm_inj {i j : Nat} (h : nm i = nm j) : i = j := by
  have e : (#[97 + i] : Array Nat) = #[97 + j] := congrArg Str.cps h
  have e2 : 97 + i = 97 + j := by simpa using e
  omega
theorem nm_dec (i j : Nat) : decide (nm i = nm j) = Nat.beq i j := by
  by_cases h : i = j
  · subst h; simp
  · have h2 : ¬ nm i = nm j := fun e => h (nm_inj e)
    rw [decide_eq_false h2]
    exact (Bool.eq_false_iff.mpr fun e => h (Nat.eq_of_beq_eq_true e)).symm
abbrev nK (i : Nat) : Key := Sum.inr (nm i)
theorem nK_inj {i j : Nat} (h : nK i = nK j) : i = j := nm_inj (Sum.inr.inj h)
/-! ### data -/
def plD (p : M.Pl) : PyData := .tuple [.int p.1, .int p.2]
def enD : M.En → PyData
  | .early => .tuple [.str "end", .str "early"]
  | .new => .tuple [.str "end", .str "new"]
  | .late k => .tuple [.str "ask", .str "late", .int ((k + 1 : Nat) : Int), .tuple [.str "bring"]]
def thD (t : M.Thing) : PyData := .tuple [plD t.1, enD t.2]
def wayS : Nat → Str
  | 0 => "more"
  | 1 => "cut"
  | _ => "all"
def ltW : M.Lt → Str
  | .seek .. => "seek"
  | .promise .. => "promise"
  | .lead .. => "lead"
  | .sync .. => "sync"
  | .synced .. => "synced"
  | .propose .. => "propose"
  | .took .. => "took"
  | .done .. => "done"
def ltE : M.Lt → Nat
  | .seek _ _ e .. => e
  | .promise _ _ e .. => e
  | .lead _ _ e => e
  | .sync _ _ e .. => e
  | .synced _ _ e .. => e
  | .propose _ _ e .. => e
  | .took _ _ e .. => e
  | .done _ _ e .. => e
def ltR : M.Lt → List PyData
  | .seek _ _ _ ep p => [.int ep, plD p]
  | .promise _ _ _ p => [plD p]
  | .lead _ _ _ => []
  | .sync _ _ _ w b th p => [.str (wayS w), plD b, .tuple (th.map thD), plD p]
  | .synced _ _ _ p => [plD p]
  | .propose _ _ _ p q en => [plD p, plD q, enD en]
  | .took _ _ _ p => [plD p]
  | .done _ _ _ p => [plD p]
def ltD (l : M.Lt) : PyData := .tuple ([.str (ltW l), .str (nm l.src), .str (nm l.dst), .int (ltE l)] ++ ltR l)
/-! ### no list within -/
mutual
def noL : PyData → Bool
  | .list _ => false
  | .dict _ => false
  | .tuple xs => noLs xs
  | _ => true
def noLs : List PyData → Bool
  | [] => true
  | x :: xs => noL x && noLs xs
end
/-- the tuples stand -/
def Kp (H H' : Hp) : Prop := (∀ a xs, H a = some (.tup xs) → H' a = some (.tup xs)) ∧ ∀ a o xs, H a = some (.frz o (.tup xs)) → H' a = some (.frz o (.tup xs))
theorem Kp.refl (H : Hp) : Kp H H := ⟨fun _ _ h => h, fun _ _ _ h => h⟩
theorem Kp.trans {H H1 H2 : Hp} (a : Kp H H1) (b : Kp H1 H2) : Kp H H2 := ⟨fun x xs h => b.1 x xs (a.1 x xs h), fun x o xs h => b.2 x o xs (a.2 x o xs h)⟩
theorem Kp.of {H H' : Hp} (s : Same H H') : Kp H H' := ⟨fun a xs h => s _ _ h, fun a o xs h => s _ _ h⟩
theorem Kp.upd {H : Hp} {a : Addr} {o : HO} (h1 : ∀ xs, H a ≠ some (.tup xs)) (h2 : ∀ ob xs, H a ≠ some (.frz ob (.tup xs))) : Kp H (upd H a o) :=
  ⟨fun b xs e => by
    have n : b ≠ a := fun z => by subst z; exact h1 xs e
    rw [upd_ne n]; exact e, fun b ob xs e => by
    have n : b ≠ a := fun z => by subst z; exact h2 ob xs e
    rw [upd_ne n]; exact e⟩
theorem Kp.at {H : Hp} {a : Addr} {u o : HO} (h : H a = some u) (h1 : ∀ xs, u ≠ .tup xs) (h2 : ∀ ob xs, u ≠ .frz ob (.tup xs)) : Kp H (L2.upd H a o) :=
  Kp.upd (fun xs e => h1 xs (Option.some.inj (h.symm.trans e))) fun ob xs e => h2 ob xs (Option.some.inj (h.symm.trans e))
theorem Kp.lst {H : Hp} {a : Addr} {xs : List V} {o : HO} (h : H a = some (.lst xs)) : Kp H (L2.upd H a o) := Kp.at h (fun _ z => nomatch z) fun _ _ z => nomatch z
theorem Kp.sqt {K : PySem.W.Frag} {H H' : Hp} (k : Kp H H') {a : Addr} {xs : List V} (h : SqT K H a xs) : SqT K H' a xs := by
  rcases h with (h | ⟨o, h⟩) | h
  · exact .inl (.inl (k.1 _ _ h))
  · exact .inl (.inr ⟨o, k.2 _ _ _ h⟩)
  · exact .inr h
section
variable {K : PySem.W.Frag} {H H' : Hp}
mutual
theorem Dp.kp (k : Kp H H') : ∀ (d : PyData) (v : V), noL d = true → Dp K H v d → Dp K H' v d
  | .none, _, _, h => by cases h; exact .non
  | .bool b, _, _, h => by cases h; exact .bl b
  | .int i, _, _, h => by cases h; exact .int i
  | .str x, _, _, h => by cases h; exact .str x
  | .list _, _, n, _ => by simp [noL] at n
  | .dict _, _, n, _ => by simp [noL] at n
  | .tuple ds, _, n, h => by
    cases h with
    | tup hs ha => exact .tup (k.sqt hs) (DpAll.kp k ds _ (by simpa [noL] using n) ha)
theorem DpAll.kp (k : Kp H H') : ∀ (ds : List PyData) (vs : List V), noLs ds = true → DpAll K H vs ds → DpAll K H' vs ds
  | [], _, _, h => by cases h; exact .nil
  | d :: ds, _, n, h => by
    rw [noLs, Bool.and_eq_true] at n
    cases h with
    | cons h1 h2 => exact .cons (Dp.kp k d _ n.1 h1) (DpAll.kp k ds _ n.2 h2)
end
end
theorem noL_pl (p : M.Pl) : noL (plD p) = true := by simp [plD, noL, noLs]
theorem noL_en (e : M.En) : noL (enD e) = true := by cases e <;> simp [enD, noL, noLs]
theorem noL_th (t : M.Thing) : noL (thD t) = true := by simp [thD, noL, noLs, noL_pl, noL_en]
theorem noLs_th : ∀ r : M.Row, noLs (r.map thD) = true
  | [] => by simp [noLs]
  | t :: r => by simp [noLs, noL_th t, noLs_th r]
theorem noL_lt (l : M.Lt) : noL (ltD l) = true := by
  cases l <;> simp [ltD, ltR, noL, noLs, noL_pl, noL_en, noLs_th]
/-! ### shaped, alike -/
theorem shaped_of {d : PyData} (h1 : d.canLay0 = true) (h2 : d.depth ≤ 64) : SeqAt.shaped d = true := by
  show (d.canLay0 && decide (d.depth ≤ 64)) = true
  rw [h1, decide_eq_true h2]; rfl
theorem pl_lay (p : M.Pl) : (plD p).canLay0 = true := by simp [plD, PyData.canLay0, PyData.canLayAll0]
theorem pl_depth (p : M.Pl) : (plD p).depth = 1 := by simp [plD, PyData.depth, PyData.depthAll]
theorem en_lay (e : M.En) : (enD e).canLay0 = true := by
  cases e <;> simp [enD, PyData.canLay0, PyData.canLayAll0]
  · exact ⟨by decide +kernel, by decide +kernel⟩
  · exact ⟨by decide +kernel, by decide +kernel⟩
  · exact ⟨by decide +kernel, by decide +kernel, by decide +kernel⟩
theorem en_depth (e : M.En) : (enD e).depth ≤ 2 := by cases e <;> simp [enD, PyData.depth, PyData.depthAll]
theorem th_lay (t : M.Thing) : (thD t).canLay0 = true := by simp [thD, PyData.canLay0, PyData.canLayAll0, pl_lay, en_lay]
theorem th_depth (t : M.Thing) : (thD t).depth ≤ 3 := by
  have := en_depth t.2
  simp [thD, PyData.depth, PyData.depthAll, pl_depth]
  omega
theorem ths_lay : ∀ r : M.Row, PyData.canLayAll0 (r.map thD) = true
  | [] => by simp [PyData.canLayAll0]
  | t :: r => by simp [PyData.canLayAll0, th_lay t, ths_lay r]
theorem ths_depth : ∀ r : M.Row, PyData.depthAll (r.map thD) ≤ 3
  | [] => by simp [PyData.depthAll]
  | t :: r => by
    have h1 := ths_depth r
    have h2 := th_depth t
    simp only [List.map_cons, PyData.depthAll]
    omega
theorem pl_shaped (p : M.Pl) : SeqAt.shaped (plD p) = true := shaped_of (pl_lay p) (by rw [pl_depth]; decide)
theorem row_shaped (r : M.Row) : SeqAt.shaped (.list (r.map thD)) = true :=
  shaped_of (by simp only [PyData.canLay0]; exact ths_lay r) (by have := ths_depth r; simp only [PyData.depth]; omega)
theorem pls_lay : ∀ r : List M.Pl, PyData.canLayAll0 (r.map plD) = true
  | [] => by simp [PyData.canLayAll0]
  | t :: r => by simp [PyData.canLayAll0, pl_lay t, pls_lay r]
theorem pls_depth : ∀ r : List M.Pl, PyData.depthAll (r.map plD) ≤ 1
  | [] => by simp [PyData.depthAll]
  | t :: r => by
    have h1 := pls_depth r
    have h2 := pl_depth t
    simp only [List.map_cons, PyData.depthAll]
    omega
theorem pls_shaped (r : List M.Pl) : SeqAt.shaped (.list (r.map plD)) = true :=
  shaped_of (by simp only [PyData.canLay0]; exact pls_lay r) (by have := pls_depth r; simp only [PyData.depth]; omega)
theorem natcast_beq (a b : Nat) : ((a : Int) == (b : Int)) = Nat.beq a b := by
  by_cases h : a = b
  · subst h; simp
  · have h2 : ¬ (a : Int) = b := by omega
    rw [beq_eq_false_iff_ne.mpr h2]
    exact (Bool.eq_false_iff.mpr fun e => h (Nat.eq_of_beq_eq_true e)).symm
theorem eqv_pl (p q : M.Pl) : PyData.eqv (plD p) (plD q) = M.peq p q := by
  simp only [plD, PyData.eqv, PyData.eqvAll, M.peq, natcast_beq, Bool.and_true]
theorem eqv_en (a b : M.En) : PyData.eqv (enD a) (enD b) = decide (a = b) := by
  cases a <;> cases b <;> simp [enD, PyData.eqv, PyData.eqvAll]
  · decide +kernel
  · decide +kernel
  · rename_i a b
    by_cases h : a = b
    · subst h; simp
    · rw [decide_eq_false h]
      exact beq_eq_false_iff_ne.mpr (by omega)
theorem eqv_th (t u : M.Thing) : PyData.eqv (thD t) (thD u) = (M.peq t.1 u.1 && decide (t.2 = u.2)) := by
  simp only [thD, PyData.eqv, PyData.eqvAll, eqv_pl, eqv_en, Bool.and_true]
theorem eqvAll_row : ∀ r s : M.Row, PyData.eqvAll (r.map thD) (s.map thD) = M.eqRow r s
  | [], [] => by simp [PyData.eqvAll, M.eqRow]
  | [], _ :: _ => by simp [PyData.eqvAll, M.eqRow]
  | _ :: _, [] => by simp [PyData.eqvAll, M.eqRow]
  | t :: r, u :: s => by
    rw [List.map_cons, List.map_cons, eqv_all_cons, eqv_th, eqvAll_row r s, M.eqRow, Bool.and_assoc]
theorem eqv_row (r s : M.Row) : PyData.eqv (.list (r.map thD)) (.list (s.map thD)) = M.eqRow r s := by
  rw [PyData.eqv]; exact eqvAll_row r s
theorem plt_iff (p q : M.Pl) : M.plt p q = true ↔ p.1 < q.1 ∨ (p.1 = q.1 ∧ p.2 < q.2) := by
  simp only [M.plt, Bool.or_eq_true, Bool.and_eq_true, Nat.blt_eq, Nat.beq_eq]
theorem lt_pl (p q : M.Pl) : dataLt (plD p) (plD q) = M.plt p q := by
  show dataLt (.tuple [.int p.1, .int p.2]) (.tuple [.int q.1, .int q.2]) = _
  rw [dataLt_ii]
  have h := plt_iff p q
  by_cases c : M.plt p q = true
  · rw [c]
    have := h.mp c
    exact decide_eq_true (by omega)
  · rw [Bool.eq_false_iff.mpr c]
    exact decide_eq_false fun z => c (h.mpr (by omega))
theorem alike_pl (p q : M.Pl) : alike (plD p) (plD q) = true := by simp [plD, alike, alikeAll]
theorem pl_nn (p : M.Pl) : plD p ≠ .none := by simp [plD]
theorem ord_pl {K : PySem.W.Frag} {H : Hp} {x y : V} {p q : M.Pl} (hx : Dp K H x (plD p)) (hy : Dp K H y (plD q)) : Ord2 K H x y (plD p) (plD q) :=
  ⟨hx, hy, alike_pl p q, pl_nn p, by rw [pl_depth, pl_depth]; decide⟩
theorem all_pl (p q : M.Pl) : AlikeAll [plD p, plD q] := alikeAll2 (alike_pl p q) (alike_pl p p) (alike_pl q q) (pl_nn p) (pl_nn q)
theorem dep_pl (p q : M.Pl) : PyData.depthAll [plD p, plD q] ≤ 60 := by simp [PyData.depthAll, pl_depth]
/-- (epoch, place) -/
def epD (e : Nat) (p : M.Pl) : PyData := .tuple [.int e, plD p]
theorem lt_ep (a b : Nat) (p q : M.Pl) : dataLt (epD a p) (epD b q) = (Nat.blt a b || (Nat.beq a b && M.plt p q)) := by
  have h := dataLt_pair (x := .int a) (y := plD p) (x' := .int b) (y' := plD q) (by simp [alike]) (alike_pl p q)
  show dataLt (.tuple [.int a, plD p]) (.tuple [.int b, plD q]) = _
  rw [h]
  have e1 : PyData.eqv (.int (a : Int)) (.int (b : Int)) = Nat.beq a b := by rw [PyData.eqv]; exact natcast_beq a b
  have e3 : dataLt (.int (a : Int)) (.int (b : Int)) = Nat.blt a b := by
    rw [dataLt_int]
    by_cases c : a < b
    · rw [decide_eq_true (by omega)]; exact (Nat.blt_eq.mpr c).symm
    · rw [decide_eq_false (by omega)]; exact (Bool.eq_false_iff.mpr fun z => c (Nat.blt_eq.mp z)).symm
  rw [e1, eqv_pl, lt_pl, e3]
  by_cases c : Nat.beq a b = true
  · rw [if_pos c, c]
    have ea : a = b := Nat.eq_of_beq_eq_true c
    have e4 : Nat.blt a b = false := by subst ea; exact Bool.eq_false_iff.mpr fun z => Nat.lt_irrefl _ (Nat.blt_eq.mp z)
    rw [e4]
    by_cases d : M.peq p q = true
    · rw [if_pos d]
      have e5 : M.plt p q = false := by
        simp only [M.peq, Bool.and_eq_true, Nat.beq_eq] at d
        exact Bool.eq_false_iff.mpr fun z => by have := (plt_iff p q).mp z; omega
      rw [e5]; rfl
    · rw [if_neg d]; simp
  · rw [if_neg c, Bool.eq_false_iff.mpr c]; simp
theorem alike_ep (a b : Nat) (p q : M.Pl) : alike (epD a p) (epD b q) = true := by simp [epD, alike, alikeAll, alike_pl]
theorem ep_depth (a : Nat) (p : M.Pl) : (epD a p).depth = 2 := by simp [epD, PyData.depth, PyData.depthAll, pl_depth]
theorem ord_ep {K : PySem.W.Frag} {H : Hp} {x y : V} {a b : Nat} {p q : M.Pl} (hx : Dp K H x (epD a p)) (hy : Dp K H y (epD b q)) : Ord2 K H x y (epD a p) (epD b q) :=
  ⟨hx, hy, alike_ep a b p q, by simp [epD], by rw [ep_depth, ep_depth]; decide⟩
end Wd
/-! ## Cm -/
set_option maxHeartbeats 200000
set_option Elab.async false
set_option linter.all false
set_option maxRecDepth 100000
/-! Comprehensions over anything, bodies that leave what stands. -/
namespace Wd
open PySem PySem.Spec PyProof.Rows L2 PySem.W PySem.SeqAt
section
variable {α β γ : Type} {F : α → β → Prop}
theorem pd_get : ∀ {l : List α} {r : List β} {i : Nat} {x : α}, Paired F l r → l[i]? = some x → ∃ t, r[i]? = some t ∧ F x t
  | _, _, _, _, .nil, e => by simp at e
  | _, _, 0, _, .cons h _, e => by simp at e; subst e; exact ⟨_, rfl, h⟩
  | _, _, i + 1, _, .cons _ t, e => by
    obtain ⟨u, h1, h2⟩ := pd_get (i := i) t (by simpa using e)
    exact ⟨u, by simpa using h1, h2⟩
theorem pd_get2 : ∀ {l : List α} {r : List β} {i : Nat} {t : β}, Paired F l r → r[i]? = some t → ∃ x, l[i]? = some x ∧ F x t
  | _, _, _, _, .nil, e => by simp at e
  | _, _, 0, _, .cons h _, e => by simp at e; subst e; exact ⟨_, rfl, h⟩
  | _, _, i + 1, _, .cons _ t, e => by
    obtain ⟨u, h1, h2⟩ := pd_get2 (i := i) t (by simpa using e)
    exact ⟨u, by simpa using h1, h2⟩
theorem pd_len : ∀ {l : List α} {r : List β}, Paired F l r → l.length = r.length
  | _, _, .nil => rfl
  | _, _, .cons _ t => congrArg Nat.succ (pd_len t)
theorem pd_app : ∀ {l l' : List α} {r r' : List β}, Paired F l r → Paired F l' r' → Paired F (l ++ l') (r ++ r')
  | _, _, _, _, .nil, h => h
  | _, _, _, _, .cons h t, h' => .cons h (pd_app t h')
theorem pd_mono {G : α → β → Prop} : ∀ {l : List α} {r : List β}, Paired F l r → (∀ a b, F a b → G a b) → Paired G l r
  | _, _, .nil, _ => .nil
  | _, _, .cons h t, f => .cons (f _ _ h) (pd_mono t f)
theorem pd_mem : ∀ {l : List α} {r : List β} {t : β}, Paired F l r → t ∈ r → ∃ x ∈ l, F x t
  | _, _, _, .nil, e => by simp at e
  | _, _, _, .cons (a := a) h t, e => by
    rcases List.mem_cons.mp e with rfl | e
    · exact ⟨a, List.mem_cons_self, h⟩
    · obtain ⟨x, hx, f⟩ := pd_mem t e
      exact ⟨x, List.mem_cons_of_mem _ hx, f⟩
theorem take_snoc {l : List α} {i : Nat} {x : α} (h : l[i]? = some x) : l.take (i + 1) = l.take i ++ [x] := by
  rw [List.take_add_one, h]; rfl
theorem fm_snoc {l : List α} {i : Nat} {x : α} {g : α → Option γ} (h : l[i]? = some x) : (l.take (i + 1)).filterMap g = (l.take i).filterMap g ++ (g x).toList := by
  rw [take_snoc h, List.filterMap_append]
  cases e : g x <;> simp [e]
end
/-! ### the heap: new things -/
theorem same_new {H : Hp} {p : Addr} {o : HO} (h : H p = none) : Same H (upd H p o) := fun b u e => by rw [upd_ne (ne_of_none e h)]; exact e
theorem same_newer {H H' : Hp} {p : Addr} {o : HO} (s : Same H H') (h : H p = none) : Same H (upd H' p o) := fun b u e => by rw [upd_ne (ne_of_none e h)]; exact s b u e
/-- all but the lists stand -/
def Kn (H H' : Hp) : Prop := ∀ b o, H b = some o → (∀ xs, o ≠ .lst xs) → H' b = some o
theorem Kn.of {H H' : Hp} (s : Same H H') : Kn H H' := fun b o h _ => s b o h
theorem Kn.trans {H H1 H2 : Hp} (a : Kn H H1) (b : Kn H1 H2) : Kn H H2 := fun x o h n => b x o (a x o h n) n
theorem Kn.kp {H H' : Hp} (k : Kn H H') : Kp H H' := ⟨fun a xs h => k a _ h (fun _ z => nomatch z), fun a o xs h => k a _ h (fun _ z => nomatch z)⟩
theorem Kn.lst {H : Hp} {a : Addr} {xs : List V} {o : HO} (h : H a = some (.lst xs)) : Kn H (upd H a o) := fun b u e n => by
  have hb : b ≠ a := fun z => by subst z; rw [h] at e; exact n xs (Option.some.inj e).symm
  rw [upd_ne hb]
  exact e
/-! ### what is walked -/
/-- in every heap that keeps H0 the walk J goes over r -/
structure Goes0 {α : Type} (J : It) (H0 : Hp) (r : List α) (F : Hp → V → α → Prop) : Prop where
  go : ∀ i H, Same H0 H → i < r.length → J.go i H
  stop : ∀ i H, Same H0 H → r.length ≤ i → J.stop i H
  yld : ∀ i H x H', Same H0 H → i < r.length → J.yld i H x H' → Same H H' ∧ ∃ t, r[i]? = some t ∧ F H' x t
theorem goes_list {K : PySem.W.Frag} {α : Type} {H0 : Hp} {a : Addr} {xs : List V} {r : List α} {F : V → α → Prop} (h : SqL K H0 a xs) (p : Paired F xs r) : Goes0 (Itl K a) H0 r fun _ => F where
  go := fun i H s hi => by
    have hx : i < xs.length := by rw [pd_len p]; exact hi
    exact ⟨xs, xs[i], s.seq h, List.getElem?_eq_getElem hx⟩
  stop := fun i H s hi => ⟨xs, s.seq h, by rw [pd_len p]; exact hi⟩
  yld := fun i H x H' s hi y => by
    obtain ⟨e, y⟩ := y
    subst e
    exact ⟨Same.refl _, pd_get p (y xs (s.seq h))⟩
theorem goes_tup {K : PySem.W.Frag} {α : Type} {H0 : Hp} {a : Addr} {xs : List V} {r : List α} {F : V → α → Prop} (h : SqT K H0 a xs) (p : Paired F xs r) : Goes0 (Itt K a) H0 r fun _ => F where
  go := fun i H s hi => by
    have hx : i < xs.length := by rw [pd_len p]; exact hi
    exact ⟨xs, xs[i], (Kp.of s).sqt h, List.getElem?_eq_getElem hx⟩
  stop := fun i H s hi => ⟨xs, (Kp.of s).sqt h, by rw [pd_len p]; exact hi⟩
  yld := fun i H x H' s hi y => by
    obtain ⟨e, y⟩ := y
    subst e
    exact ⟨Same.refl _, pd_get p (y xs ((Kp.of s).sqt h))⟩
theorem goes_keys {α : Type} {H0 : Hp} {d : Addr} {od : Obj} {kvs : List (Key × V)} {r : List α} {F : V → α → Prop} (h : H0 d = some (.frz od (.dK kvs))) (p : Paired F (kvs.map fun kv => kV kv.1) r) : Goes0 (Itk d od kvs) H0 r fun _ => F where
  go := fun i H s hi => ⟨s _ _ h, by have := pd_len p; rw [List.length_map] at this; omega⟩
  stop := fun i H s hi => ⟨s _ _ h, by have := pd_len p; rw [List.length_map] at this; omega⟩
  yld := fun i H x H' s hi y => by
    obtain ⟨e, k, v, y1, y2⟩ := y
    subst e y2
    exact ⟨Same.refl _, pd_get p (by rw [List.getElem?_map, y1]; rfl)⟩
theorem goes_vals {α : Type} {H0 : Hp} {d : Addr} {od : Obj} {kvs : List (Key × V)} {r : List α} {F : V → α → Prop} (h : H0 d = some (.frz od (.dK kvs))) (p : Paired F (kvs.map fun kv => kv.2) r) : Goes0 (Itd d od kvs) H0 r fun _ => F where
  go := fun i H s hi => ⟨s _ _ h, by have := pd_len p; rw [List.length_map] at this; omega⟩
  stop := fun i H s hi => ⟨s _ _ h, by have := pd_len p; rw [List.length_map] at this; omega⟩
  yld := fun i H x H' s hi y => by
    obtain ⟨e, k, y1⟩ := y
    subst e
    exact ⟨Same.refl _, pd_get p (by rw [List.getElem?_map, y1]; rfl)⟩
/-! ### [elt for target in J if ..], the block leaves what stands -/
theorem lc_any {α β : Type} {J : It} {H0 : Hp} {r : List α} {F : Hp → V → α → Prop} {g : TG} {tt : TT} {te : TE} {vs : List Nat} {σ : L2.St} {Q : Addr → Hp → Prop} (gg : α → Option β) (G : Hp → V → β → Prop)
    (hJ : Goes0 J H0 r F) (Gk : ∀ {H H' : Hp} {v : V} {b : β}, Kn H H' → G H v b → G H' v b) (hr : r.length ≤ 100000)
    (hs : ∀ (x : V) (t : α) (H : Hp) (Qy : V → Hp → Prop) (Qn : Hp → Prop), Same H0 H → F H x t → t ∈ r → (∀ y z H4, gg t = some z → Same H H4 → G H4 y z → Qy y H4) → (gg t = none → ∀ H3, Same H H3 → Qn H3) →
      g x (wipe σ vs) H fun σ2 H2 => wipe σ2 vs = wipe σ vs ∧ tt σ2 H2 fun b H3 => if b = true then te σ2 H3 Qy else Qn H3)
    (hd : ∀ D ws H', H0 D = none → Same H0 H' → H' D = some (.lst ws) → Paired (G H') ws (r.filterMap gg) → Q D H') :
    ∀ D, H0 D = none → ∃ W : Nat → Nat → Hp → Prop, (∃ m, W 0 m (upd H0 D (.lst []))) ∧ ∀ i m H, W i m H →
      (J.stop i H ∧ Q D H) ∨ (J.go i H ∧ ∃ Nx : Hp → Prop, (∀ H', Nx H' → ∃ m', m' < m ∧ W (i + 1) m' H') ∧ ∀ x H', J.yld i H x H' → g x (wipe σ vs) H' fun σ2 H2 => wipe σ2 vs = wipe σ vs ∧ tt σ2 H2 fun b H3 =>
        if b = true then te σ2 H3 fun y H4 => ∃ acc, H4 D = some (.lst acc) ∧ acc.length < sizeLine ∧ Nx (upd H4 D (.lst (acc ++ [y]))) else Nx H3) := by
  intro D hD
  refine ⟨fun i m H => m = r.length - i ∧ i ≤ r.length ∧ Same H0 H ∧ ∃ ws, H D = some (.lst ws) ∧ Paired (G H) ws ((r.take i).filterMap gg), ⟨_, rfl, Nat.zero_le _, same_new hD, [], upd_same, by rw [List.take_zero]; exact .nil⟩, ?_⟩
  rintro i m H ⟨rfl, hi, s, ws, hw, hp⟩
  by_cases hlt : i < r.length
  · refine .inr ⟨hJ.go i H s hlt, fun H' => Same H0 H' ∧ ∃ ws, H' D = some (.lst ws) ∧ Paired (G H') ws ((r.take (i + 1)).filterMap gg), fun H' ⟨s', ws', hw', hp'⟩ => ⟨r.length - (i + 1), by omega, rfl, hlt, s', ws', hw', hp'⟩, fun x H' y => ?_⟩
    obtain ⟨s1, t, ht, hf⟩ := hJ.yld i H x H' s hlt y
    have hw1 : H' D = some (.lst ws) := s1 _ _ hw
    have hp1 : Paired (G H') ws ((r.take i).filterMap gg) := pd_mono hp fun _ _ q => Gk (Kn.of s1) q
    refine hs x t H' _ _ (s.trans s1) hf (List.mem_of_getElem? ht) (fun y z H4 e s4 hg => ?_) (fun e H3 s3 => ?_)
    · have hw4 := s4 _ _ hw1
      have kp4 : Kn H4 (upd H4 D (.lst (ws ++ [y]))) := Kn.lst hw4
      refine ⟨ws, hw4, ?_, same_newer ((s.trans s1).trans s4) hD, ws ++ [y], upd_same, ?_⟩
      · have l1 := pd_len hp
        have l2 : ((r.take i).filterMap gg).length ≤ (r.take i).length := List.length_filterMap_le ..
        rw [List.length_take] at l2
        exact Nat.lt_of_le_of_lt (show ws.length ≤ 100000 by omega) (by decide)
      · rw [fm_snoc ht, e]
        exact pd_app (pd_mono hp1 fun _ _ q => Gk ((Kn.of s4).trans kp4) q) (.cons (Gk kp4 hg) .nil)
    · refine ⟨(s.trans s1).trans s3, ws, s3 _ _ hw1, ?_⟩
      rw [fm_snoc ht, e]
      show Paired (G H3) ws ((r.take i).filterMap gg ++ [])
      rw [List.append_nil]
      exact pd_mono hp1 fun _ _ q => Gk (Kn.of s3) q
  · have e : i = r.length := by omega
    subst e
    refine .inl ⟨hJ.stop _ _ s (Nat.le_refl _), hd D ws H hD s hw ?_⟩
    rw [List.take_length] at hp
    exact hp
/-! ### rows of data -/
/-- values that stand for data -/
def Ds (K : PySem.W.Frag) {α : Type} (enc : α → PyData) (H : Hp) : List V → List α → Prop := Paired fun v a => Dp K H v (enc a)
theorem Ds.all {K : PySem.W.Frag} {α : Type} {enc : α → PyData} {H : Hp} : ∀ {vs : List V} {r : List α}, Ds K enc H vs r → DpAll K H vs (r.map enc)
  | _, _, .nil => .nil
  | _, _, .cons h t => .cons h (Ds.all t)
theorem Ds.of : ∀ {K : PySem.W.Frag} {α : Type} {enc : α → PyData} {H : Hp} {vs : List V} {r : List α}, DpAll K H vs (r.map enc) → Ds K enc H vs r
  | _, _, _, _, _, [], .nil => .nil
  | _, _, _, _, _, _ :: _, .cons h t => .cons h (Ds.of t)
theorem Ds.kp {K : PySem.W.Frag} {α : Type} {enc : α → PyData} {H H' : Hp} {vs : List V} {r : List α} (h : Ds K enc H vs r) (k : Kp H H') (n : ∀ a, noL (enc a) = true) : Ds K enc H' vs r := pd_mono h fun _ b q => Dp.kp k _ _ (n b) q
/-- a list of data -/
theorem Ds.lst {K : PySem.W.Frag} {α : Type} {enc : α → PyData} {H : Hp} {a : Addr} {vs : List V} {r : List α} (h : Ds K enc H vs r) (l : SqL K H a vs) : Dp K H (.ref a) (.list (r.map enc)) := .lst l h.all
theorem Ds.tup {K : PySem.W.Frag} {α : Type} {enc : α → PyData} {H : Hp} {a : Addr} {vs : List V} {r : List α} (h : Ds K enc H vs r) (l : SqT K H a vs) : Dp K H (.ref a) (.tuple (r.map enc)) := .tup l h.all
/-- a thing of a row: its place and its entry -/
theorem th_parts {K : PySem.W.Frag} {H : Hp} {v : V} {t : M.Thing} (h : Dp K H v (thD t)) : ∃ a x y, v = .ref a ∧ SqT K H a [x, y] ∧ Dp K H x (plD t.1) ∧ Dp K H y (enD t.2) := by
  cases h with
  | tup hs ha =>
    cases ha with
    | cons h1 h2 =>
      cases h2 with
      | cons h3 h4 =>
        cases h4
        exact ⟨_, _, _, rfl, hs, h1, h3⟩
theorem pl_parts {K : PySem.W.Frag} {H : Hp} {v : V} {p : M.Pl} (h : Dp K H v (plD p)) : ∃ a, v = .ref a ∧ SqT K H a [.int p.1, .int p.2] := by
  cases h with
  | tup hs ha =>
    cases ha with
    | cons h1 h2 =>
      cases h2 with
      | cons h3 h4 =>
        cases h4
        cases h1
        cases h3
        exact ⟨_, rfl, hs⟩
theorem pl_mk {K : PySem.W.Frag} {H : Hp} {a : Addr} {p : M.Pl} (h : SqT K H a [.int p.1, .int p.2]) : Dp K H (.ref a) (plD p) := .tup h (.cons (.int _) (.cons (.int _) .nil))
end Wd
/-! ## RlB -/
set_option maxHeartbeats 200000
set_option Elab.async false
set_option linter.all false
set_option maxRecDepth 100000
/-! Own rules: a star in a target; sorted of a dict's values. -/
namespace Wd
open PySem PySem.Spec PyProof.Rows L2 PySem.W PySem.SeqAt
theorem pl_parts' {K : PySem.W.Frag} {H : Hp} {v : V} {p : M.Pl} (h : Dp K H v (plD p)) : ∃ a, v = .ref a ∧ SqT K H a [.int p.1, .int p.2] := by
  cases h with
  | tup hs ha =>
    cases ha with
    | cons h1 h2 =>
      cases h2 with
      | cons h3 h4 =>
        cases h4
        cases h1
        cases h3
        exact ⟨_, rfl, hs⟩
section
variable {prog : Program} {w : World} {A : Around} {E : Value → Shared → Prop} {s : Shared}
theorem star_last {l : Addr} {items : Array Value} {n : Nat} {Q : List Value → Shared → Prop} (hl : IsTup s.heap l items) (hh : A.handled = none) (hn : n ≤ items.size) (hz : items.size ≤ 16384)
    (h : ∀ (h₂ : Heap) (tk : Nat), (∀ b o, s.heap.get? b = some o → h₂.get? b = some o) → Q (items.toList.take n ++ [.ref h₂.objs.size]) { s with heap := h₂.push { cls := .type "list", data := .seq (items.toList.drop n).toArray }, toks := tk }) :
    wpAny (model prog w) A (unpackItems (.ref l) (n + 1) (some n)) Q E s := by
  have hlt : l ≠ s.heap.objs.size := by obtain ⟨o, ho, _⟩ := hl; exact Nat.ne_of_lt (Heap.lt_size ho)
  unfold unpackItems
  refine wpAny_bind ?_
  unfold notIterableAtAll
  refine wpAny_bind (wpAny_specialOf hl.typeIs PySem.F.slot_tuple_iter.lookup ?_)
  refine wpAny_pure ?_
  simp only [Bool.false_eq_true, if_false]
  refine wpAny_bind (wpAny_holding (iter_tuple hl ?_))
  refine wpAny_bind (wpAny_holding (draw_tuple hlt n 0 _ _ ⟨_, Heap.get?_push_size _ rfl, rfl, rfl⟩ (hl.push _) (by omega) fun h₁ hit₁ hs₁ => ?_))
  have hl₁ : IsTup h₁ l items := (hl.push _).extBut hs₁.extBut hlt
  rw [Nat.zero_add] at hit₁
  have hit₁' := hit₁
  obtain ⟨oi, hoi, _⟩ := hit₁'
  have hl₁' := hl₁
  obtain ⟨ol, hol, _⟩ := hl₁'
  rw [List.drop_zero]
  have hfl : (items.toList.take n).length = n := by rw [List.length_take, Array.length_toList]; omega
  rw [if_neg (show ¬ ((items.toList.take n).length < n) by rw [hfl]; omega)]
  refine wpAny_bind (wpAny_holding (kun_collect (s := { s with heap := h₁ }) (T := "tuple_iterator") (.inr (.inr (.inr rfl))) (Walks.tuple (A := A.in1) hh s.heap.objs.size l hlt items) (fun j u st => st.1.typeIs) (k := n) (by omega) ⟨hit₁, hl₁⟩ (Heap.lt_size hoi) (Heap.lt_size hol) (fun h₂ tk hk => ?_) (by rw [sizeLine_eq]; omega)))
  have hrl : (items.toList.drop n).length = items.size - n := by rw [List.length_drop, Array.length_toList]
  show wpAny _ _ (if (items.toList.drop n).length < n + 1 - 1 - n then _ else _) _ _ _
  rw [if_neg (by omega)]
  show wpAny _ _ (newList ((items.toList.drop n).take ((items.toList.drop n).length - (n + 1 - 1 - n))) >>= fun d => pure (items.toList.take n ++ [d] ++ (items.toList.drop n).drop ((items.toList.drop n).length - (n + 1 - 1 - n)))) _ _ _
  have e0 : (items.toList.drop n).length - (n + 1 - 1 - n) = (items.toList.drop n).length := by omega
  rw [e0, List.take_length, List.drop_length]
  have he : ∀ b o, s.heap.get? b = some o → h₂.get? b = some o := fun b o e => hk b o (Nat.ne_of_lt (Heap.lt_size e)) (hs₁.extBut b o (Nat.ne_of_lt (Heap.lt_size e)) (Heap.get?_push_of_some _ e))
  refine wpAny_bind (wpAny_newList ?_ (by rw [hrl, sizeLine_eq]; omega))
  refine wpAny_pure ?_
  rw [List.append_nil]
  exact h h₂ tk he
end
section
variable {X : Cx} {pos : Pos}
/-- a, b, *c = a tuple -/
def gStar (K : PySem.W.Frag) (n : Nat) (t : TGs) : TG := fun v σ H Q => ∃ a xs, v = .ref a ∧ SqT K H a xs ∧ n ≤ xs.length ∧ xs.length ≤ 16384 ∧ ∀ D, H D = none → t (xs.take n ++ [.ref D]) σ (upd H D (.lst (xs.drop n))) Q
theorem pg_star {es : List Expr} {k : Nat} {t : TGs} {n : Nat} (hc : X.calm = true) (h : PGs X es t)
    (hn : (assignEach es X.env).length = n + 1 := by rfl) (hst : (assignEach es X.env).findIdx? (·.1) = some n := by rfl) : PG X (.Tuple es k pos) (gStar X.K n t) := by
  refine ⟨fun pins s σ H v u Q I r hw => ?_⟩
  obtain ⟨a, xs, e1, hq, hl, hz, hw⟩ := hw
  subst e1
  cases r
  obtain ⟨its, rv, ht, _⟩ := I.tuple hq
  have hlen := rv.length
  rw [assign_Tuple]
  refine wpAny_bind (wpAny_standAt ?_)
  unfold unpack
  rw [hn, hst]
  refine wpAny_bind (wpAny_holding (star_last ht (I.ok.hd hc) (by simp; omega) (by simp; omega) fun h₂ tk hk => ?_))
  have I1 : Inv X pins σ H { s with heap := h₂, toks := tk } := I.kept (t' := tk) hk
  have hf : H h₂.objs.size = none := I1.hok.fresh (Nat.le_refl _)
  have hd : (xs.drop n).length ≤ sizeLine := by
    rw [List.length_drop]
    exact Nat.le_trans (Nat.sub_le _ _) (Nat.le_trans hz (by decide))
  have I2 : Inv X pins σ (upd H h₂.objs.size (.lst (xs.drop n))) { s with heap := h₂.push { cls := .type "list", data := .seq (its.toArray.toList.drop n).toArray }, toks := tk } :=
    I1.laid (t' := tk) (fun b o e => Heap.get?_push_of_some _ e) (Nat.le_refl _) ⟨hd, its.drop n, 0, rv.drop n, by simpa using Heap.get?_push_size _ rfl⟩
  refine h.run pins _ σ _ _ _ Q I2 ?_ (hw _ hf)
  have r1 : Vals (xs.take n) (its.toArray.toList.take n) := by simpa using rv.take n
  exact r1.append (.cons rfl .nil)
theorem pgs_star {x : Str} {p p2 : Pos} {g : TG} (h1 : PG X (.Name x p) g)
    (hs : (assignEach [.Starred (.Name x p) p2] X.env).map (·.2) = [assign (.Name x p) X.env] := by rfl) : PGs X [.Starred (.Name x p) p2] (gCons g gNil) := by
  refine ⟨fun pins s σ H vs us Q I r h => ?_⟩
  obtain ⟨v, vr, e1, h⟩ := h
  subst e1
  cases r with
  | cons r rr =>
    rw [hs]
    refine assignInOrder_cons (thn (h1.run pins s σ H _ _ _ I r h) fun _ s1 ⟨σ1, H1, I1, e2, q1⟩ => ?_)
    subst e2
    cases rr
    exact assignInOrder_nil ⟨σ1, H1, I1, q1⟩
end
/-! ### the sorted places -/
theorem plt_false (p q : M.Pl) : (!M.plt p q) = true ↔ q.1 < p.1 ∨ (q.1 = p.1 ∧ q.2 ≤ p.2) := by
  have h := plt_iff p q
  constructor
  · intro e
    have n : ¬ M.plt p q = true := by intro z; rw [z] at e; cases e
    have n2 : ¬ (p.1 < q.1 ∨ (p.1 = q.1 ∧ p.2 < q.2)) := fun z => n (h.mpr z)
    omega
  · intro e
    cases c : M.plt p q with
    | false => rfl
    | true => have := h.mp c; omega
abbrev geP (a b : M.Pl) : Bool := !M.plt a b
theorem geP_total : TotalLe geP where
  trans := fun a b c h1 h2 => by
    rw [plt_false] at h1 h2 ⊢
    omega
  total := fun a b => by
    rw [plt_false, plt_false]
    omega
theorem geP_anti {a b : M.Pl} (h1 : geP a b = true) (h2 : geP b a = true) : a = b := by
  rw [plt_false] at h1 h2
  exact Prod.ext (by omega) (by omega)
theorem insD_perm (x : M.Pl) : ∀ l, (M.insD x l).Perm (x :: l)
  | [] => .refl _
  | y :: r => by
    rw [M.insD]
    cases M.plt y x with
    | true => exact .refl _
    | false => exact ((insD_perm x r).cons y).trans (.swap x y r)
theorem sortD_perm : ∀ l, (M.sortD l).Perm l
  | [] => .refl _
  | x :: r => by
    rw [M.sortD]
    exact (insD_perm x _).trans ((sortD_perm r).cons x)
theorem insD_pw (x : M.Pl) : ∀ l, l.Pairwise (fun a b => geP a b = true) → (M.insD x l).Pairwise (fun a b => geP a b = true)
  | [], _ => by simp [M.insD]
  | y :: r, h => by
    obtain ⟨h1, h2⟩ := List.pairwise_cons.mp h
    rw [M.insD]
    cases c : M.plt y x with
    | true =>
      have e : geP x y = true := by
        rw [plt_false]
        have := (plt_iff y x).mp c
        omega
      refine List.pairwise_cons.mpr ⟨fun z hz => ?_, h⟩
      rcases List.mem_cons.mp hz with rfl | hz
      · exact e
      · exact geP_total.trans _ _ _ e (h1 z hz)
    | false =>
      have e : geP y x = true := by show (!M.plt y x) = true; rw [c]; rfl
      refine List.pairwise_cons.mpr ⟨fun z hz => ?_, insD_pw x r h2⟩
      rcases List.mem_cons.mp ((insD_perm x r).mem_iff.mp hz) with rfl | hz
      · exact e
      · exact h1 z hz
theorem sortD_pw : ∀ l, (M.sortD l).Pairwise (fun a b => geP a b = true)
  | [] => .nil
  | x :: r => insD_pw x _ (sortD_pw r)
theorem sort_eq (l : List M.Pl) : l.mergeSort (dataLe true plD) = M.sortD l := by
  have e : (dataLe true plD : M.Pl → M.Pl → Bool) = geP := by
    rw [dataLe_eq]
    funext a b
    show (!dataLt (plD a) (plD b)) = _
    rw [lt_pl]
  rw [e]
  refine List.Perm.eq_of_pairwise (le := fun a b => geP a b = true) (fun a b _ _ h1 h2 => geP_anti h1 h2) (sort_pairwise geP_total l) (sortD_pw l) ((List.mergeSort_perm l geP).trans (sortD_perm l).symm)
/-! ### e.values(); sorted(e.values(), reverse=True) of places -/
theorem each_get {α β : Type} {R : α → β → Prop} : ∀ {l : List α} {r : List β}, l.length = r.length → (∀ (i : Nat) (a : α) (b : β), l[i]? = some a → r[i]? = some b → R a b) → EachIs R l r
  | [], [], _, _ => .nil
  | a :: l, b :: r, h, f => .cons (f 0 a b rfl rfl) (each_get (by simpa using h) fun i x y h1 h2 => f (i + 1) x y (by simpa using h1) (by simpa using h2))
  | [], _ :: _, h, _ => by simp at h
  | _ :: _, [], h, _ => by simp at h
/-- values that stand for places -/
theorem each_vals {K : PySem.W.Frag} {H : Hp} : ∀ {us : List Value} {ps : List M.Pl}, EachIs (fun u p => ∃ x, RelV x u ∧ Dp K H x (plD p)) us ps → ∃ ws, Vals ws us ∧ Paired (fun x p => Dp K H x (plD p)) ws ps
  | _, _, .nil => ⟨[], .nil, .nil⟩
  | _, _, .cons ⟨x, r, d⟩ t => by
    obtain ⟨ws, h1, h2⟩ := each_vals t
    exact ⟨x :: ws, .cons r h1, .cons d h2⟩
section
variable {X : Cx}
def tVals (t : TE) : TE := fun σ H Q => t σ H fun x H1 => ∃ a kvs, x = .ref a ∧ H1 a = some (.dK kvs) ∧ ∀ p, H1 p = none → Q (.ref p) (upd H1 p (viewO "dict_values" p a))
theorem pe_vals {e : Expr} {t : TE} {apos cpos : Pos} (he : PE X e t) (hbase : attributeBase e "values" X.env (eval e X.env) = eval e X.env := by rfl) (hline : (apos.endLine == cpos.line) = true := by rfl) : PE X (.Call (.Attribute e "values" apos) [] [] cpos) (tVals t) := by
  refine ⟨fun pins s σ H Q I h => ?_⟩
  refine wpAny_Call_method (T := "dict") (id := "dict.values") hbase rfl hline F.plainAttrs_dict F.slot_dict_values F.type_dict_values (thn (he.run pins s σ H _ I h) fun u s1 ⟨x, H1, I1, rx, a, kvs, ex, hd, q⟩ => ?_)
  subst ex
  obtain rfl : u = Value.ref a := rx
  obtain ⟨hz, hs, vs, kv, hm⟩ := (show ObjOk X.prog X.w H1 s1.heap a (.dK kvs) from I1.hok a _ hd)
  refine ⟨hm.typeIs, hm.mapOf.noDict, ?_⟩
  show wpAny _ _ (callWith cpos (.builtin "dict.values") [.ref a] [] []) _ X.xe s1
  refine method_meetsIn F.slot_dict_values F.entry_dict_values rfl (PySem.evalArgs_none ⟨rfl, hm.typeIs, F.args_dict_values_1 _, _, meets_dict_values (mixKind X.prog X.w) a hs, ⟨vs, hm⟩, ?_⟩)
  exact ⟨.ref s1.heap.objs.size, _, I1.laid (t' := s1.toks) (fun b o q => Heap.get?_push_of_some _ q) (Nat.le_refl _) (viewO_ok (Heap.get?_push_size _ rfl)), rfl, q _ (I1.hok.fresh (Nat.le_refl _))⟩
def rSortVals (K : PySem.W.Frag) : List V → List V → Hp → VK → Prop := fun vs zs H Q => ∃ (p a : Addr) (kvs : List (Key × V)) (ps : List M.Pl), vs = [V.ref p] ∧ zs = [.bl true] ∧ H p = some (viewO "dict_values" p a) ∧ H a = some (.dK kvs) ∧
  Paired (fun x q => Dp K H x (plD q)) (kvs.map (·.2)) ps ∧ ps.length ≤ 100000 ∧ ∀ (D : Addr) (ws : List V), H D = none → Paired (fun x q => Dp K H x (plD q)) ws (M.sortD ps) → Q (.ref D) (upd H D (.lst ws))
theorem cr_sortVals (hc : X.calm = true) (hu : X.A.units + 64 < cLine) : CallRK X (.builtin "sorted") [Str.ofString "reverse"] (rSortVals X.K) := by
  intro pins s σ H vs zs us ws Q I r rz h
  obtain ⟨p, a, kvs, ps, rfl, rfl, hp, hd, hps, hlen, q⟩ := h
  rw [Vals.ref1 r]
  obtain ⟨w1, rfl, e1⟩ := vals1 rz
  obtain rfl : w1 = Value.bool true := e1
  obtain ⟨hz, hs, vs2, kv, hm⟩ := (show ObjOk X.prog X.w H s.heap a (.dK kvs) from I.hok a _ hd)
  obtain ⟨es, ep, hraw, hsz, hat⟩ := hm.raw
  have hv : s.heap.get? p = some (DSub.viewOb "dict_values" a) := (show ObjOk X.prog X.w H s.heap p (viewO "dict_values" p a) from I.hok p _ hp).1
  have l1 : kvs.length = vs2.length := Paired.length kv
  have l2 : kvs.length = ps.length := by
    have := Paired.length hps
    rw [List.length_map] at this
    exact this
  have hn : es.size ≤ sizeLine := by rw [hsz, ← l1]; exact hz
  refine call_function_entry_kw kind_sorted plain_sorted entry_sorted (args_sorted_rev _ _) ?_
  unfold Builtin.«sorted»
  refine wpAny_bind (m := checkCount "sorted" 1 1 _) (wpAny_pure ?_)
  refine wpAny_bind (kdu_collect (A := X.A.in1) (KdlSrc.rawValues (r := p) (d := a) (es := es) (ep := ep)) (I.ok.hd hc) ⟨⟨_, hv, rfl, rfl⟩, hraw⟩ hn fun h' tk acc hk hacc => ?_)
  have hal : acc.toList.length = es.size := by rw [Array.length_toList]; exact hacc.1
  have I1 : Inv X pins σ H { s with heap := h', toks := tk } := I.kept (t' := tk) hk
  have hE : EachIs (fun u b => ∃ x, RelV x u ∧ Dp X.K H x (plD b)) acc.toList ps := each_get (by rw [hal, hsz, ← l1, l2]) fun i u b h1 h2 => by
    obtain ⟨hi, eu⟩ := hacc.2 i u (by rw [← Array.getElem?_toList]; exact h1)
    obtain ⟨x, hx, dx⟩ : ∃ x, (kvs.map (·.2))[i]? = some x ∧ Dp X.K H x (plD b) := by
      have hi2 : i < (kvs.map (·.2)).length := by rw [List.length_map, l1, ← hsz]; exact hi
      refine ⟨(kvs.map (·.2))[i], List.getElem?_eq_getElem hi2, ?_⟩
      have : ∀ {l : List V} {r : List M.Pl} {j : Nat} {x : V} {t : M.Pl}, Paired (fun x q => Dp X.K H x (plD q)) l r → l[j]? = some x → r[j]? = some t → Dp X.K H x (plD t) := by
        intro l r j x t hp
        induction hp generalizing j with
        | nil => intro e; simp at e
        | cons f t ih =>
          intro e1 e2
          cases j with
          | zero =>
            simp at e1 e2
            rw [← e1, ← e2]
            exact f
          | succ j => exact ih (by simpa using e1) (by simpa using e2)
      exact this hps (List.getElem?_eq_getElem hi2) h2
    rw [List.getElem?_map] at hx
    cases ek : kvs[i]? with
    | none => rw [ek] at hx; cases hx
    | some kq =>
      rw [ek] at hx
      have ex : kq.2 = x := Option.some.inj hx
      obtain ⟨u2, hu2, ru⟩ := kv_get (v := kq.2) (k := kq.1) kv ek
      have e4 := (hat i hi _ _ hu2).2
      refine ⟨x, ?_, dx⟩
      rw [eu, e4, ← ex]
      exact ru
  have hR : EachIs (fun u b => ∃ as, Reads (h'.push { cls := .type "list", data := .seq acc.toList.toArray }) u (plD b) as ∧ h'.objs.size ∉ as) acc.toList ps := hE.mono fun u b ⟨x, rx, dx⟩ => by
    obtain ⟨c, rfl, hc2⟩ := pl_parts' dx
    cases rx
    obtain ⟨its, rv, ⟨o, ho, hcls, n, hdt⟩, _⟩ := I1.tuple hc2
    have hrd : ReadsAll (h'.push { cls := .type "list", data := .seq acc.toList.toArray }) its.toArray.toList [.int b.1, .int b.2] [] := by
      obtain ⟨u1, u2, e, r1, r2⟩ := vals2 rv
      subst e
      obtain ⟨t1, rfl⟩ := r1
      obtain ⟨t2, rfl⟩ := r2
      exact ReadsAll.cons (Reads.int _ _) (ReadsAll.cons (Reads.int _ _) ReadsAll.nil)
    exact ⟨[], Reads.tuple (Heap.get?_push_of_some _ ho) hcls hdt hrd, by simp⟩
  refine wpAny_bind (wpAny_newList ?_ (by rw [hal]; exact hn))
  refine wpAny_bind (wpAny_holding (list_sort_rev_data (b := true) (enc := plD) (bs := ps) (vs := acc.toList) (n := 0) (Heap.get?_push_size _ rfl) hE hR (AllAlike.of fun b b' => alike_pl b b') (Sortable.tuples fun b => ⟨_, _, rfl⟩) (Nat.le_trans hlen (by decide)) (fun b _ => by rw [pl_depth]; show X.A.units + 1 + 1 + 1 < cLine; omega) fun out ho heo => ?_))
  rw [sort_eq] at heo
  obtain ⟨ws2, hv2, hp2⟩ := each_vals heo
  have hD : H h'.objs.size = none := I1.hok.fresh (Nat.le_refl _)
  obtain ⟨c, hat2⟩ := sortedHeap_at (vs := acc.toList) (out := List.toArray out) (n := 0) (a := h'.objs.size) (h := h'.push { cls := .type "list", data := .seq acc.toList.toArray }) (Heap.get?_push_size _ rfl)
  refine wpAny_pure ⟨_, rfl, ?_⟩
  refine ⟨.ref h'.objs.size, _, I1.laid (t' := tk) (a := h'.objs.size) (o := .lst ws2) (fun b o e => ?_) (Nat.le_refl _) ⟨?_, out, c, hv2, hat2⟩, rfl, q _ ws2 hD hp2⟩
  · refine (sortedHeap_old (Nat.ne_of_lt (Heap.lt_size e)) ?_).trans (Heap.get?_push_of_some _ e)
    exact Heap.lt_size (Heap.get?_push_of_some _ e)
  · rw [hv2.length, ho]
    exact Nat.le_trans hlen (by decide)
end
end Wd
/-! ## Kr -/
set_option maxHeartbeats 200000
set_option Elab.async false
set_option linter.all false
set_option maxRecDepth 100000
/-! Rules with the written part named; readings of the usual forms. -/
namespace Wd
open PySem PySem.Spec PyProof.Rows L2 PySem.W PySem.SeqAt
/-- a def keeps its promise, and its arguments bind -/
def Df (P : Program) (w : World) (K : PySem.W.Frag) (mg : Str → Option Value) (base : Heap) (k : Nat) (f : Addr) (ps : List Str) (sp : Sp) : Prop :=
  ∃ fd, FnOk P w K mg base CX0 k f fd ps sp ∧ Binds K fd ps [] ∧ PySem.W.keepIn K (.ref f) = true
section
variable {P : Program} {w : World} {K : PySem.W.Frag} {mg : Str → Option Value} {base : Heap}
theorem df_mk {x qual : Str} {st : Stmt} {f : Addr} {N ps : List Str} {k : Nat} {sp : Sp} (F : ∃ fd, FunD K x qual (defArgs st) (defBody st) (defScope st) [] [] f fd) (S : FnScope N ps (defScope st)) (len : ∀ vs H Q E, sp vs H Q E → vs.length = ps.length)
    (hb : ∀ (kV doc pm : Value) (an : Option Addr) (cdv ct : Value) (us : List Value), us.length = ps.length → bindArgs (PySem.W.fnOf x qual (defArgs st) (defBody st) (defScope st) .none kV doc pm an cdv ct) ⟨us, []⟩ = pure (ps.zip us))
    (hbody : ∀ (cdv : Value) (A : Around) (outer : List Env) (s : Shared) (H : Hp) (vs : List V) (Q : VK) (E : XK), Room k (A.deeper (envOfC qual (defScope st) s.heap.objs.size f cdv)) → sp vs H Q E →
      ∃ t, PSs (cxOf CX0 P w K mg base N qual (defScope st) f cdv A outer s H E).nox (defBody st) t ∧ t { nx := fun _ H' => Q .non H', rt := Q } (start N vs) H) : Df P w K mg base (k + 1) f ps sp := by
  obtain ⟨fd, F⟩ := F
  refine ⟨fd, F.ok S len (fun cdv A outer s H vs Q E hr h => ?_), F.bindsN hb, F.kp⟩
  obtain ⟨t, h1, h2⟩ := hbody cdv A outer s H vs Q E hr h
  exact ⟨t, h1.nox, h2⟩
theorem Df.imp {k : Nat} {f : Addr} {ps : List Str} {sp sp' : Sp} (d : Df P w K mg base k f ps sp) (h : ∀ vs H Q E, sp' vs H Q E → sp vs H Q E) : Df P w K mg base k f ps sp' := by
  obtain ⟨fd, F, b, kp⟩ := d
  exact ⟨fd, F.imp h, b, kp⟩
end
theorem hu65 {A : Around} {k : Nat} (hr : Room k A) : A.units + 65 < cLine := by have := hr.un; omega
abbrev lateK : Key := Sum.inr ("late" : Str)
theorem bT {p : Prop} [Decidable p] (h : p) : V.bl (decide p) = V.bl true := congrArg V.bl (decide_eq_true h)
theorem bF {p : Prop} [Decidable p] (h : ¬ p) : V.bl (decide p) = V.bl false := congrArg V.bl (decide_eq_false h)
theorem bNT {p : Prop} [Decidable p] (h : p) : V.bl (!decide p) = V.bl false := congrArg (fun b => V.bl (!b)) (decide_eq_true h)
theorem bNF {p : Prop} [Decidable p] (h : ¬ p) : V.bl (!decide p) = V.bl true := congrArg (fun b => V.bl (!b)) (decide_eq_false h)
theorem bE {a b : Bool} (h : a = b) : V.bl a = V.bl b := congrArg V.bl h
theorem bNE {a b : Bool} (h : a = b) : V.bl (!a) = V.bl (!b) := congrArg (fun c => V.bl (!c)) h
section
variable {X : Cx} {K : PySem.W.Frag}
theorem kIxT (e : X.K = K) : IxR X (rIxT K) := e ▸ ix_tup
theorem kIxL (e : X.K = K) : IxR X (rIxL K) := e ▸ ix_list
theorem kLe (e : X.K = K) (hu : X.A.units + 64 < cLine) : OpR X (compareOp .LtE) (rLeD K) := e ▸ op_leD hu
theorem kLt (e : X.K = K) (hu : X.A.units + 64 < cLine) : OpR X (compareOp .Lt) (rLtD K) := e ▸ op_ltD hu
theorem kGt (e : X.K = K) (hu : X.A.units + 64 < cLine) : OpR X (compareOp .Gt) (rGtD K) := e ▸ op_gtD hu
theorem kGe (e : X.K = K) (hu : X.A.units + 64 < cLine) : OpR X (compareOp .GtE) (rGeD K) := e ▸ op_geD hu
theorem kEqD (e : X.K = K) (hu : X.A.units + 64 < cLine) : OpR X (compareOp .Eq) (rEqD K) := e ▸ op_eqD hu
theorem kNeD (e : X.K = K) (hu : X.A.units + 64 < cLine) : OpR X (compareOp .NotEq) (rNeD K) := e ▸ op_neD hu
theorem kInD (e : X.K = K) (hu : X.A.units + 65 < cLine) : OpR X (compareOp .In) (rInD K) := e ▸ op_inD hu
theorem kInS (e : X.K = K) : OpR X (compareOp .In) (rIn K false) := e ▸ op_in_seq
theorem kNotInS (e : X.K = K) : OpR X (compareOp .NotIn) (rIn K true) := e ▸ op_notIn_seq
theorem kLen (e : X.K = K) : CallR X (.builtin "len") (fun xs H Q => ∃ p ys, xs = [.ref p] ∧ (SqL K H p ys ∨ SqT K H p ys) ∧ Q (.int ys.length) H) := e ▸ call_len_seq
theorem kMax (e : X.K = K) (hc : X.calm = true) (hu : X.A.units + 64 < cLine) : CallR X (.builtin "max") (rMaxD K) := e ▸ cr_maxD hc hu
theorem kMin (e : X.K = K) (hc : X.calm = true) (hu : X.A.units + 64 < cLine) : CallR X (.builtin "min") (rMinD K) := e ▸ cr_minD hc hu
/-- whether a value is an instance of a built-in class -/
def IsiV (K : PySem.W.Frag) (H : Hp) (x : V) (T : String) (b : Bool) : Prop := ∃ t, TyX K H x t ∧ PySem.W.kitOne K t (.type T) = some b
def rIs (K : PySem.W.Frag) : List V → Hp → VK → Prop := fun xs H Q => ∃ x T b, xs = [x, V.ty T] ∧ IsiV K H x T b ∧ Q (.bl b) H
theorem kIsi (e : X.K = K) : CallR X (.builtin "isinstance") (rIs K) := by
  subst e
  intro pins s σ H xs us Q I r h
  obtain ⟨x, T, b, rfl, ⟨t, ty, k⟩, q⟩ := h
  exact call_isi pins s σ H _ us Q I r ⟨x, .ty T, t, .type T, b, rfl, .ty _, ty, k, q⟩
theorem kTup {es : List Expr} {k : Nat} {t : TGs} {n : Nat} {pos : Pos} (e : X.K = K) (hc : X.calm = true) (h : PGs X es t)
    (hn : (assignEach es X.env).length = n := by rfl) (hst : (assignEach es X.env).findIdx? (·.1) = none := by rfl) : PG X (.Tuple es k pos) (gTup K n t) := e ▸ pg_tup hc h hn hst
/-! ### fields of the one class -/
def tF (C : Addr) (f : Str) (ta : TE) : TE := fun σ H Q => ta σ H fun x H1 => ∃ a dx fs v, x = .ref a ∧ H1 a = some (.ins C dx fs) ∧ fs.lookup f = some v ∧ Q v H1
theorem kFld {C : Addr} {o : Expr} {f : Str} {pos : Pos} {ta : TE} (eK : X.K = K) (c : Cls K C) (n : NoAttr K C f) (he : PE X o ta) (hb : attributeBase o f X.env (eval o X.env) = eval o X.env := by rfl) : PE X (.Attribute o f pos) (tF C f ta) := by
  subst eK
  refine ⟨fun pins s σ H Q I h => ?_⟩
  refine attr_of hb (thn (he.run pins s σ H _ I h) fun u s1 ⟨x, H1, I1, rx, a, dx, fs, v, ex, ea, l, q⟩ => ?_)
  subst ex
  obtain rfl : u = Value.ref a := rx
  exact getattr_ok I1 ea c n l fun u' s2 I2 ru => ⟨v, H1, I2, ru, q⟩
def sS (C : Addr) (f : Str) (ta tv : TE) : TS := fun D σ H => tv σ H fun y H1 => ta σ H1 fun x H2 => ∃ a dx fs, x = .ref a ∧ H2 a = some (.ins C dx fs) ∧ fs.length < 1000 ∧ D.nx σ (upd H2 a (.ins C dx (putF f y fs)))
theorem kSet {C : Addr} {o value : Expr} {f : Str} {pos pos' : Pos} {ta tv : TE} (eK : X.K = K) (c : Cls K C) (n : NoAttr K C f) (ha : PE X o ta) (hv : PE X value tv) (hs : swapsWith value (some (.Attribute o f pos')) pos.line X.env = pure false) :
    PS X (.Assign [.Attribute o f pos'] value pos) (sS C f ta tv) := by
  subst eK
  refine ⟨fun pins s σ H D I h => ?_⟩
  refine plainObj_wpAny_Assign_Attribute (thn (hv.run pins s σ H _ I h) fun u s1 ⟨y, H1, I1, ry, q⟩ => thn (ha.run pins s1 σ H1 _ I1 q) fun ov s2 ⟨x, H2, I2, rx, a, dx, fs, ex, ea, l, q2⟩ => ?_) hs
  subst ex
  obtain rfl : ov = Value.ref a := rx
  exact setattr_ok I2 ea c n l ry fun s3 I3 => ⟨σ, _, I3, q2⟩
def sA (C : Addr) (f : Str) (ta tv : TE) (rd : V → V → Hp → VK → Prop) : TS := fun D σ H => ta σ H fun x H1 => ∃ a dx fs v, x = .ref a ∧ H1 a = some (.ins C dx fs) ∧ fs.lookup f = some v ∧
  tv σ H1 fun y H2 => rd v y H2 fun z H3 => ∃ dx' fs', H3 a = some (.ins C dx' fs') ∧ fs'.length < 1000 ∧ D.nx σ (upd H3 a (.ins C dx' (putF f z fs')))
theorem kAug {C : Addr} {o value : Expr} {f : Str} {tpos pos : Pos} {ta tv : TE} (eK : X.K = K) (c : Cls K C) (n : NoAttr K C f) (ha : PE X o ta) (hv : PE X value tv) : PS X (.AugAssign (.Attribute o f tpos) .Add value pos) (sA C f ta tv rAdd) := by
  subst eK
  refine ⟨fun pins s σ H D I h => ?_⟩
  refine wpAny_AugAssign_AttributeAny (thn (ha.run pins s σ H _ I h) fun ov s1 ⟨x, H1, I1, rx, a, dx, fs, v, ex, ea, l, q⟩ => ?_)
  subst ex
  obtain rfl : ov = Value.ref a := rx
  refine getattr_ok I1 ea c n l fun u s2 I2 ru => thn (hv.run pins s2 σ H1 _ I2 q) fun w3 s3 ⟨y, H2, I3, ry, q3⟩ => thn (in_add pins s3 σ H2 v y u w3 _ I3 ru ry q3) fun w4 s4 ⟨z, H3, I4, rz, dx', fs', ea', l', q4⟩ => ?_
  exact setattr_ok I4 ea' c n l' rz fun s5 I5 => ⟨σ, _, I5, q4⟩
end
/-! ### isinstance: what is asked of usual values -/
section
variable {K : PySem.W.Frag} {H : Hp} {Q : VK}
theorem tyx_tup {a : Addr} {xs : List V} (h : SqT K H a xs) : TyX K H (.ref a) (.type "tuple") := by
  rcases h with (h | ⟨o, h⟩) | ⟨o, its, n, h1, h2, _⟩
  · exact .base (.tup h)
  · exact .fTuple h
  · exact .kTuple h1 h2
theorem isi_tup {a : Addr} {xs : List V} (h : SqT K H a xs) : IsiV K H (.ref a) "tuple" true := ⟨_, tyx_tup h, kit_ty (by decide +kernel)⟩
theorem isi_int {i : Int} : IsiV K H (.int i) "int" true := ⟨_, .base (.int i), kit_ty (by decide +kernel)⟩
theorem isi_int_bool {i : Int} : IsiV K H (.int i) "bool" false := ⟨_, .base (.int i), kit_ty (by decide +kernel)⟩
theorem isi_str {z : Str} : IsiV K H (.str z) "str" true := ⟨_, .base (.str z), kit_ty (by decide +kernel)⟩
/-- all of a list of truths -/
theorem all_true {xs : List V} {α : Type} {r : List α} (h : Paired (fun v (_ : α) => v = V.bl true) xs r) : ∃ bs : List Bool, xs = bs.map V.bl ∧ bs.all id = true := by
  induction h with
  | nil => exact ⟨[], rfl, rfl⟩
  | cons f t ih =>
    obtain ⟨bs, e, a⟩ := ih
    exact ⟨true :: bs, by rw [f, e]; rfl, by simp [a]⟩
end
section
variable {X : Cx} {K : PySem.W.Frag}
/-! ### dict(d), list to names, the table of forms -/
theorem call_dictD : CallR X (.type "dict") (fun xs H Q => ∃ a kvs, xs = [V.ref a] ∧ Rd H a (.dK kvs) ∧ ∀ p, H p = none → Q (.ref p) (upd H p (.dK kvs))) := by
  intro pins s σ H xs us Q I r h
  obtain ⟨a, kvs, rfl, ha, q⟩ := h
  rw [Vals.ref1 r]
  exact d_copyOf I ha fun p s' hp I' => ⟨.ref p, _, I', rfl, q p hp⟩
theorem kUnl {es : List Expr} {k : Nat} {t : TGs} {n : Nat} {pos : Pos} (e : X.K = K) (hc : X.calm = true) (h : PGs X es t)
    (hn : (assignEach es X.env).length = n := by rfl) (hst : (assignEach es X.env).findIdx? (·.1) = none := by rfl) : PG X (.Tuple es k pos) (gUnl K n t) := e ▸ pg_unl hc h hn hst
def rKdNI (K : PySem.W.Frag) (d : Addr) : R2 := fun x y H Q => ∃ (z : Str) (r : Option Value), x = .str z ∧ y = .ref d ∧ PySem.W.nsIn K d z = some r ∧ Q (.bl (!r.isSome)) H
theorem kFormsNI {d : Addr} {es : Array DictEntry} {n : Nat} (e : X.K = K) (D : KDict K X.w d es n) : OpR X (compareOp .NotIn) (rKdNI K d) := by
  subst e
  exact op_notIn_kd D
def tKdGet (K : PySem.W.Frag) (d : Addr) (to ti : TE) : TE := fun σ H Q => to σ H fun x H1 => ti σ H1 fun y H2 => ∃ (z : Str) (u0 : Value) (v0 : V), x = .ref d ∧ y = .str z ∧ PySem.W.nsIn K d z = some (some u0) ∧ RelV v0 u0 ∧ Q v0 H2
theorem kForms {d : Addr} {es : Array DictEntry} {n : Nat} {o i : Expr} {pos : Pos} {to ti : TE} (e : X.K = K) (D : KDict K X.w d es n) (ho : PE X o to) (hi : PE X i ti) (hs : NoSl i) : PE X (.Subscript o i pos) (tKdGet K d to ti) := by
  subst e
  refine ⟨fun pins s σ H Q I h => ?_⟩
  refine subD_of PySem.F.slot_dict_getitem.lookup hs (thn (ho.run pins s σ H _ I h) fun u s1 ⟨x, H1, I1, rx, q1⟩ => thn (hi.run pins s1 σ H1 _ I1 q1) fun iv s2 ⟨y, H2, I2, ry, z, u0, v0, ex, ey, en, rv, q2⟩ => ?_)
  subst ex
  obtain rfl : u = Value.ref d := rx
  exact ⟨kd_type D I2, op_item_kd D pins s2 σ H2 (.ref d) y (.ref d) iv Q I2 rfl ry ⟨z, u0, v0, rfl, ey, en, rv, q2⟩⟩
end
end Wd
/-! ## KF -/
set_option maxHeartbeats 200000
set_option Elab.async false
set_option linter.all false
set_option maxRecDepth 100000
namespace Wd
open PySem PySem.Spec PyProof.Rows L2 PySem.W PySem.SeqAt
section
variable {X : Cx} {K : PySem.W.Frag}
def gF (C : Addr) (f : Str) (ta : TE) : TG := fun v σ H Q => ta σ H fun x H1 => ∃ a dx fs, x = .ref a ∧ H1 a = some (.ins C dx fs) ∧ fs.length < 1000 ∧ Q σ (upd H1 a (.ins C dx (putF f v fs)))
theorem kPgF {C : Addr} {o : Expr} {f : Str} {pos : Pos} {ta : TE} (eK : X.K = K) (c : Cls K C) (n : NoAttr K C f) (ho : PE X o ta) : PG X (.Attribute o f pos) (gF C f ta) := by
  subst eK
  refine ⟨fun pins s σ H v u Q I r h => ?_⟩
  rw [assign_Attribute]
  refine wpAny_bind (wpAny_holding (thn (ho.run pins s σ H _ I h) fun ov s1 ⟨x, H1, I1, r1, a, dx, fs, ex, ea, l, q⟩ => ?_))
  subst ex
  obtain rfl : ov = Value.ref a := r1
  refine wpAny_bind (wpAny_standAt (wpAny_bind (wpAny_holding (setattr_ok I1 ea c n l r fun s2 I2 => ?_))))
  exact wpAny_release ⟨σ, _, I2, q⟩
end
end Wd
/-! ## RlC -/
set_option maxHeartbeats 200000
set_option Elab.async false
set_option linter.all false
set_option maxRecDepth 100000
/-! len(set(t)) of a tuple of distinct texts. -/
namespace Wd
open PySem PySem.Spec PyProof.Rows
theorem loopTx {prog : Program} {w : World} {A : Around} {R : Result → Shared → Prop} {I : Addr} {fp wr : List Addr} {G : Array GenState → Array GenState → Prop} {n : Nat} {P : Nat → Value → Prop} {St : Nat → Shared → Prop}
    (W : WalksS prog w A.in1 I fp wr G n P St) (S : Addr) (hSf : S ∉ fp) (xs : List Str) (hsz : xs.length = n) (nd : xs.Nodup) (hb : n + 1 < scanBound)
    (hval : ∀ i v, P i v → ∃ z t, xs[i]? = some z ∧ v = .str z t) :
    ∀ (k i : Nat) (s : Shared), n - i = k → i ≤ n → St i s →
      s.heap.SetOf (PySem.strKind prog w) S (fun k' => decide (k' ∈ xs.take i)) i →
      (∀ s', Moved (S :: wr) G s s' → s'.heap.SetOf (PySem.strKind prog w) S (fun k' => decide (k' ∈ xs)) n → R (.ok (.ret .none)) s') →
      codeAny (model prog w) A (.builtin "set.update.loop" ⟨[.ref S, .ref I], []⟩) R s := by
  have hSw : S ∉ wr := fun h => hSf (W.sub _ h)
  have hsub : ∀ b ∈ wr, b ∈ S :: wr := fun b hb => List.mem_cons_of_mem _ hb
  intro k
  induction k with
  | zero =>
    intro i s hk hi hst hS hR
    have hin : i = n := by omega
    subst hin
    refine codeAny_builtin PyProof.Rows.F.entry_set_update_loop ?_
    rw [Around.under_plainId PyProof.Rows.F.plain_set_update_loop _]
    show wpAny _ A.in1 (pyNext (.ref I) >>= _) _ _ s
    refine wpAny_bind (W.done s _ _ hst fun s' hm => ?_)
    show wpAny _ A.in1 (ret Value.none) _ _ s'
    rw [List.take_of_length_le (Nat.le_of_eq hsz)] at hS
    exact wpAny_pure (hR s' (hm.mono hsub) (by
      obtain ⟨o, es, ep, t, ho, rest⟩ := hS
      exact ⟨o, es, ep, t, hm.heap S _ hSw ho, rest⟩))
  | succ k ih =>
    intro i s hk hi hst hS hR
    have hlt : i < n := by omega
    refine codeAny_builtin PyProof.Rows.F.entry_set_update_loop ?_
    rw [Around.under_plainId PyProof.Rows.F.plain_set_update_loop _]
    show wpAny _ A.in1 (pyNext (.ref I) >>= _) _ _ s
    refine wpAny_bind (W.item i s _ _ hlt hst fun v s' hP hst' hm => ?_)
    obtain ⟨z, t, hz, rfl⟩ := hval i v hP
    have hS' : s'.heap.SetOf (PySem.strKind prog w) S (fun k' => decide (k' ∈ xs.take i)) i := by
      obtain ⟨o, es, ep, tb, ho, rest⟩ := hS
      exact ⟨o, es, ep, tb, hm.heap S _ hSw ho, rest⟩
    show wpAny _ A.in1 (holding [Value.str z t] (setAdd S (.str z t)) >>= _) _ _ s'
    refine wpAny_bind (wpAny_holding ?_)
    unfold setAdd
    refine wpAny_holding ?_
    refine wpAny_bind ((PySem.strKind prog w).pyHash (k := z) (strKind_is _ _ _ _) ?_)
    refine wpAny_setAddHashed_of (knd := PySem.strKind prog w) (s := { s' with toks := s'.toks + 1 }) (strKind_is _ _ _ _) rfl hS' (by omega) fun h' hsb hS2 => ?_
    have hni : z ∉ xs.take i := fun m => by
      obtain ⟨j, hj, e⟩ := List.getElem_of_mem m
      rw [List.length_take] at hj
      rw [List.getElem_take] at e
      obtain ⟨hi2, e2⟩ := List.getElem?_eq_some_iff.mp hz
      exact List.pairwise_iff_getElem.mp nd j i (by omega) hi2 (by omega) (by rw [e, e2])
    have hSi : h'.SetOf (PySem.strKind prog w) S (fun k' => decide (k' ∈ xs.take (i + 1))) (i + 1) := by
      refine SetOf_congr hS2 (fun k' => ?_) (by simp [hni])
      rw [List.take_add_one, hz]
      simp [List.mem_append]
    refine wpAny_pure ⟨plainId_quiet PyProof.Rows.F.plain_set_update_loop _, ih (i + 1) _ (by omega) hlt (W.frame _ s' _ _ hst' (Nat.le_succ _) fun b hb o e => ?_) hSi fun s'' hm'' hS'' => ?_⟩
    · rw [hsb.2 b (fun h : b = S => hSf (by rw [← h]; exact hb))]; exact e
    · refine hR s'' (Moved.trans W.gtrans ((hm.mono hsub).then_heap (Nat.le_succ _) fun b o hb e => ?_) hm'') hS''
      rw [hsb.2 b (fun h : b = S => hb (by rw [h]; exact List.mem_cons_self))]; exact e
section
variable {prog : Program} {w : World} {A : Around} {E : Value → Shared → Prop} {s : Shared}
set_option maxHeartbeats 3200000 in
theorem set_of_names {l : Addr} {items : Array Value} {xs : List Str} {Q : Value → Shared → Prop}
    (hh : A.handled = none) (hl : s.heap.IsTuple l items) (hi : PyProof.Rows.StrsAre items.toList xs) (nd : xs.Nodup) (hb : xs.length + 1 < scanBound)
    (h : ∀ (h' : Heap) (tk : Nat), h'.SetOf (PySem.strKind prog w) s.heap.objs.size (fun k' => decide (k' ∈ xs)) xs.length →
      (∀ b o, b < s.heap.objs.size → s.heap.get? b = some o → h'.get? b = some o) → Q (.ref s.heap.objs.size) { s with heap := h', toks := tk }) :
    wpAny (model prog w) A (call (.type "set") [.ref l]) Q E s := by
  obtain ⟨c, tl, hmro⟩ := PySem.F.called_set.mro
  have hmade := PySem.F.called_set.made
  have hsub := PySem.F.called_set.sub
  refine wpAny_call (codeAny_of_tree ?_)
  show wpAny _ _ (callAny (.type "set") _) _ _ _
  refine wpAny_pure ⟨Code.quiet_builtin _ (by decide +kernel), codeAny_builtin PySem.F.entry_type_call ?_⟩
  rw [Around.under_plain (weight_type_call_type "set" [.ref l] []) rfl]
  have h1 := PySem.F.called_set.notType
  have h2 := PySem.F.called_set.canCreate
  have hct := PySem.F.typeCall_set_1 (.ref l)
  repeat (any_goals (first | assumption | wp_step))
  refine codeAny_mono (code_set_new_1 (.ref l) (E := E) (Q₁ := fun obj s₁ => ∃ led : Bool, obj = .ref s.heap.objs.size ∧ s₁ = { s with heap := s.heap.push { cls := .type "set", dict := none, data := .set #[] 0 (.fresh 0 0 led) } }) fun led => ⟨led, rfl, rfl⟩) fun r s₁ hr => ?_
  cases r with
  | error e => exact hr
  | ok fl =>
    cases fl with
    | ret obj =>
      obtain ⟨led, rfl, rfl⟩ := hr
      have hS : (s.heap.push { cls := .type "set", dict := none, data := .set #[] 0 (.fresh 0 0 led) }).get? s.heap.objs.size = some { cls := .type "set", dict := none, data := .set #[] 0 (.fresh 0 0 led) } := Heap.get?_push_size _ rfl
      have hT : Shared.TypeIs { s with heap := s.heap.push { cls := .type "set", dict := none, data := .set #[] 0 (.fresh 0 0 led) } } (.ref s.heap.objs.size) "set" := ⟨_, hS, rfl⟩
      have hli := PySem.F.called_set.init.lookup
      have hbi := PySem.F.called_set.init.bind (.ref s.heap.objs.size)
      have hS0 : ∀ o2, ((s.heap.push { cls := .type "set", dict := none, data := .set #[] 0 (.fresh 0 0 led) }).push o2).SetOf (PySem.strKind prog w) s.heap.objs.size (fun k' => decide (k' ∈ xs.take 0)) 0 := fun o2 =>
        PyProof.Rows.SetOf_congr ((PyProof.Rows.setObjOf_fresh (knd := PySem.strKind prog w) led).setOf (Heap.get?_push_of_some _ hS) (by unfold scanBound; omega)) (fun _ => by simp) rfl
      repeat (any_goals (first | assumption | wp_step))
      refine codeAny_mono (codeAny_call_builtin (R := wants (fun r s₂ => r = .none ∧ ∃ h' tk, s₂ = { s with heap := h', toks := tk } ∧
          h'.SetOf (PySem.strKind prog w) s.heap.objs.size (fun k' => decide (k' ∈ xs)) xs.length ∧
          (∀ b o, b < s.heap.objs.size → s.heap.get? b = some o → h'.get? b = some o)) E) PySem.F.called_set.init.plain PySem.F.entry_set_init (check_set_init_1 hT ?_)) fun r₂ s₂ hr₂ => ?_
      · have hlS : l < s.heap.objs.size := Heap.lt_size hl.choose_spec.1
        have hl1 : (s.heap.push { cls := .type "set", dict := none, data := .set #[] 0 (.fresh 0 0 led) }).IsTuple l items := hl.push _
        obtain ⟨ol, hol, hcl, nl, hdl⟩ := hl
        obtain ⟨ocls, odict, odata, oslots⟩ := ol
        simp only at hcl hdl
        subst hcl; subst hdl
        have hol' : (s.heap.push { cls := .type "set", dict := none, data := .set #[] 0 (.fresh 0 0 led) }).get? l = some { cls := .type "tuple", dict := odict, data := .seq items nl, slots := oslots } := Heap.get?_push_of_some _ hol
        have hsls := PySem.F.sub_tuple_set
        have hslf := PySem.F.sub_tuple_frozenset
        have hne : (Value.type "tuple" == Value.type "dict") = false := by decide
        unfold Builtin.«set.__init__» noKeywords Builtin.Frozenset.updateFrom
        generalize hPI : pyIter = PI
        wp_walk
        subst hPI
        refine wpAny_pyIter_tuple hl1 ?_
        refine wpAny_bind (wpAny_runValue ?_)
        have hh3 : A.in1.in1.in1.handled = none := by simp [hh]
        have hneI : l ≠ (s.heap.push { cls := .type "set", dict := none, data := .set #[] 0 (.fresh 0 0 led) }).objs.size := by
          rw [Heap.size_push]; exact Nat.ne_of_lt (Nat.lt_succ_of_lt hlS)
        have hSf : s.heap.objs.size ∉ [(s.heap.push { cls := .type "set", dict := none, data := .set #[] 0 (.fresh 0 0 led) }).objs.size, l] := by
          rw [Heap.size_push]; simp only [List.mem_cons, List.mem_singleton, List.not_mem_nil, or_false, not_or]
          exact ⟨Nat.ne_of_lt (Nat.lt_succ_self _), Nat.ne_of_gt hlS⟩
        have hsz : xs.length = items.size := by rw [← StrsAre.len_eq hi, Array.length_toList]
        have hval : ∀ (i : Nat) (v : Value), items[i]? = some v → ∃ z t, xs[i]? = some z ∧ v = .str z t := fun i v hv => by
          obtain ⟨t, e⟩ := SS.strs_at hi i v (by rw [Array.getElem?_toList]; exact hv)
          have hlt : i < xs.length := by rw [hsz]; exact (Array.getElem?_eq_some_iff.mp hv).1
          refine ⟨xs[i], t, List.getElem?_eq_getElem hlt, ?_⟩
          rw [e, List.getD_eq_getElem?_getD, List.getElem?_eq_getElem hlt]; rfl
        refine loopTx ((Walks.tuple hh3 _ l hneI items).toS) s.heap.objs.size hSf xs hsz nd (by omega) hval (items.size - 0) 0 _ (by omega) (Nat.zero_le _)
          ⟨⟨_, Heap.get?_push_size _ rfl, rfl, rfl⟩, (hl1.push _)⟩ (hS0 _) ?_
        intro s' hm hS'
        obtain ⟨h', g', d', tk', os'⟩ := s'
        have eg : g' = s.gens := hm.gens
        have ed : d' = s.drawn := hm.drawn
        have eo : os' = s.os := hm.os
        subst eg; subst ed; subst eo
        show wpAny _ _ _ _ _ _
        refine wpAny_pure ?_
        show wpAny _ _ (ret Value.none) _ _ _
        rw [← hsz] at hS'
        refine wpAny_pure ⟨rfl, h', tk', rfl, hS', fun b o hb e => ?_⟩
        have hb1 : b ≠ s.heap.objs.size := Nat.ne_of_lt hb
        have hb2 : b ≠ (s.heap.push { cls := .type "set", dict := none, data := .set #[] 0 (.fresh 0 0 led) }).objs.size := by
          rw [Heap.size_push]; exact Nat.ne_of_lt (Nat.lt_succ_of_lt hb)
        exact hm.heap b o (by simp only [List.mem_cons, List.mem_singleton, List.not_mem_nil, or_false, not_or]; exact ⟨hb1, hb2⟩) (Heap.get?_push_of_some _ (Heap.get?_push_of_some _ e))
      · cases r₂ with
        | error e => exact hr₂
        | ok fl₂ =>
          cases fl₂ with
          | ret r =>
            obtain ⟨rfl, h', tk, rfl, hS', hk'⟩ := hr₂
            repeat (any_goals (first | assumption | wp_step))
            exact h _ _ hS' hk'
          | _ => exact hr₂.elim
    | _ => exact hr.elim
end
open L2 PySem.W
def tLenNames (K : PySem.W.Frag) (ta : TE) : TE := fun σ H Q => ta σ H fun x H1 => ∃ l, ∃ xs : List Str, x = .ref l ∧ SqT K H1 l (xs.map V.str) ∧ xs.Nodup ∧ xs.length ≤ 100 ∧ Q (.int xs.length) H1
theorem pe_lenSet {w : World} {K : PySem.W.Frag} {mg : Str → Option Value} {X : Cx} (T : Txt w K mg) {a : Expr} {ta : TE} {p p2 q pos : Pos} (ha : PE X a ta) (eK : X.K = K := by rfl) (em : X.mg = mg := by rfl) (hc : X.calm = true := by rfl) (hg : Gl X "len" := by rfl) (hg2 : Gl X "set" := by rfl)
    (na : starEach [a] X.env = (false, eval a X.env) :: starEach [] X.env := by rfl) : PE X (.Call (.Name "len" p) [.Call (.Name "set" p2) [a] [] q] [] pos) (tLenNames K ta) := by
  subst eK
  subst em
  refine ⟨fun pins s σ H Q I h => ?_⟩
  refine Call_ (ld_blt I hg T.b_len boot_len ?_)
  refine PyProof.Rows.callWith_builtin1 (PyProof.Rows.args_cons ?_ rfl) rfl rfl
  refine Call_ (ld_blt I hg2 T.b_set boot_set ?_)
  refine PyProof.Rows.callWith_type1 (PyProof.Rows.args_cons (thn (ha.run pins s σ H _ I h) fun v s1 ⟨x, H1, I1, r1, q1⟩ => PyProof.Rows.args_nil ?_) na) na rfl
  obtain ⟨l, xs, rfl, hq, nd, h1, q1⟩ := q1
  cases r1
  obtain ⟨its, r, pl, hz⟩ := I1.tuple hq
  refine set_of_names (I1.ok.hd hc) pl (by simpa using strsAre_of r) nd (Nat.lt_of_le_of_lt (Nat.succ_le_succ h1) (by unfold scanBound; omega)) fun h' tk hS hk => ?_
  refine PyProof.Rows.args_nil ?_
  obtain ⟨o, es, ep, t, ho, hex, hd, _, _, _, hf, hn⟩ := hS
  have I2 : Inv X pins σ H1 { s1 with heap := h', toks := tk } := I1.kept fun b o e => hk b o (Heap.lt_size e) e
  exact call_len_set ho hex hd hf (by rw [hn]; omega) ⟨.int xs.length, H1, I2.tok _, ⟨_, by rw [hn]⟩, q1⟩
end Wd
/-! ## Lm -/
set_option Elab.async false
set_option linter.all false
set_option maxRecDepth 100000
set_option maxHeartbeats 800000
/-! A lambda of one parameter, called by max. -/
namespace Wd
open PySem PySem.Spec PyProof.Rows L2 PySem.W PySem.SeqAt NdefX LamX
/-- the lambda as a function's parts -/
def lamF (X : Cx) (params : Arguments) (scope : Scope) (c' : Addr) : NF := ⟨"<lambda>", X.env.qual ++ "<lambda>", params, [], scope, cloFrom X.env.cells scope.names [], c'⟩
theorem lam1_run {X : Cx} {pins : List (Addr × Obj)} {σ : L2.St} {H : Hp} {s : Shared} {A0 : Around} {params : Arguments} {body : Expr} {scope : Scope} {f c' : Addr} {pm ctv : Value} {k : Nat} {N fr : List Str} {js : List Nat} {a : Str} {te : TE} {x : V} {u : Value} {Q : VK} {E : Value → Shared → Prop}
    (I : Inv X pins σ H s) (hA : A0.frames = some X.stack) (hr : Room (k + 1) A0) (S : NScope N [a] fr scope) (cp : Caps X (cloFrom X.env.cells scope.names []) fr js)
    (hf : s.heap.get? f = some (PySem.W.kla_obj "<lambda>" (X.env.qual ++ "<lambda>") params body scope (cloFrom X.env.cells scope.names []) pm c' ctv)) (hc : H c' = some (CodeO c' (X.env.qual ++ "<lambda>")))
    (hbind : ∀ u, bindArgs (PySem.W.kla_fn "<lambda>" (X.env.qual ++ "<lambda>") params body scope (cloFrom X.env.cells scope.names []) pm (.ref c') ctv) ⟨[u], []⟩ = pure [(a, u)])
    (hbody : ∀ (A : Around) (outer : List Env) (s : Shared) (H : Hp), Room k (A.deeper (envF (lamF X params scope c') f s.heap.objs.size)) → PE (ncx CX0 X.prog X.w X.K X.mg X.base N (lamF X params scope c') f A outer s H E0) body te)
    (rx : RelV x u) (ht : te (startF N [x] (js.map (slotAt σ))) H Q) : wpAny (model X.prog X.w) A0 (call (.ref f) [u]) (fun v s' => ∃ y H', Inv X pins σ H' s' ∧ RelV y v ∧ Q y H' ∧ Un (frs X.stack) [] H H' s.heap s'.heap) E s := by
  obtain ⟨⟨oc, vs, t, hoc, hdc, hvc⟩, _, _⟩ := I.hok c' _ hc
  have e0 : Env0 X.prog X.w X.K X.mg X.base A0 X.stack s H := by
    have e1 := I.env0
    exact ⟨hA, e1.mod, e1.bs, e1.bsz, e1.funs, e1.frf, e1.hok, e1.bare⟩
  have C := cells_of I cp
  have lim : s.heap.NoLimit := e0.mod.nolimit.keeps fun b o e => (e0.bs b o e).1
  have rc : codeAny (model X.prog X.w) A0 (.call (.ref f) ⟨[u], []⟩) (CR CX0 X.stack X.prog X.w H s Q E0) s := by
    refine PySem.W.kla_callFunE hr.depth hf rfl S.co S.gen rfl ⟨c', oc, vs, t, rfl, hoc, hdc, hvc⟩ ?_
    rw [hbind]
    refine wpAny_pure (wpAny_newFunctionEnv S.nocell (fun ⟨n, _⟩ hy => S.par n (by
      have hy2 := List.mem_singleton.mp hy
      rw [(Prod.mk.inj hy2).1]
      exact List.mem_singleton.mpr rfl)) (fun h₁ hns hsb => ⟨lim.fresh _ hsb, ?_⟩) S.kind)
    show codeAny _ _ (.expr body (envF (lamF X params scope c') f s.heap.objs.size)) _ _
    have kp : ∀ b o, s.heap.get? b = some o → h₁.get? b = some o := fun b o e => hsb.extBut b o (Nat.ne_of_lt (Heap.lt_size e)) (Heap.get?_push_of_some _ e)
    have J : Inv (ncx CX0 X.prog X.w X.K X.mg X.base N (lamF X params scope c') f A0 X.stack s H E0) [] (startF N [x] (js.map (slotAt σ))) H { s with heap := h₁, toks := s.toks + ([a].zip [u]).length } :=
      inv_startN S hr.hd e0 rfl (.cons rx .nil) C hns kp
    refine PySem.W.kla_codeExpr (wpAny_mono ((hbody _ _ s H (hr.deeper _)).run [] _ _ H Q J ht) (fun v s' hq => ?_) fun e s' hq => hq)
    obtain ⟨w', H', J', rv, q⟩ := hq
    exact ⟨w', H', J'.os, J'.bare, J'.base, J'.hok, rv, q⟩
  refine wpAny_call (codeAny_mono rc fun r s' hq => ?_)
  cases r with
  | error e => exact False.elim hq
  | ok fl =>
    cases fl with
    | ret u =>
      obtain ⟨v, H', h1, h2, h3, h4, h5, h6⟩ := id hq
      obtain ⟨v2, H2, I2, r2, e1, e2⟩ := I.after (Q := fun z Hz => z = v ∧ Hz = H') ⟨v, H', h1, h2, h3, h4, h5, rfl, rfl⟩
      subst e1 e2
      exact ⟨v2, H2, I2, r2, h6, h3⟩
    | next => exact False.elim hq
    | brk => exact False.elim hq
    | cont => exact False.elim hq
end Wd
namespace Wd
open PySem PySem.Spec PyProof.Rows L2 PySem.W PySem.SeqAt NdefX LamX
theorem Inv.pinned {X : Cx} {pins : List (Addr × Obj)} {σ : L2.St} {H : Hp} {s : Shared} (I : Inv X pins σ H s) {f : Addr} {o : Obj} (hf : s.heap.get? f = some o) (hn : H f = none) (h1 : f ≠ X.env.locals) (h2 : f ∉ X.fs) (h3 : ∀ v, o.data ≠ .cell v) : Inv X (pins ++ [(f, o)]) σ H s :=
  ⟨I.ok, I.os, I.bare, I.base, I.loc, I.cell, I.free, I.freeC, fun p hp => by
    rcases List.mem_append.mp hp with m | m
    · exact I.pin p (List.mem_append_left _ m)
    · rcases List.mem_append.mp m with m | m
      · exact I.pin p (List.mem_append_right _ m)
      · rw [List.mem_singleton.mp m]; exact ⟨hf, hn, h1, h2, h3⟩, I.hok, I.len⟩
theorem Inv.unpin1 {X : Cx} {pins : List (Addr × Obj)} {σ : L2.St} {H : Hp} {s : Shared} {q : Addr × Obj} (I : Inv X (pins ++ [q]) σ H s) : Inv X pins σ H s ∧ s.heap.get? q.1 = some q.2 :=
  ⟨⟨I.ok, I.os, I.bare, I.base, I.loc, I.cell, I.free, I.freeC, fun p hp => I.pin p (by
    rcases List.mem_append.mp hp with m | m
    · exact List.mem_append_left _ m
    · exact List.mem_append_right _ (List.mem_append_left _ m)), I.hok, I.len⟩, (I.pin q (List.mem_append_right _ (List.mem_append_right _ (List.mem_singleton.mpr rfl)))).1⟩
end Wd
/-! ## Lf -/
set_option maxHeartbeats 200000
set_option Elab.async false
set_option linter.all false
set_option maxRecDepth 100000
namespace Wd
open PySem PySem.Spec PyProof.Rows L2 PySem.W PySem.SeqAt NdefX LamX
theorem objOk_weak {P : Program} {w : World} {H H1 H2 : Hp} {h0 h : Heap} {a : Addr} {o : HO} (x : ObjOk P w H1 h a o) (y : ObjOk P w H h0 a o) (ho : ∀ b, H b = some (.own a) → H2 b = some (.own a)) (ht : ∀ b xs, H1 b = some (.tup xs) → H2 b = some (.tup xs)) : ObjOk P w H2 h a o := by
  induction o with
  | dT kvs =>
    obtain ⟨z, q, xs, r, c⟩ := x
    exact ⟨z, q, xs, Paired.mapP r fun p q z => ⟨z.1, ht _ _ z.2.1, z.2.2⟩, c⟩
  | ins C dx fs => exact ⟨ho _ y.1, x.2⟩
  | frz ob u ih => exact ⟨x.1, ih x.2 y.2⟩
  | _ => exact x
open Classical in
/-- of what is new, the tuples alone -/
noncomputable def keepT (H H1 : Hp) : Hp := fun a => if H a ≠ none ∨ ∃ xs, H1 a = some (.tup xs) then H1 a else none
theorem keepT_sub {H H1 : Hp} {a : Addr} {o : HO} (e : keepT H H1 a = some o) : H1 a = some o := by
  unfold keepT at e
  by_cases c : H a ≠ none ∨ ∃ xs, H1 a = some (.tup xs)
  · rw [if_pos c] at e; exact e
  · rw [if_neg c] at e; cases e
theorem keepT_same {H H1 : Hp} (s : Same H H1) : Same H (keepT H H1) := fun a o e => by
  unfold keepT
  rw [if_pos (.inl (by rw [e]; exact fun z => nomatch z))]
  exact s _ _ e
theorem keepT_tup {H H1 : Hp} {a : Addr} {xs : List V} (e : H1 a = some (.tup xs)) : keepT H H1 a = some (.tup xs) := by
  unfold keepT
  rw [if_pos (.inr ⟨xs, e⟩)]; exact e
theorem keepT_new {H H1 : Hp} {a : Addr} (n : H a = none) : keepT H H1 a = none ∨ ∃ xs, keepT H H1 a = some (.tup xs) := by
  unfold keepT
  by_cases c : H a ≠ none ∨ ∃ xs, H1 a = some (.tup xs)
  · rw [if_pos c]
    rcases c with c | ⟨xs, e⟩
    · exact absurd n c
    · exact .inr ⟨xs, e⟩
  · rw [if_neg c]; exact .inl rfl
theorem keepT_ok {P : Program} {w : World} {H H1 : Hp} {h0 h : Heap} (ok0 : HOk P w H h0) (ok1 : HOk P w H1 h) (s : Same H H1) : HOk P w (keepT H H1) h := fun a o e => by
  have e1 := keepT_sub e
  cases c : H a with
  | some u =>
    have e2 := s _ _ c
    rw [e1] at e2
    cases e2
    exact objOk_weak (ok1 a o e1) (ok0 a o c) (fun b z => keepT_same s _ _ z) fun b xs z => keepT_tup z
  | none =>
    rcases keepT_new (H1 := H1) c with z | ⟨xs, z⟩
    · rw [z] at e; cases e
    · rw [z] at e
      cases e
      exact ok1 a _ e1
end Wd
/-! ## Mk -/
set_option Elab.async false
set_option linter.all false
set_option maxRecDepth 100000
set_option maxHeartbeats 800000
/-! max(l, key=lambda x: ..): the first greatest, by keys that are tuples of a number and a place. -/
namespace Wd
open PySem PySem.Spec PyProof.Rows L2 PySem.W PySem.SeqAt NdefX LamX
theorem relv_abs : ∀ {x : V} {u : Value}, L2.RelV x u → absV u = some x
  | .non, _, h => by rw [show _ = Value.none from h]; rfl
  | .bl b, _, h => by rw [show _ = Value.bool b from h]; rfl
  | .int i, _, ⟨t, h⟩ => by rw [h]; rfl
  | .str i, _, ⟨t, h⟩ => by rw [h]; rfl
  | .byt i, _, ⟨t, h⟩ => by rw [h]; rfl
  | .flt i, _, ⟨t, h⟩ => by rw [h]; rfl
  | .ref a, _, h => by rw [show _ = Value.ref a from h]; rfl
  | .ty a, _, h => by rw [show _ = Value.type a from h]; rfl
theorem relv_inj {x y : V} {u : Value} (h1 : L2.RelV x u) (h2 : L2.RelV y u) : x = y := Option.some.inj ((relv_abs h1).symm.trans (relv_abs h2))
theorem vals_inj : ∀ {xs ys : List V} {us : List Value}, Vals xs us → Vals ys us → xs = ys
  | _, _, _, .nil, .nil => rfl
  | _, _, _, .cons a b, .cons c d => by rw [relv_inj a c, vals_inj b d]
def RawT (h : Heap) (a : Addr) (xs : List V) : Prop := ∃ its : List Value, Vals xs its ∧ IsTup h a its.toArray
theorem RawT.inj {h : Heap} {a : Addr} {xs ys : List V} (x : RawT h a xs) (y : RawT h a ys) : xs = ys := by
  obtain ⟨i1, v1, o1, e1, _, n1, d1⟩ := x
  obtain ⟨i2, v2, o2, e2, _, n2, d2⟩ := y
  rw [e1] at e2
  cases e2
  rw [d1] at d2
  injection d2 with z
  have z : i1 = i2 := by simpa using z
  subst z
  exact vals_inj v1 v2
def NewT (H1 Hs : Hp) : Prop := ∀ a, H1 a = none → Hs a = none ∨ ∃ xs, Hs a = some (.tup xs)
theorem raw_step {P : Program} {w : World} {fs : List Addr} {H1 Hs H' : Hp} {h h' : Heap} {a : Addr} {xs : List V} (ok : HOk P w Hs h) (ok' : HOk P w H' h') (u : Un fs [] Hs H' h h') (sm : Same H1 Hs) (nt : NewT H1 Hs) (r : RawT h a xs) (v : H1 a = none ∨ Rd H1 a (.tup xs)) : RawT h' a xs := by
  have tup : ∀ ys, Hs a = some (.tup ys) → RawT h' a ys := fun ys e => (ok' _ _ (u.tups _ _ e)).2
  rcases v with n | (e | ⟨o, e⟩)
  · rcases nt a n with z | ⟨ys, z⟩
    · obtain ⟨its, v1, o1, e1, c1, n1, d1⟩ := r
      obtain ⟨sl, e2⟩ := u.any e1 z (fun q => nomatch q)
      exact ⟨its, v1, _, e2, c1, n1, d1⟩
    · have e := r.inj (show RawT h a ys from (ok _ _ z).2)
      rw [e]; exact tup ys z
  · exact tup xs (sm _ _ e)
  · have e2 := ok' _ _ (u.frzs _ _ _ (sm _ _ e))
    exact e2.2.2
structure VOk (H1 : Hp) (bad : List Addr) (a : Addr) (xs : List V) : Prop where
  nb : a ∉ bad
  rd : H1 a = none ∨ Rd H1 a (.tup xs)
theorem vok_of {X : Cx} {pins : List (Addr × Obj)} {σ : L2.St} {H1 H' : Hp} {s' : Shared} {bad : List Addr} {a : Addr} {xs : List V} (I : Inv X pins σ H' s') (sm : Same H1 H') (h : SqT X.K H' a xs) (hb : ∀ b ∈ bad, H' b = none ∧ X.base.get? b = none) : VOk H1 bad a xs := by
  rcases h with (e | ⟨o, e⟩) | ⟨o, its, n, hk, _⟩
  · constructor
    · intro z
      rw [(hb a z).1] at e
      cases e
    · cases c : H1 a with
      | none => exact .inl rfl
      | some q =>
        rw [sm _ _ c] at e
        cases e
        exact .inr (.inl c)
  · constructor
    · intro z
      rw [(hb a z).1] at e
      cases e
    · cases c : H1 a with
      | none => exact .inl rfl
      | some q =>
        rw [sm _ _ c] at e
        cases e
        exact .inr (.inr ⟨_, c⟩)
  · have eb := I.ok.mod.kin _ _ hk
    constructor
    · intro z
      rw [(hb a z).2] at eb
      cases eb
    · refine .inl ?_
      cases c : H1 a with
      | none => rfl
      | some q =>
        have e2 := sm _ _ c
        rw [(I.bs _ _ eb).2] at e2
        cases e2
theorem ep_parts {K : PySem.W.Frag} {H : Hp} {v : V} {e : Nat} {p : M.Pl} (h : Dp K H v (epD e p)) : ∃ a q, v = .ref a ∧ SqT K H a [.int e, .ref q] ∧ SqT K H q [.int p.1, .int p.2] := by
  unfold epD plD at h
  cases h with
  | tup h1 h2 =>
    cases h2 with
    | cons g1 g2 =>
      cases g1
      cases g2 with
      | cons g3 g4 =>
        cases g4
        cases g3 with
        | tup k1 k2 =>
          cases k2 with
          | cons m1 m2 =>
            cases m1
            cases m2 with
            | cons m3 m4 =>
              cases m3
              cases m4
              exact ⟨_, _, rfl, h1, k1⟩
/-- a key as it stands -/
def VK1 (H1 : Hp) (bad : List Addr) (e : Nat) (p : M.Pl) (k : Value) (s : Shared) : Prop := ∃ a q, k = .ref a ∧ VOk H1 bad a [.int e, .ref q] ∧ RawT s.heap a [.int e, .ref q] ∧ VOk H1 bad q [.int p.1, .int p.2] ∧ RawT s.heap q [.int p.1, .int p.2]
theorem RawT.keep {h h' : Heap} {a : Addr} {xs : List V} (r : RawT h a xs) (k : ∀ o, h.get? a = some o → h'.get? a = some o) : RawT h' a xs := by
  obtain ⟨its, v1, o1, e1, r1⟩ := r
  exact ⟨its, v1, o1, k _ e1, r1⟩
theorem VK1.reads {H1 : Hp} {bad : List Addr} {e : Nat} {p : M.Pl} {k : Value} {s : Shared} (v : VK1 H1 bad e p k s) : ∃ as, Reads s.heap k (epD e p) as := by
  obtain ⟨a, q, rfl, _, ⟨i1, v1, o1, e1, c1, n1, d1⟩, _, ⟨i2, v2, o2, e2, c2, n2, d2⟩⟩ := v
  cases v1 with
  | cons r1 v1 =>
    cases v1 with
    | cons r2 v1 =>
      cases v1
      obtain ⟨t1, rfl⟩ := r1
      cases r2
      cases v2 with
      | cons r3 v2 =>
        cases v2 with
        | cons r4 v2 =>
          cases v2
          obtain ⟨t3, rfl⟩ := r3
          obtain ⟨t4, rfl⟩ := r4
          exact ⟨_, .tuple e1 c1 d1 (.cons (.int _ _) (.cons (.tuple e2 c2 d2 (.cons (.int _ _) (.cons (.int _ _) .nil))) .nil))⟩
def epOf (ks : List (Nat × M.Pl)) (i : Nat) : PyData := epD (ks.getD i (0, 0, 0)).1 (ks.getD i (0, 0, 0)).2
def btK (ks : List (Nat × M.Pl)) (i j : Nat) : Bool := dataLt (epOf ks j) (epOf ks i)
def tMaxK (K0 : PySem.W.Frag) (TT : List (Addr × Str)) (i : Nat) (N : List Str) (js : List Nat) (te : TE) : TE := fun σ H Q => Tabs TT H ∧ ∃ (L : Addr) (xs : List V) (ks : List (Nat × M.Pl)), σ[i]? = some (some (.ref L)) ∧ H L = some (.lst xs) ∧ xs.length = ks.length ∧ 0 < ks.length ∧
  ∀ H1, ExtN H H1 → Tabs TT H1 → (∀ j x, xs[j]? = some x → ∀ od H2 (Q2 : VK), Same (upd H1 L (.frz od (.lst xs))) H2 → (∀ v H3, Same H2 H3 → Dp K0 H3 v (epOf ks j) → Q2 v H3) → te (startF N [x] (js.map (slotAt σ))) H2 Q2) ∧
    ∀ x, xs[argBest (btK ks) (ks.length - 1)]? = some x → ∀ H3, Same H1 H3 → Q x H3
theorem lockS {H H' : Hp} {d : Addr} {u : HO} {od : Obj} (hd : H d = some u) (s : Same (upd H d (.frz od u)) H') : Same H (upd H' d u) := fun b o e => by
  by_cases c : b = d
  · subst c; rw [hd] at e; cases e; exact upd_same
  · rw [upd_ne c]; exact s _ _ (by rw [upd_ne c]; exact e)
theorem nget {h : Heap} {b : Addr} (hb : h.objs.size ≤ b) : h.get? b = none := by
  cases c : h.get? b with
  | none => rfl
  | some o => exact absurd (Nat.lt_of_lt_of_le (Heap.lt_size c) hb) (Nat.lt_irrefl _)
/-- what max keeps -/
def JK (X : Cx) (pins : List (Addr × Obj)) (σ : L2.St) (Hf : Hp) (bad : List Addr) (s : Shared) : Prop := ∃ Hs, Inv X pins σ Hs s ∧ Same Hf Hs ∧ NewT Hf Hs ∧ ∀ b ∈ bad, FpOk X pins Hs b
theorem keyrun {X : Cx} {pins : List (Addr × Obj)} {σ : L2.St} {Hf : Hp} {h0 : Heap} {L f c' S it : Addr} {od : Obj} {xs : List V} {its : List Value} {ks : List (Nat × M.Pl)} {params : Arguments} {body : Expr} {scope : Scope} {pm ctv : Value} {k : Nat} {N fr : List Str} {js : List Nat} {a : Str} {te : TE}
    (hok : HOk X.prog X.w Hf h0) (hbase : X.base.objs.size ≤ h0.objs.size) (hS : h0.objs.size ≤ S) (hit : h0.objs.size ≤ it) (hL : Hf L = some (.frz od (.lst xs))) (vs : Vals xs its) (hr : Room (k + 2) X.A) (SN : NScope N [a] fr scope) (cp : Caps X (cloFrom X.env.cells scope.names []) fr js)
    (hf : (f, PySem.W.kla_obj "<lambda>" (X.env.qual ++ "<lambda>") params body scope (cloFrom X.env.cells scope.names []) pm c' ctv) ∈ X.pn ++ pins) (hc : Hf c' = some (CodeO c' (X.env.qual ++ "<lambda>")))
    (hbind : ∀ u, bindArgs (PySem.W.kla_fn "<lambda>" (X.env.qual ++ "<lambda>") params body scope (cloFrom X.env.cells scope.names []) pm (.ref c') ctv) ⟨[u], []⟩ = pure [(a, u)])
    (hbody : ∀ (A : Around) (outer : List Env) (s : Shared) (H : Hp), Room k (A.deeper (envF (lamF X params scope c') f s.heap.objs.size)) → PE (ncx CX0 X.prog X.w X.K X.mg X.base N (lamF X params scope c') f A outer s H E0) body te)
    (hte : ∀ j x, xs[j]? = some x → ∀ H2 (Q2 : VK), Same Hf H2 → (∀ v H3, Same H2 H3 → Dp X.K H3 v (epOf ks j) → Q2 v H3) → te (startF N [x] (js.map (slotAt σ))) H2 Q2) :
    KeyRun X.prog X.w X.A.in1 (.ref f) .Gt S [it] (fun a b => b = a) its.toArray.size (fun i v => its.toArray[i]? = some v) (fun i s' => s'.heap.IsListIter it L i ∧ s'.heap.IsList L its.toArray) (JK X pins σ Hf [S, it]) (fun i k s => VK1 Hf [S, it] (ks.getD i (0, 0, 0)).1 (ks.getD i (0, 0, 0)).2 k s) (btK ks) where
  keep := fun s s' ⟨Hs, I, sm, nt, fp⟩ m => by
    obtain ⟨h', g', d', tk', os'⟩ := s'
    have eg : g' = s.gens := m.gens
    have ed : d' = s.drawn := m.drawn
    have eo : os' = s.os := m.os
    subst eg ed eo
    exact ⟨Hs, I.turnedL (fun b o hb e => m.heap b o hb e) fp, sm, nt, fp⟩
  keepV := fun i k s s' ⟨a, q, e, v1, r1, v2, r2⟩ m => ⟨a, q, e, v1, r1.keep fun o e => m.heap _ o v1.nb e, v2, r2.keep fun o e => m.heap _ o v2.nb e⟩
  turn := fun i v s o Q E hi hP ⟨Hs, I, sm, nt, fp⟩ ⟨st1, st2⟩ hSo hQ => by
    have hP : its[i]? = some v := by rwa [List.getElem?_toArray] at hP
    obtain ⟨x, ex, rx⟩ := pd_get2 vs hP
    have hf2 := (I.pin _ hf).1
    have hr1 : Room (k + 1) X.A.in1 := ⟨hr.hd, by have := hr.dp; show X.A.depth + 3 * (k + 1) + 5 < _; omega, by have := hr.un; show X.A.units + 1 + 16 * (k + 1) + 200 < _; omega⟩
    refine thn (lam1_run (E := E) (Q := fun v H3 => Same Hs H3 ∧ Dp X.K H3 v (epOf ks i)) I I.ok.frames hr1 SN cp hf2 (sm _ _ hc) hbind hbody rx (hte i x ex Hs _ sm fun v H3 s3 d => ⟨s3, d⟩)) fun kv s' ⟨y, H', I', ry, ⟨s3, d⟩, un⟩ => ?_
    have nfr : ∀ b ∈ [S, it], b ∉ frs X.stack := fun b hb z => by
      rcases List.mem_cons.mp (I.stkSub b z) with q | q
      · exact (fp b hb).2.1 q
      · exact (fp b hb).2.2.1 q
    have smH : Same Hf H' := sm.trans s3
    obtain ⟨oi, ei, ri⟩ := id st1
    have ei2 : s'.heap.get? it = some oi := un.keep _ _ ei (fp it (by simp)).1 (nfr it (by simp)) (fun z => nomatch z)
    have eS2 : s'.heap.get? S = some o := un.keep _ _ hSo (fp S (by simp)).1 (nfr S (by simp)) (fun z => nomatch z)
    have hL0 : s.heap.get? L = some od := (I.hok _ _ (sm _ _ hL)).1
    have hL1 : s'.heap.get? L = some od := (I'.hok _ _ (smH _ _ hL)).1
    have hbad : ∀ b ∈ [S, it], H' b = none ∧ X.base.get? b = none := fun b hb => by
      have hge : h0.objs.size ≤ b := by
        rcases List.mem_cons.mp hb with z | z
        · rw [z]; exact hS
        · rw [List.mem_singleton.mp z]; exact hit
      refine ⟨?_, nget (Nat.le_trans hbase hge)⟩
      rcases List.mem_cons.mp hb with z | z
      · rw [z]; exact un.free _ _ hSo (fp S (by simp)).1 (fun z => nomatch z)
      · rw [List.mem_singleton.mp z]; exact un.free _ _ ei (fp it (by simp)).1 (fun z => nomatch z)
    have some_ : ∀ b, Hf b ≠ none → keepT Hf H' b = H' b := fun b n => by unfold keepT; rw [if_pos (.inl n)]
    have hun : Un (frs X.stack) [] Hs (keepT Hf H') s.heap s'.heap := by
      refine ⟨un.keep, un.slot, fun b ob e n hx => ?_, un.there, fun b ys e => keepT_tup (un.tups _ _ e), fun b ob u e => ?_, fun b ps e => ?_⟩
      · cases c : keepT Hf H' b with
        | none => rfl
        | some u => have := keepT_sub c; rw [un.free b ob e n hx] at this; cases this
      · rw [some_ b fun z => by
          rcases nt b z with q | ⟨_, q⟩
          · rw [q] at e; cases e
          · rw [q] at e; cases e]
        exact un.frzs _ _ _ e
      · rw [some_ b fun z => by
          rcases nt b z with q | ⟨_, q⟩
          · rw [q] at e; cases e
          · rw [q] at e; cases e]
        exact un.tbls _ _ e
    have hokK := keepT_ok hok I'.hok smH
    have J' : Inv X pins σ (keepT Hf H') s' := I.call' (I'.os.trans I.os.symm) hun hokK I'.bare fun b z => nomatch z
    refine hQ kv s' ⟨_, J', keepT_same smH, fun b n => keepT_new n, fun b hb => ?_⟩ ⟨⟨oi, ei2, ri⟩, ?_⟩ eS2 ?_ fun j k' ⟨a, q, e, v1, r1, v2, r2⟩ => ⟨a, q, e, v1, raw_step I.hok I'.hok un sm nt r1 v1.rd, v2, raw_step I.hok I'.hok un sm nt r2 v2.rd⟩
    · refine ⟨?_, (fp b hb).2⟩
      cases c : keepT Hf H' b with
      | none => rfl
      | some u => have := keepT_sub c; rw [(hbad b hb).1] at this; cases this
    · obtain ⟨ol, el, rl⟩ := st2
      rw [hL0] at el
      cases el
      exact ⟨_, hL1, rl⟩
    · obtain ⟨a, q, rfl, d1, d2⟩ := ep_parts d
      cases ry
      exact ⟨a, q, rfl, vok_of I' smH d1 hbad, (let ⟨u, g1, g2, _⟩ := I'.tuple d1; ⟨u, g1, g2⟩), vok_of I' smH d2 hbad, (let ⟨u, g1, g2, _⟩ := I'.tuple d2; ⟨u, g1, g2⟩)⟩
  cmp := fun i j ki kj s Q E hJ vi vj hq => by
    obtain ⟨as, r1⟩ := vi.reads
    obtain ⟨bs, r2⟩ := vj.reads
    refine rcGt_alike _ _ X.A.in1 s ki kj as bs r1 r2 (alike_ep _ _ _ _) (by simp [epD]) ?_ X.prog X.w E Q hq
    rw [ep_depth, ep_depth]
    have := hr.un
    show X.A.units + 1 + 2 < cLine
    omega
theorem pe_maxKey1 {X : Cx} {i : Nat} {xl a : Str} {TT : List (Addr × Str)} {c P : Addr} {params : Arguments} {body : Expr} {scope : Scope} {N fr : List Str} {js : List Nat} {te : TE} {k : Nat} {p p2 lpos kpos pos : Pos}
    (hg : Gl X "max") (hm : X.mg "max" = none) (hv : bootBuiltins "max" = some (.builtin "max")) (hN : X.N[i]? = some xl) (hvis : Vis X.env.scope xl)
    (TB : TabB X.base X.mg c P) (hcode : X.env.code = .ref c) (hmT : (P, X.env.qual ++ "<lambda>") ∈ TT) (hu : ∀ p ∈ TT, p.1 = P → p.2 = X.env.qual ++ "<lambda>") (hr : Room (k + 2) X.A) (SN : NScope N [a] fr scope)
    (hfree : ∀ y ∈ scope.names, y.2 = .free → X.env.scope.names.lookup y.1 = some .cell ∨ X.env.scope.names.lookup y.1 = some .free) (hfr : ∀ y ∈ fr, (y, NameKind.free) ∈ scope.names) (hjs : js.map (fun j => X.N[j]?) = fr.map some)
    (hdef : defaultsOf params X.env = ([], [])) (hbind : ∀ (q : Str) (cl : List (Str × Addr)) (pm cv ctv u : Value), bindArgs (PySem.W.kla_fn "<lambda>" q params body scope cl pm cv ctv) ⟨[u], []⟩ = pure [(a, u)])
    (hbody : ∀ (f c' : Addr) (A : Around) (outer : List Env) (s : Shared) (H : Hp), Room k (A.deeper (envF (lamF X params scope c') f s.heap.objs.size)) → PE (ncx CX0 X.prog X.w X.K X.mg X.base N (lamF X params scope c') f A outer s H E0) body te)
    (hd : (xl == ("__debug__" : Str)) = false := by decide) (hcd : (xl == ("__classdict__" : Str)) = false := by decide) (hst : starEach [.Name xl p2] X.env = (false, eval (.Name xl p2) X.env) :: starEach [] X.env := by rfl) (hpl : (backTo pos (starEach [.Name xl p2] X.env)).any (·.1) = false := by rfl) :
    PE X (.Call (.Name "max" p) [.Name xl p2] [⟨some "key", .Lambda params body scope lpos, kpos⟩] pos) (tMaxK X.K TT i N js te) := by
  refine ⟨fun pins s σ H Q I h => ?_⟩
  obtain ⟨hT, L, xs, ks, hs, hL, hlen, hpos, kk⟩ := h
  refine wpAny_Call_Name_kw (ld_blt I hg hm hv ?_)
  refine PyProof.Rows.callWith_kw (thn ((pa_cons (pe_var (pos := p2) hN hvis hd hcd) pa_nil).run pos pins s σ H (fun vs H1 => vs = [.ref L] ∧ H1 = H) I ⟨.ref L, hs, rfl, rfl⟩) fun us s1 ⟨vs, H0, I1, r1, q1⟩ => ?_) (by rfl) hpl (by rfl) (by rfl)
  obtain ⟨rfl, rfl⟩ := q1
  rw [Vals.ref1 r1]
  show wpAny _ _ (evalAll ((do let v ← eval (.Lambda params body scope lpos) X.env; standAt pos; pure v) :: [])) _ _ s1
  have hfree2 : ∀ y ∈ scope.names, y.2 = .free → ∃ c, X.env.cells.lookup y.1 = some c := fun y hy e => (hfree y hy e).elim (fun z => I.ok.has _ (.inl z)) fun z => I.ok.has _ (.inr z)
  refine wpAny_evalAll_cons (wpAny_bind (lam_make2 I1 TB hcode hmT hu hT hdef hfree2 fun f c' pm ctv H1 s2 I2 eN T1 hf hfn hfs hco => wpAny_bind (wpAny_standAt (wpAny_pure (wpAny_evalAll_nil ?_)))))
  show wpAny _ _ (call (.builtin "max") [.ref L] [(Str.ofString "key", .ref f)]) _ _ s2
  obtain ⟨k1, k2⟩ := kk H1 eN T1
  have hL1 : H1 L = some (.lst xs) := eN _ _ hL fun ps z => nomatch z
  obtain ⟨od, I3⟩ := I2.lock hL1 trivial
  have hno := I2.nofrz hL1 trivial
  have hLf : (upd H1 L (.frz od (.lst xs))) L = some (.frz od (.lst xs)) := upd_same
  have hfL : f ≠ L := fun z => by rw [z, hL1] at hfn; cases hfn
  have hcL : c' ≠ L := fun z => by rw [z, hL1] at hco; cases hco
  have hff : (upd H1 L (.frz od (.lst xs))) f = none := by rw [upd_ne hfL]; exact hfn
  have hcf : (upd H1 L (.frz od (.lst xs))) c' = some (CodeO c' (X.env.qual ++ "<lambda>")) := by rw [upd_ne hcL]; exact hco
  have nloc : f ≠ X.env.locals := fun z => by
    obtain ⟨m, ⟨o, es, ep, ho, hd, _⟩, _⟩ := I3.loc
    rw [← z, hf] at ho
    cases ho
    cases hd
  have nfs : f ∉ X.fs := fun z => by
    refine hfs ?_
    rcases I.ok.stk with e | ⟨e, hfm⟩
    · rw [e]; exact z
    · rw [e]
      unfold frs
      rw [List.filterMap_cons, hfm]
      exact List.mem_cons_of_mem _ z
  have I4 := Wd.Inv.pinned I3 hf hff nloc nfs fun v z => nomatch z
  obtain ⟨g1, g2, its, n, g3, g4⟩ := I3.hok _ _ hLf
  have hlist : s2.heap.IsList L its.toArray := ⟨_, g4, rfl, n, rfl⟩
  have hilen : its.toArray.size = ks.length := by rw [List.size_toArray, ← hlen]; exact (pd_len g3).symm
  refine call_max_walkK (iter_listW (A := X.A.in1) (by exact hr.hd) hlist fun s3 e3 W st hfp hw hk => ?_)
  have I5 : Inv X (pins ++ [(f, PySem.W.kla_obj "<lambda>" (X.env.qual ++ "<lambda>") params body scope (cloFrom X.env.cells scope.names []) pm c' ctv)]) σ (upd H1 L (.frz od (.lst xs))) s3 := by
    rw [e3]; exact I4.kept (t' := s2.toks) fun b u e => Heap.get?_push_of_some _ e
  have hsz : s3.heap.objs.size = s2.heap.objs.size + 1 := by rw [e3]; exact Heap.size_push _ _
  refine ⟨_, _, _, _, _, _, _, _, _, _, rfl, W, st, hfp, by rw [hilen]; exact hpos, keyrun (h0 := s2.heap) (f := f) (c' := c') I3.hok I3.env0.bsz (by rw [hsz]; exact Nat.le_succ _) (Nat.le_refl _) hLf g3 hr SN (Caps.made I.ok hfree hfr hjs) (List.mem_append_right _ (List.mem_append_right _ (List.mem_singleton.mpr rfl))) hcf (fun u => hbind _ _ _ _ _ u) (hbody f c')
    (fun j x ex H2 Q2 sm hq => k1 j x ex od H2 Q2 sm hq), ⟨_, I5, fun _ _ e => e, fun a n => .inl n, fun b hb => ?_⟩, fun v s' hP hJ => ?_⟩
  · have hge : s2.heap.objs.size ≤ b := by
      rcases List.mem_cons.mp hb with z | z
      · rw [z, hsz]; exact Nat.le_succ _
      · rw [List.mem_singleton.mp z]; exact Nat.le_refl _
    exact Inv.fpOk I4 hge (I4.hok.fresh hge)
  · obtain ⟨Hs, J, sm, _, _⟩ := hJ
    rw [hilen] at hP
    rw [List.getElem?_toArray] at hP
    obtain ⟨x, ex, rx⟩ := pd_get2 g3 hP
    exact ⟨x, _, (Wd.Inv.unpin1 J).1.unlock (sm _ _ hLf) hno, rx, k2 x ex _ (lockS hL1 sm)⟩
end Wd
/-! ## RlD -/
set_option Elab.async false
set_option linter.all false
set_option maxRecDepth 100000
set_option maxHeartbeats 400000
/-! list(range(..)). -/
namespace Wd
open PySem PySem.Spec PyProof.Rows L2 PySem.W PySem.SeqAt
theorem vals_ns : ∀ (n : Nat) (lo : Int) (its : List Value), its.length = n → (∀ (i : Nat) v, its[i]? = some v → ∃ t, v = Value.int (lo + (i : Int) * 1) t) → Vals ((List.range n).map fun i => V.int (lo + (i : Nat))) its := by
  intro n
  induction n with
  | zero =>
    intro lo its h _
    cases its with
    | nil => exact .nil
    | cons _ _ => cases h
  | succ n ih =>
    intro lo its h hv
    cases its with
    | nil => cases h
    | cons v its =>
      rw [List.range_succ_eq_map, List.map_cons, List.map_map]
      obtain ⟨t, e⟩ := hv 0 v rfl
      have q := ih (lo + 1) its (by simpa using h) fun i v e => by
        obtain ⟨t, z⟩ := hv (i + 1) v (by simpa using e)
        exact ⟨t, by rw [z]; congr 1; omega⟩
      refine .cons ⟨t, by rw [e]; simp⟩ ?_
      have e2 : ((List.range n).map fun i => V.int (lo + 1 + (i : Nat))) = (List.range n).map ((fun i : Nat => V.int (lo + (i : Nat))) ∘ Nat.succ) := List.map_congr_left fun i _ => by
        show V.int (lo + 1 + (i : Nat)) = V.int (lo + ((i + 1 : Nat) : Int))
        congr 1; omega
      rw [← e2]; exact q
theorem call_list_rng {X : Cx} (hc : X.calm = true) : CallR X (.type "list") (fun xs H Q => ∃ p lo hi, xs = [.ref p] ∧ H p = some (.rng lo hi) ∧ 0 ≤ lo ∧ lo ≤ hi ∧ hi ≤ 100 ∧ ∀ l, H l = none → Q (.ref l) (upd H l (.lst ((List.range (hi - lo).toNat).map fun i => V.int (lo + (i : Nat)))))) := by
  intro pins s σ H xs us Q I r h
  obtain ⟨p, lo, hi, rfl, hp, h0, h1, h2, q⟩ := h
  obtain ⟨u, rfl, rx⟩ := vals1 r
  cases rx
  obtain ⟨t, u, v, ho⟩ := I.hok _ _ hp
  have hsize : Builtin.Range.rangeSize lo hi 1 = (((hi - lo).toNat : Nat) : Int) := by
    unfold Builtin.Range.rangeSize
    by_cases c : lo < hi
    · simp [c]; omega
    · simp [c]; omega
  refine call_list_range (n := (hi - lo).toNat) (I.ok.hd hc) ho ?_ hsize (by omega) fun h' tk acc' c' hk hS' hacc => ?_
  · exact small_one (by omega) (by omega) (by omega) (by omega)
  · refine ⟨.ref s.heap.objs.size, _, I.laid (t' := tk) hk (Nat.le_refl _) (show ObjOk X.prog X.w _ h' _ (.lst ((List.range (hi - lo).toNat).map fun i => V.int (lo + (i : Nat)))) from ⟨?_, acc'.toList, c', ?_, by simpa using hS'⟩), rfl, q _ (I.hok.fresh (Nat.le_refl _))⟩
    · rw [List.length_map, List.length_range]
      exact Nat.le_trans (show (hi - lo).toNat ≤ 100 by omega) (by decide)
    · refine vals_ns _ _ _ (by simpa using hacc.1) fun i v e => ?_
      exact hacc.2 i v (by simpa using e)
end Wd
/-! ## P1 -/
set_option Elab.async false
set_option linter.all false
set_option maxRecDepth 100000
set_option maxHeartbeats 4000000
namespace Wd
open PySem PySem.Spec PyProof.Rows L2 PySem.W PySem.SeqAt
/-! ### the defs of paths, nodes, states, letters, rows -/
structure WordOk (z : Str) : Prop where
  lo : 1 ≤ z.length
  hi : z.length ≤ 8
  al : ∀ c ∈ z.cps.toList, c ∈ ("abcdefghijklmnopqrstuvwxyz" : Str).cps.toList
theorem nm_word {i : Nat} (h : i < 26) : WordOk (nm i) := by
  refine ⟨Nat.le_refl _, by show 1 ≤ 8; decide, fun c hc => ?_⟩
  have e : c = 97 + i := by
    have : c ∈ [97 + i] := hc
    simpa using this
  subst e
  have : ∀ j, j < 26 → 97 + j ∈ ("abcdefghijklmnopqrstuvwxyz" : Str).cps.toList := by decide +kernel
  exact this i h
theorem early_word : WordOk "early" := ⟨by decide +kernel, by decide +kernel, by decide +kernel⟩
theorem new_word : WordOk "new" := ⟨by decide +kernel, by decide +kernel, by decide +kernel⟩
theorem late_word : WordOk "late" := ⟨by decide +kernel, by decide +kernel, by decide +kernel⟩
/-- a text, sign by sign -/
theorem goes_str {H0 : Hp} {z : Str} : Goes0 (Its z) H0 z.cps.toList fun _ v c => v = .str ⟨#[c]⟩ where
  go := fun i H s hi => by simpa [Its] using hi
  stop := fun i H s hi => by simpa [Its] using hi
  yld := fun i H x H' s hi y => by
    obtain ⟨e, c, h1, h2⟩ := (show H' = H ∧ ∃ c, z.cps.toList[i]? = some c ∧ x = V.str ⟨#[c]⟩ by simpa [Its] using y)
    subst e
    exact ⟨Same.refl _, c, h1, h2⟩
def spWhole : Sp := fun vs H Q _ => ∃ i : Int, vs = [.int i] ∧ Q (.bl true) H
def spWord : Sp := fun vs H Q _ => ∃ z, vs = [.str z] ∧ WordOk z ∧ ∀ H', Same H H' → Q (.bl true) H'
def spPlace (K : PySem.W.Frag) : Sp := fun vs H Q _ => ∃ v p, vs = [v] ∧ Dp K H v (plD p) ∧ ∀ H', Same H H' → Q (.bl true) H'
def spPlain (K : PySem.W.Frag) : Sp := fun vs H Q _ => ∃ a xs, vs = [.ref a] ∧ SqT K H a xs ∧ xs.length < 3 ∧ Q (.bl false) H
def spDeed (K : PySem.W.Frag) : Sp := fun vs H Q _ => ∃ a, vs = [.ref a] ∧ SqT K H a [.str "bring"] ∧ ∀ H', Same H H' → Q (.bl true) H'
def spEntry (K : PySem.W.Frag) : Sp := fun vs H Q _ => ∃ v e, vs = [v] ∧ Dp K H v (enD e) ∧ ∀ H', Same H H' → Q (.bl true) H'
section
variable {P : Program} {w : World} {K : PySem.W.Frag} {mg : Str → Option Value} {base : Heap}
theorem ok_is_whole (T : Txt w K mg) : Df P w K mg base 1 (He.ga K "is_whole") ["thing"] spWhole := by
  refine df_mk T.f_is_whole sc_is_whole (fun vs H Q E h => ?_) (fun _ _ _ _ _ _ us hl => match us, hl with | [_], _ => rfl) (fun cdv A outer s H vs Q E hr h => ?_)
  · obtain ⟨i, rfl, _⟩ := h
    rfl
  · obtain ⟨i, rfl, k⟩ := h
    refine ⟨_, (pss_one (ps_ret (pe_and (pe_callB (kIsi rfl) (by rfl) T.b_isinstance (by decide +kernel) (pa_cons (pv 0) (pa_cons (pe_bltn (v := .ty "int") (u := .type "int") (by rfl) T.b_int (by decide +kernel) rfl) pa_nil))) (pe_one (pe_not (pe_callB (kIsi rfl) (by rfl) T.b_isinstance (by decide +kernel) (pa_cons (pv 0) (pa_cons (pe_bltn (v := .ty "bool") (u := .type "bool") (by rfl) T.b_bool (by decide +kernel) rfl) pa_nil)))))))), ?_⟩
    rw [st_is_whole]
    exact ⟨_, rfl, _, _, _, rfl, isi_int, _, rfl, iteT ⟨_, rfl, _, _, _, rfl, isi_int_bool, _, rfl, k⟩⟩
theorem ok_is_word (T : Txt w K mg) : Df P w K mg base 1 (He.ga K "is_word") ["thing"] spWord := by
  refine df_mk T.f_is_word sc_is_word (fun vs H Q E h => ?_) (fun _ _ _ _ _ _ us hl => match us, hl with | [_], _ => rfl) (fun cdv A outer s H vs Q E hr h => ?_)
  · obtain ⟨z, rfl, _⟩ := h
    rfl
  · obtain ⟨z, rfl, wk, k⟩ := h
    obtain ⟨tL, hLONGEST⟩ := T.i_LONGEST
    obtain ⟨tA, hLETTERS⟩ := T.s_LETTERS
    refine ⟨_, (pss_one (ps_ret (pe_and (pe_callB (kIsi rfl) (by rfl) T.b_isinstance (by decide +kernel) (pa_cons (pv 0) (pa_cons (pe_bltn (v := .ty "str") (u := .type "str") (by rfl) T.b_str (by decide +kernel) rfl) pa_nil))) (pe_and (pe_chain op_le op_le pe_int (pe_callB call_len_str (by rfl) T.b_len PySem.boot_len (pa_cons (pv 0) pa_nil)) (pe_glob (v := .int 8) rfl hLONGEST ⟨_, rfl⟩)) (pe_one (pe_callB (cr_all rfl) (by rfl) T.b_all (by decide +kernel) (pa_cons (pe_lc (own := [("sign", 1)]) (g := gName 1) rfl sc_is_word.nd (pi_str (pv 0)) (blkOk_by (own := [("sign", 1)]) (N := ["thing", "sign"]) (sc := defScope s_is_word) (by decide +kernel)) (fun _ _ _ _ _ => (pg_name (i := 1) sc_is_word.nd rfl (Or.inl rfl))) (fun _ _ _ _ _ => pts_nil) (fun _ _ _ _ _ => (pe_cmpR op_in_sign (pv 1) (pe_glob (v := .str "abcdefghijklmnopqrstuvwxyz") rfl hLETTERS ⟨_, rfl⟩) (by rfl)))) pa_nil))))))), ?_⟩
    rw [st_is_word]
    refine ⟨_, rfl, _, _, _, rfl, isi_str, _, rfl, iteT ?_⟩
    have l1 : z.length ≤ sizeLine := Nat.le_trans wk.hi (by decide)
    refine ⟨_, rfl, _, rfl, l1, _, _, rfl, rfl, true, bT (by have := wk.lo; omega), ?_⟩
    refine iteT ⟨_, _, rfl, rfl, ?_⟩
    refine ⟨true, bT (by have := wk.hi; omega), iteT ⟨_, rfl, z, rfl, ?_⟩⟩
    refine lc_any (fun c => some c) (fun _ v (_ : Nat) => v = .bl true) goes_str (fun _ h => h) (Nat.le_trans (show z.cps.toList.length ≤ 8 from wk.hi) (by decide)) (fun x c H1 Qy Qn s1 f1 m1 ky kn => ?_) (fun D ws H' h1 h2 h3 h4 => ?_)
    · subst f1
      exact ⟨rfl, _, rfl, _, _, rfl, rfl, ky _ _ _ rfl (Same.refl _) (bT (wk.al c m1))⟩
    · obtain ⟨bs, rfl, hb⟩ := all_true h4
      exact ⟨_, bs, rfl, SqL.of h3, by rw [hb]; exact k _ h2⟩
theorem ok_is_place (T : Txt w K mg) : Df P w K mg base 2 (He.ga K "is_place") ["thing"] (spPlace K) := by
  obtain ⟨fd_is_whole, G_is_whole, b_is_whole, kp_is_whole⟩ := ok_is_whole (P := P) (w := w) (base := base) T
  refine df_mk T.f_is_place sc_is_place (fun vs H Q E h => ?_) (fun _ _ _ _ _ _ us hl => match us, hl with | [_], _ => rfl) (fun cdv A outer s H vs Q E hr h => ?_)
  · obtain ⟨v, p, rfl, _⟩ := h
    rfl
  · obtain ⟨v, p, rfl, hv, k⟩ := h
    refine ⟨_, (pss_one (ps_ret (pe_and (pe_callB (kIsi rfl) (by rfl) T.b_isinstance (by decide +kernel) (pa_cons (pv 0) (pa_cons (pe_bltn (v := .ty "tuple") (u := .type "tuple") (by rfl) T.b_tuple (by decide +kernel) rfl) pa_nil))) (pe_and (pe_cmpR op_eq (pe_callB (kLen rfl) (by rfl) T.b_len PySem.boot_len (pa_cons (pv 0) pa_nil)) pe_int (nomark _)) (pe_one (pe_callB (cr_all rfl) (by rfl) T.b_all (by decide +kernel) (pa_cons (pe_lc (own := [("one", 1)]) (g := gName 1) rfl sc_is_place.nd (pi_tup (pv 0)) (blkOk_by (own := [("one", 1)]) (N := ["thing", "one"]) (sc := defScope s_is_place) (by decide +kernel)) (fun _ _ _ _ _ => (pg_name (i := 1) sc_is_place.nd rfl (Or.inl rfl))) (fun _ _ _ _ _ => pts_nil) (fun _ _ _ _ _ => (pe_and (pe_call G_is_whole (hr.mono (by decide)) rfl T.g_is_whole kp_is_whole b_is_whole .nil pass0 (pa_cons (pv 1) pa_nil)) (pe_one (pe_cmpR op_ge (pv 1) pe_int (nomark _)))))) pa_nil))))))), ?_⟩
    rw [st_is_place]
    obtain ⟨a, rfl, ha⟩ := pl_parts hv
    refine ⟨_, rfl, _, _, _, rfl, isi_tup ha, _, rfl, iteT ?_⟩
    refine ⟨_, rfl, _, _, rfl, .inr ha, rfl, _, rfl, iteT ?_⟩
    refine ⟨_, rfl, a, rfl, ⟨_, ha⟩, lc_any (r := [p.1, p.2]) (fun n => some n) (fun _ v (_ : Nat) => v = .bl true) (goes_tup (F := fun v (n : Nat) => v = V.int (n : Int)) ha (.cons rfl (.cons rfl .nil))) (fun _ h => h) (by show 2 ≤ 100000; decide) (fun x n H1 Qy Qn s1 f1 m1 ky kn => ?_) (fun D ws H' h1 h2 h3 h4 => ?_)⟩
    · subst f1
      refine ⟨rfl, _, rfl, _, rfl, _, rfl, iteT ?_⟩
      exact ⟨_, rfl, _, _, rfl, rfl, ky _ _ _ rfl (Same.refl _) (bT (by omega))⟩
    · obtain ⟨bs, rfl, hb⟩ := all_true h4
      exact ⟨_, bs, rfl, SqL.of h3, by rw [hb]; exact k _ h2⟩
theorem ok_is_plain (T : Txt w K mg) : Df P w K mg base 1 (He.ga K "is_plain") ["thing"] (spPlain K) := by
  refine df_mk T.f_is_plain sc_is_plain (fun vs H Q E h => ?_) (fun _ _ _ _ _ _ us hl => match us, hl with | [_], _ => rfl) (fun cdv A outer s H vs Q E hr h => ?_)
  · obtain ⟨a, xs, rfl, _⟩ := h
    rfl
  · obtain ⟨a, xs, rfl, ha, hl, k⟩ := h
    refine ⟨_, (pss_cons (ps_if (PW.pt (pw_or (pt_not (pt_val (pe_callB (kIsi rfl) (by rfl) T.b_isinstance (by decide +kernel) (pa_cons (pv 0) (pa_cons (pe_bltn (v := .ty "tuple") (u := .type "tuple") (by rfl) T.b_tuple (by decide +kernel) rfl) pa_nil))))) (pw_or (pt_cmpR op_lt (pe_callB (kLen rfl) (by rfl) T.b_len PySem.boot_len (pa_cons (pv 0) pa_nil)) pe_int (nomark _)) (pw_or1 (pt_not (pt_val (pe_callB (kIsi rfl) (by rfl) T.b_isinstance (by decide +kernel) (pa_cons (pe_ix (kIxT rfl) (pv 0) pe_int (fun _ _ => rfl)) (pa_cons (pe_bltn (v := .ty "str") (u := .type "str") (by rfl) T.b_str (by decide +kernel) rfl) pa_nil))))))))) (pss_one (ps_ret pe_bl)) pss_nil) pss_never), ?_⟩
    rw [st_is_plain]
    refine ⟨_, rfl, _, _, _, rfl, isi_tup ha, _, rfl, iteF ?_⟩
    exact ⟨_, rfl, _, _, rfl, .inr ha, _, _, rfl, rfl, true, bT (by omega), iteT (iteT k)⟩
theorem ok_is_deed (T : Txt w K mg) : Df P w K mg base 2 (He.ga K "is_deed") ["thing"] (spDeed K) := by
  obtain ⟨fd_is_plain, G_is_plain, b_is_plain, kp_is_plain⟩ := ok_is_plain (P := P) (w := w) (base := base) T
  refine df_mk T.f_is_deed sc_is_deed (fun vs H Q E h => ?_) (fun _ _ _ _ _ _ us hl => match us, hl with | [_], _ => rfl) (fun cdv A outer s H vs Q E hr h => ?_)
  · obtain ⟨a, rfl, _⟩ := h
    rfl
  · obtain ⟨a, rfl, ha, k⟩ := h
    have hu := hr.units
    refine ⟨_, (pss_cons (ps_if (pt_val (pe_call G_is_plain (hr.mono (by decide)) rfl T.g_is_plain kp_is_plain b_is_plain .nil pass0 (pa_cons (pv 0) pa_nil))) (pss_one (ps_ret pe_bl)) pss_nil) (pss_cons (ps_if (PW.pt (pw_or (pt_not (pt_val (pe_callB (kIsi rfl) (by rfl) T.b_isinstance (by decide +kernel) (pa_cons (pv 0) (pa_cons (pe_bltn (v := .ty "tuple") (u := .type "tuple") (by rfl) T.b_tuple (by decide +kernel) rfl) pa_nil))))) (pw_or (pt_cmpR (kEqD rfl hr.units) (pv 0) (pe_tup pa_nil) (nomark _)) (pw_or1 (pt_not (pt_val (pe_callB (kIsi rfl) (by rfl) T.b_isinstance (by decide +kernel) (pa_cons (pe_ix (kIxT rfl) (pv 0) pe_int (fun _ _ => rfl)) (pa_cons (pe_bltn (v := .ty "str") (u := .type "str") (by rfl) T.b_str (by decide +kernel) rfl) pa_nil))))))))) (pss_one (ps_ret pe_bl)) pss_nil) (pss_cons (ps_if (pt_cmpR (kInS rfl) (pe_ix (kIxT rfl) (pv 0) pe_int (fun _ _ => rfl)) (pe_tup (pa_cons pe_str (pa_cons pe_str pa_nil))) (by rfl)) (pss_one (ps_ret (pe_cmpR op_eq (pe_callB (kLen rfl) (by rfl) T.b_len PySem.boot_len (pa_cons (pv 0) pa_nil)) pe_int (nomark _)))) pss_nil) pss_never))), ?_⟩
    rw [st_is_deed]
    refine ⟨_, rfl, _, _, rfl, ha, by decide, _, rfl, iteF ?_⟩
    refine ⟨_, rfl, _, _, _, rfl, isi_tup ha, _, rfl, iteF ?_⟩
    refine ⟨_, rfl, Nat.zero_le _, fun p hp => ?_⟩
    have s1 : Same H (upd H p (.tup [])) := same_new hp
    have ha1 := (Kp.of s1).sqt ha
    refine ⟨.tuple [.str "bring"], .tuple [], .tup ha1 (.cons (.str _) .nil), .tup (SqT.of upd_same) .nil, by decide +kernel, by decide +kernel, _, rfl, iteF ?_⟩
    refine ⟨_, rfl, a, _, _, _, rfl, rfl, ha1, at_of (j := 0) rfl rfl, _, _, _, rfl, isi_str, _, rfl, iteF ?_⟩
    refine ⟨_, rfl, a, _, _, _, rfl, rfl, ha1, at_of (j := 0) rfl rfl, by show 2 ≤ sizeLine; decide, fun q hq => ?_⟩
    have s2 : Same (upd H p (.tup [])) _ := same_new (o := .tup [.str "close", .str "bring"]) hq
    refine ⟨q, _, rfl, .inr (SqT.of upd_same), rfl, rfl, true, by decide +kernel, iteT ?_⟩
    have ha2 := (Kp.of s2).sqt ha1
    exact ⟨_, rfl, _, _, rfl, .inr ha2, rfl, k _ (s1.trans s2)⟩
end
end Wd
/-! ## P2 -/
set_option Elab.async false
set_option linter.all false
set_option maxRecDepth 100000
set_option maxHeartbeats 4000000
namespace Wd
open PySem PySem.Spec PyProof.Rows L2 PySem.W PySem.SeqAt
/-- an entry's parts -/
def enV : M.En → List V
  | .early => [.str "end", .str "early"]
  | .new => [.str "end", .str "new"]
  | .late k => [.str "ask", .str "late", .int ((k + 1 : Nat) : Int)]
theorem en_parts {K : PySem.W.Frag} {H : Hp} {v : V} {e : M.En} (h : Dp K H v (enD e)) : ∃ a, v = .ref a ∧
    ((e = .early ∧ SqT K H a [.str "end", .str "early"]) ∨ (e = .new ∧ SqT K H a [.str "end", .str "new"]) ∨ ∃ k b, e = .late k ∧ SqT K H a [.str "ask", .str "late", .int ((k + 1 : Nat) : Int), .ref b] ∧ SqT K H b [.str "bring"]) := by
  cases e with
  | early =>
    cases h with
    | tup hs ha =>
      cases ha with
      | cons h1 h2 =>
        cases h2 with
        | cons h3 h4 =>
          cases h4
          cases h1
          cases h3
          exact ⟨_, rfl, .inl ⟨rfl, hs⟩⟩
  | new =>
    cases h with
    | tup hs ha =>
      cases ha with
      | cons h1 h2 =>
        cases h2 with
        | cons h3 h4 =>
          cases h4
          cases h1
          cases h3
          exact ⟨_, rfl, .inr (.inl ⟨rfl, hs⟩)⟩
  | late k =>
    cases h with
    | tup hs ha =>
      cases ha with
      | cons h1 h2 =>
        cases h2 with
        | cons h3 h4 =>
          cases h4 with
          | cons h5 h6 =>
            cases h6 with
            | cons h7 h8 =>
              cases h8
              cases h1
              cases h3
              cases h5
              cases h7 with
              | tup hb hc =>
                cases hc with
                | cons c1 c2 =>
                  cases c2
                  cases c1
                  exact ⟨_, rfl, .inr (.inr ⟨k, _, rfl, hs, hb⟩)⟩
section
variable {P : Program} {w : World} {K : PySem.W.Frag} {mg : Str → Option Value} {base : Heap}
theorem ok_is_entry (T : Txt w K mg) : Df P w K mg base 3 (He.ga K "is_entry") ["thing"] (spEntry K) := by
  obtain ⟨fd_is_whole, G_is_whole, b_is_whole, kp_is_whole⟩ := ok_is_whole (P := P) (w := w) (base := base) T
  obtain ⟨fd_is_word, G_is_word, b_is_word, kp_is_word⟩ := ok_is_word (P := P) (w := w) (base := base) T
  obtain ⟨fd_is_deed, G_is_deed, b_is_deed, kp_is_deed⟩ := ok_is_deed (P := P) (w := w) (base := base) T
  refine df_mk T.f_is_entry sc_is_entry (fun vs H Q E h => ?_) (fun _ _ _ _ _ _ us hl => match us, hl with | [_], _ => rfl) (fun cdv A outer s H vs Q E hr h => ?_)
  · obtain ⟨v, e, rfl, _⟩ := h
    rfl
  · obtain ⟨v, e, rfl, hv, k⟩ := h
    obtain ⟨a, rfl, hp⟩ := en_parts hv
    refine ⟨_, (pss_cons (ps_if (PW.pt (pw_or (pt_not (pt_val (pe_callB (kIsi rfl) (by rfl) T.b_isinstance (by decide +kernel) (pa_cons (pv 0) (pa_cons (pe_bltn (v := .ty "tuple") (u := .type "tuple") (by rfl) T.b_tuple (by decide +kernel) rfl) pa_nil))))) (pw_or (pt_cmpR op_lt (pe_callB (kLen rfl) (by rfl) T.b_len PySem.boot_len (pa_cons (pv 0) pa_nil)) pe_int (nomark _)) (pw_or (pt_not (pt_val (pe_callB (kIsi rfl) (by rfl) T.b_isinstance (by decide +kernel) (pa_cons (pe_ix (kIxT rfl) (pv 0) pe_int (fun _ _ => rfl)) (pa_cons (pe_bltn (v := .ty "str") (u := .type "str") (by rfl) T.b_str (by decide +kernel) rfl) pa_nil))))) (pw_or1 (pt_not (pt_val (pe_call G_is_word (hr.mono (by decide)) rfl T.g_is_word kp_is_word b_is_word .nil pass0 (pa_cons (pe_ix (kIxT rfl) (pv 0) pe_int (fun _ _ => rfl)) pa_nil))))))))) (pss_one (ps_ret pe_bl)) pss_nil) (pss_cons (ps_if (pt_cmpR op_eq (pe_ix (kIxT rfl) (pv 0) pe_int (fun _ _ => rfl)) pe_str (nomark _)) (pss_one (ps_ret (pe_cmpR op_eq (pe_callB (kLen rfl) (by rfl) T.b_len PySem.boot_len (pa_cons (pv 0) pa_nil)) pe_int (nomark _)))) pss_nil) (pss_one (ps_ret (pe_and (pe_cmpR op_eq (pe_ix (kIxT rfl) (pv 0) pe_int (fun _ _ => rfl)) pe_str (nomark _)) (pe_and (pe_cmpR op_eq (pe_callB (kLen rfl) (by rfl) T.b_len PySem.boot_len (pa_cons (pv 0) pa_nil)) pe_int (nomark _)) (pe_and (pe_call G_is_whole (hr.mono (by decide)) rfl T.g_is_whole kp_is_whole b_is_whole .nil pass0 (pa_cons (pe_ix (kIxT rfl) (pv 0) pe_int (fun _ _ => rfl)) pa_nil)) (pe_and (pe_cmpR op_ge (pe_ix (kIxT rfl) (pv 0) pe_int (fun _ _ => rfl)) pe_int (nomark _)) (pe_one (pe_call G_is_deed (hr.mono (by decide)) rfl T.g_is_deed kp_is_deed b_is_deed .nil pass0 (pa_cons (pe_ix (kIxT rfl) (pv 0) pe_int (fun _ _ => rfl)) pa_nil))))))))))), ?_⟩
    rw [st_is_entry]
    rcases hp with ⟨rfl, ha⟩ | ⟨rfl, ha⟩ | ⟨n, b, rfl, ha, hb⟩
    · refine ⟨_, rfl, _, _, _, rfl, isi_tup ha, _, rfl, iteF ?_⟩
      refine ⟨_, rfl, _, _, rfl, .inr ha, _, _, rfl, rfl, false, bF (by decide), iteF ?_⟩
      refine ⟨_, rfl, a, _, _, _, rfl, rfl, ha, at_of (j := 0) rfl rfl, _, _, _, rfl, isi_str, _, rfl, iteF ?_⟩
      refine ⟨_, rfl, a, _, _, _, rfl, rfl, ha, at_of (j := 1) rfl rfl, _, rfl, early_word, fun H1 s1 => ⟨_, rfl, iteF ?_⟩⟩
      have ha1 := (Kp.of s1).sqt ha
      refine ⟨_, rfl, a, _, _, _, rfl, rfl, ha1, at_of (j := 0) rfl rfl, rfl, true, bT rfl, iteT ?_⟩
      refine ⟨_, rfl, _, _, rfl, .inr ha1, rfl, ?_⟩
      exact k _ s1
    · refine ⟨_, rfl, _, _, _, rfl, isi_tup ha, _, rfl, iteF ?_⟩
      refine ⟨_, rfl, _, _, rfl, .inr ha, _, _, rfl, rfl, false, bF (by decide), iteF ?_⟩
      refine ⟨_, rfl, a, _, _, _, rfl, rfl, ha, at_of (j := 0) rfl rfl, _, _, _, rfl, isi_str, _, rfl, iteF ?_⟩
      refine ⟨_, rfl, a, _, _, _, rfl, rfl, ha, at_of (j := 1) rfl rfl, _, rfl, new_word, fun H1 s1 => ⟨_, rfl, iteF ?_⟩⟩
      have ha1 := (Kp.of s1).sqt ha
      refine ⟨_, rfl, a, _, _, _, rfl, rfl, ha1, at_of (j := 0) rfl rfl, rfl, true, bT rfl, iteT ?_⟩
      refine ⟨_, rfl, _, _, rfl, .inr ha1, rfl, ?_⟩
      exact k _ s1
    · refine ⟨_, rfl, _, _, _, rfl, isi_tup ha, _, rfl, iteF ?_⟩
      refine ⟨_, rfl, _, _, rfl, .inr ha, _, _, rfl, rfl, false, bF (by show ¬ (4 : Int) < 2; decide), iteF ?_⟩
      refine ⟨_, rfl, a, _, _, _, rfl, rfl, ha, at_of (j := 0) rfl rfl, _, _, _, rfl, isi_str, _, rfl, iteF ?_⟩
      refine ⟨_, rfl, a, _, _, _, rfl, rfl, ha, at_of (j := 1) rfl rfl, _, rfl, late_word, fun H1 s1 => ⟨_, rfl, iteF ?_⟩⟩
      have ha1 := (Kp.of s1).sqt ha
      refine ⟨_, rfl, a, _, _, _, rfl, rfl, ha1, at_of (j := 0) rfl rfl, rfl, false, bF (by decide +kernel), iteF ?_⟩
      refine ⟨_, rfl, a, _, _, _, rfl, rfl, ha1, at_of (j := 0) rfl rfl, rfl, true, bT rfl, iteT ?_⟩
      refine ⟨_, rfl, _, _, rfl, .inr ha1, rfl, true, bT rfl, iteT ?_⟩
      refine ⟨_, rfl, a, _, _, _, rfl, rfl, ha1, at_of (j := 2) rfl rfl, _, rfl, true, rfl, iteT ?_⟩
      refine ⟨_, rfl, a, _, _, _, rfl, rfl, ha1, at_of (j := 2) rfl rfl, _, _, rfl, rfl, true, bT (by omega), iteT ?_⟩
      refine ⟨_, rfl, a, _, _, _, rfl, rfl, ha1, at_of (j := 3) rfl rfl, _, rfl, (Kp.of s1).sqt hb, fun H2 s2 => ?_⟩
      exact k _ (s1.trans s2)
end
end Wd
/-! ## P3 -/
set_option Elab.async false
set_option linter.all false
set_option maxRecDepth 100000
set_option maxHeartbeats 400000
namespace Wd
open PySem PySem.Spec PyProof.Rows L2 PySem.W PySem.SeqAt
/-! ### states -/
def SessOk (K : PySem.W.Frag) (H : Hp) (ks : List (Key × V)) : Prop := ks.length ≤ 1 ∧ ∀ kv ∈ ks, kv.1 = lateK ∧ ∃ a i x y, kv.2 = V.ref a ∧ SqT K H a [.non, .int i, x, y]
structure StAt (K : PySem.W.Frag) (H : Hp) (t n s : Addr) : Prop where
  t : H t = some (.tup [.ref n, .ref s])
  n : ∃ kn, H n = some (.dK kn)
  s : ∃ ks, H s = some (.dK ks) ∧ SessOk K H ks
theorem SessOk.kp {K : PySem.W.Frag} {H H' : Hp} {ks : List (Key × V)} (h : SessOk K H ks) (k : Kp H H') : SessOk K H' ks :=
  ⟨h.1, fun kv m => by obtain ⟨e, a, i, x, y, e2, q⟩ := h.2 kv m; exact ⟨e, a, i, x, y, e2, k.sqt q⟩⟩
/-- what sessions.get(asker, NEVER) gives -/
theorem SessOk.get {K : PySem.W.Frag} {H : Hp} {ks : List (Key × V)} (h : SessOk K H ks) {k : Key} {d : Addr} {x0 y0 : V} {i0 : Int} (hd : SqT K H d [.non, .int i0, x0, y0]) : ∃ a i x y, (valV ks k).getD (.ref d) = V.ref a ∧ SqT K H a [.non, .int i, x, y] := by
  cases e : valV ks k with
  | none => exact ⟨d, i0, x0, y0, rfl, hd⟩
  | some v =>
    have m : ∃ kv ∈ ks, kv.2 = v := by
      unfold valV at e
      obtain ⟨kv, h1, h2⟩ := Option.map_eq_some_iff.mp e
      exact ⟨kv, List.mem_of_find?_eq_some h1, h2⟩
    obtain ⟨kv, h1, h2⟩ := m
    obtain ⟨_, a, i, x, y, e2, q⟩ := h.2 kv h1
    exact ⟨a, i, x, y, by rw [← h2]; exact e2, q⟩
theorem SessOk.put {K : PySem.W.Frag} {H : Hp} {ks : List (Key × V)} (h : SessOk K H ks) {a : Addr} {i : Int} {x y : V} (q : SqT K H a [.non, .int i, x, y]) : SessOk K H (putK ks (lateK) (.ref a)) := by
  obtain ⟨h1, h2⟩ := h
  match ks, h1, h2 with
  | [], _, _ =>
    refine ⟨Nat.le_refl _, fun kv m => ?_⟩
    have e : kv = (lateK, V.ref a) := by simpa [putK] using m
    subst e
    exact ⟨rfl, a, i, x, y, rfl, q⟩
  | [kv], _, h2 =>
    obtain ⟨e1, _⟩ := h2 kv List.mem_cons_self
    have e : putK [kv] (lateK) (V.ref a) = [(kv.1, V.ref a)] := by simp [putK, e1]
    rw [e]
    refine ⟨Nat.le_refl _, fun kv2 m => ?_⟩
    rw [List.mem_singleton.mp m]
    exact ⟨e1, a, i, x, y, rfl, q⟩
def spNodes0 : Sp := fun vs H Q _ => vs = [] ∧ ∀ H' n kn, H n = none → Same H H' → H' n = some (.dK kn) → Q (.ref n) H'
def spState0 (K : PySem.W.Frag) : Sp := fun vs H Q _ => vs = [] ∧ ∀ H' t n s, Same H H' → StAt K H' t n s → H t = none → H n = none → H s = none → n ≠ s → Q (.ref t) H'
def spDoneDeed (K : PySem.W.Frag) : Sp := fun vs H Q _ => ∃ nv d av, vs = [nv, .non, .ref d, av] ∧ SqT K H d [.str "bring"] ∧ ∀ H' r p l, Same H H' → H' r = some (.tup [nv, .non, .ref p, .ref l]) → Q (.ref r) H'
def spEnded (K : PySem.W.Frag) : Sp := fun vs H Q _ => ∃ n s z ks, vs = [.ref n, .ref s, .str z] ∧ H s = some (.dK ks) ∧ SessOk K H ks ∧ ∀ H' r t l, Same H H' → H' r = some (.tup [.ref t, .non, .ref l]) → H' t = some (.tup [.ref n, .ref s]) → H t = none → Q (.ref r) H'
section
variable {P : Program} {w : World} {K : PySem.W.Frag} {mg : Str → Option Value} {base : Heap}
theorem ok_first_nodes (T : Txt w K mg) : Df P w K mg base 1 (He.ga K "first_nodes") [] spNodes0 := by
  refine df_mk T.f_first_nodes sc_first_nodes (fun vs H Q E h => ?_) (fun _ _ _ _ _ _ us hl => match us, hl with | [], _ => rfl) (fun cdv A outer s H vs Q E hr h => ?_)
  · obtain ⟨rfl, _⟩ := h
    rfl
  · obtain ⟨rfl, k⟩ := h
    obtain ⟨tR, hROOT⟩ := T.s_ROOT
    refine ⟨_, (pss_one (ps_ret (pe_disp (pps_cons (pe_glob (v := .str "/") rfl hROOT ⟨_, rfl⟩) (pe_tup (pa_cons pe_str (pa_cons pe_int (pa_cons pe_int (pa_cons pe_non pa_nil))))) pps_nil) (by rfl) (by rfl) (fun z => by cases z) (by decide)))), ?_⟩
    rw [st_first_nodes]
    refine fun p hp => ⟨by show 4 ≤ sizeLine; decide, fun q hq => ?_⟩
    have npq : p ≠ q := ne_of_none upd_same hq
    have hq0 : H q = none := by rw [upd_ne npq.symm] at hq; exact hq
    refine ⟨by rw [upd_ne npq]; exact upd_same, [(Sum.inr "/", .ref q)], rfl, (by show 1 ≤ 15; decide), k _ p [(Sum.inr "/", .ref q)] hp ?_ upd_same⟩
    exact same_newer (((same_new hp).trans (same_new hq))) hp
theorem ok_first_state (T : Txt w K mg) : Df P w K mg base 2 (He.ga K "first_state") [] (spState0 K) := by
  obtain ⟨fd_first_nodes, G_first_nodes, b_first_nodes, kp_first_nodes⟩ := ok_first_nodes (P := P) (w := w) (base := base) T
  refine df_mk T.f_first_state sc_first_state (fun vs H Q E h => ?_) (fun _ _ _ _ _ _ us hl => match us, hl with | [], _ => rfl) (fun cdv A outer s H vs Q E hr h => ?_)
  · obtain ⟨rfl, _⟩ := h
    rfl
  · obtain ⟨rfl, k⟩ := h
    refine ⟨_, (pss_one (ps_ret (pe_tup (pa_cons (pe_call0 G_first_nodes (hr.mono (by decide)) rfl T.g_first_nodes kp_first_nodes b_first_nodes .nil pass0) (pa_cons pe_dnewK pa_nil))))), ?_⟩
    rw [st_first_state]
    refine ⟨rfl, fun H1 n kn hn s1 h1 => ?_⟩
    refine fun s hs => ?_
    have nns : n ≠ s := ne_of_none h1 hs
    refine ⟨by show 2 ≤ sizeLine; decide, fun t ht => ?_⟩
    have s2 : Same H1 (upd H1 s (.dK [])) := same_new hs
    have s3 := s2.trans (same_new (o := .tup [.ref n, .ref s]) ht)
    refine k _ t n s (s1.trans s3) ⟨upd_same, ⟨kn, s3 _ _ h1⟩, [], ?_, Nat.zero_le _, fun kv m => by cases m⟩ ((s1.trans s2).free ht) hn (s1.free hs) nns
    rw [upd_ne (ne_of_none upd_same ht)]
    exact upd_same
theorem ok_done_deed (T : Txt w K mg) : Df P w K mg base 1 (He.ga K "done_deed") ["nodes", "limit", "deed", "asker"] (spDoneDeed K) := by
  refine df_mk T.f_done_deed sc_done_deed (fun vs H Q E h => ?_) (fun _ _ _ _ _ _ us hl => match us, hl with | [_, _, _, _], _ => rfl) (fun cdv A outer s H vs Q E hr h => ?_)
  · obtain ⟨nv, d, av, rfl, _⟩ := h
    rfl
  · obtain ⟨nv, d, av, rfl, hd, k⟩ := h
    refine ⟨_, (pss_cons (ps_set (i := 4) sc_done_deed.nd rfl (Or.inl rfl) (pe_ix (kIxT rfl) (pv 2) pe_int (fun _ _ => rfl))) (pss_cons (ps_if (pt_cmpR op_eq (pv 4) pe_str (nomark _)) pss_never pss_nil) (pss_cons (ps_if (pt_cmpR op_isN (pv 1) pe_non (nomark _)) (pss_one (ps_ret (pe_tup (pa_cons (pv 0) (pa_cons pe_non (pa_cons (pe_tup (pa_cons pe_str (pa_cons pe_str pa_nil))) (pa_cons (pe_lst pa_nil) pa_nil))))))) pss_nil) pss_never))), ?_⟩
    rw [st_done_deed]
    refine ⟨_, rfl, d, _, _, _, rfl, rfl, hd, at_of (j := 0) rfl rfl, ?_⟩
    refine ⟨_, rfl, rfl, false, bF (by decide +kernel), iteF ?_⟩
    refine ⟨_, rfl, rfl, true, rfl, iteT ?_⟩
    refine ⟨_, rfl, by show 2 ≤ sizeLine; decide, fun p hp => ?_⟩
    refine ⟨Nat.zero_le _, fun l hl => ⟨by show 4 ≤ sizeLine; decide, fun r hr2 => ?_⟩⟩
    exact k _ r p l (((same_new hp).trans (same_new hl)).trans (same_new hr2)) upd_same
theorem ok_ended (T : Txt w K mg) : Df P w K mg base 1 (He.ga K "ended") ["nodes", "sessions", "asker"] (spEnded K) := by
  refine df_mk T.f_ended sc_ended (fun vs H Q E h => ?_) (fun _ _ _ _ _ _ us hl => match us, hl with | [_, _, _], _ => rfl) (fun cdv A outer s H vs Q E hr h => ?_)
  · obtain ⟨n, s, z, ks, rfl, _⟩ := h
    rfl
  · obtain ⟨n, s2, z, ks, rfl, hs, so, k⟩ := h
    refine ⟨_, (pss_cons (ps_asg (pe_dget2 (hu_of hr) (pv 1) (pv 2) (pe_glob (v := .ref (He.ga K "NEVER")) rfl T.g_NEVER rfl) (by constructor <;> rfl)) (pg_tup (by rfl) (pgs_cons (pg_name (i := 3) sc_ended.nd rfl (Or.inl rfl)) (pgs_cons (pg_name (i := 4) sc_ended.nd rfl (Or.inl rfl)) (pgs_cons (pg_name (i := 5) sc_ended.nd rfl (Or.inl rfl)) (pgs_cons (pg_name (i := 6) sc_ended.nd rfl (Or.inl rfl)) pgs_nil)))))) (pss_cons (ps_if (pt_cmpR op_isN (pv 3) pe_non (nomark _)) (pss_one (ps_ret (pe_tup (pa_cons (pe_tup (pa_cons (pv 0) (pa_cons (pv 1) pa_nil))) (pa_cons pe_non (pa_cons (pe_lst pa_nil) pa_nil)))))) pss_nil) pss_never)), ?_⟩
    rw [st_ended]
    obtain ⟨a, i, x, y, e, q⟩ := so.get (k := Sum.inr z) (T.never H)
    refine ⟨_, rfl, s2, rfl, .inl ⟨ks, .inl hs⟩, _, rfl, _, DGet.k (k := Sum.inr z) hs, ?_⟩
    refine ⟨a, _, e, q, rfl, _, _, rfl, _, _, rfl, _, _, rfl, _, _, rfl, rfl, ?_⟩
    refine ⟨_, rfl, rfl, true, rfl, iteT ?_⟩
    refine ⟨_, rfl, _, rfl, by show 2 ≤ sizeLine; decide, fun t ht => ?_⟩
    refine ⟨Nat.zero_le _, fun l hl => ⟨by show 3 ≤ sizeLine; decide, fun r hr2 => ?_⟩⟩
    have s3 := (same_new (o := .tup [.ref n, .ref s2]) ht).trans (same_new (o := .lst []) hl)
    exact k _ r t l (s3.trans (same_new hr2)) upd_same ((same_new hr2) _ _ ((same_new hl) _ _ upd_same)) ht
/-- done(state, entry, place=..) -/
def spDone (K : PySem.W.Frag) : Sp := fun vs H Q _ => ∃ t n s ev e xv, vs = [.ref t, ev, xv] ∧ StAt K H t n s ∧ Dp K H ev (enD e) ∧
  ∀ H' r t' n' s' x y, Same H H' → H' r = some (.tup [.ref t', x, y]) → StAt K H' t' n' s' → H t' = none → H n' = none → H s' = none → Q (.ref r) H'
def DfD (P : Program) (w : World) (K : PySem.W.Frag) (mg : Str → Option Value) (base : Heap) : Prop :=
  ∃ fd, FnOk P w K mg base CX0 4 (He.ga K "done") fd ["state", "entry", "place"] (spDone K) ∧ KBn K fd ["state", "entry", "place"] 2 ["place"] (fun us ws => us ++ ws) (fun vs zs => vs ++ zs) ∧ PySem.W.keepIn K (.ref (He.ga K "done")) = true
theorem ok_done (T : Txt w K mg) : DfD P w K mg base := by
  obtain ⟨fd_is_entry, G_is_entry, b_is_entry, kp_is_entry⟩ := ok_is_entry (P := P) (w := w) (base := base) T
  obtain ⟨fd_ended, G_ended, b_ended, kp_ended⟩ := ok_ended (P := P) (w := w) (base := base) T
  obtain ⟨fd_done_deed, G_done_deed, b_done_deed, kp_done_deed⟩ := ok_done_deed (P := P) (w := w) (base := base) T
  obtain ⟨fd, F⟩ := T.f_done
  refine ⟨fd, F.ok sc_done (fun vs H Q E h => ?_) (fun cdv A outer s H vs Q E hr h => ?_), ?_, F.kp⟩
  · obtain ⟨t, n, s, ev, e, xv, rfl, _⟩ := h
    rfl
  · obtain ⟨t, n, s2, ev, e, xv, rfl, st, he, k⟩ := h
    refine ⟨_, PSs.nox (pss_cons (ps_if (pt_not (pt_val (pe_call G_is_entry (hr.mono (by decide)) rfl T.g_is_entry kp_is_entry b_is_entry .nil pass0 (pa_cons (pv 1) pa_nil)))) pss_never pss_nil) (pss_cons (ps_asg (pe_lc (own := [("one", 15)]) (g := gName 15) rfl sc_done.nd (pi_tup (pv 0)) (blkOk_by (own := [("one", 15)]) (N := ["state", "entry", "place", "nodes", "sessions", "asker", "stamp", "deed", "limit", "last", "elder", "where", "found", "answer", "events", "one"]) (sc := defScope s_done) (by decide +kernel)) (fun _ _ _ _ _ => (pg_name (i := 15) sc_done.nd rfl (Or.inl rfl))) (fun _ _ _ _ _ => pts_nil) (fun _ _ _ _ _ => (pe_callTy call_dictD (by rfl) T.b_dict (by decide +kernel) (pa_cons (pv 15) pa_nil)))) (kUnl rfl rfl (pgs_cons (pg_name (i := 3) sc_done.nd rfl (Or.inl rfl)) (pgs_cons (pg_name (i := 4) sc_done.nd rfl (Or.inl rfl)) pgs_nil)))) (pss_cons (ps_set (i := 5) sc_done.nd rfl (Or.inl rfl) (pe_ix (kIxT rfl) (pv 1) pe_int (fun _ _ => rfl))) (pss_cons (ps_if (pt_cmpR op_eq (pe_ix (kIxT rfl) (pv 1) pe_int (fun _ _ => rfl)) pe_str (nomark _)) (pss_one (ps_ret (pe_call G_ended (hr.mono (by decide)) rfl T.g_ended kp_ended b_ended .nil pass0 (pa_cons (pv 3) (pa_cons (pv 4) (pa_cons (pv 5) pa_nil)))))) pss_nil) (pss_cons (ps_asg (pe_slice sl_tup (pv 1) (po_some pe_int) po_none) (pg_tup (by rfl) (pgs_cons (pg_name (i := 6) sc_done.nd rfl (Or.inl rfl)) (pgs_cons (pg_name (i := 7) sc_done.nd rfl (Or.inl rfl)) pgs_nil)))) (pss_cons (ps_asg (pe_dget2 (hu_of hr) (pv 4) (pv 5) (pe_glob (v := .ref (He.ga K "NEVER")) rfl T.g_NEVER rfl) (by constructor <;> rfl)) (pg_tup (by rfl) (pgs_cons (pg_name (i := 8) sc_done.nd rfl (Or.inl rfl)) (pgs_cons (pg_name (i := 9) sc_done.nd rfl (Or.inl rfl)) (pgs_cons (pg_name (i := 10) sc_done.nd rfl (Or.inl rfl)) (pgs_cons (pg_name (i := 11) sc_done.nd rfl (Or.inl rfl)) pgs_nil)))))) (pss_cons (ps_if (pt_cmpR op_le (pv 6) (pv 9) (nomark _)) (pss_one (ps_ret (pe_tup (pa_cons (pe_tup (pa_cons (pv 3) (pa_cons (pv 4) pa_nil))) (pa_cons (pe_ifExp (pt_cmpR op_eq (pv 6) (pv 9) (nomark _)) (pv 10) pe_non) (pa_cons (pe_lst pa_nil) pa_nil)))))) pss_nil) (pss_cons (ps_asg (pe_call G_done_deed (hr.mono (by decide)) rfl T.g_done_deed kp_done_deed b_done_deed .nil pass0 (pa_cons (pv 3) (pa_cons (pv 8) (pa_cons (pv 7) (pa_cons (pv 5) pa_nil))))) (pg_tup (by rfl) (pgs_cons (pg_name (i := 12) sc_done.nd rfl (Or.inl rfl)) (pgs_cons (pg_name (i := 8) sc_done.nd rfl (Or.inl rfl)) (pgs_cons (pg_name (i := 13) sc_done.nd rfl (Or.inl rfl)) (pgs_cons (pg_name (i := 14) sc_done.nd rfl (Or.inl rfl)) pgs_nil)))))) (pss_cons (ps_dput (hu_of hr) (pv 4) (pv 5) (pe_tup (pa_cons (pv 8) (pa_cons (pv 6) (pa_cons (pv 13) (pa_cons (pv 2) pa_nil))))) rfl) (pss_one (ps_ret (pe_tup (pa_cons (pe_tup (pa_cons (pe_callTy call_dictD (by rfl) T.b_dict (by decide +kernel) (pa_cons (pv 12) pa_nil)) (pa_cons (pv 4) pa_nil))) (pa_cons (pv 13) (pa_cons (pv 14) pa_nil))))))))))))))), ?_⟩
    rw [st_done]
    refine ⟨_, rfl, ev, e, rfl, he, fun H1 s1 => ⟨_, rfl, iteF ?_⟩⟩
    have ht1 := s1 _ _ st.t
    refine ⟨_, rfl, t, rfl, ⟨_, SqT.of ht1⟩, lc_any (r := [n, s2]) (fun a => some a) (fun H' v (a : Addr) => ∃ q kvs, v = V.ref q ∧ H q = none ∧ H' q = some (.dK kvs) ∧ H a = some (.dK kvs)) (goes_tup (F := fun v (a : Addr) => v = V.ref a) (SqT.of ht1) (.cons rfl (.cons rfl .nil)))
      (fun k h => by obtain ⟨q, kvs, e1, e2, e3, e4⟩ := h; exact ⟨q, kvs, e1, e2, k _ _ e3 (fun _ z => nomatch z), e4⟩) (by show 2 ≤ 100000; decide) (fun x a H2 Qy Qn s3 f1 m1 ky kn => ?_) (fun D ws H2 hD s3 hl hp => ?_)⟩
    · subst f1
      have hd : ∃ kvs, H a = some (.dK kvs) := by
        rcases List.mem_cons.mp m1 with rfl | m1
        · exact st.n
        · rw [List.mem_singleton.mp m1]
          obtain ⟨ks, h1, _⟩ := st.s
          exact ⟨ks, h1⟩
      obtain ⟨kvs, hd⟩ := hd
      refine ⟨rfl, _, rfl, a, kvs, rfl, .inl (s3 _ _ (s1 _ _ hd)), fun q hq => ?_⟩
      exact ky _ _ _ rfl (same_new hq) ⟨q, kvs, rfl, (s1.trans s3).free hq, upd_same, hd⟩
    · have hp : Paired _ ws [n, s2] := hp
      cases hp with
      | cons c1 hp =>
        cases hp with
        | cons c2 hp =>
          cases hp
          obtain ⟨n', kn, rfl, e2, e3, e4⟩ := c1
          obtain ⟨s', ks, rfl, e6, e7, e8⟩ := c2
          have so : SessOk K H ks := by
            obtain ⟨ks2, h1, h2⟩ := st.s
            rw [e8] at h1
            cases h1
            exact h2
          have s4 : Same H H2 := s1.trans s3
          have he2 := Dp.kp (Kp.of s4) _ _ (noL_en e) he
          obtain ⟨a, rfl, hparts⟩ := en_parts he2
          refine ⟨D, _, rfl, SqL.of hl, rfl, _, _, rfl, _, _, rfl, rfl, ?_⟩
          have hend : ∀ z : Str, SqT K H2 a [.str "end", .str z] → ∀ H3 r t l, Same H2 H3 → H3 r = some (.tup [.ref t, .non, .ref l]) → H3 t = some (.tup [.ref n', .ref s']) → H2 t = none → Q (.ref r) H3 := fun z _ H3 r t l s5 hr3 ht3 htn =>
            k H3 r t n' s' _ _ (s4.trans s5) hr3 ⟨ht3, ⟨kn, s5 _ _ e3⟩, ks, s5 _ _ e7, so.kp (Kp.of (s4.trans s5))⟩ (s4.free htn) e2 e6
          rcases hparts with ⟨rfl, ha⟩ | ⟨rfl, ha⟩ | ⟨j, b, rfl, ha, hb⟩
          · refine ⟨_, rfl, a, _, _, _, rfl, rfl, ha, at_of (j := 1) rfl rfl, ?_⟩
            refine ⟨_, rfl, a, _, _, _, rfl, rfl, ha, at_of (j := 0) rfl rfl, rfl, true, bT rfl, iteT ?_⟩
            exact ⟨_, rfl, _, rfl, _, rfl, n', s', _, ks, rfl, e7, so.kp (Kp.of s4), hend _ ha⟩
          · refine ⟨_, rfl, a, _, _, _, rfl, rfl, ha, at_of (j := 1) rfl rfl, ?_⟩
            refine ⟨_, rfl, a, _, _, _, rfl, rfl, ha, at_of (j := 0) rfl rfl, rfl, true, bT rfl, iteT ?_⟩
            exact ⟨_, rfl, _, rfl, _, rfl, n', s', _, ks, rfl, e7, so.kp (Kp.of s4), hend _ ha⟩
          · refine ⟨_, rfl, a, _, _, _, rfl, rfl, ha, at_of (j := 1) rfl rfl, ?_⟩
            refine ⟨_, rfl, a, _, _, _, rfl, rfl, ha, at_of (j := 0) rfl rfl, rfl, false, bF (by decide +kernel), iteF ?_⟩
            refine ⟨_, rfl, _, rfl, a, _, rfl, ha, (by show ¬ (2 = 0 ∧ 4 = 4); decide), fun p hp => ?_⟩
            (generalize hz : upd H2 p _ = H3; have s5 : Same H2 H3 := (by rw [← hz]; exact same_new hp); have h3 : H3 p = some _ := (by rw [← hz]; exact upd_same); clear hz)
            refine ⟨p, [.int ((j + 1 : Nat) : Int), .ref b], rfl, SqT.of h3, rfl, _, _, rfl, _, _, rfl, rfl, ?_⟩
            simp only [List.set_cons_succ, List.set_cons_zero]
            have e3' := s5 _ _ e3
            have e7' := s5 _ _ e7
            have ss := s4.trans s5
            have hb' := (Kp.of s5).sqt hb
            have so5 := so.kp (Kp.of ss)
            clear h3 e3 e7 s4 s5 hb ha hp
            obtain ⟨a2, i, x, y, eg, q⟩ := so5.get (k := lateK) (T.never _)
            refine ⟨_, rfl, s', rfl, .inl ⟨ks, .inl e7'⟩, _, rfl, _, DGet.k (k := lateK) e7', ?_⟩
            refine ⟨a2, _, eg, q, rfl, _, _, rfl, _, _, rfl, _, _, rfl, _, _, rfl, rfl, ?_⟩
            simp only [List.set_cons_succ, List.set_cons_zero]
            refine ⟨_, rfl, _, rfl, _, _, rfl, rfl, _, rfl, ?_⟩
            refine ite2 (fun _ => ?_) (fun _ => ?_)
            · refine ⟨_, rfl, _, rfl, by show 2 ≤ sizeLine; decide, fun r hr1 => ?_⟩
              (generalize hz : upd H3 r _ = H4; have s6 : Same H3 H4 := (by rw [← hz]; exact same_new hr1); have h4 : H4 r = some _ := (by rw [← hz]; exact upd_same); clear hz)
              have fin : ∀ z : V, ∀ l, H4 l = none → ∀ u, (upd H4 l (.lst [])) u = none → Q (.ref u) (upd (upd H4 l (.lst [])) u (.tup [.ref r, z, .ref l])) := fun z l hl u hu => by
                have s7 : Same H4 (upd H4 l (.lst [])) := same_new hl
                generalize upd H4 l (.lst []) = H5 at *
                (generalize hz : upd H5 u _ = H6; have s8 : Same H5 H6 := (by rw [← hz]; exact same_new hu); have h6 : H6 u = some _ := (by rw [← hz]; exact upd_same); clear hz)
                have s9 := s6.trans (s7.trans s8)
                exact k _ u r n' s' z _ (ss.trans s9) h6 ⟨(s7.trans s8) _ _ h4, ⟨kn, s9 _ _ e3'⟩, ks, s9 _ _ e7', so5.kp (Kp.of s9)⟩ (ss.free hr1) e2 e6
              refine ⟨_, rfl, _, rfl, rfl, _, rfl, ?_⟩
              refine ite2 (fun _ => ?_) (fun _ => ?_)
              · exact ⟨_, rfl, Nat.zero_le _, fun l hl => ⟨by show 3 ≤ sizeLine; decide, fun u hu => fin _ l hl u hu⟩⟩
              · exact ⟨Nat.zero_le _, fun l hl => ⟨by show 3 ≤ sizeLine; decide, fun u hu => fin _ l hl u hu⟩⟩
            · refine ⟨_, rfl, _, rfl, _, rfl, _, rfl, _, b, _, rfl, hb', fun H4 r p2 l s6 hr3 => ?_⟩
              refine ⟨r, _, rfl, SqT.of hr3, rfl, _, _, rfl, _, _, rfl, _, _, rfl, _, _, rfl, rfl, ?_⟩
              simp only [List.set_cons_succ, List.set_cons_zero]
              refine ⟨_, rfl, _, rfl, _, rfl, _, rfl, by show 4 ≤ sizeLine; decide, fun v hv => ?_⟩
              (generalize hz : upd H4 v _ = H5; have s7 : Same H4 H5 := (by rw [← hz]; exact same_new hv); have h5 : H5 v = some _ := (by rw [← hz]; exact upd_same); clear hz)
              have e7'' := s7 _ _ (s6 _ _ e7')
              have e3'' := s7 _ _ (s6 _ _ e3')
              have ss2 := (ss.trans s6).trans s7
              have so6 := so.kp (Kp.of ss2)
              clear e3' e7' hr3 hv ss s6 s7 so5 q eg hb'
              refine ⟨_, rfl, _, rfl, s', _, rfl, DPut.k (k := lateK) e7'' (Nat.lt_of_le_of_lt so.1 (by decide)), ?_⟩
              have kpu : Kp H5 (upd H5 s' (.dK (putK ks lateK (.ref v)))) := Kp.at e7'' (fun _ z => nomatch z) fun _ _ z => nomatch z
              have so8 := (so6.put (SqT.of h5)).kp kpu
              have h8 : (upd H5 s' (.dK (putK ks lateK (.ref v)))) s' = some _ := upd_same
              have S0 : Same H (upd H5 s' (.dK (putK ks lateK (.ref v)))) := fun b o e => by rw [upd_ne (ne_of_none e e6)]; exact ss2 _ _ e
              have hn3 : ∃ kn', (upd H5 s' (.dK (putK ks lateK (.ref v)))) n' = some (.dK kn') := by
                by_cases hns : n' = s'
                · rw [hns]; exact ⟨_, upd_same⟩
                · exact ⟨kn, by rw [upd_ne hns]; exact e3''⟩
              generalize upd H5 s' (.dK (putK ks lateK (.ref v))) = H6 at *
              obtain ⟨kn', hn3⟩ := hn3
              refine ⟨_, rfl, n', kn', rfl, .inl hn3, fun m hm => ?_⟩
              (generalize hz : upd H6 m _ = H7; have s9 : Same H6 H7 := (by rw [← hz]; exact same_new hm); have h9 : H7 m = some _ := (by rw [← hz]; exact upd_same); clear hz)
              refine ⟨_, rfl, by show 2 ≤ sizeLine; decide, fun tt htt => ?_⟩
              (generalize hz : upd H7 tt _ = H9; have s10 : Same H7 H9 := (by rw [← hz]; exact same_new htt); have h10 : H9 tt = some _ := (by rw [← hz]; exact upd_same); clear hz)
              refine ⟨_, rfl, _, rfl, by show 3 ≤ sizeLine; decide, fun u hu => ?_⟩
              (generalize hz : upd H9 u _ = H10; have s11 : Same H9 H10 := (by rw [← hz]; exact same_new hu); have h11 : H10 u = some _ := (by rw [← hz]; exact upd_same); clear hz)
              have S1 := s9.trans (s10.trans s11)
              exact k _ u tt m s' _ _ (S0.trans S1) h11 ⟨s11 _ _ h10, ⟨kn', (s10.trans s11) _ _ h9⟩, _, S1 _ _ h8, so8.kp (Kp.of S1)⟩ ((S0.trans s9).free htt) (S0.free hm) e6
  · obtain ⟨oc, od, dV, kV, doc, pm, an, cdv, ct, osl, rfl, lk, hcd, hD, hK⟩ := F.ex
    rcases hD with ⟨_, rfl⟩ | ⟨e, _⟩
    · refine ⟨fun s us ws X l1 l2 => .of_eq ?_, fun r1 r2 => r1.append r2⟩
      match us, ws, l1, l2 with
      | [_, _], [_], _, _ => rfl
    · exact absurd rfl e
end
end Wd
/-! ## P4 -/
set_option Elab.async false
set_option linter.all false
set_option maxRecDepth 100000
set_option maxHeartbeats 400000
namespace Wd
open PySem PySem.Spec PyProof.Rows L2 PySem.W PySem.SeqAt
/-! ### letters, rows -/
def spThings (K : PySem.W.Frag) : Sp := fun vs H Q _ => ∃ a xs bv r p, vs = [.ref a, bv] ∧ SqT K H a xs ∧ Ds K thD H xs r ∧ Dp K H bv (plD p) ∧ M.rising p r = true ∧ r.length ≤ 1000 ∧ ∀ H', Same H H' → Q (.bl true) H'
theorem goes_zip {K : PySem.W.Frag} {α : Type} {H0 : Hp} {a b : Addr} {xs ys : List V} {r : List α} {F : Hp → V → α → Prop} (ha : SqL K H0 a xs) (hb : SqL K H0 b ys) (l1 : r.length ≤ xs.length) (l2 : ys.length = r.length)
    (hF : ∀ (i : Nat) (x y : V) (t : α) (H : Hp) (T : Addr), xs[i]? = some x → ys[i]? = some y → r[i]? = some t → Same H0 H → H T = some (.tup [x, y]) → F H (.ref T) t) : Goes0 (Itz K a b) H0 r F where
  go := fun i H s hi => by
    have hx : i < xs.length := by omega
    have hy : i < ys.length := by omega
    exact ⟨xs, ys, xs[i], ys[i], s.seq ha, s.seq hb, List.getElem?_eq_getElem hx, List.getElem?_eq_getElem hy⟩
  stop := fun i H s hi => ⟨xs, ys, s.seq ha, s.seq hb, .inr (by omega)⟩
  yld := fun i H v H' s hi y => by
    obtain ⟨T, x, y, rfl, hT, rfl, f1, f2⟩ := y
    exact ⟨same_new hT, r[i], List.getElem?_eq_getElem hi, hF i x y r[i] _ T (f1 _ (s.seq ha)) (f2 _ (s.seq hb)) (List.getElem?_eq_getElem hi) (s.trans (same_new hT)) upd_same⟩
/-- each place and the next one -/
def steps : M.Pl → M.Row → List (M.Pl × M.Pl)
  | _, [] => []
  | b, t :: r => (b, t.1) :: steps t.1 r
theorem steps_len : ∀ b r, (steps b r).length = r.length
  | _, [] => rfl
  | _, t :: r => congrArg Nat.succ (steps_len t.1 r)
theorem steps_at : ∀ (b : M.Pl) (r : M.Row) (i : Nat) (q : M.Pl × M.Pl), (steps b r)[i]? = some q → (b :: r.map (·.1))[i]? = some q.1 ∧ (r.map (·.1))[i]? = some q.2
  | _, [], i, q, h => by simp [steps] at h
  | b, t :: r, 0, q, h => by simp [steps] at h; subst h; simp
  | b, t :: r, i + 1, q, h => by
    have h2 := steps_at t.1 r i q (by simpa [steps] using h)
    simpa using h2
theorem steps_lt : ∀ (b : M.Pl) (r : M.Row), M.rising b r = true → ∀ q ∈ steps b r, M.plt q.1 q.2 = true
  | _, [], _, q, h => by simp [steps] at h
  | b, t :: r, h, q, m => by
    rw [M.rising, Bool.and_eq_true] at h
    rcases List.mem_cons.mp m with rfl | m
    · exact h.1
    · exact steps_lt t.1 r h.2 q m
theorem cut_tail (x : V) (xs : List V) : cutV ([x] ++ xs) (some 1) none = xs := by
  have e1 : HT.sIx ([x] ++ xs).length 0 (some 1) = 1 := by simp [HT.sIx]
  have e2 : HT.sIx ([x] ++ xs).length ([x] ++ xs).length none = ([x] ++ xs).length := rfl
  unfold cutV
  rw [e1, e2]
  simp
section
variable {P : Program} {w : World} {K : PySem.W.Frag} {mg : Str → Option Value} {base : Heap}
theorem ok_are_things (T : Txt w K mg) : Df P w K mg base 4 (He.ga K "are_things") ["thing", "base"] (spThings K) := by
  obtain ⟨fd_is_place, G_is_place, b_is_place, kp_is_place⟩ := ok_is_place (P := P) (w := w) (base := base) T
  obtain ⟨fd_is_entry, G_is_entry, b_is_entry, kp_is_entry⟩ := ok_is_entry (P := P) (w := w) (base := base) T
  refine df_mk T.f_are_things sc_are_things (fun vs H Q E h => ?_) (fun _ _ _ _ _ _ us hl => match us, hl with | [_, _], _ => rfl) (fun cdv A outer s H vs Q E hr h => ?_)
  · obtain ⟨a, xs, bv, r, p, rfl, _⟩ := h
    rfl
  · obtain ⟨a, xs, bv, r, p, rfl, ha, hd, hb, hri, hn, k⟩ := h
    refine ⟨_, (pss_cons (ps_if (PW.pt (pw_or (pt_not (pt_val (pe_callB (kIsi rfl) (by rfl) T.b_isinstance (by decide +kernel) (pa_cons (pv 0) (pa_cons (pe_bltn (v := .ty "tuple") (u := .type "tuple") (by rfl) T.b_tuple (by decide +kernel) rfl) pa_nil))))) (pw_or1 (pt_not (pt_val (pe_callB (cr_all rfl) (by rfl) T.b_all (by decide +kernel) (pa_cons (pe_lc (own := [("one", 5)]) (g := gName 5) rfl sc_are_things.nd (pi_tup (pv 0)) (blkOk_by (own := [("one", 5)]) (N := ["thing", "base", "places", "place", "entry", "one", "other"]) (sc := defScope s_are_things) (by decide +kernel)) (fun _ _ _ _ _ => (pg_name (i := 5) sc_are_things.nd rfl (Or.inl rfl))) (fun _ _ _ _ _ => pts_nil) (fun _ _ _ _ _ => (pe_and (pe_callB (kIsi rfl) (by rfl) T.b_isinstance (by decide +kernel) (pa_cons (pv 5) (pa_cons (pe_bltn (v := .ty "tuple") (u := .type "tuple") (by rfl) T.b_tuple (by decide +kernel) rfl) pa_nil))) (pe_one (pe_cmpR op_eq (pe_callB (kLen rfl) (by rfl) T.b_len PySem.boot_len (pa_cons (pv 5) pa_nil)) pe_int (nomark _)))))) pa_nil))))))) (pss_one (ps_ret pe_bl)) pss_nil) (pss_cons (ps_if (pt_not (pt_val (pe_callB (cr_all rfl) (by rfl) T.b_all (by decide +kernel) (pa_cons (pe_lc (own := [("place", 3), ("entry", 4)]) (g := gTup K 2 (gCons (gName 3) (gCons (gName 4) gNil))) rfl sc_are_things.nd (pi_tup (pv 0)) (blkOk_by (own := [("place", 3), ("entry", 4)]) (N := ["thing", "base", "places", "place", "entry", "one", "other"]) (sc := defScope s_are_things) (by decide +kernel)) (fun _ _ _ _ _ => (kTup rfl rfl (pgs_cons (pg_name (i := 3) sc_are_things.nd rfl (Or.inl rfl)) (pgs_cons (pg_name (i := 4) sc_are_things.nd rfl (Or.inl rfl)) pgs_nil)))) (fun _ _ _ _ _ => pts_nil) (fun _ _ _ _ _ => (pe_and (pe_call G_is_place (hr.mono (by decide)) rfl T.g_is_place kp_is_place b_is_place .nil pass0 (pa_cons (pv 3) pa_nil)) (pe_one (pe_call G_is_entry (hr.mono (by decide)) rfl T.g_is_entry kp_is_entry b_is_entry .nil pass0 (pa_cons (pv 4) pa_nil)))))) pa_nil)))) (pss_one (ps_ret pe_bl)) pss_nil) (pss_cons (ps_set (i := 2) sc_are_things.nd rfl (Or.inl rfl) (pe_op op_cat (pe_lst (pa_cons (pv 1) pa_nil)) (pe_lc (own := [("place", 3), ("entry", 4)]) (g := gTup K 2 (gCons (gName 3) (gCons (gName 4) gNil))) rfl sc_are_things.nd (pi_tup (pv 0)) (blkOk_by (own := [("place", 3), ("entry", 4)]) (N := ["thing", "base", "places", "place", "entry", "one", "other"]) (sc := defScope s_are_things) (by decide +kernel)) (fun _ _ _ _ _ => (kTup rfl rfl (pgs_cons (pg_name (i := 3) sc_are_things.nd rfl (Or.inl rfl)) (pgs_cons (pg_name (i := 4) sc_are_things.nd rfl (Or.inl rfl)) pgs_nil)))) (fun _ _ _ _ _ => pts_nil) (fun _ _ _ _ _ => (pv 3))))) (pss_one (ps_ret (pe_callB (cr_all rfl) (by rfl) T.b_all (by decide +kernel) (pa_cons (pe_lc (own := [("one", 5), ("other", 6)]) (g := gTup K 2 (gCons (gName 5) (gCons (gName 6) gNil))) rfl sc_are_things.nd (pi_zip rfl T.b_zip (pa_cons (pv 2) (pa_cons (pe_slice sl_list (pv 2) (po_some pe_int) po_none) pa_nil))) (blkOk_by (own := [("one", 5), ("other", 6)]) (N := ["thing", "base", "places", "place", "entry", "one", "other"]) (sc := defScope s_are_things) (by decide +kernel)) (fun _ _ _ _ _ => (kTup rfl rfl (pgs_cons (pg_name (i := 5) sc_are_things.nd rfl (Or.inl rfl)) (pgs_cons (pg_name (i := 6) sc_are_things.nd rfl (Or.inl rfl)) pgs_nil)))) (fun _ _ _ _ _ => pts_nil) (fun _ _ _ _ _ => (pe_cmpR (kLt rfl hr.units) (pv 5) (pv 6) (nomark _)))) pa_nil))))))), ?_⟩
    rw [st_are_things]
    have hn2 : r.length ≤ 100000 := Nat.le_trans hn (by decide)
    refine ⟨_, rfl, _, _, _, rfl, isi_tup ha, _, rfl, iteF ?_⟩
    refine ⟨_, rfl, a, rfl, ⟨_, ha⟩, lc_any (fun c => some c) (fun _ v (_ : M.Thing) => v = .bl true) (goes_tup ha hd) (fun _ h => h) hn2 (fun x t H1 Qy Qn s1 f1 m1 ky kn => ?_) (fun D ws H1 hD s1 hw hp => ?_)⟩
    · have f2 := Dp.kp (Kp.of s1) _ _ (noL_th _) f1
      obtain ⟨b, y, z, rfl, ht, h1, h2⟩ := th_parts f2
      refine ⟨rfl, _, rfl, _, _, _, rfl, isi_tup ht, _, rfl, iteT ?_⟩
      refine ⟨_, rfl, _, _, rfl, .inr ht, rfl, ky _ _ _ rfl (Same.refl _) rfl⟩
    obtain ⟨bs, rfl, hbs⟩ := all_true hp
    refine ⟨_, bs, rfl, SqL.of hw, ?_⟩
    rw [hbs]
    refine ⟨_, rfl, iteF ?_⟩
    have ha1 := (Kp.of s1).sqt ha
    have hd1 : Ds K thD H1 xs r := hd.kp (Kp.of s1) noL_th
    have hb1 := Dp.kp (Kp.of s1) _ _ (noL_pl _) hb
    clear hw hp hD
    refine ⟨_, rfl, a, rfl, ⟨_, ha1⟩, lc_any (fun c => some c) (fun _ v (_ : M.Thing) => v = .bl true) (goes_tup ha1 hd1) (fun _ h => h) hn2 (fun x t H2 Qy Qn s2 f1 m1 ky kn => ?_) (fun D2 ws2 H2 hD2 s2 hw2 hp2 => ?_)⟩
    · have f2 := Dp.kp (Kp.of s2) _ _ (noL_th _) f1
      obtain ⟨b, y, z, rfl, ht, h1, h2⟩ := th_parts f2
      refine ⟨b, _, rfl, ht, rfl, _, _, rfl, _, _, rfl, rfl, rfl, _, rfl, y, t.1, rfl, h1, fun H3 s3 => ⟨_, rfl, iteT ?_⟩⟩
      exact ⟨_, rfl, z, t.2, rfl, Dp.kp (Kp.of s3) _ _ (noL_en _) h2, fun H4 s4 => ky _ _ _ rfl (s3.trans s4) rfl⟩
    obtain ⟨bs2, rfl, hbs2⟩ := all_true hp2
    refine ⟨_, bs2, rfl, SqL.of hw2, ?_⟩
    rw [hbs2]
    refine ⟨_, rfl, iteF ?_⟩
    have ha2 := (Kp.of s2).sqt ha1
    have hd2 : Ds K thD H2 xs r := hd1.kp (Kp.of s2) noL_th
    have hb2 := Dp.kp (Kp.of s2) _ _ (noL_pl _) hb1
    clear hw2 hp2 hD2 ha1 hd1 hb1
    refine ⟨_, rfl, by show 1 ≤ sizeLine; decide, fun l0 hl0 => ?_⟩
    (generalize hz : upd H2 l0 _ = H3; have s3 : Same H2 H3 := (by rw [← hz]; exact same_new hl0); have h3 : H3 l0 = some _ := (by rw [← hz]; exact upd_same); clear hz)
    have ha3 := (Kp.of s3).sqt ha2
    have hd3 : Ds K thD H3 xs r := hd2.kp (Kp.of s3) noL_th
    have hb3 := Dp.kp (Kp.of s3) _ _ (noL_pl _) hb2
    refine ⟨_, rfl, a, rfl, ⟨_, ha3⟩, lc_any (fun t => some t.1) (fun H v (q : M.Pl) => Dp K H v (plD q)) (goes_tup ha3 hd3) (fun k h => Dp.kp k.kp _ _ (noL_pl _) h) hn2 (fun x t H4 Qy Qn s4 f1 m1 ky kn => ?_) (fun D4 ws4 H4 hD4 s4 hw4 hp4 => ?_)⟩
    · have f2 := Dp.kp (Kp.of s4) _ _ (noL_th _) f1
      obtain ⟨b, y, z, rfl, ht, h1, h2⟩ := th_parts f2
      exact ⟨b, _, rfl, ht, rfl, _, _, rfl, _, _, rfl, rfl, rfl, _, rfl, ky _ _ _ rfl (Same.refl _) h1⟩
    have h30 := s4 _ _ h3
    have hp4 : Ds K plD H4 ws4 (r.map (·.1)) := by rw [← List.filterMap_eq_map]; exact hp4
    have hl4 : ws4.length = r.length := by rw [pd_len hp4, List.length_map]
    refine ⟨l0, D4, _, _, rfl, rfl, h30, hw4, (by have : ws4.length + 1 ≤ 1001 := by omega
                                                  exact Nat.le_trans (show 1 + ws4.length ≤ 1001 by omega) (by decide)), fun pl hpl => ?_⟩
    have hb4 := Dp.kp (Kp.of s4) _ _ (noL_pl _) hb3
    have s14 := s1.trans (s2.trans (s3.trans s4))
    clear ha3 hd3 hb3 ha2 hd2 hb2 hD4 hw4 s2 s3 s4 h30 ha hd hb hl0 h3 hbs hbs2
    (generalize hz : upd H4 pl _ = H5; have s5 : Same H4 H5 := (by rw [← hz]; exact same_new hpl); have h5 : H5 pl = some _ := (by rw [← hz]; exact upd_same); clear hz)
    have hp5 : Ds K plD H5 ([bv] ++ ws4) (p :: r.map (·.1)) := .cons (Dp.kp (Kp.of s5) _ _ (noL_pl _) hb4) (Ds.kp hp4 (Kp.of s5) noL_pl)
    refine ⟨_, rfl, _, rfl, _, rfl, pl, _, rfl, SqL.of h5, fun pm hpm => ?_⟩
    have ec : cutV ([bv] ++ ws4) (some 1) none = ws4 := cut_tail bv ws4
    rw [ec]
    (generalize hz : upd H5 pm _ = H6; have s6 : Same H5 H6 := (by rw [← hz]; exact same_new hpm); have h6 : H6 pm = some _ := (by rw [← hz]; exact upd_same); clear hz)
    have h56 := s6 _ _ h5
    refine ⟨pl, pm, _, _, rfl, SqL.of h56, SqL.of h6, lc_any (r := steps p r) (F := fun H v (q : M.Pl × M.Pl) => ∃ T x y, v = V.ref T ∧ H T = some (.tup [x, y]) ∧ Dp K H x (plD q.1) ∧ Dp K H y (plD q.2)) (fun c => some c) (fun _ v (_ : M.Pl × M.Pl) => v = .bl true)
      (goes_zip (SqL.of h56) (SqL.of h6) (by rw [steps_len]; show r.length ≤ ([bv] ++ ws4).length; rw [List.length_append, hl4]; omega) (by rw [steps_len, hl4]) (fun i x y q H' T1 ex ey eq s7 h7 => ?_)) (fun _ h => h) (by rw [steps_len]; exact hn2) (fun x q H7 Qy Qn s7 f1 m1 ky kn => ?_) (fun D7 ws7 H7 hD7 s7 hw7 hp7 => ?_)⟩
    · have kp := (Kp.of s6).trans (Kp.of s7)
      obtain ⟨e1, e2⟩ := steps_at _ _ _ _ eq
      obtain ⟨u1, g1, q1⟩ := pd_get hp5 ex
      obtain ⟨u2, g2, q2⟩ := pd_get hp4 ey
      rw [e1] at g1
      rw [e2] at g2
      cases g1
      cases g2
      exact ⟨T1, x, y, rfl, h7, Dp.kp kp _ _ (noL_pl _) q1, Dp.kp ((Kp.of s5).trans kp) _ _ (noL_pl _) q2⟩
    · obtain ⟨T1, y, z, rfl, ht, h1, h2⟩ := f1
      refine ⟨T1, _, rfl, SqT.of ht, rfl, _, _, rfl, _, _, rfl, rfl, rfl, _, rfl, _, rfl, _, _, ord_pl h1 h2, ky _ _ _ rfl (Same.refl _) ?_⟩
      rw [lt_pl, steps_lt _ _ hri q m1]
    obtain ⟨bs7, rfl, hbs7⟩ := all_true hp7
    refine ⟨_, bs7, rfl, SqL.of hw7, ?_⟩
    rw [hbs7]
    exact k _ (s14.trans (s5.trans (s6.trans s7)))
def spSeekF (K : PySem.W.Frag) : Sp := fun vs H Q _ => ∃ a n v p, vs = [.ref a] ∧ SqL K H a [.int ((n : Nat) : Int), v] ∧ Dp K H v (plD p) ∧ ∀ H', Same H H' → Q (.bl true) H'
def spOnePl (K : PySem.W.Frag) : Sp := fun vs H Q _ => ∃ a v p, vs = [.ref a] ∧ SqL K H a [v] ∧ Dp K H v (plD p) ∧ ∀ H', Same H H' → Q (.bl true) H'
def spNothing (K : PySem.W.Frag) : Sp := fun vs H Q _ => ∃ a, vs = [.ref a] ∧ SqL K H a [] ∧ ∀ H', Same H H' → Q (.bl true) H'
def spSyncF (K : PySem.W.Frag) : Sp := fun vs H Q _ => ∃ a n b c xs d base r p, vs = [.ref a] ∧ SqL K H a [.str (wayS n), b, .ref c, d] ∧ Dp K H b (plD base) ∧ SqT K H c xs ∧ Ds K thD H xs r ∧ Dp K H d (plD p) ∧ M.rising base r = true ∧ r.length ≤ 1000 ∧ ∀ H', Same H H' → Q (.bl true) H'
def spProposeF (K : PySem.W.Frag) : Sp := fun vs H Q _ => ∃ a b c d p q e, vs = [.ref a] ∧ SqL K H a [b, c, d] ∧ Dp K H b (plD p) ∧ Dp K H c (plD q) ∧ Dp K H d (enD e) ∧ M.plt p q = true ∧ ∀ H', Same H H' → Q (.bl true) H'
theorem ok_is_seek (T : Txt w K mg) : Df P w K mg base 3 (He.ga K "is_seek") ["rest"] (spSeekF K) := by
  obtain ⟨fd_is_whole, G_is_whole, b_is_whole, kp_is_whole⟩ := ok_is_whole (P := P) (w := w) (base := base) T
  obtain ⟨fd_is_place, G_is_place, b_is_place, kp_is_place⟩ := ok_is_place (P := P) (w := w) (base := base) T
  refine df_mk T.f_is_seek sc_is_seek (fun vs H Q E h => ?_) (fun _ _ _ _ _ _ us hl => match us, hl with | [_], _ => rfl) (fun cdv A outer s H vs Q E hr h => ?_)
  · obtain ⟨a, n, v, p, rfl, _⟩ := h
    rfl
  · obtain ⟨a, n, v, p, rfl, ha, hv, k⟩ := h
    refine ⟨_, (pss_one (ps_ret (pe_and (pe_cmpR op_eq (pe_callB (kLen rfl) (by rfl) T.b_len PySem.boot_len (pa_cons (pv 0) pa_nil)) pe_int (nomark _)) (pe_and (pe_call G_is_whole (hr.mono (by decide)) rfl T.g_is_whole kp_is_whole b_is_whole .nil pass0 (pa_cons (pe_ix (kIxL rfl) (pv 0) pe_int (fun _ _ => rfl)) pa_nil)) (pe_and (pe_cmpR op_ge (pe_ix (kIxL rfl) (pv 0) pe_int (fun _ _ => rfl)) pe_int (nomark _)) (pe_one (pe_call G_is_place (hr.mono (by decide)) rfl T.g_is_place kp_is_place b_is_place .nil pass0 (pa_cons (pe_ix (kIxL rfl) (pv 0) pe_int (fun _ _ => rfl)) pa_nil)))))))), ?_⟩
    rw [st_is_seek]
    refine ⟨_, rfl, _, _, rfl, .inl ha, rfl, _, rfl, iteT ?_⟩
    refine ⟨_, rfl, a, _, _, _, rfl, rfl, ha, at_of (j := 0) rfl rfl, _, rfl, _, rfl, iteT ?_⟩
    refine ⟨_, rfl, a, _, _, _, rfl, rfl, ha, at_of (j := 0) rfl rfl, _, _, rfl, rfl, true, bT (by omega), iteT ?_⟩
    exact ⟨_, rfl, a, _, _, _, rfl, rfl, ha, at_of (j := 1) rfl rfl, v, p, rfl, hv, k⟩
theorem ok_is_one_place (T : Txt w K mg) : Df P w K mg base 3 (He.ga K "is_one_place") ["rest"] (spOnePl K) := by
  obtain ⟨fd_is_place, G_is_place, b_is_place, kp_is_place⟩ := ok_is_place (P := P) (w := w) (base := base) T
  refine df_mk T.f_is_one_place sc_is_one_place (fun vs H Q E h => ?_) (fun _ _ _ _ _ _ us hl => match us, hl with | [_], _ => rfl) (fun cdv A outer s H vs Q E hr h => ?_)
  · obtain ⟨a, v, p, rfl, _⟩ := h
    rfl
  · obtain ⟨a, v, p, rfl, ha, hv, k⟩ := h
    refine ⟨_, (pss_one (ps_ret (pe_and (pe_cmpR op_eq (pe_callB (kLen rfl) (by rfl) T.b_len PySem.boot_len (pa_cons (pv 0) pa_nil)) pe_int (nomark _)) (pe_one (pe_call G_is_place (hr.mono (by decide)) rfl T.g_is_place kp_is_place b_is_place .nil pass0 (pa_cons (pe_ix (kIxL rfl) (pv 0) pe_int (fun _ _ => rfl)) pa_nil)))))), ?_⟩
    rw [st_is_one_place]
    refine ⟨_, rfl, _, _, rfl, .inl ha, rfl, _, rfl, iteT ?_⟩
    exact ⟨_, rfl, a, _, _, _, rfl, rfl, ha, at_of (j := 0) rfl rfl, v, p, rfl, hv, k⟩
theorem ok_is_nothing (T : Txt w K mg) : Df P w K mg base 1 (He.ga K "is_nothing") ["rest"] (spNothing K) := by
  refine df_mk T.f_is_nothing sc_is_nothing (fun vs H Q E h => ?_) (fun _ _ _ _ _ _ us hl => match us, hl with | [_], _ => rfl) (fun cdv A outer s H vs Q E hr h => ?_)
  · obtain ⟨a, rfl, _⟩ := h
    rfl
  · obtain ⟨a, rfl, ha, k⟩ := h
    refine ⟨_, (pss_one (ps_ret (pe_cmpR op_eq (pe_callB (kLen rfl) (by rfl) T.b_len PySem.boot_len (pa_cons (pv 0) pa_nil)) pe_int (nomark _)))), ?_⟩
    rw [st_is_nothing]
    exact ⟨_, rfl, _, _, rfl, .inl ha, rfl, k _ (Same.refl _)⟩
theorem way_mem (n : Nat) : wayS n = "more" ∨ wayS n = "cut" ∨ wayS n = "all" := by
  unfold wayS
  split <;> simp
theorem ok_is_sync (T : Txt w K mg) : Df P w K mg base 5 (He.ga K "is_sync") ["rest"] (spSyncF K) := by
  obtain ⟨fd_is_place, G_is_place, b_is_place, kp_is_place⟩ := ok_is_place (P := P) (w := w) (base := base) T
  obtain ⟨fd_are_things, G_are_things, b_are_things, kp_are_things⟩ := ok_are_things (P := P) (w := w) (base := base) T
  refine df_mk T.f_is_sync sc_is_sync (fun vs H Q E h => ?_) (fun _ _ _ _ _ _ us hl => match us, hl with | [_], _ => rfl) (fun cdv A outer s H vs Q E hr h => ?_)
  · obtain ⟨a, n, b, c, xs, d, base, r, p, rfl, _⟩ := h
    rfl
  · obtain ⟨a, n, b, c, xs, d, bs, r, p, rfl, ha, hb, hc, hd, hp, hri, hn, k⟩ := h
    refine ⟨_, (pss_cons (ps_if (PW.pt (pw_or (pt_cmpR op_ne (pe_callB (kLen rfl) (by rfl) T.b_len PySem.boot_len (pa_cons (pv 0) pa_nil)) pe_int (nomark _)) (pw_or (pt_not (pt_val (pe_callB (kIsi rfl) (by rfl) T.b_isinstance (by decide +kernel) (pa_cons (pe_ix (kIxL rfl) (pv 0) pe_int (fun _ _ => rfl)) (pa_cons (pe_bltn (v := .ty "str") (u := .type "str") (by rfl) T.b_str (by decide +kernel) rfl) pa_nil))))) (pw_or1 (pt_cmpR (kNotInS rfl) (pe_ix (kIxL rfl) (pv 0) pe_int (fun _ _ => rfl)) (pe_glob (v := .ref (He.ga K "WAYS")) rfl T.g_WAYS rfl) (by rfl)))))) (pss_one (ps_ret pe_bl)) pss_nil) (pss_one (ps_ret (pe_and (pe_call G_is_place (hr.mono (by decide)) rfl T.g_is_place kp_is_place b_is_place .nil pass0 (pa_cons (pe_ix (kIxL rfl) (pv 0) pe_int (fun _ _ => rfl)) pa_nil)) (pe_and (pe_call G_is_place (hr.mono (by decide)) rfl T.g_is_place kp_is_place b_is_place .nil pass0 (pa_cons (pe_ix (kIxL rfl) (pv 0) pe_int (fun _ _ => rfl)) pa_nil)) (pe_one (pe_call G_are_things (hr.mono (by decide)) rfl T.g_are_things kp_are_things b_are_things .nil pass0 (pa_cons (pe_ix (kIxL rfl) (pv 0) pe_int (fun _ _ => rfl)) (pa_cons (pe_ix (kIxL rfl) (pv 0) pe_int (fun _ _ => rfl)) pa_nil))))))))), ?_⟩
    rw [st_is_sync]
    refine ⟨_, rfl, _, _, rfl, .inl ha, rfl, false, bNT rfl, iteF ?_⟩
    refine ⟨_, rfl, a, _, _, _, rfl, rfl, ha, at_of (j := 0) rfl rfl, _, _, _, rfl, isi_str, _, rfl, iteF ?_⟩
    refine ⟨_, rfl, a, _, _, _, rfl, rfl, ha, at_of (j := 0) rfl rfl, He.ga K "WAYS", _, rfl, .inr (T.ways _), rfl, rfl, false, ?_, iteF ?_⟩
    · rcases way_mem n with e | e | e <;> rw [e] <;> decide +kernel
    refine ⟨_, rfl, a, _, _, _, rfl, rfl, ha, at_of (j := 1) rfl rfl, b, bs, rfl, hb, fun H1 s1 => ⟨_, rfl, iteT ?_⟩⟩
    have ha1 := s1.seq ha
    refine ⟨_, rfl, a, _, _, _, rfl, rfl, ha1, at_of (j := 3) rfl rfl, d, p, rfl, Dp.kp (Kp.of s1) _ _ (noL_pl _) hp, fun H2 s2 => ⟨_, rfl, iteT ?_⟩⟩
    have ha2 := s2.seq ha1
    have kp := Kp.of (s1.trans s2)
    refine ⟨_, rfl, a, _, _, _, rfl, rfl, ha2, at_of (j := 2) rfl rfl, _, rfl, a, _, _, _, rfl, rfl, ha2, at_of (j := 1) rfl rfl, c, xs, b, r, bs, rfl, kp.sqt hc, hd.kp kp noL_th, Dp.kp kp _ _ (noL_pl _) hb, hri, hn, fun H3 s3 => k _ ((s1.trans s2).trans s3)⟩
theorem ok_is_propose (T : Txt w K mg) : Df P w K mg base 4 (He.ga K "is_propose") ["rest"] (spProposeF K) := by
  obtain ⟨fd_is_place, G_is_place, b_is_place, kp_is_place⟩ := ok_is_place (P := P) (w := w) (base := base) T
  obtain ⟨fd_is_entry, G_is_entry, b_is_entry, kp_is_entry⟩ := ok_is_entry (P := P) (w := w) (base := base) T
  refine df_mk T.f_is_propose sc_is_propose (fun vs H Q E h => ?_) (fun _ _ _ _ _ _ us hl => match us, hl with | [_], _ => rfl) (fun cdv A outer s H vs Q E hr h => ?_)
  · obtain ⟨a, b, c, d, p, q, e, rfl, _⟩ := h
    rfl
  · obtain ⟨a, b, c, d, p, q, e, rfl, ha, hb, hc, hd, hpq, k⟩ := h
    refine ⟨_, (pss_cons (ps_if (PW.pt (pw_or (pt_cmpR op_ne (pe_callB (kLen rfl) (by rfl) T.b_len PySem.boot_len (pa_cons (pv 0) pa_nil)) pe_int (nomark _)) (pw_or (pt_not (pt_val (pe_call G_is_place (hr.mono (by decide)) rfl T.g_is_place kp_is_place b_is_place .nil pass0 (pa_cons (pe_ix (kIxL rfl) (pv 0) pe_int (fun _ _ => rfl)) pa_nil)))) (pw_or1 (pt_not (pt_val (pe_call G_is_place (hr.mono (by decide)) rfl T.g_is_place kp_is_place b_is_place .nil pass0 (pa_cons (pe_ix (kIxL rfl) (pv 0) pe_int (fun _ _ => rfl)) pa_nil)))))))) (pss_one (ps_ret pe_bl)) pss_nil) (pss_one (ps_ret (pe_and (pe_cmpR (kLt rfl hr.units) (pe_ix (kIxL rfl) (pv 0) pe_int (fun _ _ => rfl)) (pe_ix (kIxL rfl) (pv 0) pe_int (fun _ _ => rfl)) (nomark _)) (pe_one (pe_call G_is_entry (hr.mono (by decide)) rfl T.g_is_entry kp_is_entry b_is_entry .nil pass0 (pa_cons (pe_ix (kIxL rfl) (pv 0) pe_int (fun _ _ => rfl)) pa_nil))))))), ?_⟩
    rw [st_is_propose]
    refine ⟨_, rfl, _, _, rfl, .inl ha, rfl, false, bNT rfl, iteF ?_⟩
    refine ⟨_, rfl, a, _, _, _, rfl, rfl, ha, at_of (j := 0) rfl rfl, b, p, rfl, hb, fun H1 s1 => ⟨_, rfl, iteF ?_⟩⟩
    have ha1 := s1.seq ha
    refine ⟨_, rfl, a, _, _, _, rfl, rfl, ha1, at_of (j := 1) rfl rfl, c, q, rfl, Dp.kp (Kp.of s1) _ _ (noL_pl _) hc, fun H2 s2 => ⟨_, rfl, iteF ?_⟩⟩
    have ha2 := s2.seq ha1
    have kp := Kp.of (s1.trans s2)
    refine ⟨_, rfl, a, _, _, _, rfl, rfl, ha2, at_of (j := 0) rfl rfl, _, rfl, a, _, _, _, rfl, rfl, ha2, at_of (j := 1) rfl rfl, _, _, ord_pl (Dp.kp kp _ _ (noL_pl _) hb) (Dp.kp kp _ _ (noL_pl _) hc), _, rfl, ?_⟩
    rw [lt_pl, hpq]
    refine iteT ?_
    exact ⟨_, rfl, a, _, _, _, rfl, rfl, ha2, at_of (j := 2) rfl rfl, d, e, rfl, Dp.kp kp _ _ (noL_en _) hd, fun H3 s3 => k _ ((s1.trans s2).trans s3)⟩
end
end Wd
/-! ## P5 -/
set_option Elab.async false
set_option linter.all false
set_option maxRecDepth 100000
set_option maxHeartbeats 400000
namespace Wd
open PySem PySem.Spec PyProof.Rows L2 PySem.W PySem.SeqAt
/-! ### a letter -/
def ltT : M.Lt → M.Row
  | .sync _ _ _ _ _ th _ => th
  | _ => []
structure LtIs (K : PySem.W.Frag) (H : Hp) (v : V) (l : M.Lt) : Prop where
  dp : Dp K H v (ltD l)
  src : l.src < 26
  dst : l.dst < 26
  len : (ltT l).length ≤ 1000
theorem LtIs.kp {K : PySem.W.Frag} {H H' : Hp} {v : V} {l : M.Lt} (h : LtIs K H v l) (k : Kp H H') : LtIs K H' v l := ⟨Dp.kp k _ _ (noL_lt l) h.dp, h.src, h.dst, h.len⟩
theorem lt_parts {K : PySem.W.Frag} {H : Hp} {v : V} {l : M.Lt} (h : Dp K H v (ltD l)) : ∃ a rs, v = .ref a ∧ SqT K H a (.str (ltW l) :: .str (nm l.src) :: .str (nm l.dst) :: .int ((ltE l : Nat) : Int) :: rs) ∧ DpAll K H rs (ltR l) := by
  cases h with
  | tup hs ha =>
    cases ha with
    | cons h1 ha =>
      cases ha with
      | cons h2 ha =>
        cases ha with
        | cons h3 ha =>
          cases ha with
          | cons h4 ha =>
            cases h1
            cases h2
            cases h3
            cases h4
            exact ⟨_, _, rfl, hs, ha⟩
theorem ltR_len (l : M.Lt) : (ltR l).length ≤ 4 := by cases l <;> simp [ltR]
theorem dpall_len {K : PySem.W.Frag} {H : Hp} : ∀ {vs : List V} {ds : List PyData}, DpAll K H vs ds → vs.length = ds.length
  | _, _, .nil => rfl
  | _, _, .cons _ t => congrArg Nat.succ (dpall_len t)
def spLetter (K : PySem.W.Frag) : Sp := fun vs H Q _ => ∃ v l, vs = [v] ∧ LtIs K H v l ∧ l.ok = true ∧ ∀ H', Same H H' → Q (.bl true) H'
theorem lt_ne {l : M.Lt} (h : l.ok = true) : Nat.beq l.src l.dst = false := by
  cases l <;> simp [M.Lt.ok, M.Lt.src, M.Lt.dst] at h ⊢ <;> first | exact h | exact h.1
section
variable {P : Program} {w : World} {K : PySem.W.Frag} {mg : Str → Option Value} {base : Heap}
theorem Df.held {k j : Nat} {f : Addr} {ps : List Str} {sp : Sp} (d : Df P w K mg base j f ps sp) (h : j ≤ k) : Held P w K mg base k f sp := by
  obtain ⟨fd, F, b, kp⟩ := d
  exact ⟨fd, ps, F.mono h, kp, b⟩
/-- the def that looks at a letter's rest -/
theorem form_of (T : Txt w K mg) (l : M.Lt) : ∃ f sp, Held P w K mg base 5 f sp ∧ PySem.W.nsIn K (He.ga K "FORMS") (ltW l) = some (some (.ref f)) ∧
    ∀ H a rs Q, SqL K H a rs → DpAll K H rs (ltR l) → l.ok = true → (ltT l).length ≤ 1000 → (∀ H', Same H H' → Q (.bl true) H') → sp [.ref a] H Q (fun _ _ _ => False) := by
  have F : ∀ {x f : Str}, (x, He.Dv.glo f) ∈ formVals → PySem.W.nsIn K (He.ga K "FORMS") x = some (some (.ref (He.ga K f))) := T.form
  cases l with
  | seek f t e ep p =>
    refine ⟨_, _, (ok_is_seek T).held (by decide), F (x := "seek") (f := "is_seek") (List.mem_of_getElem? (i := 0) rfl), fun H a rs Q h1 h2 h3 h4 k => ?_⟩
    cases h2 with
    | cons c1 h2 => cases h2 with
      | cons c2 h2 => cases h2; cases c1; exact ⟨a, _, _, _, rfl, h1, c2, k⟩
  | promise f t e p =>
    refine ⟨_, _, (ok_is_one_place T).held (by decide), F (x := "promise") (f := "is_one_place") (List.mem_of_getElem? (i := 1) rfl), fun H a rs Q h1 h2 h3 h4 k => ?_⟩
    cases h2 with
    | cons c1 h2 => cases h2; exact ⟨a, _, _, rfl, h1, c1, k⟩
  | lead f t e =>
    refine ⟨_, _, (ok_is_nothing T).held (by decide), F (x := "lead") (f := "is_nothing") (List.mem_of_getElem? (i := 2) rfl), fun H a rs Q h1 h2 h3 h4 k => ?_⟩
    cases h2
    exact ⟨a, rfl, h1, k⟩
  | sync f t e wy b th p =>
    refine ⟨_, _, (ok_is_sync T).held (by decide), F (x := "sync") (f := "is_sync") (List.mem_of_getElem? (i := 3) rfl), fun H a rs Q h1 h2 h3 h4 k => ?_⟩
    have h3 := (Bool.and_eq_true _ _ ▸ h3 : _ ∧ _)
    cases h2 with
    | cons c1 h2 => cases h2 with
      | cons c2 h2 => cases h2 with
        | cons c3 h2 => cases h2 with
          | cons c4 h2 =>
            cases h2
            cases c1
            cases c3 with
            | tup hs ha => exact ⟨a, wy, _, _, _, _, b, th, p, rfl, h1, c2, hs, Ds.of ha, c4, h3.2, h4, k⟩
  | synced f t e p =>
    refine ⟨_, _, (ok_is_one_place T).held (by decide), F (x := "synced") (f := "is_one_place") (List.mem_of_getElem? (i := 5) rfl), fun H a rs Q h1 h2 h3 h4 k => ?_⟩
    cases h2 with
    | cons c1 h2 => cases h2; exact ⟨a, _, _, rfl, h1, c1, k⟩
  | propose f t e p q en =>
    refine ⟨_, _, (ok_is_propose T).held (by decide), F (x := "propose") (f := "is_propose") (List.mem_of_getElem? (i := 6) rfl), fun H a rs Q h1 h2 h3 h4 k => ?_⟩
    have h3 := (Bool.and_eq_true _ _ ▸ h3 : _ ∧ _)
    cases h2 with
    | cons c1 h2 => cases h2 with
      | cons c2 h2 => cases h2 with
        | cons c3 h2 => cases h2; exact ⟨a, _, _, _, p, q, en, rfl, h1, c1, c2, c3, h3.2, k⟩
  | took f t e p =>
    refine ⟨_, _, (ok_is_one_place T).held (by decide), F (x := "took") (f := "is_one_place") (List.mem_of_getElem? (i := 7) rfl), fun H a rs Q h1 h2 h3 h4 k => ?_⟩
    cases h2 with
    | cons c1 h2 => cases h2; exact ⟨a, _, _, rfl, h1, c1, k⟩
  | done f t e p =>
    refine ⟨_, _, (ok_is_one_place T).held (by decide), F (x := "done") (f := "is_one_place") (List.mem_of_getElem? (i := 8) rfl), fun H a rs Q h1 h2 h3 h4 k => ?_⟩
    cases h2 with
    | cons c1 h2 => cases h2; exact ⟨a, _, _, rfl, h1, c1, k⟩
theorem ok_is_letter (T : Txt w K mg) : Df P w K mg base 6 (He.ga K "is_letter") ["thing"] (spLetter K) := by
  obtain ⟨fd_is_word, G_is_word, b_is_word, kp_is_word⟩ := ok_is_word (P := P) (w := w) (base := base) T
  obtain ⟨fd_is_whole, G_is_whole, b_is_whole, kp_is_whole⟩ := ok_is_whole (P := P) (w := w) (base := base) T
  obtain ⟨es, n, DF⟩ := T.forms
  refine df_mk T.f_is_letter sc_is_letter (fun vs H Q E h => ?_) (fun _ _ _ _ _ _ us hl => match us, hl with | [_], _ => rfl) (fun cdv A outer s H vs Q E hr h => ?_)
  · obtain ⟨v, l, rfl, _⟩ := h
    rfl
  · obtain ⟨v, l, rfl, hl, ok, k⟩ := h
    obtain ⟨f, sp, HF, hns, hsp⟩ := form_of (P := P) (base := base) T l
    have A_looks : ∀ f' sp', (fun x : Addr => if x = f then some sp else none) f' = some sp' → Held P w K mg base 5 f' sp' := fun f' sp' e => by
      by_cases c : f' = f
      · subst c
        have e2 : some sp = some sp' := by rw [← e]; exact (if_pos rfl).symm
        cases e2
        exact HF
      · have e2 : none = some sp' := by rw [← e]; exact (if_neg c).symm
        cases e2
    refine ⟨_, (pss_cons (ps_if (PW.pt (pw_or (pt_not (pt_val (pe_callB (kIsi rfl) (by rfl) T.b_isinstance (by decide +kernel) (pa_cons (pv 0) (pa_cons (pe_bltn (v := .ty "tuple") (u := .type "tuple") (by rfl) T.b_tuple (by decide +kernel) rfl) pa_nil))))) (pw_or (pt_cmpR op_lt (pe_callB (kLen rfl) (by rfl) T.b_len PySem.boot_len (pa_cons (pv 0) pa_nil)) pe_int (nomark _)) (pw_or (pt_not (pt_val (pe_callB (kIsi rfl) (by rfl) T.b_isinstance (by decide +kernel) (pa_cons (pe_ix (kIxT rfl) (pv 0) pe_int (fun _ _ => rfl)) (pa_cons (pe_bltn (v := .ty "str") (u := .type "str") (by rfl) T.b_str (by decide +kernel) rfl) pa_nil))))) (pw_or1 (pt_cmpR (kFormsNI rfl DF) (pe_ix (kIxT rfl) (pv 0) pe_int (fun _ _ => rfl)) (pe_glob (v := .ref (He.ga K "FORMS")) rfl T.g_FORMS rfl) (by rfl))))))) (pss_one (ps_ret pe_bl)) pss_nil) (pss_cons (ps_asg (pv 0) (pg_star rfl (pgs_cons (pg_name (i := 1) sc_is_letter.nd rfl (Or.inl rfl)) (pgs_cons (pg_name (i := 2) sc_is_letter.nd rfl (Or.inl rfl)) (pgs_cons (pg_name (i := 3) sc_is_letter.nd rfl (Or.inl rfl)) (pgs_cons (pg_name (i := 4) sc_is_letter.nd rfl (Or.inl rfl)) (pgs_star (pg_name (i := 5) sc_is_letter.nd rfl (Or.inl rfl))))))))) (pss_cons (ps_if (PW.pt (pw_or (pt_not (pt_val (pe_call G_is_word (hr.mono (by decide)) rfl T.g_is_word kp_is_word b_is_word .nil pass0 (pa_cons (pv 2) pa_nil)))) (pw_or (pt_not (pt_val (pe_call G_is_word (hr.mono (by decide)) rfl T.g_is_word kp_is_word b_is_word .nil pass0 (pa_cons (pv 3) pa_nil)))) (pw_or (pt_cmpR op_eq (pv 2) (pv 3) (nomark _)) (pw_or (pt_not (pt_val (pe_call G_is_whole (hr.mono (by decide)) rfl T.g_is_whole kp_is_whole b_is_whole .nil pass0 (pa_cons (pv 4) pa_nil)))) (pw_or1 (pt_cmpR op_lt (pv 4) pe_int (nomark _)))))))) (pss_one (ps_ret pe_bl)) pss_nil) (pss_cons (ps_set (i := 6) sc_is_letter.nd rfl (Or.inl rfl) (kForms rfl DF (pe_glob (v := .ref (He.ga K "FORMS")) rfl T.g_FORMS rfl) (pv 1) (fun _ _ => rfl))) (pss_one (ps_ret (pe_callA (i := 6) A_looks (hr.mono (by decide)) rfl (Or.inl rfl) (pa_cons (pv 5) pa_nil)))))))), ?_⟩
    rw [st_is_letter]
    obtain ⟨a, rs, rfl, ha, hrs⟩ := lt_parts hl.dp
    have hlen := dpall_len hrs
    have hl4 := ltR_len l
    refine ⟨_, rfl, _, _, _, rfl, isi_tup ha, _, rfl, iteF ?_⟩
    refine ⟨_, rfl, _, _, rfl, .inr ha, _, _, rfl, rfl, false, bF (by show ¬ ((rs.length + 4 : Nat) : Int) < 4; omega), iteF ?_⟩
    refine ⟨_, rfl, a, _, _, _, rfl, rfl, ha, at_of (j := 0) rfl rfl, _, _, _, rfl, isi_str, _, rfl, iteF ?_⟩
    refine ⟨_, rfl, a, _, _, _, rfl, rfl, ha, at_of (j := 0) rfl rfl, _, _, rfl, rfl, hns, _, rfl, iteF ?_⟩
    refine ⟨_, rfl, a, _, rfl, ha, by show 4 ≤ rs.length + 4; omega, by show rs.length + 4 ≤ 16384; omega, fun D hD => ?_⟩
    (generalize hz : upd H D _ = H1; have s1 : Same H H1 := (by rw [← hz]; exact same_new hD); have h1 : H1 D = some _ := (by rw [← hz]; exact upd_same); clear hz)
    refine ⟨_, _, rfl, _, _, rfl, _, _, rfl, _, _, rfl, _, _, rfl, rfl, ?_⟩
    simp only [List.set_cons_succ, List.set_cons_zero]
    refine ⟨_, rfl, _, rfl, nm_word hl.src, fun H2 s2 => ⟨_, rfl, iteF ?_⟩⟩
    refine ⟨_, rfl, _, rfl, nm_word hl.dst, fun H3 s3 => ⟨_, rfl, iteF ?_⟩⟩
    refine ⟨_, rfl, _, rfl, rfl, false, ?_, iteF ?_⟩
    · show V.bl (decide (V.str (nm l.src) = V.str (nm l.dst))) = V.bl false
      refine bF fun z => ?_
      have z2 : l.src = l.dst := nm_inj (V.str.inj z)
      have z3 := lt_ne ok
      rw [z2] at z3
      simp at z3
    refine ⟨_, rfl, _, rfl, _, rfl, iteF ?_⟩
    refine ⟨_, rfl, _, _, rfl, rfl, false, bF (by omega), iteF ?_⟩
    refine ⟨_, rfl, _, _, V.ref f, rfl, rfl, hns, rfl, ?_⟩
    simp only [List.set_cons_succ, List.set_cons_zero]
    have s13 := s1.trans (s2.trans s3)
    refine ⟨f, sp, rfl, if_pos rfl, _, rfl, hsp _ _ _ _ (SqL.of ((s2.trans s3) _ _ h1)) (DpAll.kp (Kp.of s13) _ _ (by cases l <;> simp [ltR, noL, noLs, noL_pl, noL_en, noLs_th]) hrs) ok hl.len (fun H4 s4 => k _ (s13.trans s4))⟩
end
end Wd
/-! ## P6 -/
set_option Elab.async false
set_option linter.all false
set_option maxRecDepth 100000
set_option maxHeartbeats 400000
namespace Wd
open PySem PySem.Spec PyProof.Rows L2 PySem.W PySem.SeqAt
/-! ### rows -/
/-- a new list of a row's things -/
def NewRow (K : PySem.W.Frag) (H H' : Hp) (D : Addr) (r : M.Row) : Prop := H D = none ∧ Same H H' ∧ ∃ ws, H' D = some (.lst ws) ∧ Ds K thD H' ws r
def spUpTo (K : PySem.W.Frag) : Sp := fun vs H Q _ => ∃ a xs v r p, vs = [.ref a, v] ∧ SqL K H a xs ∧ Ds K thD H xs r ∧ Dp K H v (plD p) ∧ r.length ≤ 100000 ∧ ∀ D H', NewRow K H H' D (M.upTo r p) → Q (.ref D) H'
def spBehind (K : PySem.W.Frag) : Sp := fun vs H Q _ => ∃ a xs v r p, vs = [.ref a, v] ∧ SqL K H a xs ∧ Ds K thD H xs r ∧ Dp K H v (plD p) ∧ r.length ≤ 100000 ∧ ∀ D H', NewRow K H H' D (M.behind r p) → Q (.ref D) H'
def spLastOf (K : PySem.W.Frag) : Sp := fun vs H Q _ => ∃ a xs r, vs = [.ref a] ∧ SqL K H a xs ∧ Ds K thD H xs r ∧ ∀ v H', Same H H' → Dp K H' v (plD (M.lastOf r)) → Q v H'
def spBeginning (K : PySem.W.Frag) : Sp := fun vs H Q _ => ∃ a b xs ys r s, vs = [.ref a, .ref b] ∧ SqL K H a xs ∧ SqL K H b ys ∧ Ds K thD H xs r ∧ Ds K thD H ys s ∧ ∀ H', Same H H' → Q (.bl (M.isPre r s)) H'
def spMembers (K : PySem.W.Frag) : Sp := fun vs H Q _ => ∃ (a : Addr) (mem : List Nat), vs = [.ref a] ∧ SqT K H a (mem.map fun i => V.str (nm i)) ∧ mem.Nodup ∧ 1 ≤ mem.length ∧ mem.length ≤ 7 ∧ (∀ i ∈ mem, i < 26) ∧ ∀ H', Same H H' → Q .non H'
def spMost (K : PySem.W.Frag) : Sp := fun vs H Q _ => ∃ a xs, vs = [.ref a] ∧ SqT K H a xs ∧ Q (.int ((xs.length / 2 + 1 : Nat) : Int)) H
def spMay (K : PySem.W.Frag) : Sp := fun vs H Q _ => ∃ x y a b p q, vs = [.str "all", x, y] ∧ Dp K H x (epD a p) ∧ Dp K H y (epD b q) ∧ Q (.bl (!(Nat.blt b a || (Nat.beq b a && M.plt q p)))) H
theorem cut_head (xs : List V) (n : Nat) : cutV xs none (some (n : Int)) = xs.take n := by
  have e1 : HT.sIx xs.length 0 none = 0 := rfl
  have e2 : HT.sIx xs.length xs.length (some (n : Int)) = min n xs.length := by simp [HT.sIx]; omega
  unfold cutV
  rw [e1, e2]
  simp
theorem pd_take {α β : Type} {F : α → β → Prop} : ∀ {l : List α} {r : List β}, Paired F l r → ∀ n, Paired F (l.take n) (r.take n)
  | _, _, _, 0 => by simp only [List.take_zero]; exact .nil
  | _, _, .nil, n + 1 => by simp only [List.take_nil]; exact .nil
  | _, _, .cons h t, n + 1 => by simp only [List.take_succ_cons]; exact .cons h (pd_take t n)
theorem names_pd : ∀ mem : List Nat, Paired (fun v (i : Nat) => v = V.str (nm i)) (mem.map fun i => V.str (nm i)) mem
  | [] => .nil
  | _ :: r => .cons rfl (names_pd r)
theorem nodup_nm {mem : List Nat} (h : mem.Nodup) : (mem.map nm).Nodup := List.Pairwise.map nm (fun _ _ n e => n (nm_inj e)) h
section
variable {P : Program} {w : World} {K : PySem.W.Frag} {mg : Str → Option Value} {base : Heap}
theorem ok_up_to (T : Txt w K mg) : Df P w K mg base 1 (He.ga K "up_to") ["row", "place"] (spUpTo K) := by
  refine df_mk T.f_up_to sc_up_to (fun vs H Q E h => ?_) (fun _ _ _ _ _ _ us hl => match us, hl with | [_, _], _ => rfl) (fun cdv A outer s H vs Q E hr h => ?_)
  · obtain ⟨a, xs, v, r, p, rfl, _⟩ := h
    rfl
  · obtain ⟨a, xs, v, r, p, rfl, hl, hd, hv, hn, k⟩ := h
    refine ⟨_, (pss_one (ps_ret (pe_lc (own := [("thing", 2)]) (g := gName 2) rfl sc_up_to.nd (pi_list (pv 0)) (blkOk_by (own := [("thing", 2)]) (N := ["row", "place", "thing"]) (sc := defScope s_up_to) (by decide +kernel)) (fun _ _ _ _ _ => (pg_name (i := 2) sc_up_to.nd rfl (Or.inl rfl))) (fun _ _ _ _ _ => (pts_one (pt_cmpR (kLe rfl hr.units) (pe_ix (kIxT rfl) (pv 2) pe_int (fun _ _ => rfl)) (pv 1) (nomark _)))) (fun _ _ _ _ _ => (pv 2))))), ?_⟩
    rw [st_up_to]
    refine ⟨_, rfl, a, rfl, ⟨_, hl⟩, lc_any (fun t => if M.ple t.1 p = true then some t else none) (fun H v t => Dp K H v (thD t)) (goes_list hl hd) (fun k h => Dp.kp k.kp _ _ (noL_th _) h) hn (fun x t H1 Qy Qn s1 f1 m1 ky kn => ?_) (fun D ws H' h1 h2 h3 h4 => k D H' ⟨h1, h2, ws, h3, ?_⟩)⟩
    · have f2 := Dp.kp (Kp.of s1) _ _ (noL_th _) f1
      obtain ⟨b, y, z, rfl, ht, h1, h2⟩ := th_parts f2
      refine ⟨rfl, _, rfl, b, _, _, _, rfl, rfl, ht, at_of (j := 0) rfl rfl, _, rfl, _, _, ord_pl h1 (Dp.kp (Kp.of s1) _ _ (noL_pl p) hv), _, rfl, ?_⟩
      rw [lt_pl]
      cases e : M.plt p t.1 with
      | true => exact iteF (kn (by rw [M.ple, e]; rfl) _ (Same.refl _))
      | false => exact iteT ⟨_, rfl, ky _ _ _ (by rw [M.ple, e]; rfl) (Same.refl _) f2⟩
    · have e : r.filterMap (fun t => if M.ple t.1 p = true then some t else none) = M.upTo r p := by
        rw [M.upTo, ← List.filterMap_eq_filter]; rfl
      rw [e] at h4
      exact h4
theorem ok_behind (T : Txt w K mg) : Df P w K mg base 1 (He.ga K "behind") ["row", "place"] (spBehind K) := by
  refine df_mk T.f_behind sc_behind (fun vs H Q E h => ?_) (fun _ _ _ _ _ _ us hl => match us, hl with | [_, _], _ => rfl) (fun cdv A outer s H vs Q E hr h => ?_)
  · obtain ⟨a, xs, v, r, p, rfl, _⟩ := h
    rfl
  · obtain ⟨a, xs, v, r, p, rfl, hl, hd, hv, hn, k⟩ := h
    refine ⟨_, (pss_one (ps_ret (pe_lc (own := [("thing", 2)]) (g := gName 2) rfl sc_behind.nd (pi_list (pv 0)) (blkOk_by (own := [("thing", 2)]) (N := ["row", "place", "thing"]) (sc := defScope s_behind) (by decide +kernel)) (fun _ _ _ _ _ => (pg_name (i := 2) sc_behind.nd rfl (Or.inl rfl))) (fun _ _ _ _ _ => (pts_one (pt_cmpR (kGt rfl hr.units) (pe_ix (kIxT rfl) (pv 2) pe_int (fun _ _ => rfl)) (pv 1) (nomark _)))) (fun _ _ _ _ _ => (pv 2))))), ?_⟩
    rw [st_behind]
    refine ⟨_, rfl, a, rfl, ⟨_, hl⟩, lc_any (fun t => if M.plt p t.1 = true then some t else none) (fun H v t => Dp K H v (thD t)) (goes_list hl hd) (fun k h => Dp.kp k.kp _ _ (noL_th _) h) hn (fun x t H1 Qy Qn s1 f1 m1 ky kn => ?_) (fun D ws H' h1 h2 h3 h4 => k D H' ⟨h1, h2, ws, h3, ?_⟩)⟩
    · have f2 := Dp.kp (Kp.of s1) _ _ (noL_th _) f1
      obtain ⟨b, y, z, rfl, ht, h1, h2⟩ := th_parts f2
      refine ⟨rfl, _, rfl, b, _, _, _, rfl, rfl, ht, at_of (j := 0) rfl rfl, _, rfl, _, _, ord_pl h1 (Dp.kp (Kp.of s1) _ _ (noL_pl p) hv), _, rfl, ?_⟩
      rw [lt_pl]
      cases e : M.plt p t.1 with
      | false => exact iteF (kn (by rw [e]; rfl) _ (Same.refl _))
      | true => exact iteT ⟨_, rfl, ky _ _ _ (by rw [e]; rfl) (Same.refl _) f2⟩
    · have e : r.filterMap (fun t => if M.plt p t.1 = true then some t else none) = M.behind r p := by
        rw [M.behind, ← List.filterMap_eq_filter]; rfl
      rw [e] at h4
      exact h4
theorem lastOf_at : ∀ (r : M.Row), r ≠ [] → ∃ t, r[r.length - 1]? = some t ∧ M.lastOf r = t.1
  | [], h => absurd rfl h
  | [t], _ => ⟨t, rfl, rfl⟩
  | t :: u :: r, _ => by
    obtain ⟨x, h1, h2⟩ := lastOf_at (u :: r) (by simp)
    exact ⟨x, by simpa using h1, by rw [← h2, M.lastOf]⟩
theorem atI_end {xs : List V} {v : V} (h : xs[xs.length - 1]? = some v) : atI xs (-1) = some v := by
  have hne : xs ≠ [] := fun e => by subst e; simp at h
  have e : xs = xs.dropLast ++ [v] := by
    have h2 : xs.getLast hne = v := by
      rw [List.getLast_eq_getElem]
      obtain ⟨h3, h4⟩ := List.getElem?_eq_some_iff.mp h
      exact h4
    rw [← h2]
    exact (List.dropLast_concat_getLast hne).symm
  rw [e]
  exact atI_last _ _
theorem eqRow_nil (r : M.Row) : M.eqRow r [] = r.isEmpty := by cases r <;> rfl
theorem ok_last_place (T : Txt w K mg) : Df P w K mg base 1 (He.ga K "last_place") ["row"] (spLastOf K) := by
  refine df_mk T.f_last_place sc_last_place (fun vs H Q E h => ?_) (fun _ _ _ _ _ _ us hl => match us, hl with | [_], _ => rfl) (fun cdv A outer s H vs Q E hr h => ?_)
  · obtain ⟨a, xs, r, rfl, _⟩ := h
    rfl
  · obtain ⟨a, xs, r, rfl, hl, hd, k⟩ := h
    refine ⟨_, (pss_one (ps_ret (pe_ifExp (pt_cmpR (kNeD rfl hr.units) (pv 0) (pe_lst pa_nil) (nomark _)) (pe_ix (kIxT rfl) (pe_ix (kIxL rfl) (pv 0) (pe_un un_neg pe_int) (fun _ _ => rfl)) pe_int (fun _ _ => rfl)) (pe_glob (v := .ref (He.ga K "NOWHERE")) rfl T.g_NOWHERE rfl)))), ?_⟩
    rw [st_last_place]
    refine ⟨_, rfl, Nat.zero_le _, fun p hp => ?_⟩
    (generalize hz : upd H p _ = H1; have s1 : Same H H1 := (by rw [← hz]; exact same_new hp); have h1 : H1 p = some _ := (by rw [← hz]; exact upd_same); clear hz)
    have hd1 : Ds K thD H1 xs r := hd.kp (Kp.of s1) noL_th
    refine ⟨_, _, hd1.lst (s1.seq hl), .lst (SqL.of h1) .nil, row_shaped r, row_shaped [], _, rfl, ?_⟩
    rw [show (PyData.list []) = .list (([] : M.Row).map thD) from rfl, eqv_row, eqRow_nil]
    cases r with
    | nil =>
      refine iteF ?_
      refine k _ _ s1 (pl_mk (p := (0, 0)) (T.nowhere _))
    | cons t r =>
      refine iteT ?_
      obtain ⟨u, e1, e2⟩ := lastOf_at (t :: r) (by simp)
      obtain ⟨x, e3, e4⟩ := pd_get2 hd1 e1
      have hlen := pd_len hd
      obtain ⟨b, y, z, rfl, ht, g1, g2⟩ := th_parts e4
      refine ⟨_, rfl, _, rfl, a, _, _, _, rfl, rfl, s1.seq hl, atI_end (by rw [hlen]; exact e3), b, _, _, _, rfl, rfl, ht, at_of (j := 0) rfl rfl, k _ _ s1 (by rw [e2]; exact g1)⟩
theorem ok_is_beginning (T : Txt w K mg) : Df P w K mg base 1 (He.ga K "is_beginning") ["one", "other"] (spBeginning K) := by
  refine df_mk T.f_is_beginning sc_is_beginning (fun vs H Q E h => ?_) (fun _ _ _ _ _ _ us hl => match us, hl with | [_, _], _ => rfl) (fun cdv A outer s H vs Q E hr h => ?_)
  · obtain ⟨a, b, xs, ys, r, s, rfl, _⟩ := h
    rfl
  · obtain ⟨a, b, xs, ys, r, s, rfl, ha, hb, hr2, hs, k⟩ := h
    refine ⟨_, (pss_one (ps_ret (pe_cmpR (kEqD rfl hr.units) (pe_slice sl_list (pv 1) po_none (po_some (pe_callB (kLen rfl) (by rfl) T.b_len PySem.boot_len (pa_cons (pv 0) pa_nil)))) (pv 0) (nomark _)))), ?_⟩
    rw [st_is_beginning]
    refine ⟨_, rfl, _, rfl, _, _, rfl, .inl ha, _, rfl, b, ys, rfl, hb, fun p hp => ?_⟩
    have ec : cutV ys none (some (xs.length : Int)) = ys.take xs.length := cut_head ys xs.length
    rw [ec]
    (generalize hz : upd H p _ = H1; have s1 : Same H H1 := (by rw [← hz]; exact same_new hp); have h1 : H1 p = some _ := (by rw [← hz]; exact upd_same); clear hz)
    have hs1 : Ds K thD H1 ys s := hs.kp (Kp.of s1) noL_th
    have hl := pd_len hr2
    have ht : Ds K thD H1 (ys.take xs.length) (s.take r.length) := by rw [hl]; exact pd_take hs1 _
    refine ⟨_, rfl, _, _, ht.lst (SqL.of h1), (hr2.kp (Kp.of s1) noL_th).lst (s1.seq ha), row_shaped _, row_shaped _, ?_⟩
    rw [eqv_row]
    exact k _ s1
theorem ok_look_at_members (T : Txt w K mg) : Df P w K mg base 2 (He.ga K "look_at_members") ["thing"] (spMembers K) := by
  obtain ⟨fd_is_word, G_is_word, b_is_word, kp_is_word⟩ := ok_is_word (P := P) (w := w) (base := base) T
  refine df_mk T.f_look_at_members sc_look_at_members (fun vs H Q E h => ?_) (fun _ _ _ _ _ _ us hl => match us, hl with | [_], _ => rfl) (fun cdv A outer s H vs Q E hr h => ?_)
  · obtain ⟨a, mem, rfl, _⟩ := h
    rfl
  · obtain ⟨a, mem, rfl, ha, nd, l1, l7, hw, k⟩ := h
    obtain ⟨tM, hMOST_MEMBERS⟩ := T.i_MOST_MEMBERS
    refine ⟨_, (pss_cons (ps_if (PW.pt (pw_or (pt_not (pt_val (pe_callB (kIsi rfl) (by rfl) T.b_isinstance (by decide +kernel) (pa_cons (pv 0) (pa_cons (pe_bltn (v := .ty "tuple") (u := .type "tuple") (by rfl) T.b_tuple (by decide +kernel) rfl) pa_nil))))) (pw_or (pt_not (pt_chain op_le op_le pe_int (pe_callB (kLen rfl) (by rfl) T.b_len PySem.boot_len (pa_cons (pv 0) pa_nil)) (pe_glob (v := .int 7) rfl hMOST_MEMBERS ⟨_, rfl⟩))) (pw_or1 (pt_not (pt_val (pe_callB (cr_all rfl) (by rfl) T.b_all (by decide +kernel) (pa_cons (pe_lc (own := [("one", 1)]) (g := gName 1) rfl sc_look_at_members.nd (pi_tup (pv 0)) (blkOk_by (own := [("one", 1)]) (N := ["thing", "one"]) (sc := defScope s_look_at_members) (by decide +kernel)) (fun _ _ _ _ _ => (pg_name (i := 1) sc_look_at_members.nd rfl (Or.inl rfl))) (fun _ _ _ _ _ => pts_nil) (fun _ _ _ _ _ => (pe_call G_is_word (hr.mono (by decide)) rfl T.g_is_word kp_is_word b_is_word .nil pass0 (pa_cons (pv 1) pa_nil)))) pa_nil)))))))) pss_never pss_nil) (pss_one (ps_if (pt_cmpR op_lt (pe_lenSet T (pv 0)) (pe_callB (kLen rfl) (by rfl) T.b_len PySem.boot_len (pa_cons (pv 0) pa_nil)) (nomark _)) pss_never pss_nil))), ?_⟩
    rw [st_look_at_members]
    refine ⟨_, rfl, _, _, _, rfl, isi_tup ha, _, rfl, iteF ?_⟩
    refine ⟨_, rfl, _, _, rfl, .inr ha, _, _, rfl, rfl, true, bT (by rw [List.length_map]; omega), iteT ⟨_, _, rfl, rfl, true, bT (by rw [List.length_map]; omega), iteF ?_⟩⟩
    refine ⟨_, rfl, a, rfl, ⟨_, ha⟩, lc_any (fun c => some c) (fun _ v (_ : Nat) => v = .bl true) (goes_tup ha (names_pd mem)) (fun _ h => h) (by omega) (fun x t H1 Qy Qn s1 f1 m1 ky kn => ?_) (fun D ws H1 hD s1 hw1 hp => ?_)⟩
    · subst f1
      exact ⟨rfl, _, rfl, _, rfl, nm_word (hw _ m1), fun H2 s2 => ky _ _ _ rfl s2 rfl⟩
    obtain ⟨bs, rfl, hbs⟩ := all_true hp
    refine ⟨_, bs, rfl, SqL.of hw1, ?_⟩
    rw [hbs]
    refine ⟨_, rfl, iteF ?_⟩
    have ha1 := (Kp.of s1).sqt ha
    refine ⟨_, rfl, _, mem.map nm, rfl, by rw [List.map_map]; exact ha1, nodup_nm nd, by rw [List.length_map]; omega, _, rfl, _, _, rfl, .inr ha1, _, _, rfl, rfl, false, bF (by rw [List.length_map, List.length_map]; omega), iteF ?_⟩
    exact k _ s1
theorem ok_most_of (T : Txt w K mg) : Df P w K mg base 1 (He.ga K "most_of") ["members"] (spMost K) := by
  refine df_mk T.f_most_of sc_most_of (fun vs H Q E h => ?_) (fun _ _ _ _ _ _ us hl => match us, hl with | [_], _ => rfl) (fun cdv A outer s H vs Q E hr h => ?_)
  · obtain ⟨a, xs, rfl, _⟩ := h
    rfl
  · obtain ⟨a, xs, rfl, ha, k⟩ := h
    refine ⟨_, (pss_one (ps_ret (pe_op op_add (pe_op op_fdivN (pe_callB (kLen rfl) (by rfl) T.b_len PySem.boot_len (pa_cons (pv 0) pa_nil)) pe_int) pe_int))), ?_⟩
    rw [st_most_of]
    refine ⟨_, rfl, _, _, rfl, .inr ha, ?_⟩
    refine ⟨_, _, rfl, rfl, ⟨by decide, by decide⟩, _, _, rfl, rfl, ?_⟩
    rw [show Int.fdiv (xs.length : Int) 2 = ((xs.length / 2 : Nat) : Int) from by rw [Int.fdiv_eq_ediv_of_nonneg _ (by decide)]; rfl]
    exact k
theorem ok_may_promise (T : Txt w K mg) : Df P w K mg base 1 (He.ga K "may_promise") ["looks", "own", "other"] (spMay K) := by
  refine df_mk T.f_may_promise sc_may_promise (fun vs H Q E h => ?_) (fun _ _ _ _ _ _ us hl => match us, hl with | [_, _, _], _ => rfl) (fun cdv A outer s H vs Q E hr h => ?_)
  · obtain ⟨x, y, a, b, p, q, rfl, _⟩ := h
    rfl
  · obtain ⟨x, y, a, b, p, q, rfl, hx, hy, k⟩ := h
    refine ⟨_, (pss_cons (ps_if (pt_cmpR op_eq (pv 0) pe_str (nomark _)) (pss_one (ps_ret pe_bl)) pss_nil) (pss_cons (ps_if (pt_cmpR op_eq (pv 0) pe_str (nomark _)) (pss_one (ps_ret (pe_cmpR op_ge (pe_ix (kIxT rfl) (pv 2) pe_int (fun _ _ => rfl)) (pe_ix (kIxT rfl) (pv 1) pe_int (fun _ _ => rfl)) (nomark _)))) pss_nil) (pss_one (ps_ret (pe_cmpR (kGe rfl hr.units) (pv 2) (pv 1) (nomark _)))))), ?_⟩
    rw [st_may_promise]
    refine ⟨_, rfl, rfl, false, bF (by decide +kernel), iteF ?_⟩
    refine ⟨_, rfl, rfl, false, bF (by decide +kernel), iteF ?_⟩
    refine ⟨_, rfl, _, rfl, _, _, ord_ep hy hx, ?_⟩
    rw [lt_ep]
    exact k
end
end Wd
/-! ## P7 -/
set_option Elab.async false
set_option linter.all false
set_option maxRecDepth 100000
set_option maxHeartbeats 400000
/-! A house in the heap. -/
namespace Wd
open PySem PySem.Spec PyProof.Rows L2 PySem.W PySem.SeqAt
/-- where a house's things lie -/
structure HA where
  p : Addr
  dx : Addr
  mem : Addr
  row : Addr
  fr : Addr
  pr : Addr
  ta : Addr
  dn : V
  t : Addr
  n : Addr
  s : Addr
  he : V
  ck : Int
def roleV : M.Role → V
  | .seeks => .str "seeks"
  | .follows => .str "follows"
  | .leads => .str "leads"
def nameV : Option Nat → V
  | none => .non
  | some i => .str (nm i)
def numV : Option Nat → V
  | none => .non
  | some i => .int ((i : Nat) : Int)
/-- the attributes -/
def hof (a : HA) (h : M.Hs) : List (Str × V) := [("own_name", .str (nm h.name)), ("own_members", .ref a.mem), ("own_looks", .str "all"), ("own_promised", .int ((h.promised : Nat) : Int)), ("own_epoch", .int ((h.epoch : Nat) : Int)), ("own_row", .ref a.row),
  ("own_done", a.dn), ("own_state", .ref a.t), ("fresh", .ref a.fr), ("own_role", roleV h.role), ("own_head", nameV h.head), ("sought", numV h.sought), ("promises", .ref a.pr), ("taken", .ref a.ta), ("own_clock", .int a.ck), ("heard_at", a.he)]
section
variable (a : HA) (h : M.Hs)
theorem lk_own_name : List.lookup ("own_name" : Str) (hof a h) = some (.str (nm h.name)) := by kernel_rfl
theorem lk_own_members : List.lookup ("own_members" : Str) (hof a h) = some (.ref a.mem) := by kernel_rfl
theorem lk_own_looks : List.lookup ("own_looks" : Str) (hof a h) = some (.str "all") := by kernel_rfl
theorem lk_own_promised : List.lookup ("own_promised" : Str) (hof a h) = some (.int ((h.promised : Nat) : Int)) := by kernel_rfl
theorem lk_own_epoch : List.lookup ("own_epoch" : Str) (hof a h) = some (.int ((h.epoch : Nat) : Int)) := by kernel_rfl
theorem lk_own_row : List.lookup ("own_row" : Str) (hof a h) = some (.ref a.row) := by kernel_rfl
theorem lk_own_done : List.lookup ("own_done" : Str) (hof a h) = some a.dn := by kernel_rfl
theorem lk_own_state : List.lookup ("own_state" : Str) (hof a h) = some (.ref a.t) := by kernel_rfl
theorem lk_fresh : List.lookup ("fresh" : Str) (hof a h) = some (.ref a.fr) := by kernel_rfl
theorem lk_own_role : List.lookup ("own_role" : Str) (hof a h) = some (roleV h.role) := by kernel_rfl
theorem lk_own_head : List.lookup ("own_head" : Str) (hof a h) = some (nameV h.head) := by kernel_rfl
theorem lk_sought : List.lookup ("sought" : Str) (hof a h) = some (numV h.sought) := by kernel_rfl
theorem lk_promises : List.lookup ("promises" : Str) (hof a h) = some (.ref a.pr) := by kernel_rfl
theorem lk_taken : List.lookup ("taken" : Str) (hof a h) = some (.ref a.ta) := by kernel_rfl
theorem lk_own_clock : List.lookup ("own_clock" : Str) (hof a h) = some (.int a.ck) := by kernel_rfl
theorem pu_own_promised (x : Nat) : putF "own_promised" (.int ((x : Nat) : Int)) (hof a h) = hof a { h with promised := x } := by kernel_rfl
theorem pu_own_epoch (x : Nat) : putF "own_epoch" (.int ((x : Nat) : Int)) (hof a h) = hof a { h with epoch := x } := by kernel_rfl
theorem pu_own_row (x : Addr) : putF "own_row" (.ref x) (hof a h) = hof { a with row := x } h := by kernel_rfl
theorem pu_own_done (x : V) : putF "own_done" x (hof a h) = hof { a with dn := x } h := by kernel_rfl
theorem pu_own_state (x : Addr) : putF "own_state" (.ref x) (hof a h) = hof { a with t := x } h := by kernel_rfl
theorem pu_fresh (x : Addr) : putF "fresh" (.ref x) (hof a h) = hof { a with fr := x } h := by kernel_rfl
theorem pu_own_role (x : M.Role) : putF "own_role" (roleV x) (hof a h) = hof a { h with role := x } := by kernel_rfl
theorem pu_own_head (x : Option Nat) : putF "own_head" (nameV x) (hof a h) = hof a { h with head := x } := by kernel_rfl
theorem pu_sought (x : Option Nat) : putF "sought" (numV x) (hof a h) = hof a { h with sought := x } := by kernel_rfl
theorem pu_promises (x : Addr) : putF "promises" (.ref x) (hof a h) = hof { a with pr := x } h := by kernel_rfl
theorem pu_taken (x : Addr) : putF "taken" (.ref x) (hof a h) = hof { a with ta := x } h := by kernel_rfl
theorem pu_own_clock (x : Int) : putF "own_clock" (.int x) (hof a h) = hof { a with ck := x } h := by kernel_rfl
theorem pu_heard_at (x : V) : putF "heard_at" x (hof a h) = hof { a with he := x } h := by kernel_rfl
theorem hof_len : (hof a h).length = 16 := rfl
theorem hof_1000 : (hof a h).length < 1000 := by rw [hof_len]; decide
end
/-- a dict of places -/
def DicAt (K : PySem.W.Frag) (H : Hp) (kvs : List (Key × V)) (d : M.Dic) : Prop := Paired (fun (kv : Key × V) (q : Nat × M.Pl) => kv.1 = nK q.1 ∧ Dp K H kv.2 (plD q.2)) kvs d
def own (a : HA) : List Addr := [a.p, a.row, a.fr, a.pr, a.ta, a.n, a.s]
structure HouseAt (K : PySem.W.Frag) (H : Hp) (a : HA) (h : M.Hs) : Prop where
  ob : H a.p = some (.ins (hC K) a.dx (hof a h))
  mm : SqT K H a.mem (h.mem.map fun i => V.str (nm i))
  row : ∃ ws, H a.row = some (.lst ws) ∧ Ds K thD H ws h.row
  dn : Dp K H a.dn (plD h.done)
  st : StAt K H a.t a.n a.s
  fr : ∃ ws, H a.fr = some (.lst ws) ∧ ws.length = h.fresh
  pr : ∃ kvs, H a.pr = some (.dK kvs) ∧ DicAt K H kvs h.promises
  ta : ∃ kvs, H a.ta = some (.dK kvs) ∧ DicAt K H kvs h.taken
  d1 : a.row ≠ a.fr
  d2 : a.pr ≠ a.ta
  d3 : a.pr ≠ a.n ∧ a.pr ≠ a.s ∧ a.ta ≠ a.n ∧ a.ta ≠ a.s
  rl : h.row.length ≤ 1000
  fl : h.fresh ≤ 1000
  pl : h.promises.length ≤ 1000
  tl : h.taken.length ≤ 1000
  nd : h.mem.Nodup
  nm : h.name ∈ h.mem
  ml : 2 ≤ h.mem.length ∧ h.mem.length ≤ 7
  mb : ∀ i ∈ h.mem, i < 26
theorem DicAt.kp {K : PySem.W.Frag} {H H' : Hp} {kvs : List (Key × V)} {d : M.Dic} (h : DicAt K H kvs d) (k : Kp H H') : DicAt K H' kvs d := pd_mono h fun _ q e => ⟨e.1, Dp.kp k _ _ (noL_pl _) e.2⟩
theorem StAt.kp {K : PySem.W.Frag} {H H' : Hp} {t n s : Addr} (h : StAt K H t n s) (k : Kp H H') (hn : ∀ o, H n = some o → H' n = some o) (hs : ∀ o, H s = some o → H' s = some o) : StAt K H' t n s where
  t := k.1 _ _ h.t
  n := by obtain ⟨kn, e⟩ := h.n; exact ⟨kn, hn _ e⟩
  s := by obtain ⟨ks, e, o⟩ := h.s; exact ⟨ks, hs _ e, o.kp k⟩
/-- what a house's own things keep, it keeps -/
theorem HouseAt.kept {K : PySem.W.Frag} {H H' : Hp} {a : HA} {h : M.Hs} (hh : HouseAt K H a h) (k : Kp H H') (ko : ∀ b ∈ own a, ∀ o, H b = some o → H' b = some o) : HouseAt K H' a h where
  ob := ko _ (by simp [own]) _ hh.ob
  mm := k.sqt hh.mm
  row := by obtain ⟨ws, e, d⟩ := hh.row; exact ⟨ws, ko _ (by simp [own]) _ e, d.kp k noL_th⟩
  dn := Dp.kp k _ _ (noL_pl _) hh.dn
  st := hh.st.kp k (ko _ (by simp [own])) (ko _ (by simp [own]))
  fr := by obtain ⟨ws, e, d⟩ := hh.fr; exact ⟨ws, ko _ (by simp [own]) _ e, d⟩
  pr := by obtain ⟨ws, e, d⟩ := hh.pr; exact ⟨ws, ko _ (by simp [own]) _ e, d.kp k⟩
  ta := by obtain ⟨ws, e, d⟩ := hh.ta; exact ⟨ws, ko _ (by simp [own]) _ e, d.kp k⟩
  d1 := hh.d1
  d2 := hh.d2
  d3 := hh.d3
  rl := hh.rl
  fl := hh.fl
  pl := hh.pl
  tl := hh.tl
  nd := hh.nd
  nm := hh.nm
  ml := hh.ml
  mb := hh.mb
theorem HouseAt.same {K : PySem.W.Frag} {H H' : Hp} {a : HA} {h : M.Hs} (hh : HouseAt K H a h) (s : Same H H') : HouseAt K H' a h := hh.kept (Kp.of s) fun _ _ _ e => s _ _ e
theorem HouseAt.there {K : PySem.W.Frag} {H : Hp} {a : HA} {h : M.Hs} (hh : HouseAt K H a h) : ∀ b ∈ own a, ∃ o, H b = some o ∧ (∀ xs, o ≠ .tup xs) ∧ ∀ ob xs, o ≠ .frz ob (.tup xs) := by
  intro b hb
  simp only [own, List.mem_cons, List.not_mem_nil, or_false] at hb
  rcases hb with rfl | rfl | rfl | rfl | rfl | rfl | rfl
  · exact ⟨_, hh.ob, (fun _ z => nomatch z), (fun _ _ z => nomatch z)⟩
  · obtain ⟨_, e, _⟩ := hh.row; exact ⟨_, e, (fun _ z => nomatch z), (fun _ _ z => nomatch z)⟩
  · obtain ⟨_, e, _⟩ := hh.fr; exact ⟨_, e, (fun _ z => nomatch z), (fun _ _ z => nomatch z)⟩
  · obtain ⟨_, e, _⟩ := hh.pr; exact ⟨_, e, (fun _ z => nomatch z), (fun _ _ z => nomatch z)⟩
  · obtain ⟨_, e, _⟩ := hh.ta; exact ⟨_, e, (fun _ z => nomatch z), (fun _ _ z => nomatch z)⟩
  · obtain ⟨_, e⟩ := hh.st.n; exact ⟨_, e, (fun _ z => nomatch z), (fun _ _ z => nomatch z)⟩
  · obtain ⟨_, e, _⟩ := hh.st.s; exact ⟨_, e, (fun _ z => nomatch z), (fun _ _ z => nomatch z)⟩
/-- a house moves on: what is not its own stands -/
structure Fr (H0 H : Hp) (a0 a : HA) : Prop where
  p : a.p = a0.p
  mem : a.mem = a0.mem
  keep : ∀ b o, H0 b = some o → b ∉ own a0 → H b = some o
  own : ∀ b ∈ Wd.own a, b ∈ Wd.own a0 ∨ H0 b = none
  kp : Kp H0 H
  al : ∀ b, H b = none → H0 b = none
theorem Fr.refl (H : Hp) (a : HA) : Fr H H a a := ⟨rfl, rfl, fun _ _ e _ => e, fun _ m => .inl m, Kp.refl H, fun _ e => e⟩
theorem Fr.trans {H0 H1 H2 : Hp} {a0 a1 a2 : HA} (f : Fr H0 H1 a0 a1) (g : Fr H1 H2 a1 a2) : Fr H0 H2 a0 a2 where
  p := g.p.trans f.p
  mem := g.mem.trans f.mem
  keep := fun b o e n => g.keep b o (f.keep b o e n) fun m => (f.own b m).elim n fun z => by rw [z] at e; cases e
  own := fun b m => (g.own b m).elim (f.own b) fun z => by
    by_cases c : b ∈ Wd.own a0
    · exact .inl c
    · refine .inr ?_
      cases e : H0 b with
      | none => rfl
      | some o => rw [f.keep b o e c] at z; cases z
  kp := f.kp.trans g.kp
  al := fun b e => f.al b (g.al b e)
theorem Fr.same {H0 H1 H2 : Hp} {a0 a1 : HA} (f : Fr H0 H1 a0 a1) (s : Same H1 H2) : Fr H0 H2 a0 a1 where
  p := f.p
  mem := f.mem
  keep := fun b o e n => s _ _ (f.keep b o e n)
  own := f.own
  kp := f.kp.trans (Kp.of s)
  al := fun b e => f.al b (s.free e)
/-- a thing of its own is written -/
theorem Fr.put {H0 H1 : Hp} {a0 a1 a2 : HA} {b : Addr} {o u : HO} (f : Fr H0 H1 a0 a1) (hb : b ∈ Wd.own a1) (e : H1 b = some u) (n1 : ∀ xs, u ≠ .tup xs) (n2 : ∀ ob xs, u ≠ .frz ob (.tup xs)) (ep : a2.p = a1.p) (em : a2.mem = a1.mem)
    (eo : ∀ x ∈ Wd.own a2, x ∈ Wd.own a1 ∨ H0 x = none) : Fr H0 (upd H1 b o) a0 a2 where
  p := ep.trans f.p
  mem := em.trans f.mem
  keep := fun c ob e2 n => by
    have nb : c ≠ b := fun z => by
      subst z
      exact (f.own c hb).elim n fun z => by rw [z] at e2; cases e2
    rw [upd_ne nb]
    exact f.keep c ob e2 n
  own := fun x m => (eo x m).elim (f.own x) .inr
  kp := f.kp.trans (Kp.at e n1 n2)
  al := fun c z => f.al c (by
    by_cases cb : c = b
    · subst cb; rw [upd_same] at z; cases z
    · rw [upd_ne cb] at z; exact z)
/-- another house, its things apart -/
theorem HouseAt.apart {K : PySem.W.Frag} {H0 H : Hp} {a0 a c : HA} {h : M.Hs} (f : Fr H0 H a0 a) (hc : HouseAt K H0 c h) (d : ∀ b ∈ own c, b ∉ own a0) : HouseAt K H c h ∧ ∀ b ∈ own c, b ∉ own a :=
  ⟨hc.kept f.kp fun b m o e => f.keep b o e (d b m), fun b m n => (f.own b n).elim (d b m) fun z => by
    obtain ⟨o, e, _⟩ := hc.there b m
    rw [z] at e
    cases e⟩
end Wd
namespace Wd
open PySem PySem.Spec PyProof.Rows L2 PySem.W PySem.SeqAt
theorem nt_ins {C dx : Addr} {fs : List (Str × V)} : (∀ xs, HO.ins C dx fs ≠ .tup xs) ∧ ∀ ob xs, HO.ins C dx fs ≠ .frz ob (.tup xs) := ⟨(fun _ z => nomatch z), (fun _ _ z => nomatch z)⟩
theorem nt_lst {ws : List V} : (∀ xs, HO.lst ws ≠ .tup xs) ∧ ∀ ob xs, HO.lst ws ≠ .frz ob (.tup xs) := ⟨(fun _ z => nomatch z), (fun _ _ z => nomatch z)⟩
theorem nt_dK {ws : List (Key × V)} : (∀ xs, HO.dK ws ≠ .tup xs) ∧ ∀ ob xs, HO.dK ws ≠ .frz ob (.tup xs) := ⟨(fun _ z => nomatch z), (fun _ _ z => nomatch z)⟩
/-- the object is written; what its attributes lead to lies in the heap -/
structure Deps (K : PySem.W.Frag) (H : Hp) (a : HA) (h : M.Hs) : Prop where
  mm : SqT K H a.mem (h.mem.map fun i => V.str (nm i))
  row : ∃ ws, H a.row = some (.lst ws) ∧ Ds K thD H ws h.row
  dn : Dp K H a.dn (plD h.done)
  st : StAt K H a.t a.n a.s
  fr : ∃ ws, H a.fr = some (.lst ws) ∧ ws.length = h.fresh
  pr : ∃ kvs, H a.pr = some (.dK kvs) ∧ DicAt K H kvs h.promises
  ta : ∃ kvs, H a.ta = some (.dK kvs) ∧ DicAt K H kvs h.taken
  d1 : a.row ≠ a.fr
  d2 : a.pr ≠ a.ta
  d3 : a.pr ≠ a.n ∧ a.pr ≠ a.s ∧ a.ta ≠ a.n ∧ a.ta ≠ a.s
  rl : h.row.length ≤ 1000
  fl : h.fresh ≤ 1000
  pl : h.promises.length ≤ 1000
  tl : h.taken.length ≤ 1000
  nd : h.mem.Nodup
  nm : h.name ∈ h.mem
  ml : 2 ≤ h.mem.length ∧ h.mem.length ≤ 7
  mb : ∀ i ∈ h.mem, i < 26
theorem HouseAt.deps {K : PySem.W.Frag} {H : Hp} {a : HA} {h : M.Hs} (hh : HouseAt K H a h) : Deps K H a h := ⟨hh.mm, hh.row, hh.dn, hh.st, hh.fr, hh.pr, hh.ta, hh.d1, hh.d2, hh.d3, hh.rl, hh.fl, hh.pl, hh.tl, hh.nd, hh.nm, hh.ml, hh.mb⟩
theorem Deps.put {K : PySem.W.Frag} {H : Hp} {a : HA} {h : M.Hs} {C dx : Addr} {fs0 : List (Str × V)} (d : Deps K H a h) (e : H a.p = some (.ins C dx fs0)) : HouseAt K (upd H a.p (.ins (hC K) a.dx (hof a h))) a h := by
  have k : Kp H (upd H a.p (.ins (hC K) a.dx (hof a h))) := Kp.at e nt_ins.1 nt_ins.2
  have kl : ∀ {b : Addr} {o : HO}, H b = some o → (∀ C dx fs, o ≠ .ins C dx fs) → (upd H a.p (.ins (hC K) a.dx (hof a h))) b = some o := fun {b o} hb n => by
    have nb : b ≠ a.p := fun z => by subst z; rw [e] at hb; exact n _ _ _ (Option.some.inj hb).symm
    rw [upd_ne nb]
    exact hb
  exact {
    ob := upd_same
    mm := k.sqt d.mm
    row := by obtain ⟨ws, e, q⟩ := d.row; exact ⟨ws, kl e (fun _ _ _ z => nomatch z), q.kp k noL_th⟩
    dn := Dp.kp k _ _ (noL_pl _) d.dn
    st := by
      refine ⟨k.1 _ _ d.st.t, ?_, ?_⟩
      · obtain ⟨kn, e⟩ := d.st.n; exact ⟨kn, kl e (fun _ _ _ z => nomatch z)⟩
      · obtain ⟨ks, e, o⟩ := d.st.s; exact ⟨ks, kl e (fun _ _ _ z => nomatch z), o.kp k⟩
    fr := by obtain ⟨ws, e, q⟩ := d.fr; exact ⟨ws, kl e (fun _ _ _ z => nomatch z), q⟩
    pr := by obtain ⟨ws, e, q⟩ := d.pr; exact ⟨ws, kl e (fun _ _ _ z => nomatch z), q.kp k⟩
    ta := by obtain ⟨ws, e, q⟩ := d.ta; exact ⟨ws, kl e (fun _ _ _ z => nomatch z), q.kp k⟩
    d1 := d.d1
    d2 := d.d2
    d3 := d.d3
    rl := d.rl
    fl := d.fl
    pl := d.pl
    tl := d.tl
    nd := d.nd
    nm := d.nm
    ml := d.ml
    mb := d.mb }
section
variable {K : PySem.W.Frag} {H0 H : Hp} {a0 a : HA} {h : M.Hs}
theorem wr_of {a' : HA} {h' : M.Hs} {fs : List (Str × V)} (hh : HouseAt K H a h) (f : Fr H0 H a0 a) (e : fs = hof a' h') (d : Deps K H a' h') (ep : a'.p = a.p) (em : a'.mem = a.mem) (ed : a'.dx = a.dx) (eo : ∀ x ∈ own a', x ∈ own a ∨ H0 x = none) :
    HouseAt K (upd H a.p (.ins (hC K) a.dx fs)) a' h' ∧ Fr H0 (upd H a.p (.ins (hC K) a.dx fs)) a0 a' := by
  subst e
  rw [← ep, ← ed]
  refine ⟨d.put (by rw [ep]; exact hh.ob), ?_⟩
  exact f.put (by rw [ep]; simp [own]) (by rw [ep]; exact hh.ob) nt_ins.1 nt_ins.2 ep em eo
theorem wr_sc (hh : HouseAt K H a h) (f : Fr H0 H a0 a) (x1 x2 : Nat) (x3 : M.Role) (x4 x5 : Option Nat) (x6 : Nat) {fs : List (Str × V)} (e : fs = hof a { h with promised := x1, epoch := x2, role := x3, head := x4, sought := x5, clock := x6 }) :
    HouseAt K (upd H a.p (.ins (hC K) a.dx fs)) a { h with promised := x1, epoch := x2, role := x3, head := x4, sought := x5, clock := x6 } ∧ Fr H0 (upd H a.p (.ins (hC K) a.dx fs)) a0 a :=
  wr_of hh f e ⟨hh.mm, hh.row, hh.dn, hh.st, hh.fr, hh.pr, hh.ta, hh.d1, hh.d2, hh.d3, hh.rl, hh.fl, hh.pl, hh.tl, hh.nd, hh.nm, hh.ml, hh.mb⟩ rfl rfl rfl fun _ m => .inl m
theorem wr_promised (hh : HouseAt K H a h) (f : Fr H0 H a0 a) (x : Nat) : HouseAt K (upd H a.p (.ins (hC K) a.dx (putF "own_promised" (.int ((x : Nat) : Int)) (hof a h)))) a { h with promised := x } ∧ Fr H0 (upd H a.p (.ins (hC K) a.dx (putF "own_promised" (.int ((x : Nat) : Int)) (hof a h)))) a0 a :=
  wr_sc hh f x h.epoch h.role h.head h.sought h.clock (pu_own_promised a h x)
theorem wr_epoch (hh : HouseAt K H a h) (f : Fr H0 H a0 a) (x : Nat) : HouseAt K (upd H a.p (.ins (hC K) a.dx (putF "own_epoch" (.int ((x : Nat) : Int)) (hof a h)))) a { h with epoch := x } ∧ Fr H0 (upd H a.p (.ins (hC K) a.dx (putF "own_epoch" (.int ((x : Nat) : Int)) (hof a h)))) a0 a :=
  wr_sc hh f h.promised x h.role h.head h.sought h.clock (pu_own_epoch a h x)
theorem wr_role (hh : HouseAt K H a h) (f : Fr H0 H a0 a) (x : M.Role) : HouseAt K (upd H a.p (.ins (hC K) a.dx (putF "own_role" (roleV x) (hof a h)))) a { h with role := x } ∧ Fr H0 (upd H a.p (.ins (hC K) a.dx (putF "own_role" (roleV x) (hof a h)))) a0 a :=
  wr_sc hh f h.promised h.epoch x h.head h.sought h.clock (pu_own_role a h x)
theorem wr_head (hh : HouseAt K H a h) (f : Fr H0 H a0 a) (x : Option Nat) : HouseAt K (upd H a.p (.ins (hC K) a.dx (putF "own_head" (nameV x) (hof a h)))) a { h with head := x } ∧ Fr H0 (upd H a.p (.ins (hC K) a.dx (putF "own_head" (nameV x) (hof a h)))) a0 a :=
  wr_sc hh f h.promised h.epoch h.role x h.sought h.clock (pu_own_head a h x)
theorem wr_sought (hh : HouseAt K H a h) (f : Fr H0 H a0 a) (x : Option Nat) : HouseAt K (upd H a.p (.ins (hC K) a.dx (putF "sought" (numV x) (hof a h)))) a { h with sought := x } ∧ Fr H0 (upd H a.p (.ins (hC K) a.dx (putF "sought" (numV x) (hof a h)))) a0 a :=
  wr_sc hh f h.promised h.epoch h.role h.head x h.clock (pu_sought a h x)
theorem wr_clock (hh : HouseAt K H a h) (f : Fr H0 H a0 a) (x : Int) : HouseAt K (upd H a.p (.ins (hC K) a.dx (putF "own_clock" (.int x) (hof a h)))) { a with ck := x } h ∧ Fr H0 (upd H a.p (.ins (hC K) a.dx (putF "own_clock" (.int x) (hof a h)))) a0 { a with ck := x } :=
  wr_of hh f (pu_own_clock a h x) ⟨hh.mm, hh.row, hh.dn, hh.st, hh.fr, hh.pr, hh.ta, hh.d1, hh.d2, hh.d3, hh.rl, hh.fl, hh.pl, hh.tl, hh.nd, hh.nm, hh.ml, hh.mb⟩ rfl rfl rfl fun _ m => .inl m
theorem wr_done (hh : HouseAt K H a h) (f : Fr H0 H a0 a) {v : V} {q : M.Pl} (hv : Dp K H v (plD q)) : HouseAt K (upd H a.p (.ins (hC K) a.dx (putF "own_done" v (hof a h)))) { a with dn := v } { h with done := q } ∧ Fr H0 (upd H a.p (.ins (hC K) a.dx (putF "own_done" v (hof a h)))) a0 { a with dn := v } :=
  wr_of hh f (pu_own_done a h v) ⟨hh.mm, hh.row, hv, hh.st, hh.fr, hh.pr, hh.ta, hh.d1, hh.d2, hh.d3, hh.rl, hh.fl, hh.pl, hh.tl, hh.nd, hh.nm, hh.ml, hh.mb⟩ rfl rfl rfl fun _ m => .inl m
theorem wr_row (hh : HouseAt K H a h) (f : Fr H0 H a0 a) {D : Addr} {ws : List V} {r : M.Row} (hD : H D = some (.lst ws)) (hw : Ds K thD H ws r) (hl : r.length ≤ 1000) (h0 : H0 D = none) (nf : D ≠ a.fr) :
    HouseAt K (upd H a.p (.ins (hC K) a.dx (putF "own_row" (.ref D) (hof a h)))) { a with row := D } { h with row := r } ∧ Fr H0 (upd H a.p (.ins (hC K) a.dx (putF "own_row" (.ref D) (hof a h)))) a0 { a with row := D } :=
  wr_of hh f (pu_own_row a h D) ⟨hh.mm, ⟨ws, hD, hw⟩, hh.dn, hh.st, hh.fr, hh.pr, hh.ta, nf, hh.d2, hh.d3, hl, hh.fl, hh.pl, hh.tl, hh.nd, hh.nm, hh.ml, hh.mb⟩ rfl rfl rfl fun x m => by
    simp only [own, List.mem_cons, List.not_mem_nil, or_false] at m ⊢
    rcases m with rfl | rfl | rfl | rfl | rfl | rfl | rfl
    · exact .inl (.inl rfl)
    · exact .inr h0
    all_goals simp
theorem wr_state (hh : HouseAt K H a h) (f : Fr H0 H a0 a) {t n s : Addr} (st : StAt K H t n s) (hn : H0 n = none) (hs : H0 s = none) (d3 : a.pr ≠ n ∧ a.pr ≠ s ∧ a.ta ≠ n ∧ a.ta ≠ s) :
    HouseAt K (upd H a.p (.ins (hC K) a.dx (putF "own_state" (.ref t) (hof a h)))) { a with t := t, n := n, s := s } h ∧ Fr H0 (upd H a.p (.ins (hC K) a.dx (putF "own_state" (.ref t) (hof a h)))) a0 { a with t := t, n := n, s := s } :=
  wr_of (a' := { a with t := t, n := n, s := s }) hh f (pu_own_state a h t) ⟨hh.mm, hh.row, hh.dn, st, hh.fr, hh.pr, hh.ta, hh.d1, hh.d2, d3, hh.rl, hh.fl, hh.pl, hh.tl, hh.nd, hh.nm, hh.ml, hh.mb⟩ rfl rfl rfl fun x m => by
    simp only [own, List.mem_cons, List.not_mem_nil, or_false] at m ⊢
    rcases m with rfl | rfl | rfl | rfl | rfl | rfl | rfl
    case inr.inr.inr.inr.inr.inl => exact .inr hn
    case inr.inr.inr.inr.inr.inr => exact .inr hs
    all_goals simp
theorem wr_prom (hh : HouseAt K H a h) (f : Fr H0 H a0 a) {D : Addr} {kvs : List (Key × V)} {d : M.Dic} (hD : H D = some (.dK kvs)) (hw : DicAt K H kvs d) (hl : d.length ≤ 1000) (h0 : H0 D = none) (n1 : D ≠ a.ta) (n2 : D ≠ a.n) (n3 : D ≠ a.s) :
    HouseAt K (upd H a.p (.ins (hC K) a.dx (putF "promises" (.ref D) (hof a h)))) { a with pr := D } { h with promises := d } ∧ Fr H0 (upd H a.p (.ins (hC K) a.dx (putF "promises" (.ref D) (hof a h)))) a0 { a with pr := D } :=
  wr_of hh f (pu_promises a h D) ⟨hh.mm, hh.row, hh.dn, hh.st, hh.fr, ⟨kvs, hD, hw⟩, hh.ta, hh.d1, n1, ⟨n2, n3, hh.d3.2.2⟩, hh.rl, hh.fl, hl, hh.tl, hh.nd, hh.nm, hh.ml, hh.mb⟩ rfl rfl rfl fun x m => by
    simp only [own, List.mem_cons, List.not_mem_nil, or_false] at m ⊢
    rcases m with rfl | rfl | rfl | rfl | rfl | rfl | rfl
    case inr.inr.inr.inl => exact .inr h0
    all_goals simp
theorem wr_take (hh : HouseAt K H a h) (f : Fr H0 H a0 a) {D : Addr} {kvs : List (Key × V)} {d : M.Dic} (hD : H D = some (.dK kvs)) (hw : DicAt K H kvs d) (hl : d.length ≤ 1000) (h0 : H0 D = none) (n1 : D ≠ a.pr) (n2 : D ≠ a.n) (n3 : D ≠ a.s) :
    HouseAt K (upd H a.p (.ins (hC K) a.dx (putF "taken" (.ref D) (hof a h)))) { a with ta := D } { h with taken := d } ∧ Fr H0 (upd H a.p (.ins (hC K) a.dx (putF "taken" (.ref D) (hof a h)))) a0 { a with ta := D } :=
  wr_of hh f (pu_taken a h D) ⟨hh.mm, hh.row, hh.dn, hh.st, hh.fr, hh.pr, ⟨kvs, hD, hw⟩, hh.d1, fun z => n1 z.symm, ⟨hh.d3.1, hh.d3.2.1, n2, n3⟩, hh.rl, hh.fl, hh.pl, hl, hh.nd, hh.nm, hh.ml, hh.mb⟩ rfl rfl rfl fun x m => by
    simp only [own, List.mem_cons, List.not_mem_nil, or_false] at m ⊢
    rcases m with rfl | rfl | rfl | rfl | rfl | rfl | rfl
    case inr.inr.inr.inr.inl => exact .inr h0
    all_goals simp
/-! ### a thing of its own is written -/
theorem own_put {b : Addr} {u o : HO} {h' : M.Hs} (hh : HouseAt K H a h) (f : Fr H0 H a0 a) (hb : b ∈ own a) (e : H b = some u) (n1 : ∀ xs, u ≠ .tup xs) (n2 : ∀ ob xs, u ≠ .frz ob (.tup xs)) (d : Deps K (upd H b o) a h') (ho : H a.p = some (.ins (hC K) a.dx (hof a h'))) (nb : a.p ≠ b) :
    HouseAt K (upd H b o) a h' ∧ Fr H0 (upd H b o) a0 a := by
  refine ⟨?_, f.put hb e n1 n2 rfl rfl fun _ m => .inl m⟩
  exact ⟨by rw [upd_ne nb]; exact ho, d.mm, d.row, d.dn, d.st, d.fr, d.pr, d.ta, d.d1, d.d2, d.d3, d.rl, d.fl, d.pl, d.tl, d.nd, d.nm, d.ml, d.mb⟩
/-- the row's list gets one more -/
theorem ap_row {ws : List V} {v : V} {t : M.Thing} (hh : HouseAt K H a h) (f : Fr H0 H a0 a) (e : H a.row = some (.lst ws)) (hv : Dp K H v (thD t)) (hl : h.row.length < 1000) :
    HouseAt K (upd H a.row (.lst (ws ++ [v]))) a { h with row := h.row ++ [t] } ∧ Fr H0 (upd H a.row (.lst (ws ++ [v]))) a0 a := by
  have k : Kp H (upd H a.row (.lst (ws ++ [v]))) := Kp.lst e
  have kd : ∀ {b : Addr} {kvs : List (Key × V)}, H b = some (.dK kvs) → (upd H a.row (.lst (ws ++ [v]))) b = some (.dK kvs) := fun {b kvs} hb => by
    rw [upd_ne (fun z => by subst z; rw [e] at hb; cases hb)]; exact hb
  refine own_put hh f (by simp [own]) e nt_lst.1 nt_lst.2 ?_ hh.ob (fun z => by have := hh.ob; rw [z, e] at this; cases this)
  refine ⟨k.sqt hh.mm, ⟨_, upd_same, ?_⟩, Dp.kp k _ _ (noL_pl _) hh.dn, ?_, ?_, ?_, ?_, hh.d1, hh.d2, hh.d3, ?_, hh.fl, hh.pl, hh.tl, hh.nd, hh.nm, hh.ml, hh.mb⟩
  · obtain ⟨ws2, e2, d⟩ := hh.row
    rw [e] at e2
    cases e2
    exact pd_app (d.kp k noL_th) (.cons (Dp.kp k _ _ (noL_th _) hv) .nil)
  · refine ⟨k.1 _ _ hh.st.t, ?_, ?_⟩
    · obtain ⟨kn, e⟩ := hh.st.n; exact ⟨kn, kd e⟩
    · obtain ⟨ks, e, o⟩ := hh.st.s; exact ⟨ks, kd e, o.kp k⟩
  · obtain ⟨ws2, e2, d⟩ := hh.fr; exact ⟨ws2, by rw [upd_ne (fun z => hh.d1 z.symm)]; exact e2, d⟩
  · obtain ⟨x, e2, d⟩ := hh.pr; exact ⟨x, kd e2, d.kp k⟩
  · obtain ⟨x, e2, d⟩ := hh.ta; exact ⟨x, kd e2, d.kp k⟩
  · show (h.row ++ [t]).length ≤ 1000
    rw [List.length_append]; exact hl
theorem ap_fresh {ws : List V} {v : V} (hh : HouseAt K H a h) (f : Fr H0 H a0 a) (e : H a.fr = some (.lst ws)) (hl : h.fresh < 1000) :
    HouseAt K (upd H a.fr (.lst (ws ++ [v]))) a { h with fresh := h.fresh + 1 } ∧ Fr H0 (upd H a.fr (.lst (ws ++ [v]))) a0 a := by
  have k : Kp H (upd H a.fr (.lst (ws ++ [v]))) := Kp.lst e
  have kd : ∀ {b : Addr} {kvs : List (Key × V)}, H b = some (.dK kvs) → (upd H a.fr (.lst (ws ++ [v]))) b = some (.dK kvs) := fun {b kvs} hb => by
    rw [upd_ne (fun z => by subst z; rw [e] at hb; cases hb)]; exact hb
  refine own_put hh f (by simp [own]) e nt_lst.1 nt_lst.2 ?_ hh.ob (fun z => by have := hh.ob; rw [z, e] at this; cases this)
  refine ⟨k.sqt hh.mm, ?_, Dp.kp k _ _ (noL_pl _) hh.dn, ?_, ⟨_, upd_same, ?_⟩, ?_, ?_, hh.d1, hh.d2, hh.d3, hh.rl, hl, hh.pl, hh.tl, hh.nd, hh.nm, hh.ml, hh.mb⟩
  · obtain ⟨ws2, e2, d⟩ := hh.row; exact ⟨ws2, by rw [upd_ne hh.d1]; exact e2, d.kp k noL_th⟩
  · refine ⟨k.1 _ _ hh.st.t, ?_, ?_⟩
    · obtain ⟨kn, e⟩ := hh.st.n; exact ⟨kn, kd e⟩
    · obtain ⟨ks, e, o⟩ := hh.st.s; exact ⟨ks, kd e, o.kp k⟩
  · obtain ⟨ws2, e2, d⟩ := hh.fr
    rw [e] at e2
    cases e2
    rw [List.length_append, d]; rfl
  · obtain ⟨x, e2, d⟩ := hh.pr; exact ⟨x, kd e2, d.kp k⟩
  · obtain ⟨x, e2, d⟩ := hh.ta; exact ⟨x, kd e2, d.kp k⟩
theorem up_prom {kvs kvs' : List (Key × V)} {d : M.Dic} (hh : HouseAt K H a h) (f : Fr H0 H a0 a) (e : H a.pr = some (.dK kvs)) (hd : DicAt K H kvs' d) (hl : d.length ≤ 1000) :
    HouseAt K (upd H a.pr (.dK kvs')) a { h with promises := d } ∧ Fr H0 (upd H a.pr (.dK kvs')) a0 a := by
  have k : Kp H (upd H a.pr (.dK kvs')) := Kp.at e nt_dK.1 nt_dK.2
  have kl : ∀ {b : Addr} {ws : List V}, H b = some (.lst ws) → (upd H a.pr (.dK kvs')) b = some (.lst ws) := fun {b ws} hb => by
    rw [upd_ne (fun z => by subst z; rw [e] at hb; cases hb)]; exact hb
  refine own_put hh f (by simp [own]) e nt_dK.1 nt_dK.2 ?_ hh.ob (fun z => by have := hh.ob; rw [z, e] at this; cases this)
  refine ⟨k.sqt hh.mm, ?_, Dp.kp k _ _ (noL_pl _) hh.dn, ?_, ?_, ⟨_, upd_same, hd.kp k⟩, ?_, hh.d1, hh.d2, hh.d3, hh.rl, hh.fl, hl, hh.tl, hh.nd, hh.nm, hh.ml, hh.mb⟩
  · obtain ⟨ws2, e2, d⟩ := hh.row; exact ⟨ws2, kl e2, d.kp k noL_th⟩
  · refine ⟨k.1 _ _ hh.st.t, ?_, ?_⟩
    · obtain ⟨kn, e⟩ := hh.st.n; exact ⟨kn, by rw [upd_ne hh.d3.1.symm]; exact e⟩
    · obtain ⟨ks, e, o⟩ := hh.st.s; exact ⟨ks, by rw [upd_ne hh.d3.2.1.symm]; exact e, o.kp k⟩
  · obtain ⟨ws2, e2, d⟩ := hh.fr; exact ⟨ws2, kl e2, d⟩
  · obtain ⟨x, e2, d⟩ := hh.ta; exact ⟨x, by rw [upd_ne hh.d2.symm]; exact e2, d.kp k⟩
theorem up_take {kvs kvs' : List (Key × V)} {d : M.Dic} (hh : HouseAt K H a h) (f : Fr H0 H a0 a) (e : H a.ta = some (.dK kvs)) (hd : DicAt K H kvs' d) (hl : d.length ≤ 1000) :
    HouseAt K (upd H a.ta (.dK kvs')) a { h with taken := d } ∧ Fr H0 (upd H a.ta (.dK kvs')) a0 a := by
  have k : Kp H (upd H a.ta (.dK kvs')) := Kp.at e nt_dK.1 nt_dK.2
  have kl : ∀ {b : Addr} {ws : List V}, H b = some (.lst ws) → (upd H a.ta (.dK kvs')) b = some (.lst ws) := fun {b ws} hb => by
    rw [upd_ne (fun z => by subst z; rw [e] at hb; cases hb)]; exact hb
  refine own_put hh f (by simp [own]) e nt_dK.1 nt_dK.2 ?_ hh.ob (fun z => by have := hh.ob; rw [z, e] at this; cases this)
  refine ⟨k.sqt hh.mm, ?_, Dp.kp k _ _ (noL_pl _) hh.dn, ?_, ?_, ?_, ⟨_, upd_same, hd.kp k⟩, hh.d1, hh.d2, hh.d3, hh.rl, hh.fl, hh.pl, hl, hh.nd, hh.nm, hh.ml, hh.mb⟩
  · obtain ⟨ws2, e2, d⟩ := hh.row; exact ⟨ws2, kl e2, d.kp k noL_th⟩
  · refine ⟨k.1 _ _ hh.st.t, ?_, ?_⟩
    · obtain ⟨kn, e⟩ := hh.st.n; exact ⟨kn, by rw [upd_ne hh.d3.2.2.1.symm]; exact e⟩
    · obtain ⟨ks, e, o⟩ := hh.st.s; exact ⟨ks, by rw [upd_ne hh.d3.2.2.2.symm]; exact e, o.kp k⟩
  · obtain ⟨ws2, e2, d⟩ := hh.fr; exact ⟨ws2, kl e2, d⟩
  · obtain ⟨x, e2, d⟩ := hh.pr; exact ⟨x, by rw [upd_ne hh.d2]; exact e2, d.kp k⟩
end
/-! ### dicts of places -/
theorem nbf {a b : Nat} (h : ¬ a = b) : Nat.beq a b = false := Bool.eq_false_iff.mpr fun z => h (Nat.eq_of_beq_eq_true z)
theorem nbt {a b : Nat} (h : a = b) : Nat.beq a b = true := by rw [h]; exact Nat.beq_refl b
section
variable {K : PySem.W.Frag} {H : Hp}
theorem dic_get : ∀ {kvs : List (Key × V)} {d : M.Dic}, DicAt K H kvs d → ∀ x, (valV kvs (nK x) = none ∧ M.dget d x = none) ∨ ∃ v q, valV kvs (nK x) = some v ∧ M.dget d x = some q ∧ Dp K H v (plD q)
  | _, _, .nil, x => .inl ⟨rfl, rfl⟩
  | kv :: kvs, q :: d, .cons h t, x => by
    by_cases c : q.1 = x
    · refine .inr ⟨kv.2, q.2, valV_pos (by rw [h.1, c]), ?_, h.2⟩
      show M.dget ((q.1, q.2) :: d) x = _
      rw [M.dget, c, show Nat.beq x x = true from Nat.beq_refl x]; rfl
    · have e1 : valV (kv :: kvs) (nK x) = valV kvs (nK x) := valV_neg (by rw [h.1]; exact fun z => c (nK_inj z))
      have e2 : M.dget (q :: d) x = M.dget d x := by
        show M.dget ((q.1, q.2) :: d) x = _
        rw [M.dget, show Nat.beq q.1 x = false from Bool.eq_false_iff.mpr fun z => c (Nat.eq_of_beq_eq_true z)]; rfl
      rw [e1, e2]
      exact dic_get t x
theorem dic_has {kvs : List (Key × V)} {d : M.Dic} (h : DicAt K H kvs d) (x : Nat) : (valV kvs (nK x)).isSome = M.dhas d x := by
  unfold M.dhas
  rcases dic_get h x with ⟨e1, e2⟩ | ⟨v, q, e1, e2, _⟩ <;> rw [e1, e2] <;> rfl
theorem dic_len {kvs : List (Key × V)} {d : M.Dic} (h : DicAt K H kvs d) : kvs.length = d.length := pd_len h
theorem dic_map {kvs : List (Key × V)} {d : M.Dic} {v : V} {q : M.Pl} (h : DicAt K H kvs d) (x : Nat) (hv : Dp K H v (plD q)) : DicAt K H (kvs.map fun kv => if kv.1 = nK x then (kv.1, v) else kv) (d.map fun e => bif Nat.beq e.1 x then (e.1, q) else e) := by
  induction h with
  | nil => exact .nil
  | cons h t ih =>
    rename_i kv e _ _
    refine .cons ?_ ih
    show (if kv.1 = nK x then (kv.1, v) else kv).1 = nK (bif Nat.beq e.1 x then (e.1, q) else e).1 ∧ Dp K H (if kv.1 = nK x then (kv.1, v) else kv).2 (plD (bif Nat.beq e.1 x then (e.1, q) else e).2)
    by_cases c : e.1 = x
    · rw [if_pos (by rw [h.1, c]), show Nat.beq e.1 x = true from by rw [c]; exact Nat.beq_refl x]
      exact ⟨h.1, hv⟩
    · rw [if_neg (by rw [h.1]; exact fun z => c (nK_inj z)), show Nat.beq e.1 x = false from Bool.eq_false_iff.mpr fun z => c (Nat.eq_of_beq_eq_true z)]
      exact h
theorem dic_put {kvs : List (Key × V)} {d : M.Dic} {v : V} {q : M.Pl} (h : DicAt K H kvs d) (x : Nat) (hv : Dp K H v (plD q)) : DicAt K H (putK kvs (nK x) v) (M.dput d x q) := by
  unfold putK M.dput
  rw [valV_any, dic_has h x]
  cases M.dhas d x with
  | true => exact dic_map h x hv
  | false => exact pd_app h (.cons ⟨rfl, hv⟩ .nil)
theorem dic_drop {kvs : List (Key × V)} {d : M.Dic} (h : DicAt K H kvs d) (x : Nat) : DicAt K H (dropK kvs (nK x)) (M.ddrop d x) := by
  unfold dropK M.ddrop
  induction h with
  | nil => exact .nil
  | cons h t ih =>
    rename_i kv e _ _
    by_cases c : e.1 = x
    · rw [List.filter_cons_of_neg (by rw [h.1, c]; simp), List.filter_cons_of_neg (by rw [c]; simp)]
      exact ih
    · rw [List.filter_cons_of_pos (by rw [h.1]; simpa using fun z => c (nm_inj z)), List.filter_cons_of_pos (by rw [nbf c]; rfl)]
      exact .cons h ih
theorem dic_drop_none {kvs : List (Key × V)} {d : M.Dic} (h : DicAt K H kvs d) (x : Nat) (e : valV kvs (nK x) = none) : M.ddrop d x = d := by
  have e2 : M.dget d x = none := by
    rcases dic_get h x with ⟨_, e2⟩ | ⟨v, q, e1, _⟩
    · exact e2
    · rw [e] at e1; cases e1
  clear e h
  induction d with
  | nil => rfl
  | cons q r ih =>
    have e3 : M.dget ((q.1, q.2) :: r) x = none := e2
    rw [M.dget] at e3
    by_cases c : q.1 = x
    · rw [show Nat.beq q.1 x = true from by rw [c]; exact Nat.beq_refl x] at e3; cases e3
    · rw [show Nat.beq q.1 x = false from Bool.eq_false_iff.mpr fun z => c (Nat.eq_of_beq_eq_true z)] at e3
      unfold M.ddrop
      rw [List.filter_cons_of_pos (by rw [nbf c]; rfl)]
      exact congrArg _ (ih e3)
end
end Wd
/-! ## P8 -/
set_option Elab.async false
set_option linter.all false
set_option maxRecDepth 100000
set_option maxHeartbeats 400000
namespace Wd
open PySem PySem.Spec PyProof.Rows L2 PySem.W PySem.SeqAt
/-! ### the house's small methods -/
def KeepBut (H H' : Hp) (p : Addr) : Prop := ∀ b o, b ≠ p → H b = some o → H' b = some o
theorem KeepBut.upd {H : Hp} {p : Addr} {o : HO} : KeepBut H (L2.upd H p o) p := fun b _ n e => by rw [upd_ne n]; exact e
theorem KeepBut.of {H H' : Hp} {p : Addr} (s : Same H H') : KeepBut H H' p := fun b o _ e => s _ _ e
theorem KeepBut.trans {H H1 H2 : Hp} {p : Addr} (a : KeepBut H H1 p) (b : KeepBut H1 H2 p) : KeepBut H H2 p := fun x o n e => b x o n (a x o n e)
theorem KeepBut.free {H H' : Hp} {p b : Addr} {u : HO} (a : KeepBut H H' p) (e : H' p = some u) (hb : H' b = none) : H b = none ∧ b ≠ p := by
  have n : b ≠ p := fun z => by rw [z, e] at hb; cases hb
  refine ⟨?_, n⟩
  cases c : H b with
  | none => rfl
  | some o => rw [a b o n c] at hb; cases hb
theorem putF_len (f : Str) (v : V) : ∀ fs : List (Str × V), (putF f v fs).length ≤ fs.length + 1
  | [] => Nat.le_refl _
  | (g, x) :: r => by
    unfold putF
    by_cases c : g = f
    · rw [if_pos c]; exact Nat.le_succ _
    · rw [if_neg c]; exact Nat.succ_le_succ (putF_len f v r)
def standF (x y z : Addr) (fs : List (Str × V)) : List (Str × V) :=
  putF "heard_at" (.ref z) (putF "own_clock" (.int 0) (putF "taken" (.ref y) (putF "promises" (.ref x) (putF "sought" .non (putF "own_head" .non (putF "own_role" (.str "seeks") fs))))))
structure StandAt (K : PySem.W.Frag) (H H' : Hp) (p dx : Addr) (fs : List (Str × V)) (x y z : Addr) : Prop where
  ob : H' p = some (.ins (hC K) dx (standF x y z fs))
  k : KeepBut H H' p
  fx : H x = none
  fy : H y = none
  ne : x ≠ y
  ex : H' x = some (.dK [])
  ey : H' y = some (.dK [])
def spStand (K : PySem.W.Frag) : Sp := fun vs H Q _ => ∃ p dx fs, vs = [.ref p] ∧ H p = some (.ins (hC K) dx fs) ∧ fs.length ≤ 100 ∧ ∀ H' x y z, StandAt K H H' p dx fs x y z → Q .non H'
structure BeginAt (K : PySem.W.Frag) (H H' : Hp) (p dx : Addr) (fs : List (Str × V)) (t n s fr x y z : Addr) : Prop where
  ob : H' p = some (.ins (hC K) dx (standF x y z (putF "fresh" (.ref fr) (putF "own_state" (.ref t) (putF "own_done" (.ref (He.ga K "NOWHERE")) fs)))))
  k : KeepBut H H' p
  st : StAt K H' t n s
  fn : H n = none
  fs : H s = none
  ff : H fr = none
  ef : H' fr = some (.lst [])
  fx : H x = none
  fy : H y = none
  ne : x ≠ y
  ex : H' x = some (.dK [])
  ey : H' y = some (.dK [])
  d1 : x ≠ n
  d2 : x ≠ s
  d3 : y ≠ n
  d4 : y ≠ s
def spBegin (K : PySem.W.Frag) : Sp := fun vs H Q _ => ∃ p dx fs, vs = [.ref p] ∧ H p = some (.ins (hC K) dx fs) ∧ fs.length ≤ 80 ∧ List.lookup ("stand_down" : Str) fs = none ∧ ∀ H' t n s fr x y z, BeginAt K H H' p dx fs t n s fr x y z → Q .non H'
section
variable {P : Program} {w : World} {K : PySem.W.Frag} {mg : Str → Option Value} {base : Heap}
theorem ok_m_stand_down (T : Txt w K mg) : Df P w K mg base 1 (hM K "stand_down") ["self"] (spStand K) := by
  refine df_mk T.f_m_stand_down sc_m_stand_down (fun vs H Q E h => ?_) (fun _ _ _ _ _ _ us hl => match us, hl with | [_], _ => rfl) (fun cdv A outer s H vs Q E hr h => ?_)
  · obtain ⟨p, dx, fs, rfl, _⟩ := h
    rfl
  · obtain ⟨p, dx, fs, rfl, hp, hl, k⟩ := h
    refine ⟨_, (pss_cons (kSet rfl T.cl T.n_own_role (pv 0) pe_str rfl) (pss_cons (kSet rfl T.cl T.n_own_head (pv 0) pe_non rfl) (pss_cons (kSet rfl T.cl T.n_sought (pv 0) pe_non rfl) (pss_cons (kSet rfl T.cl T.n_promises (pv 0) pe_dnewK rfl) (pss_cons (kSet rfl T.cl T.n_taken (pv 0) pe_dnewK rfl) (pss_cons (kSet rfl T.cl T.n_own_clock (pv 0) pe_int rfl) (pss_one (kSet rfl T.cl T.n_heard_at (pv 0) pe_dnewK rfl)))))))), ?_⟩
    rw [st_m_stand_down]
    have l1 := putF_len "own_role" (.str "seeks") fs
    refine ⟨_, rfl, p, dx, fs, rfl, hp, by omega, ?_⟩
    (generalize hz : upd H p _ = H1; have h1 : H1 p = some _ := (by rw [← hz]; exact upd_same); have k1 : KeepBut H H1 p := (by rw [← hz]; exact KeepBut.upd); clear hz)
    generalize e1 : putF "own_role" (.str "seeks") fs = f1 at *
    have l2 := putF_len "own_head" .non f1
    refine ⟨_, rfl, p, dx, f1, rfl, h1, by omega, ?_⟩
    (generalize hz : upd H1 p _ = H2; have h2 : H2 p = some _ := (by rw [← hz]; exact upd_same); have k2 : KeepBut H1 H2 p := (by rw [← hz]; exact KeepBut.upd); clear hz)
    generalize e2 : putF "own_head" .non f1 = f2 at *
    have l3 := putF_len "sought" .non f2
    refine ⟨_, rfl, p, dx, f2, rfl, h2, by omega, ?_⟩
    (generalize hz : upd H2 p _ = H3; have h3 : H3 p = some _ := (by rw [← hz]; exact upd_same); have k3 : KeepBut H2 H3 p := (by rw [← hz]; exact KeepBut.upd); clear hz)
    generalize e3 : putF "sought" .non f2 = f3 at *
    have K3 := (k1.trans k2).trans k3
    clear k1 k2 k3 h1 h2
    refine fun x hx => ?_
    (generalize hz : upd H3 x _ = H4; have s4 : Same H3 H4 := (by rw [← hz]; exact same_new hx); have h4 : H4 x = some _ := (by rw [← hz]; exact upd_same); clear hz)
    obtain ⟨fx, nx⟩ := K3.free h3 hx
    have l4 := putF_len "promises" (.ref x) f3
    refine ⟨_, rfl, p, dx, f3, rfl, s4 _ _ h3, by omega, ?_⟩
    (generalize hz : upd H4 p _ = H5; have h5 : H5 p = some _ := (by rw [← hz]; exact upd_same); have k5 : KeepBut H4 H5 p := (by rw [← hz]; exact KeepBut.upd); clear hz)
    generalize e4 : putF "promises" (.ref x) f3 = f4 at *
    have K5 := (K3.trans (.of s4)).trans k5
    have x5 := k5 _ _ nx h4
    clear k5 s4 h4 h3 hx K3
    refine fun y hy => ?_
    (generalize hz : upd H5 y _ = H6; have s6 : Same H5 H6 := (by rw [← hz]; exact same_new hy); have h6 : H6 y = some _ := (by rw [← hz]; exact upd_same); clear hz)
    obtain ⟨fy, ny⟩ := K5.free h5 hy
    have nxy : x ≠ y := ne_of_none x5 hy
    have l5 := putF_len "taken" (.ref y) f4
    refine ⟨_, rfl, p, dx, f4, rfl, s6 _ _ h5, by omega, ?_⟩
    (generalize hz : upd H6 p _ = H7; have h7 : H7 p = some _ := (by rw [← hz]; exact upd_same); have k7 : KeepBut H6 H7 p := (by rw [← hz]; exact KeepBut.upd); clear hz)
    generalize e5 : putF "taken" (.ref y) f4 = f5 at *
    have K7 := (K5.trans (.of s6)).trans k7
    have x7 := k7 _ _ nx (s6 _ _ x5)
    have y7 := k7 _ _ ny h6
    clear k7 s6 h6 h5 hy K5 x5
    have l6 := putF_len "own_clock" (.int 0) f5
    refine ⟨_, rfl, p, dx, f5, rfl, h7, by omega, ?_⟩
    (generalize hz : upd H7 p _ = H8; have h8 : H8 p = some _ := (by rw [← hz]; exact upd_same); have k8 : KeepBut H7 H8 p := (by rw [← hz]; exact KeepBut.upd); clear hz)
    generalize e6 : putF "own_clock" (.int 0) f5 = f6 at *
    refine fun z hw => ?_
    (generalize hz : upd H8 z _ = H9; have s9 : Same H8 H9 := (by rw [← hz]; exact same_new hw); have h9 : H9 z = some _ := (by rw [← hz]; exact upd_same); clear hz)
    refine ⟨_, rfl, p, dx, f6, rfl, s9 _ _ h8, by omega, ?_⟩
    (generalize hz : upd H9 p _ = H10; have h10 : H10 p = some _ := (by rw [← hz]; exact upd_same); have k10 : KeepBut H9 H10 p := (by rw [← hz]; exact KeepBut.upd); clear hz)
    have K10 := ((K7.trans k8).trans (.of s9)).trans k10
    refine k H10 x y z ⟨?_, K10, fx, fy, nxy, k10 _ _ nx (s9 _ _ (k8 _ _ nx x7)), k10 _ _ ny (s9 _ _ (k8 _ _ ny y7))⟩
    rw [h10, ← e6, ← e5, ← e4, ← e3, ← e2, ← e1]
    rfl
theorem ok_m_begin_anew (T : Txt w K mg) : Df P w K mg base 3 (hM K "begin_anew") ["self"] (spBegin K) := by
  obtain ⟨fd_first_state, G_first_state, b_first_state, kp_first_state⟩ := ok_first_state (P := P) (w := w) (base := base) T
  obtain ⟨fd_m_stand_down, G_m_stand_down, b_m_stand_down, kp_m_stand_down⟩ := ok_m_stand_down (P := P) (w := w) (base := base) T
  refine df_mk T.f_m_begin_anew sc_m_begin_anew (fun vs H Q E h => ?_) (fun _ _ _ _ _ _ us hl => match us, hl with | [_], _ => rfl) (fun cdv A outer s H vs Q E hr h => ?_)
  · obtain ⟨p, dx, fs, rfl, _⟩ := h
    rfl
  · obtain ⟨p, dx, fs, rfl, hp, hl, hm, k⟩ := h
    refine ⟨_, (pss_cons (kSet rfl T.cl T.n_own_done (pv 0) (pe_glob (v := .ref (He.ga K "NOWHERE")) rfl T.g_NOWHERE rfl) rfl) (pss_cons (kSet rfl T.cl T.n_own_state (pv 0) (pe_call0 G_first_state (hr.mono (by decide)) rfl T.g_first_state kp_first_state b_first_state .nil pass0) rfl) (pss_cons (kSet rfl T.cl T.n_fresh (pv 0) (pe_lst pa_nil) rfl) (pss_one (ps_expr (pe_meth0 (pv 0) T.cl T.me_stand_down G_m_stand_down (hr.mono (by decide)) b_m_stand_down .nil pass0)))))), ?_⟩
    rw [st_m_begin_anew]
    have l1 := putF_len "own_done" (.ref (He.ga K "NOWHERE")) fs
    have m1 := lookup_putF "own_done" "stand_down" (.ref (He.ga K "NOWHERE")) fs
    refine ⟨_, rfl, p, dx, fs, rfl, hp, by omega, ?_⟩
    (generalize hz : upd H p _ = H1; have h1 : H1 p = some _ := (by rw [← hz]; exact upd_same); have k1 : KeepBut H H1 p := (by rw [← hz]; exact KeepBut.upd); clear hz)
    generalize e1 : putF "own_done" (.ref (He.ga K "NOWHERE")) fs = f1 at *
    refine ⟨rfl, fun H2 t n s s2 st ht hn hs nns => ?_⟩
    obtain ⟨fn, nn⟩ := k1.free h1 hn
    obtain ⟨fsn, ns⟩ := k1.free h1 hs
    have l2 := putF_len "own_state" (.ref t) f1
    have m2 := lookup_putF "own_state" "stand_down" (.ref t) f1
    refine ⟨_, rfl, p, dx, f1, rfl, s2 _ _ h1, by omega, ?_⟩
    (generalize hz : upd H2 p _ = H3; have h3 : H3 p = some _ := (by rw [← hz]; exact upd_same); have k3 : KeepBut H2 H3 p := (by rw [← hz]; exact KeepBut.upd); clear hz)
    generalize e2 : putF "own_state" (.ref t) f1 = f2 at *
    have K3 := (k1.trans (.of s2)).trans k3
    have st3 : StAt K H3 t n s := st.kp ⟨fun b xs e => k3 _ _ (fun z => by rw [z, s2 _ _ h1] at e; cases e) e, fun b o xs e => k3 _ _ (fun z => by rw [z, s2 _ _ h1] at e; cases e) e⟩ (fun _ e => k3 _ _ nn e) (fun _ e => k3 _ _ ns e)
    refine ⟨Nat.zero_le _, fun fr hfr => ?_⟩
    (generalize hz : upd H3 fr _ = H4; have s4 : Same H3 H4 := (by rw [← hz]; exact same_new hfr); have h4 : H4 fr = some _ := (by rw [← hz]; exact upd_same); clear hz)
    obtain ⟨ff, nf⟩ := K3.free h3 hfr
    have l3 := putF_len "fresh" (.ref fr) f2
    have m3 := lookup_putF "fresh" "stand_down" (.ref fr) f2
    refine ⟨_, rfl, p, dx, f2, rfl, s4 _ _ h3, by omega, ?_⟩
    (generalize hz : upd H4 p _ = H5; have h5 : H5 p = some _ := (by rw [← hz]; exact upd_same); have k5 : KeepBut H4 H5 p := (by rw [← hz]; exact KeepBut.upd); clear hz)
    generalize e3 : putF "fresh" (.ref fr) f2 = f3 at *
    have K5 := (K3.trans (.of s4)).trans k5
    have x5 := k5 _ _ nf h4
    have st4 := st3.kp (Kp.of s4) (fun o e => s4 _ _ e) (fun o e => s4 _ _ e)
    have st5 : StAt K H5 t n s := st4.kp ⟨fun b xs e => k5 _ _ (fun z => by rw [z, s4 _ _ h3] at e; cases e) e, fun b o xs e => k5 _ _ (fun z => by rw [z, s4 _ _ h3] at e; cases e) e⟩ (fun _ e => k5 _ _ nn e) (fun _ e => k5 _ _ ns e)
    have hm3 : f3.lookup ("stand_down" : Str) = none := by
      rw [m3, if_neg (by decide +kernel), m2, if_neg (by decide +kernel), m1, if_neg (by decide +kernel)]
      exact hm
    refine ⟨_, rfl, p, dx, f3, rfl, h5, hm3, p, dx, f3, rfl, h5, by omega, fun H6 x y z sa => ?_⟩
    obtain ⟨kn, en⟩ := st5.n
    obtain ⟨ks, es, so⟩ := st5.s
    have k6 : Kp H5 H6 := ⟨fun b xs e => sa.k _ _ (fun z => by rw [z, h5] at e; cases e) e, fun b o xs e => sa.k _ _ (fun z => by rw [z, h5] at e; cases e) e⟩
    refine k H6 t n s fr x y z ⟨?_, K5.trans sa.k, st5.kp k6 (fun _ e => sa.k _ _ nn e) (fun _ e => sa.k _ _ ns e), fn, fsn, ff, sa.k _ _ nf x5, (K5.free h5 sa.fx).1, (K5.free h5 sa.fy).1, sa.ne, sa.ex, sa.ey,
      (ne_of_none en sa.fx).symm, (ne_of_none es sa.fx).symm, (ne_of_none en sa.fy).symm, (ne_of_none es sa.fy).symm⟩
    rw [sa.ob, ← e3, ← e2, ← e1]
end
end Wd
namespace Wd
open PySem PySem.Spec PyProof.Rows L2 PySem.W PySem.SeqAt
section
variable (a : HA) (h : M.Hs)
theorem no_begin_anew : List.lookup ("begin_anew" : Str) (hof a h) = none := by kernel_rfl
theorem no_stand_down : List.lookup ("stand_down" : Str) (hof a h) = none := by kernel_rfl
theorem no_others : List.lookup ("others" : Str) (hof a h) = none := by kernel_rfl
theorem no_last : List.lookup ("last" : Str) (hof a h) = none := by kernel_rfl
theorem no_has : List.lookup ("has" : Str) (hof a h) = none := by kernel_rfl
theorem no_say : List.lookup ("say" : Str) (hof a h) = none := by kernel_rfl
theorem no_go_on_to : List.lookup ("go_on_to" : Str) (hof a h) = none := by kernel_rfl
theorem no_seek : List.lookup ("seek" : Str) (hof a h) = none := by kernel_rfl
theorem no_lead : List.lookup ("lead" : Str) (hof a h) = none := by kernel_rfl
theorem no_leads : List.lookup ("leads" : Str) (hof a h) = none := by kernel_rfl
theorem no_stands_by : List.lookup ("stands_by" : Str) (hof a h) = none := by kernel_rfl
theorem no_is_settled : List.lookup ("is_settled" : Str) (hof a h) = none := by kernel_rfl
theorem no_follow : List.lookup ("follow" : Str) (hof a h) = none := by kernel_rfl
theorem no_sync_by : List.lookup ("sync_by" : Str) (hof a h) = none := by kernel_rfl
theorem no_sync_for : List.lookup ("sync_for" : Str) (hof a h) = none := by kernel_rfl
theorem no_look_done : List.lookup ("look_done" : Str) (hof a h) = none := by kernel_rfl
theorem no_put : List.lookup ("put" : Str) (hof a h) = none := by kernel_rfl
theorem no_beat : List.lookup ("beat" : Str) (hof a h) = none := by kernel_rfl
theorem no_beat_for : List.lookup ("beat_for" : Str) (hof a h) = none := by kernel_rfl
theorem no_ends : List.lookup ("ends" : Str) (hof a h) = none := by kernel_rfl
theorem no_take : List.lookup ("take" : Str) (hof a h) = none := by kernel_rfl
theorem no_on_told : List.lookup ("on_told" : Str) (hof a h) = none := by kernel_rfl
theorem no_on_seek : List.lookup ("on_seek" : Str) (hof a h) = none := by kernel_rfl
theorem no_on_promise : List.lookup ("on_promise" : Str) (hof a h) = none := by kernel_rfl
theorem no_on_lead : List.lookup ("on_lead" : Str) (hof a h) = none := by kernel_rfl
theorem no_on_sync : List.lookup ("on_sync" : Str) (hof a h) = none := by kernel_rfl
theorem no_on_propose : List.lookup ("on_propose" : Str) (hof a h) = none := by kernel_rfl
theorem no_on_done : List.lookup ("on_done" : Str) (hof a h) = none := by kernel_rfl
theorem no_head : List.lookup ("head" : Str) (hof a h) = none := by kernel_rfl
theorem no_epoch : List.lookup ("epoch" : Str) (hof a h) = none := by kernel_rfl
theorem no_row : List.lookup ("row" : Str) (hof a h) = none := by kernel_rfl
theorem no_done_row : List.lookup ("done_row" : Str) (hof a h) = none := by kernel_rfl
end
theorem standF_hof (a : HA) (h : M.Hs) (x y z : Addr) : standF x y z (hof a h) = hof { a with pr := x, ta := y, he := .ref z, ck := 0 } (M.standDown h) := by kernel_rfl
theorem beginF_hof (a : HA) (h : M.Hs) (t n s fr x y z d : Addr) : standF x y z (putF "fresh" (.ref fr) (putF "own_state" (.ref t) (putF "own_done" (.ref d) (hof a h)))) = hof { a with pr := x, ta := y, he := .ref z, ck := 0, fr := fr, t := t, n := n, s := s, dn := .ref d } (M.beginAnew h) := by kernel_rfl
theorem KeepBut.kp {H H' : Hp} {p C dx : Addr} {fs : List (Str × V)} (k : KeepBut H H' p) (e : H p = some (.ins C dx fs)) : Kp H H' :=
  ⟨fun b xs q => k _ _ (fun z => by rw [z, e] at q; cases q) q, fun b o xs q => k _ _ (fun z => by rw [z, e] at q; cases q) q⟩
section
variable {K : PySem.W.Frag} {H H' : Hp} {a : HA} {h : M.Hs}
theorem own_new {a a' : HA} {H : Hp} (ho : ∀ x, x ∈ own a' → x ∈ own a ∨ H x = none) : ∀ b ∈ own a', b ∈ own a ∨ H b = none := ho
theorem StandAt.house {x y z : Addr} (hh : HouseAt K H a h) (s : StandAt K H H' a.p a.dx (hof a h) x y z) : HouseAt K H' { a with pr := x, ta := y, he := .ref z, ck := 0 } (M.standDown h) ∧ Fr H H' a { a with pr := x, ta := y, he := .ref z, ck := 0 } := by
  have k := s.k.kp hh.ob
  have kd : ∀ {b : Addr} {o : HO}, H b = some o → (∀ C dx fs, o ≠ .ins C dx fs) → H' b = some o := fun {b o} hb n => s.k _ _ (fun z => by rw [z, hh.ob] at hb; exact n _ _ _ (Option.some.inj hb).symm) hb
  obtain ⟨kn, en⟩ := hh.st.n
  obtain ⟨ks, es, so⟩ := hh.st.s
  refine ⟨⟨by rw [← standF_hof]; exact s.ob, k.sqt hh.mm, ?_, Dp.kp k _ _ (noL_pl _) hh.dn, ⟨k.1 _ _ hh.st.t, ⟨kn, kd en (fun _ _ _ z => nomatch z)⟩, ks, kd es (fun _ _ _ z => nomatch z), so.kp k⟩, ?_, ⟨[], s.ex, .nil⟩, ⟨[], s.ey, .nil⟩, hh.d1, s.ne,
    ⟨(ne_of_none en s.fx).symm, (ne_of_none es s.fx).symm, (ne_of_none en s.fy).symm, (ne_of_none es s.fy).symm⟩, hh.rl, hh.fl, Nat.zero_le _, Nat.zero_le _, hh.nd, hh.nm, hh.ml, hh.mb⟩, ⟨rfl, rfl, fun b o e n => s.k _ _ (fun z => n (by rw [z]; simp [own])) e, fun b m => ?_, k, fun b z => (s.k.free s.ob z).1⟩⟩
  · obtain ⟨ws, e, d⟩ := hh.row; exact ⟨ws, kd e (fun _ _ _ z => nomatch z), d.kp k noL_th⟩
  · obtain ⟨ws, e, d⟩ := hh.fr; exact ⟨ws, kd e (fun _ _ _ z => nomatch z), d⟩
  · simp only [own, List.mem_cons, List.not_mem_nil, or_false] at m ⊢
    rcases m with rfl | rfl | rfl | rfl | rfl | rfl | rfl
    case inr.inr.inr.inl => exact .inr s.fx
    case inr.inr.inr.inr.inl => exact .inr s.fy
    all_goals simp
theorem BeginAt.house {t n s fr x y z : Addr} (hN : ∀ H, SqT K H (He.ga K "NOWHERE") [.int 0, .int 0]) (hh : HouseAt K H a h) (b : BeginAt K H H' a.p a.dx (hof a h) t n s fr x y z) :
    HouseAt K H' { a with pr := x, ta := y, he := .ref z, ck := 0, fr := fr, t := t, n := n, s := s, dn := .ref (He.ga K "NOWHERE") } (M.beginAnew h) ∧ Fr H H' a { a with pr := x, ta := y, he := .ref z, ck := 0, fr := fr, t := t, n := n, s := s, dn := .ref (He.ga K "NOWHERE") } := by
  have k := b.k.kp hh.ob
  obtain ⟨wr, er, dr⟩ := hh.row
  refine ⟨⟨by rw [← beginF_hof]; exact b.ob, k.sqt hh.mm, ⟨wr, b.k _ _ (fun z => by rw [z, hh.ob] at er; cases er) er, dr.kp k noL_th⟩, pl_mk (p := (0, 0)) (hN _), b.st, ⟨[], b.ef, rfl⟩, ⟨[], b.ex, .nil⟩, ⟨[], b.ey, .nil⟩, ne_of_none er b.ff, b.ne, ⟨b.d1, b.d2, b.d3, b.d4⟩, hh.rl, Nat.zero_le _, Nat.zero_le _, Nat.zero_le _, hh.nd, hh.nm, hh.ml, hh.mb⟩,
    ⟨rfl, rfl, fun c o e n => b.k _ _ (fun z => n (by rw [z]; simp [own])) e, fun c m => ?_, k, fun c z => (b.k.free b.ob z).1⟩⟩
  simp only [own, List.mem_cons, List.not_mem_nil, or_false] at m ⊢
  rcases m with rfl | rfl | rfl | rfl | rfl | rfl | rfl
  case inr.inr.inl => exact .inr b.ff
  case inr.inr.inr.inl => exact .inr b.fx
  case inr.inr.inr.inr.inl => exact .inr b.fy
  case inr.inr.inr.inr.inr.inl => exact .inr b.fn
  case inr.inr.inr.inr.inr.inr => exact .inr b.fs
  all_goals simp
end
/-! ### what the methods promise of a house -/
def spStandH (K : PySem.W.Frag) : Sp := fun vs H Q _ => ∃ (a : HA) (h : M.Hs), vs = [.ref a.p] ∧ HouseAt K H a h ∧ ∀ H' a', Fr H H' a a' → HouseAt K H' a' (M.standDown h) → Q .non H'
def spBeginH (K : PySem.W.Frag) : Sp := fun vs H Q _ => ∃ (a : HA) (h : M.Hs), vs = [.ref a.p] ∧ HouseAt K H a h ∧ ∀ H' a', Fr H H' a a' → HouseAt K H' a' (M.beginAnew h) → Q .non H'
section
variable {P : Program} {w : World} {K : PySem.W.Frag} {mg : Str → Option Value} {base : Heap}
theorem okh_stand_down (T : Txt w K mg) : Df P w K mg base 1 (hM K "stand_down") ["self"] (spStandH K) := by
  refine (ok_m_stand_down T).imp fun vs H Q E h => ?_
  obtain ⟨a, h, rfl, hh, k⟩ := h
  exact ⟨a.p, a.dx, hof a h, rfl, hh.ob, by rw [hof_len]; decide, fun H' x y z s => k H' _ (s.house hh).2 (s.house hh).1⟩
theorem okh_begin_anew (T : Txt w K mg) : Df P w K mg base 3 (hM K "begin_anew") ["self"] (spBeginH K) := by
  refine (ok_m_begin_anew T).imp fun vs H Q E h => ?_
  obtain ⟨a, h, rfl, hh, k⟩ := h
  exact ⟨a.p, a.dx, hof a h, rfl, hh.ob, by rw [hof_len]; decide, no_stand_down _ _, fun H' t n s fr x y z b => k H' _ (b.house T.nowhere hh).2 (b.house T.nowhere hh).1⟩
end
end Wd
/-! ## P9 -/
set_option Elab.async false
set_option linter.all false
set_option maxRecDepth 100000
set_option maxHeartbeats 400000
namespace Wd
open PySem PySem.Spec PyProof.Rows L2 PySem.W PySem.SeqAt
def NamesOf (K : PySem.W.Frag) (H : Hp) (D : Addr) (r : List Nat) : Prop := H D = some (.lst (r.map fun i => V.str (nm i)))
def spOthers (K : PySem.W.Frag) : Sp := fun vs H Q _ => ∃ (a : HA) (h : M.Hs), vs = [.ref a.p] ∧ HouseAt K H a h ∧ ∀ D H', H D = none → Same H H' → H' D = some (.lst ((M.others h).map fun i => V.str (nm i))) → Q (.ref D) H'
def spLast (K : PySem.W.Frag) : Sp := fun vs H Q _ => ∃ (a : HA) (h : M.Hs), vs = [.ref a.p] ∧ HouseAt K H a h ∧ ∀ v H', Same H H' → Dp K H' v (plD (M.last h)) → Q v H'
def spHas (K : PySem.W.Frag) : Sp := fun vs H Q _ => ∃ (a : HA) (h : M.Hs) (v : V) (q : M.Pl), vs = [.ref a.p, v] ∧ HouseAt K H a h ∧ Dp K H v (plD q) ∧ ∀ H', Same H H' → Q (.bl (M.has h.row q)) H'
def spSay (K : PySem.W.Frag) : Sp := fun vs H Q _ => ∃ (a : HA) (h : M.Hs) (x y z : V) (rest : Addr) (rs : List V), vs = [.ref a.p, x, y, z, .ref rest] ∧ HouseAt K H a h ∧ SqT K H rest rs ∧ rs.length ≤ 10 ∧
  ∀ T H', Same H H' → SqT K H' T (x :: .str (nm h.name) :: y :: z :: rs) → Q (.ref T) H'
def spLeads (K : PySem.W.Frag) : Sp := fun vs H Q _ => ∃ (a : HA) (h : M.Hs) (e : Nat), vs = [.ref a.p, .int ((e : Nat) : Int)] ∧ HouseAt K H a h ∧ Q (.bl (M.leads h e)) H
def spStandsBy (K : PySem.W.Frag) : Sp := fun vs H Q _ => ∃ (a : HA) (h : M.Hs) (e : Nat), vs = [.ref a.p, .int ((e : Nat) : Int)] ∧ HouseAt K H a h ∧ Q (.bl (M.standsBy h e)) H
def spSettled (K : PySem.W.Frag) : Sp := fun vs H Q _ => ∃ (a : HA) (h : M.Hs), vs = [.ref a.p] ∧ HouseAt K H a h ∧ Q (.bl (M.isSettled h)) H
def spFollow (K : PySem.W.Frag) : Sp := fun vs H Q _ => ∃ (a : HA) (h : M.Hs) (o : Nat), vs = [.ref a.p, .str (nm o)] ∧ HouseAt K H a h ∧ ∀ H' a', Fr H H' a a' → HouseAt K H' a' (M.follow h o) → Q .non H'
def spSyncBy (K : PySem.W.Frag) : Sp := fun vs H Q _ => ∃ (a : HA) (h : M.Hs) (o way : Nat) (b : V) (q : M.Pl), vs = [.ref a.p, .str (nm o), .str (wayS way), b] ∧ HouseAt K H a h ∧ o < 26 ∧ Dp K H b (plD q) ∧ ∀ v H', Same H H' → LtIs K H' v (M.syncBy h o way q) → Q v H'
def spSyncFor (K : PySem.W.Frag) : Sp := fun vs H Q _ => ∃ (a : HA) (h : M.Hs) (o : Nat) (l : M.Lt), vs = [.ref a.p, .str (nm o)] ∧ HouseAt K H a h ∧ o < 26 ∧ M.syncFor h o = some l ∧ ∀ v H', Same H H' → LtIs K H' v l → Q v H'
theorem iteB {a b : Bool} {p q : Prop} (e : a = b) (h : if b = true then p else q) : if a = true then p else q := by rw [e]; exact h
theorem bne_no {x y : V} (h : x = y) : (!decide (x = y)) = false := by rw [decide_eq_true h]; rfl
theorem bne_yes {x y : V} (h : ¬ x = y) : (!decide (x = y)) = true := by rw [decide_eq_false h]; rfl
theorem role_scal (r : M.Role) (z : Str) : scal (roleV r) (.str z) = true := by cases r <;> rfl
theorem role_leads (r : M.Role) : decide (roleV r = V.str "leads") = M.isLeads r := by cases r <;> decide +kernel
theorem role_seeks (r : M.Role) : decide (roleV r = V.str "seeks") = M.isSeeks r := by cases r <;> decide +kernel
theorem int_eq (a b : Nat) : decide (V.int ((a : Nat) : Int) = V.int ((b : Nat) : Int)) = Nat.beq a b := by
  by_cases h : a = b
  · rw [nbt h]; exact decide_eq_true (by rw [h])
  · rw [nbf h]; exact decide_eq_false fun z => h (Int.ofNat.inj (V.int.inj z))
theorem head_scal (r : Option Nat) (z : Str) : scal (nameV r) (.str z) = true := by cases r <;> rfl
theorem head_is (h : M.Hs) (o : Nat) : decide (nameV h.head = V.str (nm o)) = M.headIs h o := by
  unfold M.headIs
  cases h.head with
  | none => rfl
  | some x =>
    show decide (V.str (nm x) = V.str (nm o)) = Nat.beq x o
    by_cases c : x = o
    · rw [nbt c]; exact decide_eq_true (by rw [c])
    · rw [nbf c]; exact decide_eq_false fun z => c (nm_inj (V.str.inj z))
theorem HA.norm {a : HA} {p : Addr} (e : a.p = p) : a = { a with p := p } := by subst e; rfl
theorem lt_mk {K : PySem.W.Frag} {H : Hp} {a : Addr} {rs : List V} {l : M.Lt} (h : SqT K H a (.str (ltW l) :: .str (nm l.src) :: .str (nm l.dst) :: .int ((ltE l : Nat) : Int) :: rs)) (d : DpAll K H rs (ltR l)) : Dp K H (.ref a) (ltD l) :=
  .tup h (.cons (.str _) (.cons (.str _) (.cons (.str _) (.cons (.int _) d))))
theorem fm_map {α β : Type} (l : List α) (p : α → Bool) (g : α → β) : l.filterMap (fun t => if p t = true then some (g t) else none) = (l.filter p).map g := by
  induction l with
  | nil => rfl
  | cons x l ih =>
    cases e : p x <;> simp [List.filterMap_cons, List.filter_cons, e, ih]
theorem peq_comm (p q : M.Pl) : M.peq p q = M.peq q p := by
  unfold M.peq
  have h : ∀ a b : Nat, Nat.beq a b = Nat.beq b a := fun a b => by
    by_cases c : a = b
    · rw [c]
    · rw [nbf c, nbf (fun z => c z.symm)]
  rw [h p.1, h p.2]
theorem any_pl (q : M.Pl) : ∀ r : M.Row, ((r.map (·.1)).map plD).any (fun z => PyData.eqv z (plD q)) = r.any fun t => M.peq q t.1
  | [] => rfl
  | t :: r => by
    rw [List.map_cons, List.map_cons, List.any_cons, List.any_cons, any_pl q r, eqv_pl, peq_comm]
theorem names_eq : ∀ {ws : List V} {r : List Nat}, Paired (fun v i => v = V.str (nm i)) ws r → ws = r.map fun i => V.str (nm i)
  | _, _, .nil => rfl
  | _, _, .cons h t => by rw [h, names_eq t]; rfl
def DfS (P : Program) (w : World) (K : PySem.W.Frag) (mg : Str → Option Value) (base : Heap) : Prop :=
  ∃ fd ds, FnOk P w K mg base CX0 1 (hM K "say") fd ["self", "word", "other", "epoch", "rest"] (spSay K) ∧ L2.Binds K fd ["self", "word", "other", "epoch", "rest"] [] ∧ L2.Binds K fd ["self", "word", "other", "epoch", "rest"] ds ∧ Vals [V.ref (restA K)] ds ∧ PySem.W.keepIn K (.ref (hM K "say")) = true
section
variable {P : Program} {w : World} {K : PySem.W.Frag} {mg : Str → Option Value} {base : Heap}
theorem ok_m_others (T : Txt w K mg) : Df P w K mg base 1 (hM K "others") ["self"] (spOthers K) := by
  refine df_mk T.f_m_others sc_m_others (fun vs H Q E h => ?_) (fun _ _ _ _ _ _ us hl => match us, hl with | [_], _ => rfl) (fun cdv A outer s H vs Q E hr h => ?_)
  · obtain ⟨a, h, rfl, _⟩ := h
    rfl
  · obtain ⟨a, h, rfl, hh, k⟩ := h
    refine ⟨_, (pss_one (ps_ret (pe_lc (own := [("other", 1)]) (g := gName 1) rfl sc_m_others.nd (pi_tup (kFld rfl T.cl T.n_own_members (pv 0))) (blkOk_by (own := [("other", 1)]) (N := ["self", "other"]) (sc := defScope s_m_others) (by decide +kernel)) (fun _ _ _ _ _ => (pg_name (i := 1) sc_m_others.nd rfl (Or.inl rfl))) (fun _ _ _ _ _ => (pts_one (pt_cmpR op_ne (pv 1) (kFld rfl T.cl T.n_own_name (pv 0)) (nomark _)))) (fun _ _ _ _ _ => (pv 1))))), ?_⟩
    rw [st_m_others]
    have hl : h.mem.length ≤ 100000 := by have := hh.ml.2; omega
    refine ⟨_, rfl, _, _, _, _, rfl, hh.ob, lk_own_members _ _, a.mem, rfl, ⟨_, hh.mm⟩, lc_any (fun i => if Nat.beq i h.name = true then none else some i) (fun _ v (i : Nat) => v = V.str (nm i)) (goes_tup hh.mm (names_pd _)) (fun _ h => h) hl (fun x t H1 Qy Qn s1 f1 m1 ky kn => ?_) (fun D ws H' h1 h2 h3 h4 => ?_)⟩
    · subst f1
      refine ⟨rfl, _, rfl, _, rfl, _, _, _, _, rfl, (hh.same s1).ob, lk_own_name _ _, rfl, _, rfl, ?_⟩
      by_cases c : t = h.name
      · refine iteB (b := false) (bne_no (congrArg V.str (congrArg nm c))) (iteF (kn ?_ _ (Same.refl _)))
        rw [nbt c]; rfl
      · refine iteB (b := true) (bne_yes (fun z => c (nm_inj (V.str.inj z)))) (iteT ⟨_, rfl, ky _ _ _ ?_ (Same.refl _) rfl⟩)
        rw [nbf c]; rfl
    · refine k D H' h1 h2 ?_
      have e : h.mem.filterMap (fun i => if Nat.beq i h.name = true then none else some i) = M.others h := by
        rw [M.others, ← List.filterMap_eq_filter]
        refine congrArg (fun f => List.filterMap f h.mem) (funext fun i => ?_)
        show _ = if (!Nat.beq i h.name) = true then some i else none
        cases Nat.beq i h.name <;> rfl
      rw [e] at h4
      rw [h3, names_eq h4]
theorem ok_m_last (T : Txt w K mg) : Df P w K mg base 2 (hM K "last") ["self"] (spLast K) := by
  obtain ⟨fd_last_place, G_last_place, b_last_place, kp_last_place⟩ := ok_last_place (P := P) (w := w) (base := base) T
  refine df_mk T.f_m_last sc_m_last (fun vs H Q E h => ?_) (fun _ _ _ _ _ _ us hl => match us, hl with | [_], _ => rfl) (fun cdv A outer s H vs Q E hr h => ?_)
  · obtain ⟨a, h, rfl, _⟩ := h
    rfl
  · obtain ⟨a, h, rfl, hh, k⟩ := h
    refine ⟨_, (pss_one (ps_ret (pe_call G_last_place (hr.mono (by decide)) rfl T.g_last_place kp_last_place b_last_place .nil pass0 (pa_cons (kFld rfl T.cl T.n_own_row (pv 0)) pa_nil)))), ?_⟩
    rw [st_m_last]
    obtain ⟨ws, e, d⟩ := hh.row
    exact ⟨_, rfl, _, _, _, _, rfl, hh.ob, lk_own_row _ _, a.row, ws, h.row, rfl, SqL.of e, d, k⟩
theorem ok_m_has (T : Txt w K mg) : Df P w K mg base 1 (hM K "has") ["self", "place"] (spHas K) := by
  refine df_mk T.f_m_has sc_m_has (fun vs H Q E h => ?_) (fun _ _ _ _ _ _ us hl => match us, hl with | [_, _], _ => rfl) (fun cdv A outer s H vs Q E hr h => ?_)
  · obtain ⟨a, h, v, q, rfl, _⟩ := h
    rfl
  · obtain ⟨a, h, v, q, rfl, hh, hv, k⟩ := h
    refine ⟨_, (pss_one (ps_ret (pe_or (pe_cmpR (kEqD rfl hr.units) (pv 1) (pe_glob (v := .ref (He.ga K "NOWHERE")) rfl T.g_NOWHERE rfl) (nomark _)) (pe_one (pe_cmpR (kInD rfl (hu65 hr)) (pv 1) (pe_lc (own := [("own", 2), ("entry", 3)]) (g := gTup K 2 (gCons (gName 2) (gCons (gName 3) gNil))) rfl sc_m_has.nd (pi_list (kFld rfl T.cl T.n_own_row (pv 0))) (blkOk_by (own := [("own", 2), ("entry", 3)]) (N := ["self", "place", "own", "entry"]) (sc := defScope s_m_has) (by decide +kernel)) (fun _ _ _ _ _ => (kTup rfl rfl (pgs_cons (pg_name (i := 2) sc_m_has.nd rfl (Or.inl rfl)) (pgs_cons (pg_name (i := 3) sc_m_has.nd rfl (Or.inl rfl)) pgs_nil)))) (fun _ _ _ _ _ => pts_nil) (fun _ _ _ _ _ => (pv 2))) (by rfl)))))), ?_⟩
    rw [st_m_has]
    refine ⟨_, rfl, _, _, hv, pl_mk (p := (0, 0)) (T.nowhere _), pl_shaped _, pl_shaped (0, 0), _, rfl, ?_⟩
    rw [eqv_pl]
    cases e : M.peq q (0, 0) with
    | true =>
      refine iteT ?_
      have := k H (Same.refl _)
      rw [M.has, e] at this
      exact this
    | false =>
      refine iteF ?_
      obtain ⟨ws, er, dr⟩ := hh.row
      refine ⟨_, rfl, _, rfl, _, _, _, _, rfl, hh.ob, lk_own_row _ _, a.row, rfl, ⟨_, SqL.of er⟩, lc_any (fun t => some t.1) (fun H v (q : M.Pl) => Dp K H v (plD q)) (goes_list (SqL.of er) dr) (fun k h => Dp.kp k.kp _ _ (noL_pl _) h) (Nat.le_trans hh.rl (by decide)) (fun x t H4 Qy Qn s4 f1 m1 ky kn => ?_) (fun D4 ws4 H4 hD4 s4 hw4 hp4 => ?_)⟩
      · have f2 := Dp.kp (Kp.of s4) _ _ (noL_th _) f1
        obtain ⟨b, y, z, rfl, ht, h1, h2⟩ := th_parts f2
        exact ⟨b, _, rfl, ht, rfl, _, _, rfl, _, _, rfl, rfl, rfl, _, rfl, ky _ _ _ rfl (Same.refl _) h1⟩
      · have hp5 : Ds K plD H4 ws4 (h.row.map (·.1)) := by rw [← List.filterMap_eq_map]; exact hp4
        refine ⟨_, _, Dp.kp (Kp.of s4) _ _ (noL_pl _) hv, hp5.lst (SqL.of hw4), pl_shaped _, pls_shaped _, ?_⟩
        have k2 := k H4 s4
        rw [M.has, e] at k2
        rw [any_pl]
        exact k2
theorem ok_m_say (T : Txt w K mg) : DfS P w K mg base := by
  obtain ⟨fd, F⟩ := T.f_m_say
  obtain ⟨ds, v1, b1⟩ := F.binds1 (ps := ["self", "word", "other", "epoch", "rest"]) 4 0 (by simp) rfl (fun T kV doc pm an cdv ct us its h1 h2 => match us, its, h1, h2 with | [_, _, _, _], [_], _, _ => ⟨_, rfl, rfl⟩)
  obtain ⟨ds2, v2, b2⟩ := F.binds1 (ps := ["self", "word", "other", "epoch", "rest"]) 5 1 (by simp) rfl (fun T kV doc pm an cdv ct us its h1 h2 => match us, its, h1, h2 with | [_, _, _, _, _], [_], _, _ => ⟨_, rfl, rfl⟩)
  cases v2
  refine ⟨fd, ds, F.ok sc_m_say (fun vs H Q E h => ?_) (fun cdv A outer s H vs Q E hr h => ?_), b2, b1, v1, F.kp⟩
  · obtain ⟨a, h, x, y, z, rest, rs, rfl, _⟩ := h
    rfl
  · obtain ⟨a, h, x, y, z, rest, rs, rfl, hh, hr1, hr2, k⟩ := h
    refine ⟨_, PSs.nox (pss_one (ps_ret (pe_op op_catT (pe_tup (pa_cons (pv 1) (pa_cons (kFld rfl T.cl T.n_own_name (pv 0)) (pa_cons (pv 2) (pa_cons (pv 3) pa_nil))))) (pv 4)))), ?_⟩
    rw [st_m_say]
    refine ⟨_, rfl, _, rfl, _, _, _, _, rfl, hh.ob, lk_own_name _ _, _, rfl, _, rfl, by show 4 ≤ sizeLine; decide, fun p hp => ?_⟩
    (generalize hz : upd H p _ = H1; have s1 : Same H H1 := (by rw [← hz]; exact same_new hp); have h1 : H1 p = some _ := (by rw [← hz]; exact upd_same); clear hz)
    refine ⟨_, rfl, p, rest, _, _, rfl, rfl, SqT.of h1, (Kp.of s1).sqt hr1, by simp, Nat.le_trans (show 4 + rs.length ≤ 14 by omega) (by decide), fun e => ?_, fun e q hq => ?_⟩
    · subst e
      exact k _ _ s1 (SqT.of h1)
    · exact k _ _ (s1.trans (same_new hq)) (SqT.of upd_same)
theorem ok_m_leads (T : Txt w K mg) : Df P w K mg base 1 (hM K "leads") ["self", "epoch"] (spLeads K) := by
  refine df_mk T.f_m_leads sc_m_leads (fun vs H Q E h => ?_) (fun _ _ _ _ _ _ us hl => match us, hl with | [_, _], _ => rfl) (fun cdv A outer s H vs Q E hr h => ?_)
  · obtain ⟨a, h, e, rfl, _⟩ := h
    rfl
  · obtain ⟨a, h, e, rfl, hh, k⟩ := h
    refine ⟨_, (pss_one (ps_ret (pe_and (pe_cmpR op_eq (kFld rfl T.cl T.n_own_role (pv 0)) pe_str (nomark _)) (pe_one (pe_cmpR op_eq (pv 1) (kFld rfl T.cl T.n_own_epoch (pv 0)) (nomark _)))))), ?_⟩
    rw [st_m_leads]
    refine ⟨_, rfl, _, _, _, _, rfl, hh.ob, lk_own_role _ _, role_scal _ _, _, rfl, ?_⟩
    rw [role_leads]
    cases e1 : M.isLeads h.role with
    | false =>
      refine iteF ?_
      rw [M.leads, e1] at k
      exact k
    | true =>
      refine iteT ⟨_, rfl, _, rfl, _, _, _, _, rfl, hh.ob, lk_own_epoch _ _, rfl, ?_⟩
      rw [int_eq]
      rw [M.leads, e1] at k
      exact k
theorem ok_m_stands_by (T : Txt w K mg) : Df P w K mg base 1 (hM K "stands_by") ["self", "epoch"] (spStandsBy K) := by
  refine df_mk T.f_m_stands_by sc_m_stands_by (fun vs H Q E h => ?_) (fun _ _ _ _ _ _ us hl => match us, hl with | [_, _], _ => rfl) (fun cdv A outer s H vs Q E hr h => ?_)
  · obtain ⟨a, h, e, rfl, _⟩ := h
    rfl
  · obtain ⟨a, h, e, rfl, hh, k⟩ := h
    refine ⟨_, (pss_one (ps_ret (pe_and (pe_cmpR op_eq (pv 1) (kFld rfl T.cl T.n_own_promised (pv 0)) (nomark _)) (pe_and (pe_cmpR op_eq (pv 1) (kFld rfl T.cl T.n_own_epoch (pv 0)) (nomark _)) (pe_one (pe_cmpR op_ne (kFld rfl T.cl T.n_own_role (pv 0)) pe_str (nomark _))))))), ?_⟩
    rw [st_m_stands_by]
    refine ⟨_, rfl, _, rfl, _, _, _, _, rfl, hh.ob, lk_own_promised _ _, rfl, _, rfl, ?_⟩
    rw [int_eq]
    unfold M.standsBy at k
    cases e1 : Nat.beq e h.promised with
    | false =>
      refine iteF ?_
      rw [e1] at k
      exact k
    | true =>
      refine iteT ⟨_, rfl, _, rfl, _, _, _, _, rfl, hh.ob, lk_own_epoch _ _, rfl, _, rfl, ?_⟩
      rw [int_eq]
      rw [e1] at k
      cases e2 : Nat.beq e h.epoch with
      | false =>
        refine iteF ?_
        rw [e2] at k
        exact k
      | true =>
        refine iteT ⟨_, rfl, _, _, _, _, rfl, hh.ob, lk_own_role _ _, role_scal _ _, ?_⟩
        rw [role_leads]
        rw [e2] at k
        exact k
theorem ok_m_is_settled (T : Txt w K mg) : Df P w K mg base 2 (hM K "is_settled") ["self"] (spSettled K) := by
  obtain ⟨fd_most_of, G_most_of, b_most_of, kp_most_of⟩ := ok_most_of (P := P) (w := w) (base := base) T
  refine df_mk T.f_m_is_settled sc_m_is_settled (fun vs H Q E h => ?_) (fun _ _ _ _ _ _ us hl => match us, hl with | [_], _ => rfl) (fun cdv A outer s H vs Q E hr h => ?_)
  · obtain ⟨a, h, rfl, _⟩ := h
    rfl
  · obtain ⟨a, h, rfl, hh, k⟩ := h
    refine ⟨_, (pss_one (ps_ret (pe_and (pe_cmpR op_eq (kFld rfl T.cl T.n_own_role (pv 0)) pe_str (nomark _)) (pe_one (pe_cmpR op_ge (pe_callB call_lenD (by rfl) T.b_len PySem.boot_len (pa_cons (kFld rfl T.cl T.n_taken (pv 0)) pa_nil)) (pe_call G_most_of (hr.mono (by decide)) rfl T.g_most_of kp_most_of b_most_of .nil pass0 (pa_cons (kFld rfl T.cl T.n_own_members (pv 0)) pa_nil)) (nomark _)))))), ?_⟩
    rw [st_m_is_settled]
    unfold M.isSettled at k
    refine ⟨_, rfl, _, _, _, _, rfl, hh.ob, lk_own_role _ _, role_scal _ _, _, rfl, ?_⟩
    rw [role_leads]
    cases e1 : M.isLeads h.role with
    | false =>
      refine iteF ?_
      rw [e1] at k
      exact k
    | true =>
      obtain ⟨kvs, et, dt⟩ := hh.ta
      refine iteT ⟨_, rfl, _, _, _, _, rfl, hh.ob, lk_taken _ _, a.ta, kvs, rfl, et, _, rfl, _, _, _, _, rfl, hh.ob, lk_own_members _ _, a.mem, _, rfl, hh.mm, _, _, rfl, rfl, ?_⟩
      rw [e1] at k
      have e2 : decide (((h.mem.map fun i => V.str (nm i)).length / 2 + 1 : Nat) ≤ ((kvs.length : Nat) : Int)) = Nat.ble (M.most h) h.taken.length := by
        rw [List.length_map, dic_len dt, M.most]
        by_cases c : h.mem.length / 2 + 1 ≤ h.taken.length
        · rw [Nat.ble_eq.mpr c]; exact decide_eq_true (by omega)
        · rw [Bool.eq_false_iff.mpr (fun z => c (Nat.ble_eq.mp z))]; exact decide_eq_false (by omega)
      rw [← e2] at k
      exact k
theorem ok_m_follow (T : Txt w K mg) : Df P w K mg base 2 (hM K "follow") ["self", "other"] (spFollow K) := by
  obtain ⟨fd_m_stand_down, G_m_stand_down, b_m_stand_down, kp_m_stand_down⟩ := okh_stand_down (P := P) (w := w) (base := base) T
  refine df_mk T.f_m_follow sc_m_follow (fun vs H Q E h => ?_) (fun _ _ _ _ _ _ us hl => match us, hl with | [_, _], _ => rfl) (fun cdv A outer s H vs Q E hr h => ?_)
  · obtain ⟨a, h, o, rfl, _⟩ := h
    rfl
  · obtain ⟨a, h, o, rfl, hh, k⟩ := h
    refine ⟨_, (pss_cons (ps_if (pt_cmpR op_ne (kFld rfl T.cl T.n_own_head (pv 0)) (pv 1) (nomark _)) (pss_one (ps_expr (pe_meth0 (pv 0) T.cl T.me_stand_down G_m_stand_down (hr.mono (by decide)) b_m_stand_down .nil pass0))) pss_nil) (pss_cons (kSet rfl T.cl T.n_own_role (pv 0) pe_str rfl) (pss_one (kSet rfl T.cl T.n_own_head (pv 0) (pv 1) rfl)))), ?_⟩
    rw [st_m_follow]
    have fin : ∀ (H1 : Hp) (a1 : HA) (h1 : M.Hs), HouseAt K H1 { a1 with p := a.p } h1 → Fr H H1 a { a1 with p := a.p } → { h1 with role := .follows, head := some o } = M.follow h o →
        sS (hC K) "own_role" (tVar 0) (tC (.str "follows")) { nx := sS (hC K) "own_head" (tVar 0) (tVar 1) { nx := fun _ H' => Q .non H', rt := Q }, rt := Q } [some (.ref a.p), some (.str (nm o))] H1 := fun H1 a1 h1 hh1 f1 e1 => by
      refine ⟨_, rfl, _, _, _, rfl, hh1.ob, hof_1000 _ _, ?_⟩
      (generalize hz : upd H1 a.p _ = H2; obtain ⟨hh2, f2⟩ : HouseAt K H2 _ _ ∧ Fr _ H2 _ _ := (by rw [← hz]; exact wr_role hh1 f1 .follows); clear hz)
      refine ⟨_, rfl, _, rfl, _, _, _, rfl, hh2.ob, hof_1000 _ _, ?_⟩
      (generalize hz : upd H2 a.p _ = H3; obtain ⟨hh3, f3⟩ : HouseAt K H3 _ _ ∧ Fr _ H3 _ _ := (by rw [← hz]; exact wr_head hh2 f2 (some o)); clear hz)
      refine k H3 _ f3 ?_
      rw [← e1]
      exact hh3
    refine ⟨_, rfl, _, _, _, _, rfl, hh.ob, lk_own_head _ _, _, rfl, head_scal _ _, _, rfl, ?_⟩
    rw [head_is]
    cases e1 : M.headIs h o with
    | false =>
      refine iteT ⟨_, rfl, _, _, _, rfl, hh.ob, no_stand_down _ _, a, h, rfl, hh, fun H1 a1 f1 hh1 => ?_⟩
      obtain ⟨a1, rfl⟩ : ∃ b : HA, a1 = { b with p := a.p } := ⟨a1, HA.norm f1.p⟩
      exact fin H1 a1 _ hh1 f1 (by unfold M.follow; rw [e1]; rfl)
    | true =>
      refine iteF ?_
      exact fin H a h hh (Fr.refl _ _) (by unfold M.follow; rw [e1]; rfl)
theorem ok_m_sync_by (T : Txt w K mg) : Df P w K mg base 2 (hM K "sync_by") ["self", "other", "way", "base"] (spSyncBy K) := by
  obtain ⟨fd_behind, G_behind, b_behind, kp_behind⟩ := ok_behind (P := P) (w := w) (base := base) T
  obtain ⟨fd_m_say, ds_say, G_m_say, b_m_say, b_say0, d_say0, kp_m_say⟩ := ok_m_say (P := P) (w := w) (base := base) T
  refine df_mk T.f_m_sync_by sc_m_sync_by (fun vs H Q E h => ?_) (fun _ _ _ _ _ _ us hl => match us, hl with | [_, _, _, _], _ => rfl) (fun cdv A outer s H vs Q E hr h => ?_)
  · obtain ⟨a, h, o, wy, b, q, rfl, _⟩ := h
    rfl
  · obtain ⟨a, h, o, wy, b, q, rfl, hh, ho, hb, k⟩ := h
    refine ⟨_, (pss_cons (ps_set (i := 4) sc_m_sync_by.nd rfl (Or.inl rfl) (pe_callTy call_tuple_of (by rfl) T.b_tuple (by decide +kernel) (pa_cons (pe_call G_behind (hr.mono (by decide)) rfl T.g_behind kp_behind b_behind .nil pass0 (pa_cons (kFld rfl T.cl T.n_own_row (pv 0)) (pa_cons (pv 3) pa_nil))) pa_nil))) (pss_one (ps_ret (pe_meth (pv 0) T.cl T.me_say G_m_say (hr.mono (by decide)) b_m_say .nil pass0 (pa_cons pe_str (pa_cons (pv 1) (pa_cons (kFld rfl T.cl T.n_own_epoch (pv 0)) (pa_cons (pe_tup (pa_cons (pv 2) (pa_cons (pv 3) (pa_cons (pv 4) (pa_cons (kFld rfl T.cl T.n_own_done (pv 0)) pa_nil))))) pa_nil)))))))), ?_⟩
    rw [st_m_sync_by]
    obtain ⟨ws, er, dr⟩ := hh.row
    refine ⟨_, rfl, _, _, _, _, rfl, hh.ob, lk_own_row _ _, _, rfl, a.row, ws, _, h.row, q, rfl, SqL.of er, dr, hb, Nat.le_trans hh.rl (by decide), fun D H1 ⟨n1, s1, ws1, e1, d1⟩ => ?_⟩
    refine ⟨D, ws1, rfl, .inl ⟨SqL.of e1, fun tp htp => ?_⟩⟩
    (generalize hz : upd H1 tp _ = H2; have s2 : Same H1 H2 := (by rw [← hz]; exact same_new htp); have h2 : H2 tp = some _ := (by rw [← hz]; exact upd_same); clear hz)
    have hh2 := (hh.same s1).same s2
    refine ⟨_, rfl, _, _, _, rfl, hh2.ob, no_say _ _, _, rfl, _, rfl, _, _, _, _, rfl, hh2.ob, lk_own_epoch _ _, _, rfl, _, rfl, _, rfl, _, rfl, _, _, _, _, rfl, hh2.ob, lk_own_done _ _, by show 4 ≤ sizeLine; decide, fun p hp => ?_⟩
    (generalize hz : upd H2 p _ = H3; have s3 : Same H2 H3 := (by rw [← hz]; exact same_new hp); have h3 : H3 p = some _ := (by rw [← hz]; exact upd_same); clear hz)
    have s13 := s1.trans (s2.trans s3)
    refine ⟨a, h, _, _, _, p, _, rfl, hh2.same s3, SqT.of h3, by show 4 ≤ 10; decide, fun T4 H4 s4 q4 => ?_⟩
    have s14 := s13.trans s4
    have s24 := s2.trans (s3.trans s4)
    refine k _ _ s14 ⟨lt_mk (l := M.syncBy h o wy q) q4 (.cons (.str _) (.cons (Dp.kp (Kp.of s14) _ _ (noL_pl _) hb) (.cons ?_ (.cons (Dp.kp (Kp.of s14) _ _ (noL_pl _) hh.dn) .nil)))), hh.mb _ hh.nm, ho, ?_⟩
    · exact (d1.kp (Kp.of s24) noL_th).tup (SqT.of ((s3.trans s4) _ _ h2))
    · exact Nat.le_trans (List.length_filter_le _ _) hh.rl
theorem ok_m_sync_for (T : Txt w K mg) : Df P w K mg base 3 (hM K "sync_for") ["self", "other"] (spSyncFor K) := by
  obtain ⟨fd_m_has, G_m_has, b_m_has, kp_m_has⟩ := ok_m_has (P := P) (w := w) (base := base) T
  obtain ⟨fd_m_sync_by, G_m_sync_by, b_m_sync_by, kp_m_sync_by⟩ := ok_m_sync_by (P := P) (w := w) (base := base) T
  refine df_mk T.f_m_sync_for sc_m_sync_for (fun vs H Q E h => ?_) (fun _ _ _ _ _ _ us hl => match us, hl with | [_, _], _ => rfl) (fun cdv A outer s H vs Q E hr h => ?_)
  · obtain ⟨a, h, o, l, rfl, _⟩ := h
    rfl
  · obtain ⟨a, h, o, l, rfl, hh, ho, hl, k⟩ := h
    refine ⟨_, (pss_cons (ps_set (i := 2) sc_m_sync_for.nd rfl (Or.inr rfl) (pe_dget (hu_of hr) (kFld rfl T.cl T.n_promises (pv 0)) (pv 1) (fun _ _ => rfl))) (pss_cons (ps_if (pt_val (pe_meth (pv 0) T.cl T.me_has G_m_has (hr.mono (by decide)) b_m_has .nil pass0 (pa_cons (pv 2) pa_nil))) (pss_one (ps_ret (pe_meth (pv 0) T.cl T.me_sync_by G_m_sync_by (hr.mono (by decide)) b_m_sync_by .nil pass0 (pa_cons (pv 1) (pa_cons pe_str (pa_cons (pv 2) pa_nil)))))) pss_nil) (pss_cons (ps_setLc (i := 3) (own := [("place", 4), ("entry", 5)]) (g := gTup K 2 (gCons (gName 4) (gCons (gName 5) gNil))) rfl sc_m_sync_for.nd rfl rfl (sw_true rfl rfl rfl (by decide +kernel)) (pi_list (kFld rfl T.cl T.n_own_row (pv 0))) (blkOk_by (own := [("place", 4), ("entry", 5)]) (N := ["self", "other", "last", "lesser", "place", "entry"]) (sc := defScope s_m_sync_for) (by decide +kernel)) (fun _ _ _ _ _ => (kTup rfl rfl (pgs_cons (pg_name (i := 4) sc_m_sync_for.nd rfl (Or.inl rfl)) (pgs_cons (pg_name (i := 5) sc_m_sync_for.nd rfl (Or.inl rfl)) pgs_nil)))) (fun _ _ _ _ _ => (pts_one (pt_cmpR (kLt rfl hr.units) (pv 4) (pv 2) (nomark _)))) (fun _ _ _ _ _ => (pv 4))) (pss_cons (ps_if (pt_cmpR (kNeD rfl hr.units) (pv 3) (pe_lst pa_nil) (nomark _)) (pss_one (ps_ret (pe_meth (pv 0) T.cl T.me_sync_by G_m_sync_by (hr.mono (by decide)) b_m_sync_by .nil pass0 (pa_cons (pv 1) (pa_cons pe_str (pa_cons (pe_ix (kIxL rfl) (pv 3) (pe_un un_neg pe_int) (fun _ _ => rfl)) pa_nil)))))) pss_nil) (pss_one (ps_ret (pe_meth (pv 0) T.cl T.me_sync_by G_m_sync_by (hr.mono (by decide)) b_m_sync_by .nil pass0 (pa_cons (pv 1) (pa_cons pe_str (pa_cons (pe_glob (v := .ref (He.ga K "NOWHERE")) rfl T.g_NOWHERE rfl) pa_nil)))))))))), ?_⟩
    rw [st_m_sync_for]
    obtain ⟨kvs, ep, dp⟩ := hh.pr
    unfold M.syncFor at hl
    rcases dic_get dp o with ⟨e1, e2⟩ | ⟨v, q, e1, e2, dv⟩
    · rw [e2] at hl
      cases hl
    rw [e2] at hl
    have hl := (Option.some.inj hl).symm
    refine ⟨_, rfl, _, _, _, _, rfl, hh.ob, lk_promises _ _, _, rfl, a.pr, v, rfl, by rw [← e1]; exact DGet.k (k := nK o) ep, ?_⟩
    simp only [List.set_cons_succ, List.set_cons_zero]
    refine ⟨_, rfl, _, _, _, rfl, hh.ob, no_has _ _, _, rfl, a, h, v, q, rfl, hh, dv, fun H1 s1 => ⟨_, rfl, ?_⟩⟩
    have hh1 := hh.same s1
    have dv1 := Dp.kp (Kp.of s1) _ _ (noL_pl _) dv
    cases e3 : M.has h.row q with
    | true =>
      rw [e3] at hl
      refine iteT ⟨_, rfl, _, _, _, rfl, hh1.ob, no_sync_by _ _, _, rfl, _, rfl, a, h, o, 0, v, q, rfl, hh1, ho, dv1, fun T4 H4 s4 q4 => k _ _ (s1.trans s4) ?_⟩
      rw [hl]
      exact q4
    | false =>
      rw [e3] at hl
      refine iteF ?_
      obtain ⟨ws, er, dr⟩ := hh1.row
      refine ⟨_, rfl, _, _, _, _, rfl, hh1.ob, lk_own_row _ _, a.row, rfl, ⟨_, SqL.of er⟩, lc_any (fun t => if M.plt t.1 q = true then some t.1 else none) (fun H v (q : M.Pl) => Dp K H v (plD q)) (goes_list (SqL.of er) dr) (fun k h => Dp.kp k.kp _ _ (noL_pl _) h) (Nat.le_trans hh.rl (by decide)) (fun x t H4 Qy Qn s4 f1 m1 ky kn => ?_) (fun D4 ws4 H4 hD4 s4 hw4 hp4 => ?_)⟩
      · have f2 := Dp.kp (Kp.of s4) _ _ (noL_th _) f1
        obtain ⟨b, y, z, rfl, ht, h1, h2⟩ := th_parts f2
        refine ⟨b, _, rfl, ht, rfl, _, _, rfl, _, _, rfl, rfl, rfl, _, rfl, _, rfl, _, _, ord_pl h1 (Dp.kp (Kp.of s4) _ _ (noL_pl _) dv1), _, rfl, ?_⟩
        rw [lt_pl]
        cases e : M.plt t.1 q with
        | false => exact iteF (kn (by rw [e]; rfl) _ (Same.refl _))
        | true => exact iteT ⟨_, rfl, ky _ _ _ (by rw [e]; rfl) (Same.refl _) h1⟩
      have hp5 : Ds K plD H4 ws4 ((M.lesser h q).map (·.1)) := by
        have e : h.row.filterMap (fun t => if M.plt t.1 q = true then some t.1 else none) = (M.lesser h q).map (·.1) := fm_map h.row _ _
        rw [← e]; exact hp4
      have hh4 := hh1.same s4
      refine ⟨_, rfl, Nat.zero_le _, fun p hp => ?_⟩
      (generalize hz : upd H4 p _ = H5; have s5 : Same H4 H5 := (by rw [← hz]; exact same_new hp); have h5 : H5 p = some _ := (by rw [← hz]; exact upd_same); clear hz)
      have hh5 := hh4.same s5
      have hp6 := hp5.kp (Kp.of s5) noL_pl
      have hw5 := s5 _ _ hw4
      refine ⟨_, _, hp6.lst (SqL.of hw5), .lst (SqL.of h5) .nil, pls_shaped _, pls_shaped [], _, rfl, ?_⟩
      cases e4 : M.lesser h q with
      | nil =>
        rw [e4] at hl
        refine iteF ?_
        refine ⟨_, rfl, _, _, _, rfl, hh5.ob, no_sync_by _ _, _, rfl, a, h, o, 2, _, (0, 0), rfl, hh5, ho, pl_mk (p := (0, 0)) (T.nowhere _), fun T6 H6 s6 q6 => k _ _ ((s1.trans s4).trans (s5.trans s6)) ?_⟩
        rw [hl]
        exact q6
      | cons t r =>
        rw [e4] at hl hp6
        refine iteT ?_
        obtain ⟨u, f1, f2⟩ := lastOf_at (t :: r) (by simp)
        have f3 : ((t :: r).map (·.1))[(t :: r).length - 1]? = some u.1 := by rw [List.getElem?_map, f1]; rfl
        have hlen := pd_len hp6
        rw [List.length_map] at hlen
        obtain ⟨x, g1, g2⟩ := pd_get2 hp6 f3
        refine ⟨_, rfl, _, _, _, rfl, hh5.ob, no_sync_by _ _, _, rfl, _, rfl, _, rfl, D4, _, _, _, rfl, rfl, SqL.of hw5, atI_end (by rw [hlen]; exact g1), a, h, o, 1, _, u.1, rfl, hh5, ho, g2, fun T6 H6 s6 q6 => k _ _ ((s1.trans s4).trans (s5.trans s6)) ?_⟩
        have hl2 : l = M.syncBy h o 1 (M.lastOf (t :: r)) := hl
        rw [hl2, f2]
        exact q6
end
end Wd
/-! ## P10 -/
set_option Elab.async false
set_option linter.all false
set_option maxRecDepth 100000
set_option maxHeartbeats 400000
namespace Wd
open PySem PySem.Spec PyProof.Rows L2 PySem.W PySem.SeqAt
def spGoOn (K : PySem.W.Frag) : Sp := fun vs H Q _ => ∃ (a : HA) (h : M.Hs) (v : V) (q : M.Pl) (h2 : M.Hs), vs = [.ref a.p, v] ∧ HouseAt K H a h ∧ Dp K H v (plD q) ∧ M.goOn h q = some h2 ∧ ∀ H' a', Fr H H' a a' → HouseAt K H' a' h2 → a'.row = a.row → H' a.row = H a.row → Q .non H'
theorem cnt_snoc {α : Type} (p : α → Bool) {r : List α} {i : Nat} {t : α} (h : r[i]? = some t) : ((r.take (i + 1)).filter p).length = ((r.take i).filter p).length + (if p t = true then 1 else 0) := by
  rw [take_snoc h, List.filter_append, List.length_append]
  cases e : p t <;> simp [List.filter_cons, e]
theorem cnt_le {α : Type} (p : α → Bool) (r : List α) (i : Nat) : ((r.take i).filter p).length ≤ (r.filter p).length := by
  have : (r.take i).Sublist r := List.take_sublist _ _
  exact (this.filter p).length_le
structure GoInv (K : PySem.W.Frag) (H : Hp) (a : HA) (h : M.Hs) (ws : List V) (c : Nat) (Hc : Hp) (a1 : HA) : Prop where
  f : Fr H Hc a { a1 with p := a.p }
  er : a1.row = a.row
  e : Hc a.row = some (.lst ws)
  hh : HouseAt K Hc { a1 with p := a.p } { h with fresh := h.fresh + c }
def GoIn (K : PySem.W.Frag) (H : Hp) (a : HA) (h : M.Hs) (ws : List V) (v : V) (c : Nat) (σ : L2.St) (Hc : Hp) : Prop := ∃ (a1 : HA) (o1 o2 o3 o4 : Option V), σ = [some (.ref a.p), some v, o1, o2, o3, o4] ∧ GoInv K H a h ws c Hc a1
section
variable {P : Program} {w : World} {K : PySem.W.Frag} {mg : Str → Option Value} {base : Heap}
theorem ok_m_go_on_to (T : Txt w K mg) : Df P w K mg base 5 (hM K "go_on_to") ["self", "place"] (spGoOn K) := by
  obtain ⟨fd_done, G_done, kb_done, kp_done⟩ := ok_done (P := P) (w := w) (base := base) T
  have g_done_states : mg "done_states" = some (.ref (He.ga K "done")) := by rw [← T.ds]; exact T.g_done_states
  refine df_mk T.f_m_go_on_to sc_m_go_on_to (fun vs H Q E h => ?_) (fun _ _ _ _ _ _ us hl => match us, hl with | [_, _], _ => rfl) (fun cdv A outer s H vs Q E hr h => ?_)
  · obtain ⟨a, h, v, q, h2, rfl, _⟩ := h
    rfl
  · obtain ⟨a, h, v, q, h2, rfl, hh, hv, hg, k⟩ := h
    refine ⟨_, (pss_cons (ps_for PassesOwn.never rfl (pi_list (kFld rfl T.cl T.n_own_row (pv 0))) (pg_tup (by rfl) (pgs_cons (pg_name (i := 2) sc_m_go_on_to.nd rfl (Or.inl rfl)) (pgs_cons (pg_name (i := 3) sc_m_go_on_to.nd rfl (Or.inl rfl)) pgs_nil))) (pss_one (ps_if (pt_chain (kLt rfl hr.units) (kLe rfl hr.units) (kFld rfl T.cl T.n_own_done (pv 0)) (pv 2) (pv 1)) (pss_cons (ps_asg (pe_callN G_done (hr.mono (by decide)) rfl g_done_states kp_done kb_done pass0 (pa_cons (kFld rfl T.cl T.n_own_state (pv 0)) (pa_cons (pv 3) pa_nil)) (pk_cons (pv 2) pk_nil)) (pg_tup (by rfl) (pgs_cons (kPgF rfl T.cl T.n_own_state (pv 0)) (pgs_cons (pg_name (i := 4) sc_m_go_on_to.nd rfl (Or.inl rfl)) (pgs_cons (pg_name (i := 5) sc_m_go_on_to.nd rfl (Or.inl rfl)) pgs_nil))))) (pss_one (ps_expr (pe_bm PySem.F.plainAttrs_list PySem.F.slot_list_append PySem.F.type_list_append mt_append (kFld rfl T.cl T.n_fresh (pv 0)) (pa_cons (pe_tup (pa_cons (pv 2) (pa_cons (pv 3) (pa_cons (pv 4) (pa_cons (pv 5) pa_nil))))) pa_nil))))) pss_nil))) (pss_one (kSet rfl T.cl T.n_own_done (pv 0) (pe_callB (kMax rfl rfl hr.units) (by rfl) T.b_max (by decide +kernel) (pa_cons (kFld rfl T.cl T.n_own_done (pv 0)) (pa_cons (pv 1) pa_nil))) rfl))), ?_⟩
    rw [st_m_go_on_to]
    obtain ⟨ws, er, dr⟩ := hh.row
    have hwl := pd_len dr
    have hb : h.fresh + (M.newly h q).length ≤ 1000 ∧ h2 = { h with done := M.pmax h.done q, fresh := h.fresh + (M.newly h q).length } := by
      unfold M.goOn at hg
      cases c : Nat.ble (h.fresh + (M.newly h q).length) M.bnd with
      | false => rw [c] at hg; cases hg
      | true => rw [c] at hg; exact ⟨Nat.ble_eq.mp c, (Option.some.inj hg).symm⟩
    obtain ⟨hb, rfl⟩ := hb
    generalize hp : (fun t : M.Thing => M.plt h.done t.1 && M.ple t.1 q) = p at *
    have hnew : M.newly h q = h.row.filter p := by rw [← hp]; rfl
    refine ⟨_, rfl, _, _, _, _, rfl, hh.ob, lk_own_row _ _, a.row, rfl, ⟨_, SqL.of er⟩, for_list (xs := ws) (fun i σ Hc => GoIn K H a h ws v ((h.row.take i).filter p).length σ Hc) ⟨a, none, none, none, none, rfl, Fr.refl _ _, rfl, er, by rw [List.take_zero]; exact hh⟩ (fun i σ Hc hi ⟨a1, o1, o2, o3, o4, e1, g⟩ => SqL.of g.e) (fun i x σ Hc ex ⟨a1, o1, o2, o3, o4, e1, g⟩ => ?_) (fun σ Hc ⟨a1, o1, o2, o3, o4, e1, g⟩ => ?_)⟩
    · subst e1
      have hh1 := g.hh
      have f1 := g.f
      have hil : i < ws.length := (List.getElem?_eq_some_iff.mp ex).1
      obtain ⟨ws2, er2, dr2⟩ := hh1.row
      have er3 : Hc a.row = some (.lst ws2) := by rw [← g.er]; exact er2
      rw [g.e] at er3
      cases er3
      obtain ⟨t, et, ft⟩ := pd_get dr2 ex
      obtain ⟨b, y, z, rfl, ht, g1, g2⟩ := th_parts ft
      have hc := cnt_snoc p et
      have hle := cnt_le p h.row (i + 1)
      rw [← hnew] at hle
      rw [hc] at hle ⊢
      generalize ((h.row.take i).filter p).length = n at *
      refine ⟨b, _, rfl, ht, rfl, _, _, rfl, _, _, rfl, rfl, ?_⟩
      simp only [List.set_cons_succ, List.set_cons_zero]
      have hv1 := Dp.kp f1.kp _ _ (noL_pl _) hv
      refine ⟨_, rfl, _, _, _, _, rfl, hh1.ob, lk_own_done _ _, _, rfl, _, _, ord_pl hh1.dn g1, _, rfl, ?_⟩
      rw [lt_pl]
      have hpt : p t = (M.plt h.done t.1 && M.ple t.1 q) := by rw [← hp]
      have next : p t = false → GoIn K H a h ws v (n + if p t = true then 1 else 0) [some (.ref a.p), some v, some y, some z, o3, o4] Hc := fun pf => by
        rw [pf]
        exact ⟨a1, _, _, _, _, rfl, g⟩
      cases c1 : M.plt h.done t.1 with
      | false =>
        exact iteF ⟨_, rfl, iteF (next (by rw [hpt, c1]; rfl))⟩
      | true =>
        refine iteT ⟨_, rfl, _, _, ord_pl g1 hv1, _, rfl, ?_⟩
        rw [lt_pl]
        cases c2 : M.plt q t.1 with
        | true =>
          exact iteF (next (by rw [hpt, c1, M.ple, c2]; rfl))
        | false =>
          have hpt2 : p t = true := by rw [hpt, c1, M.ple, c2]; rfl
          rw [hpt2] at hle ⊢
          clear next
          refine iteT ?_
          refine ⟨_, rfl, _, _, _, _, rfl, hh1.ob, lk_own_state _ _, _, rfl, _, rfl, rfl, rfl, _, _, _, _, t.2, _, rfl, hh1.st, g2, fun H1 r t' n' s' x y2 s1 hr1 st' ht' hn' hs' => ?_⟩
          have hh2 := hh1.same s1
          refine ⟨r, _, rfl, SqT.of hr1, rfl, _, _, rfl, _, rfl, _, _, _, rfl, hh2.ob, hof_1000 _ _, ?_⟩
          have e2 := s1 _ _ g.e
          obtain ⟨kp1, ep1, _⟩ := hh1.pr
          obtain ⟨kt1, et1, _⟩ := hh1.ta
          have nrow : a.row ≠ a.p := fun z => by have := hh2.ob; rw [show ({ a1 with p := a.p } : HA).p = a.row from z.symm, e2] at this; cases this
          (generalize hz : upd H1 a.p _ = H2; obtain ⟨hh3, f3⟩ : HouseAt K H2 _ _ ∧ Fr _ H2 _ _ := (by rw [← hz]; exact wr_state hh2 (f1.same s1) st' (f1.al _ hn') (f1.al _ hs') ⟨ne_of_none ep1 hn', ne_of_none ep1 hs', ne_of_none et1 hn', ne_of_none et1 hs'⟩); have k3 : KeepBut H1 H2 a.p := (by rw [← hz]; exact KeepBut.upd); clear hz)
          have e3 := k3 _ _ nrow e2
          refine ⟨_, _, rfl, _, _, rfl, rfl, ?_⟩
          simp only [List.set_cons_succ, List.set_cons_zero]
          obtain ⟨wf, ef, lf⟩ := hh3.fr
          refine ⟨_, rfl, _, _, _, _, rfl, hh3.ob, lk_fresh _ _, .inl ⟨rfl, _, SqL.of ef⟩, _, rfl, _, rfl, _, rfl, _, rfl, by show 4 ≤ sizeLine; decide, fun u hu => ?_⟩
          (generalize hz : upd H2 u _ = H3; have s3 : Same H2 H3 := (by rw [← hz]; exact same_new hu); have h3 : H3 u = some _ := (by rw [← hz]; exact upd_same); clear hz)
          have e4 := s3 _ _ e3
          have ef4 := s3 _ _ ef
          have hlf : wf.length < 1000 := by rw [lf]; show h.fresh + n < 1000; rw [if_pos rfl] at hle; omega
          have nfr : a.row ≠ a1.fr := fun z => hh3.d1 (by rw [← z]; exact g.er)
          refine ⟨_, _, _, rfl, rfl, ef4, Nat.lt_of_lt_of_le hlf (by decide), ?_⟩
          obtain ⟨hh4, f4⟩ := ap_fresh (v := .ref u) (hh3.same s3) (f3.same s3) ef4 (by show h.fresh + n < 1000; rw [if_pos rfl] at hle; omega)
          refine ⟨{ a1 with t := t', n := n', s := s' }, _, _, _, _, rfl, f4, g.er, ?_, hh4⟩
          rw [upd_ne nfr]
          exact e4
    · subst e1
      rw [hwl, List.take_length, ← hnew] at g
      have hh1 := g.hh
      have f1 := g.f
      have hv1 := Dp.kp f1.kp _ _ (noL_pl _) hv
      refine ⟨_, rfl, _, _, _, _, rfl, hh1.ob, lk_own_done _ _, _, rfl, _, _, _, _, rfl, hh1.dn, hv1, all_pl _ _, dep_pl _ _, _, rfl, _, _, _, rfl, hh1.ob, hof_1000 _ _, ?_⟩
      have hd2 : Dp K Hc (if dataLt (plD h.done) (plD q) = true then v else a1.dn) (plD (M.pmax h.done q)) := by
        rw [lt_pl, M.pmax]
        cases M.plt h.done q with
        | true => exact hv1
        | false => exact hh1.dn
      have nrow : a.row ≠ a.p := fun z => by have := hh1.ob; rw [show ({ a1 with p := a.p } : HA).p = a.row from z.symm, g.e] at this; cases this
      (generalize hz : upd Hc a.p _ = H2; obtain ⟨hh3, f3⟩ : HouseAt K H2 _ _ ∧ Fr _ H2 _ _ := (by rw [← hz]; exact wr_done hh1 f1 hd2); have k3 : KeepBut Hc H2 a.p := (by rw [← hz]; exact KeepBut.upd); clear hz)
      refine k H2 _ f3 hh3 g.er ?_
      rw [k3 _ _ nrow g.e, er]
end
end Wd
/-! ## P11 -/
set_option Elab.async false
set_option linter.all false
set_option maxRecDepth 100000
set_option maxHeartbeats 400000
namespace Wd
open PySem PySem.Spec PyProof.Rows L2 PySem.W PySem.SeqAt
/-- what a method gives: the house moved on, a new list of letters -/
structure Post (K : PySem.W.Frag) (H0 H : Hp) (a0 a : HA) (h : M.Hs) (r : Addr) (ls : List M.Lt) : Prop where
  f : Fr H0 H a0 a
  hh : HouseAt K H a h
  new : H0 r = none
  nr : r ∉ own a
  l : ∃ ws, H r = some (.lst ws) ∧ Paired (LtIs K H) ws ls
theorem HouseAt.not {K : PySem.W.Frag} {H : Hp} {a : HA} {h : M.Hs} (hh : HouseAt K H a h) {r : Addr} (e : H r = none) : r ∉ own a := fun m => by
  obtain ⟨o, q, _⟩ := hh.there r m
  rw [e] at q
  cases q
/-- a new list behind a house's move -/
theorem Post.mk1 {K : PySem.W.Frag} {H0 H1 H : Hp} {a0 a : HA} {h : M.Hs} {r : Addr} {ls : List M.Lt} {ws : List V} (f : Fr H0 H1 a0 a) (hh : HouseAt K H1 a h) (n : H1 r = none) (s : Same H1 H) (e : H r = some (.lst ws)) (l : Paired (LtIs K H) ws ls) : Post K H0 H a0 a h r ls :=
  ⟨f.same s, hh.same s, f.al _ n, hh.not n, ws, e, l⟩
def spLookDone (K : PySem.W.Frag) : Sp := fun vs H Q _ => ∃ (a : HA) (h h2 : M.Hs) (ls : List M.Lt), vs = [.ref a.p] ∧ HouseAt K H a h ∧ M.lookDone h = some (h2, ls) ∧ ∀ H' a' r, Post K H H' a a' h2 r ls → Q (.ref r) H'
theorem eqv_pls : ∀ r : List M.Pl, PyData.eqv (.list (r.map plD)) (.list ([].map plD)) = r.isEmpty
  | [] => rfl
  | _ :: _ => by simp [PyData.eqv, PyData.eqvAll]
theorem newly_last (h : M.Hs) (t : M.Thing) (r : M.Row) (e : M.newly h (M.mark h) = t :: r) : ∃ u, ((M.newly h (M.mark h)).map (·.1))[(M.newly h (M.mark h)).length - 1]? = some u ∧ u = M.lastOf (t :: r) := by
  obtain ⟨u, f1, f2⟩ := lastOf_at (t :: r) (by simp)
  refine ⟨u.1, ?_, f2.symm⟩
  rw [e, List.getElem?_map, f1]; rfl
theorem dic_vals {K : PySem.W.Frag} {H : Hp} : ∀ {kvs : List (Key × V)} {d : M.Dic}, DicAt K H kvs d → Paired (fun x q => Dp K H x (plD q)) (kvs.map (·.2)) (d.map (·.2))
  | _, _, .nil => .nil
  | _, _, .cons h t => .cons h.2 (dic_vals t)
theorem lookDone_some {h h2 : M.Hs} {ls : List M.Lt} {t : M.Thing} {r : M.Row} (e1 : M.isSettled h = true) (e2 : M.newly h (M.mark h) = t :: r) (hl : M.lookDone h = some (h2, ls)) :
    M.goOn h (M.lastOf (t :: r)) = some h2 ∧ ls = (M.others h).filterMap fun o => bif M.dhas h.taken o then some (M.Lt.done h.name o h.epoch (M.lastOf (t :: r))) else none := by
  unfold M.lookDone at hl
  rw [e1, e2] at hl
  cases e3 : M.goOn h (M.lastOf (t :: r)) with
  | none => simp [e3] at hl
  | some h' =>
    simp [e3] at hl
    exact ⟨by rw [hl.1], hl.2.symm⟩
theorem goOn_same {h h2 : M.Hs} {q : M.Pl} (e : M.goOn h q = some h2) : h2.name = h.name ∧ M.others h2 = M.others h ∧ h2.taken = h.taken ∧ h2.epoch = h.epoch := by
  unfold M.goOn at e
  cases c : Nat.ble (h.fresh + (M.newly h q).length) M.bnd with
  | false => rw [c] at e; cases e
  | true => rw [c] at e; cases e; exact ⟨rfl, rfl, rfl, rfl⟩
section
variable {P : Program} {w : World} {K : PySem.W.Frag} {mg : Str → Option Value} {base : Heap}
theorem ok_m_look_done (T : Txt w K mg) : Df P w K mg base 6 (hM K "look_done") ["self"] (spLookDone K) := by
  obtain ⟨fd_most_of, G_most_of, b_most_of, kp_most_of⟩ := ok_most_of (P := P) (w := w) (base := base) T
  obtain ⟨fd_m_is_settled, G_m_is_settled, b_m_is_settled, kp_m_is_settled⟩ := ok_m_is_settled (P := P) (w := w) (base := base) T
  obtain ⟨fd_m_go_on_to, G_m_go_on_to, b_m_go_on_to, kp_m_go_on_to⟩ := ok_m_go_on_to (P := P) (w := w) (base := base) T
  obtain ⟨fd_m_others, G_m_others, b_m_others, kp_m_others⟩ := ok_m_others (P := P) (w := w) (base := base) T
  obtain ⟨fd_m_say, ds_say, G_m_say, b_m_say, b_say0, d_say0, kp_m_say⟩ := ok_m_say (P := P) (w := w) (base := base) T
  refine df_mk T.f_m_look_done sc_m_look_done (fun vs H Q E h => ?_) (fun _ _ _ _ _ _ us hl => match us, hl with | [_], _ => rfl) (fun cdv A outer s H vs Q E hr h => ?_)
  · obtain ⟨a, h, h2, ls, rfl, _⟩ := h
    rfl
  · obtain ⟨a, h, h2, ls, rfl, hh, hl, k⟩ := h
    refine ⟨_, (pss_cons (ps_if (pt_not (pt_val (pe_meth0 (pv 0) T.cl T.me_is_settled G_m_is_settled (hr.mono (by decide)) b_m_is_settled .nil pass0))) (pss_one (ps_ret (pe_lst pa_nil))) pss_nil) (pss_cons (ps_set (i := 1) sc_m_look_done.nd rfl (Or.inl rfl) (pe_callBK (cr_sortVals rfl hr.units) (by rfl) T.b_sorted (by decide +kernel) (pa_cons (pe_vals (kFld rfl T.cl T.n_taken (pv 0))) pa_nil) (pk_cons pe_bl pk_nil))) (pss_cons (ps_set (i := 2) sc_m_look_done.nd rfl (Or.inr rfl) (pe_ix (kIxL rfl) (pv 1) (pe_op op_sub (pe_call G_most_of (hr.mono (by decide)) rfl T.g_most_of kp_most_of b_most_of .nil pass0 (pa_cons (kFld rfl T.cl T.n_own_members (pv 0)) pa_nil)) pe_int) (fun _ _ => rfl))) (pss_cons (ps_setLc (i := 4) (own := [("place", 3), ("entry", 5)]) (g := gTup K 2 (gCons (gName 3) (gCons (gName 5) gNil))) rfl sc_m_look_done.nd rfl rfl (sw_true rfl rfl rfl (by decide +kernel)) (pi_list (kFld rfl T.cl T.n_own_row (pv 0))) (blkOk_by (own := [("place", 3), ("entry", 5)]) (N := ["self", "marks", "mark", "place", "places", "entry", "other"]) (sc := defScope s_m_look_done) (by decide +kernel)) (fun _ _ _ _ _ => (kTup rfl rfl (pgs_cons (pg_name (i := 3) sc_m_look_done.nd rfl (Or.inl rfl)) (pgs_cons (pg_name (i := 5) sc_m_look_done.nd rfl (Or.inl rfl)) pgs_nil)))) (fun _ _ _ _ _ => (pts_one (pt_chain (kLt rfl hr.units) (kLe rfl hr.units) (kFld rfl T.cl T.n_own_done (pv 0)) (pv 3) (pv 2)))) (fun _ _ _ _ _ => (pv 3))) (pss_cons (ps_if (pt_cmpR (kEqD rfl hr.units) (pv 4) (pe_lst pa_nil) (nomark _)) (pss_one (ps_ret (pe_lst pa_nil))) pss_nil) (pss_cons (ps_set (i := 3) sc_m_look_done.nd rfl (Or.inr rfl) (pe_ix (kIxL rfl) (pv 4) (pe_un un_neg pe_int) (fun _ _ => rfl))) (pss_cons (ps_expr (pe_meth (pv 0) T.cl T.me_go_on_to G_m_go_on_to (hr.mono (by decide)) b_m_go_on_to .nil pass0 (pa_cons (pv 3) pa_nil))) (pss_one (ps_ret (pe_lc (own := [("other", 6)]) (g := gName 6) rfl sc_m_look_done.nd (pi_list (pe_meth0 (pv 0) T.cl T.me_others G_m_others (hr.mono (by decide)) b_m_others .nil pass0)) (blkOk_by (own := [("other", 6)]) (N := ["self", "marks", "mark", "place", "places", "entry", "other"]) (sc := defScope s_m_look_done) (by decide +kernel)) (fun _ _ _ _ _ => (pg_name (i := 6) sc_m_look_done.nd rfl (Or.inl rfl))) (fun _ _ _ _ _ => (pts_one (pt_cmp (pc_din (hu_of hr) (pv 6) (kFld rfl T.cl T.n_taken (pv 0))) (by rfl)))) (fun _ _ _ _ _ => (pe_meth (pv 0) T.cl T.me_say G_m_say (hr.mono (by decide)) b_m_say .nil pass0 (pa_cons pe_str (pa_cons (pv 6) (pa_cons (kFld rfl T.cl T.n_own_epoch (pv 0)) (pa_cons (pe_tup (pa_cons (pv 3) pa_nil)) pa_nil)))))))))))))))), ?_⟩
    rw [st_m_look_done]
    have hl0 := hl
    unfold M.lookDone at hl
    have nil : ∀ H1, Same H H1 → h2 = h → ls = [] → ∀ p, H1 p = none → Q (.ref p) (upd H1 p (.lst [])) := fun H1 s1 e1 e2 p hp => by
      subst e1 e2
      exact k _ a p (.mk1 (Fr.refl _ _) hh (s1.free hp) (s1.trans (same_new hp)) upd_same .nil)
    refine ⟨_, rfl, _, _, _, rfl, hh.ob, no_is_settled _ _, a, h, rfl, hh, _, rfl, ?_⟩
    cases c1 : M.isSettled h with
    | false =>
      rw [c1] at hl
      cases hl
      exact iteT ⟨Nat.zero_le _, nil H (Same.refl _) rfl rfl⟩
    | true =>
      rw [c1] at hl
      refine iteF ?_
      obtain ⟨kvs, et, dt⟩ := hh.ta
      refine ⟨_, rfl, _, _, _, _, rfl, hh.ob, lk_taken _ _, a.ta, kvs, rfl, et, fun p hp => ?_⟩
      (generalize hz : upd H p _ = H1; have s1 : Same H H1 := (by rw [← hz]; exact same_new hp); have h1 : H1 p = some _ := (by rw [← hz]; exact upd_same); clear hz)
      have dt1 := dt.kp (Kp.of s1)
      refine ⟨p, a.ta, kvs, h.taken.map (fun q : Nat × M.Pl => q.2), rfl, rfl, h1, s1 _ _ et, dic_vals dt1, by rw [List.length_map]; exact Nat.le_trans hh.tl (by decide), fun D ws hD hw => ?_⟩
      (generalize hz : upd H1 D _ = H2; have s2 : Same H1 H2 := (by rw [← hz]; exact same_new hD); have h2 : H2 D = some _ := (by rw [← hz]; exact upd_same); clear hz)
      have hw2 : Ds K plD H2 ws (M.sortD (h.taken.map (·.2))) := Ds.kp hw (Kp.of s2) noL_pl
      have hh2 := (hh.same s1).same s2
      have s02 := s1.trans s2
      clear hh h1 dt1 s1 s2
      simp only [List.set_cons_succ, List.set_cons_zero]
      have hmost : M.most h ≤ h.taken.length := by
        unfold M.isSettled at c1
        rw [Bool.and_eq_true] at c1
        exact Nat.ble_eq.mp c1.2
      have hsl : (M.sortD (h.taken.map (·.2))).length = h.taken.length := by rw [(sortD_perm _).length_eq, List.length_map]
      have hm1 : M.most h = h.mem.length / 2 + 1 := rfl
      have hix : (M.sortD (h.taken.map (·.2)))[M.most h - 1]? = some (M.mark h) := by
        have hlt : M.most h - 1 < (M.sortD (h.taken.map (·.2))).length := by omega
        rw [M.mark, List.getD_eq_getElem?_getD, List.getElem?_eq_getElem hlt]; rfl
      obtain ⟨mv, gm, dm⟩ := pd_get2 hw2 hix
      refine ⟨_, rfl, _, rfl, _, _, _, _, rfl, hh2.ob, lk_own_members _ _, a.mem, _, rfl, hh2.mm, _, _, rfl, rfl, D, _, _, _, rfl, rfl, SqL.of h2, at_of (j := M.most h - 1) (by rw [List.length_map]; omega) gm, ?_⟩
      simp only [List.set_cons_succ, List.set_cons_zero]
      obtain ⟨wr, er, dr⟩ := hh2.row
      refine ⟨_, rfl, _, _, _, _, rfl, hh2.ob, lk_own_row _ _, a.row, rfl, ⟨_, SqL.of er⟩, lc_any (fun t => if (M.plt h.done t.1 && M.ple t.1 (M.mark h)) = true then some t.1 else none) (fun H v (q : M.Pl) => Dp K H v (plD q)) (goes_list (SqL.of er) dr) (fun k h => Dp.kp k.kp _ _ (noL_pl _) h) (Nat.le_trans hh2.rl (by decide)) (fun x t H4 Qy Qn s4 f1 m1 ky kn => ?_) (fun D4 ws4 H4 hD4 s4 hw4 hp4 => ?_)⟩
      · have f2 := Dp.kp (Kp.of s4) _ _ (noL_th _) f1
        obtain ⟨b, y, z, rfl, ht, g1, g2⟩ := th_parts f2
        have hh4 := hh2.same s4
        have dm4 := Dp.kp (Kp.of s4) _ _ (noL_pl _) dm
        refine ⟨b, _, rfl, ht, rfl, _, _, rfl, _, _, rfl, rfl, rfl, _, rfl, _, _, _, _, rfl, hh4.ob, lk_own_done _ _, _, rfl, _, _, ord_pl hh4.dn g1, _, rfl, ?_⟩
        rw [lt_pl]
        cases c2 : M.plt h.done t.1 with
        | false => exact iteF ⟨_, rfl, iteF (kn (by rw [c2]; rfl) _ (Same.refl _))⟩
        | true =>
          refine iteT ⟨_, rfl, _, _, ord_pl g1 dm4, _, rfl, ?_⟩
          rw [lt_pl]
          cases c3 : M.plt (M.mark h) t.1 with
          | true => exact iteF (kn (by rw [c2, M.ple, c3]; rfl) _ (Same.refl _))
          | false => exact iteT ⟨_, rfl, ky _ _ _ (by rw [c2, M.ple, c3]; rfl) (Same.refl _) g1⟩
      have hp5 : Ds K plD H4 ws4 ((M.newly h (M.mark h)).map (·.1)) := by
        have e : h.row.filterMap (fun t => if (M.plt h.done t.1 && M.ple t.1 (M.mark h)) = true then some t.1 else none) = (M.newly h (M.mark h)).map (·.1) := fm_map h.row _ _
        rw [← e]; exact hp4
      have hh4 := hh2.same s4
      have s04 := s02.trans s4
      clear hp4 hD4 hh2 h2 s4 dm
      simp only [List.set_cons_succ, List.set_cons_zero]
      refine ⟨_, rfl, Nat.zero_le _, fun p hp => ?_⟩
      (generalize hz : upd H4 p _ = H5; have s5 : Same H4 H5 := (by rw [← hz]; exact same_new hp); have h5 : H5 p = some _ := (by rw [← hz]; exact upd_same); clear hz)
      have hh5 := hh4.same s5
      have hp6 := hp5.kp (Kp.of s5) noL_pl
      have hw5 := s5 _ _ hw4
      have s05 := s04.trans s5
      refine ⟨_, _, hp6.lst (SqL.of hw5), .lst (SqL.of h5) .nil, pls_shaped _, pls_shaped [], _, rfl, ?_⟩
      rw [show (PyData.list []) = .list (([] : List M.Pl).map plD) from rfl, eqv_pls]
      cases c2 : M.newly h (M.mark h) with
      | nil =>
        rw [c2] at hl
        cases hl
        exact iteT ⟨Nat.zero_le _, nil H5 s05 rfl rfl⟩
      | cons t0 r0 =>
        refine iteF ?_
        obtain ⟨u, f1, f2⟩ := newly_last h t0 r0 c2
        obtain ⟨c3, rfl⟩ := lookDone_some c1 c2 hl0
        have hlen := pd_len hp6
        rw [List.length_map] at hlen
        obtain ⟨x, g1, g2⟩ := pd_get2 hp6 f1
        refine ⟨_, rfl, _, rfl, D4, _, _, _, rfl, rfl, SqL.of hw5, atI_end (by rw [hlen]; exact g1), ?_⟩
        simp only [List.set_cons_succ, List.set_cons_zero]
        rw [f2] at g2
        refine ⟨_, rfl, _, _, _, rfl, hh5.ob, no_go_on_to _ _, _, rfl, a, h, x, _, h2, rfl, hh5, g2, c3, fun H6 a1 fr6 hh6 _ _ => ?_⟩
        obtain ⟨a1, rfl⟩ : ∃ b : HA, a1 = { b with p := a.p } := ⟨a1, HA.norm fr6.p⟩
        have f6 : Fr H H6 a { a1 with p := a.p } := ((Fr.refl H a).same s05).trans fr6
        obtain ⟨nm2, mem2, tak2, ep2⟩ := goOn_same c3
        have g6 := Dp.kp fr6.kp _ _ (noL_pl _) g2
        clear hh5 hp6 hw5 hp5 hh4 hw4
        refine ⟨_, rfl, _, _, _, rfl, hh6.ob, no_others _ _, { a1 with p := a.p }, h2, rfl, hh6, fun D7 H7 hD7 s7 e7 => ?_⟩
        have hh7 := hh6.same s7
        have g7 := Dp.kp (Kp.of s7) _ _ (noL_pl _) g6
        refine ⟨D7, rfl, ⟨_, SqL.of e7⟩, lc_any (fun o => bif M.dhas h2.taken o then some (M.Lt.done h2.name o h2.epoch (M.lastOf (t0 :: r0))) else none) (fun H v l => LtIs K H v l) (goes_list (SqL.of e7) (names_pd _)) (fun k h => h.kp k.kp) (Nat.le_trans (List.length_filter_le _ _) (by have := hh7.ml.2; omega)) (fun y o H8 Qy Qn s8 f1 m1 ky kn => ?_) (fun D8 ws8 H8 hD8 s8 hw8 hp8 => ?_)⟩
        · subst f1
          have hh8 := hh7.same s8
          obtain ⟨kv8, et8, dt8⟩ := hh8.ta
          refine ⟨rfl, _, rfl, _, rfl, _, _, _, _, rfl, hh8.ob, lk_taken _ _, _, _, rfl, DGet.k (k := nK o) et8, _, rfl, ?_⟩
          rw [dic_has dt8]
          cases c4 : M.dhas h2.taken o with
          | false => exact iteF (kn (by rw [c4]; rfl) _ (Same.refl _))
          | true =>
            have g8 := Dp.kp (Kp.of s8) _ _ (noL_pl _) g7
            have ho : o < 26 := hh8.mb _ (List.mem_filter.mp m1).1
            refine iteT ⟨_, rfl, _, _, _, rfl, hh8.ob, no_say _ _, _, rfl, _, rfl, _, _, _, _, rfl, hh8.ob, lk_own_epoch _ _, _, rfl, by show 1 ≤ sizeLine; decide, fun u hu => ?_⟩
            (generalize hz : upd H8 u _ = H9; have s9 : Same H8 H9 := (by rw [← hz]; exact same_new hu); have h9 : H9 u = some _ := (by rw [← hz]; exact upd_same); clear hz)
            refine ⟨{ a1 with p := a.p }, h2, _, _, _, u, _, rfl, hh8.same s9, SqT.of h9, by show 1 ≤ 10; decide, fun T4 H10 s10 q10 => ky _ _ _ (by rw [c4]; rfl) (s9.trans s10) ?_⟩
            exact ⟨lt_mk (l := .done h2.name o h2.epoch (M.lastOf (t0 :: r0))) q10 (.cons (Dp.kp (Kp.of (s9.trans s10)) _ _ (noL_pl _) g8) .nil), hh8.mb _ hh8.nm, ho, Nat.zero_le _⟩
        · refine k H8 _ D8 ⟨(f6.same s7).same s8, hh7.same s8, f6.al _ (s7.free hD8), hh7.not hD8, ws8, hw8, ?_⟩
          rw [← nm2, ← mem2, ← tak2, ← ep2]
          exact hp8
end
end Wd
/-! ## P12 -/
set_option Elab.async false
set_option linter.all false
set_option maxRecDepth 100000
set_option maxHeartbeats 400000
namespace Wd
open PySem PySem.Spec PyProof.Rows L2 PySem.W PySem.SeqAt
def spSeekH (K : PySem.W.Frag) : Sp := fun vs H Q _ => ∃ (a : HA) (h : M.Hs), vs = [.ref a.p] ∧ HouseAt K H a h ∧ ∀ H' a' r, Post K H H' a a' (M.seek h).1 r (M.seek h).2 → Q (.ref r) H'
def spLeadM (K : PySem.W.Frag) : Sp := fun vs H Q _ => ∃ (a : HA) (h h2 : M.Hs) (ls : List M.Lt), vs = [.ref a.p] ∧ HouseAt K H a h ∧ M.lead h = some (h2, ls) ∧ ∀ H' a' r, Post K H H' a a' h2 r ls → Q (.ref r) H'
/-- a new thing that is not the house's is written -/
theorem put_new {K : PySem.W.Frag} {H0 H1 : Hp} {a0 a : HA} {h : M.Hs} {b : Addr} {u o : HO} (hh : HouseAt K H1 a h) (f : Fr H0 H1 a0 a) (e : H1 b = some u) (nt : (∀ xs, u ≠ .tup xs) ∧ ∀ ob xs, u ≠ .frz ob (.tup xs)) (n0 : H0 b = none) (no : b ∉ own a) :
    HouseAt K (upd H1 b o) a h ∧ Fr H0 (upd H1 b o) a0 a := by
  have k : Kp H1 (upd H1 b o) := Kp.at e nt.1 nt.2
  refine ⟨hh.kept k fun c m q z => by rw [upd_ne (fun y => no (by rw [← y]; exact m))]; exact z, f.p, f.mem, fun c q z n => ?_, f.own, f.kp.trans k, fun c z => f.al c ?_⟩
  · rw [upd_ne (fun y => by rw [y, n0] at z; cases z)]
    exact f.keep c q z n
  · by_cases cb : c = b
    · subst cb; rw [upd_same] at z; cases z
    · rw [upd_ne cb] at z; exact z
theorem nown {a : HA} {b : Addr} (h : b ∉ own a) : b ≠ a.p ∧ b ≠ a.row ∧ b ≠ a.fr ∧ b ≠ a.pr ∧ b ≠ a.ta ∧ b ≠ a.n ∧ b ≠ a.s := by
  simpa [own] using h
theorem mapO_fm {α β : Type} {f : α → Option β} {p : α → Bool} : ∀ {l : List α} {ls : List β}, M.mapO f (l.filter p) = some ls → l.filterMap (fun o => bif p o then f o else none) = ls ∧ ∀ o ∈ l, p o = true → ∃ y, f o = some y
  | [], ls, e => by
    cases e
    exact ⟨rfl, fun o m => nomatch m⟩
  | x :: l, ls, e => by
    cases c : p x with
    | false =>
      rw [List.filter_cons_of_neg (by rw [c]; decide)] at e
      obtain ⟨h1, h2⟩ := mapO_fm e
      refine ⟨by rw [List.filterMap_cons, c]; exact h1, fun o m q => ?_⟩
      rcases List.mem_cons.mp m with rfl | m
      · rw [c] at q; cases q
      · exact h2 o m q
    | true =>
      rw [List.filter_cons_of_pos c, M.mapO] at e
      cases ef : f x with
      | none => rw [ef] at e; cases e
      | some y =>
        rw [ef] at e
        cases eg : M.mapO f (l.filter p) with
        | none => rw [eg] at e; cases e
        | some ys =>
          rw [eg] at e
          cases e
          obtain ⟨h1, h2⟩ := mapO_fm eg
          refine ⟨by rw [List.filterMap_cons, c]; show (match f x with | none => _ | some b => _) = _; rw [ef]; exact congrArg _ h1, fun o m q => ?_⟩
          rcases List.mem_cons.mp m with rfl | m
          · exact ⟨y, ef⟩
          · exact h2 o m q
theorem lookDone_len {h h2 : M.Hs} {ls : List M.Lt} (e : M.lookDone h = some (h2, ls)) : ls.length ≤ (M.others h).length := by
  cases c1 : M.isSettled h with
  | false => unfold M.lookDone at e; rw [c1] at e; cases e; exact Nat.zero_le _
  | true =>
    cases c2 : M.newly h (M.mark h) with
    | nil => unfold M.lookDone at e; rw [c1, c2] at e; cases e; exact Nat.zero_le _
    | cons t r => rw [(lookDone_some c1 c2 e).2]; exact List.length_filterMap_le _ _
section
variable {P : Program} {w : World} {K : PySem.W.Frag} {mg : Str → Option Value} {base : Heap}
theorem ok_m_seek (T : Txt w K mg) : Df P w K mg base 3 (hM K "seek") ["self"] (spSeekH K) := by
  obtain ⟨fd_most_of, G_most_of, b_most_of, kp_most_of⟩ := ok_most_of (P := P) (w := w) (base := base) T
  obtain ⟨fd_m_stand_down, G_m_stand_down, b_m_stand_down, kp_m_stand_down⟩ := okh_stand_down (P := P) (w := w) (base := base) T
  obtain ⟨fd_m_last, G_m_last, b_m_last, kp_m_last⟩ := ok_m_last (P := P) (w := w) (base := base) T
  obtain ⟨fd_m_others, G_m_others, b_m_others, kp_m_others⟩ := ok_m_others (P := P) (w := w) (base := base) T
  obtain ⟨fd_m_say, ds_say, G_m_say, b_m_say, b_say0, d_say0, kp_m_say⟩ := ok_m_say (P := P) (w := w) (base := base) T
  refine df_mk T.f_m_seek sc_m_seek (fun vs H Q E h => ?_) (fun _ _ _ _ _ _ us hl => match us, hl with | [_], _ => rfl) (fun cdv A outer s H vs Q E hr h => ?_)
  · obtain ⟨a, h, rfl, _⟩ := h
    rfl
  · obtain ⟨a, h, rfl, hh, k⟩ := h
    refine ⟨_, (pss_cons (ps_expr (pe_meth0 (pv 0) T.cl T.me_stand_down G_m_stand_down (hr.mono (by decide)) b_m_stand_down .nil pass0)) (pss_cons (kAug rfl T.cl T.n_own_promised (pv 0) pe_int) (pss_cons (kSet rfl T.cl T.n_sought (pv 0) (kFld rfl T.cl T.n_own_promised (pv 0)) rfl) (pss_cons (kSet rfl T.cl T.n_promises (pv 0) (pe_disp (pps_cons (kFld rfl T.cl T.n_own_name (pv 0)) (pe_meth0 (pv 0) T.cl T.me_last G_m_last (hr.mono (by decide)) b_m_last .nil pass0) pps_nil) (by rfl) (by rfl) (fun z => by cases z) (by decide)) rfl) (pss_cons (ps_if (pt_cmpR op_eq (pe_call G_most_of (hr.mono (by decide)) rfl T.g_most_of kp_most_of b_most_of .nil pass0 (pa_cons (kFld rfl T.cl T.n_own_members (pv 0)) pa_nil)) pe_int (nomark _)) pss_never pss_nil) (pss_one (ps_ret (pe_lc (own := [("other", 1)]) (g := gName 1) rfl sc_m_seek.nd (pi_list (pe_meth0 (pv 0) T.cl T.me_others G_m_others (hr.mono (by decide)) b_m_others .nil pass0)) (blkOk_by (own := [("other", 1)]) (N := ["self", "other"]) (sc := defScope s_m_seek) (by decide +kernel)) (fun _ _ _ _ _ => (pg_name (i := 1) sc_m_seek.nd rfl (Or.inl rfl))) (fun _ _ _ _ _ => pts_nil) (fun _ _ _ _ _ => (pe_meth (pv 0) T.cl T.me_say G_m_say (hr.mono (by decide)) b_m_say .nil pass0 (pa_cons pe_str (pa_cons (pv 1) (pa_cons (kFld rfl T.cl T.n_sought (pv 0)) (pa_cons (pe_tup (pa_cons (kFld rfl T.cl T.n_own_epoch (pv 0)) (pa_cons (pe_meth0 (pv 0) T.cl T.me_last G_m_last (hr.mono (by decide)) b_m_last .nil pass0) pa_nil))) pa_nil)))))))))))))), ?_⟩
    rw [st_m_seek]
    refine ⟨_, rfl, _, _, _, rfl, hh.ob, no_stand_down _ _, a, h, rfl, hh, fun H1 a1 f1 hh1 => ?_⟩
    obtain ⟨a1, rfl⟩ : ∃ b : HA, a1 = { b with p := a.p } := ⟨a1, HA.norm f1.p⟩
    refine ⟨_, rfl, _, _, _, _, rfl, hh1.ob, lk_own_promised _ _, _, _, rfl, rfl, _, _, hh1.ob, hof_1000 _ _, ?_⟩
    (generalize hz : upd H1 a.p _ = H2; obtain ⟨hh2, f2⟩ : HouseAt K H2 _ _ ∧ Fr _ H2 _ _ := (by rw [← hz]; exact wr_promised hh1 f1 (h.promised + 1)); clear hz)
    refine ⟨_, rfl, _, _, _, _, rfl, hh2.ob, lk_own_promised _ _, _, rfl, _, _, _, rfl, hh2.ob, hof_1000 _ _, ?_⟩
    (generalize hz : upd H2 a.p _ = H3; obtain ⟨hh3, f3⟩ : HouseAt K H3 _ _ ∧ Fr _ H3 _ _ := (by rw [← hz]; exact wr_sought hh2 f2 (some (h.promised + 1))); clear hz)
    clear hh1 f1 hh2 f2 hh
    refine fun pd hpd => ?_
    (generalize hz : upd H3 pd _ = H4; have s4 : Same H3 H4 := (by rw [← hz]; exact same_new hpd); have h4 : H4 pd = some _ := (by rw [← hz]; exact upd_same); clear hz)
    have hh4 := hh3.same s4
    refine ⟨_, rfl, _, _, _, _, rfl, hh4.ob, lk_own_name _ _, _, rfl, _, _, _, rfl, hh4.ob, no_last _ _, { a1 with p := a.p }, _, rfl, hh4, fun v H5 s5 dv => ?_⟩
    have hh5 := hh4.same s5
    have h5 := s5 _ _ h4
    have fp := (f3.same s4).same s5
    refine ⟨h5, [(nK h.name, v)], rfl, by show 1 ≤ 15; decide, ?_⟩
    have kp6 : Kp H5 (upd H5 pd (.dK [(nK h.name, v)])) := Kp.at h5 nt_dK.1 nt_dK.2
    have dv6 := Dp.kp kp6 _ _ (noL_pl _) dv
    obtain ⟨hh6, f6⟩ := put_new (o := .dK [(nK h.name, v)]) hh5 fp h5 nt_dK (f3.al _ hpd) (hh3.not hpd)
    have h6 : (upd H5 pd (.dK [(nK h.name, v)])) pd = some (.dK [(nK h.name, v)]) := upd_same
    have em : mergeK [] [(nK h.name, v)] = [(nK h.name, v)] := rfl
    rw [em]
    generalize upd H5 pd (.dK [(nK h.name, v)]) = H6 at *
    have no := nown (hh3.not hpd)
    refine ⟨_, rfl, _, _, _, rfl, hh6.ob, hof_1000 _ _, ?_⟩
    (generalize hz : upd H6 a.p _ = H7; obtain ⟨hh7, f7⟩ : HouseAt K H7 _ _ ∧ Fr _ H7 _ _ := (by rw [← hz]; exact wr_prom hh6 f6 h6 (d := [(h.name, M.last h)]) (.cons ⟨rfl, dv6⟩ .nil) (by show 1 ≤ 1000; decide) (f3.al _ hpd) no.2.2.2.2.1 no.2.2.2.2.2.1 no.2.2.2.2.2.2); clear hz)
    clear hh6 f6 h6 kp6 dv6 em hh5 fp h5 dv s5 hh4 s4 h4 hh3 f3 hpd no
    have hb : (h.mem.length / 2 + 1 : Nat) ≠ 1 := by have := hh7.ml.1; change 2 ≤ h.mem.length at this; omega
    refine ⟨_, rfl, _, _, _, _, rfl, hh7.ob, lk_own_members _ _, _, _, rfl, hh7.mm, rfl, false, bF ?_, iteF ?_⟩
    · intro z
      have z2 := V.int.inj z
      rw [List.length_map] at z2
      exact hb (by exact_mod_cast z2)
    obtain ⟨a2, hh7, f7⟩ : ∃ a2 : HA, HouseAt K H7 { a2 with p := a.p } (M.seek h).1 ∧ Fr H H7 a { a2 with p := a.p } := ⟨{ a1 with pr := pd }, hh7, f7⟩
    have e1 : (M.seek h).2 = (M.others (M.seek h).1).map fun o => .seek (M.seek h).1.name o (M.seek h).1.promised (M.seek h).1.epoch (M.last (M.seek h).1) := rfl
    have e2 : (M.seek h).1.sought = some (M.seek h).1.promised := rfl
    rw [e1] at k
    generalize (M.seek h).1 = h7 at *
    refine ⟨_, rfl, _, _, _, rfl, hh7.ob, no_others _ _, { a2 with p := a.p }, h7, rfl, hh7, fun D8 H8 hD8 s8 e8 => ?_⟩
    have hh8 := hh7.same s8
    refine ⟨D8, rfl, ⟨_, SqL.of e8⟩, lc_any (fun o => some (M.Lt.seek h7.name o h7.promised h7.epoch (M.last h7))) (fun H v l => LtIs K H v l) (goes_list (SqL.of e8) (names_pd _)) (fun k h => h.kp k.kp) (Nat.le_trans (List.length_filter_le _ _) (by have := hh8.ml.2; omega)) (fun y o H9 Qy Qn s9 g1 m1 ky kn => ?_) (fun D9 ws9 H9 hD9 s9 hw9 hp9 => ?_)⟩
    · subst g1
      have hh9 := hh8.same s9
      have ho : o < 26 := hh9.mb _ (List.mem_filter.mp m1).1
      refine ⟨rfl, _, rfl, _, _, _, rfl, hh9.ob, no_say _ _, _, rfl, _, rfl, _, _, _, _, rfl, hh9.ob, lk_sought _ _, _, rfl, _, _, _, _, rfl, hh9.ob, lk_own_epoch _ _, _, rfl, _, _, _, rfl, hh9.ob, no_last _ _, { a2 with p := a.p }, h7, rfl, hh9, fun v H10 s10 dv => ⟨by show 2 ≤ sizeLine; decide, fun u hu => ?_⟩⟩
      (generalize hz : upd H10 u _ = H11; have s11 : Same H10 H11 := (by rw [← hz]; exact same_new hu); have h11 : H11 u = some _ := (by rw [← hz]; exact upd_same); clear hz)
      rw [e2]
      refine ⟨{ a2 with p := a.p }, h7, _, _, _, u, _, rfl, (hh9.same s10).same s11, SqT.of h11, by show 2 ≤ 10; decide, fun T4 H12 s12 q12 => ky _ _ _ rfl (s10.trans (s11.trans s12)) ?_⟩
      exact ⟨lt_mk (l := .seek h7.name o h7.promised h7.epoch (M.last h7)) q12 (.cons (.int _) (.cons (Dp.kp (Kp.of (s11.trans s12)) _ _ (noL_pl _) dv) .nil)), hh9.mb _ hh9.nm, ho, Nat.zero_le _⟩
    · refine k H9 _ D9 (.mk1 (f7.same s8) hh8 hD9 s9 hw9 ?_)
      rw [← List.filterMap_eq_map]
      exact hp9
theorem ok_m_lead (T : Txt w K mg) : Df P w K mg base 7 (hM K "lead") ["self"] (spLeadM K) := by
  obtain ⟨fd_m_last, G_m_last, b_m_last, kp_m_last⟩ := ok_m_last (P := P) (w := w) (base := base) T
  obtain ⟨fd_m_others, G_m_others, b_m_others, kp_m_others⟩ := ok_m_others (P := P) (w := w) (base := base) T
  obtain ⟨fd_m_sync_for, G_m_sync_for, b_m_sync_for, kp_m_sync_for⟩ := ok_m_sync_for (P := P) (w := w) (base := base) T
  obtain ⟨fd_m_look_done, G_m_look_done, b_m_look_done, kp_m_look_done⟩ := ok_m_look_done (P := P) (w := w) (base := base) T
  refine df_mk T.f_m_lead sc_m_lead (fun vs H Q E h => ?_) (fun _ _ _ _ _ _ us hl => match us, hl with | [_], _ => rfl) (fun cdv A outer s H vs Q E hr h => ?_)
  · obtain ⟨a, h, h2, ls, rfl, _⟩ := h
    rfl
  · obtain ⟨a, h, h2, ls, rfl, hh, hl, k⟩ := h
    refine ⟨_, (pss_cons (kSet rfl T.cl T.n_own_role (pv 0) pe_str rfl) (pss_cons (kSet rfl T.cl T.n_own_head (pv 0) (kFld rfl T.cl T.n_own_name (pv 0)) rfl) (pss_cons (kSet rfl T.cl T.n_own_epoch (pv 0) (kFld rfl T.cl T.n_own_promised (pv 0)) rfl) (pss_cons (kSet rfl T.cl T.n_taken (pv 0) (pe_disp (pps_cons (kFld rfl T.cl T.n_own_name (pv 0)) (pe_meth0 (pv 0) T.cl T.me_last G_m_last (hr.mono (by decide)) b_m_last .nil pass0) pps_nil) (by rfl) (by rfl) (fun z => by cases z) (by decide)) rfl) (pss_cons (ps_setLc (i := 1) (own := [("other", 2)]) (g := gName 2) rfl sc_m_lead.nd rfl rfl (sw_true rfl rfl rfl (by decide +kernel)) (pi_list (pe_meth0 (pv 0) T.cl T.me_others G_m_others (hr.mono (by decide)) b_m_others .nil pass0)) (blkOk_by (own := [("other", 2)]) (N := ["self", "letters", "other"]) (sc := defScope s_m_lead) (by decide +kernel)) (fun _ _ _ _ _ => (pg_name (i := 2) sc_m_lead.nd rfl (Or.inl rfl))) (fun _ _ _ _ _ => (pts_one (pt_cmp (pc_din (hu_of hr) (pv 2) (kFld rfl T.cl T.n_promises (pv 0))) (by rfl)))) (fun _ _ _ _ _ => (pe_meth (pv 0) T.cl T.me_sync_for G_m_sync_for (hr.mono (by decide)) b_m_sync_for .nil pass0 (pa_cons (pv 2) pa_nil)))) (pss_one (ps_ret (pe_op (op_cat) (pv 1) (pe_meth0 (pv 0) T.cl T.me_look_done G_m_look_done (hr.mono (by decide)) b_m_look_done .nil pass0))))))))), ?_⟩
    rw [st_m_lead]
    refine ⟨_, rfl, _, _, _, rfl, hh.ob, hof_1000 _ _, ?_⟩
    (generalize hz : upd H a.p _ = H1; obtain ⟨hh1, f1⟩ : HouseAt K H1 _ _ ∧ Fr _ H1 _ _ := (by rw [← hz]; exact wr_role hh (Fr.refl _ _) .leads); clear hz)
    refine ⟨_, rfl, _, _, _, _, rfl, hh1.ob, lk_own_name _ _, _, rfl, _, _, _, rfl, hh1.ob, hof_1000 _ _, ?_⟩
    (generalize hz : upd H1 a.p _ = H2; obtain ⟨hh2, f2⟩ : HouseAt K H2 _ _ ∧ Fr _ H2 _ _ := (by rw [← hz]; exact wr_head hh1 f1 (some h.name)); clear hz)
    refine ⟨_, rfl, _, _, _, _, rfl, hh2.ob, lk_own_promised _ _, _, rfl, _, _, _, rfl, hh2.ob, hof_1000 _ _, ?_⟩
    (generalize hz : upd H2 a.p _ = H3; obtain ⟨hh3, f3⟩ : HouseAt K H3 _ _ ∧ Fr _ H3 _ _ := (by rw [← hz]; exact wr_epoch hh2 f2 h.promised); clear hz)
    clear hh1 f1 hh2 f2
    refine fun pd hpd => ?_
    (generalize hz : upd H3 pd _ = H4; have s4 : Same H3 H4 := (by rw [← hz]; exact same_new hpd); have h4 : H4 pd = some _ := (by rw [← hz]; exact upd_same); clear hz)
    have hh4 := hh3.same s4
    refine ⟨_, rfl, _, _, _, _, rfl, hh4.ob, lk_own_name _ _, _, rfl, _, _, _, rfl, hh4.ob, no_last _ _, a, _, rfl, hh4, fun v H5 s5 dv => ?_⟩
    have hh5 := hh4.same s5
    have h5 := s5 _ _ h4
    have fp := (f3.same s4).same s5
    refine ⟨h5, [(nK h.name, v)], rfl, by show 1 ≤ 15; decide, ?_⟩
    have kp6 : Kp H5 (upd H5 pd (.dK [(nK h.name, v)])) := Kp.at h5 nt_dK.1 nt_dK.2
    have dv6 := Dp.kp kp6 _ _ (noL_pl _) dv
    obtain ⟨hh6, f6⟩ := put_new (o := .dK [(nK h.name, v)]) hh5 fp h5 nt_dK (f3.al _ hpd) (hh3.not hpd)
    have h6 : (upd H5 pd (.dK [(nK h.name, v)])) pd = some (.dK [(nK h.name, v)]) := upd_same
    have em : mergeK [] [(nK h.name, v)] = [(nK h.name, v)] := rfl
    rw [em]
    generalize upd H5 pd (.dK [(nK h.name, v)]) = H6 at *
    have no := nown (hh3.not hpd)
    refine ⟨_, rfl, _, _, _, rfl, hh6.ob, hof_1000 _ _, ?_⟩
    (generalize hz : upd H6 a.p _ = H7; obtain ⟨hh7, f7⟩ : HouseAt K H7 _ _ ∧ Fr _ H7 _ _ := (by rw [← hz]; exact wr_take hh6 f6 h6 (d := [(h.name, M.last h)]) (.cons ⟨rfl, dv6⟩ .nil) (by show 1 ≤ 1000; decide) (f3.al _ hpd) no.2.2.2.1 no.2.2.2.2.2.1 no.2.2.2.2.2.2); clear hz)
    clear hh6 f6 h6 kp6 dv6 em hh5 fp h5 dv s5 hh4 s4 h4 hh3 f3 hpd no
    obtain ⟨h7, e7, hl⟩ : ∃ h7 : M.Hs, { h with role := .leads, head := some h.name, epoch := h.promised, taken := [(h.name, M.last h)] } = h7 ∧ (match M.mapO (M.syncFor h7) ((M.others h7).filter fun o => M.dhas h7.promises o) with
      | none => none
      | some ls => match M.lookDone h7 with
        | none => none
        | some (h', ds) => some (h', ls ++ ds)) = some (h2, ls) := ⟨_, rfl, hl⟩
    obtain ⟨a2, hh7, f7⟩ : ∃ a2 : HA, HouseAt K H7 { a2 with p := a.p } h7 ∧ Fr H H7 a { a2 with p := a.p } := ⟨{ a with ta := pd }, by rw [← e7]; exact hh7, f7⟩
    clear e7
    cases em : M.mapO (M.syncFor h7) ((M.others h7).filter fun o => M.dhas h7.promises o) with
    | none => rw [em] at hl; cases hl
    | some l1 =>
      rw [em] at hl
      cases ed : M.lookDone h7 with
      | none =>
        rw [ed] at hl; cases hl
      | some q =>
        obtain ⟨h8, l2⟩ := q
        rw [ed] at hl
        cases hl
        obtain ⟨em1, em2⟩ := mapO_fm em
        refine ⟨_, rfl, _, _, _, rfl, hh7.ob, no_others _ _, { a2 with p := a.p }, h7, rfl, hh7, fun D8 H8 hD8 s8 e8 => ?_⟩
        have hh8 := hh7.same s8
        have hol : (M.others h7).length ≤ 7 := Nat.le_trans (List.length_filter_le _ _) hh8.ml.2
        refine ⟨D8, rfl, ⟨_, SqL.of e8⟩, lc_any (fun o => bif M.dhas h7.promises o then M.syncFor h7 o else none) (fun H v l => LtIs K H v l) (goes_list (SqL.of e8) (names_pd _)) (fun k h => h.kp k.kp) (by omega) (fun y o H9 Qy Qn s9 g1 m1 ky kn => ?_) (fun D9 ws9 H9 hD9 s9 hw9 hp9 => ?_)⟩
        · subst g1
          have hh9 := hh8.same s9
          have ho : o < 26 := hh9.mb _ (List.mem_filter.mp m1).1
          obtain ⟨kv9, ep9, dp9⟩ := hh9.pr
          refine ⟨rfl, _, rfl, _, rfl, _, _, _, _, rfl, hh9.ob, lk_promises _ _, _, _, rfl, DGet.k (k := nK o) ep9, _, rfl, ?_⟩
          rw [dic_has dp9]
          cases c4 : M.dhas h7.promises o with
          | false => exact iteF (kn (by rw [c4]; rfl) _ (Same.refl _))
          | true =>
            obtain ⟨l, el⟩ := em2 o m1 c4
            exact iteT ⟨_, rfl, _, _, _, rfl, hh9.ob, no_sync_for _ _, _, rfl, { a2 with p := a.p }, h7, o, l, rfl, hh9, ho, el, fun v H10 s10 q10 => ky _ _ _ (by rw [c4]; exact el) s10 q10⟩
        · rw [em1] at hp9
          simp only [List.set_cons_succ, List.set_cons_zero]
          have hh9 := hh8.same s9
          have hlen := pd_len hp9
          have l1l : l1.length ≤ 7 := by rw [← em1]; exact Nat.le_trans (List.length_filterMap_le _ _) hol
          have l2l : l2.length ≤ 7 := Nat.le_trans (lookDone_len ed) hol
          refine ⟨_, rfl, _, rfl, _, _, _, rfl, hh9.ob, no_look_done _ _, { a2 with p := a.p }, h7, _, l2, rfl, hh9, ed, fun H10 a3 r3 po => ?_⟩
          obtain ⟨wd, er, hp3⟩ := po.l
          have hk9 := po.f.keep _ _ hw9 (hh8.not hD9)
          refine ⟨D9, r3, ws9, wd, rfl, rfl, hk9, er, ?_, fun p hp => ?_⟩
          · have hl3 := pd_len hp3
            exact Nat.le_trans (show ws9.length + wd.length ≤ 14 by omega) (by decide)
          · refine k _ a3 p (.mk1 (((f7.same s8).same s9).trans po.f) po.hh hp (same_new hp) upd_same ?_)
            exact pd_mono (pd_app (pd_mono hp9 fun _ _ q => q.kp po.f.kp) hp3) fun _ _ q => q.kp (Kp.of (same_new hp))
end
end Wd
/-! ## P13 -/
set_option Elab.async false
set_option linter.all false
set_option maxRecDepth 100000
set_option maxHeartbeats 400000
namespace Wd
open PySem PySem.Spec PyProof.Rows L2 PySem.W PySem.SeqAt
def spPut (K : PySem.W.Frag) : Sp := fun vs H Q _ => ∃ (a : HA) (h h2 : M.Hs) (ls : List M.Lt) (ev : V) (e : M.En), vs = [.ref a.p, ev] ∧ HouseAt K H a h ∧ Dp K H ev (enD e) ∧ M.put h e = some (h2, ls) ∧ ∀ H' a' r, Post K H H' a a' h2 r ls → Q (.ref r) H'
def spBeatFor (K : PySem.W.Frag) : Sp := fun vs H Q _ => ∃ (a : HA) (h : M.Hs) (o : Nat) (ls : List M.Lt), vs = [.ref a.p, .str (nm o)] ∧ HouseAt K H a h ∧ o < 26 ∧ M.beatFor h o = some ls ∧ ∀ H' r ws, H r = none → Same H H' → H' r = some (.lst ws) → Paired (LtIs K H') ws ls → Q (.ref r) H'
theorem put_parts {h h2 : M.Hs} {e : M.En} {ls : List M.Lt} (hp : M.put h e = some (h2, ls)) : M.isSettled h = true ∧ h.row.length < 1000 ∧ h.taken.length < 1000 ∧ ∃ h3 h4 ds, h3 = { h with row := h.row ++ [(M.nextPlace h, e)], taken := M.dput h.taken h.name (M.nextPlace h) } ∧ M.lookDone h3 = some (h4, ds) ∧ h2 = h4 ∧
    ls = (((M.others h3).filter fun o => M.dhas h3.taken o).map fun o => M.Lt.propose h3.name o h3.epoch (M.last h) (M.nextPlace h) e) ++ ds := by
  unfold M.put at hp
  cases c : (M.isSettled h && (Nat.blt h.row.length M.bnd && Nat.blt h.taken.length M.bnd)) with
  | false => rw [c] at hp; cases hp
  | true =>
    rw [c] at hp
    rw [Bool.and_eq_true, Bool.and_eq_true] at c
    refine ⟨c.1, Nat.blt_eq.mp c.2.1, Nat.blt_eq.mp c.2.2, { h with row := h.row ++ [(M.nextPlace h, e)], taken := M.dput h.taken h.name (M.nextPlace h) }, ?_⟩
    cases ed : M.lookDone { h with row := h.row ++ [(M.nextPlace h, e)], taken := M.dput h.taken h.name (M.nextPlace h) } with
    | none => simp [ed] at hp
    | some q =>
      obtain ⟨h4, ds⟩ := q
      simp [ed] at hp
      exact ⟨h4, ds, rfl, rfl, hp.1.symm, hp.2.symm⟩
theorem dput_len (d : M.Dic) (x : Nat) (p : M.Pl) : (M.dput d x p).length ≤ d.length + 1 := by
  unfold M.dput
  cases M.dhas d x with
  | true => show (d.map _).length ≤ _; rw [List.length_map]; exact Nat.le_succ _
  | false => show (d ++ [(x, p)]).length ≤ _; rw [List.length_append]; exact Nat.le_refl _
theorem ite_same {k : Bool} {A B : VK → Prop} {Q : VK} {H : Hp} (x : V) (h : Q x H) (hA : k = true → ∀ Q : VK, Q x H → A Q) (hB : k = false → ∀ Q : VK, Q x H → B Q) : if k = true then A Q else B Q := by
  cases k with
  | true => exact iteT (hA rfl Q h)
  | false => exact iteF (hB rfl Q h)
section
variable {P : Program} {w : World} {K : PySem.W.Frag} {mg : Str → Option Value} {base : Heap}
theorem ok_m_put (T : Txt w K mg) : Df P w K mg base 7 (hM K "put") ["self", "entry"] (spPut K) := by
  obtain ⟨fd_is_entry, G_is_entry, b_is_entry, kp_is_entry⟩ := ok_is_entry (P := P) (w := w) (base := base) T
  obtain ⟨fd_m_is_settled, G_m_is_settled, b_m_is_settled, kp_m_is_settled⟩ := ok_m_is_settled (P := P) (w := w) (base := base) T
  obtain ⟨fd_m_last, G_m_last, b_m_last, kp_m_last⟩ := ok_m_last (P := P) (w := w) (base := base) T
  obtain ⟨fd_m_others, G_m_others, b_m_others, kp_m_others⟩ := ok_m_others (P := P) (w := w) (base := base) T
  obtain ⟨fd_m_say, ds_say, G_m_say, b_m_say, b_say0, d_say0, kp_m_say⟩ := ok_m_say (P := P) (w := w) (base := base) T
  obtain ⟨fd_m_look_done, G_m_look_done, b_m_look_done, kp_m_look_done⟩ := ok_m_look_done (P := P) (w := w) (base := base) T
  refine df_mk T.f_m_put sc_m_put (fun vs H Q E h => ?_) (fun _ _ _ _ _ _ us hl => match us, hl with | [_, _], _ => rfl) (fun cdv A outer s H vs Q E hr h => ?_)
  · obtain ⟨a, h, h2, ls, ev, e, rfl, _⟩ := h
    rfl
  · obtain ⟨a, h, h2, ls, ev, e, rfl, hh, he, hp, k⟩ := h
    refine ⟨_, (pss_cons (ps_if (pt_not (pt_val (pe_call G_is_entry (hr.mono (by decide)) rfl T.g_is_entry kp_is_entry b_is_entry .nil pass0 (pa_cons (pv 1) pa_nil)))) pss_never pss_nil) (pss_cons (ps_if (pt_not (pt_val (pe_meth0 (pv 0) T.cl T.me_is_settled G_m_is_settled (hr.mono (by decide)) b_m_is_settled .nil pass0))) pss_never pss_nil) (pss_cons (ps_set (i := 2) sc_m_put.nd rfl (Or.inr rfl) (pe_meth0 (pv 0) T.cl T.me_last G_m_last (hr.mono (by decide)) b_m_last .nil pass0)) (pss_cons (ps_set (i := 3) sc_m_put.nd rfl (Or.inl rfl) (pe_ifExp (pt_cmpR op_eq (pe_ix (kIxT rfl) (pv 2) pe_int (fun _ _ => rfl)) (kFld rfl T.cl T.n_own_epoch (pv 0)) (nomark _)) (pe_op op_add (pe_ix (kIxT rfl) (pv 2) pe_int (fun _ _ => rfl)) pe_int) pe_int)) (pss_cons (ps_set (i := 4) sc_m_put.nd rfl (Or.inr rfl) (pe_tup (pa_cons (kFld rfl T.cl T.n_own_epoch (pv 0)) (pa_cons (pv 3) pa_nil)))) (pss_cons (ps_expr (pe_bm PySem.F.plainAttrs_list PySem.F.slot_list_append PySem.F.type_list_append mt_append (kFld rfl T.cl T.n_own_row (pv 0)) (pa_cons (pe_tup (pa_cons (pv 4) (pa_cons (pv 1) pa_nil))) pa_nil))) (pss_cons (ps_dput (hu_of hr) (kFld rfl T.cl T.n_taken (pv 0)) (kFld rfl T.cl T.n_own_name (pv 0)) (pv 4) rfl) (pss_cons (ps_setLc (i := 5) (own := [("other", 7)]) (g := gName 7) rfl sc_m_put.nd rfl rfl (sw_true rfl rfl rfl (by decide +kernel)) (pi_list (pe_meth0 (pv 0) T.cl T.me_others G_m_others (hr.mono (by decide)) b_m_others .nil pass0)) (blkOk_by (own := [("other", 7)]) (N := ["self", "entry", "prior", "number", "place", "some", "letters", "other"]) (sc := defScope s_m_put) (by decide +kernel)) (fun _ _ _ _ _ => (pg_name (i := 7) sc_m_put.nd rfl (Or.inl rfl))) (fun _ _ _ _ _ => (pts_one (pt_cmp (pc_din (hu_of hr) (pv 7) (kFld rfl T.cl T.n_taken (pv 0))) (by rfl)))) (fun _ _ _ _ _ => (pv 7))) (pss_cons (ps_setLc (i := 6) (own := [("other", 7)]) (g := gName 7) rfl sc_m_put.nd rfl rfl (sw_true rfl rfl rfl (by decide +kernel)) (pi_list (pv 5)) (blkOk_by (own := [("other", 7)]) (N := ["self", "entry", "prior", "number", "place", "some", "letters", "other"]) (sc := defScope s_m_put) (by decide +kernel)) (fun _ _ _ _ _ => (pg_name (i := 7) sc_m_put.nd rfl (Or.inl rfl))) (fun _ _ _ _ _ => pts_nil) (fun _ _ _ _ _ => (pe_meth (pv 0) T.cl T.me_say G_m_say (hr.mono (by decide)) b_m_say .nil pass0 (pa_cons pe_str (pa_cons (pv 7) (pa_cons (kFld rfl T.cl T.n_own_epoch (pv 0)) (pa_cons (pe_tup (pa_cons (pv 2) (pa_cons (pv 4) (pa_cons (pv 1) pa_nil)))) pa_nil))))))) (pss_one (ps_ret (pe_op op_cat (pv 6) (pe_meth0 (pv 0) T.cl T.me_look_done G_m_look_done (hr.mono (by decide)) b_m_look_done .nil pass0))))))))))))), ?_⟩
    rw [st_m_put]
    obtain ⟨hset, hrl, htl, h3, h4, ds, e3, ed, rfl, rfl⟩ := put_parts hp
    refine ⟨_, rfl, ev, e, rfl, he, fun H1 s1 => ⟨_, rfl, iteF ?_⟩⟩
    have hh1 := hh.same s1
    refine ⟨_, rfl, _, _, _, rfl, hh1.ob, no_is_settled _ _, a, h, rfl, hh1, _, rfl, ?_⟩
    rw [hset]
    refine iteF ?_
    refine ⟨_, rfl, _, _, _, rfl, hh1.ob, no_last _ _, a, h, rfl, hh1, fun pv H2 s2 dv => ?_⟩
    have hh2 := hh1.same s2
    simp only [List.set_cons_succ, List.set_cons_zero]
    obtain ⟨pa, rfl, hpa⟩ := pl_parts dv
    have hnum : ∃ n : Nat, n = (M.nextPlace h).2 ∧ n = bif Nat.beq (M.last h).1 h.epoch then (M.last h).2 + 1 else 1 := ⟨_, rfl, rfl⟩
    obtain ⟨n, en1, en2⟩ := hnum
    refine ⟨_, rfl, pa, _, _, _, rfl, rfl, hpa, at_of (j := 0) rfl rfl, _, rfl, _, _, _, _, rfl, hh2.ob, lk_own_epoch _ _, rfl, _, rfl, ?_⟩
    rw [int_eq]
    refine ite_same (H := H2) (V.int ((n : Nat) : Int)) ?_ (fun c Q2 hq => ?_) (fun c Q2 hq => ?_)
    rotate_left
    · refine ⟨_, rfl, pa, _, _, _, rfl, rfl, hpa, at_of (j := 1) rfl rfl, _, _, rfl, rfl, ?_⟩
      rw [c] at en2
      rw [en2] at hq
      exact hq
    · rw [c] at en2
      rw [en2] at hq
      exact hq
    simp only [List.set_cons_succ, List.set_cons_zero]
    have epl : M.nextPlace h = (h.epoch, n) := by rw [en1]; rfl
    refine ⟨_, rfl, _, _, _, _, rfl, hh2.ob, lk_own_epoch _ _, _, rfl, by show 2 ≤ sizeLine; decide, fun pp hpp => ?_⟩
    (generalize hz : upd H2 pp _ = H3; have s3 : Same H2 H3 := (by rw [← hz]; exact same_new hpp); have h3p : H3 pp = some _ := (by rw [← hz]; exact upd_same); clear hz)
    have dpl : Dp K H3 (.ref pp) (plD (M.nextPlace h)) := by rw [epl]; exact pl_mk (p := (h.epoch, n)) (SqT.of h3p)
    have hh3 := hh2.same s3
    simp only [List.set_cons_succ, List.set_cons_zero]
    have s03 := s1.trans (s2.trans s3)
    have de3 := Dp.kp (Kp.of s03) _ _ (noL_en _) he
    have dq3 := Dp.kp (Kp.of s3) _ _ (noL_pl _) dv
    clear hh1 hh2 s1 s2 s3 h3p hpa he dv
    obtain ⟨wr, er, dr⟩ := hh3.row
    refine ⟨_, rfl, _, _, _, _, rfl, hh3.ob, lk_own_row _ _, .inl ⟨rfl, _, SqL.of er⟩, _, rfl, _, rfl, by show 2 ≤ sizeLine; decide, fun tt htt => ?_⟩
    (generalize hz : upd H3 tt _ = H4; have s4 : Same H3 H4 := (by rw [← hz]; exact same_new htt); have h4 : H4 tt = some _ := (by rw [← hz]; exact upd_same); clear hz)
    have er4 := s4 _ _ er
    have hwl := pd_len dr
    have dth : Dp K H4 (.ref tt) (thD (M.nextPlace h, e)) := .tup (SqT.of h4) (.cons (Dp.kp (Kp.of s4) _ _ (noL_pl _) dpl) (.cons (Dp.kp (Kp.of s4) _ _ (noL_en _) de3) .nil))
    refine ⟨_, _, _, rfl, rfl, er4, Nat.lt_of_le_of_lt (show wr.length ≤ 1000 by omega) (by decide), ?_⟩
    have F0 : Fr H H3 a a := (Fr.refl H a).same s03
    (generalize hz : upd H4 a.row _ = H5; obtain ⟨hh5, f5⟩ : HouseAt K H5 _ _ ∧ Fr _ H5 _ _ := (by rw [← hz]; exact ap_row (hh3.same s4) ((Fr.refl H3 a).same s4) er4 dth hrl); clear hz)
    obtain ⟨kv5, et5, dt5⟩ := hh5.ta
    have hk5 := dic_len dt5
    refine ⟨_, rfl, _, rfl, _, _, _, _, rfl, hh5.ob, lk_taken _ _, _, rfl, _, _, _, _, rfl, hh5.ob, lk_own_name _ _, _, _, rfl, DPut.k (k := nK h.name) et5 (Nat.lt_of_le_of_lt (show kv5.length ≤ 1000 by rw [hk5]; exact Nat.le_of_lt htl) (by decide)), ?_⟩
    (generalize hz : upd H5 a.ta _ = H6; obtain ⟨hh6, f6⟩ : HouseAt K H6 _ _ ∧ Fr _ H6 _ _ := (by rw [← hz]; exact up_take hh5 f5 et5 (dic_put dt5 h.name (Dp.kp f5.kp _ _ (noL_pl _) dpl)) (Nat.le_trans (dput_len _ _ _) htl)); clear hz)
    have F6 := F0.trans f6
    have dpl6 := Dp.kp f6.kp _ _ (noL_pl _) dpl
    have de6 := Dp.kp f6.kp _ _ (noL_en _) de3
    have dq6 := Dp.kp f6.kp _ _ (noL_pl _) dq3
    rw [← e3] at hh6
    clear hh3 er dr er4 h4 s4 hh5 f5 et5 dt5 f6 dth de3 dq3 dpl
    have hol : (M.others h3).length ≤ 7 := Nat.le_trans (List.length_filter_le _ _) hh6.ml.2
    refine ⟨_, rfl, _, _, _, rfl, hh6.ob, no_others _ _, a, h3, rfl, hh6, fun D8 H8 hD8 s8 e8 => ?_⟩
    have hh8 := hh6.same s8
    refine ⟨D8, rfl, ⟨_, SqL.of e8⟩, lc_any (fun o => bif M.dhas h3.taken o then some o else none) (fun _ v (o : Nat) => v = V.str (nm o)) (goes_list (SqL.of e8) (names_pd _)) (fun _ h => h) (by omega) (fun y o H9 Qy Qn s9 g1 m1 ky kn => ?_) (fun D9 ws9 H9 hD9 s9 hw9 hp9 => ?_)⟩
    · subst g1
      have hh9 := hh8.same s9
      obtain ⟨kv9, et9, dt9⟩ := hh9.ta
      refine ⟨rfl, _, rfl, _, rfl, _, _, _, _, rfl, hh9.ob, lk_taken _ _, _, _, rfl, DGet.k (k := nK o) et9, _, rfl, ?_⟩
      rw [dic_has dt9]
      cases c4 : M.dhas h3.taken o with
      | false => exact iteF (kn (by rw [c4]; rfl) _ (Same.refl _))
      | true => exact iteT ⟨_, rfl, ky _ _ _ (by rw [c4]; rfl) (Same.refl _) rfl⟩
    simp only [List.set_cons_succ, List.set_cons_zero]
    have hh9 := hh8.same s9
    have s69 := s8.trans s9
    have eg : (M.others h3).filterMap (fun o => bif M.dhas h3.taken o then some o else none) = (M.others h3).filter fun o => M.dhas h3.taken o := by
      rw [← List.filterMap_eq_filter]
      refine congrArg (fun f => List.filterMap f (M.others h3)) (funext fun i => ?_)
      show _ = if M.dhas h3.taken i = true then some i else none
      cases M.dhas h3.taken i <;> rfl
    rw [eg] at hp9
    refine ⟨_, rfl, D9, rfl, ⟨_, SqL.of hw9⟩, lc_any (fun o => some (M.Lt.propose h3.name o h3.epoch (M.last h) (M.nextPlace h) e)) (fun H v l => LtIs K H v l) (goes_list (SqL.of hw9) hp9) (fun k h => h.kp k.kp) (Nat.le_trans (List.length_filter_le _ _) (by omega)) (fun y o H10 Qy Qn s10 g1 m1 ky kn => ?_) (fun D10 ws10 H10 hD10 s10 hw10 hp10 => ?_)⟩
    · subst g1
      have hh10 := hh9.same s10
      have ho : o < 26 := hh10.mb _ (List.mem_filter.mp (List.mem_filter.mp m1).1).1
      have kp := Kp.of (s69.trans s10)
      refine ⟨rfl, _, rfl, _, _, _, rfl, hh10.ob, no_say _ _, _, rfl, _, rfl, _, _, _, _, rfl, hh10.ob, lk_own_epoch _ _, _, rfl, _, rfl, _, rfl, by show 3 ≤ sizeLine; decide, fun u hu => ?_⟩
      (generalize hz : upd H10 u _ = H11; have s11 : Same H10 H11 := (by rw [← hz]; exact same_new hu); have h11 : H11 u = some _ := (by rw [← hz]; exact upd_same); clear hz)
      refine ⟨a, h3, _, _, _, u, _, rfl, hh10.same s11, SqT.of h11, by show 3 ≤ 10; decide, fun T4 H12 s12 q12 => ky _ _ _ rfl (s11.trans s12) ?_⟩
      have kp2 := kp.trans (Kp.of (s11.trans s12))
      exact ⟨lt_mk (l := .propose h3.name o h3.epoch (M.last h) (M.nextPlace h) e) q12 (.cons (Dp.kp kp2 _ _ (noL_pl _) dq6) (.cons (Dp.kp kp2 _ _ (noL_pl _) dpl6) (.cons (Dp.kp kp2 _ _ (noL_en _) de6) .nil))), hh10.mb _ hh10.nm, ho, Nat.zero_le _⟩
    simp only [List.set_cons_succ, List.set_cons_zero]
    rw [List.filterMap_eq_map'] at hp10
    have hh10 := hh9.same s10
    have hlen := pd_len hp10
    rw [List.length_map] at hlen
    have l1l : ws10.length ≤ 7 := by rw [hlen]; exact Nat.le_trans (List.length_filter_le _ _) hol
    have l2l : ds.length ≤ 7 := Nat.le_trans (lookDone_len ed) hol
    refine ⟨_, rfl, _, rfl, _, _, _, rfl, hh10.ob, no_look_done _ _, a, h3, _, ds, rfl, hh10, ed, fun H11 a3 r3 po => ?_⟩
    obtain ⟨wd, erd, hp3⟩ := po.l
    have hk9 := po.f.keep _ _ hw10 (hh9.not hD10)
    refine ⟨D10, r3, ws10, wd, rfl, rfl, hk9, erd, ?_, fun p hp => ?_⟩
    · have hl3 := pd_len hp3
      exact Nat.le_trans (show ws10.length + wd.length ≤ 14 by omega) (by decide)
    · refine k _ a3 p (.mk1 (((F6.same s69).same s10).trans po.f) po.hh hp (same_new hp) upd_same ?_)
      exact pd_mono (pd_app (pd_mono hp10 fun _ _ q => q.kp po.f.kp) hp3) fun _ _ q => q.kp (Kp.of (same_new hp))
end
end Wd
/-! ## P14 -/
set_option Elab.async false
set_option linter.all false
set_option maxRecDepth 100000
set_option maxHeartbeats 400000
namespace Wd
open PySem PySem.Spec PyProof.Rows L2 PySem.W PySem.SeqAt
def priorAt (p : M.Pl) (r : M.Row) (i : Nat) : M.Pl := (p :: r.map (·.1)).getD i (0, 0)
theorem prior_next {p : M.Pl} {r : M.Row} {i : Nat} {t : M.Thing} (h : r[i]? = some t) : priorAt p r (i + 1) = t.1 := by
  unfold priorAt
  rw [List.getD_eq_getElem?_getD, List.getElem?_cons_succ, List.getElem?_map, h]; rfl
theorem proposes_at : ∀ (n o e : Nat) (p : M.Pl) (r : M.Row) (i : Nat) (t : M.Thing), r[i]? = some t → (M.proposes n o e p r)[i]? = some (.propose n o e (priorAt p r i) t.1 t.2)
  | n, o, e, p, [], i, t, h => by simp at h
  | n, o, e, p, u :: r, 0, t, h => by simp at h; subst h; rfl
  | n, o, e, p, u :: r, i + 1, t, h => by
    have := proposes_at n o e u.1 r i t (by simpa using h)
    rw [M.proposes, List.getElem?_cons_succ, this]; rfl
theorem proposes_len : ∀ (n o e : Nat) (p : M.Pl) (r : M.Row), (M.proposes n o e p r).length = r.length
  | _, _, _, _, [] => rfl
  | n, o, e, _, u :: r => congrArg Nat.succ (proposes_len n o e u.1 r)
structure BfIn (K : PySem.W.Frag) (H : Hp) (h : M.Hs) (o : Nat) (q : M.Pl) (D L : Addr) (ws : List V) (i : Nat) (Hc : Hp) (pv : V) (wl : List V) : Prop where
  s : Same H Hc
  d : Hc D = some (.lst ws)
  dd : Ds K thD Hc ws (M.behind h.row q)
  l : Hc L = some (.lst wl)
  ll : Paired (LtIs K Hc) wl ((M.proposes h.name o h.epoch q (M.behind h.row q)).take i)
  p : Dp K Hc pv (plD (priorAt q (M.behind h.row q) i))
section
variable {P : Program} {w : World} {K : PySem.W.Frag} {mg : Str → Option Value} {base : Heap}
theorem ok_m_beat_for (T : Txt w K mg) : Df P w K mg base 4 (hM K "beat_for") ["self", "other"] (spBeatFor K) := by
  obtain ⟨fd_behind, G_behind, b_behind, kp_behind⟩ := ok_behind (P := P) (w := w) (base := base) T
  obtain ⟨fd_m_sync_for, G_m_sync_for, b_m_sync_for, kp_m_sync_for⟩ := ok_m_sync_for (P := P) (w := w) (base := base) T
  obtain ⟨fd_m_say, ds_say, G_m_say, b_m_say, b_say0, d_say0, kp_m_say⟩ := ok_m_say (P := P) (w := w) (base := base) T
  refine df_mk T.f_m_beat_for sc_m_beat_for (fun vs H Q E h => ?_) (fun _ _ _ _ _ _ us hl => match us, hl with | [_, _], _ => rfl) (fun cdv A outer s H vs Q E hr h => ?_)
  · obtain ⟨a, h, o, ls, rfl, _⟩ := h
    rfl
  · obtain ⟨a, h, o, ls, rfl, hh, ho, hl, k⟩ := h
    refine ⟨_, (pss_cons (ps_if (pt_cmp (pc_dnotin (hu_of hr) (pv 1) (kFld rfl T.cl T.n_promises (pv 0))) (by rfl)) (pss_one (ps_ret (pe_lst (pa_cons (pe_meth (pv 0) T.cl T.me_say G_m_say (hr.mono (by decide)) b_say0 d_say0 pass0 (pa_cons pe_str (pa_cons (pv 1) (pa_cons (kFld rfl T.cl T.n_own_epoch (pv 0)) pa_nil)))) pa_nil)))) pss_nil) (pss_cons (ps_if (pt_cmp (pc_dnotin (hu_of hr) (pv 1) (kFld rfl T.cl T.n_taken (pv 0))) (by rfl)) (pss_one (ps_ret (pe_lst (pa_cons (pe_meth (pv 0) T.cl T.me_sync_for G_m_sync_for (hr.mono (by decide)) b_m_sync_for .nil pass0 (pa_cons (pv 1) pa_nil)) pa_nil)))) pss_nil) (pss_cons (ps_set (i := 2) sc_m_beat_for.nd rfl (Or.inl rfl) (pe_dget (hu_of hr) (kFld rfl T.cl T.n_taken (pv 0)) (pv 1) (fun _ _ => rfl))) (pss_cons (ps_set (i := 3) sc_m_beat_for.nd rfl (Or.inl rfl) (pe_lst pa_nil)) (pss_cons (ps_for PassesOwn.never rfl (pi_list (pe_call G_behind (hr.mono (by decide)) rfl T.g_behind kp_behind b_behind .nil pass0 (pa_cons (kFld rfl T.cl T.n_own_row (pv 0)) (pa_cons (pv 2) pa_nil)))) (pg_tup (by rfl) (pgs_cons (pg_name (i := 4) sc_m_beat_for.nd rfl (Or.inl rfl)) (pgs_cons (pg_name (i := 5) sc_m_beat_for.nd rfl (Or.inl rfl)) pgs_nil))) (pss_cons (ps_expr (pe_bm PySem.F.plainAttrs_list PySem.F.slot_list_append PySem.F.type_list_append mt_append (pv 3) (pa_cons (pe_meth (pv 0) T.cl T.me_say G_m_say (hr.mono (by decide)) b_m_say .nil pass0 (pa_cons pe_str (pa_cons (pv 1) (pa_cons (kFld rfl T.cl T.n_own_epoch (pv 0)) (pa_cons (pe_tup (pa_cons (pv 2) (pa_cons (pv 4) (pa_cons (pv 5) pa_nil)))) pa_nil))))) pa_nil))) (pss_one (ps_set (i := 2) sc_m_beat_for.nd rfl (Or.inl rfl) (pv 4))))) (pss_one (ps_ret (pe_op op_cat (pv 3) (pe_lst (pa_cons (pe_meth (pv 0) T.cl T.me_say G_m_say (hr.mono (by decide)) b_m_say .nil pass0 (pa_cons pe_str (pa_cons (pv 1) (pa_cons (kFld rfl T.cl T.n_own_epoch (pv 0)) (pa_cons (pe_tup (pa_cons (kFld rfl T.cl T.n_own_done (pv 0)) pa_nil)) pa_nil))))) pa_nil)))))))))), ?_⟩
    rw [st_m_beat_for]
    obtain ⟨kvp, epr, dpr⟩ := hh.pr
    obtain ⟨kvt, eta, dta⟩ := hh.ta
    unfold M.beatFor at hl
    refine ⟨_, rfl, _, rfl, _, _, _, _, rfl, hh.ob, lk_promises _ _, _, _, rfl, DGet.k (k := nK o) epr, _, rfl, ?_⟩
    rw [dic_has dpr]
    cases c1 : M.dhas h.promises o with
    | false =>
      rw [c1] at hl
      cases hl
      refine iteT ⟨_, rfl, _, _, _, rfl, hh.ob, no_say _ _, _, rfl, _, rfl, _, _, _, _, rfl, hh.ob, lk_own_epoch _ _, a, h, _, _, _, _, _, rfl, hh, T.rest0 _, Nat.zero_le _, fun T4 H1 s1 q1 => ⟨by show 1 ≤ sizeLine; decide, fun l hl => ?_⟩⟩
      refine k _ l _ (s1.free hl) (s1.trans (same_new hl)) upd_same (.cons ⟨Dp.kp (Kp.of (same_new hl)) _ _ (noL_lt _) (lt_mk (l := .lead h.name o h.epoch) q1 .nil), hh.mb _ hh.nm, ho, Nat.zero_le _⟩ .nil)
    | true =>
      rw [c1] at hl
      refine iteF ⟨_, rfl, _, rfl, _, _, _, _, rfl, hh.ob, lk_taken _ _, _, _, rfl, DGet.k (k := nK o) eta, _, rfl, ?_⟩
      rcases dic_get dta o with ⟨e1, e2⟩ | ⟨v, q, e1, e2, dv⟩
      · rw [e1]
        rw [e2] at hl
        cases es : M.syncFor h o with
        | none => rw [es] at hl; cases hl
        | some l =>
          rw [es] at hl
          cases hl
          refine iteT ⟨_, rfl, _, _, _, rfl, hh.ob, no_sync_for _ _, _, rfl, a, h, o, l, rfl, hh, ho, es, fun v H1 s1 q1 => ⟨by show 1 ≤ sizeLine; decide, fun p hp => ?_⟩⟩
          exact k _ p _ (s1.free hp) (s1.trans (same_new hp)) upd_same (.cons (q1.kp (Kp.of (same_new hp))) .nil)
      · rw [e1]
        rw [e2] at hl
        have hl := Option.some.inj hl
        refine iteF ?_
        refine ⟨_, rfl, _, _, _, _, rfl, hh.ob, lk_taken _ _, _, rfl, _, v, rfl, by rw [← e1]; exact DGet.k (k := nK o) eta, ?_⟩
        simp only [List.set_cons_succ, List.set_cons_zero]
        refine ⟨Nat.zero_le _, fun L hL => ?_⟩
        (generalize hz : upd H L _ = H1; have s1 : Same H H1 := (by rw [← hz]; exact same_new hL); have h1 : H1 L = some _ := (by rw [← hz]; exact upd_same); clear hz)
        simp only [List.set_cons_succ, List.set_cons_zero]
        have hh1 := hh.same s1
        obtain ⟨wr, er, dr⟩ := hh1.row
        have dv1 := Dp.kp (Kp.of s1) _ _ (noL_pl _) dv
        refine ⟨_, rfl, _, _, _, _, rfl, hh1.ob, lk_own_row _ _, _, rfl, a.row, wr, v, h.row, q, rfl, SqL.of er, dr, dv1, Nat.le_trans hh.rl (by decide), fun D H2 ⟨hD2, s2, ws2, e2, d2⟩ => ?_⟩
        have h2 := s2 _ _ h1
        have nDL : D ≠ L := fun z => by rw [z, h1] at hD2; cases hD2
        have hbl : (M.behind h.row q).length ≤ 1000 := Nat.le_trans (List.length_filter_le _ _) hh.rl
        have hwl := pd_len d2
        refine ⟨D, rfl, ⟨_, SqL.of e2⟩, for_list (xs := ws2) (fun i σ Hc => ∃ (pv : V) (o1 o2 : Option V) (wl : List V), σ = [some (.ref a.p), some (.str (nm o)), some pv, some (.ref L), o1, o2] ∧ BfIn K H h o q D L ws2 i Hc pv wl)
          ⟨v, none, none, [], rfl, s1.trans s2, e2, d2, h2, by rw [List.take_zero]; exact .nil, Dp.kp (Kp.of s2) _ _ (noL_pl _) dv1⟩ (fun i σ Hc hi ⟨pv, o1, o2, wl, e, g⟩ => SqL.of g.d) (fun i x σ Hc ex ⟨pv, o1, o2, wl, e, g⟩ => ?_) (fun σ Hc ⟨pv, o1, o2, wl, e, g⟩ => ?_)⟩
        · subst e
          obtain ⟨t, et, ft⟩ := pd_get g.dd ex
          obtain ⟨b, y, z, rfl, ht, g1, g2⟩ := th_parts ft
          have hil : i < ws2.length := (List.getElem?_eq_some_iff.mp ex).1
          have hhc := hh.same g.s
          refine ⟨b, _, rfl, ht, rfl, _, _, rfl, _, _, rfl, rfl, ?_⟩
          simp only [List.set_cons_succ, List.set_cons_zero]
          have hlp := pd_len g.ll
          rw [List.length_take, proposes_len] at hlp
          refine ⟨_, rfl, .inl ⟨rfl, _, SqL.of g.l⟩, _, rfl, _, _, _, rfl, hhc.ob, no_say _ _, _, rfl, _, rfl, _, _, _, _, rfl, hhc.ob, lk_own_epoch _ _, _, rfl, _, rfl, _, rfl, by show 3 ≤ sizeLine; decide, fun u hu => ?_⟩
          (generalize hz : upd Hc u _ = H5; have s5 : Same Hc H5 := (by rw [← hz]; exact same_new hu); have h5 : H5 u = some _ := (by rw [← hz]; exact upd_same); clear hz)
          refine ⟨a, h, _, _, _, u, _, rfl, hhc.same s5, SqT.of h5, by show 3 ≤ 10; decide, fun T4 H6 s6 q6 => ?_⟩
          have s56 := s5.trans s6
          have gl := s56 _ _ g.l
          have kp := Kp.of s56
          have kq := Kp.lst (o := .lst (wl ++ [V.ref T4])) gl
          have lt : LtIs K H6 (.ref T4) (.propose h.name o h.epoch (priorAt q (M.behind h.row q) i) t.1 t.2) :=
            ⟨lt_mk (l := .propose h.name o h.epoch (priorAt q (M.behind h.row q) i) t.1 t.2) q6 (.cons (Dp.kp kp _ _ (noL_pl _) g.p) (.cons (Dp.kp kp _ _ (noL_pl _) g1) (.cons (Dp.kp kp _ _ (noL_en _) g2) .nil))), hhc.mb _ hhc.nm, ho, Nat.zero_le _⟩
          refine ⟨L, wl, _, rfl, rfl, gl, Nat.lt_of_le_of_lt (show wl.length ≤ 1000 by omega) (by decide), ?_⟩
          refine ⟨_, rfl, y, _, _, _, rfl, same_newer (g.s.trans s56) hL, ?_, (g.dd.kp kp noL_th).kp kq noL_th, upd_same, ?_, ?_⟩
          · rw [upd_ne nDL]; exact s56 _ _ g.d
          · rw [take_snoc (proposes_at _ _ _ _ _ _ _ et)]
            exact pd_app (pd_mono g.ll fun _ _ q => (q.kp kp).kp kq) (.cons (lt.kp kq) .nil)
          · rw [prior_next et]
            exact Dp.kp kq _ _ (noL_pl _) (Dp.kp kp _ _ (noL_pl _) g1)
        · subst e
          have hhc := hh.same g.s
          have gll := g.ll
          rw [hwl, List.take_of_length_le (Nat.le_of_eq (proposes_len _ _ _ _ _))] at gll
          have hlp := pd_len gll
          rw [proposes_len] at hlp
          refine ⟨_, rfl, _, rfl, _, _, _, rfl, hhc.ob, no_say _ _, _, rfl, _, rfl, _, _, _, _, rfl, hhc.ob, lk_own_epoch _ _, _, rfl, _, _, _, _, rfl, hhc.ob, lk_own_done _ _, by show 1 ≤ sizeLine; decide, fun u hu => ?_⟩
          (generalize hz : upd Hc u _ = H5; have s5 : Same Hc H5 := (by rw [← hz]; exact same_new hu); have h5 : H5 u = some _ := (by rw [← hz]; exact upd_same); clear hz)
          refine ⟨a, h, _, _, _, u, _, rfl, hhc.same s5, SqT.of h5, by show 1 ≤ 10; decide, fun T4 H6 s6 q6 => ?_⟩
          have s56 := s5.trans s6
          have lt : LtIs K H6 (.ref T4) (.done h.name o h.epoch h.done) := ⟨lt_mk (l := .done h.name o h.epoch h.done) q6 (.cons (Dp.kp (Kp.of s56) _ _ (noL_pl _) hhc.dn) .nil), hhc.mb _ hhc.nm, ho, Nat.zero_le _⟩
          refine ⟨by show 1 ≤ sizeLine; decide, fun l1 hl1 => ?_⟩
          (generalize hz : upd H6 l1 _ = H7; have s7 : Same H6 H7 := (by rw [← hz]; exact same_new hl1); have h7 : H7 l1 = some _ := (by rw [← hz]; exact upd_same); clear hz)
          have gl := (s56.trans s7) _ _ g.l
          refine ⟨L, l1, wl, _, rfl, rfl, gl, h7, Nat.le_trans (show wl.length + 1 ≤ 1001 by omega) (by decide), fun p hp => ?_⟩
          have sp : Same H7 (upd H7 p (.lst (wl ++ [V.ref T4]))) := same_new hp
          have sA := g.s.trans (s56.trans s7)
          refine k _ p _ (sA.free hp) (sA.trans sp) upd_same ?_
          rw [← hl]
          exact pd_app (pd_mono gll fun _ _ q => q.kp (Kp.of (s56.trans (s7.trans sp)))) (.cons (lt.kp (Kp.of (s7.trans sp))) .nil)
end
end Wd
/-! ## P15 -/
set_option Elab.async false
set_option linter.all false
set_option maxRecDepth 100000
set_option maxHeartbeats 400000
namespace Wd
open PySem PySem.Spec PyProof.Rows L2 PySem.W PySem.SeqAt
def spEnds (K : PySem.W.Frag) : Sp := fun vs H Q _ => ∃ (a : HA) (h : M.Hs), vs = [.ref a.p] ∧ HouseAt K H a h ∧ ∀ H' r, H r = none → Same H H' → H' r = some (.lst []) → Q (.ref r) H'
def spBeat (K : PySem.W.Frag) : Sp := fun vs H Q _ => ∃ (a : HA) (h h2 : M.Hs) (ls : List M.Lt), vs = [.ref a.p] ∧ HouseAt K H a h ∧ M.beat h = some (h2, ls) ∧ ∀ H' a' r, Post K H H' a a' h2 r ls → Q (.ref r) H'
theorem catO_all {α β : Type} {f : α → Option (List β)} : ∀ {l : List α} {ls : List β}, M.catO f l = some ls → ∀ x ∈ l, ∃ z, f x = some z
  | [], _, _, x, m => nomatch m
  | y :: l, ls, e, x, m => by
    rw [M.catO] at e
    cases ef : f y with
    | none => rw [ef] at e; cases e
    | some z =>
      rw [ef] at e
      cases eg : M.catO f l with
      | none => rw [eg] at e; cases e
      | some zs =>
        rcases List.mem_cons.mp m with rfl | m
        · exact ⟨z, ef⟩
        · exact catO_all eg x m
theorem catO_snoc {α β : Type} {f : α → Option (List β)} {x : α} {z : List β} : ∀ {l : List α} {y : List β}, M.catO f l = some y → f x = some z → M.catO f (l ++ [x]) = some (y ++ z)
  | [], y, e, ez => by
    cases e
    show M.catO f [x] = some z
    rw [M.catO, ez]
    show some (z ++ []) = some z
    rw [List.append_nil]
  | u :: l, y, e, ez => by
    rw [M.catO] at e
    cases ef : f u with
    | none => rw [ef] at e; cases e
    | some v =>
      rw [ef] at e
      cases eg : M.catO f l with
      | none => rw [eg] at e; cases e
      | some zs =>
        rw [eg] at e
        cases e
        rw [List.cons_append, M.catO, ef, catO_snoc eg ez]
        show some (v ++ (zs ++ z)) = some (v ++ zs ++ z)
        rw [List.append_assoc]
theorem beatFor_len {h : M.Hs} {o : Nat} {ls : List M.Lt} (e : M.beatFor h o = some ls) (hr : h.row.length ≤ 1000) : ls.length ≤ 1001 := by
  unfold M.beatFor at e
  cases c1 : M.dhas h.promises o with
  | false => rw [c1] at e; cases e; show 1 ≤ 1001; decide
  | true =>
    rw [c1] at e
    cases c2 : M.dget h.taken o with
    | none =>
      rw [c2] at e
      cases c3 : M.syncFor h o with
      | none => rw [c3] at e; cases e
      | some l => rw [c3] at e; cases e; show 1 ≤ 1001; decide
    | some p =>
      rw [c2] at e
      cases e
      rw [List.length_append, proposes_len]
      exact Nat.succ_le_succ (Nat.le_trans (List.length_filter_le _ _) hr)
structure BtIn (K : PySem.W.Frag) (H1 : Hp) (h : M.Hs) (L D : Addr) (i : Nat) (Hc : Hp) (wl : List V) (y : List M.Lt) : Prop where
  s : Same H1 Hc
  l : Hc L = some (.lst wl)
  d : Hc D = some (.lst ((M.others h).map fun i => V.str (nm i)))
  c : M.catO (M.beatFor h) ((M.others h).take i) = some y
  ll : Paired (LtIs K Hc) wl y
  le : wl.length ≤ i * 1001
section
variable {P : Program} {w : World} {K : PySem.W.Frag} {mg : Str → Option Value} {base : Heap}
theorem ok_m_ends (T : Txt w K mg) : Df P w K mg base 3 (hM K "ends") ["self"] (spEnds K) := by
  obtain ⟨fd_m_is_settled, G_m_is_settled, b_m_is_settled, kp_m_is_settled⟩ := ok_m_is_settled (P := P) (w := w) (base := base) T
  refine df_mk T.f_m_ends sc_m_ends (fun vs H Q E h => ?_) (fun _ _ _ _ _ _ us hl => match us, hl with | [_], _ => rfl) (fun cdv A outer s H vs Q E hr h => ?_)
  · obtain ⟨a, h, rfl, _⟩ := h
    rfl
  · obtain ⟨a, h, rfl, hh, k⟩ := h
    refine ⟨_, (pss_cons (ps_set (i := 1) sc_m_ends.nd rfl (Or.inl rfl) (pe_lst pa_nil)) (pss_cons (ps_asg (kFld rfl T.cl T.n_own_state (pv 0)) (pg_tup (by rfl) (pgs_cons (pg_name (i := 2) sc_m_ends.nd rfl (Or.inl rfl)) (pgs_cons (pg_name (i := 3) sc_m_ends.nd rfl (Or.inl rfl)) pgs_nil)))) (pss_cons (ps_for PassesOwn.never rfl (pi_list (pe_callB (call_sortedD rfl) (by rfl) T.b_sorted (by decide +kernel) (pa_cons (pv 3) pa_nil))) (pg_name (i := 4) sc_m_ends.nd rfl (Or.inl rfl)) (pss_cons (ps_asg (pe_dget (hu_of hr) (pv 3) (pv 4) (fun _ _ => rfl)) (pg_star rfl (pgs_cons (pg_name (i := 5) sc_m_ends.nd rfl (Or.inl rfl)) (pgs_star (pg_name (i := 6) sc_m_ends.nd rfl (Or.inl rfl)))))) (pss_one (ps_if (PW.pt (pw_and (pt_cmpR op_notN (pv 5) pe_non (nomark _)) (pw_and1 (pt_val (pe_meth0 (pv 0) T.cl T.me_is_settled G_m_is_settled (hr.mono (by decide)) b_m_is_settled .nil pass0))))) pss_never pss_nil)))) (pss_one (ps_ret (pv 1)))))), ?_⟩
    rw [st_m_ends]
    refine ⟨Nat.zero_le _, fun L hL => ?_⟩
    (generalize hz : upd H L _ = H1; have s1 : Same H H1 := (by rw [← hz]; exact same_new hL); have h1 : H1 L = some _ := (by rw [← hz]; exact upd_same); clear hz)
    have hh1 := hh.same s1
    refine ⟨_, rfl, _, _, _, _, rfl, hh1.ob, lk_own_state _ _, a.t, _, rfl, SqT.of hh1.st.t, rfl, _, _, rfl, _, _, rfl, rfl, ?_⟩
    simp only [List.set_cons_succ, List.set_cons_zero]
    obtain ⟨ks, es, so⟩ := hh1.st.s
    refine ⟨_, rfl, a.s, ks, ks.map fun _ => ("late" : Str), rfl, .inl es, ?_, by rw [List.length_map]; exact Nat.lt_of_le_of_lt so.1 (by decide), fun ys p hys _ hp => ?_⟩
    · rw [List.map_map]
      exact List.map_congr_left fun kv m => (so.2 kv m).1
    (generalize hz : upd H1 p _ = H2; have s2 : Same H1 H2 := (by rw [← hz]; exact same_new hp); have h2 : H2 p = some _ := (by rw [← hz]; exact upd_same); clear hz)
    have s02 := s1.trans s2
    have es2 := s2 _ _ es
    have hys2 : ∀ y ∈ ys, y = ("late" : Str) ∧ ks ≠ [] := fun y m => by
      have := hys.mem_iff.mp m
      obtain ⟨kv, m2, e⟩ := List.mem_map.mp this
      exact ⟨e.symm, fun z => by rw [z] at m2; cases m2⟩
    refine ⟨p, rfl, ⟨_, SqL.of h2⟩, for_list (xs := ys.map V.str) (fun i σ Hc => ∃ (o1 o2 o3 : Option V) (n s : V), σ = [some (.ref a.p), some (.ref L), some n, some (.ref a.s), o1, o2, o3] ∧ Same H2 Hc) ⟨none, none, none, _, .ref a.s, rfl, Same.refl _⟩ (fun i σ Hc hi ⟨o1, o2, o3, n, s, e, sc⟩ => sc.seq (SqL.of h2)) (fun i x σ Hc ex ⟨o1, o2, o3, n, s, e, sc⟩ => ?_) (fun σ Hc ⟨o1, o2, o3, n, s, e, sc⟩ => ?_)⟩
    · subst e
      obtain ⟨y, m, rfl⟩ := List.mem_map.mp (List.mem_of_getElem? ex)
      obtain ⟨rfl, hne⟩ := hys2 y m
      have esc := sc _ _ es2
      have soc := so.kp (Kp.of (s2.trans sc))
      match ks, hne, esc, soc with
      | kv :: ks, _, esc, soc =>
        obtain ⟨e1, q, i2, x2, y2, e2, q2⟩ := soc.2 kv List.mem_cons_self
        have ev : valV (kv :: ks) lateK = some (.ref q) := by rw [← e2]; exact valV_pos e1
        refine ⟨_, rfl, _, rfl, a.s, .ref q, rfl, by rw [← ev]; exact DGet.k (k := lateK) esc, ?_⟩
        refine ⟨q, _, rfl, q2, by show 1 ≤ 4; decide, by show 4 ≤ 16384; decide, fun D hD => ?_⟩
        (generalize hz : upd Hc D _ = H3; have s3 : Same Hc H3 := (by rw [← hz]; exact same_new hD); have h3 : H3 D = some _ := (by rw [← hz]; exact upd_same); clear hz)
        refine ⟨_, _, rfl, _, _, rfl, rfl, ?_⟩
        simp only [List.set_cons_succ, List.set_cons_zero]
        refine ⟨_, rfl, rfl, false, rfl, iteF (iteF ?_)⟩
        exact ⟨_, _, _, _, .ref a.s, rfl, sc.trans s3⟩
    · subst e
      have h1c := (s2.trans sc) _ _ h1
      exact ⟨_, rfl, k _ L hL (s02.trans sc) h1c⟩
theorem ok_m_beat (T : Txt w K mg) : Df P w K mg base 5 (hM K "beat") ["self"] (spBeat K) := by
  obtain ⟨fd_m_others, G_m_others, b_m_others, kp_m_others⟩ := ok_m_others (P := P) (w := w) (base := base) T
  obtain ⟨fd_m_beat_for, G_m_beat_for, b_m_beat_for, kp_m_beat_for⟩ := ok_m_beat_for (P := P) (w := w) (base := base) T
  obtain ⟨fd_m_ends, G_m_ends, b_m_ends, kp_m_ends⟩ := ok_m_ends (P := P) (w := w) (base := base) T
  refine df_mk T.f_m_beat sc_m_beat (fun vs H Q E h => ?_) (fun _ _ _ _ _ _ us hl => match us, hl with | [_], _ => rfl) (fun cdv A outer s H vs Q E hr h => ?_)
  · obtain ⟨a, h, h2, ls, rfl, _⟩ := h
    rfl
  · obtain ⟨a, h, h2, ls, rfl, hh, hl, k⟩ := h
    refine ⟨_, (pss_cons (ps_if (pt_cmpR op_ne (kFld rfl T.cl T.n_own_role (pv 0)) pe_str (nomark _)) (pss_one (ps_ret (pe_lst pa_nil))) pss_nil) (pss_cons (kAug rfl T.cl T.n_own_clock (pv 0) pe_int) (pss_cons (ps_set (i := 1) sc_m_beat.nd rfl (Or.inl rfl) (pe_lst pa_nil)) (pss_cons (ps_for PassesOwn.never rfl (pi_list (pe_meth0 (pv 0) T.cl T.me_others G_m_others (hr.mono (by decide)) b_m_others .nil pass0)) (pg_name (i := 2) sc_m_beat.nd rfl (Or.inl rfl)) (pss_one (ps_expr (pe_bm PySem.F.plainAttrs_list PySem.F.slot_list_extend PySem.F.type_list_extend mt_extend (pv 1) (pa_cons (pe_meth (pv 0) T.cl T.me_beat_for G_m_beat_for (hr.mono (by decide)) b_m_beat_for .nil pass0 (pa_cons (pv 2) pa_nil)) pa_nil))))) (pss_one (ps_ret (pe_op op_cat (pv 1) (pe_meth0 (pv 0) T.cl T.me_ends G_m_ends (hr.mono (by decide)) b_m_ends .nil pass0)))))))), ?_⟩
    rw [st_m_beat]
    refine ⟨_, rfl, _, _, _, _, rfl, hh.ob, lk_own_role _ _, role_scal _ _, _, rfl, ?_⟩
    rw [role_leads]
    unfold M.beat at hl
    cases c1 : M.isLeads h.role with
    | false =>
      rw [c1] at hl
      cases hl
      exact iteT ⟨Nat.zero_le _, fun p hp => k _ a p (.mk1 (Fr.refl _ _) hh hp (same_new hp) upd_same .nil)⟩
    | true =>
      rw [c1] at hl
      refine iteF ?_
      refine ⟨_, rfl, _, _, _, _, rfl, hh.ob, lk_own_clock _ _, _, _, rfl, rfl, _, _, hh.ob, hof_1000 _ _, ?_⟩
      (generalize hz : upd H a.p _ = H1; obtain ⟨hh1, f1⟩ : HouseAt K H1 _ _ ∧ Fr _ H1 _ _ := (by rw [← hz]; exact wr_clock hh (Fr.refl _ _) (a.ck + 1)); clear hz)
      obtain ⟨a2, hh1, f1⟩ : ∃ a2 : HA, HouseAt K H1 { a2 with p := a.p } h ∧ Fr H H1 a { a2 with p := a.p } := ⟨{ a with ck := a.ck + 1 }, hh1, f1⟩
      obtain ⟨h1, e1, hl⟩ : ∃ h1 : M.Hs, h = h1 ∧ (match M.catO (M.beatFor h1) (M.others h1) with
        | none => none
        | some ls => some (h1, ls)) = some (h2, ls) := ⟨_, rfl, hl⟩
      rw [e1] at hh1
      clear e1 hh
      cases ec : M.catO (M.beatFor h1) (M.others h1) with
      | none => rw [ec] at hl; cases hl
      | some l1 =>
        rw [ec] at hl
        obtain ⟨rfl, rfl⟩ : h1 = h2 ∧ l1 = ls := by cases hl; exact ⟨rfl, rfl⟩
        clear hl
        refine ⟨Nat.zero_le _, fun L hL => ?_⟩
        (generalize hz : upd H1 L _ = H2; have s2 : Same H1 H2 := (by rw [← hz]; exact same_new hL); have h2L : H2 L = some _ := (by rw [← hz]; exact upd_same); clear hz)
        simp only [List.set_cons_succ, List.set_cons_zero]
        have hh2 := hh1.same s2
        refine ⟨_, rfl, _, _, _, rfl, hh2.ob, no_others _ _, { a2 with p := a.p }, h1, rfl, hh2, fun D H3 hD s3 e3 => ?_⟩
        have hol : (M.others h1).length ≤ 7 := Nat.le_trans (List.length_filter_le _ _) hh2.ml.2
        have nDL : D ≠ L := fun z => by rw [z, h2L] at hD; cases hD
        refine ⟨D, rfl, ⟨_, SqL.of e3⟩, for_list (xs := (M.others h1).map fun i => V.str (nm i)) (fun i σ Hc => ∃ (o1 : Option V) (wl : List V) (y : List M.Lt), σ = [some (.ref a.p), some (.ref L), o1] ∧ BtIn K H1 h1 L D i Hc wl y)
          ⟨none, [], [], rfl, s2.trans s3, s3 _ _ h2L, e3, rfl, .nil, Nat.zero_le _⟩ (fun i σ Hc hi ⟨o1, wl, y, e, g⟩ => SqL.of g.d) (fun i x σ Hc ex ⟨o1, wl, y, e, g⟩ => ?_) (fun σ Hc ⟨o1, wl, y, e, g⟩ => ?_)⟩
        · subst e
          have hhc := hh1.same g.s
          rw [List.getElem?_map] at ex
          cases eo : (M.others h1)[i]? with
          | none => rw [eo] at ex; cases ex
          | some o =>
            rw [eo] at ex
            cases ex
            have mo := List.mem_of_getElem? eo
            obtain ⟨z, ez⟩ := catO_all ec o mo
            have hi7 : i < 7 := Nat.lt_of_lt_of_le (List.getElem?_eq_some_iff.mp eo).1 hol
            refine ⟨_, rfl, .inl ⟨rfl, _, SqL.of g.l⟩, _, rfl, _, _, _, rfl, hhc.ob, no_beat_for _ _, _, rfl, { a2 with p := a.p }, h1, o, z, rfl, hhc, hhc.mb _ (List.mem_filter.mp mo).1, ez, fun H5 r5 w5 n5 s5 e5 p5 => ?_⟩
            have gl := s5 _ _ g.l
            have hlz := pd_len p5
            have hbz := beatFor_len ez hhc.rl
            have gle := g.le
            have hle : wl.length + w5.length ≤ (i + 1) * 1001 := by omega
            refine ⟨L, r5, wl, w5, rfl, rfl, gl, e5, Nat.le_trans hle (Nat.le_trans (Nat.mul_le_mul_right _ hi7) (by decide)), ?_⟩
            have kp := Kp.of s5
            have kq := Kp.lst (o := .lst (wl ++ w5)) gl
            refine ⟨_, wl ++ w5, y ++ z, rfl, same_newer (g.s.trans s5) hL, upd_same, ?_, ?_, ?_, by rw [List.length_append]; exact hle⟩
            · rw [upd_ne nDL]; exact s5 _ _ g.d
            · rw [take_snoc eo]; exact catO_snoc g.c ez
            · exact pd_app (pd_mono g.ll fun _ _ q => (q.kp kp).kp kq) (pd_mono p5 fun _ _ q => q.kp kq)
        · subst e
          have hhc := hh1.same g.s
          have gc := g.c
          rw [List.length_map, List.take_length, ec] at gc
          cases gc
          refine ⟨_, rfl, _, rfl, _, _, _, rfl, hhc.ob, no_ends _ _, { a2 with p := a.p }, h1, rfl, hhc, fun H5 r5 n5 s5 e5 => ?_⟩
          have gle := g.le
          rw [List.length_map] at gle
          refine ⟨L, r5, wl, [], rfl, rfl, s5 _ _ g.l, e5, Nat.le_trans (show wl.length + 0 ≤ 7 * 1001 from Nat.le_trans gle (Nat.mul_le_mul_right _ hol)) (by decide), fun p hp => ?_⟩
          rw [List.append_nil]
          have sA := g.s.trans s5
          refine k _ { a2 with p := a.p } p (.mk1 (f1.same sA) (hh1.same sA) hp (same_new hp) upd_same ?_)
          exact pd_mono g.ll fun _ _ q => (q.kp (Kp.of s5)).kp (Kp.of (same_new hp))
end
end Wd
/-! ## P16 -/
set_option Elab.async false
set_option linter.all false
set_option maxRecDepth 100000
set_option maxHeartbeats 400000
namespace Wd
open PySem PySem.Spec PyProof.Rows L2 PySem.W PySem.SeqAt
/-! ### letters taken -/
def spTold (K : PySem.W.Frag) : Sp := fun vs H Q _ => ∃ (a : HA) (h h2 : M.Hs) (ls : List M.Lt) (z : Str) (f e : Nat) (rest : Addr) (v : V) (l : M.Pl), vs = [.ref a.p, .str z, .str (nm f), .int ((e : Nat) : Int), .ref rest] ∧ HouseAt K H a h ∧ f < 26 ∧ SqL K H rest [v] ∧ Dp K H v (plD l) ∧ rest ∉ own a ∧
  ((z = "synced" ∧ M.onSynced h f e l = some (h2, ls)) ∨ (z = "took" ∧ M.onTook h f e l = some (h2, ls))) ∧ ∀ H' a' r, Post K H H' a a' h2 r ls → Q (.ref r) H'
def spOnSeek (K : PySem.W.Frag) : Sp := fun vs H Q _ => ∃ (a : HA) (h : M.Hs) (f e ep : Nat) (told : Addr) (v : V) (l : M.Pl), vs = [.ref a.p, .str (nm f), .int ((e : Nat) : Int), .ref told] ∧ HouseAt K H a h ∧ f < 26 ∧ SqT K H told [.int ((ep : Nat) : Int), v] ∧ Dp K H v (plD l) ∧
  ∀ H' a' r, Post K H H' a a' (M.onSeek h f e ep l).1 r (M.onSeek h f e ep l).2 → Q (.ref r) H'
def spOnLead (K : PySem.W.Frag) : Sp := fun vs H Q _ => ∃ (a : HA) (h : M.Hs) (f e : Nat), vs = [.ref a.p, .str (nm f), .int ((e : Nat) : Int)] ∧ HouseAt K H a h ∧ f < 26 ∧ ∀ H' a' r, Post K H H' a a' (M.onLead h f e).1 r (M.onLead h f e).2 → Q (.ref r) H'
def spOnPromise (K : PySem.W.Frag) : Sp := fun vs H Q _ => ∃ (a : HA) (h h2 : M.Hs) (ls : List M.Lt) (f e : Nat) (v : V) (l : M.Pl), vs = [.ref a.p, .str (nm f), .int ((e : Nat) : Int), v] ∧ HouseAt K H a h ∧ f < 26 ∧ Dp K H v (plD l) ∧ M.onPromise h f e l = some (h2, ls) ∧
  ∀ H' a' r, Post K H H' a a' h2 r ls → Q (.ref r) H'
theorem le_nat (a b : Nat) : decide (((a : Nat) : Int) ≤ ((b : Nat) : Int)) = Nat.ble a b := by
  by_cases c : a ≤ b
  · rw [Nat.ble_eq.mpr c]; exact decide_eq_true (by omega)
  · rw [Bool.eq_false_iff.mpr fun z => c (Nat.ble_eq.mp z)]; exact decide_eq_false (by omega)
theorem lt_nat (a b : Nat) : decide (((a : Nat) : Int) < ((b : Nat) : Int)) = Nat.blt a b := by
  by_cases c : a < b
  · rw [Nat.blt_eq.mpr c]; exact decide_eq_true (by omega)
  · rw [Bool.eq_false_iff.mpr fun z => c (Nat.blt_eq.mp z)]; exact decide_eq_false (by omega)
section
variable {P : Program} {w : World} {K : PySem.W.Frag} {mg : Str → Option Value} {base : Heap}
theorem ok_m_on_seek (T : Txt w K mg) : Df P w K mg base 3 (hM K "on_seek") ["self", "other", "epoch", "told"] (spOnSeek K) := by
  obtain ⟨fd_m_stand_down, G_m_stand_down, b_m_stand_down, kp_m_stand_down⟩ := okh_stand_down (P := P) (w := w) (base := base) T
  obtain ⟨fd_m_last, G_m_last, b_m_last, kp_m_last⟩ := ok_m_last (P := P) (w := w) (base := base) T
  obtain ⟨fd_m_say, ds_say, G_m_say, b_m_say, b_say0, d_say0, kp_m_say⟩ := ok_m_say (P := P) (w := w) (base := base) T
  obtain ⟨fd_may_promise, G_may_promise, b_may_promise, kp_may_promise⟩ := ok_may_promise (P := P) (w := w) (base := base) T
  refine df_mk T.f_m_on_seek sc_m_on_seek (fun vs H Q E h => ?_) (fun _ _ _ _ _ _ us hl => match us, hl with | [_, _, _, _], _ => rfl) (fun cdv A outer s H vs Q E hr h => ?_)
  · obtain ⟨a, h, f, e, ep, told, v, l, rfl, _⟩ := h
    rfl
  · obtain ⟨a, h, f, e, ep, told, v, l, rfl, hh, hf, ht, hv, k⟩ := h
    refine ⟨_, (pss_cons (ps_if (pt_cmpR op_le (pv 2) (kFld rfl T.cl T.n_own_promised (pv 0)) (nomark _)) (pss_one (ps_ret (pe_lst pa_nil))) pss_nil) (pss_cons (ps_expr (pe_meth0 (pv 0) T.cl T.me_stand_down G_m_stand_down (hr.mono (by decide)) b_m_stand_down .nil pass0)) (pss_cons (kSet rfl T.cl T.n_own_promised (pv 0) (pv 2) rfl) (pss_cons (ps_if (pt_not (pt_val (pe_call G_may_promise (hr.mono (by decide)) rfl T.g_may_promise kp_may_promise b_may_promise .nil pass0 (pa_cons (kFld rfl T.cl T.n_own_looks (pv 0)) (pa_cons (pe_tup (pa_cons (kFld rfl T.cl T.n_own_epoch (pv 0)) (pa_cons (pe_meth0 (pv 0) T.cl T.me_last G_m_last (hr.mono (by decide)) b_m_last .nil pass0) pa_nil))) (pa_cons (pv 3) pa_nil)))))) (pss_one (ps_ret (pe_lst pa_nil))) pss_nil) (pss_one (ps_ret (pe_lst (pa_cons (pe_meth (pv 0) T.cl T.me_say G_m_say (hr.mono (by decide)) b_m_say .nil pass0 (pa_cons pe_str (pa_cons (pv 1) (pa_cons (pv 2) (pa_cons (pe_tup (pa_cons (pe_meth0 (pv 0) T.cl T.me_last G_m_last (hr.mono (by decide)) b_m_last .nil pass0) pa_nil)) pa_nil))))) pa_nil)))))))), ?_⟩
    rw [st_m_on_seek]
    unfold M.onSeek at k
    refine ⟨_, rfl, _, rfl, _, _, _, _, rfl, hh.ob, lk_own_promised _ _, _, _, rfl, rfl, _, rfl, ?_⟩
    rw [le_nat]
    cases c1 : Nat.ble e h.promised with
    | true =>
      rw [c1] at k
      exact iteT ⟨Nat.zero_le _, fun p hp => k _ a p (.mk1 (Fr.refl _ _) hh hp (same_new hp) upd_same .nil)⟩
    | false =>
      rw [c1] at k
      refine iteF ?_
      refine ⟨_, rfl, _, _, _, rfl, hh.ob, no_stand_down _ _, a, h, rfl, hh, fun H1 a1 f1 hh1 => ?_⟩
      obtain ⟨a1, rfl⟩ : ∃ b : HA, a1 = { b with p := a.p } := ⟨a1, HA.norm f1.p⟩
      refine ⟨_, rfl, _, rfl, _, _, _, rfl, hh1.ob, hof_1000 _ _, ?_⟩
      (generalize hz : upd H1 a.p _ = H2; obtain ⟨hh2, f2⟩ : HouseAt K H2 _ _ ∧ Fr _ H2 _ _ := (by rw [← hz]; exact wr_promised hh1 f1 e); clear hz)
      obtain ⟨h2, e2, k⟩ : ∃ h2 : M.Hs, { M.standDown h with promised := e } = h2 ∧ (∀ H' a' r, Post K H H' a a' (bif Nat.blt ep h2.epoch || (Nat.beq ep h2.epoch && M.plt l (M.last h2)) then (h2, []) else (h2, [M.Lt.promise h2.name f e (M.last h2)])).1 r (bif Nat.blt ep h2.epoch || (Nat.beq ep h2.epoch && M.plt l (M.last h2)) then (h2, []) else (h2, [M.Lt.promise h2.name f e (M.last h2)])).2 → Q (.ref r) H') := ⟨_, rfl, k⟩
      rw [e2] at hh2
      clear e2 hh1 f1
      have ht2 := f2.kp.sqt ht
      have hv2 := Dp.kp f2.kp _ _ (noL_pl _) hv
      refine ⟨_, rfl, _, _, _, _, rfl, hh2.ob, lk_own_looks _ _, _, rfl, _, _, _, _, rfl, hh2.ob, lk_own_epoch _ _, _, rfl, _, _, _, rfl, hh2.ob, no_last _ _, { a1 with p := a.p }, h2, rfl, hh2, fun lv H3 s3 dv => ⟨by show 2 ≤ sizeLine; decide, fun u hu => ?_⟩⟩
      (generalize hz : upd H3 u _ = H4; have s4 : Same H3 H4 := (by rw [← hz]; exact same_new hu); have h4 : H4 u = some _ := (by rw [← hz]; exact upd_same); clear hz)
      have s34 := s3.trans s4
      have hh4 := hh2.same s34
      have d1 : Dp K H4 (.ref u) (epD h2.epoch (M.last h2)) := .tup (SqT.of h4) (.cons (.int _) (.cons (Dp.kp (Kp.of s4) _ _ (noL_pl _) dv) .nil))
      have d2 : Dp K H4 (.ref told) (epD ep l) := .tup ((Kp.of s34).sqt ht2) (.cons (.int _) (.cons (Dp.kp (Kp.of s34) _ _ (noL_pl _) hv2) .nil))
      refine ⟨_, rfl, _, _, h2.epoch, ep, M.last h2, l, rfl, d1, d2, _, rfl, ?_⟩
      cases c2 : (Nat.blt ep h2.epoch || (Nat.beq ep h2.epoch && M.plt l (M.last h2))) with
      | true =>
        rw [c2] at k
        exact iteT ⟨Nat.zero_le _, fun p hp => k _ _ p (.mk1 (f2.same s34) hh4 hp (same_new hp) upd_same .nil)⟩
      | false =>
        rw [c2] at k
        refine iteF ?_
        refine ⟨_, rfl, _, _, _, rfl, hh4.ob, no_say _ _, _, rfl, _, rfl, _, rfl, _, _, _, rfl, hh4.ob, no_last _ _, { a1 with p := a.p }, h2, rfl, hh4, fun lv5 H5 s5 dv5 => ⟨by show 1 ≤ sizeLine; decide, fun t ht6 => ?_⟩⟩
        (generalize hz : upd H5 t _ = H6; have s6 : Same H5 H6 := (by rw [← hz]; exact same_new ht6); have h6 : H6 t = some _ := (by rw [← hz]; exact upd_same); clear hz)
        have hh6 := (hh4.same s5).same s6
        refine ⟨{ a1 with p := a.p }, h2, _, _, _, t, _, rfl, hh6, SqT.of h6, by show 1 ≤ 10; decide, fun T7 H7 s7 q7 => ⟨by show 1 ≤ sizeLine; decide, fun p hp => ?_⟩⟩
        have lt : LtIs K H7 (.ref T7) (.promise h2.name f e (M.last h2)) := ⟨lt_mk (l := .promise h2.name f e (M.last h2)) q7 (.cons (Dp.kp (Kp.of (s6.trans s7)) _ _ (noL_pl _) dv5) .nil), hh6.mb _ hh6.nm, hf, Nat.zero_le _⟩
        have s47 := s5.trans (s6.trans s7)
        exact k _ _ p (.mk1 ((f2.same s34).same s47) (hh4.same s47) hp (same_new hp) upd_same (.cons (lt.kp (Kp.of (same_new hp))) .nil))
theorem ok_m_on_lead (T : Txt w K mg) : Df P w K mg base 3 (hM K "on_lead") ["self", "other", "epoch"] (spOnLead K) := by
  obtain ⟨fd_m_stand_down, G_m_stand_down, b_m_stand_down, kp_m_stand_down⟩ := okh_stand_down (P := P) (w := w) (base := base) T
  obtain ⟨fd_m_last, G_m_last, b_m_last, kp_m_last⟩ := ok_m_last (P := P) (w := w) (base := base) T
  obtain ⟨fd_m_say, ds_say, G_m_say, b_m_say, b_say0, d_say0, kp_m_say⟩ := ok_m_say (P := P) (w := w) (base := base) T
  refine df_mk T.f_m_on_lead sc_m_on_lead (fun vs H Q E h => ?_) (fun _ _ _ _ _ _ us hl => match us, hl with | [_, _, _], _ => rfl) (fun cdv A outer s H vs Q E hr h => ?_)
  · obtain ⟨a, h, f, e, rfl, _⟩ := h
    rfl
  · obtain ⟨a, h, f, e, rfl, hh, hf, k⟩ := h
    refine ⟨_, (pss_cons (ps_if (PW.pt (pw_or (pt_cmpR op_lt (pv 2) (kFld rfl T.cl T.n_own_promised (pv 0)) (nomark _)) (pw_or1 (PW.pt (pw_and (pt_cmpR op_eq (pv 2) (kFld rfl T.cl T.n_own_promised (pv 0)) (nomark _)) (pw_and1 (pt_cmpR op_ne (kFld rfl T.cl T.n_own_role (pv 0)) pe_str (nomark _)))))))) (pss_one (ps_ret (pe_lst pa_nil))) pss_nil) (pss_cons (ps_expr (pe_meth0 (pv 0) T.cl T.me_stand_down G_m_stand_down (hr.mono (by decide)) b_m_stand_down .nil pass0)) (pss_cons (kSet rfl T.cl T.n_own_promised (pv 0) (pv 2) rfl) (pss_one (ps_ret (pe_lst (pa_cons (pe_meth (pv 0) T.cl T.me_say G_m_say (hr.mono (by decide)) b_m_say .nil pass0 (pa_cons pe_str (pa_cons (pv 1) (pa_cons (pv 2) (pa_cons (pe_tup (pa_cons (pe_meth0 (pv 0) T.cl T.me_last G_m_last (hr.mono (by decide)) b_m_last .nil pass0) pa_nil)) pa_nil))))) pa_nil))))))), ?_⟩
    rw [st_m_on_lead]
    unfold M.onLead at k
    have no : (M.plt (0, 0) (0, 0) = false) → (Nat.blt e h.promised || (Nat.beq e h.promised && !M.isSeeks h.role)) = true → ∀ p, H p = none → Q (.ref p) (upd H p (.lst [])) := fun _ c p hp => by
      rw [c] at k
      exact k _ a p (.mk1 (Fr.refl _ _) hh hp (same_new hp) upd_same .nil)
    have no := no rfl
    have yes : (Nat.blt e h.promised || (Nat.beq e h.promised && !M.isSeeks h.role)) = false → ∀ H' a' r, Post K H H' a a' { M.standDown h with promised := e } r [M.Lt.promise h.name f e (M.last h)] → Q (.ref r) H' := fun c => by
      rw [c] at k
      exact k
    refine ⟨_, rfl, _, rfl, _, _, _, _, rfl, hh.ob, lk_own_promised _ _, _, _, rfl, rfl, _, rfl, ?_⟩
    rw [lt_nat]
    cases c1 : Nat.blt e h.promised with
    | true => exact iteT (iteT ⟨Nat.zero_le _, no (by rw [c1]; rfl)⟩)
    | false =>
      refine iteF ⟨_, rfl, _, rfl, _, _, _, _, rfl, hh.ob, lk_own_promised _ _, rfl, _, rfl, ?_⟩
      rw [int_eq]
      have fin : (Nat.blt e h.promised || (Nat.beq e h.promised && !M.isSeeks h.role)) = false → tSeq (tDrop (tMeth (hC K) "stand_down" (spStandH K) [] E0 (tVar 0) tNil)) (tSeq (sS (hC K) "own_promised" (tVar 0) (tVar 2))
          (tRet (tLst (tCons (tMeth (hC K) "say" (spSay K) [] E0 (tVar 0) (tCons (tC (.str "promise")) (tCons (tVar 1) (tCons (tVar 2) (tCons (tTup (tCons (tMeth (hC K) "last" (spLast K) [] E0 (tVar 0) tNil) tNil)) tNil))))) tNil)))) { nx := fun _ H' => Q .non H', rt := Q } [some (.ref a.p), some (.str (nm f)), some (.int ((e : Nat) : Int))] H := fun c => by
        refine ⟨_, rfl, _, _, _, rfl, hh.ob, no_stand_down _ _, a, h, rfl, hh, fun H1 a1 f1 hh1 => ?_⟩
        obtain ⟨a1, rfl⟩ : ∃ b : HA, a1 = { b with p := a.p } := ⟨a1, HA.norm f1.p⟩
        refine ⟨_, rfl, _, rfl, _, _, _, rfl, hh1.ob, hof_1000 _ _, ?_⟩
        (generalize hz : upd H1 a.p _ = H4; obtain ⟨hh4, f4⟩ : HouseAt K H4 _ _ ∧ Fr _ H4 _ _ := (by rw [← hz]; exact wr_promised hh1 f1 e); clear hz)
        refine ⟨_, rfl, _, _, _, rfl, hh4.ob, no_say _ _, _, rfl, _, rfl, _, rfl, _, _, _, rfl, hh4.ob, no_last _ _, { a1 with p := a.p }, _, rfl, hh4, fun lv5 H5 s5 dv5 => ⟨by show 1 ≤ sizeLine; decide, fun t ht6 => ?_⟩⟩
        (generalize hz : upd H5 t _ = H6; have s6 : Same H5 H6 := (by rw [← hz]; exact same_new ht6); have h6 : H6 t = some _ := (by rw [← hz]; exact upd_same); clear hz)
        have hh6 := (hh4.same s5).same s6
        refine ⟨{ a1 with p := a.p }, _, _, _, _, t, _, rfl, hh6, SqT.of h6, by show 1 ≤ 10; decide, fun T7 H7 s7 q7 => ⟨by show 1 ≤ sizeLine; decide, fun p hp => ?_⟩⟩
        have lt : LtIs K H7 (.ref T7) (.promise h.name f e (M.last h)) := ⟨lt_mk (l := .promise h.name f e (M.last h)) q7 (.cons (Dp.kp (Kp.of (s6.trans s7)) _ _ (noL_pl _) dv5) .nil), hh6.mb _ hh6.nm, hf, Nat.zero_le _⟩
        have s47 := s5.trans (s6.trans s7)
        exact yes c _ _ p (.mk1 (f4.same s47) (hh4.same s47) hp (same_new hp) upd_same (.cons (lt.kp (Kp.of (same_new hp))) .nil))
      cases c2 : Nat.beq e h.promised with
      | false => exact iteF (iteF (fin (by rw [c1, c2]; rfl)))
      | true =>
        refine iteT ⟨_, rfl, _, _, _, _, rfl, hh.ob, lk_own_role _ _, role_scal _ _, _, rfl, ?_⟩
        rw [role_seeks]
        cases c3 : M.isSeeks h.role with
        | false => exact iteT ⟨Nat.zero_le _, no (by rw [c1, c2, c3]; rfl)⟩
        | true => exact iteF (fin (by rw [c1, c2, c3]; rfl))
theorem ok_m_on_told (T : Txt w K mg) : Df P w K mg base 7 (hM K "on_told") ["self", "word", "other", "epoch", "rest"] (spTold K) := by
  obtain ⟨fd_m_leads, G_m_leads, b_m_leads, kp_m_leads⟩ := ok_m_leads (P := P) (w := w) (base := base) T
  obtain ⟨fd_m_look_done, G_m_look_done, b_m_look_done, kp_m_look_done⟩ := ok_m_look_done (P := P) (w := w) (base := base) T
  refine df_mk T.f_m_on_told sc_m_on_told (fun vs H Q E h => ?_) (fun _ _ _ _ _ _ us hl => match us, hl with | [_, _, _, _, _], _ => rfl) (fun cdv A outer s H vs Q E hr h => ?_)
  · obtain ⟨a, h, h2, ls, z, f, e, rest, v, l, rfl, _⟩ := h
    rfl
  · obtain ⟨a, h, h2, ls, z, f, e, rest, v, l, rfl, hh, hf, hrest, hv, nrest, hz, k⟩ := h
    refine ⟨_, (pss_cons (ps_if (pt_not (pt_val (pe_meth (pv 0) T.cl T.me_leads G_m_leads (hr.mono (by decide)) b_m_leads .nil pass0 (pa_cons (pv 3) pa_nil)))) (pss_one (ps_ret (pe_lst pa_nil))) pss_nil) (pss_cons (ps_if (pt_cmpR op_eq (pv 1) pe_str (nomark _)) pss_never pss_nil) (pss_cons (ps_if (PW.pt (pw_or (pt_cmpR op_eq (pv 1) pe_str (nomark _)) (pw_or1 (PW.pt (pw_and (pt_cmpR op_eq (pv 1) pe_str (nomark _)) (pw_and1 (pt_cmp (pc_din (hu_of hr) (pv 2) (kFld rfl T.cl T.n_taken (pv 0))) (by rfl)))))))) (pss_cons (ps_dput (hu_of hr) (kFld rfl T.cl T.n_taken (pv 0)) (pv 2) (pe_callB (kMax rfl rfl hr.units) (by rfl) T.b_max (by decide +kernel) (pa_cons (pe_dget2 (hu_of hr) (kFld rfl T.cl T.n_taken (pv 0)) (pv 2) (pe_glob (v := .ref (He.ga K "NOWHERE")) rfl T.g_NOWHERE rfl) (by constructor <;> rfl)) (pa_cons (pe_ix (kIxL rfl) (pv 4) pe_int (fun _ _ => rfl)) pa_nil))) rfl) (pss_one (ps_ret (pe_meth0 (pv 0) T.cl T.me_look_done G_m_look_done (hr.mono (by decide)) b_m_look_done .nil pass0)))) pss_nil) (pss_cons (ps_if (pt_cmpR op_eq (pv 1) pe_str (nomark _)) pss_never pss_nil) (pss_cons (ps_if (pt_cmpR op_eq (pv 1) pe_str (nomark _)) pss_never pss_nil) (pss_one (ps_ret (pe_lst pa_nil)))))))), ?_⟩
    rw [st_m_on_told]
    have nil : h2 = h → ls = [] → ∀ p, H p = none → Q (.ref p) (upd H p (.lst [])) := fun e1 e2 p hp => by
      subst e1 e2
      exact k _ a p (.mk1 (Fr.refl _ _) hh hp (same_new hp) upd_same .nil)
    refine ⟨_, rfl, _, _, _, rfl, hh.ob, no_leads _ _, _, rfl, a, h, e, rfl, hh, _, rfl, ?_⟩
    cases c1 : M.leads h e with
    | false =>
      refine iteT ⟨Nat.zero_le _, ?_⟩
      rcases hz with ⟨_, hz⟩ | ⟨_, hz⟩
      · unfold M.onSynced at hz; rw [c1] at hz; cases hz; exact nil rfl rfl
      · unfold M.onTook at hz; rw [c1] at hz; cases hz; exact nil rfl rfl
    | true =>
      refine iteF ?_
      obtain ⟨kvs, et, dt⟩ := hh.ta
      have body : M.tell h f l = some (h2, ls) → tSeq (sDPut (tF (hC K) "taken" (tVar 0)) (tVar 2) (tCB (rMaxD K) (tCons (tDGet2 (tF (hC K) "taken" (tVar 0)) (tVar 2) (tC (.ref (He.ga K "NOWHERE")))) (tCons (tOp (rIxL K) (tVar 4) (tC (.int 0))) tNil))))
          (tRet (tMeth (hC K) "look_done" (spLookDone K) [] E0 (tVar 0) tNil)) { nx := fun _ H' => Q .non H', rt := Q } [some (.ref a.p), some (.str z), some (.str (nm f)), some (.int ((e : Nat) : Int)), some (.ref rest)] H := fun ht => by
        unfold M.tell at ht
        cases cb : Nat.blt h.taken.length M.bnd with
        | false => rw [cb] at ht; cases ht
        | true =>
          rw [cb] at ht
          have htl := Nat.blt_eq.mp cb
          have hk := dic_len dt
          have d1 : Dp K H ((valV kvs (nK f)).getD (.ref (He.ga K "NOWHERE"))) (plD ((M.dget h.taken f).getD (0, 0))) := by
            rcases dic_get dt f with ⟨e1, e2⟩ | ⟨v2, q, e1, e2, dv⟩
            · rw [e1, e2]; exact pl_mk (p := (0, 0)) (T.nowhere _)
            · rw [e1, e2]; exact dv
          have d2 : Dp K H (if dataLt (plD ((M.dget h.taken f).getD (0, 0))) (plD l) = true then v else (valV kvs (nK f)).getD (.ref (He.ga K "NOWHERE"))) (plD (M.pmax ((M.dget h.taken f).getD (0, 0)) l)) := by
            rw [lt_pl, M.pmax]
            cases M.plt ((M.dget h.taken f).getD (0, 0)) l with
            | true => exact hv
            | false => exact d1
          refine ⟨_, rfl, _, _, _, _, rfl, hh.ob, lk_taken _ _, a.ta, rfl, .inl ⟨kvs, .inl et⟩, _, rfl, _, DGet.k (k := nK f) et, _, rfl, rest, _, _, _, rfl, rfl, hrest, at_of (j := 0) rfl rfl, _, _, _, _, rfl, d1, hv, all_pl _ _, dep_pl _ _, ?_⟩
          refine ⟨_, rfl, _, _, _, _, rfl, hh.ob, lk_taken _ _, _, rfl, _, _, rfl, DPut.k (k := nK f) et (Nat.lt_of_le_of_lt (show kvs.length ≤ 1000 by rw [hk]; exact Nat.le_of_lt htl) (by decide)), ?_⟩
          (generalize hz : upd H a.ta _ = H1; obtain ⟨hh1, f1⟩ : HouseAt K H1 _ _ ∧ Fr _ H1 _ _ := (by rw [← hz]; exact up_take hh (Fr.refl _ _) et (dic_put dt f d2) (Nat.le_trans (dput_len _ _ _) htl)); clear hz)
          exact ⟨_, rfl, _, _, _, rfl, hh1.ob, no_look_done _ _, a, _, h2, ls, rfl, hh1, ht, fun H2 a2 r2 po => k _ a2 r2 ⟨f1.trans po.f, po.hh, f1.al _ po.new, po.nr, po.l⟩⟩
      rcases hz with ⟨rfl, hz⟩ | ⟨rfl, hz⟩
      · unfold M.onSynced at hz
        rw [c1] at hz
        refine ⟨_, rfl, rfl, false, bF (by decide +kernel), iteF ?_⟩
        refine ⟨_, rfl, rfl, true, bT rfl, iteT (iteT ?_)⟩
        exact body hz
      · unfold M.onTook at hz
        rw [c1] at hz
        refine ⟨_, rfl, rfl, false, bF (by decide +kernel), iteF ?_⟩
        refine ⟨_, rfl, rfl, false, bF (by decide +kernel), iteF ?_⟩
        refine ⟨_, rfl, rfl, true, bT rfl, iteT ⟨_, rfl, _, rfl, _, _, _, _, rfl, hh.ob, lk_taken _ _, _, _, rfl, DGet.k (k := nK f) et, _, rfl, ?_⟩⟩
        rw [dic_has dt]
        cases c2 : M.dhas h.taken f with
        | true =>
          rw [c2] at hz
          exact iteT (body hz)
        | false =>
          rw [c2] at hz
          cases hz
          refine iteF ?_
          refine ⟨_, rfl, rfl, false, bF (by decide +kernel), iteF ?_⟩
          refine ⟨_, rfl, rfl, false, bF (by decide +kernel), iteF ?_⟩
          exact ⟨Nat.zero_le _, nil rfl rfl⟩
end
end Wd
/-! ## P17 -/
set_option Elab.async false
set_option linter.all false
set_option maxRecDepth 100000
set_option maxHeartbeats 400000
namespace Wd
open PySem PySem.Spec PyProof.Rows L2 PySem.W PySem.SeqAt
def soughtIs (h : M.Hs) (e : Nat) : Bool := match h.sought with
  | some s => Nat.beq s e
  | none => false
theorem sought_is (h : M.Hs) (e : Nat) : decide (numV h.sought = V.int ((e : Nat) : Int)) = soughtIs h e := by
  unfold soughtIs
  cases h.sought with
  | none => rfl
  | some x => exact int_eq x e
theorem sought_scal (r : Option Nat) (i : Int) : scal (numV r) (.int i) = true := by cases r <;> rfl
theorem ddrop_len (d : M.Dic) (x : Nat) : (M.ddrop d x).length ≤ d.length := List.length_filter_le _ _
section
variable {P : Program} {w : World} {K : PySem.W.Frag} {mg : Str → Option Value} {base : Heap}
theorem ok_m_on_promise (T : Txt w K mg) : Df P w K mg base 8 (hM K "on_promise") ["self", "other", "epoch", "last"] (spOnPromise K) := by
  obtain ⟨fd_m_leads, G_m_leads, b_m_leads, kp_m_leads⟩ := ok_m_leads (P := P) (w := w) (base := base) T
  obtain ⟨fd_m_sync_for, G_m_sync_for, b_m_sync_for, kp_m_sync_for⟩ := ok_m_sync_for (P := P) (w := w) (base := base) T
  obtain ⟨fd_m_lead, G_m_lead, b_m_lead, kp_m_lead⟩ := ok_m_lead (P := P) (w := w) (base := base) T
  obtain ⟨fd_most_of, G_most_of, b_most_of, kp_most_of⟩ := ok_most_of (P := P) (w := w) (base := base) T
  refine df_mk T.f_m_on_promise sc_m_on_promise (fun vs H Q E h => ?_) (fun _ _ _ _ _ _ us hl => match us, hl with | [_, _, _, _], _ => rfl) (fun cdv A outer s H vs Q E hr h => ?_)
  · obtain ⟨a, h, h2, ls, f, e, v, l, rfl, _⟩ := h
    rfl
  · obtain ⟨a, h, h2, ls, f, e, v, l, rfl, hh, hf, hv, hz, k⟩ := h
    refine ⟨_, (pss_cons (ps_if (pt_val (pe_meth (pv 0) T.cl T.me_leads G_m_leads (hr.mono (by decide)) b_m_leads .nil pass0 (pa_cons (pv 2) pa_nil))) (pss_cons (ps_dput (hu_of hr) (kFld rfl T.cl T.n_promises (pv 0)) (pv 1) (pv 3) rfl) (pss_cons (ps_expr (pe_dpop2 (kFld rfl T.cl T.n_taken (pv 0)) (pv 1) pe_non (by constructor <;> rfl))) (pss_one (ps_ret (pe_lst (pa_cons (pe_meth (pv 0) T.cl T.me_sync_for G_m_sync_for (hr.mono (by decide)) b_m_sync_for .nil pass0 (pa_cons (pv 1) pa_nil)) pa_nil)))))) pss_nil) (pss_cons (ps_if (PW.pt (pw_or (pt_cmpR op_ne (pv 2) (kFld rfl T.cl T.n_own_promised (pv 0)) (nomark _)) (pw_or1 (pt_cmpR op_ne (kFld rfl T.cl T.n_sought (pv 0)) (pv 2) (nomark _))))) (pss_one (ps_ret (pe_lst pa_nil))) pss_nil) (pss_cons (ps_dput (hu_of hr) (kFld rfl T.cl T.n_promises (pv 0)) (pv 1) (pv 3) rfl) (pss_one (ps_ret (pe_ifExp (pt_cmpR op_ge (pe_callB call_lenD (by rfl) T.b_len PySem.boot_len (pa_cons (kFld rfl T.cl T.n_promises (pv 0)) pa_nil)) (pe_call G_most_of (hr.mono (by decide)) rfl T.g_most_of kp_most_of b_most_of .nil pass0 (pa_cons (kFld rfl T.cl T.n_own_members (pv 0)) pa_nil)) (nomark _)) (pe_meth0 (pv 0) T.cl T.me_lead G_m_lead (hr.mono (by decide)) b_m_lead .nil pass0) (pe_lst pa_nil))))))), ?_⟩
    rw [st_m_on_promise]
    obtain ⟨kvs, ep, dp⟩ := hh.pr
    have hk := dic_len dp
    unfold M.onPromise at hz
    cases cb : Nat.blt h.promises.length M.bnd with
    | false => rw [cb] at hz; cases hz
    | true =>
      rw [cb] at hz
      have hpl := Nat.blt_eq.mp cb
      have hput : DPut H a.pr (.str (nm f)) v (upd H a.pr (.dK (putK kvs (nK f) v))) := DPut.k (k := nK f) ep (Nat.lt_of_le_of_lt (show kvs.length ≤ 1000 by rw [hk]; exact Nat.le_of_lt hpl) (by decide))
      refine ⟨_, rfl, _, _, _, rfl, hh.ob, no_leads _ _, _, rfl, a, h, e, rfl, hh, _, rfl, ?_⟩
      cases c1 : M.leads h e with
      | true =>
        rw [c1] at hz
        refine iteT ⟨_, rfl, _, rfl, _, _, _, _, rfl, hh.ob, lk_promises _ _, _, rfl, _, _, rfl, hput, ?_⟩
        (generalize hz : upd H a.pr _ = H1; obtain ⟨hh1, f1⟩ : HouseAt K H1 _ _ ∧ Fr _ H1 _ _ := (by rw [← hz]; exact up_prom hh (Fr.refl _ _) ep (dic_put dp f hv) (Nat.le_trans (dput_len _ _ _) hpl)); clear hz)
        obtain ⟨kvt, et, dt⟩ := hh1.ta
        refine ⟨_, rfl, _, _, _, _, rfl, hh1.ob, lk_taken _ _, a.ta, rfl, .inl ⟨kvt, .inl et⟩, _, rfl, kvt, nK f, et, rfl, ?_⟩
        have rest : ∀ H2 (h3 : M.Hs), h3 = { h with promises := M.dput h.promises f l, taken := M.ddrop h.taken f } → HouseAt K H2 a h3 → Fr H H2 a a → tRet (tLst (tCons (tMeth (hC K) "sync_for" (spSyncFor K) [] E0 (tVar 0) (tCons (tVar 1) tNil)) tNil)) { nx := fun _ H' => Q .non H', rt := Q } [some (.ref a.p), some (.str (nm f)), some (.int ((e : Nat) : Int)), some v] H2 := fun H2 h3 e3 hh2 f2 => by
          cases es : M.syncFor h3 f with
          | none => rw [e3] at es; simp [es] at hz
          | some x =>
            have hz2 : h3 = h2 ∧ [x] = ls := by
              rw [e3] at es
              simp [es] at hz
              exact ⟨by rw [e3]; exact hz.1, hz.2⟩
            obtain ⟨rfl, rfl⟩ := hz2
            refine ⟨_, rfl, _, _, _, rfl, hh2.ob, no_sync_for _ _, _, rfl, a, h3, f, x, rfl, hh2, hf, es, fun u H3 s3 q3 => ⟨by show 1 ≤ sizeLine; decide, fun p hp => ?_⟩⟩
            exact k _ a p (.mk1 (f2.same s3) (hh2.same s3) hp (same_new hp) upd_same (.cons (q3.kp (Kp.of (same_new hp))) .nil))
        refine ⟨fun v2 ev => ?_, fun ev => ?_⟩
        · (generalize hz : upd H1 a.ta _ = H2; obtain ⟨hh2, f2⟩ : HouseAt K H2 _ _ ∧ Fr _ H2 _ _ := (by rw [← hz]; exact up_take hh1 f1 et (dic_drop dt f) (Nat.le_trans (ddrop_len _ _) hh1.tl)); clear hz)
          exact rest H2 _ rfl hh2 f2
        · refine rest H1 _ ?_ hh1 f1
          have := dic_drop_none dt f ev
          change M.ddrop h.taken f = h.taken at this
          rw [this]
      | false =>
        rw [c1] at hz
        refine iteF ?_
        have nil : h2 = h → ls = [] → ∀ p, H p = none → Q (.ref p) (upd H p (.lst [])) := fun e1 e2 p hp => by
          subst e1 e2
          exact k _ a p (.mk1 (Fr.refl _ _) hh hp (same_new hp) upd_same .nil)
        have hz2 : (bif !Nat.beq e h.promised || !soughtIs h e then some (h, []) else bif Nat.ble (M.most h) (M.dput h.promises f l).length then M.lead { h with promises := M.dput h.promises f l } else some ({ h with promises := M.dput h.promises f l }, [])) = some (h2, ls) := hz
        clear hz
        refine ⟨_, rfl, _, rfl, _, _, _, _, rfl, hh.ob, lk_own_promised _ _, rfl, _, rfl, ?_⟩
        rw [int_eq]
        cases c2 : Nat.beq e h.promised with
        | false =>
          rw [c2] at hz2
          cases hz2
          exact iteT (iteT ⟨Nat.zero_le _, nil rfl rfl⟩)
        | true =>
          rw [c2] at hz2
          refine iteF ⟨_, rfl, _, _, _, _, rfl, hh.ob, lk_sought _ _, _, rfl, sought_scal _ _, _, rfl, ?_⟩
          rw [sought_is]
          cases c3 : soughtIs h e with
          | false =>
            rw [c3] at hz2
            cases hz2
            exact iteT ⟨Nat.zero_le _, nil rfl rfl⟩
          | true =>
            rw [c3] at hz2
            refine iteF ?_
            refine ⟨_, rfl, _, rfl, _, _, _, _, rfl, hh.ob, lk_promises _ _, _, rfl, _, _, rfl, hput, ?_⟩
            have dk2 := dic_put dp f hv
            (generalize hz : upd H a.pr _ = H1; obtain ⟨hh1, f1⟩ : HouseAt K H1 _ _ ∧ Fr _ H1 _ _ := (by rw [← hz]; exact up_prom hh (Fr.refl _ _) ep (dic_put dp f hv) (Nat.le_trans (dput_len _ _ _) hpl)); clear hz)
            obtain ⟨kv1, ep1, dp1⟩ := hh1.pr
            refine ⟨_, rfl, _, _, _, _, rfl, hh1.ob, lk_promises _ _, _, kv1, rfl, ep1, _, rfl, _, _, _, _, rfl, hh1.ob, lk_own_members _ _, a.mem, _, rfl, hh1.mm, _, _, rfl, rfl, _, rfl, ?_⟩
            have e2 : decide (((h.mem.map fun i => V.str (nm i)).length / 2 + 1 : Nat) ≤ ((kv1.length : Nat) : Int)) = Nat.ble (M.most h) (M.dput h.promises f l).length := by
              rw [List.length_map, dic_len dp1, le_nat]; rfl
            refine iteB e2 ?_
            have hz3 : (bif Nat.ble (M.most h) (M.dput h.promises f l).length then M.lead { h with promises := M.dput h.promises f l } else some ({ h with promises := M.dput h.promises f l }, [])) = some (h2, ls) := hz2
            cases c4 : Nat.ble (M.most h) (M.dput h.promises f l).length with
            | true =>
              rw [c4] at hz3
              exact iteT ⟨_, rfl, _, _, _, rfl, hh1.ob, no_lead _ _, a, _, h2, ls, rfl, hh1, hz3, fun H2 a2 r2 po => k _ a2 r2 ⟨f1.trans po.f, po.hh, f1.al _ po.new, po.nr, po.l⟩⟩
            | false =>
              rw [c4] at hz3
              cases hz3
              exact iteF ⟨Nat.zero_le _, fun p hp => k _ a p (.mk1 f1 hh1 hp (same_new hp) upd_same .nil)⟩
end
end Wd
/-! ## P18 -/
set_option Elab.async false
set_option linter.all false
set_option maxRecDepth 100000
set_option maxHeartbeats 400000
namespace Wd
open PySem PySem.Spec PyProof.Rows L2 PySem.W PySem.SeqAt
def spOnDone (K : PySem.W.Frag) : Sp := fun vs H Q _ => ∃ (a : HA) (h h2 : M.Hs) (ls : List M.Lt) (f e : Nat) (v : V) (l : M.Pl), vs = [.ref a.p, .str (nm f), .int ((e : Nat) : Int), v] ∧ HouseAt K H a h ∧ f < 26 ∧ Dp K H v (plD l) ∧ M.onDone h f e l = some (h2, ls) ∧
  ∀ H' a' r, Post K H H' a a' h2 r ls → Q (.ref r) H'
def spOnPropose (K : PySem.W.Frag) : Sp := fun vs H Q _ => ∃ (a : HA) (h h2 : M.Hs) (ls : List M.Lt) (f e : Nat) (told : Addr) (v1 v2 v3 : V) (p q : M.Pl) (en : M.En), vs = [.ref a.p, .str (nm f), .int ((e : Nat) : Int), .ref told] ∧ HouseAt K H a h ∧ f < 26 ∧ SqL K H told [v1, v2, v3] ∧ Dp K H v1 (plD p) ∧ Dp K H v2 (plD q) ∧ Dp K H v3 (enD en) ∧
  M.onPropose h f e p q en = some (h2, ls) ∧ ∀ H' a' r, Post K H H' a a' h2 r ls → Q (.ref r) H'
def spOnSync (K : PySem.W.Frag) : Sp := fun vs H Q _ => ∃ (a : HA) (h h2 : M.Hs) (ls : List M.Lt) (f e : Nat) (told : Addr) (v1 v2 v4 : V) (th : Addr) (xs : List V) (b : M.Pl) (r : M.Row) (p : M.Pl), vs = [.ref a.p, .str (nm f), .int ((e : Nat) : Int), .ref told] ∧ HouseAt K H a h ∧ f < 26 ∧ SqL K H told [v1, v2, .ref th, v4] ∧ Dp K H v2 (plD b) ∧ SqT K H th xs ∧ Ds K thD H xs r ∧ Dp K H v4 (plD p) ∧
  r.length ≤ 1000 ∧ M.onSync h f e b r p = some (h2, ls) ∧ ∀ H' a' r, Post K H H' a a' h2 r ls → Q (.ref r) H'
def spDoneRow (K : PySem.W.Frag) : Sp := fun vs H Q _ => ∃ (a : HA) (h : M.Hs), vs = [.ref a.p] ∧ HouseAt K H a h ∧ ∀ D H', NewRow K H H' D (M.upTo h.row h.done) → Q (.ref D) H'
def spRow (K : PySem.W.Frag) : Sp := fun vs H Q _ => ∃ (a : HA) (h : M.Hs), vs = [.ref a.p] ∧ HouseAt K H a h ∧ ∀ D H', NewRow K H H' D h.row → Q (.ref D) H'
def spHead (K : PySem.W.Frag) : Sp := fun vs H Q _ => ∃ (a : HA) (h : M.Hs), vs = [.ref a.p] ∧ HouseAt K H a h ∧ Q (nameV h.head) H
def spEpoch (K : PySem.W.Frag) : Sp := fun vs H Q _ => ∃ (a : HA) (h : M.Hs), vs = [.ref a.p] ∧ HouseAt K H a h ∧ Q (.int ((h.epoch : Nat) : Int)) H
theorem ite_st {k : Bool} {A B : TS} {D : Ends} {σ : L2.St} {H : Hp} (N : Hp → Prop) (hr : ∀ H3, N H3 → D.nx σ H3) (hA : k = true → ∀ D' : Ends, (∀ H3, N H3 → D'.nx σ H3) → A D' σ H) (hB : k = false → ∀ D' : Ends, (∀ H3, N H3 → D'.nx σ H3) → B D' σ H) :
    if k = true then A D σ H else B D σ H := by
  cases k with
  | true => exact iteT (hA rfl D hr)
  | false => exact iteF (hB rfl D hr)
theorem follow_row (h : M.Hs) (f : Nat) : (M.follow h f).row = h.row := by
  unfold M.follow
  cases M.headIs h f <;> rfl
section
variable {P : Program} {w : World} {K : PySem.W.Frag} {mg : Str → Option Value} {base : Heap}
theorem ok_m_head (T : Txt w K mg) : Df P w K mg base 1 (hM K "head") ["self"] (spHead K) := by
  refine df_mk T.f_m_head sc_m_head (fun vs H Q E h => ?_) (fun _ _ _ _ _ _ us hl => match us, hl with | [_], _ => rfl) (fun cdv A outer s H vs Q E hr h => ?_)
  · obtain ⟨a, h, rfl, _⟩ := h
    rfl
  · obtain ⟨a, h, rfl, hh, k⟩ := h
    refine ⟨_, (pss_one (ps_ret (kFld rfl T.cl T.n_own_head (pv 0)))), ?_⟩
    rw [st_m_head]
    exact ⟨_, rfl, _, _, _, _, rfl, hh.ob, lk_own_head _ _, k⟩
theorem ok_m_epoch (T : Txt w K mg) : Df P w K mg base 1 (hM K "epoch") ["self"] (spEpoch K) := by
  refine df_mk T.f_m_epoch sc_m_epoch (fun vs H Q E h => ?_) (fun _ _ _ _ _ _ us hl => match us, hl with | [_], _ => rfl) (fun cdv A outer s H vs Q E hr h => ?_)
  · obtain ⟨a, h, rfl, _⟩ := h
    rfl
  · obtain ⟨a, h, rfl, hh, k⟩ := h
    refine ⟨_, (pss_one (ps_ret (kFld rfl T.cl T.n_own_epoch (pv 0)))), ?_⟩
    rw [st_m_epoch]
    exact ⟨_, rfl, _, _, _, _, rfl, hh.ob, lk_own_epoch _ _, k⟩
theorem ok_m_row (T : Txt w K mg) : Df P w K mg base 1 (hM K "row") ["self"] (spRow K) := by
  refine df_mk T.f_m_row sc_m_row (fun vs H Q E h => ?_) (fun _ _ _ _ _ _ us hl => match us, hl with | [_], _ => rfl) (fun cdv A outer s H vs Q E hr h => ?_)
  · obtain ⟨a, h, rfl, _⟩ := h
    rfl
  · obtain ⟨a, h, rfl, hh, k⟩ := h
    refine ⟨_, (pss_one (ps_ret (pe_callTy call_list_of (by rfl) T.b_list (by decide +kernel) (pa_cons (kFld rfl T.cl T.n_own_row (pv 0)) pa_nil)))), ?_⟩
    rw [st_m_row]
    obtain ⟨wr, er, dr⟩ := hh.row
    refine ⟨_, rfl, _, _, _, _, rfl, hh.ob, lk_own_row _ _, a.row, wr, rfl, .inl (SqL.of er), fun p hp => ?_⟩
    exact k p _ ⟨hp, same_new hp, wr, upd_same, dr.kp (Kp.of (same_new hp)) noL_th⟩
theorem ok_m_done_row (T : Txt w K mg) : Df P w K mg base 2 (hM K "done_row") ["self"] (spDoneRow K) := by
  obtain ⟨fd_up_to, G_up_to, b_up_to, kp_up_to⟩ := ok_up_to (P := P) (w := w) (base := base) T
  refine df_mk T.f_m_done_row sc_m_done_row (fun vs H Q E h => ?_) (fun _ _ _ _ _ _ us hl => match us, hl with | [_], _ => rfl) (fun cdv A outer s H vs Q E hr h => ?_)
  · obtain ⟨a, h, rfl, _⟩ := h
    rfl
  · obtain ⟨a, h, rfl, hh, k⟩ := h
    refine ⟨_, (pss_one (ps_ret (pe_call G_up_to (hr.mono (by decide)) rfl T.g_up_to kp_up_to b_up_to .nil pass0 (pa_cons (kFld rfl T.cl T.n_own_row (pv 0)) (pa_cons (kFld rfl T.cl T.n_own_done (pv 0)) pa_nil))))), ?_⟩
    rw [st_m_done_row]
    obtain ⟨wr, er, dr⟩ := hh.row
    exact ⟨_, rfl, _, _, _, _, rfl, hh.ob, lk_own_row _ _, _, rfl, _, _, _, _, rfl, hh.ob, lk_own_done _ _, a.row, wr, _, h.row, h.done, rfl, SqL.of er, dr, hh.dn, Nat.le_trans hh.rl (by decide), k⟩
theorem ok_m_on_done (T : Txt w K mg) : Df P w K mg base 6 (hM K "on_done") ["self", "other", "epoch", "place"] (spOnDone K) := by
  obtain ⟨fd_m_stands_by, G_m_stands_by, b_m_stands_by, kp_m_stands_by⟩ := ok_m_stands_by (P := P) (w := w) (base := base) T
  obtain ⟨fd_m_follow, G_m_follow, b_m_follow, kp_m_follow⟩ := ok_m_follow (P := P) (w := w) (base := base) T
  obtain ⟨fd_m_last, G_m_last, b_m_last, kp_m_last⟩ := ok_m_last (P := P) (w := w) (base := base) T
  obtain ⟨fd_m_go_on_to, G_m_go_on_to, b_m_go_on_to, kp_m_go_on_to⟩ := ok_m_go_on_to (P := P) (w := w) (base := base) T
  refine df_mk T.f_m_on_done sc_m_on_done (fun vs H Q E h => ?_) (fun _ _ _ _ _ _ us hl => match us, hl with | [_, _, _, _], _ => rfl) (fun cdv A outer s H vs Q E hr h => ?_)
  · obtain ⟨a, h, h2, ls, f, e, v, l, rfl, _⟩ := h
    rfl
  · obtain ⟨a, h, h2, ls, f, e, v, l, rfl, hh, hf, hv, hz, k⟩ := h
    refine ⟨_, (pss_cons (ps_if (pt_val (pe_meth (pv 0) T.cl T.me_stands_by G_m_stands_by (hr.mono (by decide)) b_m_stands_by .nil pass0 (pa_cons (pv 2) pa_nil))) (pss_cons (ps_expr (pe_meth (pv 0) T.cl T.me_follow G_m_follow (hr.mono (by decide)) b_m_follow .nil pass0 (pa_cons (pv 1) pa_nil))) (pss_one (ps_expr (pe_meth (pv 0) T.cl T.me_go_on_to G_m_go_on_to (hr.mono (by decide)) b_m_go_on_to .nil pass0 (pa_cons (pe_callB (kMin rfl rfl hr.units) (by rfl) T.b_min (by decide +kernel) (pa_cons (pv 3) (pa_cons (pe_meth0 (pv 0) T.cl T.me_last G_m_last (hr.mono (by decide)) b_m_last .nil pass0) pa_nil))) pa_nil))))) pss_nil) (pss_one (ps_ret (pe_lst pa_nil)))), ?_⟩
    rw [st_m_on_done]
    unfold M.onDone at hz
    refine ⟨_, rfl, _, _, _, rfl, hh.ob, no_stands_by _ _, _, rfl, a, h, e, rfl, hh, _, rfl, ?_⟩
    cases c1 : M.standsBy h e with
    | false =>
      rw [c1] at hz
      cases hz
      exact iteF ⟨Nat.zero_le _, fun p hp => k _ a p (.mk1 (Fr.refl _ _) hh hp (same_new hp) upd_same .nil)⟩
    | true =>
      rw [c1] at hz
      refine iteT ⟨_, rfl, _, _, _, rfl, hh.ob, no_follow _ _, _, rfl, a, h, f, rfl, hh, fun H1 a1 f1 hh1 => ?_⟩
      obtain ⟨a1, rfl⟩ : ∃ b : HA, a1 = { b with p := a.p } := ⟨a1, HA.norm f1.p⟩
      have hz2 : (match M.goOn (M.follow h f) (M.pmin l (M.last (M.follow h f))) with
        | none => none
        | some h => some (h, [])) = some (h2, ls) := hz
      clear hz
      generalize M.follow h f = h1 at *
      have hv1 := Dp.kp f1.kp _ _ (noL_pl _) hv
      refine ⟨_, rfl, _, _, _, rfl, hh1.ob, no_go_on_to _ _, _, rfl, _, rfl, _, _, _, rfl, hh1.ob, no_last _ _, { a1 with p := a.p }, h1, rfl, hh1, fun lv H2 s2 dv => ?_⟩
      have hh2 := hh1.same s2
      have hv2 := Dp.kp (Kp.of s2) _ _ (noL_pl _) hv1
      cases eg : M.goOn h1 (M.pmin l (M.last h1)) with
      | none => rw [eg] at hz2; cases hz2
      | some h3 =>
        rw [eg] at hz2
        cases hz2
        have d2 : Dp K H2 (if dataLt (plD (M.last h1)) (plD l) = true then lv else v) (plD (M.pmin l (M.last h1))) := by
          rw [lt_pl, M.pmin]
          cases M.plt (M.last h1) l with
          | true => exact dv
          | false => exact hv2
        refine ⟨_, _, _, _, rfl, hv2, dv, all_pl _ _, dep_pl _ _, { a1 with p := a.p }, h1, _, _, h2, rfl, hh2, d2, eg, fun H3 a3 f3 hh3 _ _ => ⟨Nat.zero_le _, fun p hp => ?_⟩⟩
        exact k _ a3 p (.mk1 ((f1.same s2).trans f3) hh3 hp (same_new hp) upd_same .nil)
theorem ok_m_on_propose (T : Txt w K mg) : Df P w K mg base 3 (hM K "on_propose") ["self", "other", "epoch", "told"] (spOnPropose K) := by
  obtain ⟨fd_m_stands_by, G_m_stands_by, b_m_stands_by, kp_m_stands_by⟩ := ok_m_stands_by (P := P) (w := w) (base := base) T
  obtain ⟨fd_m_follow, G_m_follow, b_m_follow, kp_m_follow⟩ := ok_m_follow (P := P) (w := w) (base := base) T
  obtain ⟨fd_m_last, G_m_last, b_m_last, kp_m_last⟩ := ok_m_last (P := P) (w := w) (base := base) T
  obtain ⟨fd_m_has, G_m_has, b_m_has, kp_m_has⟩ := ok_m_has (P := P) (w := w) (base := base) T
  obtain ⟨fd_m_say, ds_say, G_m_say, b_m_say, b_say0, d_say0, kp_m_say⟩ := ok_m_say (P := P) (w := w) (base := base) T
  refine df_mk T.f_m_on_propose sc_m_on_propose (fun vs H Q E h => ?_) (fun _ _ _ _ _ _ us hl => match us, hl with | [_, _, _, _], _ => rfl) (fun cdv A outer s H vs Q E hr h => ?_)
  · obtain ⟨a, h, h2, ls, f, e, told, v1, v2, v3, p, q, en, rfl, _⟩ := h
    rfl
  · obtain ⟨a, h, h2, ls, f, e, told, v1, v2, v3, p, q, en, rfl, hh, hf, ht, g1, g2, g3, hz, k⟩ := h
    refine ⟨_, (pss_cons (ps_asg (pv 3) (kUnl rfl rfl (pgs_cons (pg_name (i := 4) sc_m_on_propose.nd rfl (Or.inl rfl)) (pgs_cons (pg_name (i := 5) sc_m_on_propose.nd rfl (Or.inl rfl)) (pgs_cons (pg_name (i := 6) sc_m_on_propose.nd rfl (Or.inl rfl)) pgs_nil))))) (pss_cons (ps_if (pt_not (pt_val (pe_meth (pv 0) T.cl T.me_stands_by G_m_stands_by (hr.mono (by decide)) b_m_stands_by .nil pass0 (pa_cons (pv 2) pa_nil)))) (pss_one (ps_ret (pe_lst pa_nil))) pss_nil) (pss_cons (ps_expr (pe_meth (pv 0) T.cl T.me_follow G_m_follow (hr.mono (by decide)) b_m_follow .nil pass0 (pa_cons (pv 1) pa_nil))) (pss_cons (ps_if (pt_cmpR (kEqD rfl hr.units) (pe_meth0 (pv 0) T.cl T.me_last G_m_last (hr.mono (by decide)) b_m_last .nil pass0) (pv 4) (nomark _)) (pss_one (ps_expr (pe_bm PySem.F.plainAttrs_list PySem.F.slot_list_append PySem.F.type_list_append mt_append (kFld rfl T.cl T.n_own_row (pv 0)) (pa_cons (pe_tup (pa_cons (pv 5) (pa_cons (pv 6) pa_nil))) pa_nil)))) pss_nil) (pss_one (ps_ret (pe_ifExp (pt_val (pe_meth (pv 0) T.cl T.me_has G_m_has (hr.mono (by decide)) b_m_has .nil pass0 (pa_cons (pv 5) pa_nil))) (pe_lst (pa_cons (pe_meth (pv 0) T.cl T.me_say G_m_say (hr.mono (by decide)) b_m_say .nil pass0 (pa_cons pe_str (pa_cons (pv 1) (pa_cons (pv 2) (pa_cons (pe_tup (pa_cons (pe_meth0 (pv 0) T.cl T.me_last G_m_last (hr.mono (by decide)) b_m_last .nil pass0) pa_nil)) pa_nil))))) pa_nil)) (pe_lst pa_nil)))))))), ?_⟩
    rw [st_m_on_propose]
    unfold M.onPropose at hz
    refine ⟨_, rfl, told, _, rfl, ht, rfl, _, _, rfl, _, _, rfl, _, _, rfl, rfl, ?_⟩
    simp only [List.set_cons_succ, List.set_cons_zero]
    refine ⟨_, rfl, _, _, _, rfl, hh.ob, no_stands_by _ _, _, rfl, a, h, e, rfl, hh, _, rfl, ?_⟩
    cases c1 : M.standsBy h e with
    | false =>
      rw [c1] at hz
      cases hz
      exact iteT ⟨Nat.zero_le _, fun p hp => k _ a p (.mk1 (Fr.refl _ _) hh hp (same_new hp) upd_same .nil)⟩
    | true =>
      rw [c1] at hz
      cases cb : Nat.blt h.row.length M.bnd with
      | false => rw [cb] at hz; cases hz
      | true =>
        rw [cb] at hz
        have hrl := Nat.blt_eq.mp cb
        refine iteF ⟨_, rfl, _, _, _, rfl, hh.ob, no_follow _ _, _, rfl, a, h, f, rfl, hh, fun H1 a1 f1 hh1 => ?_⟩
        obtain ⟨a1, rfl⟩ : ∃ b : HA, a1 = { b with p := a.p } := ⟨a1, HA.norm f1.p⟩
        have hrl1 : (M.follow h f).row.length < 1000 := by rw [follow_row]; exact hrl
        generalize M.follow h f = h1 at *
        have k1 := Dp.kp f1.kp _ _ (noL_pl _) g1
        have k2 := Dp.kp f1.kp _ _ (noL_pl _) g2
        have k3 := Dp.kp f1.kp _ _ (noL_en _) g3
        refine ⟨_, rfl, _, _, _, rfl, hh1.ob, no_last _ _, { a1 with p := a.p }, h1, rfl, hh1, fun lv H2 s2 dv => ⟨_, rfl, _, _, dv, Dp.kp (Kp.of s2) _ _ (noL_pl _) k1, pl_shaped _, pl_shaped _, _, rfl, ?_⟩⟩
        rw [eqv_pl]
        have hh2 := hh1.same s2
        obtain ⟨h3, e3, hz⟩ : ∃ h3 : M.Hs, (bif M.peq (M.last h1) p then { h1 with row := h1.row ++ [(q, en)] } else h1) = h3 ∧ some (h3, bif M.has h3.row q then [M.Lt.took h3.name f e (M.last h3)] else []) = some (h2, ls) := ⟨_, rfl, hz⟩
        refine ite_st (fun H3 => ∃ a3 : HA, HouseAt K H3 { a3 with p := a.p } h3 ∧ Fr H H3 a { a3 with p := a.p }) (fun H3 ⟨a3, hh3, f3⟩ => ?_) (fun c D hD => ?_) (fun c D hD => ?_)
        · have d2 := Dp.kp f3.kp _ _ (noL_pl _) g2
          refine ⟨_, rfl, _, _, _, rfl, hh3.ob, no_has _ _, _, rfl, { a3 with p := a.p }, h3, _, q, rfl, hh3, d2, fun H4 s4 => ⟨_, rfl, ?_⟩⟩
          have hh4 := hh3.same s4
          cases c5 : M.has h3.row q with
          | false =>
            rw [c5] at hz
            cases hz
            exact iteF ⟨Nat.zero_le _, fun p hp => k _ _ p (.mk1 (f3.same s4) hh4 hp (same_new hp) upd_same .nil)⟩
          | true =>
            rw [c5] at hz
            obtain ⟨rfl, rfl⟩ : h3 = h2 ∧ [M.Lt.took h3.name f e (M.last h3)] = ls := by cases hz; exact ⟨rfl, rfl⟩
            refine iteT ⟨_, rfl, _, _, _, rfl, hh4.ob, no_say _ _, _, rfl, _, rfl, _, rfl, _, _, _, rfl, hh4.ob, no_last _ _, { a3 with p := a.p }, h3, rfl, hh4, fun lv5 H5 s5 dv5 => ⟨by show 1 ≤ sizeLine; decide, fun t ht6 => ?_⟩⟩
            (generalize hz : upd H5 t _ = H6; have s6 : Same H5 H6 := (by rw [← hz]; exact same_new ht6); have h6 : H6 t = some _ := (by rw [← hz]; exact upd_same); clear hz)
            have hh6 := (hh4.same s5).same s6
            refine ⟨{ a3 with p := a.p }, h3, _, _, _, t, _, rfl, hh6, SqT.of h6, by show 1 ≤ 10; decide, fun T7 H7 s7 q7 => ⟨by show 1 ≤ sizeLine; decide, fun p hp => ?_⟩⟩
            have lt : LtIs K H7 (.ref T7) (.took h3.name f e (M.last h3)) := ⟨lt_mk (l := .took h3.name f e (M.last h3)) q7 (.cons (Dp.kp (Kp.of (s6.trans s7)) _ _ (noL_pl _) dv5) .nil), hh6.mb _ hh6.nm, hf, Nat.zero_le _⟩
            have s47 := s5.trans (s6.trans s7)
            exact k _ _ p (.mk1 ((f3.same s4).same s47) (hh4.same s47) hp (same_new hp) upd_same (.cons (lt.kp (Kp.of (same_new hp))) .nil))
        · rw [c] at e3
          have e3 : { h1 with row := h1.row ++ [(q, en)] } = h3 := e3
          obtain ⟨wr, er, dr⟩ := hh2.row
          have hwl := pd_len dr
          refine ⟨_, rfl, _, _, _, _, rfl, hh2.ob, lk_own_row _ _, .inl ⟨rfl, _, SqL.of er⟩, _, rfl, _, rfl, by show 2 ≤ sizeLine; decide, fun t ht6 => ?_⟩
          (generalize hz : upd H2 t _ = H3; have s3 : Same H2 H3 := (by rw [← hz]; exact same_new ht6); have h3t : H3 t = some _ := (by rw [← hz]; exact upd_same); clear hz)
          refine ⟨_, _, _, rfl, rfl, s3 _ _ er, Nat.lt_of_le_of_lt (show wr.length ≤ 1000 by omega) (by decide), ?_⟩
          have dth : Dp K H3 (.ref t) (thD (q, en)) := .tup (SqT.of h3t) (.cons (Dp.kp (Kp.of (s2.trans s3)) _ _ (noL_pl _) k2) (.cons (Dp.kp (Kp.of (s2.trans s3)) _ _ (noL_en _) k3) .nil))
          obtain ⟨hh4, f4⟩ := ap_row (hh2.same s3) (f1.same (s2.trans s3)) (s3 _ _ er) dth hrl1
          refine hD _ ⟨a1, ?_, f4⟩
          rw [← e3]
          exact hh4
        · rw [c] at e3
          have e3 : h1 = h3 := e3
          exact hD _ ⟨a1, by rw [← e3]; exact hh2, f1.same s2⟩
end
end Wd
/-! ## P19 -/
set_option Elab.async false
set_option linter.all false
set_option maxRecDepth 100000
set_option maxHeartbeats 400000
namespace Wd
open PySem PySem.Spec PyProof.Rows L2 PySem.W PySem.SeqAt
section
variable {P : Program} {w : World} {K : PySem.W.Frag} {mg : Str → Option Value} {base : Heap}
theorem ok_m_on_sync (T : Txt w K mg) : Df P w K mg base 6 (hM K "on_sync") ["self", "other", "epoch", "told"] (spOnSync K) := by
  obtain ⟨fd_m_stands_by, G_m_stands_by, b_m_stands_by, kp_m_stands_by⟩ := ok_m_stands_by (P := P) (w := w) (base := base) T
  obtain ⟨fd_m_follow, G_m_follow, b_m_follow, kp_m_follow⟩ := ok_m_follow (P := P) (w := w) (base := base) T
  obtain ⟨fd_m_last, G_m_last, b_m_last, kp_m_last⟩ := ok_m_last (P := P) (w := w) (base := base) T
  obtain ⟨fd_m_has, G_m_has, b_m_has, kp_m_has⟩ := ok_m_has (P := P) (w := w) (base := base) T
  obtain ⟨fd_m_say, ds_say, G_m_say, b_m_say, b_say0, d_say0, kp_m_say⟩ := ok_m_say (P := P) (w := w) (base := base) T
  obtain ⟨fd_m_go_on_to, G_m_go_on_to, b_m_go_on_to, kp_m_go_on_to⟩ := ok_m_go_on_to (P := P) (w := w) (base := base) T
  obtain ⟨fd_m_done_row, G_m_done_row, b_m_done_row, kp_m_done_row⟩ := ok_m_done_row (P := P) (w := w) (base := base) T
  obtain ⟨fd_up_to, G_up_to, b_up_to, kp_up_to⟩ := ok_up_to (P := P) (w := w) (base := base) T
  refine df_mk T.f_m_on_sync sc_m_on_sync (fun vs H Q E h => ?_) (fun _ _ _ _ _ _ us hl => match us, hl with | [_, _, _, _], _ => rfl) (fun cdv A outer s H vs Q E hr h => ?_)
  · obtain ⟨a, h, h2, ls, f, e, told, v1, v2, v4, th, xs, b, r, p, rfl, _⟩ := h
    rfl
  · obtain ⟨a, h, h2, ls, f, e, told, v1, v2, v4, th, xs, b, r, p, rfl, hh, hf, ht, g2, gt, gr, g4, hrl, hz, k⟩ := h
    refine ⟨_, (pss_cons (ps_asg (pv 3) (kUnl rfl rfl (pgs_cons (pg_name (i := 4) sc_m_on_sync.nd rfl (Or.inl rfl)) (pgs_cons (pg_name (i := 5) sc_m_on_sync.nd rfl (Or.inl rfl)) (pgs_cons (pg_name (i := 6) sc_m_on_sync.nd rfl (Or.inl rfl)) (pgs_cons (pg_name (i := 7) sc_m_on_sync.nd rfl (Or.inl rfl)) pgs_nil)))))) (pss_cons (ps_if (PW.pt (pw_and (pt_cmpR op_eq (pv 2) (kFld rfl T.cl T.n_own_promised (pv 0)) (nomark _)) (pw_and1 (pt_cmpR op_lt (kFld rfl T.cl T.n_own_epoch (pv 0)) (pv 2) (nomark _))))) (pss_cons (ps_if (pt_not (pt_val (pe_meth (pv 0) T.cl T.me_has G_m_has (hr.mono (by decide)) b_m_has .nil pass0 (pa_cons (pv 5) pa_nil)))) pss_never pss_nil) (pss_cons (ps_set (i := 8) sc_m_on_sync.nd rfl (Or.inl rfl) (pe_meth0 (pv 0) T.cl T.me_done_row G_m_done_row (hr.mono (by decide)) b_m_done_row .nil pass0)) (pss_cons (kSet rfl T.cl T.n_own_row (pv 0) (pe_op op_cat (pe_call G_up_to (hr.mono (by decide)) rfl T.g_up_to kp_up_to b_up_to .nil pass0 (pa_cons (kFld rfl T.cl T.n_own_row (pv 0)) (pa_cons (pv 5) pa_nil))) (pe_callTy call_list_of (by rfl) T.b_list (by decide +kernel) (pa_cons (pv 6) pa_nil))) rfl) (pss_cons (ps_if (pt_cmpR (kNeD rfl hr.units) (pe_meth0 (pv 0) T.cl T.me_done_row G_m_done_row (hr.mono (by decide)) b_m_done_row .nil pass0) (pv 8) (nomark _)) pss_never pss_nil) (pss_cons (kSet rfl T.cl T.n_own_epoch (pv 0) (pv 2) rfl) (pss_cons (ps_expr (pe_meth (pv 0) T.cl T.me_follow G_m_follow (hr.mono (by decide)) b_m_follow .nil pass0 (pa_cons (pv 1) pa_nil))) (pss_one (ps_expr (pe_meth (pv 0) T.cl T.me_go_on_to G_m_go_on_to (hr.mono (by decide)) b_m_go_on_to .nil pass0 (pa_cons (pe_callB (kMin rfl rfl hr.units) (by rfl) T.b_min (by decide +kernel) (pa_cons (pv 7) (pa_cons (pe_meth0 (pv 0) T.cl T.me_last G_m_last (hr.mono (by decide)) b_m_last .nil pass0) pa_nil))) pa_nil)))))))))) (pss_one (ps_if (pt_val (pe_meth (pv 0) T.cl T.me_stands_by G_m_stands_by (hr.mono (by decide)) b_m_stands_by .nil pass0 (pa_cons (pv 2) pa_nil))) (pss_one (ps_expr (pe_meth (pv 0) T.cl T.me_follow G_m_follow (hr.mono (by decide)) b_m_follow .nil pass0 (pa_cons (pv 1) pa_nil)))) (pss_one (ps_ret (pe_lst pa_nil)))))) (pss_one (ps_ret (pe_lst (pa_cons (pe_meth (pv 0) T.cl T.me_say G_m_say (hr.mono (by decide)) b_m_say .nil pass0 (pa_cons pe_str (pa_cons (pv 1) (pa_cons (pv 2) (pa_cons (pe_tup (pa_cons (pe_meth0 (pv 0) T.cl T.me_last G_m_last (hr.mono (by decide)) b_m_last .nil pass0) pa_nil)) pa_nil))))) pa_nil)))))), ?_⟩
    rw [st_m_on_sync]
    have fin : ∀ (H3 : Hp) (a3 : HA) (h3 : M.Hs), HouseAt K H3 { a3 with p := a.p } h3 → Fr H H3 a { a3 with p := a.p } → h3 = h2 ∧ [M.Lt.synced h3.name f e (M.last h3)] = ls → ∀ (o3 o4 o5 o6 o7 o8 : Option V),
        tRet (tLst (tCons (tMeth (hC K) "say" (spSay K) [] E0 (tVar 0) (tCons (tC (.str "synced")) (tCons (tVar 1) (tCons (tVar 2) (tCons (tTup (tCons (tMeth (hC K) "last" (spLast K) [] E0 (tVar 0) tNil) tNil)) tNil))))) tNil)) { nx := fun _ H' => Q .non H', rt := Q } [some (.ref a.p), some (.str (nm f)), some (.int ((e : Nat) : Int)), o3, o4, o5, o6, o7, o8] H3 := fun H3 a3 h3 hh3 f3 hq o3 o4 o5 o6 o7 o8 => by
      obtain ⟨rfl, rfl⟩ := hq
      refine ⟨_, rfl, _, _, _, rfl, hh3.ob, no_say _ _, _, rfl, _, rfl, _, rfl, _, _, _, rfl, hh3.ob, no_last _ _, { a3 with p := a.p }, h3, rfl, hh3, fun lv5 H5 s5 dv5 => ⟨by show 1 ≤ sizeLine; decide, fun t ht6 => ?_⟩⟩
      (generalize hz : upd H5 t _ = H6; have s6 : Same H5 H6 := (by rw [← hz]; exact same_new ht6); have h6 : H6 t = some _ := (by rw [← hz]; exact upd_same); clear hz)
      have hh6 := (hh3.same s5).same s6
      refine ⟨{ a3 with p := a.p }, h3, _, _, _, t, _, rfl, hh6, SqT.of h6, by show 1 ≤ 10; decide, fun T7 H7 s7 q7 => ⟨by show 1 ≤ sizeLine; decide, fun p hp => ?_⟩⟩
      have lt : LtIs K H7 (.ref T7) (.synced h3.name f e (M.last h3)) := ⟨lt_mk (l := .synced h3.name f e (M.last h3)) q7 (.cons (Dp.kp (Kp.of (s6.trans s7)) _ _ (noL_pl _) dv5) .nil), hh6.mb _ hh6.nm, hf, Nat.zero_le _⟩
      have s37 := s5.trans (s6.trans s7)
      exact k _ _ p (.mk1 (f3.same s37) (hh3.same s37) hp (same_new hp) upd_same (.cons (lt.kp (Kp.of (same_new hp))) .nil))
    refine ⟨_, rfl, told, _, rfl, ht, rfl, _, _, rfl, _, _, rfl, _, _, rfl, _, _, rfl, rfl, ?_⟩
    simp only [List.set_cons_succ, List.set_cons_zero]
    unfold M.onSync at hz
    have old : (Nat.beq e h.promised && Nat.blt h.epoch e) = false → tIfS (tB (tMeth (hC K) "stands_by" (spStandsBy K) [] E0 (tVar 0) (tCons (tVar 2) tNil))) (tDrop (tMeth (hC K) "follow" (spFollow K) [] E0 (tVar 0) (tCons (tVar 1) tNil))) (tRet (tLst tNil))
        { nx := tRet (tLst (tCons (tMeth (hC K) "say" (spSay K) [] E0 (tVar 0) (tCons (tC (.str "synced")) (tCons (tVar 1) (tCons (tVar 2) (tCons (tTup (tCons (tMeth (hC K) "last" (spLast K) [] E0 (tVar 0) tNil) tNil)) tNil))))) tNil)) { nx := fun _ H' => Q .non H', rt := Q }, rt := Q } [some (.ref a.p), some (.str (nm f)), some (.int ((e : Nat) : Int)), some (.ref told), some v1, some v2, some (.ref th), some v4, none] H := fun c => by
      rw [c] at hz
      refine ⟨_, rfl, _, _, _, rfl, hh.ob, no_stands_by _ _, _, rfl, a, h, e, rfl, hh, _, rfl, ?_⟩
      cases c1 : M.standsBy h e with
      | false =>
        rw [c1] at hz
        cases hz
        exact iteF ⟨Nat.zero_le _, fun p hp => k _ a p (.mk1 (Fr.refl _ _) hh hp (same_new hp) upd_same .nil)⟩
      | true =>
        rw [c1] at hz
        refine iteT ⟨_, rfl, _, _, _, rfl, hh.ob, no_follow _ _, _, rfl, a, h, f, rfl, hh, fun H1 a1 f1 hh1 => ?_⟩
        obtain ⟨a1, rfl⟩ : ∃ b : HA, a1 = { b with p := a.p } := ⟨a1, HA.norm f1.p⟩
        exact fin H1 a1 _ hh1 f1 (by cases hz; exact ⟨rfl, rfl⟩) _ _ _ _ _ _
    refine ⟨_, rfl, _, rfl, _, _, _, _, rfl, hh.ob, lk_own_promised _ _, rfl, _, rfl, ?_⟩
    rw [int_eq]
    cases c1 : Nat.beq e h.promised with
    | false => exact iteF (iteF (old (by rw [c1]; rfl)))
    | true =>
      refine iteT ⟨_, rfl, _, _, _, _, rfl, hh.ob, lk_own_epoch _ _, _, rfl, _, _, rfl, rfl, _, rfl, ?_⟩
      rw [lt_nat]
      cases c2 : Nat.blt h.epoch e with
      | false => exact iteF (old (by rw [c1, c2]; rfl))
      | true =>
        refine iteT ?_
        rw [c1, c2] at hz
        obtain ⟨row, er2, hz⟩ : ∃ row : M.Row, M.upTo h.row b ++ r = row ∧ (bif M.has h.row b && (Nat.ble row.length M.bnd && M.eqRow (M.upTo row h.done) (M.upTo h.row h.done)) then
            (match M.goOn (M.follow { h with row := row, epoch := e } f) (M.pmin p (M.last (M.follow { h with row := row, epoch := e } f))) with
            | none => none
            | some h => some (h, [M.Lt.synced h.name f e (M.last h)])) else none) = some (h2, ls) := ⟨_, rfl, hz⟩
        cases c3 : (M.has h.row b && (Nat.ble row.length M.bnd && M.eqRow (M.upTo row h.done) (M.upTo h.row h.done))) with
        | false => rw [c3] at hz; cases hz
        | true =>
          rw [c3] at hz
          rw [Bool.and_eq_true, Bool.and_eq_true] at c3
          obtain ⟨c3, c4, c5⟩ := c3
          have c4 := Nat.ble_eq.mp c4
          refine ⟨_, rfl, _, _, _, rfl, hh.ob, no_has _ _, _, rfl, a, h, v2, b, rfl, hh, g2, fun H1 s1 => ⟨_, rfl, ?_⟩⟩
          rw [c3]
          refine iteF ?_
          have hh1 := hh.same s1
          refine ⟨_, rfl, _, _, _, rfl, hh1.ob, no_done_row _ _, a, h, rfl, hh1, fun De H2 ⟨nE, s2, we, eE, dE⟩ => ?_⟩
          simp only [List.set_cons_succ, List.set_cons_zero]
          have hh2 := hh1.same s2
          have s02 := s1.trans s2
          have kp2 := Kp.of s02
          obtain ⟨wr, er, dr⟩ := hh2.row
          have g22 := Dp.kp kp2 _ _ (noL_pl _) g2
          refine ⟨_, rfl, _, _, _, _, rfl, hh2.ob, lk_own_row _ _, _, rfl, a.row, wr, v2, h.row, b, rfl, SqL.of er, dr, g22, Nat.le_trans hh.rl (by decide), fun D1 H3 ⟨n1, s3, w1, e1, d1⟩ => ?_⟩
          have gt3 := (kp2.trans (Kp.of s3)).sqt gt
          refine ⟨_, rfl, th, xs, rfl, .inr gt3, fun D2 hD2 => ?_⟩
          (generalize hz : upd H3 D2 _ = H4; have s4 : Same H3 H4 := (by rw [← hz]; exact same_new hD2); have h4 : H4 D2 = some _ := (by rw [← hz]; exact upd_same); clear hz)
          have l1 : w1.length ≤ 1000 := by rw [pd_len d1]; exact Nat.le_trans (List.length_filter_le _ _) hh.rl
          have l2 : xs.length ≤ 1000 := by rw [pd_len gr]; exact hrl
          refine ⟨D1, D2, w1, xs, rfl, rfl, s4 _ _ e1, h4, Nat.le_trans (show w1.length + xs.length ≤ 2000 by omega) (by decide), fun D3 hD3 => ?_⟩
          have nD3 := nown ((hh2.same (s3.trans s4)).not hD3)
          (generalize hz : upd H4 D3 _ = H5; have s5 : Same H4 H5 := (by rw [← hz]; exact same_new hD3); have h5 : H5 D3 = some _ := (by rw [← hz]; exact upd_same); clear hz)
          have s25 := s3.trans (s4.trans s5)
          have hh5 := hh2.same s25
          have d5 : Ds K thD H5 (w1 ++ xs) row := by
            rw [← er2]
            exact pd_app (d1.kp (Kp.of (s4.trans s5)) noL_th) (gr.kp (kp2.trans (Kp.of s25)) noL_th)
          refine ⟨_, rfl, _, _, _, rfl, hh5.ob, hof_1000 _ _, ?_⟩
          (generalize hz : upd H5 a.p _ = H6; obtain ⟨hh6, f6⟩ : HouseAt K H6 _ _ ∧ Fr _ H6 _ _ := (by rw [← hz]; exact wr_row hh5 ((Fr.refl H2 a).same s25) h5 d5 c4 ((s3.trans s4).free hD3) nD3.2.2.1); clear hz)
          have eE6 := f6.keep _ _ eE (hh1.not nE)
          have dE6 : Ds K thD H6 we (M.upTo h.row h.done) := dE.kp f6.kp noL_th
          refine ⟨_, rfl, _, _, _, rfl, hh6.ob, no_done_row _ _, { a with row := D3 }, { h with row := row }, rfl, hh6, fun D7 H7 ⟨n7, s7, w7, e7, d7⟩ => ?_⟩
          refine ⟨_, rfl, _, _, d7.lst (SqL.of e7), (dE6.kp (Kp.of s7) noL_th).lst (SqL.of (s7 _ _ eE6)), row_shaped _, row_shaped _, false, ?_, iteF ?_⟩
          · rw [eqv_row]
            show V.bl (!M.eqRow (M.upTo row h.done) (M.upTo h.row h.done)) = _
            rw [c5]; rfl
          have hh7 := hh6.same s7
          refine ⟨_, rfl, _, rfl, _, _, _, rfl, hh7.ob, hof_1000 _ _, ?_⟩
          (generalize hz : upd H7 a.p _ = H8; obtain ⟨hh8, f8⟩ : HouseAt K H8 _ _ ∧ Fr _ H8 _ _ := (by rw [← hz]; exact wr_epoch hh7 (f6.same s7) e); clear hz)
          have F8 : Fr H H8 a { a with row := D3 } := ((Fr.refl H a).same s02).trans f8
          clear hh7 hh6 f6 hh5 d5 f8 eE6 dE6 hh2 er dr eE dE h5 h4 e1 d1 e7 d7
          generalize ({ h with row := row, epoch := e } : M.Hs) = h8 at *
          refine ⟨_, rfl, _, _, _, rfl, hh8.ob, no_follow _ _, _, rfl, { a with row := D3 }, h8, f, rfl, hh8, fun H9 a1 f9 hh9 => ?_⟩
          obtain ⟨a1, rfl⟩ : ∃ b : HA, a1 = { b with p := a.p } := ⟨a1, HA.norm f9.p⟩
          generalize M.follow h8 f = h9 at *
          have F9 := F8.trans f9
          have hv9 := Dp.kp F9.kp _ _ (noL_pl _) g4
          refine ⟨_, rfl, _, _, _, rfl, hh9.ob, no_go_on_to _ _, _, rfl, _, rfl, _, _, _, rfl, hh9.ob, no_last _ _, { a1 with p := a.p }, h9, rfl, hh9, fun lv H10 s10 dv => ?_⟩
          have hh10 := hh9.same s10
          have hv10 := Dp.kp (Kp.of s10) _ _ (noL_pl _) hv9
          cases eg : M.goOn h9 (M.pmin p (M.last h9)) with
          | none => rw [eg] at hz; cases hz
          | some h11 =>
            rw [eg] at hz
            have d2 : Dp K H10 (if dataLt (plD (M.last h9)) (plD p) = true then lv else v4) (plD (M.pmin p (M.last h9))) := by
              rw [lt_pl, M.pmin]
              cases M.plt (M.last h9) p with
              | true => exact dv
              | false => exact hv10
            refine ⟨_, _, _, _, rfl, hv10, dv, all_pl _ _, dep_pl _ _, { a1 with p := a.p }, h9, _, _, h11, rfl, hh10, d2, eg, fun H11 a3 f11 hh11 _ _ => ?_⟩
            obtain ⟨a3, rfl⟩ : ∃ b : HA, a3 = { b with p := a.p } := ⟨a3, HA.norm f11.p⟩
            exact fin H11 a3 h11 hh11 ((F9.same s10).trans f11) (by cases hz; exact ⟨rfl, rfl⟩) _ _ _ _ _ _
end
end Wd
/-! ## P20 -/
set_option Elab.async false
set_option linter.all false
set_option maxRecDepth 100000
set_option maxHeartbeats 400000
namespace Wd
open PySem PySem.Spec PyProof.Rows L2 PySem.W PySem.SeqAt
def spTake (K : PySem.W.Frag) : Sp := fun vs H Q _ => ∃ (a : HA) (h h2 : M.Hs) (ls : List M.Lt) (v : V) (l : M.Lt), vs = [.ref a.p, v] ∧ HouseAt K H a h ∧ LtIs K H v l ∧ M.take h l = some (h2, ls) ∧ ∀ H' a' r, Post K H H' a a' h2 r ls → Q (.ref r) H'
def disp (h : M.Hs) : M.Lt → Option (M.Hs × List M.Lt)
  | .seek f _ e ep p => some (M.onSeek h f e ep p)
  | .promise f _ e p => M.onPromise h f e p
  | .lead f _ e => some (M.onLead h f e)
  | .sync f _ e _ b th p => M.onSync h f e b th p
  | .synced f _ e p => M.onSynced h f e p
  | .propose f _ e p q en => M.onPropose h f e p q en
  | .took f _ e p => M.onTook h f e p
  | .done f _ e p => M.onDone h f e p
theorem take_parts {h h2 : M.Hs} {l : M.Lt} {ls : List M.Lt} (e : M.take h l = some (h2, ls)) : l.ok = true ∧ l.dst = h.name ∧ l.src ∈ h.mem ∧ disp h l = some (h2, ls) := by
  unfold M.take at e
  cases c : (l.ok && (Nat.beq l.dst h.name && h.mem.any fun o => Nat.beq o l.src)) with
  | false => rw [c] at e; cases e
  | true =>
    rw [c] at e
    rw [Bool.and_eq_true, Bool.and_eq_true] at c
    have e2 : disp h l = some (h2, ls) := by cases l <;> exact e
    refine ⟨c.1, Nat.eq_of_beq_eq_true c.2.1, ?_, e2⟩
    obtain ⟨o, m, q⟩ := List.any_eq_true.mp c.2.2
    rw [← Nat.eq_of_beq_eq_true q]
    exact m
theorem names_flat : ∀ r : List Nat, (r.map fun i => V.str (nm i)).all flatV = true
  | [] => rfl
  | _ :: r => names_flat r
theorem names_in {i : Nat} {r : List Nat} (h : i ∈ r) : inV (V.str (nm i)) (r.map fun i => V.str (nm i)) = true := by
  unfold inV
  rw [List.any_eq_true]
  exact ⟨V.str (nm i), List.mem_map.mpr ⟨i, h, rfl⟩, by simp [eqV]⟩
theorem Post.back {K : PySem.W.Frag} {H H2 H' : Hp} {a a' : HA} {h : M.Hs} {r : Addr} {ls : List M.Lt} (s : Same H H2) (po : Post K H2 H' a a' h r ls) : Post K H H' a a' h r ls :=
  ⟨((Fr.refl H a).same s).trans po.f, po.hh, s.free po.new, po.nr, po.l⟩
section
variable {P : Program} {w : World} {K : PySem.W.Frag} {mg : Str → Option Value} {base : Heap}
theorem ok_m_take (T : Txt w K mg) : Df P w K mg base 9 (hM K "take") ["self", "letter"] (spTake K) := by
  obtain ⟨fd_is_letter, G_is_letter, b_is_letter, kp_is_letter⟩ := ok_is_letter (P := P) (w := w) (base := base) T
  obtain ⟨fd_m_on_seek, G_m_on_seek, b_m_on_seek, kp_m_on_seek⟩ := ok_m_on_seek (P := P) (w := w) (base := base) T
  obtain ⟨fd_m_on_promise, G_m_on_promise, b_m_on_promise, kp_m_on_promise⟩ := ok_m_on_promise (P := P) (w := w) (base := base) T
  obtain ⟨fd_m_on_lead, G_m_on_lead, b_m_on_lead, kp_m_on_lead⟩ := ok_m_on_lead (P := P) (w := w) (base := base) T
  obtain ⟨fd_m_on_sync, G_m_on_sync, b_m_on_sync, kp_m_on_sync⟩ := ok_m_on_sync (P := P) (w := w) (base := base) T
  obtain ⟨fd_m_on_propose, G_m_on_propose, b_m_on_propose, kp_m_on_propose⟩ := ok_m_on_propose (P := P) (w := w) (base := base) T
  obtain ⟨fd_m_on_done, G_m_on_done, b_m_on_done, kp_m_on_done⟩ := ok_m_on_done (P := P) (w := w) (base := base) T
  obtain ⟨fd_m_on_told, G_m_on_told, b_m_on_told, kp_m_on_told⟩ := ok_m_on_told (P := P) (w := w) (base := base) T
  refine df_mk T.f_m_take sc_m_take (fun vs H Q E h => ?_) (fun _ _ _ _ _ _ us hl => match us, hl with | [_, _], _ => rfl) (fun cdv A outer s H vs Q E hr h => ?_)
  · obtain ⟨a, h, h2, ls, v, l, rfl, _⟩ := h
    rfl
  · obtain ⟨a, h, h2, ls, v, l, rfl, hh, hl, hz, k⟩ := h
    refine ⟨_, (pss_cons (ps_if (PW.pt (pw_or (pt_not (pt_val (pe_call G_is_letter (hr.mono (by decide)) rfl T.g_is_letter kp_is_letter b_is_letter .nil pass0 (pa_cons (pv 1) pa_nil)))) (pw_or (pt_cmpR op_ne (pe_ix (kIxT rfl) (pv 1) pe_int (fun _ _ => rfl)) (kFld rfl T.cl T.n_own_name (pv 0)) (nomark _)) (pw_or1 (pt_cmpR (kNotInS rfl) (pe_ix (kIxT rfl) (pv 1) pe_int (fun _ _ => rfl)) (kFld rfl T.cl T.n_own_members (pv 0)) (by rfl)))))) pss_never pss_nil) (pss_cons (ps_asg (pv 1) (pg_star rfl (pgs_cons (pg_name (i := 2) sc_m_take.nd rfl (Or.inl rfl)) (pgs_cons (pg_name (i := 3) sc_m_take.nd rfl (Or.inl rfl)) (pgs_cons (pg_name (i := 4) sc_m_take.nd rfl (Or.inl rfl)) (pgs_cons (pg_name (i := 5) sc_m_take.nd rfl (Or.inl rfl)) (pgs_star (pg_name (i := 6) sc_m_take.nd rfl (Or.inl rfl))))))))) (pss_cons (ps_if (pt_cmpR op_eq (pv 2) pe_str (nomark _)) (pss_one (ps_ret (pe_meth (pv 0) T.cl T.me_on_seek G_m_on_seek (hr.mono (by decide)) b_m_on_seek .nil pass0 (pa_cons (pv 3) (pa_cons (pv 5) (pa_cons (pe_callTy call_tuple_of (by rfl) T.b_tuple (by decide +kernel) (pa_cons (pv 6) pa_nil)) pa_nil)))))) pss_nil) (pss_cons (ps_if (pt_cmpR op_eq (pv 2) pe_str (nomark _)) (pss_one (ps_ret (pe_meth (pv 0) T.cl T.me_on_promise G_m_on_promise (hr.mono (by decide)) b_m_on_promise .nil pass0 (pa_cons (pv 3) (pa_cons (pv 5) (pa_cons (pe_ix (kIxL rfl) (pv 6) pe_int (fun _ _ => rfl)) pa_nil)))))) pss_nil) (pss_cons (ps_if (pt_cmpR op_eq (pv 2) pe_str (nomark _)) (pss_one (ps_ret (pe_meth (pv 0) T.cl T.me_on_lead G_m_on_lead (hr.mono (by decide)) b_m_on_lead .nil pass0 (pa_cons (pv 3) (pa_cons (pv 5) pa_nil))))) pss_nil) (pss_cons (ps_if (pt_cmpR op_eq (pv 2) pe_str (nomark _)) (pss_one (ps_ret (pe_meth (pv 0) T.cl T.me_on_sync G_m_on_sync (hr.mono (by decide)) b_m_on_sync .nil pass0 (pa_cons (pv 3) (pa_cons (pv 5) (pa_cons (pv 6) pa_nil)))))) pss_nil) (pss_cons (ps_if (pt_cmpR op_eq (pv 2) pe_str (nomark _)) (pss_one (ps_ret (pe_meth (pv 0) T.cl T.me_on_propose G_m_on_propose (hr.mono (by decide)) b_m_on_propose .nil pass0 (pa_cons (pv 3) (pa_cons (pv 5) (pa_cons (pv 6) pa_nil)))))) pss_nil) (pss_cons (ps_if (pt_cmpR op_eq (pv 2) pe_str (nomark _)) (pss_one (ps_ret (pe_meth (pv 0) T.cl T.me_on_done G_m_on_done (hr.mono (by decide)) b_m_on_done .nil pass0 (pa_cons (pv 3) (pa_cons (pv 5) (pa_cons (pe_ix (kIxL rfl) (pv 6) pe_int (fun _ _ => rfl)) pa_nil)))))) pss_nil) (pss_one (ps_ret (pe_meth (pv 0) T.cl T.me_on_told G_m_on_told (hr.mono (by decide)) b_m_on_told .nil pass0 (pa_cons (pv 2) (pa_cons (pv 3) (pa_cons (pv 5) (pa_cons (pv 6) pa_nil))))))))))))))), ?_⟩
    rw [st_m_take]
    obtain ⟨ok, edst, msrc, hz⟩ := take_parts hz
    refine ⟨_, rfl, v, l, rfl, hl, ok, fun H1 s1 => ⟨_, rfl, iteF ?_⟩⟩
    have hh1 := hh.same s1
    have hl1 := hl.kp (Kp.of s1)
    obtain ⟨q, rs, rfl, hq, hrs⟩ := lt_parts hl1.dp
    have hlen := dpall_len hrs
    have hl4 := ltR_len l
    refine ⟨_, rfl, q, _, _, _, rfl, rfl, hq, at_of (j := 2) rfl rfl, _, rfl, _, _, _, _, rfl, hh1.ob, lk_own_name _ _, rfl, false, bNT (by rw [edst]), iteF ?_⟩
    refine ⟨_, rfl, q, _, _, _, rfl, rfl, hq, at_of (j := 1) rfl rfl, _, rfl, _, _, _, _, rfl, hh1.ob, lk_own_members _ _, a.mem, _, rfl, .inr hh1.mm, rfl, names_flat _, false, by rw [names_in msrc]; rfl, iteF ?_⟩
    refine ⟨_, rfl, q, _, rfl, hq, by show 4 ≤ rs.length + 4; omega, by show rs.length + 4 ≤ 16384; omega, fun D hD => ?_⟩
    (generalize hz : upd H1 D _ = H2; have s2 : Same H1 H2 := (by rw [← hz]; exact same_new hD); have h2D : H2 D = some _ := (by rw [← hz]; exact upd_same); clear hz)
    refine ⟨_, _, rfl, _, _, rfl, _, _, rfl, _, _, rfl, _, _, rfl, rfl, ?_⟩
    simp only [List.set_cons_succ, List.set_cons_zero]
    have hh2 := hh1.same s2
    have s02 := s1.trans s2
    have hrs2 := DpAll.kp (Kp.of s2) _ _ (by cases l <;> simp [ltR, noL, noLs, noL_pl, noL_en, noLs_th]) hrs
    have hD2 : D ∉ own a := hh1.not hD
    have hsrc := hl.src
    have hlen2 := hl.len
    clear hl hl1 hq hrs hh hh1 hlen hl4 s1 s2 hD edst msrc
    have kk : ∀ H' a' r, Post K H2 H' a a' h2 r ls → Q (.ref r) H' := fun H' a' r po => k H' a' r (po.back s02)
    clear k
    cases l with
    | seek f t e ep p =>
      have hz : M.onSeek h f e ep p = (h2, ls) := Option.some.inj hz
      cases hrs2 with
      | cons c1 hrs2 => cases hrs2 with
        | cons c2 hrs2 =>
          cases hrs2
          cases c1
          refine ⟨_, rfl, rfl, true, bT rfl, iteT ?_⟩
          refine ⟨_, rfl, _, _, _, rfl, hh2.ob, no_on_seek _ _, _, rfl, _, rfl, _, rfl, D, _, rfl, .inl ⟨SqL.of h2D, fun tp htp => ?_⟩⟩
          (generalize hz : upd H2 tp _ = H3; have s3 : Same H2 H3 := (by rw [← hz]; exact same_new htp); have h3 : H3 tp = some _ := (by rw [← hz]; exact upd_same); clear hz)
          exact ⟨a, h, f, e, ep, tp, _, p, rfl, hh2.same s3, hsrc, SqT.of h3, Dp.kp (Kp.of s3) _ _ (noL_pl _) c2, fun H' a' r po => kk H' a' r (by rw [hz] at po; exact po.back s3)⟩
    | promise f t e p =>
      cases hrs2 with
      | cons c1 hrs2 =>
        cases hrs2
        refine ⟨_, rfl, rfl, false, bF (by simp only [ltW]; decide +kernel), iteF ?_⟩
        refine ⟨_, rfl, rfl, true, bT rfl, iteT ?_⟩
        exact ⟨_, rfl, _, _, _, rfl, hh2.ob, no_on_promise _ _, _, rfl, _, rfl, _, rfl, D, _, _, _, rfl, rfl, SqL.of h2D, at_of (j := 0) rfl rfl, a, h, h2, ls, f, e, _, p, rfl, hh2, hsrc, c1, hz, kk⟩
    | lead f t e =>
      have hz : M.onLead h f e = (h2, ls) := Option.some.inj hz
      cases hrs2
      refine ⟨_, rfl, rfl, false, bF (by simp only [ltW]; decide +kernel), iteF ?_⟩
      refine ⟨_, rfl, rfl, false, bF (by simp only [ltW]; decide +kernel), iteF ?_⟩
      refine ⟨_, rfl, rfl, true, bT rfl, iteT ?_⟩
      exact ⟨_, rfl, _, _, _, rfl, hh2.ob, no_on_lead _ _, _, rfl, _, rfl, a, h, f, e, rfl, hh2, hsrc, fun H' a' r po => kk H' a' r (by rw [hz] at po; exact po)⟩
    | sync f t e wy b th p =>
      cases hrs2 with
      | cons c1 hrs2 => cases hrs2 with
        | cons c2 hrs2 => cases hrs2 with
          | cons c3 hrs2 => cases hrs2 with
            | cons c4 hrs2 =>
              cases hrs2
              cases c3 with
              | tup hs ha =>
                refine ⟨_, rfl, rfl, false, bF (by simp only [ltW]; decide +kernel), iteF ?_⟩
                refine ⟨_, rfl, rfl, false, bF (by simp only [ltW]; decide +kernel), iteF ?_⟩
                refine ⟨_, rfl, rfl, false, bF (by simp only [ltW]; decide +kernel), iteF ?_⟩
                refine ⟨_, rfl, rfl, true, bT rfl, iteT ?_⟩
                exact ⟨_, rfl, _, _, _, rfl, hh2.ob, no_on_sync _ _, _, rfl, _, rfl, _, rfl, a, h, h2, ls, f, e, D, _, _, _, _, _, b, th, p, rfl, hh2, hsrc, SqL.of h2D, c2, hs, Ds.of ha, c4, hlen2, hz, kk⟩
    | synced f t e p =>
      cases hrs2 with
      | cons c1 hrs2 =>
        cases hrs2
        iterate 6 refine ⟨_, rfl, rfl, false, bF (by simp only [ltW]; decide +kernel), iteF ?_⟩
        exact ⟨_, rfl, _, _, _, rfl, hh2.ob, no_on_told _ _, _, rfl, _, rfl, _, rfl, _, rfl, a, h, h2, ls, _, f, e, D, _, p, rfl, hh2, hsrc, SqL.of h2D, c1, hD2, .inl ⟨rfl, hz⟩, kk⟩
    | propose f t e p q en =>
      cases hrs2 with
      | cons c1 hrs2 => cases hrs2 with
        | cons c2 hrs2 => cases hrs2 with
          | cons c3 hrs2 =>
            cases hrs2
            iterate 4 refine ⟨_, rfl, rfl, false, bF (by simp only [ltW]; decide +kernel), iteF ?_⟩
            refine ⟨_, rfl, rfl, true, bT rfl, iteT ?_⟩
            exact ⟨_, rfl, _, _, _, rfl, hh2.ob, no_on_propose _ _, _, rfl, _, rfl, _, rfl, a, h, h2, ls, f, e, D, _, _, _, p, q, en, rfl, hh2, hsrc, SqL.of h2D, c1, c2, c3, hz, kk⟩
    | took f t e p =>
      cases hrs2 with
      | cons c1 hrs2 =>
        cases hrs2
        iterate 6 refine ⟨_, rfl, rfl, false, bF (by simp only [ltW]; decide +kernel), iteF ?_⟩
        exact ⟨_, rfl, _, _, _, rfl, hh2.ob, no_on_told _ _, _, rfl, _, rfl, _, rfl, _, rfl, a, h, h2, ls, _, f, e, D, _, p, rfl, hh2, hsrc, SqL.of h2D, c1, hD2, .inr ⟨rfl, hz⟩, kk⟩
    | done f t e p =>
      cases hrs2 with
      | cons c1 hrs2 =>
        cases hrs2
        iterate 5 refine ⟨_, rfl, rfl, false, bF (by simp only [ltW]; decide +kernel), iteF ?_⟩
        refine ⟨_, rfl, rfl, true, bT rfl, iteT ?_⟩
        exact ⟨_, rfl, _, _, _, rfl, hh2.ob, no_on_done _ _, _, rfl, _, rfl, _, rfl, D, _, _, _, rfl, rfl, SqL.of h2D, at_of (j := 0) rfl rfl, a, h, h2, ls, f, e, _, p, rfl, hh2, hsrc, c1, hz, kk⟩
end
end Wd
/-! ## P21 -/
set_option Elab.async false
set_option linter.all false
set_option maxRecDepth 100000
set_option maxHeartbeats 400000
namespace Wd
open PySem PySem.Spec PyProof.Rows L2 PySem.W PySem.SeqAt
structure MemOk (mem : List Nat) : Prop where
  nd : mem.Nodup
  lo : 2 ≤ mem.length
  hi : mem.length ≤ 7
  mb : ∀ i ∈ mem, i < 26
def spInit (K : PySem.W.Frag) : Sp := fun vs H Q _ => ∃ (p dx mem : Addr) (i : Nat) (ns : List Nat), vs = [.ref p, .str (nm i), .ref mem, .str "all"] ∧ H p = some (.ins (hC K) dx []) ∧ SqT K H mem (ns.map fun i => V.str (nm i)) ∧ MemOk ns ∧ i ∈ ns ∧
  ∀ H' a, a.p = p → KeepBut H H' p → HouseAt K H' a (M.fresh0 i ns) → (∀ b ∈ own a, b = p ∨ H b = none) → Q .non H'
def initF (i : Nat) (mem row : Addr) : List (Str × V) := putF "own_row" (.ref row) (putF "own_epoch" (.int 0) (putF "own_promised" (.int 0) (putF "own_looks" (.str "all") (putF "own_members" (.ref mem) (putF "own_name" (.str (nm i)) [])))))
theorem initF_hof (i : Nat) (ns : List Nat) (p dx mem row t n s fr x y z d : Addr) : standF x y z (putF "fresh" (.ref fr) (putF "own_state" (.ref t) (putF "own_done" (.ref d) (initF i mem row)))) = hof ⟨p, dx, mem, row, fr, x, y, .ref d, t, n, s, .ref z, 0⟩ (M.fresh0 i ns) := by kernel_rfl
theorem initF_no (i : Nat) (mem row : Addr) : List.lookup ("begin_anew" : Str) (initF i mem row) = none ∧ List.lookup ("stand_down" : Str) (initF i mem row) = none := ⟨by kernel_rfl, by kernel_rfl⟩
def DfI (P : Program) (w : World) (K : PySem.W.Frag) (mg : Str → Option Value) (base : Heap) : Prop :=
  ∃ fd ds, FnOk P w K mg base CX0 4 (hM K "__init__") fd ["self", "name", "members", "looks"] (spInit K) ∧ L2.Binds K fd ["self", "name", "members", "looks"] ds ∧ Vals [V.str "all"] ds
section
variable {P : Program} {w : World} {K : PySem.W.Frag} {mg : Str → Option Value} {base : Heap}
theorem ok_m_init (T : Txt w K mg) : DfI P w K mg base := by
  obtain ⟨fd_look_at_members, G_look_at_members, b_look_at_members, kp_look_at_members⟩ := ok_look_at_members (P := P) (w := w) (base := base) T
  obtain ⟨fd_is_word, G_is_word, b_is_word, kp_is_word⟩ := ok_is_word (P := P) (w := w) (base := base) T
  obtain ⟨fd_m_begin_anew, G_m_begin_anew, b_m_begin_anew, kp_m_begin_anew⟩ := ok_m_begin_anew (P := P) (w := w) (base := base) T
  obtain ⟨fd, F⟩ := T.f_m_init
  obtain ⟨ds, v1, b1⟩ := F.binds0 (ps := ["self", "name", "members", "looks"]) 3 (by simp) rfl (fun D doc pm an cdv ct us ks h1 h2 => match us, ks, h1, h2 with | [_, _, _], [_], _, _ => ⟨_, _, _, _, _, _, rfl, rfl, rfl⟩)
  refine ⟨fd, ds, F.ok sc_m_init (fun vs H Q E h => ?_) (fun cdv A outer s H vs Q E hr h => ?_), b1, v1⟩
  · obtain ⟨p, dx, mem, i, ns, rfl, _⟩ := h
    rfl
  · obtain ⟨p, dx, mem, i, ns, rfl, hp, hm, mo, hi, k⟩ := h
    refine ⟨_, PSs.nox (pss_cons (ps_expr (pe_call G_look_at_members (hr.mono (by decide)) rfl T.g_look_at_members kp_look_at_members b_look_at_members .nil pass0 (pa_cons (pv 2) pa_nil))) (pss_cons (ps_if (PW.pt (pw_or (pt_not (pt_val (pe_call G_is_word (hr.mono (by decide)) rfl T.g_is_word kp_is_word b_is_word .nil pass0 (pa_cons (pv 1) pa_nil)))) (pw_or1 (pt_cmpR (kNotInS rfl) (pv 1) (pv 2) (by rfl))))) pss_never pss_nil) (pss_cons (ps_if (PW.pt (pw_or (pt_not (pt_val (pe_callB (kIsi rfl) (by rfl) T.b_isinstance (by decide +kernel) (pa_cons (pv 3) (pa_cons (pe_bltn (v := .ty "str") (u := .type "str") (by rfl) T.b_str (by decide +kernel) rfl) pa_nil))))) (pw_or1 (pt_cmpR (kNotInS rfl) (pv 3) (pe_glob (v := .ref (He.ga K "LOOKS")) rfl T.g_LOOKS rfl) (by rfl))))) pss_never pss_nil) (pss_cons (kSet rfl T.cl T.n_own_name (pv 0) (pv 1) rfl) (pss_cons (kSet rfl T.cl T.n_own_members (pv 0) (pv 2) rfl) (pss_cons (kSet rfl T.cl T.n_own_looks (pv 0) (pv 3) rfl) (pss_cons (kSet rfl T.cl T.n_own_promised (pv 0) pe_int rfl) (pss_cons (kSet rfl T.cl T.n_own_epoch (pv 0) pe_int rfl) (pss_cons (kSet rfl T.cl T.n_own_row (pv 0) (pe_lst pa_nil) rfl) (pss_one (ps_expr (pe_meth0 (pv 0) T.cl T.me_begin_anew G_m_begin_anew (hr.mono (by decide)) b_m_begin_anew .nil pass0)))))))))))), ?_⟩
    rw [st_m_init]
    refine ⟨_, rfl, mem, ns, rfl, hm, mo.nd, by have := mo.lo; omega, mo.hi, mo.mb, fun H1 s1 => ?_⟩
    refine ⟨_, rfl, _, rfl, nm_word (mo.mb _ hi), fun H2 s2 => ⟨_, rfl, iteF ?_⟩⟩
    have s02 := s1.trans s2
    have hm2 := (Kp.of s02).sqt hm
    refine ⟨_, rfl, _, rfl, mem, _, rfl, .inr hm2, rfl, names_flat _, false, by rw [names_in hi]; rfl, iteF ?_⟩
    refine ⟨_, rfl, _, _, _, rfl, isi_str, _, rfl, iteF ?_⟩
    refine ⟨_, rfl, He.ga K "LOOKS", _, rfl, .inr (T.looks _), rfl, rfl, false, by decide +kernel, iteF ?_⟩
    have hp2 := s02 _ _ hp
    have l1 : (putF "own_name" (.str (nm i)) ([] : List (Str × V))).length ≤ 1 := putF_len "own_name" (.str (nm i)) []
    refine ⟨_, rfl, _, rfl, p, dx, _, rfl, hp2, by show 0 < 1000; decide, ?_⟩
    (generalize hz : upd H2 p _ = H3; have h3 : H3 p = some _ := (by rw [← hz]; exact upd_same); have k3 : KeepBut H2 H3 p := (by rw [← hz]; exact KeepBut.upd); clear hz)
    generalize e1 : putF "own_name" (.str (nm i)) ([] : List (Str × V)) = f1 at *
    have l2 := putF_len "own_members" (.ref mem) f1
    refine ⟨_, rfl, _, rfl, p, dx, _, rfl, h3, by omega, ?_⟩
    (generalize hz : upd H3 p _ = H4; have h4 : H4 p = some _ := (by rw [← hz]; exact upd_same); have k4 : KeepBut H3 H4 p := (by rw [← hz]; exact KeepBut.upd); clear hz)
    generalize e2 : putF "own_members" (.ref mem) f1 = f2 at *
    have l3 := putF_len "own_looks" (.str "all") f2
    refine ⟨_, rfl, _, rfl, p, dx, _, rfl, h4, by omega, ?_⟩
    (generalize hz : upd H4 p _ = H5; have h5 : H5 p = some _ := (by rw [← hz]; exact upd_same); have k5 : KeepBut H4 H5 p := (by rw [← hz]; exact KeepBut.upd); clear hz)
    generalize e3 : putF "own_looks" (.str "all") f2 = f3 at *
    have l4 := putF_len "own_promised" (.int 0) f3
    refine ⟨_, rfl, p, dx, _, rfl, h5, by omega, ?_⟩
    (generalize hz : upd H5 p _ = H6; have h6 : H6 p = some _ := (by rw [← hz]; exact upd_same); have k6 : KeepBut H5 H6 p := (by rw [← hz]; exact KeepBut.upd); clear hz)
    generalize e4 : putF "own_promised" (.int 0) f3 = f4 at *
    have l5 := putF_len "own_epoch" (.int 0) f4
    refine ⟨_, rfl, p, dx, _, rfl, h6, by omega, ?_⟩
    (generalize hz : upd H6 p _ = H7; have h7 : H7 p = some _ := (by rw [← hz]; exact upd_same); have k7 : KeepBut H6 H7 p := (by rw [← hz]; exact KeepBut.upd); clear hz)
    generalize e5 : putF "own_epoch" (.int 0) f4 = f5 at *
    have K7 := k3.trans (k4.trans (k5.trans (k6.trans k7)))
    clear k3 k4 k5 k6 k7 h3 h4 h5 h6
    refine ⟨Nat.zero_le _, fun row hrow => ?_⟩
    (generalize hz : upd H7 row _ = H8; have s8 : Same H7 H8 := (by rw [← hz]; exact same_new hrow); have h8 : H8 row = some _ := (by rw [← hz]; exact upd_same); clear hz)
    obtain ⟨frow, nrow⟩ := K7.free h7 hrow
    have l6 := putF_len "own_row" (.ref row) f5
    refine ⟨_, rfl, p, dx, _, rfl, s8 _ _ h7, by omega, ?_⟩
    (generalize hz : upd H8 p _ = H9; have h9 : H9 p = some _ := (by rw [← hz]; exact upd_same); have k9 : KeepBut H8 H9 p := (by rw [← hz]; exact KeepBut.upd); clear hz)
    have K9 := (K7.trans (.of s8)).trans k9
    have h9r := k9 _ _ nrow h8
    have ef : putF "own_row" (.ref row) f5 = initF i mem row := by rw [← e5, ← e4, ← e3, ← e2, ← e1]; rfl
    rw [ef] at h9 l6
    have ni := initF_no i mem row
    refine ⟨_, rfl, p, dx, _, rfl, h9, ni.1, p, dx, _, rfl, h9, by omega, ni.2, fun H10 t n s fr x y z b => ?_⟩
    have hKB : KeepBut H H10 p := (KeepBut.of s02).trans (K9.trans b.k)
    have hKp : Kp H H10 := ⟨fun c xs e => hKB _ _ (fun z => by rw [z, hp] at e; cases e) e, fun c o xs e => hKB _ _ (fun z => by rw [z, hp] at e; cases e) e⟩
    have back : ∀ c, H9 c = none → H c = none := fun c e => s02.free (K9.free h9 e).1
    have e10 := b.k _ _ nrow h9r
    refine k H10 ⟨p, dx, mem, row, fr, x, y, .ref (He.ga K "NOWHERE"), t, n, s, .ref z, 0⟩ rfl hKB ⟨?_, hKp.sqt hm, ⟨[], e10, .nil⟩, pl_mk (p := (0, 0)) (T.nowhere _), b.st, ⟨[], b.ef, rfl⟩, ⟨[], b.ex, .nil⟩, ⟨[], b.ey, .nil⟩, ne_of_none h9r b.ff, b.ne, ⟨b.d1, b.d2, b.d3, b.d4⟩, Nat.zero_le _, Nat.zero_le _, Nat.zero_le _, Nat.zero_le _, mo.nd, hi, ⟨mo.lo, mo.hi⟩, mo.mb⟩ fun c m => ?_
    · rw [b.ob, ← initF_hof i ns p dx mem row t n s fr x y z (He.ga K "NOWHERE")]
    · simp only [own, List.mem_cons, List.not_mem_nil, or_false] at m
      rcases m with rfl | rfl | rfl | rfl | rfl | rfl | rfl
      · exact .inl rfl
      · exact .inr (s02.free frow)
      · exact .inr (back _ b.ff)
      · exact .inr (back _ b.fx)
      · exact .inr (back _ b.fy)
      · exact .inr (back _ b.fn)
      · exact .inr (back _ b.fs)
end
end Wd
/-! ## P22 -/
set_option Elab.async false
set_option linter.all false
set_option maxRecDepth 100000
set_option maxHeartbeats 400000
/-! Many houses. -/
namespace Wd
open PySem PySem.Spec PyProof.Rows L2 PySem.W PySem.SeqAt
/-! ### names stay -/
theorem lookDone_name {h h2 : M.Hs} {ls : List M.Lt} (e : M.lookDone h = some (h2, ls)) : h2.name = h.name := by
  cases c1 : M.isSettled h with
  | false => unfold M.lookDone at e; rw [c1] at e; cases e; rfl
  | true =>
    cases c2 : M.newly h (M.mark h) with
    | nil => unfold M.lookDone at e; rw [c1, c2] at e; cases e; rfl
    | cons t r => exact (goOn_same (lookDone_some c1 c2 e).1).1
theorem lead_name {h h2 : M.Hs} {ls : List M.Lt} (e : M.lead h = some (h2, ls)) : h2.name = h.name := by
  have e : (match M.mapO (M.syncFor { h with role := .leads, head := some h.name, epoch := h.promised, taken := [(h.name, M.last h)] }) ((M.others { h with role := .leads, head := some h.name, epoch := h.promised, taken := [(h.name, M.last h)] }).filter fun o => M.dhas h.promises o) with
      | none => none
      | some ls => match M.lookDone { h with role := .leads, head := some h.name, epoch := h.promised, taken := [(h.name, M.last h)] } with
        | none => none
        | some (h', ds) => some (h', ls ++ ds)) = some (h2, ls) := e
  generalize M.mapO _ _ = x at e
  cases x with
  | none => cases e
  | some l1 =>
    cases c : M.lookDone { h with role := .leads, head := some h.name, epoch := h.promised, taken := [(h.name, M.last h)] } with
    | none => rw [c] at e; cases e
    | some q =>
      obtain ⟨h3, ds⟩ := q
      rw [c] at e
      cases e
      have q := lookDone_name c
      exact q
theorem put_name {h h2 : M.Hs} {e : M.En} {ls : List M.Lt} (hp : M.put h e = some (h2, ls)) : h2.name = h.name := by
  obtain ⟨_, _, _, h3, h4, ds, e3, ed, e4, _⟩ := put_parts hp
  rw [e4, lookDone_name ed, e3]
theorem beat_name {h h2 : M.Hs} {ls : List M.Lt} (e : M.beat h = some (h2, ls)) : h2.name = h.name := by
  unfold M.beat at e
  cases c1 : M.isLeads h.role with
  | false => rw [c1] at e; cases e; rfl
  | true =>
    rw [c1] at e
    cases c2 : M.catO (M.beatFor h) (M.others h) with
    | none => simp [c2] at e
    | some l => simp [c2] at e; rw [← e.1]
theorem follow_name (h : M.Hs) (f : Nat) : (M.follow h f).name = h.name := by
  unfold M.follow
  cases M.headIs h f <;> rfl
theorem tell_name {h h2 : M.Hs} {f : Nat} {l : M.Pl} {ls : List M.Lt} (e : M.tell h f l = some (h2, ls)) : h2.name = h.name := by
  unfold M.tell at e
  cases c : Nat.blt h.taken.length M.bnd with
  | false => rw [c] at e; cases e
  | true => rw [c] at e; have q := lookDone_name (show M.lookDone { h with taken := M.dput h.taken f (M.pmax ((M.dget h.taken f).getD (0, 0)) l) } = some (h2, ls) from e); exact q
theorem disp_name {h h2 : M.Hs} {l : M.Lt} {ls : List M.Lt} (e : disp h l = some (h2, ls)) : h2.name = h.name := by
  cases l with
  | seek f t e' ep p =>
    have e : M.onSeek h f e' ep p = (h2, ls) := Option.some.inj e
    have e1 : h2 = (M.onSeek h f e' ep p).1 := by rw [e]
    rw [e1]
    unfold M.onSeek
    cases Nat.ble e' h.promised with
    | true => rfl
    | false =>
      have q : ∀ (c : Bool) (x y : List M.Lt), (bif c then ({ M.standDown h with promised := e' }, x) else ({ M.standDown h with promised := e' }, y) : M.Hs × List M.Lt).1.name = h.name := fun c x y => by cases c <;> rfl
      exact q _ _ _
  | lead f t e' =>
    have e : M.onLead h f e' = (h2, ls) := Option.some.inj e
    have e1 : h2 = (M.onLead h f e').1 := by rw [e]
    rw [e1]
    unfold M.onLead
    cases (Nat.blt e' h.promised || (Nat.beq e' h.promised && !M.isSeeks h.role)) <;> rfl
  | promise f t e' p =>
    have e : M.onPromise h f e' p = some (h2, ls) := e
    unfold M.onPromise at e
    cases c1 : Nat.blt h.promises.length M.bnd with
    | false => rw [c1] at e; cases e
    | true =>
      rw [c1] at e
      cases c2 : M.leads h e' with
      | true =>
        rw [c2] at e
        cases c3 : M.syncFor { h with promises := M.dput h.promises f p, taken := M.ddrop h.taken f } f with
        | none => simp [c3] at e
        | some x => simp [c3] at e; rw [← e.1]
      | false =>
        rw [c2] at e
        have e : (bif !Nat.beq e' h.promised || !soughtIs h e' then some (h, []) else bif Nat.ble (M.most h) (M.dput h.promises f p).length then M.lead { h with promises := M.dput h.promises f p } else some ({ h with promises := M.dput h.promises f p }, [])) = some (h2, ls) := e
        cases c3 : (!Nat.beq e' h.promised || !soughtIs h e') with
        | true => rw [c3] at e; cases e; rfl
        | false =>
          rw [c3] at e
          have e : (bif Nat.ble (M.most h) (M.dput h.promises f p).length then M.lead { h with promises := M.dput h.promises f p } else some ({ h with promises := M.dput h.promises f p }, [])) = some (h2, ls) := e
          cases c4 : Nat.ble (M.most h) (M.dput h.promises f p).length with
          | true => rw [c4] at e; have q := lead_name (show M.lead { h with promises := M.dput h.promises f p } = some (h2, ls) from e); exact q
          | false => rw [c4] at e; cases e; rfl
  | sync f t e' w b th p =>
    have e : M.onSync h f e' b th p = some (h2, ls) := e
    unfold M.onSync at e
    cases c1 : (Nat.beq e' h.promised && Nat.blt h.epoch e') with
    | true =>
      rw [c1] at e
      have e : (bif M.has h.row b && (Nat.ble (M.upTo h.row b ++ th).length M.bnd && M.eqRow (M.upTo (M.upTo h.row b ++ th) h.done) (M.upTo h.row h.done)) then
            (match M.goOn (M.follow { h with row := M.upTo h.row b ++ th, epoch := e' } f) (M.pmin p (M.last (M.follow { h with row := M.upTo h.row b ++ th, epoch := e' } f))) with
            | none => none
            | some h => some (h, [M.Lt.synced h.name f e' (M.last h)])) else none) = some (h2, ls) := e
      generalize (M.has h.row b && (Nat.ble (M.upTo h.row b ++ th).length M.bnd && M.eqRow (M.upTo (M.upTo h.row b ++ th) h.done) (M.upTo h.row h.done))) = x at e
      cases x with
      | false => cases e
      | true =>
        cases c : M.goOn (M.follow { h with row := M.upTo h.row b ++ th, epoch := e' } f) (M.pmin p (M.last (M.follow { h with row := M.upTo h.row b ++ th, epoch := e' } f))) with
        | none => rw [c] at e; cases e
        | some h3 => rw [c] at e; cases e; rw [(goOn_same c).1, follow_name]
    | false =>
      rw [c1] at e
      cases c2 : M.standsBy h e' with
      | true => rw [c2] at e; cases e; exact follow_name h f
      | false => rw [c2] at e; cases e; rfl
  | synced f t e' p =>
    have e : M.onSynced h f e' p = some (h2, ls) := e
    unfold M.onSynced at e
    cases c1 : M.leads h e' with
    | true => rw [c1] at e; exact tell_name e
    | false => rw [c1] at e; cases e; rfl
  | took f t e' p =>
    have e : M.onTook h f e' p = some (h2, ls) := e
    unfold M.onTook at e
    cases c1 : M.leads h e' with
    | true =>
      rw [c1] at e
      cases c2 : M.dhas h.taken f with
      | true => rw [c2] at e; exact tell_name e
      | false => rw [c2] at e; cases e; rfl
    | false => rw [c1] at e; cases e; rfl
  | propose f t e' p q en =>
    have e : M.onPropose h f e' p q en = some (h2, ls) := e
    unfold M.onPropose at e
    cases c1 : M.standsBy h e' with
    | false => rw [c1] at e; cases e; rfl
    | true =>
      rw [c1] at e
      cases c2 : Nat.blt h.row.length M.bnd with
      | false => rw [c2] at e; cases e
      | true =>
        rw [c2] at e
        have e1 := congrArg Prod.fst (Option.some.inj e)
        rw [← show _ = h2 from e1]
        show (bif _ then _ else _ : M.Hs).name = _
        cases M.peq (M.last (M.follow h f)) p <;> exact follow_name h f
  | done f t e' p =>
    have e : M.onDone h f e' p = some (h2, ls) := e
    unfold M.onDone at e
    cases c1 : M.standsBy h e' with
    | false => rw [c1] at e; cases e; rfl
    | true =>
      rw [c1] at e
      have e : (match M.goOn (M.follow h f) (M.pmin p (M.last (M.follow h f))) with
        | none => none
        | some h => some (h, [])) = some (h2, ls) := e
      cases c : M.goOn (M.follow h f) (M.pmin p (M.last (M.follow h f))) with
      | none => rw [c] at e; cases e
      | some h3 => rw [c] at e; cases e; rw [(goOn_same c).1, follow_name]
theorem take_name {h h2 : M.Hs} {l : M.Lt} {ls : List M.Lt} (e : M.take h l = some (h2, ls)) : h2.name = h.name := disp_name (take_parts e).2.2.2
end Wd
/-! ## P23 -/
set_option Elab.async false
set_option linter.all false
set_option maxRecDepth 100000
set_option maxHeartbeats 400000
namespace Wd
open PySem PySem.Spec PyProof.Rows L2 PySem.W PySem.SeqAt
abbrev Tn := List (HA × M.Hs)
def kvT (T : Tn) : List (Key × V) := T.map fun q => (nK q.2.name, V.ref q.1.p)
def wsT (T : Tn) : M.Ws := T.map fun q => q.2
def nsT (T : Tn) : List Nat := T.map fun q => q.2.name
structure Hss (K : PySem.W.Frag) (H : Hp) (T : Tn) : Prop where
  at_ : ∀ q ∈ T, HouseAt K H q.1 q.2
  ap : T.Pairwise fun q r => ∀ b ∈ own q.1, b ∉ own r.1
  nd : (nsT T).Nodup
structure Frs (H0 H : Hp) (T0 T : Tn) : Prop where
  kv : kvT T = kvT T0
  keep : ∀ b o, H0 b = some o → (∀ q ∈ T0, b ∉ own q.1) → H b = some o
  own : ∀ q ∈ T, ∀ b ∈ own q.1, (∃ r ∈ T0, b ∈ own r.1) ∨ H0 b = none
  kp : Kp H0 H
  al : ∀ b, H b = none → H0 b = none
theorem Frs.refl (H : Hp) (T : Tn) : Frs H H T T := ⟨rfl, fun _ _ e _ => e, fun q m b n => .inl ⟨q, m, n⟩, Kp.refl H, fun _ e => e⟩
theorem Frs.same {H0 H1 H2 : Hp} {T0 T1 : Tn} (f : Frs H0 H1 T0 T1) (s : Same H1 H2) : Frs H0 H2 T0 T1 :=
  ⟨f.kv, fun b o e n => s _ _ (f.keep b o e n), f.own, f.kp.trans (Kp.of s), fun b e => f.al b (s.free e)⟩
theorem Frs.trans {H0 H1 H2 : Hp} {T0 T1 T2 : Tn} (f : Frs H0 H1 T0 T1) (g : Frs H1 H2 T1 T2) : Frs H0 H2 T0 T2 where
  kv := g.kv.trans f.kv
  keep := fun b o e n => g.keep b o (f.keep b o e n) fun q m z => (f.own q m b z).elim (fun ⟨r, mr, zr⟩ => n r mr zr) fun z2 => by rw [z2] at e; cases e
  own := fun q m b z => (g.own q m b z).elim (fun ⟨r, mr, zr⟩ => f.own r mr b zr) fun z2 => .inr (f.al b z2)
  kp := f.kp.trans g.kp
  al := fun b e => f.al b (g.al b e)
/-- a thing that is no house's is written -/
theorem Frs.put {H0 H1 : Hp} {T0 T1 : Tn} {b : Addr} {u o : HO} (f : Frs H0 H1 T0 T1) (n0 : H0 b = none) (e : H1 b = some u) (nt : (∀ xs, u ≠ .tup xs) ∧ ∀ ob xs, u ≠ .frz ob (.tup xs)) : Frs H0 (upd H1 b o) T0 T1 where
  kv := f.kv
  keep := fun c q z n => by
    rw [upd_ne (fun y => by rw [y, n0] at z; cases z)]
    exact f.keep c q z n
  own := f.own
  kp := f.kp.trans (Kp.at e nt.1 nt.2)
  al := fun c z => f.al c (by
    by_cases cb : c = b
    · subst cb; rw [upd_same] at z; cases z
    · rw [upd_ne cb] at z; exact z)
theorem set_same {α : Type} : ∀ {l : List α} {i : Nat} {x : α}, l[i]? = some x → l.set i x = l
  | [], _, _, h => by simp at h
  | y :: l, 0, x, h => by simp at h; subst h; rfl
  | y :: l, i + 1, x, h => by rw [List.set_cons_succ, set_same (by simpa using h)]
section
variable {K : PySem.W.Frag} {H H0 H1 H2 : Hp} {T T0 T1 : Tn}
theorem Hss.kept (hs : Hss K H T) (k : Kp H H1) (ko : ∀ q ∈ T, ∀ b ∈ own q.1, ∀ o, H b = some o → H1 b = some o) : Hss K H1 T := ⟨fun q m => (hs.at_ q m).kept k (ko q m), hs.ap, hs.nd⟩
theorem Hss.same (hs : Hss K H T) (s : Same H H1) : Hss K H1 T := hs.kept (Kp.of s) fun _ _ _ _ _ e => s _ _ e
theorem Hss.not (hs : Hss K H T) {r : Addr} (e : H r = none) : ∀ q ∈ T, r ∉ own q.1 := fun q m => (hs.at_ q m).not e
/-- another thing is written -/
theorem Hss.put {b : Addr} {u o : HO} (hs : Hss K H T) (e : H b = some u) (nt : (∀ xs, u ≠ .tup xs) ∧ ∀ ob xs, u ≠ .frz ob (.tup xs)) (n : ∀ q ∈ T, b ∉ own q.1) : Hss K (upd H b o) T :=
  hs.kept (Kp.at e nt.1 nt.2) fun q m c mc z ez => by rw [upd_ne (fun y => n q m (by rw [← y]; exact mc))]; exact ez
theorem pw_sym {a b : HA} (h : ∀ x ∈ own a, x ∉ own b) : ∀ x ∈ own b, x ∉ own a := fun x m n => h x n m
theorem Hss.ne {i j : Nat} {q r : HA × M.Hs} (hs : Hss K H T) (hi : T[i]? = some q) (hj : T[j]? = some r) (n : i ≠ j) : ∀ b ∈ own q.1, b ∉ own r.1 := by
  obtain ⟨li, ei⟩ := List.getElem?_eq_some_iff.mp hi
  obtain ⟨lj, ej⟩ := List.getElem?_eq_some_iff.mp hj
  have pw := List.pairwise_iff_getElem.mp hs.ap
  rcases Nat.lt_or_gt_of_ne n with c | c
  · have := pw i j li lj c; rw [ei, ej] at this; exact this
  · have := pw j i lj li c; rw [ei, ej] at this; exact pw_sym this
/-- one house moves on -/
theorem Hss.step {i : Nat} {a a' : HA} {h h' : M.Hs} (hs : Hss K H T) (hi : T[i]? = some (a, h)) (f : Fr H H1 a a') (hh : HouseAt K H1 a' h') (en : h'.name = h.name) : Hss K H1 (T.set i (a', h')) ∧ Frs H H1 T (T.set i (a', h')) := by
  obtain ⟨li, ei⟩ := List.getElem?_eq_some_iff.mp hi
  have mi : (a, h) ∈ T := List.mem_of_getElem? hi
  have oth : ∀ j r, T[j]? = some r → j ≠ i → HouseAt K H1 r.1 r.2 ∧ ∀ b ∈ own r.1, b ∉ own a' := fun j r hj n => HouseAt.apart f (hs.at_ r (List.mem_of_getElem? hj)) (hs.ne hj hi n)
  have got : ∀ j r, (T.set i (a', h'))[j]? = some r → (j = i ∧ r = (a', h')) ∨ (j ≠ i ∧ T[j]? = some r) := fun j r e => by
    by_cases c : j = i
    · subst c
      rw [List.getElem?_set_self li] at e
      exact .inl ⟨rfl, (Option.some.inj e).symm⟩
    · rw [List.getElem?_set_ne (fun z => c z.symm)] at e
      exact .inr ⟨c, e⟩
  refine ⟨⟨fun q m => ?_, ?_, ?_⟩, ⟨?_, fun b o e n => f.keep b o e (n _ mi), fun q m b z => ?_, f.kp, f.al⟩⟩
  · obtain ⟨j, hj⟩ := List.getElem?_of_mem m
    rcases got j q hj with ⟨_, rfl⟩ | ⟨n, e⟩
    · exact hh
    · exact (oth j q e n).1
  · refine List.pairwise_iff_getElem.mpr fun j k lj lk c => ?_
    rcases got j _ (List.getElem?_eq_getElem lj) with ⟨rfl, e1⟩ | ⟨n1, e1⟩
    · rcases got k _ (List.getElem?_eq_getElem lk) with ⟨rfl, e2⟩ | ⟨n2, e2⟩
      · omega
      · rw [e1]; exact pw_sym (oth k _ e2 n2).2
    · rcases got k _ (List.getElem?_eq_getElem lk) with ⟨rfl, e2⟩ | ⟨n2, e2⟩
      · rw [e2]; exact (oth j _ e1 n1).2
      · exact hs.ne e1 e2 (by omega)
  · have e : nsT (T.set i (a', h')) = nsT T := by
      unfold nsT
      rw [List.map_set]
      show (T.map _).set i h'.name = _
      rw [en]
      exact set_same (by rw [List.getElem?_map, hi]; rfl)
    rw [e]; exact hs.nd
  · unfold kvT
    rw [List.map_set]
    show (T.map _).set i (nK h'.name, V.ref a'.p) = _
    rw [en, f.p]
    exact set_same (by rw [List.getElem?_map, hi]; rfl)
  · obtain ⟨j, hj⟩ := List.getElem?_of_mem m
    rcases got j q hj with ⟨_, rfl⟩ | ⟨n, e⟩
    · exact (f.own b z).elim (fun w => .inl ⟨_, mi, w⟩) .inr
    · exact .inl ⟨q, List.mem_of_getElem? e, z⟩
end
end Wd
/-! ## P24 -/
set_option Elab.async false
set_option linter.all false
set_option maxRecDepth 100000
set_option maxHeartbeats 400000
namespace Wd
open PySem PySem.Spec PyProof.Rows L2 PySem.W PySem.SeqAt
def PoolAt (H : Hp) (a : Addr) : Prop := ∃ c s : Int, H a = some (.lst [.int c, .int s])
def spLTake : Sp := fun vs H Q _ => ∃ (a : Addr) (many : Nat), vs = [.ref a, .int ((many : Nat) : Int)] ∧ 1 ≤ many ∧ many ≤ 100 ∧ PoolAt H a ∧ ∀ (d : Nat) (c s : Int), d < many → Q (.int ((d : Nat) : Int)) (upd H a (.lst [.int c, .int s]))
def spPool (K : PySem.W.Frag) : Sp := fun vs H Q _ => ∃ (a : Addr) (ns : List Int) (k : Nat), vs = [.ref a, .int ((k : Nat) : Int)] ∧ SqL K H a (ns.map V.int) ∧ k ≤ 100 ∧ ∀ p c s, H p = none → Q (.ref p) (upd H p (.lst [.int c, .int s]))
theorem ite_sx {k : Bool} {A B : TS} {D : Ends} {σ : L2.St} {H : Hp} (N : L2.St → Hp → Prop) (hr : ∀ σ3 H3, N σ3 H3 → D.nx σ3 H3) (hA : k = true → ∀ D' : Ends, (∀ σ3 H3, N σ3 H3 → D'.nx σ3 H3) → A D' σ H)
    (hB : k = false → ∀ D' : Ends, (∀ σ3 H3, N σ3 H3 → D'.nx σ3 H3) → B D' σ H) : if k = true then A D σ H else B D σ H := by
  cases k with
  | true => exact iteT (hA rfl D hr)
  | false => exact iteF (hB rfl D hr)
section
variable {P : Program} {w : World} {K : PySem.W.Frag} {mg : Str → Option Value} {base : Heap}
theorem ok_law_take (T : Txt w K mg) : Df P w K mg base 1 (He.ga K "_law_take") ["_law_pool_here", "_law_many"] spLTake := by
  refine df_mk T.f_law_take sc_law_take (fun vs H Q E h => ?_) (fun _ _ _ _ _ _ us hl => match us, hl with | [_, _], _ => rfl) (fun cdv A outer s H vs Q E hr h => ?_)
  · obtain ⟨a, many, rfl, _⟩ := h
    rfl
  · obtain ⟨a, many, rfl, m1, m2, ⟨c, s, ha⟩, k⟩ := h
    refine ⟨_, (pss_cons (ps_if (pt_cmpR op_gt (pe_ix (kIxL rfl) (pv 0) pe_int (fun _ _ => rfl)) pe_int (nomark _)) (pss_cons (ps_set (i := 2) sc_law_take.nd rfl (Or.inl rfl) (pe_op op_mod (pe_ix (kIxL rfl) (pv 0) pe_int (fun _ _ => rfl)) (pv 1))) (pss_cons (ps_asg (pe_op op_fdivN (pe_ix (kIxL rfl) (pv 0) pe_int (fun _ _ => rfl)) (pv 1)) (pg_sub (pv 0) pe_int set_list)) (pss_one (ps_ret (pv 2))))) pss_nil) (pss_cons (ps_asg (pe_op op_mod (pe_op op_add (pe_op op_mul (pe_ix (kIxL rfl) (pv 0) pe_int (fun _ _ => rfl)) pe_int) pe_int) pe_int) (pg_sub (pv 0) pe_int set_list)) (pss_one (ps_ret (pe_op op_mod (pe_op op_fdivN (pe_op op_mod (pe_op op_mul (pe_ix (kIxL rfl) (pv 0) pe_int (fun _ _ => rfl)) (pe_ix (kIxL rfl) (pv 0) pe_int (fun _ _ => rfl))) pe_int) pe_int) (pv 1)))))), ?_⟩
    rw [st_law_take]
    refine ⟨_, rfl, a, _, _, _, rfl, rfl, SqL.of ha, at_of (j := 0) rfl rfl, _, _, rfl, rfl, _, rfl, ?_⟩
    have hm : (0 : Int) < ((many : Nat) : Int) := by omega
    have dig : ∀ x : Int, ∃ d : Nat, x % ((many : Nat) : Int) = ((d : Nat) : Int) ∧ d < many := fun x => by
      have h1 := Int.emod_nonneg x (show ((many : Nat) : Int) ≠ 0 by omega)
      have h2 := Int.emod_lt_of_pos x hm
      exact ⟨(x % ((many : Nat) : Int)).toNat, by omega, by omega⟩
    by_cases c1 : c > 0
    · refine iteB (decide_eq_true c1) (iteT ?_)
      obtain ⟨d, ed, hd⟩ := dig c
      refine ⟨_, rfl, a, _, _, _, rfl, rfl, SqL.of ha, at_of (j := 0) rfl rfl, _, rfl, _, _, rfl, rfl, hm, ?_⟩
      simp only [List.set_cons_succ, List.set_cons_zero]
      refine ⟨_, rfl, a, _, _, _, rfl, rfl, SqL.of ha, at_of (j := 0) rfl rfl, _, rfl, _, _, rfl, rfl, ⟨by omega, by omega⟩, ?_⟩
      refine ⟨_, rfl, a, _, 0, 0, rfl, rfl, ha, rfl, ?_⟩
      refine ⟨_, rfl, ?_⟩
      have hk := k d (c.fdiv ((many : Nat) : Int)) s hd
      rw [← ed] at hk
      exact hk
    · refine iteB (decide_eq_false c1) (iteF ?_)
      refine ⟨_, rfl, a, _, _, _, rfl, rfl, SqL.of ha, at_of (j := 1) rfl rfl, _, _, rfl, rfl, .inr ⟨by decide, by decide⟩, _, _, rfl, rfl, _, _, rfl, rfl, (by decide : (0 : Int) < 2147483647), ?_⟩
      refine ⟨_, rfl, a, _, 1, 1, rfl, rfl, ha, rfl, ?_⟩
      have b1 := Int.emod_nonneg (s * 48271 + 11) (show (2147483647 : Int) ≠ 0 by decide)
      have b2 := Int.emod_lt_of_pos (s * 48271 + 11) (show (0 : Int) < 2147483647 by decide)
      rw [show HO.lst ([V.int c, V.int s].set 1 ((fun i j => V.int (i % j)) (s * 48271 + 11) 2147483647)) = HO.lst [V.int c, V.int ((s * 48271 + 11) % 2147483647)] from rfl]
      generalize (s * 48271 + 11) % 2147483647 = z at *
      have hb : (upd H a (.lst [.int c, .int z])) a = some (.lst [.int c, .int z]) := upd_same
      have hk := fun d => k d c z
      generalize upd H a (.lst [.int c, .int z]) = H2 at *
      obtain ⟨d, ed, hd⟩ := dig ((z * z % 2147483629).fdiv 64)
      refine ⟨_, rfl, a, _, _, _, rfl, rfl, SqL.of hb, at_of (j := 1) rfl rfl, _, rfl, a, _, _, _, rfl, rfl, SqL.of hb, at_of (j := 1) rfl rfl, _, _, rfl, rfl, .inl ⟨by omega, by omega⟩, _, _, rfl, rfl, (by decide : (0 : Int) < 2147483629), _, _, rfl, rfl, ⟨by decide, by decide⟩, _, rfl, _, _, rfl, rfl, hm, ?_⟩
      have hk2 := hk d hd
      rw [← ed] at hk2
      exact hk2
theorem ok_law_pool (T : Txt w K mg) : Df P w K mg base 1 (He.ga K "_law_pool") ["_law_script", "_law_k"] (spPool K) := by
  refine df_mk T.f_law_pool sc_law_pool (fun vs H Q E h => ?_) (fun _ _ _ _ _ _ us hl => match us, hl with | [_, _], _ => rfl) (fun cdv A outer s H vs Q E hr h => ?_)
  · obtain ⟨a, ns, k0, rfl, _⟩ := h
    rfl
  · obtain ⟨a, ns, k0, rfl, ha, hk, k⟩ := h
    refine ⟨_, (pss_cons (ps_set (i := 2) sc_law_pool.nd rfl (Or.inl rfl) pe_int) (pss_cons (ps_if (pt_cmpR op_lt (pv 1) (pe_callB (kLen rfl) (by rfl) T.b_len PySem.boot_len (pa_cons (pv 0) pa_nil)) (nomark _)) (pss_one (ps_set (i := 2) sc_law_pool.nd rfl (Or.inl rfl) (pe_ix (kIxL rfl) (pv 0) (pv 1) (fun _ _ => rfl)))) pss_nil) (pss_cons (ps_set (i := 3) sc_law_pool.nd rfl (Or.inl rfl) (pe_op op_mod (pe_op op_pow (pe_op op_add (pe_op op_add (pe_op op_mod (pv 2) pe_int) (pe_op op_mul (pe_op op_mul pe_int (pv 1)) (pv 1))) pe_int) pe_int) pe_int)) (pss_cons (ps_if (pt_cmpR op_lt (pv 2) (pe_op op_pow pe_int pe_int) (nomark _)) (pss_one (ps_set (i := 2) sc_law_pool.nd rfl (Or.inl rfl) pe_int)) pss_nil) (pss_one (ps_ret (pe_lst (pa_cons (pv 2) (pa_cons (pv 3) pa_nil))))))))), ?_⟩
    rw [st_law_pool]
    refine ⟨_, rfl, _, rfl, _, _, rfl, .inl ha, _, _, rfl, rfl, _, rfl, ?_⟩
    refine ite_sx (fun σ3 H3 => H3 = H ∧ ∃ i : Int, σ3 = [some (.ref a), some (.int ((k0 : Nat) : Int)), some (.int i), none]) (fun σ3 H3 ⟨e1, i, e2⟩ => ?_) (fun c D hD => ?_) (fun c D hD => ?_)
    · subst e1 e2
      refine ⟨_, rfl, _, _, rfl, rfl, (by decide : (0 : Int) < 2147483629), _, rfl, _, _, rfl, rfl, .inl ⟨by decide, by decide⟩, _, rfl, _, _, rfl, rfl, .inr ⟨by omega, by omega⟩, _, _, rfl, rfl, _, _, rfl, rfl, _, _, rfl, rfl, ⟨by decide, by decide, ?_⟩, _, _, rfl, rfl, (by decide : (0 : Int) < 2147483647), ?_⟩
      · have b1 := Int.emod_nonneg i (show (2147483629 : Int) ≠ 0 by decide)
        have b2 := Int.emod_lt_of_pos i (show (0 : Int) < 2147483629 by decide)
        have b3 : (104729 : Int) * ((k0 : Nat) : Int) * ((k0 : Nat) : Int) ≤ 104729 * 10000 := by
          have h1 : ((k0 : Nat) : Int) * ((k0 : Nat) : Int) ≤ 100 * 100 := Int.mul_le_mul (by omega) (by omega) (by omega) (by omega)
          rw [Int.mul_assoc]
          omega
        have b4 : (0 : Int) ≤ 104729 * ((k0 : Nat) : Int) * ((k0 : Nat) : Int) := Int.mul_nonneg (Int.mul_nonneg (by decide) (by omega)) (by omega)
        show (i % 2147483629 + 104729 * ((k0 : Nat) : Int) * ((k0 : Nat) : Int) + 17).natAbs < 2 ^ 64
        generalize i % 2147483629 = x at *
        generalize (104729 : Int) * ((k0 : Nat) : Int) * ((k0 : Nat) : Int) = y at *
        omega
      simp only [List.set_cons_succ, List.set_cons_zero]
      refine ⟨_, rfl, _, _, rfl, rfl, ⟨by decide, by decide, by decide⟩, _, _, rfl, rfl, _, rfl, ?_⟩
      refine ite_sx (fun σ3 H4 => H4 = H3 ∧ ∃ i z : Int, σ3 = [some (.ref a), some (.int ((k0 : Nat) : Int)), some (.int i), some (.int z)]) (fun σ3 H3 ⟨e1, i, z, e2⟩ => ?_) (fun c D hD => ?_) (fun c D hD => ?_)
      · subst e1 e2
        exact ⟨_, rfl, _, rfl, by show 2 ≤ sizeLine; decide, fun p hp => k p _ _ hp⟩
      · exact hD _ _ ⟨rfl, _, _, rfl⟩
      · exact hD _ _ ⟨rfl, _, _, rfl⟩
    · have c := of_decide_eq_true c
      rw [List.length_map] at c
      have hlt : k0 < ns.length := by omega
      have hx : (ns.map V.int)[k0]? = some (V.int ns[k0]) := by rw [List.getElem?_map, List.getElem?_eq_getElem hlt]; rfl
      exact ⟨_, rfl, _, rfl, a, _, _, _, rfl, rfl, ha, at_of (j := k0) rfl hx, hD _ _ ⟨rfl, _, rfl⟩⟩
    · exact hD _ _ ⟨rfl, _, rfl⟩
end
end Wd
/-! ## P25 -/
set_option Elab.async false
set_option linter.all false
set_option maxRecDepth 100000
set_option maxHeartbeats 400000
namespace Wd
open PySem PySem.Spec PyProof.Rows L2 PySem.W PySem.SeqAt
/-! ### letters as data -/
theorem nm_lay : ∀ i, i < 26 → PyData.strOk (nm i) = true := by decide +kernel
theorem way_lay (n : Nat) : PyData.strOk (wayS n) = true := by
  rcases way_mem n with e | e | e <;> rw [e] <;> decide +kernel
theorem word_lay (l : M.Lt) : PyData.strOk (ltW l) = true := by cases l <;> simp only [ltW] <;> decide +kernel
theorem int_lay (i : Int) : PyData.canLay0 (.int i) = true := by simp [PyData.canLay0]
theorem ltR_lay (l : M.Lt) : PyData.canLayAll0 (ltR l) = true := by
  cases l <;> simp [ltR, PyData.canLayAll0, pl_lay, en_lay, int_lay]
  simp only [PyData.canLay0]
  exact ⟨way_lay _, ths_lay _⟩
theorem lt_lay {l : M.Lt} (h1 : l.src < 26) (h2 : l.dst < 26) : PyData.canLay0 (ltD l) = true := by
  unfold ltD
  simp only [PyData.canLay0, List.cons_append, List.nil_append, PyData.canLayAll0, word_lay, nm_lay _ h1, nm_lay _ h2, int_lay, ltR_lay, Bool.and_self, Bool.true_and]
theorem ltR_depth (l : M.Lt) : PyData.depthAll (ltR l) ≤ 4 := by
  cases l <;> simp [ltR, PyData.depthAll, PyData.depth, pl_depth]
  · rename_i th p
    have := ths_depth th
    omega
  · rename_i en
    have := en_depth en
    omega
theorem lt_depth (l : M.Lt) : (ltD l).depth ≤ 5 := by
  have h := ltR_depth l
  unfold ltD
  simp only [PyData.depth, List.cons_append, List.nil_append, PyData.depthAll]
  omega
theorem lts_shaped : ∀ {ls : List M.Lt}, (∀ l ∈ ls, l.src < 26 ∧ l.dst < 26) → SeqAt.shaped (.list (ls.map ltD)) = true := fun {ls} h => by
  have h1 : ∀ ls : List M.Lt, (∀ l ∈ ls, l.src < 26 ∧ l.dst < 26) → PyData.canLayAll0 (ls.map ltD) = true ∧ PyData.depthAll (ls.map ltD) ≤ 5 := fun ls => by
    induction ls with
    | nil => intro _; exact ⟨rfl, Nat.zero_le _⟩
    | cons l r ih =>
      intro h
      obtain ⟨i1, i2⟩ := ih fun x m => h x (List.mem_cons_of_mem _ m)
      have hl := h l List.mem_cons_self
      have hd := lt_depth l
      refine ⟨?_, ?_⟩
      · rw [List.map_cons]; simp only [PyData.canLayAll0, lt_lay hl.1 hl.2, i1, Bool.and_self]
      · rw [List.map_cons]; simp only [PyData.depthAll]; omega
  obtain ⟨a, b⟩ := h1 ls h
  refine shaped_of ?_ ?_
  · simp only [PyData.canLay0]; exact a
  · simp only [PyData.depth]; omega
theorem eqv_lts : ∀ r : List M.Lt, PyData.eqv (.list (r.map ltD)) (.list ([].map ltD)) = r.isEmpty
  | [] => rfl
  | _ :: _ => by simp [PyData.eqv, PyData.eqvAll]
/-! ### the dict of houses -/
theorem kv_hit : ∀ {T : Tn} {i : Nat} {a : HA} {h : M.Hs}, (nsT T).Nodup → T[i]? = some (a, h) → valV (kvT T) (nK h.name) = some (.ref a.p)
  | [], _, _, _, _, e => by simp at e
  | q :: T, 0, a, h, _, e => by
    simp at e
    subst e
    exact valV_pos rfl
  | q :: T, i + 1, a, h, nd, e => by
    have e2 : T[i]? = some (a, h) := by simpa using e
    have hn : q.2.name ≠ h.name := fun z => by
      have := (List.nodup_cons.mp nd).1
      exact this (by show q.2.name ∈ nsT T; rw [z]; exact List.mem_map.mpr ⟨(a, h), List.mem_of_getElem? e2, rfl⟩)
    rw [show kvT (q :: T) = (nK q.2.name, V.ref q.1.p) :: kvT T from rfl, valV_neg (fun z => hn (nK_inj z))]
    exact kv_hit (List.nodup_cons.mp nd).2 e2
theorem kv_miss : ∀ {T : Tn} {x : Nat}, x ∉ nsT T → valV (kvT T) (nK x) = none
  | [], _, _ => rfl
  | q :: T, x, h => by
    have h1 : ¬ x = q.2.name ∧ x ∉ nsT T := by
      have h2 : x ∉ q.2.name :: nsT T := h
      rw [List.mem_cons] at h2
      exact ⟨fun z => h2 (.inl z), fun z => h2 (.inr z)⟩
    rw [show kvT (q :: T) = (nK q.2.name, V.ref q.1.p) :: kvT T from rfl, valV_neg (fun z => h1.1 (nK_inj z).symm)]
    exact kv_miss h1.2
theorem ns_at {T : Tn} {x : Nat} (h : x ∈ nsT T) : ∃ (i : Nat) (a : HA) (h : M.Hs), T[i]? = some (a, h) ∧ h.name = x := by
  obtain ⟨q, m, e⟩ := List.mem_map.mp h
  obtain ⟨i, hi⟩ := List.getElem?_of_mem m
  exact ⟨i, q.1, q.2, hi, e⟩
theorem give_hit : ∀ {T : Tn} {i : Nat} {a : HA} {h : M.Hs} {l : M.Lt}, (nsT T).Nodup → T[i]? = some (a, h) → h.name = l.dst → M.give (wsT T) l = match M.take h l with
    | none => none
    | some (h', ms) => some ((wsT T).set i h', ms)
  | [], _, _, _, _, _, e, _ => by simp at e
  | q :: T, 0, a, h, l, _, e, n => by
    simp at e
    subst e
    show M.give (h :: wsT T) l = _
    rw [M.give, nbt n]
    cases M.take h l with
    | none => rfl
    | some p => rfl
  | q :: T, i + 1, a, h, l, nd, e, n => by
    have e2 : T[i]? = some (a, h) := by simpa using e
    have hn : q.2.name ≠ l.dst := fun z => by
      have := (List.nodup_cons.mp nd).1
      exact this (by show q.2.name ∈ nsT T; rw [z, ← n]; exact List.mem_map.mpr ⟨(a, h), List.mem_of_getElem? e2, rfl⟩)
    show M.give (q.2 :: wsT T) l = _
    rw [M.give, nbf hn, give_hit (List.nodup_cons.mp nd).2 e2 n]
    cases M.take h l with
    | none => rfl
    | some p => rfl
theorem give_miss : ∀ {T : Tn} {l : M.Lt}, l.dst ∉ nsT T → M.give (wsT T) l = some (wsT T, [])
  | [], _, _ => rfl
  | q :: T, l, h => by
    have h1 : ¬ l.dst = q.2.name ∧ l.dst ∉ nsT T := by
      have h2 : l.dst ∉ q.2.name :: nsT T := h
      rw [List.mem_cons] at h2
      exact ⟨fun z => h2 (.inl z), fun z => h2 (.inr z)⟩
    show M.give (q.2 :: wsT T) l = _
    rw [M.give, nbf (fun z => h1.1 z.symm), give_miss h1.2]
    rfl
theorem wsT_set (T : Tn) (i : Nat) (a : HA) (h : M.Hs) : wsT (T.set i (a, h)) = (wsT T).set i h := by unfold wsT; rw [List.map_set]
theorem beats_len : ∀ {ws ws' : M.Ws} {ls : List M.Lt}, M.beats ws = some (ws', ls) → ws'.length = ws.length
  | [], _, _, e => by cases e; rfl
  | h :: r, ws', ls, e => by
    rw [M.beats] at e
    cases eb : M.beat h with
    | none => rw [eb] at e; cases e
    | some q =>
      obtain ⟨h', l1⟩ := q
      rw [eb] at e
      cases er : M.beats r with
      | none => rw [er] at e; cases e
      | some q2 =>
        obtain ⟨r', l2⟩ := q2
        rw [er] at e
        cases e
        exact congrArg Nat.succ (beats_len er)
/-- house by house -/
theorem beats_at : ∀ {ws ws' : M.Ws} {ls : List M.Lt} {i : Nat} {h : M.Hs}, M.beats ws = some (ws', ls) → ws[i]? = some h → ∃ ys ms h' m rest, M.beats (ws.take i) = some (ys, ms) ∧ M.beat h = some (h', m) ∧ M.beats (ws.take (i + 1)) = some (ys ++ [h'], ms ++ m) ∧ ls = ms ++ m ++ rest
  | [], _, _, i, h, _, hi => by simp at hi
  | u :: r, ws', ls, i, h, e, hi => by
    rw [M.beats] at e
    cases eb : M.beat u with
    | none => rw [eb] at e; cases e
    | some q =>
      obtain ⟨u', l1⟩ := q
      rw [eb] at e
      cases er : M.beats r with
      | none => rw [er] at e; cases e
      | some q2 =>
        obtain ⟨r', l2⟩ := q2
        rw [er] at e
        cases e
        cases i with
        | zero =>
          simp at hi
          subst hi
          refine ⟨[], [], u', l1, l2, rfl, eb, ?_, rfl⟩
          show M.beats [u] = _
          rw [M.beats, eb]
          show some ([u'], l1 ++ []) = _
          rw [List.append_nil]; rfl
        | succ i =>
          obtain ⟨ys, ms, h', m, rest, e1, e2, e3, e4⟩ := beats_at er (by simpa using hi)
          refine ⟨u' :: ys, l1 ++ ms, h', m, rest, ?_, e2, ?_, ?_⟩
          · rw [List.take_succ_cons, M.beats, eb, e1]
          · rw [List.take_succ_cons, M.beats, eb, e3]
            show some (u' :: (ys ++ [h']), l1 ++ (ms ++ m)) = _
            rw [← List.append_assoc]; rfl
          · rw [e4]
            simp only [List.append_assoc]
theorem drain_len : ∀ {k : Nat} {ws ws2 : M.Ws} {ls : List M.Lt}, M.drain k ws ls = some ws2 → ls.length ≤ k
  | _, _, _, [], _ => Nat.zero_le _
  | 0, _, _, _ :: _, e => by rw [M.drain] at e; cases e
  | k + 1, ws, ws2, l :: ls, e => by
    rw [M.drain] at e
    cases eg : M.give ws l with
    | none => rw [eg] at e; cases e
    | some q =>
      obtain ⟨ws', ms⟩ := q
      rw [eg] at e
      have := drain_len e
      rw [List.length_append] at this
      exact Nat.succ_le_succ (by omega)
theorem Frs.unlock {H H' : Hp} {T T' : Tn} {d : Addr} {od : Obj} {kvs : List (Key × V)} (hd : H d = some (.dK kvs)) (f : Frs (upd H d (.frz od (.dK kvs))) H' T T') (hd' : H' d = some (.frz od (.dK kvs))) : Frs H (upd H' d (.dK kvs)) T T' where
  kv := f.kv
  keep := fun b o e n => by
    by_cases c : b = d
    · subst c; rw [hd] at e; cases e; exact upd_same
    · rw [upd_ne c]; exact f.keep b o (by rw [upd_ne c]; exact e) n
  own := fun q m b z => (f.own q m b z).imp id fun z2 => by
    by_cases c : b = d
    · subst c; rw [upd_same] at z2; cases z2
    · rw [upd_ne c] at z2; exact z2
  kp := (Kp.at hd nt_dK.1 nt_dK.2).trans (f.kp.trans (Kp.at hd' (fun _ z => nomatch z) fun _ _ z => by cases z))
  al := fun b z => by
    by_cases c : b = d
    · subst c; rw [upd_same] at z; cases z
    · rw [upd_ne c] at z
      have := f.al b z
      rw [upd_ne c] at this
      exact this
end Wd
/-! ## P26 -/
set_option Elab.async false
set_option linter.all false
set_option maxRecDepth 100000
set_option maxHeartbeats 400000
namespace Wd
open PySem PySem.Spec PyProof.Rows L2 PySem.W PySem.SeqAt
theorem for_keysO {d : Addr} {od : Obj} {kvs : List (Key × V)} {g : TG} {tb : TS} {D : Ends} {σ : L2.St} {H : Hp} (Pv : Nat → L2.St → Hp → Prop) (h0 : Pv 0 σ H) (hl : ∀ i σ H, i ≤ kvs.length → Pv i σ H → H d = some (.frz od (.dK kvs)))
    (hs : ∀ i k v σ H, kvs[i]? = some (k, v) → Pv i σ H → g (kV k) σ H fun σ2 H2 => tb { D with nx := Pv (i + 1), ct := Pv (i + 1), bk := D.nx } σ2 H2) (hd : ∀ σ H, Pv kvs.length σ H → D.nx σ H) :
    ∃ W : Nat → Nat → L2.St → Hp → Prop, (∃ m, W 0 m σ H) ∧ ∀ i m σ H, W i m σ H →
      ((Itk d od kvs).stop i H ∧ D.nx σ H) ∨ ((Itk d od kvs).go i H ∧ ∃ N : L2.St → Hp → Prop, (∀ σ' H', N σ' H' → ∃ m', m' < m ∧ W (i + 1) m' σ' H') ∧ ∀ x H', (Itk d od kvs).yld i H x H' → g x σ H' fun σ2 H2 => tb { D with nx := N, ct := N, bk := D.nx } σ2 H2) := by
  refine ⟨fun i m σ H => m = kvs.length - i ∧ i ≤ kvs.length ∧ Pv i σ H, ⟨kvs.length, rfl, Nat.zero_le _, h0⟩, ?_⟩
  rintro i m σ H ⟨rfl, hi, p⟩
  have q := hl i σ H hi p
  by_cases hlt : i < kvs.length
  · refine .inr ⟨⟨q, hlt⟩, Pv (i + 1), fun σ' H' p' => ⟨kvs.length - (i + 1), by omega, rfl, hlt, p'⟩, fun x H' y => ?_⟩
    obtain ⟨e, k, v, y1, y2⟩ := y
    subst e y2
    exact hs i k v σ _ y1 p
  · have e : i = kvs.length := by omega
    subst e
    exact .inl ⟨⟨q, Nat.le_refl _⟩, hd σ H p⟩
/-- the dict of the houses, and the houses -/
structure Town (K : PySem.W.Frag) (H : Hp) (d : Addr) (T : Tn) : Prop where
  dict : H d = some (.dK (kvT T))
  hs : Hss K H T
  no : ∀ q ∈ T, d ∉ own q.1
def spRound (K : PySem.W.Frag) : Sp := fun vs H Q _ => ∃ (d left : Addr) (T : Tn) (wl : List V) (ls : List M.Lt) (ws2 : M.Ws), vs = [.ref d, .ref left] ∧ Town K H d T ∧ T ≠ [] ∧ T.length ≤ 26 ∧ H left = some (.lst wl) ∧ Paired (LtIs K H) wl ls ∧ (∀ q ∈ T, left ∉ own q.1) ∧ M.round (wsT T) ls = some ws2 ∧
  ∀ H' T', Frs H H' T T' → Town K H' d T' → wsT T' = ws2 → Q .non H'
structure RdIn (K : PySem.W.Frag) (Hf : Hp) (d : Addr) (od : Obj) (T : Tn) (left : Addr) (ls : List M.Lt) (i : Nat) (Hc : Hp) (L : Addr) (Tc : Tn) (wl : List V) (ys : M.Ws) (ms : List M.Lt) : Prop where
  f : Frs Hf Hc T Tc
  hs : Hss K Hc Tc
  l : Hc L = some (.lst wl)
  ll : Paired (LtIs K Hc) wl (ls ++ ms)
  b : M.beats ((wsT T).take i) = some (ys, ms)
  w : wsT Tc = ys ++ (wsT T).drop i
  n : 0 < i → Hf L = none
  no : ∀ q ∈ Tc, L ∉ own q.1
  fz : Hc d = some (.frz od (.dK (kvT T)))
structure WhIn (K : PySem.W.Frag) (H : Hp) (d : Addr) (T0 : Tn) (ws2 : M.Ws) (m : Nat) (Hc : Hp) (L : Addr) (Tc : Tn) (wl : List V) (ls : List M.Lt) : Prop where
  f : Frs H Hc T0 Tc
  hs : Hss K Hc Tc
  l : Hc L = some (.lst wl)
  ll : Paired (LtIs K Hc) wl ls
  dr : M.drain m (wsT Tc) ls = some ws2
  n : H L = none
  no : ∀ q ∈ Tc, L ∉ own q.1
  dict : Hc d = some (.dK (kvT T0))
  le : m ≤ 400
theorem lts_dp {K : PySem.W.Frag} {H : Hp} : ∀ {wl : List V} {ls : List M.Lt}, Paired (LtIs K H) wl ls → Ds K ltD H wl ls ∧ ∀ l ∈ ls, l.src < 26 ∧ l.dst < 26
  | _, _, .nil => ⟨.nil, fun _ m => nomatch m⟩
  | _, _, .cons h t => ⟨.cons h.dp (lts_dp t).1, fun l m => by
    rcases List.mem_cons.mp m with rfl | m
    · exact ⟨h.src, h.dst⟩
    · exact (lts_dp t).2 l m⟩
section
variable {P : Program} {w : World} {K : PySem.W.Frag} {mg : Str → Option Value} {base : Heap}
theorem ok_law_round (T : Txt w K mg) : Df P w K mg base 10 (He.ga K "_law_round") ["_law_houses", "_law_left"] (spRound K) := by
  obtain ⟨fd_m_beat, G_m_beat, b_m_beat, kp_m_beat⟩ := ok_m_beat (P := P) (w := w) (base := base) T
  obtain ⟨fd_m_take, G_m_take, b_m_take, kp_m_take⟩ := ok_m_take (P := P) (w := w) (base := base) T
  refine df_mk T.f_law_round sc_law_round (fun vs H Q E h => ?_) (fun _ _ _ _ _ _ us hl => match us, hl with | [_, _], _ => rfl) (fun cdv A outer s H vs Q E hr h => ?_)
  · obtain ⟨d, left, T, wl, ls, ws2, rfl, _⟩ := h
    rfl
  · obtain ⟨d, left, T0, wl, ls, ws2, rfl, tw, ne, tl, hl, pl, nl, hz, k⟩ := h
    refine ⟨_, (pss_cons (ps_lock (ps_for PassesOwn.never rfl (pi_keys (pv 0)) (pg_name (i := 2) sc_law_round.nd rfl (Or.inl rfl)) (pss_one (ps_set (i := 1) sc_law_round.nd rfl (Or.inl rfl) (pe_op op_cat (pv 1) (pe_meth0 (pe_dget (hu_of hr) (pv 0) (pv 2) (fun _ _ => rfl)) T.cl T.me_beat G_m_beat (hr.mono (by decide)) b_m_beat .nil pass0)))))) (pss_one (ps_while PassesOwn.never (pt_cmpR (kNeD rfl hr.units) (pv 1) (pe_lst pa_nil) (nomark _)) (pss_cons (ps_set (i := 3) sc_law_round.nd rfl (Or.inl rfl) (pe_bm PySem.F.plainAttrs_list PySem.F.slot_list_pop PySem.F.type_list_pop mt_popAt (pv 1) (pa_cons pe_int pa_nil))) (pss_one (ps_if (pt_cmp (pc_din (hu_of hr) (pe_ix (kIxT rfl) (pv 3) pe_int (fun _ _ => rfl)) (pv 0)) (by rfl)) (pss_one (ps_set (i := 1) sc_law_round.nd rfl (Or.inl rfl) (pe_op op_cat (pv 1) (pe_meth (pe_dget (hu_of hr) (pv 0) (pe_ix (kIxT rfl) (pv 3) pe_int (fun _ _ => rfl)) (fun _ _ => rfl)) T.cl T.me_take G_m_take (hr.mono (by decide)) b_m_take .nil pass0 (pa_cons (pv 3) pa_nil))))) pss_nil)))))), ?_⟩
    rw [st_law_round]
    have hz2 : ∃ ws' bl, M.beats (wsT T0) = some (ws', bl) ∧ M.drain M.fuel ws' (ls ++ bl) = some ws2 := by
      unfold M.round at hz
      cases eb : M.beats (wsT T0) with
      | none => rw [eb] at hz; cases hz
      | some q => obtain ⟨a, b⟩ := q; rw [eb] at hz; exact ⟨a, b, rfl, hz⟩
    obtain ⟨ws', bl, eb, ed⟩ := hz2
    have hlen := drain_len ed
    rw [List.length_append] at hlen
    have hfuel : M.fuel = 400 := rfl
    refine ⟨d, .dK (kvT T0), tw.dict, True.intro, fun od => ?_⟩
    have hf : (upd H d (.frz od (.dK (kvT T0)))) d = some (.frz od (.dK (kvT T0))) := upd_same
    have hsf : Hss K (upd H d (.frz od (.dK (kvT T0)))) T0 := tw.hs.put tw.dict nt_dK tw.no
    have kpf : Kp H (upd H d (.frz od (.dK (kvT T0)))) := Kp.at tw.dict nt_dK.1 nt_dK.2
    have hlf : (upd H d (.frz od (.dK (kvT T0)))) left = some (.lst wl) := by rw [upd_ne (fun z => by rw [z, tw.dict] at hl; cases hl)]; exact hl
    have unl : ∀ {H' : Hp} {T' : Tn}, Frs (upd H d (.frz od (.dK (kvT T0)))) H' T0 T' → H' d = some (.frz od (.dK (kvT T0))) → Frs H (upd H' d (.dK (kvT T0))) T0 T' := fun f e => Frs.unlock tw.dict f e
    have frl : ∀ b, (upd H d (.frz od (.dK (kvT T0)))) b = none → H b = none := fun b e => by
      by_cases c : b = d
      · subst c; rw [upd_same] at e; cases e
      · rw [upd_ne c] at e; exact e
    generalize upd H d (.frz od (.dK (kvT T0))) = Hf at *
    have klen : (kvT T0).length = T0.length := List.length_map ..
    refine ⟨_, rfl, d, od, rfl, .inl ⟨kvT T0, hf, for_keysO (fun i σ Hc => ∃ (L : Addr) (Tc : Tn) (wl : List V) (ys : M.Ws) (ms : List M.Lt) (o2 o3 : Option V), σ = [some (.ref d), some (.ref L), o2, o3] ∧ RdIn K Hf d od T0 left ls i Hc L Tc wl ys ms)
      ⟨left, T0, wl, [], [], none, none, rfl, Frs.refl _ _, hsf, hlf, by rw [List.append_nil]; exact pd_mono pl fun _ _ q => q.kp kpf, rfl, rfl, fun z => absurd z (Nat.lt_irrefl 0), nl, hf⟩ (fun i σ Hc hi ⟨L, Tc, wl, ys, ms, o2, o3, e, g⟩ => g.fz) (fun i ky v σ Hc ek ⟨L, Tc, wl2, ys, ms, o2, o3, e, g⟩ => ?_) (fun σ Hc ⟨L, Tc, wl2, ys, ms, o2, o3, e, g⟩ => ?_)⟩⟩
    · subst e
      obtain ⟨q, hq, eq⟩ : ∃ q, T0[i]? = some q ∧ (nK q.2.name, V.ref q.1.p) = (ky, v) := by
        unfold kvT at ek
        rw [List.getElem?_map] at ek
        cases c : T0[i]? with
        | none => rw [c] at ek; cases ek
        | some q => rw [c] at ek; exact ⟨q, rfl, Option.some.inj ek⟩
      cases eq
      have hi : i < T0.length := (List.getElem?_eq_some_iff.mp hq).1
      have hwi : (wsT T0)[i]? = some q.2 := by unfold wsT; rw [List.getElem?_map, hq]; rfl
      obtain ⟨ys2, ms2, h', m, rest, b1, b2, b3, b4⟩ := beats_at eb hwi
      rw [g.b] at b1
      cases b1
      have hyl : ys.length = i := by rw [beats_len g.b, List.length_take]; unfold wsT; rw [List.length_map]; omega
      -- the house in its present place
      obtain ⟨r, hr2, er⟩ : ∃ r, Tc[i]? = some r ∧ r.2 = q.2 := by
        have e : (wsT Tc)[i]? = some q.2 := by rw [g.w, List.getElem?_append_right (by omega), hyl, Nat.sub_self, List.getElem?_drop, Nat.add_zero]; exact hwi
        unfold wsT at e
        rw [List.getElem?_map] at e
        cases c : Tc[i]? with
        | none => rw [c] at e; cases e
        | some r => rw [c] at e; exact ⟨r, rfl, Option.some.inj e⟩
      obtain ⟨ra, rh⟩ := r
      obtain rfl : rh = q.2 := er
      have hhc := g.hs.at_ _ (List.mem_of_getElem? hr2)
      have hval : valV (kvT T0) (nK q.2.name) = some (.ref ra.p) := by rw [← g.f.kv]; exact kv_hit g.hs.nd hr2
      refine ⟨_, rfl, _, rfl, _, rfl, d, .ref ra.p, rfl, .inl ⟨kvT T0, nK q.2.name, .inr ⟨od, g.fz⟩, rfl, hval.symm⟩, ra.p, ra.dx, _, rfl, hhc.ob, no_beat _ _, ra, q.2, h', m, rfl, hhc, b2, fun H5 a5 r5 po => ?_⟩
      obtain ⟨w5, e5, p5⟩ := po.l
      have hstep := g.hs.step hr2 po.f po.hh (beat_name b2)
      have no5 : ∀ q' ∈ Tc.set i (a5, h'), r5 ∉ own q'.1 := fun q' m' z => by
        obtain ⟨j, hj⟩ := List.getElem?_of_mem m'
        by_cases c : j = i
        · subst c
          rw [List.getElem?_set_self (List.getElem?_eq_some_iff.mp hr2).1] at hj
          cases hj
          exact po.nr z
        · rw [List.getElem?_set_ne (fun y => c y.symm)] at hj
          obtain ⟨o, ho, _⟩ := (g.hs.at_ q' (List.mem_of_getElem? hj)).there r5 z
          rw [po.new] at ho
          cases ho
      have hL5 := po.f.keep _ _ g.l (g.no _ (List.mem_of_getElem? hr2))
      have hlt := pd_len g.ll
      have hl5 := pd_len p5
      have hb4 := congrArg List.length b4
      rw [List.length_append, List.length_append] at hb4
      rw [List.length_append] at hlt
      refine ⟨L, r5, wl2, w5, rfl, rfl, hL5, e5, Nat.le_trans (show wl2.length + w5.length ≤ 400 by omega) (by decide), fun p hp => ?_⟩
      have sp : Same H5 (upd H5 p (.lst (wl2 ++ w5))) := same_new hp
      have dno : d ∉ own ra := fun z => by
        rcases g.f.own _ (List.mem_of_getElem? hr2) d z with ⟨r', mr, zr⟩ | z2
        · exact tw.no r' mr zr
        · rw [hf] at z2; cases z2
      refine ⟨p, Tc.set i (a5, h'), wl2 ++ w5, ys ++ [h'], ms ++ m, _, _, rfl, (g.f.trans hstep.2).same sp, hstep.1.same sp, upd_same, ?_, b3, ?_, fun _ => (g.f.trans hstep.2).al _ hp, hstep.1.not hp, sp _ _ (po.f.keep _ _ g.fz dno)⟩
      · rw [← List.append_assoc]
        exact pd_mono (pd_app (pd_mono g.ll fun _ _ q => q.kp po.f.kp) p5) fun _ _ q => q.kp (Kp.of sp)
      · rw [wsT_set, g.w, List.set_append_right _ _ (by omega), hyl, Nat.sub_self]
        rw [List.drop_eq_getElem_cons (by unfold wsT; rw [List.length_map]; exact hi), List.set_cons_zero, List.append_assoc]
        rfl
    · subst e
      rw [klen] at g
      have gb := g.b
      rw [List.take_of_length_le (by unfold wsT; rw [List.length_map]; exact Nat.le_refl _), eb] at gb
      obtain ⟨rfl, rfl⟩ : ys = ws' ∧ ms = bl := by cases gb; exact ⟨rfl, rfl⟩
      have gw : wsT Tc = ys := by rw [g.w, List.drop_of_length_le (by unfold wsT; rw [List.length_map]; exact Nat.le_refl _), List.append_nil]
      refine ⟨g.fz, ?_⟩
      have F1 := unl g.f g.fz
      have dno : ∀ q ∈ Tc, d ∉ own q.1 := fun q m z => by
        rcases g.f.own q m d z with ⟨r', mr, zr⟩ | z2
        · exact tw.no r' mr zr
        · rw [hf] at z2; cases z2
      have hs1 : Hss K (upd Hc d (.dK (kvT T0))) Tc := g.hs.put g.fz ⟨(fun _ z => nomatch z), (fun _ _ z => by cases z)⟩ dno
      have nLd : L ≠ d := fun z => by have := g.l; rw [z, g.fz] at this; cases this
      have l1 : (upd Hc d (.dK (kvT T0))) L = some (.lst wl2) := by rw [upd_ne nLd]; exact g.l
      have kp1 : Kp Hc (upd Hc d (.dK (kvT T0))) := Kp.at g.fz (fun _ z => nomatch z) fun _ _ z => by cases z
      have d1 : (upd Hc d (.dK (kvT T0))) d = some (.dK (kvT T0)) := upd_same
      have ll1 := pd_mono g.ll fun _ _ q => q.kp kp1
      have nL : H L = none := frl _ (g.n (by cases T0 with
        | nil => exact absurd rfl ne
        | cons _ _ => exact Nat.succ_pos _))
      have noL := g.no
      generalize upd Hc d (.dK (kvT T0)) = H1 at *
      clear g kp1 hsf kpf hlf unl frl
      refine ⟨fun m σ Hw => ∃ (L : Addr) (Tc : Tn) (wl : List V) (ls : List M.Lt) (o2 o3 : Option V), σ = [some (.ref d), some (.ref L), o2, o3] ∧ WhIn K H d T0 ws2 m Hw L Tc wl ls, ⟨M.fuel, L, Tc, wl2, ls ++ ms, o2, o3, rfl, F1, hs1, l1, ll1, by rw [gw]; exact ed, nL, noL, d1, Nat.le_refl _⟩, ?_⟩
      rintro m σ Hw ⟨L, Tc, wl, ls, o2, o3, rfl, g⟩
      refine ⟨_, rfl, Nat.zero_le _, fun p hp => ?_⟩
      (generalize hz : upd Hw p _ = H2; have s2 : Same Hw H2 := (by rw [← hz]; exact same_new hp); have h2 : H2 p = some _ := (by rw [← hz]; exact upd_same); clear hz)
      have hl2 := s2 _ _ g.l
      have ll2 := pd_mono g.ll fun _ _ q => q.kp (Kp.of s2)
      obtain ⟨dd, hb26⟩ := lts_dp ll2
      refine ⟨_, _, dd.lst (SqL.of hl2), .lst (SqL.of h2) .nil, lts_shaped hb26, lts_shaped (ls := []) (fun _ m => nomatch m), _, rfl, ?_⟩
      rw [show (PyData.list []) = .list (([] : List M.Lt).map ltD) from rfl, eqv_lts]
      have hs2 := g.hs.same s2
      have f2 := g.f.same s2
      have dict2 := s2 _ _ g.dict
      have gno := g.no
      have gn := g.n
      have gdr := g.dr
      have gle := g.le
      clear g h2 hp dd
      match ls, wl, ll2, gdr with
      | [], wl, ll2, gdr =>
        refine iteF ?_
        have e : wsT Tc = ws2 := by
          cases m with
          | zero => rw [M.drain] at gdr; exact Option.some.inj gdr
          | succ m => rw [M.drain] at gdr; exact Option.some.inj gdr
        refine k H2 Tc f2 ⟨by rw [f2.kv]; exact dict2, hs2, fun q mq z => ?_⟩ e
        rcases f2.own q mq d z with ⟨r', mr, zr⟩ | z2
        · exact tw.no r' mr zr
        · rw [tw.dict] at z2; cases z2
      | l :: ls, _, .cons (a := v) (l₁ := wl) hv ll2, gdr =>
        cases m with
        | zero => rw [M.drain] at gdr; cases gdr
        | succ m =>
          rw [M.drain] at gdr
          refine iteT ⟨fun σ' H' => ∃ (L : Addr) (Tc : Tn) (wl : List V) (ls : List M.Lt) (o2 o3 : Option V), σ' = [some (.ref d), some (.ref L), o2, o3] ∧ WhIn K H d T0 ws2 m H' L Tc wl ls, fun σ' H' w => ⟨m, Nat.lt_succ_self _, w⟩, ?_⟩
          refine ⟨_, rfl, .inl ⟨rfl, _, SqL.of hl2⟩, L, v :: wl, 0, 0, v, rfl, rfl, hl2, by decide, by decide, ?_, rfl, ?_⟩
          · simp [seqIndex?]
          have ndL : d ≠ L := fun z => by rw [z, hl2] at dict2; cases dict2
          have l3 : (upd H2 L (.lst wl)) L = some (.lst wl) := upd_same
          have hs3 : Hss K (upd H2 L (.lst wl)) Tc := hs2.put hl2 nt_lst gno
          have f3 : Frs H (upd H2 L (.lst wl)) T0 Tc := f2.put gn hl2 nt_lst
          have dict3 : (upd H2 L (.lst wl)) d = some (.dK (kvT T0)) := by rw [upd_ne ndL]; exact dict2
          have kp3 : Kp H2 (upd H2 L (.lst wl)) := Kp.lst hl2
          have hv3 := hv.kp kp3
          have ll3 := pd_mono ll2 fun _ _ q => q.kp kp3
          have ee : (HO.lst ((v :: wl).eraseIdx 0)) = .lst wl := rfl
          rw [ee]
          generalize upd H2 L (.lst wl) = H3 at *
          simp only [List.set_cons_succ, List.set_cons_zero]
          clear hs2 f2 dict2 hl2 kp3 hv ll2 s2 ee
          obtain ⟨q, rs, rfl, hq, hrs⟩ := lt_parts hv3.dp
          by_cases cin : l.dst ∈ nsT Tc
          · obtain ⟨j, a, h, hj, en⟩ := ns_at cin
            have hval : valV (kvT T0) (nK l.dst) = some (.ref a.p) := by rw [← f3.kv, ← en]; exact kv_hit hs3.nd hj
            have hgive := give_hit hs3.nd hj en
            rw [hgive] at gdr
            cases ht : M.take h l with
            | none => rw [ht] at gdr; cases gdr
            | some p2 =>
              obtain ⟨h', ms2⟩ := p2
              rw [ht] at gdr
              have gdr : M.drain m ((wsT Tc).set j h') (ls ++ ms2) = some ws2 := gdr
              have hh3 := hs3.at_ _ (List.mem_of_getElem? hj)
              refine ⟨_, rfl, q, _, _, _, rfl, rfl, hq, at_of (j := 2) rfl rfl, _, rfl, d, some (.ref a.p), rfl, .inl ⟨kvT T0, nK l.dst, .inl dict3, rfl, hval.symm⟩, _, rfl, iteT ?_⟩
              refine ⟨_, rfl, _, rfl, _, rfl, q, _, _, _, rfl, rfl, hq, at_of (j := 2) rfl rfl, d, .ref a.p, rfl, .inl ⟨kvT T0, nK l.dst, .inl dict3, rfl, hval.symm⟩, a.p, a.dx, _, rfl, hh3.ob, no_take _ _, _, rfl, a, h, h', ms2, _, l, rfl, hh3, hv3, ht, fun H5 a5 r5 po => ?_⟩
              obtain ⟨w5, e5, p5⟩ := po.l
              have hstep := hs3.step hj po.f po.hh (take_name ht)
              have hL5 := po.f.keep _ _ l3 (gno _ (List.mem_of_getElem? hj))
              have hlt := pd_len ll3
              have hl5 := pd_len p5
              have hdl := drain_len gdr
              rw [List.length_append] at hdl
              refine ⟨L, r5, wl, w5, rfl, rfl, hL5, e5, Nat.le_trans (show wl.length + w5.length ≤ 400 by omega) (by decide), fun p hp => ?_⟩
              have sp : Same H5 (upd H5 p (.lst (wl ++ w5))) := same_new hp
              have dno : d ∉ own a := fun z => by
                rcases f3.own _ (List.mem_of_getElem? hj) d z with ⟨r', mr, zr⟩ | z2
                · exact tw.no r' mr zr
                · rw [tw.dict] at z2; cases z2
              refine ⟨p, Tc.set j (a5, h'), wl ++ w5, ls ++ ms2, _, _, rfl, (f3.trans hstep.2).same sp, hstep.1.same sp, upd_same, ?_, by rw [wsT_set]; exact gdr, (f3.trans hstep.2).al _ hp, hstep.1.not hp, sp _ _ (po.f.keep _ _ dict3 dno), Nat.le_of_succ_le gle⟩
              exact pd_mono (pd_app (pd_mono ll3 fun _ _ q => q.kp po.f.kp) p5) fun _ _ q => q.kp (Kp.of sp)
          · have hval : valV (kvT T0) (nK l.dst) = none := by rw [← f3.kv]; exact kv_miss cin
            rw [give_miss cin] at gdr
            have gdr : M.drain m (wsT Tc) (ls ++ []) = some ws2 := gdr
            rw [List.append_nil] at gdr
            refine ⟨_, rfl, q, _, _, _, rfl, rfl, hq, at_of (j := 2) rfl rfl, _, rfl, d, none, rfl, .inl ⟨kvT T0, nK l.dst, .inl dict3, rfl, hval.symm⟩, _, rfl, iteF ?_⟩
            exact ⟨L, Tc, wl, ls, _, _, rfl, f3, hs3, l3, ll3, gdr, gn, gno, dict3, Nat.le_of_succ_le gle⟩
end
end Wd
/-! ## P27 -/
set_option Elab.async false
set_option linter.all false
set_option maxRecDepth 100000
set_option maxHeartbeats 400000
namespace Wd
open PySem PySem.Spec PyProof.Rows L2 PySem.W PySem.SeqAt
theorem Town.step {K : PySem.W.Frag} {H H1 : Hp} {d : Addr} {T : Tn} {i : Nat} {a a' : HA} {h h' : M.Hs} (t : Town K H d T) (hi : T[i]? = some (a, h)) (f : Fr H H1 a a') (hh : HouseAt K H1 a' h') (en : h'.name = h.name) : Town K H1 d (T.set i (a', h')) ∧ Frs H H1 T (T.set i (a', h')) := by
  obtain ⟨h1, h2⟩ := t.hs.step hi f hh en
  refine ⟨⟨?_, h1, fun q m z => ?_⟩, h2⟩
  · rw [h2.kv]
    exact f.keep _ _ t.dict (t.no _ (List.mem_of_getElem? hi))
  · rcases h2.own q m d z with ⟨r, mr, zr⟩ | z2
    · exact t.no r mr zr
    · rw [t.dict] at z2; cases z2
theorem Town.same {K : PySem.W.Frag} {H H1 : Hp} {d : Addr} {T : Tn} (t : Town K H d T) (s : Same H H1) : Town K H1 d T := ⟨s _ _ t.dict, t.hs.same s, t.no⟩
theorem at_T : ∀ {T : Tn} {x : Nat} {h : M.Hs}, M.at_ x (wsT T) = some h → ∃ (i : Nat) (a : HA), T[i]? = some (a, h) ∧ h.name = x
  | [], _, _, e => by cases e
  | q :: T, x, h, e => by
    have e : M.at_ x (q.2 :: wsT T) = some h := e
    rw [M.at_] at e
    by_cases c : q.2.name = x
    · rw [nbt c] at e
      cases e
      exact ⟨0, q.1, rfl, c⟩
    · rw [nbf c] at e
      obtain ⟨i, a, h1, h2⟩ := at_T e
      exact ⟨i + 1, a, by simpa using h1, h2⟩
theorem setAt_T : ∀ {T : Tn} {i : Nat} {a : HA} {h h' : M.Hs}, (nsT T).Nodup → T[i]? = some (a, h) → M.setAt h.name h' (wsT T) = (wsT T).set i h'
  | [], _, _, _, _, _, e => by simp at e
  | q :: T, 0, a, h, h', _, e => by
    simp at e
    subst e
    show M.setAt h.name h' (h :: wsT T) = _
    rw [M.setAt, nbt rfl]; rfl
  | q :: T, i + 1, a, h, h', nd, e => by
    have e2 : T[i]? = some (a, h) := by simpa using e
    have hn : q.2.name ≠ h.name := fun z => by
      have := (List.nodup_cons.mp nd).1
      exact this (by show q.2.name ∈ nsT T; rw [z]; exact List.mem_map.mpr ⟨(a, h), List.mem_of_getElem? e2, rfl⟩)
    show M.setAt h.name h' (q.2 :: wsT T) = _
    rw [M.setAt, nbf hn]
    show q.2 :: M.setAt h.name h' (wsT T) = _
    rw [setAt_T (List.nodup_cons.mp nd).2 e2]; rfl
theorem Frs.len {H H' : Hp} {T T' : Tn} (f : Frs H H' T T') : T'.length = T.length := by
  have := congrArg List.length f.kv
  unfold kvT at this
  rw [List.length_map, List.length_map] at this
  exact this
theorem len_ne {T T' : Tn} (e : T'.length = T.length) (h : T ≠ []) : T' ≠ [] := fun z => by
  rw [z] at e
  exact h (List.length_eq_zero_iff.mp e.symm)
def spCalmed (K : PySem.W.Frag) : Sp := fun vs H Q _ => ∃ (d : Addr) (T : Tn) (x : Nat) (ws2 : M.Ws) (b : Bool), vs = [.ref d, .str (nm x)] ∧ Town K H d T ∧ T.length ≤ 26 ∧ M.calmed (wsT T) x = some (ws2, b) ∧ ∀ H' T', Frs H H' T T' → Town K H' d T' → wsT T' = ws2 → Q (.bl b) H'
theorem Town.get {K : PySem.W.Frag} {H : Hp} {d : Addr} {T : Tn} {i : Nat} {a : HA} {h : M.Hs} (t : Town K H d T) (hi : T[i]? = some (a, h)) : DGet H d (.str (nm h.name)) (some (.ref a.p)) := .inl ⟨kvT T, nK h.name, .inl t.dict, rfl, (kv_hit t.hs.nd hi).symm⟩
theorem new_step {K : PySem.W.Frag} {H : Hp} {T : Tn} {i : Nat} {a a' : HA} {h h' : M.Hs} {r : Addr} (hs : Hss K H T) (hi : T[i]? = some (a, h)) (n : H r = none) (nr : r ∉ own a') : ∀ q ∈ T.set i (a', h'), r ∉ own q.1 := fun q' m' z => by
  obtain ⟨j, hj⟩ := List.getElem?_of_mem m'
  by_cases c : j = i
  · subst c
    rw [List.getElem?_set_self (List.getElem?_eq_some_iff.mp hi).1] at hj
    cases hj
    exact nr z
  · rw [List.getElem?_set_ne (fun y => c y.symm)] at hj
    obtain ⟨o, ho, _⟩ := (hs.at_ q' (List.mem_of_getElem? hj)).there r z
    rw [n] at ho
    cases ho
theorem rounds_succ {k : Nat} {ws w2 : M.Ws} (e : M.rounds (k + 1) ws = some w2) : ∃ w1, M.round ws [] = some w1 ∧ M.rounds k w1 = some w2 := by
  rw [M.rounds] at e
  cases c : M.round ws [] with
  | none => rw [c] at e; cases e
  | some w1 => rw [c] at e; exact ⟨w1, rfl, e⟩
section
variable {P : Program} {w : World} {K : PySem.W.Frag} {mg : Str → Option Value} {base : Heap}
theorem ok_law_calmed (T : Txt w K mg) : Df P w K mg base 11 (He.ga K "_law_calmed") ["_law_houses", "_law_name"] (spCalmed K) := by
  obtain ⟨fd_law_round, G_law_round, b_law_round, kp_law_round⟩ := ok_law_round (P := P) (w := w) (base := base) T
  obtain ⟨fd_m_seek, G_m_seek, b_m_seek, kp_m_seek⟩ := ok_m_seek (P := P) (w := w) (base := base) T
  obtain ⟨fd_m_is_settled, G_m_is_settled, b_m_is_settled, kp_m_is_settled⟩ := ok_m_is_settled (P := P) (w := w) (base := base) T
  refine df_mk T.f_law_calmed sc_law_calmed (fun vs H Q E h => ?_) (fun _ _ _ _ _ _ us hl => match us, hl with | [_, _], _ => rfl) (fun cdv A outer s H vs Q E hr h => ?_)
  · obtain ⟨d, T0, x, ws2, b, rfl, _⟩ := h
    rfl
  · obtain ⟨d, T0, x, ws2, b, rfl, tw, tl, hz, k⟩ := h
    refine ⟨_, (pss_cons (ps_expr (pe_call G_law_round (hr.mono (by decide)) rfl T.g_law_round kp_law_round b_law_round .nil pass0 (pa_cons (pv 0) (pa_cons (pe_meth0 (pe_dget (hu_of hr) (pv 0) (pv 1) (fun _ _ => rfl)) T.cl T.me_seek G_m_seek (hr.mono (by decide)) b_m_seek .nil pass0) pa_nil)))) (pss_cons (ps_for PassesOwn.never rfl (pi_range1 rfl T.b_range (pa_cons pe_int pa_nil)) (pg_name (i := 2) sc_law_calmed.nd rfl (Or.inl rfl)) (pss_one (ps_expr (pe_call G_law_round (hr.mono (by decide)) rfl T.g_law_round kp_law_round b_law_round .nil pass0 (pa_cons (pv 0) (pa_cons (pe_lst pa_nil) pa_nil)))))) (pss_one (ps_ret (pe_meth0 (pe_dget (hu_of hr) (pv 0) (pv 1) (fun _ _ => rfl)) T.cl T.me_is_settled G_m_is_settled (hr.mono (by decide)) b_m_is_settled .nil pass0))))), ?_⟩
    rw [st_law_calmed]
    unfold M.calmed at hz
    cases ea : M.at_ x (wsT T0) with
    | none => rw [ea] at hz; cases hz
    | some h0 =>
      rw [ea] at hz
      obtain ⟨i, a0, hi, rfl⟩ := at_T ea
      have tne : T0 ≠ [] := fun z => by rw [z] at hi; cases hi
      have hh := tw.hs.at_ _ (List.mem_of_getElem? hi)
      cases er : M.round (M.setAt h0.name (M.seek h0).1 (wsT T0)) (M.seek h0).2 with
      | none => simp [er] at hz
      | some w1 =>
        cases er3 : M.rounds 3 w1 with
        | none => simp [er, er3] at hz
        | some w2 =>
          cases ea2 : M.at_ h0.name w2 with
          | none => simp [er, er3, ea2] at hz
          | some h3 =>
            have hz : (w2, M.isSettled h3) = (ws2, b) := by simpa [er, er3, ea2] using hz
            rw [setAt_T tw.hs.nd hi] at er
            obtain ⟨rfl, rfl⟩ : w2 = ws2 ∧ M.isSettled h3 = b := by cases hz; exact ⟨rfl, rfl⟩
            refine ⟨_, rfl, _, rfl, _, rfl, d, .ref a0.p, rfl, tw.get hi, a0.p, a0.dx, _, rfl, hh.ob, no_seek _ _, a0, h0, rfl, hh, fun H1 a1 r1 po => ?_⟩
            obtain ⟨wl, el, pl⟩ := po.l
            obtain ⟨tw1, f1⟩ := tw.step hi po.f po.hh rfl
            refine ⟨d, r1, _, wl, _, w1, rfl, tw1, len_ne f1.len tne, by rw [f1.len]; exact tl, el, pl, new_step tw.hs hi po.new po.nr, by rw [wsT_set]; exact er, fun H2 T2 f2 tw2 e2 => ?_⟩
            refine ⟨3, rfl, by decide, by decide, for_range (n := 3) (fun i σ Hc => ∃ (Tc : Tn) (o : Option V), σ = [some (.ref d), some (.str (nm h0.name)), o] ∧ Frs H Hc T0 Tc ∧ Town K Hc d Tc ∧ M.rounds (3 - i) (wsT Tc) = some w2)
              ⟨T2, none, rfl, f1.trans f2, tw2, by rw [e2]; exact er3⟩ (fun i σ Hc hi3 ⟨Tc, o, e, fc, tc, rc⟩ => ?_) (fun σ Hc ⟨Tc, o, e, fc, tc, rc⟩ => ?_)⟩
            · subst e
              obtain ⟨w3, r1, r2⟩ := rounds_succ (k := 3 - (i + 1)) (by rw [show 3 - (i + 1) + 1 = 3 - i from by omega]; exact rc)
              refine ⟨_, rfl, Nat.zero_le _, fun L hL => ?_⟩
              (generalize hz : upd Hc L _ = H4; have s4 : Same Hc H4 := (by rw [← hz]; exact same_new hL); have h4 : H4 L = some _ := (by rw [← hz]; exact upd_same); clear hz)
              exact ⟨d, L, Tc, [], [], w3, rfl, tc.same s4, len_ne fc.len tne, by rw [fc.len]; exact tl, h4, .nil, tc.hs.not hL, r1, fun H5 T5 f5 t5 e5 => ⟨T5, _, rfl, (fc.same s4).trans f5, t5, by rw [e5]; exact r2⟩⟩
            · subst e
              have e : wsT Tc = w2 := by
                have : M.rounds 0 (wsT Tc) = some w2 := rc
                exact Option.some.inj this
              rw [← e] at ea2
              obtain ⟨j, a3, hj, en⟩ := at_T ea2
              have hh3 := tc.hs.at_ _ (List.mem_of_getElem? hj)
              have hg := tc.get hj
              rw [en] at hg
              exact ⟨_, rfl, _, rfl, d, .ref a3.p, rfl, hg, a3.p, a3.dx, _, rfl, hh3.ob, no_is_settled _ _, a3, h3, rfl, hh3, k Hc Tc fc tc e⟩
end
end Wd
/-! ## P28 -/
set_option Elab.async false
set_option linter.all false
set_option maxRecDepth 100000
set_option maxHeartbeats 400000
namespace Wd
open PySem PySem.Spec PyProof.Rows L2 PySem.W PySem.SeqAt
def spPlaceOf (K : PySem.W.Frag) : Sp := fun vs H Q _ => ∃ (a : HA) (h : M.Hs), vs = [.ref a.p] ∧ HouseAt K H a h ∧ ∀ v H', Same H H' → Dp K H' v (epD h.epoch (M.last h)) → Q v H'
def spLates (K : PySem.W.Frag) : Sp := fun vs H Q _ => ∃ (a : HA) (h : M.Hs), vs = [.ref a.p] ∧ HouseAt K H a h ∧ ∀ D H', H D = none → Same H H' → H' D = some (.lst ((M.lates h.row).map fun k => V.int ((k + 1 : Nat) : Int))) → Q (.ref D) H'
theorem ints_eq : ∀ {ws : List V} {r : List Nat}, Paired (fun v k => v = V.int ((k + 1 : Nat) : Int)) ws r → ws = r.map fun k => V.int ((k + 1 : Nat) : Int)
  | _, _, .nil => rfl
  | _, _, .cons h t => by rw [h, ints_eq t]; rfl
theorem last_cons (r : M.Row) : ((0, 0) :: r.map (·.1) : List M.Pl)[r.length]? = some (M.lastOf r) := by
  cases r with
  | nil => rfl
  | cons t r =>
    obtain ⟨u, e1, e2⟩ := lastOf_at (t :: r) (by simp)
    rw [show (t :: r).length = ((t :: r).length - 1) + 1 from rfl, List.getElem?_cons_succ, List.getElem?_map, e1, e2]; rfl
section
variable {P : Program} {w : World} {K : PySem.W.Frag} {mg : Str → Option Value} {base : Heap}
theorem ok_law_place (T : Txt w K mg) : Df P w K mg base 2 (He.ga K "_law_place") ["_law_house"] (spPlaceOf K) := by
  obtain ⟨fd_m_epoch, G_m_epoch, b_m_epoch, kp_m_epoch⟩ := ok_m_epoch (P := P) (w := w) (base := base) T
  obtain ⟨fd_m_row, G_m_row, b_m_row, kp_m_row⟩ := ok_m_row (P := P) (w := w) (base := base) T
  refine df_mk T.f_law_place sc_law_place (fun vs H Q E h => ?_) (fun _ _ _ _ _ _ us hl => match us, hl with | [_], _ => rfl) (fun cdv A outer s H vs Q E hr h => ?_)
  · obtain ⟨a, h, rfl, _⟩ := h
    rfl
  · obtain ⟨a, h, rfl, hh, k⟩ := h
    refine ⟨_, (pss_one (ps_ret (pe_tup (pa_cons (pe_meth0 (pv 0) T.cl T.me_epoch G_m_epoch (hr.mono (by decide)) b_m_epoch .nil pass0) (pa_cons (pe_ix (kIxL rfl) (pe_op op_cat (pe_lst (pa_cons (pe_tup (pa_cons pe_int (pa_cons pe_int pa_nil))) pa_nil)) (pe_lc (own := [("_law_thing", 1)]) (g := gName 1) rfl sc_law_place.nd (pi_list (pe_meth0 (pv 0) T.cl T.me_row G_m_row (hr.mono (by decide)) b_m_row .nil pass0)) (blkOk_by (own := [("_law_thing", 1)]) (N := ["_law_house", "_law_thing"]) (sc := defScope s_law_place) (by decide +kernel)) (fun _ _ _ _ _ => (pg_name (i := 1) sc_law_place.nd rfl (Or.inl rfl))) (fun _ _ _ _ _ => pts_nil) (fun _ _ _ _ _ => (pe_ix (kIxT rfl) (pv 1) pe_int (fun _ _ => rfl))))) (pe_un un_neg pe_int) (fun _ _ => rfl)) pa_nil))))), ?_⟩
    rw [st_law_place]
    refine ⟨_, rfl, _, _, _, rfl, hh.ob, no_epoch _ _, a, h, rfl, hh, by show 2 ≤ sizeLine; decide, fun t ht => ?_⟩
    (generalize hz : upd H t _ = H1; have s1 : Same H H1 := (by rw [← hz]; exact same_new ht); have h1 : H1 t = some _ := (by rw [← hz]; exact upd_same); clear hz)
    refine ⟨by show 1 ≤ sizeLine; decide, fun l hl => ?_⟩
    (generalize hz : upd H1 l _ = H2; have s2 : Same H1 H2 := (by rw [← hz]; exact same_new hl); have h2 : H2 l = some _ := (by rw [← hz]; exact upd_same); clear hz)
    have hh2 := (hh.same s1).same s2
    refine ⟨_, rfl, _, _, _, rfl, hh2.ob, no_row _ _, a, h, rfl, hh2, fun D H3 ⟨nD, s3, ws, eD, dD⟩ => ?_⟩
    have hlen := pd_len dD
    refine ⟨D, rfl, ⟨_, SqL.of eD⟩, lc_any (fun t => some t.1) (fun H v (q : M.Pl) => Dp K H v (plD q)) (goes_list (SqL.of eD) dD) (fun k h => Dp.kp k.kp _ _ (noL_pl _) h) (Nat.le_trans hh.rl (by decide)) (fun x t H4 Qy Qn s4 f1 m1 ky kn => ?_) (fun D4 ws4 H4 hD4 s4 hw4 hp4 => ?_)⟩
    · have f2 := Dp.kp (Kp.of s4) _ _ (noL_th _) f1
      obtain ⟨b, y, z, rfl, ht, g1, g2⟩ := th_parts f2
      exact ⟨rfl, _, rfl, b, _, _, _, rfl, rfl, ht, at_of (j := 0) rfl rfl, ky _ _ _ rfl (Same.refl _) g1⟩
    have hp5 : Ds K plD H4 ws4 (h.row.map (·.1)) := by rw [← List.filterMap_eq_map]; exact hp4
    have hl5 := pd_len hp5
    rw [List.length_map] at hl5
    have hrl := hh.rl
    refine ⟨l, D4, _, _, rfl, rfl, s4 _ _ (s3 _ _ h2), hw4, Nat.le_trans (show 1 + ws4.length ≤ 1001 by omega) (by decide), fun p hp => ?_⟩
    (generalize hz : upd H4 p _ = H5; have s5 : Same H4 H5 := (by rw [← hz]; exact same_new hp); have h5 : H5 p = some _ := (by rw [← hz]; exact upd_same); clear hz)
    have hp6 : Ds K plD H5 ([V.ref t] ++ ws4) ((0, 0) :: h.row.map (·.1)) := .cons (pl_mk (p := (0, 0)) (SqT.of ((s2.trans (s3.trans (s4.trans s5))) _ _ h1))) (hp5.kp (Kp.of s5) noL_pl)
    obtain ⟨x, g1, g2⟩ := pd_get2 hp6 (last_cons h.row)
    refine ⟨_, rfl, p, _, _, _, rfl, rfl, SqL.of h5, atI_end (by rw [List.length_append, hl5]; show ([V.ref t] ++ ws4)[1 + h.row.length - 1]? = some x; rw [Nat.add_sub_cancel_left]; exact g1), by show 2 ≤ sizeLine; decide, fun u hu => ?_⟩
    refine k _ _ ((s1.trans s2).trans (s3.trans (s4.trans (s5.trans (same_new hu))))) (.tup (SqT.of upd_same) (.cons (.int _) (.cons (Dp.kp (Kp.of (same_new hu)) _ _ (noL_pl _) g2) .nil)))
theorem ok_law_lates (T : Txt w K mg) : Df P w K mg base 2 (He.ga K "_law_lates") ["_law_house"] (spLates K) := by
  obtain ⟨fd_m_row, G_m_row, b_m_row, kp_m_row⟩ := ok_m_row (P := P) (w := w) (base := base) T
  refine df_mk T.f_law_lates sc_law_lates (fun vs H Q E h => ?_) (fun _ _ _ _ _ _ us hl => match us, hl with | [_], _ => rfl) (fun cdv A outer s H vs Q E hr h => ?_)
  · obtain ⟨a, h, rfl, _⟩ := h
    rfl
  · obtain ⟨a, h, rfl, hh, k⟩ := h
    refine ⟨_, (pss_one (ps_ret (pe_lc (own := [("_law_place_here", 1), ("_law_entry", 2)]) (g := gTup K 2 (gCons (gName 1) (gCons (gName 2) gNil))) rfl sc_law_lates.nd (pi_list (pe_meth0 (pv 0) T.cl T.me_row G_m_row (hr.mono (by decide)) b_m_row .nil pass0)) (blkOk_by (own := [("_law_place_here", 1), ("_law_entry", 2)]) (N := ["_law_house", "_law_place_here", "_law_entry"]) (sc := defScope s_law_lates) (by decide +kernel)) (fun _ _ _ _ _ => (kTup rfl rfl (pgs_cons (pg_name (i := 1) sc_law_lates.nd rfl (Or.inl rfl)) (pgs_cons (pg_name (i := 2) sc_law_lates.nd rfl (Or.inl rfl)) pgs_nil)))) (fun _ _ _ _ _ => (pts_one (PW.pt (pw_and (pt_cmpR op_eq (pe_ix (kIxT rfl) (pv 2) pe_int (fun _ _ => rfl)) pe_str (nomark _)) (pw_and1 (pt_cmpR op_eq (pe_ix (kIxT rfl) (pv 2) pe_int (fun _ _ => rfl)) pe_str (nomark _))))))) (fun _ _ _ _ _ => (pe_ix (kIxT rfl) (pv 2) pe_int (fun _ _ => rfl)))))), ?_⟩
    rw [st_law_lates]
    refine ⟨_, rfl, _, _, _, rfl, hh.ob, no_row _ _, a, h, rfl, hh, fun D H3 ⟨nD, s3, ws, eD, dD⟩ => ?_⟩
    refine ⟨D, rfl, ⟨_, SqL.of eD⟩, lc_any (fun t => match t.2 with
      | .late k => some k
      | _ => none) (fun _ v (k : Nat) => v = V.int ((k + 1 : Nat) : Int)) (goes_list (SqL.of eD) dD) (fun _ h => h) (Nat.le_trans hh.rl (by decide)) (fun x t H4 Qy Qn s4 f1 m1 ky kn => ?_) (fun D4 ws4 H4 hD4 s4 hw4 hp4 => ?_)⟩
    · have f2 := Dp.kp (Kp.of s4) _ _ (noL_th _) f1
      obtain ⟨b, y, z, rfl, ht, g1, g2⟩ := th_parts f2
      obtain ⟨pl, en⟩ := t
      obtain ⟨ea, rfl, hparts⟩ := en_parts g2
      refine ⟨b, _, rfl, ht, rfl, _, _, rfl, _, _, rfl, rfl, rfl, ?_⟩
      rcases hparts with ⟨he, ha⟩ | ⟨he, ha⟩ | ⟨j, b2, he, ha, hb⟩
      · have he : en = .early := he
        subst he
        refine ⟨_, rfl, ea, _, _, _, rfl, rfl, ha, at_of (j := 0) rfl rfl, rfl, false, bF (by decide +kernel), iteF (iteF (kn rfl _ (Same.refl _)))⟩
      · have he : en = .new := he
        subst he
        refine ⟨_, rfl, ea, _, _, _, rfl, rfl, ha, at_of (j := 0) rfl rfl, rfl, false, bF (by decide +kernel), iteF (iteF (kn rfl _ (Same.refl _)))⟩
      · have he : en = .late j := he
        subst he
        refine ⟨_, rfl, ea, _, _, _, rfl, rfl, ha, at_of (j := 0) rfl rfl, rfl, true, bT rfl, iteT ?_⟩
        refine ⟨_, rfl, ea, _, _, _, rfl, rfl, ha, at_of (j := 1) rfl rfl, rfl, true, bT rfl, iteT ?_⟩
        exact ⟨_, rfl, ea, _, _, _, rfl, rfl, ha, at_of (j := 2) rfl rfl, ky _ _ _ rfl (Same.refl _) rfl⟩
    · refine k D4 H4 (s3.free hD4) (s3.trans s4) ?_
      rw [hw4, ints_eq hp4]; rfl
end
end Wd
/-! ## P29 -/
set_option Elab.async false
set_option linter.all false
set_option maxRecDepth 100000
set_option maxHeartbeats 400000
namespace Wd
open PySem PySem.Spec PyProof.Rows L2 PySem.W PySem.SeqAt
/-! ### a comprehension by an invariant of the heap -/
theorem lc_inv {J : It} {H0 : Hp} {g : TG} {tt : TT} {te : TE} {vs : List Nat} {σ : L2.St} {Q : Addr → Hp → Prop} (n : Nat) (Iv : Addr → Nat → Hp → Prop)
    (h0 : ∀ D, H0 D = none → Iv D 0 (upd H0 D (.lst [])))
    (hgo : ∀ D i H, i < n → Iv D i H → J.go i H) (hst : ∀ D H, Iv D n H → J.stop n H)
    (step : ∀ D i H x H', H0 D = none → i < n → Iv D i H → J.yld i H x H' → g x (wipe σ vs) H' fun σ2 H2 => wipe σ2 vs = wipe σ vs ∧ tt σ2 H2 fun b H3 =>
      if b = true then te σ2 H3 fun y H4 => ∃ acc, H4 D = some (.lst acc) ∧ acc.length < sizeLine ∧ Iv D (i + 1) (upd H4 D (.lst (acc ++ [y]))) else Iv D (i + 1) H3)
    (hd : ∀ D H, H0 D = none → Iv D n H → Q D H) :
    ∀ D, H0 D = none → ∃ W : Nat → Nat → Hp → Prop, (∃ m, W 0 m (upd H0 D (.lst []))) ∧ ∀ i m H, W i m H →
      (J.stop i H ∧ Q D H) ∨ (J.go i H ∧ ∃ Nx : Hp → Prop, (∀ H', Nx H' → ∃ m', m' < m ∧ W (i + 1) m' H') ∧ ∀ x H', J.yld i H x H' → g x (wipe σ vs) H' fun σ2 H2 => wipe σ2 vs = wipe σ vs ∧ tt σ2 H2 fun b H3 =>
        if b = true then te σ2 H3 fun y H4 => ∃ acc, H4 D = some (.lst acc) ∧ acc.length < sizeLine ∧ Nx (upd H4 D (.lst (acc ++ [y]))) else Nx H3) := by
  intro D hD
  refine ⟨fun i m H => m = n - i ∧ i ≤ n ∧ Iv D i H, ⟨_, rfl, Nat.zero_le _, h0 D hD⟩, ?_⟩
  rintro i m H ⟨rfl, hi, iv⟩
  by_cases hlt : i < n
  · exact .inr ⟨hgo D i H hlt iv, fun H' => Iv D (i + 1) H', fun H' iv' => ⟨n - (i + 1), by omega, rfl, hlt, iv'⟩, fun x H' y => step D i H x H' hD hlt iv y⟩
  · have e : i = n := by omega
    subst e
    exact .inl ⟨hst D H iv, hd D H hD iv⟩
theorem merge_new : ∀ (kvs acc : List (Key × V)), (acc ++ kvs).Pairwise (fun a b => a.1 ≠ b.1) → mergeK acc kvs = acc ++ kvs
  | [], acc, _ => by rw [List.append_nil]; rfl
  | kv :: r, acc, h => by
    have hn : (acc.any fun q => decide (q.1 = kv.1)) = false := by
      rw [List.any_eq_false]
      intro q m
      have := (List.pairwise_append.mp h).2.2 q m kv List.mem_cons_self
      simpa using this
    show mergeK (putK acc kv.1 kv.2) r = _
    have e : putK acc kv.1 kv.2 = acc ++ [kv] := by unfold putK; rw [hn]; rfl
    rw [e, merge_new r (acc ++ [kv]) (by rw [List.append_assoc]; exact h), List.append_assoc]; rfl
/-- all but the pool stands -/
structure Mv (H H' : Hp) (pl : Addr) : Prop where
  keep : ∀ b o, b ≠ pl → H b = some o → H' b = some o
  p0 : PoolAt H pl
  pool : PoolAt H' pl
theorem Mv.refl {H : Hp} {pl : Addr} (h : PoolAt H pl) : Mv H H pl := ⟨fun _ _ _ e => e, h, h⟩
theorem Mv.trans {H H1 H2 : Hp} {pl : Addr} (a : Mv H H1 pl) (b : Mv H1 H2 pl) : Mv H H2 pl := ⟨fun x o n e => b.keep x o n (a.keep x o n e), a.p0, b.pool⟩
theorem Mv.of {H H' : Hp} {pl : Addr} (h : PoolAt H pl) (s : Same H H') : Mv H H' pl := ⟨fun _ _ _ e => s _ _ e, h, by obtain ⟨c, z, e⟩ := h; exact ⟨c, z, s _ _ e⟩⟩
theorem Mv.draw {H : Hp} {pl : Addr} (h : PoolAt H pl) (c s : Int) : Mv H (upd H pl (.lst [.int c, .int s])) pl := ⟨fun b o n e => by rw [upd_ne n]; exact e, h, c, s, upd_same⟩
theorem Mv.free {H H' : Hp} {pl b : Addr} (m : Mv H H' pl) (e : H' b = none) : H b = none := by
  by_cases c : b = pl
  · obtain ⟨x, y, q⟩ := m.pool
    rw [← c, e] at q; cases q
  · cases h : H b with
    | none => rfl
    | some o => rw [m.keep b o c h] at e; cases e
theorem Mv.kp {H H' : Hp} {pl : Addr} (m : Mv H H' pl) : Kp H H' := by
  obtain ⟨x, y, q⟩ := m.p0
  exact ⟨fun b xs e => m.keep _ _ (fun z => by rw [z, q] at e; cases e) e, fun b o xs e => m.keep _ _ (fun z => by rw [z, q] at e; cases e) e⟩
/-- houses that are all new move on -/
theorem Mv.frs {H H1 H2 : Hp} {pl : Addr} {T T' : Tn} (m : Mv H H1 pl) (f : Frs H1 H2 T T') (n : ∀ q ∈ T, ∀ b ∈ own q.1, H b = none) : Mv H H2 pl ∧ ∀ q ∈ T', ∀ b ∈ own q.1, H b = none := by
  obtain ⟨c, s, e⟩ := m.p0
  refine ⟨⟨fun b o nb e => f.keep b o (m.keep b o nb e) fun q mq z => (by rw [n q mq b z] at e; cases e), m.p0, ?_⟩, fun q mq b z => ?_⟩
  · obtain ⟨c1, s1, e1⟩ := m.pool
    exact ⟨c1, s1, f.keep _ _ e1 fun q mq z => by rw [n q mq pl z] at e; cases e⟩
  · rcases f.own q mq b z with ⟨r, mr, zr⟩ | z2
    · exact n r mr b zr
    · exact m.free z2
theorem Town.draw {K : PySem.W.Frag} {H H1 : Hp} {d pl : Addr} {T : Tn} (t : Town K H d T) (m : Mv H H1 pl) (no : ∀ q ∈ T, pl ∉ own q.1) : Town K H1 d T := by
  obtain ⟨c, s, e⟩ := m.p0
  refine ⟨m.keep _ _ (fun z => by rw [← z, t.dict] at e; cases e) t.dict, t.hs.kept m.kp fun q mq b mb o eo => m.keep _ _ (fun z => no q mq (by rw [← z]; exact mb)) eo, t.no⟩
end Wd
/-! ## P30 -/
set_option Elab.async false
set_option linter.all false
set_option maxRecDepth 100000
set_option maxHeartbeats 400000
namespace Wd
open PySem PySem.Spec PyProof.Rows L2 PySem.W PySem.SeqAt
theorem nm0 : ("a" : Str) = nm 0 := by decide +kernel
theorem mem0 : [V.str "a", V.str "b", V.str "c"] = (M.mems 0).map fun i => V.str (nm i) := by kernel_rfl
theorem mem1 : [V.str "a", V.str "b", V.str "c", V.str "d", V.str "e"] = (M.mems 1).map fun i => V.str (nm i) := by kernel_rfl
theorem mems_ok (d : Nat) : MemOk (M.mems d) := by
  match d with
  | 0 => exact ⟨by decide, by decide, by decide, by decide⟩
  | n + 1 => exact ⟨show [0, 1, 2, 3, 4].Nodup by decide, by show 2 ≤ 5; decide, by show 5 ≤ 7; decide, show ∀ i ∈ [0, 1, 2, 3, 4], i < 26 by decide⟩
theorem pairs_of {K : PySem.W.Frag} {H : Hp} : ∀ {ws : List V} {T : Tn}, Paired (fun v (q : HA × M.Hs) => ∃ t, v = V.ref t ∧ SqT K H t [.str (nm q.2.name), .ref q.1.p]) ws T → ∃ ps : List Addr, ws = ps.map V.ref ∧ Paired (fun p (kv : Key × V) => SqT K H p [kV kv.1, kv.2]) ps (kvT T)
  | _, _, .nil => ⟨[], rfl, .nil⟩
  | _, _, .cons h t => by
    obtain ⟨p, rfl, q⟩ := h
    obtain ⟨ps, e, r⟩ := pairs_of t
    exact ⟨p :: ps, by rw [e]; rfl, .cons q r⟩
theorem kvT_pw {T : Tn} (h : (nsT T).Nodup) : (kvT T).Pairwise (fun a b => a.1 ≠ b.1) := by
  unfold kvT nsT at *
  rw [List.pairwise_map]
  have h2 : (T.map fun q => q.2.name).Pairwise (· ≠ ·) := h
  rw [List.pairwise_map] at h2
  exact h2.imp fun n z => n (nK_inj z)
structure MkIn (K : PySem.W.Frag) (H0 : Hp) (mem : List Nat) (D : Addr) (i : Nat) (Hc : Hp) (T : Tn) (ws : List V) : Prop where
  s : Same H0 Hc
  l : Hc D = some (.lst ws)
  p : Paired (fun v (q : HA × M.Hs) => ∃ t, v = V.ref t ∧ SqT K Hc t [.str (nm q.2.name), .ref q.1.p]) ws T
  hs : ∀ q ∈ T, HouseAt K Hc q.1 q.2
  ap : T.Pairwise fun q r => ∀ b ∈ own q.1, b ∉ own r.1
  w : wsT T = (mem.take i).map fun j => M.fresh0 j mem
  new : ∀ q ∈ T, ∀ b ∈ own q.1, H0 b = none ∧ b ≠ D
theorem Town.getA {K : PySem.W.Frag} {H : Hp} {d : Addr} {T : Tn} {i : Nat} {a : HA} {h : M.Hs} (t : Town K H d T) (hi : T[i]? = some (a, h)) (e : h.name = 0) : DGet H d (.str "a") (some (.ref a.p)) := by
  have := t.get hi
  rw [e, ← nm0] at this
  exact this
theorem started_parts {d t : Nat} {ws : M.Ws} (e : M.started d t = some ws) : ∃ w1 b w2, M.calmed ((M.mems d).map fun i => M.fresh0 i (M.mems d)) 0 = some (w1, b) ∧ M.putRounds 0 .early t w1 = some w2 ∧ M.round w2 [] = some ws := by
  unfold M.started at e
  cases c1 : M.calmed ((M.mems d).map fun i => M.fresh0 i (M.mems d)) 0 with
  | none => rw [c1] at e; cases e
  | some q =>
    obtain ⟨w1, b⟩ := q
    rw [c1] at e
    have e : (match M.putRounds 0 .early t w1 with
      | none => none
      | some ws => M.round ws []) = some ws := e
    cases c2 : M.putRounds 0 .early t w1 with
    | none => rw [c2] at e; cases e
    | some w2 => rw [c2] at e; exact ⟨w1, b, w2, rfl, c2, e⟩
theorem putRounds_parts {x k : Nat} {en : M.En} {ws w2 : M.Ws} (e : M.putRounds x en (k + 1) ws = some w2) : ∃ h h' ls w1, M.at_ x ws = some h ∧ M.put h en = some (h', ls) ∧ M.round (M.setAt x h' ws) ls = some w1 ∧ M.putRounds x en k w1 = some w2 := by
  rw [M.putRounds] at e
  cases c1 : M.at_ x ws with
  | none => rw [c1] at e; cases e
  | some h =>
    rw [c1] at e
    have e : (match M.put h en with
      | none => none
      | some (h', ls) => match M.round (M.setAt x h' ws) ls with
        | none => none
        | some ws => M.putRounds x en k ws) = some w2 := e
    cases c2 : M.put h en with
    | none => rw [c2] at e; cases e
    | some q =>
      obtain ⟨h', ls⟩ := q
      rw [c2] at e
      have e : (match M.round (M.setAt x h' ws) ls with
        | none => none
        | some ws => M.putRounds x en k ws) = some w2 := e
      cases c3 : M.round (M.setAt x h' ws) ls with
      | none => rw [c3] at e; cases e
      | some w1 => rw [c3] at e; exact ⟨h, h', ls, w1, rfl, c2, c3, e⟩
structure Stg (K : PySem.W.Frag) (H Hc : Hp) (pl dd : Addr) (Tc : Tn) : Prop where
  m : Mv H Hc pl
  t : Town K Hc dd Tc
  n : ∀ q ∈ Tc, ∀ b ∈ own q.1, H b = none
  l : Tc.length ≤ 26
  e : Tc ≠ []
theorem Stg.same {K : PySem.W.Frag} {H H1 H2 : Hp} {pl dd : Addr} {T : Tn} (g : Stg K H H1 pl dd T) (s : Same H1 H2) : Stg K H H2 pl dd T := ⟨g.m.trans (Mv.of g.m.pool s), g.t.same s, g.n, g.l, g.e⟩
theorem Stg.frs {K : PySem.W.Frag} {H H1 H2 : Hp} {pl dd : Addr} {T T' : Tn} (g : Stg K H H1 pl dd T) (f : Frs H1 H2 T T') (t : Town K H2 dd T') : Stg K H H2 pl dd T' :=
  ⟨(g.m.frs f g.n).1, t, (g.m.frs f g.n).2, by rw [f.len]; exact g.l, len_ne f.len g.e⟩
theorem Stg.draw {K : PySem.W.Frag} {H H1 : Hp} {pl dd : Addr} {T : Tn} (g : Stg K H H1 pl dd T) (c s : Int) : Stg K H (upd H1 pl (.lst [.int c, .int s])) pl dd T := by
  have md := Mv.draw g.m.pool c s
  refine ⟨g.m.trans md, g.t.draw md fun q mq z => ?_, g.n, g.l, g.e⟩
  have := g.n q mq pl z
  obtain ⟨x, y, e⟩ := g.m.p0
  rw [this] at e; cases e
def spStarted (K : PySem.W.Frag) : Sp := fun vs H Q _ => ∃ pl, vs = [.ref pl] ∧ PoolAt H pl ∧ (∀ d t, d < 2 → t < 4 → ∃ ws, M.started d t = some ws) ∧
  ∀ d t ws H' dd T', d < 2 → t < 4 → M.started d t = some ws → wsT T' = ws → Town K H' dd T' → Mv H H' pl → H dd = none → (∀ q ∈ T', ∀ b ∈ own q.1, H b = none) → T'.length ≤ 26 → Q (.ref dd) H'
section
variable {P : Program} {w : World} {K : PySem.W.Frag} {mg : Str → Option Value} {base : Heap}
theorem ok_law_started (T : Txt w K mg) : Df P w K mg base 12 (He.ga K "_law_started") ["_law_pool_here"] (spStarted K) := by
  obtain ⟨fd_law_take, G_law_take, b_law_take, kp_law_take⟩ := ok_law_take (P := P) (w := w) (base := base) T
  obtain ⟨fd_law_calmed, G_law_calmed, b_law_calmed, kp_law_calmed⟩ := ok_law_calmed (P := P) (w := w) (base := base) T
  obtain ⟨fd_law_round, G_law_round, b_law_round, kp_law_round⟩ := ok_law_round (P := P) (w := w) (base := base) T
  obtain ⟨fd_m_put, G_m_put, b_m_put, kp_m_put⟩ := ok_m_put (P := P) (w := w) (base := base) T
  obtain ⟨fd_m_init, ds_init, G_m_init, b_init0, d_init0⟩ := ok_m_init (P := P) (w := w) (base := base) T
  refine df_mk T.f_law_started sc_law_started (fun vs H Q E h => ?_) (fun _ _ _ _ _ _ us hl => match us, hl with | [_], _ => rfl) (fun cdv A outer s H vs Q E hr h => ?_)
  · obtain ⟨pl, rfl, _⟩ := h
    rfl
  · obtain ⟨pl, rfl, hpl, hS, k⟩ := h
    refine ⟨_, (pss_cons (ps_set (i := 1) sc_law_started.nd rfl (Or.inr rfl) (pe_ix (kIxL rfl) (pe_lst (pa_cons (pe_tup (pa_cons pe_str (pa_cons pe_str (pa_cons pe_str pa_nil)))) (pa_cons (pe_tup (pa_cons pe_str (pa_cons pe_str (pa_cons pe_str (pa_cons pe_str (pa_cons pe_str pa_nil)))))) pa_nil))) (pe_call G_law_take (hr.mono (by decide)) rfl T.g_law_take kp_law_take b_law_take .nil pass0 (pa_cons (pv 0) (pa_cons pe_int pa_nil))) (fun _ _ => rfl))) (pss_cons (ps_set (i := 2) sc_law_started.nd rfl (Or.inl rfl) (pe_callTy (call_dictP rfl) (by rfl) T.b_dict (by decide +kernel) (pa_cons (pe_lc (own := [("_law_name", 4)]) (g := gName 4) rfl sc_law_started.nd (pi_tup (pv 1)) (blkOk_by (own := [("_law_name", 4)]) (N := ["_law_pool_here", "_law_members", "_law_houses", "_law_turn", "_law_name"]) (sc := defScope s_law_started) (by decide +kernel)) (fun _ _ _ _ _ => (pg_name (i := 4) sc_law_started.nd rfl (Or.inl rfl))) (fun _ _ _ _ _ => pts_nil) (fun _ _ _ _ _ => (pe_tup (pa_cons (pv 4) (pa_cons (pe_make T.mkr G_m_init (hr.mono (by decide)) rfl T.g_House b_init0 d_init0 pass0 (pa_cons (pv 4) (pa_cons (pv 1) pa_nil))) pa_nil))))) pa_nil))) (pss_cons (ps_expr (pe_call G_law_calmed (hr.mono (by decide)) rfl T.g_law_calmed kp_law_calmed b_law_calmed .nil pass0 (pa_cons (pv 2) (pa_cons pe_str pa_nil)))) (pss_cons (ps_for PassesOwn.never rfl (pi_range1 rfl T.b_range (pa_cons (pe_call G_law_take (hr.mono (by decide)) rfl T.g_law_take kp_law_take b_law_take .nil pass0 (pa_cons (pv 0) (pa_cons pe_int pa_nil))) pa_nil)) (pg_name (i := 3) sc_law_started.nd rfl (Or.inl rfl)) (pss_one (ps_expr (pe_call G_law_round (hr.mono (by decide)) rfl T.g_law_round kp_law_round b_law_round .nil pass0 (pa_cons (pv 2) (pa_cons (pe_meth (pe_dget (hu_of hr) (pv 2) pe_str (fun _ _ => rfl)) T.cl T.me_put G_m_put (hr.mono (by decide)) b_m_put .nil pass0 (pa_cons (pe_tup (pa_cons pe_str (pa_cons pe_str pa_nil))) pa_nil)) pa_nil)))))) (pss_cons (ps_expr (pe_call G_law_round (hr.mono (by decide)) rfl T.g_law_round kp_law_round b_law_round .nil pass0 (pa_cons (pv 2) (pa_cons (pe_lst pa_nil) pa_nil)))) (pss_one (ps_ret (pv 2)))))))), ?_⟩
    rw [st_law_started]
    refine ⟨by show 3 ≤ sizeLine; decide, fun t1 ht1 => ?_⟩
    (generalize hz : upd H t1 _ = H1; have s1 : Same H H1 := (by rw [← hz]; exact same_new ht1); have h1 : H1 t1 = some _ := (by rw [← hz]; exact upd_same); clear hz)
    refine ⟨by show 5 ≤ sizeLine; decide, fun t2 ht2 => ?_⟩
    (generalize hz : upd H1 t2 _ = H2; have s2 : Same H1 H2 := (by rw [← hz]; exact same_new ht2); have h2 : H2 t2 = some _ := (by rw [← hz]; exact upd_same); clear hz)
    refine ⟨by show 2 ≤ sizeLine; decide, fun l hl => ?_⟩
    (generalize hz : upd H2 l _ = H3; have s3 : Same H2 H3 := (by rw [← hz]; exact same_new hl); have h3 : H3 l = some _ := (by rw [← hz]; exact upd_same); clear hz)
    have s03 := s1.trans (s2.trans s3)
    have mv3 := Mv.of hpl s03
    have hpl3 := mv3.pool
    refine ⟨_, rfl, pl, 2, rfl, by decide, by decide, hpl3, fun d c s hd => ?_⟩
    have mvd := Mv.draw hpl3 c s
    generalize upd H3 pl (.lst [.int c, .int s]) = H4 at *
    have mv4 := mv3.trans mvd
    have nlp : l ≠ pl := fun z => by
      obtain ⟨x, y, q⟩ := hpl
      have := (s1.trans s2) _ _ q
      rw [← z, hl] at this; cases this
    have h14 := mvd.kp.1 _ _ ((s2.trans s3) _ _ h1)
    have h24 := mvd.kp.1 _ _ (s3 _ _ h2)
    have h34 := mvd.keep _ _ nlp h3
    obtain ⟨m, em, hm⟩ : ∃ m, [V.ref t1, V.ref t2][d]? = some (V.ref m) ∧ SqT K H4 m ((M.mems d).map fun i => V.str (nm i)) := by
      match d, hd with
      | 0, _ => exact ⟨t1, rfl, by rw [← mem0]; exact SqT.of h14⟩
      | 1, _ => exact ⟨t2, rfl, by rw [← mem1]; exact SqT.of h24⟩
    refine ⟨l, _, _, _, rfl, rfl, SqL.of h34, at_of (j := d) rfl em, ?_⟩
    simp only [List.set_cons_succ, List.set_cons_zero]
    clear h14 h24 h34 nlp h1 h2 h3 s03 mv3 hpl3 s1 s2 s3 hl ht1 ht2 em mvd
    have mo := mems_ok d
    generalize hmem : M.mems d = mem at *
    have hml : mem.length ≤ 7 := mo.hi
    have ml : ∀ i, i < mem.length → ∃ j, mem[i]? = some j := fun i hi => ⟨mem[i], List.getElem?_eq_getElem hi⟩
    refine ⟨_, rfl, m, rfl, ⟨_, hm⟩, lc_inv mem.length (fun D i Hc => ∃ Tc ws, MkIn K H4 mem D i Hc Tc ws) (fun D hD => ⟨[], [], same_new hD, upd_same, .nil, (fun _ m => nomatch m), .nil, (by rw [List.take_zero]; rfl), (fun _ m => nomatch m)⟩)
      (fun D i Hc hi ⟨Tc, ws, g⟩ => ?_) (fun D Hc ⟨Tc, ws, g⟩ => ⟨_, (Kp.of g.s).sqt hm, by rw [List.length_map]; exact Nat.le_refl _⟩) (fun D i Hx x Hc hD hi ⟨Tc, ws, g⟩ y => ?_) (fun D Hc hD ⟨Tc, ws, g⟩ => ?_)⟩
    · obtain ⟨j, hj⟩ := ml i hi
      exact ⟨_, V.str (nm j), (Kp.of g.s).sqt hm, by rw [List.getElem?_map, hj]; rfl⟩
    · obtain ⟨e, y⟩ := y
      subst e
      obtain ⟨j, hj⟩ := ml i hi
      have ex := y _ ((Kp.of g.s).sqt hm)
      rw [List.getElem?_map, hj] at ex
      cases ex
      refine ⟨rfl, ?_⟩
      refine ⟨_, rfl, _, rfl, _, rfl, fun p dx hp hdx hne => ?_⟩
      have so : Same Hc (upd (upd Hc dx (.own p)) p (.ins (hC K) dx [])) := (same_new hdx).trans (same_new (by rw [upd_ne hne.symm]; exact hp))
      have hob : (upd (upd Hc dx (.own p)) p (.ins (hC K) dx [])) p = some (.ins (hC K) dx []) := upd_same
      generalize upd (upd Hc dx (.own p)) p (.ins (hC K) dx []) = Hm at *
      refine ⟨p, dx, m, j, mem, rfl, hob, ((Kp.of g.s).trans (Kp.of so)).sqt hm, mo, List.mem_of_getElem? hj, fun H5 a ep kb hh ow => ⟨rfl, by show 2 ≤ sizeLine; decide, fun t ht => ?_⟩⟩
      have s5 : Same Hc H5 := fun b o e => kb b o (fun z => by rw [z, hp] at e; cases e) (so _ _ e)
      (generalize hz : upd H5 t _ = H6; have s6 : Same H5 H6 := (by rw [← hz]; exact same_new ht); have h6 : H6 t = some _ := (by rw [← hz]; exact upd_same); clear hz)
      have sc6 := s5.trans s6
      have l6 := sc6 _ _ g.l
      have hpd := pd_len g.p
      have hwl := congrArg List.length g.w
      unfold wsT at hwl
      rw [List.length_map, List.length_map, List.length_take] at hwl
      refine ⟨ws, l6, Nat.lt_of_le_of_lt (show ws.length ≤ 7 by omega) (by decide), Tc ++ [(a, M.fresh0 j mem)], ws ++ [V.ref t], ?_⟩
      have ownN : ∀ b ∈ own a, Hc b = none := fun b mb => by
        rcases ow b mb with z | z
        · rw [z]; exact hp
        · exact so.free z
      have nD : ∀ q ∈ Tc ++ [(a, M.fresh0 j mem)], D ∉ own q.1 := fun q mq z => by
        rcases List.mem_append.mp mq with m1 | m1
        · exact (g.new q m1 D z).2 rfl
        · rw [List.mem_singleton.mp m1] at z
          have := ownN D z
          rw [g.l] at this; cases this
      have k7 : Kp H6 (upd H6 D (.lst (ws ++ [V.ref t]))) := Kp.lst l6
      have hall : ∀ q ∈ Tc ++ [(a, M.fresh0 j mem)], HouseAt K H6 q.1 q.2 := fun q mq => by
        rcases List.mem_append.mp mq with m1 | m1
        · exact (g.hs q m1).same sc6
        · rw [List.mem_singleton.mp m1]; exact hh.same s6
      refine ⟨same_newer (g.s.trans sc6) hD, upd_same, ?_, fun q mq => (hall q mq).kept k7 fun b mb o e => by rw [upd_ne (fun z => nD q mq (by rw [← z]; exact mb))]; exact e, ?_, ?_, fun q mq b mb => ?_⟩
      · refine pd_app (pd_mono g.p fun v q ⟨t, e, z⟩ => ⟨t, e, k7.sqt ((Kp.of sc6).sqt z)⟩) (.cons ⟨t, rfl, k7.sqt (SqT.of ?_)⟩ .nil)
        rw [h6, ← ep]; rfl
      · rw [List.pairwise_append]
        refine ⟨g.ap, List.pairwise_singleton _ _, fun q mq r mr b mb => ?_⟩
        rw [List.mem_singleton.mp mr]
        intro z
        obtain ⟨o, ho, _⟩ := (g.hs q mq).there b mb
        rw [ownN b z] at ho; cases ho
      · unfold wsT
        rw [List.map_append, take_snoc hj, List.map_append]
        exact congrArg (· ++ _) g.w
      · rcases List.mem_append.mp mq with m1 | m1
        · exact g.new q m1 b mb
        · rw [List.mem_singleton.mp m1] at mb
          exact ⟨g.s.free (ownN b mb), fun z => by have := ownN b mb; rw [z, g.l] at this; cases this⟩
    have gw := g.w
    rw [List.take_length] at gw
    have gn : nsT Tc = mem := by
      have : nsT Tc = (wsT Tc).map (·.name) := by unfold nsT wsT; rw [List.map_map]; rfl
      rw [this, gw, List.map_map]
      show mem.map id = mem
      rw [List.map_id]
    have nd : (nsT Tc).Nodup := by rw [gn]; exact mo.nd
    obtain ⟨ps, rfl, pp⟩ := pairs_of g.p
    refine ⟨D, ps, kvT Tc, rfl, SqL.of g.l, pp, fun dd hdd => ?_⟩
    rw [merge_new (kvT Tc) [] (kvT_pw nd), List.nil_append]
    have nodd : ∀ q ∈ Tc, dd ∉ own q.1 := fun q mq => (g.hs q mq).not hdd
    (generalize hz : upd Hc dd _ = H5; have s5 : Same Hc H5 := (by rw [← hz]; exact same_new hdd); have h5 : H5 dd = some _ := (by rw [← hz]; exact upd_same); clear hz)
    simp only [List.set_cons_succ, List.set_cons_zero]
    have hss : Hss K Hc Tc := ⟨g.hs, g.ap, nd⟩
    have mv5 : Mv H H5 pl := mv4.trans ((Mv.of mv4.pool g.s).trans (Mv.of (Mv.of mv4.pool g.s).pool s5))
    have hdd0 : H dd = none := mv4.free (g.s.free hdd)
    have tl0 : Tc.length = mem.length := by
      have := congrArg List.length gw
      unfold wsT at this
      rw [List.length_map, List.length_map] at this
      exact this
    have tlen : Tc.length ≤ 26 := by omega
    have tne : Tc ≠ [] := fun z => by
      rw [z] at tl0
      have := mo.lo
      have tl0 : 0 = mem.length := tl0
      omega
    have st5 : Stg K H H5 pl dd Tc := ⟨mv5, ⟨h5, hss.same s5, nodd⟩, fun q mq b mb => mv4.free (g.new q mq b mb).1, tlen, tne⟩
    clear mv5 h5 hss s5 nodd pp g mv4 hm
    obtain ⟨ws0, hs0⟩ := hS d 0 hd (by decide)
    obtain ⟨w1, b1, w2, p1, _, _⟩ := started_parts hs0
    rw [hmem, ← gw] at p1
    refine ⟨_, rfl, dd, Tc, 0, w1, b1, (by rw [nm0]; rfl), st5.t, st5.l, p1, fun H6 T6 f6 t6 e6 => ?_⟩
    have st6 := st5.frs f6 t6
    refine ⟨_, rfl, pl, 4, rfl, by decide, by decide, st6.m.pool, fun t c s ht => ?_⟩
    have st7 := st6.draw c s
    generalize upd H6 pl (.lst [.int c, .int s]) = H7 at *
    obtain ⟨ws, hst⟩ := hS d t hd ht
    obtain ⟨w1', b1', w2', p1', p2, p3⟩ := started_parts hst
    rw [hmem, ← gw, p1] at p1'
    cases p1'
    refine ⟨((t : Nat) : Int), rfl, by omega, by omega, for_range (n := t) (fun i σ Hc => ∃ (Tc : Tn) (o : Option V), σ = [some (.ref pl), some (.ref m), some (.ref dd), o, none] ∧ Stg K H Hc pl dd Tc ∧ M.putRounds 0 .early (t - i) (wsT Tc) = some w2')
      ⟨T6, none, rfl, st7, by rw [e6]; exact p2⟩ (fun i σ Hc hi3 ⟨Tc, o, e, gc, rc⟩ => ?_) (fun σ Hc ⟨Tc, o, e, gc, rc⟩ => ?_)⟩
    · subst e
      obtain ⟨h, h', ls, w3, q1, q2, q3, q4⟩ := putRounds_parts (k := t - (i + 1)) (by rw [show t - (i + 1) + 1 = t - i from by omega]; exact rc)
      obtain ⟨j, a, hj, en⟩ := at_T q1
      have hh := gc.t.hs.at_ _ (List.mem_of_getElem? hj)
      refine ⟨_, rfl, _, rfl, dd, .ref a.p, rfl, gc.t.getA hj en, a.p, a.dx, _, rfl, hh.ob, no_put _ _, by show 2 ≤ sizeLine; decide, fun ev hev => ?_⟩
      (generalize hz : upd Hc ev _ = H8; have s8 : Same Hc H8 := (by rw [← hz]; exact same_new hev); have h8 : H8 ev = some _ := (by rw [← hz]; exact upd_same); clear hz)
      have gc8 := gc.same s8
      refine ⟨a, h, h', ls, _, .early, rfl, hh.same s8, .tup (SqT.of h8) (.cons (.str _) (.cons (.str _) .nil)), q2, fun H9 a9 r9 po => ?_⟩
      obtain ⟨wl, el, pl9⟩ := po.l
      obtain ⟨t9, f9⟩ := gc8.t.step hj po.f po.hh (put_name q2)
      have g9 := gc8.frs f9 t9
      rw [← en, setAt_T gc.t.hs.nd hj] at q3
      exact ⟨dd, r9, _, wl, ls, w3, rfl, t9, g9.e, g9.l, el, pl9, new_step gc8.t.hs hj po.new po.nr, by rw [wsT_set]; exact q3, fun H10 T10 f10 t10 e10 => ⟨T10, _, rfl, g9.frs f10 t10, by rw [e10]; exact q4⟩⟩
    · subst e
      have rc : M.putRounds 0 .early 0 (wsT Tc) = some w2' := by rw [show t - t = 0 from Nat.sub_self t] at rc; exact rc
      have e : wsT Tc = w2' := Option.some.inj rc
      refine ⟨_, rfl, Nat.zero_le _, fun L hL => ?_⟩
      (generalize hz : upd Hc L _ = H8; have s8 : Same Hc H8 := (by rw [← hz]; exact same_new hL); have h8 : H8 L = some _ := (by rw [← hz]; exact upd_same); clear hz)
      have gc8 := gc.same s8
      refine ⟨dd, L, Tc, [], [], ws, rfl, gc8.t, gc8.e, gc8.l, h8, .nil, gc.t.hs.not hL, by rw [e]; exact p3, fun H10 T10 f10 t10 e10 => ?_⟩
      have g10 := gc8.frs f10 t10
      exact ⟨_, rfl, k d t ws H10 dd T10 hd ht hst e10 t10 g10.m hdd0 g10.n g10.l⟩
end
end Wd
/-! ## P31 -/
set_option Elab.async false
set_option linter.all false
set_option maxRecDepth 100000
set_option maxHeartbeats 400000
namespace Wd
open PySem PySem.Spec PyProof.Rows L2 PySem.W PySem.SeqAt
def lastS : List Nat → List (List Nat) → List Nat
  | s0, [] => s0
  | _, s :: ss => lastS s ss
theorem chain_snoc : ∀ {s0 : List Nat} {ss : List (List Nat)} {s : List Nat}, Chain s0 ss → (∃ f : Nat → Bool, f 0 = true ∧ s = (lastS s0 ss).filter f) → Chain s0 (ss ++ [s]) ∧ lastS s0 (ss ++ [s]) = s
  | _, [], _, _, h => ⟨⟨h, trivial⟩, rfl⟩
  | _, u :: ss, s, ⟨h1, h2⟩, h => by
    obtain ⟨a, b⟩ := chain_snoc (s0 := u) h2 h
    exact ⟨⟨h1, a⟩, b⟩
theorem lastS_sub : ∀ {s0 : List Nat} {ss : List (List Nat)}, Chain s0 ss → (lastS s0 ss).Sublist s0
  | _, [], _ => List.Sublist.refl _
  | s0, u :: ss, ⟨⟨f, _, e⟩, h2⟩ => by
    have h3 := lastS_sub (s0 := u) h2
    exact h3.trans (by rw [e]; exact List.filter_sublist)
theorem lateRun_snoc : ∀ {k : Nat} {ss : List (List Nat)} {s : List Nat} {ws w1 w2 : M.Ws} {had h1 : M.Had}, M.lateRun k ss ws had = some (w1, h1) → M.lateRun k (ss ++ [s]) ws had = match M.lateStep s (k + ss.length) w1 with
    | none => none
    | some w2 => some (w2, M.hadSet h1 s (k + ss.length + 1))
  | k, [], s, ws, w1, w2, had, h1, e => by
    cases e
    show M.lateRun k [s] ws had = _
    rw [M.lateRun]
    show _ = match M.lateStep s k ws with
      | none => none
      | some w2 => some (w2, M.hadSet had s (k + 1))
    cases M.lateStep s k ws <;> rfl
  | k, u :: ss, s, ws, w1, w2, had, h1, e => by
    rw [M.lateRun] at e
    rw [List.cons_append, M.lateRun]
    cases c : M.lateStep u k ws with
    | none => rw [c] at e; cases e
    | some w3 =>
      rw [c] at e
      have := lateRun_snoc (w2 := w2) (s := s) e
      show M.lateRun (k + 1) (ss ++ [s]) w3 (M.hadSet had u (k + 1)) = _
      rw [this, show k + 1 + ss.length = k + (u :: ss).length from by rw [List.length_cons]; omega]
def hadK (had : M.Had) : List (Key × V) := had.map fun q => (nK q.1, V.int ((q.2 : Nat) : Int))
def had0 (ns : List Nat) : M.Had := ns.map fun i => (i, 0)
/-- one name's number -/
def had1 (had : M.Had) (x n : Nat) : M.Had := had.map fun q => bif Nat.beq x q.1 then (q.1, n) else q
theorem had_step (had : M.Had) (s : List Nat) (x n : Nat) : had1 (M.hadSet had s n) x n = M.hadSet had (s ++ [x]) n := by
  unfold had1 M.hadSet
  rw [List.map_map]
  refine List.map_congr_left fun q _ => ?_
  show (bif Nat.beq x (bif s.any (fun x => Nat.beq x q.1) then (q.1, n) else q).1 then ((bif s.any (fun x => Nat.beq x q.1) then (q.1, n) else q).1, n) else (bif s.any (fun x => Nat.beq x q.1) then (q.1, n) else q)) = bif (s ++ [x]).any (fun x => Nat.beq x q.1) then (q.1, n) else q
  rw [List.any_append]
  cases s.any (fun x => Nat.beq x q.1) <;> cases c : Nat.beq x q.1 <;> simp [c]
theorem had_nil (had : M.Had) (n : Nat) : M.hadSet had [] n = had := by
  unfold M.hadSet
  exact (List.map_congr_left fun q _ => rfl).trans (List.map_id _)
theorem had_put {had : M.Had} {x n : Nat} (h : x ∈ had.map (·.1)) : putK (hadK had) (nK x) (V.int ((n : Nat) : Int)) = hadK (had1 had x n) := by
  have hany : ((hadK had).any fun kv => decide (kv.1 = nK x)) = true := by
    obtain ⟨q, m, e⟩ := List.mem_map.mp h
    rw [List.any_eq_true]
    exact ⟨_, List.mem_map.mpr ⟨q, m, rfl⟩, decide_eq_true (by rw [← e])⟩
  unfold putK
  rw [hany]
  show (hadK had).map _ = _
  unfold hadK had1
  rw [List.map_map, List.map_map]
  refine List.map_congr_left fun q _ => ?_
  show (if nK q.1 = nK x then (nK q.1, V.int ((n : Nat) : Int)) else (nK q.1, V.int ((q.2 : Nat) : Int))) = (nK (bif Nat.beq x q.1 then (q.1, n) else q).1, V.int (((bif Nat.beq x q.1 then (q.1, n) else q).2 : Nat) : Int))
  by_cases c : x = q.1
  · rw [nbt c, if_pos (by rw [c])]; rfl
  · rw [nbf c, if_neg (fun z => c (nK_inj z).symm)]; rfl
theorem hadSet_names (had : M.Had) (s : List Nat) (n : Nat) : (M.hadSet had s n).map (·.1) = had.map (·.1) := by
  unfold M.hadSet
  rw [List.map_map]
  refine List.map_congr_left fun q _ => ?_
  show (bif s.any (fun x => Nat.beq x q.1) then (q.1, n) else q).1 = q.1
  cases s.any (fun x => Nat.beq x q.1) <;> rfl
theorem lock_same {H H' : Hp} {d : Addr} {u : HO} {od : Obj} (hd : H d = some u) (s : Same (upd H d (.frz od u)) H') : Same H (upd H' d u) := fun b o e => by
  by_cases c : b = d
  · subst c; rw [hd] at e; cases e; exact upd_same
  · rw [upd_ne c]; exact s _ _ (by rw [upd_ne c]; exact e)
section
variable {K : PySem.W.Frag} {H H1 H2 : Hp} {pl dd : Addr} {T : Tn}
theorem Stg.mv (g : Stg K H H1 pl dd T) (m : Mv H1 H2 pl) : Stg K H H2 pl dd T := by
  refine ⟨g.m.trans m, g.t.draw m fun q mq z => ?_, g.n, g.l, g.e⟩
  have := g.n q mq pl z
  obtain ⟨x, y, e⟩ := g.m.p0
  rw [this] at e; cases e
theorem Stg.put {b : Addr} {u o : HO} (g : Stg K H H1 pl dd T) (n : H b = none) (e : H1 b = some u) (nt : (∀ xs, u ≠ .tup xs) ∧ ∀ ob xs, u ≠ .frz ob (.tup xs)) (nd : b ≠ dd) (no : ∀ q ∈ T, b ∉ own q.1) : Stg K H (upd H1 b o) pl dd T := by
  obtain ⟨x, y, ep⟩ := g.m.pool
  have npl : pl ≠ b := fun z => by
    obtain ⟨x, y, e0⟩ := g.m.p0
    rw [z, n] at e0; cases e0
  refine ⟨⟨fun c q nc ec => ?_, g.m.p0, x, y, by rw [upd_ne npl]; exact ep⟩, ⟨by rw [upd_ne nd.symm]; exact g.t.dict, g.t.hs.put e nt no, g.t.no⟩, g.n, g.l, g.e⟩
  rw [upd_ne (fun z => by rw [z, n] at ec; cases ec)]
  exact g.m.keep c q nc ec
end
end Wd
/-! ## P32 -/
set_option Elab.async false
set_option linter.all false
set_option maxRecDepth 100000
set_option maxHeartbeats 400000
namespace Wd
open PySem PySem.Spec PyProof.Rows L2 PySem.W PySem.SeqAt
def spLateL (K : PySem.W.Frag) : Sp := fun vs H Q _ => ∃ (Hb : Hp) (pl dd : Addr) (T : Tn), vs = [.ref pl, .ref dd] ∧ Stg K Hb H pl dd T ∧ (∀ ss, ss.length ≤ 3 → Chain (nsT T) ss → ∃ r, M.lateRun 0 ss (wsT T) (had0 (nsT T)) = some r) ∧ 0 ∈ nsT T ∧
  ∀ H' T' hd ss had', Stg K Hb H' pl dd T' → ss.length ≤ 3 → Chain (nsT T) ss → M.lateRun 0 ss (wsT T) (had0 (nsT T)) = some (wsT T', had') → H' hd = some (.dK (hadK had')) → Hb hd = none → (∀ q ∈ T', hd ∉ own q.1) → hd ≠ dd → Q (.ref hd) H'
structure LtIn (K : PySem.W.Frag) (Hb : Hp) (pl dd hd : Addr) (T0 : Tn) (i : Nat) (Hc : Hp) (Tc : Tn) (L : Addr) (ss : List (List Nat)) (had : M.Had) : Prop where
  g : Stg K Hb Hc pl dd Tc
  len : ss.length = i
  ch : Chain (nsT T0) ss
  run : M.lateRun 0 ss (wsT T0) (had0 (nsT T0)) = some (wsT Tc, had)
  l : Hc L = some (.lst ((lastS (nsT T0) ss).map fun i => V.str (nm i)))
  ln : Hb L = none
  lo : ∀ q ∈ Tc, L ∉ own q.1
  h : Hc hd = some (.dK (hadK had))
  hn : Hb hd = none
  ho : ∀ q ∈ Tc, hd ∉ own q.1
  hdd : hd ≠ dd
  nm : had.map (·.1) = nsT T0
  ns : nsT Tc = nsT T0
theorem hpairs {K : PySem.W.Frag} {H : Hp} : ∀ {ws : List V} {r : List Nat}, Paired (fun v (i : Nat) => ∃ t, v = V.ref t ∧ SqT K H t [.str (nm i), .int 0]) ws r → ∃ ps : List Addr, ws = ps.map V.ref ∧ Paired (fun p (kv : Key × V) => SqT K H p [kV kv.1, kv.2]) ps (hadK (had0 r))
  | _, _, .nil => ⟨[], rfl, .nil⟩
  | _, _, .cons h t => by
    obtain ⟨p, rfl, q⟩ := h
    obtain ⟨ps, e, r⟩ := hpairs t
    exact ⟨p :: ps, by rw [e]; rfl, .cons q r⟩
theorem hadK_pw {r : List Nat} (h : r.Nodup) : (hadK (had0 r)).Pairwise (fun a b => a.1 ≠ b.1) := by
  unfold hadK had0
  rw [List.map_map, List.pairwise_map]
  exact h.imp fun n z => n (nK_inj z)
theorem ns_kv : ∀ {T T' : Tn}, kvT T' = kvT T → nsT T' = nsT T
  | [], [], _ => rfl
  | [], _ :: _, e => by cases e
  | _ :: _, [], e => by cases e
  | q :: T, r :: T', e => by
    have e : (nK r.2.name, V.ref r.1.p) :: kvT T' = (nK q.2.name, V.ref q.1.p) :: kvT T := e
    have e1 := (List.cons.inj e).1
    have e2 := (List.cons.inj e).2
    show r.2.name :: nsT T' = q.2.name :: nsT T
    rw [ns_kv e2, nK_inj (congrArg Prod.fst e1)]
theorem lateStep_parts {s : List Nat} {k : Nat} {ws w2 : M.Ws} (e : M.lateStep s k ws = some w2) : ∃ h h' ls, M.at_ 0 ws = some h ∧ M.put h (.late k) = some (h', ls) ∧ M.giveAll s (M.setAt 0 h' ws) ls = some w2 := by
  unfold M.lateStep at e
  cases c1 : M.at_ 0 ws with
  | none => rw [c1] at e; cases e
  | some h =>
    rw [c1] at e
    have e : (match M.put h (.late k) with
      | none => none
      | some (h', ls) => M.giveAll s (M.setAt 0 h' ws) ls) = some w2 := e
    cases c2 : M.put h (.late k) with
    | none => rw [c2] at e; cases e
    | some q =>
      obtain ⟨h', ls⟩ := q
      rw [c2] at e
      exact ⟨h, h', ls, rfl, c2, e⟩
structure GvIn (K : PySem.W.Frag) (Hb : Hp) (pl dd hd L r : Addr) (T0 : Tn) (s : List Nat) (had : M.Had) (w2 : M.Ws) (ls : List M.Lt) (wl : List V) (j : Nat) (Hx : Hp) (Tx : Tn) : Prop where
  g : Stg K Hb Hx pl dd Tx
  l : Hx L = some (.lst (s.map fun i => V.str (nm i)))
  lo : ∀ q ∈ Tx, L ∉ own q.1
  h : Hx hd = some (.dK (hadK had))
  ho : ∀ q ∈ Tx, hd ∉ own q.1
  rr : Hx r = some (.lst wl)
  ro : ∀ q ∈ Tx, r ∉ own q.1
  ll : Paired (LtIs K Hx) wl ls
  e : M.giveAll s (wsT Tx) (ls.drop j) = some w2
  ns : nsT Tx = nsT T0
theorem own_frs {H0 H : Hp} {T0 T : Tn} {b : Addr} {o : HO} (f : Frs H0 H T0 T) (e : H0 b = some o) (n : ∀ q ∈ T0, b ∉ own q.1) : ∀ q ∈ T, b ∉ own q.1 := fun q m z => by
  rcases f.own q m b z with ⟨r, mr, zr⟩ | z2
  · exact n r mr zr
  · rw [e] at z2; cases z2
theorem any_in (s : List Nat) (x : Nat) : inV (V.str (nm x)) (s.map fun i => V.str (nm i)) = s.any fun y => Nat.beq y x := by
  unfold inV
  rw [List.any_map]
  refine congrArg (fun f => s.any f) (funext fun y => ?_)
  show eqV (V.str (nm y)) (V.str (nm x)) = Nat.beq y x
  show (nm y == nm x) = Nat.beq y x
  by_cases c : y = x
  · rw [nbt c, c]; exact beq_self_eq_true _
  · rw [nbf c]; exact beq_eq_false_iff_ne.mpr fun z => c (nm_inj z)
theorem isA (z : Nat) : decide (V.str (nm z) = V.str "a") = Nat.beq z 0 := by
  rw [nm0]
  by_cases c : z = 0
  · rw [nbt c]; exact decide_eq_true (by rw [c])
  · rw [nbf c]; exact decide_eq_false fun y => c (nm_inj (V.str.inj y))
theorem is0 (z : Nat) : decide (V.int ((z : Nat) : Int) = V.int 0) = Nat.beq z 0 := int_eq z 0
section
variable {P : Program} {w : World} {K : PySem.W.Frag} {mg : Str → Option Value} {base : Heap}
theorem ok_law_late (T : Txt w K mg) : Df P w K mg base 10 (He.ga K "_law_late") ["_law_pool_here", "_law_houses"] (spLateL K) := by
  obtain ⟨fd_law_take, G_law_take, b_law_take, kp_law_take⟩ := ok_law_take (P := P) (w := w) (base := base) T
  obtain ⟨fd_m_put, G_m_put, b_m_put, kp_m_put⟩ := ok_m_put (P := P) (w := w) (base := base) T
  obtain ⟨fd_m_take, G_m_take, b_m_take, kp_m_take⟩ := ok_m_take (P := P) (w := w) (base := base) T
  refine df_mk T.f_law_late sc_law_late (fun vs H Q E h => ?_) (fun _ _ _ _ _ _ us hl => match us, hl with | [_, _], _ => rfl) (fun cdv A outer s H vs Q E hr h => ?_)
  · obtain ⟨Hb, pl, dd, T0, rfl, _⟩ := h
    rfl
  · obtain ⟨Hb, pl, dd, T0, rfl, g0, hL, h0n, k⟩ := h
    refine ⟨_, (pss_cons (ps_set (i := 3) sc_law_late.nd rfl (Or.inl rfl) (pe_callTy (call_dictP rfl) (by rfl) T.b_dict (by decide +kernel) (pa_cons (pe_lock (pe_lc (own := [("_law_name", 2)]) (g := gName 2) rfl sc_law_late.nd (pi_keys (pv 1)) (blkOk_by (own := [("_law_name", 2)]) (N := ["_law_pool_here", "_law_houses", "_law_name", "_law_had", "_law_some", "_law_number", "_law_letters", "_law_letter"]) (sc := defScope s_law_late) (by decide +kernel)) (fun _ _ _ _ _ => (pg_name (i := 2) sc_law_late.nd rfl (Or.inl rfl))) (fun _ _ _ _ _ => pts_nil) (fun _ _ _ _ _ => (pe_tup (pa_cons (pv 2) (pa_cons pe_int pa_nil)))))) pa_nil))) (pss_cons (ps_set (i := 4) sc_law_late.nd rfl (Or.inl rfl) (pe_callTy (call_list_dK rfl) (by rfl) T.b_list (by decide +kernel) (pa_cons (pv 1) pa_nil))) (pss_cons (ps_for PassesOwn.never rfl (pi_range2 rfl T.b_range (pa_cons pe_int (pa_cons (pe_op op_add pe_int (pe_call G_law_take (hr.mono (by decide)) rfl T.g_law_take kp_law_take b_law_take .nil pass0 (pa_cons (pv 0) (pa_cons pe_int pa_nil)))) pa_nil))) (pg_name (i := 5) sc_law_late.nd rfl (Or.inl rfl)) (pss_cons (ps_setLc (i := 4) (own := [("_law_name", 2)]) (g := gName 2) rfl sc_law_late.nd rfl rfl (sw_true rfl rfl rfl (by decide +kernel)) (pi_list (pv 4)) (blkOk_by (own := [("_law_name", 2)]) (N := ["_law_pool_here", "_law_houses", "_law_name", "_law_had", "_law_some", "_law_number", "_law_letters", "_law_letter"]) (sc := defScope s_law_late) (by decide +kernel)) (fun _ _ _ _ _ => (pg_name (i := 2) sc_law_late.nd rfl (Or.inl rfl))) (fun _ _ _ _ _ => (pts_one (PW.pt (pw_or (pt_cmpR op_eq (pv 2) pe_str (nomark _)) (pw_or1 (pt_cmpR op_eq (pe_call G_law_take (hr.mono (by decide)) rfl T.g_law_take kp_law_take b_law_take .nil pass0 (pa_cons (pv 0) (pa_cons pe_int pa_nil))) pe_int (nomark _))))))) (fun _ _ _ _ _ => (pv 2))) (pss_cons (ps_set (i := 6) sc_law_late.nd rfl (Or.inl rfl) (pe_meth (pe_dget (hu_of hr) (pv 1) pe_str (fun _ _ => rfl)) T.cl T.me_put G_m_put (hr.mono (by decide)) b_m_put .nil pass0 (pa_cons (pe_tup (pa_cons pe_str (pa_cons pe_str (pa_cons (pv 5) (pa_cons (pe_tup (pa_cons pe_str pa_nil)) pa_nil))))) pa_nil))) (pss_cons (ps_for PassesOwn.never rfl (pi_list (pv 6)) (pg_name (i := 7) sc_law_late.nd rfl (Or.inl rfl)) (pss_one (ps_if (pt_cmpR (kInS rfl) (pe_ix (kIxT rfl) (pv 7) pe_int (fun _ _ => rfl)) (pv 4) (by rfl)) (pss_one (ps_expr (pe_meth (pe_dget (hu_of hr) (pv 1) (pe_ix (kIxT rfl) (pv 7) pe_int (fun _ _ => rfl)) (fun _ _ => rfl)) T.cl T.me_take G_m_take (hr.mono (by decide)) b_m_take .nil pass0 (pa_cons (pv 7) pa_nil)))) pss_nil))) (pss_one (ps_for PassesOwn.never rfl (pi_list (pv 4)) (pg_name (i := 2) sc_law_late.nd rfl (Or.inl rfl)) (pss_one (ps_dput (hu_of hr) (pv 3) (pv 2) (pv 5) rfl)))))))) (pss_one (ps_ret (pv 3)))))), ?_⟩
    rw [st_law_late]
    have nd0 := g0.t.hs.nd
    refine ⟨dd, .dK (kvT T0), g0.t.dict, True.intro, fun od => ?_⟩
    have hf : (upd H dd (.frz od (.dK (kvT T0)))) dd = some (.frz od (.dK (kvT T0))) := upd_same
    have fr : ∀ b, (upd H dd (.frz od (.dK (kvT T0)))) b = none → H b = none := fun b e => by
      by_cases c : b = dd
      · subst c; rw [upd_same] at e; cases e
      · rw [upd_ne c] at e; exact e
    have back := fun {H' : Hp} (s : Same (upd H dd (.frz od (.dK (kvT T0)))) H') => lock_same g0.t.dict s
    generalize upd H dd (.frz od (.dK (kvT T0))) = Hf at *
    have pk : Paired (fun v (i : Nat) => v = V.str (nm i)) ((kvT T0).map fun kv => kV kv.1) (nsT T0) := by
      have e : ((kvT T0).map fun kv => kV kv.1) = (nsT T0).map fun i => V.str (nm i) := by unfold kvT nsT; rw [List.map_map, List.map_map]; rfl
      rw [e]; exact names_pd _
    have nl : (nsT T0).length ≤ 26 := by unfold nsT; rw [List.length_map]; exact g0.l
    refine ⟨_, rfl, dd, od, rfl, .inl ⟨kvT T0, hf, lc_any (fun i => some i) (fun H v (i : Nat) => ∃ t, v = V.ref t ∧ SqT K H t [.str (nm i), .int 0]) (goes_keys hf pk) (fun k ⟨t, e, z⟩ => ⟨t, e, k.kp.sqt z⟩) (by omega) (fun y i H9 Qy Qn s9 g1 m1 ky kn => ?_) (fun D ws H1 hD s1 hw hp => ?_)⟩⟩
    · subst g1
      refine ⟨rfl, _, rfl, by show 2 ≤ sizeLine; decide, fun t ht => ?_⟩
      exact ky _ _ _ rfl (same_new ht) ⟨t, rfl, SqT.of upd_same⟩
    refine ⟨s1 _ _ hf, ?_⟩
    have sB := back s1
    have nDd : D ≠ dd := fun z => by rw [z, hf] at hD; cases hD
    have hw1 : (upd H1 dd (.dK (kvT T0))) D = some (.lst ws) := by rw [upd_ne nDd]; exact hw
    have kp1 : Kp H1 (upd H1 dd (.dK (kvT T0))) := Kp.at (s1 _ _ hf) (fun _ z => nomatch z) fun _ _ z => by cases z
    have hp1 : Paired (fun v (i : Nat) => ∃ t, v = V.ref t ∧ SqT K (upd H1 dd (.dK (kvT T0))) t [.str (nm i), .int 0]) ws (nsT T0) := by
      have e : (nsT T0).filterMap (fun i => some i) = nsT T0 := by rw [List.filterMap_eq_map']; exact List.map_id _
      rw [e] at hp
      exact pd_mono hp fun v i ⟨t, e, z⟩ => ⟨t, e, kp1.sqt z⟩
    generalize upd H1 dd (.dK (kvT T0)) = H2 at *
    obtain ⟨ps, rfl, pp⟩ := hpairs hp1
    refine ⟨D, ps, hadK (had0 (nsT T0)), rfl, SqL.of hw1, pp, fun hd hhd => ?_⟩
    rw [merge_new (hadK (had0 (nsT T0))) [] (hadK_pw nd0), List.nil_append]
    (generalize hz : upd H2 hd _ = H3; have s3 : Same H2 H3 := (by rw [← hz]; exact same_new hhd); have h3 : H3 hd = some _ := (by rw [← hz]; exact upd_same); clear hz)
    simp only [List.set_cons_succ, List.set_cons_zero]
    have sA := sB.trans s3
    have g3 := g0.same sA
    have hdB : Hb hd = none := g0.m.free (sB.free hhd)
    refine ⟨_, rfl, dd, _, rfl, g3.t.dict, fun L hL2 => ?_⟩
    have ek : ((kvT T0).map fun kv => kV kv.1) = (nsT T0).map fun i => V.str (nm i) := by unfold kvT nsT; rw [List.map_map, List.map_map]; rfl
    rw [ek]
    have hdo := fun q mq => (g0.same sB).t.hs.not hhd q mq
    have hdd' : hd ≠ dd := fun z => by have := (g0.same sB).t.dict; rw [← z, hhd] at this; cases this
    (generalize hz : upd H3 L _ = H4; have s4 : Same H3 H4 := (by rw [← hz]; exact same_new hL2); have h4 : H4 L = some _ := (by rw [← hz]; exact upd_same); clear hz)
    simp only [List.set_cons_succ, List.set_cons_zero]
    have g4 := g3.same s4
    refine ⟨_, rfl, pl, 4, rfl, by decide, by decide, g4.m.pool, fun t c s ht => ⟨_, _, rfl, rfl, ?_⟩⟩
    have md := Mv.draw g4.m.pool c s
    have npl : ∀ {b o}, H4 b = some o → (∀ xs, o ≠ .lst xs) → (upd H4 pl (.lst [.int c, .int s])) b = some o := fun {b o} e n => md.keep _ _ (fun z => by obtain ⟨x, y, q⟩ := g4.m.pool; rw [z, q] at e; exact n _ (Option.some.inj e).symm) e
    have hLB : Hb L = none := g0.m.free (sA.free hL2)
    have nLp : L ≠ pl := fun z => by obtain ⟨x, y, q⟩ := g0.m.p0; rw [← z, hLB] at q; cases q
    have g5 := g4.mv md
    have h5 := npl (s4 _ _ h3) (fun _ z => nomatch z)
    have l5 := md.keep _ _ nLp h4
    generalize upd H4 pl (.lst [.int c, .int s]) = H5 at *
    have rt : ((1 + ((t : Nat) : Int)) - 1).toNat = t := by omega
    refine ⟨1, 1 + ((t : Nat) : Int), rfl, ⟨by decide, by decide, by omega, by omega⟩, for_range (n := ((1 + ((t : Nat) : Int)) - 1).toNat) (fun i σ Hc => ∃ (Tc : Tn) (L : Addr) (ss : List (List Nat)) (had : M.Had) (o2 o5 o6 o7 : Option V), σ = [some (.ref pl), some (.ref dd), o2, some (.ref hd), some (.ref L), o5, o6, o7] ∧ LtIn K Hb pl dd hd T0 i Hc Tc L ss had)
      ⟨T0, L, [], had0 (nsT T0), none, none, none, none, rfl, g5, rfl, trivial, rfl, l5, hLB, (g0.same sA).t.hs.not hL2, h5, hdB, hdo, hdd', (by unfold had0; rw [List.map_map]; exact List.map_id _), rfl⟩ (fun i σ Hc hi ⟨Tc, L, ss, had, o2, o5, o6, o7, e, q⟩ => ?_) (fun σ Hc ⟨Tc, L, ss, had, o2, o5, o6, o7, e, q⟩ => ?_)⟩
    · subst e
      rw [rt] at hi
      clear g5 h5 l5 npl md hLB nLp g4 h4 s4 g3 h3 sA s3 hdo hw1 hp1 sB kp1 hw hp s1 back hf hL2 hhd
      have hg := q.g
      have inum : (1 + ((i : Nat) : Int)) = ((i + 1 : Nat) : Int) := by omega
      rw [inum]
      have nLp : L ≠ pl := fun z => by obtain ⟨x, y, e⟩ := hg.m.p0; rw [← z, q.ln] at e; cases e
      have nhp : hd ≠ pl := fun z => by obtain ⟨x, y, e⟩ := hg.m.p0; rw [← z, q.hn] at e; cases e
      obtain ⟨sN, hsN⟩ : ∃ sN, lastS (nsT T0) ss = sN := ⟨_, rfl⟩
      have ql := q.l
      have hch := q.ch
      have hsub := lastS_sub hch
      rw [hsN] at ql hsub
      have sl : sN.length ≤ 26 := Nat.le_trans hsub.length_le nl
      have snd : sN.Nodup := hsub.nodup nd0
      refine ⟨_, rfl, L, rfl, ⟨_, SqL.of ql⟩, lc_inv sN.length (fun D j Hx => ∃ f : Nat → Bool, f 0 = true ∧ Mv Hc Hx pl ∧ Hx D = some (.lst (((sN.take j).filter f).map fun i => V.str (nm i))))
        (fun D hD => ⟨fun _ => true, rfl, Mv.of hg.m.pool (same_new hD), by rw [List.take_zero]; exact upd_same⟩) (fun D j Hx hj ⟨f, f0, m, e⟩ => ?_) (fun D Hx ⟨f, f0, m, e⟩ => ⟨_, SqL.of (m.keep _ _ nLp ql), by rw [List.length_map]; exact Nat.le_refl _⟩) (fun D j Hz x Hx hD hj ⟨f, f0, m, e⟩ y => ?_) (fun D Hx hD ⟨f, f0, m, e⟩ => ?_)⟩
      · exact ⟨_, V.str (nm sN[j]), SqL.of (m.keep _ _ nLp ql), by rw [List.getElem?_map, List.getElem?_eq_getElem hj]; rfl⟩
      · obtain ⟨ez, y⟩ := y
        subst ez
        have hj2 : sN[j]? = some sN[j] := List.getElem?_eq_getElem hj
        have ex := y _ (SqL.of (m.keep _ _ nLp ql))
        rw [List.getElem?_map, hj2] at ex
        cases ex
        generalize sN[j] = z at *
        have nDp : D ≠ pl := fun z => by obtain ⟨x, y, e⟩ := hg.m.pool; rw [← z, hD] at e; cases e
        have hnot : z ∉ sN.take j := fun mz => by
          obtain ⟨j2, hj3, e3⟩ := List.getElem_of_mem mz
          rw [List.length_take] at hj3
          rw [List.getElem_take] at e3
          obtain ⟨hj4, e4⟩ := List.getElem?_eq_some_iff.mp hj2
          exact List.pairwise_iff_getElem.mp snd j2 j (by omega) hj4 (by omega) (by rw [e3, e4])
        have ff : ∀ b : Bool, (sN.take (j + 1)).filter (fun u => bif Nat.beq u z then b else f u) = (sN.take j).filter f ++ (if b = true then [z] else []) := fun b => by
          rw [take_snoc hj2, List.filter_append]
          have e1 : (sN.take j).filter (fun u => bif Nat.beq u z then b else f u) = (sN.take j).filter f := List.filter_congr fun u mu => by rw [nbf (fun y => hnot (by rw [← y]; exact mu))]; rfl
          have e2 : [z].filter (fun u => bif Nat.beq u z then b else f u) = if b = true then [z] else [] := by
            cases b <;> simp [List.filter_cons]
          rw [e1, e2]
        have lf : (((sN.take j).filter f).map fun i => V.str (nm i)).length ≤ 26 := by
          rw [List.length_map]
          exact Nat.le_trans (List.length_filter_le _ _) (Nat.le_trans (by rw [List.length_take]; omega) sl)
        have keepIt : ∀ Hy, Mv Hc Hy pl → Hy D = some (.lst (((sN.take j).filter f).map fun i => V.str (nm i))) → ∃ acc, Hy D = some (.lst acc) ∧ acc.length < sizeLine ∧ ∃ f : Nat → Bool, f 0 = true ∧ Mv Hc (upd Hy D (.lst (acc ++ [V.str (nm z)]))) pl ∧ (upd Hy D (.lst (acc ++ [V.str (nm z)]))) D = some (.lst (((sN.take (j + 1)).filter f).map fun i => V.str (nm i))) := fun Hy my ey => by
          refine ⟨_, ey, Nat.lt_of_le_of_lt lf (by decide), fun u => bif Nat.beq u z then true else f u, ?_, ⟨fun b o n eb => ?_, hg.m.pool, ?_⟩, ?_⟩
          · show (bif Nat.beq 0 z then true else f 0) = true
            cases Nat.beq 0 z with
            | true => rfl
            | false => exact f0
          · rw [upd_ne (fun y => by rw [y, hD] at eb; cases eb)]; exact my.keep b o n eb
          · obtain ⟨x, y, e⟩ := my.pool
            exact ⟨x, y, by rw [upd_ne (fun z => nDp z.symm)]; exact e⟩
          · rw [upd_same, ff true, if_pos rfl, List.map_append]; rfl
        refine ⟨rfl, _, rfl, rfl, _, rfl, ?_⟩
        rw [isA]
        cases cz : Nat.beq z 0 with
        | true => exact iteT (iteT ⟨_, rfl, keepIt _ m e⟩)
        | false =>
          refine iteF ⟨_, rfl, pl, 2, rfl, by decide, by decide, m.pool, fun dg c2 s2 hdg => ⟨rfl, _, rfl, ?_⟩⟩
          rw [is0]
          have m2 := m.trans (Mv.draw m.pool c2 s2)
          have e2 : (upd Hx pl (.lst [.int c2, .int s2])) D = some (.lst (((sN.take j).filter f).map fun i => V.str (nm i))) := by rw [upd_ne nDp]; exact e
          cases cd : Nat.beq dg 0 with
          | true => exact iteT ⟨_, rfl, keepIt _ m2 e2⟩
          | false =>
            refine iteF ⟨fun u => bif Nat.beq u z then false else f u, ?_, m2, ?_⟩
            · show (bif Nat.beq 0 z then false else f 0) = true
              have : Nat.beq 0 z = false := nbf fun y => by rw [← y] at cz; cases cz
              rw [this]; exact f0
            · rw [ff false, if_neg (by decide), List.append_nil]; exact e2
      · rw [List.take_length] at e
        simp only [List.set_cons_succ, List.set_cons_zero]
        have gx := hg.mv m
        obtain ⟨sP, hsP⟩ : ∃ sP, sN.filter f = sP := ⟨_, rfl⟩
        rw [hsP] at e
        obtain ⟨ch2, ls2⟩ := chain_snoc (s := sP) hch ⟨f, f0, by rw [hsN]; exact hsP.symm⟩
        have hlen2 : (ss ++ [sP]).length ≤ 3 := by rw [List.length_append, q.len]; show i + 1 ≤ 3; omega
        obtain ⟨rr, hrr⟩ := hL _ hlen2 ch2
        have hrun := lateRun_snoc (w2 := wsT Tc) (s := sP) q.run
        rw [hrr, q.len, Nat.zero_add] at hrun
        cases cls : M.lateStep sP i (wsT Tc) with
        | none => rw [cls] at hrun; cases hrun
        | some w2 =>
          rw [cls] at hrun
          have hrun2 : M.lateRun 0 (ss ++ [sP]) (wsT T0) (had0 (nsT T0)) = some (w2, M.hadSet had sP (i + 1)) := by rw [hrr]; exact hrun
          obtain ⟨h, h', ls, p1, p2, p3⟩ := lateStep_parts cls
          obtain ⟨j, a, hj, en⟩ := at_T p1
          have hh := gx.t.hs.at_ _ (List.mem_of_getElem? hj)
          have hDB : Hb D = none := hg.m.free hD
          have hDo : ∀ q ∈ Tc, D ∉ own q.1 := hg.t.hs.not hD
          have nDdd : D ≠ dd := fun z => by have := hg.t.dict; rw [← z, hD] at this; cases this
          have qh := m.keep _ _ nhp q.h
          refine ⟨_, rfl, dd, .ref a.p, rfl, gx.t.getA hj en, a.p, a.dx, _, rfl, hh.ob, no_put _ _, _, rfl, by show 1 ≤ sizeLine; decide, fun bb hbb => ?_⟩
          (generalize hz : upd Hx bb _ = H6; have s6 : Same Hx H6 := (by rw [← hz]; exact same_new hbb); have h6 : H6 bb = some _ := (by rw [← hz]; exact upd_same); clear hz)
          refine ⟨by show 4 ≤ sizeLine; decide, fun ev hev => ?_⟩
          (generalize hz : upd H6 ev _ = H7; have s7 : Same H6 H7 := (by rw [← hz]; exact same_new hev); have h7 : H7 ev = some _ := (by rw [← hz]; exact upd_same); clear hz)
          have s67 := s6.trans s7
          have g7 := gx.same s67
          refine ⟨a, h, h', ls, _, .late i, rfl, hh.same s67, .tup (SqT.of h7) (.cons (.str _) (.cons (.str _) (.cons (.int _) (.cons (.tup (SqT.of (s7 _ _ h6)) (.cons (.str _) .nil)) .nil)))), p2, fun H9 a9 r9 po => ?_⟩
          obtain ⟨wl, el, pl9⟩ := po.l
          obtain ⟨t9, f9⟩ := g7.t.step hj po.f po.hh (put_name p2)
          have g9 := g7.frs f9 t9
          rw [← en, setAt_T gx.t.hs.nd hj] at p3
          have q9h := f9.keep _ _ (s67 _ _ qh) q.ho
          have q9ho := own_frs f9 (s67 _ _ qh) q.ho
          have q9l := f9.keep _ _ (s67 _ _ e) hDo
          have q9lo := own_frs f9 (s67 _ _ e) hDo
          have r9B : Hb r9 = none := g7.m.free po.new
          have r9o := new_step (h' := h') g7.t.hs hj po.new po.nr
          have ns9 : nsT (Tc.set j (a9, h')) = nsT T0 := by rw [ns_kv f9.kv]; exact q.ns
          clear po s67 g7 hh gx hrr
          simp only [List.set_cons_succ, List.set_cons_zero]
          have wlen := pd_len pl9
          have hsubP : ∀ x ∈ sP, x ∈ nsT T0 := fun x mx => hsub.subset (by rw [← hsP] at mx; exact (List.mem_filter.mp mx).1)
          refine ⟨_, rfl, r9, rfl, ⟨_, SqL.of el⟩, for_list (xs := wl) (fun jj σ Hy => ∃ (Tx : Tn) (o7' : Option V), σ = [some (.ref pl), some (.ref dd), o2, some (.ref hd), some (.ref D), some (.int ((i + 1 : Nat) : Int)), some (.ref r9), o7'] ∧ GvIn K Hb pl dd hd D r9 T0 sP had w2 ls wl jj Hy Tx)
            ⟨_, _, rfl, g9, q9l, q9lo, q9h, q9ho, el, r9o, pl9, by rw [List.drop_zero, wsT_set]; exact p3, ns9⟩ (fun jj σ Hy hjj ⟨Tx, o7', ex, v⟩ => SqL.of v.rr) (fun jj x σ Hy ex ⟨Tx, o7', ez, v⟩ => ?_) (fun σ Hy ⟨Tx, o7', ez, v⟩ => ?_)⟩
          · subst ez
            obtain ⟨l, el2, lt⟩ := pd_get v.ll ex
            obtain ⟨qa, rs, rfl, hq, hrs⟩ := lt_parts lt.dp
            have hlt2 : jj < ls.length := (List.getElem?_eq_some_iff.mp el2).1
            have hdrop : ls.drop jj = l :: ls.drop (jj + 1) := by
              rw [List.drop_eq_getElem_cons hlt2, (List.getElem?_eq_some_iff.mp el2).2]
            have ve := v.e
            rw [hdrop, M.giveAll] at ve
            refine ⟨_, rfl, qa, _, _, _, rfl, rfl, hq, at_of (j := 2) rfl rfl, _, rfl, D, _, rfl, .inl (SqL.of v.l), rfl, names_flat _, _, rfl, iteB (b := sP.any fun y => Nat.beq y l.dst) (any_in sP l.dst) ?_⟩
            cases cin : sP.any fun y => Nat.beq y l.dst with
            | false =>
              rw [cin] at ve
              exact iteF ⟨Tx, _, rfl, v.g, v.l, v.lo, v.h, v.ho, v.rr, v.ro, v.ll, ve, v.ns⟩
            | true =>
              rw [cin] at ve
              obtain ⟨y, my, ey⟩ := List.any_eq_true.mp cin
              have hin : l.dst ∈ nsT Tx := by rw [v.ns, ← Nat.eq_of_beq_eq_true ey]; exact hsubP y my
              obtain ⟨jx, ax, hx, hjx, enx⟩ := ns_at hin
              have hgive := give_hit v.g.t.hs.nd hjx enx
              rw [hgive] at ve
              cases ht : M.take hx l with
              | none => rw [ht] at ve; cases ve
              | some p2 =>
                obtain ⟨hx', ms2⟩ := p2
                rw [ht] at ve
                have ve : M.giveAll sP ((wsT Tx).set jx hx') (ls.drop (jj + 1)) = some w2 := ve
                have hhx := v.g.t.hs.at_ _ (List.mem_of_getElem? hjx)
                have hget := v.g.t.get hjx
                rw [enx] at hget
                refine iteT ⟨_, rfl, _, rfl, qa, _, _, _, rfl, rfl, hq, at_of (j := 2) rfl rfl, dd, .ref ax.p, rfl, hget, ax.p, ax.dx, _, rfl, hhx.ob, no_take _ _, _, rfl, ax, hx, hx', ms2, _, l, rfl, hhx, lt, ht, fun H11 a11 r11 po => ?_⟩
                obtain ⟨t11, f11⟩ := v.g.t.step hjx po.f po.hh (take_name ht)
                exact ⟨_, _, rfl, v.g.frs f11 t11, f11.keep _ _ v.l v.lo, own_frs f11 v.l v.lo, f11.keep _ _ v.h v.ho, own_frs f11 v.h v.ho, f11.keep _ _ v.rr v.ro, own_frs f11 v.rr v.ro, pd_mono v.ll fun _ _ z => z.kp f11.kp, by rw [wsT_set]; exact ve, by rw [ns_kv f11.kv]; exact v.ns⟩
          · subst ez
            have ve := v.e
            rw [wlen, List.drop_length, M.giveAll] at ve
            have ve := Option.some.inj ve
            have hDpl : D ≠ pl := fun z => by obtain ⟨x, y, e⟩ := hg.m.p0; rw [← z, hDB] at e; cases e
            have hDhd : D ≠ hd := fun z => by have := v.l; rw [z, v.h] at this; cases this
            have hnl : (hadK had).length ≤ 26 := by
              unfold hadK
              rw [List.length_map, ← List.length_map (f := fun q : Nat × Nat => q.1), q.nm]
              exact nl
            refine ⟨_, rfl, D, rfl, ⟨_, SqL.of v.l⟩, for_list (xs := sP.map fun i => V.str (nm i)) (fun jj σ Hy => ∃ (o2' : Option V), σ = [some (.ref pl), some (.ref dd), o2', some (.ref hd), some (.ref D), some (.int ((i + 1 : Nat) : Int)), some (.ref r9), o7'] ∧ Stg K Hb Hy pl dd Tx ∧ Hy D = some (.lst (sP.map fun i => V.str (nm i))) ∧ Hy hd = some (.dK (hadK (M.hadSet had (sP.take jj) (i + 1)))))
              ⟨_, rfl, v.g, v.l, by rw [List.take_zero, had_nil]; exact v.h⟩ (fun jj σ Hy hjj ⟨o2', ex, v1, v2, v3⟩ => SqL.of v2) (fun jj x σ Hy ex ⟨o2', ez, v1, v2, v3⟩ => ?_) (fun σ Hy ⟨o2', ez, v1, v2, v3⟩ => ?_)⟩
            · subst ez
              rw [List.getElem?_map] at ex
              cases eo : sP[jj]? with
              | none => rw [eo] at ex; cases ex
              | some y =>
                rw [eo] at ex
                cases ex
                have hyn : y ∈ (M.hadSet had (sP.take jj) (i + 1)).map (·.1) := by rw [hadSet_names, q.nm]; exact hsubP y (List.mem_of_getElem? eo)
                have hl3 : (hadK (M.hadSet had (sP.take jj) (i + 1))).length ≤ 26 := by
                  unfold hadK M.hadSet at *
                  rw [List.length_map] at hnl
                  rw [List.length_map, List.length_map]; exact hnl
                refine ⟨_, rfl, _, rfl, _, rfl, hd, _, rfl, DPut.k (k := nK y) v3 (Nat.lt_of_le_of_lt hl3 (by decide)), ?_⟩
                rw [had_put hyn, had_step, ← take_snoc eo]
                exact ⟨_, rfl, v1.put q.hn v3 nt_dK q.hdd v.ho, by rw [upd_ne hDhd]; exact v2, upd_same⟩
            · subst ez
              rw [List.length_map, List.take_length] at v3
              exact ⟨Tx, D, ss ++ [sP], M.hadSet had sP (i + 1), _, _, _, _, rfl, v1, by rw [List.length_append, q.len]; rfl, ch2, by rw [ve]; exact hrun2, by rw [ls2]; exact v2, hDB, v.lo, v3, q.hn, v.ho, q.hdd, by rw [hadSet_names]; exact q.nm, v.ns⟩
    · subst e
      rw [rt] at q
      exact ⟨_, rfl, k Hc Tc hd ss had q.g (by rw [q.len]; omega) q.ch q.run q.h q.hn q.ho q.hdd⟩
end
end Wd
/-! ## P33 -/
set_option Elab.async false
set_option linter.all false
set_option maxRecDepth 100000
set_option maxHeartbeats 400000
namespace Wd
open PySem PySem.Spec PyProof.Rows L2 PySem.W PySem.SeqAt
/-! ### parts of the last def -/
/-- what may be left of the rest -/
def restOpts (n : Nat) (r0 : List Nat) : List (List Nat) := r0 :: if n / 2 + 1 < r0.length then (List.range r0.length).map fun i => r0.eraseIdx i else []
theorem rest_self (n : Nat) (r0 : List Nat) : r0 ∈ restOpts n r0 := List.mem_cons_self
theorem rest_pop {n : Nat} {r0 r : List Nat} (h : r ∈ restOpts n r0) (hl : n / 2 + 1 < r.length) (hr : r0.length ≤ n / 2 + 2) {i : Nat} (hi : i < r.length) : r.eraseIdx i ∈ restOpts n r0 ∧ r = r0 := by
  unfold restOpts at h
  rcases List.mem_cons.mp h with rfl | h
  · refine ⟨?_, rfl⟩
    unfold restOpts
    rw [if_pos hl]
    exact List.mem_cons_of_mem _ (List.mem_map.mpr ⟨i, List.mem_range.mpr hi, rfl⟩)
  · by_cases c : n / 2 + 1 < r0.length
    · rw [if_pos c] at h
      obtain ⟨j, hj, rfl⟩ := List.mem_map.mp h
      rw [List.length_eraseIdx, if_pos (List.mem_range.mp hj)] at hl
      omega
    · rw [if_neg c] at h
      cases h
theorem rest_sub {n : Nat} {r0 r : List Nat} (h : r ∈ restOpts n r0) : r.Sublist r0 := by
  unfold restOpts at h
  rcases List.mem_cons.mp h with rfl | h
  · exact List.Sublist.refl _
  · by_cases c : n / 2 + 1 < r0.length
    · rw [if_pos c] at h
      obtain ⟨j, hj, rfl⟩ := List.mem_map.mp h
      exact List.eraseIdx_sublist _ _
    · rw [if_neg c] at h; cases h
/-- the houses of these names -/
def pickT (T : Tn) (r : List Nat) : Tn := r.filterMap fun x => T.find? fun q => Nat.beq q.2.name x
theorem find_T : ∀ {T : Tn} {i : Nat} {a : HA} {h : M.Hs}, (nsT T).Nodup → T[i]? = some (a, h) → (T.find? fun q => Nat.beq q.2.name h.name) = some (a, h)
  | [], _, _, _, _, e => by simp at e
  | q :: T, 0, a, h, _, e => by
    simp at e
    subst e
    exact List.find?_cons_of_pos (p := fun q : HA × M.Hs => Nat.beq q.2.name h.name) (nbt rfl)
  | q :: T, i + 1, a, h, nd, e => by
    have e2 : T[i]? = some (a, h) := by simpa using e
    have hn : q.2.name ≠ h.name := fun z => by
      have := (List.nodup_cons.mp nd).1
      exact this (by show q.2.name ∈ nsT T; rw [z]; exact List.mem_map.mpr ⟨(a, h), List.mem_of_getElem? e2, rfl⟩)
    rw [List.find?_cons_of_neg (p := fun q : HA × M.Hs => Nat.beq q.2.name h.name) (by rw [nbf hn]; decide), find_T (List.nodup_cons.mp nd).2 e2]
theorem pick_ns : ∀ {T : Tn} {r : List Nat}, (nsT T).Nodup → (∀ x ∈ r, x ∈ nsT T) → nsT (pickT T r) = r
  | T, [], _, _ => rfl
  | T, x :: r, nd, h => by
    obtain ⟨i, a, hh, e, en⟩ := ns_at (h x List.mem_cons_self)
    have f := find_T nd e
    rw [en] at f
    have ih := pick_ns (r := r) nd fun y m => h y (List.mem_cons_of_mem _ m)
    have e2 : pickT T (x :: r) = (a, hh) :: pickT T r := by
      unfold pickT
      rw [List.filterMap_cons, f]
    rw [e2]
    show hh.name :: nsT (pickT T r) = _
    rw [en, ih]
theorem pick_mem {T : Tn} {r : List Nat} {q : HA × M.Hs} (h : q ∈ pickT T r) : q ∈ T := by
  unfold pickT at h
  obtain ⟨x, _, e⟩ := List.mem_filterMap.mp h
  exact List.mem_of_find?_eq_some e
theorem pick_hss {K : PySem.W.Frag} {H : Hp} {T : Tn} {r : List Nat} (hs : Hss K H T) (nd : r.Nodup) (h : ∀ x ∈ r, x ∈ nsT T) : Hss K H (pickT T r) := by
  have en := pick_ns hs.nd h
  have pn : (nsT (pickT T r)).Nodup := by rw [en]; exact nd
  refine ⟨fun q m => hs.at_ q (pick_mem m), ?_, pn⟩
  have pn2 : (pickT T r).Pairwise fun q s => q.2.name ≠ s.2.name := by
    have : ((pickT T r).map fun q => q.2.name).Pairwise (· ≠ ·) := pn
    rwa [List.pairwise_map] at this
  refine pn2.imp_of_mem fun {q s} mq ms n => ?_
  obtain ⟨i, hi⟩ := List.getElem?_of_mem (pick_mem mq)
  obtain ⟨j, hj⟩ := List.getElem?_of_mem (pick_mem ms)
  exact hs.ne hi hj fun z => n (by rw [z, hj] at hi; rw [Option.some.inj hi])
end Wd
/-! ## P34 -/
set_option Elab.async false
set_option linter.all false
set_option maxRecDepth 100000
set_option maxHeartbeats 400000
namespace Wd
open PySem PySem.Spec PyProof.Rows L2 PySem.W PySem.SeqAt
/-! ### a part of the houses moves, the others stand -/
theorem find_at : ∀ {T : Tn} {x : Nat}, M.at_ x (wsT T) = (T.find? fun q => Nat.beq q.2.name x).map fun q => q.2
  | [], _ => rfl
  | q :: T, x => by
    show (bif Nat.beq q.2.name x then some q.2 else M.at_ x (wsT T)) = _
    rw [List.find?_cons]
    cases Nat.beq q.2.name x with
    | true => rfl
    | false => exact find_at
theorem pick_ws (T : Tn) (r : List Nat) : wsT (pickT T r) = r.filterMap fun x => M.at_ x (wsT T) := by
  unfold wsT pickT
  rw [List.map_filterMap]
  exact congrArg (fun f => r.filterMap f) (funext fun x => (find_at (T := T) (x := x)).symm)
theorem find_name {P : Tn} {x : Nat} {q : HA × M.Hs} (h : (P.find? fun q => Nat.beq q.2.name x) = some q) : q ∈ P ∧ q.2.name = x :=
  ⟨List.mem_of_find?_eq_some h, Nat.eq_of_beq_eq_true (List.find?_some (p := fun q : HA × M.Hs => Nat.beq q.2.name x) h)⟩
theorem find_no {P : Tn} {x : Nat} (h : (P.find? fun q => Nat.beq q.2.name x) = none) : x ∉ nsT P := fun z => by
  obtain ⟨i, a, g, e, en⟩ := ns_at z
  have := List.find?_eq_none.mp h _ (List.mem_of_getElem? e)
  exact this (nbt en)
theorem find_mem {P : Tn} {q : HA × M.Hs} (nd : (nsT P).Nodup) (h : q ∈ P) : (P.find? fun r => Nat.beq r.2.name q.2.name) = some q := by
  obtain ⟨i, hi⟩ := List.getElem?_of_mem h
  obtain ⟨a, g⟩ := q
  exact find_T nd hi
theorem name_inj {T : Tn} {q s : HA × M.Hs} (nd : (nsT T).Nodup) (hq : q ∈ T) (hs : s ∈ T) (e : q.2.name = s.2.name) : q = s := by
  have a := find_mem nd hq
  have b := find_mem nd hs
  rw [e, b] at a
  exact (Option.some.inj a).symm
theorem Hss.dis {K : PySem.W.Frag} {H : Hp} {T : Tn} {q s : HA × M.Hs} (hs : Hss K H T) (mq : q ∈ T) (ms : s ∈ T) (n : q.2.name ≠ s.2.name) : ∀ b ∈ own q.1, b ∉ own s.1 := by
  obtain ⟨i, hi⟩ := List.getElem?_of_mem mq
  obtain ⟨j, hj⟩ := List.getElem?_of_mem ms
  exact hs.ne hi hj fun z => n (by rw [z, hj] at hi; rw [Option.some.inj hi])
def mgT (T P : Tn) : Tn := T.map fun q => (P.find? fun r => Nat.beq r.2.name q.2.name).getD q
theorem mg_ns (T P : Tn) : nsT (mgT T P) = nsT T := by
  unfold nsT mgT
  rw [List.map_map]
  refine List.map_congr_left fun q _ => ?_
  show ((P.find? fun r => Nat.beq r.2.name q.2.name).getD q).2.name = q.2.name
  cases c : P.find? fun r => Nat.beq r.2.name q.2.name with
  | none => rfl
  | some r => exact (find_name c).2
theorem mg_ws (T P : Tn) : wsT (mgT T P) = M.merge (wsT T) (wsT P) := by
  unfold M.merge
  unfold mgT
  show List.map (fun q : HA × M.Hs => q.2) (T.map _) = List.map _ (T.map fun q => q.2)
  rw [List.map_map, List.map_map]
  refine List.map_congr_left fun q _ => ?_
  show ((P.find? fun r => Nat.beq r.2.name q.2.name).getD q).2 = (M.at_ q.2.name (wsT P)).getD q.2
  rw [find_at]
  cases P.find? fun r => Nat.beq r.2.name q.2.name <;> rfl
theorem part_step {K : PySem.W.Frag} {H H' : Hp} {T P P' : Tn} (hs : Hss K H T) (sub : ∀ q ∈ P, q ∈ T) (f : Frs H H' P P') (hp : Hss K H' P') :
    Hss K H' (mgT T P') ∧ Frs H H' T (mgT T P') ∧ ∀ q ∈ P', q ∈ mgT T P' := by
  have ens : nsT P' = nsT P := ns_kv f.kv
  have cases_ : ∀ q ∈ mgT T P', (∃ s ∈ T, s.2.name = q.2.name ∧ q ∈ P') ∨ (q ∈ T ∧ q.2.name ∉ nsT P') := fun q mq => by
    unfold mgT at mq
    obtain ⟨s, ms, e⟩ := List.mem_map.mp mq
    cases c : P'.find? fun r => Nat.beq r.2.name s.2.name with
    | none =>
      rw [c] at e
      have e : s = q := e
      subst e
      exact .inr ⟨ms, find_no c⟩
    | some r =>
      rw [c] at e
      have e : r = q := e
      subst e
      exact .inl ⟨s, ms, (find_name c).2.symm, (find_name c).1⟩
  have out : ∀ q ∈ T, q.2.name ∉ nsT P' → ∀ s ∈ P, ∀ b ∈ own q.1, b ∉ own s.1 := fun q mq n s ms => hs.dis mq (sub s ms) fun z => n (by rw [ens, z]; exact List.mem_map.mpr ⟨s, ms, rfl⟩)
  have hat : ∀ q ∈ mgT T P', HouseAt K H' q.1 q.2 := fun q mq => by
    rcases cases_ q mq with ⟨_, _, _, m⟩ | ⟨m, n⟩
    · exact hp.at_ q m
    · exact (hs.at_ q m).kept f.kp fun b mb o e => f.keep b o e fun s ms => out q m n s ms b mb
  have dis : ∀ q ∈ mgT T P', ∀ s ∈ mgT T P', q.2.name ≠ s.2.name → ∀ b ∈ own q.1, b ∉ own s.1 := by
    have one : ∀ q ∈ P', ∀ s ∈ T, s.2.name ∉ nsT P' → ∀ b ∈ own q.1, b ∉ own s.1 := fun q mq s ms n b mb z => by
      rcases f.own q mq b mb with ⟨r, mr, zr⟩ | z2
      · exact out s ms n r mr b z zr
      · obtain ⟨o, e, _⟩ := (hs.at_ s ms).there b z
        rw [z2] at e; cases e
    intro q mq s ms n
    rcases cases_ q mq with ⟨_, _, _, m1⟩ | ⟨m1, n1⟩ <;> rcases cases_ s ms with ⟨_, _, _, m2⟩ | ⟨m2, n2⟩
    · exact hp.dis m1 m2 n
    · exact one q m1 s m2 n2
    · exact fun b mb z => one s m2 q m1 n1 b z mb
    · exact hs.dis m1 m2 n
  have nd : (nsT (mgT T P')).Nodup := by rw [mg_ns]; exact hs.nd
  refine ⟨⟨hat, ?_, nd⟩, ⟨?_, fun b o e n => f.keep b o e fun q mq => n q (sub q mq), fun q mq b mb => ?_, f.kp, f.al⟩, fun q mq => ?_⟩
  · have pn : (mgT T P').Pairwise fun q s => q.2.name ≠ s.2.name := by
      have : ((mgT T P').map fun q => q.2.name).Pairwise (· ≠ ·) := nd
      rwa [List.pairwise_map] at this
    exact pn.imp_of_mem fun {q s} mq ms n => dis q mq s ms n
  · unfold kvT mgT
    rw [List.map_map]
    refine List.map_congr_left fun q mq => ?_
    show (nK ((P'.find? fun r => Nat.beq r.2.name q.2.name).getD q).2.name, V.ref ((P'.find? fun r => Nat.beq r.2.name q.2.name).getD q).1.p) = _
    cases c : P'.find? fun r => Nat.beq r.2.name q.2.name with
    | none => rfl
    | some r =>
      obtain ⟨mr, er⟩ := find_name c
      have mk : (nK r.2.name, V.ref r.1.p) ∈ kvT P := by rw [← f.kv]; exact List.mem_map.mpr ⟨r, mr, rfl⟩
      obtain ⟨s, ms, es⟩ := List.mem_map.mp mk
      have e1 := nK_inj (congrArg Prod.fst es)
      have e2 : V.ref s.1.p = V.ref r.1.p := congrArg Prod.snd es
      have e3 := name_inj hs.nd (sub s ms) mq (e1.trans er)
      rw [← e3]
      show (nK r.2.name, V.ref r.1.p) = (nK s.2.name, V.ref s.1.p)
      rw [e1, e2]
  · rcases cases_ q mq with ⟨_, _, _, m1⟩ | ⟨m1, n1⟩
    · rcases f.own q m1 b mb with ⟨r, mr, zr⟩ | z2
      · exact .inl ⟨r, sub r mr, zr⟩
      · exact .inr z2
    · exact .inl ⟨q, m1, mb⟩
  · have hn : q.2.name ∈ nsT T := by
      have : q.2.name ∈ nsT P := by rw [← ens]; exact List.mem_map.mpr ⟨q, mq, rfl⟩
      obtain ⟨s, ms, es⟩ := List.mem_map.mp this
      exact List.mem_map.mpr ⟨s, sub s ms, es⟩
    obtain ⟨i, a, g, hi, en⟩ := ns_at hn
    refine List.mem_map.mpr ⟨(a, g), List.mem_of_getElem? hi, ?_⟩
    show (P'.find? fun r => Nat.beq r.2.name g.name).getD (a, g) = q
    rw [en, find_mem hp.nd mq]; rfl
theorem at_name : ∀ {ws : M.Ws} {x : Nat} {h : M.Hs}, M.at_ x ws = some h → h.name = x
  | [], _, _, e => by cases e
  | g :: ws, x, h, e => by
    have e : (bif Nat.beq g.name x then some g else M.at_ x ws) = some h := e
    cases c : Nat.beq g.name x with
    | true => rw [c] at e; cases e; exact Nat.eq_of_beq_eq_true c
    | false => rw [c] at e; exact at_name e
theorem at_iff : ∀ {ws : M.Ws} {x : Nat}, M.at_ x ws = none ↔ x ∉ ws.map (·.name)
  | [], x => ⟨fun _ z => (nomatch z), fun _ => rfl⟩
  | g :: ws, x => by
    show (bif Nat.beq g.name x then some g else M.at_ x ws) = none ↔ _
    cases c : Nat.beq g.name x with
    | true => exact ⟨fun z => (by cases z), fun z => absurd (List.mem_map.mpr ⟨g, List.mem_cons_self, Nat.eq_of_beq_eq_true c⟩) z⟩
    | false =>
      show M.at_ x ws = none ↔ _
      rw [at_iff, List.map_cons, List.mem_cons, not_or]
      exact ⟨fun z => ⟨fun y => (by rw [y, nbt rfl] at c; cases c), z⟩, fun z => z.2⟩
theorem merge_merge {ws p1 p2 : M.Ws} (e : p1.map (·.name) = p2.map (·.name)) : M.merge (M.merge ws p1) p2 = M.merge ws p2 := by
  unfold M.merge
  rw [List.map_map]
  refine List.map_congr_left fun h _ => ?_
  show (M.at_ ((M.at_ h.name p1).getD h).name p2).getD ((M.at_ h.name p1).getD h) = (M.at_ h.name p2).getD h
  cases c : M.at_ h.name p1 with
  | none => rfl
  | some g =>
    show (M.at_ g.name p2).getD g = _
    rw [at_name c]
    cases c2 : M.at_ h.name p2 with
    | some g2 => rfl
    | none =>
      have : M.at_ h.name p1 = none := at_iff.mpr (by rw [e]; exact at_iff.mp c2)
      rw [c] at this; cases this
theorem ws_ns (T : Tn) : (wsT T).map (·.name) = nsT T := by unfold wsT nsT; rw [List.map_map]; rfl
theorem merge_self {ws p : M.Ws} (h : ∀ g ∈ p, M.at_ g.name ws = some g) (n : (ws.map (·.name)).Nodup) : M.merge ws p = ws := by
  unfold M.merge
  refine (List.map_congr_left fun g mg => ?_).trans (List.map_id ws)
  show (M.at_ g.name p).getD g = g
  cases c : M.at_ g.name p with
  | none => rfl
  | some k =>
    have en := at_name c
    have mk : k ∈ p := by
      clear h n mg en
      induction p with
      | nil => cases c
      | cons y p ih =>
        have c : (bif Nat.beq y.name g.name then some y else M.at_ g.name p) = some k := c
        cases d : Nat.beq y.name g.name with
        | true => rw [d] at c; cases c; exact List.mem_cons_self
        | false => rw [d] at c; exact List.mem_cons_of_mem _ (ih c)
    have e1 := h k mk
    rw [en] at e1
    have e2 : M.at_ g.name ws = some g := by
      clear h c en mk e1
      induction ws with
      | nil => cases mg
      | cons y ws ih =>
        show (bif Nat.beq y.name g.name then some y else M.at_ g.name ws) = some g
        rw [List.map_cons, List.nodup_cons] at n
        rcases List.mem_cons.mp mg with z | z
        · rw [z, nbt rfl]; rfl
        · rw [nbf (fun y2 => n.1 (by rw [y2]; exact List.mem_map.mpr ⟨g, z, rfl⟩))]
          exact ih n.2 z
    rw [e1] at e2
    exact Option.some.inj e2
end Wd
/-! ## P35 -/
set_option Elab.async false
set_option linter.all false
set_option maxRecDepth 100000
set_option maxHeartbeats 400000
namespace Wd
open PySem PySem.Spec PyProof.Rows L2 PySem.W PySem.SeqAt LamX
/-! ### the base behind a lambda's making -/
def isTx : Option HO → Bool
  | some (.tbl _) => true
  | some (.ext _) => true
  | _ => false
def isTb : Option HO → Bool
  | some (.tbl _) => true
  | _ => false
def newB (Hb H1 : Hp) : Hp := fun b => if isTx (H1 b) = true then H1 b else if isTb (Hb b) = true then none else Hb b
theorem newB_tx {Hb H1 : Hp} {b : Addr} (h : isTx (H1 b) = true) : newB Hb H1 b = H1 b := if_pos h
theorem newB_old {Hb H1 : Hp} {b : Addr} {o : HO} (h : Hb b = some o) (e : H1 b = some o) (n : ∀ ps, o ≠ .tbl ps) : newB Hb H1 b = some o := by
  unfold newB
  rw [h, e]
  cases o <;> first | rfl | exact absurd rfl (n _)
theorem newB_none {Hb H1 : Hp} {b : Addr} (h : Hb b = none) (n : isTx (H1 b) = false) : newB Hb H1 b = none := by
  unfold newB
  rw [n, h]; rfl
theorem own_tx {K : PySem.W.Frag} {H : Hp} {a : HA} {h : M.Hs} (hh : HouseAt K H a h) : ∀ b ∈ own a, isTx (H b) = false := by
  intro b mb
  obtain ⟨_, e1, _⟩ := hh.row
  obtain ⟨_, e2, _⟩ := hh.fr
  obtain ⟨_, e3, _⟩ := hh.pr
  obtain ⟨_, e4, _⟩ := hh.ta
  obtain ⟨_, e5⟩ := hh.st.n
  obtain ⟨_, e6, _⟩ := hh.st.s
  have e0 := hh.ob
  unfold own at mb
  simp only [List.mem_cons, List.not_mem_nil, or_false] at mb
  rcases mb with z | z | z | z | z | z | z <;> rw [z] <;> simp only [e0, e1, e2, e3, e4, e5, e6] <;> rfl
theorem newB_keep {Hb Hx H1 : Hp} {pl : Addr} (m : Mv Hb Hx pl) (e : ExtN Hx H1) {b : Addr} {o : HO} (nb : b ≠ pl) (h : newB Hb H1 b = some o) : H1 b = some o := by
  unfold newB at h
  by_cases c : isTx (H1 b) = true
  · rw [if_pos c] at h; exact h
  · rw [if_neg c] at h
    by_cases d : isTb (Hb b) = true
    · rw [if_pos d] at h; cases h
    · rw [if_neg d] at h
      exact e _ _ (m.keep _ _ nb h) fun ps z => d (by rw [h, z]; rfl)
theorem Stg.base {K : PySem.W.Frag} {Hb Hx H1 : Hp} {pl dd : Addr} {T : Tn} (g : Stg K Hb Hx pl dd T) (e : ExtN Hx H1) (k : Kp Hx H1) : Stg K (newB Hb H1) H1 pl dd T := by
  obtain ⟨c0, s0, p0⟩ := g.m.p0
  obtain ⟨c1, s1, p1⟩ := g.m.pool
  have p1' : H1 pl = some (.lst [.int c1, .int s1]) := e _ _ p1 fun _ z => nomatch z
  have hs1 : Hss K H1 T := g.t.hs.kept k fun q mq b mb o eo => e _ _ eo fun ps z => by
    have := own_tx (g.t.hs.at_ q mq) b mb
    rw [eo, z] at this; cases this
  refine ⟨⟨fun b o nb h => newB_keep g.m e nb h, ⟨c0, s0, ?_⟩, c1, s1, p1'⟩, ⟨e _ _ g.t.dict fun _ z => (nomatch z), hs1, g.t.no⟩, fun q mq b mb => newB_none (g.n q mq b mb) (own_tx (hs1.at_ q mq) b mb), g.l, g.e⟩
  unfold newB
  rw [p1', p0]; rfl
theorem ExtN.kp {H H' : Hp} (e : ExtN H H') : Kp H H' := ⟨fun a xs h => e _ _ h fun _ z => (nomatch z), fun a o xs h => e _ _ h fun _ z => (nomatch z)⟩
theorem Tabs.newB {T : List (Addr × Str)} {Hb H1 : Hp} (t : Tabs T H1) : Tabs T (newB Hb H1) := fun p hp => by
  obtain ⟨ps, h1, h2, h3⟩ := t p hp
  refine ⟨ps, by rw [newB_tx (by rw [h1]; rfl)]; exact h1, h2, fun pos cv hc => ?_⟩
  obtain ⟨c, e1, e2⟩ := h3 pos cv hc
  exact ⟨c, e1, by rw [newB_tx (by rw [e2]; rfl)]; exact e2⟩
theorem Tabs.mv {T : List (Addr × Str)} {Hb H' : Hp} {pl : Addr} (t : Tabs T Hb) (m : Mv Hb H' pl) : Tabs T H' := by
  obtain ⟨c0, s0, p0⟩ := m.p0
  have nt : ∀ b o, Hb b = some o → (∀ xs, o ≠ .lst xs) → H' b = some o := fun b o h n => m.keep b o (fun z => by rw [z, p0] at h; exact n _ (Option.some.inj h).symm) h
  intro p hp
  obtain ⟨ps, h1, h2, h3⟩ := t p hp
  refine ⟨ps, nt _ _ h1 fun _ z => (nomatch z), h2, fun pos cv hc => ?_⟩
  obtain ⟨c, e1, e2⟩ := h3 pos cv hc
  exact ⟨c, e1, nt _ _ e2 fun _ z => (by unfold CodeO at z; cases z)⟩
/-- a thing that is no house's, kept through all -/
structure Kt (K : PySem.W.Frag) (H : Hp) (pl : Addr) (T : Tn) (b : Addr) (o : HO) : Prop where
  e : H b = some o
  n : ∀ q ∈ T, b ∉ own q.1
  p : b ≠ pl
theorem Kt.same {K : PySem.W.Frag} {H H1 : Hp} {pl b : Addr} {T : Tn} {o : HO} (k : Kt K H pl T b o) (s : Same H H1) : Kt K H1 pl T b o := ⟨s _ _ k.e, k.n, k.p⟩
theorem Kt.frs {K : PySem.W.Frag} {H H1 : Hp} {pl b : Addr} {T T1 : Tn} {o : HO} (k : Kt K H pl T b o) (f : Frs H H1 T T1) : Kt K H1 pl T1 b o :=
  ⟨f.keep _ _ k.e k.n, own_frs f k.e k.n, k.p⟩
theorem Kt.draw {K : PySem.W.Frag} {H : Hp} {pl b : Addr} {T : Tn} {o u : HO} (k : Kt K H pl T b o) : Kt K (upd H pl u) pl T b o := ⟨by rw [upd_ne k.p]; exact k.e, k.n, k.p⟩
theorem Kt.put {K : PySem.W.Frag} {H : Hp} {pl b c : Addr} {T : Tn} {o u : HO} (k : Kt K H pl T b o) (n : b ≠ c) : Kt K (upd H c u) pl T b o := ⟨by rw [upd_ne n]; exact k.e, k.n, k.p⟩
theorem Kt.ext {K : PySem.W.Frag} {H H1 : Hp} {pl b : Addr} {T : Tn} {o : HO} (k : Kt K H pl T b o) (e : ExtN H H1) (n : ∀ ps, o ≠ .tbl ps) : Kt K H1 pl T b o := ⟨e _ _ k.e n, k.n, k.p⟩
/-- the rows that were told ahead -/
structure Rws (K : PySem.W.Frag) (H : Hp) (pl : Addr) (T : Tn) (D : Addr) (ps : List Addr) (rs : List M.Row) : Prop where
  d : Kt K H pl T D (.lst (ps.map V.ref))
  r : Paired (fun p r => ∃ ws, Kt K H pl T p (.lst ws) ∧ Ds K thD H ws r) ps rs
theorem Rws.same {K : PySem.W.Frag} {H H1 : Hp} {pl D : Addr} {T : Tn} {ps : List Addr} {rs : List M.Row} (k : Rws K H pl T D ps rs) (s : Same H H1) : Rws K H1 pl T D ps rs :=
  ⟨k.d.same s, pd_mono k.r fun p r ⟨ws, a, b⟩ => ⟨ws, a.same s, b.kp (Kp.of s) noL_th⟩⟩
theorem Rws.frs {K : PySem.W.Frag} {H H1 : Hp} {pl D : Addr} {T T1 : Tn} {ps : List Addr} {rs : List M.Row} (k : Rws K H pl T D ps rs) (f : Frs H H1 T T1) : Rws K H1 pl T1 D ps rs :=
  ⟨k.d.frs f, pd_mono k.r fun p r ⟨ws, a, b⟩ => ⟨ws, a.frs f, b.kp f.kp noL_th⟩⟩
theorem Rws.draw {K : PySem.W.Frag} {H : Hp} {pl D : Addr} {T : Tn} {ps : List Addr} {rs : List M.Row} {x y : List V} (k : Rws K H pl T D ps rs) (e : H pl = some (.lst x)) : Rws K (upd H pl (.lst y)) pl T D ps rs :=
  ⟨k.d.draw, pd_mono k.r fun p r ⟨ws, a, b⟩ => ⟨ws, a.draw, b.kp (Kp.lst e) noL_th⟩⟩
theorem Rws.ext {K : PySem.W.Frag} {H H1 : Hp} {pl D : Addr} {T : Tn} {ps : List Addr} {rs : List M.Row} (k : Rws K H pl T D ps rs) (e : ExtN H H1) : Rws K H1 pl T D ps rs :=
  ⟨k.d.ext e fun _ z => (nomatch z), pd_mono k.r fun p r ⟨ws, a, b⟩ => ⟨ws, a.ext e fun _ z => (nomatch z), b.kp (ExtN.kp e) noL_th⟩⟩
/-! ### what the last def's run says -/
structure RP (ws0 : M.Ws) (had : M.Had) (r : List Nat) (u : Nat) (h0 b0 : M.Hs) (bs : M.Ws) (th : M.Ws) (bh : M.Hs) (th2 wsE : M.Ws) (be : M.Hs) : Prop where
  a0 : M.at_ 0 ws0 = some h0
  f : (r.filterMap fun x => M.at_ x (M.setAt 0 (M.beginAnew h0) ws0)) = b0 :: bs
  c : M.calmed (b0 :: bs) (M.bestOf b0 bs).name = some (th, true)
  b : M.at_ (M.bestOf b0 bs).name th = some bh
  l : M.eqL (M.lates bh.row) (List.range (M.topOf had r)) = true
  p : M.putRounds (M.bestOf b0 bs).name .new u th = some th2
  e : M.rounds 5 (M.merge (M.setAt 0 (M.beginAnew h0) ws0) th2) = some wsE
  be_ : M.at_ (M.bestOf b0 bs).name wsE = some be
  all_ : M.allOk wsE be = true
  pre : ((ws0.map fun h => M.upTo h.row h.done).all fun a => M.isPre a be.row) = true
theorem right_parts {ws0 : M.Ws} {had : M.Had} {r : List Nat} {u : Nat} (h : M.rightRun ws0 had r u = some true) : ∃ h0 b0 bs th bh th2 wsE be, RP ws0 had r u h0 b0 bs th bh th2 wsE be := by
  unfold M.rightRun at h
  cases c1 : M.at_ 0 ws0 with
  | none => rw [c1] at h; cases h
  | some h0 =>
    rw [c1] at h
    simp only at h
    cases c2 : r.filterMap fun x => M.at_ x (M.setAt 0 (M.beginAnew h0) ws0) with
    | nil => rw [c2] at h; cases h
    | cons b0 bs =>
      rw [c2] at h
      simp only at h
      cases c3 : M.calmed (b0 :: bs) (M.bestOf b0 bs).name with
      | none => rw [c3] at h; cases h
      | some q =>
        obtain ⟨th, ok⟩ := q
        rw [c3] at h
        simp only at h
        cases c4 : M.at_ (M.bestOf b0 bs).name th with
        | none => rw [c4] at h; cases h
        | some bh =>
          rw [c4] at h
          simp only at h
          cases c5 : ok && M.eqL (M.lates bh.row) (List.range (M.topOf had r)) with
          | false => rw [c5] at h; cases h
          | true =>
            rw [c5] at h
            simp only [cond_true] at h
            rw [Bool.and_eq_true] at c5
            cases c6 : M.putRounds (M.bestOf b0 bs).name .new u th with
            | none => rw [c6] at h; cases h
            | some th2 =>
              rw [c6] at h
              simp only at h
              cases c7 : M.rounds 5 (M.merge (M.setAt 0 (M.beginAnew h0) ws0) th2) with
              | none => rw [c7] at h; cases h
              | some wsE =>
                rw [c7] at h
                simp only at h
                cases c8 : M.at_ (M.bestOf b0 bs).name wsE with
                | none => rw [c8] at h; cases h
                | some be =>
                  rw [c8] at h
                  simp only at h
                  have h := Option.some.inj h
                  rw [Bool.and_eq_true] at h
                  exact ⟨h0, b0, bs, th, bh, th2, wsE, be, c1, c2, by rw [c3, c5.1], c4, c5.2, c6, c7, c8, h.1, h.2⟩
/-! ### the greatest key -/
def keyOf (h : M.Hs) : Nat × M.Pl := (h.epoch, M.last h)
def gtH (y a : M.Hs) : Bool := dataLt (epD a.epoch (M.last a)) (epD y.epoch (M.last y))
theorem gtH_keyLe (y a : M.Hs) : gtH y a = !M.keyLe y a := by
  unfold gtH M.keyLe
  rw [lt_ep]
  unfold M.ple
  rcases Nat.lt_trichotomy y.epoch a.epoch with c | c | c
  · have e1 : Nat.blt a.epoch y.epoch = false := by
      cases z : Nat.blt a.epoch y.epoch with
      | false => rfl
      | true => have := Nat.blt_eq.mp z; omega
    have e2 : Nat.beq a.epoch y.epoch = false := nbf (by omega)
    have e3 : Nat.blt y.epoch a.epoch = true := Nat.blt_eq.mpr c
    rw [e1, e2, e3]; rfl
  · have e1 : Nat.blt a.epoch y.epoch = false := by
      cases z : Nat.blt a.epoch y.epoch with
      | false => rfl
      | true => have := Nat.blt_eq.mp z; omega
    have e2 : Nat.beq a.epoch y.epoch = true := nbt c.symm
    have e3 : Nat.blt y.epoch a.epoch = false := by
      cases z : Nat.blt y.epoch a.epoch with
      | false => rfl
      | true => have := Nat.blt_eq.mp z; omega
    have e4 : Nat.beq y.epoch a.epoch = true := nbt c
    rw [e1, e2, e3, e4]
    cases M.plt (M.last a) (M.last y) <;> rfl
  · have e1 : Nat.blt a.epoch y.epoch = true := Nat.blt_eq.mpr c
    have e2 : Nat.beq y.epoch a.epoch = false := nbf (by omega)
    have e3 : Nat.blt y.epoch a.epoch = false := by
      cases z : Nat.blt y.epoch a.epoch with
      | false => rfl
      | true => have := Nat.blt_eq.mp z; omega
    rw [e1, e2, e3]; rfl
theorem best_fold : ∀ (bs : M.Ws) (b : M.Hs), bs.foldl (fun a y => if gtH y a = true then y else a) b = M.bestOf b bs
  | [], _ => rfl
  | h :: r, b => by
    rw [List.foldl_cons, best_fold r, M.bestOf]
    rw [gtH_keyLe]
    cases M.keyLe h b <;> rfl
theorem best_at (b0 : M.Hs) (bs : M.Ws) : (b0 :: bs)[argBest (btK ((b0 :: bs).map keyOf)) (((b0 :: bs).map keyOf).length - 1)]? = some (M.bestOf b0 bs) := by
  have e : btK ((b0 :: bs).map keyOf) = fun i j => gtH ((b0 :: bs).getD i (M.fresh0 0 [])) ((b0 :: bs).getD j (M.fresh0 0 [])) := by
    funext i j
    unfold btK epOf gtH
    have g : ∀ i, (((b0 :: bs).map keyOf).getD i (0, 0, 0)) = keyOf ((b0 :: bs).getD i (M.fresh0 0 [])) := fun i => by
      rw [List.getD_eq_getElem?_getD, List.getD_eq_getElem?_getD, List.getElem?_map]
      cases (b0 :: bs)[i]? <;> rfl
    rw [g i, g j]; rfl
  have hl : ((b0 :: bs).map keyOf).length - 1 = bs.length := by rw [List.length_map]; rfl
  rw [hl, e]
  obtain ⟨i1, i2⟩ := argBest_fold gtH (M.fresh0 0 []) b0 bs bs.length (Nat.le_refl _)
  rw [List.take_length, best_fold] at i2
  rw [List.getD_eq_getElem?_getD, List.getElem?_eq_getElem (by rw [List.length_cons]; omega)] at i2
  rw [List.getElem?_eq_getElem (by rw [List.length_cons]; omega)]
  exact congrArg some i2
end Wd
/-! ## Pn -/
set_option maxHeartbeats 200000
set_option Elab.async false
set_option linter.all false
set_option maxRecDepth 100000
/-! The plain law, first part: the usual forms, the checks. -/
namespace M
/-! ### equality by Bool -/
theorem peq_eq : ∀ {a b : Pl}, peq a b = true → a = b
  | (a, b), (c, d), h => by
    unfold peq at h
    rw [Bool.and_eq_true] at h
    rw [show a = c from Nat.eq_of_beq_eq_true h.1, show b = d from Nat.eq_of_beq_eq_true h.2]
def enEq : En → En → Bool
  | .early, .early => true
  | .new, .new => true
  | .late a, .late b => Nat.beq a b
  | _, _ => false
theorem enEq_eq : ∀ {a b : En}, enEq a b = true → a = b
  | .early, .early, _ => rfl
  | .new, .new, _ => rfl
  | .late a, .late b, h => by rw [Nat.eq_of_beq_eq_true (show Nat.beq a b = true from h)]
  | .early, .new, h => by cases h
  | .early, .late _, h => by cases h
  | .new, .early, h => by cases h
  | .new, .late _, h => by cases h
  | .late _, .early, h => by cases h
  | .late _, .new, h => by cases h
def eqR : Row → Row → Bool
  | [], [] => true
  | t :: r, u :: s => peq t.1 u.1 && (enEq t.2 u.2 && eqR r s)
  | _, _ => false
theorem eqR_eq : ∀ {a b : Row}, eqR a b = true → a = b
  | [], [], _ => rfl
  | [], _ :: _, h => by cases h
  | _ :: _, [], h => by cases h
  | (p, e) :: r, (q, f) :: s, h => by
    have h : (peq p q && (enEq e f && eqR r s)) = true := h
    rw [Bool.and_eq_true, Bool.and_eq_true] at h
    rw [peq_eq h.1, enEq_eq h.2.1, eqR_eq h.2.2]
def eqDic : Dic → Dic → Bool
  | [], [] => true
  | t :: r, u :: s => Nat.beq t.1 u.1 && (peq t.2 u.2 && eqDic r s)
  | _, _ => false
theorem eqDic_eq : ∀ {a b : Dic}, eqDic a b = true → a = b
  | [], [], _ => rfl
  | [], _ :: _, h => by cases h
  | _ :: _, [], h => by cases h
  | (p, e) :: r, (q, f) :: s, h => by
    have h : (Nat.beq p q && (peq e f && eqDic r s)) = true := h
    rw [Bool.and_eq_true, Bool.and_eq_true] at h
    rw [Nat.eq_of_beq_eq_true h.1, peq_eq h.2.1, eqDic_eq h.2.2]
theorem eqL_eq : ∀ {a b : List Nat}, eqL a b = true → a = b
  | [], [], _ => rfl
  | [], _ :: _, h => by cases h
  | _ :: _, [], h => by cases h
  | p :: r, q :: s, h => by
    have h : (Nat.beq p q && eqL r s) = true := h
    rw [Bool.and_eq_true] at h
    rw [Nat.eq_of_beq_eq_true h.1, eqL_eq h.2]
def eqRole : Role → Role → Bool
  | .seeks, .seeks => true
  | .follows, .follows => true
  | .leads, .leads => true
  | _, _ => false
theorem eqRole_eq : ∀ {a b : Role}, eqRole a b = true → a = b := by
  intro a b h
  cases a <;> cases b <;> first | rfl | cases h
def eqO : Option Nat → Option Nat → Bool
  | none, none => true
  | some a, some b => Nat.beq a b
  | _, _ => false
theorem eqO_eq : ∀ {a b : Option Nat}, eqO a b = true → a = b
  | none, none, _ => rfl
  | some a, some b, h => by rw [Nat.eq_of_beq_eq_true (show Nat.beq a b = true from h)]
  | none, some _, h => by cases h
  | some _, none, h => by cases h
def eqHs (a b : Hs) : Bool := Nat.beq a.name b.name && (eqL a.mem b.mem && (Nat.beq a.promised b.promised && (Nat.beq a.epoch b.epoch && (eqR a.row b.row && (peq a.done b.done && (eqRole a.role b.role &&
  (eqO a.head b.head && (eqO a.sought b.sought && (eqDic a.promises b.promises && (eqDic a.taken b.taken && (Nat.beq a.clock b.clock && Nat.beq a.fresh b.fresh)))))))))))
theorem eqHs_eq : ∀ {a b : Hs}, eqHs a b = true → a = b
  | ⟨a1, a2, a3, a4, a5, a6, a7, a8, a9, a10, a11, a12, a13⟩, ⟨b1, b2, b3, b4, b5, b6, b7, b8, b9, b10, b11, b12, b13⟩, h => by
    unfold eqHs at h
    simp only [Bool.and_eq_true] at h
    obtain ⟨h1, h2, h3, h4, h5, h6, h7, h8, h9, h10, h11, h12, h13⟩ := h
    rw [Nat.eq_of_beq_eq_true h1, eqL_eq h2, Nat.eq_of_beq_eq_true h3, Nat.eq_of_beq_eq_true h4, eqR_eq h5, peq_eq h6, eqRole_eq h7, eqO_eq h8, eqO_eq h9, eqDic_eq h10, eqDic_eq h11, Nat.eq_of_beq_eq_true h12, Nat.eq_of_beq_eq_true h13]
def eqWs : Ws → Ws → Bool
  | [], [] => true
  | a :: r, b :: s => eqHs a b && eqWs r s
  | _, _ => false
theorem eqWs_eq : ∀ {a b : Ws}, eqWs a b = true → a = b
  | [], [], _ => rfl
  | [], _ :: _, h => by cases h
  | _ :: _, [], h => by cases h
  | a :: r, b :: s, h => by
    have h : (eqHs a b && eqWs r s) = true := h
    rw [Bool.and_eq_true] at h
    rw [eqHs_eq h.1, eqWs_eq h.2]
def eqHad : Had → Had → Bool
  | [], [] => true
  | a :: r, b :: s => Nat.beq a.1 b.1 && (Nat.beq a.2 b.2 && eqHad r s)
  | _, _ => false
theorem eqHad_eq : ∀ {a b : Had}, eqHad a b = true → a = b
  | [], [], _ => rfl
  | [], _ :: _, h => by cases h
  | _ :: _, [], h => by cases h
  | (p, e) :: r, (q, f) :: s, h => by
    have h : (Nat.beq p q && (Nat.beq e f && eqHad r s)) = true := h
    rw [Bool.and_eq_true, Bool.and_eq_true] at h
    rw [Nat.eq_of_beq_eq_true h.1, Nat.eq_of_beq_eq_true h.2.1, eqHad_eq h.2.2]
/-! ### all below -/
def allLt : Nat → (Nat → Bool) → Bool
  | 0, _ => true
  | n + 1, f => allLt n f && f n
theorem allLt_get : ∀ {n : Nat} {f : Nat → Bool}, allLt n f = true → ∀ i, i < n → f i = true
  | n + 1, f, h, i, hi => by
    have h : (allLt n f && f n) = true := h
    rw [Bool.and_eq_true] at h
    rcases Nat.lt_succ_iff_lt_or_eq.mp hi with z | z
    · exact allLt_get h.1 i z
    · rw [z]; exact h.2
/-! ### the usual forms -/
def pl1 (n : Nat) : Pl := bif Nat.beq n 0 then (0, 0) else (1, n)
def eRow : Nat → Row
  | 0 => []
  | t + 1 => eRow t ++ [((1, t + 1), .early)]
def rowL (t : Nat) : Nat → Row
  | 0 => eRow t
  | k + 1 => rowL t k ++ [((1, t + k + 1), .late k)]
def rowN (t k : Nat) : Nat → Row
  | 0 => rowL t k
  | u + 1 => rowN t k u ++ [((2, u + 1), .new)]
def lastN (t k u : Nat) : Pl := bif Nat.beq u 0 then pl1 (t + k) else (2, u)
def hA (mem : List Nat) (t m : Nat) : Hs := ⟨0, mem, 1, 1, rowL t m, pl1 t, .leads, some 0, some 1, mem.map fun x => (x, (0, 0)), mem.map fun x => (x, bif Nat.beq x 0 then pl1 (t + m) else pl1 t), 0, t⟩
def hX (mem : List Nat) (t k x : Nat) : Hs := ⟨x, mem, 1, 1, rowL t k, pl1 t, .follows, some 0, none, [], [], 0, t⟩
def lateC (mem : List Nat) (t m : Nat) (v : Nat → Nat) : Ws := mem.map fun x => bif Nat.beq x 0 then hA mem t m else hX mem t (v x) x
def hadC (mem : List Nat) (m : Nat) (v : Nat → Nat) : Had := mem.map fun x => (x, bif Nat.beq x 0 then m else v x)
def keysC (r : List Nat) (b : Nat) : List Nat := b :: r.filter fun x => !Nat.beq x b
def hL (mem : List Nat) (r : List Nat) (b t top u : Nat) (p : Nat → Pl) : Hs := ⟨b, mem, 2, 2, rowN t top u, lastN t top u, .leads, some b, some 2, (keysC r b).map fun x => (x, p x), (keysC r b).map fun x => (x, lastN t top u), 0, t + top + u⟩
def hF (mem : List Nat) (b t top u x : Nat) : Hs := ⟨x, mem, 2, 2, rowN t top u, lastN t top u, .follows, some b, none, [], [], 0, t + top + u⟩
def calmC (mem r : List Nat) (b t top u : Nat) (p : Nat → Pl) : Ws := r.map fun x => bif Nat.beq x b then hL mem r b t top u p else hF mem b t top u x
/-! ### a state that a round leaves as it is -/
def isNil {α : Type} : List α → Bool
  | [] => true
  | _ :: _ => false
def stillL (ws : Ws) (l : Lt) : Bool := match at_ l.dst ws with
  | none => true
  | some h => match take h l with
    | none => false
    | some (h', ms) => isNil ms && eqHs h' h
def quietB (ws : Ws) : Bool := match beats ws with
  | none => false
  | some (_, ls) => Nat.ble ls.length 400 && ls.all fun l => stillL ws l
theorem beat_same {h h' : Hs} {ls : List Lt} (e : beat h = some (h', ls)) : h' = h := by
  unfold beat at e
  cases c : isLeads h.role with
  | false => rw [c] at e; cases e; rfl
  | true =>
    rw [c] at e
    simp only [cond_true] at e
    cases d : catO (beatFor h) (others h) with
    | none => rw [d] at e; cases e
    | some x => rw [d] at e; cases e; rfl
theorem beats_same : ∀ {ws ws' : Ws} {ls : List Lt}, beats ws = some (ws', ls) → ws' = ws
  | [], _, _, e => by cases e; rfl
  | h :: r, ws', ls, e => by
    rw [beats] at e
    cases c : beat h with
    | none => rw [c] at e; cases e
    | some q =>
      obtain ⟨h1, l1⟩ := q
      rw [c] at e
      simp only at e
      cases d : beats r with
      | none => rw [d] at e; cases e
      | some q2 =>
        obtain ⟨r1, m1⟩ := q2
        rw [d] at e
        cases e
        rw [beat_same c, beats_same d]
theorem give_still : ∀ {ws : Ws} {l : Lt}, stillL ws l = true → give ws l = some (ws, [])
  | [], l, _ => by rw [give]
  | h :: r, l, e => by
    unfold stillL at e
    rw [at_] at e
    rw [give]
    cases c : Nat.beq h.name l.dst with
    | true =>
      rw [c] at e
      simp only [cond_true] at e ⊢
      cases d : take h l with
      | none => rw [d] at e; cases e
      | some q =>
        obtain ⟨h', ms⟩ := q
        rw [d] at e
        have e : (isNil ms && eqHs h' h) = true := e
        rw [Bool.and_eq_true] at e
        cases ms with
        | nil => rw [eqHs_eq e.2]
        | cons _ _ => cases e.1
    | false =>
      rw [c] at e
      simp only [cond_false] at e ⊢
      rw [give_still (ws := r) (l := l) e]
theorem drain_still : ∀ {k : Nat} {ws : Ws} {ls : List Lt}, ls.length ≤ k → (∀ l ∈ ls, stillL ws l = true) → drain k ws ls = some ws
  | 0, ws, [], _, _ => by rw [drain]
  | k + 1, ws, [], _, _ => by rw [drain]
  | 0, _, _ :: _, h, _ => by rw [List.length_cons] at h; omega
  | k + 1, ws, l :: ls, h, hs => by
    rw [drain, give_still (hs l List.mem_cons_self)]
    show drain k ws (ls ++ []) = some ws
    rw [List.append_nil]
    exact drain_still (by rw [List.length_cons] at h; omega) fun y m => hs y (List.mem_cons_of_mem _ m)
theorem round_quiet {ws : Ws} (h : quietB ws = true) : round ws [] = some ws := by
  unfold quietB at h
  unfold round
  cases c : beats ws with
  | none => rw [c] at h; cases h
  | some q =>
    obtain ⟨ws', ls⟩ := q
    rw [c] at h
    have h : (Nat.ble ls.length 400 && ls.all fun l => stillL ws l) = true := h
    rw [Bool.and_eq_true] at h
    rw [beats_same c]
    show drain fuel ws ([] ++ ls) = some ws
    rw [List.nil_append]
    exact drain_still (Nat.le_of_ble_eq_true h.1) fun l m => List.all_eq_true.mp h.2 l m
theorem rounds_quiet {ws : Ws} (h : quietB ws = true) : ∀ k, rounds k ws = some ws
  | 0 => by rw [rounds]
  | k + 1 => by
    rw [rounds, round_quiet h]
    exact rounds_quiet h k
def allF (ws : Ws) (b : Hs) : Bool := ws.all fun h => eqR h.row b.row && (eqR (upTo h.row h.done) h.row && headOk h b.name)
theorem eqRow_self : ∀ a : Row, eqRow a a = true
  | [] => rfl
  | (p, e) :: r => by
    show (peq p p && (decide (e = e) && eqRow r r)) = true
    unfold peq
    rw [show Nat.beq p.1 p.1 = true from Nat.beq_refl _, show Nat.beq p.2 p.2 = true from Nat.beq_refl _, decide_eq_true rfl, eqRow_self r]; rfl
theorem allF_ok {ws : Ws} {b : Hs} (h : allF ws b = true) : allOk ws b = true := by
  unfold allF at h
  unfold allOk
  rw [List.all_eq_true] at h ⊢
  intro g m
  have e := h g m
  rw [Bool.and_eq_true, Bool.and_eq_true] at e
  have e1 := eqRow_self g.row
  rw [eqR_eq e.2.1, e1, ← eqR_eq e.1, e1, e.2.2]; rfl
/-! ### the checks -/
def chkA (d t : Nat) : Bool := match started d t with
  | none => false
  | some ws => eqWs ws (lateC (mems d) t 0 fun _ => 0)
def vS (ss : List (List Nat)) (x : Nat) : Nat := (ss.filter fun s => s.any fun y => Nat.beq y x).length
def chkB (mem : List Nat) (t : Nat) (ss : List (List Nat)) : Bool := match lateRun 0 ss (lateC mem t 0 fun _ => 0) (hadC mem 0 fun _ => 0) with
  | none => false
  | some (ws, had) => eqWs ws (lateC mem t ss.length (vS ss)) && eqHad had (hadC mem ss.length (vS ss))
def thereC (mem : List Nat) (t : Nat) (r : List Nat) (v : Nat → Nat) : Ws := r.map fun x => hX mem t (v x) x
def topC (r : List Nat) (v : Nat → Nat) : Nat := r.foldl (fun m x => Nat.max m (v x)) 0
def bstC (v : Nat → Nat) : Nat → List Nat → Nat
  | b, [] => b
  | b, x :: r => bstC v (bif Nat.ble (v x) (v b) then b else x) r
/-- f at a number below, made plain first -/
def pick : Nat → Nat → (Nat → Bool) → Bool
  | 0, n, f => Nat.beq n 0 && f 0
  | k + 1, n, f => bif Nat.beq n (k + 1) then f (k + 1) else pick k n f
theorem pick_get : ∀ {k n : Nat} {f : Nat → Bool}, pick k n f = true → f n = true
  | 0, n, f, h => by
    have h : (Nat.beq n 0 && f 0) = true := h
    rw [Bool.and_eq_true] at h
    rw [Nat.eq_of_beq_eq_true h.1]; exact h.2
  | k + 1, n, f, h => by
    have h : (bif Nat.beq n (k + 1) then f (k + 1) else pick k n f) = true := h
    cases c : Nat.beq n (k + 1) with
    | true => rw [c] at h; rw [Nat.eq_of_beq_eq_true c]; exact h
    | false => rw [c] at h; exact pick_get h
def rounds2 (ws : Ws) (ls : List Lt) : Option Ws := match round ws ls with
  | none => none
  | some w1 => round w1 []
def chkC (mem : List Nat) (t y : Nat) (s : List Nat) (v : Nat → Nat) : Bool := pick 3 (topC (y :: s) v) fun top => pick 4 (bstC v y s) fun b => match thereC mem t (y :: s) v with
  | [] => false
  | b0 :: bs => Nat.beq (bestOf b0 bs).name b && match at_ b (b0 :: bs) with
    | none => false
    | some h => match rounds2 (setAt b (seek h).1 (b0 :: bs)) (seek h).2 with
      | none => false
      | some th => eqWs th (calmC mem (y :: s) b t top 0 fun x => pl1 (t + v x))
def chkQ (mem : List Nat) (t y : Nat) (s : List Nat) (p : Nat → Pl) (top b : Nat) : Bool := quietB (calmC mem (y :: s) b t top 0 p) && isSettled (hL mem (y :: s) b t top 0 p)
def tailRun (ws1 th : Ws) (b u : Nat) (pre : Row) : Bool := match putRounds b .new u th with
  | none => false
  | some th2 => match round (merge ws1 th2) [] with
    | none => false
    | some wsE => quietB wsE && match at_ b wsE with
      | none => false
      | some be => allF wsE be && isPre pre be.row
def chkE (mem : List Nat) (t m top u : Nat) (r : List Nat) (b : Nat) (v : Nat → Nat) (p : Nat → Pl) : Bool :=
  tailRun (setAt 0 (beginAnew (hA mem t m)) (lateC mem t m v)) (calmC mem r b t top 0 p) b u (eRow t)
def vk (k1 k2 k3 k4 x : Nat) : Nat := bif Nat.beq x 1 then k1 else bif Nat.beq x 2 then k2 else bif Nat.beq x 3 then k3 else k4
def vLo (lo k : Nat) (q : Nat → Nat) (x : Nat) : Nat := bif Nat.beq x lo then k else q x
end M
namespace M
/-! ### all of them -/
def inL (r : List Nat) (x : Nat) : Bool := r.any fun y => Nat.beq y x
def many (r : List Nat) (x : Nat) : Nat := bif inL r x then 4 else 1
def allC (mem : List Nat) (t y : Nat) (s : List Nat) : Bool := allLt (many (y :: s) 1) fun k1 => allLt (many (y :: s) 2) fun k2 => allLt (many (y :: s) 3) fun k3 => allLt (many (y :: s) 4) fun k4 => chkC mem t y s (vk k1 k2 k3 k4)
def allE (mem : List Nat) (t lo y : Nat) (s : List Nat) (v : Nat → Nat) (p : Nat → Pl) : Bool := allLt 4 fun m => allLt (m + 1) fun top => allLt (bif Nat.beq lo 0 then 1 else m + 1) fun k => allLt 3 fun u =>
  chkE mem t m top u (y :: s) y (vLo lo k v) p && (Nat.beq top 0 || s.all fun b => chkE mem t m top u (y :: s) b (vLo lo k v) p)
def allQ (mem : List Nat) (t y : Nat) (s : List Nat) (p : Nat → Pl) : Bool := allLt 4 fun top => chkQ mem t y s p top y && (Nat.beq top 0 || s.all fun b => chkQ mem t y s p top b)
def subs : List Nat → List (List Nat)
  | [] => [[]]
  | x :: r => bif Nat.beq x 0 then (subs r).map (x :: ·) else (subs r).map (x :: ·) ++ subs r
theorem subs_mem {f : Nat → Bool} (f0 : f 0 = true) : ∀ r : List Nat, r.filter f ∈ subs r
  | [] => List.mem_singleton.mpr rfl
  | x :: r => by
    have ih := subs_mem f0 r
    unfold subs
    cases c : Nat.beq x 0 with
    | true =>
      rw [Nat.eq_of_beq_eq_true c, List.filter_cons_of_pos f0]
      exact List.mem_map.mpr ⟨_, ih, rfl⟩
    | false =>
      show _ ∈ (subs r).map (x :: ·) ++ subs r
      cases cf : f x with
      | true => rw [List.filter_cons_of_pos cf]; exact List.mem_append_left _ (List.mem_map.mpr ⟨_, ih, rfl⟩)
      | false => rw [List.filter_cons_of_neg (by rw [cf]; decide)]; exact List.mem_append_right _ ih
def chs : Nat → List Nat → List (List (List Nat))
  | 0, _ => [[]]
  | n + 1, s0 => [] :: (subs s0).flatMap fun s => (chs n s).map (s :: ·)
theorem chs_mem : ∀ {n : Nat} {s0 : List Nat} {ss : List (List Nat)}, Wd.Chain s0 ss → ss.length ≤ n → ss ∈ chs n s0
  | 0, _, [], _, _ => List.mem_singleton.mpr rfl
  | 0, _, _ :: _, _, h => by rw [List.length_cons] at h; omega
  | n + 1, _, [], _, _ => List.mem_cons_self
  | n + 1, s0, s :: ss, ⟨⟨f, f0, e⟩, h⟩, hl => by
    rw [List.length_cons] at hl
    have ih := chs_mem h (n := n) (by omega)
    exact List.mem_cons_of_mem _ (List.mem_flatMap.mpr ⟨s, by rw [e]; exact subs_mem f0 s0, List.mem_map.mpr ⟨ss, ih, rfl⟩⟩)
def allB (mem : List Nat) (t : Nat) : Bool := (chs 3 mem).all fun ss => chkB mem t ss
/-! ### what the checks say -/
theorem eE_k {mem : List Nat} {t lo y m top u k : Nat} {s : List Nat} {v : Nat → Nat} {p : Nat → Pl} {b : Nat} (h : allE mem t lo y s v p = true) (hm : m < 4) (ht : top ≤ m) (hk : k < (bif Nat.beq lo 0 then 1 else m + 1)) (hu : u < 3) (hb : b = y ∨ top ≠ 0 ∧ b ∈ s) :
    chkE mem t m top u (y :: s) b (vLo lo k v) p = true := by
  have h1 := allLt_get (allLt_get (allLt_get (allLt_get h m hm) top (by omega)) k hk) u hu
  rw [Bool.and_eq_true, Bool.or_eq_true] at h1
  rcases hb with rfl | ⟨n, mb⟩
  · exact h1.1
  · rcases h1.2 with z | z
    · exact absurd (Nat.eq_of_beq_eq_true z) n
    · exact List.all_eq_true.mp z b mb
theorem chkA_eq {d t : Nat} (h : chkA d t = true) : started d t = some (lateC (mems d) t 0 fun _ => 0) := by
  unfold chkA at h
  cases c : started d t with
  | none => rw [c] at h; cases h
  | some ws => rw [c] at h; rw [eqWs_eq h]
theorem chkB_eq {mem : List Nat} {t : Nat} {ss : List (List Nat)} (h : chkB mem t ss = true) : lateRun 0 ss (lateC mem t 0 fun _ => 0) (hadC mem 0 fun _ => 0) = some (lateC mem t ss.length (vS ss), hadC mem ss.length (vS ss)) := by
  unfold chkB at h
  cases c : lateRun 0 ss (lateC mem t 0 fun _ => 0) (hadC mem 0 fun _ => 0) with
  | none => rw [c] at h; cases h
  | some q =>
    obtain ⟨ws, had⟩ := q
    rw [c] at h
    have h : (eqWs ws (lateC mem t ss.length (vS ss)) && eqHad had (hadC mem ss.length (vS ss))) = true := h
    rw [Bool.and_eq_true] at h
    rw [eqWs_eq h.1, eqHad_eq h.2]
theorem allQ_get {mem : List Nat} {t y top b : Nat} {s : List Nat} {p : Nat → Pl} (h : allQ mem t y s p = true) (ht : top < 4) (hb : b = y ∨ top ≠ 0 ∧ b ∈ s) : chkQ mem t y s p top b = true := by
  have h1 := allLt_get h top ht
  rw [Bool.and_eq_true, Bool.or_eq_true] at h1
  rcases hb with rfl | ⟨n, mb⟩
  · exact h1.1
  · rcases h1.2 with z | z
    · exact absurd (Nat.eq_of_beq_eq_true z) n
    · exact List.all_eq_true.mp z b mb
theorem chkC_eq {mem : List Nat} {t y : Nat} {s : List Nat} {v : Nat → Nat} (h : chkC mem t y s v = true) : ∃ b0 bs h0, thereC mem t (y :: s) v = b0 :: bs ∧ (bestOf b0 bs).name = bstC v y s ∧ at_ (bstC v y s) (b0 :: bs) = some h0 ∧
    rounds2 (setAt (bstC v y s) (seek h0).1 (b0 :: bs)) (seek h0).2 = some (calmC mem (y :: s) (bstC v y s) t (topC (y :: s) v) 0 fun x => pl1 (t + v x)) := by
  have h := pick_get (pick_get h)
  cases c : thereC mem t (y :: s) v with
  | nil => rw [c] at h; cases h
  | cons b0 bs =>
    rw [c] at h
    have h : (Nat.beq (bestOf b0 bs).name (bstC v y s) && match at_ (bstC v y s) (b0 :: bs) with
      | none => false
      | some h => match rounds2 (setAt (bstC v y s) (seek h).1 (b0 :: bs)) (seek h).2 with
        | none => false
        | some th => eqWs th (calmC mem (y :: s) (bstC v y s) t (topC (y :: s) v) 0 fun x => pl1 (t + v x))) = true := h
    rw [Bool.and_eq_true] at h
    obtain ⟨h1, h2⟩ := h
    cases c1 : at_ (bstC v y s) (b0 :: bs) with
    | none => rw [c1] at h2; cases h2
    | some h0 =>
      rw [c1] at h2
      have h2 : (match rounds2 (setAt (bstC v y s) (seek h0).1 (b0 :: bs)) (seek h0).2 with
        | none => false
        | some th => eqWs th (calmC mem (y :: s) (bstC v y s) t (topC (y :: s) v) 0 fun x => pl1 (t + v x))) = true := h2
      cases c2 : rounds2 (setAt (bstC v y s) (seek h0).1 (b0 :: bs)) (seek h0).2 with
      | none => rw [c2] at h2; cases h2
      | some th =>
        rw [c2] at h2
        exact ⟨b0, bs, h0, rfl, Nat.eq_of_beq_eq_true h1, c1, by rw [c2, eqWs_eq h2]⟩
theorem calm_quiet {ws w2 : Ws} {x : Nat} {h h1 : Hs} (e : at_ x ws = some h) (e1 : rounds2 (setAt x (seek h).1 ws) (seek h).2 = some w2) (q : quietB w2 = true) (e2 : at_ x w2 = some h1) : calmed ws x = some (w2, isSettled h1) := by
  unfold rounds2 at e1
  unfold calmed
  rw [e]
  show (match round (setAt x (seek h).1 ws) (seek h).2 with
    | none => none
    | some ws => _) = _
  cases c : round (setAt x (seek h).1 ws) (seek h).2 with
  | none => rw [c] at e1; cases e1
  | some w1 =>
    rw [c] at e1
    have e1 : round w1 [] = some w2 := e1
    show (match rounds 3 w1 with
      | none => none
      | some ws => _) = _
    rw [rounds, e1]
    show (match rounds 2 w2 with
      | none => none
      | some ws => _) = _
    rw [rounds_quiet q 2]
    show (match at_ x w2 with
      | none => none
      | some h => _) = _
    rw [e2]
theorem bst_mem (v : Nat → Nat) : ∀ (s : List Nat) (y : Nat), bstC v y s ∈ y :: s
  | [], y => List.mem_singleton.mpr rfl
  | x :: s, y => by
    unfold bstC
    cases c : Nat.ble (v x) (v y) with
    | true =>
      rcases List.mem_cons.mp (bst_mem v s y) with z | z
      · exact List.mem_cons.mpr (.inl z)
      · exact List.mem_cons_of_mem _ (List.mem_cons_of_mem _ z)
    | false => exact List.mem_cons_of_mem _ (bst_mem v s x)
theorem bst_zero {v : Nat → Nat} : ∀ {s : List Nat} {y : Nat}, (∀ x ∈ y :: s, v x = 0) → bstC v y s = y
  | [], y, _ => rfl
  | x :: s, y, h => by
    unfold bstC
    have e : Nat.ble (v x) (v y) = true := by rw [h x (List.mem_cons_of_mem _ List.mem_cons_self)]; exact Nat.ble_eq_true_of_le (Nat.zero_le _)
    rw [e]
    exact bst_zero fun z m => by
      rcases List.mem_cons.mp m with q | q
      · exact h z (List.mem_cons.mpr (.inl q))
      · exact h z (List.mem_cons_of_mem _ (List.mem_cons_of_mem _ q))
theorem fold_max {v : Nat → Nat} : ∀ (r : List Nat) (a n : Nat), r.foldl (fun m x => Nat.max m (v x)) a ≤ n ↔ a ≤ n ∧ ∀ x ∈ r, v x ≤ n
  | [], a, n => ⟨fun h => ⟨h, fun _ m => nomatch m⟩, fun h => h.1⟩
  | x :: r, a, n => by
    rw [List.foldl_cons, fold_max r]
    constructor
    · intro h
      have h1 : max a (v x) ≤ n := h.1
      refine ⟨by omega, fun z m => ?_⟩
      rcases List.mem_cons.mp m with rfl | m
      · omega
      · exact h.2 z m
    · intro h
      have h1 := h.2 x List.mem_cons_self
      refine ⟨show max a (v x) ≤ n by have := h.1; omega, fun z m => h.2 z (List.mem_cons_of_mem _ m)⟩
theorem top_le {r : List Nat} {v : Nat → Nat} {n : Nat} (h : ∀ x, v x ≤ n) : topC r v ≤ n := (fold_max r 0 n).mpr ⟨Nat.zero_le _, fun x _ => h x⟩
theorem top_zero {r : List Nat} {v : Nat → Nat} (h : topC r v = 0) : ∀ x ∈ r, v x = 0 := fun x m => Nat.le_zero.mp (((fold_max r 0 0).mp (Nat.le_of_eq h)).2 x m)
theorem at_calm {mem r0 : List Nat} {b t top u : Nat} {p : Nat → Pl} : ∀ {r : List Nat}, b ∈ r → at_ b (r.map fun x => bif Nat.beq x b then hL mem r0 b t top u p else hF mem b t top u x) = some (hL mem r0 b t top u p)
  | [], m => nomatch m
  | x :: r, m => by
    rw [List.map_cons, at_]
    cases c : Nat.beq x b with
    | true =>
      show (bif Nat.beq b b then some (hL mem r0 b t top u p) else _) = _
      have e : Nat.beq b b = true := Nat.beq_refl b
      rw [e]; rfl
    | false =>
      show (bif Nat.beq x b then _ else at_ b (r.map _)) = _
      rw [c]
      refine at_calm ?_
      rcases List.mem_cons.mp m with z | z
      · rw [z, show Nat.beq x x = true from Nat.beq_refl x] at c; cases c
      · exact z
theorem pre_tab : (allLt 4 fun t => allLt 4 fun k => eqR (upTo (rowL t k) (pl1 t)) (eRow t) && eqL (lates (rowN t k 0)) (List.range k)) = true := by decide +kernel
theorem pre_row {t k : Nat} (ht : t < 4) (hk : k < 4) : upTo (rowL t k) (pl1 t) = eRow t := by
  have h := allLt_get (allLt_get pre_tab t ht) k hk
  rw [Bool.and_eq_true] at h
  exact eqR_eq h.1
theorem pre_lates {t k : Nat} (ht : t < 4) (hk : k < 4) : eqL (lates (rowN t k 0)) (List.range k) = true := by
  have h := allLt_get (allLt_get pre_tab t ht) k hk
  rw [Bool.and_eq_true] at h
  exact h.2
theorem pre_all {mem : List Nat} {t m : Nat} {v : Nat → Nat} {row : Row} (ht : t < 4) (hm : m < 4) (hv : ∀ x, v x ≤ m) (h : isPre (eRow t) row = true) : (((lateC mem t m v).map fun h => upTo h.row h.done).all fun a => isPre a row) = true := by
  rw [List.all_eq_true]
  intro a ma
  obtain ⟨g, mg, rfl⟩ := List.mem_map.mp ma
  unfold lateC at mg
  obtain ⟨x, mx, rfl⟩ := List.mem_map.mp mg
  have hx := hv x
  cases Nat.beq x 0 with
  | true =>
    show isPre (upTo (rowL t m) (pl1 t)) row = true
    rw [pre_row ht hm]; exact h
  | false =>
    show isPre (upTo (rowL t (v x)) (pl1 t)) row = true
    rw [pre_row ht (by omega)]; exact h
/-- the last def, of the usual forms -/
theorem there_congr {mem : List Nat} {t : Nat} {r : List Nat} {v v' : Nat → Nat} (h : ∀ x ∈ r, v' x = v x) : thereC mem t r v' = thereC mem t r v := List.map_congr_left fun x m => by rw [h x m]
theorem top_congr {v v' : Nat → Nat} : ∀ (r : List Nat) (a : Nat), (∀ x ∈ r, v' x = v x) → r.foldl (fun m x => Nat.max m (v' x)) a = r.foldl (fun m x => Nat.max m (v x)) a
  | [], _, _ => rfl
  | x :: r, a, h => by
    rw [List.foldl_cons, List.foldl_cons, h x List.mem_cons_self]
    exact top_congr r _ fun y m => h y (List.mem_cons_of_mem _ m)
theorem bst_congr {v v' : Nat → Nat} : ∀ (s : List Nat) (y : Nat), (∀ x ∈ y :: s, v' x = v x) → bstC v' y s = bstC v y s
  | [], _, _ => rfl
  | x :: s, y, h => by
    unfold bstC
    rw [h x (List.mem_cons_of_mem _ List.mem_cons_self), h y List.mem_cons_self]
    cases Nat.ble (v x) (v y) with
    | true =>
      refine bst_congr s y fun z m => ?_
      rcases List.mem_cons.mp m with q | q
      · rw [q]; exact h y List.mem_cons_self
      · exact h z (List.mem_cons_of_mem _ (List.mem_cons_of_mem _ q))
    | false => exact bst_congr s x fun z m => h z (List.mem_cons_of_mem _ m)
theorem right_ok {mem : List Nat} {t m lo y u : Nat} {s : List Nat} {v v' : Nat → Nat} (hv' : ∀ x ∈ y :: s, v' x = v x) (ht : t < 4) (hm : m < 4) (hu : u < 3) (hv : ∀ x, v x ≤ m)
    (hC : chkC mem t y s v' = true) (hQ : ∀ p, allQ mem t y s p = true) (hE : ∀ p, allE mem t lo y s v p = true) (e1 : at_ 0 (lateC mem t m v) = some (hA mem t m))
    (e2 : ((y :: s).filterMap fun x => at_ x (setAt 0 (beginAnew (hA mem t m)) (lateC mem t m v))) = thereC mem t (y :: s) v) (e3 : topOf (hadC mem m v) (y :: s) = topC (y :: s) v) (e4 : lo = 0 → lateC mem t m (vLo 0 0 v) = lateC mem t m v) :
    rightRun (lateC mem t m v) (hadC mem m v) (y :: s) u = some true := by
  obtain ⟨b0, bs, h1, q1, q2, q4, q5⟩ := chkC_eq hC
  rw [there_congr hv'] at q1
  rw [bst_congr s y hv'] at q2 q4
  rw [bst_congr s y hv', show topC (y :: s) v' = topC (y :: s) v from top_congr _ _ hv'] at q5
  obtain ⟨b, hb⟩ : ∃ b, bstC v y s = b := ⟨_, rfl⟩
  obtain ⟨top, htop⟩ : ∃ top, topC (y :: s) v = top := ⟨_, rfl⟩
  have hbm : b ∈ y :: s := by rw [← hb]; exact bst_mem v s y
  have htm : top ≤ m := by rw [← htop]; exact top_le hv
  rw [hb, htop] at q5
  rw [hb] at q2 q4
  have hbo : b = y ∨ top ≠ 0 ∧ b ∈ s := by
    by_cases c : top = 0
    · left
      rw [← hb]
      exact bst_zero (top_zero (by rw [htop]; exact c))
    · rcases List.mem_cons.mp hbm with z | z
      · exact .inl z
      · exact .inr ⟨c, z⟩
  have hQ2 := allQ_get (hQ fun x => pl1 (t + v' x)) (show top < 4 by omega) hbo
  unfold chkQ at hQ2
  rw [Bool.and_eq_true] at hQ2
  have q3 : calmed (b0 :: bs) b = some (calmC mem (y :: s) b t top 0 fun x => pl1 (t + v' x), true) := by
    have z := calm_quiet q4 q5 hQ2.1 (show at_ b (calmC mem (y :: s) b t top 0 fun x => pl1 (t + v' x)) = _ from at_calm hbm)
    rw [hQ2.2] at z; exact z
  have hE2 : chkE mem t m top u (y :: s) b v (fun x => pl1 (t + v' x)) = true := by
    by_cases c : lo = 0
    · have h := eE_k (k := 0) (hE fun x => pl1 (t + v' x)) hm htm (by rw [c]; exact Nat.zero_lt_one) hu hbo
      rw [c] at h
      unfold chkE at h ⊢
      rwa [e4 c] at h
    · have h := eE_k (k := v lo) (hE fun x => pl1 (t + v' x)) hm htm (by
        have : Nat.beq lo 0 = false := by
          cases z : Nat.beq lo 0 with
          | true => exact absurd (Nat.eq_of_beq_eq_true z) c
          | false => rfl
        rw [this]; exact Nat.lt_succ_of_le (hv lo)) hu hbo
      have ev : vLo lo (v lo) v = v := funext fun x => by
        unfold vLo
        cases z : Nat.beq x lo with
        | true => rw [Nat.eq_of_beq_eq_true z]; rfl
        | false => rfl
      rwa [ev] at h
  unfold chkE tailRun at hE2
  unfold rightRun
  rw [e1]
  show (match (y :: s).filterMap fun x => at_ x (setAt 0 (beginAnew (hA mem t m)) (lateC mem t m v)) with
    | [] => none
    | b0 :: bs => _) = some true
  rw [e2, q1]
  show (match calmed (b0 :: bs) (bestOf b0 bs).name with
    | none => none
    | some (th, ok) => _) = some true
  rw [q2, q3]
  show (match at_ b (calmC mem (y :: s) b t top 0 fun x => pl1 (t + v' x)) with
    | none => none
    | some bh => _) = some true
  rw [show at_ b (calmC mem (y :: s) b t top 0 fun x => pl1 (t + v' x)) = _ from at_calm hbm]
  show (bif true && eqL (lates (rowN t top 0)) (List.range (topOf (hadC mem m v) (y :: s))) then _ else none) = some true
  rw [e3, htop, pre_lates ht (by omega)]
  show (match putRounds b .new u (calmC mem (y :: s) b t top 0 fun x => pl1 (t + v' x)) with
    | none => none
    | some th2 => _) = some true
  cases c1 : putRounds b .new u (calmC mem (y :: s) b t top 0 fun x => pl1 (t + v' x)) with
  | none => rw [c1] at hE2; cases hE2
  | some th2 =>
    rw [c1] at hE2
    show (match rounds 5 (merge (setAt 0 (beginAnew (hA mem t m)) (lateC mem t m v)) th2) with
      | none => none
      | some wsE => _) = some true
    have hE2 : (match round (merge (setAt 0 (beginAnew (hA mem t m)) (lateC mem t m v)) th2) [] with
      | none => false
      | some wsE => quietB wsE && match at_ b wsE with
        | none => false
        | some be => allF wsE be && isPre (eRow t) be.row) = true := hE2
    cases c2 : round (merge (setAt 0 (beginAnew (hA mem t m)) (lateC mem t m v)) th2) [] with
    | none => rw [c2] at hE2; cases hE2
    | some wsE =>
      rw [c2] at hE2
      have hE2 : (quietB wsE && match at_ b wsE with
        | none => false
        | some be => allF wsE be && isPre (eRow t) be.row) = true := hE2
      rw [Bool.and_eq_true] at hE2
      obtain ⟨hq, hE2⟩ := hE2
      have r5 : rounds 5 (merge (setAt 0 (beginAnew (hA mem t m)) (lateC mem t m v)) th2) = some wsE := by
        rw [rounds, c2]
        exact rounds_quiet hq 4
      rw [r5]
      show (match at_ b wsE with
        | none => none
        | some be => _) = some true
      cases c3 : at_ b wsE with
      | none => rw [c3] at hE2; cases hE2
      | some be =>
        rw [c3] at hE2
        have hE2 : (allF wsE be && isPre (eRow t) be.row) = true := hE2
        rw [Bool.and_eq_true] at hE2
        show some (allOk wsE be && _) = some true
        rw [allF_ok hE2.1, pre_all ht hm hv hE2.2]; rfl
end M
/-! ## Pt0 -/
set_option maxHeartbeats 200000
set_option Elab.async false
set_option linter.all false
set_option maxRecDepth 100000
namespace M
theorem tA_0_0 : chkA 0 0 = true := by decide +kernel
theorem tB_0_0 : allB (mems 0) 0 = true := by decide +kernel
theorem tA_1_0 : chkA 1 0 = true := by decide +kernel
theorem tB_1_0 : allB (mems 1) 0 = true := by decide +kernel
theorem tC_1_0_0 : allC (mems 1) 0 1 [2, 3, 4] = true := by decide +kernel
theorem tQ_1_0_0 (p : Nat → Pl) : allQ (mems 1) 0 1 [2, 3, 4] p = true := by kernel_rfl
theorem tE_1_0_0 (v : Nat → Nat) (p : Nat → Pl) : allE (mems 1) 0 0 1 [2, 3, 4] v p = true := by kernel_rfl
theorem tC_1_1_0 : allC (mems 1) 0 2 [3, 4] = true := by decide +kernel
theorem tQ_1_1_0 (p : Nat → Pl) : allQ (mems 1) 0 2 [3, 4] p = true := by kernel_rfl
theorem tE_1_1_0 (v : Nat → Nat) (p : Nat → Pl) : allE (mems 1) 0 1 2 [3, 4] v p = true := by kernel_rfl
theorem tC_1_2_0 : allC (mems 1) 0 1 [3, 4] = true := by decide +kernel
theorem tQ_1_2_0 (p : Nat → Pl) : allQ (mems 1) 0 1 [3, 4] p = true := by kernel_rfl
theorem tE_1_2_0 (v : Nat → Nat) (p : Nat → Pl) : allE (mems 1) 0 2 1 [3, 4] v p = true := by kernel_rfl
theorem tC_1_3_0 : allC (mems 1) 0 1 [2, 4] = true := by decide +kernel
theorem tQ_1_3_0 (p : Nat → Pl) : allQ (mems 1) 0 1 [2, 4] p = true := by kernel_rfl
theorem tE_1_3_0 (v : Nat → Nat) (p : Nat → Pl) : allE (mems 1) 0 3 1 [2, 4] v p = true := by kernel_rfl
theorem tC_1_4_0 : allC (mems 1) 0 1 [2, 3] = true := by decide +kernel
theorem tQ_1_4_0 (p : Nat → Pl) : allQ (mems 1) 0 1 [2, 3] p = true := by kernel_rfl
theorem tE_1_4_0 (v : Nat → Nat) (p : Nat → Pl) : allE (mems 1) 0 4 1 [2, 3] v p = true := by kernel_rfl
theorem tC_0_0_0 : allC (mems 0) 0 1 [2] = true := by decide +kernel
theorem tQ_0_0_0 (p : Nat → Pl) : allQ (mems 0) 0 1 [2] p = true := by kernel_rfl
theorem tE_0_0_0 (v : Nat → Nat) (p : Nat → Pl) : allE (mems 0) 0 0 1 [2] v p = true := by kernel_rfl
end M
/-! ## Pt1 -/
set_option maxHeartbeats 200000
set_option Elab.async false
set_option linter.all false
set_option maxRecDepth 100000
namespace M
theorem tA_0_1 : chkA 0 1 = true := by decide +kernel
theorem tB_0_1 : allB (mems 0) 1 = true := by decide +kernel
theorem tA_1_1 : chkA 1 1 = true := by decide +kernel
theorem tB_1_1 : allB (mems 1) 1 = true := by decide +kernel
theorem tC_1_0_1 : allC (mems 1) 1 1 [2, 3, 4] = true := by decide +kernel
theorem tQ_1_0_1 (p : Nat → Pl) : allQ (mems 1) 1 1 [2, 3, 4] p = true := by kernel_rfl
theorem tE_1_0_1 (v : Nat → Nat) (p : Nat → Pl) : allE (mems 1) 1 0 1 [2, 3, 4] v p = true := by kernel_rfl
theorem tC_1_1_1 : allC (mems 1) 1 2 [3, 4] = true := by decide +kernel
theorem tQ_1_1_1 (p : Nat → Pl) : allQ (mems 1) 1 2 [3, 4] p = true := by kernel_rfl
theorem tE_1_1_1 (v : Nat → Nat) (p : Nat → Pl) : allE (mems 1) 1 1 2 [3, 4] v p = true := by kernel_rfl
theorem tC_1_2_1 : allC (mems 1) 1 1 [3, 4] = true := by decide +kernel
theorem tQ_1_2_1 (p : Nat → Pl) : allQ (mems 1) 1 1 [3, 4] p = true := by kernel_rfl
theorem tE_1_2_1 (v : Nat → Nat) (p : Nat → Pl) : allE (mems 1) 1 2 1 [3, 4] v p = true := by kernel_rfl
theorem tC_1_3_1 : allC (mems 1) 1 1 [2, 4] = true := by decide +kernel
theorem tQ_1_3_1 (p : Nat → Pl) : allQ (mems 1) 1 1 [2, 4] p = true := by kernel_rfl
theorem tE_1_3_1 (v : Nat → Nat) (p : Nat → Pl) : allE (mems 1) 1 3 1 [2, 4] v p = true := by kernel_rfl
theorem tC_1_4_1 : allC (mems 1) 1 1 [2, 3] = true := by decide +kernel
theorem tQ_1_4_1 (p : Nat → Pl) : allQ (mems 1) 1 1 [2, 3] p = true := by kernel_rfl
theorem tE_1_4_1 (v : Nat → Nat) (p : Nat → Pl) : allE (mems 1) 1 4 1 [2, 3] v p = true := by kernel_rfl
theorem tC_0_0_1 : allC (mems 0) 1 1 [2] = true := by decide +kernel
theorem tQ_0_0_1 (p : Nat → Pl) : allQ (mems 0) 1 1 [2] p = true := by kernel_rfl
theorem tE_0_0_1 (v : Nat → Nat) (p : Nat → Pl) : allE (mems 0) 1 0 1 [2] v p = true := by kernel_rfl
end M
/-! ## Pt2 -/
set_option maxHeartbeats 200000
set_option Elab.async false
set_option linter.all false
set_option maxRecDepth 100000
namespace M
theorem tA_0_2 : chkA 0 2 = true := by decide +kernel
theorem tB_0_2 : allB (mems 0) 2 = true := by decide +kernel
theorem tA_1_2 : chkA 1 2 = true := by decide +kernel
theorem tB_1_2 : allB (mems 1) 2 = true := by decide +kernel
theorem tC_1_0_2 : allC (mems 1) 2 1 [2, 3, 4] = true := by decide +kernel
theorem tQ_1_0_2 (p : Nat → Pl) : allQ (mems 1) 2 1 [2, 3, 4] p = true := by kernel_rfl
theorem tE_1_0_2 (v : Nat → Nat) (p : Nat → Pl) : allE (mems 1) 2 0 1 [2, 3, 4] v p = true := by kernel_rfl
theorem tC_1_1_2 : allC (mems 1) 2 2 [3, 4] = true := by decide +kernel
theorem tQ_1_1_2 (p : Nat → Pl) : allQ (mems 1) 2 2 [3, 4] p = true := by kernel_rfl
theorem tE_1_1_2 (v : Nat → Nat) (p : Nat → Pl) : allE (mems 1) 2 1 2 [3, 4] v p = true := by kernel_rfl
theorem tC_1_2_2 : allC (mems 1) 2 1 [3, 4] = true := by decide +kernel
theorem tQ_1_2_2 (p : Nat → Pl) : allQ (mems 1) 2 1 [3, 4] p = true := by kernel_rfl
theorem tE_1_2_2 (v : Nat → Nat) (p : Nat → Pl) : allE (mems 1) 2 2 1 [3, 4] v p = true := by kernel_rfl
theorem tC_1_3_2 : allC (mems 1) 2 1 [2, 4] = true := by decide +kernel
theorem tQ_1_3_2 (p : Nat → Pl) : allQ (mems 1) 2 1 [2, 4] p = true := by kernel_rfl
theorem tE_1_3_2 (v : Nat → Nat) (p : Nat → Pl) : allE (mems 1) 2 3 1 [2, 4] v p = true := by kernel_rfl
theorem tC_1_4_2 : allC (mems 1) 2 1 [2, 3] = true := by decide +kernel
theorem tQ_1_4_2 (p : Nat → Pl) : allQ (mems 1) 2 1 [2, 3] p = true := by kernel_rfl
theorem tE_1_4_2 (v : Nat → Nat) (p : Nat → Pl) : allE (mems 1) 2 4 1 [2, 3] v p = true := by kernel_rfl
theorem tC_0_0_2 : allC (mems 0) 2 1 [2] = true := by decide +kernel
theorem tQ_0_0_2 (p : Nat → Pl) : allQ (mems 0) 2 1 [2] p = true := by kernel_rfl
theorem tE_0_0_2 (v : Nat → Nat) (p : Nat → Pl) : allE (mems 0) 2 0 1 [2] v p = true := by kernel_rfl
end M
/-! ## Pt3 -/
set_option maxHeartbeats 200000
set_option Elab.async false
set_option linter.all false
set_option maxRecDepth 100000
namespace M
theorem tA_0_3 : chkA 0 3 = true := by decide +kernel
theorem tB_0_3 : allB (mems 0) 3 = true := by decide +kernel
theorem tA_1_3 : chkA 1 3 = true := by decide +kernel
theorem tB_1_3 : allB (mems 1) 3 = true := by decide +kernel
theorem tC_1_0_3 : allC (mems 1) 3 1 [2, 3, 4] = true := by decide +kernel
theorem tQ_1_0_3 (p : Nat → Pl) : allQ (mems 1) 3 1 [2, 3, 4] p = true := by kernel_rfl
theorem tE_1_0_3 (v : Nat → Nat) (p : Nat → Pl) : allE (mems 1) 3 0 1 [2, 3, 4] v p = true := by kernel_rfl
theorem tC_1_1_3 : allC (mems 1) 3 2 [3, 4] = true := by decide +kernel
theorem tQ_1_1_3 (p : Nat → Pl) : allQ (mems 1) 3 2 [3, 4] p = true := by kernel_rfl
theorem tE_1_1_3 (v : Nat → Nat) (p : Nat → Pl) : allE (mems 1) 3 1 2 [3, 4] v p = true := by kernel_rfl
theorem tC_1_2_3 : allC (mems 1) 3 1 [3, 4] = true := by decide +kernel
theorem tQ_1_2_3 (p : Nat → Pl) : allQ (mems 1) 3 1 [3, 4] p = true := by kernel_rfl
theorem tE_1_2_3 (v : Nat → Nat) (p : Nat → Pl) : allE (mems 1) 3 2 1 [3, 4] v p = true := by kernel_rfl
theorem tC_1_3_3 : allC (mems 1) 3 1 [2, 4] = true := by decide +kernel
theorem tQ_1_3_3 (p : Nat → Pl) : allQ (mems 1) 3 1 [2, 4] p = true := by kernel_rfl
theorem tE_1_3_3 (v : Nat → Nat) (p : Nat → Pl) : allE (mems 1) 3 3 1 [2, 4] v p = true := by kernel_rfl
theorem tC_1_4_3 : allC (mems 1) 3 1 [2, 3] = true := by decide +kernel
theorem tQ_1_4_3 (p : Nat → Pl) : allQ (mems 1) 3 1 [2, 3] p = true := by kernel_rfl
theorem tE_1_4_3 (v : Nat → Nat) (p : Nat → Pl) : allE (mems 1) 3 4 1 [2, 3] v p = true := by kernel_rfl
theorem tC_0_0_3 : allC (mems 0) 3 1 [2] = true := by decide +kernel
theorem tQ_0_0_3 (p : Nat → Pl) : allQ (mems 0) 3 1 [2] p = true := by kernel_rfl
theorem tE_0_0_3 (v : Nat → Nat) (p : Nat → Pl) : allE (mems 0) 3 0 1 [2] v p = true := by kernel_rfl
end M
/-! ## P36 -/
set_option Elab.async false
set_option linter.all false
set_option maxRecDepth 100000
set_option maxHeartbeats 800000
namespace Wd
open PySem PySem.Spec PyProof.Rows L2 PySem.W PySem.SeqAt LamX
section
variable {P : Program} {w : World} {K : PySem.W.Frag} {mg : Str → Option Value} {base : Heap}
/-- a def whose code object is told -/
theorem df_mk2 {x qual : Str} {st : Stmt} {f : Addr} {p : He.Defn} {N ps : List Str} {k : Nat} {sp : Sp} (F : ∃ fd, FunD K x qual (defArgs st) (defBody st) (defScope st) [] [] f fd) (hp : He.fAd K p = f) (S : FnScope N ps (defScope st)) (len : ∀ vs H Q E, sp vs H Q E → vs.length = ps.length)
    (hb : ∀ (kV doc pm : Value) (an : Option Addr) (cdv ct : Value) (us : List Value), us.length = ps.length → bindArgs (PySem.W.fnOf x qual (defArgs st) (defBody st) (defScope st) .none kV doc pm an cdv ct) ⟨us, []⟩ = pure (ps.zip us))
    (hbody : ∀ (cdv : Value) (A : Around) (outer : List Env) (s : Shared) (H : Hp) (vs : List V) (Q : VK) (E : XK), cdv = .ref (He.cT K p).1 → Room k (A.deeper (envOfC qual (defScope st) s.heap.objs.size f cdv)) → sp vs H Q E →
      ∃ t, PSs (cxOf CX0 P w K mg base N qual (defScope st) f cdv A outer s H E).nox (defBody st) t ∧ t { nx := fun _ H' => Q .non H', rt := Q } (start N vs) H) : Df P w K mg base (k + 1) f ps sp := by
  obtain ⟨fd, F⟩ := F
  obtain ⟨oc, od, dV, kV, doc, pm, an, cdv, ct, osl, e, lk, hcd, _, _⟩ := id F.ex
  obtain ⟨c, ec⟩ := He.codeIn_ref hcd
  subst e
  have hc : cdv = .ref (He.cT K p).1 := by
    rw [ec]
    exact congrArg Value.ref (He.codeOf_eq (by rw [hp]; exact lk) ec).symm
  refine ⟨_, fn_of lk hcd S len fun A outer s H vs Q E hr h => ?_, F.bindsN hb, F.kp⟩
  obtain ⟨t, h1, h2⟩ := hbody cdv A outer s H vs Q E hc hr h
  exact ⟨t, h1.nox, h2⟩
end
def rD : He.Defn := ("_law_right", none)
def rP (K : PySem.W.Frag) : Addr := (He.cT K rD).2
def rT (K : PySem.W.Frag) : List (Addr × Str) := [(rP K, "_law_right.<locals>.<lambda>")]
def rest0 (T : Tn) : List Nat := (nsT T).filter fun x => !Nat.beq x 0
def spRight (K : PySem.W.Frag) : Sp := fun vs H Q _ => ∃ (Hb : Hp) (pl dd hd : Addr) (T : Tn) (had : M.Had), vs = [.ref pl, .ref dd, .ref hd] ∧ Stg K Hb H pl dd T ∧ Tabs (rT K) Hb ∧ Kt K H pl T hd (.dK (hadK had)) ∧ had.map (·.1) = nsT T ∧ (∀ q ∈ had, q.2 ≤ 50) ∧ 0 ∈ nsT T ∧
  (rest0 T).length ≤ T.length / 2 + 2 ∧ rest0 T ≠ [] ∧ (∀ r ∈ restOpts T.length (rest0 T), ∀ u, u < 3 → M.rightRun (wsT T) had r u = some true) ∧
  ∀ H', (∀ b o, b ≠ pl → Hb b = some o → (∀ ps, o ≠ .tbl ps) → H' b = some o) → Tabs (rT K) H' → Q (.bl true) H'
/-! ### small things -/
theorem hadOf_cons (y n : Nat) (r : M.Had) (x : Nat) : M.hadOf ((y, n) :: r) x = bif Nat.beq y x then n else M.hadOf r x := by rw [M.hadOf]
theorem had_get : ∀ {had : M.Had} {x : Nat}, x ∈ had.map (·.1) → valV (hadK had) (nK x) = some (V.int ((M.hadOf had x : Nat) : Int))
  | [], _, m => nomatch m
  | (y, n) :: r, x, m => by
    show (List.find? (fun kv : Key × V => decide (kv.1 = nK x)) ((nK y, V.int ((n : Nat) : Int)) :: hadK r)).map (fun kv => kv.2) = _
    rw [hadOf_cons]
    by_cases c : y = x
    · rw [nbt c, List.find?_cons_of_pos (p := fun kv : Key × V => decide (kv.1 = nK x)) (decide_eq_true (by rw [c]))]; rfl
    · rw [nbf c, List.find?_cons_of_neg (p := fun kv : Key × V => decide (kv.1 = nK x)) (by rw [decide_eq_false (fun z => c (nK_inj z))]; decide)]
      refine had_get (had := r) ?_
      rcases List.mem_cons.mp m with z | z
      · exact absurd z.symm c
      · exact z
theorem hadOf_le {b : Nat} : ∀ {had : M.Had} (x : Nat), (∀ q ∈ had, q.2 ≤ b) → M.hadOf had x ≤ b
  | [], _, _ => by rw [M.hadOf]; exact Nat.zero_le _
  | (y, n) :: r, x, h => by
    rw [hadOf_cons]
    cases Nat.beq y x with
    | true => exact h _ List.mem_cons_self
    | false => exact hadOf_le x fun q m => h q (List.mem_cons_of_mem _ m)
theorem topOf_eq (had : M.Had) (r : List Nat) : M.topOf had r = M.topC r (M.hadOf had) := rfl
theorem top_max {had : M.Had} {r : List Nat} {m : Int} (hm : m ∈ r.map fun x => ((M.hadOf had x : Nat) : Int)) (hl : ∀ y, y ∈ (r.map fun x => ((M.hadOf had x : Nat) : Int)) → y ≤ m) : m = ((M.topOf had r : Nat) : Int) := by
  obtain ⟨x, mx, rfl⟩ := List.mem_map.mp hm
  have h1 : M.topOf had r ≤ M.hadOf had x := (M.fold_max r 0 _).mpr ⟨Nat.zero_le _, fun y my => by
    have := hl _ (List.mem_map.mpr ⟨y, my, rfl⟩); omega⟩
  have h2 : M.hadOf had x ≤ M.topOf had r := ((M.fold_max (v := M.hadOf had) r 0 _).mp (Nat.le_refl (M.topOf had r))).2 x mx
  omega
theorem top_le2 {had : M.Had} {b : Nat} (r : List Nat) (h : ∀ q ∈ had, q.2 ≤ b) : M.topOf had r ≤ b := (M.fold_max r 0 b).mpr ⟨Nat.zero_le _, fun x _ => hadOf_le x h⟩
def intsD (r : List Nat) : PyData := .list (r.map fun k => PyData.int ((k + 1 : Nat) : Int))
theorem ints_dp {K : PySem.W.Frag} {H : Hp} : ∀ r : List Nat, DpAll K H (r.map fun k => V.int ((k + 1 : Nat) : Int)) (r.map fun k => PyData.int ((k + 1 : Nat) : Int))
  | [] => .nil
  | k :: r => .cons (.int _) (ints_dp r)
theorem intsD_lay : ∀ r : List Nat, PyData.canLayAll0 (r.map fun k => PyData.int ((k + 1 : Nat) : Int)) = true
  | [] => by simp [PyData.canLayAll0]
  | k :: r => by simp only [List.map_cons, PyData.canLayAll0, PyData.canLay0, intsD_lay r]; rfl
theorem intsD_depth : ∀ r : List Nat, PyData.depthAll (r.map fun k => PyData.int ((k + 1 : Nat) : Int)) ≤ 1
  | [] => by simp [PyData.depthAll]
  | k :: r => by
    have := intsD_depth r
    simp only [List.map_cons, PyData.depthAll, PyData.depth]; omega
theorem intsD_shaped (r : List Nat) : SeqAt.shaped (intsD r) = true := shaped_of (by unfold intsD; simp only [PyData.canLay0]; exact intsD_lay r) (by have := intsD_depth r; unfold intsD; simp only [PyData.depth]; omega)
theorem intsD_eqv (r : List Nat) : PyData.eqv (intsD r) (intsD r) = true := SeqAt.eqv_refl _ (by unfold intsD; simp only [PyData.canLay0]; exact intsD_lay r)
theorem eqRow_eq : ∀ {a b : M.Row}, M.eqRow a b = true → a = b
  | [], [], _ => rfl
  | [], _ :: _, h => by cases h
  | _ :: _, [], h => by cases h
  | (p, e) :: r, (q, f) :: s, h => by
    have h : (M.peq p q && (decide (e = f) && M.eqRow r s)) = true := h
    rw [Bool.and_eq_true, Bool.and_eq_true] at h
    rw [M.peq_eq h.1, of_decide_eq_true h.2.1, eqRow_eq h.2.2]
theorem pd_mem2 {α β : Type} {F G : α → β → Prop} : ∀ {l : List α} {r : List β}, Paired F l r → (∀ a b, a ∈ l → F a b → G a b) → Paired G l r
  | _, _, .nil, _ => .nil
  | _, _, .cons h t, f => .cons (f _ _ List.mem_cons_self h) (pd_mem2 t fun a b m => f a b (List.mem_cons_of_mem _ m))
theorem erase_map {α β : Type} (f : α → β) : ∀ (l : List α) (i : Nat), (l.map f).eraseIdx i = (l.eraseIdx i).map f
  | [], _ => rfl
  | _ :: _, 0 => rfl
  | x :: l, i + 1 => by
    show f x :: (l.map f).eraseIdx i = f x :: (l.eraseIdx i).map f
    rw [erase_map f l i]
theorem for_valsO {d : Addr} {od : Obj} {kvs : List (Key × V)} {g : TG} {tb : TS} {D : Ends} {σ : L2.St} {H : Hp} (Pv : Nat → L2.St → Hp → Prop) (h0 : Pv 0 σ H) (hl : ∀ i σ H, i ≤ kvs.length → Pv i σ H → H d = some (.frz od (.dK kvs)))
    (hs : ∀ i k v σ H, kvs[i]? = some (k, v) → Pv i σ H → g v σ H fun σ2 H2 => tb { D with nx := Pv (i + 1), ct := Pv (i + 1), bk := D.nx } σ2 H2) (hd : ∀ σ H, Pv kvs.length σ H → D.nx σ H) :
    ∃ W : Nat → Nat → L2.St → Hp → Prop, (∃ m, W 0 m σ H) ∧ ∀ i m σ H, W i m σ H →
      ((Itd d od kvs).stop i H ∧ D.nx σ H) ∨ ((Itd d od kvs).go i H ∧ ∃ N : L2.St → Hp → Prop, (∀ σ' H', N σ' H' → ∃ m', m' < m ∧ W (i + 1) m' σ' H') ∧ ∀ x H', (Itd d od kvs).yld i H x H' → g x σ H' fun σ2 H2 => tb { D with nx := N, ct := N, bk := D.nx } σ2 H2) := by
  refine ⟨fun i m σ H => m = kvs.length - i ∧ i ≤ kvs.length ∧ Pv i σ H, ⟨kvs.length, rfl, Nat.zero_le _, h0⟩, ?_⟩
  rintro i m σ H ⟨rfl, hi, p⟩
  have q := hl i σ H hi p
  by_cases hlt : i < kvs.length
  · refine .inr ⟨⟨q, hlt⟩, Pv (i + 1), fun σ' H' p' => ⟨kvs.length - (i + 1), by omega, rfl, hlt, p'⟩, fun x H' y => ?_⟩
    obtain ⟨e, k, y1⟩ := y
    subst e
    exact hs i k _ σ _ y1 p
  · have e : i = kvs.length := by omega
    subst e
    exact .inl ⟨⟨q, Nat.le_refl _⟩, hd σ H p⟩
theorem pd_refs {β : Type} {F : Addr → β → Prop} : ∀ {ps : List Addr} {rs : List β}, Paired F ps rs → Paired (fun v r => ∃ p, v = V.ref p ∧ F p r) (ps.map V.ref) rs
  | _, _, .nil => .nil
  | _, _, .cons h t => .cons ⟨_, rfl, h⟩ (pd_refs t)
theorem nums_eq : ∀ {ws : List V} {r : List Nat}, Paired (fun v (n : Nat) => v = V.int ((n : Nat) : Int)) ws r → ws = r.map fun n => V.int ((n : Nat) : Int)
  | _, _, .nil => rfl
  | _, _, .cons h t => by rw [h, nums_eq t]; rfl
theorem head_some {h : M.Hs} {x : Nat} (e : M.headIs h x = true) : h.head = some x := by
  unfold M.headIs at e
  cases c : h.head with
  | none => rw [c] at e; cases e
  | some y => rw [c] at e; rw [Nat.eq_of_beq_eq_true (show Nat.beq y x = true from e)]
theorem allOk_at {ws : M.Ws} {b h : M.Hs} (a : M.allOk ws b = true) (m : h ∈ ws) : h.row = b.row ∧ M.eqRow (M.upTo h.row h.done) h.row = true ∧ h.head = some b.name := by
  unfold M.allOk at a
  have e := List.all_eq_true.mp a h m
  rw [Bool.and_eq_true, Bool.and_eq_true] at e
  exact ⟨eqRow_eq e.1, e.2.1, head_some e.2.2⟩
theorem eqRow_refl : ∀ a : M.Row, M.eqRow a a = true
  | [] => rfl
  | (p, e) :: r => by
    show (M.peq p p && (decide (e = e) && M.eqRow r r)) = true
    unfold M.peq
    rw [nbt rfl, nbt rfl, decide_eq_true rfl, eqRow_refl r]; rfl
/-- a while whose end is shown once -/
theorem while_x {c : L2.TT} {tb : TS} {D : Ends} {σ : L2.St} {H : Hp} (W : Nat → L2.St → Hp → Prop) (X : L2.St → Hp → Prop) (h0 : ∃ m, W m σ H) (hx : ∀ σ H, X σ H → D.nx σ H)
    (hs : (∀ σ H, X σ H → D.nx σ H) → ∀ m σ H, W m σ H → c σ H fun b H1 => if b = true then ∃ N : L2.St → Hp → Prop, (∀ σ' H', N σ' H' → ∃ m', m' < m ∧ W m' σ' H') ∧ tb { D with nx := N, ct := N, bk := D.nx } σ H1 else D.nx σ H1) : tWhile c tb D σ H := ⟨W, h0, hs hx⟩
/-- the last def's state up to the making of the lambda -/
structure La (K : PySem.W.Frag) (Hb H : Hp) (pl dd hd : Addr) (T : Tn) (had : M.Had) (D : Addr) (ps : List Addr) (rs : List M.Row) (L : Addr) (r : List Nat) : Prop where
  g : Stg K Hb H pl dd T
  kh : Kt K H pl T hd (.dK (hadK had))
  rw_ : Rws K H pl T D ps rs
  l : Kt K H pl T L (.lst (r.map fun i => V.str (nm i)))
  ln : Hb L = none
  ld : L ≠ dd ∧ L ≠ hd ∧ L ≠ D ∧ L ∉ ps
theorem La.draw {K : PySem.W.Frag} {Hb H : Hp} {pl dd hd : Addr} {T : Tn} {had : M.Had} {D : Addr} {ps : List Addr} {rs : List M.Row} {L : Addr} {r : List Nat} (a : La K Hb H pl dd hd T had D ps rs L r) (c s : Int) : La K Hb (upd H pl (.lst [.int c, .int s])) pl dd hd T had D ps rs L r := by
  obtain ⟨x, y, e⟩ := a.g.m.pool
  exact ⟨a.g.draw c s, a.kh.draw, a.rw_.draw e, a.l.draw, a.ln, a.ld⟩
theorem La.same {K : PySem.W.Frag} {Hb H H1 : Hp} {pl dd hd : Addr} {T : Tn} {had : M.Had} {D : Addr} {ps : List Addr} {rs : List M.Row} {L : Addr} {r : List Nat} (a : La K Hb H pl dd hd T had D ps rs L r) (s : Same H H1) : La K Hb H1 pl dd hd T had D ps rs L r :=
  ⟨a.g.same s, a.kh.same s, a.rw_.same s, a.l.same s, a.ln, a.ld⟩
theorem La.pop {K : PySem.W.Frag} {Hb H : Hp} {pl dd hd : Addr} {T : Tn} {had : M.Had} {D : Addr} {ps : List Addr} {rs : List M.Row} {L : Addr} {r r2 : List Nat} (a : La K Hb H pl dd hd T had D ps rs L r) : La K Hb (upd H L (.lst (r2.map fun i => V.str (nm i)))) pl dd hd T had D ps rs L r2 := by
  obtain ⟨d1, d2, d3, d4⟩ := a.ld
  refine ⟨a.g.put a.ln a.l.e nt_lst d1 a.l.n, a.kh.put d2.symm, ⟨a.rw_.d.put d3.symm, ?_⟩, ⟨upd_same, a.l.n, a.l.p⟩, a.ln, a.ld⟩
  have kp : Kp H (upd H L (.lst (r2.map fun i => V.str (nm i)))) := Kp.lst a.l.e
  exact pd_mem2 a.rw_.r fun p r mp ⟨ws, z1, z2⟩ => ⟨ws, z1.put fun z => d4 (by rw [← z]; exact mp), z2.kp kp noL_th⟩
/-- the last def's state behind the making of the lambda: a part there, with a dict of its own -/
structure Lb (K : PySem.W.Frag) (Hb H : Hp) (pl dd hd th : Addr) (T P : Tn) (had : M.Had) (D : Addr) (ps : List Addr) (rs : List M.Row) (L : Addr) (r : List Nat) (W1 : M.Ws) : Prop where
  g : Stg K Hb H pl dd T
  t : Town K H th P
  sub : ∀ q ∈ P, q ∈ T
  tn : ∀ q ∈ T, th ∉ own q.1
  tp : th ≠ pl
  kh : Kt K H pl T hd (.dK (hadK had))
  rw_ : Rws K H pl T D ps rs
  l : Kt K H pl T L (.lst (r.map fun i => V.str (nm i)))
  ns : nsT P = r
  w : wsT T = M.merge W1 (wsT P)
section
variable {K : PySem.W.Frag} {Hb H H1 : Hp} {pl dd hd th : Addr} {T P P' : Tn} {had : M.Had} {D : Addr} {ps : List Addr} {rs : List M.Row} {L : Addr} {r : List Nat} {W1 : M.Ws}
theorem Lb.same (a : Lb K Hb H pl dd hd th T P had D ps rs L r W1) (s : Same H H1) : Lb K Hb H1 pl dd hd th T P had D ps rs L r W1 :=
  ⟨a.g.same s, a.t.same s, a.sub, a.tn, a.tp, a.kh.same s, a.rw_.same s, a.l.same s, a.ns, a.w⟩
theorem Lb.draw (a : Lb K Hb H pl dd hd th T P had D ps rs L r W1) (c s : Int) : Lb K Hb (upd H pl (.lst [.int c, .int s])) pl dd hd th T P had D ps rs L r W1 := by
  obtain ⟨x, y, e⟩ := a.g.m.pool
  refine ⟨a.g.draw c s, a.t.draw (Mv.draw ⟨x, y, e⟩ c s) fun q mq z => ?_, a.sub, a.tn, a.tp, a.kh.draw, a.rw_.draw e, a.l.draw, a.ns, a.w⟩
  have := a.g.n q (a.sub q mq) pl z
  obtain ⟨x, y, e⟩ := a.g.m.p0
  rw [this] at e; cases e
theorem Lb.part (a : Lb K Hb H pl dd hd th T P had D ps rs L r W1) (f : Frs H H1 P P') (t : Town K H1 th P') : Lb K Hb H1 pl dd hd th (mgT T P') P' had D ps rs L r W1 := by
  obtain ⟨h1, f1, sub1⟩ := part_step a.g.t.hs a.sub f t.hs
  refine ⟨a.g.frs f1 ⟨by rw [f1.kv]; exact f1.keep _ _ a.g.t.dict a.g.t.no, h1, own_frs f1 a.g.t.dict a.g.t.no⟩, t, sub1, own_frs f1 a.t.dict a.tn, a.tp, a.kh.frs f1, a.rw_.frs f1, a.l.frs f1, (ns_kv f.kv).trans a.ns, ?_⟩
  rw [mg_ws, a.w]
  exact merge_merge (by rw [ws_ns, ws_ns, ns_kv f.kv])
end
theorem merge_part {T P : Tn} (nd : (nsT T).Nodup) (sub : ∀ q ∈ P, q ∈ T) : wsT T = M.merge (wsT T) (wsT P) := by
  refine (merge_self (fun g mg => ?_) (by rw [ws_ns]; exact nd)).symm
  obtain ⟨q, mq, rfl⟩ := List.mem_map.mp mg
  rw [find_at, find_mem nd (sub q mq)]; rfl
end Wd
/-! ## Pz -/
set_option maxHeartbeats 200000
set_option Elab.async false
set_option linter.all false
set_option maxRecDepth 100000
/-! The plain law, joined. -/
namespace M
theorem vS_le (ss : List (List Nat)) (x : Nat) : vS ss x ≤ ss.length := List.length_filter_le _ _
theorem tabA {d t : Nat} (hd : d < 2) (ht : t < 4) : started d t = some (lateC (mems d) t 0 fun _ => 0) := by
  refine chkA_eq ?_
  match d, hd, t, ht with
  | 0, _, 0, _ => exact tA_0_0
  | 0, _, 1, _ => exact tA_0_1
  | 0, _, 2, _ => exact tA_0_2
  | 0, _, 3, _ => exact tA_0_3
  | 1, _, 0, _ => exact tA_1_0
  | 1, _, 1, _ => exact tA_1_1
  | 1, _, 2, _ => exact tA_1_2
  | 1, _, 3, _ => exact tA_1_3
theorem tabB {d t : Nat} (hd : d < 2) (ht : t < 4) : allB (mems d) t = true := by
  match d, hd, t, ht with
  | 0, _, 0, _ => exact tB_0_0
  | 0, _, 1, _ => exact tB_0_1
  | 0, _, 2, _ => exact tB_0_2
  | 0, _, 3, _ => exact tB_0_3
  | 1, _, 0, _ => exact tB_1_0
  | 1, _, 1, _ => exact tB_1_1
  | 1, _, 2, _ => exact tB_1_2
  | 1, _, 3, _ => exact tB_1_3
theorem plain_late {d t : Nat} (hd : d < 2) (ht : t < 4) {ss : List (List Nat)} (hc : Wd.Chain (mems d) ss) (hl : ss.length ≤ 3) :
    lateRun 0 ss (lateC (mems d) t 0 fun _ => 0) (hadC (mems d) 0 fun _ => 0) = some (lateC (mems d) t ss.length (vS ss), hadC (mems d) ss.length (vS ss)) :=
  chkB_eq (List.all_eq_true.mp (tabB hd ht) ss (chs_mem hc hl))
theorem had0_C {d : Nat} (hd : d < 2) : ((mems d).map fun i => (i, 0)) = hadC (mems d) 0 fun _ => 0 := by
  match d, hd with
  | 0, _ => rfl
  | 1, _ => rfl
theorem get4 {mem : List Nat} {t y : Nat} {s : List Nat} (h : allC mem t y s = true) {k1 k2 k3 k4 : Nat} (h1 : k1 < many (y :: s) 1) (h2 : k2 < many (y :: s) 2) (h3 : k3 < many (y :: s) 3) (h4 : k4 < many (y :: s) 4) : chkC mem t y s (vk k1 k2 k3 k4) = true :=
  allLt_get (allLt_get (allLt_get (allLt_get h k1 h1) k2 h2) k3 h3) k4 h4
section
variable {t m u : Nat} {v : Nat → Nat}
theorem o10 (ht : t < 4) (hm : m < 4) (hu : u < 3) (hv : ∀ x, v x ≤ m) (hC : allC (mems 1) t 1 [2, 3, 4] = true) (hQ : ∀ p, allQ (mems 1) t 1 [2, 3, 4] p = true) (hE : ∀ v p, allE (mems 1) t 0 1 [2, 3, 4] v p = true) : rightRun (lateC (mems 1) t m v) (hadC (mems 1) m v) [1, 2, 3, 4] u = some true := by
  have b := fun x => Nat.lt_of_le_of_lt (hv x) hm
  refine right_ok (lo := 0) (v' := vk (v 1) (v 2) (v 3) (v 4)) (fun x mx => ?_) ht hm hu hv (get4 hC (b 1) (b 2) (b 3) (b 4)) hQ (hE v) rfl rfl rfl fun _ => rfl
  simp only [List.mem_cons, List.not_mem_nil, or_false] at mx
  rcases mx with rfl | rfl | rfl | rfl <;> rfl
theorem o11 (ht : t < 4) (hm : m < 4) (hu : u < 3) (hv : ∀ x, v x ≤ m) (hC : allC (mems 1) t 2 [3, 4] = true) (hQ : ∀ p, allQ (mems 1) t 2 [3, 4] p = true) (hE : ∀ v p, allE (mems 1) t 1 2 [3, 4] v p = true) : rightRun (lateC (mems 1) t m v) (hadC (mems 1) m v) [2, 3, 4] u = some true := by
  have b := fun x => Nat.lt_of_le_of_lt (hv x) hm
  refine right_ok (lo := 1) (v' := vk 0 (v 2) (v 3) (v 4)) (fun x mx => ?_) ht hm hu hv (get4 hC (by decide) (b 2) (b 3) (b 4)) hQ (hE v) rfl rfl rfl fun z => absurd z (by decide)
  simp only [List.mem_cons, List.not_mem_nil, or_false] at mx
  rcases mx with rfl | rfl | rfl <;> rfl
theorem o12 (ht : t < 4) (hm : m < 4) (hu : u < 3) (hv : ∀ x, v x ≤ m) (hC : allC (mems 1) t 1 [3, 4] = true) (hQ : ∀ p, allQ (mems 1) t 1 [3, 4] p = true) (hE : ∀ v p, allE (mems 1) t 2 1 [3, 4] v p = true) : rightRun (lateC (mems 1) t m v) (hadC (mems 1) m v) [1, 3, 4] u = some true := by
  have b := fun x => Nat.lt_of_le_of_lt (hv x) hm
  refine right_ok (lo := 2) (v' := vk (v 1) 0 (v 3) (v 4)) (fun x mx => ?_) ht hm hu hv (get4 hC (b 1) (by decide) (b 3) (b 4)) hQ (hE v) rfl rfl rfl fun z => absurd z (by decide)
  simp only [List.mem_cons, List.not_mem_nil, or_false] at mx
  rcases mx with rfl | rfl | rfl <;> rfl
theorem o13 (ht : t < 4) (hm : m < 4) (hu : u < 3) (hv : ∀ x, v x ≤ m) (hC : allC (mems 1) t 1 [2, 4] = true) (hQ : ∀ p, allQ (mems 1) t 1 [2, 4] p = true) (hE : ∀ v p, allE (mems 1) t 3 1 [2, 4] v p = true) : rightRun (lateC (mems 1) t m v) (hadC (mems 1) m v) [1, 2, 4] u = some true := by
  have b := fun x => Nat.lt_of_le_of_lt (hv x) hm
  refine right_ok (lo := 3) (v' := vk (v 1) (v 2) 0 (v 4)) (fun x mx => ?_) ht hm hu hv (get4 hC (b 1) (b 2) (by decide) (b 4)) hQ (hE v) rfl rfl rfl fun z => absurd z (by decide)
  simp only [List.mem_cons, List.not_mem_nil, or_false] at mx
  rcases mx with rfl | rfl | rfl <;> rfl
theorem o14 (ht : t < 4) (hm : m < 4) (hu : u < 3) (hv : ∀ x, v x ≤ m) (hC : allC (mems 1) t 1 [2, 3] = true) (hQ : ∀ p, allQ (mems 1) t 1 [2, 3] p = true) (hE : ∀ v p, allE (mems 1) t 4 1 [2, 3] v p = true) : rightRun (lateC (mems 1) t m v) (hadC (mems 1) m v) [1, 2, 3] u = some true := by
  have b := fun x => Nat.lt_of_le_of_lt (hv x) hm
  refine right_ok (lo := 4) (v' := vk (v 1) (v 2) (v 3) 0) (fun x mx => ?_) ht hm hu hv (get4 hC (b 1) (b 2) (b 3) (by decide)) hQ (hE v) rfl rfl rfl fun z => absurd z (by decide)
  simp only [List.mem_cons, List.not_mem_nil, or_false] at mx
  rcases mx with rfl | rfl | rfl <;> rfl
theorem o00 (ht : t < 4) (hm : m < 4) (hu : u < 3) (hv : ∀ x, v x ≤ m) (hC : allC (mems 0) t 1 [2] = true) (hQ : ∀ p, allQ (mems 0) t 1 [2] p = true) (hE : ∀ v p, allE (mems 0) t 0 1 [2] v p = true) : rightRun (lateC (mems 0) t m v) (hadC (mems 0) m v) [1, 2] u = some true := by
  have b := fun x => Nat.lt_of_le_of_lt (hv x) hm
  refine right_ok (lo := 0) (v' := vk (v 1) (v 2) 0 0) (fun x mx => ?_) ht hm hu hv (get4 hC (b 1) (b 2) (by decide) (by decide)) hQ (hE v) rfl rfl rfl fun _ => rfl
  simp only [List.mem_cons, List.not_mem_nil, or_false] at mx
  rcases mx with rfl | rfl <;> rfl
end
theorem plain_right {d t m u : Nat} {v : Nat → Nat} {r : List Nat} (hd : d < 2) (ht : t < 4) (hm : m < 4) (hu : u < 3) (hv : ∀ x, v x ≤ m) (hr : r ∈ Wd.restOpts (mems d).length ((mems d).filter fun x => !Nat.beq x 0)) :
    rightRun (lateC (mems d) t m v) (hadC (mems d) m v) r u = some true := by
  match d, hd with
  | 0, _ =>
    have hr : r ∈ [[1, 2]] := hr
    rw [List.mem_singleton.mp hr]
    match t, ht with
    | 0, h => exact o00 h hm hu hv tC_0_0_0 tQ_0_0_0 tE_0_0_0
    | 1, h => exact o00 h hm hu hv tC_0_0_1 tQ_0_0_1 tE_0_0_1
    | 2, h => exact o00 h hm hu hv tC_0_0_2 tQ_0_0_2 tE_0_0_2
    | 3, h => exact o00 h hm hu hv tC_0_0_3 tQ_0_0_3 tE_0_0_3
  | 1, _ =>
    have hr : r ∈ [[1, 2, 3, 4], [2, 3, 4], [1, 3, 4], [1, 2, 4], [1, 2, 3]] := hr
    simp only [List.mem_cons, List.not_mem_nil, or_false] at hr
    rcases hr with rfl | rfl | rfl | rfl | rfl
    · match t, ht with
      | 0, h => exact o10 h hm hu hv tC_1_0_0 tQ_1_0_0 tE_1_0_0
      | 1, h => exact o10 h hm hu hv tC_1_0_1 tQ_1_0_1 tE_1_0_1
      | 2, h => exact o10 h hm hu hv tC_1_0_2 tQ_1_0_2 tE_1_0_2
      | 3, h => exact o10 h hm hu hv tC_1_0_3 tQ_1_0_3 tE_1_0_3
    · match t, ht with
      | 0, h => exact o11 h hm hu hv tC_1_1_0 tQ_1_1_0 tE_1_1_0
      | 1, h => exact o11 h hm hu hv tC_1_1_1 tQ_1_1_1 tE_1_1_1
      | 2, h => exact o11 h hm hu hv tC_1_1_2 tQ_1_1_2 tE_1_1_2
      | 3, h => exact o11 h hm hu hv tC_1_1_3 tQ_1_1_3 tE_1_1_3
    · match t, ht with
      | 0, h => exact o12 h hm hu hv tC_1_2_0 tQ_1_2_0 tE_1_2_0
      | 1, h => exact o12 h hm hu hv tC_1_2_1 tQ_1_2_1 tE_1_2_1
      | 2, h => exact o12 h hm hu hv tC_1_2_2 tQ_1_2_2 tE_1_2_2
      | 3, h => exact o12 h hm hu hv tC_1_2_3 tQ_1_2_3 tE_1_2_3
    · match t, ht with
      | 0, h => exact o13 h hm hu hv tC_1_3_0 tQ_1_3_0 tE_1_3_0
      | 1, h => exact o13 h hm hu hv tC_1_3_1 tQ_1_3_1 tE_1_3_1
      | 2, h => exact o13 h hm hu hv tC_1_3_2 tQ_1_3_2 tE_1_3_2
      | 3, h => exact o13 h hm hu hv tC_1_3_3 tQ_1_3_3 tE_1_3_3
    · match t, ht with
      | 0, h => exact o14 h hm hu hv tC_1_4_0 tQ_1_4_0 tE_1_4_0
      | 1, h => exact o14 h hm hu hv tC_1_4_1 tQ_1_4_1 tE_1_4_1
      | 2, h => exact o14 h hm hu hv tC_1_4_2 tQ_1_4_2 tE_1_4_2
      | 3, h => exact o14 h hm hu hv tC_1_4_3 tQ_1_4_3 tE_1_4_3
theorem hadC_le {d m : Nat} {v : Nat → Nat} (hv : ∀ x, v x ≤ m) (hm : m < 4) : ∀ q ∈ hadC (mems d) m v, q.2 ≤ 50 := fun q mq => by
  obtain ⟨x, _, rfl⟩ := List.mem_map.mp mq
  show (bif Nat.beq x 0 then m else v x) ≤ 50
  have := hv x
  cases Nat.beq x 0 with
  | true => show m ≤ 50; omega
  | false => show v x ≤ 50; omega
theorem lateC_ns {d t m : Nat} {v : Nat → Nat} (hd : d < 2) : (lateC (mems d) t m v).map (·.name) = mems d := by
  match d, hd with
  | 0, _ => rfl
  | 1, _ => rfl
theorem hadC_ns {d m : Nat} {v : Nat → Nat} (hd : d < 2) : (hadC (mems d) m v).map (·.1) = mems d := by
  match d, hd with
  | 0, _ => rfl
  | 1, _ => rfl
end M
/-! ## P37 -/
set_option Elab.async false
set_option linter.all false
set_option maxRecDepth 100000
set_option maxHeartbeats 1600000
namespace Wd
open PySem PySem.Spec PyProof.Rows L2 PySem.W PySem.SeqAt LamX
section
variable {P : Program} {w : World} {K : PySem.W.Frag} {mg : Str → Option Value} {base : Heap}
theorem ok_law_right (T : Txt w K mg) (TB : TabB base mg (He.cT K rD).1 (rP K)) : Df P w K mg base 12 (He.ga K "_law_right") ["_law_pool_here", "_law_houses", "_law_had"] (spRight K) := by
  obtain ⟨fd_law_take, G_law_take, b_law_take, kp_law_take⟩ := ok_law_take (P := P) (w := w) (base := base) T
  obtain ⟨fd_law_calmed, G_law_calmed, b_law_calmed, kp_law_calmed⟩ := ok_law_calmed (P := P) (w := w) (base := base) T
  obtain ⟨fd_law_place, G_law_place, b_law_place, kp_law_place⟩ := ok_law_place (P := P) (w := w) (base := base) T
  obtain ⟨fd_law_lates, G_law_lates, b_law_lates, kp_law_lates⟩ := ok_law_lates (P := P) (w := w) (base := base) T
  obtain ⟨fd_law_round, G_law_round, b_law_round, kp_law_round⟩ := ok_law_round (P := P) (w := w) (base := base) T
  obtain ⟨fd_m_put, G_m_put, b_m_put, kp_m_put⟩ := ok_m_put (P := P) (w := w) (base := base) T
  obtain ⟨fd_m_done_row, G_m_done_row, b_m_done_row, kp_m_done_row⟩ := ok_m_done_row (P := P) (w := w) (base := base) T
  obtain ⟨fd_m_row, G_m_row, b_m_row, kp_m_row⟩ := ok_m_row (P := P) (w := w) (base := base) T
  obtain ⟨fd_m_head, G_m_head, b_m_head, kp_m_head⟩ := ok_m_head (P := P) (w := w) (base := base) T
  obtain ⟨fd_m_begin_anew, G_m_begin_anew, b_m_begin_anew, kp_m_begin_anew⟩ := okh_begin_anew (P := P) (w := w) (base := base) T
  obtain ⟨fd_is_beginning, G_is_beginning, b_is_beginning, kp_is_beginning⟩ := ok_is_beginning (P := P) (w := w) (base := base) T
  refine df_mk2 (p := ("_law_right", none)) T.f_law_right rfl sc_law_right (fun vs H Q E h => ?_) (fun _ _ _ _ _ _ us hl => match us, hl with | [_, _, _], _ => rfl) (fun cdv A outer s H vs Q E hcd hr h => ?_)
  · obtain ⟨Hb, pl, dd, hd, T0, had, rfl, _⟩ := h
    rfl
  · obtain ⟨Hb, pl, dd, hd, T0, had, rfl, g0, hT, kh, hn, hle, h0n, hrl, hrn, hrun, k⟩ := h
    subst hcd
    refine ⟨_, (pss_cons (ps_lock (ps_setLc (i := 4) (own := [("_law_house", 3)]) (g := gName 3) rfl sc_law_right.nd rfl rfl (sw_true rfl rfl rfl (by decide +kernel)) (pi_values (pv 1)) (blkOk_by (own := [("_law_house", 3)]) (N := ["_law_pool_here", "_law_houses", "_law_had", "_law_house", "_law_rows", "_law_rest", "_law_there", "_law_best", "_law_top", "_law_turn", "_law_name", "_law_row"]) (sc := defScope s_law_right) (by decide +kernel)) (fun _ _ _ _ _ => (pg_name (i := 3) sc_law_right.nd rfl (Or.inl rfl))) (fun _ _ _ _ _ => pts_nil) (fun _ _ _ _ _ => (pe_meth0 (pv 3) T.cl T.me_done_row G_m_done_row (hr.mono (by decide)) b_m_done_row .nil pass0)))) (pss_cons (ps_expr (pe_meth0 (pe_dget (hu_of hr) (pv 1) pe_str (fun _ _ => rfl)) T.cl T.me_begin_anew G_m_begin_anew (hr.mono (by decide)) b_m_begin_anew .nil pass0)) (pss_cons (ps_lock (ps_setLc (i := 5) (own := [("_law_name", 10)]) (g := gName 10) rfl sc_law_right.nd rfl rfl (sw_true rfl rfl rfl (by decide +kernel)) (pi_keys (pv 1)) (blkOk_by (own := [("_law_name", 10)]) (N := ["_law_pool_here", "_law_houses", "_law_had", "_law_house", "_law_rows", "_law_rest", "_law_there", "_law_best", "_law_top", "_law_turn", "_law_name", "_law_row"]) (sc := defScope s_law_right) (by decide +kernel)) (fun _ _ _ _ _ => (pg_name (i := 10) sc_law_right.nd rfl (Or.inl rfl))) (fun _ _ _ _ _ => (pts_one (pt_cmpR op_ne (pv 10) pe_str (nomark _)))) (fun _ _ _ _ _ => (pv 10)))) (pss_cons (ps_while PassesOwn.never (PW.pt (pw_and (pt_cmpR op_gt (pe_callB (kLen rfl) (by rfl) T.b_len PySem.boot_len (pa_cons (pv 5) pa_nil)) (pe_op op_add (pe_op op_fdivN (pe_callB call_lenD (by rfl) T.b_len PySem.boot_len (pa_cons (pv 1) pa_nil)) pe_int) pe_int) (nomark _)) (pw_and1 (pt_cmpR op_eq (pe_call G_law_take (hr.mono (by decide)) rfl T.g_law_take kp_law_take b_law_take .nil pass0 (pa_cons (pv 0) (pa_cons pe_int pa_nil))) pe_int (nomark _))))) (pss_one (ps_expr (pe_bm PySem.F.plainAttrs_list PySem.F.slot_list_pop PySem.F.type_list_pop mt_popAt (pv 5) (pa_cons (pe_call G_law_take (hr.mono (by decide)) rfl T.g_law_take kp_law_take b_law_take .nil pass0 (pa_cons (pv 0) (pa_cons (pe_callB (kLen rfl) (by rfl) T.b_len PySem.boot_len (pa_cons (pv 5) pa_nil)) pa_nil))) pa_nil))))) (pss_cons (ps_set (i := 6) sc_law_right.nd rfl (Or.inl rfl) (pe_callTy (call_dictP rfl) (by rfl) T.b_dict (by decide +kernel) (pa_cons (pe_lc (own := [("_law_name", 10)]) (g := gName 10) rfl sc_law_right.nd (pi_list (pv 5)) (blkOk_by (own := [("_law_name", 10)]) (N := ["_law_pool_here", "_law_houses", "_law_had", "_law_house", "_law_rows", "_law_rest", "_law_there", "_law_best", "_law_top", "_law_turn", "_law_name", "_law_row"]) (sc := defScope s_law_right) (by decide +kernel)) (fun _ _ _ _ _ => (pg_name (i := 10) sc_law_right.nd rfl (Or.inl rfl))) (fun _ _ _ _ _ => pts_nil) (fun _ _ _ _ _ => (pe_tup (pa_cons (pv 10) (pa_cons (pe_dget (hu_of hr) (pv 1) (pv 10) (fun _ _ => rfl)) pa_nil))))) pa_nil))) (pss_cons (ps_set (i := 7) sc_law_right.nd rfl (Or.inr rfl) (pe_maxKey1 (i := 5) (TT := rT K) (N := ["_law_name", "_law_houses"]) (fr := ["_law_houses"]) (js := [1]) (a := "_law_name") (k := 3) rfl T.b_max (by decide +kernel) rfl (Or.inl rfl) TB rfl (List.mem_singleton.mpr rfl) (fun p hp _ => (by rw [List.mem_singleton.mp hp]; rfl)) (hr.mono (by decide)) (NdefX.nscope_by (by decide +kernel)) (NdefX.ndef_free (sc := defScope s_law_right) (fr := ["_law_houses"]) (by decide +kernel)) (NdefX.ndef_fr (sc := defScope s_law_right) (by decide +kernel)) rfl rfl (fun _ _ _ _ _ _ => rfl) (fun f c' A outer s H hr2 => (pe_call G_law_place (hr2.mono (by decide)) rfl T.g_law_place kp_law_place b_law_place .nil pass0 (pa_cons (pe_dget (hu_of hr2) (pv 1) (pv 0) (fun _ _ => rfl)) pa_nil))))) (pss_cons (ps_if (pt_not (pt_val (pe_call G_law_calmed (hr.mono (by decide)) rfl T.g_law_calmed kp_law_calmed b_law_calmed .nil pass0 (pa_cons (pv 6) (pa_cons (pv 7) pa_nil))))) (pss_one (ps_ret pe_bl)) pss_nil) (pss_cons (ps_set (i := 8) sc_law_right.nd rfl (Or.inl rfl) (pe_callB (cr_max rfl) (by rfl) T.b_max (by decide +kernel) (pa_cons (pe_lc (own := [("_law_name", 10)]) (g := gName 10) rfl sc_law_right.nd (pi_list (pv 5)) (blkOk_by (own := [("_law_name", 10)]) (N := ["_law_pool_here", "_law_houses", "_law_had", "_law_house", "_law_rows", "_law_rest", "_law_there", "_law_best", "_law_top", "_law_turn", "_law_name", "_law_row"]) (sc := defScope s_law_right) (by decide +kernel)) (fun _ _ _ _ _ => (pg_name (i := 10) sc_law_right.nd rfl (Or.inl rfl))) (fun _ _ _ _ _ => pts_nil) (fun _ _ _ _ _ => (pe_dget (hu_of hr) (pv 2) (pv 10) (fun _ _ => rfl)))) pa_nil))) (pss_cons (ps_if (pt_cmpR (kNeD rfl hr.units) (pe_call G_law_lates (hr.mono (by decide)) rfl T.g_law_lates kp_law_lates b_law_lates .nil pass0 (pa_cons (pe_dget (hu_of hr) (pv 1) (pv 7) (fun _ _ => rfl)) pa_nil)) (pe_callTy (call_list_rng rfl) (by rfl) T.b_list (by decide +kernel) (pa_cons (pe_callTy cr_range2 (by rfl) T.b_range (by decide +kernel) (pa_cons pe_int (pa_cons (pe_op op_add pe_int (pv 8)) pa_nil))) pa_nil)) (nomark _)) (pss_one (ps_ret pe_bl)) pss_nil) (pss_cons (ps_for PassesOwn.never rfl (pi_range1 rfl T.b_range (pa_cons (pe_call G_law_take (hr.mono (by decide)) rfl T.g_law_take kp_law_take b_law_take .nil pass0 (pa_cons (pv 0) (pa_cons pe_int pa_nil))) pa_nil)) (pg_name (i := 9) sc_law_right.nd rfl (Or.inl rfl)) (pss_one (ps_expr (pe_call G_law_round (hr.mono (by decide)) rfl T.g_law_round kp_law_round b_law_round .nil pass0 (pa_cons (pv 6) (pa_cons (pe_meth (pe_dget (hu_of hr) (pv 1) (pv 7) (fun _ _ => rfl)) T.cl T.me_put G_m_put (hr.mono (by decide)) b_m_put .nil pass0 (pa_cons (pe_tup (pa_cons pe_str (pa_cons pe_str pa_nil))) pa_nil)) pa_nil)))))) (pss_cons (ps_for PassesOwn.never rfl (pi_range1 rfl T.b_range (pa_cons pe_int pa_nil)) (pg_name (i := 9) sc_law_right.nd rfl (Or.inl rfl)) (pss_one (ps_expr (pe_call G_law_round (hr.mono (by decide)) rfl T.g_law_round kp_law_round b_law_round .nil pass0 (pa_cons (pv 1) (pa_cons (pe_lst pa_nil) pa_nil)))))) (pss_cons (ps_lock (ps_for PassesOwn.never rfl (pi_values (pv 1)) (pg_name (i := 3) sc_law_right.nd rfl (Or.inl rfl)) (pss_one (ps_if (PW.pt (pw_or (pt_cmpR (kNeD rfl hr.units) (pe_meth0 (pv 3) T.cl T.me_row G_m_row (hr.mono (by decide)) b_m_row .nil pass0) (pe_meth0 (pe_dget (hu_of hr) (pv 1) (pv 7) (fun _ _ => rfl)) T.cl T.me_row G_m_row (hr.mono (by decide)) b_m_row .nil pass0) (nomark _)) (pw_or (pt_cmpR (kNeD rfl hr.units) (pe_meth0 (pv 3) T.cl T.me_done_row G_m_done_row (hr.mono (by decide)) b_m_done_row .nil pass0) (pe_meth0 (pv 3) T.cl T.me_row G_m_row (hr.mono (by decide)) b_m_row .nil pass0) (nomark _)) (pw_or1 (pt_cmpR op_ne (pe_meth0 (pv 3) T.cl T.me_head G_m_head (hr.mono (by decide)) b_m_head .nil pass0) (pv 7) (nomark _)))))) (pss_one (ps_ret pe_bl)) pss_nil)))) (pss_one (ps_ret (pe_cmpR (kEqD rfl hr.units) (pe_lc (own := [("_law_row", 11)]) (g := gName 11) rfl sc_law_right.nd (pi_list (pv 4)) (blkOk_by (own := [("_law_row", 11)]) (N := ["_law_pool_here", "_law_houses", "_law_had", "_law_house", "_law_rows", "_law_rest", "_law_there", "_law_best", "_law_top", "_law_turn", "_law_name", "_law_row"]) (sc := defScope s_law_right) (by decide +kernel)) (fun _ _ _ _ _ => (pg_name (i := 11) sc_law_right.nd rfl (Or.inl rfl))) (fun _ _ _ _ _ => (pts_one (pt_not (pt_val (pe_call G_is_beginning (hr.mono (by decide)) rfl T.g_is_beginning kp_is_beginning b_is_beginning .nil pass0 (pa_cons (pv 11) (pa_cons (pe_meth0 (pe_dget (hu_of hr) (pv 1) (pv 7) (fun _ _ => rfl)) T.cl T.me_row G_m_row (hr.mono (by decide)) b_m_row .nil pass0) pa_nil))))))) (fun _ _ _ _ _ => (pv 11))) (pe_lst pa_nil) (nomark _)))))))))))))))), ?_⟩
    rw [st_law_right]
    -- the rows
    have nd0 := g0.t.hs.nd
    have nl : T0.length ≤ 26 := g0.l
    have npl : ∀ q ∈ T0, pl ∉ own q.1 := fun q mq z => by
      obtain ⟨x, y, e⟩ := g0.m.p0
      rw [g0.n q mq pl z] at e; cases e
    refine ⟨dd, .dK (kvT T0), g0.t.dict, True.intro, fun od => ?_⟩
    have hf : (upd H dd (.frz od (.dK (kvT T0)))) dd = some (.frz od (.dK (kvT T0))) := upd_same
    have hsf : Hss K (upd H dd (.frz od (.dK (kvT T0)))) T0 := g0.t.hs.put g0.t.dict nt_dK g0.t.no
    have fr : ∀ b, (upd H dd (.frz od (.dK (kvT T0)))) b = none → H b = none := fun b e => by
      by_cases c : b = dd
      · subst c; rw [upd_same] at e; cases e
      · rw [upd_ne c] at e; exact e
    have back := fun {H' : Hp} (s : Same (upd H dd (.frz od (.dK (kvT T0)))) H') => lock_same g0.t.dict s
    generalize upd H dd (.frz od (.dK (kvT T0))) = Hf at *
    have klen : (kvT T0).length = T0.length := List.length_map ..
    refine ⟨_, rfl, dd, od, kvT T0, rfl, hf, lc_inv T0.length (fun D i Hc => Same Hf Hc ∧ ∃ ps : List Addr, Hc D = some (.lst (ps.map V.ref)) ∧ Paired (fun p (r : M.Row) => ∃ ws, Hc p = some (.lst ws) ∧ Ds K thD Hc ws r ∧ Hf p = none ∧ p ≠ D) ps (((wsT T0).map fun h => M.upTo h.row h.done).take i))
      (fun D hD => ⟨same_new hD, [], upd_same, by rw [List.take_zero]; exact .nil⟩) (fun D i Hc hi ⟨s, _⟩ => ⟨s _ _ hf, by rw [klen]; exact hi⟩) (fun D Hc ⟨s, _⟩ => ⟨s _ _ hf, by rw [klen]; exact Nat.le_refl _⟩)
      (fun D i Hx x Hc hD hi ⟨s, ps, hw, hp⟩ y => ?_) (fun D Hc hD ⟨s, ps, hw, hp⟩ => ?_)⟩
    · obtain ⟨e, ky, y1⟩ := y
      subst e
      obtain ⟨q, hq, eq⟩ : ∃ q, T0[i]? = some q ∧ (nK q.2.name, V.ref q.1.p) = (ky, x) := by
        unfold kvT at y1
        rw [List.getElem?_map] at y1
        cases c : T0[i]? with
        | none => rw [c] at y1; cases y1
        | some q => rw [c] at y1; exact ⟨q, rfl, Option.some.inj y1⟩
      cases eq
      have hh := (hsf.at_ _ (List.mem_of_getElem? hq)).same s
      have hr : ((wsT T0).map fun h => M.upTo h.row h.done)[i]? = some (M.upTo q.2.row q.2.done) := by
        unfold wsT
        rw [List.getElem?_map, List.getElem?_map, hq]; rfl
      refine ⟨rfl, _, rfl, q.1.p, q.1.dx, _, rfl, hh.ob, no_done_row _ _, q.1, q.2, rfl, hh, fun D2 H2 ⟨n2, s2, ws2, e2, d2⟩ => ?_⟩
      have hw2 := s2 _ _ hw
      have lps := pd_len hp
      rw [List.length_take] at lps
      have nDD : D2 ≠ D := fun z => by rw [z, hw] at n2; cases n2
      have kp : Kp H2 (upd H2 D (.lst (ps.map V.ref ++ [V.ref D2]))) := Kp.lst hw2
      refine ⟨_, hw2, Nat.lt_of_le_of_lt (show (ps.map V.ref).length ≤ 26 by rw [List.length_map]; omega) (by decide), same_newer (s.trans s2) hD, ps ++ [D2], by rw [upd_same, List.map_append]; rfl, ?_⟩
      rw [take_snoc hr]
      refine pd_app (pd_mono hp fun p r ⟨ws, z1, z2, z3, z4⟩ => ⟨ws, by rw [upd_ne z4]; exact s2 _ _ z1, (z2.kp (Kp.of s2) noL_th).kp kp noL_th, z3, z4⟩) (.cons ⟨ws2, by rw [upd_ne nDD]; exact e2, d2.kp kp noL_th, s.free n2, nDD⟩ .nil)
    have hdd := s _ _ hf
    rw [List.take_of_length_le (by unfold wsT; rw [List.length_map, List.length_map]; exact Nat.le_refl _)] at hp
    refine ⟨hdd, ?_⟩
    have sB := back s
    have nDd : D ≠ dd := fun z => by rw [z, hf] at hD; cases hD
    have hR : Rws K (upd Hc dd (.dK (kvT T0))) pl T0 D ps ((wsT T0).map fun h => M.upTo h.row h.done) := by
      have kp : Kp Hc (upd Hc dd (.dK (kvT T0))) := Kp.at hdd (fun _ z => nomatch z) fun _ _ z => by cases z
      have nP : ∀ b, H b = none → b ≠ pl := fun b e z => by obtain ⟨x, y, q⟩ := g0.m.pool; rw [← z, e] at q; cases q
      refine ⟨⟨by rw [upd_ne nDd]; exact hw, g0.t.hs.not (fr _ hD), nP _ (fr _ hD)⟩, pd_mono hp fun p r ⟨ws, z1, z2, z3, z4⟩ => ⟨ws, ⟨?_, g0.t.hs.not (fr _ z3), nP _ (fr _ z3)⟩, z2.kp kp noL_th⟩⟩
      rw [upd_ne (fun z => by rw [z, hf] at z3; cases z3)]; exact z1
    have g1 := g0.same sB
    have kh1 := kh.same sB
    have hTb := hT
    clear hw hp hdd hsf hf fr back s hD
    generalize upd Hc dd (.dK (kvT T0)) = H1 at *
    clear sB
    -- the first one begins anew
    simp only [List.set_cons_succ, List.set_cons_zero]
    obtain ⟨i0, a0, h0, hi0, en0⟩ := ns_at h0n
    have hh0 := g1.t.hs.at_ _ (List.mem_of_getElem? hi0)
    refine ⟨_, rfl, dd, .ref a0.p, rfl, g1.t.getA hi0 en0, a0.p, a0.dx, _, rfl, hh0.ob, no_begin_anew _ _, a0, h0, rfl, hh0, fun H2 a2 f2 hh2 => ?_⟩
    obtain ⟨t2, f2⟩ := g1.t.step hi0 f2 hh2 (h' := M.beginAnew h0) rfl
    have g2 := g1.frs f2 t2
    have kh2 := kh1.frs f2
    have hR2 := hR.frs f2
    have w2 : wsT (T0.set i0 (a2, M.beginAnew h0)) = M.setAt 0 (M.beginAnew h0) (wsT T0) := by
      rw [wsT_set, ← setAt_T nd0 hi0, en0]
    have ns2 : nsT (T0.set i0 (a2, M.beginAnew h0)) = nsT T0 := ns_kv f2.kv
    have len2 : (T0.set i0 (a2, M.beginAnew h0)).length = T0.length := List.length_set ..
    have at0 : M.at_ 0 (wsT T0) = some h0 := by
      rw [find_at, ← en0, find_T nd0 hi0]; rfl
    clear f2 t2 hh2 hh0 g1 kh1 hR hi0
    generalize T0.set i0 (a2, M.beginAnew h0) = T2 at *
    -- the rest
    have nl2 : T2.length ≤ 26 := g2.l
    refine ⟨dd, .dK (kvT T2), g2.t.dict, True.intro, fun od2 => ?_⟩
    have hf : (upd H2 dd (.frz od2 (.dK (kvT T2)))) dd = some (.frz od2 (.dK (kvT T2))) := upd_same
    have fr : ∀ b, (upd H2 dd (.frz od2 (.dK (kvT T2)))) b = none → H2 b = none := fun b e => by
      by_cases c : b = dd
      · subst c; rw [upd_same] at e; cases e
      · rw [upd_ne c] at e; exact e
    have back := fun {H' : Hp} (s : Same (upd H2 dd (.frz od2 (.dK (kvT T2)))) H') => lock_same g2.t.dict s
    generalize upd H2 dd (.frz od2 (.dK (kvT T2))) = Hf at *
    have pk : Paired (fun v (i : Nat) => v = V.str (nm i)) ((kvT T2).map fun kv => kV kv.1) (nsT T2) := by
      have e : ((kvT T2).map fun kv => kV kv.1) = (nsT T2).map fun i => V.str (nm i) := by unfold kvT nsT; rw [List.map_map, List.map_map]; rfl
      rw [e]; exact names_pd _
    have nln : (nsT T2).length ≤ 26 := by unfold nsT; rw [List.length_map]; exact nl2
    refine ⟨_, rfl, dd, od2, rfl, .inl ⟨kvT T2, hf, lc_any (fun i => if Nat.beq i 0 then none else some i) (fun H v (i : Nat) => v = V.str (nm i)) (goes_keys hf pk) (fun _ e => e) (by omega) (fun y i H9 Qy Qn s9 e1 m1 ky kn => ?_) (fun L ws H3 hL s3 hw hp => ?_)⟩⟩
    · subst e1
      refine ⟨rfl, _, rfl, rfl, _, rfl, ?_⟩
      rw [isA]
      cases c : Nat.beq i 0 with
      | true => exact iteF (kn (by rw [c]; rfl) _ (Same.refl _))
      | false => exact iteT ⟨_, rfl, ky _ i _ (by rw [c]; rfl) (Same.refl _) rfl⟩
    refine ⟨s3 _ _ hf, ?_⟩
    have sB := back s3
    have nLd : L ≠ dd := fun z => by rw [z, hf] at hL; cases hL
    have erest : (nsT T2).filterMap (fun i => if Nat.beq i 0 then none else some i) = rest0 T0 := by
      unfold rest0
      rw [ns2]
      generalize nsT T0 = l
      induction l with
      | nil => rfl
      | cons x l ih =>
        rw [List.filterMap_cons, List.filter_cons, ih]
        cases Nat.beq x 0 <;> rfl
    rw [erest] at hp
    have ews : ws = (rest0 T0).map fun i => V.str (nm i) := names_eq hp
    subst ews
    have nP : ∀ b, H2 b = none → b ≠ pl := fun b e z => by obtain ⟨x, y, q⟩ := g2.m.pool; rw [← z, e] at q; cases q
    have hL2 := fr _ hL
    have la : La K Hb (upd H3 dd (.dK (kvT T2))) pl dd hd T2 had D ps ((wsT T0).map fun h => M.upTo h.row h.done) L (rest0 T0) := by
      refine ⟨g2.same sB, kh2.same sB, hR2.same sB, ⟨by rw [upd_ne nLd]; exact hw, g2.t.hs.not hL2, nP _ hL2⟩, g2.m.free hL2, nLd, fun z => ?_, fun z => ?_, fun z => ?_⟩
      · have := kh2.e; rw [← z, hL2] at this; cases this
      · have := hR2.d.e; rw [← z, hL2] at this; cases this
      · obtain ⟨i, hi⟩ := List.getElem?_of_mem z
        obtain ⟨r, _, ws, k1, _⟩ := pd_get hR2.r hi
        rw [k1.e] at hL2; cases hL2
    clear hf fr back s3 hw hp hL hL2 nP sB g2 kh2 hR2 pk erest nLd
    generalize upd H3 dd (.dK (kvT T2)) = H4 at *
    simp only [List.set_cons_succ, List.set_cons_zero]
    -- some are left out
    have hrl2 : (rest0 T0).length ≤ T2.length / 2 + 2 := by rw [len2]; exact hrl
    have hop : ∀ r ∈ restOpts T2.length (rest0 T0), ∀ u, u < 3 → M.rightRun (wsT T0) had r u = some true := by rw [len2]; exact hrun
    have rlen : ∀ r ∈ restOpts T2.length (rest0 T0), r.length ≤ 26 := fun r hr => Nat.le_trans (rest_sub hr).length_le (Nat.le_trans (List.length_filter_le _ _) (by unfold nsT; rw [List.length_map]; exact nl))
    refine while_x (fun m σ Hw => ∃ r, σ = [some (.ref pl), some (.ref dd), some (.ref hd), none, some (.ref D), some (.ref L), none, none, none, none, none, none] ∧ m = r.length ∧ r ∈ restOpts T2.length (rest0 T0) ∧ La K Hb Hw pl dd hd T2 had D ps ((wsT T0).map fun h => M.upTo h.row h.done) L r)
      (fun σ Hw => ∃ r, σ = [some (.ref pl), some (.ref dd), some (.ref hd), none, some (.ref D), some (.ref L), none, none, none, none, none, none] ∧ r ∈ restOpts T2.length (rest0 T0) ∧ La K Hb Hw pl dd hd T2 had D ps ((wsT T0).map fun h => M.upTo h.row h.done) L r) ⟨_, rest0 T0, rfl, rfl, rest_self _ _, la⟩ (fun σ Hx ⟨r, e, hr, lax⟩ => ?_) fun hx => ?_
    rotate_left
    · clear la
      rintro m σ Hw ⟨r, rfl, rfl, hr, la⟩
      have hrlen := rlen r hr
      have lr : (r.map fun i => V.str (nm i)).length = r.length := List.length_map ..
      refine ⟨_, rfl, L, _, rfl, .inl (SqL.of la.l.e), _, rfl, dd, kvT T2, rfl, la.g.t.dict, _, _, rfl, rfl, ⟨by decide, by decide⟩, _, _, rfl, rfl, _, _, rfl, rfl, _, rfl, ?_⟩
      rw [lr, show (kvT T2).length = T2.length from List.length_map .., show Int.fdiv (T2.length : Int) 2 = ((T2.length / 2 : Nat) : Int) from by rw [Int.fdiv_eq_ediv_of_nonneg _ (by decide)]; rfl]
      by_cases hlt : T2.length / 2 + 1 < r.length
      · refine iteB (b := true) (decide_eq_true (by omega)) (iteT ⟨_, rfl, pl, 2, rfl, by decide, by decide, la.g.m.pool, fun dg c s hdg => ⟨rfl, _, rfl, ?_⟩⟩)
        rw [is0]
        have la2 := la.draw c s
        generalize upd Hw pl (.lst [.int c, .int s]) = Hw2 at *
        cases cd : Nat.beq dg 0 with
        | false => exact iteF (hx _ _ ⟨r, rfl, hr, la2⟩)
        | true =>
          refine iteT ⟨fun σ' H' => ∃ r2, σ' = [some (.ref pl), some (.ref dd), some (.ref hd), none, some (.ref D), some (.ref L), none, none, none, none, none, none] ∧ r2.length + 1 = r.length ∧ r2 ∈ restOpts T2.length (rest0 T0) ∧ La K Hb H' pl dd hd T2 had D ps ((wsT T0).map fun h => M.upTo h.row h.done) L r2, fun σ' H' ⟨r2, z1, z2, z3, z4⟩ => ⟨r2.length, by omega, r2, z1, rfl, z3, z4⟩, ?_⟩
          refine ⟨_, rfl, .inl ⟨rfl, _, SqL.of la2.l.e⟩, _, rfl, _, rfl, L, _, rfl, .inl (SqL.of la2.l.e), pl, r.length, (by rw [lr]; rfl), by omega, by omega, la2.g.m.pool, fun dg2 c2 s2 hdg2 => ?_⟩
          have la3 := la2.draw c2 s2
          generalize upd Hw2 pl (.lst [.int c2, .int s2]) = Hw3 at *
          have hget : (r.map fun i => V.str (nm i))[dg2]? = some (V.str (nm r[dg2])) := by rw [List.getElem?_map, List.getElem?_eq_getElem hdg2]; rfl
          have hidx : seqIndex? ((dg2 : Nat) : Int) (r.map fun i => V.str (nm i)).length = some dg2 := by
            rw [lr]; simp [seqIndex?]; omega
          refine ⟨L, _, ((dg2 : Nat) : Int), dg2, _, rfl, rfl, la3.l.e, by omega, by omega, hidx, hget, r.eraseIdx dg2, rfl, ?_, (rest_pop hr hlt hrl2 hdg2).1, ?_⟩
          · rw [List.length_eraseIdx, if_pos hdg2]; omega
          · rw [erase_map]
            exact la3.pop
      · exact iteB (b := false) (decide_eq_false (by omega)) (iteF (iteF (hx _ _ ⟨r, rfl, hr, la⟩)))
    subst e
    clear la rlen hrl2 hrl hrun hrn
    -- those there
    have nd2 : (nsT T2).Nodup := by rw [ns2]; exact nd0
    have hsubl := rest_sub hr
    have rnd : r.Nodup := hsubl.nodup (List.filter_sublist.nodup nd0)
    have hsub : ∀ x ∈ r, x ∈ nsT T2 := fun x mx => by
      rw [ns2]; exact (List.mem_filter.mp (hsubl.subset mx)).1
    have rl26 : r.length ≤ 26 := Nat.le_trans hsubl.length_le (Nat.le_trans (List.length_filter_le _ _) (by unfold nsT; rw [List.length_map]; exact nl))
    clear hsubl
    refine ⟨_, rfl, L, rfl, ⟨_, SqL.of lax.l.e⟩, lc_any (fun x => T2.find? fun q => Nat.beq q.2.name x) (fun H v (q : HA × M.Hs) => ∃ t, v = V.ref t ∧ SqT K H t [.str (nm q.2.name), .ref q.1.p]) (goes_list (SqL.of lax.l.e) (names_pd r)) (fun k ⟨t, e, z⟩ => ⟨t, e, k.kp.sqt z⟩) (by omega) (fun y i H9 Qy Qn s9 e1 m1 ky kn => ?_) (fun D2 ws H3 hD2 s3 hw hp => ?_)⟩
    · subst e1
      obtain ⟨j, a, h, hj, en⟩ := ns_at (hsub i m1)
      have hfd := find_T nd2 hj
      rw [en] at hfd
      have hg := ((lax.same s9).g.t.get hj)
      rw [en] at hg
      refine ⟨rfl, _, rfl, _, rfl, _, rfl, dd, .ref a.p, rfl, hg, by show 2 ≤ sizeLine; decide, fun t ht => ky _ (a, h) _ hfd (same_new ht) ⟨t, rfl, ?_⟩⟩
      rw [en]; exact SqT.of upd_same
    have lb := lax.same s3
    have hp : Paired (fun v (q : HA × M.Hs) => ∃ t, v = V.ref t ∧ SqT K H3 t [.str (nm q.2.name), .ref q.1.p]) ws (pickT T2 r) := hp
    obtain ⟨ps2, rfl, pp⟩ := pairs_of hp
    have nsP := pick_ns nd2 hsub
    have hsP : Hss K H3 (pickT T2 r) := pick_hss lb.g.t.hs rnd hsub
    have subP : ∀ q ∈ pickT T2 r, q ∈ T2 := fun q mq => pick_mem mq
    have wsP : wsT (pickT T2 r) = r.filterMap fun x => M.at_ x (M.setAt 0 (M.beginAnew h0) (wsT T0)) := by rw [pick_ws, w2]
    clear hp lax
    generalize pickT T2 r = P at *
    refine ⟨D2, ps2, kvT P, rfl, SqL.of hw, pp, fun th hth => ?_⟩
    rw [merge_new (kvT P) [] (kvT_pw hsP.nd), List.nil_append]
    have tn : ∀ q ∈ T2, th ∉ own q.1 := lb.g.t.hs.not hth
    have tp : th ≠ pl := fun z => by obtain ⟨x, y, q⟩ := lb.g.m.pool; rw [← z, hth] at q; cases q
    (generalize hz : upd H3 th _ = H4; have s4 : Same H3 H4 := (by rw [← hz]; exact same_new hth); have h4 : H4 th = some _ := (by rw [← hz]; exact upd_same); clear hz)
    have lc := lb.same s4
    have hsP4 := hsP.same s4
    have twP : Town K H4 th P := ⟨h4, hsP4, fun q mq => tn q (subP q mq)⟩
    clear lb hsP hsP4 h4 s4 hw pp s3 hD2 hth
    simp only [List.set_cons_succ, List.set_cons_zero]
    -- the best
    obtain ⟨h0', b0, bs, thW, bh, _, _, _, rp⟩ := right_parts (hop r hr 0 (by decide))
    have e0 := rp.a0
    rw [at0] at e0
    cases e0
    have eP : wsT P = b0 :: bs := wsP.trans rp.f
    have hTx : Tabs (rT K) H4 := Tabs.mv hT lc.g.m
    have lenP : P.length = r.length := by rw [← nsP]; exact (List.length_map ..).symm
    have lr : (r.map fun i => V.str (nm i)).length = ((wsT P).map keyOf).length := by unfold wsT; rw [List.length_map, List.length_map, List.length_map, lenP]
    refine ⟨hTx, L, _, (wsT P).map keyOf, rfl, lc.l.e, lr, by rw [eP, List.map_cons, List.length_cons]; omega, fun H5 eN T5 => ⟨fun j x ex od2 H6 Q2 s6 hq => ?_, fun x ex H7 s7 => ?_⟩⟩
    · have gB := lc.g.base eN (ExtN.kp eN)
      have l5 := eN _ _ lc.l.e fun _ z => (nomatch z)
      have nmP : ∀ {j i : Nat}, r[j]? = some i → ∃ a h, P[j]? = some (a, h) ∧ h.name = i := fun {j i} hi => by
        rw [← nsP] at hi
        unfold nsT at hi
        rw [List.getElem?_map] at hi
        cases c : P[j]? with
        | none => rw [c] at hi; cases hi
        | some q => rw [c] at hi; exact ⟨q.1, q.2, rfl, Option.some.inj hi⟩
      have nmV : ∀ {j : Nat} {x : V}, (r.map fun i => V.str (nm i))[j]? = some x → ∃ i, r[j]? = some i ∧ x = V.str (nm i) := fun {j x} ex => by
        rw [List.getElem?_map] at ex
        cases c : r[j]? with
        | none => rw [c] at ex; cases ex
        | some i => rw [c] at ex; exact ⟨i, rfl, (Option.some.inj ex).symm⟩
      obtain ⟨i, hi, rfl⟩ := nmV ex
      obtain ⟨a, h, hj, en⟩ := nmP hi
      obtain ⟨jx, hjx⟩ := List.getElem?_of_mem (subP _ (List.mem_of_getElem? hj))
      have g7 := (gB.put (o := .frz od2 (.lst (r.map fun i => V.str (nm i)))) (newB_none lc.ln (by rw [l5]; rfl)) l5 nt_lst lc.ld.1 lc.l.n).same s6
      have hget := g7.t.get hjx
      rw [en] at hget
      have hh := g7.t.hs.at_ _ (List.mem_of_getElem? hjx)
      refine ⟨_, rfl, _, rfl, dd, .ref a.p, rfl, hget, a, h, rfl, hh, fun v H8 s8 d8 => hq v H8 s8 ?_⟩
      have ek : epOf ((wsT P).map keyOf) j = epD h.epoch (M.last h) := by
        unfold epOf wsT
        rw [List.getD_eq_getElem?_getD, List.getElem?_map, List.getElem?_map, hj]; rfl
      rw [ek]; exact d8
    have gB := lc.g.base eN (ExtN.kp eN)
    have nmV : ∀ {j : Nat} {x : V}, (r.map fun i => V.str (nm i))[j]? = some x → ∃ i, r[j]? = some i ∧ x = V.str (nm i) := fun {j x} ex => by
      rw [List.getElem?_map] at ex
      cases c : r[j]? with
      | none => rw [c] at ex; cases ex
      | some i => rw [c] at ex; exact ⟨i, rfl, (Option.some.inj ex).symm⟩
    obtain ⟨bi, hbi, rfl⟩ := nmV ex
    have ebi : bi = (M.bestOf b0 bs).name := by
      have hb := best_at b0 bs
      rw [← eP] at hb
      rw [← nsP, ← ws_ns, List.getElem?_map, hb] at hbi
      exact (Option.some.inj hbi).symm
    subst ebi
    clear ex hbi nmV hTx lenP lr
    have lb : Lb K (newB Hb H5) H5 pl dd hd th T2 P had D ps ((wsT T0).map fun h => M.upTo h.row h.done) L r (wsT T2) := by
      have hsP5 : Hss K H5 P := twP.hs.kept (ExtN.kp eN) fun q mq b mb o eo => eN _ _ eo fun ps z => by
        have := own_tx (twP.hs.at_ q mq) b mb
        rw [eo, z] at this; cases this
      exact ⟨gB, ⟨eN _ _ twP.dict fun _ z => (nomatch z), hsP5, twP.no⟩, subP, tn, tp, lc.kh.ext eN fun _ z => (nomatch z), lc.rw_.ext eN, lc.l.ext eN fun _ z => (nomatch z), nsP, merge_part nd2 subP⟩
    have back : ∀ H', Mv (newB Hb H5) H' pl → (∀ b o, b ≠ pl → Hb b = some o → (∀ ps, o ≠ .tbl ps) → H' b = some o) ∧ Tabs (rT K) H' := fun H' m => by
      refine ⟨fun b o nb e n => m.keep b o nb (newB_old e (eN _ _ (lc.g.m.keep b o nb e) n) n), Tabs.mv (Tabs.newB T5) m⟩
    have nd1 := nd2
    have kfin := fun H' (m : Mv (newB Hb H5) H' pl) => k H' (back H' m).1 (back H' m).2
    have lb7 := lb.same s7
    clear lb gB twP lc eN T5 back s7 k
    generalize newB Hb H5 = HB at *
    simp only [List.set_cons_succ, List.set_cons_zero]
    -- the calm
    have hcalm : M.calmed (wsT P) (M.bestOf b0 bs).name = some (thW, true) := by rw [eP]; exact rp.c
    have plen : ∀ {P' : Tn}, nsT P' = r → P'.length = r.length := fun {P'} e => by rw [← e]; exact (List.length_map ..).symm
    refine ⟨_, rfl, _, rfl, th, P, (M.bestOf b0 bs).name, thW, true, rfl, lb7.t, by rw [plen nsP]; exact rl26, hcalm, fun H8 P8 f8 t8 e8 => ?_⟩
    have lb8 := lb7.part f8 t8
    obtain ⟨T8, hT8⟩ : ∃ T8, mgT T2 P8 = T8 := ⟨_, rfl⟩
    rw [hT8] at lb8
    clear f8 t8 lb7 hT8 subP
    refine ⟨_, rfl, iteF ?_⟩
    -- the greatest number of those there
    have hmem : ∀ i ∈ r, i ∈ had.map (·.1) := fun i mi => by rw [hn, ← ns2]; exact hsub i mi
    refine ⟨_, rfl, L, rfl, ⟨_, SqL.of lb8.l.e⟩, lc_any (fun x => some (M.hadOf had x)) (fun _ v (n : Nat) => v = V.int ((n : Nat) : Int)) (goes_list (SqL.of lb8.l.e) (names_pd r)) (fun _ e => e) (by omega) (fun y i H9 Qy Qn s9 e1 m1 ky kn => ?_) (fun D3 ws H9 hD3 s9 hw hp => ?_)⟩
    · subst e1
      exact ⟨rfl, _, rfl, _, rfl, hd, _, rfl, .inl ⟨hadK had, nK i, .inl (s9 _ _ lb8.kh.e), rfl, (had_get (hmem i m1)).symm⟩, ky _ _ _ rfl (Same.refl _) rfl⟩
    have ews : ws = (r.map fun x => ((M.hadOf had x : Nat) : Int)).map V.int := by
      rw [nums_eq hp, List.filterMap_eq_map', List.map_map, List.map_map]; rfl
    have lb9 := lb8.same s9
    have hbh : M.at_ (M.bestOf b0 bs).name (wsT P8) = some bh := by rw [e8]; exact rp.b
    have rpos : 0 < r.length := by
      rw [← nsP, ← ws_ns, eP, List.map_cons, List.length_cons]; omega
    refine ⟨D3, _, rfl, by rw [← ews]; exact SqL.of hw, by rw [List.length_map]; exact rpos, fun m hm1 hm2 => ?_⟩
    have em := top_max hm1 hm2
    subst em
    have htop := top_le2 (b := 50) r hle
    have elates := M.eqL_eq rp.l
    clear hp ews hw s9 hm1 hm2 hD3 lb8 hmem
    simp only [List.set_cons_succ, List.set_cons_zero]
    -- the late ones of the best
    obtain ⟨j8, a8, hj8, en8⟩ := at_T hbh
    obtain ⟨jt, hjt⟩ := List.getElem?_of_mem (lb9.sub _ (List.mem_of_getElem? hj8))
    have hg9 := lb9.g.t.get hjt
    rw [en8] at hg9
    have hh9 := lb9.g.t.hs.at_ _ (List.mem_of_getElem? hjt)
    refine ⟨_, rfl, _, rfl, dd, .ref a8.p, rfl, hg9, a8, bh, rfl, hh9, fun D4 H10 n4 s10 e10 => ?_⟩
    refine ⟨_, rfl, _, _, rfl, rfl, _, _, rfl, fun p hp => ?_⟩
    (generalize hz : upd H10 p _ = H11; have s11 : Same H10 H11 := (by rw [← hz]; exact same_new hp); have h11 : H11 p = some _ := (by rw [← hz]; exact upd_same); clear hz)
    refine ⟨p, _, _, rfl, h11, by decide, by omega, by omega, fun l hl => ?_⟩
    (generalize hz : upd H11 l _ = H12; have s12 : Same H11 H12 := (by rw [← hz]; exact same_new hl); have h12 : H12 l = some _ := (by rw [← hz]; exact upd_same); clear hz)
    have e1 : ((List.range ((1 + ((M.topOf had r : Nat) : Int)) - 1).toNat).map fun i => V.int (1 + ((i : Nat) : Int))) = (List.range (M.topOf had r)).map fun k => V.int ((k + 1 : Nat) : Int) := by
      rw [show ((1 + ((M.topOf had r : Nat) : Int)) - 1).toNat = M.topOf had r from by omega]
      exact List.map_congr_left fun i _ => by
        show V.int _ = V.int _
        congr 1; omega
    rw [e1] at h12
    refine ⟨intsD (M.lates bh.row), intsD (List.range (M.topOf had r)), .lst (SqL.of ((s11.trans s12) _ _ e10)) (ints_dp _), .lst (SqL.of h12) (ints_dp _), intsD_shaped _, intsD_shaped _, false, by rw [elates, intsD_eqv]; rfl, iteF ?_⟩
    have lbA := lb9.same (s10.trans (s11.trans s12))
    clear h12 s12 s11 h11 hp hl e1 s10 e10 n4 hh9 hg9 hjt lb9 elates hj8
    -- some are put
    simp only [List.set_cons_succ, List.set_cons_zero]
    refine ⟨_, rfl, pl, 3, rfl, by decide, by decide, lbA.g.m.pool, fun u c s hu => ?_⟩
    have lbB := lbA.draw c s
    generalize upd H12 pl (.lst [.int c, .int s]) = H13 at *
    obtain ⟨h0', b0', bs', th', bh', th2, wsE, be, ru⟩ := right_parts (hop r hr u hu)
    have z1 := ru.a0
    rw [at0] at z1
    cases z1
    have z2 := ru.f
    rw [rp.f] at z2
    cases z2
    have z3 := ru.c
    rw [rp.c] at z3
    cases z3
    have rup := ru.p
    have rue := ru.e
    have rub := ru.be_
    have rall := ru.all_
    have rpre := ru.pre
    rw [← e8] at rup
    rw [← w2] at rue
    clear rp ru hop hr lbA e8 hbh eP hcalm wsP at0
    refine ⟨((u : Nat) : Int), rfl, by omega, by omega, for_range (n := u) (fun i σ Hc => ∃ (Tc Pc : Tn) (o9 : Option V), σ = [some (.ref pl), some (.ref dd), some (.ref hd), none, some (.ref D), some (.ref L), some (.ref th), some (.str (nm (M.bestOf b0 bs).name)), some (.int ((M.topOf had r : Nat) : Int)), o9, none, none] ∧ Lb K HB Hc pl dd hd th Tc Pc had D ps ((wsT T0).map fun h => M.upTo h.row h.done) L r (wsT T2) ∧ M.putRounds (M.bestOf b0 bs).name .new (u - i) (wsT Pc) = some th2)
      ⟨T8, P8, none, rfl, lbB, rup⟩ (fun i σ Hc hi ⟨Tc, Pc, o9, e, lc, rc⟩ => ?_) (fun σ Hc ⟨Tc, Pc, o9, e, lc, rc⟩ => ?_)⟩
    · subst e
      obtain ⟨h, h', ls, w3, q1, q2, q3, q4⟩ := putRounds_parts (k := u - (i + 1)) (by rw [show u - (i + 1) + 1 = u - i from by omega]; exact rc)
      obtain ⟨j, a, hj, en⟩ := at_T q1
      obtain ⟨jt, hjt⟩ := List.getElem?_of_mem (lc.sub _ (List.mem_of_getElem? hj))
      have hg := lc.g.t.get hjt
      rw [en] at hg
      have hh := lc.t.hs.at_ _ (List.mem_of_getElem? hj)
      have pne : Pc ≠ [] := fun z => by rw [z] at hj; cases hj
      have plc : Pc.length ≤ 26 := by rw [plen lc.ns]; exact rl26
      refine ⟨_, rfl, _, rfl, _, rfl, dd, .ref a.p, rfl, hg, a.p, a.dx, _, rfl, hh.ob, no_put _ _, by show 2 ≤ sizeLine; decide, fun ev hev => ?_⟩
      (generalize hz : upd Hc ev _ = H8; have s8 : Same Hc H8 := (by rw [← hz]; exact same_new hev); have h8 : H8 ev = some _ := (by rw [← hz]; exact upd_same); clear hz)
      have lc8 := lc.same s8
      refine ⟨a, h, h', ls, _, .new, rfl, hh.same s8, .tup (SqT.of h8) (.cons (.str _) (.cons (.str _) .nil)), q2, fun H9 a9 r9 po => ?_⟩
      obtain ⟨wl, el, pl9⟩ := po.l
      obtain ⟨t9, f9⟩ := lc8.t.step hj po.f po.hh (put_name q2)
      have lc9 := lc8.part f9 t9
      rw [← en, setAt_T lc.t.hs.nd hj] at q3
      exact ⟨th, r9, _, wl, ls, w3, rfl, t9, len_ne f9.len pne, by rw [f9.len]; exact plc, el, pl9, new_step lc8.t.hs hj po.new po.nr, by rw [wsT_set]; exact q3, fun H10 P10 f10 t10 e10 => ⟨_, P10, _, rfl, lc9.part f10 t10, by rw [e10]; exact q4⟩⟩
    subst e
    have rc : M.putRounds (M.bestOf b0 bs).name .new 0 (wsT Pc) = some th2 := by rw [show u - u = 0 from Nat.sub_self u] at rc; exact rc
    have ePc : wsT Pc = th2 := Option.some.inj rc
    have rue : M.rounds 5 (wsT Tc) = some wsE := by rw [lc.w, ePc]; exact rue
    have gC := lc.g
    have rC := lc.rw_
    clear lc rc ePc lbB rup
    -- five rounds of all
    refine ⟨5, rfl, by decide, by decide, for_range (n := 5) (fun i σ Hc => ∃ (Tc : Tn) (o9 : Option V), σ = [some (.ref pl), some (.ref dd), some (.ref hd), none, some (.ref D), some (.ref L), some (.ref th), some (.str (nm (M.bestOf b0 bs).name)), some (.int ((M.topOf had r : Nat) : Int)), o9, none, none] ∧ Stg K HB Hc pl dd Tc ∧ Rws K Hc pl Tc D ps ((wsT T0).map fun h => M.upTo h.row h.done) ∧ M.rounds (5 - i) (wsT Tc) = some wsE)
      ⟨Tc, o9, rfl, gC, rC, rue⟩ (fun i σ Hc hi ⟨Tc, o9, e, gc, rc, re⟩ => ?_) (fun σ Hc ⟨Tc, o9, e, gc, rc, re⟩ => ?_)⟩
    · subst e
      obtain ⟨w3, r1, r2⟩ := rounds_succ (k := 5 - (i + 1)) (by rw [show 5 - (i + 1) + 1 = 5 - i from by omega]; exact re)
      refine ⟨_, rfl, Nat.zero_le _, fun L2 hL2 => ?_⟩
      (generalize hz : upd Hc L2 _ = H8; have s8 : Same Hc H8 := (by rw [← hz]; exact same_new hL2); have h8 : H8 L2 = some _ := (by rw [← hz]; exact upd_same); clear hz)
      have gc8 := gc.same s8
      exact ⟨dd, L2, Tc, [], [], w3, rfl, gc8.t, gc8.e, gc8.l, h8, .nil, gc.t.hs.not hL2, r1, fun H10 T10 f10 t10 e10 => ⟨T10, _, rfl, gc8.frs f10 t10, (rc.same s8).frs f10, by rw [e10]; exact r2⟩⟩
    subst e
    have eE : wsT Tc = wsE := by
      have z : M.rounds 0 (wsT Tc) = some wsE := re
      exact Option.some.inj z
    subst eE
    clear gC rC rue re
    -- all are alike
    obtain ⟨jb, ab, hjb, enb⟩ := at_T rub
    have hhb := gc.t.hs.at_ _ (List.mem_of_getElem? hjb)
    have nlc : Tc.length ≤ 26 := gc.l
    refine ⟨dd, .dK (kvT Tc), gc.t.dict, True.intro, fun od3 => ?_⟩
    have hf : (upd Hc dd (.frz od3 (.dK (kvT Tc)))) dd = some (.frz od3 (.dK (kvT Tc))) := upd_same
    have hsf : Hss K (upd Hc dd (.frz od3 (.dK (kvT Tc)))) Tc := gc.t.hs.put gc.t.dict nt_dK gc.t.no
    have back := fun {H' : Hp} (s : Same (upd Hc dd (.frz od3 (.dK (kvT Tc)))) H') => lock_same gc.t.dict s
    generalize upd Hc dd (.frz od3 (.dK (kvT Tc))) = Hf at *
    have hvb : valV (kvT Tc) (nK (M.bestOf b0 bs).name) = some (.ref ab.p) := by rw [← enb]; exact kv_hit hsf.nd hjb
    refine ⟨_, rfl, dd, od3, kvT Tc, rfl, hf, for_valsO (fun i σ Hx => ∃ (o3 o9 : Option V), σ = [some (.ref pl), some (.ref dd), some (.ref hd), o3, some (.ref D), some (.ref L), some (.ref th), some (.str (nm (M.bestOf b0 bs).name)), some (.int ((M.topOf had r : Nat) : Int)), o9, none, none] ∧ Same Hf Hx)
      ⟨none, _, rfl, Same.refl _⟩ (fun i σ Hx hi ⟨o3, o9, e, sx⟩ => sx _ _ hf) (fun i ky v σ Hx ek ⟨o3, o9, e, sx⟩ => ?_) (fun σ Hx ⟨o3, o9, e, sx⟩ => ?_)⟩
    · subst e
      obtain ⟨q, hq, eq⟩ : ∃ q, Tc[i]? = some q ∧ (nK q.2.name, V.ref q.1.p) = (ky, v) := by
        unfold kvT at ek
        rw [List.getElem?_map] at ek
        cases c : Tc[i]? with
        | none => rw [c] at ek; cases ek
        | some q => rw [c] at ek; exact ⟨q, rfl, Option.some.inj ek⟩
      cases eq
      have mq := List.mem_of_getElem? hq
      obtain ⟨k1, k2, k3⟩ := allOk_at rall (show q.2 ∈ wsT Tc from List.mem_map.mpr ⟨q, mq, rfl⟩)
      have hh := (hsf.at_ q mq).same sx
      have hhbx := (hsf.at_ _ (List.mem_of_getElem? hjb)).same sx
      refine ⟨_, rfl, q.1.p, q.1.dx, _, rfl, hh.ob, no_row _ _, q.1, q.2, rfl, hh, fun D5 H5 ⟨n5, s5, ws5, e5, d5⟩ => ?_⟩
      have hhb5 := hhbx.same s5
      refine ⟨_, rfl, _, rfl, dd, .ref ab.p, rfl, .inl ⟨kvT Tc, nK (M.bestOf b0 bs).name, .inr ⟨od3, s5 _ _ (sx _ _ hf)⟩, rfl, hvb.symm⟩, ab.p, ab.dx, _, rfl, hhb5.ob, no_row _ _, ab, be, rfl, hhb5, fun D6 H6 ⟨n6, s6, ws6, e6, d6⟩ => ?_⟩
      refine ⟨_, _, (d5.kp (Kp.of s6) noL_th).lst (SqL.of (s6 _ _ e5)), d6.lst (SqL.of e6), row_shaped _, row_shaped _, false, by rw [eqv_row, k1, eqRow_refl]; rfl, iteF ?_⟩
      have hh6 := (hh.same s5).same s6
      refine ⟨_, rfl, q.1.p, q.1.dx, _, rfl, hh6.ob, no_done_row _ _, q.1, q.2, rfl, hh6, fun D7 H7 ⟨n7, s7, ws7, e7, d7⟩ => ?_⟩
      have hh7 := hh6.same s7
      refine ⟨_, rfl, q.1.p, q.1.dx, _, rfl, hh7.ob, no_row _ _, q.1, q.2, rfl, hh7, fun D8 H8 ⟨n8, s8, ws8, e8, d8⟩ => ?_⟩
      refine ⟨_, _, (d7.kp (Kp.of s8) noL_th).lst (SqL.of (s8 _ _ e7)), d8.lst (SqL.of e8), row_shaped _, row_shaped _, false, by rw [eqv_row, k2]; rfl, iteF ?_⟩
      have hh8 := hh7.same s8
      refine ⟨_, rfl, q.1.p, q.1.dx, _, rfl, hh8.ob, no_head _ _, q.1, q.2, rfl, hh8, _, rfl, ?_⟩
      have ebn : be.name = (M.bestOf b0 bs).name := at_name rub
      rw [k3, ebn]
      exact ⟨rfl, false, bNT rfl, iteF ⟨_, _, rfl, ((((sx.trans s5).trans s6).trans s7).trans s8)⟩⟩
    subst e
    have sB := back sx
    refine ⟨sx _ _ hf, ?_⟩
    have gD := gc.same sB
    have rD := rc.same sB
    clear hf hsf back hhb gc rc sx sB
    generalize upd Hx dd (.dK (kvT Tc)) = H4 at *
    -- what was done ahead is in it
    have hhD := gD.t.hs.at_ _ (List.mem_of_getElem? hjb)
    have hgD := gD.t.get hjb
    rw [enb] at hgD
    have pr := pd_refs rD.r
    have lrs : ((wsT T0).map fun h => M.upTo h.row h.done).length ≤ 26 := by unfold wsT; rw [List.length_map, List.length_map]; exact nl
    refine ⟨_, rfl, D, rfl, ⟨_, SqL.of rD.d.e⟩, lc_any (fun _ => (none : Option Nat)) (fun _ _ _ => False) (goes_list (SqL.of rD.d.e) pr) (fun _ h => h) (by omega) (fun y row H9 Qy Qn s9 e1 m1 ky kn => ?_) (fun D3 ws H9 hD3 s9 hw hp => ?_)⟩
    · obtain ⟨p, rfl, ws, hp0, hp2⟩ := e1
      have hp1 := hp0.e
      have hh9 := hhD.same s9
      have hpre : M.isPre row be.row = true := List.all_eq_true.mp rpre row m1
      refine ⟨rfl, _, rfl, _, rfl, _, rfl, dd, .ref ab.p, rfl, (gD.same s9).t.get hjb |> fun z => (by rw [enb] at z; exact z), ab.p, ab.dx, _, rfl, hh9.ob, no_row _ _, ab, be, rfl, hh9, fun D6 H6 ⟨n6, s6, ws6, e6, d6⟩ => ?_⟩
      have s96 := s9.trans s6
      refine ⟨p, D6, ws, ws6, row, be.row, rfl, SqL.of (s96 _ _ hp1), SqL.of e6, hp2.kp (Kp.of s96) noL_th, d6, fun H7 s7 => ?_⟩
      rw [hpre]
      exact ⟨_, rfl, iteF (kn rfl _ (s6.trans s7))⟩
    have ews : ws = [] := by
      have z : ((wsT T0).map fun h => M.upTo h.row h.done).filterMap (fun _ => (none : Option Nat)) = [] := List.filterMap_eq_nil_iff.mpr fun _ _ => rfl
      rw [z] at hp
      cases hp
      rfl
    subst ews
    refine ⟨Nat.zero_le _, fun L3 hL3 => ?_⟩
    (generalize hz : upd H9 L3 _ = H10; have s10 : Same H9 H10 := (by rw [← hz]; exact same_new hL3); have h10 : H10 L3 = some _ := (by rw [← hz]; exact upd_same); clear hz)
    refine ⟨.list (([] : M.Row).map thD), .list (([] : M.Row).map thD), .lst (SqL.of (s10 _ _ hw)) .nil, .lst (SqL.of h10) .nil, row_shaped [], row_shaped [], ?_⟩
    rw [eqv_row]
    exact kfin _ ((gD.same s9).same s10).m
end
end Wd
/-! ## P38 -/
set_option Elab.async false
set_option linter.all false
set_option maxRecDepth 100000
set_option maxHeartbeats 800000
namespace Wd
open PySem PySem.Spec PyProof.Rows L2 PySem.W PySem.SeqAt LamX
theorem ExtN.sql {K : PySem.W.Frag} {H H' : Hp} (e : ExtN H H') {a : Addr} {xs : List V} (h : SqL K H a xs) : SqL K H' a xs := by
  rcases h with h | h
  · rcases h with h | ⟨o, h⟩
    · exact .inl (.inl (e _ _ h fun _ z => nomatch z))
    · exact .inl (.inr ⟨o, e _ _ h fun _ z => nomatch z⟩)
  · exact .inr h
def spLaw (K : PySem.W.Frag) : Sp := fun vs H Q _ => ∃ (a : Addr) (ns : List Int), vs = [.ref a] ∧ SqL K H a (ns.map V.int) ∧ ns.length ≤ 63 ∧ Tabs (rT K) H ∧ ∀ H', Q (.bl true) H'
section
variable {P : Program} {w : World} {K : PySem.W.Frag} {mg : Str → Option Value} {base : Heap}
/-- a def by its function's own data -/
theorem fn_mk {x qual : Str} {st : Stmt} {f : Addr} {fd : FuncData} {N ps : List Str} {k : Nat} {sp : Sp} (F : FunD K x qual (defArgs st) (defBody st) (defScope st) [] [] f fd) (S : FnScope N ps (defScope st)) (len : ∀ vs H Q E, sp vs H Q E → vs.length = ps.length)
    (hbody : ∀ (cdv : Value) (A : Around) (outer : List Env) (s : Shared) (H : Hp) (vs : List V) (Q : VK) (E : XK), Room k (A.deeper (envOfC qual (defScope st) s.heap.objs.size f cdv)) → sp vs H Q E →
      ∃ t, PSs (cxOf CX0 P w K mg base N qual (defScope st) f cdv A outer s H E).nox (defBody st) t ∧ t { nx := fun _ H' => Q .non H', rt := Q } (start N vs) H) : FnOk P w K mg base CX0 (k + 1) f fd ps sp := by
  refine F.ok S len fun cdv A outer s H vs Q E hr h => ?_
  obtain ⟨t, h1, h2⟩ := hbody cdv A outer s H vs Q E hr h
  exact ⟨t, h1.nox, h2⟩
theorem ok_law (T : Txt w K mg) {fd : FuncData} (F : FunD K "law" "law" (defArgs s_law) (defBody s_law) (defScope s_law) [] [] (He.ga K "law") fd) (TB : TabB base mg (He.cT K rD).1 (rP K)) : FnOk P w K mg base CX0 13 (He.ga K "law") fd ["_law_script"] (spLaw K) := by
  obtain ⟨fd_law_pool, G_law_pool, b_law_pool, kp_law_pool⟩ := ok_law_pool (P := P) (w := w) (base := base) T
  obtain ⟨fd_law_started, G_law_started, b_law_started, kp_law_started⟩ := ok_law_started (P := P) (w := w) (base := base) T
  obtain ⟨fd_law_late, G_law_late, b_law_late, kp_law_late⟩ := ok_law_late (P := P) (w := w) (base := base) T
  obtain ⟨fd_law_right, G_law_right, b_law_right, kp_law_right⟩ := ok_law_right (P := P) (w := w) (base := base) T TB
  refine fn_mk (st := s_law) (N := ["_law_script", "_law_k", "_law_pool_here", "_law_houses", "_law_had"]) (ps := ["_law_script"]) F sc_law (fun vs H Q E h => ?_) (fun cdv A outer s H vs Q E hr h => ?_)
  · obtain ⟨a, ns, rfl, _⟩ := h
    rfl
  · obtain ⟨a, ns, rfl, hs, hl, hT, k⟩ := h
    refine ⟨_, (pss_cons (ps_for PassesOwn.never rfl (pi_range1 rfl T.b_range (pa_cons (pe_callB (call_max2 rfl) (by rfl) T.b_max (by decide +kernel) (pa_cons pe_int (pa_cons (pe_callB (call_min2 rfl) (by rfl) T.b_min (by decide +kernel) (pa_cons (pe_callB (kLen rfl) (by rfl) T.b_len PySem.boot_len (pa_cons (pv 0) pa_nil)) (pa_cons pe_int pa_nil))) pa_nil))) pa_nil)) (pg_name (i := 1) sc_law.nd rfl (Or.inl rfl)) (pss_cons (ps_set (i := 2) sc_law.nd rfl (Or.inl rfl) (pe_call G_law_pool (hr.mono (by decide)) rfl T.g_law_pool kp_law_pool b_law_pool .nil pass0 (pa_cons (pv 0) (pa_cons (pv 1) pa_nil)))) (pss_cons (ps_set (i := 3) sc_law.nd rfl (Or.inl rfl) (pe_call G_law_started (hr.mono (by decide)) rfl T.g_law_started kp_law_started b_law_started .nil pass0 (pa_cons (pv 2) pa_nil))) (pss_cons (ps_set (i := 4) sc_law.nd rfl (Or.inl rfl) (pe_call G_law_late (hr.mono (by decide)) rfl T.g_law_late kp_law_late b_law_late .nil pass0 (pa_cons (pv 2) (pa_cons (pv 3) pa_nil)))) (pss_one (ps_if (pt_not (pt_val (pe_call G_law_right (hr.mono (by decide)) rfl T.g_law_right kp_law_right b_law_right .nil pass0 (pa_cons (pv 2) (pa_cons (pv 3) (pa_cons (pv 4) pa_nil)))))) (pss_one (ps_ret pe_bl)) pss_nil)))))) (pss_one (ps_ret pe_bl))), ?_⟩
    rw [st_law]
    have hN : ∃ N : Nat, N ≤ 63 ∧ (if (if (6 : Int) < (((ns.map V.int).length : Nat) : Int) then (6 : Int) else (((ns.map V.int).length : Nat) : Int)) > 1 then (if (6 : Int) < (((ns.map V.int).length : Nat) : Int) then (6 : Int) else (((ns.map V.int).length : Nat) : Int)) else 1) = ((N : Nat) : Int) := by
      rw [List.length_map]
      refine ⟨(if (if (6 : Int) < ((ns.length : Nat) : Int) then (6 : Int) else ((ns.length : Nat) : Int)) > 1 then (if (6 : Int) < ((ns.length : Nat) : Int) then (6 : Int) else ((ns.length : Nat) : Int)) else 1).toNat, ?_, ?_⟩
      · by_cases c : (6 : Int) < ((ns.length : Nat) : Int) <;> simp only [c, if_true, if_false] <;> (try split) <;> omega
      · by_cases c : (6 : Int) < ((ns.length : Nat) : Int) <;> simp only [c, if_true, if_false] <;> (try split) <;> omega
    obtain ⟨N, hN1, hN2⟩ := hN
    refine ⟨_, rfl, a, _, rfl, .inl hs, _, _, rfl, _, _, rfl, (if (if (6 : Int) < (((ns.map V.int).length : Nat) : Int) then (6 : Int) else (((ns.map V.int).length : Nat) : Int)) > 1 then (if (6 : Int) < (((ns.map V.int).length : Nat) : Int) then (6 : Int) else (((ns.map V.int).length : Nat) : Int)) else 1), rfl, by rw [hN2]; omega, by rw [hN2]; omega, ?_⟩
    rw [hN2]
    refine for_range (n := N) (fun i σ Hc => ∃ (o1 o2 o3 o4 : Option V), σ = [some (.ref a), o1, o2, o3, o4] ∧ ExtN H Hc ∧ Tabs (rT K) Hc) ⟨_, _, _, _, rfl, ExtN.refl H, hT⟩ (fun i σ Hc hi ⟨o1, o2, o3, o4, e, eN, hTc⟩ => ?_) (fun σ Hc ⟨o1, o2, o3, o4, e, eN, hTc⟩ => k Hc)
    subst e
    rw [show (0 + ((i : Nat) : Int)) = ((i : Nat) : Int) from Int.zero_add _]
    refine ⟨_, rfl, _, rfl, a, ns, i, rfl, ExtN.sql eN hs, by omega, fun p c z hp => ?_⟩
    (generalize hz : upd Hc p _ = Hb; have sb : Same Hc Hb := (by rw [← hz]; exact same_new hp); have hb : Hb p = some _ := (by rw [← hz]; exact upd_same); clear hz)
    refine ⟨_, rfl, p, rfl, ⟨c, z, hb⟩, fun d t hd ht => ⟨_, M.tabA hd ht⟩, fun d t ws H1 dd T1 hd ht hst hws tw mv ndd nown nlen => ?_⟩
    rw [M.tabA hd ht] at hst
    cases hst
    have ns1 : nsT T1 = M.mems d := by rw [← ws_ns, hws]; exact M.lateC_ns hd
    have ne1 : T1 ≠ [] := fun y => by
      rw [y] at ns1
      match d, hd with
      | 0, _ => cases ns1
      | 1, _ => cases ns1
    have m0 : 0 ∈ M.mems d := by
      match d, hd with
      | 0, _ => exact List.mem_cons_self
      | 1, _ => exact List.mem_cons_self
    have run1 : ∀ {ss : List (List Nat)}, ss.length ≤ 3 → Chain (nsT T1) ss → M.lateRun 0 ss (wsT T1) (had0 (nsT T1)) = some (M.lateC (M.mems d) t ss.length (M.vS ss), M.hadC (M.mems d) ss.length (M.vS ss)) := fun {ss} h1 h2 => by
      rw [ns1] at h2 ⊢
      rw [hws, show had0 (M.mems d) = _ from M.had0_C hd]
      exact M.plain_late hd ht h2 h1
    refine ⟨_, rfl, _, rfl, Hb, p, dd, T1, rfl, ⟨mv, tw, nown, nlen, ne1⟩, fun ss h1 h2 => ⟨_, run1 h1 h2⟩, by rw [ns1]; exact m0, fun H2 T2 hd2 ss had' g2 hl2 hc2 hrun hhd nhd ohd hne => ?_⟩
    rw [run1 hl2 hc2] at hrun
    obtain ⟨ew, eh⟩ : M.lateC (M.mems d) t ss.length (M.vS ss) = wsT T2 ∧ M.hadC (M.mems d) ss.length (M.vS ss) = had' := by
      have y := Option.some.inj hrun
      exact ⟨congrArg Prod.fst y, congrArg Prod.snd y⟩
    have ns2 : nsT T2 = M.mems d := by rw [← ws_ns, ← ew]; exact M.lateC_ns hd
    have len2 : T2.length = (M.mems d).length := by rw [← ns2]; exact (List.length_map ..).symm
    have er : rest0 T2 = (M.mems d).filter fun x => !Nat.beq x 0 := by unfold rest0; rw [ns2]
    have hm : ss.length < 4 := by omega
    refine ⟨_, rfl, _, rfl, _, rfl, Hb, p, dd, hd2, T2, had', rfl, g2, Tabs.ext hTc sb, ⟨hhd, ohd, fun y => by rw [y, hb] at nhd; cases nhd⟩, by rw [ns2, ← eh]; exact M.hadC_ns hd, by rw [← eh]; exact M.hadC_le (M.vS_le ss) hm, by rw [ns2]; exact m0, ?_, ?_, fun r hr u hu => ?_, fun H3 hk hT3 => ?_⟩
    · rw [er, len2]
      match d, hd with
      | 0, _ => decide
      | 1, _ => decide
    · rw [er]
      match d, hd with
      | 0, _ => decide
      | 1, _ => decide
    · rw [er, len2] at hr
      rw [← ew, ← eh]
      exact M.plain_right hd ht hm hu (M.vS_le ss) hr
    · refine ⟨_, rfl, iteF ⟨_, _, _, _, rfl, fun b o eb n => ?_, hT3⟩⟩
      have e1 := eN _ _ eb n
      exact hk b o (fun y => by rw [y, hp] at e1; cases e1) (sb _ _ e1) n
end
end Wd
/-! ## Fin -/
set_option Elab.async false
set_option linter.all false
set_option maxRecDepth 100000
set_option maxHeartbeats 0
namespace Wd
open PySem PySem.Spec PyProof.Rows L2 LamX
theorem law_at (w : World) (mg : Str → Option Value) (fA : Addr) (h : Heap) (Y : hk.says w h) (G : h.Ns mainGlobals mg) (hmg : mg ("law" : Str) = some (.ref fA)) :
    ∃ K : PySem.W.Frag, K.In h ∧ LawAtS PySem.Challenge.rw_watchednodes_k87_whole_what_a_fallen_hea w K CX0 13 63 "_law_script" mg fA h := by
  obtain ⟨K, KX, c⟩ := Y
  have T : Txt w K mg := ⟨c.t, c.more, h, KX, G⟩
  obtain ⟨fd, F⟩ := T.f_law
  have e := hmg.symm.trans T.g_law
  cases e
  have b := FunD.bindsA (ps := ["_law_script"]) F fun _ _ _ _ _ _ us hl => match us, hl with | [_], _ => rfl
  have one : ∀ p ∈ [He.cT K rD], p = He.cT K rD := fun p hp => List.mem_singleton.mp hp
  have mem : rD ∈ tfD := List.mem_singleton.mpr rfl
  refine ⟨K, KX, fd, [He.cT K rD], spLaw K, fun p hp => ?_, fun p hp => ?_, fun p hp => ?_, fun s u => b s [u] rfl, fun H a ns hl _ hH hS => ⟨a, ns, rfl, hS, hl, fun p hp => ?_, fun _ => rfl⟩, fun base _ _ hT => ok_law T F (hT _ (List.mem_singleton.mpr rfl))⟩
  · rw [one p hp]; exact c.empty rD mem
  · rw [one p hp]; exact c.out rD mem
  · rw [one p hp]; exact PySem.W.codeHd_of_K KX (c.hd rD mem)
  · rw [List.mem_singleton.mp hp]; exact TabS.nil (hH _ (List.mem_singleton.mpr rfl))
end Wd
open PySem PySem.W PySem.Calls PyProof.Rows
theorem PySem.Challenge.cw_watchednodes_k87_whole_what_a_fallen_hea_holds : PySem.Challenge.rw_watchednodes_k87_whole_what_a_fallen_hea.Holds := by
  w_on; o_law
  refine HandSHeadRun.head_any (r := OpenLaw.row PySem.Challenge.rw_watchednodes_k87_whole_what_a_fallen_hea) (q := view (OpenLaw.row PySem.Challenge.rw_watchednodes_k87_whole_what_a_fallen_hea).prog [94]) (H := Wd.hk) (ob := Wd.ob) (M := 6000) (loose := Wd.loose)
    (d := HandSHeadRun.topDef (OpenLaw.row PySem.Challenge.rw_watchednodes_k87_whole_what_a_fallen_hea).prog 94) (kwd := []) Wd.ob_eq (by kernel_rfl) (fun s => by kernel_rfl) Wd.run (by kernel_rfl) (by kernel_rfl) (by kernel_rfl) (by rfl) (by first | assumption | decide +kernel) (by decide +kernel) ⟨rfl, rfl, rfl, rfl, rfl, by decide +kernel⟩ ?hw ?hc
  case hw => w_witness2
  case hc =>
    refine LamX.walk_ofTsE (l := PySem.Challenge.rw_watchednodes_k87_whole_what_a_fallen_hea) (n := 63) (k := 13) (x := "_law_script") (CX := fun _ => L2.CX0) rfl (by decide) (by kernel_rfl) ⟨rfl, by decide, by decide⟩ ?F (fun _ _ _ _ _ z => z)
    intro w mg fA h Y G hmg0
    have hmg : mg ("law" : PySem.Str) = some (.ref fA) := by
      have e : (HandSHeadRun.topDef (OpenLaw.row PySem.Challenge.rw_watchednodes_k87_whole_what_a_fallen_hea).prog 94).name = ("law" : PySem.Str) := by kernel_rfl
      rw [← e]
      exact hmg0
    exact Wd.law_at w mg fA h Y G hmg
