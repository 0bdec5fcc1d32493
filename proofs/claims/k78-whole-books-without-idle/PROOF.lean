import PyProof.Rows.All
import Wide.All
import OpenK.AllK
import Wide.FinOn
import KE.KStateDown
import Lean
import HandS.ForMost
import HandS.WordsExc
import HandS.Defaults
import HandS.Flow
import HandS.TupAny
import HandS.TupLe
import HandS.Style
import HandS.SortKw
import HandS.Wide
import HandS.SetKeys
import HandS.IsInst
import HandS.DictComp
import HandS.FStr
import HandS.Steps
import HandS.Evl
import HandS.Conv
import HandS.Zip
import HandS.WrittenGet
import HandS.Head0
import HandS.Head1
import HandS.Head2
import HandS.Head3
import HandS.HeadEnd
import HandS.EndBits
import HandS.HeadHook1
import HandS.HeadHook2
import HandS.HeadHook3
import HandS.HeadHook4
import HandS.HeadWalk
import HandS.Property
import HandS.Gcd
import HandS.Walk
import HandS.Strs
import KE.SortKeyHeap
import PySem.Challenge.RW_limitweave_k78_whole_books_without_idle
set_option Elab.async false
set_option linter.all false
section
set_option maxRecDepth 100000
set_option maxHeartbeats 4000000
namespace Lw
open PySem PySem.Spec PyProof.Rows L2
def top (i : Nat) : Stmt := PySem.Challenge.pw_limitweave_k78_whole_books_without_idle.main.body.getD i (.Pass ⟨0, 0, 0, 0⟩)
abbrev s_is_name : Stmt := top 18
abbrev s_is_key : Stmt := top 19
abbrev s_check_request : Stmt := top 20
abbrev s_check_moment : Stmt := top 21
abbrev s_ascends : Stmt := top 22
abbrev s_check_names : Stmt := top 23
abbrev s_are_shares : Stmt := top 24
abbrev s_has_form : Stmt := top 25
abbrev s_check_pool : Stmt := top 26
abbrev s_check_numbers : Stmt := top 27
abbrev s_check_limit : Stmt := top 28
abbrev s_looks_at : Stmt := top 29
abbrev s_Book_init : Stmt := inClass (top 30) 0
abbrev s_Book_limit_named : Stmt := inClass (top 30) 3
abbrev s_Book_without_limit : Stmt := inClass (top 30) 6
abbrev s_first_of : Stmt := top 31
abbrev s_WindowMeter_init : Stmt := inClass (top 33) 0
abbrev s_WindowMeter_sums_since : Stmt := inClass (top 33) 2
abbrev s_WindowMeter_room : Stmt := inClass (top 33) 3
abbrev s_WindowMeter_earliest : Stmt := inClass (top 33) 4
abbrev s_WindowMeter_let : Stmt := inClass (top 33) 5
abbrev s_WindowMeter_released : Stmt := inClass (top 33) 6
abbrev s_SpanMeter_init : Stmt := inClass (top 34) 0
abbrev s_SpanMeter_used_in : Stmt := inClass (top 34) 2
abbrev s_SpanMeter_room : Stmt := inClass (top 34) 3
abbrev s_SpanMeter_earliest : Stmt := inClass (top 34) 4
abbrev s_SpanMeter_let : Stmt := inClass (top 34) 5
abbrev s_SpanMeter_released : Stmt := inClass (top 34) 6
abbrev s_BucketMeter_init : Stmt := inClass (top 35) 0
abbrev s_BucketMeter_missing_at : Stmt := inClass (top 35) 2
abbrev s_BucketMeter_too_much : Stmt := inClass (top 35) 3
abbrev s_BucketMeter_room : Stmt := inClass (top 35) 4
abbrev s_BucketMeter_earliest : Stmt := inClass (top 35) 5
abbrev s_BucketMeter_let : Stmt := inClass (top 35) 6
abbrev s_BucketMeter_released : Stmt := inClass (top 35) 7
abbrev s_GapMeter_init : Stmt := inClass (top 36) 0
abbrev s_GapMeter_room : Stmt := inClass (top 36) 2
abbrev s_GapMeter_earliest : Stmt := inClass (top 36) 3
abbrev s_GapMeter_let : Stmt := inClass (top 36) 4
abbrev s_GapMeter_released : Stmt := inClass (top 36) 5
abbrev s_HeldMeter_init : Stmt := inClass (top 37) 0
abbrev s_HeldMeter_room : Stmt := inClass (top 37) 2
abbrev s_HeldMeter_earliest : Stmt := inClass (top 37) 3
abbrev s_HeldMeter_let : Stmt := inClass (top 37) 4
abbrev s_HeldMeter_released : Stmt := inClass (top 37) 5
abbrev s_common_of : Stmt := top 39
abbrev s_share_for : Stmt := top 40
abbrev s_most_used : Stmt := top 41
abbrev s_PoolMeter_init : Stmt := inClass (top 42) 0
abbrev s_PoolMeter_borrowed : Stmt := inClass (top 42) 2
abbrev s_PoolMeter_room : Stmt := inClass (top 42) 3
abbrev s_PoolMeter_earliest : Stmt := inClass (top 42) 4
abbrev s_PoolMeter_let : Stmt := inClass (top 42) 5
abbrev s_PoolMeter_released : Stmt := inClass (top 42) 6
abbrev s_meter_for : Stmt := top 44
abbrev s_Answer_init : Stmt := inClass (top 47) 0
abbrev s_Keeper_init : Stmt := inClass (top 48) 0
abbrev s_Keeper_check_next : Stmt := inClass (top 48) 1
abbrev s_Keeper_check_known : Stmt := inClass (top 48) 2
abbrev s_Keeper_let : Stmt := inClass (top 48) 3
abbrev s_Keeper_earliest : Stmt := inClass (top 48) 4
abbrev s_Keeper_ask : Stmt := inClass (top 48) 5
abbrev s_Keeper_release : Stmt := inClass (top 48) 6
abbrev s_Keeper_give_back : Stmt := inClass (top 48) 7
abbrev s_Keeper_holds : Stmt := inClass (top 48) 10
abbrev s_rounded_up : Stmt := top 51
abbrev s_lets_nothing : Stmt := top 52
abbrev s_most_within : Stmt := top 53
abbrev s_groups_named : Stmt := top 56
abbrev s_free_group : Stmt := top 57
abbrev s_least_distance : Stmt := top 58
abbrev s_last_offset : Stmt := top 59
abbrev s_most_in_span : Stmt := top 60
abbrev s_is_below_bucket : Stmt := top 61
abbrev s_is_idle_beside_flow : Stmt := top 62
abbrev s_filled : Stmt := top 63
abbrev s_all_choices : Stmt := top 64
abbrev s_most_borrowed : Stmt := top 65
abbrev s_uses_beyond : Stmt := top 66
abbrev s_held_cost : Stmt := top 67
abbrev s_asked_group : Stmt := top 68
abbrev s_idle_beside : Stmt := top 69
abbrev s_law_row : Stmt := top 71
abbrev s_law_numbers : Stmt := top 72
abbrev s_law_groups : Stmt := top 73
abbrev s_law_pool : Stmt := top 74
abbrev s_law_limit : Stmt := top 75
abbrev s_law_request : Stmt := top 77
abbrev s_law_looser : Stmt := top 78
abbrev s_law_limits : Stmt := top 79
abbrev s_law_idle_pair : Stmt := top 80
abbrev s_law : Stmt := top 81
abbrev s_Book_limits : Stmt := inClass (top 30) 1
abbrev FnP (K : PySem.W.Frag) (x q : Str) (st : Stmt) (f : Addr) (fd : FuncData) : Prop := FunD K x q (defArgs st) (defBody st) (defScope st) [] [] f fd
def fn : List He.DefD := [
  ⟨("is_name", none), "is_name", "is_name", defArgs s_is_name, defBody s_is_name, defScope s_is_name, [], []⟩,
  ⟨("is_key", none), "is_key", "is_key", defArgs s_is_key, defBody s_is_key, defScope s_is_key, [], []⟩,
  ⟨("check_request", none), "check_request", "check_request", defArgs s_check_request, defBody s_check_request, defScope s_check_request, [], []⟩,
  ⟨("check_moment", none), "check_moment", "check_moment", defArgs s_check_moment, defBody s_check_moment, defScope s_check_moment, [], []⟩,
  ⟨("ascends", none), "ascends", "ascends", defArgs s_ascends, defBody s_ascends, defScope s_ascends, [], []⟩,
  ⟨("check_names", none), "check_names", "check_names", defArgs s_check_names, defBody s_check_names, defScope s_check_names, [], []⟩,
  ⟨("are_shares", none), "are_shares", "are_shares", defArgs s_are_shares, defBody s_are_shares, defScope s_are_shares, [], []⟩,
  ⟨("has_form", none), "has_form", "has_form", defArgs s_has_form, defBody s_has_form, defScope s_has_form, [], []⟩,
  ⟨("check_pool", none), "check_pool", "check_pool", defArgs s_check_pool, defBody s_check_pool, defScope s_check_pool, [], []⟩,
  ⟨("check_numbers", none), "check_numbers", "check_numbers", defArgs s_check_numbers, defBody s_check_numbers, defScope s_check_numbers, [], []⟩,
  ⟨("check_limit", none), "check_limit", "check_limit", defArgs s_check_limit, defBody s_check_limit, defScope s_check_limit, [], []⟩,
  ⟨("looks_at", none), "looks_at", "looks_at", defArgs s_looks_at, defBody s_looks_at, defScope s_looks_at, [], []⟩,
  ⟨("Book", some "__init__"), "__init__", "Book.__init__", defArgs s_Book_init, defBody s_Book_init, defScope s_Book_init, [], []⟩,
  ⟨("Book", some "limit_named"), "limit_named", "Book.limit_named", defArgs s_Book_limit_named, defBody s_Book_limit_named, defScope s_Book_limit_named, [], []⟩,
  ⟨("Book", some "without_limit"), "without_limit", "Book.without_limit", defArgs s_Book_without_limit, defBody s_Book_without_limit, defScope s_Book_without_limit, [], []⟩,
  ⟨("first_of", none), "first_of", "first_of", defArgs s_first_of, defBody s_first_of, defScope s_first_of, [], []⟩,
  ⟨("WindowMeter", some "__init__"), "__init__", "WindowMeter.__init__", defArgs s_WindowMeter_init, defBody s_WindowMeter_init, defScope s_WindowMeter_init, [], []⟩,
  ⟨("WindowMeter", some "sums_since"), "sums_since", "WindowMeter.sums_since", defArgs s_WindowMeter_sums_since, defBody s_WindowMeter_sums_since, defScope s_WindowMeter_sums_since, [], []⟩,
  ⟨("WindowMeter", some "room"), "room", "WindowMeter.room", defArgs s_WindowMeter_room, defBody s_WindowMeter_room, defScope s_WindowMeter_room, [], []⟩,
  ⟨("WindowMeter", some "earliest"), "earliest", "WindowMeter.earliest", defArgs s_WindowMeter_earliest, defBody s_WindowMeter_earliest, defScope s_WindowMeter_earliest, [], []⟩,
  ⟨("WindowMeter", some "let"), "let", "WindowMeter.let", defArgs s_WindowMeter_let, defBody s_WindowMeter_let, defScope s_WindowMeter_let, [], []⟩,
  ⟨("WindowMeter", some "released"), "released", "WindowMeter.released", defArgs s_WindowMeter_released, defBody s_WindowMeter_released, defScope s_WindowMeter_released, [], []⟩,
  ⟨("SpanMeter", some "__init__"), "__init__", "SpanMeter.__init__", defArgs s_SpanMeter_init, defBody s_SpanMeter_init, defScope s_SpanMeter_init, [], []⟩,
  ⟨("SpanMeter", some "used_in"), "used_in", "SpanMeter.used_in", defArgs s_SpanMeter_used_in, defBody s_SpanMeter_used_in, defScope s_SpanMeter_used_in, [], []⟩,
  ⟨("SpanMeter", some "room"), "room", "SpanMeter.room", defArgs s_SpanMeter_room, defBody s_SpanMeter_room, defScope s_SpanMeter_room, [], []⟩,
  ⟨("SpanMeter", some "earliest"), "earliest", "SpanMeter.earliest", defArgs s_SpanMeter_earliest, defBody s_SpanMeter_earliest, defScope s_SpanMeter_earliest, [], []⟩,
  ⟨("SpanMeter", some "let"), "let", "SpanMeter.let", defArgs s_SpanMeter_let, defBody s_SpanMeter_let, defScope s_SpanMeter_let, [], []⟩,
  ⟨("SpanMeter", some "released"), "released", "SpanMeter.released", defArgs s_SpanMeter_released, defBody s_SpanMeter_released, defScope s_SpanMeter_released, [], []⟩,
  ⟨("BucketMeter", some "__init__"), "__init__", "BucketMeter.__init__", defArgs s_BucketMeter_init, defBody s_BucketMeter_init, defScope s_BucketMeter_init, [], []⟩,
  ⟨("BucketMeter", some "missing_at"), "missing_at", "BucketMeter.missing_at", defArgs s_BucketMeter_missing_at, defBody s_BucketMeter_missing_at, defScope s_BucketMeter_missing_at, [], []⟩,
  ⟨("BucketMeter", some "too_much"), "too_much", "BucketMeter.too_much", defArgs s_BucketMeter_too_much, defBody s_BucketMeter_too_much, defScope s_BucketMeter_too_much, [], []⟩,
  ⟨("BucketMeter", some "room"), "room", "BucketMeter.room", defArgs s_BucketMeter_room, defBody s_BucketMeter_room, defScope s_BucketMeter_room, [], []⟩,
  ⟨("BucketMeter", some "earliest"), "earliest", "BucketMeter.earliest", defArgs s_BucketMeter_earliest, defBody s_BucketMeter_earliest, defScope s_BucketMeter_earliest, [], []⟩,
  ⟨("BucketMeter", some "let"), "let", "BucketMeter.let", defArgs s_BucketMeter_let, defBody s_BucketMeter_let, defScope s_BucketMeter_let, [], []⟩,
  ⟨("BucketMeter", some "released"), "released", "BucketMeter.released", defArgs s_BucketMeter_released, defBody s_BucketMeter_released, defScope s_BucketMeter_released, [], []⟩,
  ⟨("GapMeter", some "__init__"), "__init__", "GapMeter.__init__", defArgs s_GapMeter_init, defBody s_GapMeter_init, defScope s_GapMeter_init, [], []⟩,
  ⟨("GapMeter", some "room"), "room", "GapMeter.room", defArgs s_GapMeter_room, defBody s_GapMeter_room, defScope s_GapMeter_room, [], []⟩,
  ⟨("GapMeter", some "earliest"), "earliest", "GapMeter.earliest", defArgs s_GapMeter_earliest, defBody s_GapMeter_earliest, defScope s_GapMeter_earliest, [], []⟩,
  ⟨("GapMeter", some "let"), "let", "GapMeter.let", defArgs s_GapMeter_let, defBody s_GapMeter_let, defScope s_GapMeter_let, [], []⟩,
  ⟨("GapMeter", some "released"), "released", "GapMeter.released", defArgs s_GapMeter_released, defBody s_GapMeter_released, defScope s_GapMeter_released, [], []⟩,
  ⟨("HeldMeter", some "__init__"), "__init__", "HeldMeter.__init__", defArgs s_HeldMeter_init, defBody s_HeldMeter_init, defScope s_HeldMeter_init, [], []⟩,
  ⟨("HeldMeter", some "room"), "room", "HeldMeter.room", defArgs s_HeldMeter_room, defBody s_HeldMeter_room, defScope s_HeldMeter_room, [], []⟩,
  ⟨("HeldMeter", some "earliest"), "earliest", "HeldMeter.earliest", defArgs s_HeldMeter_earliest, defBody s_HeldMeter_earliest, defScope s_HeldMeter_earliest, [], []⟩,
  ⟨("HeldMeter", some "let"), "let", "HeldMeter.let", defArgs s_HeldMeter_let, defBody s_HeldMeter_let, defScope s_HeldMeter_let, [], []⟩,
  ⟨("HeldMeter", some "released"), "released", "HeldMeter.released", defArgs s_HeldMeter_released, defBody s_HeldMeter_released, defScope s_HeldMeter_released, [], []⟩,
  ⟨("common_of", none), "common_of", "common_of", defArgs s_common_of, defBody s_common_of, defScope s_common_of, [], []⟩,
  ⟨("share_for", none), "share_for", "share_for", defArgs s_share_for, defBody s_share_for, defScope s_share_for, [], []⟩,
  ⟨("most_used", none), "most_used", "most_used", defArgs s_most_used, defBody s_most_used, defScope s_most_used, [], []⟩,
  ⟨("PoolMeter", some "__init__"), "__init__", "PoolMeter.__init__", defArgs s_PoolMeter_init, defBody s_PoolMeter_init, defScope s_PoolMeter_init, [], []⟩,
  ⟨("PoolMeter", some "borrowed"), "borrowed", "PoolMeter.borrowed", defArgs s_PoolMeter_borrowed, defBody s_PoolMeter_borrowed, defScope s_PoolMeter_borrowed, [], []⟩,
  ⟨("PoolMeter", some "room"), "room", "PoolMeter.room", defArgs s_PoolMeter_room, defBody s_PoolMeter_room, defScope s_PoolMeter_room, [], []⟩,
  ⟨("PoolMeter", some "earliest"), "earliest", "PoolMeter.earliest", defArgs s_PoolMeter_earliest, defBody s_PoolMeter_earliest, defScope s_PoolMeter_earliest, [], []⟩,
  ⟨("PoolMeter", some "let"), "let", "PoolMeter.let", defArgs s_PoolMeter_let, defBody s_PoolMeter_let, defScope s_PoolMeter_let, [], []⟩,
  ⟨("PoolMeter", some "released"), "released", "PoolMeter.released", defArgs s_PoolMeter_released, defBody s_PoolMeter_released, defScope s_PoolMeter_released, [], []⟩,
  ⟨("meter_for", none), "meter_for", "meter_for", defArgs s_meter_for, defBody s_meter_for, defScope s_meter_for, [], []⟩,
  ⟨("Answer", some "__init__"), "__init__", "Answer.__init__", defArgs s_Answer_init, defBody s_Answer_init, defScope s_Answer_init, [], []⟩,
  ⟨("Keeper", some "__init__"), "__init__", "Keeper.__init__", defArgs s_Keeper_init, defBody s_Keeper_init, defScope s_Keeper_init, [], []⟩,
  ⟨("Keeper", some "_check_next"), "_check_next", "Keeper._check_next", defArgs s_Keeper_check_next, defBody s_Keeper_check_next, defScope s_Keeper_check_next, [], []⟩,
  ⟨("Keeper", some "_check_known"), "_check_known", "Keeper._check_known", defArgs s_Keeper_check_known, defBody s_Keeper_check_known, defScope s_Keeper_check_known, [], []⟩,
  ⟨("Keeper", some "_let"), "_let", "Keeper._let", defArgs s_Keeper_let, defBody s_Keeper_let, defScope s_Keeper_let, [], []⟩,
  ⟨("Keeper", some "_earliest"), "_earliest", "Keeper._earliest", defArgs s_Keeper_earliest, defBody s_Keeper_earliest, defScope s_Keeper_earliest, [], []⟩,
  ⟨("Keeper", some "ask"), "ask", "Keeper.ask", defArgs s_Keeper_ask, defBody s_Keeper_ask, defScope s_Keeper_ask, [], []⟩,
  ⟨("Keeper", some "release"), "release", "Keeper.release", defArgs s_Keeper_release, defBody s_Keeper_release, defScope s_Keeper_release, [], []⟩,
  ⟨("Keeper", some "give_back"), "give_back", "Keeper.give_back", defArgs s_Keeper_give_back, defBody s_Keeper_give_back, defScope s_Keeper_give_back, [], []⟩,
  ⟨("Keeper", some "holds"), "holds", "Keeper.holds", defArgs s_Keeper_holds, defBody s_Keeper_holds, defScope s_Keeper_holds, [], []⟩,
  ⟨("rounded_up", none), "rounded_up", "rounded_up", defArgs s_rounded_up, defBody s_rounded_up, defScope s_rounded_up, [], []⟩,
  ⟨("lets_nothing", none), "lets_nothing", "lets_nothing", defArgs s_lets_nothing, defBody s_lets_nothing, defScope s_lets_nothing, [], []⟩,
  ⟨("most_within", none), "most_within", "most_within", defArgs s_most_within, defBody s_most_within, defScope s_most_within, [], []⟩,
  ⟨("groups_named", none), "groups_named", "groups_named", defArgs s_groups_named, defBody s_groups_named, defScope s_groups_named, [], []⟩,
  ⟨("free_group", none), "free_group", "free_group", defArgs s_free_group, defBody s_free_group, defScope s_free_group, [], []⟩,
  ⟨("least_distance", none), "least_distance", "least_distance", defArgs s_least_distance, defBody s_least_distance, defScope s_least_distance, [], []⟩,
  ⟨("last_offset", none), "last_offset", "last_offset", defArgs s_last_offset, defBody s_last_offset, defScope s_last_offset, [], []⟩,
  ⟨("most_in_span", none), "most_in_span", "most_in_span", defArgs s_most_in_span, defBody s_most_in_span, defScope s_most_in_span, [], []⟩,
  ⟨("is_below_bucket", none), "is_below_bucket", "is_below_bucket", defArgs s_is_below_bucket, defBody s_is_below_bucket, defScope s_is_below_bucket, [], []⟩,
  ⟨("is_idle_beside_flow", none), "is_idle_beside_flow", "is_idle_beside_flow", defArgs s_is_idle_beside_flow, defBody s_is_idle_beside_flow, defScope s_is_idle_beside_flow, [], []⟩,
  ⟨("filled", none), "filled", "filled", defArgs s_filled, defBody s_filled, defScope s_filled, [], []⟩,
  ⟨("all_choices", none), "all_choices", "all_choices", defArgs s_all_choices, defBody s_all_choices, defScope s_all_choices, [], []⟩,
  ⟨("most_borrowed", none), "most_borrowed", "most_borrowed", defArgs s_most_borrowed, defBody s_most_borrowed, defScope s_most_borrowed, [], []⟩,
  ⟨("uses_beyond", none), "uses_beyond", "uses_beyond", defArgs s_uses_beyond, defBody s_uses_beyond, defScope s_uses_beyond, [], []⟩,
  ⟨("held_cost", none), "held_cost", "held_cost", defArgs s_held_cost, defBody s_held_cost, defScope s_held_cost, [], []⟩,
  ⟨("asked_group", none), "asked_group", "asked_group", defArgs s_asked_group, defBody s_asked_group, defScope s_asked_group, [], []⟩,
  ⟨("idle_beside", none), "idle_beside", "idle_beside", defArgs s_idle_beside, defBody s_idle_beside, defScope s_idle_beside, [], []⟩,
  ⟨("_law_row", none), "_law_row", "_law_row", defArgs s_law_row, defBody s_law_row, defScope s_law_row, [], []⟩,
  ⟨("_law_numbers", none), "_law_numbers", "_law_numbers", defArgs s_law_numbers, defBody s_law_numbers, defScope s_law_numbers, [], []⟩,
  ⟨("_law_groups", none), "_law_groups", "_law_groups", defArgs s_law_groups, defBody s_law_groups, defScope s_law_groups, [], []⟩,
  ⟨("_law_pool", none), "_law_pool", "_law_pool", defArgs s_law_pool, defBody s_law_pool, defScope s_law_pool, [], []⟩,
  ⟨("_law_limit", none), "_law_limit", "_law_limit", defArgs s_law_limit, defBody s_law_limit, defScope s_law_limit, [], []⟩,
  ⟨("_law_request", none), "_law_request", "_law_request", defArgs s_law_request, defBody s_law_request, defScope s_law_request, [], []⟩,
  ⟨("_law_looser", none), "_law_looser", "_law_looser", defArgs s_law_looser, defBody s_law_looser, defScope s_law_looser, [], []⟩,
  ⟨("_law_limits", none), "_law_limits", "_law_limits", defArgs s_law_limits, defBody s_law_limits, defScope s_law_limits, [], []⟩,
  ⟨("_law_idle_pair", none), "_law_idle_pair", "_law_idle_pair", defArgs s_law_idle_pair, defBody s_law_idle_pair, defScope s_law_idle_pair, [], []⟩,
  ⟨("law", none), "law", "law", defArgs s_law, defBody s_law, defScope s_law, [], []⟩]
def fa : List He.Fa := [.glo "is_name", .glo "is_key", .glo "check_request", .glo "check_moment", .glo "ascends", .glo "check_names", .glo "are_shares", .glo "has_form", .glo "check_pool", .glo "check_numbers", .glo "check_limit", .glo "looks_at", .glo "Book", .glo "first_of", .glo "WindowMeter", .glo "SpanMeter", .glo "BucketMeter", .glo "GapMeter", .glo "HeldMeter", .glo "common_of", .glo "share_for", .glo "most_used", .glo "PoolMeter", .glo "meter_for", .glo "Answer", .glo "Keeper", .glo "rounded_up", .glo "lets_nothing", .glo "most_within", .glo "groups_named", .glo "free_group", .glo "least_distance", .glo "last_offset", .glo "most_in_span", .glo "is_below_bucket", .glo "is_idle_beside_flow", .glo "filled", .glo "all_choices", .glo "most_borrowed", .glo "uses_beyond", .glo "held_cost", .glo "asked_group", .glo "idle_beside", .glo "_law_row", .glo "_law_numbers", .glo "_law_groups", .glo "_law_pool", .glo "_law_limit", .glo "_law_request", .glo "_law_looser", .glo "_law_limits", .glo "_law_idle_pair", .glo "law", .free "abs", .free "all", .free "int", .free "isinstance", .free "len", .free "list", .free "max", .free "min", .free "range", .free "set", .free "sorted", .free "str", .free "sum", .free "tuple", .free "zip", .int "MOST_MOMENT" 1000000000, .int "MOST_NUMBER" 1000000, .int "MOST_KEYS" 2000, .int "MOST_COST" 1000, .str "LETTERS" "abcdefghijklmnopqrstuvwxyz0123456789", .cls "Book", .mkr "Book", .noat "Book" "_limits", .meth "Book" "limit_named", .meth "Book" "without_limit", .cls "WindowMeter", .mkr "WindowMeter", .noat "WindowMeter" "_length", .noat "WindowMeter" "_most", .noat "WindowMeter" "_sums", .noat "WindowMeter" "limit", .meth "WindowMeter" "sums_since", .meth "WindowMeter" "room", .meth "WindowMeter" "earliest", .meth "WindowMeter" "let", .meth "WindowMeter" "released", .cls "SpanMeter", .mkr "SpanMeter", .noat "SpanMeter" "_length", .noat "SpanMeter" "_most", .noat "SpanMeter" "_span", .noat "SpanMeter" "_used", .noat "SpanMeter" "limit", .meth "SpanMeter" "used_in", .meth "SpanMeter" "room", .meth "SpanMeter" "earliest", .meth "SpanMeter" "let", .meth "SpanMeter" "released", .cls "BucketMeter", .mkr "BucketMeter", .noat "BucketMeter" "_every", .noat "BucketMeter" "_missing", .noat "BucketMeter" "_moment", .noat "BucketMeter" "_size", .noat "BucketMeter" "limit", .meth "BucketMeter" "missing_at", .meth "BucketMeter" "too_much", .meth "BucketMeter" "room", .meth "BucketMeter" "earliest", .meth "BucketMeter" "let", .meth "BucketMeter" "released", .cls "GapMeter", .mkr "GapMeter", .noat "GapMeter" "_last", .noat "GapMeter" "_ticks", .noat "GapMeter" "limit", .meth "GapMeter" "room", .meth "GapMeter" "earliest", .meth "GapMeter" "let", .meth "GapMeter" "released", .cls "HeldMeter", .mkr "HeldMeter", .noat "HeldMeter" "_costs", .noat "HeldMeter" "_most", .noat "HeldMeter" "_used", .noat "HeldMeter" "limit", .meth "HeldMeter" "room", .meth "HeldMeter" "earliest", .meth "HeldMeter" "let", .meth "HeldMeter" "released", .cls "PoolMeter", .mkr "PoolMeter", .noat "PoolMeter" "_costs", .noat "PoolMeter" "_uses", .noat "PoolMeter" "limit", .meth "PoolMeter" "borrowed", .meth "PoolMeter" "room", .meth "PoolMeter" "earliest", .meth "PoolMeter" "let", .meth "PoolMeter" "released", .cls "Answer", .mkr "Answer", .noat "Answer" "earliest", .noat "Answer" "is_let", .noat "Answer" "key", .noat "Answer" "lacking", .noat "Answer" "moment", .cls "Keeper", .mkr "Keeper", .noat "Keeper" "_asked", .noat "Keeper" "_meters", .noat "Keeper" "_released", .noat "Keeper" "book", .noat "Keeper" "moment", .meth "Keeper" "_check_next", .meth "Keeper" "_check_known", .meth "Keeper" "_let", .meth "Keeper" "_earliest", .meth "Keeper" "ask", .meth "Keeper" "release", .meth "Keeper" "give_back", .meth "Keeper" "holds", .glo "SIZES", .glo "FLOWS"]
def ts : List He.Tab := [((fun K => He.ga K "SIZES"), ["window", "span", "bucket", "gap", "held", "pool"])]
def limP (K : PySem.W.Frag) : Addr := match PySem.W.findIn K (.ref (He.ga K "Book")) "limits" with
  | some (some (.ref p)) => p
  | _ => 0
def limG (K : PySem.W.Frag) : Addr := match PySem.W.recIn K (limP K) "property" with
  | some (.ref g :: _) => g
  | _ => 0
def fnWA (K : PySem.W.Frag) (a : Addr) : He.FnW := match K.lookup a with
  | some ⟨_, _, .func fd, _⟩ => some (fd.name, fd.qualname, fd.params, fd.body, fd.scope, fd.globals, fd.closure, fd.builtins)
  | _ => none
def fnOkA (K : PySem.W.Frag) (a : Addr) (q : Str) : Bool := PySem.W.keepIn K (.ref a) && (match K.lookup a with
  | some ⟨_, _, .func fd, _⟩ => PySem.W.codeIn K fd.code q && (He.dflB K fd.defaults [] && He.kwdB K fd.kwdefaults [])
  | _ => false)
def propB (K : PySem.W.Frag) : Bool := He.eqO (PySem.W.findIn K (.ref (He.ga K "Book")) "limits") (some (some (.ref (limP K)))) &&
  (He.eqO (PySem.W.specialIn K (.ref (limP K)) "__get__") (some (some (.builtin "property.__get__"))) &&
  (decide (PySem.W.takesIn K (.ref (limP K)) = some true) &&
  (match PySem.W.recIn K (limP K) "property" with
    | some (.ref g :: _) => decide (g = limG K)
    | _ => false)))
def ex (K : PySem.W.Frag) : Bool := He.tupB K "FLOWS" [.str "window", .str "span", .str "bucket", .str "gap"] &&
  (He.eqO (PySem.W.nsIn K mainGlobals "gcd") (some (some (.builtin "math.gcd"))) &&
  (He.valsB K (He.ga K "SIZES") [("window", .int 2), ("span", .int 2), ("bucket", .int 2), ("gap", .int 1), ("held", .int 1), ("pool", .int 2)] &&
  (propB K && fnOkA K (limG K) "Book.limits")))
abbrev AlL : Type := He.AlT × (Bool × He.FnW)
def obsL (K : PySem.W.Frag) : AlL := (He.obsT fa fn ts K, (ex K, fnWA K (limG K)))
def limVal : He.FnW := some ("limits", "Book.limits", defArgs s_Book_limits, .stmts (defBody s_Book_limits), defScope s_Book_limits, mainGlobals, [], builtinsNs)
def valL (w : World) : AlL := (He.valT fn ts w, (true, limVal))
def SaysL (w : World) (K : PySem.W.Frag) : Prop := obsL K = valL w
def keepO : Obj → Bool
  | ⟨_, _, .cls _, _⟩ => true
  | ⟨.type _, _, .func _, _⟩ => true
  | ⟨_, _, .dict es _, _⟩ => !es.toList.isEmpty
  | ⟨.type c, _, .fields _, _⟩ => decide (c = "code") || decide (c = "property")
  | ⟨.type c, _, .seq its _, _⟩ => decide (c = "tuple") && (match its.toList with
    | [.str _ _, .str _ _, .str _ _, .str _ _] => true
    | _ => false)
  | _ => false
def asF (g : Addr → Option Obj) : List Addr := mainGlobals :: (List.range 1500).filter fun a => match g a with
  | some o => keepO o
  | none => false
def frF (g : Addr → Option Obj) : PySem.W.Frag := He.frG g (asF g)
def hkL : PySem.W.Hook where
  α := AlL
  obs := fun s => obsL (frF s.heap.get?)
  val := valL
  says := fun w h => ∃ K : PySem.W.Frag, K.In h ∧ SaysL w K
  of := fun _ _ e => ⟨_, He.frG_in, e⟩
  keeps := fun _ _ _ ⟨K, hK, c⟩ k => ⟨K, PySem.W.Frag.In.keeps hK k, c⟩
end Lw
end
section
set_option maxRecDepth 100000
set_option maxHeartbeats 0
namespace Lw
open PySem PySem.Spec PyProof.Rows L2
def loose0 : List PySem.Str := ["_wall", "__name__", "LimitError", "InvalidName", "InvalidRequest", "InvalidLimit", "InvalidBook", "TooLarge", "UnknownName", "KeyKnown", "UnknownKey", "EarlierMoment", "LETTERS", "MOST_MOMENT", "MOST_NUMBER", "SIZES", "is_name", "is_key", "check_request", "check_moment", "ascends", "check_names", "are_shares", "has_form", "check_pool", "check_numbers", "check_limit", "looks_at", "Book", "first_of"]
def loose1 : List PySem.Str := ["WindowMeter", "SpanMeter", "BucketMeter", "GapMeter", "HeldMeter", "common_of", "share_for", "most_used", "PoolMeter", "meter_for", "MOST_KEYS", "Answer", "Keeper", "MOST_COST", "rounded_up", "lets_nothing", "most_within", "FLOWS", "groups_named", "free_group", "least_distance", "last_offset", "most_in_span", "is_below_bucket", "is_idle_beside_flow", "filled", "all_choices", "most_borrowed", "uses_beyond", "held_cost"]
def loose2 : List PySem.Str := ["asked_group", "idle_beside", "_law_row", "_law_numbers", "_law_groups", "_law_pool", "_law_limit", "_law_sees", "_law_request", "_law_looser", "_law_limits", "_law_idle_pair"]
def loose : List PySem.Str := loose0 ++ loose1 ++ loose2
abbrev R : PySem.W.OpenRow := PySem.W.OpenLaw.row PySem.Challenge.rw_limitweave_k78_whole_books_without_idle
noncomputable def ob (s : PySem.W.SharedT) : AlL := obsL (frF (HandSHeadRun.getT s))
theorem ob_eq (s : PySem.W.SharedT) : ob s = hkL.obs s.abs := by
  have e : HandSHeadRun.getT s = s.abs.heap.get? := funext fun a => HandSHeadRun.getT_eq s a
  show obsL (frF (HandSHeadRun.getT s)) = obsL (frF s.abs.heap.get?)
  rw [e]
noncomputable abbrev whole (w : World) := HandSHeadRun.wholeF (fun p => HandSHeadRun.stepQ (HandSHeadRun.denQ HandSHeadRun.tabQ) p w) HandSHeadRun.fenceQ 20000 R.prog
abbrev vw : Program := PySem.W.view R.prog [0, 81]
noncomputable abbrev looks (x : Shared × PySem.W.SharedT) : Bool := HandSHeadRun.looksF R.prog x.1.heap x.2.abs
noncomputable abbrev seen (x : Shared × PySem.W.SharedT) := HandSHeadRun.seenQ vw loose (importedModules R.prog.main.body) (fun s => PySem.W.xlAt vw [] s && PySem.W.recOk R.toRowW.records s) x.2.abs
def spLaw (K : PySem.W.Frag) : Sp := fun vs H Q _ => ∃ (a : Addr) (ns : List Int), vs = [.ref a] ∧ SqL K H a (ns.map V.int) ∧ ns.length ≤ 63 ∧ ∀ H', Q (.bl true) H'
/-- what the walk gives -/
def Facts : Prop := ∀ {P : Program} {w : World} {K : PySem.W.Frag} {h : Heap} {mg : Str → Option Value} {f : Addr}, K.In h → h.Ns mainGlobals mg → mg ("law" : Str) = some (.ref f) → SaysL w K →
    ∃ fd : FuncData, (∀ (s : Shared) (v : Value), BindsTo s fd ⟨[v], []⟩ [("_law_script", v)]) ∧ ∀ base : Heap, K.In base → base.Ns mainGlobals mg → FnOk P w K mg base CX0 30 f fd ["_law_script"] (spLaw K)
def Runs : Prop := ∀ w : World, HandSHeadRun.RunEqI R vw hkL ob 20000 loose w
end Lw
open PySem PySem.W PySem.Calls PyProof.Rows
theorem Lw.end_of (runs : Lw.Runs) (facts : Lw.Facts) : PySem.Challenge.rw_limitweave_k78_whole_books_without_idle.Holds := by
  w_on; o_law
  refine HandSHeadRun.head_imp (r := OpenLaw.row PySem.Challenge.rw_limitweave_k78_whole_books_without_idle) (q := Lw.vw) (H := Lw.hkL) (ob := Lw.ob) (M := 20000) (loose := Lw.loose) (d := HandSHeadRun.topDef Lw.R.prog 81) (kwd := []) Lw.ob_eq runs
    (by kernel_rfl) (by kernel_rfl) (by kernel_rfl) (by rfl) (by first | assumption | decide +kernel) (by decide +kernel) ⟨rfl, rfl, rfl, rfl, rfl, by decide +kernel⟩ ?hw ?hc
  case hw => w_witness2
  case hc =>
    refine L2.walk_ofE (l := PySem.Challenge.rw_limitweave_k78_whole_books_without_idle) (n := 63) (k := 30) (x := "_law_script") (CX := L2.CX0) rfl (by decide) (by kernel_rfl) ⟨rfl, by decide, by decide⟩ ?F (fun _ _ _ _ z => z)
    intro w mg fa h Y G hmg0
    obtain ⟨K, KX, c⟩ := Y
    have hmg : mg ("law" : PySem.Str) = some (.ref fa) := by
      have e : (HandSHeadRun.topDef Lw.R.prog 81).name = ("law" : PySem.Str) := by kernel_rfl
      rw [← e]
      exact hmg0
    obtain ⟨fd, hb, hF⟩ := facts (P := (PySem.Challenge.rw_limitweave_k78_whole_books_without_idle).prog) (w := w) KX G hmg c
    exact ⟨K, fd, Lw.spLaw K, KX, hb, fun H a ns hl _ hS => ⟨a, ns, rfl, hS, hl, fun _ => rfl⟩, hF⟩
end
section
set_option maxRecDepth 100000
set_option maxHeartbeats 0
namespace Lw
open PySem PySem.Spec PyProof.Rows L2
noncomputable abbrev frX (x : Shared × PySem.W.SharedT) : PySem.W.Frag := frF (HandSHeadRun.getT x.2)
theorem joinR {w' : World} (e1 : (whole w').map (fun x => (looks x, seen x)) = some (true, PySem.W.openGood vw loose)) (e2 : (whole w').map (fun x => (fa.all fun f => f.ok (frX x), fn.map fun d => He.fnW (frX x) d.at_)) = some (true, fn.map He.DefD.val))
    (e3 : (whole w').map (fun x => (fn.take 46).all fun d => d.ok (frX x)) = some true) (e4 : (whole w').map (fun x => ((fn.drop 46).all fun d => d.ok (frX x), (ts.map fun t => He.dicW (frX x) (t.1 (frX x)), (ex (frX x), fnWA (frX x) (limG (frX x)))))) = some (true, ((He.valT fn ts w').2, (true, limVal)))) :
    (whole w').map (fun x => (looks x, seen x, ob x.2)) = some (true, PySem.W.openGood vw loose, hkL.val w') := by
  generalize whole w' = o at e1 e2 e3 e4 ⊢
  cases o with
  | none => cases e1
  | some x =>
    obtain ⟨h1, h2⟩ := Prod.mk.inj (Option.some.inj e1)
    obtain ⟨h3, h4⟩ := Prod.mk.inj (Option.some.inj e2)
    have h5 : ((fn.take 46).all fun d => d.ok (frX x)) = true := Option.some.inj e3
    obtain ⟨h6, h7⟩ := Prod.mk.inj (Option.some.inj e4)
    obtain ⟨h8, h9⟩ := Prod.mk.inj h7
    have h10 : (fn.all fun d => d.ok (frX x)) = true := by
      rw [← List.take_append_drop 46 fn, List.all_append, h5, h6]
      rfl
    have h11 : ((fa.all fun f => f.ok (frX x)) && fn.all fun d => d.ok (frX x)) = true := by
      rw [h3, h10]
      rfl
    have h12 : He.obsD fa fn (frX x) = He.valD fn := Prod.ext h11 h4
    have h13 : He.obsT fa fn ts (frX x) = He.valT fn ts w' := Prod.ext h12 h8
    have h14 : ob x.2 = hkL.val w' := Prod.ext h13 h9
    show some (looks x, seen x, ob x.2) = _
    rw [h1, h2, h14]
    exact rfl
theorem run0a (w : World) : (whole (w.withFollow "special-get-raises" false)).map (fun x => (looks x, seen x)) = some (true, PySem.W.openGood vw loose) := by
  kernel_rfl
theorem run0b (w : World) : (whole (w.withFollow "special-get-raises" false)).map (fun x => (fa.all fun f => f.ok (frX x), fn.map fun d => He.fnW (frX x) d.at_)) = some (true, fn.map He.DefD.val) := by
  kernel_rfl
theorem run0c (w : World) : (whole (w.withFollow "special-get-raises" false)).map (fun x => (fn.take 46).all fun d => d.ok (frX x)) = some true := by
  kernel_rfl
theorem run0d (w : World) : (whole (w.withFollow "special-get-raises" false)).map (fun x => ((fn.drop 46).all fun d => d.ok (frX x), (ts.map fun t => He.dicW (frX x) (t.1 (frX x)), (ex (frX x), fnWA (frX x) (limG (frX x)))))) = some (true, ((He.valT fn ts (w.withFollow "special-get-raises" false)).2, (true, limVal))) := by
  kernel_rfl
theorem run1a (w : World) : (whole (w.withFollow "special-get-raises" true)).map (fun x => (looks x, seen x)) = some (true, PySem.W.openGood vw loose) := by
  kernel_rfl
theorem run1b (w : World) : (whole (w.withFollow "special-get-raises" true)).map (fun x => (fa.all fun f => f.ok (frX x), fn.map fun d => He.fnW (frX x) d.at_)) = some (true, fn.map He.DefD.val) := by
  kernel_rfl
theorem run1c (w : World) : (whole (w.withFollow "special-get-raises" true)).map (fun x => (fn.take 46).all fun d => d.ok (frX x)) = some true := by
  kernel_rfl
theorem run1d (w : World) : (whole (w.withFollow "special-get-raises" true)).map (fun x => ((fn.drop 46).all fun d => d.ok (frX x), (ts.map fun t => He.dicW (frX x) (t.1 (frX x)), (ex (frX x), fnWA (frX x) (limG (frX x)))))) = some (true, ((He.valT fn ts (w.withFollow "special-get-raises" true)).2, (true, limVal))) := by
  kernel_rfl
theorem run (w : World) : HandSHeadRun.RunEqI R vw hkL ob 20000 loose w :=
  PySem.W.byRow2 "special-get-raises" (P := fun w => HandSHeadRun.RunEqI R vw hkL ob 20000 loose w) (fun w => joinR (run0a w) (run0b w) (run0c w) (run0d w)) (fun w => joinR (run1a w) (run1b w) (run1c w) (run1d w)) w
end Lw
end
section
set_option maxRecDepth 100000
set_option maxHeartbeats 4000000
namespace Lw
open PySem PySem.Spec PyProof.Rows L2

/-! ### the facts of the text -/
structure Tx (w : World) (K : PySem.W.Frag) (mg : Str → Option Value) : Prop where
  c : SaysL w K
  g : ∃ h : Heap, K.In h ∧ h.Ns mainGlobals mg
def fdOfA (K : PySem.W.Frag) (a : Addr) : FuncData := match K.lookup a with
  | some ⟨_, _, .func fd, _⟩ => fd
  | _ => default
abbrev fdOf (K : PySem.W.Frag) (p : Str × Option Str) : FuncData := fdOfA K (He.fAd K p)
theorem fdOfA_eq {K : PySem.W.Frag} {a : Addr} {oc : Value} {od : Option Addr} {osl : Array (Option Value)} {fd : FuncData} (l : K.lookup a = some ⟨oc, od, .func fd, osl⟩) : fdOfA K a = fd := by
  unfold fdOfA
  rw [l]
theorem fd_of {K : PySem.W.Frag} {x q : Str} {ps : Arguments} {b : List Stmt} {sc : Scope} {ds : List V} {ks : List (Str × V)} {a : Addr} (h : ∃ fd, FunD K x q ps b sc ds ks a fd) : FunD K x q ps b sc ds ks a (fdOfA K a) := by
  obtain ⟨fd, F⟩ := h
  obtain ⟨oc, od, dV, kV, doc, pm, an, cdv, ct, osl, e, l, _⟩ := F.ex
  rw [fdOfA_eq l]
  exact F
section
variable {w : World} {K : PySem.W.Frag} {mg : Str → Option Value}
theorem Tx.t (T : Tx w K mg) : He.SaysT fa fn ts w K := congrArg (fun z : AlL => z.1) T.c
theorem Tx.fact (T : Tx w K mg) (i : Nat) {f : He.Fa} (h : fa[i]? = some f := by rfl) : f.ok K = true := T.t.d.fact i h
theorem Tx.glo (T : Tx w K mg) (i : Nat) {x : Str} (h : fa[i]? = some (.glo x) := by rfl) : mg x = some (.ref (He.ga K x)) := by
  obtain ⟨h', X, G⟩ := T.g
  exact He.glo_ok X G (T.fact i h)
theorem Tx.free (T : Tx w K mg) (i : Nat) {x : Str} (h : fa[i]? = some (.free x) := by rfl) : mg x = none := by
  obtain ⟨h', X, G⟩ := T.g
  exact He.free_ok X G (T.fact i h)
theorem Tx.int (T : Tx w K mg) (i : Nat) {x : Str} {n : Int} (h : fa[i]? = some (.int x n) := by rfl) : ∃ t, mg x = some (.int n t) := by
  obtain ⟨h', X, G⟩ := T.g
  exact He.int_ok X G (T.fact i h)
theorem Tx.str (T : Tx w K mg) (i : Nat) {x z : Str} (h : fa[i]? = some (.str x z) := by rfl) : ∃ t, mg x = some (.str z t) := by
  obtain ⟨h', X, G⟩ := T.g
  exact He.str_ok X G (T.fact i h)
theorem Tx.ex (T : Tx w K mg) : Lw.ex K = true := congrArg (fun z : AlL => z.2.1) T.c
theorem Tx.FLOWS (T : Tx w K mg) (H : Hp) : SqT K H (He.ga K "FLOWS") [.str "window", .str "span", .str "bucket", .str "gap"] := He.tupB_ok (He.ba T.ex).1 H
theorem Tx.g_gcd (T : Tx w K mg) : mg "gcd" = some (.builtin "math.gcd") := by
  obtain ⟨h', X, G⟩ := T.g
  exact PySem.W.mg_of X G (He.eqO_ok (He.ba (He.ba T.ex).2).1)
theorem Tx.SIZES (T : Tx w K mg) : ∃ es n, KDict K w (He.ga K "SIZES") es n := T.t.tab 0 (t := ((fun K => He.ga K "SIZES"), ["window", "span", "bucket", "gap", "held", "pool"])) rfl
theorem Tx.sizes (T : Tx w K mg) : He.valsB K (He.ga K "SIZES") [("window", .int 2), ("span", .int 2), ("bucket", .int 2), ("gap", .int 1), ("held", .int 1), ("pool", .int 2)] = true := (He.ba (He.ba (He.ba T.ex).2).2).1
theorem Tx.size_of (T : Tx w K mg) {x : Str} {n : Int} (h : (x, He.Dv.int n) ∈ ([("window", .int 2), ("span", .int 2), ("bucket", .int 2), ("gap", .int 1), ("held", .int 1), ("pool", .int 2)] : List (Str × He.Dv))) : ∃ u, PySem.W.nsIn K (He.ga K "SIZES") x = some (some u) ∧ RelV (.int n) u := He.valsB_ok T.sizes h
theorem Tx.pB (T : Tx w K mg) : propB K = true := (He.ba (He.ba (He.ba (He.ba T.ex).2).2).2).1
theorem Tx.pr_limits (T : Tx w K mg) : PropOf K (He.ga K "Book") "limits" (limP K) (limG K) := by
  obtain ⟨h1, h2⟩ := He.ba T.pB
  obtain ⟨h3, h4⟩ := He.ba h2
  obtain ⟨h5, h6⟩ := He.ba h4
  refine ⟨He.eqO_ok h1, He.eqO_ok h3, of_decide_eq_true h5, ?_⟩
  split at h6
  · rename_i g r q
    have e : g = limG K := of_decide_eq_true h6
    rw [e] at q
    exact ⟨r, q⟩
  · cases h6
theorem Tx.fd_Book_limits (T : Tx w K mg) : FnP K "limits" "Book.limits" s_Book_limits (limG K) (fdOfA K (limG K)) := by
  have e : fnWA K (limG K) = limVal := congrArg (fun z : AlL => z.2.2) T.c
  have c : fnOkA K (limG K) "Book.limits" = true := (He.ba (He.ba (He.ba (He.ba T.ex).2).2).2).2
  obtain ⟨kp, c2⟩ := He.ba c
  refine fd_of ?_
  unfold fnWA at e
  cases q : K.lookup (limG K) with
  | none =>
    rw [q] at c2
    cases c2
  | some o =>
    obtain ⟨oc, od, dt, osl⟩ := o
    rw [q] at c2 e
    cases dt with
    | func fd =>
      obtain ⟨n1, n2, n3, n4, n5, n6, n7, n8, n9, n10, n11, n12, n13, n14, n15⟩ := fd
      have e2 : (some (n1, n2, n3, n4, n5, n6, n7, n15) : He.FnW) = limVal := e
      simp only [limVal, Option.some.injEq, Prod.mk.injEq] at e2
      obtain ⟨h1, h2, h3, h4, h5, h6, h7, h8⟩ := e2
      subst h1 h2 h3 h4 h5 h6 h7 h8
      have c3 : (PySem.W.codeIn K n13 "Book.limits" && (He.dflB K n8 [] && He.kwdB K n9 [])) = true := c2
      obtain ⟨k1, k2⟩ := He.ba c3
      obtain ⟨k3, k4⟩ := He.ba k2
      exact ⟨_, ⟨oc, od, n8, n9, n10, n11, n12, n13, n14, osl, rfl, q, k1, He.dflB_ok k3, He.kwdB_ok k4⟩, kp⟩
    | _ => cases c2
theorem Tx.bd_Book_limits (T : Tx w K mg) : Binds K (fdOfA K (limG K)) ["self"] [] := T.fd_Book_limits.bindsN fun _ _ _ _ _ _ us hl => match us, hl with | [_], _ => rfl
theorem Tx.fd_is_name (T : Tx w K mg) : FnP K "is_name" "is_name" s_is_name (He.fAd K ("is_name", none)) (fdOf K ("is_name", none)) := fd_of (T.t.d.def_ 0)
theorem Tx.bd_is_name (T : Tx w K mg) : Binds K (fdOfA K (He.fAd K ("is_name", none))) ["text"] [] := T.fd_is_name.bindsN fun _ _ _ _ _ _ us hl => match us, hl with | [_], _ => rfl
theorem Tx.fd_is_key (T : Tx w K mg) : FnP K "is_key" "is_key" s_is_key (He.fAd K ("is_key", none)) (fdOf K ("is_key", none)) := fd_of (T.t.d.def_ 1)
theorem Tx.bd_is_key (T : Tx w K mg) : Binds K (fdOfA K (He.fAd K ("is_key", none))) ["text"] [] := T.fd_is_key.bindsN fun _ _ _ _ _ _ us hl => match us, hl with | [_], _ => rfl
theorem Tx.fd_check_request (T : Tx w K mg) : FnP K "check_request" "check_request" s_check_request (He.fAd K ("check_request", none)) (fdOf K ("check_request", none)) := fd_of (T.t.d.def_ 2)
theorem Tx.bd_check_request (T : Tx w K mg) : Binds K (fdOfA K (He.fAd K ("check_request", none))) ["key", "group", "cost"] [] := T.fd_check_request.bindsN fun _ _ _ _ _ _ us hl => match us, hl with | [_, _, _], _ => rfl
theorem Tx.fd_check_moment (T : Tx w K mg) : FnP K "check_moment" "check_moment" s_check_moment (He.fAd K ("check_moment", none)) (fdOf K ("check_moment", none)) := fd_of (T.t.d.def_ 3)
theorem Tx.bd_check_moment (T : Tx w K mg) : Binds K (fdOfA K (He.fAd K ("check_moment", none))) ["moment"] [] := T.fd_check_moment.bindsN fun _ _ _ _ _ _ us hl => match us, hl with | [_], _ => rfl
theorem Tx.fd_ascends (T : Tx w K mg) : FnP K "ascends" "ascends" s_ascends (He.fAd K ("ascends", none)) (fdOf K ("ascends", none)) := fd_of (T.t.d.def_ 4)
theorem Tx.bd_ascends (T : Tx w K mg) : Binds K (fdOfA K (He.fAd K ("ascends", none))) ["names"] [] := T.fd_ascends.bindsN fun _ _ _ _ _ _ us hl => match us, hl with | [_], _ => rfl
theorem Tx.fd_check_names (T : Tx w K mg) : FnP K "check_names" "check_names" s_check_names (He.fAd K ("check_names", none)) (fdOf K ("check_names", none)) := fd_of (T.t.d.def_ 5)
theorem Tx.bd_check_names (T : Tx w K mg) : Binds K (fdOfA K (He.fAd K ("check_names", none))) ["names"] [] := T.fd_check_names.bindsN fun _ _ _ _ _ _ us hl => match us, hl with | [_], _ => rfl
theorem Tx.fd_are_shares (T : Tx w K mg) : FnP K "are_shares" "are_shares" s_are_shares (He.fAd K ("are_shares", none)) (fdOf K ("are_shares", none)) := fd_of (T.t.d.def_ 6)
theorem Tx.bd_are_shares (T : Tx w K mg) : Binds K (fdOfA K (He.fAd K ("are_shares", none))) ["shares"] [] := T.fd_are_shares.bindsN fun _ _ _ _ _ _ us hl => match us, hl with | [_], _ => rfl
theorem Tx.fd_has_form (T : Tx w K mg) : FnP K "has_form" "has_form" s_has_form (He.fAd K ("has_form", none)) (fdOf K ("has_form", none)) := fd_of (T.t.d.def_ 7)
theorem Tx.bd_has_form (T : Tx w K mg) : Binds K (fdOfA K (He.fAd K ("has_form", none))) ["word", "numbers"] [] := T.fd_has_form.bindsN fun _ _ _ _ _ _ us hl => match us, hl with | [_, _], _ => rfl
theorem Tx.fd_check_pool (T : Tx w K mg) : FnP K "check_pool" "check_pool" s_check_pool (He.fAd K ("check_pool", none)) (fdOf K ("check_pool", none)) := fd_of (T.t.d.def_ 8)
theorem Tx.bd_check_pool (T : Tx w K mg) : Binds K (fdOfA K (He.fAd K ("check_pool", none))) ["groups", "most", "shares"] [] := T.fd_check_pool.bindsN fun _ _ _ _ _ _ us hl => match us, hl with | [_, _, _], _ => rfl
theorem Tx.fd_check_numbers (T : Tx w K mg) : FnP K "check_numbers" "check_numbers" s_check_numbers (He.fAd K ("check_numbers", none)) (fdOf K ("check_numbers", none)) := fd_of (T.t.d.def_ 9)
theorem Tx.bd_check_numbers (T : Tx w K mg) : Binds K (fdOfA K (He.fAd K ("check_numbers", none))) ["word", "numbers"] [] := T.fd_check_numbers.bindsN fun _ _ _ _ _ _ us hl => match us, hl with | [_, _], _ => rfl
theorem Tx.fd_check_limit (T : Tx w K mg) : FnP K "check_limit" "check_limit" s_check_limit (He.fAd K ("check_limit", none)) (fdOf K ("check_limit", none)) := fd_of (T.t.d.def_ 10)
theorem Tx.bd_check_limit (T : Tx w K mg) : Binds K (fdOfA K (He.fAd K ("check_limit", none))) ["limit"] [] := T.fd_check_limit.bindsN fun _ _ _ _ _ _ us hl => match us, hl with | [_], _ => rfl
theorem Tx.fd_looks_at (T : Tx w K mg) : FnP K "looks_at" "looks_at" s_looks_at (He.fAd K ("looks_at", none)) (fdOf K ("looks_at", none)) := fd_of (T.t.d.def_ 11)
theorem Tx.bd_looks_at (T : Tx w K mg) : Binds K (fdOfA K (He.fAd K ("looks_at", none))) ["limit", "group"] [] := T.fd_looks_at.bindsN fun _ _ _ _ _ _ us hl => match us, hl with | [_, _], _ => rfl
theorem Tx.fd_Book_init (T : Tx w K mg) : FnP K "__init__" "Book.__init__" s_Book_init (He.fAd K ("Book", some "__init__")) (fdOf K ("Book", some "__init__")) := fd_of (T.t.d.def_ 12)
theorem Tx.bd_Book_init (T : Tx w K mg) : Binds K (fdOfA K (He.fAd K ("Book", some "__init__"))) ["self", "limits"] [] := T.fd_Book_init.bindsN fun _ _ _ _ _ _ us hl => match us, hl with | [_, _], _ => rfl
theorem Tx.fd_Book_limit_named (T : Tx w K mg) : FnP K "limit_named" "Book.limit_named" s_Book_limit_named (He.fAd K ("Book", some "limit_named")) (fdOf K ("Book", some "limit_named")) := fd_of (T.t.d.def_ 13)
theorem Tx.bd_Book_limit_named (T : Tx w K mg) : Binds K (fdOfA K (He.fAd K ("Book", some "limit_named"))) ["self", "name"] [] := T.fd_Book_limit_named.bindsN fun _ _ _ _ _ _ us hl => match us, hl with | [_, _], _ => rfl
theorem Tx.fd_Book_without_limit (T : Tx w K mg) : FnP K "without_limit" "Book.without_limit" s_Book_without_limit (He.fAd K ("Book", some "without_limit")) (fdOf K ("Book", some "without_limit")) := fd_of (T.t.d.def_ 14)
theorem Tx.bd_Book_without_limit (T : Tx w K mg) : Binds K (fdOfA K (He.fAd K ("Book", some "without_limit"))) ["self", "name"] [] := T.fd_Book_without_limit.bindsN fun _ _ _ _ _ _ us hl => match us, hl with | [_, _], _ => rfl
theorem Tx.fd_first_of (T : Tx w K mg) : FnP K "first_of" "first_of" s_first_of (He.fAd K ("first_of", none)) (fdOf K ("first_of", none)) := fd_of (T.t.d.def_ 15)
theorem Tx.bd_first_of (T : Tx w K mg) : Binds K (fdOfA K (He.fAd K ("first_of", none))) ["limit"] [] := T.fd_first_of.bindsN fun _ _ _ _ _ _ us hl => match us, hl with | [_], _ => rfl
theorem Tx.fd_WindowMeter_init (T : Tx w K mg) : FnP K "__init__" "WindowMeter.__init__" s_WindowMeter_init (He.fAd K ("WindowMeter", some "__init__")) (fdOf K ("WindowMeter", some "__init__")) := fd_of (T.t.d.def_ 16)
theorem Tx.bd_WindowMeter_init (T : Tx w K mg) : Binds K (fdOfA K (He.fAd K ("WindowMeter", some "__init__"))) ["self", "limit"] [] := T.fd_WindowMeter_init.bindsN fun _ _ _ _ _ _ us hl => match us, hl with | [_, _], _ => rfl
theorem Tx.fd_WindowMeter_sums_since (T : Tx w K mg) : FnP K "sums_since" "WindowMeter.sums_since" s_WindowMeter_sums_since (He.fAd K ("WindowMeter", some "sums_since")) (fdOf K ("WindowMeter", some "sums_since")) := fd_of (T.t.d.def_ 17)
theorem Tx.bd_WindowMeter_sums_since (T : Tx w K mg) : Binds K (fdOfA K (He.fAd K ("WindowMeter", some "sums_since"))) ["self", "moment"] [] := T.fd_WindowMeter_sums_since.bindsN fun _ _ _ _ _ _ us hl => match us, hl with | [_, _], _ => rfl
theorem Tx.fd_WindowMeter_room (T : Tx w K mg) : FnP K "room" "WindowMeter.room" s_WindowMeter_room (He.fAd K ("WindowMeter", some "room")) (fdOf K ("WindowMeter", some "room")) := fd_of (T.t.d.def_ 18)
theorem Tx.bd_WindowMeter_room (T : Tx w K mg) : Binds K (fdOfA K (He.fAd K ("WindowMeter", some "room"))) ["self", "moment", "group", "cost"] [] := T.fd_WindowMeter_room.bindsN fun _ _ _ _ _ _ us hl => match us, hl with | [_, _, _, _], _ => rfl
theorem Tx.fd_WindowMeter_earliest (T : Tx w K mg) : FnP K "earliest" "WindowMeter.earliest" s_WindowMeter_earliest (He.fAd K ("WindowMeter", some "earliest")) (fdOf K ("WindowMeter", some "earliest")) := fd_of (T.t.d.def_ 19)
theorem Tx.bd_WindowMeter_earliest (T : Tx w K mg) : Binds K (fdOfA K (He.fAd K ("WindowMeter", some "earliest"))) ["self", "moment", "group", "cost"] [] := T.fd_WindowMeter_earliest.bindsN fun _ _ _ _ _ _ us hl => match us, hl with | [_, _, _, _], _ => rfl
theorem Tx.fd_WindowMeter_let (T : Tx w K mg) : FnP K "let" "WindowMeter.let" s_WindowMeter_let (He.fAd K ("WindowMeter", some "let")) (fdOf K ("WindowMeter", some "let")) := fd_of (T.t.d.def_ 20)
theorem Tx.bd_WindowMeter_let (T : Tx w K mg) : Binds K (fdOfA K (He.fAd K ("WindowMeter", some "let"))) ["self", "moment", "group", "cost", "key"] [] := T.fd_WindowMeter_let.bindsN fun _ _ _ _ _ _ us hl => match us, hl with | [_, _, _, _, _], _ => rfl
theorem Tx.fd_WindowMeter_released (T : Tx w K mg) : FnP K "released" "WindowMeter.released" s_WindowMeter_released (He.fAd K ("WindowMeter", some "released")) (fdOf K ("WindowMeter", some "released")) := fd_of (T.t.d.def_ 21)
theorem Tx.bd_WindowMeter_released (T : Tx w K mg) : Binds K (fdOfA K (He.fAd K ("WindowMeter", some "released"))) ["self", "key", "moment"] [] := T.fd_WindowMeter_released.bindsN fun _ _ _ _ _ _ us hl => match us, hl with | [_, _, _], _ => rfl
theorem Tx.fd_SpanMeter_init (T : Tx w K mg) : FnP K "__init__" "SpanMeter.__init__" s_SpanMeter_init (He.fAd K ("SpanMeter", some "__init__")) (fdOf K ("SpanMeter", some "__init__")) := fd_of (T.t.d.def_ 22)
theorem Tx.bd_SpanMeter_init (T : Tx w K mg) : Binds K (fdOfA K (He.fAd K ("SpanMeter", some "__init__"))) ["self", "limit"] [] := T.fd_SpanMeter_init.bindsN fun _ _ _ _ _ _ us hl => match us, hl with | [_, _], _ => rfl
theorem Tx.fd_SpanMeter_used_in (T : Tx w K mg) : FnP K "used_in" "SpanMeter.used_in" s_SpanMeter_used_in (He.fAd K ("SpanMeter", some "used_in")) (fdOf K ("SpanMeter", some "used_in")) := fd_of (T.t.d.def_ 23)
theorem Tx.bd_SpanMeter_used_in (T : Tx w K mg) : Binds K (fdOfA K (He.fAd K ("SpanMeter", some "used_in"))) ["self", "moment"] [] := T.fd_SpanMeter_used_in.bindsN fun _ _ _ _ _ _ us hl => match us, hl with | [_, _], _ => rfl
theorem Tx.fd_SpanMeter_room (T : Tx w K mg) : FnP K "room" "SpanMeter.room" s_SpanMeter_room (He.fAd K ("SpanMeter", some "room")) (fdOf K ("SpanMeter", some "room")) := fd_of (T.t.d.def_ 24)
theorem Tx.bd_SpanMeter_room (T : Tx w K mg) : Binds K (fdOfA K (He.fAd K ("SpanMeter", some "room"))) ["self", "moment", "group", "cost"] [] := T.fd_SpanMeter_room.bindsN fun _ _ _ _ _ _ us hl => match us, hl with | [_, _, _, _], _ => rfl
theorem Tx.fd_SpanMeter_earliest (T : Tx w K mg) : FnP K "earliest" "SpanMeter.earliest" s_SpanMeter_earliest (He.fAd K ("SpanMeter", some "earliest")) (fdOf K ("SpanMeter", some "earliest")) := fd_of (T.t.d.def_ 25)
theorem Tx.bd_SpanMeter_earliest (T : Tx w K mg) : Binds K (fdOfA K (He.fAd K ("SpanMeter", some "earliest"))) ["self", "moment", "group", "cost"] [] := T.fd_SpanMeter_earliest.bindsN fun _ _ _ _ _ _ us hl => match us, hl with | [_, _, _, _], _ => rfl
theorem Tx.fd_SpanMeter_let (T : Tx w K mg) : FnP K "let" "SpanMeter.let" s_SpanMeter_let (He.fAd K ("SpanMeter", some "let")) (fdOf K ("SpanMeter", some "let")) := fd_of (T.t.d.def_ 26)
theorem Tx.bd_SpanMeter_let (T : Tx w K mg) : Binds K (fdOfA K (He.fAd K ("SpanMeter", some "let"))) ["self", "moment", "group", "cost", "key"] [] := T.fd_SpanMeter_let.bindsN fun _ _ _ _ _ _ us hl => match us, hl with | [_, _, _, _, _], _ => rfl
theorem Tx.fd_SpanMeter_released (T : Tx w K mg) : FnP K "released" "SpanMeter.released" s_SpanMeter_released (He.fAd K ("SpanMeter", some "released")) (fdOf K ("SpanMeter", some "released")) := fd_of (T.t.d.def_ 27)
theorem Tx.bd_SpanMeter_released (T : Tx w K mg) : Binds K (fdOfA K (He.fAd K ("SpanMeter", some "released"))) ["self", "key", "moment"] [] := T.fd_SpanMeter_released.bindsN fun _ _ _ _ _ _ us hl => match us, hl with | [_, _, _], _ => rfl
theorem Tx.fd_BucketMeter_init (T : Tx w K mg) : FnP K "__init__" "BucketMeter.__init__" s_BucketMeter_init (He.fAd K ("BucketMeter", some "__init__")) (fdOf K ("BucketMeter", some "__init__")) := fd_of (T.t.d.def_ 28)
theorem Tx.bd_BucketMeter_init (T : Tx w K mg) : Binds K (fdOfA K (He.fAd K ("BucketMeter", some "__init__"))) ["self", "limit"] [] := T.fd_BucketMeter_init.bindsN fun _ _ _ _ _ _ us hl => match us, hl with | [_, _], _ => rfl
theorem Tx.fd_BucketMeter_missing_at (T : Tx w K mg) : FnP K "missing_at" "BucketMeter.missing_at" s_BucketMeter_missing_at (He.fAd K ("BucketMeter", some "missing_at")) (fdOf K ("BucketMeter", some "missing_at")) := fd_of (T.t.d.def_ 29)
theorem Tx.bd_BucketMeter_missing_at (T : Tx w K mg) : Binds K (fdOfA K (He.fAd K ("BucketMeter", some "missing_at"))) ["self", "moment"] [] := T.fd_BucketMeter_missing_at.bindsN fun _ _ _ _ _ _ us hl => match us, hl with | [_, _], _ => rfl
theorem Tx.fd_BucketMeter_too_much (T : Tx w K mg) : FnP K "too_much" "BucketMeter.too_much" s_BucketMeter_too_much (He.fAd K ("BucketMeter", some "too_much")) (fdOf K ("BucketMeter", some "too_much")) := fd_of (T.t.d.def_ 30)
theorem Tx.bd_BucketMeter_too_much (T : Tx w K mg) : Binds K (fdOfA K (He.fAd K ("BucketMeter", some "too_much"))) ["self", "moment", "cost"] [] := T.fd_BucketMeter_too_much.bindsN fun _ _ _ _ _ _ us hl => match us, hl with | [_, _, _], _ => rfl
theorem Tx.fd_BucketMeter_room (T : Tx w K mg) : FnP K "room" "BucketMeter.room" s_BucketMeter_room (He.fAd K ("BucketMeter", some "room")) (fdOf K ("BucketMeter", some "room")) := fd_of (T.t.d.def_ 31)
theorem Tx.bd_BucketMeter_room (T : Tx w K mg) : Binds K (fdOfA K (He.fAd K ("BucketMeter", some "room"))) ["self", "moment", "group", "cost"] [] := T.fd_BucketMeter_room.bindsN fun _ _ _ _ _ _ us hl => match us, hl with | [_, _, _, _], _ => rfl
theorem Tx.fd_BucketMeter_earliest (T : Tx w K mg) : FnP K "earliest" "BucketMeter.earliest" s_BucketMeter_earliest (He.fAd K ("BucketMeter", some "earliest")) (fdOf K ("BucketMeter", some "earliest")) := fd_of (T.t.d.def_ 32)
theorem Tx.bd_BucketMeter_earliest (T : Tx w K mg) : Binds K (fdOfA K (He.fAd K ("BucketMeter", some "earliest"))) ["self", "moment", "group", "cost"] [] := T.fd_BucketMeter_earliest.bindsN fun _ _ _ _ _ _ us hl => match us, hl with | [_, _, _, _], _ => rfl
theorem Tx.fd_BucketMeter_let (T : Tx w K mg) : FnP K "let" "BucketMeter.let" s_BucketMeter_let (He.fAd K ("BucketMeter", some "let")) (fdOf K ("BucketMeter", some "let")) := fd_of (T.t.d.def_ 33)
theorem Tx.bd_BucketMeter_let (T : Tx w K mg) : Binds K (fdOfA K (He.fAd K ("BucketMeter", some "let"))) ["self", "moment", "group", "cost", "key"] [] := T.fd_BucketMeter_let.bindsN fun _ _ _ _ _ _ us hl => match us, hl with | [_, _, _, _, _], _ => rfl
theorem Tx.fd_BucketMeter_released (T : Tx w K mg) : FnP K "released" "BucketMeter.released" s_BucketMeter_released (He.fAd K ("BucketMeter", some "released")) (fdOf K ("BucketMeter", some "released")) := fd_of (T.t.d.def_ 34)
theorem Tx.bd_BucketMeter_released (T : Tx w K mg) : Binds K (fdOfA K (He.fAd K ("BucketMeter", some "released"))) ["self", "key", "moment"] [] := T.fd_BucketMeter_released.bindsN fun _ _ _ _ _ _ us hl => match us, hl with | [_, _, _], _ => rfl
theorem Tx.fd_GapMeter_init (T : Tx w K mg) : FnP K "__init__" "GapMeter.__init__" s_GapMeter_init (He.fAd K ("GapMeter", some "__init__")) (fdOf K ("GapMeter", some "__init__")) := fd_of (T.t.d.def_ 35)
theorem Tx.bd_GapMeter_init (T : Tx w K mg) : Binds K (fdOfA K (He.fAd K ("GapMeter", some "__init__"))) ["self", "limit"] [] := T.fd_GapMeter_init.bindsN fun _ _ _ _ _ _ us hl => match us, hl with | [_, _], _ => rfl
theorem Tx.fd_GapMeter_room (T : Tx w K mg) : FnP K "room" "GapMeter.room" s_GapMeter_room (He.fAd K ("GapMeter", some "room")) (fdOf K ("GapMeter", some "room")) := fd_of (T.t.d.def_ 36)
theorem Tx.bd_GapMeter_room (T : Tx w K mg) : Binds K (fdOfA K (He.fAd K ("GapMeter", some "room"))) ["self", "moment", "group", "cost"] [] := T.fd_GapMeter_room.bindsN fun _ _ _ _ _ _ us hl => match us, hl with | [_, _, _, _], _ => rfl
theorem Tx.fd_GapMeter_earliest (T : Tx w K mg) : FnP K "earliest" "GapMeter.earliest" s_GapMeter_earliest (He.fAd K ("GapMeter", some "earliest")) (fdOf K ("GapMeter", some "earliest")) := fd_of (T.t.d.def_ 37)
theorem Tx.bd_GapMeter_earliest (T : Tx w K mg) : Binds K (fdOfA K (He.fAd K ("GapMeter", some "earliest"))) ["self", "moment", "group", "cost"] [] := T.fd_GapMeter_earliest.bindsN fun _ _ _ _ _ _ us hl => match us, hl with | [_, _, _, _], _ => rfl
theorem Tx.fd_GapMeter_let (T : Tx w K mg) : FnP K "let" "GapMeter.let" s_GapMeter_let (He.fAd K ("GapMeter", some "let")) (fdOf K ("GapMeter", some "let")) := fd_of (T.t.d.def_ 38)
theorem Tx.bd_GapMeter_let (T : Tx w K mg) : Binds K (fdOfA K (He.fAd K ("GapMeter", some "let"))) ["self", "moment", "group", "cost", "key"] [] := T.fd_GapMeter_let.bindsN fun _ _ _ _ _ _ us hl => match us, hl with | [_, _, _, _, _], _ => rfl
theorem Tx.fd_GapMeter_released (T : Tx w K mg) : FnP K "released" "GapMeter.released" s_GapMeter_released (He.fAd K ("GapMeter", some "released")) (fdOf K ("GapMeter", some "released")) := fd_of (T.t.d.def_ 39)
theorem Tx.bd_GapMeter_released (T : Tx w K mg) : Binds K (fdOfA K (He.fAd K ("GapMeter", some "released"))) ["self", "key", "moment"] [] := T.fd_GapMeter_released.bindsN fun _ _ _ _ _ _ us hl => match us, hl with | [_, _, _], _ => rfl
theorem Tx.fd_HeldMeter_init (T : Tx w K mg) : FnP K "__init__" "HeldMeter.__init__" s_HeldMeter_init (He.fAd K ("HeldMeter", some "__init__")) (fdOf K ("HeldMeter", some "__init__")) := fd_of (T.t.d.def_ 40)
theorem Tx.bd_HeldMeter_init (T : Tx w K mg) : Binds K (fdOfA K (He.fAd K ("HeldMeter", some "__init__"))) ["self", "limit"] [] := T.fd_HeldMeter_init.bindsN fun _ _ _ _ _ _ us hl => match us, hl with | [_, _], _ => rfl
theorem Tx.fd_HeldMeter_room (T : Tx w K mg) : FnP K "room" "HeldMeter.room" s_HeldMeter_room (He.fAd K ("HeldMeter", some "room")) (fdOf K ("HeldMeter", some "room")) := fd_of (T.t.d.def_ 41)
theorem Tx.bd_HeldMeter_room (T : Tx w K mg) : Binds K (fdOfA K (He.fAd K ("HeldMeter", some "room"))) ["self", "moment", "group", "cost"] [] := T.fd_HeldMeter_room.bindsN fun _ _ _ _ _ _ us hl => match us, hl with | [_, _, _, _], _ => rfl
theorem Tx.fd_HeldMeter_earliest (T : Tx w K mg) : FnP K "earliest" "HeldMeter.earliest" s_HeldMeter_earliest (He.fAd K ("HeldMeter", some "earliest")) (fdOf K ("HeldMeter", some "earliest")) := fd_of (T.t.d.def_ 42)
theorem Tx.bd_HeldMeter_earliest (T : Tx w K mg) : Binds K (fdOfA K (He.fAd K ("HeldMeter", some "earliest"))) ["self", "moment", "group", "cost"] [] := T.fd_HeldMeter_earliest.bindsN fun _ _ _ _ _ _ us hl => match us, hl with | [_, _, _, _], _ => rfl
theorem Tx.fd_HeldMeter_let (T : Tx w K mg) : FnP K "let" "HeldMeter.let" s_HeldMeter_let (He.fAd K ("HeldMeter", some "let")) (fdOf K ("HeldMeter", some "let")) := fd_of (T.t.d.def_ 43)
theorem Tx.bd_HeldMeter_let (T : Tx w K mg) : Binds K (fdOfA K (He.fAd K ("HeldMeter", some "let"))) ["self", "moment", "group", "cost", "key"] [] := T.fd_HeldMeter_let.bindsN fun _ _ _ _ _ _ us hl => match us, hl with | [_, _, _, _, _], _ => rfl
theorem Tx.fd_HeldMeter_released (T : Tx w K mg) : FnP K "released" "HeldMeter.released" s_HeldMeter_released (He.fAd K ("HeldMeter", some "released")) (fdOf K ("HeldMeter", some "released")) := fd_of (T.t.d.def_ 44)
theorem Tx.bd_HeldMeter_released (T : Tx w K mg) : Binds K (fdOfA K (He.fAd K ("HeldMeter", some "released"))) ["self", "key", "moment"] [] := T.fd_HeldMeter_released.bindsN fun _ _ _ _ _ _ us hl => match us, hl with | [_, _, _], _ => rfl
theorem Tx.fd_common_of (T : Tx w K mg) : FnP K "common_of" "common_of" s_common_of (He.fAd K ("common_of", none)) (fdOf K ("common_of", none)) := fd_of (T.t.d.def_ 45)
theorem Tx.bd_common_of (T : Tx w K mg) : Binds K (fdOfA K (He.fAd K ("common_of", none))) ["limit"] [] := T.fd_common_of.bindsN fun _ _ _ _ _ _ us hl => match us, hl with | [_], _ => rfl
theorem Tx.fd_share_for (T : Tx w K mg) : FnP K "share_for" "share_for" s_share_for (He.fAd K ("share_for", none)) (fdOf K ("share_for", none)) := fd_of (T.t.d.def_ 46)
theorem Tx.bd_share_for (T : Tx w K mg) : Binds K (fdOfA K (He.fAd K ("share_for", none))) ["limit", "group"] [] := T.fd_share_for.bindsN fun _ _ _ _ _ _ us hl => match us, hl with | [_, _], _ => rfl
theorem Tx.fd_most_used (T : Tx w K mg) : FnP K "most_used" "most_used" s_most_used (He.fAd K ("most_used", none)) (fdOf K ("most_used", none)) := fd_of (T.t.d.def_ 47)
theorem Tx.bd_most_used (T : Tx w K mg) : Binds K (fdOfA K (He.fAd K ("most_used", none))) ["limit", "group"] [] := T.fd_most_used.bindsN fun _ _ _ _ _ _ us hl => match us, hl with | [_, _], _ => rfl
theorem Tx.fd_PoolMeter_init (T : Tx w K mg) : FnP K "__init__" "PoolMeter.__init__" s_PoolMeter_init (He.fAd K ("PoolMeter", some "__init__")) (fdOf K ("PoolMeter", some "__init__")) := fd_of (T.t.d.def_ 48)
theorem Tx.bd_PoolMeter_init (T : Tx w K mg) : Binds K (fdOfA K (He.fAd K ("PoolMeter", some "__init__"))) ["self", "limit"] [] := T.fd_PoolMeter_init.bindsN fun _ _ _ _ _ _ us hl => match us, hl with | [_, _], _ => rfl
theorem Tx.fd_PoolMeter_borrowed (T : Tx w K mg) : FnP K "borrowed" "PoolMeter.borrowed" s_PoolMeter_borrowed (He.fAd K ("PoolMeter", some "borrowed")) (fdOf K ("PoolMeter", some "borrowed")) := fd_of (T.t.d.def_ 49)
theorem Tx.bd_PoolMeter_borrowed (T : Tx w K mg) : Binds K (fdOfA K (He.fAd K ("PoolMeter", some "borrowed"))) ["self", "group", "more"] [] := T.fd_PoolMeter_borrowed.bindsN fun _ _ _ _ _ _ us hl => match us, hl with | [_, _, _], _ => rfl
theorem Tx.fd_PoolMeter_room (T : Tx w K mg) : FnP K "room" "PoolMeter.room" s_PoolMeter_room (He.fAd K ("PoolMeter", some "room")) (fdOf K ("PoolMeter", some "room")) := fd_of (T.t.d.def_ 50)
theorem Tx.bd_PoolMeter_room (T : Tx w K mg) : Binds K (fdOfA K (He.fAd K ("PoolMeter", some "room"))) ["self", "moment", "group", "cost"] [] := T.fd_PoolMeter_room.bindsN fun _ _ _ _ _ _ us hl => match us, hl with | [_, _, _, _], _ => rfl
theorem Tx.fd_PoolMeter_earliest (T : Tx w K mg) : FnP K "earliest" "PoolMeter.earliest" s_PoolMeter_earliest (He.fAd K ("PoolMeter", some "earliest")) (fdOf K ("PoolMeter", some "earliest")) := fd_of (T.t.d.def_ 51)
theorem Tx.bd_PoolMeter_earliest (T : Tx w K mg) : Binds K (fdOfA K (He.fAd K ("PoolMeter", some "earliest"))) ["self", "moment", "group", "cost"] [] := T.fd_PoolMeter_earliest.bindsN fun _ _ _ _ _ _ us hl => match us, hl with | [_, _, _, _], _ => rfl
theorem Tx.fd_PoolMeter_let (T : Tx w K mg) : FnP K "let" "PoolMeter.let" s_PoolMeter_let (He.fAd K ("PoolMeter", some "let")) (fdOf K ("PoolMeter", some "let")) := fd_of (T.t.d.def_ 52)
theorem Tx.bd_PoolMeter_let (T : Tx w K mg) : Binds K (fdOfA K (He.fAd K ("PoolMeter", some "let"))) ["self", "moment", "group", "cost", "key"] [] := T.fd_PoolMeter_let.bindsN fun _ _ _ _ _ _ us hl => match us, hl with | [_, _, _, _, _], _ => rfl
theorem Tx.fd_PoolMeter_released (T : Tx w K mg) : FnP K "released" "PoolMeter.released" s_PoolMeter_released (He.fAd K ("PoolMeter", some "released")) (fdOf K ("PoolMeter", some "released")) := fd_of (T.t.d.def_ 53)
theorem Tx.bd_PoolMeter_released (T : Tx w K mg) : Binds K (fdOfA K (He.fAd K ("PoolMeter", some "released"))) ["self", "key", "moment"] [] := T.fd_PoolMeter_released.bindsN fun _ _ _ _ _ _ us hl => match us, hl with | [_, _, _], _ => rfl
theorem Tx.fd_meter_for (T : Tx w K mg) : FnP K "meter_for" "meter_for" s_meter_for (He.fAd K ("meter_for", none)) (fdOf K ("meter_for", none)) := fd_of (T.t.d.def_ 54)
theorem Tx.bd_meter_for (T : Tx w K mg) : Binds K (fdOfA K (He.fAd K ("meter_for", none))) ["limit"] [] := T.fd_meter_for.bindsN fun _ _ _ _ _ _ us hl => match us, hl with | [_], _ => rfl
theorem Tx.fd_Answer_init (T : Tx w K mg) : FnP K "__init__" "Answer.__init__" s_Answer_init (He.fAd K ("Answer", some "__init__")) (fdOf K ("Answer", some "__init__")) := fd_of (T.t.d.def_ 55)
theorem Tx.bd_Answer_init (T : Tx w K mg) : Binds K (fdOfA K (He.fAd K ("Answer", some "__init__"))) ["self", "key", "moment", "lacking", "earliest"] [] := T.fd_Answer_init.bindsN fun _ _ _ _ _ _ us hl => match us, hl with | [_, _, _, _, _], _ => rfl
theorem Tx.fd_Keeper_init (T : Tx w K mg) : FnP K "__init__" "Keeper.__init__" s_Keeper_init (He.fAd K ("Keeper", some "__init__")) (fdOf K ("Keeper", some "__init__")) := fd_of (T.t.d.def_ 56)
theorem Tx.bd_Keeper_init (T : Tx w K mg) : Binds K (fdOfA K (He.fAd K ("Keeper", some "__init__"))) ["self", "book"] [] := T.fd_Keeper_init.bindsN fun _ _ _ _ _ _ us hl => match us, hl with | [_, _], _ => rfl
theorem Tx.fd_Keeper_check_next (T : Tx w K mg) : FnP K "_check_next" "Keeper._check_next" s_Keeper_check_next (He.fAd K ("Keeper", some "_check_next")) (fdOf K ("Keeper", some "_check_next")) := fd_of (T.t.d.def_ 57)
theorem Tx.bd_Keeper_check_next (T : Tx w K mg) : Binds K (fdOfA K (He.fAd K ("Keeper", some "_check_next"))) ["self", "moment"] [] := T.fd_Keeper_check_next.bindsN fun _ _ _ _ _ _ us hl => match us, hl with | [_, _], _ => rfl
theorem Tx.fd_Keeper_check_known (T : Tx w K mg) : FnP K "_check_known" "Keeper._check_known" s_Keeper_check_known (He.fAd K ("Keeper", some "_check_known")) (fdOf K ("Keeper", some "_check_known")) := fd_of (T.t.d.def_ 58)
theorem Tx.bd_Keeper_check_known (T : Tx w K mg) : Binds K (fdOfA K (He.fAd K ("Keeper", some "_check_known"))) ["self", "key"] [] := T.fd_Keeper_check_known.bindsN fun _ _ _ _ _ _ us hl => match us, hl with | [_, _], _ => rfl
theorem Tx.fd_Keeper_let (T : Tx w K mg) : FnP K "_let" "Keeper._let" s_Keeper_let (He.fAd K ("Keeper", some "_let")) (fdOf K ("Keeper", some "_let")) := fd_of (T.t.d.def_ 59)
theorem Tx.bd_Keeper_let (T : Tx w K mg) : Binds K (fdOfA K (He.fAd K ("Keeper", some "_let"))) ["self", "key", "group", "cost", "moment"] [] := T.fd_Keeper_let.bindsN fun _ _ _ _ _ _ us hl => match us, hl with | [_, _, _, _, _], _ => rfl
theorem Tx.fd_Keeper_earliest (T : Tx w K mg) : FnP K "_earliest" "Keeper._earliest" s_Keeper_earliest (He.fAd K ("Keeper", some "_earliest")) (fdOf K ("Keeper", some "_earliest")) := fd_of (T.t.d.def_ 60)
theorem Tx.bd_Keeper_earliest (T : Tx w K mg) : Binds K (fdOfA K (He.fAd K ("Keeper", some "_earliest"))) ["self", "group", "cost", "moment"] [] := T.fd_Keeper_earliest.bindsN fun _ _ _ _ _ _ us hl => match us, hl with | [_, _, _, _], _ => rfl
theorem Tx.fd_Keeper_ask (T : Tx w K mg) : FnP K "ask" "Keeper.ask" s_Keeper_ask (He.fAd K ("Keeper", some "ask")) (fdOf K ("Keeper", some "ask")) := fd_of (T.t.d.def_ 61)
theorem Tx.bd_Keeper_ask (T : Tx w K mg) : Binds K (fdOfA K (He.fAd K ("Keeper", some "ask"))) ["self", "request", "moment"] [] := T.fd_Keeper_ask.bindsN fun _ _ _ _ _ _ us hl => match us, hl with | [_, _, _], _ => rfl
theorem Tx.fd_Keeper_release (T : Tx w K mg) : FnP K "release" "Keeper.release" s_Keeper_release (He.fAd K ("Keeper", some "release")) (fdOf K ("Keeper", some "release")) := fd_of (T.t.d.def_ 62)
theorem Tx.bd_Keeper_release (T : Tx w K mg) : Binds K (fdOfA K (He.fAd K ("Keeper", some "release"))) ["self", "key", "moment"] [] := T.fd_Keeper_release.bindsN fun _ _ _ _ _ _ us hl => match us, hl with | [_, _, _], _ => rfl
theorem Tx.fd_Keeper_give_back (T : Tx w K mg) : FnP K "give_back" "Keeper.give_back" s_Keeper_give_back (He.fAd K ("Keeper", some "give_back")) (fdOf K ("Keeper", some "give_back")) := fd_of (T.t.d.def_ 63)
theorem Tx.bd_Keeper_give_back (T : Tx w K mg) : Binds K (fdOfA K (He.fAd K ("Keeper", some "give_back"))) ["self", "key", "moment"] [] := T.fd_Keeper_give_back.bindsN fun _ _ _ _ _ _ us hl => match us, hl with | [_, _, _], _ => rfl
theorem Tx.fd_Keeper_holds (T : Tx w K mg) : FnP K "holds" "Keeper.holds" s_Keeper_holds (He.fAd K ("Keeper", some "holds")) (fdOf K ("Keeper", some "holds")) := fd_of (T.t.d.def_ 64)
theorem Tx.bd_Keeper_holds (T : Tx w K mg) : Binds K (fdOfA K (He.fAd K ("Keeper", some "holds"))) ["self", "key"] [] := T.fd_Keeper_holds.bindsN fun _ _ _ _ _ _ us hl => match us, hl with | [_, _], _ => rfl
theorem Tx.fd_rounded_up (T : Tx w K mg) : FnP K "rounded_up" "rounded_up" s_rounded_up (He.fAd K ("rounded_up", none)) (fdOf K ("rounded_up", none)) := fd_of (T.t.d.def_ 65)
theorem Tx.bd_rounded_up (T : Tx w K mg) : Binds K (fdOfA K (He.fAd K ("rounded_up", none))) ["number", "divisor"] [] := T.fd_rounded_up.bindsN fun _ _ _ _ _ _ us hl => match us, hl with | [_, _], _ => rfl
theorem Tx.fd_lets_nothing (T : Tx w K mg) : FnP K "lets_nothing" "lets_nothing" s_lets_nothing (He.fAd K ("lets_nothing", none)) (fdOf K ("lets_nothing", none)) := fd_of (T.t.d.def_ 66)
theorem Tx.bd_lets_nothing (T : Tx w K mg) : Binds K (fdOfA K (He.fAd K ("lets_nothing", none))) ["limit"] [] := T.fd_lets_nothing.bindsN fun _ _ _ _ _ _ us hl => match us, hl with | [_], _ => rfl
theorem Tx.fd_most_within (T : Tx w K mg) : FnP K "most_within" "most_within" s_most_within (He.fAd K ("most_within", none)) (fdOf K ("most_within", none)) := fd_of (T.t.d.def_ 67)
theorem Tx.bd_most_within (T : Tx w K mg) : Binds K (fdOfA K (He.fAd K ("most_within", none))) ["limit", "moments"] [] := T.fd_most_within.bindsN fun _ _ _ _ _ _ us hl => match us, hl with | [_, _], _ => rfl
theorem Tx.fd_groups_named (T : Tx w K mg) : FnP K "groups_named" "groups_named" s_groups_named (He.fAd K ("groups_named", none)) (fdOf K ("groups_named", none)) := fd_of (T.t.d.def_ 68)
theorem Tx.bd_groups_named (T : Tx w K mg) : Binds K (fdOfA K (He.fAd K ("groups_named", none))) ["limit"] [] := T.fd_groups_named.bindsN fun _ _ _ _ _ _ us hl => match us, hl with | [_], _ => rfl
theorem Tx.fd_free_group (T : Tx w K mg) : FnP K "free_group" "free_group" s_free_group (He.fAd K ("free_group", none)) (fdOf K ("free_group", none)) := fd_of (T.t.d.def_ 69)
theorem Tx.bd_free_group (T : Tx w K mg) : Binds K (fdOfA K (He.fAd K ("free_group", none))) ["limit", "other"] [] := T.fd_free_group.bindsN fun _ _ _ _ _ _ us hl => match us, hl with | [_, _], _ => rfl
theorem Tx.fd_least_distance (T : Tx w K mg) : FnP K "least_distance" "least_distance" s_least_distance (He.fAd K ("least_distance", none)) (fdOf K ("least_distance", none)) := fd_of (T.t.d.def_ 70)
theorem Tx.bd_least_distance (T : Tx w K mg) : Binds K (fdOfA K (He.fAd K ("least_distance", none))) ["limit"] [] := T.fd_least_distance.bindsN fun _ _ _ _ _ _ us hl => match us, hl with | [_], _ => rfl
theorem Tx.fd_last_offset (T : Tx w K mg) : FnP K "last_offset" "last_offset" s_last_offset (He.fAd K ("last_offset", none)) (fdOf K ("last_offset", none)) := fd_of (T.t.d.def_ 71)
theorem Tx.bd_last_offset (T : Tx w K mg) : Binds K (fdOfA K (He.fAd K ("last_offset", none))) ["limit", "other"] [] := T.fd_last_offset.bindsN fun _ _ _ _ _ _ us hl => match us, hl with | [_, _], _ => rfl
theorem Tx.fd_most_in_span (T : Tx w K mg) : FnP K "most_in_span" "most_in_span" s_most_in_span (He.fAd K ("most_in_span", none)) (fdOf K ("most_in_span", none)) := fd_of (T.t.d.def_ 72)
theorem Tx.bd_most_in_span (T : Tx w K mg) : Binds K (fdOfA K (He.fAd K ("most_in_span", none))) ["limit", "other"] [] := T.fd_most_in_span.bindsN fun _ _ _ _ _ _ us hl => match us, hl with | [_, _], _ => rfl
theorem Tx.fd_is_below_bucket (T : Tx w K mg) : FnP K "is_below_bucket" "is_below_bucket" s_is_below_bucket (He.fAd K ("is_below_bucket", none)) (fdOf K ("is_below_bucket", none)) := fd_of (T.t.d.def_ 73)
theorem Tx.bd_is_below_bucket (T : Tx w K mg) : Binds K (fdOfA K (He.fAd K ("is_below_bucket", none))) ["limit", "other"] [] := T.fd_is_below_bucket.bindsN fun _ _ _ _ _ _ us hl => match us, hl with | [_, _], _ => rfl
theorem Tx.fd_is_idle_beside_flow (T : Tx w K mg) : FnP K "is_idle_beside_flow" "is_idle_beside_flow" s_is_idle_beside_flow (He.fAd K ("is_idle_beside_flow", none)) (fdOf K ("is_idle_beside_flow", none)) := fd_of (T.t.d.def_ 74)
theorem Tx.bd_is_idle_beside_flow (T : Tx w K mg) : Binds K (fdOfA K (He.fAd K ("is_idle_beside_flow", none))) ["limit", "other"] [] := T.fd_is_idle_beside_flow.bindsN fun _ _ _ _ _ _ us hl => match us, hl with | [_, _], _ => rfl
theorem Tx.fd_filled (T : Tx w K mg) : FnP K "filled" "filled" s_filled (He.fAd K ("filled", none)) (fdOf K ("filled", none)) := fd_of (T.t.d.def_ 75)
theorem Tx.bd_filled (T : Tx w K mg) : Binds K (fdOfA K (He.fAd K ("filled", none))) ["limit", "names"] [] := T.fd_filled.bindsN fun _ _ _ _ _ _ us hl => match us, hl with | [_, _], _ => rfl
theorem Tx.fd_all_choices (T : Tx w K mg) : FnP K "all_choices" "all_choices" s_all_choices (He.fAd K ("all_choices", none)) (fdOf K ("all_choices", none)) := fd_of (T.t.d.def_ 76)
theorem Tx.bd_all_choices (T : Tx w K mg) : Binds K (fdOfA K (He.fAd K ("all_choices", none))) ["names"] [] := T.fd_all_choices.bindsN fun _ _ _ _ _ _ us hl => match us, hl with | [_], _ => rfl
theorem Tx.fd_most_borrowed (T : Tx w K mg) : FnP K "most_borrowed" "most_borrowed" s_most_borrowed (He.fAd K ("most_borrowed", none)) (fdOf K ("most_borrowed", none)) := fd_of (T.t.d.def_ 77)
theorem Tx.bd_most_borrowed (T : Tx w K mg) : Binds K (fdOfA K (He.fAd K ("most_borrowed", none))) ["limit", "other"] [] := T.fd_most_borrowed.bindsN fun _ _ _ _ _ _ us hl => match us, hl with | [_, _], _ => rfl
theorem Tx.fd_uses_beyond (T : Tx w K mg) : FnP K "uses_beyond" "uses_beyond" s_uses_beyond (He.fAd K ("uses_beyond", none)) (fdOf K ("uses_beyond", none)) := fd_of (T.t.d.def_ 78)
theorem Tx.bd_uses_beyond (T : Tx w K mg) : Binds K (fdOfA K (He.fAd K ("uses_beyond", none))) ["limit", "other"] [] := T.fd_uses_beyond.bindsN fun _ _ _ _ _ _ us hl => match us, hl with | [_, _], _ => rfl
theorem Tx.fd_held_cost (T : Tx w K mg) : FnP K "held_cost" "held_cost" s_held_cost (He.fAd K ("held_cost", none)) (fdOf K ("held_cost", none)) := fd_of (T.t.d.def_ 79)
theorem Tx.bd_held_cost (T : Tx w K mg) : Binds K (fdOfA K (He.fAd K ("held_cost", none))) ["other", "group"] [] := T.fd_held_cost.bindsN fun _ _ _ _ _ _ us hl => match us, hl with | [_, _], _ => rfl
theorem Tx.fd_asked_group (T : Tx w K mg) : FnP K "asked_group" "asked_group" s_asked_group (He.fAd K ("asked_group", none)) (fdOf K ("asked_group", none)) := fd_of (T.t.d.def_ 80)
theorem Tx.bd_asked_group (T : Tx w K mg) : Binds K (fdOfA K (He.fAd K ("asked_group", none))) ["limit", "other"] [] := T.fd_asked_group.bindsN fun _ _ _ _ _ _ us hl => match us, hl with | [_, _], _ => rfl
theorem Tx.fd_idle_beside (T : Tx w K mg) : FnP K "idle_beside" "idle_beside" s_idle_beside (He.fAd K ("idle_beside", none)) (fdOf K ("idle_beside", none)) := fd_of (T.t.d.def_ 81)
theorem Tx.bd_idle_beside (T : Tx w K mg) : Binds K (fdOfA K (He.fAd K ("idle_beside", none))) ["limit", "other"] [] := T.fd_idle_beside.bindsN fun _ _ _ _ _ _ us hl => match us, hl with | [_, _], _ => rfl
theorem Tx.fd_law_row (T : Tx w K mg) : FnP K "_law_row" "_law_row" s_law_row (He.fAd K ("_law_row", none)) (fdOf K ("_law_row", none)) := fd_of (T.t.d.def_ 82)
theorem Tx.bd_law_row (T : Tx w K mg) : Binds K (fdOfA K (He.fAd K ("_law_row", none))) ["_law_cell", "_law_many"] [] := T.fd_law_row.bindsN fun _ _ _ _ _ _ us hl => match us, hl with | [_, _], _ => rfl
theorem Tx.fd_law_numbers (T : Tx w K mg) : FnP K "_law_numbers" "_law_numbers" s_law_numbers (He.fAd K ("_law_numbers", none)) (fdOf K ("_law_numbers", none)) := fd_of (T.t.d.def_ 83)
theorem Tx.bd_law_numbers (T : Tx w K mg) : Binds K (fdOfA K (He.fAd K ("_law_numbers", none))) ["_law_script", "_law_many"] [] := T.fd_law_numbers.bindsN fun _ _ _ _ _ _ us hl => match us, hl with | [_, _], _ => rfl
theorem Tx.fd_law_groups (T : Tx w K mg) : FnP K "_law_groups" "_law_groups" s_law_groups (He.fAd K ("_law_groups", none)) (fdOf K ("_law_groups", none)) := fd_of (T.t.d.def_ 84)
theorem Tx.bd_law_groups (T : Tx w K mg) : Binds K (fdOfA K (He.fAd K ("_law_groups", none))) ["_law_number"] [] := T.fd_law_groups.bindsN fun _ _ _ _ _ _ us hl => match us, hl with | [_], _ => rfl
theorem Tx.fd_law_pool (T : Tx w K mg) : FnP K "_law_pool" "_law_pool" s_law_pool (He.fAd K ("_law_pool", none)) (fdOf K ("_law_pool", none)) := fd_of (T.t.d.def_ 85)
theorem Tx.bd_law_pool (T : Tx w K mg) : Binds K (fdOfA K (He.fAd K ("_law_pool", none))) ["_law_numbers_here", "_law_at"] [] := T.fd_law_pool.bindsN fun _ _ _ _ _ _ us hl => match us, hl with | [_, _], _ => rfl
theorem Tx.fd_law_limit (T : Tx w K mg) : FnP K "_law_limit" "_law_limit" s_law_limit (He.fAd K ("_law_limit", none)) (fdOf K ("_law_limit", none)) := fd_of (T.t.d.def_ 86)
theorem Tx.bd_law_limit (T : Tx w K mg) : Binds K (fdOfA K (He.fAd K ("_law_limit", none))) ["_law_numbers_here", "_law_at", "_law_word"] [] := T.fd_law_limit.bindsN fun _ _ _ _ _ _ us hl => match us, hl with | [_, _, _], _ => rfl
theorem Tx.fd_law_request (T : Tx w K mg) : FnP K "_law_request" "_law_request" s_law_request (He.fAd K ("_law_request", none)) (fdOf K ("_law_request", none)) := fd_of (T.t.d.def_ 87)
theorem Tx.bd_law_request (T : Tx w K mg) : Binds K (fdOfA K (He.fAd K ("_law_request", none))) ["_law_numbers_here", "_law_at", "_law_limit_here", "_law_moment"] [] := T.fd_law_request.bindsN fun _ _ _ _ _ _ us hl => match us, hl with | [_, _, _, _], _ => rfl
theorem Tx.fd_law_looser (T : Tx w K mg) : FnP K "_law_looser" "_law_looser" s_law_looser (He.fAd K ("_law_looser", none)) (fdOf K ("_law_looser", none)) := fd_of (T.t.d.def_ 88)
theorem Tx.bd_law_looser (T : Tx w K mg) : Binds K (fdOfA K (He.fAd K ("_law_looser", none))) ["_law_limit_here", "_law_number"] [] := T.fd_law_looser.bindsN fun _ _ _ _ _ _ us hl => match us, hl with | [_, _], _ => rfl
theorem Tx.fd_law_limits (T : Tx w K mg) : FnP K "_law_limits" "_law_limits" s_law_limits (He.fAd K ("_law_limits", none)) (fdOf K ("_law_limits", none)) := fd_of (T.t.d.def_ 89)
theorem Tx.bd_law_limits (T : Tx w K mg) : Binds K (fdOfA K (He.fAd K ("_law_limits", none))) ["_law_numbers_here"] [] := T.fd_law_limits.bindsN fun _ _ _ _ _ _ us hl => match us, hl with | [_], _ => rfl
theorem Tx.fd_law_idle_pair (T : Tx w K mg) : FnP K "_law_idle_pair" "_law_idle_pair" s_law_idle_pair (He.fAd K ("_law_idle_pair", none)) (fdOf K ("_law_idle_pair", none)) := fd_of (T.t.d.def_ 90)
theorem Tx.bd_law_idle_pair (T : Tx w K mg) : Binds K (fdOfA K (He.fAd K ("_law_idle_pair", none))) ["_law_limits_here", "_law_number"] [] := T.fd_law_idle_pair.bindsN fun _ _ _ _ _ _ us hl => match us, hl with | [_, _], _ => rfl
theorem Tx.fd_law (T : Tx w K mg) : FnP K "law" "law" s_law (He.fAd K ("law", none)) (fdOf K ("law", none)) := fd_of (T.t.d.def_ 91)
theorem Tx.bd_law (T : Tx w K mg) : Binds K (fdOfA K (He.fAd K ("law", none))) ["_law_script"] [] := T.fd_law.bindsN fun _ _ _ _ _ _ us hl => match us, hl with | [_], _ => rfl
theorem Tx.g_is_name (T : Tx w K mg) : mg "is_name" = some (.ref (He.fAd K ("is_name", none))) := T.glo 0
theorem Tx.g_is_key (T : Tx w K mg) : mg "is_key" = some (.ref (He.fAd K ("is_key", none))) := T.glo 1
theorem Tx.g_check_request (T : Tx w K mg) : mg "check_request" = some (.ref (He.fAd K ("check_request", none))) := T.glo 2
theorem Tx.g_check_moment (T : Tx w K mg) : mg "check_moment" = some (.ref (He.fAd K ("check_moment", none))) := T.glo 3
theorem Tx.g_ascends (T : Tx w K mg) : mg "ascends" = some (.ref (He.fAd K ("ascends", none))) := T.glo 4
theorem Tx.g_check_names (T : Tx w K mg) : mg "check_names" = some (.ref (He.fAd K ("check_names", none))) := T.glo 5
theorem Tx.g_are_shares (T : Tx w K mg) : mg "are_shares" = some (.ref (He.fAd K ("are_shares", none))) := T.glo 6
theorem Tx.g_has_form (T : Tx w K mg) : mg "has_form" = some (.ref (He.fAd K ("has_form", none))) := T.glo 7
theorem Tx.g_check_pool (T : Tx w K mg) : mg "check_pool" = some (.ref (He.fAd K ("check_pool", none))) := T.glo 8
theorem Tx.g_check_numbers (T : Tx w K mg) : mg "check_numbers" = some (.ref (He.fAd K ("check_numbers", none))) := T.glo 9
theorem Tx.g_check_limit (T : Tx w K mg) : mg "check_limit" = some (.ref (He.fAd K ("check_limit", none))) := T.glo 10
theorem Tx.g_looks_at (T : Tx w K mg) : mg "looks_at" = some (.ref (He.fAd K ("looks_at", none))) := T.glo 11
theorem Tx.g_Book (T : Tx w K mg) : mg "Book" = some (.ref (He.ga K "Book")) := T.glo 12
theorem Tx.g_first_of (T : Tx w K mg) : mg "first_of" = some (.ref (He.fAd K ("first_of", none))) := T.glo 13
theorem Tx.g_WindowMeter (T : Tx w K mg) : mg "WindowMeter" = some (.ref (He.ga K "WindowMeter")) := T.glo 14
theorem Tx.g_SpanMeter (T : Tx w K mg) : mg "SpanMeter" = some (.ref (He.ga K "SpanMeter")) := T.glo 15
theorem Tx.g_BucketMeter (T : Tx w K mg) : mg "BucketMeter" = some (.ref (He.ga K "BucketMeter")) := T.glo 16
theorem Tx.g_GapMeter (T : Tx w K mg) : mg "GapMeter" = some (.ref (He.ga K "GapMeter")) := T.glo 17
theorem Tx.g_HeldMeter (T : Tx w K mg) : mg "HeldMeter" = some (.ref (He.ga K "HeldMeter")) := T.glo 18
theorem Tx.g_common_of (T : Tx w K mg) : mg "common_of" = some (.ref (He.fAd K ("common_of", none))) := T.glo 19
theorem Tx.g_share_for (T : Tx w K mg) : mg "share_for" = some (.ref (He.fAd K ("share_for", none))) := T.glo 20
theorem Tx.g_most_used (T : Tx w K mg) : mg "most_used" = some (.ref (He.fAd K ("most_used", none))) := T.glo 21
theorem Tx.g_PoolMeter (T : Tx w K mg) : mg "PoolMeter" = some (.ref (He.ga K "PoolMeter")) := T.glo 22
theorem Tx.g_meter_for (T : Tx w K mg) : mg "meter_for" = some (.ref (He.fAd K ("meter_for", none))) := T.glo 23
theorem Tx.g_Answer (T : Tx w K mg) : mg "Answer" = some (.ref (He.ga K "Answer")) := T.glo 24
theorem Tx.g_Keeper (T : Tx w K mg) : mg "Keeper" = some (.ref (He.ga K "Keeper")) := T.glo 25
theorem Tx.g_rounded_up (T : Tx w K mg) : mg "rounded_up" = some (.ref (He.fAd K ("rounded_up", none))) := T.glo 26
theorem Tx.g_lets_nothing (T : Tx w K mg) : mg "lets_nothing" = some (.ref (He.fAd K ("lets_nothing", none))) := T.glo 27
theorem Tx.g_most_within (T : Tx w K mg) : mg "most_within" = some (.ref (He.fAd K ("most_within", none))) := T.glo 28
theorem Tx.g_groups_named (T : Tx w K mg) : mg "groups_named" = some (.ref (He.fAd K ("groups_named", none))) := T.glo 29
theorem Tx.g_free_group (T : Tx w K mg) : mg "free_group" = some (.ref (He.fAd K ("free_group", none))) := T.glo 30
theorem Tx.g_least_distance (T : Tx w K mg) : mg "least_distance" = some (.ref (He.fAd K ("least_distance", none))) := T.glo 31
theorem Tx.g_last_offset (T : Tx w K mg) : mg "last_offset" = some (.ref (He.fAd K ("last_offset", none))) := T.glo 32
theorem Tx.g_most_in_span (T : Tx w K mg) : mg "most_in_span" = some (.ref (He.fAd K ("most_in_span", none))) := T.glo 33
theorem Tx.g_is_below_bucket (T : Tx w K mg) : mg "is_below_bucket" = some (.ref (He.fAd K ("is_below_bucket", none))) := T.glo 34
theorem Tx.g_is_idle_beside_flow (T : Tx w K mg) : mg "is_idle_beside_flow" = some (.ref (He.fAd K ("is_idle_beside_flow", none))) := T.glo 35
theorem Tx.g_filled (T : Tx w K mg) : mg "filled" = some (.ref (He.fAd K ("filled", none))) := T.glo 36
theorem Tx.g_all_choices (T : Tx w K mg) : mg "all_choices" = some (.ref (He.fAd K ("all_choices", none))) := T.glo 37
theorem Tx.g_most_borrowed (T : Tx w K mg) : mg "most_borrowed" = some (.ref (He.fAd K ("most_borrowed", none))) := T.glo 38
theorem Tx.g_uses_beyond (T : Tx w K mg) : mg "uses_beyond" = some (.ref (He.fAd K ("uses_beyond", none))) := T.glo 39
theorem Tx.g_held_cost (T : Tx w K mg) : mg "held_cost" = some (.ref (He.fAd K ("held_cost", none))) := T.glo 40
theorem Tx.g_asked_group (T : Tx w K mg) : mg "asked_group" = some (.ref (He.fAd K ("asked_group", none))) := T.glo 41
theorem Tx.g_idle_beside (T : Tx w K mg) : mg "idle_beside" = some (.ref (He.fAd K ("idle_beside", none))) := T.glo 42
theorem Tx.g_law_row (T : Tx w K mg) : mg "_law_row" = some (.ref (He.fAd K ("_law_row", none))) := T.glo 43
theorem Tx.g_law_numbers (T : Tx w K mg) : mg "_law_numbers" = some (.ref (He.fAd K ("_law_numbers", none))) := T.glo 44
theorem Tx.g_law_groups (T : Tx w K mg) : mg "_law_groups" = some (.ref (He.fAd K ("_law_groups", none))) := T.glo 45
theorem Tx.g_law_pool (T : Tx w K mg) : mg "_law_pool" = some (.ref (He.fAd K ("_law_pool", none))) := T.glo 46
theorem Tx.g_law_limit (T : Tx w K mg) : mg "_law_limit" = some (.ref (He.fAd K ("_law_limit", none))) := T.glo 47
theorem Tx.g_law_request (T : Tx w K mg) : mg "_law_request" = some (.ref (He.fAd K ("_law_request", none))) := T.glo 48
theorem Tx.g_law_looser (T : Tx w K mg) : mg "_law_looser" = some (.ref (He.fAd K ("_law_looser", none))) := T.glo 49
theorem Tx.g_law_limits (T : Tx w K mg) : mg "_law_limits" = some (.ref (He.fAd K ("_law_limits", none))) := T.glo 50
theorem Tx.g_law_idle_pair (T : Tx w K mg) : mg "_law_idle_pair" = some (.ref (He.fAd K ("_law_idle_pair", none))) := T.glo 51
theorem Tx.g_law (T : Tx w K mg) : mg "law" = some (.ref (He.fAd K ("law", none))) := T.glo 52
theorem Tx.f_abs (T : Tx w K mg) : mg "abs" = none := T.free 53
theorem Tx.f_all (T : Tx w K mg) : mg "all" = none := T.free 54
theorem Tx.f_int (T : Tx w K mg) : mg "int" = none := T.free 55
theorem Tx.f_isinstance (T : Tx w K mg) : mg "isinstance" = none := T.free 56
theorem Tx.f_len (T : Tx w K mg) : mg "len" = none := T.free 57
theorem Tx.f_list (T : Tx w K mg) : mg "list" = none := T.free 58
theorem Tx.f_max (T : Tx w K mg) : mg "max" = none := T.free 59
theorem Tx.f_min (T : Tx w K mg) : mg "min" = none := T.free 60
theorem Tx.f_range (T : Tx w K mg) : mg "range" = none := T.free 61
theorem Tx.f_set (T : Tx w K mg) : mg "set" = none := T.free 62
theorem Tx.f_sorted (T : Tx w K mg) : mg "sorted" = none := T.free 63
theorem Tx.f_str (T : Tx w K mg) : mg "str" = none := T.free 64
theorem Tx.f_sum (T : Tx w K mg) : mg "sum" = none := T.free 65
theorem Tx.f_tuple (T : Tx w K mg) : mg "tuple" = none := T.free 66
theorem Tx.f_zip (T : Tx w K mg) : mg "zip" = none := T.free 67
theorem Tx.i_MOST_MOMENT (T : Tx w K mg) : mg "MOST_MOMENT" = some (.int 1000000000 (Classical.choose (T.int 68 (x := "MOST_MOMENT") (n := 1000000000)))) := Classical.choose_spec (T.int 68 (x := "MOST_MOMENT") (n := 1000000000))
theorem Tx.i_MOST_NUMBER (T : Tx w K mg) : mg "MOST_NUMBER" = some (.int 1000000 (Classical.choose (T.int 69 (x := "MOST_NUMBER") (n := 1000000)))) := Classical.choose_spec (T.int 69 (x := "MOST_NUMBER") (n := 1000000))
theorem Tx.i_MOST_KEYS (T : Tx w K mg) : mg "MOST_KEYS" = some (.int 2000 (Classical.choose (T.int 70 (x := "MOST_KEYS") (n := 2000)))) := Classical.choose_spec (T.int 70 (x := "MOST_KEYS") (n := 2000))
theorem Tx.i_MOST_COST (T : Tx w K mg) : mg "MOST_COST" = some (.int 1000 (Classical.choose (T.int 71 (x := "MOST_COST") (n := 1000)))) := Classical.choose_spec (T.int 71 (x := "MOST_COST") (n := 1000))
theorem Tx.s_LETTERS (T : Tx w K mg) : mg "LETTERS" = some (.str "abcdefghijklmnopqrstuvwxyz0123456789" (Classical.choose (T.str 72 (x := "LETTERS") (z := "abcdefghijklmnopqrstuvwxyz0123456789")))) := Classical.choose_spec (T.str 72 (x := "LETTERS") (z := "abcdefghijklmnopqrstuvwxyz0123456789"))
theorem Tx.cl_Book (T : Tx w K mg) : Cls K (He.ga K "Book") := He.cls_ok (T.fact 73 (f := .cls "Book"))
theorem Tx.mk_Book (T : Tx w K mg) : Mk K (He.ga K "Book") (He.fAd K ("Book", some "__init__")) := He.mkr_ok (T.fact 74 (f := .mkr "Book"))
theorem Tx.no_Book__limits (T : Tx w K mg) : NoAttr K (He.ga K "Book") "_limits" := He.noat_ok (T.fact 75 (f := .noat "Book" "_limits"))
theorem Tx.me_Book_limit_named (T : Tx w K mg) : Meth K (He.ga K "Book") "limit_named" (He.fAd K ("Book", some "limit_named")) := He.meth_ok (T.fact 76 (f := .meth "Book" "limit_named"))
theorem Tx.me_Book_without_limit (T : Tx w K mg) : Meth K (He.ga K "Book") "without_limit" (He.fAd K ("Book", some "without_limit")) := He.meth_ok (T.fact 77 (f := .meth "Book" "without_limit"))
theorem Tx.cl_WindowMeter (T : Tx w K mg) : Cls K (He.ga K "WindowMeter") := He.cls_ok (T.fact 78 (f := .cls "WindowMeter"))
theorem Tx.mk_WindowMeter (T : Tx w K mg) : Mk K (He.ga K "WindowMeter") (He.fAd K ("WindowMeter", some "__init__")) := He.mkr_ok (T.fact 79 (f := .mkr "WindowMeter"))
theorem Tx.no_WindowMeter__length (T : Tx w K mg) : NoAttr K (He.ga K "WindowMeter") "_length" := He.noat_ok (T.fact 80 (f := .noat "WindowMeter" "_length"))
theorem Tx.no_WindowMeter__most (T : Tx w K mg) : NoAttr K (He.ga K "WindowMeter") "_most" := He.noat_ok (T.fact 81 (f := .noat "WindowMeter" "_most"))
theorem Tx.no_WindowMeter__sums (T : Tx w K mg) : NoAttr K (He.ga K "WindowMeter") "_sums" := He.noat_ok (T.fact 82 (f := .noat "WindowMeter" "_sums"))
theorem Tx.no_WindowMeter_limit (T : Tx w K mg) : NoAttr K (He.ga K "WindowMeter") "limit" := He.noat_ok (T.fact 83 (f := .noat "WindowMeter" "limit"))
theorem Tx.me_WindowMeter_sums_since (T : Tx w K mg) : Meth K (He.ga K "WindowMeter") "sums_since" (He.fAd K ("WindowMeter", some "sums_since")) := He.meth_ok (T.fact 84 (f := .meth "WindowMeter" "sums_since"))
theorem Tx.me_WindowMeter_room (T : Tx w K mg) : Meth K (He.ga K "WindowMeter") "room" (He.fAd K ("WindowMeter", some "room")) := He.meth_ok (T.fact 85 (f := .meth "WindowMeter" "room"))
theorem Tx.me_WindowMeter_earliest (T : Tx w K mg) : Meth K (He.ga K "WindowMeter") "earliest" (He.fAd K ("WindowMeter", some "earliest")) := He.meth_ok (T.fact 86 (f := .meth "WindowMeter" "earliest"))
theorem Tx.me_WindowMeter_let (T : Tx w K mg) : Meth K (He.ga K "WindowMeter") "let" (He.fAd K ("WindowMeter", some "let")) := He.meth_ok (T.fact 87 (f := .meth "WindowMeter" "let"))
theorem Tx.me_WindowMeter_released (T : Tx w K mg) : Meth K (He.ga K "WindowMeter") "released" (He.fAd K ("WindowMeter", some "released")) := He.meth_ok (T.fact 88 (f := .meth "WindowMeter" "released"))
theorem Tx.cl_SpanMeter (T : Tx w K mg) : Cls K (He.ga K "SpanMeter") := He.cls_ok (T.fact 89 (f := .cls "SpanMeter"))
theorem Tx.mk_SpanMeter (T : Tx w K mg) : Mk K (He.ga K "SpanMeter") (He.fAd K ("SpanMeter", some "__init__")) := He.mkr_ok (T.fact 90 (f := .mkr "SpanMeter"))
theorem Tx.no_SpanMeter__length (T : Tx w K mg) : NoAttr K (He.ga K "SpanMeter") "_length" := He.noat_ok (T.fact 91 (f := .noat "SpanMeter" "_length"))
theorem Tx.no_SpanMeter__most (T : Tx w K mg) : NoAttr K (He.ga K "SpanMeter") "_most" := He.noat_ok (T.fact 92 (f := .noat "SpanMeter" "_most"))
theorem Tx.no_SpanMeter__span (T : Tx w K mg) : NoAttr K (He.ga K "SpanMeter") "_span" := He.noat_ok (T.fact 93 (f := .noat "SpanMeter" "_span"))
theorem Tx.no_SpanMeter__used (T : Tx w K mg) : NoAttr K (He.ga K "SpanMeter") "_used" := He.noat_ok (T.fact 94 (f := .noat "SpanMeter" "_used"))
theorem Tx.no_SpanMeter_limit (T : Tx w K mg) : NoAttr K (He.ga K "SpanMeter") "limit" := He.noat_ok (T.fact 95 (f := .noat "SpanMeter" "limit"))
theorem Tx.me_SpanMeter_used_in (T : Tx w K mg) : Meth K (He.ga K "SpanMeter") "used_in" (He.fAd K ("SpanMeter", some "used_in")) := He.meth_ok (T.fact 96 (f := .meth "SpanMeter" "used_in"))
theorem Tx.me_SpanMeter_room (T : Tx w K mg) : Meth K (He.ga K "SpanMeter") "room" (He.fAd K ("SpanMeter", some "room")) := He.meth_ok (T.fact 97 (f := .meth "SpanMeter" "room"))
theorem Tx.me_SpanMeter_earliest (T : Tx w K mg) : Meth K (He.ga K "SpanMeter") "earliest" (He.fAd K ("SpanMeter", some "earliest")) := He.meth_ok (T.fact 98 (f := .meth "SpanMeter" "earliest"))
theorem Tx.me_SpanMeter_let (T : Tx w K mg) : Meth K (He.ga K "SpanMeter") "let" (He.fAd K ("SpanMeter", some "let")) := He.meth_ok (T.fact 99 (f := .meth "SpanMeter" "let"))
theorem Tx.me_SpanMeter_released (T : Tx w K mg) : Meth K (He.ga K "SpanMeter") "released" (He.fAd K ("SpanMeter", some "released")) := He.meth_ok (T.fact 100 (f := .meth "SpanMeter" "released"))
theorem Tx.cl_BucketMeter (T : Tx w K mg) : Cls K (He.ga K "BucketMeter") := He.cls_ok (T.fact 101 (f := .cls "BucketMeter"))
theorem Tx.mk_BucketMeter (T : Tx w K mg) : Mk K (He.ga K "BucketMeter") (He.fAd K ("BucketMeter", some "__init__")) := He.mkr_ok (T.fact 102 (f := .mkr "BucketMeter"))
theorem Tx.no_BucketMeter__every (T : Tx w K mg) : NoAttr K (He.ga K "BucketMeter") "_every" := He.noat_ok (T.fact 103 (f := .noat "BucketMeter" "_every"))
theorem Tx.no_BucketMeter__missing (T : Tx w K mg) : NoAttr K (He.ga K "BucketMeter") "_missing" := He.noat_ok (T.fact 104 (f := .noat "BucketMeter" "_missing"))
theorem Tx.no_BucketMeter__moment (T : Tx w K mg) : NoAttr K (He.ga K "BucketMeter") "_moment" := He.noat_ok (T.fact 105 (f := .noat "BucketMeter" "_moment"))
theorem Tx.no_BucketMeter__size (T : Tx w K mg) : NoAttr K (He.ga K "BucketMeter") "_size" := He.noat_ok (T.fact 106 (f := .noat "BucketMeter" "_size"))
theorem Tx.no_BucketMeter_limit (T : Tx w K mg) : NoAttr K (He.ga K "BucketMeter") "limit" := He.noat_ok (T.fact 107 (f := .noat "BucketMeter" "limit"))
theorem Tx.me_BucketMeter_missing_at (T : Tx w K mg) : Meth K (He.ga K "BucketMeter") "missing_at" (He.fAd K ("BucketMeter", some "missing_at")) := He.meth_ok (T.fact 108 (f := .meth "BucketMeter" "missing_at"))
theorem Tx.me_BucketMeter_too_much (T : Tx w K mg) : Meth K (He.ga K "BucketMeter") "too_much" (He.fAd K ("BucketMeter", some "too_much")) := He.meth_ok (T.fact 109 (f := .meth "BucketMeter" "too_much"))
theorem Tx.me_BucketMeter_room (T : Tx w K mg) : Meth K (He.ga K "BucketMeter") "room" (He.fAd K ("BucketMeter", some "room")) := He.meth_ok (T.fact 110 (f := .meth "BucketMeter" "room"))
theorem Tx.me_BucketMeter_earliest (T : Tx w K mg) : Meth K (He.ga K "BucketMeter") "earliest" (He.fAd K ("BucketMeter", some "earliest")) := He.meth_ok (T.fact 111 (f := .meth "BucketMeter" "earliest"))
theorem Tx.me_BucketMeter_let (T : Tx w K mg) : Meth K (He.ga K "BucketMeter") "let" (He.fAd K ("BucketMeter", some "let")) := He.meth_ok (T.fact 112 (f := .meth "BucketMeter" "let"))
theorem Tx.me_BucketMeter_released (T : Tx w K mg) : Meth K (He.ga K "BucketMeter") "released" (He.fAd K ("BucketMeter", some "released")) := He.meth_ok (T.fact 113 (f := .meth "BucketMeter" "released"))
theorem Tx.cl_GapMeter (T : Tx w K mg) : Cls K (He.ga K "GapMeter") := He.cls_ok (T.fact 114 (f := .cls "GapMeter"))
theorem Tx.mk_GapMeter (T : Tx w K mg) : Mk K (He.ga K "GapMeter") (He.fAd K ("GapMeter", some "__init__")) := He.mkr_ok (T.fact 115 (f := .mkr "GapMeter"))
theorem Tx.no_GapMeter__last (T : Tx w K mg) : NoAttr K (He.ga K "GapMeter") "_last" := He.noat_ok (T.fact 116 (f := .noat "GapMeter" "_last"))
theorem Tx.no_GapMeter__ticks (T : Tx w K mg) : NoAttr K (He.ga K "GapMeter") "_ticks" := He.noat_ok (T.fact 117 (f := .noat "GapMeter" "_ticks"))
theorem Tx.no_GapMeter_limit (T : Tx w K mg) : NoAttr K (He.ga K "GapMeter") "limit" := He.noat_ok (T.fact 118 (f := .noat "GapMeter" "limit"))
theorem Tx.me_GapMeter_room (T : Tx w K mg) : Meth K (He.ga K "GapMeter") "room" (He.fAd K ("GapMeter", some "room")) := He.meth_ok (T.fact 119 (f := .meth "GapMeter" "room"))
theorem Tx.me_GapMeter_earliest (T : Tx w K mg) : Meth K (He.ga K "GapMeter") "earliest" (He.fAd K ("GapMeter", some "earliest")) := He.meth_ok (T.fact 120 (f := .meth "GapMeter" "earliest"))
theorem Tx.me_GapMeter_let (T : Tx w K mg) : Meth K (He.ga K "GapMeter") "let" (He.fAd K ("GapMeter", some "let")) := He.meth_ok (T.fact 121 (f := .meth "GapMeter" "let"))
theorem Tx.me_GapMeter_released (T : Tx w K mg) : Meth K (He.ga K "GapMeter") "released" (He.fAd K ("GapMeter", some "released")) := He.meth_ok (T.fact 122 (f := .meth "GapMeter" "released"))
theorem Tx.cl_HeldMeter (T : Tx w K mg) : Cls K (He.ga K "HeldMeter") := He.cls_ok (T.fact 123 (f := .cls "HeldMeter"))
theorem Tx.mk_HeldMeter (T : Tx w K mg) : Mk K (He.ga K "HeldMeter") (He.fAd K ("HeldMeter", some "__init__")) := He.mkr_ok (T.fact 124 (f := .mkr "HeldMeter"))
theorem Tx.no_HeldMeter__costs (T : Tx w K mg) : NoAttr K (He.ga K "HeldMeter") "_costs" := He.noat_ok (T.fact 125 (f := .noat "HeldMeter" "_costs"))
theorem Tx.no_HeldMeter__most (T : Tx w K mg) : NoAttr K (He.ga K "HeldMeter") "_most" := He.noat_ok (T.fact 126 (f := .noat "HeldMeter" "_most"))
theorem Tx.no_HeldMeter__used (T : Tx w K mg) : NoAttr K (He.ga K "HeldMeter") "_used" := He.noat_ok (T.fact 127 (f := .noat "HeldMeter" "_used"))
theorem Tx.no_HeldMeter_limit (T : Tx w K mg) : NoAttr K (He.ga K "HeldMeter") "limit" := He.noat_ok (T.fact 128 (f := .noat "HeldMeter" "limit"))
theorem Tx.me_HeldMeter_room (T : Tx w K mg) : Meth K (He.ga K "HeldMeter") "room" (He.fAd K ("HeldMeter", some "room")) := He.meth_ok (T.fact 129 (f := .meth "HeldMeter" "room"))
theorem Tx.me_HeldMeter_earliest (T : Tx w K mg) : Meth K (He.ga K "HeldMeter") "earliest" (He.fAd K ("HeldMeter", some "earliest")) := He.meth_ok (T.fact 130 (f := .meth "HeldMeter" "earliest"))
theorem Tx.me_HeldMeter_let (T : Tx w K mg) : Meth K (He.ga K "HeldMeter") "let" (He.fAd K ("HeldMeter", some "let")) := He.meth_ok (T.fact 131 (f := .meth "HeldMeter" "let"))
theorem Tx.me_HeldMeter_released (T : Tx w K mg) : Meth K (He.ga K "HeldMeter") "released" (He.fAd K ("HeldMeter", some "released")) := He.meth_ok (T.fact 132 (f := .meth "HeldMeter" "released"))
theorem Tx.cl_PoolMeter (T : Tx w K mg) : Cls K (He.ga K "PoolMeter") := He.cls_ok (T.fact 133 (f := .cls "PoolMeter"))
theorem Tx.mk_PoolMeter (T : Tx w K mg) : Mk K (He.ga K "PoolMeter") (He.fAd K ("PoolMeter", some "__init__")) := He.mkr_ok (T.fact 134 (f := .mkr "PoolMeter"))
theorem Tx.no_PoolMeter__costs (T : Tx w K mg) : NoAttr K (He.ga K "PoolMeter") "_costs" := He.noat_ok (T.fact 135 (f := .noat "PoolMeter" "_costs"))
theorem Tx.no_PoolMeter__uses (T : Tx w K mg) : NoAttr K (He.ga K "PoolMeter") "_uses" := He.noat_ok (T.fact 136 (f := .noat "PoolMeter" "_uses"))
theorem Tx.no_PoolMeter_limit (T : Tx w K mg) : NoAttr K (He.ga K "PoolMeter") "limit" := He.noat_ok (T.fact 137 (f := .noat "PoolMeter" "limit"))
theorem Tx.me_PoolMeter_borrowed (T : Tx w K mg) : Meth K (He.ga K "PoolMeter") "borrowed" (He.fAd K ("PoolMeter", some "borrowed")) := He.meth_ok (T.fact 138 (f := .meth "PoolMeter" "borrowed"))
theorem Tx.me_PoolMeter_room (T : Tx w K mg) : Meth K (He.ga K "PoolMeter") "room" (He.fAd K ("PoolMeter", some "room")) := He.meth_ok (T.fact 139 (f := .meth "PoolMeter" "room"))
theorem Tx.me_PoolMeter_earliest (T : Tx w K mg) : Meth K (He.ga K "PoolMeter") "earliest" (He.fAd K ("PoolMeter", some "earliest")) := He.meth_ok (T.fact 140 (f := .meth "PoolMeter" "earliest"))
theorem Tx.me_PoolMeter_let (T : Tx w K mg) : Meth K (He.ga K "PoolMeter") "let" (He.fAd K ("PoolMeter", some "let")) := He.meth_ok (T.fact 141 (f := .meth "PoolMeter" "let"))
theorem Tx.me_PoolMeter_released (T : Tx w K mg) : Meth K (He.ga K "PoolMeter") "released" (He.fAd K ("PoolMeter", some "released")) := He.meth_ok (T.fact 142 (f := .meth "PoolMeter" "released"))
theorem Tx.cl_Answer (T : Tx w K mg) : Cls K (He.ga K "Answer") := He.cls_ok (T.fact 143 (f := .cls "Answer"))
theorem Tx.mk_Answer (T : Tx w K mg) : Mk K (He.ga K "Answer") (He.fAd K ("Answer", some "__init__")) := He.mkr_ok (T.fact 144 (f := .mkr "Answer"))
theorem Tx.no_Answer_earliest (T : Tx w K mg) : NoAttr K (He.ga K "Answer") "earliest" := He.noat_ok (T.fact 145 (f := .noat "Answer" "earliest"))
theorem Tx.no_Answer_is_let (T : Tx w K mg) : NoAttr K (He.ga K "Answer") "is_let" := He.noat_ok (T.fact 146 (f := .noat "Answer" "is_let"))
theorem Tx.no_Answer_key (T : Tx w K mg) : NoAttr K (He.ga K "Answer") "key" := He.noat_ok (T.fact 147 (f := .noat "Answer" "key"))
theorem Tx.no_Answer_lacking (T : Tx w K mg) : NoAttr K (He.ga K "Answer") "lacking" := He.noat_ok (T.fact 148 (f := .noat "Answer" "lacking"))
theorem Tx.no_Answer_moment (T : Tx w K mg) : NoAttr K (He.ga K "Answer") "moment" := He.noat_ok (T.fact 149 (f := .noat "Answer" "moment"))
theorem Tx.cl_Keeper (T : Tx w K mg) : Cls K (He.ga K "Keeper") := He.cls_ok (T.fact 150 (f := .cls "Keeper"))
theorem Tx.mk_Keeper (T : Tx w K mg) : Mk K (He.ga K "Keeper") (He.fAd K ("Keeper", some "__init__")) := He.mkr_ok (T.fact 151 (f := .mkr "Keeper"))
theorem Tx.no_Keeper__asked (T : Tx w K mg) : NoAttr K (He.ga K "Keeper") "_asked" := He.noat_ok (T.fact 152 (f := .noat "Keeper" "_asked"))
theorem Tx.no_Keeper__meters (T : Tx w K mg) : NoAttr K (He.ga K "Keeper") "_meters" := He.noat_ok (T.fact 153 (f := .noat "Keeper" "_meters"))
theorem Tx.no_Keeper__released (T : Tx w K mg) : NoAttr K (He.ga K "Keeper") "_released" := He.noat_ok (T.fact 154 (f := .noat "Keeper" "_released"))
theorem Tx.no_Keeper_book (T : Tx w K mg) : NoAttr K (He.ga K "Keeper") "book" := He.noat_ok (T.fact 155 (f := .noat "Keeper" "book"))
theorem Tx.no_Keeper_moment (T : Tx w K mg) : NoAttr K (He.ga K "Keeper") "moment" := He.noat_ok (T.fact 156 (f := .noat "Keeper" "moment"))
theorem Tx.me_Keeper_check_next (T : Tx w K mg) : Meth K (He.ga K "Keeper") "_check_next" (He.fAd K ("Keeper", some "_check_next")) := He.meth_ok (T.fact 157 (f := .meth "Keeper" "_check_next"))
theorem Tx.me_Keeper_check_known (T : Tx w K mg) : Meth K (He.ga K "Keeper") "_check_known" (He.fAd K ("Keeper", some "_check_known")) := He.meth_ok (T.fact 158 (f := .meth "Keeper" "_check_known"))
theorem Tx.me_Keeper_let (T : Tx w K mg) : Meth K (He.ga K "Keeper") "_let" (He.fAd K ("Keeper", some "_let")) := He.meth_ok (T.fact 159 (f := .meth "Keeper" "_let"))
theorem Tx.me_Keeper_earliest (T : Tx w K mg) : Meth K (He.ga K "Keeper") "_earliest" (He.fAd K ("Keeper", some "_earliest")) := He.meth_ok (T.fact 160 (f := .meth "Keeper" "_earliest"))
theorem Tx.me_Keeper_ask (T : Tx w K mg) : Meth K (He.ga K "Keeper") "ask" (He.fAd K ("Keeper", some "ask")) := He.meth_ok (T.fact 161 (f := .meth "Keeper" "ask"))
theorem Tx.me_Keeper_release (T : Tx w K mg) : Meth K (He.ga K "Keeper") "release" (He.fAd K ("Keeper", some "release")) := He.meth_ok (T.fact 162 (f := .meth "Keeper" "release"))
theorem Tx.me_Keeper_give_back (T : Tx w K mg) : Meth K (He.ga K "Keeper") "give_back" (He.fAd K ("Keeper", some "give_back")) := He.meth_ok (T.fact 163 (f := .meth "Keeper" "give_back"))
theorem Tx.me_Keeper_holds (T : Tx w K mg) : Meth K (He.ga K "Keeper") "holds" (He.fAd K ("Keeper", some "holds")) := He.meth_ok (T.fact 164 (f := .meth "Keeper" "holds"))
theorem Tx.g_SIZES (T : Tx w K mg) : mg "SIZES" = some (.ref (He.ga K "SIZES")) := T.glo 165
theorem Tx.g_FLOWS (T : Tx w K mg) : mg "FLOWS" = some (.ref (He.ga K "FLOWS")) := T.glo 166
end
abbrev OkD (P : Program) (w : World) (K : PySem.W.Frag) (mg : Str → Option Value) (base : Heap) (p : Str × Option Str) (k : Nat) (ps : List Str) (sp : Sp) : Prop := FnOk P w K mg base CX0 k (He.fAd K p) (fdOf K p) ps sp
end Lw
end
section
set_option maxRecDepth 100000
set_option maxHeartbeats 4000000
namespace Lw
open PySem PySem.Spec PyProof.Rows L2

/-! ### heaps that grow -/
def Ex (H H' : Hp) : Prop := ∀ b u, H b = some u → H' b = some u
section
variable {H H1 H2 H' : Hp} {p a : Addr} {o : HO} {K : PySem.W.Frag} {xs : List V}
theorem Ex.rf : Ex H H := fun _ _ h => h
theorem Ex.tr (e : Ex H H1) (f : Ex H1 H2) : Ex H H2 := fun b u h => f b u (e b u h)
theorem Ex.nw (h : H p = none) : Ex H (upd H p o) := fun b u q => (upd_ne (ne_of_none q h)).trans q
theorem Ex.mt (e : Ex H H') (h : H p = none) : Ex H (upd H' p o) := fun b u q => (upd_ne (ne_of_none q h)).trans (e b u q)
theorem Ex.fr (e : Ex H H') (h : H' p = none) : H p = none := by
  cases q : H p with
  | none => rfl
  | some u =>
    rw [e p u q] at h
    cases h
theorem Ex.l (e : Ex H H') (h : SqL K H a xs) : SqL K H' a xs := Evl.ex_l e h
theorem Ex.t (e : Ex H H') (h : SqT K H a xs) : SqT K H' a xs := Evl.ex_t e h
end

/-! ### rules of our own -/
section
variable {X : Cx} {o e : Expr} {f : Str} {pos pos' : Pos} {ta tb : TE}
/-- one of several readings -/
def tEither (ta tb : TE) : TE := fun σ H Q => ta σ H Q ∨ tb σ H Q
theorem pe_either (h1 : PE X e ta) (h2 : PE X e tb) : PE X e (tEither ta tb) :=
  ⟨fun pins s σ H Q I h => h.elim (fun q => h1.run pins s σ H Q I q) (fun q => h2.run pins s σ H Q I q)⟩
def tSix (t1 t2 t3 t4 t5 t6 : TE) : TE := tEither t1 (tEither t2 (tEither t3 (tEither t4 (tEither t5 t6))))
theorem pe_six {t1 t2 t3 t4 t5 t6 : TE} (h1 : PE X e t1) (h2 : PE X e t2) (h3 : PE X e t3) (h4 : PE X e t4) (h5 : PE X e t5) (h6 : PE X e t6) : PE X e (tSix t1 t2 t3 t4 t5 t6) :=
  pe_either h1 (pe_either h2 (pe_either h3 (pe_either h4 (pe_either h5 h6))))
/-- a target that is a field -/
def gFld (K : PySem.W.Frag) (ta : TE) (f : Str) : TG := fun v σ H Q => ta σ H fun x H1 => ∃ a C dx fs, x = .ref a ∧ H1 a = some (.ins C dx fs) ∧ Cls K C ∧ NoAttr K C f ∧ fs.length < 1000 ∧ Q σ (upd H1 a (.ins C dx (putF f v fs)))
theorem pg_fldA (ho : PE X o ta) (ha : ∀ v, assign (.Attribute o f pos) X.env v = (do
      let ov ← holding [v] (eval o X.env)
      standAt pos.atName
      holding [v, ov] (setAttr ov f v)
      release [v, ov] []) := by intro _; rfl) : PG X (.Attribute o f pos) (gFld X.K ta f) := by
  refine ⟨fun pins s σ H v u Q I r h => ?_⟩
  rw [ha]
  refine wpAny_bind (wpAny_holding (thn (ho.run pins s σ H _ I h) fun ov s1 ⟨x, H1, I1, rx, a, C, dx, fs, ex, ea, c, n, l, q⟩ => ?_))
  subst ex
  obtain rfl : ov = Value.ref a := rx
  refine wpAny_bind (wpAny_standAt (wpAny_bind (wpAny_holding (setattr_ok I1 ea c n l r fun s3 I3 => ?_))))
  exact wpAny_release ⟨σ, _, I3, q⟩
end
theorem mt_dict_pop_line : True := trivial

/-! ### comprehensions whose items are known -/
section
variable {K : PySem.W.Frag} {α : Type}
/-- over a tuple -/
theorem lc_T {a : Addr} {L : List α} {ev : α → V} {p : α → Bool} {f : α → V} {g : TG} {tt : TT} {te : TE} {tl : TE} {vs : List Nat} {σ : L2.St} {H : Hp} {Q : VK}
    (hz : L.length ≤ 100000) (hx : SqT K H a (L.map ev)) (hl : ∀ Q' : VK, Q' (.ref a) H → tl σ H Q')
    (turn : ∀ x ∈ L, ∀ H', Ex H H' → ∀ (Kt : V → Hp → Prop) (Kf : Hp → Prop), (p x = true → ∀ H'', Ex H' H'' → Kt (f x) H'') → (p x = false → ∀ H'', Ex H' H'' → Kf H'') →
      g (ev x) (wipe σ vs) H' fun σ2 H2 => wipe σ2 vs = wipe σ vs ∧ tt σ2 H2 fun b H3 => if b = true then te σ2 H3 Kt else Kf H3)
    (k : ∀ D H', H D = none → Ex H H' → H' D = some (.lst ((L.filter p).map f)) → Q (.ref D) H') : tLc (iTup K tl) g tt te vs σ H Q := by
  refine hl _ ⟨a, rfl, ⟨_, hx⟩, fun D hD => ?_⟩
  refine lc_tup (xs := L.map ev) (fun i H' => Ex H H' ∧ H' D = some (.lst (((L.take i).filter p).map f))) ⟨Ex.nw hD, upd_same⟩ (fun i H' _ e => e.1.t hx) ?_ ?_
  · rintro i v H' hi ⟨e, hd⟩
    rw [List.getElem?_map] at hi
    cases q : L[i]? with
    | none =>
      rw [q] at hi
      cases hi
    | some x =>
      rw [q] at hi
      cases hi
      obtain ⟨hlt, _⟩ := List.getElem?_eq_some_iff.mp q
      have tk : L.take (i + 1) = L.take i ++ [x] := by rw [List.take_add_one, q] <;> rfl
      refine turn x (List.mem_of_getElem? q) H' e _ _ (fun hp H'' e' => ⟨_, e' _ _ hd, ?_, (e.tr e').mt hD, ?_⟩) (fun hp H'' e' => ⟨e.tr e', ?_⟩)
      · have h1 := List.length_filter_le p (L.take i)
        have h2 := List.length_take_le i L
        rw [List.length_map]
        exact Evl.sz_lt (by omega)
      · rw [upd_same, tk, List.filter_append, List.map_append, List.filter_cons, if_pos hp]
        rfl
      · rw [e' _ _ hd, tk, List.filter_append, List.map_append, List.filter_cons, if_neg (by rw [hp]; decide)]
        simp
  · rintro H' ⟨e, hd⟩
    rw [List.length_map, List.take_length] at hd
    exact k D H' hD e hd
/-- over a list -/
theorem lc_L {a : Addr} {L : List α} {ev : α → V} {p : α → Bool} {f : α → V} {g : TG} {tt : TT} {te : TE} {tl : TE} {vs : List Nat} {σ : L2.St} {H : Hp} {Q : VK}
    (hz : L.length ≤ 100000) (hx : SqL K H a (L.map ev)) (hl : ∀ Q' : VK, Q' (.ref a) H → tl σ H Q')
    (turn : ∀ x ∈ L, ∀ H', Ex H H' → ∀ (Kt : V → Hp → Prop) (Kf : Hp → Prop), (p x = true → ∀ H'', Ex H' H'' → Kt (f x) H'') → (p x = false → ∀ H'', Ex H' H'' → Kf H'') →
      g (ev x) (wipe σ vs) H' fun σ2 H2 => wipe σ2 vs = wipe σ vs ∧ tt σ2 H2 fun b H3 => if b = true then te σ2 H3 Kt else Kf H3)
    (k : ∀ D H', H D = none → Ex H H' → H' D = some (.lst ((L.filter p).map f)) → Q (.ref D) H') : tLc (iList K tl) g tt te vs σ H Q := by
  refine hl _ ⟨a, rfl, ⟨_, hx⟩, fun D hD => ?_⟩
  refine lc_list (xs := L.map ev) (fun i H' => Ex H H' ∧ H' D = some (.lst (((L.take i).filter p).map f))) ⟨Ex.nw hD, upd_same⟩ (fun i H' _ e => e.1.l hx) ?_ ?_
  · rintro i v H' hi ⟨e, hd⟩
    rw [List.getElem?_map] at hi
    cases q : L[i]? with
    | none =>
      rw [q] at hi
      cases hi
    | some x =>
      rw [q] at hi
      cases hi
      have tk : L.take (i + 1) = L.take i ++ [x] := by rw [List.take_add_one, q] <;> rfl
      obtain ⟨hlt, _⟩ := List.getElem?_eq_some_iff.mp q
      refine turn x (List.mem_of_getElem? q) H' e _ _ (fun hp H'' e' => ⟨_, e' _ _ hd, ?_, (e.tr e').mt hD, ?_⟩) (fun hp H'' e' => ⟨e.tr e', ?_⟩)
      · have h1 := List.length_filter_le p (L.take i)
        have h2 := List.length_take_le i L
        rw [List.length_map]
        exact Evl.sz_lt (by omega)
      · rw [upd_same, tk, List.filter_append, List.map_append, List.filter_cons, if_pos hp]
        rfl
      · rw [e' _ _ hd, tk, List.filter_append, List.map_append, List.filter_cons, if_neg (by rw [hp]; decide)]
        simp
  · rintro H' ⟨e, hd⟩
    rw [List.length_map, List.take_length] at hd
    exact k D H' hD e hd
end

section
variable {K : PySem.W.Frag} {α : Type}
theorem lc_T1 {a : Addr} {L : List α} {ev : α → V} {f : α → V} {g : TG} {tt : TT} {te : TE} {tl : TE} {vs : List Nat} {σ : L2.St} {H : Hp} {Q : VK}
    (hz : L.length ≤ 100000) (hx : SqT K H a (L.map ev)) (hl : ∀ Q' : VK, Q' (.ref a) H → tl σ H Q')
    (turn : ∀ x ∈ L, ∀ H', Ex H H' → ∀ (Kt : V → Hp → Prop) (Kf : Hp → Prop), (∀ H'', Ex H' H'' → Kt (f x) H'') → g (ev x) (wipe σ vs) H' fun σ2 H2 => wipe σ2 vs = wipe σ vs ∧ tt σ2 H2 fun b H3 => if b = true then te σ2 H3 Kt else Kf H3)
    (k : ∀ D H', H D = none → Ex H H' → H' D = some (.lst (L.map f)) → Q (.ref D) H') : tLc (iTup K tl) g tt te vs σ H Q :=
  lc_T (p := fun _ => true) hz hx hl (fun x hx H' e Kt Kf kt _ => turn x hx H' e Kt Kf (kt rfl)) fun D H' hD e hd => k D H' hD e (by rw [hd, List.filter_eq_self.mpr fun _ _ => rfl])
theorem lc_L1 {a : Addr} {L : List α} {ev : α → V} {f : α → V} {g : TG} {tt : TT} {te : TE} {tl : TE} {vs : List Nat} {σ : L2.St} {H : Hp} {Q : VK}
    (hz : L.length ≤ 100000) (hx : SqL K H a (L.map ev)) (hl : ∀ Q' : VK, Q' (.ref a) H → tl σ H Q')
    (turn : ∀ x ∈ L, ∀ H', Ex H H' → ∀ (Kt : V → Hp → Prop) (Kf : Hp → Prop), (∀ H'', Ex H' H'' → Kt (f x) H'') → g (ev x) (wipe σ vs) H' fun σ2 H2 => wipe σ2 vs = wipe σ vs ∧ tt σ2 H2 fun b H3 => if b = true then te σ2 H3 Kt else Kf H3)
    (k : ∀ D H', H D = none → Ex H H' → H' D = some (.lst (L.map f)) → Q (.ref D) H') : tLc (iList K tl) g tt te vs σ H Q :=
  lc_L (p := fun _ => true) hz hx hl (fun x hx H' e Kt Kf kt _ => turn x hx H' e Kt Kf (kt rfl)) fun D H' hD e hd => k D H' hD e (by rw [hd, List.filter_eq_self.mpr fun _ _ => rfl])
end

theorem lc_R {n : Nat} {f : Nat → V} {g : TG} {tt : TT} {te : TE} {ta : TA} {vs : List Nat} {σ : L2.St} {H : Hp} {Q : VK} (hz : n ≤ 100000) (hl : ∀ QA : List V → Hp → Prop, QA [.int (n : Int)] H → ta σ H QA)
    (turn : ∀ i, i < n → ∀ H', Ex H H' → ∀ (Kt : V → Hp → Prop) (Kf : Hp → Prop), (∀ H'', Ex H' H'' → Kt (f i) H'') → g (.int (i : Int)) (wipe σ vs) H' fun σ2 H2 => wipe σ2 vs = wipe σ vs ∧ tt σ2 H2 fun b H3 => if b = true then te σ2 H3 Kt else Kf H3)
    (k : ∀ D H', H D = none → Ex H H' → H' D = some (.lst ((List.range n).map f)) → Q (.ref D) H') : tLc (iRng1 ta) g tt te vs σ H Q := by
  refine hl _ ⟨(n : Int), rfl, by omega, by omega, fun D hD => ?_⟩
  refine lc_range (lo := 0) (n := (n : Int).toNat) (fun i H' => Ex H H' ∧ H' D = some (.lst ((List.range i).map f))) ⟨Ex.nw hD, upd_same⟩ ?_ ?_
  · rintro i H' hi ⟨e, hd⟩
    rw [Int.zero_add]
    refine turn i (by omega) H' e _ _ (fun H'' e' => ⟨_, e' _ _ hd, ?_, (e.tr e').mt hD, ?_⟩)
    · rw [List.length_map, List.length_range]
      exact Evl.sz_lt (by omega)
    · rw [upd_same, List.range_succ, List.map_append]
      rfl
  · rintro H' ⟨e, hd⟩
    exact k D H' hD e hd
/-! ### loops -/
/-- tuples stay -/
def Tu (H H' : Hp) : Prop := ∀ b o, ((∃ xs, o = .tup xs) ∨ ∃ ob u, o = .frz ob u) → H b = some o → H' b = some o

section
variable {K : PySem.W.Frag} {α : Type}
theorem fo_T {a : Addr} {L : List α} {ev : α → V} {g : TG} {tb : TS} {tl : TE} {D : Ends} {σ : L2.St} {H : Hp} (Pv : Nat → L2.St → Hp → Prop) (hx : SqT K H a (L.map ev)) (hl : ∀ Q' : VK, Q' (.ref a) H → tl σ H Q') (h0 : Pv 0 σ H)
    (hq : ∀ i σ' H', Pv i σ' H' → Tu H H')
    (turn : ∀ i x σ' H', L[i]? = some x → Pv i σ' H' → g (ev x) σ' H' fun σ2 H2 => tb { D with nx := Pv (i + 1), ct := Pv (i + 1), bk := D.nx } σ2 H2)
    (hd : ∀ σ' H', Pv L.length σ' H' → D.nx σ' H') : tFor (iTup K tl) g tb D σ H := by
  have tut : ∀ H', Tu H H' → SqT K H' a (L.map ev) := fun H' e => by
    rcases hx with (h | ⟨o, h⟩) | h
    · exact .inl (.inl (e _ _ (.inl ⟨_, rfl⟩) h))
    · exact .inl (.inr ⟨o, e _ _ (.inr ⟨_, _, rfl⟩) h⟩)
    · exact .inr h
  refine hl _ ⟨a, rfl, ⟨_, hx⟩, for_tup (xs := L.map ev) Pv h0 (fun i σ' H' _ p => tut H' (hq i σ' H' p)) (fun i v σ' H' hi p => ?_) (fun σ' H' p => hd σ' H' (by rwa [List.length_map] at p))⟩
  rw [List.getElem?_map] at hi
  cases q : L[i]? with
  | none =>
    rw [q] at hi
    cases hi
  | some x =>
    rw [q] at hi
    cases hi
    exact turn i x σ' H' q p
theorem fo_L {a : Addr} {L : List α} {ev : α → V} {g : TG} {tb : TS} {tl : TE} {D : Ends} {σ : L2.St} {H : Hp} (Pv : Nat → L2.St → Hp → Prop) (hx : SqL K H a (L.map ev)) (hl : ∀ Q' : VK, Q' (.ref a) H → tl σ H Q') (h0 : Pv 0 σ H)
    (hq : ∀ i σ' H', Pv i σ' H' → SqL K H' a (L.map ev))
    (turn : ∀ i x σ' H', L[i]? = some x → Pv i σ' H' → g (ev x) σ' H' fun σ2 H2 => tb { D with nx := Pv (i + 1), ct := Pv (i + 1), bk := D.nx } σ2 H2)
    (hd : ∀ σ' H', Pv L.length σ' H' → D.nx σ' H') : tFor (iList K tl) g tb D σ H := by
  refine hl _ ⟨a, rfl, ⟨_, hx⟩, for_list (xs := L.map ev) Pv h0 (fun i σ' H' _ p => hq i σ' H' p) (fun i v σ' H' hi p => ?_) (fun σ' H' p => hd σ' H' (by rwa [List.length_map] at p))⟩
  rw [List.getElem?_map] at hi
  cases q : L[i]? with
  | none =>
    rw [q] at hi
    cases hi
  | some x =>
    rw [q] at hi
    cases hi
    exact turn i x σ' H' q p
theorem fo_R {ta : TA} {n : Int} {g : TG} {tb : TS} {D : Ends} {σ : L2.St} {H : Hp} (Pv : Nat → L2.St → Hp → Prop) (hn : 0 ≤ n ∧ n ≤ 100000) (hl : ∀ QA : List V → Hp → Prop, QA [.int n] H → ta σ H QA) (h0 : Pv 0 σ H)
    (turn : ∀ (i : Nat) σ' H', (i : Int) < n → Pv i σ' H' → g (.int (i : Int)) σ' H' fun σ2 H2 => tb { D with nx := Pv (i + 1), ct := Pv (i + 1), bk := D.nx } σ2 H2)
    (hd : ∀ σ' H', Pv n.toNat σ' H' → D.nx σ' H') : tFor (iRng1 ta) g tb D σ H := by
  refine hl _ ⟨n, rfl, by omega, by omega, for_range (lo := 0) (n := n.toNat) Pv h0 (fun i σ' H' hi p => ?_) hd⟩
  have q := turn i σ' H' (by omega) p
  rw [Int.zero_add]
  exact q
end

/-! ### limits -/
abbrev Sh := Str × Int × Int
inductive Rule where
  | window (m l : Int) | span (m l : Int) | bucket (m l : Int) | gap (t : Int) | held (m : Int) | pool (m : Int) (sh : List Sh)
structure Lim where
  name : Str
  groups : List Str
  rule : Rule
def Rule.word : Rule → Str
  | .window _ _ => "window"
  | .span _ _ => "span"
  | .bucket _ _ => "bucket"
  | .gap _ => "gap"
  | .held _ => "held"
  | .pool _ _ => "pool"
abbrev Lim.word (L : Lim) : Str := L.rule.word
/-- a tuple of shares -/
def ShAt (K : PySem.W.Frag) (H : Hp) (p : Addr) (s : Sh) : Prop := SqT K H p [.str s.1, .int s.2.1, .int s.2.2]
def ShsAt (K : PySem.W.Frag) (H : Hp) (a : Addr) (sh : List Sh) : Prop := ∃ ps : List (Addr × Sh), ps.map (·.2) = sh ∧ SqT K H a (ps.map fun p => .ref p.1) ∧ ∀ p ∈ ps, ShAt K H p.1 p.2
def NumAt (K : PySem.W.Frag) (H : Hp) (n : Addr) : Rule → Prop
  | .window m l => SqT K H n [.int m, .int l]
  | .span m l => SqT K H n [.int m, .int l]
  | .bucket m l => SqT K H n [.int m, .int l]
  | .gap t => SqT K H n [.int t]
  | .held m => SqT K H n [.int m]
  | .pool m sh => ∃ s, SqT K H n [.int m, .ref s] ∧ ShsAt K H s sh
def LimAt (K : PySem.W.Frag) (H : Hp) (a : Addr) (L : Lim) : Prop := ∃ g n, SqT K H a [.str L.name, .str L.word, .ref g, .ref n] ∧ SqT K H g (L.groups.map V.str) ∧ NumAt K H n L.rule
section
variable {K : PySem.W.Frag} {H H' H2 : Hp}
theorem Ex.tu (e : Ex H H') : Tu H H' := fun b o _ h => e b o h
theorem Tu.rf : Tu H H := fun _ _ _ h => h
theorem Tu.tr (a : Tu H H') (b : Tu H' H2) : Tu H H2 := fun c o q h => b c o q (a c o q h)
theorem Tu.mt {p : Addr} {o u : HO} (h : H p = some u) (n : ¬ ((∃ xs, u = .tup xs) ∨ ∃ ob v, u = .frz ob v)) : Tu H (upd H p o) := fun b v q e => by
  rw [upd_ne (fun z => ?_)]
  · exact e
  · rw [z, h] at e
    cases e
    exact n q
theorem Tu.t (e : Tu H H') {a : Addr} {xs : List V} (h : SqT K H a xs) : SqT K H' a xs := by
  rcases h with (h | ⟨o, h⟩) | h
  · exact .inl (.inl (e _ _ (.inl ⟨_, rfl⟩) h))
  · exact .inl (.inr ⟨o, e _ _ (.inr ⟨_, _, rfl⟩) h⟩)
  · exact .inr h
theorem Tu.shs (e : Tu H H') {a : Addr} {sh : List Sh} (h : ShsAt K H a sh) : ShsAt K H' a sh := by
  obtain ⟨ps, h1, h2, h3⟩ := h
  exact ⟨ps, h1, e.t h2, fun p hp => e.t (h3 p hp)⟩
theorem Tu.num (e : Tu H H') {n : Addr} : ∀ {r : Rule}, NumAt K H n r → NumAt K H' n r
  | .window _ _, h => e.t h
  | .span _ _, h => e.t h
  | .bucket _ _, h => e.t h
  | .gap _, h => e.t h
  | .held _, h => e.t h
  | .pool _ _, ⟨s, h1, h2⟩ => ⟨s, e.t h1, e.shs h2⟩
theorem Tu.lim (e : Tu H H') {a : Addr} {L : Lim} (h : LimAt K H a L) : LimAt K H' a L := by
  obtain ⟨g, n, h1, h2, h3⟩ := h
  exact ⟨g, n, e.t h1, e.t h2, e.num h3⟩
theorem Ex.lim (e : Ex H H') {a : Addr} {L : Lim} (h : LimAt K H a L) : LimAt K H' a L := e.tu.lim h
theorem Ex.shs (e : Ex H H') {a : Addr} {sh : List Sh} (h : ShsAt K H a sh) : ShsAt K H' a sh := e.tu.shs h
end

/-! ### mirrors: pools -/
def sumOwn (sh : List Sh) : Int := (sh.map fun s => s.2.1).sum
def common (m : Int) (sh : List Sh) : Int := m - sumOwn sh
def shareFor (sh : List Sh) (g : Str) : Int × Int := match sh.find? fun s => decide (s.1 = g) with
  | some s => s.2
  | none => (0, 0)
def mostUsed (m : Int) (sh : List Sh) (g : Str) : Int := min (shareFor sh g).2 ((shareFor sh g).1 + common m sh)
/-- does a limit look at a group -/
def looksB (L : Lim) (g : Str) : Bool := match L.rule with
  | .pool _ sh => sh.any fun s => decide (s.1 = g)
  | _ => L.groups.isEmpty || L.groups.any fun x => decide (x = g)
/-- sizes that fit -/
structure Small (L : Lim) : Prop where
  g : L.groups.length ≤ 8
  s : ∀ m sh, L.rule = .pool m sh → sh.length ≤ 8
theorem if_min (i j : Int) : (if j < i then j else i) = min i j := by
  rw [Int.min_def]
  split <;> split <;> omega
theorem if_max (i j : Int) : (if j > i then j else i) = max i j := by
  rw [Int.max_def]
  split <;> split <;> omega
end Lw
end
section
set_option maxRecDepth 100000
set_option maxHeartbeats 4000000
namespace Lw
open PySem PySem.Spec PyProof.Rows L2
/-! ### one step of a reading at a time -/
section
variable {K : PySem.W.Frag} {σ : L2.St} {H : Hp} {ta tb te tc : TE} {tt uu : TT} {x y z v : V} {D : Ends} {t u : TS} {g : TG} {gs : TGs} {r : R2} {Q : VK} {tr : TA} {sp : Sp} {E : XK} {a p : Addr} {xs : List V} {i : Nat} {R : Bool → Hp → Prop} {S : L2.St → Hp → Prop}
theorem r_yesS {c : Prop} [Decidable c] {A B : Prop} (e : c) (h : A) : if decide c = true then A else B := by
  rw [decide_eq_true e]
  exact iteT h
theorem r_noS {c : Prop} [Decidable c] {A B : Prop} (e : ¬ c) (h : B) : if decide c = true then A else B := by
  rw [decide_eq_false e]
  exact iteF h
theorem r_nyesS {c : Prop} [Decidable c] {A B : Prop} (e : ¬ c) (h : A) : if (!decide c) = true then A else B := by
  rw [decide_eq_false e]
  exact iteT h
theorem r_nnoS {c : Prop} [Decidable c] {A B : Prop} (e : c) (h : B) : if (!decide c) = true then A else B := by
  rw [decide_eq_true e]
  exact iteF h
theorem r_seq (h : t { D with nx := u D } σ H) : tSeq t u D σ H := h
theorem r_asg (h : te σ H fun x H1 => g x σ H1 D.nx) : tAsg te g D σ H := h
theorem r_name (h : S (σ.set i (some v)) H) : gName i v σ H S := h
theorem r_var (e : σ[i]? = some (some v)) (h : Q v H) : tVar i σ H Q := ⟨v, e, h⟩
theorem r_c (h : Q v H) : tC v σ H Q := h
theorem r_op (h : ta σ H fun x H1 => tb σ H1 fun y H2 => r x y H2 Q) : tOp r ta tb σ H Q := h
theorem r_un {q : V → Hp → VK → Prop} (h : ta σ H fun x H1 => q x H1 Q) : tUn q ta σ H Q := h
theorem r_cb {q : List V → Hp → VK → Prop} (h : tr σ H fun vs H1 => q vs H1 Q) : tCB q tr σ H Q := h
theorem r_nil {QA : List V → Hp → Prop} (h : QA [] H) : tNil σ H QA := h
theorem r_cons {QA : List V → Hp → Prop} (h : ta σ H fun x H1 => tr σ H1 fun xs H2 => QA (x :: xs) H2) : tCons ta tr σ H QA := h
theorem r_call (h : tr σ H fun vs H1 => sp vs H1 Q E) : tCall sp [] E tr σ H Q := by
  have e : (fun (vs : List V) (H1 : Hp) => sp (vs ++ []) H1 Q E) = fun vs H1 => sp vs H1 Q E := by
    funext vs H1
    rw [List.append_nil]
  show tr σ H (fun vs H1 => sp (vs ++ []) H1 Q E)
  rw [e]
  exact h
theorem r_ret (h : te σ H D.rt) : tRet te D σ H := h
theorem r_drop (h : te σ H fun _ H1 => D.nx σ H1) : tDrop te D σ H := h
theorem r_ifs (h : tt σ H fun b H1 => if b = true then t D σ H1 else u D σ H1) : tIfS tt t u D σ H := h
theorem r_ife (h : tt σ H fun c H1 => if c = true then ta σ H1 Q else tb σ H1 Q) : tIf tt ta tb σ H Q := h
theorem r_next (h : D.nx σ H) : tNext D σ H := h
theorem r_test (h : te σ H fun x H' => ∃ k, x = .bl k ∧ R k H') : tTest te σ H R := h
theorem r_tB (h : te σ H fun x H' => ∃ k, x = .bl k ∧ R k H') : tB te σ H R := h
theorem r_bl {k : Bool} (h : R k H) : ∃ k', V.bl k = .bl k' ∧ R k' H := ⟨k, rfl, h⟩
theorem r_tnot (h : tt σ H fun c H1 => R (!c) H1) : tNot tt σ H R := h
theorem r_tand (h : tt σ H fun c H1 => if c = true then uu σ H1 R else R false H1) : tAnd tt uu σ H R := h
theorem r_tor (h : tt σ H fun c H1 => if c = true then R true H1 else uu σ H1 R) : tOr tt uu σ H R := h
theorem r_not (h : ta σ H fun x H1 => ∃ c, x = .bl c ∧ Q (.bl (!c)) H1) : tNotV ta σ H Q := h
theorem r_and (h : ta σ H fun x H1 => ∃ c, x = .bl c ∧ if c = true then tb σ H1 Q else Q (.bl false) H1) : tAndV ta tb σ H Q := h
theorem r_or (h : ta σ H fun x H1 => ∃ c, x = .bl c ∧ if c = true then Q (.bl true) H1 else tb σ H1 Q) : tOrV ta tb σ H Q := h
theorem r_blx {k : Bool} {W : Bool → Prop} (h : W k) : ∃ k', V.bl k = .bl k' ∧ W k' := ⟨k, rfl, h⟩
theorem r_I0 {f : Int → Int → V} {m n : Int} (h : Q (f m n) H) : rI0 f (.int m) (.int n) H Q := ⟨m, n, rfl, rfl, h⟩
theorem r_I {C : Int → Int → Prop} {f : Int → Int → V} {m n : Int} (c : C m n) (h : Q (f m n) H) : rI C f (.int m) (.int n) H Q := ⟨m, n, rfl, rfl, c, h⟩
theorem r_U {f : Int → V} {m : Int} (h : Q (f m) H) : rU f (.int m) H Q := ⟨m, rfl, h⟩
theorem r_eqS {m n : Str} (h : Q (.bl (decide (V.str m = V.str n))) H) : rEq (.str m) (.str n) H Q := ⟨rfl, h⟩
theorem r_eqI {m n : Int} (h : Q (.bl (decide (V.int m = V.int n))) H) : rEq (.int m) (.int n) H Q := ⟨rfl, h⟩
theorem r_neS {m n : Str} (h : Q (.bl (!decide (V.str m = V.str n))) H) : rNe (.str m) (.str n) H Q := ⟨rfl, h⟩
theorem r_neI {m n : Int} (h : Q (.bl (!decide (V.int m = V.int n))) H) : rNe (.int m) (.int n) H Q := ⟨rfl, h⟩
theorem r_chain {r1 r2 : R2} (h : ta σ H fun x H1 => tb σ H1 fun y H2 => r1 x y H2 fun z H3 => ∃ k, z = .bl k ∧ if k = true then tc σ H3 (fun u H4 => r2 y u H4 Q) else Q (.bl false) H3) : tChain r1 r2 ta tb tc σ H Q := h
theorem r_gtup {n : Nat} (h : SqT K H a xs) (e : xs.length = n) (q : gs xs σ H S) : gTup K n gs (.ref a) σ H S := ⟨a, xs, rfl, h, e, q⟩
theorem r_gcons {vr : List V} (h : g v σ H fun σ' H' => gs vr σ' H' S) : gCons g gs (v :: vr) σ H S := ⟨v, vr, rfl, h⟩
theorem r_gnil (h : S σ H) : gNil [] σ H S := ⟨rfl, h⟩
theorem r_ixT {n : Int} (h : SqT K H p xs) (e : atI xs n = some v) (q : Q v H) : rIxT K (.ref p) (.int n) H Q := ⟨p, xs, n, v, rfl, rfl, h, e, q⟩
theorem r_ixL {n : Int} (h : SqL K H p xs) (e : atI xs n = some v) (q : Q v H) : rIxL K (.ref p) (.int n) H Q := ⟨p, xs, n, v, rfl, rfl, h, e, q⟩
def KQ (Q : VK) (v : V) (H : Hp) : Prop := Q v H
theorem r_kq (h : Q v H) : KQ Q v H := h
theorem r_fld {f : Str} (h : ta σ H fun x H1 => ∃ a C dx fs v, x = .ref a ∧ H1 a = some (.ins C dx fs) ∧ Cls K C ∧ NoAttr K C f ∧ fs.lookup f = some v ∧ KQ Q v H1) : tFld K ta f σ H Q := h
theorem r_tup (h : tr σ H fun xs H1 => xs.length ≤ sizeLine ∧ ∀ p, H1 p = none → KQ Q (.ref p) (upd H1 p (.tup xs))) : tTup tr σ H Q := h
theorem r_lst (h : tr σ H fun xs H1 => xs.length ≤ sizeLine ∧ ∀ p, H1 p = none → KQ Q (.ref p) (upd H1 p (.lst xs))) : tLst tr σ H Q := h
/-- a new object -/
theorem r_newT (h : ∀ p H', H p = none → Ex H H' → H' p = some (.tup xs) → Q (.ref p) H') (hl : xs.length ≤ 1000 := by exact Nat.le_of_ble_eq_true rfl) : xs.length ≤ sizeLine ∧ ∀ p, H p = none → KQ Q (.ref p) (upd H p (.tup xs)) :=
  ⟨Evl.sz_of (by omega), fun p n => h p _ n (Ex.nw n) upd_same⟩
theorem r_newL (h : ∀ p H', H p = none → Ex H H' → H' p = some (.lst xs) → Q (.ref p) H') (hl : xs.length ≤ 1000 := by exact Nat.le_of_ble_eq_true rfl) : xs.length ≤ sizeLine ∧ ∀ p, H p = none → KQ Q (.ref p) (upd H p (.lst xs)) :=
  ⟨Evl.sz_of (by omega), fun p n => h p _ n (Ex.nw n) upd_same⟩
/-- what is walked, reckoned first -/
theorem r_lcL {tl : TE} {vs : List Nat} (h : tl σ H fun x H1 => tLc (iList K (tC x)) g tt te vs σ H1 Q) : tLc (iList K tl) g tt te vs σ H Q := h
theorem r_lcT {tl : TE} {vs : List Nat} (h : tl σ H fun x H1 => tLc (iTup K (tC x)) g tt te vs σ H1 Q) : tLc (iTup K tl) g tt te vs σ H Q := h
theorem r_foL {tl : TE} (h : tl σ H fun x H1 => tFor (iList K (tC x)) g t D σ H1) : tFor (iList K tl) g t D σ H := h
theorem r_foT {tl : TE} (h : tl σ H fun x H1 => tFor (iTup K (tC x)) g t D σ H1) : tFor (iTup K tl) g t D σ H := h
def rMinJ : List V → Hp → VK → Prop := fun xs H Q => ∃ i j, xs = [.int i, .int j] ∧ Q (.int (min i j)) H
def rMaxJ : List V → Hp → VK → Prop := fun xs H Q => ∃ i j, xs = [.int i, .int j] ∧ Q (.int (max i j)) H
def rAbsJ : List V → Hp → VK → Prop := fun xs H Q => ∃ i : Int, xs = [.int i] ∧ Q (.int (i.natAbs : Int)) H
def rIntJ : List V → Hp → VK → Prop := fun xs H Q => ∃ i : Int, xs = [.int i] ∧ Q (.int i) H
def rStrJ : List V → Hp → VK → Prop := fun xs H Q => ∃ i : Int, xs = [.int i] ∧ i.natAbs.log2 < 1920 ∧ Q (.str (toString i)) H
def rLenJ (K : PySem.W.Frag) : List V → Hp → VK → Prop := fun xs H Q => ∃ p ys, xs = [.ref p] ∧ (SqL K H p ys ∨ SqT K H p ys) ∧ Q (.int (ys.length : Int)) H
def rTupJ (K : PySem.W.Frag) : List V → Hp → VK → Prop := fun xs H Q => ∃ p ys, xs = [.ref p] ∧ SqL K H p ys ∧ ∀ l, H l = none → Q (.ref l) (upd H l (.tup ys))
def rLstJ (K : PySem.W.Frag) : List V → Hp → VK → Prop := fun xs H Q => ∃ p ys, xs = [.ref p] ∧ (SqL K H p ys ∨ SqT K H p ys) ∧ ∀ l, H l = none → Q (.ref l) (upd H l (.lst ys))
theorem cr_minJ {X : Cx} (hc : X.calm = true) : CallR X (.builtin "min") rMinJ := fun pins s σ H vs us Q I r h => by
  obtain ⟨i, j, e, q⟩ := h
  exact call_min2 hc pins s σ H vs us Q I r ⟨i, j, e, by rw [if_min]; exact q⟩
theorem cr_maxJ {X : Cx} (hc : X.calm = true) : CallR X (.builtin "max") rMaxJ := fun pins s σ H vs us Q I r h => by
  obtain ⟨i, j, e, q⟩ := h
  exact call_max2 hc pins s σ H vs us Q I r ⟨i, j, e, by rw [if_max]; exact q⟩
theorem cr_absJ {X : Cx} : CallR X (.builtin "abs") rAbsJ := fun pins s σ H vs us Q I r h => by
  obtain ⟨i, e, q⟩ := h
  refine call_abs pins s σ H vs us Q I r ⟨i, e, ?_⟩
  have e1 : (if i < 0 then -i else i) = (i.natAbs : Int) := by split <;> omega
  rw [e1]
  exact q
theorem cr_intJ {X : Cx} : CallR X (.type "int") rIntJ := fun pins s σ H vs us Q I r h => call_int1 pins s σ H vs us Q I r (.inl h)
theorem cr_strJ {X : Cx} : CallR X (.type "str") rStrJ := fun pins s σ H vs us Q I r h => call_str_int pins s σ H vs us Q I r h
theorem cr_lenJ {X : Cx} : CallR X (.builtin "len") (rLenJ X.K) := fun pins s σ H vs us Q I r h => call_len_seq pins s σ H vs us Q I r h
theorem cr_tupJ {X : Cx} : CallR X (.type "tuple") (rTupJ X.K) := fun pins s σ H vs us Q I r h => by
  obtain ⟨p, ys, e, l, q⟩ := h
  exact call_tuple_of pins s σ H vs us Q I r ⟨p, ys, e, .inl ⟨l, q⟩⟩
theorem cr_lstJ {X : Cx} : CallR X (.type "list") (rLstJ X.K) := fun pins s σ H vs us Q I r h => call_list_of pins s σ H vs us Q I r h
theorem r_min {m n : Int} (h : Q (.int (min m n)) H) : rMinJ [.int m, .int n] H Q := ⟨m, n, rfl, h⟩
theorem r_max {m n : Int} (h : Q (.int (max m n)) H) : rMaxJ [.int m, .int n] H Q := ⟨m, n, rfl, h⟩
theorem r_abs {m : Int} (h : Q (.int (m.natAbs : Int)) H) : rAbsJ [.int m] H Q := ⟨m, rfl, h⟩
theorem r_int {m : Int} (h : Q (.int m) H) : rIntJ [.int m] H Q := ⟨m, rfl, h⟩
theorem r_lenT (h : SqT K H p xs) (q : Q (.int (xs.length : Int)) H) : rLenJ K [.ref p] H Q := ⟨p, xs, rfl, .inr h, q⟩
theorem r_lenL (h : SqL K H p xs) (q : Q (.int (xs.length : Int)) H) : rLenJ K [.ref p] H Q := ⟨p, xs, rfl, .inl h, q⟩
theorem r_tupOf (h : SqL K H p xs) (q : ∀ l H', H l = none → Ex H H' → H' l = some (.tup xs) → Q (.ref l) H') : rTupJ K [.ref p] H Q := ⟨p, xs, rfl, h, fun l n => q l _ n (Ex.nw n) upd_same⟩
theorem r_lstT (h : SqT K H p xs) (q : ∀ l H', H l = none → Ex H H' → H' l = some (.lst xs) → Q (.ref l) H') : rLstJ K [.ref p] H Q := ⟨p, xs, rfl, .inr h, fun l n => q l _ n (Ex.nw n) upd_same⟩
theorem r_lstL (h : SqL K H p xs) (q : ∀ l H', H l = none → Ex H H' → H' l = some (.lst xs) → Q (.ref l) H') : rLstJ K [.ref p] H Q := ⟨p, xs, rfl, .inl h, fun l n => q l _ n (Ex.nw n) upd_same⟩
theorem r_sum {ns : List Int} (h : SqL K H p (ns.map V.int)) (q : Q (.int ns.sum) H) : rSum K [.ref p] H Q := ⟨p, ns, rfl, h, q⟩
theorem r_all {bs : List Bool} (h : SqL K H p (bs.map V.bl)) (q : Q (.bl (bs.all id)) H) : rAll K [.ref p] H Q := ⟨p, bs, rfl, h, q⟩
theorem r_inT {neg : Bool} (h : SqT K H p xs) (f1 : flatV x = true) (f2 : xs.all flatV = true) (q : Q (.bl (if neg then !inV x xs else inV x xs)) H) : rIn K neg x (.ref p) H Q := ⟨p, xs, rfl, .inr h, f1, f2, q⟩
theorem r_inL {neg : Bool} (h : SqL K H p xs) (f1 : flatV x = true) (f2 : xs.all flatV = true) (q : Q (.bl (if neg then !inV x xs else inV x xs)) H) : rIn K neg x (.ref p) H Q := ⟨p, xs, rfl, .inl h, f1, f2, q⟩
theorem r_fld1 {f : Str} {C dx : Addr} {fs : List (Str × V)} (h : H a = some (.ins C dx fs)) (c : Cls K C) (n : NoAttr K C f) (l : fs.lookup f = some v) (q : Q v H) :
    ∃ a' C dx fs v', V.ref a = .ref a' ∧ H a' = some (.ins C dx fs) ∧ Cls K C ∧ NoAttr K C f ∧ fs.lookup f = some v' ∧ KQ Q v' H := ⟨a, C, dx, fs, v, rfl, h, c, n, l, q⟩
theorem r_sfld {f : Str} (h : tb σ H fun y H1 => ta σ H1 fun x H2 => ∃ a C dx fs, x = .ref a ∧ H2 a = some (.ins C dx fs) ∧ Cls K C ∧ NoAttr K C f ∧ fs.length < 1000 ∧ D.nx σ (upd H2 a (.ins C dx (putF f y fs)))) : sFld K ta tb f D σ H := h
theorem r_sfld1 {f : Str} {C dx : Addr} {fs : List (Str × V)} {y : V} {W : Hp → Prop} (h : H a = some (.ins C dx fs)) (c : Cls K C) (n : NoAttr K C f) (l : fs.length < 1000) (q : W (upd H a (.ins C dx (putF f y fs)))) :
    ∃ a' C dx fs, V.ref a = .ref a' ∧ H a' = some (.ins C dx fs) ∧ Cls K C ∧ NoAttr K C f ∧ fs.length < 1000 ∧ W (upd H a' (.ins C dx (putF f y fs))) := ⟨a, C, dx, fs, rfl, h, c, n, l, q⟩
def KS (S : L2.St → Hp → Prop) (σ : L2.St) (H : Hp) : Prop := S σ H
theorem r_ks (h : S σ H) : KS S σ H := h
theorem r_gfld {f : Str} (h : ta σ H fun x H1 => ∃ a C dx fs, x = .ref a ∧ H1 a = some (.ins C dx fs) ∧ Cls K C ∧ NoAttr K C f ∧ fs.length < 1000 ∧ KS S σ (upd H1 a (.ins C dx (putF f v fs)))) : gFld K ta f v σ H S := h
theorem r_gfld1 {f : Str} {C dx : Addr} {fs : List (Str × V)} {y : V} (h : H a = some (.ins C dx fs)) (c : Cls K C) (n : NoAttr K C f) (l : fs.length < 1000) (q : S σ (upd H a (.ins C dx (putF f y fs)))) :
    ∃ a' C dx fs, V.ref a = .ref a' ∧ H a' = some (.ins C dx fs) ∧ Cls K C ∧ NoAttr K C f ∧ fs.length < 1000 ∧ KS S σ (upd H a' (.ins C dx (putF f y fs))) := ⟨a, C, dx, fs, rfl, h, c, n, l, q⟩
theorem r_meth {C : Addr} {m : Str} (h : ta σ H fun x H1 => ∃ a dx fs, x = .ref a ∧ H1 a = some (.ins C dx fs) ∧ fs.lookup m = none ∧ tr σ H1 fun vs H2 => sp (x :: vs) H2 Q E) : tMeth C m sp [] E ta tr σ H Q := by
  have e : (fun (x : V) (H1 : Hp) => ∃ a dx fs, x = .ref a ∧ H1 a = some (.ins C dx fs) ∧ fs.lookup m = none ∧ tr σ H1 fun vs H2 => sp (x :: (vs ++ [])) H2 Q E) = fun x H1 => ∃ a dx fs, x = .ref a ∧ H1 a = some (.ins C dx fs) ∧ fs.lookup m = none ∧ tr σ H1 fun vs H2 => sp (x :: vs) H2 Q E := by
    funext x H1
    simp only [List.append_nil]
  show ta σ H (fun x H1 => ∃ a dx fs, x = .ref a ∧ H1 a = some (.ins C dx fs) ∧ fs.lookup m = none ∧ tr σ H1 fun vs H2 => sp (x :: (vs ++ [])) H2 Q E)
  rw [e]
  exact h
theorem r_meth1 {C dx : Addr} {m : Str} {fs : List (Str × V)} {W : Prop} (h : H a = some (.ins C dx fs)) (l : fs.lookup m = none) (q : W) : ∃ a' dx fs, V.ref a = .ref a' ∧ H a' = some (.ins C dx fs) ∧ fs.lookup m = none ∧ W := ⟨a, dx, fs, rfl, h, l, q⟩
theorem r_isN (h : Q (.bl (decide (x = .non))) H) : rIsN x .non H Q := ⟨rfl, h⟩
theorem r_notN (h : Q (.bl (!decide (x = .non))) H) : rNotN x .non H Q := ⟨rfl, h⟩
def KB (R : Bool → Hp → Prop) (k : Bool) (H : Hp) : Prop := R k H
theorem r_kb {k : Bool} (h : R k H) : KB R k H := h
def tTruJ (K : PySem.W.Frag) (ta : TE) : TT := fun σ H R => ta σ H fun x H1 => ∃ k, TruV K x H1 k ∧ KB R k H1
theorem pt_truJ {X : Cx} {e : Expr} {ta : TE} (h : PE X e ta) (hw : ∀ whole, isTrue e X.env whole = (do let v ← whole; standAt e.pos; holding [v] (truthy v)) := by intro _; rfl) : PT X e (tTruJ X.K ta) := pt_truth h hw
theorem r_tru (h : ta σ H fun x H1 => ∃ k, TruV K x H1 k ∧ KB R k H1) : tTruJ K ta σ H R := h
theorem r_truL (h : SqL K H p xs) (q : R (!xs.isEmpty) H) : ∃ k, TruV K (.ref p) H k ∧ KB R k H := ⟨_, .inl ⟨xs, h, rfl⟩, q⟩
def tOrJ (K : PySem.W.Frag) (ta tb : TE) : TE := fun σ H Q => ta σ H fun x H1 => ∃ k, TruV K x H1 k ∧ if k = true then KQ Q x H1 else tb σ H1 Q
theorem pe_orJ {X : Cx} {a b : Expr} {rest : List Expr} {pos : Pos} {ta tb : TE} (ha : PE X a ta) (hb : PE X (.BoolOp .Or (b :: rest) pos) tb) : PE X (.BoolOp .Or (a :: b :: rest) pos) (tOrJ X.K ta tb) := pe_orT ha hb
theorem r_orJ (h : ta σ H fun x H1 => ∃ k, TruV K x H1 k ∧ if k = true then KQ Q x H1 else tb σ H1 Q) : tOrJ K ta tb σ H Q := h
theorem r_truW {W : Bool → Prop} (h : SqL K H p xs) (q : W (!xs.isEmpty)) : ∃ k, TruV K (.ref p) H k ∧ W k := ⟨_, .inl ⟨xs, h, rfl⟩, q⟩
theorem r_truX {W : Bool → Prop} (h : SqT K H p xs) (q : W (!xs.isEmpty)) : ∃ k, TruV K (.ref p) H k ∧ W k := ⟨_, .inr (.inl ⟨xs, h, rfl⟩), q⟩
/-- a text of two parts -/
def tF2 (ta tb : TE) : TE := fun σ H Q => ta σ H fun x H1 => ∃ y : Str, x = .str y ∧ (Str.empty ++ y).length ≤ sizeLine ∧ tb σ H1 fun x2 H2 => ∃ y2 : Str, x2 = .str y2 ∧ (Str.empty ++ y ++ y2).length ≤ sizeLine ∧ KQ Q (.str (Str.empty ++ y ++ y2)) H2
theorem pe_f2 {X : Cx} {a b : Expr} {pos : Pos} {ta tb : TE} (ha : PE X a ta) (hb : PE X b tb) : PE X (.JoinedStr [a, b] pos) (tF2 ta tb) := pe_joined (.cons ha (.cons hb .nil))
theorem r_par {j : Nat} (h : tr σ H fun vs H1 => ∃ v w, vs = [v, w] ∧ KS D.nx ((σ.set i (some v)).set j (some w)) H1) : tPar i j tr D σ H := h
theorem r_par1 {j : Nat} (q : S ((σ.set i (some x)).set j (some y)) H) : ∃ v w, [x, y] = [v, w] ∧ KS S ((σ.set i (some v)).set j (some w)) H := ⟨x, y, rfl, q⟩
theorem r_gcd {m n : Int} (q : Q (.int ((Nat.gcd m.natAbs n.natAbs : Nat) : Int)) H) : rGcd [.int m, .int n] H Q := ⟨m, n, rfl, q⟩
theorem r_bm0 {T : String} {q : V → List V → Hp → VK → Prop} (h : ta σ H fun x H1 => tyV K T x H1 ∧ q x [] H1 Q) : tBM0 K T q ta σ H Q := h
theorem r_bm {T : String} {q : V → List V → Hp → VK → Prop} (h : ta σ H fun x H1 => tyV K T x H1 ∧ tr σ H1 fun xs H2 => q x xs H2 Q) : tBM K T q ta tr σ H Q := h
theorem r_tyL {W : Prop} (h : H p = some (.lst xs)) (q : W) : tyV K "list" (.ref p) H ∧ W := ⟨.inl ⟨rfl, xs, .inl (.inl h)⟩, q⟩
theorem r_pop (h : H p = some (.lst xs)) (hy : xs[xs.length - 1]? = some y) (q : Q y (upd H p (.lst xs.dropLast))) : rPop (.ref p) [] H Q := ⟨p, xs, y, rfl, rfl, h, hy, q⟩
theorem r_app (h : H p = some (.lst xs)) (hz : xs.length < 100000) (q : Q .non (upd H p (.lst (xs ++ [y])))) : rAppend (.ref p) [y] H Q := ⟨p, xs, y, rfl, rfl, h, Evl.sz_lt hz, q⟩
theorem r_cat {b : Addr} {zs : List V} (h : H p = some (.lst xs)) (hb : H b = some (.lst zs)) (hz : xs.length + zs.length ≤ 100000) (q : ∀ l H', H l = none → Ex H H' → H' l = some (.lst (xs ++ zs)) → Q (.ref l) H') : rCat (.ref p) (.ref b) H Q :=
  ⟨p, b, xs, zs, rfl, rfl, h, hb, Evl.sz_of hz, fun l n => q l _ n (Ex.nw n) upd_same⟩
theorem r_wipe {s1 s2 : L2.St} {vs : List Nat} {C : Prop} (e : wipe s1 vs = wipe s2 vs) (h : C) : wipe s1 vs = wipe s2 vs ∧ C := ⟨e, h⟩
theorem r_tyes (h : R true H) : tYes σ H R := h
theorem dstr (a b : Str) : decide (V.str a = V.str b) = decide (a = b) := by
  by_cases h : a = b
  · rw [h]
    simp
  · rw [decide_eq_false h]
    exact decide_eq_false fun q => h (V.str.inj q)
theorem r_strY {a b : Str} {A B : Prop} (e : a = b) (h : A) : if decide (V.str a = V.str b) = true then A else B := r_yesS (by rw [e]) h
theorem r_strN {a b : Str} {A B : Prop} (e : ¬ a = b) (h : B) : if decide (V.str a = V.str b) = true then A else B := r_noS (fun q => e (V.str.inj q)) h
theorem r_nstrY {a b : Str} {A B : Prop} (e : ¬ a = b) (h : A) : if (!decide (V.str a = V.str b)) = true then A else B := r_nyesS (fun q => e (V.str.inj q)) h
theorem r_nstrN {a b : Str} {A B : Prop} (e : a = b) (h : B) : if (!decide (V.str a = V.str b)) = true then A else B := r_nnoS (by rw [e]) h
theorem r_make {C : Addr} (h : tr σ H fun vs H1 => ∀ x dx, H1 x = none → H1 dx = none → dx ≠ x → sp (.ref x :: vs) (upd (upd H1 dx (.own x)) x (.ins C dx [])) (fun v H2 => v = .non ∧ Q (.ref x) H2) E) : tMake C sp [] E tr σ H Q := by
  have e : (fun (vs : List V) (H1 : Hp) => ∀ x dx, H1 x = none → H1 dx = none → dx ≠ x → sp (.ref x :: (vs ++ [])) (upd (upd H1 dx (.own x)) x (.ins C dx [])) (fun v H2 => v = .non ∧ Q (.ref x) H2) E) = fun vs H1 => ∀ x dx, H1 x = none → H1 dx = none → dx ≠ x → sp (.ref x :: vs) (upd (upd H1 dx (.own x)) x (.ins C dx [])) (fun v H2 => v = .non ∧ Q (.ref x) H2) E := by
    funext vs H1
    simp only [List.append_nil]
  show tr σ H (fun vs H1 => ∀ x dx, H1 x = none → H1 dx = none → dx ≠ x → sp (.ref x :: (vs ++ [])) (upd (upd H1 dx (.own x)) x (.ins C dx [])) (fun v H2 => v = .non ∧ Q (.ref x) H2) E)
  rw [e]
  exact h
/-- dicts -/
theorem r_dnew (h : ∀ p H', H p = none → Ex H H' → H' p = some (.dK []) → Q (.ref p) H') : tDNewK σ H Q := fun p n => h p _ n (Ex.nw n) upd_same
theorem r_sdput (h : tc σ H fun v H1 => ta σ H1 fun x H2 => tb σ H2 fun y H3 => ∃ a H4, x = .ref a ∧ DPut H3 a y v H4 ∧ KS D.nx σ H4) : sDPut ta tb tc D σ H := h
theorem r_sdput1 {kvs : List (Key × V)} {k : Str} (h : H a = some (.dK kvs)) (hz : kvs.length < 100000) (q : S σ (upd H a (.dK (putK kvs (Sum.inr k) v)))) : ∃ a' H4, V.ref a = .ref a' ∧ DPut H a' (.str k) v H4 ∧ KS S σ H4 :=
  ⟨a, _, rfl, DPut.k (k := Sum.inr k) h (Evl.sz_lt hz), q⟩
theorem r_dget (h : ta σ H fun x H1 => tb σ H1 fun y H2 => ∃ a v, x = .ref a ∧ DGet H2 a y (some v) ∧ KQ Q v H2) : tDGet ta tb σ H Q := h
theorem r_dget1 {kvs : List (Key × V)} {k : Str} (h : H a = some (.dK kvs)) (e : valV kvs (Sum.inr k) = some v) (q : Q v H) : ∃ a' v', V.ref a = .ref a' ∧ DGet H a' (.str k) (some v') ∧ KQ Q v' H := ⟨a, v, rfl, by rw [← e]; exact DGet.k (k := Sum.inr k) h, q⟩
theorem r_din (h : tb σ H fun y H1 => ta σ H1 fun x H2 => ∃ a o, x = .ref a ∧ DGet H2 a y o ∧ KQ Q (.bl o.isSome) H2) : tDIn tb ta σ H Q := h
theorem r_dnin (h : tb σ H fun y H1 => ta σ H1 fun x H2 => ∃ a o, x = .ref a ∧ DGet H2 a y o ∧ KQ Q (.bl (!o.isSome)) H2) : tDNotIn tb ta σ H Q := h
theorem r_din1 {kvs : List (Key × V)} {k : Str} (h : H a = some (.dK kvs)) (q : Q (.bl (valV kvs (Sum.inr k)).isSome) H) : ∃ a' o, V.ref a = .ref a' ∧ DGet H a' (.str k) o ∧ KQ Q (.bl o.isSome) H := ⟨a, _, rfl, DGet.k (k := Sum.inr k) h, q⟩
theorem r_dnin1 {kvs : List (Key × V)} {k : Str} (h : H a = some (.dK kvs)) (q : Q (.bl (!(valV kvs (Sum.inr k)).isSome)) H) : ∃ a' o, V.ref a = .ref a' ∧ DGet H a' (.str k) o ∧ KQ Q (.bl (!o.isSome)) H := ⟨a, _, rfl, DGet.k (k := Sum.inr k) h, q⟩
theorem r_dpop (h : ta σ H fun x H1 => ∃ a, x = .ref a ∧ IsD H1 a ∧ tb σ H1 fun y H2 => ∃ kvs k v, H2 a = some (.dK kvs) ∧ y = kV k ∧ valV kvs k = some v ∧ KQ Q v (upd H2 a (.dK (dropK kvs k)))) : tDPop1 ta tb σ H Q := h
theorem r_dpop0 {kvs : List (Key × V)} {W : Addr → Prop} (h : H a = some (.dK kvs)) (q : W a) : ∃ a', V.ref a = .ref a' ∧ IsD H a' ∧ W a' := ⟨a, rfl, .inl ⟨kvs, .inl h⟩, q⟩
theorem r_dpop1 {kvs : List (Key × V)} {k : Str} (h : H a = some (.dK kvs)) (e : valV kvs (Sum.inr k) = some v) (q : Q v (upd H a (.dK (dropK kvs (Sum.inr k))))) : ∃ kvs k' v', H a = some (.dK kvs) ∧ V.str k = kV k' ∧ valV kvs k' = some v' ∧ KQ Q v' (upd H a (.dK (dropK kvs k'))) := ⟨kvs, Sum.inr k, v, h, rfl, e, q⟩
/-- branches -/
theorem r_yes {c : Prop} [Decidable c] {A B : Prop} (e : c) (h : A) : if decide c = true then A else B := by
  rw [decide_eq_true e]
  exact iteT h
theorem r_no {c : Prop} [Decidable c] {A B : Prop} (e : ¬ c) (h : B) : if decide c = true then A else B := by
  rw [decide_eq_false e]
  exact iteF h
theorem r_nyes {c : Prop} [Decidable c] {A B : Prop} (e : ¬ c) (h : A) : if (!decide c) = true then A else B := by
  rw [decide_eq_false e]
  exact iteT h
theorem r_nno {c : Prop} [Decidable c] {A B : Prop} (e : c) (h : B) : if (!decide c) = true then A else B := by
  rw [decide_eq_true e]
  exact iteF h
theorem r_b2 {b : Bool} {A B : Prop} (h1 : b = true → A) (h2 : b = false → B) : if b = true then A else B := by
  cases b with
  | true => exact iteT (h1 rfl)
  | false => exact iteF (h2 rfl)
theorem r_d2 {c : Prop} [Decidable c] {A B : Prop} (h1 : c → A) (h2 : ¬ c → B) : if decide c = true then A else B :=
  r_b2 (fun h => h1 (of_decide_eq_true h)) (fun h => h2 (of_decide_eq_false h))
end
end Lw
end
section
set_option maxRecDepth 100000
set_option maxHeartbeats 4000000
namespace Lw
open PySem PySem.Spec PyProof.Rows L2
/-! ### meters, as plain data -/
inductive MSt where
  | window (sums : List (Int × Int)) | span (sp used : Int) | bucket (missing moment : Int) | gap (last : Option Int) | held (costs : List (Str × Int)) (used : Int) | pool (costs : List (Str × Str × Int)) (uses : List (Str × Int))
def since (l : Int) (sums : List (Int × Int)) (t : Int) : List (Int × Int) := sums.filter fun r => decide (t - l < r.1)
def tot (rows : List (Int × Int)) : Int := (rows.map fun r => r.2).sum
/-- the moment at which enough of the rows has gone -/
def gone (m c l : Int) : Int → List (Int × Int) → Int
  | _, [] => 0
  | used, r :: rest => if used - r.2 + c ≤ m then r.1 + l else gone m c l (used - r.2) rest
def usedIn (l sp used t : Int) : Int := if t / l = sp then used else 0
def missAt (missing moment t : Int) : Int := max 0 (missing - (t - moment))
def useOf (uses : List (Str × Int)) (g : Str) : Int := match uses.find? fun u => decide (u.1 = g) with
  | some u => u.2
  | none => 0
def setUse (uses : List (Str × Int)) (g : Str) (n : Int) : List (Str × Int) := uses.map fun u => if u.1 = g then (u.1, n) else u
/-- what is borrowed if a group used more -/
def borrowed (sh : List Sh) (uses : List (Str × Int)) (g : Str) (more : Int) : Int := (sh.map fun s => max 0 ((if s.1 = g then useOf uses s.1 + more else useOf uses s.1) - s.2.1)).sum
/-- room, of what is looked at -/
def roomC : Rule → MSt → Int → Str → Int → Bool
  | .window m l, .window sums, t, _, c => decide (tot (since l sums t) + c ≤ m)
  | .span m l, .span sp used, t, _, c => decide (usedIn l sp used t + c ≤ m)
  | .bucket m l, .bucket mi mo, t, _, c => decide (missAt mi mo t + l * c - m * l ≤ 0)
  | .gap ti, .gap last, t, _, _ => match last with
    | none => true
    | some b => decide (max t (b + ti) = t)
  | .held m, .held _ used, _, _, c => decide (used + c ≤ m)
  | .pool m sh, .pool _ uses, _, g, c => if (shareFor sh g).2 < useOf uses g + c then false else decide (borrowed sh uses g c ≤ common m sh)
  | _, _, _, _, _ => true
def roomM (L : Lim) (s : MSt) (t : Int) (g : Str) (c : Int) : Bool := !looksB L g || roomC L.rule s t g c
/-- the earliest moment where there is no room at once -/
def earlyC : Rule → MSt → Int → Int → Option Int
  | .window m l, .window sums, t, c => if m < c then none else some (gone m c l (tot (since l sums t)) (since l sums t))
  | .span m l, .span _ _, t, c => if m < c then none else some ((t / l + 1) * l)
  | .bucket m l, .bucket mi mo, t, c => if m < c then none else some (t + (missAt mi mo t + l * c - m * l))
  | .gap ti, .gap last, t, _ => match last with
    | none => some t
    | some b => some (max t (b + ti))
  | _, _, _, _ => none
def earlyM (L : Lim) (s : MSt) (t : Int) (g : Str) (c : Int) : Option Int := if roomM L s t g c = true then some t else earlyC L.rule s t c
def letC : Rule → MSt → Int → Str → Int → Str → MSt
  | .window _ l, .window sums, t, _, c, _ => match (since l sums t).getLast? with
    | some r => if r.1 = t then .window ((since l sums t).dropLast ++ [(t, c + r.2)]) else .window (since l sums t ++ [(t, c)])
    | none => .window [(t, c)]
  | .span _ l, .span sp used, t, _, c, _ => .span (t / l) (usedIn l sp used t + c)
  | .bucket _ l, .bucket mi mo, t, _, c, _ => .bucket (missAt mi mo t + l * c) t
  | .gap _, .gap _, t, _, _, _ => .gap (some t)
  | .held _, .held costs used, _, _, c, k => .held (costs ++ [(k, c)]) (used + c)
  | .pool _ _, .pool costs uses, _, g, c, k => .pool (costs ++ [(k, g, c)]) (setUse uses g (useOf uses g + c))
  | _, s, _, _, _, _ => s
def letM (L : Lim) (s : MSt) (t : Int) (g : Str) (c : Int) (k : Str) : MSt := if looksB L g = true then letC L.rule s t g c k else s
def relM (s : MSt) (k : Str) : MSt := match s with
  | .held costs used => match costs.find? fun x => decide (x.1 = k) with
    | some x => .held (costs.filter fun y => !decide (y.1 = k)) (used - x.2)
    | none => s
  | .pool costs uses => match costs.find? fun x => decide (x.1 = k) with
    | some x => .pool (costs.filter fun y => !decide (y.1 = k)) (setUse uses x.2.1 (useOf uses x.2.1 - x.2.2))
    | none => s
  | s => s
def initM : Rule → MSt
  | .window _ _ => .window []
  | .span _ _ => .span 0 0
  | .bucket _ _ => .bucket 0 0
  | .gap _ => .gap none
  | .held _ => .held [] 0
  | .pool _ sh => .pool [] (sh.map fun s => (s.1, 0))
/-! ### and on the heap -/
def Imm : HO → Prop
  | .lst _ => True
  | .tup _ => True
  | .frz _ _ => True
  | _ => False
/-- what is not written stays -/
def Fr (W : Addr → Prop) (H H' : Hp) : Prop := ∀ b o, H b = some o → (Imm o ∨ ¬ W b) → H' b = some o
section
variable {W W' : Addr → Prop} {H H' H2 : Hp}
theorem Fr.rf : Fr W H H := fun _ _ h _ => h
theorem Fr.tr (e : Fr W H H') (f : Fr W H' H2) : Fr W H H2 := fun b o h q => f b o (e b o h q) q
theorem Ex.frm (e : Ex H H') : Fr W H H' := fun b o h _ => e b o h
theorem Fr.tu (e : Fr W H H') : Tu H H' := fun b o q h => e b o h (.inl (by
  rcases q with ⟨xs, rfl⟩ | ⟨ob, u, rfl⟩
  · exact trivial
  · exact trivial))
theorem Fr.wr {p : Addr} {o u : HO} (h : H p = some u) (n : ¬ Imm u) (wp : W p) : Fr W H (upd H p o) := fun b v e q => by
  rw [upd_ne]
  · exact e
  · intro z
    subst z
    rcases q with q | q
    · rw [h] at e
      cases e
      exact n q
    · exact q wp
theorem Fr.mono (e : Fr W H H') (m : ∀ b, W b → W' b) : Fr W' H H' := fun b o h q => e b o h (q.imp id fun n z => n (m b z))
end
def fsW (la : Addr) (m l : Int) (sl : Addr) : List (Str × V) := [("limit", .ref la), ("_most", .int m), ("_length", .int l), ("_sums", .ref sl)]
def fsS (la : Addr) (m l sp us : Int) : List (Str × V) := [("limit", .ref la), ("_most", .int m), ("_length", .int l), ("_span", .int sp), ("_used", .int us)]
def fsB (la : Addr) (m l mi mo : Int) : List (Str × V) := [("limit", .ref la), ("_size", .int m), ("_every", .int l), ("_missing", .int mi), ("_moment", .int mo)]
def fsG (la : Addr) (t : Int) (last : V) : List (Str × V) := [("limit", .ref la), ("_ticks", .int t), ("_last", last)]
def fsH (la : Addr) (m : Int) (d : Addr) (us : Int) : List (Str × V) := [("limit", .ref la), ("_most", .int m), ("_costs", .ref d), ("_used", .int us)]
def fsP (la d u : Addr) : List (Str × V) := [("limit", .ref la), ("_costs", .ref d), ("_uses", .ref u)]
def optV : Option Int → V
  | none => .non
  | some n => .int n
/-- a meter stands at m; own: what its calls write -/
def MetAt (K : PySem.W.Frag) (H : Hp) (m : Addr) (own : List Addr) (L : Lim) (s : MSt) : Prop := ∃ dx la, LimAt K H la L ∧ match L.rule, s with
  | .window a b, .window sums => own = [m] ∧ ∃ sl, H m = some (.ins (He.ga K "WindowMeter") dx (fsW la a b sl)) ∧ ∃ rows : List (Addr × (Int × Int)), rows.map (·.2) = sums ∧ H sl = some (.lst (rows.map fun r => .ref r.1)) ∧ ∀ r ∈ rows, SqT K H r.1 [.int r.2.1, .int r.2.2]
  | .span a b, .span sp used => own = [m] ∧ H m = some (.ins (He.ga K "SpanMeter") dx (fsS la a b sp used))
  | .bucket a b, .bucket mi mo => own = [m] ∧ H m = some (.ins (He.ga K "BucketMeter") dx (fsB la a b mi mo))
  | .gap t, .gap last => own = [m] ∧ H m = some (.ins (He.ga K "GapMeter") dx (fsG la t (optV last)))
  | .held a, .held costs used => ∃ d, own = [m, d] ∧ d ≠ m ∧ H m = some (.ins (He.ga K "HeldMeter") dx (fsH la a d used)) ∧ H d = some (.dK (costs.map fun x => (Sum.inr x.1, .int x.2)))
  | .pool _ _, .pool costs uses => ∃ d u, own = [m, d, u] ∧ d ≠ m ∧ u ≠ m ∧ d ≠ u ∧ H m = some (.ins (He.ga K "PoolMeter") dx (fsP la d u)) ∧ H u = some (.dK (uses.map fun x => (Sum.inr x.1, .int x.2))) ∧
      ∃ cs : List (Addr × (Str × Str × Int)), cs.map (·.2) = costs ∧ H d = some (.dK (cs.map fun x => (Sum.inr x.2.1, .ref x.1))) ∧ ∀ x ∈ cs, SqT K H x.1 [.str x.2.2.1, .int x.2.2.2]
  | _, _ => False
theorem MetAt.keep {K : PySem.W.Frag} {H H' : Hp} {m : Addr} {own : List Addr} {L : Lim} {s : MSt} {W : Addr → Prop} (e : Fr W H H') (d : ∀ b ∈ own, ¬ W b) (h : MetAt K H m own L s) : MetAt K H' m own L s := by
  obtain ⟨dx, la, hL, h⟩ := h
  refine ⟨dx, la, e.tu.lim hL, ?_⟩
  have tt : ∀ {a : Addr} {xs : List V}, SqT K H a xs → SqT K H' a xs := fun q => e.tu.t q
  cases hr : L.rule with
  | window a b =>
    rw [hr] at h
    cases s with
    | window sums =>
      obtain ⟨h1, sl, h2, rows, h3, h4, h5⟩ := h
      exact ⟨h1, sl, e _ _ h2 (.inr (d m (by rw [h1]; exact List.mem_singleton.mpr rfl))), rows, h3, e _ _ h4 (.inl trivial), fun r hr => tt (h5 r hr)⟩
    | _ => exact h.elim
  | span a b =>
    rw [hr] at h
    cases s with
    | span sp us => exact ⟨h.1, e _ _ h.2 (.inr (d m (by rw [h.1]; exact List.mem_singleton.mpr rfl)))⟩
    | _ => exact h.elim
  | bucket a b =>
    rw [hr] at h
    cases s with
    | bucket sp us => exact ⟨h.1, e _ _ h.2 (.inr (d m (by rw [h.1]; exact List.mem_singleton.mpr rfl)))⟩
    | _ => exact h.elim
  | gap a =>
    rw [hr] at h
    cases s with
    | gap sp => exact ⟨h.1, e _ _ h.2 (.inr (d m (by rw [h.1]; exact List.mem_singleton.mpr rfl)))⟩
    | _ => exact h.elim
  | held a =>
    rw [hr] at h
    cases s with
    | held cs us =>
      obtain ⟨c, h1, h2, h3, h4⟩ := h
      exact ⟨c, h1, h2, e _ _ h3 (.inr (d m (by rw [h1]; simp))), e _ _ h4 (.inr (d c (by rw [h1]; simp)))⟩
    | _ => exact h.elim
  | pool a sh =>
    rw [hr] at h
    cases s with
    | pool cs us =>
      obtain ⟨c, u, h1, h2, h3, h4, h5, h6, xs, h7, h8, h9⟩ := h
      exact ⟨c, u, h1, h2, h3, h4, e _ _ h5 (.inr (d m (by rw [h1]; simp))), e _ _ h6 (.inr (d u (by rw [h1]; simp))), xs, h7, e _ _ h8 (.inr (d c (by rw [h1]; simp))), fun x hx => tt (h9 x hx)⟩
    | _ => exact h.elim
theorem MetAt.ex {K : PySem.W.Frag} {H H' : Hp} {m : Addr} {own : List Addr} {L : Lim} {s : MSt} (e : Ex H H') (h : MetAt K H m own L s) : MetAt K H' m own L s := h.keep (W := fun _ => False) e.frm fun _ _ => id
/-- numbers within their bounds -/
def WfNum : Rule → Prop
  | .window m l => 0 ≤ m ∧ m ≤ 1000 ∧ 1 ≤ l ∧ l ≤ 1000
  | .span m l => 0 ≤ m ∧ m ≤ 1000 ∧ 1 ≤ l ∧ l ≤ 1000
  | .bucket m l => 0 ≤ m ∧ m ≤ 1000 ∧ 1 ≤ l ∧ l ≤ 1000
  | .gap t => 1 ≤ t ∧ t ≤ 1000
  | .held m => 0 ≤ m ∧ m ≤ 1000
  | .pool m sh => 0 ≤ m ∧ m ≤ 1000 ∧ sumOwn sh ≤ m ∧ (∀ s ∈ sh, 0 ≤ s.2.1 ∧ s.2.1 ≤ s.2.2 ∧ s.2.2 ≤ 1000) ∧ (sh.map (·.1)).Nodup ∧ 1 ≤ sh.length ∧ sh.length ≤ 8
structure WfL (L : Lim) : Prop where
  sm : Small L
  num : WfNum L.rule
end Lw
end
section
set_option maxRecDepth 100000
set_option maxHeartbeats 4000000
namespace Lw
open PySem PySem.Spec PyProof.Rows L2
/-! ### idle limits, as plain functions -/
def roundedUp (n d : Int) : Int := (n + d - 1) / d
def num0 : Rule → Int
  | .window m _ => m
  | .span m _ => m
  | .bucket m _ => m
  | .gap t => t
  | .held m => m
  | .pool m _ => m
def num1 : Rule → Int
  | .window _ l => l
  | .span _ l => l
  | .bucket _ l => l
  | _ => 0
def letsNothing : Rule → Bool
  | .pool m sh => sh.all fun s => decide (mostUsed m sh s.1 = 0)
  | .gap _ => false
  | r => decide (num0 r = 0)
/-- of a flow -/
def mostWithin (r : Rule) (n : Int) : Int := if letsNothing r = true then 0 else match r with
  | .window m l => m * roundedUp n l
  | .span m l => m * (roundedUp (n - 1) l + 1)
  | .bucket m l => m + (n - 1) / l
  | .gap t => 1000 * ((n - 1) / t + 1)
  | _ => 0
def isFlow : Rule → Bool
  | .held _ => false
  | .pool _ _ => false
  | _ => true
def isPool : Rule → Bool
  | .pool _ _ => true
  | _ => false
def groupsNamed (L : Lim) : List Str := match L.rule with
  | .pool _ sh => sh.map (·.1)
  | _ => L.groups
def nine : List Str := ["g0", "g1", "g2", "g3", "g4", "g5", "g6", "g7", "g8"]
def freeNames (L : Lim) : List Str := if (groupsNamed L).isEmpty then nine else groupsNamed L
def freeG (L O : Lim) : Option Str := (freeNames L).find? fun g => !looksB O g
def leastDist (r : Rule) : Int := match r with
  | .gap t => t
  | .span m _ => if 1 < m then 0 else 1
  | r => if 1 < num0 r then 0 else num1 r
def lastOffset (l o : Int) : Int := o - ((Nat.gcd o.natAbs l.natAbs : Nat) : Int)
def mostInSpan (l : Int) (o : Rule) : Int := match o with
  | .span m lo => m * roundedUp (lastOffset l lo + l) lo
  | o => mostWithin o l
def belowBucket (size every : Int) : Rule → Bool
  | .bucket a b => decide (a ≤ size) && decide (every ≤ b)
  | .gap t => decide (1000 ≤ size) && decide (every * 1000 ≤ t)
  | .span m l => if size * every + 1 < 2 * m * every then false else decide (m ≤ size) && decide (every * m ≤ l)
  | .window m l => decide (m ≤ size) && decide (every * m ≤ l)
  | _ => false
def idleFlow (r o : Rule) : Bool := if letsNothing o = true then true else match r with
  | .gap t => decide (t ≤ leastDist o)
  | .window m l => decide (mostWithin o l ≤ m)
  | .span m l => decide (mostInSpan l o ≤ m)
  | .bucket s e => belowBucket s e o
  | _ => false
def filledFrom (sh : List Sh) : Int → List Str → List (Str × Int)
  | _, [] => []
  | left, g :: r => (g, (shareFor sh g).1 + min left ((shareFor sh g).2 - (shareFor sh g).1)) :: filledFrom sh (left - min left ((shareFor sh g).2 - (shareFor sh g).1)) r
def filled (m : Int) (sh : List Sh) (names : List Str) : List (Str × Int) := filledFrom sh (common m sh) names
def allChoices (names : List Str) : List (List Str) := names.foldl (fun found g => found ++ found.map fun r => r ++ [g]) [[]]
/-- what uses borrow from a pool -/
def borrowsOf (sh : List Sh) (uses : List (Str × Int)) : Int := (uses.map fun u => max 0 (u.2 - (shareFor sh u.1).1)).sum
def mostBorrowed (sh : List Sh) (mo : Int) (so : List Sh) : Int := (allChoices (sh.map (·.1))).foldl (fun best ch => if best < borrowsOf sh (filled mo so ch) then borrowsOf sh (filled mo so ch) else best) 0
def sumUses (uses : List (Str × Int)) : Int := (uses.map (·.2)).sum
/-- no uses are beyond -/
def withinB (L O : Lim) : Bool := match L.rule, O.rule with
  | .held ml, .held mo => decide (mo ≤ ml)
  | .pool ml sh, .held mo => sh.all fun s => decide (mo ≤ mostUsed ml sh s.1)
  | .held ml, .pool mo so => decide (sumUses (filled mo so L.groups) ≤ ml)
  | .pool ml sh, .pool mo so => (sh.all fun s => decide (mostUsed mo so s.1 ≤ (shareFor sh s.1).2)) && decide (mostBorrowed sh mo so ≤ common ml sh)
  | _, _ => false
def heldCost (o : Rule) (g : Str) : Int := match o with
  | .pool m sh => min 1000 (mostUsed m sh g)
  | o => min 1000 (num0 o)
def askedNames (L : Lim) : List Str := if (groupsNamed L).isEmpty then ["a"] else groupsNamed L
def askedCost (L : Lim) (o : Rule) : Int := (askedNames L).foldl (fun best g => if best < heldCost o g then heldCost o g else best) 0
def idleB (L O : Lim) : Bool := if (freeG L O).isSome = true then false else if isFlow O.rule = true then idleFlow L.rule O.rule else if isFlow L.rule = true then decide (askedCost L O.rule = 0) else withinB L O
end Lw
end
section
set_option maxRecDepth 100000
set_option maxHeartbeats 4000000
namespace Lw
open PySem PySem.Spec PyProof.Rows L2
local macro_rules | `(tactic| walk_at "hp") => `(tactic| first | assumption | exact upd_same | exact (by assumption : Ex _ _) _ _ (by assumption))
local macro_rules | `(tactic| walk_at "lk") => `(tactic| fail "no look-up")
local macro_rules | `(tactic| walk_at "tk") => `(tactic| first | assumption | exact Ex.t (by assumption) (by assumption) | exact Ex.l (by assumption) (by assumption) | exact .inl (.inl (by assumption)))
local macro_rules | `(tactic| walk_at "st") => `(tactic| first
  | with_reducible refine r_seq ?_ | with_reducible refine r_asg ?_ | with_reducible refine r_name ?_
  | ((with_reducible refine' r_var ?k1 ?_); (case k1 => exact rfl))
  | with_reducible refine r_c ?_ | with_reducible refine r_op ?_ | with_reducible refine r_un ?_ | with_reducible refine r_cb ?_ | with_reducible refine r_nil ?_ | with_reducible refine r_cons ?_
  | with_reducible refine r_call ?_ | with_reducible refine r_ret ?_ | with_reducible refine r_drop ?_ | with_reducible refine r_ifs ?_ | with_reducible refine r_ife ?_ | with_reducible refine r_next ?_
  | with_reducible refine r_test ?_ | with_reducible refine r_tB ?_ | with_reducible refine r_bl ?_ | with_reducible refine r_blx ?_ | with_reducible refine r_tnot ?_ | with_reducible refine r_tand ?_ | with_reducible refine r_tor ?_
  | with_reducible refine r_not ?_ | with_reducible refine r_and ?_ | with_reducible refine r_or ?_ | with_reducible refine r_I0 ?_ | with_reducible refine r_U ?_
  | with_reducible refine r_eqS ?_ | with_reducible refine r_eqI ?_ | with_reducible refine r_neS ?_ | with_reducible refine r_neI ?_ | with_reducible refine r_chain ?_
  | ((with_reducible refine' r_gtup ?k1 ?k2 ?_); (case k1 => walk_at "tk"); (case k2 => exact rfl))
  | with_reducible refine r_gcons ?_ | with_reducible refine r_gnil ?_
  | ((with_reducible refine' r_ixT ?k1 ?k2 ?_); (case k1 => walk_at "tk"); (case k2 => exact rfl))
  | ((with_reducible refine' r_ixL ?k1 ?k2 ?_); (case k1 => walk_at "tk"); (case k2 => exact rfl))
  | with_reducible refine r_tup ?_ | with_reducible refine r_lst ?_ | with_reducible refine iteT ?_ | with_reducible refine iteF ?_
  | ((with_reducible refine' r_wipe ?k1 ?_); (case k1 => exact rfl)) | with_reducible refine r_tyes ?_
  | ((with_reducible refine' r_lenT ?k1 ?_); (case k1 => walk_at "tk")) | ((with_reducible refine' r_lenL ?k1 ?_); (case k1 => walk_at "tk"))
  | with_reducible refine r_fld ?_ | with_reducible refine r_sfld ?_ | with_reducible refine r_gfld ?_ | with_reducible refine r_meth ?_
  | ((with_reducible refine' r_fld1 ?k1 ?k2 ?k3 ?k4 ?_); (case k1 => walk_at "hp"); (case k2 => assumption); (case k3 => assumption); (case k4 => walk_at "lk"))
  | ((with_reducible refine' r_sfld1 ?k1 ?k2 ?k3 ?k4 ?_); (case k1 => walk_at "hp"); (case k2 => assumption); (case k3 => assumption); (case k4 => exact Nat.lt_of_le_of_lt (Nat.le_of_ble_eq_true rfl) (by decide : 10 < 1000)))
  | ((with_reducible refine' r_gfld1 ?k1 ?k2 ?k3 ?k4 ?_); (case k1 => walk_at "hp"); (case k2 => assumption); (case k3 => assumption); (case k4 => exact Nat.lt_of_le_of_lt (Nat.le_of_ble_eq_true rfl) (by decide : 10 < 1000)))
  | with_reducible refine r_ks ?_ | with_reducible refine r_kq ?_
  | ((with_reducible refine' r_meth1 ?k1 ?k2 ?_); (case k1 => walk_at "hp"); (case k2 => kernel_rfl))
  | with_reducible refine r_kb ?_ | with_reducible refine r_tru ?_ | with_reducible refine r_bm0 ?_ | with_reducible refine r_bm ?_
  | ((with_reducible refine' r_tyL ?k1 ?_); (case k1 => walk_at "hp"))
  | with_reducible refine r_sdput ?_ | with_reducible refine r_dget ?_ | with_reducible refine r_din ?_ | with_reducible refine r_dnin ?_ | with_reducible refine r_dpop ?_
  | ((with_reducible refine' r_dpop0 ?k1 ?_); (case k1 => walk_at "hp"))
  | ((with_reducible refine' r_strY ?k1 ?_); (case k1 => decide +kernel)) | ((with_reducible refine' r_strN ?k1 ?_); (case k1 => decide +kernel))
  | ((with_reducible refine' r_nstrY ?k1 ?_); (case k1 => decide +kernel)) | ((with_reducible refine' r_nstrN ?k1 ?_); (case k1 => decide +kernel))
  | with_reducible refine r_gcd ?_ | with_reducible refine r_par ?_ | with_reducible refine r_par1 ?_
  | with_reducible refine r_make ?_ | with_reducible refine r_orJ ?_
  | with_reducible refine r_isN ?_ | with_reducible refine r_notN ?_
  | with_reducible refine r_abs ?_ | with_reducible refine r_int ?_ | with_reducible refine r_min ?_ | with_reducible refine r_max ?_)
local macro_rules | `(tactic| walk_at "go") => `(tactic| repeat walk_at "st")
theorem inV_str (g : Str) : ∀ xs : List Str, inV (.str g) (xs.map V.str) = xs.any fun x => decide (x = g)
  | [] => rfl
  | x :: r => by
    show (eqV (V.str x) (V.str g) || inV (.str g) (r.map V.str)) = (decide (x = g) || r.any fun x => decide (x = g))
    rw [inV_str g r]
    show ((x == g) || _) = _
    by_cases h : x = g <;> simp [h]
theorem flat_strs (xs : List Str) : (xs.map V.str).all flatV = true := by
  rw [List.all_eq_true]
  intro v hv
  obtain ⟨x, _, rfl⟩ := List.mem_map.mp hv
  rfl
theorem Rule.not_pool {r : Rule} (h : ∀ m sh, r ≠ .pool m sh) : r.word ≠ "pool" := by
  cases r with
  | pool m sh => exact absurd rfl (h m sh)
  | window m l => exact (by decide +kernel : ("window" : Str) ≠ "pool")
  | span m l => exact (by decide +kernel : ("span" : Str) ≠ "pool")
  | bucket m l => exact (by decide +kernel : ("bucket" : Str) ≠ "pool")
  | gap t => exact (by decide +kernel : ("gap" : Str) ≠ "pool")
  | held m => exact (by decide +kernel : ("held" : Str) ≠ "pool")

def spLooks (K : PySem.W.Frag) : Sp := fun vs H Q _ => ∃ (a : Addr) (L : Lim) (g : Str), vs = [.ref a, .str g] ∧ LimAt K H a L ∧ Small L ∧ ∀ H', Ex H H' → Q (.bl (looksB L g)) H'
def spCommon (K : PySem.W.Frag) : Sp := fun vs H Q _ => ∃ (a : Addr) (nm : Str) (gs : List Str) (m : Int) (sh : List Sh), vs = [.ref a] ∧ LimAt K H a ⟨nm, gs, .pool m sh⟩ ∧ sh.length ≤ 8 ∧ ∀ H', Ex H H' → Q (.int (common m sh)) H'
def spShare (K : PySem.W.Frag) : Sp := fun vs H Q _ => ∃ (a : Addr) (nm : Str) (gs : List Str) (m : Int) (sh : List Sh) (g : Str), vs = [.ref a, .str g] ∧ LimAt K H a ⟨nm, gs, .pool m sh⟩ ∧
  ∀ p H', Ex H H' → SqT K H' p [.int (shareFor sh g).1, .int (shareFor sh g).2] → Q (.ref p) H'
def spMostUsed (K : PySem.W.Frag) : Sp := fun vs H Q _ => ∃ (a : Addr) (nm : Str) (gs : List Str) (m : Int) (sh : List Sh) (g : Str), vs = [.ref a, .str g] ∧ LimAt K H a ⟨nm, gs, .pool m sh⟩ ∧ sh.length ≤ 8 ∧ ∀ H', Ex H H' → Q (.int (mostUsed m sh g)) H'
section
variable {P : Program} {w : World} {K : PySem.W.Frag} {mg : Str → Option Value} {base : Heap}
abbrev sc_looks_at_N : List Str := ["limit", "group", "_", "word", "groups", "numbers", "share"]
theorem sc_looks_at : FnScope ["limit", "group", "_", "word", "groups", "numbers", "share"] ["limit", "group"] (defScope s_looks_at) := ⟨rfl, rfl, rfl, by decide +kernel, rfl, by decide +kernel, by decide +kernel⟩
theorem ok_looks_at (T : Tx w K mg) : OkD P w K mg base ("looks_at", none) 1 ["limit", "group"] (spLooks K) := by
  refine (T.fd_looks_at).ok sc_looks_at (fun vs H Q E h => ?_) (fun cdv A outer s H vs Q E hr h => ?_)
  · obtain ⟨a, L, g, rfl, _⟩ := h
    rfl
  · obtain ⟨a, L, g, rfl, ⟨ga, na, h1, h2, h3⟩, sm, k⟩ := h
    refine ⟨_, (PSs.nox (pss_cons (ps_asg (pv 0) (pg_tup rfl (pgs_cons (pg_name (i := 2) sc_looks_at.nd rfl (Or.inl rfl)) (pgs_cons (pg_name (i := 3) sc_looks_at.nd rfl (Or.inl rfl)) (pgs_cons (pg_name (i := 4) sc_looks_at.nd rfl (Or.inl rfl)) (pgs_cons (pg_name (i := 5) sc_looks_at.nd rfl (Or.inl rfl)) pgs_nil))))))
    (pss_cons (ps_if (pt_cmpR op_eq (pv 3) pe_str (nomark _)) (pss_one (ps_ret (pe_cmpR (r := rIn K false) op_in_seq (pv 1) (pe_lc (own := [("share", 6)]) rfl sc_looks_at.nd (pi_tup (pe_ix (r := rIxT K) ix_tup (pv 5) pe_int (fun _ _ => rfl))) (blkOk_by (own := [("share", 6)]) (N := sc_looks_at_N) (sc := defScope s_looks_at) (by decide +kernel)) (fun _ _ _ _ _ => (pg_name (i := 6) sc_looks_at.nd rfl (Or.inl rfl))) (fun _ _ _ _ _ => pts_nil) (fun _ _ _ _ _ => (pe_ix (r := rIxT K) ix_tup (pv 6) pe_int (fun _ _ => rfl)))) (by rfl)))) pss_nil)
    (pss_one (ps_ret (pe_or (pe_cmpR op_eq (pe_callB (r := rLenJ K) cr_lenJ (by rfl) T.f_len PySem.boot_len (pa_cons (pv 4) pa_nil)) pe_int (nomark _)) (pe_one (pe_cmpR (r := rIn K false) op_in_seq (pv 1) (pv 4) (by rfl))))))))), ?_⟩
    walk_at "go"
    by_cases hp : ∃ m sh, L.rule = .pool m sh
    · obtain ⟨m, sh, hp⟩ := hp
      have hl := sm.s m sh hp
      rw [hp] at h3
      obtain ⟨sa, h4, ps, h5, h6, h7⟩ := h3
      have hw : L.word = "pool" := by
        show L.rule.word = _
        rw [hp] <;> rfl
      have hk : looksB L g = sh.any fun s => decide (s.1 = g) := by
        unfold looksB
        rw [hp]
      rw [hk] at k
      rw [dstr]
      refine r_yes hw ?_
      walk_at "go"
      refine lc_T1 (L := ps) (ev := fun p => .ref p.1) (f := fun p => .str p.2.1) (by rw [← List.length_map (f := fun p : Addr × Sh => p.2), h5]; omega) h6
        (fun Q' q => ?_) (fun x hx H' e Kt Kf kt => ?_) (fun D H' hD e hd => ?_)
      · walk_at "go"
        exact q
      · have hs := e.t (h7 x hx)
        walk_at "go"
        exact kt _ Ex.rf
      · have e1 : ps.map (fun p => V.str p.2.1) = (sh.map fun s => s.1).map V.str := by
          rw [← h5, List.map_map, List.map_map]
          rfl
        rw [e1] at hd
        refine r_inL (.inl (.inl hd)) rfl (flat_strs _) ?_
        show Q (.bl (inV (.str g) ((sh.map fun s => s.1).map V.str))) H'
        rw [inV_str, List.any_map]
        exact k H' e
    · have hw : L.word ≠ "pool" := Rule.not_pool fun m sh q => hp ⟨m, sh, q⟩
      have hk : looksB L g = (L.groups.isEmpty || L.groups.any fun x => decide (x = g)) := by
        unfold looksB
        split
        · rename_i m sh q
          exact absurd ⟨m, sh, q⟩ hp
        · rfl
      rw [hk] at k
      rw [dstr]
      refine r_no hw ?_
      walk_at "go"
      rw [List.length_map]
      refine r_d2 (fun q => ?_) (fun q => ?_)
      · have q1 := V.int.inj q
        have e1 : L.groups.isEmpty = true := by
          rw [List.isEmpty_iff_length_eq_zero]
          omega
        rw [e1] at k
        exact k H Ex.rf
      · have e1 : L.groups.isEmpty = false := by
          cases z : L.groups.isEmpty with
          | false => rfl
          | true =>
            rw [List.isEmpty_iff_length_eq_zero] at z
            rw [z] at q
            exact absurd rfl q
        rw [e1] at k
        walk_at "go"
        refine r_inT h2 rfl (flat_strs _) ?_
        show Q (.bl (inV (.str g) (L.groups.map .str))) H
        rw [inV_str]
        exact k H Ex.rf
abbrev sc_common_of_N : List Str := ["limit", "most", "shares", "share"]
theorem sc_common_of : FnScope ["limit", "most", "shares", "share"] ["limit"] (defScope s_common_of) := ⟨rfl, rfl, rfl, by decide +kernel, rfl, by decide +kernel, by decide +kernel⟩
theorem ok_common_of (T : Tx w K mg) : OkD P w K mg base ("common_of", none) 1 ["limit"] (spCommon K) := by
  refine (T.fd_common_of).ok sc_common_of (fun vs H Q E h => ?_) (fun cdv A outer s H vs Q E hr h => ?_)
  · obtain ⟨a, nm, gs, m, sh, rfl, _⟩ := h
    rfl
  · obtain ⟨a, nm, gs, m, sh, rfl, ⟨ga, na, h1, h2, sa, h4, ps, h5, h6, h7⟩, hl, k⟩ := h
    refine ⟨_, (PSs.nox (pss_cons (ps_asg (pe_ix (r := rIxT K) ix_tup (pv 0) pe_int (fun _ _ => rfl)) (pg_tup rfl (pgs_cons (pg_name (i := 1) sc_common_of.nd rfl (Or.inl rfl)) (pgs_cons (pg_name (i := 2) sc_common_of.nd rfl (Or.inl rfl)) pgs_nil))))
    (pss_one (ps_ret (pe_op op_sub (pv 1) (pe_callB (r := rSum K) (cr_sum rfl) (by rfl) T.f_sum (by decide +kernel) (pa_cons (pe_lc (own := [("share", 3)]) rfl sc_common_of.nd (pi_tup (pv 2)) (blkOk_by (own := [("share", 3)]) (N := sc_common_of_N) (sc := defScope s_common_of) (by decide +kernel)) (fun _ _ _ _ _ => (pg_name (i := 3) sc_common_of.nd rfl (Or.inl rfl))) (fun _ _ _ _ _ => pts_nil) (fun _ _ _ _ _ => (pe_ix (r := rIxT K) ix_tup (pv 3) pe_int (fun _ _ => rfl)))) pa_nil))))))), ?_⟩
    walk_at "go"
    refine lc_T1 (L := ps) (ev := fun p => .ref p.1) (f := fun p => .int p.2.2.1) (by rw [← List.length_map (f := fun p : Addr × Sh => p.2), h5]; omega) h6
      (fun Q' q => ?_) (fun x hx H' e Kt Kf kt => ?_) (fun D H' hD e hd => ?_)
    · walk_at "go"
      exact q
    · have hs := e.t (h7 x hx)
      walk_at "go"
      exact kt _ Ex.rf
    · have e1 : ps.map (fun p => V.int p.2.2.1) = (sh.map fun s => s.2.1).map V.int := by
        rw [← h5, List.map_map, List.map_map]
        rfl
      rw [e1] at hd
      walk_at "go"
      refine r_sum (.inl (.inl hd)) ?_
      walk_at "go"
      exact k H' e
end
end Lw
end
section
set_option maxRecDepth 100000
set_option maxHeartbeats 4000000
namespace Lw
open PySem PySem.Spec PyProof.Rows L2
local macro_rules | `(tactic| walk_at "hp") => `(tactic| first | assumption | exact upd_same | exact (by assumption : Ex _ _) _ _ (by assumption))
local macro_rules | `(tactic| walk_at "lk") => `(tactic| fail "no look-up")
local macro_rules | `(tactic| walk_at "tk") => `(tactic| first | assumption | exact Ex.t (by assumption) (by assumption) | exact Ex.l (by assumption) (by assumption) | exact .inl (.inl (by assumption)))
local macro_rules | `(tactic| walk_at "st") => `(tactic| first
  | with_reducible refine r_seq ?_ | with_reducible refine r_asg ?_ | with_reducible refine r_name ?_
  | ((with_reducible refine' r_var ?k1 ?_); (case k1 => exact rfl))
  | with_reducible refine r_c ?_ | with_reducible refine r_op ?_ | with_reducible refine r_un ?_ | with_reducible refine r_cb ?_ | with_reducible refine r_nil ?_ | with_reducible refine r_cons ?_
  | with_reducible refine r_call ?_ | with_reducible refine r_ret ?_ | with_reducible refine r_drop ?_ | with_reducible refine r_ifs ?_ | with_reducible refine r_ife ?_ | with_reducible refine r_next ?_
  | with_reducible refine r_test ?_ | with_reducible refine r_tB ?_ | with_reducible refine r_bl ?_ | with_reducible refine r_blx ?_ | with_reducible refine r_tnot ?_ | with_reducible refine r_tand ?_ | with_reducible refine r_tor ?_
  | with_reducible refine r_not ?_ | with_reducible refine r_and ?_ | with_reducible refine r_or ?_ | with_reducible refine r_I0 ?_ | with_reducible refine r_U ?_
  | with_reducible refine r_eqS ?_ | with_reducible refine r_eqI ?_ | with_reducible refine r_neS ?_ | with_reducible refine r_neI ?_ | with_reducible refine r_chain ?_
  | ((with_reducible refine' r_gtup ?k1 ?k2 ?_); (case k1 => walk_at "tk"); (case k2 => exact rfl))
  | with_reducible refine r_gcons ?_ | with_reducible refine r_gnil ?_
  | ((with_reducible refine' r_ixT ?k1 ?k2 ?_); (case k1 => walk_at "tk"); (case k2 => exact rfl))
  | ((with_reducible refine' r_ixL ?k1 ?k2 ?_); (case k1 => walk_at "tk"); (case k2 => exact rfl))
  | with_reducible refine r_tup ?_ | with_reducible refine r_lst ?_ | with_reducible refine iteT ?_ | with_reducible refine iteF ?_
  | ((with_reducible refine' r_wipe ?k1 ?_); (case k1 => exact rfl)) | with_reducible refine r_tyes ?_
  | ((with_reducible refine' r_lenT ?k1 ?_); (case k1 => walk_at "tk")) | ((with_reducible refine' r_lenL ?k1 ?_); (case k1 => walk_at "tk"))
  | with_reducible refine r_fld ?_ | with_reducible refine r_sfld ?_ | with_reducible refine r_gfld ?_ | with_reducible refine r_meth ?_
  | ((with_reducible refine' r_fld1 ?k1 ?k2 ?k3 ?k4 ?_); (case k1 => walk_at "hp"); (case k2 => assumption); (case k3 => assumption); (case k4 => walk_at "lk"))
  | ((with_reducible refine' r_sfld1 ?k1 ?k2 ?k3 ?k4 ?_); (case k1 => walk_at "hp"); (case k2 => assumption); (case k3 => assumption); (case k4 => exact Nat.lt_of_le_of_lt (Nat.le_of_ble_eq_true rfl) (by decide : 10 < 1000)))
  | ((with_reducible refine' r_gfld1 ?k1 ?k2 ?k3 ?k4 ?_); (case k1 => walk_at "hp"); (case k2 => assumption); (case k3 => assumption); (case k4 => exact Nat.lt_of_le_of_lt (Nat.le_of_ble_eq_true rfl) (by decide : 10 < 1000)))
  | with_reducible refine r_ks ?_ | with_reducible refine r_kq ?_
  | ((with_reducible refine' r_meth1 ?k1 ?k2 ?_); (case k1 => walk_at "hp"); (case k2 => kernel_rfl))
  | with_reducible refine r_kb ?_ | with_reducible refine r_tru ?_ | with_reducible refine r_bm0 ?_ | with_reducible refine r_bm ?_
  | ((with_reducible refine' r_tyL ?k1 ?_); (case k1 => walk_at "hp"))
  | with_reducible refine r_sdput ?_ | with_reducible refine r_dget ?_ | with_reducible refine r_din ?_ | with_reducible refine r_dnin ?_ | with_reducible refine r_dpop ?_
  | ((with_reducible refine' r_dpop0 ?k1 ?_); (case k1 => walk_at "hp"))
  | ((with_reducible refine' r_strY ?k1 ?_); (case k1 => decide +kernel)) | ((with_reducible refine' r_strN ?k1 ?_); (case k1 => decide +kernel))
  | ((with_reducible refine' r_nstrY ?k1 ?_); (case k1 => decide +kernel)) | ((with_reducible refine' r_nstrN ?k1 ?_); (case k1 => decide +kernel))
  | with_reducible refine r_gcd ?_ | with_reducible refine r_par ?_ | with_reducible refine r_par1 ?_
  | with_reducible refine r_make ?_ | with_reducible refine r_orJ ?_
  | with_reducible refine r_isN ?_ | with_reducible refine r_notN ?_
  | with_reducible refine r_abs ?_ | with_reducible refine r_int ?_ | with_reducible refine r_min ?_ | with_reducible refine r_max ?_)
local macro_rules | `(tactic| walk_at "go") => `(tactic| repeat walk_at "st")
section
variable {P : Program} {w : World} {K : PySem.W.Frag} {mg : Str → Option Value} {base : Heap}
abbrev sc_share_for_N : List Str := ["limit", "group", "name", "own", "ceiling"]
theorem sc_share_for : FnScope ["limit", "group", "name", "own", "ceiling"] ["limit", "group"] (defScope s_share_for) := ⟨rfl, rfl, rfl, by decide +kernel, rfl, by decide +kernel, by decide +kernel⟩
theorem ok_share_for (T : Tx w K mg) : OkD P w K mg base ("share_for", none) 1 ["limit", "group"] (spShare K) := by
  refine (T.fd_share_for).ok sc_share_for (fun vs H Q E h => ?_) (fun cdv A outer s H vs Q E hr h => ?_)
  · obtain ⟨a, nm, gs, m, sh, g, rfl, _⟩ := h
    rfl
  · obtain ⟨a, nm, gs, m, sh, g, rfl, ⟨ga, na, h1, h2, sa, h4, ps, h5, h6, h7⟩, k⟩ := h
    refine ⟨_, (PSs.nox (pss_cons (ps_for PassesOwn.never rfl (pi_tup (pe_ix (r := rIxT K) ix_tup (pe_ix (r := rIxT K) ix_tup (pv 0) pe_int (fun _ _ => rfl)) pe_int (fun _ _ => rfl))) (pg_tup rfl (pgs_cons (pg_name (i := 2) sc_share_for.nd rfl (Or.inl rfl)) (pgs_cons (pg_name (i := 3) sc_share_for.nd rfl (Or.inl rfl)) (pgs_cons (pg_name (i := 4) sc_share_for.nd rfl (Or.inl rfl)) pgs_nil))))
    (pss_one (ps_if (pt_cmpR op_eq (pv 2) (pv 1) (nomark _)) (pss_one (ps_ret (pe_tup (pa_cons (pv 3) (pa_cons (pv 4) pa_nil))))) pss_nil)))
    (pss_one (ps_ret (pe_tup (pa_cons pe_int (pa_cons pe_int pa_nil))))))), ?_⟩
    walk_at "go"
    refine fo_T (L := ps) (ev := fun p => .ref p.1) (fun i σ' H' => Ex H H' ∧ (∀ s ∈ ps.take i, s.2.1 ≠ g) ∧ ∃ u v z, σ' = [some (.ref a), some (.str g), u, v, z]) h6
      (fun Q' q => ?_) ⟨Ex.rf, (fun s hs => by simp at hs), none, none, none, rfl⟩ (fun i σ' H' p => p.1.tu) ?_ ?_
    · walk_at "go"
      exact q
    · rintro i x σ' H' hi ⟨e, hn, u, v, z, rfl⟩
      have hx := List.mem_of_getElem? hi
      have hs := e.t (h7 x hx)
      have tk : ps.take (i + 1) = ps.take i ++ [x] := by rw [List.take_add_one, hi] <;> rfl
      walk_at "go"
      rw [dstr]
      refine r_d2 (fun q => ?_) (fun q => ?_)
      · walk_at "go"
        refine r_newT (fun p H1 n1 e1 hp => ?_)
        refine k p H1 (e.tr e1) ?_
        have e2 : sh.find? (fun s => decide (s.1 = g)) = some x.2 := by
          rw [← h5, List.find?_map]
          have e3 : ps.find? ((fun s => decide (s.1 = g)) ∘ fun x => x.2) = some x := by
            have e4 : ps = ps.take i ++ x :: ps.drop (i + 1) := by
              rw [← List.singleton_append, ← List.append_assoc, ← tk, List.take_append_drop]
            rw [e4, List.find?_append, List.find?_eq_none.mpr ?_]
            · rw [Option.none_or, List.find?_cons_of_pos]
              exact decide_eq_true q
            · intro s hs'
              have := hn s hs'
              simp only [Function.comp]
              simp [this]
          rw [e3] <;> rfl
        unfold shareFor
        rw [e2]
        exact .inl (.inl hp)
      · walk_at "go"
        refine ⟨e, fun s hs' => ?_, _, _, _, rfl⟩
        rw [tk] at hs'
        rcases List.mem_append.mp hs' with z | z
        · exact hn s z
        · rw [List.mem_singleton.mp z]
          exact q
    · rintro σ' H' ⟨e, hn, u, v, z, rfl⟩
      rw [List.take_length] at hn
      walk_at "go"
      refine r_newT (fun p H1 n1 e1 hp => ?_)
      refine k p H1 (e.tr e1) ?_
      have e2 : sh.find? (fun s => decide (s.1 = g)) = none := by
        rw [← h5, List.find?_eq_none]
        intro s hs'
        obtain ⟨x, hx, rfl⟩ := List.mem_map.mp hs'
        have := hn x hx
        simp [this]
      unfold shareFor
      rw [e2]
      exact .inl (.inl hp)
abbrev sc_most_used_N : List Str := ["limit", "group", "own", "ceiling"]
theorem sc_most_used : FnScope ["limit", "group", "own", "ceiling"] ["limit", "group"] (defScope s_most_used) := ⟨rfl, rfl, rfl, by decide +kernel, rfl, by decide +kernel, by decide +kernel⟩
theorem ok_most_used (T : Tx w K mg) : OkD P w K mg base ("most_used", none) 2 ["limit", "group"] (spMostUsed K) := by
  refine (T.fd_most_used).ok sc_most_used (fun vs H Q E h => ?_) (fun cdv A outer s H vs Q E hr h => ?_)
  · obtain ⟨a, nm, gs, m, sh, g, rfl, _⟩ := h
    rfl
  · obtain ⟨a, nm, gs, m, sh, g, rfl, hL, hl, k⟩ := h
    refine ⟨_, (PSs.nox (pss_cons (ps_asg (pe_call ((ok_share_for T).mono (by decide)) hr (by rfl) T.g_share_for T.fd_share_for.kp T.bd_share_for .nil pass0 (pa_cons (pv 0) (pa_cons (pv 1) pa_nil))) (pg_tup rfl (pgs_cons (pg_name (i := 2) sc_most_used.nd rfl (Or.inl rfl)) (pgs_cons (pg_name (i := 3) sc_most_used.nd rfl (Or.inl rfl)) pgs_nil))))
    (pss_one (ps_ret (pe_callB (cr_minJ rfl) (by rfl) T.f_min (by decide +kernel) (pa_cons (pv 3) (pa_cons (pe_op op_add (pv 2) (pe_call ((ok_common_of T).mono (by decide)) hr (by rfl) T.g_common_of T.fd_common_of.kp T.bd_common_of .nil pass0 (pa_cons (pv 0) pa_nil))) pa_nil))))))), ?_⟩
    walk_at "go"
    refine ⟨a, nm, gs, m, sh, g, rfl, hL, fun p H1 e1 hp => ?_⟩
    walk_at "go"
    refine ⟨a, nm, gs, m, sh, rfl, e1.lim hL, hl, fun H2 e2 => ?_⟩
    walk_at "go"
    exact k H2 (e1.tr e2)
end
end Lw
end
section
set_option maxRecDepth 100000
set_option maxHeartbeats 4000000
namespace Lw
open PySem PySem.Spec PyProof.Rows L2
local macro_rules | `(tactic| walk_at "hp") => `(tactic| first | assumption | exact upd_same | exact (by assumption : Ex _ _) _ _ (by assumption))
local macro_rules | `(tactic| walk_at "lk") => `(tactic| fail "no look-up")
local macro_rules | `(tactic| walk_at "tk") => `(tactic| first | assumption | exact Ex.t (by assumption) (by assumption) | exact Ex.l (by assumption) (by assumption) | exact .inl (.inl (by assumption)))
local macro_rules | `(tactic| walk_at "st") => `(tactic| first
  | with_reducible refine r_seq ?_ | with_reducible refine r_asg ?_ | with_reducible refine r_name ?_
  | ((with_reducible refine' r_var ?k1 ?_); (case k1 => exact rfl))
  | with_reducible refine r_c ?_ | with_reducible refine r_op ?_ | with_reducible refine r_un ?_ | with_reducible refine r_cb ?_ | with_reducible refine r_nil ?_ | with_reducible refine r_cons ?_
  | with_reducible refine r_call ?_ | with_reducible refine r_ret ?_ | with_reducible refine r_drop ?_ | with_reducible refine r_ifs ?_ | with_reducible refine r_ife ?_ | with_reducible refine r_next ?_
  | with_reducible refine r_test ?_ | with_reducible refine r_tB ?_ | with_reducible refine r_bl ?_ | with_reducible refine r_blx ?_ | with_reducible refine r_tnot ?_ | with_reducible refine r_tand ?_ | with_reducible refine r_tor ?_
  | with_reducible refine r_not ?_ | with_reducible refine r_and ?_ | with_reducible refine r_or ?_ | with_reducible refine r_I0 ?_ | with_reducible refine r_U ?_
  | with_reducible refine r_eqS ?_ | with_reducible refine r_eqI ?_ | with_reducible refine r_neS ?_ | with_reducible refine r_neI ?_ | with_reducible refine r_chain ?_
  | ((with_reducible refine' r_gtup ?k1 ?k2 ?_); (case k1 => walk_at "tk"); (case k2 => exact rfl))
  | with_reducible refine r_gcons ?_ | with_reducible refine r_gnil ?_
  | ((with_reducible refine' r_ixT ?k1 ?k2 ?_); (case k1 => walk_at "tk"); (case k2 => exact rfl))
  | ((with_reducible refine' r_ixL ?k1 ?k2 ?_); (case k1 => walk_at "tk"); (case k2 => exact rfl))
  | with_reducible refine r_tup ?_ | with_reducible refine r_lst ?_ | with_reducible refine iteT ?_ | with_reducible refine iteF ?_
  | ((with_reducible refine' r_wipe ?k1 ?_); (case k1 => exact rfl)) | with_reducible refine r_tyes ?_
  | ((with_reducible refine' r_lenT ?k1 ?_); (case k1 => walk_at "tk")) | ((with_reducible refine' r_lenL ?k1 ?_); (case k1 => walk_at "tk"))
  | with_reducible refine r_fld ?_ | with_reducible refine r_sfld ?_ | with_reducible refine r_gfld ?_ | with_reducible refine r_meth ?_
  | ((with_reducible refine' r_fld1 ?k1 ?k2 ?k3 ?k4 ?_); (case k1 => walk_at "hp"); (case k2 => assumption); (case k3 => assumption); (case k4 => walk_at "lk"))
  | ((with_reducible refine' r_sfld1 ?k1 ?k2 ?k3 ?k4 ?_); (case k1 => walk_at "hp"); (case k2 => assumption); (case k3 => assumption); (case k4 => exact Nat.lt_of_le_of_lt (Nat.le_of_ble_eq_true rfl) (by decide : 10 < 1000)))
  | ((with_reducible refine' r_gfld1 ?k1 ?k2 ?k3 ?k4 ?_); (case k1 => walk_at "hp"); (case k2 => assumption); (case k3 => assumption); (case k4 => exact Nat.lt_of_le_of_lt (Nat.le_of_ble_eq_true rfl) (by decide : 10 < 1000)))
  | with_reducible refine r_ks ?_ | with_reducible refine r_kq ?_
  | ((with_reducible refine' r_meth1 ?k1 ?k2 ?_); (case k1 => walk_at "hp"); (case k2 => kernel_rfl))
  | with_reducible refine r_kb ?_ | with_reducible refine r_tru ?_ | with_reducible refine r_bm0 ?_ | with_reducible refine r_bm ?_
  | ((with_reducible refine' r_tyL ?k1 ?_); (case k1 => walk_at "hp"))
  | with_reducible refine r_sdput ?_ | with_reducible refine r_dget ?_ | with_reducible refine r_din ?_ | with_reducible refine r_dnin ?_ | with_reducible refine r_dpop ?_
  | ((with_reducible refine' r_dpop0 ?k1 ?_); (case k1 => walk_at "hp"))
  | ((with_reducible refine' r_strY ?k1 ?_); (case k1 => decide +kernel)) | ((with_reducible refine' r_strN ?k1 ?_); (case k1 => decide +kernel))
  | ((with_reducible refine' r_nstrY ?k1 ?_); (case k1 => decide +kernel)) | ((with_reducible refine' r_nstrN ?k1 ?_); (case k1 => decide +kernel))
  | with_reducible refine r_gcd ?_ | with_reducible refine r_par ?_ | with_reducible refine r_par1 ?_
  | with_reducible refine r_make ?_ | with_reducible refine r_orJ ?_
  | with_reducible refine r_isN ?_ | with_reducible refine r_notN ?_
  | with_reducible refine r_abs ?_ | with_reducible refine r_int ?_ | with_reducible refine r_min ?_ | with_reducible refine r_max ?_)
local macro_rules | `(tactic| walk_at "go") => `(tactic| repeat walk_at "st")
theorem fsW_limit {la sl : Addr} {m l : Int} : (fsW la m l sl).lookup ("limit" : Str) = some (V.ref la) := by kernel_rfl
theorem fsW_most {la sl : Addr} {m l : Int} : (fsW la m l sl).lookup ("_most" : Str) = some (V.int m) := by kernel_rfl
theorem fsW_length {la sl : Addr} {m l : Int} : (fsW la m l sl).lookup ("_length" : Str) = some (V.int l) := by kernel_rfl
theorem fsW_sums {la sl : Addr} {m l : Int} : (fsW la m l sl).lookup ("_sums" : Str) = some (V.ref sl) := by kernel_rfl
theorem fsW_put {la sl s2 : Addr} {m l : Int} : putF "_sums" (.ref s2) (fsW la m l sl) = fsW la m l s2 := by kernel_rfl
theorem fsW_init {la sl : Addr} {m l : Int} : putF "_sums" (.ref sl) (putF "_length" (.int l) (putF "_most" (.int m) (putF "limit" (.ref la) []))) = fsW la m l sl := by kernel_rfl
local macro_rules | `(tactic| walk_at "lk") => `(tactic| first | with_reducible exact fsW_limit | with_reducible exact fsW_most | with_reducible exact fsW_length | with_reducible exact fsW_sums)
/-! ### the promises of a meter's methods -/
def StOk (L : Lim) : MSt → Prop
  | .window sums => sums.length ≤ 1000
  | .pool costs uses => (∀ m sh, L.rule = .pool m sh → uses.map (·.1) = sh.map (·.1)) ∧ ∀ x ∈ costs, ∀ m sh, L.rule = .pool m sh → x.2.1 ∈ sh.map (·.1)
  | _ => True
/-- a new meter: it stands in every heap that has its new objects -/
def NewAt (K : PySem.W.Frag) (H H' : Hp) (la m : Addr) (own : List Addr) (L : Lim) : Prop := ∀ H2 : Hp, (∀ b o, H' b = some o → (b = m ∨ H b = none) → H2 b = some o) → LimAt K H2 la L → MetAt K H2 m own L (initM L.rule)
def spInitM (K : PySem.W.Frag) (C wd : Str) : Sp := fun vs H Q _ => ∃ (m la dx : Addr) (L : Lim), vs = [.ref m, .ref la] ∧ H m = some (.ins (He.ga K C) dx []) ∧ LimAt K H la L ∧ L.word = wd ∧ WfL L ∧ ∀ H' own, Fr (fun b => b = m) H H' → (∀ b ∈ own, b = m ∨ H b = none) → NewAt K H H' la m own L → Q .non H'
def spRoom (K : PySem.W.Frag) (wd : Str) : Sp := fun vs H Q _ => ∃ (m : Addr) (own : List Addr) (L : Lim) (s : MSt) (t : Int) (g : Str) (c : Int), vs = [.ref m, .int t, .str g, .int c] ∧ MetAt K H m own L s ∧ L.word = wd ∧ WfL L ∧ StOk L s ∧ ∀ H', Ex H H' → Q (.bl (roomM L s t g c)) H'
def spEarly (K : PySem.W.Frag) (wd : Str) : Sp := fun vs H Q _ => ∃ (m : Addr) (own : List Addr) (L : Lim) (s : MSt) (t : Int) (g : Str) (c : Int), vs = [.ref m, .int t, .str g, .int c] ∧ MetAt K H m own L s ∧ L.word = wd ∧ WfL L ∧ StOk L s ∧ ∀ H', Ex H H' → Q (optV (earlyM L s t g c)) H'
def Fresh (k : Str) : MSt → Prop
  | .held costs _ => (∀ x ∈ costs, x.1 ≠ k) ∧ costs.length ≤ 1000
  | .pool costs _ => (∀ x ∈ costs, x.1 ≠ k) ∧ costs.length ≤ 1000
  | _ => True
def spLet (K : PySem.W.Frag) (wd : Str) : Sp := fun vs H Q _ => ∃ (m : Addr) (own : List Addr) (L : Lim) (s : MSt) (t : Int) (g : Str) (c : Int) (k : Str), vs = [.ref m, .int t, .str g, .int c, .str k] ∧ MetAt K H m own L s ∧ L.word = wd ∧ WfL L ∧ StOk L s ∧ Fresh k s ∧
  ∀ H', Fr (fun b => b ∈ own) H H' → MetAt K H' m own L (letM L s t g c k) → Q .non H'
def spRel (K : PySem.W.Frag) (wd : Str) : Sp := fun vs H Q _ => ∃ (m : Addr) (own : List Addr) (L : Lim) (s : MSt) (k : Str) (t : Int), vs = [.ref m, .str k, .int t] ∧ MetAt K H m own L s ∧ L.word = wd ∧ WfL L ∧ StOk L s ∧
  ∀ b H', Fr (fun b => b ∈ own) H H' → MetAt K H' m own L (relM s k) → Q (.bl b) H'
def spSince (K : PySem.W.Frag) : Sp := fun vs H Q _ => ∃ (m dx la sl : Addr) (a b t : Int) (rows : List (Addr × (Int × Int))), vs = [.ref m, .int t] ∧ H m = some (.ins (He.ga K "WindowMeter") dx (fsW la a b sl)) ∧ H sl = some (.lst (rows.map fun r => .ref r.1)) ∧ (∀ r ∈ rows, SqT K H r.1 [.int r.2.1, .int r.2.2]) ∧ rows.length ≤ 1000 ∧
  ∀ p H', H p = none → Ex H H' → H' p = some (.lst ((rows.filter fun r => decide (t - b < r.2.1)).map fun r => .ref r.1)) → Q (.ref p) H'
theorem rule_window {L : Lim} (h : L.word = "window") : ∃ a b, L.rule = .window a b := by
  obtain ⟨n, g, r⟩ := L
  cases r with
  | window a b => exact ⟨a, b, rfl⟩
  | span a b => exact absurd h (by decide +kernel : ("span" : Str) ≠ "window")
  | bucket a b => exact absurd h (by decide +kernel : ("bucket" : Str) ≠ "window")
  | gap a => exact absurd h (by decide +kernel : ("gap" : Str) ≠ "window")
  | held a => exact absurd h (by decide +kernel : ("held" : Str) ≠ "window")
  | pool a b => exact absurd h (by decide +kernel : ("pool" : Str) ≠ "window")
section
variable {P : Program} {w : World} {K : PySem.W.Frag} {mg : Str → Option Value} {base : Heap}
abbrev sc_WindowMeter_init_N : List Str := ["self", "limit"]
theorem sc_WindowMeter_init : FnScope ["self", "limit"] ["self", "limit"] (defScope s_WindowMeter_init) := ⟨rfl, rfl, rfl, by decide +kernel, rfl, by decide +kernel, by decide +kernel⟩
theorem ok_WindowMeter_init (T : Tx w K mg) : OkD P w K mg base ("WindowMeter", some "__init__") 1 ["self", "limit"] (spInitM K "WindowMeter" "window") := by
  refine (T.fd_WindowMeter_init).ok sc_WindowMeter_init (fun vs H Q E h => ?_) (fun cdv A outer s H vs Q E hr h => ?_)
  · obtain ⟨m, la, dx, L, rfl, _⟩ := h
    rfl
  · obtain ⟨m, la, dx, L, rfl, hm, hL, hw, wf, k⟩ := h
    have hcl := T.cl_WindowMeter; have hno__length := T.no_WindowMeter__length; have hno__most := T.no_WindowMeter__most; have hno__sums := T.no_WindowMeter__sums; have hno_limit := T.no_WindowMeter_limit
    obtain ⟨a, b, hr⟩ := rule_window hw
    have hL0 := hL
    obtain ⟨ga, na, h1, h2, h3⟩ := hL
    rw [hr] at h3
    have h4 : SqT K H na [.int a, .int b] := h3
    have e1 : Fr (fun b => b = m) H (upd H m (.ins (He.ga K "WindowMeter") dx (putF "limit" (.ref la) []))) := Fr.wr hm (fun z => z) rfl
    refine ⟨_, (PSs.nox (pss_cons (ps_fld (pv 0) (pv 1) rfl)
    (pss_cons (ps_asg (pe_ix (r := rIxT K) ix_tup (pv 1) pe_int (fun _ _ => rfl)) (pg_tup rfl (pgs_cons (pg_fldA (pv 0)) (pgs_cons (pg_fldA (pv 0)) pgs_nil))))
    (pss_one (ps_fld (pv 0) (pe_lst pa_nil) rfl))))), ?_⟩
    walk_at "go"
    have h5 := e1.tu.t h1
    have h6 := e1.tu.t h4
    walk_at "go"
    refine r_newL (fun p H1 n1 e2 hp => ?_)
    rw [upd_upd, upd_upd] at e2
    have hm1 := e2 m _ upd_same
    walk_at "go"
    have np : p ≠ m := fun z => by
      rw [z, upd_same] at n1
      cases n1
    have n0 : H p = none := by
      rw [upd_ne np, upd_ne np, upd_ne np] at n1
      exact n1
    rw [fsW_init]
    have fr : Fr (fun b => b = m) H (upd H1 m (.ins (He.ga K "WindowMeter") dx (fsW la a b p))) := Fr.tr (Fr.wr hm id rfl) (Fr.tr (Ex.frm e2) (Fr.wr hm1 id rfl))
    refine k _ [m] fr (fun q hq => .inl (List.mem_singleton.mp hq)) (fun H9 g9 t9 => ⟨dx, la, t9, ?_⟩)
    · rw [hr]
      exact ⟨rfl, p, g9 _ _ upd_same (.inl rfl), [], rfl, g9 _ _ ((upd_ne np).trans hp) (.inr n0), fun r hr => nomatch hr⟩
abbrev sc_WindowMeter_sums_since_N : List Str := ["self", "moment", "row"]
theorem sc_WindowMeter_sums_since : FnScope ["self", "moment", "row"] ["self", "moment"] (defScope s_WindowMeter_sums_since) := ⟨rfl, rfl, rfl, by decide +kernel, rfl, by decide +kernel, by decide +kernel⟩
theorem ok_WindowMeter_sums_since (T : Tx w K mg) : OkD P w K mg base ("WindowMeter", some "sums_since") 1 ["self", "moment"] (spSince K) := by
  refine (T.fd_WindowMeter_sums_since).ok sc_WindowMeter_sums_since (fun vs H Q E h => ?_) (fun cdv A outer s H vs Q E hr h => ?_)
  · obtain ⟨m, dx, la, sl, a, b, t, rows, rfl, _⟩ := h
    rfl
  · obtain ⟨m, dx, la, sl, a, b, t, rows, rfl, hm, hs, hrs, hz, k⟩ := h
    have hcl := T.cl_WindowMeter; have hno__length := T.no_WindowMeter__length; have hno__most := T.no_WindowMeter__most; have hno__sums := T.no_WindowMeter__sums; have hno_limit := T.no_WindowMeter_limit
    refine ⟨_, (PSs.nox (pss_one (ps_ret (pe_lc (own := [("row", 2)]) rfl sc_WindowMeter_sums_since.nd (pi_list (show PE _ _ (tFld K _ _) from pe_fld (pv 0) rfl)) (blkOk_by (own := [("row", 2)]) (N := sc_WindowMeter_sums_since_N) (sc := defScope s_WindowMeter_sums_since) (by decide +kernel)) (fun _ _ _ _ _ => (pg_name (i := 2) sc_WindowMeter_sums_since.nd rfl (Or.inl rfl))) (fun _ _ _ _ _ => pts_one (pt_cmpR op_gt (pe_ix (r := rIxT K) ix_tup (pv 2) pe_int (fun _ _ => rfl)) (pe_op op_sub (pv 1) (show PE _ _ (tFld K _ _) from pe_fld (pv 0) rfl)) (nomark _))) (fun _ _ _ _ _ => (pv 2)))))), ?_⟩
    walk_at "go"
    refine lc_L (L := rows) (ev := fun r => .ref r.1) (p := fun r => decide (t - b < r.2.1)) (f := fun r => .ref r.1) (by omega) (.inl (.inl hs)) (fun Q' q => ?_) (fun x hx H' e Kt Kf kt kf => ?_) k
    · walk_at "go"
      exact q
    · have h1 := e.t (hrs x hx)
      have h2 := e _ _ hm
      walk_at "go"
      refine r_b2 (fun z => ?_) (fun z => kf z _ Ex.rf)
      walk_at "go"
      exact kt z _ Ex.rf
theorem MetAt.win {H : Hp} {m : Addr} {own : List Addr} {L : Lim} {s : MSt} {a b : Int} (h : MetAt K H m own L s) (hr : L.rule = .window a b) : ∃ dx la sl sums, s = .window sums ∧ own = [m] ∧ LimAt K H la L ∧ H m = some (.ins (He.ga K "WindowMeter") dx (fsW la a b sl)) ∧
    ∃ rows : List (Addr × (Int × Int)), rows.map (·.2) = sums ∧ H sl = some (.lst (rows.map fun r => .ref r.1)) ∧ ∀ r ∈ rows, SqT K H r.1 [.int r.2.1, .int r.2.2] := by
  obtain ⟨dx, la, hL, h⟩ := h
  rw [hr] at h
  cases s with
  | window sums =>
    obtain ⟨h1, sl, h2, h3⟩ := h
    exact ⟨dx, la, sl, sums, rfl, h1, hL, h2, h3⟩
  | _ => exact h.elim
abbrev sc_WindowMeter_room_N : List Str := ["self", "moment", "group", "cost", "row"]
theorem sc_WindowMeter_room : FnScope ["self", "moment", "group", "cost", "row"] ["self", "moment", "group", "cost"] (defScope s_WindowMeter_room) := ⟨rfl, rfl, rfl, by decide +kernel, rfl, by decide +kernel, by decide +kernel⟩
theorem ok_WindowMeter_room (T : Tx w K mg) : OkD P w K mg base ("WindowMeter", some "room") 2 ["self", "moment", "group", "cost"] (spRoom K "window") := by
  refine (T.fd_WindowMeter_room).ok sc_WindowMeter_room (fun vs H Q E h => ?_) (fun cdv A outer s H vs Q E hr h => ?_)
  · obtain ⟨m, own, L, s', t, g, c, rfl, _⟩ := h
    rfl
  · obtain ⟨m, own, L, s', t, g, c, rfl, hM, hw, wf, so, k⟩ := h
    have hcl := T.cl_WindowMeter; have hno__length := T.no_WindowMeter__length; have hno__most := T.no_WindowMeter__most; have hno__sums := T.no_WindowMeter__sums; have hno_limit := T.no_WindowMeter_limit
    obtain ⟨a, b, hr'⟩ := rule_window hw
    obtain ⟨dx, la, sl, sums, rfl, rfl, hL, hm, rows, h1, h2, h3⟩ := hM.win hr'
    have hz : rows.length ≤ 1000 := by
      have : (rows.map (·.2)).length ≤ 1000 := by rw [h1]; exact so
      rwa [List.length_map] at this
    refine ⟨_, (PSs.nox (pss_cons (ps_if (pt_not (pt_val (pe_call ((ok_looks_at T).mono (by decide)) hr (by rfl) T.g_looks_at T.fd_looks_at.kp T.bd_looks_at .nil pass0 (pa_cons (show PE _ _ (tFld K _ _) from pe_fld (pv 0) rfl) (pa_cons (pv 2) pa_nil))))) (pss_one (ps_ret pe_bl)) pss_nil)
    (pss_one (ps_ret (pe_cmpR op_le (pe_op op_add (pe_callB (r := rSum K) (cr_sum rfl) (by rfl) T.f_sum (by decide +kernel) (pa_cons (pe_lc (own := [("row", 4)]) rfl sc_WindowMeter_room.nd (pi_list (pe_meth (pv 0) T.cl_WindowMeter T.me_WindowMeter_sums_since ((ok_WindowMeter_sums_since T).mono (by decide)) hr T.bd_WindowMeter_sums_since .nil pass0 (pa_cons (pv 1) pa_nil))) (blkOk_by (own := [("row", 4)]) (N := sc_WindowMeter_room_N) (sc := defScope s_WindowMeter_room) (by decide +kernel)) (fun _ _ _ _ _ => (pg_name (i := 4) sc_WindowMeter_room.nd rfl (Or.inl rfl))) (fun _ _ _ _ _ => pts_nil) (fun _ _ _ _ _ => (pe_ix (r := rIxT K) ix_tup (pv 4) pe_int (fun _ _ => rfl)))) pa_nil)) (pv 3)) (show PE _ _ (tFld K _ _) from pe_fld (pv 0) rfl) (nomark _)))))), ?_⟩
    walk_at "go"
    refine ⟨la, L, g, rfl, hL, wf.sm, fun H1 e1 => ?_⟩
    have hm1 := e1 _ _ hm
    walk_at "go"
    unfold roomM at k
    refine r_b2 (fun z => ?_) (fun z => ?_)
    · walk_at "go"
      have e2 : looksB L g = false := by simpa using z
      rw [e2] at k
      exact k _ e1
    · have e2 : looksB L g = true := by simpa using z
      rw [e2, hr'] at k
      walk_at "go"
      refine r_lcL ?_
      walk_at "go"
      refine ⟨m, dx, la, sl, a, b, t, rows, rfl, hm1, e1 _ _ h2, fun r hr => e1.t (h3 r hr), hz, fun p H2 n2 e3 hp => ?_⟩
      refine lc_L1 (L := rows.filter fun r => decide (t - b < r.2.1)) (ev := fun r => .ref r.1) (f := fun r => .int r.2.2) (by have := List.length_filter_le (fun r : Addr × (Int × Int) => decide (t - b < r.2.1)) rows; omega) (.inl (.inl hp)) (fun Q' q => q) (fun x hx H' e Kt Kf kt => ?_) (fun D H' nD e hD => ?_)
      · have h4 := ((e1.tr e3).tr e).t (h3 x (List.mem_filter.mp hx).1)
        walk_at "go"
        exact kt _ Ex.rf
      · have e4 : (rows.filter fun r => decide (t - b < r.2.1)).map (fun r => V.int r.2.2) = ((since b sums t).map fun r => r.2).map V.int := by
          unfold since
          rw [← h1, List.filter_map, List.map_map, List.map_map]
          rfl
        rw [e4] at hD
        have hm2 := e _ _ (e3 _ _ hm1)
        refine r_nil ?_
        refine r_sum (.inl (.inl hD)) ?_
        walk_at "go"
        exact k _ ((e1.tr e3).tr e)
abbrev sc_WindowMeter_released_N : List Str := ["self", "key", "moment"]
theorem sc_WindowMeter_released : FnScope ["self", "key", "moment"] ["self", "key", "moment"] (defScope s_WindowMeter_released) := ⟨rfl, rfl, rfl, by decide +kernel, rfl, by decide +kernel, by decide +kernel⟩
theorem ok_WindowMeter_released (T : Tx w K mg) : OkD P w K mg base ("WindowMeter", some "released") 1 ["self", "key", "moment"] (spRel K "window") := by
  refine (T.fd_WindowMeter_released).ok sc_WindowMeter_released (fun vs H Q E h => ?_) (fun cdv A outer s H vs Q E hr h => ?_)
  · obtain ⟨m, own, L, s', k, t, rfl, _⟩ := h
    rfl
  · obtain ⟨m, own, L, s', k, t, rfl, hM, hw, wf, so, kk⟩ := h
    obtain ⟨a, b, hr'⟩ := rule_window hw
    obtain ⟨dx, la, sl, sums, rfl, _⟩ := hM.win hr'
    exact ⟨_, (PSs.nox (pss_one (ps_ret pe_bl))), kk false H Fr.rf hM⟩
theorem nil_or_last {α : Type} (l : List α) : l = [] ∨ ∃ i x, l = i ++ [x] := by
  cases h : l.reverse with
  | nil => exact .inl (List.reverse_eq_nil_iff.mp h)
  | cons x r => exact .inr ⟨r.reverse, x, by rw [← List.reverse_reverse l, h, List.reverse_cons]⟩
theorem letC_win (a b : Int) (sums : List (Int × Int)) (t : Int) (g : Str) (c : Int) (k : Str) : letC (.window a b) (.window sums) t g c k = (match (since b sums t).getLast? with
    | some r => if r.1 = t then .window ((since b sums t).dropLast ++ [(t, c + r.2)]) else .window (since b sums t ++ [(t, c)])
    | none => .window [(t, c)]) := rfl
abbrev sc_WindowMeter_let_N : List Str := ["self", "moment", "group", "cost", "key", "rows"]
theorem sc_WindowMeter_let : FnScope ["self", "moment", "group", "cost", "key", "rows"] ["self", "moment", "group", "cost", "key"] (defScope s_WindowMeter_let) := ⟨rfl, rfl, rfl, by decide +kernel, rfl, by decide +kernel, by decide +kernel⟩
theorem ok_WindowMeter_let (T : Tx w K mg) : OkD P w K mg base ("WindowMeter", some "let") 2 ["self", "moment", "group", "cost", "key"] (spLet K "window") := by
  refine (T.fd_WindowMeter_let).ok sc_WindowMeter_let (fun vs H Q E h => ?_) (fun cdv A outer s H vs Q E hr h => ?_)
  · obtain ⟨m, own, L, s', t, g, c, k, rfl, _⟩ := h
    rfl
  · obtain ⟨m, own, L, s', t, g, c, k, rfl, hM, hw, wf, so, fr, kk⟩ := h
    have hcl := T.cl_WindowMeter; have hno__length := T.no_WindowMeter__length; have hno__most := T.no_WindowMeter__most; have hno__sums := T.no_WindowMeter__sums; have hno_limit := T.no_WindowMeter_limit
    obtain ⟨a, b, hr'⟩ := rule_window hw
    obtain ⟨dx, la, sl, sums, rfl, rfl, hL, hm, rows, h1, h2, h3⟩ := hM.win hr'
    have hz : rows.length ≤ 1000 := by
      have : (rows.map (·.2)).length ≤ 1000 := by rw [h1]; exact so
      rwa [List.length_map] at this
    refine ⟨_, (PSs.nox (pss_one (ps_if (pt_val (pe_call ((ok_looks_at T).mono (by decide)) hr (by rfl) T.g_looks_at T.fd_looks_at.kp T.bd_looks_at .nil pass0 (pa_cons (show PE _ _ (tFld K _ _) from pe_fld (pv 0) rfl) (pa_cons (pv 2) pa_nil)))) (pss_cons (ps_set (i := 5) sc_WindowMeter_let.nd rfl (Or.inl rfl) (pe_meth (pv 0) T.cl_WindowMeter T.me_WindowMeter_sums_since ((ok_WindowMeter_sums_since T).mono (by decide)) hr T.bd_WindowMeter_sums_since .nil pass0 (pa_cons (pv 1) pa_nil)))
    (pss_cons (ps_if (PW.pt (pw_and (pt_truJ (pv 5)) (pw_and1 (pt_cmpR op_eq (pe_ix (r := rIxT K) ix_tup (pe_ix (r := rIxL K) ix_list (pv 5) (pe_un un_neg pe_int) (fun _ _ => rfl)) pe_int (fun _ _ => rfl)) (pv 1) (nomark _))))) (pss_one (ps_set (i := 3) sc_WindowMeter_let.nd rfl (Or.inl rfl) (pe_op op_add (pv 3) (pe_ix (r := rIxT K) ix_tup (pe_bm0 PySem.F.plainAttrs_list PySem.F.slot_list_pop PySem.F.type_list_pop mt_pop (pv 5)) pe_int (fun _ _ => rfl))))) pss_nil)
    (pss_one (ps_fld (pv 0) (pe_op op_cat (pv 5) (pe_lst (pa_cons (pe_tup (pa_cons (pv 1) (pa_cons (pv 3) pa_nil))) pa_nil))) rfl)))) pss_nil))), ?_⟩
    walk_at "go"
    refine ⟨la, L, g, rfl, hL, wf.sm, fun H1 e1 => ?_⟩
    have hm1 := e1 _ _ hm
    walk_at "go"
    unfold letM at kk
    refine r_b2 (fun z => ?_) (fun z => ?_)
    · rw [z, hr'] at kk
      walk_at "go"
      refine ⟨m, dx, la, sl, a, b, t, rows, rfl, hm1, e1 _ _ h2, fun r hr => e1.t (h3 r hr), hz, fun p H2 n2 e3 hp => ?_⟩
      have hm2 := e3 _ _ hm1
      have npm : p ≠ m := fun q => by
        rw [q, hm1] at n2
        cases n2
      walk_at "go"
      have hw1 : Fr (fun b => b ∈ [m]) H H2 := (e1.tr e3).frm
      have fin : ∀ (H3 : Hp) (q : Addr) (news : List (Addr × (Int × Int))), Fr (fun b => b ∈ [m]) H H3 → H3 m = some (.ins (He.ga K "WindowMeter") dx (fsW la a b sl)) → q ≠ m → H3 q = some (.lst (news.map fun r => .ref r.1)) → (∀ r ∈ news, SqT K H3 r.1 [.int r.2.1, .int r.2.2]) →
          letC (.window a b) (.window sums) t g c k = .window (news.map (·.2)) → Q .non (upd H3 m (.ins (He.ga K "WindowMeter") dx (fsW la a b q))) := by
        intro H3 q news f1 g1 nq g2 g3 g4
        have f2 : Fr (fun b => b ∈ [m]) H3 (upd H3 m (.ins (He.ga K "WindowMeter") dx (fsW la a b q))) := Fr.wr g1 id (List.mem_singleton.mpr rfl)
        refine kk _ (f1.tr f2) ⟨dx, la, (f1.tr f2).tu.lim hL, ?_⟩
        rw [if_pos rfl, g4, hr']
        exact ⟨rfl, q, upd_same, news, rfl, (upd_ne nq).trans g2, fun r hr => f2.tu.t (g3 r hr)⟩
      have last : ∀ (H3 : Hp) (p3 : Addr) (rs : List (Addr × (Int × Int))) (d : Int), Fr (fun b => b ∈ [m]) H H3 → H3 m = some (.ins (He.ga K "WindowMeter") dx (fsW la a b sl)) → H3 p3 = some (.lst (rs.map fun r => .ref r.1)) → (∀ r ∈ rs, SqT K H3 r.1 [.int r.2.1, .int r.2.2]) → rs.length ≤ 1000 →
          letC (.window a b) (.window sums) t g c k = .window (rs.map (·.2) ++ [(t, d)]) →
          ∀ u, tSeq tNext (sFld K (tVar 0) (tOp rCat (tVar 5) (tLst (tCons (tTup (tCons (tVar 1) (tCons (tVar 3) tNil))) tNil))) "_sums") { nx := fun _ H' => Q .non H', rt := Q } [some (.ref m), some (.int t), u, some (.int d), some (.str k), some (.ref p3)] H3 := by
        intro H3 p3 rs d f1 g1 g2 g3 g5 g4 u
        walk_at "go"
        refine r_newT (fun p4 H4 n4 e4 h4 => ?_)
        walk_at "go"
        refine r_newL (fun p5 H5 n5 e5 h5 => ?_)
        have g2' := (e4.tr e5) _ _ g2
        refine r_cat g2' h5 (by rw [List.length_map]; show rs.length + 1 ≤ _; omega) (fun p6 H6 n6 e6 h6 => ?_)
        have g1' := e6 _ _ ((e4.tr e5) _ _ g1)
        walk_at "go"
        rw [fsW_put]
        have np6 : p6 ≠ m := fun q => by
          rw [q] at n6
          rw [e5 _ _ (e4 _ _ g1)] at n6
          cases n6
        have ex := (e4.tr e5).tr e6
        refine fin H6 p6 (rs ++ [(p4, (t, d))]) (f1.tr ex.frm) g1' np6 (by rw [h6, List.map_append] <;> rfl) (fun r hr => ?_) (by rw [g4, List.map_append] <;> rfl)
        rcases List.mem_append.mp hr with z | z
        · exact ex.t (g3 r z)
        · rw [List.mem_singleton.mp z]
          exact (e5.tr e6).t (.inl (.inl h4))
      have hp0 : H p = none := e1.fr n2
      generalize ers : (rows.filter fun r => decide (t - b < r.2.1)) = rs at hp
      have hsi : since b sums t = rs.map (·.2) := by
        rw [← ers, ← h1]
        unfold since
        rw [List.filter_map]
        rfl
      have hrs : ∀ r ∈ rs, SqT K H2 r.1 [.int r.2.1, .int r.2.2] := fun r hr => (e1.tr e3).t (h3 r (by rw [← ers] at hr; exact (List.mem_filter.mp hr).1))
      have hz2 : rs.length ≤ 1000 := by
        rw [← ers]
        exact Nat.le_trans (List.length_filter_le _ _) hz
      refine r_truL (.inl (.inl hp)) ?_
      walk_at "go"
      rcases nil_or_last rs with rfl | ⟨ri, r, rfl⟩
      · refine r_b2 (fun q => nomatch q) (fun _ => ?_)
        refine r_b2 (fun q => nomatch q) (fun _ => ?_)
        exact last H2 p [] c hw1 hm2 hp (fun r hr => nomatch hr) (Nat.zero_le _) (by rw [letC_win, hsi] <;> rfl) _
      · refine r_b2 (fun _ => ?_) (fun q => by simp at q)
        walk_at "go"
        have hr1 := hrs r (by simp)
        refine r_ixL (.inl (.inl hp)) (by rw [List.map_append]; exact atI_last _ _) ?_
        walk_at "go"
        have hlast : (since b sums t).getLast? = some r.2 := by
          rw [hsi, List.map_append]
          simp
        have hlet : letC (.window a b) (.window sums) t g c k = if r.2.1 = t then .window ((since b sums t).dropLast ++ [(t, c + r.2.2)]) else .window (since b sums t ++ [(t, c)]) := by
          rw [letC_win, hlast]
        refine r_d2 (fun q => ?_) (fun q => ?_)
        · have q1 : r.2.1 = t := V.int.inj q
          rw [if_pos q1, hsi, List.map_append] at hlet
          walk_at "go"
          refine r_pop (y := .ref r.1) hp (by simp) ?_
          have tu3 : Tu H2 (upd H2 p (.lst ((ri ++ [r]).map fun r => V.ref r.1).dropLast)) := Tu.mt hp (fun z => by rcases z with ⟨_, z⟩ | ⟨_, _, z⟩ <;> cases z)
          have hr2 := tu3.t hr1
          refine r_c (r_ixT hr2 rfl (r_I0 (r_name ?_)))
          refine last _ p ri (c + r.2.2) ((e1.tr e3).mt hp0).frm ((upd_ne npm.symm).trans hm2) ?_ (fun x hx => tu3.t (hrs x (List.mem_append_left _ hx))) (by rw [List.length_append] at hz2; omega) (by rw [hlet]; simp) _
          rw [upd_same, List.map_append]
          simp
        · have q1 : ¬ r.2.1 = t := fun z => q (by rw [z])
          rw [if_neg q1, hsi] at hlet
          exact last H2 p (ri ++ [r]) c hw1 hm2 hp hrs hz2 hlet _
    · rw [z] at kk
      walk_at "go"
      exact kk _ e1.frm (hM.ex e1)
theorem tot_cons (r : Int × Int) (l : List (Int × Int)) : tot (r :: l) = r.2 + tot l := rfl
abbrev sc_WindowMeter_earliest_N : List Str := ["self", "moment", "group", "cost", "rows", "used", "number", "row"]
theorem sc_WindowMeter_earliest : FnScope ["self", "moment", "group", "cost", "rows", "used", "number", "row"] ["self", "moment", "group", "cost"] (defScope s_WindowMeter_earliest) := ⟨rfl, rfl, rfl, by decide +kernel, rfl, by decide +kernel, by decide +kernel⟩
theorem ok_WindowMeter_earliest (T : Tx w K mg) : OkD P w K mg base ("WindowMeter", some "earliest") 3 ["self", "moment", "group", "cost"] (spEarly K "window") := by
  refine (T.fd_WindowMeter_earliest).ok sc_WindowMeter_earliest (fun vs H Q E h => ?_) (fun cdv A outer s H vs Q E hr h => ?_)
  · obtain ⟨m, own, L, s', t, g, c, rfl, _⟩ := h
    rfl
  · obtain ⟨m, own, L, s', t, g, c, rfl, hM, hw, wf, so, k⟩ := h
    have hcl := T.cl_WindowMeter; have hno__length := T.no_WindowMeter__length; have hno__most := T.no_WindowMeter__most; have hno__sums := T.no_WindowMeter__sums; have hno_limit := T.no_WindowMeter_limit
    obtain ⟨a, b, hr'⟩ := rule_window hw
    obtain ⟨dx, la, sl, sums, rfl, rfl, hL, hm, rows, h1, h2, h3⟩ := hM.win hr'
    have hz : rows.length ≤ 1000 := by
      have : (rows.map (·.2)).length ≤ 1000 := by rw [h1]; exact so
      rwa [List.length_map] at this
    refine ⟨_, (PSs.nox (pss_cons (ps_if (pt_val (pe_meth (pv 0) T.cl_WindowMeter T.me_WindowMeter_room ((ok_WindowMeter_room T).mono (by decide)) hr T.bd_WindowMeter_room .nil pass0 (pa_cons (pv 1) (pa_cons (pv 2) (pa_cons (pv 3) pa_nil))))) (pss_one (ps_ret (pv 1))) pss_nil)
    (pss_cons (ps_if (pt_cmpR op_gt (pv 3) (show PE _ _ (tFld K _ _) from pe_fld (pv 0) rfl) (nomark _)) (pss_one (ps_ret pe_non)) pss_nil)
    (pss_cons (ps_set (i := 4) sc_WindowMeter_earliest.nd rfl (Or.inl rfl) (pe_meth (pv 0) T.cl_WindowMeter T.me_WindowMeter_sums_since ((ok_WindowMeter_sums_since T).mono (by decide)) hr T.bd_WindowMeter_sums_since .nil pass0 (pa_cons (pv 1) pa_nil)))
    (pss_cons (ps_set (i := 5) sc_WindowMeter_earliest.nd rfl (Or.inl rfl) (pe_callB (r := rSum K) (cr_sum rfl) (by rfl) T.f_sum (by decide +kernel) (pa_cons (pe_lc (own := [("row", 7)]) rfl sc_WindowMeter_earliest.nd (pi_list (pv 4)) (blkOk_by (own := [("row", 7)]) (N := sc_WindowMeter_earliest_N) (sc := defScope s_WindowMeter_earliest) (by decide +kernel)) (fun _ _ _ _ _ => (pg_name (i := 7) sc_WindowMeter_earliest.nd rfl (Or.inl rfl))) (fun _ _ _ _ _ => pts_nil) (fun _ _ _ _ _ => (pe_ix (r := rIxT K) ix_tup (pv 7) pe_int (fun _ _ => rfl)))) pa_nil)))
    (pss_cons (ps_set (i := 6) sc_WindowMeter_earliest.nd rfl (Or.inl rfl) pe_int)
    (pss_cons (ps_while PassesOwn.never (pt_cmpR op_gt (pe_op op_add (pv 5) (pv 3)) (show PE _ _ (tFld K _ _) from pe_fld (pv 0) rfl) (nomark _)) (pss_cons (ps_set (i := 5) sc_WindowMeter_earliest.nd rfl (Or.inl rfl) (pe_op op_sub (pv 5) (pe_ix (r := rIxT K) ix_tup (pe_ix (r := rIxL K) ix_list (pv 4) (pv 6) (fun _ _ => rfl)) pe_int (fun _ _ => rfl))))
    (pss_one (ps_set (i := 6) sc_WindowMeter_earliest.nd rfl (Or.inl rfl) (pe_op op_add (pv 6) pe_int)))))
    (pss_one (ps_ret (pe_op op_add (pe_ix (r := rIxT K) ix_tup (pe_ix (r := rIxL K) ix_list (pv 4) (pe_op op_sub (pv 6) pe_int) (fun _ _ => rfl)) pe_int (fun _ _ => rfl)) (show PE _ _ (tFld K _ _) from pe_fld (pv 0) rfl))))))))))), ?_⟩
    walk_at "go"
    refine ⟨m, [m], L, .window sums, t, g, c, rfl, hM, hw, wf, so, fun H1 e1 => ?_⟩
    unfold earlyM at k
    walk_at "go"
    refine r_b2 (fun z => ?_) (fun z => ?_)
    · rw [z] at k
      walk_at "go"
      exact k _ e1
    · rw [z, hr'] at k
      have k : ∀ H', Ex H H' → Q (optV (if a < c then none else some (gone a c b (tot (since b sums t)) (since b sums t)))) H' := k
      have hm1 := e1 _ _ hm
      walk_at "go"
      refine r_d2 (fun q => ?_) (fun q => ?_)
      · rw [if_pos q] at k
        walk_at "go"
        exact k _ e1
      · rw [if_neg q] at k
        walk_at "go"
        refine ⟨m, dx, la, sl, a, b, t, rows, rfl, hm1, e1 _ _ h2, fun r hr => e1.t (h3 r hr), hz, fun p H2 n2 e3 hp => ?_⟩
        walk_at "go"
        generalize ers : (rows.filter fun r => decide (t - b < r.2.1)) = rs at hp
        have hsi : since b sums t = rs.map (·.2) := by
          rw [← ers, ← h1]
          unfold since
          rw [List.filter_map]
          rfl
        have hrs : ∀ r ∈ rs, SqT K H2 r.1 [.int r.2.1, .int r.2.2] := fun r hr => (e1.tr e3).t (h3 r (by rw [← ers] at hr; exact (List.mem_filter.mp hr).1))
        have hz2 : rs.length ≤ 1000 := by
          rw [← ers]
          exact Nat.le_trans (List.length_filter_le _ _) hz
        rw [hsi] at k
        have hroom : a < tot (rs.map (·.2)) + c := by
          unfold roomM at z
          rw [hr'] at z
          have z1 : (!looksB L g || decide (tot (since b sums t) + c ≤ a)) = false := z
          rw [hsi] at z1
          simp at z1
          omega
        refine lc_L1 (L := rs) (ev := fun r => .ref r.1) (f := fun r => .int r.2.2) (by omega) (.inl (.inl hp)) (fun Q' q => ?_) (fun x hx H' e Kt Kf kt => ?_) (fun D H' nD e hD => ?_)
        · walk_at "go"
          exact q
        · have h4 := e.t (hrs x hx)
          walk_at "go"
          exact kt _ Ex.rf
        · have e4 : rs.map (fun r => V.int r.2.2) = ((rs.map (·.2)).map fun r => r.2).map V.int := by
            rw [List.map_map, List.map_map]
            rfl
          rw [e4] at hD
          walk_at "go"
          refine r_sum (.inl (.inl hD)) ?_
          walk_at "go"
          have hm3 := e _ _ (e3 _ _ hm1)
          have hp3 := e _ _ hp
          refine ⟨fun mu σ' H'' => ∃ (n : Nat) (used : Int) (u : Option V), mu = rs.length - n ∧ Ex H' H'' ∧ σ' = [some (.ref m), some (.int t), some (.str g), some (.int c), some (.ref p), some (.int used), some (.int n), u] ∧ n ≤ rs.length ∧ used = tot ((rs.map (·.2)).drop n) ∧
            ((a < used + c ∧ gone a c b (tot (rs.map (·.2))) (rs.map (·.2)) = gone a c b used ((rs.map (·.2)).drop n)) ∨ (used + c ≤ a ∧ ∃ r, rs[n - 1]? = some r ∧ 1 ≤ n ∧ r.2.1 + b = gone a c b (tot (rs.map (·.2))) (rs.map (·.2)))), ?_, ?_⟩
          · exact ⟨rs.length - 0, 0, _, none, rfl, Ex.rf, rfl, Nat.zero_le _, rfl, .inl ⟨hroom, rfl⟩⟩
          · rintro mu σ' H'' ⟨n, used, u, rfl, e5, rfl, hn, hu, hc⟩
            have hm5 := e5 _ _ hm3
            have hp5 := e5 _ _ hp3
            walk_at "go"
            refine r_d2 (fun lt => ?_) (fun lt => ?_)
            · rcases hc with ⟨c1, c2⟩ | ⟨c1, _⟩
              · refine ⟨fun σ2 H2 => ∃ m', m' < rs.length - n ∧ ∃ (n : Nat) (used : Int) (u : Option V), m' = rs.length - n ∧ Ex H' H2 ∧ σ2 = [some (.ref m), some (.int t), some (.str g), some (.int c), some (.ref p), some (.int used), some (.int n), u] ∧ n ≤ rs.length ∧ used = tot ((rs.map (·.2)).drop n) ∧
                  ((a < used + c ∧ gone a c b (tot (rs.map (·.2))) (rs.map (·.2)) = gone a c b used ((rs.map (·.2)).drop n)) ∨ (used + c ≤ a ∧ ∃ r, rs[n - 1]? = some r ∧ 1 ≤ n ∧ r.2.1 + b = gone a c b (tot (rs.map (·.2))) (rs.map (·.2)))), fun _ _ h => h, ?_⟩
                have hlt : n < rs.length := by
                  rcases Nat.lt_or_ge n rs.length with h | h
                  · exact h
                  · rw [List.drop_eq_nil_of_le (by rw [List.length_map]; exact h)] at hu
                    have : tot [] = 0 := rfl
                    omega
                have hd : (rs.map (·.2)).drop n = rs[n].2 :: (rs.map (·.2)).drop (n + 1) := by
                  rw [List.drop_eq_getElem_cons (by rw [List.length_map]; exact hlt), List.getElem_map]
                have hgn : rs[n]? = some rs[n] := List.getElem?_eq_getElem hlt
                have hr1 := (e.tr e5).t (hrs _ (List.mem_of_getElem? hgn))
                refine r_seq (r_asg (r_op (r_var rfl (r_op (r_op (r_var rfl (r_var rfl ?_)))))))
                refine r_ixL (.inl (.inl hp5)) (atI_nat (by rw [List.getElem?_map, hgn] <;> rfl)) ?_
                walk_at "go"
                rw [hd, tot_cons] at hu
                rw [hd] at c2
                have c2 : gone a c b (tot (rs.map (·.2))) (rs.map (·.2)) = if used - rs[n].2.2 + c ≤ a then rs[n].2.1 + b else gone a c b (used - rs[n].2.2) ((rs.map (·.2)).drop (n + 1)) := c2
                refine ⟨rs.length - (n + 1), by omega, n + 1, used - rs[n].2.2, u, rfl, e5, by simp, hlt, by omega, ?_⟩
                by_cases hle : used - rs[n].2.2 + c ≤ a
                · rw [if_pos hle] at c2
                  exact .inr ⟨hle, rs[n], hgn, by omega, c2.symm⟩
                · rw [if_neg hle] at c2
                  exact .inl ⟨by omega, c2⟩
              · omega
            · rcases hc with ⟨c1, _⟩ | ⟨c1, r, c2, c3, c4⟩
              · omega
              · refine r_ret (r_op (r_op (r_op (r_var rfl (r_op (r_var rfl (r_c (r_I0 ?_))))))))
                have hr1 := (e.tr e5).t (hrs _ (List.mem_of_getElem? c2))
                have en : ((n : Int) - 1) = ((n - 1 : Nat) : Int) := by omega
                rw [en]
                refine r_ixL (.inl (.inl hp5)) (atI_nat (by rw [List.getElem?_map, c2] <;> rfl)) ?_
                walk_at "go"
                rw [c4]
                exact k _ (((e1.tr e3).tr e).tr e5)
end
end Lw
end
section
set_option maxRecDepth 100000
set_option maxHeartbeats 4000000
namespace Lw
open PySem PySem.Spec PyProof.Rows L2
local macro_rules | `(tactic| walk_at "hp") => `(tactic| first | assumption | exact upd_same | exact (by assumption : Ex _ _) _ _ (by assumption))
local macro_rules | `(tactic| walk_at "lk") => `(tactic| fail "no look-up")
local macro_rules | `(tactic| walk_at "tk") => `(tactic| first | assumption | exact Ex.t (by assumption) (by assumption) | exact Ex.l (by assumption) (by assumption) | exact .inl (.inl (by assumption)))
local macro_rules | `(tactic| walk_at "st") => `(tactic| first
  | with_reducible refine r_seq ?_ | with_reducible refine r_asg ?_ | with_reducible refine r_name ?_
  | ((with_reducible refine' r_var ?k1 ?_); (case k1 => exact rfl))
  | with_reducible refine r_c ?_ | with_reducible refine r_op ?_ | with_reducible refine r_un ?_ | with_reducible refine r_cb ?_ | with_reducible refine r_nil ?_ | with_reducible refine r_cons ?_
  | with_reducible refine r_call ?_ | with_reducible refine r_ret ?_ | with_reducible refine r_drop ?_ | with_reducible refine r_ifs ?_ | with_reducible refine r_ife ?_ | with_reducible refine r_next ?_
  | with_reducible refine r_test ?_ | with_reducible refine r_tB ?_ | with_reducible refine r_bl ?_ | with_reducible refine r_blx ?_ | with_reducible refine r_tnot ?_ | with_reducible refine r_tand ?_ | with_reducible refine r_tor ?_
  | with_reducible refine r_not ?_ | with_reducible refine r_and ?_ | with_reducible refine r_or ?_ | with_reducible refine r_I0 ?_ | with_reducible refine r_U ?_
  | with_reducible refine r_eqS ?_ | with_reducible refine r_eqI ?_ | with_reducible refine r_neS ?_ | with_reducible refine r_neI ?_ | with_reducible refine r_chain ?_
  | ((with_reducible refine' r_gtup ?k1 ?k2 ?_); (case k1 => walk_at "tk"); (case k2 => exact rfl))
  | with_reducible refine r_gcons ?_ | with_reducible refine r_gnil ?_
  | ((with_reducible refine' r_ixT ?k1 ?k2 ?_); (case k1 => walk_at "tk"); (case k2 => exact rfl))
  | ((with_reducible refine' r_ixL ?k1 ?k2 ?_); (case k1 => walk_at "tk"); (case k2 => exact rfl))
  | with_reducible refine r_tup ?_ | with_reducible refine r_lst ?_ | with_reducible refine iteT ?_ | with_reducible refine iteF ?_
  | ((with_reducible refine' r_wipe ?k1 ?_); (case k1 => exact rfl)) | with_reducible refine r_tyes ?_
  | ((with_reducible refine' r_lenT ?k1 ?_); (case k1 => walk_at "tk")) | ((with_reducible refine' r_lenL ?k1 ?_); (case k1 => walk_at "tk"))
  | with_reducible refine r_fld ?_ | with_reducible refine r_sfld ?_ | with_reducible refine r_gfld ?_ | with_reducible refine r_meth ?_
  | ((with_reducible refine' r_fld1 ?k1 ?k2 ?k3 ?k4 ?_); (case k1 => walk_at "hp"); (case k2 => assumption); (case k3 => assumption); (case k4 => walk_at "lk"))
  | ((with_reducible refine' r_sfld1 ?k1 ?k2 ?k3 ?k4 ?_); (case k1 => walk_at "hp"); (case k2 => assumption); (case k3 => assumption); (case k4 => exact Nat.lt_of_le_of_lt (Nat.le_of_ble_eq_true rfl) (by decide : 10 < 1000)))
  | ((with_reducible refine' r_gfld1 ?k1 ?k2 ?k3 ?k4 ?_); (case k1 => walk_at "hp"); (case k2 => assumption); (case k3 => assumption); (case k4 => exact Nat.lt_of_le_of_lt (Nat.le_of_ble_eq_true rfl) (by decide : 10 < 1000)))
  | with_reducible refine r_ks ?_ | with_reducible refine r_kq ?_
  | ((with_reducible refine' r_meth1 ?k1 ?k2 ?_); (case k1 => walk_at "hp"); (case k2 => kernel_rfl))
  | with_reducible refine r_kb ?_ | with_reducible refine r_tru ?_ | with_reducible refine r_bm0 ?_ | with_reducible refine r_bm ?_
  | ((with_reducible refine' r_tyL ?k1 ?_); (case k1 => walk_at "hp"))
  | with_reducible refine r_sdput ?_ | with_reducible refine r_dget ?_ | with_reducible refine r_din ?_ | with_reducible refine r_dnin ?_ | with_reducible refine r_dpop ?_
  | ((with_reducible refine' r_dpop0 ?k1 ?_); (case k1 => walk_at "hp"))
  | ((with_reducible refine' r_strY ?k1 ?_); (case k1 => decide +kernel)) | ((with_reducible refine' r_strN ?k1 ?_); (case k1 => decide +kernel))
  | ((with_reducible refine' r_nstrY ?k1 ?_); (case k1 => decide +kernel)) | ((with_reducible refine' r_nstrN ?k1 ?_); (case k1 => decide +kernel))
  | with_reducible refine r_gcd ?_ | with_reducible refine r_par ?_ | with_reducible refine r_par1 ?_
  | with_reducible refine r_make ?_ | with_reducible refine r_orJ ?_
  | with_reducible refine r_isN ?_ | with_reducible refine r_notN ?_
  | with_reducible refine r_abs ?_ | with_reducible refine r_int ?_ | with_reducible refine r_min ?_ | with_reducible refine r_max ?_)
local macro_rules | `(tactic| walk_at "go") => `(tactic| repeat walk_at "st")
theorem dint (a b : Int) : decide (V.int a = V.int b) = decide (a = b) := by
  by_cases h : a = b
  · rw [h]
    simp
  · rw [decide_eq_false h]
    exact decide_eq_false fun q => h (V.int.inj q)
theorem rule_span {L : Lim} (h : L.word = "span") : ∃ a b, L.rule = .span a b := by
  obtain ⟨n, g, r⟩ := L
  cases r with
  | window a b => exact absurd h (by decide +kernel : ("window" : Str) ≠ "span")
  | span a b => exact ⟨a, b, rfl⟩
  | bucket a b => exact absurd h (by decide +kernel : ("bucket" : Str) ≠ "span")
  | gap a => exact absurd h (by decide +kernel : ("gap" : Str) ≠ "span")
  | held a => exact absurd h (by decide +kernel : ("held" : Str) ≠ "span")
  | pool a b => exact absurd h (by decide +kernel : ("pool" : Str) ≠ "span")
theorem rule_bucket {L : Lim} (h : L.word = "bucket") : ∃ a b, L.rule = .bucket a b := by
  obtain ⟨n, g, r⟩ := L
  cases r with
  | window a b => exact absurd h (by decide +kernel : ("window" : Str) ≠ "bucket")
  | span a b => exact absurd h (by decide +kernel : ("span" : Str) ≠ "bucket")
  | bucket a b => exact ⟨a, b, rfl⟩
  | gap a => exact absurd h (by decide +kernel : ("gap" : Str) ≠ "bucket")
  | held a => exact absurd h (by decide +kernel : ("held" : Str) ≠ "bucket")
  | pool a b => exact absurd h (by decide +kernel : ("pool" : Str) ≠ "bucket")
theorem rule_gap {L : Lim} (h : L.word = "gap") : ∃ a, L.rule = .gap a := by
  obtain ⟨n, g, r⟩ := L
  cases r with
  | window a b => exact absurd h (by decide +kernel : ("window" : Str) ≠ "gap")
  | span a b => exact absurd h (by decide +kernel : ("span" : Str) ≠ "gap")
  | bucket a b => exact absurd h (by decide +kernel : ("bucket" : Str) ≠ "gap")
  | gap a => exact ⟨a, rfl⟩
  | held a => exact absurd h (by decide +kernel : ("held" : Str) ≠ "gap")
  | pool a b => exact absurd h (by decide +kernel : ("pool" : Str) ≠ "gap")
theorem fsS_limit {la : Addr} {m : Int} {l : Int} {sp : Int} {us : Int} : (fsS la m l sp us).lookup ("limit" : Str) = some (V.ref la) := by kernel_rfl
theorem fsS_most {la : Addr} {m : Int} {l : Int} {sp : Int} {us : Int} : (fsS la m l sp us).lookup ("_most" : Str) = some (V.int m) := by kernel_rfl
theorem fsS_length {la : Addr} {m : Int} {l : Int} {sp : Int} {us : Int} : (fsS la m l sp us).lookup ("_length" : Str) = some (V.int l) := by kernel_rfl
theorem fsS_span {la : Addr} {m : Int} {l : Int} {sp : Int} {us : Int} : (fsS la m l sp us).lookup ("_span" : Str) = some (V.int sp) := by kernel_rfl
theorem fsS_used {la : Addr} {m : Int} {l : Int} {sp : Int} {us : Int} : (fsS la m l sp us).lookup ("_used" : Str) = some (V.int us) := by kernel_rfl
theorem fsB_limit {la : Addr} {m : Int} {l : Int} {sp : Int} {us : Int} : (fsB la m l sp us).lookup ("limit" : Str) = some (V.ref la) := by kernel_rfl
theorem fsB_size {la : Addr} {m : Int} {l : Int} {sp : Int} {us : Int} : (fsB la m l sp us).lookup ("_size" : Str) = some (V.int m) := by kernel_rfl
theorem fsB_every {la : Addr} {m : Int} {l : Int} {sp : Int} {us : Int} : (fsB la m l sp us).lookup ("_every" : Str) = some (V.int l) := by kernel_rfl
theorem fsB_missing {la : Addr} {m : Int} {l : Int} {sp : Int} {us : Int} : (fsB la m l sp us).lookup ("_missing" : Str) = some (V.int sp) := by kernel_rfl
theorem fsB_moment {la : Addr} {m : Int} {l : Int} {sp : Int} {us : Int} : (fsB la m l sp us).lookup ("_moment" : Str) = some (V.int us) := by kernel_rfl
theorem fsG_limit {la : Addr} {m : Int} {v : V} : (fsG la m v).lookup ("limit" : Str) = some (V.ref la) := by kernel_rfl
theorem fsG_ticks {la : Addr} {m : Int} {v : V} : (fsG la m v).lookup ("_ticks" : Str) = some (V.int m) := by kernel_rfl
theorem fsG_last {la : Addr} {m : Int} {v : V} : (fsG la m v).lookup ("_last" : Str) = some (v) := by kernel_rfl
theorem fsS_put1 {la : Addr} {m l sp us z : Int} : putF "_used" (.int z) (fsS la m l sp us) = fsS la m l sp z := by kernel_rfl
theorem fsS_put2 {la : Addr} {m l sp us z : Int} : putF "_span" (.int z) (fsS la m l sp us) = fsS la m l z us := by kernel_rfl
theorem fsS_init {la : Addr} {m l sp us : Int} : putF "_used" (.int us) (putF "_span" (.int sp) (putF "_length" (.int l) (putF "_most" (.int m) (putF "limit" (.ref la) [])))) = fsS la m l sp us := by kernel_rfl
theorem fsB_put1 {la : Addr} {m l sp us z : Int} : putF "_missing" (.int z) (fsB la m l sp us) = fsB la m l z us := by kernel_rfl
theorem fsB_put2 {la : Addr} {m l sp us z : Int} : putF "_moment" (.int z) (fsB la m l sp us) = fsB la m l sp z := by kernel_rfl
theorem fsB_init {la : Addr} {m l sp us : Int} : putF "_moment" (.int us) (putF "_missing" (.int sp) (putF "_every" (.int l) (putF "_size" (.int m) (putF "limit" (.ref la) [])))) = fsB la m l sp us := by kernel_rfl
theorem fsG_put {la : Addr} {m : Int} {v z : V} : putF "_last" z (fsG la m v) = fsG la m z := by kernel_rfl
theorem fsG_init {la : Addr} {m : Int} {v : V} : putF "_last" v (putF "_ticks" (.int m) (putF "limit" (.ref la) [])) = fsG la m v := by kernel_rfl
theorem MetAt.span1 {K : PySem.W.Frag} {H : Hp} {m : Addr} {own : List Addr} {L : Lim} {s : MSt} {a b : Int} (h : MetAt K H m own L s) (hr : L.rule = .span a b) : ∃ dx la sp us, s = .span sp us ∧ own = [m] ∧ LimAt K H la L ∧ H m = some (.ins (He.ga K "SpanMeter") dx (fsS la a b sp us)) := by
  obtain ⟨dx, la, hL, h⟩ := h
  rw [hr] at h
  cases s with
  | span sp us => exact ⟨dx, la, sp, us, rfl, h.1, hL, h.2⟩
  | _ => exact h.elim
theorem MetAt.bucket1 {K : PySem.W.Frag} {H : Hp} {m : Addr} {own : List Addr} {L : Lim} {s : MSt} {a b : Int} (h : MetAt K H m own L s) (hr : L.rule = .bucket a b) : ∃ dx la mi mo, s = .bucket mi mo ∧ own = [m] ∧ LimAt K H la L ∧ H m = some (.ins (He.ga K "BucketMeter") dx (fsB la a b mi mo)) := by
  obtain ⟨dx, la, hL, h⟩ := h
  rw [hr] at h
  cases s with
  | bucket mi mo => exact ⟨dx, la, mi, mo, rfl, h.1, hL, h.2⟩
  | _ => exact h.elim
theorem MetAt.gap1 {K : PySem.W.Frag} {H : Hp} {m : Addr} {own : List Addr} {L : Lim} {s : MSt} {a : Int} (h : MetAt K H m own L s) (hr : L.rule = .gap a) : ∃ dx la last, s = .gap last ∧ own = [m] ∧ LimAt K H la L ∧ H m = some (.ins (He.ga K "GapMeter") dx (fsG la a (optV last))) := by
  obtain ⟨dx, la, hL, h⟩ := h
  rw [hr] at h
  cases s with
  | gap last => exact ⟨dx, la, last, rfl, h.1, hL, h.2⟩
  | _ => exact h.elim
section
variable {P : Program} {w : World} {K : PySem.W.Frag} {mg : Str → Option Value} {base : Heap}
local macro_rules | `(tactic| walk_at "lk") => `(tactic| first | with_reducible exact fsS_limit | with_reducible exact fsS_most | with_reducible exact fsS_length | with_reducible exact fsS_span | with_reducible exact fsS_used)
abbrev sc_SpanMeter_init_N : List Str := ["self", "limit"]
theorem sc_SpanMeter_init : FnScope ["self", "limit"] ["self", "limit"] (defScope s_SpanMeter_init) := ⟨rfl, rfl, rfl, by decide +kernel, rfl, by decide +kernel, by decide +kernel⟩
theorem ok_SpanMeter_init (T : Tx w K mg) : OkD P w K mg base ("SpanMeter", some "__init__") 1 ["self", "limit"] (spInitM K "SpanMeter" "span") := by
  refine (T.fd_SpanMeter_init).ok sc_SpanMeter_init (fun vs H Q E h => ?_) (fun cdv A outer s H vs Q E hr h => ?_)
  · obtain ⟨m, la, dx, L, rfl, _⟩ := h
    rfl
  · obtain ⟨m, la, dx, L, rfl, hm, hL, hw, wf, k⟩ := h
    have hcl := T.cl_SpanMeter; have hno__length := T.no_SpanMeter__length; have hno__most := T.no_SpanMeter__most; have hno__span := T.no_SpanMeter__span; have hno__used := T.no_SpanMeter__used; have hno_limit := T.no_SpanMeter_limit
    obtain ⟨a, b, hr⟩ := rule_span hw
    have hL0 := hL
    obtain ⟨ga, na, h1, h2, h3⟩ := hL
    rw [hr] at h3
    have h4 : SqT K H na [.int a, .int b] := h3
    have e1 : Fr (fun b => b = m) H (upd H m (.ins (He.ga K "SpanMeter") dx (putF "limit" (.ref la) []))) := Fr.wr hm (fun z => z) rfl
    refine ⟨_, (PSs.nox (pss_cons (ps_fld (pv 0) (pv 1) rfl)
    (pss_cons (ps_asg (pe_ix (r := rIxT K) ix_tup (pv 1) pe_int (fun _ _ => rfl)) (pg_tup rfl (pgs_cons (pg_fldA (pv 0)) (pgs_cons (pg_fldA (pv 0)) pgs_nil))))
    (pss_cons (ps_fld (pv 0) pe_int rfl)
    (pss_one (ps_fld (pv 0) pe_int rfl)))))), ?_⟩
    walk_at "go"
    have h5 := e1.tu.t h1
    have h6 := e1.tu.t h4
    walk_at "go"
    rw [upd_upd, upd_upd, upd_upd, upd_upd, fsS_init]
    have fr : Fr (fun b => b = m) H (upd H m (.ins (He.ga K "SpanMeter") dx (fsS la a b 0 0))) := Fr.wr hm (fun z => z) rfl
    refine k _ [m] fr (fun q hq => .inl (List.mem_singleton.mp hq)) (fun H9 g9 t9 => ⟨dx, la, t9, ?_⟩)
    rw [hr]
    exact ⟨rfl, g9 _ _ upd_same (.inl rfl)⟩
abbrev sc_SpanMeter_released_N : List Str := ["self", "key", "moment"]
theorem sc_SpanMeter_released : FnScope ["self", "key", "moment"] ["self", "key", "moment"] (defScope s_SpanMeter_released) := ⟨rfl, rfl, rfl, by decide +kernel, rfl, by decide +kernel, by decide +kernel⟩
theorem ok_SpanMeter_released (T : Tx w K mg) : OkD P w K mg base ("SpanMeter", some "released") 1 ["self", "key", "moment"] (spRel K "span") := by
  refine (T.fd_SpanMeter_released).ok sc_SpanMeter_released (fun vs H Q E h => ?_) (fun cdv A outer s H vs Q E hr h => ?_)
  · obtain ⟨m, own, L, s', k, t, rfl, _⟩ := h
    rfl
  · obtain ⟨m, own, L, s', k, t, rfl, hM, hw, wf, so, kk⟩ := h
    obtain ⟨a, b, hr'⟩ := rule_span hw
    obtain ⟨dx, la, sp, us, rfl, _⟩ := hM.span1 hr'
    exact ⟨_, (PSs.nox (pss_one (ps_ret pe_bl))), kk false H Fr.rf hM⟩
def spUsedIn (K : PySem.W.Frag) : Sp := fun vs H Q _ => ∃ (m dx la : Addr) (a b sp us t : Int), vs = [.ref m, .int t] ∧ H m = some (.ins (He.ga K "SpanMeter") dx (fsS la a b sp us)) ∧ 0 < b ∧ b ≤ 1000 ∧ Q (.int (usedIn b sp us t)) H
abbrev sc_SpanMeter_used_in_N : List Str := ["self", "moment"]
theorem sc_SpanMeter_used_in : FnScope ["self", "moment"] ["self", "moment"] (defScope s_SpanMeter_used_in) := ⟨rfl, rfl, rfl, by decide +kernel, rfl, by decide +kernel, by decide +kernel⟩
theorem ok_SpanMeter_used_in (T : Tx w K mg) : OkD P w K mg base ("SpanMeter", some "used_in") 1 ["self", "moment"] (spUsedIn K) := by
  refine (T.fd_SpanMeter_used_in).ok sc_SpanMeter_used_in (fun vs H Q E h => ?_) (fun cdv A outer s H vs Q E hr h => ?_)
  · obtain ⟨m, dx, la, a, b, sp, us, t, rfl, _⟩ := h
    rfl
  · obtain ⟨m, dx, la, a, b, sp, us, t, rfl, hm, hb, hb2, k⟩ := h
    have hcl := T.cl_SpanMeter; have hno__length := T.no_SpanMeter__length; have hno__most := T.no_SpanMeter__most; have hno__span := T.no_SpanMeter__span; have hno__used := T.no_SpanMeter__used; have hno_limit := T.no_SpanMeter_limit
    refine ⟨_, (PSs.nox (pss_one (ps_ret (pe_ifExp (pt_cmpR op_eq (pe_op op_fdiv (pv 1) (show PE _ _ (tFld K _ _) from pe_fld (pv 0) rfl)) (show PE _ _ (tFld K _ _) from pe_fld (pv 0) rfl) (nomark _)) (show PE _ _ (tFld K _ _) from pe_fld (pv 0) rfl) pe_int)))), ?_⟩
    unfold usedIn at k
    walk_at "go"
    refine r_I ⟨hb, by omega⟩ ?_
    walk_at "go"
    rw [dint]
    refine r_d2 (fun q => ?_) (fun q => ?_)
    · rw [if_pos q] at k
      walk_at "go"
      exact k
    · rw [if_neg q] at k
      walk_at "go"
      exact k
abbrev sc_SpanMeter_room_N : List Str := ["self", "moment", "group", "cost"]
theorem sc_SpanMeter_room : FnScope ["self", "moment", "group", "cost"] ["self", "moment", "group", "cost"] (defScope s_SpanMeter_room) := ⟨rfl, rfl, rfl, by decide +kernel, rfl, by decide +kernel, by decide +kernel⟩
theorem ok_SpanMeter_room (T : Tx w K mg) : OkD P w K mg base ("SpanMeter", some "room") 2 ["self", "moment", "group", "cost"] (spRoom K "span") := by
  refine (T.fd_SpanMeter_room).ok sc_SpanMeter_room (fun vs H Q E h => ?_) (fun cdv A outer s H vs Q E hr h => ?_)
  · obtain ⟨m, own, L, s', t, g, c, rfl, _⟩ := h
    rfl
  · obtain ⟨m, own, L, s', t, g, c, rfl, hM, hw, wf, so, k⟩ := h
    have hcl := T.cl_SpanMeter; have hno__length := T.no_SpanMeter__length; have hno__most := T.no_SpanMeter__most; have hno__span := T.no_SpanMeter__span; have hno__used := T.no_SpanMeter__used; have hno_limit := T.no_SpanMeter_limit
    obtain ⟨a, b, hr'⟩ := rule_span hw
    obtain ⟨dx, la, sp, us, rfl, rfl, hL, hm⟩ := hM.span1 hr'
    have wn : 0 ≤ a ∧ a ≤ 1000 ∧ 1 ≤ b ∧ b ≤ 1000 := by
      have := wf.num
      rw [hr'] at this
      exact this
    refine ⟨_, (PSs.nox (pss_one (ps_ret (pe_or (pe_not (pe_call ((ok_looks_at T).mono (by decide)) hr (by rfl) T.g_looks_at T.fd_looks_at.kp T.bd_looks_at .nil pass0 (pa_cons (show PE _ _ (tFld K _ _) from pe_fld (pv 0) rfl) (pa_cons (pv 2) pa_nil)))) (pe_one (pe_cmpR op_le (pe_op op_add (pe_meth (pv 0) T.cl_SpanMeter T.me_SpanMeter_used_in ((ok_SpanMeter_used_in T).mono (by decide)) hr T.bd_SpanMeter_used_in .nil pass0 (pa_cons (pv 1) pa_nil)) (pv 3)) (show PE _ _ (tFld K _ _) from pe_fld (pv 0) rfl) (nomark _))))))), ?_⟩
    walk_at "go"
    refine ⟨la, L, g, rfl, hL, wf.sm, fun H1 e1 => ?_⟩
    have hm1 := e1 _ _ hm
    unfold roomM at k
    rw [hr'] at k
    walk_at "go"
    refine r_b2 (fun z => ?_) (fun z => ?_)
    · rw [z] at k
      exact k _ e1
    · rw [z] at k
      walk_at "go"
      refine ⟨m, dx, la, a, b, sp, us, t, rfl, hm1, by omega, by omega, ?_⟩
      walk_at "go"
      exact k _ e1
abbrev sc_SpanMeter_earliest_N : List Str := ["self", "moment", "group", "cost"]
theorem sc_SpanMeter_earliest : FnScope ["self", "moment", "group", "cost"] ["self", "moment", "group", "cost"] (defScope s_SpanMeter_earliest) := ⟨rfl, rfl, rfl, by decide +kernel, rfl, by decide +kernel, by decide +kernel⟩
theorem ok_SpanMeter_earliest (T : Tx w K mg) : OkD P w K mg base ("SpanMeter", some "earliest") 3 ["self", "moment", "group", "cost"] (spEarly K "span") := by
  refine (T.fd_SpanMeter_earliest).ok sc_SpanMeter_earliest (fun vs H Q E h => ?_) (fun cdv A outer s H vs Q E hr h => ?_)
  · obtain ⟨m, own, L, s', t, g, c, rfl, _⟩ := h
    rfl
  · obtain ⟨m, own, L, s', t, g, c, rfl, hM, hw, wf, so, k⟩ := h
    have hcl := T.cl_SpanMeter; have hno__length := T.no_SpanMeter__length; have hno__most := T.no_SpanMeter__most; have hno__span := T.no_SpanMeter__span; have hno__used := T.no_SpanMeter__used; have hno_limit := T.no_SpanMeter_limit
    obtain ⟨a, b, hr'⟩ := rule_span hw
    obtain ⟨dx, la, sp, us, rfl, rfl, hL, hm⟩ := hM.span1 hr'
    have wn : 0 ≤ a ∧ a ≤ 1000 ∧ 1 ≤ b ∧ b ≤ 1000 := by
      have := wf.num
      rw [hr'] at this
      exact this
    refine ⟨_, (PSs.nox (pss_cons (ps_if (pt_val (pe_meth (pv 0) T.cl_SpanMeter T.me_SpanMeter_room ((ok_SpanMeter_room T).mono (by decide)) hr T.bd_SpanMeter_room .nil pass0 (pa_cons (pv 1) (pa_cons (pv 2) (pa_cons (pv 3) pa_nil))))) (pss_one (ps_ret (pv 1))) pss_nil)
    (pss_cons (ps_if (pt_cmpR op_gt (pv 3) (show PE _ _ (tFld K _ _) from pe_fld (pv 0) rfl) (nomark _)) (pss_one (ps_ret pe_non)) pss_nil)
    (pss_one (ps_ret (pe_op op_mul (pe_op op_add (pe_op op_fdiv (pv 1) (show PE _ _ (tFld K _ _) from pe_fld (pv 0) rfl)) pe_int) (show PE _ _ (tFld K _ _) from pe_fld (pv 0) rfl))))))), ?_⟩
    walk_at "go"
    refine ⟨m, [m], L, .span sp us, t, g, c, rfl, hM, hw, wf, so, fun H1 e1 => ?_⟩
    have hm1 := e1 _ _ hm
    unfold earlyM at k
    walk_at "go"
    refine r_b2 (fun z => ?_) (fun z => ?_)
    · rw [z] at k
      walk_at "go"
      exact k _ e1
    · rw [z, hr'] at k
      have k : ∀ H', Ex H H' → Q (optV (if a < c then none else some ((t / b + 1) * b))) H' := k
      walk_at "go"
      refine r_d2 (fun q => ?_) (fun q => ?_)
      · rw [if_pos q] at k
        walk_at "go"
        exact k _ e1
      · rw [if_neg q] at k
        walk_at "go"
        refine r_I ⟨by omega, by omega⟩ ?_
        walk_at "go"
        refine r_I (.inr ⟨by omega, by omega⟩) ?_
        exact k _ e1
abbrev sc_SpanMeter_let_N : List Str := ["self", "moment", "group", "cost", "key"]
theorem sc_SpanMeter_let : FnScope ["self", "moment", "group", "cost", "key"] ["self", "moment", "group", "cost", "key"] (defScope s_SpanMeter_let) := ⟨rfl, rfl, rfl, by decide +kernel, rfl, by decide +kernel, by decide +kernel⟩
theorem ok_SpanMeter_let (T : Tx w K mg) : OkD P w K mg base ("SpanMeter", some "let") 2 ["self", "moment", "group", "cost", "key"] (spLet K "span") := by
  refine (T.fd_SpanMeter_let).ok sc_SpanMeter_let (fun vs H Q E h => ?_) (fun cdv A outer s H vs Q E hr h => ?_)
  · obtain ⟨m, own, L, s', t, g, c, k, rfl, _⟩ := h
    rfl
  · obtain ⟨m, own, L, s', t, g, c, k, rfl, hM, hw, wf, so, fr, kk⟩ := h
    have hcl := T.cl_SpanMeter; have hno__length := T.no_SpanMeter__length; have hno__most := T.no_SpanMeter__most; have hno__span := T.no_SpanMeter__span; have hno__used := T.no_SpanMeter__used; have hno_limit := T.no_SpanMeter_limit
    obtain ⟨a, b, hr'⟩ := rule_span hw
    obtain ⟨dx, la, sp, us, rfl, rfl, hL, hm⟩ := hM.span1 hr'
    have wn : 0 ≤ a ∧ a ≤ 1000 ∧ 1 ≤ b ∧ b ≤ 1000 := by
      have := wf.num
      rw [hr'] at this
      exact this
    refine ⟨_, (PSs.nox (pss_one (ps_if (pt_val (pe_call ((ok_looks_at T).mono (by decide)) hr (by rfl) T.g_looks_at T.fd_looks_at.kp T.bd_looks_at .nil pass0 (pa_cons (show PE _ _ (tFld K _ _) from pe_fld (pv 0) rfl) (pa_cons (pv 2) pa_nil)))) (pss_cons (ps_fld (pv 0) (pe_op op_add (pe_meth (pv 0) T.cl_SpanMeter T.me_SpanMeter_used_in ((ok_SpanMeter_used_in T).mono (by decide)) hr T.bd_SpanMeter_used_in .nil pass0 (pa_cons (pv 1) pa_nil)) (pv 3)) rfl)
    (pss_one (ps_fld (pv 0) (pe_op op_fdiv (pv 1) (show PE _ _ (tFld K _ _) from pe_fld (pv 0) rfl)) rfl))) pss_nil))), ?_⟩
    walk_at "go"
    refine ⟨la, L, g, rfl, hL, wf.sm, fun H1 e1 => ?_⟩
    have hm1 := e1 _ _ hm
    unfold letM at kk
    walk_at "go"
    refine r_b2 (fun z => ?_) (fun z => ?_)
    · rw [z, hr'] at kk
      walk_at "go"
      refine ⟨m, dx, la, a, b, sp, us, t, rfl, hm1, by omega, by omega, ?_⟩
      walk_at "go"
      rw [fsS_put1]
      have hm2 : upd H1 m (.ins (He.ga K "SpanMeter") dx (fsS la a b sp (usedIn b sp us t + c))) m = some (.ins (He.ga K "SpanMeter") dx (fsS la a b sp (usedIn b sp us t + c))) := upd_same
      walk_at "go"
      refine r_I ⟨by omega, by omega⟩ ?_
      walk_at "go"
      rw [fsS_put2, upd_upd]
      have f : Fr (fun b => b ∈ [m]) H (upd H1 m (.ins (He.ga K "SpanMeter") dx (fsS la a b (t / b) (usedIn b sp us t + c)))) := e1.frm.tr (Fr.wr hm1 (fun z => z) (List.mem_singleton.mpr rfl))
      refine kk _ f ⟨dx, la, f.tu.lim hL, ?_⟩
      rw [hr']
      exact ⟨rfl, upd_same⟩
    · rw [z] at kk
      walk_at "go"
      exact kk _ e1.frm (hM.ex e1)
local macro_rules | `(tactic| walk_at "lk") => `(tactic| first | with_reducible exact fsB_limit | with_reducible exact fsB_size | with_reducible exact fsB_every | with_reducible exact fsB_missing | with_reducible exact fsB_moment)
abbrev sc_BucketMeter_init_N : List Str := ["self", "limit"]
theorem sc_BucketMeter_init : FnScope ["self", "limit"] ["self", "limit"] (defScope s_BucketMeter_init) := ⟨rfl, rfl, rfl, by decide +kernel, rfl, by decide +kernel, by decide +kernel⟩
theorem ok_BucketMeter_init (T : Tx w K mg) : OkD P w K mg base ("BucketMeter", some "__init__") 1 ["self", "limit"] (spInitM K "BucketMeter" "bucket") := by
  refine (T.fd_BucketMeter_init).ok sc_BucketMeter_init (fun vs H Q E h => ?_) (fun cdv A outer s H vs Q E hr h => ?_)
  · obtain ⟨m, la, dx, L, rfl, _⟩ := h
    rfl
  · obtain ⟨m, la, dx, L, rfl, hm, hL, hw, wf, k⟩ := h
    have hcl := T.cl_BucketMeter; have hno__every := T.no_BucketMeter__every; have hno__missing := T.no_BucketMeter__missing; have hno__moment := T.no_BucketMeter__moment; have hno__size := T.no_BucketMeter__size; have hno_limit := T.no_BucketMeter_limit
    obtain ⟨a, b, hr⟩ := rule_bucket hw
    have hL0 := hL
    obtain ⟨ga, na, h1, h2, h3⟩ := hL
    rw [hr] at h3
    have h4 : SqT K H na [.int a, .int b] := h3
    have e1 : Fr (fun b => b = m) H (upd H m (.ins (He.ga K "BucketMeter") dx (putF "limit" (.ref la) []))) := Fr.wr hm (fun z => z) rfl
    refine ⟨_, (PSs.nox (pss_cons (ps_fld (pv 0) (pv 1) rfl)
    (pss_cons (ps_asg (pe_ix (r := rIxT K) ix_tup (pv 1) pe_int (fun _ _ => rfl)) (pg_tup rfl (pgs_cons (pg_fldA (pv 0)) (pgs_cons (pg_fldA (pv 0)) pgs_nil))))
    (pss_cons (ps_fld (pv 0) pe_int rfl)
    (pss_one (ps_fld (pv 0) pe_int rfl)))))), ?_⟩
    walk_at "go"
    have h5 := e1.tu.t h1
    have h6 := e1.tu.t h4
    walk_at "go"
    rw [upd_upd, upd_upd, upd_upd, upd_upd, fsB_init]
    have fr : Fr (fun b => b = m) H (upd H m (.ins (He.ga K "BucketMeter") dx (fsB la a b 0 0))) := Fr.wr hm (fun z => z) rfl
    refine k _ [m] fr (fun q hq => .inl (List.mem_singleton.mp hq)) (fun H9 g9 t9 => ⟨dx, la, t9, ?_⟩)
    rw [hr]
    exact ⟨rfl, g9 _ _ upd_same (.inl rfl)⟩
abbrev sc_BucketMeter_released_N : List Str := ["self", "key", "moment"]
theorem sc_BucketMeter_released : FnScope ["self", "key", "moment"] ["self", "key", "moment"] (defScope s_BucketMeter_released) := ⟨rfl, rfl, rfl, by decide +kernel, rfl, by decide +kernel, by decide +kernel⟩
theorem ok_BucketMeter_released (T : Tx w K mg) : OkD P w K mg base ("BucketMeter", some "released") 1 ["self", "key", "moment"] (spRel K "bucket") := by
  refine (T.fd_BucketMeter_released).ok sc_BucketMeter_released (fun vs H Q E h => ?_) (fun cdv A outer s H vs Q E hr h => ?_)
  · obtain ⟨m, own, L, s', k, t, rfl, _⟩ := h
    rfl
  · obtain ⟨m, own, L, s', k, t, rfl, hM, hw, wf, so, kk⟩ := h
    obtain ⟨a, b, hr'⟩ := rule_bucket hw
    obtain ⟨dx, la, mi, mo, rfl, _⟩ := hM.bucket1 hr'
    exact ⟨_, (PSs.nox (pss_one (ps_ret pe_bl))), kk false H Fr.rf hM⟩
def spMissAt (K : PySem.W.Frag) : Sp := fun vs H Q _ => ∃ (m dx la : Addr) (a b mi mo t : Int), vs = [.ref m, .int t] ∧ H m = some (.ins (He.ga K "BucketMeter") dx (fsB la a b mi mo)) ∧ Q (.int (missAt mi mo t)) H
abbrev sc_BucketMeter_missing_at_N : List Str := ["self", "moment"]
theorem sc_BucketMeter_missing_at : FnScope ["self", "moment"] ["self", "moment"] (defScope s_BucketMeter_missing_at) := ⟨rfl, rfl, rfl, by decide +kernel, rfl, by decide +kernel, by decide +kernel⟩
theorem ok_BucketMeter_missing_at (T : Tx w K mg) : OkD P w K mg base ("BucketMeter", some "missing_at") 1 ["self", "moment"] (spMissAt K) := by
  refine (T.fd_BucketMeter_missing_at).ok sc_BucketMeter_missing_at (fun vs H Q E h => ?_) (fun cdv A outer s H vs Q E hr h => ?_)
  · obtain ⟨m, dx, la, a, b, mi, mo, t, rfl, _⟩ := h
    rfl
  · obtain ⟨m, dx, la, a, b, mi, mo, t, rfl, hm, k⟩ := h
    have hcl := T.cl_BucketMeter; have hno__every := T.no_BucketMeter__every; have hno__missing := T.no_BucketMeter__missing; have hno__moment := T.no_BucketMeter__moment; have hno__size := T.no_BucketMeter__size; have hno_limit := T.no_BucketMeter_limit
    refine ⟨_, (PSs.nox (pss_one (ps_ret (pe_callB (cr_maxJ rfl) (by rfl) T.f_max (by decide +kernel) (pa_cons pe_int (pa_cons (pe_op op_sub (show PE _ _ (tFld K _ _) from pe_fld (pv 0) rfl) (pe_op op_sub (pv 1) (show PE _ _ (tFld K _ _) from pe_fld (pv 0) rfl))) pa_nil)))))), ?_⟩
    walk_at "go"
    exact k
def spTooMuch (K : PySem.W.Frag) : Sp := fun vs H Q _ => ∃ (m dx la : Addr) (a b mi mo t c : Int), vs = [.ref m, .int t, .int c] ∧ H m = some (.ins (He.ga K "BucketMeter") dx (fsB la a b mi mo)) ∧ 0 ≤ a ∧ a ≤ 1000 ∧ 0 ≤ b ∧ b ≤ 1000 ∧ Q (.int (missAt mi mo t + b * c - a * b)) H
abbrev sc_BucketMeter_too_much_N : List Str := ["self", "moment", "cost"]
theorem sc_BucketMeter_too_much : FnScope ["self", "moment", "cost"] ["self", "moment", "cost"] (defScope s_BucketMeter_too_much) := ⟨rfl, rfl, rfl, by decide +kernel, rfl, by decide +kernel, by decide +kernel⟩
theorem ok_BucketMeter_too_much (T : Tx w K mg) : OkD P w K mg base ("BucketMeter", some "too_much") 2 ["self", "moment", "cost"] (spTooMuch K) := by
  refine (T.fd_BucketMeter_too_much).ok sc_BucketMeter_too_much (fun vs H Q E h => ?_) (fun cdv A outer s H vs Q E hr h => ?_)
  · obtain ⟨m, dx, la, a, b, mi, mo, t, c, rfl, _⟩ := h
    rfl
  · obtain ⟨m, dx, la, a, b, mi, mo, t, c, rfl, hm, ha, ha2, hb, hb2, k⟩ := h
    have hcl := T.cl_BucketMeter; have hno__every := T.no_BucketMeter__every; have hno__missing := T.no_BucketMeter__missing; have hno__moment := T.no_BucketMeter__moment; have hno__size := T.no_BucketMeter__size; have hno_limit := T.no_BucketMeter_limit
    refine ⟨_, (PSs.nox (pss_one (ps_ret (pe_op op_sub (pe_op op_add (pe_meth (pv 0) T.cl_BucketMeter T.me_BucketMeter_missing_at ((ok_BucketMeter_missing_at T).mono (by decide)) hr T.bd_BucketMeter_missing_at .nil pass0 (pa_cons (pv 1) pa_nil)) (pe_op op_mul (show PE _ _ (tFld K _ _) from pe_fld (pv 0) rfl) (pv 2))) (pe_op op_mul (show PE _ _ (tFld K _ _) from pe_fld (pv 0) rfl) (show PE _ _ (tFld K _ _) from pe_fld (pv 0) rfl)))))), ?_⟩
    walk_at "go"
    refine ⟨m, dx, la, a, b, mi, mo, t, rfl, hm, ?_⟩
    walk_at "go"
    refine r_I (.inl ⟨by omega, by omega⟩) ?_
    walk_at "go"
    refine r_I (.inl ⟨by omega, by omega⟩) ?_
    walk_at "go"
    exact k
abbrev sc_BucketMeter_room_N : List Str := ["self", "moment", "group", "cost"]
theorem sc_BucketMeter_room : FnScope ["self", "moment", "group", "cost"] ["self", "moment", "group", "cost"] (defScope s_BucketMeter_room) := ⟨rfl, rfl, rfl, by decide +kernel, rfl, by decide +kernel, by decide +kernel⟩
theorem ok_BucketMeter_room (T : Tx w K mg) : OkD P w K mg base ("BucketMeter", some "room") 3 ["self", "moment", "group", "cost"] (spRoom K "bucket") := by
  refine (T.fd_BucketMeter_room).ok sc_BucketMeter_room (fun vs H Q E h => ?_) (fun cdv A outer s H vs Q E hr h => ?_)
  · obtain ⟨m, own, L, s', t, g, c, rfl, _⟩ := h
    rfl
  · obtain ⟨m, own, L, s', t, g, c, rfl, hM, hw, wf, so, k⟩ := h
    have hcl := T.cl_BucketMeter; have hno__every := T.no_BucketMeter__every; have hno__missing := T.no_BucketMeter__missing; have hno__moment := T.no_BucketMeter__moment; have hno__size := T.no_BucketMeter__size; have hno_limit := T.no_BucketMeter_limit
    obtain ⟨a, b, hr'⟩ := rule_bucket hw
    obtain ⟨dx, la, mi, mo, rfl, rfl, hL, hm⟩ := hM.bucket1 hr'
    have wn : 0 ≤ a ∧ a ≤ 1000 ∧ 1 ≤ b ∧ b ≤ 1000 := by
      have := wf.num
      rw [hr'] at this
      exact this
    refine ⟨_, (PSs.nox (pss_one (ps_ret (pe_or (pe_not (pe_call ((ok_looks_at T).mono (by decide)) hr (by rfl) T.g_looks_at T.fd_looks_at.kp T.bd_looks_at .nil pass0 (pa_cons (show PE _ _ (tFld K _ _) from pe_fld (pv 0) rfl) (pa_cons (pv 2) pa_nil)))) (pe_one (pe_cmpR op_le (pe_meth (pv 0) T.cl_BucketMeter T.me_BucketMeter_too_much ((ok_BucketMeter_too_much T).mono (by decide)) hr T.bd_BucketMeter_too_much .nil pass0 (pa_cons (pv 1) (pa_cons (pv 3) pa_nil))) pe_int (nomark _))))))), ?_⟩
    walk_at "go"
    refine ⟨la, L, g, rfl, hL, wf.sm, fun H1 e1 => ?_⟩
    have hm1 := e1 _ _ hm
    unfold roomM at k
    rw [hr'] at k
    walk_at "go"
    refine r_b2 (fun z => ?_) (fun z => ?_)
    · rw [z] at k
      exact k _ e1
    · rw [z] at k
      walk_at "go"
      refine ⟨m, dx, la, a, b, mi, mo, t, c, rfl, hm1, by omega, by omega, by omega, by omega, ?_⟩
      walk_at "go"
      exact k _ e1
abbrev sc_BucketMeter_earliest_N : List Str := ["self", "moment", "group", "cost"]
theorem sc_BucketMeter_earliest : FnScope ["self", "moment", "group", "cost"] ["self", "moment", "group", "cost"] (defScope s_BucketMeter_earliest) := ⟨rfl, rfl, rfl, by decide +kernel, rfl, by decide +kernel, by decide +kernel⟩
theorem ok_BucketMeter_earliest (T : Tx w K mg) : OkD P w K mg base ("BucketMeter", some "earliest") 4 ["self", "moment", "group", "cost"] (spEarly K "bucket") := by
  refine (T.fd_BucketMeter_earliest).ok sc_BucketMeter_earliest (fun vs H Q E h => ?_) (fun cdv A outer s H vs Q E hr h => ?_)
  · obtain ⟨m, own, L, s', t, g, c, rfl, _⟩ := h
    rfl
  · obtain ⟨m, own, L, s', t, g, c, rfl, hM, hw, wf, so, k⟩ := h
    have hcl := T.cl_BucketMeter; have hno__every := T.no_BucketMeter__every; have hno__missing := T.no_BucketMeter__missing; have hno__moment := T.no_BucketMeter__moment; have hno__size := T.no_BucketMeter__size; have hno_limit := T.no_BucketMeter_limit
    obtain ⟨a, b, hr'⟩ := rule_bucket hw
    obtain ⟨dx, la, mi, mo, rfl, rfl, hL, hm⟩ := hM.bucket1 hr'
    have wn : 0 ≤ a ∧ a ≤ 1000 ∧ 1 ≤ b ∧ b ≤ 1000 := by
      have := wf.num
      rw [hr'] at this
      exact this
    refine ⟨_, (PSs.nox (pss_cons (ps_if (pt_val (pe_meth (pv 0) T.cl_BucketMeter T.me_BucketMeter_room ((ok_BucketMeter_room T).mono (by decide)) hr T.bd_BucketMeter_room .nil pass0 (pa_cons (pv 1) (pa_cons (pv 2) (pa_cons (pv 3) pa_nil))))) (pss_one (ps_ret (pv 1))) pss_nil)
    (pss_cons (ps_if (pt_cmpR op_gt (pv 3) (show PE _ _ (tFld K _ _) from pe_fld (pv 0) rfl) (nomark _)) (pss_one (ps_ret pe_non)) pss_nil)
    (pss_one (ps_ret (pe_op op_add (pv 1) (pe_meth (pv 0) T.cl_BucketMeter T.me_BucketMeter_too_much ((ok_BucketMeter_too_much T).mono (by decide)) hr T.bd_BucketMeter_too_much .nil pass0 (pa_cons (pv 1) (pa_cons (pv 3) pa_nil))))))))), ?_⟩
    walk_at "go"
    refine ⟨m, [m], L, .bucket mi mo, t, g, c, rfl, hM, hw, wf, so, fun H1 e1 => ?_⟩
    have hm1 := e1 _ _ hm
    unfold earlyM at k
    walk_at "go"
    refine r_b2 (fun z => ?_) (fun z => ?_)
    · rw [z] at k
      walk_at "go"
      exact k _ e1
    · rw [z, hr'] at k
      have k : ∀ H', Ex H H' → Q (optV (if a < c then none else some (t + (missAt mi mo t + b * c - a * b)))) H' := k
      walk_at "go"
      refine r_d2 (fun q => ?_) (fun q => ?_)
      · rw [if_pos q] at k
        walk_at "go"
        exact k _ e1
      · rw [if_neg q] at k
        walk_at "go"
        refine ⟨m, dx, la, a, b, mi, mo, t, c, rfl, hm1, by omega, by omega, by omega, by omega, ?_⟩
        walk_at "go"
        exact k _ e1
abbrev sc_BucketMeter_let_N : List Str := ["self", "moment", "group", "cost", "key"]
theorem sc_BucketMeter_let : FnScope ["self", "moment", "group", "cost", "key"] ["self", "moment", "group", "cost", "key"] (defScope s_BucketMeter_let) := ⟨rfl, rfl, rfl, by decide +kernel, rfl, by decide +kernel, by decide +kernel⟩
theorem ok_BucketMeter_let (T : Tx w K mg) : OkD P w K mg base ("BucketMeter", some "let") 2 ["self", "moment", "group", "cost", "key"] (spLet K "bucket") := by
  refine (T.fd_BucketMeter_let).ok sc_BucketMeter_let (fun vs H Q E h => ?_) (fun cdv A outer s H vs Q E hr h => ?_)
  · obtain ⟨m, own, L, s', t, g, c, k, rfl, _⟩ := h
    rfl
  · obtain ⟨m, own, L, s', t, g, c, k, rfl, hM, hw, wf, so, fr, kk⟩ := h
    have hcl := T.cl_BucketMeter; have hno__every := T.no_BucketMeter__every; have hno__missing := T.no_BucketMeter__missing; have hno__moment := T.no_BucketMeter__moment; have hno__size := T.no_BucketMeter__size; have hno_limit := T.no_BucketMeter_limit
    obtain ⟨a, b, hr'⟩ := rule_bucket hw
    obtain ⟨dx, la, mi, mo, rfl, rfl, hL, hm⟩ := hM.bucket1 hr'
    have wn : 0 ≤ a ∧ a ≤ 1000 ∧ 1 ≤ b ∧ b ≤ 1000 := by
      have := wf.num
      rw [hr'] at this
      exact this
    refine ⟨_, (PSs.nox (pss_one (ps_if (pt_val (pe_call ((ok_looks_at T).mono (by decide)) hr (by rfl) T.g_looks_at T.fd_looks_at.kp T.bd_looks_at .nil pass0 (pa_cons (show PE _ _ (tFld K _ _) from pe_fld (pv 0) rfl) (pa_cons (pv 2) pa_nil)))) (pss_cons (ps_fld (pv 0) (pe_op op_add (pe_meth (pv 0) T.cl_BucketMeter T.me_BucketMeter_missing_at ((ok_BucketMeter_missing_at T).mono (by decide)) hr T.bd_BucketMeter_missing_at .nil pass0 (pa_cons (pv 1) pa_nil)) (pe_op op_mul (show PE _ _ (tFld K _ _) from pe_fld (pv 0) rfl) (pv 3))) rfl)
    (pss_one (ps_fld (pv 0) (pv 1) rfl))) pss_nil))), ?_⟩
    walk_at "go"
    refine ⟨la, L, g, rfl, hL, wf.sm, fun H1 e1 => ?_⟩
    have hm1 := e1 _ _ hm
    unfold letM at kk
    walk_at "go"
    refine r_b2 (fun z => ?_) (fun z => ?_)
    · rw [z, hr'] at kk
      walk_at "go"
      refine ⟨m, dx, la, a, b, mi, mo, t, rfl, hm1, ?_⟩
      walk_at "go"
      refine r_I (.inl ⟨by omega, by omega⟩) ?_
      walk_at "go"
      rw [fsB_put1, fsB_put2, upd_upd]
      have f : Fr (fun b => b ∈ [m]) H (upd H1 m (.ins (He.ga K "BucketMeter") dx (fsB la a b (missAt mi mo t + b * c) t))) := e1.frm.tr (Fr.wr hm1 (fun z => z) (List.mem_singleton.mpr rfl))
      refine kk _ f ⟨dx, la, f.tu.lim hL, ?_⟩
      rw [hr']
      exact ⟨rfl, upd_same⟩
    · rw [z] at kk
      walk_at "go"
      exact kk _ e1.frm (hM.ex e1)
local macro_rules | `(tactic| walk_at "lk") => `(tactic| first | with_reducible exact fsG_limit | with_reducible exact fsG_ticks | with_reducible exact fsG_last)
abbrev sc_GapMeter_init_N : List Str := ["self", "limit"]
theorem sc_GapMeter_init : FnScope ["self", "limit"] ["self", "limit"] (defScope s_GapMeter_init) := ⟨rfl, rfl, rfl, by decide +kernel, rfl, by decide +kernel, by decide +kernel⟩
theorem ok_GapMeter_init (T : Tx w K mg) : OkD P w K mg base ("GapMeter", some "__init__") 1 ["self", "limit"] (spInitM K "GapMeter" "gap") := by
  refine (T.fd_GapMeter_init).ok sc_GapMeter_init (fun vs H Q E h => ?_) (fun cdv A outer s H vs Q E hr h => ?_)
  · obtain ⟨m, la, dx, L, rfl, _⟩ := h
    rfl
  · obtain ⟨m, la, dx, L, rfl, hm, hL, hw, wf, k⟩ := h
    have hcl := T.cl_GapMeter; have hno__last := T.no_GapMeter__last; have hno__ticks := T.no_GapMeter__ticks; have hno_limit := T.no_GapMeter_limit
    obtain ⟨a, hr⟩ := rule_gap hw
    have hL0 := hL
    obtain ⟨ga, na, h1, h2, h3⟩ := hL
    rw [hr] at h3
    have h4 : SqT K H na [.int a] := h3
    have e1 : Fr (fun b => b = m) H (upd H m (.ins (He.ga K "GapMeter") dx (putF "limit" (.ref la) []))) := Fr.wr hm (fun z => z) rfl
    refine ⟨_, (PSs.nox (pss_cons (ps_fld (pv 0) (pv 1) rfl)
    (pss_cons (ps_fld (pv 0) (pe_ix (r := rIxT K) ix_tup (pe_ix (r := rIxT K) ix_tup (pv 1) pe_int (fun _ _ => rfl)) pe_int (fun _ _ => rfl)) rfl)
    (pss_one (ps_fld (pv 0) pe_non rfl))))), ?_⟩
    walk_at "go"
    have h5 := e1.tu.t h1
    have h6 := e1.tu.t h4
    walk_at "go"
    rw [upd_upd, upd_upd, fsG_init]
    have fr : Fr (fun b => b = m) H (upd H m (.ins (He.ga K "GapMeter") dx (fsG la a .non))) := Fr.wr hm (fun z => z) rfl
    refine k _ [m] fr (fun q hq => .inl (List.mem_singleton.mp hq)) (fun H9 g9 t9 => ⟨dx, la, t9, ?_⟩)
    rw [hr]
    exact ⟨rfl, g9 _ _ upd_same (.inl rfl)⟩
abbrev sc_GapMeter_released_N : List Str := ["self", "key", "moment"]
theorem sc_GapMeter_released : FnScope ["self", "key", "moment"] ["self", "key", "moment"] (defScope s_GapMeter_released) := ⟨rfl, rfl, rfl, by decide +kernel, rfl, by decide +kernel, by decide +kernel⟩
theorem ok_GapMeter_released (T : Tx w K mg) : OkD P w K mg base ("GapMeter", some "released") 1 ["self", "key", "moment"] (spRel K "gap") := by
  refine (T.fd_GapMeter_released).ok sc_GapMeter_released (fun vs H Q E h => ?_) (fun cdv A outer s H vs Q E hr h => ?_)
  · obtain ⟨m, own, L, s', k, t, rfl, _⟩ := h
    rfl
  · obtain ⟨m, own, L, s', k, t, rfl, hM, hw, wf, so, kk⟩ := h
    obtain ⟨a, hr'⟩ := rule_gap hw
    obtain ⟨dx, la, last, rfl, _⟩ := hM.gap1 hr'
    exact ⟨_, (PSs.nox (pss_one (ps_ret pe_bl))), kk false H Fr.rf hM⟩
abbrev sc_GapMeter_earliest_N : List Str := ["self", "moment", "group", "cost"]
theorem sc_GapMeter_earliest : FnScope ["self", "moment", "group", "cost"] ["self", "moment", "group", "cost"] (defScope s_GapMeter_earliest) := ⟨rfl, rfl, rfl, by decide +kernel, rfl, by decide +kernel, by decide +kernel⟩
theorem ok_GapMeter_earliest (T : Tx w K mg) : OkD P w K mg base ("GapMeter", some "earliest") 2 ["self", "moment", "group", "cost"] (spEarly K "gap") := by
  refine (T.fd_GapMeter_earliest).ok sc_GapMeter_earliest (fun vs H Q E h => ?_) (fun cdv A outer s H vs Q E hr h => ?_)
  · obtain ⟨m, own, L, s', t, g, c, rfl, _⟩ := h
    rfl
  · obtain ⟨m, own, L, s', t, g, c, rfl, hM, hw, wf, so, k⟩ := h
    have hcl := T.cl_GapMeter; have hno__last := T.no_GapMeter__last; have hno__ticks := T.no_GapMeter__ticks; have hno_limit := T.no_GapMeter_limit
    obtain ⟨a, hr'⟩ := rule_gap hw
    obtain ⟨dx, la, last, rfl, rfl, hL, hm⟩ := hM.gap1 hr'
    refine ⟨_, (PSs.nox (pss_cons (ps_if (PW.pt (pw_or (pt_cmpR op_isN1 (show PE _ _ (tFld K _ _) from pe_fld (pv 0) rfl) pe_non (nomark _)) (pw_or1 (pt_not (pt_val (pe_call ((ok_looks_at T).mono (by decide)) hr (by rfl) T.g_looks_at T.fd_looks_at.kp T.bd_looks_at .nil pass0 (pa_cons (show PE _ _ (tFld K _ _) from pe_fld (pv 0) rfl) (pa_cons (pv 2) pa_nil)))))))) (pss_one (ps_ret (pv 1))) pss_nil)
    (pss_one (ps_ret (pe_callB (cr_maxJ rfl) (by rfl) T.f_max (by decide +kernel) (pa_cons (pv 1) (pa_cons (pe_op op_add (show PE _ _ (tFld K _ _) from pe_fld (pv 0) rfl) (show PE _ _ (tFld K _ _) from pe_fld (pv 0) rfl)) pa_nil))))))), ?_⟩
    walk_at "go"
    cases last with
    | none =>
      refine r_yes rfl ?_
      walk_at "go"
      have e2 : earlyM L (.gap none) t g c = some t := by
        unfold earlyM roomM
        rw [hr']
        have e3 : (!looksB L g || roomC (.gap a) (.gap none) t g c) = true := by
          show (!looksB L g || true) = true
          simp
        rw [if_pos e3]
      rw [e2] at k
      exact k _ Ex.rf
    | some b =>
      refine r_no (by intro q; cases q) ?_
      walk_at "go"
      refine ⟨la, L, g, rfl, hL, wf.sm, fun H1 e1 => ?_⟩
      have hm1 : H1 m = some (.ins (He.ga K "GapMeter") dx (fsG la a (.int b))) := e1 _ _ hm
      walk_at "go"
      refine r_b2 (fun z => ?_) (fun z => ?_)
      · have z1 : looksB L g = false := by simpa using z
        have e2 : earlyM L (.gap (some b)) t g c = some t := by
          unfold earlyM roomM
          rw [z1]
          rfl
        rw [e2] at k
        walk_at "go"
        exact k _ e1
      · have z1 : looksB L g = true := by simpa using z
        have e2 : earlyM L (.gap (some b)) t g c = some (max t (b + a)) := by
          unfold earlyM roomM
          rw [z1, hr']
          show (if (!true || decide (max t (b + a) = t)) = true then some t else some (max t (b + a))) = some (max t (b + a))
          split
          · rename_i q
            have : max t (b + a) = t := by simpa using q
            rw [this]
          · rfl
        rw [e2] at k
        walk_at "go"
        exact k _ e1
abbrev sc_GapMeter_room_N : List Str := ["self", "moment", "group", "cost"]
theorem sc_GapMeter_room : FnScope ["self", "moment", "group", "cost"] ["self", "moment", "group", "cost"] (defScope s_GapMeter_room) := ⟨rfl, rfl, rfl, by decide +kernel, rfl, by decide +kernel, by decide +kernel⟩
theorem ok_GapMeter_room (T : Tx w K mg) : OkD P w K mg base ("GapMeter", some "room") 3 ["self", "moment", "group", "cost"] (spRoom K "gap") := by
  refine (T.fd_GapMeter_room).ok sc_GapMeter_room (fun vs H Q E h => ?_) (fun cdv A outer s H vs Q E hr h => ?_)
  · obtain ⟨m, own, L, s', t, g, c, rfl, _⟩ := h
    rfl
  · obtain ⟨m, own, L, s', t, g, c, rfl, hM, hw, wf, so, k⟩ := h
    have hcl := T.cl_GapMeter; have hno__last := T.no_GapMeter__last; have hno__ticks := T.no_GapMeter__ticks; have hno_limit := T.no_GapMeter_limit
    obtain ⟨a, hr'⟩ := rule_gap hw
    obtain ⟨dx, la, last, rfl, rfl, hL, hm⟩ := hM.gap1 hr'
    refine ⟨_, (PSs.nox (pss_one (ps_ret (pe_cmpR op_eq (pe_meth (pv 0) T.cl_GapMeter T.me_GapMeter_earliest ((ok_GapMeter_earliest T).mono (by decide)) hr T.bd_GapMeter_earliest .nil pass0 (pa_cons (pv 1) (pa_cons (pv 2) (pa_cons (pv 3) pa_nil)))) (pv 1) (nomark _))))), ?_⟩
    walk_at "go"
    refine ⟨m, [m], L, .gap last, t, g, c, rfl, hM, hw, wf, so, fun H1 e1 => ?_⟩
    have e2 : ∃ n, earlyM L (.gap last) t g c = some n ∧ decide (n = t) = roomM L (.gap last) t g c := by
      unfold earlyM
      cases e : roomM L (.gap last) t g c with
      | true => exact ⟨t, rfl, by simp⟩
      | false =>
        rw [hr']
        unfold roomM at e
        rw [hr'] at e
        cases last with
        | none =>
          have e : (!looksB L g || true) = false := e
          simp at e
        | some b =>
          have e : (!looksB L g || decide (max t (b + a) = t)) = false := e
          exact ⟨max t (b + a), rfl, by simp at e; simp [e.2]⟩
    obtain ⟨n, e3, e4⟩ := e2
    rw [e3]
    have k1 := k _ e1
    rw [← e4] at k1
    walk_at "go"
    refine r_eqI ?_
    rw [dint]
    exact k1
abbrev sc_GapMeter_let_N : List Str := ["self", "moment", "group", "cost", "key"]
theorem sc_GapMeter_let : FnScope ["self", "moment", "group", "cost", "key"] ["self", "moment", "group", "cost", "key"] (defScope s_GapMeter_let) := ⟨rfl, rfl, rfl, by decide +kernel, rfl, by decide +kernel, by decide +kernel⟩
theorem ok_GapMeter_let (T : Tx w K mg) : OkD P w K mg base ("GapMeter", some "let") 2 ["self", "moment", "group", "cost", "key"] (spLet K "gap") := by
  refine (T.fd_GapMeter_let).ok sc_GapMeter_let (fun vs H Q E h => ?_) (fun cdv A outer s H vs Q E hr h => ?_)
  · obtain ⟨m, own, L, s', t, g, c, k, rfl, _⟩ := h
    rfl
  · obtain ⟨m, own, L, s', t, g, c, k, rfl, hM, hw, wf, so, fr, kk⟩ := h
    have hcl := T.cl_GapMeter; have hno__last := T.no_GapMeter__last; have hno__ticks := T.no_GapMeter__ticks; have hno_limit := T.no_GapMeter_limit
    obtain ⟨a, hr'⟩ := rule_gap hw
    obtain ⟨dx, la, last, rfl, rfl, hL, hm⟩ := hM.gap1 hr'
    refine ⟨_, (PSs.nox (pss_one (ps_if (pt_val (pe_call ((ok_looks_at T).mono (by decide)) hr (by rfl) T.g_looks_at T.fd_looks_at.kp T.bd_looks_at .nil pass0 (pa_cons (show PE _ _ (tFld K _ _) from pe_fld (pv 0) rfl) (pa_cons (pv 2) pa_nil)))) (pss_one (ps_fld (pv 0) (pv 1) rfl)) pss_nil))), ?_⟩
    walk_at "go"
    refine ⟨la, L, g, rfl, hL, wf.sm, fun H1 e1 => ?_⟩
    have hm1 := e1 _ _ hm
    unfold letM at kk
    walk_at "go"
    refine r_b2 (fun z => ?_) (fun z => ?_)
    · rw [z, hr'] at kk
      walk_at "go"
      rw [fsG_put]
      have f : Fr (fun b => b ∈ [m]) H (upd H1 m (.ins (He.ga K "GapMeter") dx (fsG la a (.int t)))) := e1.frm.tr (Fr.wr hm1 (fun z => z) (List.mem_singleton.mpr rfl))
      refine kk _ f ⟨dx, la, f.tu.lim hL, ?_⟩
      rw [hr']
      exact ⟨rfl, upd_same⟩
    · rw [z] at kk
      walk_at "go"
      exact kk _ e1.frm (hM.ex e1)
end
end Lw
end
section
set_option maxRecDepth 100000
set_option maxHeartbeats 4000000
namespace Lw
open PySem PySem.Spec PyProof.Rows L2
local macro_rules | `(tactic| walk_at "hp") => `(tactic| first | assumption | exact upd_same | exact (by assumption : Ex _ _) _ _ (by assumption))
local macro_rules | `(tactic| walk_at "lk") => `(tactic| fail "no look-up")
local macro_rules | `(tactic| walk_at "tk") => `(tactic| first | assumption | exact Ex.t (by assumption) (by assumption) | exact Ex.l (by assumption) (by assumption) | exact .inl (.inl (by assumption)))
local macro_rules | `(tactic| walk_at "st") => `(tactic| first
  | with_reducible refine r_seq ?_ | with_reducible refine r_asg ?_ | with_reducible refine r_name ?_
  | ((with_reducible refine' r_var ?k1 ?_); (case k1 => exact rfl))
  | with_reducible refine r_c ?_ | with_reducible refine r_op ?_ | with_reducible refine r_un ?_ | with_reducible refine r_cb ?_ | with_reducible refine r_nil ?_ | with_reducible refine r_cons ?_
  | with_reducible refine r_call ?_ | with_reducible refine r_ret ?_ | with_reducible refine r_drop ?_ | with_reducible refine r_ifs ?_ | with_reducible refine r_ife ?_ | with_reducible refine r_next ?_
  | with_reducible refine r_test ?_ | with_reducible refine r_tB ?_ | with_reducible refine r_bl ?_ | with_reducible refine r_blx ?_ | with_reducible refine r_tnot ?_ | with_reducible refine r_tand ?_ | with_reducible refine r_tor ?_
  | with_reducible refine r_not ?_ | with_reducible refine r_and ?_ | with_reducible refine r_or ?_ | with_reducible refine r_I0 ?_ | with_reducible refine r_U ?_
  | with_reducible refine r_eqS ?_ | with_reducible refine r_eqI ?_ | with_reducible refine r_neS ?_ | with_reducible refine r_neI ?_ | with_reducible refine r_chain ?_
  | ((with_reducible refine' r_gtup ?k1 ?k2 ?_); (case k1 => walk_at "tk"); (case k2 => exact rfl))
  | with_reducible refine r_gcons ?_ | with_reducible refine r_gnil ?_
  | ((with_reducible refine' r_ixT ?k1 ?k2 ?_); (case k1 => walk_at "tk"); (case k2 => exact rfl))
  | ((with_reducible refine' r_ixL ?k1 ?k2 ?_); (case k1 => walk_at "tk"); (case k2 => exact rfl))
  | with_reducible refine r_tup ?_ | with_reducible refine r_lst ?_ | with_reducible refine iteT ?_ | with_reducible refine iteF ?_
  | ((with_reducible refine' r_wipe ?k1 ?_); (case k1 => exact rfl)) | with_reducible refine r_tyes ?_
  | ((with_reducible refine' r_lenT ?k1 ?_); (case k1 => walk_at "tk")) | ((with_reducible refine' r_lenL ?k1 ?_); (case k1 => walk_at "tk"))
  | with_reducible refine r_fld ?_ | with_reducible refine r_sfld ?_ | with_reducible refine r_gfld ?_ | with_reducible refine r_meth ?_
  | ((with_reducible refine' r_fld1 ?k1 ?k2 ?k3 ?k4 ?_); (case k1 => walk_at "hp"); (case k2 => assumption); (case k3 => assumption); (case k4 => walk_at "lk"))
  | ((with_reducible refine' r_sfld1 ?k1 ?k2 ?k3 ?k4 ?_); (case k1 => walk_at "hp"); (case k2 => assumption); (case k3 => assumption); (case k4 => exact Nat.lt_of_le_of_lt (Nat.le_of_ble_eq_true rfl) (by decide : 10 < 1000)))
  | ((with_reducible refine' r_gfld1 ?k1 ?k2 ?k3 ?k4 ?_); (case k1 => walk_at "hp"); (case k2 => assumption); (case k3 => assumption); (case k4 => exact Nat.lt_of_le_of_lt (Nat.le_of_ble_eq_true rfl) (by decide : 10 < 1000)))
  | with_reducible refine r_ks ?_ | with_reducible refine r_kq ?_
  | ((with_reducible refine' r_meth1 ?k1 ?k2 ?_); (case k1 => walk_at "hp"); (case k2 => kernel_rfl))
  | with_reducible refine r_kb ?_ | with_reducible refine r_tru ?_ | with_reducible refine r_bm0 ?_ | with_reducible refine r_bm ?_
  | ((with_reducible refine' r_tyL ?k1 ?_); (case k1 => walk_at "hp"))
  | with_reducible refine r_sdput ?_ | with_reducible refine r_dget ?_ | with_reducible refine r_din ?_ | with_reducible refine r_dnin ?_ | with_reducible refine r_dpop ?_
  | ((with_reducible refine' r_dpop0 ?k1 ?_); (case k1 => walk_at "hp"))
  | ((with_reducible refine' r_strY ?k1 ?_); (case k1 => decide +kernel)) | ((with_reducible refine' r_strN ?k1 ?_); (case k1 => decide +kernel))
  | ((with_reducible refine' r_nstrY ?k1 ?_); (case k1 => decide +kernel)) | ((with_reducible refine' r_nstrN ?k1 ?_); (case k1 => decide +kernel))
  | with_reducible refine r_gcd ?_ | with_reducible refine r_par ?_ | with_reducible refine r_par1 ?_
  | with_reducible refine r_make ?_ | with_reducible refine r_orJ ?_
  | with_reducible refine r_isN ?_ | with_reducible refine r_notN ?_
  | with_reducible refine r_abs ?_ | with_reducible refine r_int ?_ | with_reducible refine r_min ?_ | with_reducible refine r_max ?_)
local macro_rules | `(tactic| walk_at "go") => `(tactic| repeat walk_at "st")
theorem rule_held {L : Lim} (h : L.word = "held") : ∃ a, L.rule = .held a := by
  obtain ⟨n, g, r⟩ := L
  cases r with
  | window a b => exact absurd h (by decide +kernel : ("window" : Str) ≠ "held")
  | span a b => exact absurd h (by decide +kernel : ("span" : Str) ≠ "held")
  | bucket a b => exact absurd h (by decide +kernel : ("bucket" : Str) ≠ "held")
  | gap a => exact absurd h (by decide +kernel : ("gap" : Str) ≠ "held")
  | held a => exact ⟨a, rfl⟩
  | pool a b => exact absurd h (by decide +kernel : ("pool" : Str) ≠ "held")
theorem rule_pool {L : Lim} (h : L.word = "pool") : ∃ a b, L.rule = .pool a b := by
  obtain ⟨n, g, r⟩ := L
  cases r with
  | window a b => exact absurd h (by decide +kernel : ("window" : Str) ≠ "pool")
  | span a b => exact absurd h (by decide +kernel : ("span" : Str) ≠ "pool")
  | bucket a b => exact absurd h (by decide +kernel : ("bucket" : Str) ≠ "pool")
  | gap a => exact absurd h (by decide +kernel : ("gap" : Str) ≠ "pool")
  | held a => exact absurd h (by decide +kernel : ("held" : Str) ≠ "pool")
  | pool a b => exact ⟨a, b, rfl⟩
theorem fsH_limit {la : Addr} {m : Int} {d : Addr} {us : Int} : (fsH la m d us).lookup ("limit" : Str) = some (V.ref la) := by kernel_rfl
theorem fsH_most {la : Addr} {m : Int} {d : Addr} {us : Int} : (fsH la m d us).lookup ("_most" : Str) = some (V.int m) := by kernel_rfl
theorem fsH_costs {la : Addr} {m : Int} {d : Addr} {us : Int} : (fsH la m d us).lookup ("_costs" : Str) = some (V.ref d) := by kernel_rfl
theorem fsH_used {la : Addr} {m : Int} {d : Addr} {us : Int} : (fsH la m d us).lookup ("_used" : Str) = some (V.int us) := by kernel_rfl
theorem fsP_limit {la : Addr} {d : Addr} {u : Addr} : (fsP la d u).lookup ("limit" : Str) = some (V.ref la) := by kernel_rfl
theorem fsP_costs {la : Addr} {d : Addr} {u : Addr} : (fsP la d u).lookup ("_costs" : Str) = some (V.ref d) := by kernel_rfl
theorem fsP_uses {la : Addr} {d : Addr} {u : Addr} : (fsP la d u).lookup ("_uses" : Str) = some (V.ref u) := by kernel_rfl
theorem fsH_put {la d : Addr} {m us z : Int} : putF "_used" (.int z) (fsH la m d us) = fsH la m d z := by kernel_rfl
theorem fsH_init {la d : Addr} {m us : Int} : putF "_used" (.int us) (putF "_costs" (.ref d) (putF "_most" (.int m) (putF "limit" (.ref la) []))) = fsH la m d us := by kernel_rfl
theorem fsP_init {la d u : Addr} : putF "_uses" (.ref u) (putF "_costs" (.ref d) (putF "limit" (.ref la) [])) = fsP la d u := by kernel_rfl
section
variable {α : Type} {f : α → Str} {v : α → V} {l : List α} {k : Str} {z : V}
theorem valV_str : valV (l.map fun x => ((Sum.inr (f x) : Key), v x)) (Sum.inr k) = (l.find? fun x => decide (f x = k)).map v := by
  induction l with
  | nil => rfl
  | cons x r ih =>
    unfold valV at ih ⊢
    rw [List.map_cons, List.find?_cons, List.find?_cons]
    have e : decide (((Sum.inr (f x) : Key)) = Sum.inr k) = decide (f x = k) := key_rr _ _
    show Option.map _ (match decide (((Sum.inr (f x) : Key)) = Sum.inr k) with | true => _ | false => _) = _
    rw [e]
    cases decide (f x = k) with
    | true => rfl
    | false => exact ih
theorem putK_new (h : ∀ x ∈ l, f x ≠ k) : putK (l.map fun x => ((Sum.inr (f x) : Key), v x)) (Sum.inr k) z = (l.map fun x => ((Sum.inr (f x) : Key), v x)) ++ [(Sum.inr k, z)] := by
  unfold putK
  rw [if_neg]
  intro q
  rw [List.any_eq_true] at q
  obtain ⟨p, hp, e⟩ := q
  obtain ⟨x, hx, rfl⟩ := List.mem_map.mp hp
  exact h x hx (Sum.inr.inj (of_decide_eq_true e))
theorem putK_old (h : ∃ x ∈ l, f x = k) : putK (l.map fun x => ((Sum.inr (f x) : Key), v x)) (Sum.inr k) z = l.map fun x => ((Sum.inr (f x) : Key), if f x = k then z else v x) := by
  unfold putK
  rw [if_pos, List.map_map]
  · refine List.map_congr_left fun x _ => ?_
    show (if (Sum.inr (f x) : Key) = Sum.inr k then ((Sum.inr (f x) : Key), z) else (Sum.inr (f x), v x)) = (Sum.inr (f x), if f x = k then z else v x)
    by_cases e : f x = k
    · rw [if_pos (by rw [e]), if_pos e]
    · rw [if_neg (fun q => e (Sum.inr.inj q)), if_neg e]
  · obtain ⟨x, hx, e⟩ := h
    rw [List.any_eq_true]
    exact ⟨_, List.mem_map.mpr ⟨x, hx, rfl⟩, decide_eq_true (by rw [e])⟩
theorem dropK_str : dropK (l.map fun x => ((Sum.inr (f x) : Key), v x)) (Sum.inr k) = (l.filter fun x => !decide (f x = k)).map fun x => ((Sum.inr (f x) : Key), v x) := by
  unfold dropK
  rw [List.filter_map]
  congr 1
  refine List.filter_congr fun x _ => ?_
  show decide ((Sum.inr (f x) : Key) ≠ Sum.inr k) = !decide (f x = k)
  by_cases e : f x = k
  · rw [e]
    simp
  · rw [decide_eq_false e]
    exact decide_eq_true fun q => e (Sum.inr.inj q)
end
theorem use_some {uses : List (Str × Int)} {g : Str} (h : g ∈ uses.map (·.1)) : valV (uses.map fun x => ((Sum.inr x.1 : Key), V.int x.2)) (Sum.inr g) = some (.int (useOf uses g)) := by
  rw [valV_str (f := fun x : Str × Int => x.1) (v := fun x => V.int x.2)]
  unfold useOf
  cases e : uses.find? fun x => decide (x.1 = g) with
  | none =>
    obtain ⟨u, hu, rfl⟩ := List.mem_map.mp h
    have := List.find?_eq_none.mp e u hu
    simp at this
  | some u => rfl
theorem setUse_put {uses : List (Str × Int)} {g : Str} {n : Int} (h : g ∈ uses.map (·.1)) : putK (uses.map fun x => ((Sum.inr x.1 : Key), V.int x.2)) (Sum.inr g) (.int n) = (setUse uses g n).map fun x => ((Sum.inr x.1 : Key), V.int x.2) := by
  obtain ⟨u, hu, e⟩ := List.mem_map.mp h
  rw [putK_old (f := fun x : Str × Int => x.1) (v := fun x => V.int x.2) ⟨u, hu, e⟩]
  unfold setUse
  rw [List.map_map]
  refine List.map_congr_left fun x _ => ?_
  show _ = (fun x : Str × Int => ((Sum.inr x.1 : Key), V.int x.2)) (if x.1 = g then (x.1, n) else x)
  by_cases q : x.1 = g
  · rw [if_pos q, if_pos q]
  · rw [if_neg q, if_neg q]
theorem MetAt.held1 {K : PySem.W.Frag} {H : Hp} {m : Addr} {own : List Addr} {L : Lim} {s : MSt} {a : Int} (h : MetAt K H m own L s) (hr : L.rule = .held a) : ∃ dx la d costs us, s = .held costs us ∧ own = [m, d] ∧ d ≠ m ∧ LimAt K H la L ∧ H m = some (.ins (He.ga K "HeldMeter") dx (fsH la a d us)) ∧ H d = some (.dK (costs.map fun x => (Sum.inr x.1, .int x.2))) := by
  obtain ⟨dx, la, hL, h⟩ := h
  rw [hr] at h
  cases s with
  | held costs us =>
    obtain ⟨d, h1, h2, h3, h4⟩ := h
    exact ⟨dx, la, d, costs, us, rfl, h1, h2, hL, h3, h4⟩
  | _ => exact h.elim
theorem MetAt.pool1 {K : PySem.W.Frag} {H : Hp} {m : Addr} {own : List Addr} {L : Lim} {s : MSt} {a : Int} {sh : List Sh} (h : MetAt K H m own L s) (hr : L.rule = .pool a sh) : ∃ dx la d u costs uses, s = .pool costs uses ∧ own = [m, d, u] ∧ d ≠ m ∧ u ≠ m ∧ d ≠ u ∧ LimAt K H la L ∧
    H m = some (.ins (He.ga K "PoolMeter") dx (fsP la d u)) ∧ H u = some (.dK (uses.map fun x => (Sum.inr x.1, .int x.2))) ∧ ∃ cs : List (Addr × (Str × Str × Int)), cs.map (·.2) = costs ∧ H d = some (.dK (cs.map fun x => (Sum.inr x.2.1, .ref x.1))) ∧ ∀ x ∈ cs, SqT K H x.1 [.str x.2.2.1, .int x.2.2.2] := by
  obtain ⟨dx, la, hL, h⟩ := h
  rw [hr] at h
  cases s with
  | pool costs uses =>
    obtain ⟨d, u, h1, h2, h3, h4, h5, h6, h7⟩ := h
    exact ⟨dx, la, d, u, costs, uses, rfl, h1, h2, h3, h4, hL, h5, h6, h7⟩
  | _ => exact h.elim
section
variable {P : Program} {w : World} {K : PySem.W.Frag} {mg : Str → Option Value} {base : Heap}
local macro_rules | `(tactic| walk_at "lk") => `(tactic| first | with_reducible exact fsH_limit | with_reducible exact fsH_most | with_reducible exact fsH_costs | with_reducible exact fsH_used)
abbrev sc_HeldMeter_init_N : List Str := ["self", "limit"]
theorem sc_HeldMeter_init : FnScope ["self", "limit"] ["self", "limit"] (defScope s_HeldMeter_init) := ⟨rfl, rfl, rfl, by decide +kernel, rfl, by decide +kernel, by decide +kernel⟩
theorem ok_HeldMeter_init (T : Tx w K mg) : OkD P w K mg base ("HeldMeter", some "__init__") 1 ["self", "limit"] (spInitM K "HeldMeter" "held") := by
  refine (T.fd_HeldMeter_init).ok sc_HeldMeter_init (fun vs H Q E h => ?_) (fun cdv A outer s H vs Q E hr h => ?_)
  · obtain ⟨m, la, dx, L, rfl, _⟩ := h
    rfl
  · obtain ⟨m, la, dx, L, rfl, hm, hL, hw, wf, k⟩ := h
    have hcl := T.cl_HeldMeter; have hno__costs := T.no_HeldMeter__costs; have hno__most := T.no_HeldMeter__most; have hno__used := T.no_HeldMeter__used; have hno_limit := T.no_HeldMeter_limit
    obtain ⟨a, hr⟩ := rule_held hw
    have hL0 := hL
    obtain ⟨ga, na, h1, h2, h3⟩ := hL
    rw [hr] at h3
    have h4 : SqT K H na [.int a] := h3
    have e1 : Fr (fun b => b = m) H (upd H m (.ins (He.ga K "HeldMeter") dx (putF "limit" (.ref la) []))) := Fr.wr hm (fun z => z) rfl
    refine ⟨_, (PSs.nox (pss_cons (ps_fld (pv 0) (pv 1) rfl)
    (pss_cons (ps_fld (pv 0) (pe_ix (r := rIxT K) ix_tup (pe_ix (r := rIxT K) ix_tup (pv 1) pe_int (fun _ _ => rfl)) pe_int (fun _ _ => rfl)) rfl)
    (pss_cons (ps_fld (pv 0) pe_dnewK rfl)
    (pss_one (ps_fld (pv 0) pe_int rfl)))))), ?_⟩
    walk_at "go"
    have h5 := e1.tu.t h1
    have h6 := e1.tu.t h4
    walk_at "go"
    refine r_dnew (fun p H1 n1 e2 hp => ?_)
    rw [upd_upd] at e2
    have hm1 := e2 m _ upd_same
    have np : p ≠ m := fun z => by
      rw [z, upd_same] at n1
      cases n1
    have n0 : H p = none := by
      rw [upd_ne np, upd_ne np] at n1
      exact n1
    walk_at "go"
    rw [upd_upd, fsH_init]
    have fr : Fr (fun b => b = m) H (upd H1 m (.ins (He.ga K "HeldMeter") dx (fsH la a p 0))) := Fr.tr (Fr.wr hm id rfl) (Fr.tr (Ex.frm e2) (Fr.wr hm1 id rfl))
    refine k _ [m, p] fr (fun q hq => ?_) (fun H9 g9 t9 => ⟨dx, la, t9, ?_⟩)
    · rcases List.mem_cons.mp hq with z | z
      · exact .inl z
      · exact .inr (by rw [List.mem_singleton.mp z]; exact n0)
    · rw [hr]
      exact ⟨p, rfl, np, g9 _ _ upd_same (.inl rfl), g9 _ _ ((upd_ne np).trans hp) (.inr n0)⟩
abbrev sc_HeldMeter_room_N : List Str := ["self", "moment", "group", "cost"]
theorem sc_HeldMeter_room : FnScope ["self", "moment", "group", "cost"] ["self", "moment", "group", "cost"] (defScope s_HeldMeter_room) := ⟨rfl, rfl, rfl, by decide +kernel, rfl, by decide +kernel, by decide +kernel⟩
theorem ok_HeldMeter_room (T : Tx w K mg) : OkD P w K mg base ("HeldMeter", some "room") 2 ["self", "moment", "group", "cost"] (spRoom K "held") := by
  refine (T.fd_HeldMeter_room).ok sc_HeldMeter_room (fun vs H Q E h => ?_) (fun cdv A outer s H vs Q E hr h => ?_)
  · obtain ⟨m, own, L, s', t, g, c, rfl, _⟩ := h
    rfl
  · obtain ⟨m, own, L, s', t, g, c, rfl, hM, hw, wf, so, k⟩ := h
    have hcl := T.cl_HeldMeter; have hno__costs := T.no_HeldMeter__costs; have hno__most := T.no_HeldMeter__most; have hno__used := T.no_HeldMeter__used; have hno_limit := T.no_HeldMeter_limit
    obtain ⟨a, hr'⟩ := rule_held hw
    obtain ⟨dx, la, d, costs, us, rfl, rfl, nd, hL, hm, hd⟩ := hM.held1 hr'
    refine ⟨_, (PSs.nox (pss_one (ps_ret (pe_or (pe_not (pe_call ((ok_looks_at T).mono (by decide)) hr (by rfl) T.g_looks_at T.fd_looks_at.kp T.bd_looks_at .nil pass0 (pa_cons (show PE _ _ (tFld K _ _) from pe_fld (pv 0) rfl) (pa_cons (pv 2) pa_nil)))) (pe_one (pe_cmpR op_le (pe_op op_add (show PE _ _ (tFld K _ _) from pe_fld (pv 0) rfl) (pv 3)) (show PE _ _ (tFld K _ _) from pe_fld (pv 0) rfl) (nomark _))))))), ?_⟩
    walk_at "go"
    refine ⟨la, L, g, rfl, hL, wf.sm, fun H1 e1 => ?_⟩
    have hm1 := e1 _ _ hm
    unfold roomM at k
    rw [hr'] at k
    walk_at "go"
    refine r_b2 (fun z => ?_) (fun z => ?_)
    · rw [z] at k
      exact k _ e1
    · rw [z] at k
      walk_at "go"
      exact k _ e1
abbrev sc_HeldMeter_earliest_N : List Str := ["self", "moment", "group", "cost"]
theorem sc_HeldMeter_earliest : FnScope ["self", "moment", "group", "cost"] ["self", "moment", "group", "cost"] (defScope s_HeldMeter_earliest) := ⟨rfl, rfl, rfl, by decide +kernel, rfl, by decide +kernel, by decide +kernel⟩
theorem ok_HeldMeter_earliest (T : Tx w K mg) : OkD P w K mg base ("HeldMeter", some "earliest") 3 ["self", "moment", "group", "cost"] (spEarly K "held") := by
  refine (T.fd_HeldMeter_earliest).ok sc_HeldMeter_earliest (fun vs H Q E h => ?_) (fun cdv A outer s H vs Q E hr h => ?_)
  · obtain ⟨m, own, L, s', t, g, c, rfl, _⟩ := h
    rfl
  · obtain ⟨m, own, L, s', t, g, c, rfl, hM, hw, wf, so, k⟩ := h
    have hcl := T.cl_HeldMeter; have hno__costs := T.no_HeldMeter__costs; have hno__most := T.no_HeldMeter__most; have hno__used := T.no_HeldMeter__used; have hno_limit := T.no_HeldMeter_limit
    obtain ⟨a, hr'⟩ := rule_held hw
    obtain ⟨dx, la, d, costs, us, rfl, rfl, nd, hL, hm, hd⟩ := hM.held1 hr'
    refine ⟨_, (PSs.nox (pss_one (ps_ret (pe_ifExp (pt_val (pe_meth (pv 0) T.cl_HeldMeter T.me_HeldMeter_room ((ok_HeldMeter_room T).mono (by decide)) hr T.bd_HeldMeter_room .nil pass0 (pa_cons (pv 1) (pa_cons (pv 2) (pa_cons (pv 3) pa_nil))))) (pv 1) pe_non)))), ?_⟩
    walk_at "go"
    refine ⟨m, [m, d], L, .held costs us, t, g, c, rfl, hM, hw, wf, so, fun H1 e1 => ?_⟩
    unfold earlyM at k
    walk_at "go"
    refine r_b2 (fun z => ?_) (fun z => ?_)
    · rw [z] at k
      walk_at "go"
      exact k _ e1
    · rw [z, hr'] at k
      walk_at "go"
      exact k _ e1
abbrev sc_HeldMeter_let_N : List Str := ["self", "moment", "group", "cost", "key"]
theorem sc_HeldMeter_let : FnScope ["self", "moment", "group", "cost", "key"] ["self", "moment", "group", "cost", "key"] (defScope s_HeldMeter_let) := ⟨rfl, rfl, rfl, by decide +kernel, rfl, by decide +kernel, by decide +kernel⟩
theorem ok_HeldMeter_let (T : Tx w K mg) : OkD P w K mg base ("HeldMeter", some "let") 2 ["self", "moment", "group", "cost", "key"] (spLet K "held") := by
  refine (T.fd_HeldMeter_let).ok sc_HeldMeter_let (fun vs H Q E h => ?_) (fun cdv A outer s H vs Q E hr h => ?_)
  · obtain ⟨m, own, L, s', t, g, c, k, rfl, _⟩ := h
    rfl
  · obtain ⟨m, own, L, s', t, g, c, k, rfl, hM, hw, wf, so, fr, kk⟩ := h
    have hcl := T.cl_HeldMeter; have hno__costs := T.no_HeldMeter__costs; have hno__most := T.no_HeldMeter__most; have hno__used := T.no_HeldMeter__used; have hno_limit := T.no_HeldMeter_limit
    obtain ⟨a, hr'⟩ := rule_held hw
    obtain ⟨dx, la, d, costs, us, rfl, rfl, nd, hL, hm, hd⟩ := hM.held1 hr'
    refine ⟨_, (PSs.nox (pss_one (ps_if (pt_val (pe_call ((ok_looks_at T).mono (by decide)) hr (by rfl) T.g_looks_at T.fd_looks_at.kp T.bd_looks_at .nil pass0 (pa_cons (show PE _ _ (tFld K _ _) from pe_fld (pv 0) rfl) (pa_cons (pv 2) pa_nil)))) (pss_cons (ps_dput (hu_of hr) (show PE _ _ (tFld K _ _) from pe_fld (pv 0) rfl) (pv 4) (pv 3) rfl)
    (pss_one (ps_fld (pv 0) (pe_op op_add (show PE _ _ (tFld K _ _) from pe_fld (pv 0) rfl) (pv 3)) rfl))) pss_nil))), ?_⟩
    walk_at "go"
    refine ⟨la, L, g, rfl, hL, wf.sm, fun H1 e1 => ?_⟩
    have hm1 := e1 _ _ hm
    have hd1 := e1 _ _ hd
    unfold letM at kk
    walk_at "go"
    refine r_b2 (fun z => ?_) (fun z => ?_)
    · rw [z, hr'] at kk
      walk_at "go"
      refine r_sdput1 hd1 (by rw [List.length_map]; have := fr.2; omega) ?_
      rw [putK_new (f := fun x : Str × Int => x.1) (v := fun x => V.int x.2) fr.1]
      have f1 : Fr (fun b => b ∈ [m, d]) H (upd H1 d (.dK ((costs.map fun x => ((Sum.inr x.1 : Key), V.int x.2)) ++ [(Sum.inr k, .int c)]))) := e1.frm.tr (Fr.wr hd1 (fun z => z) (by simp))
      have hm2 := (upd_ne (o := .dK ((costs.map fun x => ((Sum.inr x.1 : Key), V.int x.2)) ++ [(Sum.inr k, .int c)])) nd.symm).trans hm1
      walk_at "go"
      rw [fsH_put]
      have f : Fr (fun b => b ∈ [m, d]) H (upd (upd H1 d (.dK ((costs.map fun x => ((Sum.inr x.1 : Key), V.int x.2)) ++ [(Sum.inr k, .int c)]))) m (.ins (He.ga K "HeldMeter") dx (fsH la a d (us + c)))) := f1.tr (Fr.wr hm2 (fun z => z) (by simp))
      refine kk _ f ⟨dx, la, f.tu.lim hL, ?_⟩
      rw [hr']
      refine ⟨d, rfl, nd, upd_same, (upd_ne nd).trans ?_⟩
      rw [upd_same, List.map_append] <;> rfl
    · rw [z] at kk
      walk_at "go"
      exact kk _ e1.frm (hM.ex e1)
abbrev sc_HeldMeter_released_N : List Str := ["self", "key", "moment"]
theorem sc_HeldMeter_released : FnScope ["self", "key", "moment"] ["self", "key", "moment"] (defScope s_HeldMeter_released) := ⟨rfl, rfl, rfl, by decide +kernel, rfl, by decide +kernel, by decide +kernel⟩
theorem ok_HeldMeter_released (T : Tx w K mg) : OkD P w K mg base ("HeldMeter", some "released") 1 ["self", "key", "moment"] (spRel K "held") := by
  refine (T.fd_HeldMeter_released).ok sc_HeldMeter_released (fun vs H Q E h => ?_) (fun cdv A outer s H vs Q E hr h => ?_)
  · obtain ⟨m, own, L, s', k, t, rfl, _⟩ := h
    rfl
  · obtain ⟨m, own, L, s', k, t, rfl, hM, hw, wf, so, kk⟩ := h
    have hcl := T.cl_HeldMeter; have hno__costs := T.no_HeldMeter__costs; have hno__most := T.no_HeldMeter__most; have hno__used := T.no_HeldMeter__used; have hno_limit := T.no_HeldMeter_limit
    obtain ⟨a, hr'⟩ := rule_held hw
    obtain ⟨dx, la, d, costs, us, rfl, rfl, nd, hL, hm, hd⟩ := hM.held1 hr'
    refine ⟨_, (PSs.nox (pss_cons (ps_if (pt_cmp (pc_dnotin (hu_of hr) (pv 1) (show PE _ _ (tFld K _ _) from pe_fld (pv 0) rfl))) (pss_one (ps_ret pe_bl)) pss_nil)
    (pss_cons (ps_fld (pv 0) (pe_op op_sub (show PE _ _ (tFld K _ _) from pe_fld (pv 0) rfl) (pe_dpop1 (show PE _ _ (tFld K _ _) from pe_fld (pv 0) rfl) (pv 1) ⟨by rfl, by rfl, by rfl, by rfl⟩)) rfl)
    (pss_one (ps_ret pe_bl))))), ?_⟩
    walk_at "go"
    refine r_dnin1 hd ?_
    walk_at "go"
    rw [valV_str (f := fun x : Str × Int => x.1) (v := fun x => V.int x.2)]
    unfold relM at kk
    cases e : costs.find? fun x => decide (x.1 = k) with
    | none =>
      simp only [e] at kk
      refine r_b2 (fun _ => ?_) (fun z => nomatch z)
      walk_at "go"
      exact kk false _ Fr.rf hM
    | some x =>
      simp only [e] at kk
      refine r_b2 (fun z => nomatch z) (fun _ => ?_)
      walk_at "go"
      refine r_dpop1 hd (v := .int x.2) (by rw [valV_str (f := fun x : Str × Int => x.1) (v := fun x => V.int x.2), e] <;> rfl) ?_
      rw [dropK_str (f := fun x : Str × Int => x.1) (v := fun x => V.int x.2)]
      have hm2 := (upd_ne (o := .dK ((costs.filter fun x => !decide (x.1 = k)).map fun x => ((Sum.inr x.1 : Key), V.int x.2))) nd.symm).trans hm
      walk_at "go"
      rw [fsH_put]
      have f : Fr (fun b => b ∈ [m, d]) H (upd (upd H d (.dK ((costs.filter fun x => !decide (x.1 = k)).map fun x => ((Sum.inr x.1 : Key), V.int x.2)))) m (.ins (He.ga K "HeldMeter") dx (fsH la a d (us - x.2)))) := Fr.tr (Fr.wr hd (fun z => z) (by simp)) (Fr.wr hm2 (fun z => z) (by simp))
      refine kk true _ f ⟨dx, la, f.tu.lim hL, ?_⟩
      rw [hr']
      exact ⟨d, rfl, nd, upd_same, (upd_ne nd).trans upd_same⟩
end
end Lw
end
section
set_option maxRecDepth 100000
set_option maxHeartbeats 4000000
namespace Lw
open PySem PySem.Spec PyProof.Rows L2
local macro_rules | `(tactic| walk_at "hp") => `(tactic| first | assumption | exact upd_same | exact (by assumption : Ex _ _) _ _ (by assumption))
local macro_rules | `(tactic| walk_at "lk") => `(tactic| fail "no look-up")
local macro_rules | `(tactic| walk_at "tk") => `(tactic| first | assumption | exact Ex.t (by assumption) (by assumption) | exact Ex.l (by assumption) (by assumption) | exact .inl (.inl (by assumption)))
local macro_rules | `(tactic| walk_at "st") => `(tactic| first
  | with_reducible refine r_seq ?_ | with_reducible refine r_asg ?_ | with_reducible refine r_name ?_
  | ((with_reducible refine' r_var ?k1 ?_); (case k1 => exact rfl))
  | with_reducible refine r_c ?_ | with_reducible refine r_op ?_ | with_reducible refine r_un ?_ | with_reducible refine r_cb ?_ | with_reducible refine r_nil ?_ | with_reducible refine r_cons ?_
  | with_reducible refine r_call ?_ | with_reducible refine r_ret ?_ | with_reducible refine r_drop ?_ | with_reducible refine r_ifs ?_ | with_reducible refine r_ife ?_ | with_reducible refine r_next ?_
  | with_reducible refine r_test ?_ | with_reducible refine r_tB ?_ | with_reducible refine r_bl ?_ | with_reducible refine r_blx ?_ | with_reducible refine r_tnot ?_ | with_reducible refine r_tand ?_ | with_reducible refine r_tor ?_
  | with_reducible refine r_not ?_ | with_reducible refine r_and ?_ | with_reducible refine r_or ?_ | with_reducible refine r_I0 ?_ | with_reducible refine r_U ?_
  | with_reducible refine r_eqS ?_ | with_reducible refine r_eqI ?_ | with_reducible refine r_neS ?_ | with_reducible refine r_neI ?_ | with_reducible refine r_chain ?_
  | ((with_reducible refine' r_gtup ?k1 ?k2 ?_); (case k1 => walk_at "tk"); (case k2 => exact rfl))
  | with_reducible refine r_gcons ?_ | with_reducible refine r_gnil ?_
  | ((with_reducible refine' r_ixT ?k1 ?k2 ?_); (case k1 => walk_at "tk"); (case k2 => exact rfl))
  | ((with_reducible refine' r_ixL ?k1 ?k2 ?_); (case k1 => walk_at "tk"); (case k2 => exact rfl))
  | with_reducible refine r_tup ?_ | with_reducible refine r_lst ?_ | with_reducible refine iteT ?_ | with_reducible refine iteF ?_
  | ((with_reducible refine' r_wipe ?k1 ?_); (case k1 => exact rfl)) | with_reducible refine r_tyes ?_
  | ((with_reducible refine' r_lenT ?k1 ?_); (case k1 => walk_at "tk")) | ((with_reducible refine' r_lenL ?k1 ?_); (case k1 => walk_at "tk"))
  | with_reducible refine r_fld ?_ | with_reducible refine r_sfld ?_ | with_reducible refine r_gfld ?_ | with_reducible refine r_meth ?_
  | ((with_reducible refine' r_fld1 ?k1 ?k2 ?k3 ?k4 ?_); (case k1 => walk_at "hp"); (case k2 => assumption); (case k3 => assumption); (case k4 => walk_at "lk"))
  | ((with_reducible refine' r_sfld1 ?k1 ?k2 ?k3 ?k4 ?_); (case k1 => walk_at "hp"); (case k2 => assumption); (case k3 => assumption); (case k4 => exact Nat.lt_of_le_of_lt (Nat.le_of_ble_eq_true rfl) (by decide : 10 < 1000)))
  | ((with_reducible refine' r_gfld1 ?k1 ?k2 ?k3 ?k4 ?_); (case k1 => walk_at "hp"); (case k2 => assumption); (case k3 => assumption); (case k4 => exact Nat.lt_of_le_of_lt (Nat.le_of_ble_eq_true rfl) (by decide : 10 < 1000)))
  | with_reducible refine r_ks ?_ | with_reducible refine r_kq ?_
  | ((with_reducible refine' r_meth1 ?k1 ?k2 ?_); (case k1 => walk_at "hp"); (case k2 => kernel_rfl))
  | with_reducible refine r_kb ?_ | with_reducible refine r_tru ?_ | with_reducible refine r_bm0 ?_ | with_reducible refine r_bm ?_
  | ((with_reducible refine' r_tyL ?k1 ?_); (case k1 => walk_at "hp"))
  | with_reducible refine r_sdput ?_ | with_reducible refine r_dget ?_ | with_reducible refine r_din ?_ | with_reducible refine r_dnin ?_ | with_reducible refine r_dpop ?_
  | ((with_reducible refine' r_dpop0 ?k1 ?_); (case k1 => walk_at "hp"))
  | ((with_reducible refine' r_strY ?k1 ?_); (case k1 => decide +kernel)) | ((with_reducible refine' r_strN ?k1 ?_); (case k1 => decide +kernel))
  | ((with_reducible refine' r_nstrY ?k1 ?_); (case k1 => decide +kernel)) | ((with_reducible refine' r_nstrN ?k1 ?_); (case k1 => decide +kernel))
  | with_reducible refine r_gcd ?_ | with_reducible refine r_par ?_ | with_reducible refine r_par1 ?_
  | with_reducible refine r_make ?_ | with_reducible refine r_orJ ?_
  | with_reducible refine r_isN ?_ | with_reducible refine r_notN ?_
  | with_reducible refine r_abs ?_ | with_reducible refine r_int ?_ | with_reducible refine r_min ?_ | with_reducible refine r_max ?_)
local macro_rules | `(tactic| walk_at "go") => `(tactic| repeat walk_at "st")
def spBorrowed (K : PySem.W.Frag) : Sp := fun vs H Q _ => ∃ (m dx la d u : Addr) (nm : Str) (gs : List Str) (M : Int) (sh : List Sh) (uses : List (Str × Int)) (g : Str) (more : Int), vs = [.ref m, .str g, .int more] ∧ H m = some (.ins (He.ga K "PoolMeter") dx (fsP la d u)) ∧
  LimAt K H la ⟨nm, gs, .pool M sh⟩ ∧ H u = some (.dK (uses.map fun x => (Sum.inr x.1, .int x.2))) ∧ uses.map (·.1) = sh.map (·.1) ∧ ∀ H', Ex H H' → Q (.int (borrowed sh uses g more)) H'
theorem looks_pool {L : Lim} {a : Int} {sh : List Sh} {g : Str} (hr : L.rule = .pool a sh) (z : looksB L g = true) : g ∈ sh.map (·.1) := by
  unfold looksB at z
  rw [hr] at z
  have z : (sh.any fun s => decide (s.1 = g)) = true := z
  rw [List.any_eq_true] at z
  obtain ⟨s, hs, e⟩ := z
  exact List.mem_map.mpr ⟨s, hs, of_decide_eq_true e⟩
/-- over a tuple, into a dict that is new -/
theorem dc_T {K : PySem.W.Frag} {α : Type} {a : Addr} {L : List α} {ev : α → V} {fk : α → Str} {fv : α → V} {g : TG} {tk tv : TE} {tl : TE} {vs : List Nat} {σ : L2.St} {H : Hp} {Q : VK} (hz : L.length ≤ 100000) (nd : (L.map fk).Nodup)
    (hx : SqT K H a (L.map ev)) (hl : ∀ Q' : VK, Q' (.ref a) H → tl σ H Q')
    (turn : ∀ x ∈ L, ∀ H', Ex H H' → ∀ (R : V → V → Hp → Prop), R (.str (fk x)) (fv x) H' → g (ev x) (wipe σ vs) H' fun σ2 H2 => wipe σ2 vs = wipe σ vs ∧ tk σ2 H2 fun y H4 => tv σ2 H4 fun z H5 => R y z H5)
    (k : ∀ D H', H D = none → Ex H H' → H' D = some (.dK (L.map fun x => (Sum.inr (fk x), fv x))) → Q (.ref D) H') : tDc (iTup K tl) g tYes tk tv vs σ H Q := by
  refine hl _ ⟨a, rfl, ⟨_, hx⟩, fun D hD => ?_⟩
  refine dc_tup (xs := L.map ev) (fun i H' => Ex H H' ∧ H' D = some (.dK ((L.take i).map fun x => (Sum.inr (fk x), fv x)))) ⟨Ex.nw hD, upd_same⟩ (fun i H' _ e => e.1.t hx) ?_ ?_
  · rintro i v H' hi ⟨e, hd⟩
    rw [List.getElem?_map] at hi
    cases q : L[i]? with
    | none =>
      rw [q] at hi
      cases hi
    | some x =>
      rw [q] at hi
      cases hi
      obtain ⟨hlt, hgx⟩ := List.getElem?_eq_some_iff.mp q
      have tk' : L.take (i + 1) = L.take i ++ [x] := by rw [List.take_add_one, q] <;> rfl
      have h0 := turn x (List.mem_of_getElem? q) H' e (fun y z H5 => ∃ kvs k, y = kV k ∧ H5 D = some (.dK kvs) ∧ kvs.length < sizeLine ∧ (fun i H' => Ex H H' ∧ H' D = some (.dK ((L.take i).map fun x => (Sum.inr (fk x), fv x)))) (i + 1) (upd H5 D (.dK (putK kvs k z)))) ⟨_, Sum.inr (fk x), rfl, hd, ?_, e.mt hD, ?_⟩
      · exact h0
      · rw [List.length_map]
        have h2 := List.length_take_le i L
        exact Evl.sz_lt (by omega)
      · have fresh : ∀ y ∈ L.take i, fk y ≠ fk x := fun y hy z => by
          rw [← List.take_append_drop (i + 1) L, tk', List.map_append, List.map_append] at nd
          have n2 := (List.nodup_append.mp nd).1
          have n3 := (List.nodup_append.mp n2).2.2
          exact n3 (fk y) (List.mem_map.mpr ⟨y, hy, rfl⟩) (fk x) (by simp) z
        rw [upd_same, putK_new (f := fk) (v := fv) fresh, tk', List.map_append]
        rfl
  · rintro H' ⟨e, hd⟩
    rw [List.length_map, List.take_length] at hd
    exact k D H' hD e hd
section
variable {P : Program} {w : World} {K : PySem.W.Frag} {mg : Str → Option Value} {base : Heap}
local macro_rules | `(tactic| walk_at "lk") => `(tactic| first | with_reducible exact fsP_limit | with_reducible exact fsP_costs | with_reducible exact fsP_uses)
abbrev sc_PoolMeter_init_N : List Str := ["self", "limit", "share"]
theorem sc_PoolMeter_init : FnScope ["self", "limit", "share"] ["self", "limit"] (defScope s_PoolMeter_init) := ⟨rfl, rfl, rfl, by decide +kernel, rfl, by decide +kernel, by decide +kernel⟩
theorem ok_PoolMeter_init (T : Tx w K mg) : OkD P w K mg base ("PoolMeter", some "__init__") 1 ["self", "limit"] (spInitM K "PoolMeter" "pool") := by
  refine (T.fd_PoolMeter_init).ok sc_PoolMeter_init (fun vs H Q E h => ?_) (fun cdv A outer s H vs Q E hr h => ?_)
  · obtain ⟨m, la, dx, L, rfl, _⟩ := h
    rfl
  · obtain ⟨m, la, dx, L, rfl, hm, hL, hw, wf, k⟩ := h
    have hcl := T.cl_PoolMeter; have hno__costs := T.no_PoolMeter__costs; have hno__uses := T.no_PoolMeter__uses; have hno_limit := T.no_PoolMeter_limit
    obtain ⟨a, sh, hr⟩ := rule_pool hw
    have wn := wf.num
    rw [hr] at wn
    obtain ⟨_, _, _, _, nodup, _, hlen⟩ := wn
    have hL0 := hL
    obtain ⟨ga, na, h1, h2, h3⟩ := hL
    rw [hr] at h3
    obtain ⟨sa, h4, ps, h5, h6, h7⟩ := h3
    have e1 : Fr (fun b => b = m) H (upd H m (.ins (He.ga K "PoolMeter") dx (putF "limit" (.ref la) []))) := Fr.wr hm (fun z => z) rfl
    refine ⟨_, (PSs.nox (pss_cons (ps_fld (pv 0) (pv 1) rfl)
    (pss_cons (ps_fld (pv 0) pe_dnewK rfl)
    (pss_one (ps_fld (pv 0) (pe_dc (own := [("share", 2)]) rfl sc_PoolMeter_init.nd (pi_tup (pe_ix (r := rIxT K) ix_tup (pe_ix (r := rIxT K) ix_tup (pv 1) pe_int (fun _ _ => rfl)) pe_int (fun _ _ => rfl))) (blkOk_by (own := [("share", 2)]) (N := sc_PoolMeter_init_N) (sc := defScope s_PoolMeter_init) (by decide +kernel)) (fun _ _ _ _ _ => (pg_name (i := 2) sc_PoolMeter_init.nd rfl (Or.inl rfl))) (fun _ _ _ _ _ => pts_nil) (fun _ _ _ _ _ => (pe_ix (r := rIxT K) ix_tup (pv 2) pe_int (fun _ _ => rfl))) (fun _ _ _ _ _ => pe_int)) rfl))))), ?_⟩
    walk_at "go"
    refine r_dnew (fun p H1 n1 e2 hp => ?_)
    have hm1 := e2 m _ upd_same
    have np : p ≠ m := fun z => by
      rw [z, upd_same] at n1
      cases n1
    have n0 : H p = none := by
      rw [upd_ne np] at n1
      exact n1
    walk_at "go"
    have f2 : Fr (fun b => b = m) H (upd H1 m (.ins (He.ga K "PoolMeter") dx (putF "_costs" (.ref p) (putF "limit" (.ref la) [])))) := e1.tr (e2.frm.tr (Fr.wr hm1 id rfl))
    have g1 := f2.tu.t h1
    have g4 := f2.tu.t h4
    refine dc_T (L := ps) (ev := fun q => .ref q.1) (fk := fun q => q.2.1) (fv := fun _ => .int 0) (by rw [← List.length_map (f := fun p : Addr × Sh => p.2), h5]; omega) (by rw [← h5, List.map_map] at nodup; exact nodup) (f2.tu.t h6) (fun Q' q => ?_) (fun x hx H' e R hR => ?_) (fun D H' nD e hD => ?_)
    · walk_at "go"
      exact q
    · have hs := e.t (f2.tu.t (h7 x hx))
      walk_at "go"
      exact hR
    · have hm2 := e _ _ (upd_same (H := H1) (a := m) (o := .ins (He.ga K "PoolMeter") dx (putF "_costs" (.ref p) (putF "limit" (.ref la) []))))
      have ndm : D ≠ m := fun z => by
        rw [z, upd_same] at nD
        cases nD
      have ndp : D ≠ p := fun z => by
        rw [z, upd_ne np, hp] at nD
        cases nD
      have n1D : H1 D = none := by
        rw [upd_ne ndm] at nD
        exact nD
      have nD0 : H D = none := by
        have := e2.fr n1D
        rwa [upd_ne ndm] at this
      have hp2 := e _ _ ((upd_ne (o := .ins (He.ga K "PoolMeter") dx (putF "_costs" (.ref p) (putF "limit" (.ref la) []))) np).trans hp)
      walk_at "go"
      rw [fsP_init]
      have f : Fr (fun b => b = m) H (upd H' m (.ins (He.ga K "PoolMeter") dx (fsP la p D))) := f2.tr (e.frm.tr (Fr.wr hm2 id rfl))
      refine k _ [m, p, D] f (fun q hq => ?_) (fun H9 g9 t9 => ⟨dx, la, t9, ?_⟩)
      · simp only [List.mem_cons, List.mem_nil_iff, or_false] at hq
        rcases hq with z | z | z
        · exact .inl z
        · exact .inr (by rw [z]; exact n0)
        · exact .inr (by rw [z]; exact nD0)
      · rw [hr]
        refine ⟨p, D, rfl, np, ndm, ndp.symm, g9 _ _ upd_same (.inl rfl), g9 _ _ ?_ (.inr nD0), [], rfl, g9 _ _ ((upd_ne np).trans hp2) (.inr n0), fun x hx => nomatch hx⟩
        rw [upd_ne ndm, hD, ← h5, List.map_map, List.map_map]
        rfl
abbrev sc_PoolMeter_borrowed_N : List Str := ["self", "group", "more", "total", "name", "own", "_", "used"]
theorem sc_PoolMeter_borrowed : FnScope ["self", "group", "more", "total", "name", "own", "_", "used"] ["self", "group", "more"] (defScope s_PoolMeter_borrowed) := ⟨rfl, rfl, rfl, by decide +kernel, rfl, by decide +kernel, by decide +kernel⟩
theorem ok_PoolMeter_borrowed (T : Tx w K mg) : OkD P w K mg base ("PoolMeter", some "borrowed") 1 ["self", "group", "more"] (spBorrowed K) := by
  refine (T.fd_PoolMeter_borrowed).ok sc_PoolMeter_borrowed (fun vs H Q E h => ?_) (fun cdv A outer s H vs Q E hr h => ?_)
  · obtain ⟨m, dx, la, d, u, nm, gs, M, sh, uses, g, more, rfl, _⟩ := h
    rfl
  · obtain ⟨m, dx, la, d, u, nm, gs, M, sh, uses, g, more, rfl, hm, hL, hu, hk, k⟩ := h
    have hcl := T.cl_PoolMeter; have hno__costs := T.no_PoolMeter__costs; have hno__uses := T.no_PoolMeter__uses; have hno_limit := T.no_PoolMeter_limit
    obtain ⟨ga, na, h1, h2, sa, h4, ps, h5, h6, h7⟩ := hL
    refine ⟨_, (PSs.nox (pss_cons (ps_set (i := 3) sc_PoolMeter_borrowed.nd rfl (Or.inl rfl) pe_int)
    (pss_cons (ps_for PassesOwn.never rfl (pi_tup (pe_ix (r := rIxT K) ix_tup (pe_ix (r := rIxT K) ix_tup (show PE _ _ (tFld K _ _) from pe_fld (pv 0) rfl) pe_int (fun _ _ => rfl)) pe_int (fun _ _ => rfl))) (pg_tup rfl (pgs_cons (pg_name (i := 4) sc_PoolMeter_borrowed.nd rfl (Or.inl rfl)) (pgs_cons (pg_name (i := 5) sc_PoolMeter_borrowed.nd rfl (Or.inl rfl)) (pgs_cons (pg_name (i := 6) sc_PoolMeter_borrowed.nd rfl (Or.inl rfl)) pgs_nil))))
    (pss_cons (ps_set (i := 7) sc_PoolMeter_borrowed.nd rfl (Or.inl rfl) (pe_dget (hu_of hr) (show PE _ _ (tFld K _ _) from pe_fld (pv 0) rfl) (pv 4) (fun _ _ => rfl)))
    (pss_cons (ps_if (pt_cmpR op_eq (pv 4) (pv 1) (nomark _)) (pss_one (ps_set (i := 7) sc_PoolMeter_borrowed.nd rfl (Or.inl rfl) (pe_op op_add (pv 7) (pv 2)))) pss_nil)
    (pss_one (ps_set (i := 3) sc_PoolMeter_borrowed.nd rfl (Or.inl rfl) (pe_op op_add (pv 3) (pe_callB (cr_maxJ rfl) (by rfl) T.f_max (by decide +kernel) (pa_cons pe_int (pa_cons (pe_op op_sub (pv 7) (pv 5)) pa_nil)))))))))
    (pss_one (ps_ret (pv 3)))))), ?_⟩
    walk_at "go"
    refine fo_T (L := ps) (ev := fun p => .ref p.1) (fun i σ' H' => Ex H H' ∧ ∃ z1 z2 z3 z4, σ' = [some (.ref m), some (.str g), some (.int more), some (.int (borrowed ((ps.take i).map (·.2)) uses g more)), z1, z2, z3, z4]) h6
      (fun Q' q => ?_) ⟨Ex.rf, none, none, none, none, rfl⟩ (fun i σ' H' p => p.1.tu) ?_ ?_
    · walk_at "go"
      exact q
    · rintro i x σ' H' hi ⟨e, z1, z2, z3, z4, rfl⟩
      have hx := List.mem_of_getElem? hi
      have hs := e.t (h7 x hx)
      have hm1 := e _ _ hm
      have hu1 := e _ _ hu
      have tk : ps.take (i + 1) = ps.take i ++ [x] := by rw [List.take_add_one, hi] <;> rfl
      have hb : borrowed ((ps.take (i + 1)).map (·.2)) uses g more = borrowed ((ps.take i).map (·.2)) uses g more + max 0 ((if x.2.1 = g then useOf uses x.2.1 + more else useOf uses x.2.1) - x.2.2.1) := by
        unfold borrowed
        rw [tk, List.map_append, List.map_append, List.sum_append]
        simp
      have hin : x.2.1 ∈ uses.map (·.1) := by
        rw [hk, ← h5]
        exact List.mem_map.mpr ⟨x.2, List.mem_map.mpr ⟨x, hx, rfl⟩, rfl⟩
      walk_at "go"
      refine r_dget1 hu1 (use_some hin) ?_
      walk_at "go"
      rw [dstr]
      refine r_d2 (fun q => ?_) (fun q => ?_)
      · walk_at "go"
        rw [hb, if_pos q]
        exact ⟨e, _, _, _, _, rfl⟩
      · walk_at "go"
        rw [hb, if_neg q]
        exact ⟨e, _, _, _, _, rfl⟩
    · rintro σ' H' ⟨e, z1, z2, z3, z4, rfl⟩
      rw [List.take_length, h5]
      walk_at "go"
      exact k _ e
abbrev sc_PoolMeter_room_N : List Str := ["self", "moment", "group", "cost"]
theorem sc_PoolMeter_room : FnScope ["self", "moment", "group", "cost"] ["self", "moment", "group", "cost"] (defScope s_PoolMeter_room) := ⟨rfl, rfl, rfl, by decide +kernel, rfl, by decide +kernel, by decide +kernel⟩
theorem ok_PoolMeter_room (T : Tx w K mg) : OkD P w K mg base ("PoolMeter", some "room") 2 ["self", "moment", "group", "cost"] (spRoom K "pool") := by
  refine (T.fd_PoolMeter_room).ok sc_PoolMeter_room (fun vs H Q E h => ?_) (fun cdv A outer s H vs Q E hr h => ?_)
  · obtain ⟨m, own, L, s', t, g, c, rfl, _⟩ := h
    rfl
  · obtain ⟨m, own, L, s', t, g, c, rfl, hM, hw, wf, so, k⟩ := h
    have hcl := T.cl_PoolMeter; have hno__costs := T.no_PoolMeter__costs; have hno__uses := T.no_PoolMeter__uses; have hno_limit := T.no_PoolMeter_limit
    obtain ⟨a, sh, hr'⟩ := rule_pool hw
    obtain ⟨dx, la, d, u, costs, uses, rfl, rfl, ndm, num, ndu, hL, hm, hu, cs, h1, h2, h3⟩ := hM.pool1 hr'
    have hk : uses.map (·.1) = sh.map (·.1) := so.1 a sh hr'
    obtain ⟨nm, gs, r⟩ := L
    have hr' : r = .pool a sh := hr'
    subst hr'
    have wn := wf.num
    obtain ⟨_, _, _, _, nodup, _, hlen⟩ := wn
    refine ⟨_, (PSs.nox (pss_cons (ps_if (pt_not (pt_val (pe_call ((ok_looks_at T).mono (by decide)) hr (by rfl) T.g_looks_at T.fd_looks_at.kp T.bd_looks_at .nil pass0 (pa_cons (show PE _ _ (tFld K _ _) from pe_fld (pv 0) rfl) (pa_cons (pv 2) pa_nil))))) (pss_one (ps_ret pe_bl)) pss_nil)
    (pss_cons (ps_if (pt_cmpR op_gt (pe_op op_add (pe_dget (hu_of hr) (show PE _ _ (tFld K _ _) from pe_fld (pv 0) rfl) (pv 2) (fun _ _ => rfl)) (pv 3)) (pe_ix (r := rIxT K) ix_tup (pe_call ((ok_share_for T).mono (by decide)) hr (by rfl) T.g_share_for T.fd_share_for.kp T.bd_share_for .nil pass0 (pa_cons (show PE _ _ (tFld K _ _) from pe_fld (pv 0) rfl) (pa_cons (pv 2) pa_nil))) pe_int (fun _ _ => rfl)) (nomark _)) (pss_one (ps_ret pe_bl)) pss_nil)
    (pss_one (ps_ret (pe_cmpR op_le (pe_meth (pv 0) T.cl_PoolMeter T.me_PoolMeter_borrowed ((ok_PoolMeter_borrowed T).mono (by decide)) hr T.bd_PoolMeter_borrowed .nil pass0 (pa_cons (pv 2) (pa_cons (pv 3) pa_nil))) (pe_call ((ok_common_of T).mono (by decide)) hr (by rfl) T.g_common_of T.fd_common_of.kp T.bd_common_of .nil pass0 (pa_cons (show PE _ _ (tFld K _ _) from pe_fld (pv 0) rfl) pa_nil)) (nomark _))))))), ?_⟩
    walk_at "go"
    refine ⟨la, _, g, rfl, hL, wf.sm, fun H1 e1 => ?_⟩
    have hm1 := e1 _ _ hm
    have hu1 := e1 _ _ hu
    unfold roomM at k
    walk_at "go"
    refine r_b2 (fun z => ?_) (fun z => ?_)
    · rw [z] at k
      walk_at "go"
      exact k _ e1
    · rw [z] at k
      have k : ∀ H', Ex H H' → Q (.bl (if (shareFor sh g).2 < useOf uses g + c then false else decide (borrowed sh uses g c ≤ common a sh))) H' := k
      have z1 : looksB ⟨nm, gs, .pool a sh⟩ g = true := by simpa using z
      have hin : g ∈ uses.map (·.1) := by
        rw [hk]
        exact looks_pool rfl z1
      walk_at "go"
      refine r_dget1 hu1 (use_some hin) ?_
      walk_at "go"
      refine ⟨la, nm, gs, a, sh, g, rfl, e1.lim hL, fun p H2 e2 hp => ?_⟩
      have hm2 := e2 _ _ hm1
      have hu2 := e2 _ _ hu1
      walk_at "go"
      refine r_d2 (fun q => ?_) (fun q => ?_)
      · rw [if_pos q] at k
        walk_at "go"
        exact k _ (e1.tr e2)
      · rw [if_neg q] at k
        walk_at "go"
        refine ⟨m, dx, la, d, u, nm, gs, a, sh, uses, g, c, rfl, hm2, (e1.tr e2).lim hL, hu2, hk, fun H3 e3 => ?_⟩
        have hm3 := e3 _ _ hm2
        walk_at "go"
        refine ⟨la, nm, gs, a, sh, rfl, ((e1.tr e2).tr e3).lim hL, hlen, fun H4 e4 => ?_⟩
        walk_at "go"
        exact k _ (((e1.tr e2).tr e3).tr e4)
abbrev sc_PoolMeter_earliest_N : List Str := ["self", "moment", "group", "cost"]
theorem sc_PoolMeter_earliest : FnScope ["self", "moment", "group", "cost"] ["self", "moment", "group", "cost"] (defScope s_PoolMeter_earliest) := ⟨rfl, rfl, rfl, by decide +kernel, rfl, by decide +kernel, by decide +kernel⟩
theorem ok_PoolMeter_earliest (T : Tx w K mg) : OkD P w K mg base ("PoolMeter", some "earliest") 3 ["self", "moment", "group", "cost"] (spEarly K "pool") := by
  refine (T.fd_PoolMeter_earliest).ok sc_PoolMeter_earliest (fun vs H Q E h => ?_) (fun cdv A outer s H vs Q E hr h => ?_)
  · obtain ⟨m, own, L, s', t, g, c, rfl, _⟩ := h
    rfl
  · obtain ⟨m, own, L, s', t, g, c, rfl, hM, hw, wf, so, k⟩ := h
    have hcl := T.cl_PoolMeter; have hno__costs := T.no_PoolMeter__costs; have hno__uses := T.no_PoolMeter__uses; have hno_limit := T.no_PoolMeter_limit
    obtain ⟨a, sh, hr'⟩ := rule_pool hw
    obtain ⟨dx, la, d, u, costs, uses, rfl, rfl, ndm, num, ndu, hL, hm, hu, cs, h1, h2, h3⟩ := hM.pool1 hr'
    refine ⟨_, (PSs.nox (pss_one (ps_ret (pe_ifExp (pt_val (pe_meth (pv 0) T.cl_PoolMeter T.me_PoolMeter_room ((ok_PoolMeter_room T).mono (by decide)) hr T.bd_PoolMeter_room .nil pass0 (pa_cons (pv 1) (pa_cons (pv 2) (pa_cons (pv 3) pa_nil))))) (pv 1) pe_non)))), ?_⟩
    walk_at "go"
    refine ⟨m, [m, d, u], L, .pool costs uses, t, g, c, rfl, hM, hw, wf, so, fun H1 e1 => ?_⟩
    unfold earlyM at k
    walk_at "go"
    refine r_b2 (fun z => ?_) (fun z => ?_)
    · rw [z] at k
      walk_at "go"
      exact k _ e1
    · rw [z, hr'] at k
      walk_at "go"
      exact k _ e1
abbrev sc_PoolMeter_let_N : List Str := ["self", "moment", "group", "cost", "key"]
theorem sc_PoolMeter_let : FnScope ["self", "moment", "group", "cost", "key"] ["self", "moment", "group", "cost", "key"] (defScope s_PoolMeter_let) := ⟨rfl, rfl, rfl, by decide +kernel, rfl, by decide +kernel, by decide +kernel⟩
theorem ok_PoolMeter_let (T : Tx w K mg) : OkD P w K mg base ("PoolMeter", some "let") 2 ["self", "moment", "group", "cost", "key"] (spLet K "pool") := by
  refine (T.fd_PoolMeter_let).ok sc_PoolMeter_let (fun vs H Q E h => ?_) (fun cdv A outer s H vs Q E hr h => ?_)
  · obtain ⟨m, own, L, s', t, g, c, k, rfl, _⟩ := h
    rfl
  · obtain ⟨m, own, L, s', t, g, c, k, rfl, hM, hw, wf, so, fr, kk⟩ := h
    have hcl := T.cl_PoolMeter; have hno__costs := T.no_PoolMeter__costs; have hno__uses := T.no_PoolMeter__uses; have hno_limit := T.no_PoolMeter_limit
    obtain ⟨a, sh, hr'⟩ := rule_pool hw
    obtain ⟨dx, la, d, u, costs, uses, rfl, rfl, ndm, num, ndu, hL, hm, hu, cs, h1, h2, h3⟩ := hM.pool1 hr'
    have hk : uses.map (·.1) = sh.map (·.1) := so.1 a sh hr'
    have fr1 : ∀ x ∈ cs, x.2.1 ≠ k := fun x hx => fr.1 x.2 (by rw [← h1]; exact List.mem_map.mpr ⟨x, hx, rfl⟩)
    have fr2 : cs.length ≤ 1000 := by
      have := fr.2
      rw [← h1, List.length_map] at this
      exact this
    refine ⟨_, (PSs.nox (pss_one (ps_if (pt_val (pe_call ((ok_looks_at T).mono (by decide)) hr (by rfl) T.g_looks_at T.fd_looks_at.kp T.bd_looks_at .nil pass0 (pa_cons (show PE _ _ (tFld K _ _) from pe_fld (pv 0) rfl) (pa_cons (pv 2) pa_nil)))) (pss_cons (ps_dput (hu_of hr) (show PE _ _ (tFld K _ _) from pe_fld (pv 0) rfl) (pv 4) (pe_tup (pa_cons (pv 2) (pa_cons (pv 3) pa_nil))) rfl)
    (pss_one (ps_dput (hu_of hr) (show PE _ _ (tFld K _ _) from pe_fld (pv 0) rfl) (pv 2) (pe_op op_add (pe_dget (hu_of hr) (show PE _ _ (tFld K _ _) from pe_fld (pv 0) rfl) (pv 2) (fun _ _ => rfl)) (pv 3)) rfl))) pss_nil))), ?_⟩
    walk_at "go"
    refine ⟨la, L, g, rfl, hL, wf.sm, fun H1 e1 => ?_⟩
    have hm1 := e1 _ _ hm
    have hu1 := e1 _ _ hu
    have hd1 := e1 _ _ h2
    unfold letM at kk
    walk_at "go"
    refine r_b2 (fun z => ?_) (fun z => ?_)
    · rw [z, hr'] at kk
      have hin : g ∈ uses.map (·.1) := by
        rw [hk]
        exact looks_pool hr' z
      walk_at "go"
      refine r_newT (fun p H2 n2 e2 hp => ?_)
      have hm2 := e2 _ _ hm1
      have hu2 := e2 _ _ hu1
      have hd2 := e2 _ _ hd1
      walk_at "go"
      refine r_sdput1 hd2 (by rw [List.length_map]; omega) ?_
      rw [putK_new (f := fun x : Addr × (Str × Str × Int) => x.2.1) (v := fun x => V.ref x.1) fr1]
      have f1 : Fr (fun b => b ∈ [m, d, u]) H (upd H2 d (.dK ((cs.map fun x => ((Sum.inr x.2.1 : Key), V.ref x.1)) ++ [(Sum.inr k, .ref p)]))) := (e1.tr e2).frm.tr (Fr.wr hd2 (fun z => z) (by simp))
      have hm3 := (upd_ne (o := .dK ((cs.map fun x => ((Sum.inr x.2.1 : Key), V.ref x.1)) ++ [(Sum.inr k, .ref p)])) ndm.symm).trans hm2
      have hu3 := (upd_ne (o := .dK ((cs.map fun x => ((Sum.inr x.2.1 : Key), V.ref x.1)) ++ [(Sum.inr k, .ref p)])) ndu.symm).trans hu2
      walk_at "go"
      refine r_dget1 hu3 (use_some hin) ?_
      walk_at "go"
      refine r_sdput1 hu3 (by
        rw [List.length_map, ← List.length_map (f := fun x : Str × Int => x.1), hk, List.length_map]
        have := wf.sm.s a sh hr'
        omega) ?_
      rw [setUse_put hin]
      have f : Fr (fun b => b ∈ [m, d, u]) H (upd (upd H2 d (.dK ((cs.map fun x => ((Sum.inr x.2.1 : Key), V.ref x.1)) ++ [(Sum.inr k, .ref p)]))) u (.dK ((setUse uses g (useOf uses g + c)).map fun x => (Sum.inr x.1, V.int x.2)))) := f1.tr (Fr.wr hu3 (fun z => z) (by simp))
      refine kk _ f ⟨dx, la, f.tu.lim hL, ?_⟩
      rw [hr']
      refine ⟨d, u, rfl, ndm, num, ndu, (upd_ne num.symm).trans hm3, upd_same, cs ++ [(p, (k, g, c))], ?_, ?_, fun x hx => ?_⟩
      · rw [List.map_append, h1] <;> rfl
      · rw [upd_ne ndu, upd_same, List.map_append] <;> rfl
      · have tu1 : Tu H2 (upd H2 d (.dK ((cs.map fun x => ((Sum.inr x.2.1 : Key), V.ref x.1)) ++ [(Sum.inr k, .ref p)]))) := Tu.mt hd2 (fun z => by rcases z with ⟨_, z⟩ | ⟨_, _, z⟩ <;> cases z)
        have tu2 : Tu (upd H2 d (.dK ((cs.map fun x => ((Sum.inr x.2.1 : Key), V.ref x.1)) ++ [(Sum.inr k, .ref p)]))) (upd (upd H2 d (.dK ((cs.map fun x => ((Sum.inr x.2.1 : Key), V.ref x.1)) ++ [(Sum.inr k, .ref p)]))) u (.dK ((setUse uses g (useOf uses g + c)).map fun x => (Sum.inr x.1, V.int x.2)))) := Tu.mt hu3 (fun z => by rcases z with ⟨_, z⟩ | ⟨_, _, z⟩ <;> cases z)
        rcases List.mem_append.mp hx with q | q
        · exact tu2.t (tu1.t ((e1.tr e2).t (h3 x q)))
        · rw [List.mem_singleton.mp q]
          exact tu2.t (tu1.t (.inl (.inl hp)))
    · rw [z] at kk
      walk_at "go"
      exact kk _ e1.frm (hM.ex e1)
abbrev sc_PoolMeter_released_N : List Str := ["self", "key", "moment", "group", "cost"]
theorem sc_PoolMeter_released : FnScope ["self", "key", "moment", "group", "cost"] ["self", "key", "moment"] (defScope s_PoolMeter_released) := ⟨rfl, rfl, rfl, by decide +kernel, rfl, by decide +kernel, by decide +kernel⟩
theorem ok_PoolMeter_released (T : Tx w K mg) : OkD P w K mg base ("PoolMeter", some "released") 1 ["self", "key", "moment"] (spRel K "pool") := by
  refine (T.fd_PoolMeter_released).ok sc_PoolMeter_released (fun vs H Q E h => ?_) (fun cdv A outer s H vs Q E hr h => ?_)
  · obtain ⟨m, own, L, s', k, t, rfl, _⟩ := h
    rfl
  · obtain ⟨m, own, L, s', k, t, rfl, hM, hw, wf, so, kk⟩ := h
    have hcl := T.cl_PoolMeter; have hno__costs := T.no_PoolMeter__costs; have hno__uses := T.no_PoolMeter__uses; have hno_limit := T.no_PoolMeter_limit
    obtain ⟨a, sh, hr'⟩ := rule_pool hw
    obtain ⟨dx, la, d, u, costs, uses, rfl, rfl, ndm, num, ndu, hL, hm, hu, cs, h1, h2, h3⟩ := hM.pool1 hr'
    have hk : uses.map (·.1) = sh.map (·.1) := so.1 a sh hr'
    refine ⟨_, (PSs.nox (pss_cons (ps_if (pt_cmp (pc_dnotin (hu_of hr) (pv 1) (show PE _ _ (tFld K _ _) from pe_fld (pv 0) rfl))) (pss_one (ps_ret pe_bl)) pss_nil)
    (pss_cons (ps_asg (pe_dpop1 (show PE _ _ (tFld K _ _) from pe_fld (pv 0) rfl) (pv 1) ⟨by rfl, by rfl, by rfl, by rfl⟩) (pg_tup rfl (pgs_cons (pg_name (i := 3) sc_PoolMeter_released.nd rfl (Or.inl rfl)) (pgs_cons (pg_name (i := 4) sc_PoolMeter_released.nd rfl (Or.inl rfl)) pgs_nil))))
    (pss_cons (ps_dput (hu_of hr) (show PE _ _ (tFld K _ _) from pe_fld (pv 0) rfl) (pv 3) (pe_op op_sub (pe_dget (hu_of hr) (show PE _ _ (tFld K _ _) from pe_fld (pv 0) rfl) (pv 3) (fun _ _ => rfl)) (pv 4)) rfl)
    (pss_one (ps_ret pe_bl)))))), ?_⟩
    walk_at "go"
    refine r_dnin1 h2 ?_
    walk_at "go"
    rw [valV_str (f := fun x : Addr × (Str × Str × Int) => x.2.1) (v := fun x => V.ref x.1)]
    unfold relM at kk
    have hfind : (costs.find? fun x => decide (x.1 = k)) = (cs.find? fun x => decide (x.2.1 = k)).map (·.2) := by
      rw [← h1, List.find?_map]
      rfl
    cases e : cs.find? fun x => decide (x.2.1 = k) with
    | none =>
      rw [e] at hfind
      have hfind : (costs.find? fun x => decide (x.1 = k)) = none := hfind
      simp only [hfind] at kk
      refine r_b2 (fun _ => ?_) (fun z => nomatch z)
      walk_at "go"
      exact kk false _ Fr.rf hM
    | some x =>
      rw [e] at hfind
      have hfind : (costs.find? fun x => decide (x.1 = k)) = some x.2 := hfind
      simp only [hfind] at kk
      have hx := List.mem_of_find?_eq_some e
      have hin : x.2.2.1 ∈ uses.map (·.1) := by
        rw [hk]
        exact so.2 x.2 (by rw [← h1]; exact List.mem_map.mpr ⟨x, hx, rfl⟩) a sh hr'
      refine r_b2 (fun z => nomatch z) (fun _ => ?_)
      walk_at "go"
      refine r_dpop1 h2 (v := .ref x.1) (by rw [valV_str (f := fun x : Addr × (Str × Str × Int) => x.2.1) (v := fun x => V.ref x.1), e] <;> rfl) ?_
      rw [dropK_str (f := fun x : Addr × (Str × Str × Int) => x.2.1) (v := fun x => V.ref x.1)]
      have tu1 : Tu H (upd H d (.dK ((cs.filter fun x => !decide (x.2.1 = k)).map fun x => ((Sum.inr x.2.1 : Key), V.ref x.1)))) := Tu.mt h2 (fun z => by rcases z with ⟨_, z⟩ | ⟨_, _, z⟩ <;> cases z)
      have hs := tu1.t (h3 x hx)
      have hm3 := (upd_ne (o := .dK ((cs.filter fun x => !decide (x.2.1 = k)).map fun x => ((Sum.inr x.2.1 : Key), V.ref x.1))) ndm.symm).trans hm
      have hu3 := (upd_ne (o := .dK ((cs.filter fun x => !decide (x.2.1 = k)).map fun x => ((Sum.inr x.2.1 : Key), V.ref x.1))) ndu.symm).trans hu
      walk_at "go"
      refine r_dget1 hu3 (use_some hin) ?_
      walk_at "go"
      refine r_sdput1 hu3 (by
        rw [List.length_map, ← List.length_map (f := fun x : Str × Int => x.1), hk, List.length_map]
        have := wf.sm.s a sh hr'
        omega) ?_
      rw [setUse_put hin]
      have f : Fr (fun b => b ∈ [m, d, u]) H (upd (upd H d (.dK ((cs.filter fun x => !decide (x.2.1 = k)).map fun x => ((Sum.inr x.2.1 : Key), V.ref x.1)))) u (.dK ((setUse uses x.2.2.1 (useOf uses x.2.2.1 - x.2.2.2)).map fun x => (Sum.inr x.1, V.int x.2)))) := Fr.tr (Fr.wr h2 (fun z => z) (by simp)) (Fr.wr hu3 (fun z => z) (by simp))
      walk_at "go"
      refine kk true _ f ⟨dx, la, f.tu.lim hL, ?_⟩
      rw [hr']
      refine ⟨d, u, rfl, ndm, num, ndu, (upd_ne num.symm).trans hm3, upd_same, cs.filter fun x => !decide (x.2.1 = k), ?_, ?_, fun y hy => ?_⟩
      · rw [← h1, List.filter_map] <;> rfl
      · rw [upd_ne ndu, upd_same] <;> rfl
      · exact f.tu.t (h3 y (List.mem_filter.mp hy).1)
end
end Lw
end
section
set_option maxRecDepth 100000
set_option maxHeartbeats 4000000
namespace Lw
open PySem PySem.Spec PyProof.Rows L2
local macro_rules | `(tactic| walk_at "hp") => `(tactic| first | assumption | exact upd_same | exact (by assumption : Ex _ _) _ _ (by assumption))
local macro_rules | `(tactic| walk_at "lk") => `(tactic| fail "no look-up")
local macro_rules | `(tactic| walk_at "tk") => `(tactic| first | assumption | exact Ex.t (by assumption) (by assumption) | exact Ex.l (by assumption) (by assumption) | exact .inl (.inl (by assumption)))
local macro_rules | `(tactic| walk_at "st") => `(tactic| first
  | with_reducible refine r_seq ?_ | with_reducible refine r_asg ?_ | with_reducible refine r_name ?_
  | ((with_reducible refine' r_var ?k1 ?_); (case k1 => exact rfl))
  | with_reducible refine r_c ?_ | with_reducible refine r_op ?_ | with_reducible refine r_un ?_ | with_reducible refine r_cb ?_ | with_reducible refine r_nil ?_ | with_reducible refine r_cons ?_
  | with_reducible refine r_call ?_ | with_reducible refine r_ret ?_ | with_reducible refine r_drop ?_ | with_reducible refine r_ifs ?_ | with_reducible refine r_ife ?_ | with_reducible refine r_next ?_
  | with_reducible refine r_test ?_ | with_reducible refine r_tB ?_ | with_reducible refine r_bl ?_ | with_reducible refine r_blx ?_ | with_reducible refine r_tnot ?_ | with_reducible refine r_tand ?_ | with_reducible refine r_tor ?_
  | with_reducible refine r_not ?_ | with_reducible refine r_and ?_ | with_reducible refine r_or ?_ | with_reducible refine r_I0 ?_ | with_reducible refine r_U ?_
  | with_reducible refine r_eqS ?_ | with_reducible refine r_eqI ?_ | with_reducible refine r_neS ?_ | with_reducible refine r_neI ?_ | with_reducible refine r_chain ?_
  | ((with_reducible refine' r_gtup ?k1 ?k2 ?_); (case k1 => walk_at "tk"); (case k2 => exact rfl))
  | with_reducible refine r_gcons ?_ | with_reducible refine r_gnil ?_
  | ((with_reducible refine' r_ixT ?k1 ?k2 ?_); (case k1 => walk_at "tk"); (case k2 => exact rfl))
  | ((with_reducible refine' r_ixL ?k1 ?k2 ?_); (case k1 => walk_at "tk"); (case k2 => exact rfl))
  | with_reducible refine r_tup ?_ | with_reducible refine r_lst ?_ | with_reducible refine iteT ?_ | with_reducible refine iteF ?_
  | ((with_reducible refine' r_wipe ?k1 ?_); (case k1 => exact rfl)) | with_reducible refine r_tyes ?_
  | ((with_reducible refine' r_lenT ?k1 ?_); (case k1 => walk_at "tk")) | ((with_reducible refine' r_lenL ?k1 ?_); (case k1 => walk_at "tk"))
  | with_reducible refine r_fld ?_ | with_reducible refine r_sfld ?_ | with_reducible refine r_gfld ?_ | with_reducible refine r_meth ?_
  | ((with_reducible refine' r_fld1 ?k1 ?k2 ?k3 ?k4 ?_); (case k1 => walk_at "hp"); (case k2 => assumption); (case k3 => assumption); (case k4 => walk_at "lk"))
  | ((with_reducible refine' r_sfld1 ?k1 ?k2 ?k3 ?k4 ?_); (case k1 => walk_at "hp"); (case k2 => assumption); (case k3 => assumption); (case k4 => exact Nat.lt_of_le_of_lt (Nat.le_of_ble_eq_true rfl) (by decide : 10 < 1000)))
  | ((with_reducible refine' r_gfld1 ?k1 ?k2 ?k3 ?k4 ?_); (case k1 => walk_at "hp"); (case k2 => assumption); (case k3 => assumption); (case k4 => exact Nat.lt_of_le_of_lt (Nat.le_of_ble_eq_true rfl) (by decide : 10 < 1000)))
  | with_reducible refine r_ks ?_ | with_reducible refine r_kq ?_
  | ((with_reducible refine' r_meth1 ?k1 ?k2 ?_); (case k1 => walk_at "hp"); (case k2 => kernel_rfl))
  | with_reducible refine r_kb ?_ | with_reducible refine r_tru ?_ | with_reducible refine r_bm0 ?_ | with_reducible refine r_bm ?_
  | ((with_reducible refine' r_tyL ?k1 ?_); (case k1 => walk_at "hp"))
  | with_reducible refine r_sdput ?_ | with_reducible refine r_dget ?_ | with_reducible refine r_din ?_ | with_reducible refine r_dnin ?_ | with_reducible refine r_dpop ?_
  | ((with_reducible refine' r_dpop0 ?k1 ?_); (case k1 => walk_at "hp"))
  | ((with_reducible refine' r_strY ?k1 ?_); (case k1 => decide +kernel)) | ((with_reducible refine' r_strN ?k1 ?_); (case k1 => decide +kernel))
  | ((with_reducible refine' r_nstrY ?k1 ?_); (case k1 => decide +kernel)) | ((with_reducible refine' r_nstrN ?k1 ?_); (case k1 => decide +kernel))
  | with_reducible refine r_gcd ?_ | with_reducible refine r_par ?_ | with_reducible refine r_par1 ?_
  | with_reducible refine r_make ?_ | with_reducible refine r_orJ ?_
  | with_reducible refine r_isN ?_ | with_reducible refine r_notN ?_
  | with_reducible refine r_abs ?_ | with_reducible refine r_int ?_ | with_reducible refine r_min ?_ | with_reducible refine r_max ?_)
local macro_rules | `(tactic| walk_at "go") => `(tactic| repeat walk_at "st")
def spRounded : Sp := fun vs H Q _ => ∃ n d : Int, vs = [.int n, .int d] ∧ 0 < d ∧ d < 1073741824 ∧ Q (.int (roundedUp n d)) H
def spNothing (K : PySem.W.Frag) : Sp := fun vs H Q _ => ∃ (a : Addr) (L : Lim), vs = [.ref a] ∧ LimAt K H a L ∧ WfL L ∧ ∀ H', Ex H H' → Q (.bl (letsNothing L.rule)) H'
def spWithin (K : PySem.W.Frag) : Sp := fun vs H Q _ => ∃ (a : Addr) (L : Lim) (n : Int), vs = [.ref a, .int n] ∧ LimAt K H a L ∧ WfL L ∧ isFlow L.rule = true ∧ ∀ H', Ex H H' → Q (.int (mostWithin L.rule n)) H'
def spGroups (K : PySem.W.Frag) : Sp := fun vs H Q _ => ∃ (a : Addr) (L : Lim), vs = [.ref a] ∧ LimAt K H a L ∧ WfL L ∧ ∀ p H', H p = none → Ex H H' → H' p = some (.lst ((groupsNamed L).map V.str)) → Q (.ref p) H'
def optS : Option Str → V
  | none => .non
  | some g => .str g
def spFree (K : PySem.W.Frag) : Sp := fun vs H Q _ => ∃ (a b : Addr) (L O : Lim), vs = [.ref a, .ref b] ∧ LimAt K H a L ∧ LimAt K H b O ∧ WfL L ∧ WfL O ∧ ∀ H', Ex H H' → Q (optS (freeG L O)) H'
def spLeast (K : PySem.W.Frag) : Sp := fun vs H Q _ => ∃ (a : Addr) (L : Lim), vs = [.ref a] ∧ LimAt K H a L ∧ WfL L ∧ isFlow L.rule = true ∧ ∀ H', Ex H H' → Q (.int (leastDist L.rule)) H'
theorem wf_n {n : Str} {g : List Str} {r : Rule} (h : WfL ⟨n, g, r⟩) : WfNum r := h.num
section
variable {P : Program} {w : World} {K : PySem.W.Frag} {mg : Str → Option Value} {base : Heap}
abbrev sc_rounded_up_N : List Str := ["number", "divisor"]
theorem sc_rounded_up : FnScope ["number", "divisor"] ["number", "divisor"] (defScope s_rounded_up) := ⟨rfl, rfl, rfl, by decide +kernel, rfl, by decide +kernel, by decide +kernel⟩
theorem ok_rounded_up (T : Tx w K mg) : OkD P w K mg base ("rounded_up", none) 1 ["number", "divisor"] spRounded := by
  refine (T.fd_rounded_up).ok sc_rounded_up (fun vs H Q E h => ?_) (fun cdv A outer s H vs Q E hr h => ?_)
  · obtain ⟨n, d, rfl, _⟩ := h
    rfl
  · obtain ⟨n, d, rfl, h1, h2, k⟩ := h
    refine ⟨_, (PSs.nox (pss_one (ps_ret (pe_op op_fdiv (pe_op op_sub (pe_op op_add (pv 0) (pv 1)) pe_int) (pv 1))))), ?_⟩
    walk_at "go"
    exact r_I ⟨h1, h2⟩ k
abbrev sc_lets_nothing_N : List Str := ["limit", "word", "numbers", "share"]
theorem sc_lets_nothing : FnScope ["limit", "word", "numbers", "share"] ["limit"] (defScope s_lets_nothing) := ⟨rfl, rfl, rfl, by decide +kernel, rfl, by decide +kernel, by decide +kernel⟩
theorem ok_lets_nothing (T : Tx w K mg) : OkD P w K mg base ("lets_nothing", none) 3 ["limit"] (spNothing K) := by
  refine (T.fd_lets_nothing).ok sc_lets_nothing (fun vs H Q E h => ?_) (fun cdv A outer s H vs Q E hr h => ?_)
  · obtain ⟨a, L, rfl, _⟩ := h
    rfl
  · obtain ⟨a, ⟨nm, gs, r⟩, rfl, hL, wf, k⟩ := h
    have hL0 := hL
    obtain ⟨ga, na, h1, h2, h3⟩ := hL
    have wn := wf_n wf
    refine ⟨_, (PSs.nox (pss_cons (ps_par (i := 1) (j := 2) (by rfl) sc_lets_nothing.nd rfl rfl (by decide) rfl rfl (pa_cons (pe_ix (r := rIxT K) ix_tup (pv 0) pe_int (fun _ _ => rfl)) (pa_cons (pe_ix (r := rIxT K) ix_tup (pv 0) pe_int (fun _ _ => rfl)) pa_nil)) (by rfl))
    (pss_cons (ps_if (pt_cmpR op_eq (pv 1) pe_str (nomark _)) (pss_one (ps_ret (pe_callB (r := rAll K) (cr_all rfl) (by rfl) T.f_all (by decide +kernel) (pa_cons (pe_lc (own := [("share", 3)]) rfl sc_lets_nothing.nd (pi_tup (pe_ix (r := rIxT K) ix_tup (pv 2) pe_int (fun _ _ => rfl))) (blkOk_by (own := [("share", 3)]) (N := sc_lets_nothing_N) (sc := defScope s_lets_nothing) (by decide +kernel)) (fun _ _ _ _ _ => (pg_name (i := 3) sc_lets_nothing.nd rfl (Or.inl rfl))) (fun _ _ _ _ _ => pts_nil) (fun _ _ _ _ _ => (pe_cmpR op_eq (pe_call ((ok_most_used T).mono (by decide)) hr (by rfl) T.g_most_used T.fd_most_used.kp T.bd_most_used .nil pass0 (pa_cons (pv 0) (pa_cons (pe_ix (r := rIxT K) ix_tup (pv 3) pe_int (fun _ _ => rfl)) pa_nil))) pe_int (nomark _)))) pa_nil)))) pss_nil)
    (pss_one (ps_ret (pe_and (pe_cmpR op_ne (pv 1) pe_str (nomark _)) (pe_one (pe_cmpR op_eq (pe_ix (r := rIxT K) ix_tup (pv 2) pe_int (fun _ _ => rfl)) pe_int (nomark _))))))))), ?_⟩
    cases r with
    | pool m sh =>
      have h1 : SqT K H a [.str nm, .str "pool", .ref ga, .ref na] := h1
      obtain ⟨sa, h4, ps, h5, h6, h7⟩ := h3
      have hl : sh.length ≤ 8 := wn.2.2.2.2.2.2
      walk_at "go"
      refine lc_T1 (L := ps) (ev := fun p => .ref p.1) (f := fun p => .bl (decide (mostUsed m sh p.2.1 = 0))) (by rw [← List.length_map (f := fun p : Addr × Sh => p.2), h5]; omega) h6
        (fun Q' q => ?_) (fun x hx H' e Kt Kf kt => ?_) (fun D H' hD e hd => ?_)
      · walk_at "go"
        exact q
      · have hs := e.t (h7 x hx)
        walk_at "go"
        refine ⟨a, nm, gs, m, sh, x.2.1, rfl, e.lim hL0, hl, fun H2 e2 => ?_⟩
        refine r_c (r_eqI ?_)
        have dd : decide (V.int (mostUsed m sh x.2.1) = V.int 0) = decide (mostUsed m sh x.2.1 = 0) := dint _ _
        rw [dd]
        exact kt _ e2
      · have e1 : ps.map (fun p => V.bl (decide (mostUsed m sh p.2.1 = 0))) = (sh.map fun s => decide (mostUsed m sh s.1 = 0)).map V.bl := by
          rw [← h5, List.map_map, List.map_map]
          rfl
        rw [e1] at hd
        walk_at "go"
        refine r_all (.inl (.inl hd)) ?_
        have e2 : (sh.map fun s => decide (mostUsed m sh s.1 = 0)).all id = letsNothing (.pool m sh) := by
          rw [List.all_map]
          rfl
        rw [e2]
        exact k _ e
    | gap t =>
      have h1 : SqT K H a [.str nm, .str "gap", .ref ga, .ref na] := h1
      walk_at "go"
      exact k _ Ex.rf
    | window m l =>
      have h1 : SqT K H a [.str nm, .str "window", .ref ga, .ref na] := h1
      have h3 : SqT K H na [.int m, .int l] := h3
      walk_at "go"
      rw [dint]
      exact k _ Ex.rf
    | span m l =>
      have h1 : SqT K H a [.str nm, .str "span", .ref ga, .ref na] := h1
      have h3 : SqT K H na [.int m, .int l] := h3
      walk_at "go"
      rw [dint]
      exact k _ Ex.rf
    | bucket m l =>
      have h1 : SqT K H a [.str nm, .str "bucket", .ref ga, .ref na] := h1
      have h3 : SqT K H na [.int m, .int l] := h3
      walk_at "go"
      rw [dint]
      exact k _ Ex.rf
    | held m =>
      have h1 : SqT K H a [.str nm, .str "held", .ref ga, .ref na] := h1
      have h3 : SqT K H na [.int m] := h3
      walk_at "go"
      rw [dint]
      exact k _ Ex.rf
end
end Lw
end
section
set_option maxRecDepth 100000
set_option maxHeartbeats 4000000
namespace Lw
open PySem PySem.Spec PyProof.Rows L2
local macro_rules | `(tactic| walk_at "hp") => `(tactic| first | assumption | exact upd_same | exact (by assumption : Ex _ _) _ _ (by assumption))
local macro_rules | `(tactic| walk_at "lk") => `(tactic| fail "no look-up")
local macro_rules | `(tactic| walk_at "tk") => `(tactic| first | assumption | exact Ex.t (by assumption) (by assumption) | exact Ex.l (by assumption) (by assumption) | exact .inl (.inl (by assumption)))
local macro_rules | `(tactic| walk_at "st") => `(tactic| first
  | with_reducible refine r_seq ?_ | with_reducible refine r_asg ?_ | with_reducible refine r_name ?_
  | ((with_reducible refine' r_var ?k1 ?_); (case k1 => exact rfl))
  | with_reducible refine r_c ?_ | with_reducible refine r_op ?_ | with_reducible refine r_un ?_ | with_reducible refine r_cb ?_ | with_reducible refine r_nil ?_ | with_reducible refine r_cons ?_
  | with_reducible refine r_call ?_ | with_reducible refine r_ret ?_ | with_reducible refine r_drop ?_ | with_reducible refine r_ifs ?_ | with_reducible refine r_ife ?_ | with_reducible refine r_next ?_
  | with_reducible refine r_test ?_ | with_reducible refine r_tB ?_ | with_reducible refine r_bl ?_ | with_reducible refine r_blx ?_ | with_reducible refine r_tnot ?_ | with_reducible refine r_tand ?_ | with_reducible refine r_tor ?_
  | with_reducible refine r_not ?_ | with_reducible refine r_and ?_ | with_reducible refine r_or ?_ | with_reducible refine r_I0 ?_ | with_reducible refine r_U ?_
  | with_reducible refine r_eqS ?_ | with_reducible refine r_eqI ?_ | with_reducible refine r_neS ?_ | with_reducible refine r_neI ?_ | with_reducible refine r_chain ?_
  | ((with_reducible refine' r_gtup ?k1 ?k2 ?_); (case k1 => walk_at "tk"); (case k2 => exact rfl))
  | with_reducible refine r_gcons ?_ | with_reducible refine r_gnil ?_
  | ((with_reducible refine' r_ixT ?k1 ?k2 ?_); (case k1 => walk_at "tk"); (case k2 => exact rfl))
  | ((with_reducible refine' r_ixL ?k1 ?k2 ?_); (case k1 => walk_at "tk"); (case k2 => exact rfl))
  | with_reducible refine r_tup ?_ | with_reducible refine r_lst ?_ | with_reducible refine iteT ?_ | with_reducible refine iteF ?_
  | ((with_reducible refine' r_wipe ?k1 ?_); (case k1 => exact rfl)) | with_reducible refine r_tyes ?_
  | ((with_reducible refine' r_lenT ?k1 ?_); (case k1 => walk_at "tk")) | ((with_reducible refine' r_lenL ?k1 ?_); (case k1 => walk_at "tk"))
  | with_reducible refine r_fld ?_ | with_reducible refine r_sfld ?_ | with_reducible refine r_gfld ?_ | with_reducible refine r_meth ?_
  | ((with_reducible refine' r_fld1 ?k1 ?k2 ?k3 ?k4 ?_); (case k1 => walk_at "hp"); (case k2 => assumption); (case k3 => assumption); (case k4 => walk_at "lk"))
  | ((with_reducible refine' r_sfld1 ?k1 ?k2 ?k3 ?k4 ?_); (case k1 => walk_at "hp"); (case k2 => assumption); (case k3 => assumption); (case k4 => exact Nat.lt_of_le_of_lt (Nat.le_of_ble_eq_true rfl) (by decide : 10 < 1000)))
  | ((with_reducible refine' r_gfld1 ?k1 ?k2 ?k3 ?k4 ?_); (case k1 => walk_at "hp"); (case k2 => assumption); (case k3 => assumption); (case k4 => exact Nat.lt_of_le_of_lt (Nat.le_of_ble_eq_true rfl) (by decide : 10 < 1000)))
  | with_reducible refine r_ks ?_ | with_reducible refine r_kq ?_
  | ((with_reducible refine' r_meth1 ?k1 ?k2 ?_); (case k1 => walk_at "hp"); (case k2 => kernel_rfl))
  | with_reducible refine r_kb ?_ | with_reducible refine r_tru ?_ | with_reducible refine r_bm0 ?_ | with_reducible refine r_bm ?_
  | ((with_reducible refine' r_tyL ?k1 ?_); (case k1 => walk_at "hp"))
  | with_reducible refine r_sdput ?_ | with_reducible refine r_dget ?_ | with_reducible refine r_din ?_ | with_reducible refine r_dnin ?_ | with_reducible refine r_dpop ?_
  | ((with_reducible refine' r_dpop0 ?k1 ?_); (case k1 => walk_at "hp"))
  | ((with_reducible refine' r_strY ?k1 ?_); (case k1 => decide +kernel)) | ((with_reducible refine' r_strN ?k1 ?_); (case k1 => decide +kernel))
  | ((with_reducible refine' r_nstrY ?k1 ?_); (case k1 => decide +kernel)) | ((with_reducible refine' r_nstrN ?k1 ?_); (case k1 => decide +kernel))
  | with_reducible refine r_gcd ?_ | with_reducible refine r_par ?_ | with_reducible refine r_par1 ?_
  | with_reducible refine r_make ?_ | with_reducible refine r_orJ ?_
  | with_reducible refine r_isN ?_ | with_reducible refine r_notN ?_
  | with_reducible refine r_abs ?_ | with_reducible refine r_int ?_ | with_reducible refine r_min ?_ | with_reducible refine r_max ?_)
local macro_rules | `(tactic| walk_at "go") => `(tactic| repeat walk_at "st")
theorem flow_num {r : Rule} (h : isFlow r = true) : True := trivial
section
variable {P : Program} {w : World} {K : PySem.W.Frag} {mg : Str → Option Value} {base : Heap}
abbrev sc_most_within_N : List Str := ["limit", "moments", "word", "numbers"]
theorem sc_most_within : FnScope ["limit", "moments", "word", "numbers"] ["limit", "moments"] (defScope s_most_within) := ⟨rfl, rfl, rfl, by decide +kernel, rfl, by decide +kernel, by decide +kernel⟩
theorem ok_most_within (T : Tx w K mg) : OkD P w K mg base ("most_within", none) 4 ["limit", "moments"] (spWithin K) := by
  refine (T.fd_most_within).ok sc_most_within (fun vs H Q E h => ?_) (fun cdv A outer s H vs Q E hr h => ?_)
  · obtain ⟨a, L, n, rfl, _⟩ := h
    rfl
  · obtain ⟨a, ⟨nm, gs, r⟩, n, rfl, hL, wf, hf, k⟩ := h
    have hL0 := hL
    obtain ⟨ga, na, h1, h2, h3⟩ := hL
    have wn := wf_n wf
    refine ⟨_, (PSs.nox (pss_cons (ps_par (i := 2) (j := 3) (by rfl) sc_most_within.nd rfl rfl (by decide) rfl rfl (pa_cons (pe_ix (r := rIxT K) ix_tup (pv 0) pe_int (fun _ _ => rfl)) (pa_cons (pe_ix (r := rIxT K) ix_tup (pv 0) pe_int (fun _ _ => rfl)) pa_nil)) (by rfl))
    (pss_cons (ps_if (pt_val (pe_call ((ok_lets_nothing T).mono (by decide)) hr (by rfl) T.g_lets_nothing T.fd_lets_nothing.kp T.bd_lets_nothing .nil pass0 (pa_cons (pv 0) pa_nil))) (pss_one (ps_ret pe_int)) pss_nil)
    (pss_cons (ps_if (pt_cmpR op_eq (pv 2) pe_str (nomark _)) (pss_one (ps_ret (pe_op op_mul (pe_ix (r := rIxT K) ix_tup (pv 3) pe_int (fun _ _ => rfl)) (pe_call ((ok_rounded_up T).mono (by decide)) hr (by rfl) T.g_rounded_up T.fd_rounded_up.kp T.bd_rounded_up .nil pass0 (pa_cons (pv 1) (pa_cons (pe_ix (r := rIxT K) ix_tup (pv 3) pe_int (fun _ _ => rfl)) pa_nil)))))) pss_nil)
    (pss_cons (ps_if (pt_cmpR op_eq (pv 2) pe_str (nomark _)) (pss_one (ps_ret (pe_op op_mul (pe_ix (r := rIxT K) ix_tup (pv 3) pe_int (fun _ _ => rfl)) (pe_op op_add (pe_call ((ok_rounded_up T).mono (by decide)) hr (by rfl) T.g_rounded_up T.fd_rounded_up.kp T.bd_rounded_up .nil pass0 (pa_cons (pe_op op_sub (pv 1) pe_int) (pa_cons (pe_ix (r := rIxT K) ix_tup (pv 3) pe_int (fun _ _ => rfl)) pa_nil))) pe_int)))) pss_nil)
    (pss_cons (ps_if (pt_cmpR op_eq (pv 2) pe_str (nomark _)) (pss_one (ps_ret (pe_op op_add (pe_ix (r := rIxT K) ix_tup (pv 3) pe_int (fun _ _ => rfl)) (pe_op op_fdiv (pe_op op_sub (pv 1) pe_int) (pe_ix (r := rIxT K) ix_tup (pv 3) pe_int (fun _ _ => rfl)))))) pss_nil)
    (pss_cons (ps_if (pt_cmpR op_eq (pv 2) pe_str (nomark _)) (pss_one (ps_ret (pe_op op_mul (pe_glob (v := .int 1000) rfl T.i_MOST_COST ⟨_, rfl⟩) (pe_op op_add (pe_op op_fdiv (pe_op op_sub (pv 1) pe_int) (pe_ix (r := rIxT K) ix_tup (pv 3) pe_int (fun _ _ => rfl))) pe_int)))) pss_nil)
    (pss_one (ps_ret pe_non))))))))), ?_⟩
    unfold mostWithin at k
    cases r with
    | window m l =>
      have h1 : SqT K H a [.str nm, .str "window", .ref ga, .ref na] := h1
      have h3 : SqT K H na [.int m, .int l] := h3
      walk_at "go"
      refine ⟨a, ⟨nm, gs, _⟩, rfl, hL0, wf, fun H1 e1 => ?_⟩
      have h3' := e1.t h3
      walk_at "go"
      refine r_b2 (fun z => ?_) (fun z => ?_)
      · have z : letsNothing _ = true := z
        rw [if_pos z] at k
        walk_at "go"
        exact k _ e1
      have z : ¬ letsNothing _ = true := fun q => by
        rw [show letsNothing _ = false from z] at q
        cases q
      rw [if_neg z] at k
      walk_at "go"
      refine ⟨n, l, rfl, by have := wn.2.2.1; omega, by have := wn.2.2.2; omega, ?_⟩
      refine r_I (.inl ⟨by have := wn.1; omega, by have := wn.2.1; omega⟩) ?_
      exact k _ e1
    | span m l =>
      have h1 : SqT K H a [.str nm, .str "span", .ref ga, .ref na] := h1
      have h3 : SqT K H na [.int m, .int l] := h3
      walk_at "go"
      refine ⟨a, ⟨nm, gs, _⟩, rfl, hL0, wf, fun H1 e1 => ?_⟩
      have h3' := e1.t h3
      walk_at "go"
      refine r_b2 (fun z => ?_) (fun z => ?_)
      · have z : letsNothing _ = true := z
        rw [if_pos z] at k
        walk_at "go"
        exact k _ e1
      have z : ¬ letsNothing _ = true := fun q => by
        rw [show letsNothing _ = false from z] at q
        cases q
      rw [if_neg z] at k
      walk_at "go"
      refine ⟨n - 1, l, rfl, by have := wn.2.2.1; omega, by have := wn.2.2.2; omega, ?_⟩
      walk_at "go"
      refine r_I (.inl ⟨by have := wn.1; omega, by have := wn.2.1; omega⟩) ?_
      exact k _ e1
    | bucket m l =>
      have h1 : SqT K H a [.str nm, .str "bucket", .ref ga, .ref na] := h1
      have h3 : SqT K H na [.int m, .int l] := h3
      walk_at "go"
      refine ⟨a, ⟨nm, gs, _⟩, rfl, hL0, wf, fun H1 e1 => ?_⟩
      have h3' := e1.t h3
      walk_at "go"
      refine r_b2 (fun z => ?_) (fun z => ?_)
      · have z : letsNothing _ = true := z
        rw [if_pos z] at k
        walk_at "go"
        exact k _ e1
      have z : ¬ letsNothing _ = true := fun q => by
        rw [show letsNothing _ = false from z] at q
        cases q
      rw [if_neg z] at k
      walk_at "go"
      refine r_I ⟨by have := wn.2.2.1; omega, by have := wn.2.2.2; omega⟩ ?_
      walk_at "go"
      exact k _ e1
    | gap t =>
      have h1 : SqT K H a [.str nm, .str "gap", .ref ga, .ref na] := h1
      have h3 : SqT K H na [.int t] := h3
      walk_at "go"
      refine ⟨a, ⟨nm, gs, _⟩, rfl, hL0, wf, fun H1 e1 => ?_⟩
      have h3' := e1.t h3
      walk_at "go"
      refine r_b2 (fun z => ?_) (fun z => ?_)
      · have z : letsNothing _ = true := z
        rw [if_pos z] at k
        walk_at "go"
        exact k _ e1
      have z : ¬ letsNothing _ = true := fun q => by
        rw [show letsNothing _ = false from z] at q
        cases q
      rw [if_neg z] at k
      walk_at "go"
      refine r_I ⟨by have := wn.1; omega, by have := wn.2; omega⟩ ?_
      walk_at "go"
      refine r_I (.inl ⟨by omega, by omega⟩) ?_
      exact k _ e1
    | held m =>
      exact absurd hf (by intro q; cases q)
    | pool m sh =>
      exact absurd hf (by intro q; cases q)
abbrev sc_groups_named_N : List Str := ["limit", "share"]
theorem sc_groups_named : FnScope ["limit", "share"] ["limit"] (defScope s_groups_named) := ⟨rfl, rfl, rfl, by decide +kernel, rfl, by decide +kernel, by decide +kernel⟩
theorem ok_groups_named (T : Tx w K mg) : OkD P w K mg base ("groups_named", none) 1 ["limit"] (spGroups K) := by
  refine (T.fd_groups_named).ok sc_groups_named (fun vs H Q E h => ?_) (fun cdv A outer s H vs Q E hr h => ?_)
  · obtain ⟨a, L, rfl, _⟩ := h
    rfl
  · obtain ⟨a, ⟨nm, gs, r⟩, rfl, hL, wf, k⟩ := h
    obtain ⟨ga, na, h1, h2, h3⟩ := hL
    have wn := wf_n wf
    refine ⟨_, (PSs.nox (pss_one (ps_ret (pe_ifExp (pt_cmpR op_eq (pe_ix (r := rIxT K) ix_tup (pv 0) pe_int (fun _ _ => rfl)) pe_str (nomark _)) (pe_lc (own := [("share", 1)]) rfl sc_groups_named.nd (pi_tup (pe_ix (r := rIxT K) ix_tup (pe_ix (r := rIxT K) ix_tup (pv 0) pe_int (fun _ _ => rfl)) pe_int (fun _ _ => rfl))) (blkOk_by (own := [("share", 1)]) (N := sc_groups_named_N) (sc := defScope s_groups_named) (by decide +kernel)) (fun _ _ _ _ _ => (pg_name (i := 1) sc_groups_named.nd rfl (Or.inl rfl))) (fun _ _ _ _ _ => pts_nil) (fun _ _ _ _ _ => (pe_ix (r := rIxT K) ix_tup (pv 1) pe_int (fun _ _ => rfl)))) (pe_callTy (r := rLstJ K) cr_lstJ (by rfl) T.f_list (by decide +kernel) (pa_cons (pe_ix (r := rIxT K) ix_tup (pv 0) pe_int (fun _ _ => rfl)) pa_nil)))))), ?_⟩
    cases r with
    | window m l =>
      have h1 : SqT K H a [.str nm, .str "window", .ref ga, .ref na] := h1
      have h3 : SqT K H na [.int m, .int l] := h3
      walk_at "go"
      exact r_lstT h2 k
    | span m l =>
      have h1 : SqT K H a [.str nm, .str "span", .ref ga, .ref na] := h1
      have h3 : SqT K H na [.int m, .int l] := h3
      walk_at "go"
      exact r_lstT h2 k
    | bucket m l =>
      have h1 : SqT K H a [.str nm, .str "bucket", .ref ga, .ref na] := h1
      have h3 : SqT K H na [.int m, .int l] := h3
      walk_at "go"
      exact r_lstT h2 k
    | gap t =>
      have h1 : SqT K H a [.str nm, .str "gap", .ref ga, .ref na] := h1
      have h3 : SqT K H na [.int t] := h3
      walk_at "go"
      exact r_lstT h2 k
    | held m =>
      have h1 : SqT K H a [.str nm, .str "held", .ref ga, .ref na] := h1
      have h3 : SqT K H na [.int m] := h3
      walk_at "go"
      exact r_lstT h2 k
    | pool m sh =>
      have h1 : SqT K H a [.str nm, .str "pool", .ref ga, .ref na] := h1
      obtain ⟨sa, h4, ps, h5, h6, h7⟩ := h3
      have hl : sh.length ≤ 8 := wn.2.2.2.2.2.2
      walk_at "go"
      refine lc_T1 (L := ps) (ev := fun p => .ref p.1) (f := fun p => .str p.2.1) (by rw [← List.length_map (f := fun p : Addr × Sh => p.2), h5]; omega) h6
        (fun Q' q => ?_) (fun x hx H' e Kt Kf kt => ?_) (fun D H' hD e hd => ?_)
      · walk_at "go"
        exact q
      · have hs := e.t (h7 x hx)
        walk_at "go"
        exact kt _ Ex.rf
      · refine k D H' hD e ?_
        rw [hd]
        show some (HO.lst (ps.map fun p => V.str p.2.1)) = some (HO.lst ((sh.map (·.1)).map V.str))
        rw [← h5, List.map_map, List.map_map]
        rfl
theorem nine_eq : (List.range 9).map (fun i => V.str (Str.empty ++ ("g" : Str) ++ toString ((i : Nat) : Int))) = nine.map V.str := by decide +kernel
abbrev sc_free_group_N : List Str := ["limit", "other", "names", "name", "number"]
theorem sc_free_group : FnScope ["limit", "other", "names", "name", "number"] ["limit", "other"] (defScope s_free_group) := ⟨rfl, rfl, rfl, by decide +kernel, rfl, by decide +kernel, by decide +kernel⟩
theorem ok_free_group (T : Tx w K mg) : OkD P w K mg base ("free_group", none) 2 ["limit", "other"] (spFree K) := by
  refine (T.fd_free_group).ok sc_free_group (fun vs H Q E h => ?_) (fun cdv A outer s H vs Q E hr h => ?_)
  · obtain ⟨a, b, L, O, rfl, _⟩ := h
    rfl
  · obtain ⟨a, b, L, O, rfl, hL, hO, wl, wo, k⟩ := h
    refine ⟨_, (PSs.nox (pss_cons (ps_set (i := 2) sc_free_group.nd rfl (Or.inl rfl) (pe_orJ (pe_call ((ok_groups_named T).mono (by decide)) hr (by rfl) T.g_groups_named T.fd_groups_named.kp T.bd_groups_named .nil pass0 (pa_cons (pv 0) pa_nil)) (pe_one (pe_lc (own := [("number", 4)]) rfl sc_free_group.nd (pi_range1 (by rfl) T.f_range (pa_cons pe_int pa_nil)) (blkOk_by (own := [("number", 4)]) (N := sc_free_group_N) (sc := defScope s_free_group) (by decide +kernel)) (fun _ _ _ _ _ => (pg_name (i := 4) sc_free_group.nd rfl (Or.inl rfl))) (fun _ _ _ _ _ => pts_nil) (fun _ _ _ _ _ => (pe_f2 pe_str (pe_fmt (pv 4))))))))
    (pss_cons (ps_for PassesOwn.never rfl (pi_list (pv 2)) (pg_name (i := 3) sc_free_group.nd rfl (Or.inl rfl))
    (pss_one (ps_if (pt_not (pt_val (pe_call ((ok_looks_at T).mono (by decide)) hr (by rfl) T.g_looks_at T.fd_looks_at.kp T.bd_looks_at .nil pass0 (pa_cons (pv 1) (pa_cons (pv 3) pa_nil))))) (pss_one (ps_ret (pv 3))) pss_nil)))
    (pss_one (ps_ret pe_non))))), ?_⟩
    have gl : (groupsNamed L).length ≤ 8 := by
      obtain ⟨nm, gs, r⟩ := L
      cases r with
      | pool m sh =>
        have := (wf_n wl).2.2.2.2.2.2
        show (sh.map (·.1)).length ≤ 8
        rw [List.length_map]
        exact this
      | _ => exact wl.sm.g
    have loop : ∀ (p : Addr) (names : List Str) (H1 : Hp), Ex H H1 → H1 p = some (.lst (names.map V.str)) → names = freeNames L →
        tSeq (tFor (iList K (tVar 2)) (gName 3) (tIfS (tNot (tTest (tCall (spLooks K) [] E0 (tCons (tVar 1) (tCons (tVar 3) tNil))))) (tRet (tVar 3)) tNext)) (tRet (tC .non)) { nx := fun _ H' => Q .non H', rt := Q } [some (.ref a), some (.ref b), some (.ref p), none, none] H1 := by
      intro p names H1 e1 hp hn
      walk_at "go"
      refine fo_L (L := names) (ev := V.str) (fun i σ' H' => Ex H1 H' ∧ (∀ x ∈ names.take i, looksB O x = true) ∧ ∃ u, σ' = [some (.ref a), some (.ref b), some (.ref p), u, none]) (.inl (.inl hp)) (fun Q' q => ?_)
        ⟨Ex.rf, (fun x hx => by simp at hx), none, rfl⟩ (fun i σ' H' q => .inl (.inl (q.1 _ _ hp))) ?_ ?_
      · walk_at "go"
        exact q
      · rintro i x σ' H' hi ⟨e, hh, u, rfl⟩
        have tk : names.take (i + 1) = names.take i ++ [x] := by rw [List.take_add_one, hi] <;> rfl
        walk_at "go"
        refine ⟨b, O, x, rfl, (e1.tr e).lim hO, wo.sm, fun H2 e2 => ?_⟩
        walk_at "go"
        refine r_b2 (fun z => ?_) (fun z => ?_)
        · have z1 : looksB O x = false := by simpa using z
          walk_at "go"
          have hf : freeG L O = some x := by
            unfold freeG
            rw [← hn]
            have e4 : names = names.take i ++ x :: names.drop (i + 1) := by
              rw [← List.singleton_append, ← List.append_assoc, ← tk, List.take_append_drop]
            rw [e4, List.find?_append, List.find?_eq_none.mpr ?_]
            · rw [Option.none_or, List.find?_cons_of_pos]
              rw [z1] <;> rfl
            · intro y hy
              rw [hh y hy]
              decide
          have k1 := k _ ((e1.tr e).tr e2)
          rw [hf] at k1
          exact k1
        · have z1 : looksB O x = true := by simpa using z
          walk_at "go"
          refine ⟨e.tr e2, fun y hy => ?_, _, rfl⟩
          rw [tk] at hy
          rcases List.mem_append.mp hy with q | q
          · exact hh y q
          · rw [List.mem_singleton.mp q]
            exact z1
      · rintro σ' H' ⟨e, hh, u, rfl⟩
        rw [List.take_length] at hh
        walk_at "go"
        have hf : freeG L O = none := by
          unfold freeG
          rw [← hn, List.find?_eq_none]
          intro y hy
          rw [hh y hy]
          decide
        have k1 := k _ (e1.tr e)
        rw [hf] at k1
        exact k1
    walk_at "go"
    refine ⟨a, L, rfl, hL, wl, fun p H1 n1 e1 hp => ?_⟩
    refine r_truW (.inl (.inl hp)) ?_
    refine r_b2 (fun z => ?_) (fun z => ?_)
    · refine r_kq (r_name ?_)
      refine loop p (groupsNamed L) H1 e1 hp ?_
      unfold freeNames
      cases q : (groupsNamed L).isEmpty with
      | true =>
        rw [List.isEmpty_iff.mp q] at z
        cases z
      | false => rfl
    · refine lc_R (n := 9) (f := fun i => V.str (Str.empty ++ ("g" : Str) ++ toString ((i : Nat) : Int))) (by decide) (fun QA q => ?_) (fun i hi H' e Kt Kf kt => ?_) (fun D H' hD e hd => ?_)
      · walk_at "go"
        exact q
      · walk_at "go"
        refine ⟨"g", rfl, by decide, ?_⟩
        refine r_var rfl ?_
        have hlen : ∀ n : Nat, n < 9 → (Str.empty ++ ("g" : Str) ++ (toString ((n : Nat) : Int) : Str)).length ≤ sizeLine := by
          intro n hn
          have : n = 0 ∨ n = 1 ∨ n = 2 ∨ n = 3 ∨ n = 4 ∨ n = 5 ∨ n = 6 ∨ n = 7 ∨ n = 8 := by omega
          rcases this with rfl | rfl | rfl | rfl | rfl | rfl | rfl | rfl | rfl <;> decide +kernel
        have hlog : ∀ n : Nat, n < 9 → ((n : Nat) : Int).natAbs.log2 < 1920 := by
          intro n hn
          have : n = 0 ∨ n = 1 ∨ n = 2 ∨ n = 3 ∨ n = 4 ∨ n = 5 ∨ n = 6 ∨ n = 7 ∨ n = 8 := by omega
          rcases this with rfl | rfl | rfl | rfl | rfl | rfl | rfl | rfl | rfl <;> decide +kernel
        exact .inr ⟨(i : Int), rfl, hlog i hi, _, rfl, hlen i hi, kt _ Ex.rf⟩
      · refine r_name ?_
        refine loop D nine H' (e1.tr e) (by rw [hd, nine_eq]) ?_
        unfold freeNames
        cases q : (groupsNamed L).isEmpty with
        | true => rfl
        | false =>
          rw [List.isEmpty_map, q] at z
          cases z
abbrev sc_least_distance_N : List Str := ["limit", "word", "numbers"]
theorem sc_least_distance : FnScope ["limit", "word", "numbers"] ["limit"] (defScope s_least_distance) := ⟨rfl, rfl, rfl, by decide +kernel, rfl, by decide +kernel, by decide +kernel⟩
theorem ok_least_distance (T : Tx w K mg) : OkD P w K mg base ("least_distance", none) 1 ["limit"] (spLeast K) := by
  refine (T.fd_least_distance).ok sc_least_distance (fun vs H Q E h => ?_) (fun cdv A outer s H vs Q E hr h => ?_)
  · obtain ⟨a, L, rfl, _⟩ := h
    rfl
  · obtain ⟨a, ⟨nm, gs, r⟩, rfl, hL, wf, hf, k⟩ := h
    obtain ⟨ga, na, h1, h2, h3⟩ := hL
    refine ⟨_, (PSs.nox (pss_cons (ps_par (i := 1) (j := 2) (by rfl) sc_least_distance.nd rfl rfl (by decide) rfl rfl (pa_cons (pe_ix (r := rIxT K) ix_tup (pv 0) pe_int (fun _ _ => rfl)) (pa_cons (pe_ix (r := rIxT K) ix_tup (pv 0) pe_int (fun _ _ => rfl)) pa_nil)) (by rfl))
    (pss_cons (ps_if (pt_cmpR op_eq (pv 1) pe_str (nomark _)) (pss_one (ps_ret (pe_ix (r := rIxT K) ix_tup (pv 2) pe_int (fun _ _ => rfl)))) pss_nil)
    (pss_cons (ps_if (pt_cmpR op_gt (pe_ix (r := rIxT K) ix_tup (pv 2) pe_int (fun _ _ => rfl)) pe_int (nomark _)) (pss_one (ps_ret pe_int)) pss_nil)
    (pss_one (ps_ret (pe_ifExp (pt_cmpR op_eq (pv 1) pe_str (nomark _)) pe_int (pe_ix (r := rIxT K) ix_tup (pv 2) pe_int (fun _ _ => rfl))))))))), ?_⟩
    cases r with
    | window m l =>
      have h1 : SqT K H a [.str nm, .str "window", .ref ga, .ref na] := h1
      have h3 : SqT K H na [.int m, .int l] := h3
      have k : ∀ H', Ex H H' → Q (.int (if 1 < m then 0 else l)) H' := k
      walk_at "go"
      refine r_d2 (fun q => ?_) (fun q => ?_)
      · rw [if_pos q] at k
        walk_at "go"
        exact k _ Ex.rf
      · rw [if_neg q] at k
        walk_at "go"
        exact k _ Ex.rf
    | span m l =>
      have h1 : SqT K H a [.str nm, .str "span", .ref ga, .ref na] := h1
      have h3 : SqT K H na [.int m, .int l] := h3
      have k : ∀ H', Ex H H' → Q (.int (if 1 < m then 0 else 1)) H' := k
      walk_at "go"
      refine r_d2 (fun q => ?_) (fun q => ?_)
      · rw [if_pos q] at k
        walk_at "go"
        exact k _ Ex.rf
      · rw [if_neg q] at k
        walk_at "go"
        exact k _ Ex.rf
    | bucket m l =>
      have h1 : SqT K H a [.str nm, .str "bucket", .ref ga, .ref na] := h1
      have h3 : SqT K H na [.int m, .int l] := h3
      have k : ∀ H', Ex H H' → Q (.int (if 1 < m then 0 else l)) H' := k
      walk_at "go"
      refine r_d2 (fun q => ?_) (fun q => ?_)
      · rw [if_pos q] at k
        walk_at "go"
        exact k _ Ex.rf
      · rw [if_neg q] at k
        walk_at "go"
        exact k _ Ex.rf
    | gap t =>
      have h1 : SqT K H a [.str nm, .str "gap", .ref ga, .ref na] := h1
      have h3 : SqT K H na [.int t] := h3
      walk_at "go"
      exact k _ Ex.rf
    | held m =>
      exact absurd hf (by intro q; cases q)
    | pool m sh =>
      exact absurd hf (by intro q; cases q)
end
end Lw
end
section
set_option maxRecDepth 100000
set_option maxHeartbeats 4000000
namespace Lw
open PySem PySem.Spec PyProof.Rows L2
local macro_rules | `(tactic| walk_at "hp") => `(tactic| first | assumption | exact upd_same | exact (by assumption : Ex _ _) _ _ (by assumption))
local macro_rules | `(tactic| walk_at "lk") => `(tactic| fail "no look-up")
local macro_rules | `(tactic| walk_at "tk") => `(tactic| first | assumption | exact Ex.t (by assumption) (by assumption) | exact Ex.l (by assumption) (by assumption) | exact .inl (.inl (by assumption)))
local macro_rules | `(tactic| walk_at "st") => `(tactic| first
  | with_reducible refine r_seq ?_ | with_reducible refine r_asg ?_ | with_reducible refine r_name ?_
  | ((with_reducible refine' r_var ?k1 ?_); (case k1 => exact rfl))
  | with_reducible refine r_c ?_ | with_reducible refine r_op ?_ | with_reducible refine r_un ?_ | with_reducible refine r_cb ?_ | with_reducible refine r_nil ?_ | with_reducible refine r_cons ?_
  | with_reducible refine r_call ?_ | with_reducible refine r_ret ?_ | with_reducible refine r_drop ?_ | with_reducible refine r_ifs ?_ | with_reducible refine r_ife ?_ | with_reducible refine r_next ?_
  | with_reducible refine r_test ?_ | with_reducible refine r_tB ?_ | with_reducible refine r_bl ?_ | with_reducible refine r_blx ?_ | with_reducible refine r_tnot ?_ | with_reducible refine r_tand ?_ | with_reducible refine r_tor ?_
  | with_reducible refine r_not ?_ | with_reducible refine r_and ?_ | with_reducible refine r_or ?_ | with_reducible refine r_I0 ?_ | with_reducible refine r_U ?_
  | with_reducible refine r_eqS ?_ | with_reducible refine r_eqI ?_ | with_reducible refine r_neS ?_ | with_reducible refine r_neI ?_ | with_reducible refine r_chain ?_
  | ((with_reducible refine' r_gtup ?k1 ?k2 ?_); (case k1 => walk_at "tk"); (case k2 => exact rfl))
  | with_reducible refine r_gcons ?_ | with_reducible refine r_gnil ?_
  | ((with_reducible refine' r_ixT ?k1 ?k2 ?_); (case k1 => walk_at "tk"); (case k2 => exact rfl))
  | ((with_reducible refine' r_ixL ?k1 ?k2 ?_); (case k1 => walk_at "tk"); (case k2 => exact rfl))
  | with_reducible refine r_tup ?_ | with_reducible refine r_lst ?_ | with_reducible refine iteT ?_ | with_reducible refine iteF ?_
  | ((with_reducible refine' r_wipe ?k1 ?_); (case k1 => exact rfl)) | with_reducible refine r_tyes ?_
  | ((with_reducible refine' r_lenT ?k1 ?_); (case k1 => walk_at "tk")) | ((with_reducible refine' r_lenL ?k1 ?_); (case k1 => walk_at "tk"))
  | with_reducible refine r_fld ?_ | with_reducible refine r_sfld ?_ | with_reducible refine r_gfld ?_ | with_reducible refine r_meth ?_
  | ((with_reducible refine' r_fld1 ?k1 ?k2 ?k3 ?k4 ?_); (case k1 => walk_at "hp"); (case k2 => assumption); (case k3 => assumption); (case k4 => walk_at "lk"))
  | ((with_reducible refine' r_sfld1 ?k1 ?k2 ?k3 ?k4 ?_); (case k1 => walk_at "hp"); (case k2 => assumption); (case k3 => assumption); (case k4 => exact Nat.lt_of_le_of_lt (Nat.le_of_ble_eq_true rfl) (by decide : 10 < 1000)))
  | ((with_reducible refine' r_gfld1 ?k1 ?k2 ?k3 ?k4 ?_); (case k1 => walk_at "hp"); (case k2 => assumption); (case k3 => assumption); (case k4 => exact Nat.lt_of_le_of_lt (Nat.le_of_ble_eq_true rfl) (by decide : 10 < 1000)))
  | with_reducible refine r_ks ?_ | with_reducible refine r_kq ?_
  | ((with_reducible refine' r_meth1 ?k1 ?k2 ?_); (case k1 => walk_at "hp"); (case k2 => kernel_rfl))
  | with_reducible refine r_kb ?_ | with_reducible refine r_tru ?_ | with_reducible refine r_bm0 ?_ | with_reducible refine r_bm ?_
  | ((with_reducible refine' r_tyL ?k1 ?_); (case k1 => walk_at "hp"))
  | with_reducible refine r_sdput ?_ | with_reducible refine r_dget ?_ | with_reducible refine r_din ?_ | with_reducible refine r_dnin ?_ | with_reducible refine r_dpop ?_
  | ((with_reducible refine' r_dpop0 ?k1 ?_); (case k1 => walk_at "hp"))
  | ((with_reducible refine' r_strY ?k1 ?_); (case k1 => decide +kernel)) | ((with_reducible refine' r_strN ?k1 ?_); (case k1 => decide +kernel))
  | ((with_reducible refine' r_nstrY ?k1 ?_); (case k1 => decide +kernel)) | ((with_reducible refine' r_nstrN ?k1 ?_); (case k1 => decide +kernel))
  | with_reducible refine r_gcd ?_ | with_reducible refine r_par ?_ | with_reducible refine r_par1 ?_
  | with_reducible refine r_make ?_ | with_reducible refine r_orJ ?_
  | with_reducible refine r_isN ?_ | with_reducible refine r_notN ?_
  | with_reducible refine r_abs ?_ | with_reducible refine r_int ?_ | with_reducible refine r_min ?_ | with_reducible refine r_max ?_)
local macro_rules | `(tactic| walk_at "go") => `(tactic| repeat walk_at "st")
def spOffset (K : PySem.W.Frag) : Sp := fun vs H Q _ => ∃ (a b : Addr) (nm no : Str) (gs go : List Str) (m l mo lo : Int), vs = [.ref a, .ref b] ∧ LimAt K H a ⟨nm, gs, .span m l⟩ ∧ LimAt K H b ⟨no, go, .span mo lo⟩ ∧ Q (.int (lastOffset l lo)) H
def spInSpan (K : PySem.W.Frag) : Sp := fun vs H Q _ => ∃ (a b : Addr) (nm : Str) (gs : List Str) (m l : Int) (O : Lim), vs = [.ref a, .ref b] ∧ LimAt K H a ⟨nm, gs, .span m l⟩ ∧ LimAt K H b O ∧ WfL O ∧ isFlow O.rule = true ∧ ∀ H', Ex H H' → Q (.int (mostInSpan l O.rule)) H'
def spBelow (K : PySem.W.Frag) : Sp := fun vs H Q _ => ∃ (a b : Addr) (nm : Str) (gs : List Str) (m l : Int) (O : Lim), vs = [.ref a, .ref b] ∧ LimAt K H a ⟨nm, gs, .bucket m l⟩ ∧ LimAt K H b O ∧ WfL ⟨nm, gs, .bucket m l⟩ ∧ WfL O ∧ isFlow O.rule = true ∧ ∀ H', Ex H H' → Q (.bl (belowBucket m l O.rule)) H'
def spIdleFlow (K : PySem.W.Frag) : Sp := fun vs H Q _ => ∃ (a b : Addr) (L O : Lim), vs = [.ref a, .ref b] ∧ LimAt K H a L ∧ LimAt K H b O ∧ WfL L ∧ WfL O ∧ isFlow O.rule = true ∧ ∀ H', Ex H H' → Q (.bl (idleFlow L.rule O.rule)) H'
section
variable {P : Program} {w : World} {K : PySem.W.Frag} {mg : Str → Option Value} {base : Heap}
abbrev sc_last_offset_N : List Str := ["limit", "other", "length"]
theorem sc_last_offset : FnScope ["limit", "other", "length"] ["limit", "other"] (defScope s_last_offset) := ⟨rfl, rfl, rfl, by decide +kernel, rfl, by decide +kernel, by decide +kernel⟩
theorem ok_last_offset (T : Tx w K mg) : OkD P w K mg base ("last_offset", none) 1 ["limit", "other"] (spOffset K) := by
  refine (T.fd_last_offset).ok sc_last_offset (fun vs H Q E h => ?_) (fun cdv A outer s H vs Q E hr h => ?_)
  · obtain ⟨a, b, nm, no, gs, go, m, l, mo, lo, rfl, _⟩ := h
    rfl
  · obtain ⟨a, b, nm, no, gs, go, m, l, mo, lo, rfl, ⟨ga, na, h1, h2, h3⟩, ⟨gb, nb, k1, k2, k3⟩, k⟩ := h
    have h3 : SqT K H na [.int m, .int l] := h3
    have k3 : SqT K H nb [.int mo, .int lo] := k3
    refine ⟨_, (PSs.nox (pss_cons (ps_set (i := 2) sc_last_offset.nd rfl (Or.inl rfl) (pe_ix (r := rIxT K) ix_tup (pe_ix (r := rIxT K) ix_tup (pv 1) pe_int (fun _ _ => rfl)) pe_int (fun _ _ => rfl)))
    (pss_one (ps_ret (pe_op op_sub (pv 2) (pe_callBfun cr_gcd (by rfl) T.g_gcd (pa_cons (pv 2) (pa_cons (pe_ix (r := rIxT K) ix_tup (pe_ix (r := rIxT K) ix_tup (pv 0) pe_int (fun _ _ => rfl)) pe_int (fun _ _ => rfl)) pa_nil)))))))), ?_⟩
    walk_at "go"
    exact k
abbrev sc_most_in_span_N : List Str := ["limit", "other", "moments", "most", "length"]
theorem sc_most_in_span : FnScope ["limit", "other", "moments", "most", "length"] ["limit", "other"] (defScope s_most_in_span) := ⟨rfl, rfl, rfl, by decide +kernel, rfl, by decide +kernel, by decide +kernel⟩
theorem ok_most_in_span (T : Tx w K mg) : OkD P w K mg base ("most_in_span", none) 5 ["limit", "other"] (spInSpan K) := by
  refine (T.fd_most_in_span).ok sc_most_in_span (fun vs H Q E h => ?_) (fun cdv A outer s H vs Q E hr h => ?_)
  · obtain ⟨a, b, nm, gs, m, l, O, rfl, _⟩ := h
    rfl
  · obtain ⟨a, b, nm, gs, m, l, ⟨no, go, r⟩, rfl, hL, hO, wf, hf, k⟩ := h
    have hL0 := hL
    have hO0 := hO
    obtain ⟨ga, na, h1, h2, h3⟩ := hL
    obtain ⟨gb, nb, k1, k2, k3⟩ := hO
    have h3 : SqT K H na [.int m, .int l] := h3
    have wn := wf_n wf
    refine ⟨_, (PSs.nox (pss_cons (ps_set (i := 2) sc_most_in_span.nd rfl (Or.inl rfl) (pe_ix (r := rIxT K) ix_tup (pe_ix (r := rIxT K) ix_tup (pv 0) pe_int (fun _ _ => rfl)) pe_int (fun _ _ => rfl)))
    (pss_cons (ps_if (pt_cmpR op_ne (pe_ix (r := rIxT K) ix_tup (pv 1) pe_int (fun _ _ => rfl)) pe_str (nomark _)) (pss_one (ps_ret (pe_call ((ok_most_within T).mono (by decide)) hr (by rfl) T.g_most_within T.fd_most_within.kp T.bd_most_within .nil pass0 (pa_cons (pv 1) (pa_cons (pv 2) pa_nil))))) pss_nil)
    (pss_cons (ps_asg (pe_ix (r := rIxT K) ix_tup (pv 1) pe_int (fun _ _ => rfl)) (pg_tup rfl (pgs_cons (pg_name (i := 3) sc_most_in_span.nd rfl (Or.inl rfl)) (pgs_cons (pg_name (i := 4) sc_most_in_span.nd rfl (Or.inl rfl)) pgs_nil))))
    (pss_one (ps_ret (pe_op op_mul (pv 3) (pe_call ((ok_rounded_up T).mono (by decide)) hr (by rfl) T.g_rounded_up T.fd_rounded_up.kp T.bd_rounded_up .nil pass0 (pa_cons (pe_op op_add (pe_call ((ok_last_offset T).mono (by decide)) hr (by rfl) T.g_last_offset T.fd_last_offset.kp T.bd_last_offset .nil pass0 (pa_cons (pv 0) (pa_cons (pv 1) pa_nil))) (pv 2)) (pa_cons (pv 4) pa_nil)))))))))), ?_⟩
    cases r with
    | window m1 l1 =>
      have k1 : SqT K H b [.str no, .str "window", .ref gb, .ref nb] := k1
      have k3 : SqT K H nb [.int m1, .int l1] := k3
      walk_at "go"
      exact ⟨b, ⟨no, go, _⟩, l, rfl, hO0, wf, rfl, fun H1 e1 => k H1 e1⟩
    | span m1 l1 =>
      have k1 : SqT K H b [.str no, .str "span", .ref gb, .ref nb] := k1
      have k3 : SqT K H nb [.int m1, .int l1] := k3
      walk_at "go"
      refine ⟨a, b, nm, no, gs, go, m, l, m1, l1, rfl, hL0, hO0, ?_⟩
      walk_at "go"
      refine ⟨_, l1, rfl, by have := wn.2.2.1; omega, by have := wn.2.2.2; omega, ?_⟩
      refine r_I (.inl ⟨by have := wn.1; omega, by have := wn.2.1; omega⟩) ?_
      exact k _ Ex.rf
    | bucket m1 l1 =>
      have k1 : SqT K H b [.str no, .str "bucket", .ref gb, .ref nb] := k1
      have k3 : SqT K H nb [.int m1, .int l1] := k3
      walk_at "go"
      exact ⟨b, ⟨no, go, _⟩, l, rfl, hO0, wf, rfl, fun H1 e1 => k H1 e1⟩
    | gap t1 =>
      have k1 : SqT K H b [.str no, .str "gap", .ref gb, .ref nb] := k1
      have k3 : SqT K H nb [.int t1] := k3
      walk_at "go"
      exact ⟨b, ⟨no, go, _⟩, l, rfl, hO0, wf, rfl, fun H1 e1 => k H1 e1⟩
    | held m1 =>
      exact absurd hf (by intro q; cases q)
    | pool m1 sh1 =>
      exact absurd hf (by intro q; cases q)
abbrev sc_is_below_bucket_N : List Str := ["limit", "other", "size", "every", "word", "numbers", "most", "length"]
theorem sc_is_below_bucket : FnScope ["limit", "other", "size", "every", "word", "numbers", "most", "length"] ["limit", "other"] (defScope s_is_below_bucket) := ⟨rfl, rfl, rfl, by decide +kernel, rfl, by decide +kernel, by decide +kernel⟩
theorem ok_is_below_bucket (T : Tx w K mg) : OkD P w K mg base ("is_below_bucket", none) 1 ["limit", "other"] (spBelow K) := by
  refine (T.fd_is_below_bucket).ok sc_is_below_bucket (fun vs H Q E h => ?_) (fun cdv A outer s H vs Q E hr h => ?_)
  · obtain ⟨a, b, nm, gs, m, l, O, rfl, _⟩ := h
    rfl
  · obtain ⟨a, b, nm, gs, m, l, ⟨no, go, r⟩, rfl, hL, hO, wl, wf, hf, k⟩ := h
    obtain ⟨ga, na, h1, h2, h3⟩ := hL
    obtain ⟨gb, nb, k1, k2, k3⟩ := hO
    have h3 : SqT K H na [.int m, .int l] := h3
    have wn := wf_n wf
    have wm := wf_n wl
    refine ⟨_, (PSs.nox (pss_cons (ps_asg (pe_ix (r := rIxT K) ix_tup (pv 0) pe_int (fun _ _ => rfl)) (pg_tup rfl (pgs_cons (pg_name (i := 2) sc_is_below_bucket.nd rfl (Or.inl rfl)) (pgs_cons (pg_name (i := 3) sc_is_below_bucket.nd rfl (Or.inl rfl)) pgs_nil))))
    (pss_cons (ps_par (i := 4) (j := 5) (by rfl) sc_is_below_bucket.nd rfl rfl (by decide) rfl rfl (pa_cons (pe_ix (r := rIxT K) ix_tup (pv 1) pe_int (fun _ _ => rfl)) (pa_cons (pe_ix (r := rIxT K) ix_tup (pv 1) pe_int (fun _ _ => rfl)) pa_nil)) (by rfl))
    (pss_cons (ps_if (pt_cmpR op_eq (pv 4) pe_str (nomark _)) (pss_one (ps_ret (pe_and (pe_cmpR op_le (pe_ix (r := rIxT K) ix_tup (pv 5) pe_int (fun _ _ => rfl)) (pv 2) (nomark _)) (pe_one (pe_cmpR op_le (pv 3) (pe_ix (r := rIxT K) ix_tup (pv 5) pe_int (fun _ _ => rfl)) (nomark _)))))) pss_nil)
    (pss_cons (ps_asg (pe_ifExp (pt_cmpR op_eq (pv 4) pe_str (nomark _)) (pe_tup (pa_cons (pe_glob (v := .int 1000) rfl T.i_MOST_COST ⟨_, rfl⟩) (pa_cons (pe_ix (r := rIxT K) ix_tup (pv 5) pe_int (fun _ _ => rfl)) pa_nil))) (pv 5)) (pg_tup rfl (pgs_cons (pg_name (i := 6) sc_is_below_bucket.nd rfl (Or.inl rfl)) (pgs_cons (pg_name (i := 7) sc_is_below_bucket.nd rfl (Or.inl rfl)) pgs_nil))))
    (pss_cons (ps_if (PW.pt (pw_and (pt_cmpR op_eq (pv 4) pe_str (nomark _)) (pw_and1 (pt_cmpR op_gt (pe_op op_mul (pe_op op_mul pe_int (pv 6)) (pv 3)) (pe_op op_add (pe_op op_mul (pv 2) (pv 3)) pe_int) (nomark _))))) (pss_one (ps_ret pe_bl)) pss_nil)
    (pss_one (ps_ret (pe_and (pe_cmpR op_le (pv 6) (pv 2) (nomark _)) (pe_one (pe_cmpR op_le (pe_op op_mul (pv 3) (pv 6)) (pv 7) (nomark _)))))))))))), ?_⟩
    cases r with
    | window m1 l1 =>
      have k1 : SqT K H b [.str no, .str "window", .ref gb, .ref nb] := k1
      have k3 : SqT K H nb [.int m1, .int l1] := k3
      have k : ∀ H', Ex H H' → Q (.bl (decide (m1 ≤ m) && decide (l * m1 ≤ l1))) H' := k
      walk_at "go"
      refine r_d2 (fun q => ?_) (fun q => ?_)
      · rw [decide_eq_true q] at k
        walk_at "go"
        refine r_I (.inl ⟨by have := wm.2.2.1; omega, by have := wm.2.2.2; omega⟩) ?_
        walk_at "go"
        exact k _ Ex.rf
      · rw [decide_eq_false q] at k
        exact k _ Ex.rf
    | span m1 l1 =>
      have k1 : SqT K H b [.str no, .str "span", .ref gb, .ref nb] := k1
      have k3 : SqT K H nb [.int m1, .int l1] := k3
      have k : ∀ H', Ex H H' → Q (.bl (if m * l + 1 < 2 * m1 * l then false else decide (m1 ≤ m) && decide (l * m1 ≤ l1))) H' := k
      walk_at "go"
      refine r_I (.inl ⟨by omega, by omega⟩) ?_
      walk_at "go"
      refine r_I (.inr ⟨by have := wm.2.2.1; omega, by have := wm.2.2.2; omega⟩) ?_
      walk_at "go"
      refine r_I (.inr ⟨by have := wm.2.2.1; omega, by have := wm.2.2.2; omega⟩) ?_
      walk_at "go"
      refine r_d2 (fun q => ?_) (fun q => ?_)
      · rw [if_pos q] at k
        walk_at "go"
        exact k _ Ex.rf
      rw [if_neg q] at k
      walk_at "go"
      refine r_d2 (fun q => ?_) (fun q => ?_)
      · rw [decide_eq_true q] at k
        walk_at "go"
        refine r_I (.inl ⟨by have := wm.2.2.1; omega, by have := wm.2.2.2; omega⟩) ?_
        walk_at "go"
        exact k _ Ex.rf
      · rw [decide_eq_false q] at k
        exact k _ Ex.rf
    | bucket m1 l1 =>
      have k1 : SqT K H b [.str no, .str "bucket", .ref gb, .ref nb] := k1
      have k3 : SqT K H nb [.int m1, .int l1] := k3
      have k : ∀ H', Ex H H' → Q (.bl (decide (m1 ≤ m) && decide (l ≤ l1))) H' := k
      walk_at "go"
      refine r_d2 (fun q => ?_) (fun q => ?_)
      · rw [decide_eq_true q] at k
        walk_at "go"
        exact k _ Ex.rf
      · rw [decide_eq_false q] at k
        exact k _ Ex.rf
    | gap t1 =>
      have k1 : SqT K H b [.str no, .str "gap", .ref gb, .ref nb] := k1
      have k3 : SqT K H nb [.int t1] := k3
      have k : ∀ H', Ex H H' → Q (.bl (decide (1000 ≤ m) && decide (l * 1000 ≤ t1))) H' := k
      walk_at "go"
      refine r_newT (fun p H1 n1 e1 hp => ?_)
      walk_at "go"
      refine r_d2 (fun q => ?_) (fun q => ?_)
      · rw [decide_eq_true q] at k
        walk_at "go"
        refine r_I (.inl ⟨by have := wm.2.2.1; omega, by have := wm.2.2.2; omega⟩) ?_
        walk_at "go"
        exact k _ e1
      · rw [decide_eq_false q] at k
        exact k _ e1
    | held m1 =>
      exact absurd hf (by intro q; cases q)
    | pool m1 sh1 =>
      exact absurd hf (by intro q; cases q)
abbrev sc_is_idle_beside_flow_N : List Str := ["limit", "other", "word", "numbers"]
theorem sc_is_idle_beside_flow : FnScope ["limit", "other", "word", "numbers"] ["limit", "other"] (defScope s_is_idle_beside_flow) := ⟨rfl, rfl, rfl, by decide +kernel, rfl, by decide +kernel, by decide +kernel⟩
theorem ok_is_idle_beside_flow (T : Tx w K mg) : OkD P w K mg base ("is_idle_beside_flow", none) 6 ["limit", "other"] (spIdleFlow K) := by
  refine (T.fd_is_idle_beside_flow).ok sc_is_idle_beside_flow (fun vs H Q E h => ?_) (fun cdv A outer s H vs Q E hr h => ?_)
  · obtain ⟨a, b, L, O, rfl, _⟩ := h
    rfl
  · obtain ⟨a, b, ⟨nm, gs, r⟩, O, rfl, hL, hO, wl, wo, hf, k⟩ := h
    have hL0 := hL
    obtain ⟨ga, na, h1, h2, h3⟩ := hL
    refine ⟨_, (PSs.nox (pss_cons (ps_par (i := 2) (j := 3) (by rfl) sc_is_idle_beside_flow.nd rfl rfl (by decide) rfl rfl (pa_cons (pe_ix (r := rIxT K) ix_tup (pv 0) pe_int (fun _ _ => rfl)) (pa_cons (pe_ix (r := rIxT K) ix_tup (pv 0) pe_int (fun _ _ => rfl)) pa_nil)) (by rfl))
    (pss_cons (ps_if (pt_val (pe_call ((ok_lets_nothing T).mono (by decide)) hr (by rfl) T.g_lets_nothing T.fd_lets_nothing.kp T.bd_lets_nothing .nil pass0 (pa_cons (pv 1) pa_nil))) (pss_one (ps_ret pe_bl)) pss_nil)
    (pss_cons (ps_if (pt_cmpR op_eq (pv 2) pe_str (nomark _)) (pss_one (ps_ret (pe_cmpR op_ge (pe_call ((ok_least_distance T).mono (by decide)) hr (by rfl) T.g_least_distance T.fd_least_distance.kp T.bd_least_distance .nil pass0 (pa_cons (pv 1) pa_nil)) (pe_ix (r := rIxT K) ix_tup (pv 3) pe_int (fun _ _ => rfl)) (nomark _)))) pss_nil)
    (pss_cons (ps_if (pt_cmpR op_eq (pv 2) pe_str (nomark _)) (pss_one (ps_ret (pe_cmpR op_le (pe_call ((ok_most_within T).mono (by decide)) hr (by rfl) T.g_most_within T.fd_most_within.kp T.bd_most_within .nil pass0 (pa_cons (pv 1) (pa_cons (pe_ix (r := rIxT K) ix_tup (pv 3) pe_int (fun _ _ => rfl)) pa_nil))) (pe_ix (r := rIxT K) ix_tup (pv 3) pe_int (fun _ _ => rfl)) (nomark _)))) pss_nil)
    (pss_cons (ps_if (pt_cmpR op_eq (pv 2) pe_str (nomark _)) (pss_one (ps_ret (pe_cmpR op_le (pe_call ((ok_most_in_span T).mono (by decide)) hr (by rfl) T.g_most_in_span T.fd_most_in_span.kp T.bd_most_in_span .nil pass0 (pa_cons (pv 0) (pa_cons (pv 1) pa_nil))) (pe_ix (r := rIxT K) ix_tup (pv 3) pe_int (fun _ _ => rfl)) (nomark _)))) pss_nil)
    (pss_one (ps_ret (pe_and (pe_cmpR op_eq (pv 2) pe_str (nomark _)) (pe_one (pe_call ((ok_is_below_bucket T).mono (by decide)) hr (by rfl) T.g_is_below_bucket T.fd_is_below_bucket.kp T.bd_is_below_bucket .nil pass0 (pa_cons (pv 0) (pa_cons (pv 1) pa_nil))))))))))))), ?_⟩
    unfold idleFlow at k
    cases r with
    | window m l =>
      have h1 : SqT K H a [.str nm, .str "window", .ref ga, .ref na] := h1
      have h3 : SqT K H na [.int m, .int l] := h3
      walk_at "go"
      refine ⟨b, O, rfl, hO, wo, fun H1 e1 => ?_⟩
      walk_at "go"
      refine r_b2 (fun z => ?_) (fun z => ?_)
      · rw [if_pos z] at k
        walk_at "go"
        exact k _ e1
      have z : ¬ letsNothing O.rule = true := fun q => by
        rw [z] at q
        cases q
      rw [if_neg z] at k
      have h3' := e1.t h3
      walk_at "go"
      refine ⟨b, O, l, rfl, e1.lim hO, wo, hf, fun H2 e2 => ?_⟩
      have h4 := e2.t h3'
      walk_at "go"
      exact k _ (e1.tr e2)
    | span m l =>
      have h1 : SqT K H a [.str nm, .str "span", .ref ga, .ref na] := h1
      have h3 : SqT K H na [.int m, .int l] := h3
      walk_at "go"
      refine ⟨b, O, rfl, hO, wo, fun H1 e1 => ?_⟩
      walk_at "go"
      refine r_b2 (fun z => ?_) (fun z => ?_)
      · rw [if_pos z] at k
        walk_at "go"
        exact k _ e1
      have z : ¬ letsNothing O.rule = true := fun q => by
        rw [z] at q
        cases q
      rw [if_neg z] at k
      have h3' := e1.t h3
      walk_at "go"
      refine ⟨a, b, nm, gs, m, l, O, rfl, e1.lim hL0, e1.lim hO, wo, hf, fun H2 e2 => ?_⟩
      have h4 := e2.t h3'
      walk_at "go"
      exact k _ (e1.tr e2)
    | bucket m l =>
      have h1 : SqT K H a [.str nm, .str "bucket", .ref ga, .ref na] := h1
      have h3 : SqT K H na [.int m, .int l] := h3
      walk_at "go"
      refine ⟨b, O, rfl, hO, wo, fun H1 e1 => ?_⟩
      walk_at "go"
      refine r_b2 (fun z => ?_) (fun z => ?_)
      · rw [if_pos z] at k
        walk_at "go"
        exact k _ e1
      have z : ¬ letsNothing O.rule = true := fun q => by
        rw [z] at q
        cases q
      rw [if_neg z] at k
      walk_at "go"
      exact ⟨a, b, nm, gs, m, l, O, rfl, e1.lim hL0, e1.lim hO, wl, wo, hf, fun H2 e2 => k _ (e1.tr e2)⟩
    | gap t =>
      have h1 : SqT K H a [.str nm, .str "gap", .ref ga, .ref na] := h1
      have h3 : SqT K H na [.int t] := h3
      walk_at "go"
      refine ⟨b, O, rfl, hO, wo, fun H1 e1 => ?_⟩
      walk_at "go"
      refine r_b2 (fun z => ?_) (fun z => ?_)
      · rw [if_pos z] at k
        walk_at "go"
        exact k _ e1
      have z : ¬ letsNothing O.rule = true := fun q => by
        rw [z] at q
        cases q
      rw [if_neg z] at k
      have h3' := e1.t h3
      walk_at "go"
      refine ⟨b, O, rfl, e1.lim hO, wo, hf, fun H2 e2 => ?_⟩
      have h4 := e2.t h3'
      walk_at "go"
      exact k _ (e1.tr e2)
    | held m =>
      have h1 : SqT K H a [.str nm, .str "held", .ref ga, .ref na] := h1
      have h3 : SqT K H na [.int m] := h3
      walk_at "go"
      refine ⟨b, O, rfl, hO, wo, fun H1 e1 => ?_⟩
      walk_at "go"
      refine r_b2 (fun z => ?_) (fun z => ?_)
      · rw [if_pos z] at k
        walk_at "go"
        exact k _ e1
      have z : ¬ letsNothing O.rule = true := fun q => by
        rw [z] at q
        cases q
      rw [if_neg z] at k
      walk_at "go"
      exact k _ e1
    | pool m sh =>
      have h1 : SqT K H a [.str nm, .str "pool", .ref ga, .ref na] := h1
      walk_at "go"
      refine ⟨b, O, rfl, hO, wo, fun H1 e1 => ?_⟩
      walk_at "go"
      refine r_b2 (fun z => ?_) (fun z => ?_)
      · rw [if_pos z] at k
        walk_at "go"
        exact k _ e1
      have z : ¬ letsNothing O.rule = true := fun q => by
        rw [z] at q
        cases q
      rw [if_neg z] at k
      walk_at "go"
      exact k _ e1
end
end Lw
end
section
set_option maxRecDepth 100000
set_option maxHeartbeats 4000000
namespace Lw
open PySem PySem.Spec PyProof.Rows L2
local macro_rules | `(tactic| walk_at "hp") => `(tactic| first | assumption | exact upd_same | exact (by assumption : Ex _ _) _ _ (by assumption))
local macro_rules | `(tactic| walk_at "lk") => `(tactic| fail "no look-up")
local macro_rules | `(tactic| walk_at "tk") => `(tactic| first | assumption | exact Ex.t (by assumption) (by assumption) | exact Ex.l (by assumption) (by assumption) | exact .inl (.inl (by assumption)))
local macro_rules | `(tactic| walk_at "st") => `(tactic| first
  | with_reducible refine r_seq ?_ | with_reducible refine r_asg ?_ | with_reducible refine r_name ?_
  | ((with_reducible refine' r_var ?k1 ?_); (case k1 => exact rfl))
  | with_reducible refine r_c ?_ | with_reducible refine r_op ?_ | with_reducible refine r_un ?_ | with_reducible refine r_cb ?_ | with_reducible refine r_nil ?_ | with_reducible refine r_cons ?_
  | with_reducible refine r_call ?_ | with_reducible refine r_ret ?_ | with_reducible refine r_drop ?_ | with_reducible refine r_ifs ?_ | with_reducible refine r_ife ?_ | with_reducible refine r_next ?_
  | with_reducible refine r_test ?_ | with_reducible refine r_tB ?_ | with_reducible refine r_bl ?_ | with_reducible refine r_blx ?_ | with_reducible refine r_tnot ?_ | with_reducible refine r_tand ?_ | with_reducible refine r_tor ?_
  | with_reducible refine r_not ?_ | with_reducible refine r_and ?_ | with_reducible refine r_or ?_ | with_reducible refine r_I0 ?_ | with_reducible refine r_U ?_
  | with_reducible refine r_eqS ?_ | with_reducible refine r_eqI ?_ | with_reducible refine r_neS ?_ | with_reducible refine r_neI ?_ | with_reducible refine r_chain ?_
  | ((with_reducible refine' r_gtup ?k1 ?k2 ?_); (case k1 => walk_at "tk"); (case k2 => exact rfl))
  | with_reducible refine r_gcons ?_ | with_reducible refine r_gnil ?_
  | ((with_reducible refine' r_ixT ?k1 ?k2 ?_); (case k1 => walk_at "tk"); (case k2 => exact rfl))
  | ((with_reducible refine' r_ixL ?k1 ?k2 ?_); (case k1 => walk_at "tk"); (case k2 => exact rfl))
  | with_reducible refine r_tup ?_ | with_reducible refine r_lst ?_ | with_reducible refine iteT ?_ | with_reducible refine iteF ?_
  | ((with_reducible refine' r_wipe ?k1 ?_); (case k1 => exact rfl)) | with_reducible refine r_tyes ?_
  | ((with_reducible refine' r_lenT ?k1 ?_); (case k1 => walk_at "tk")) | ((with_reducible refine' r_lenL ?k1 ?_); (case k1 => walk_at "tk"))
  | with_reducible refine r_fld ?_ | with_reducible refine r_sfld ?_ | with_reducible refine r_gfld ?_ | with_reducible refine r_meth ?_
  | ((with_reducible refine' r_fld1 ?k1 ?k2 ?k3 ?k4 ?_); (case k1 => walk_at "hp"); (case k2 => assumption); (case k3 => assumption); (case k4 => walk_at "lk"))
  | ((with_reducible refine' r_sfld1 ?k1 ?k2 ?k3 ?k4 ?_); (case k1 => walk_at "hp"); (case k2 => assumption); (case k3 => assumption); (case k4 => exact Nat.lt_of_le_of_lt (Nat.le_of_ble_eq_true rfl) (by decide : 10 < 1000)))
  | ((with_reducible refine' r_gfld1 ?k1 ?k2 ?k3 ?k4 ?_); (case k1 => walk_at "hp"); (case k2 => assumption); (case k3 => assumption); (case k4 => exact Nat.lt_of_le_of_lt (Nat.le_of_ble_eq_true rfl) (by decide : 10 < 1000)))
  | with_reducible refine r_ks ?_ | with_reducible refine r_kq ?_
  | ((with_reducible refine' r_meth1 ?k1 ?k2 ?_); (case k1 => walk_at "hp"); (case k2 => kernel_rfl))
  | with_reducible refine r_kb ?_ | with_reducible refine r_tru ?_ | with_reducible refine r_bm0 ?_ | with_reducible refine r_bm ?_
  | ((with_reducible refine' r_tyL ?k1 ?_); (case k1 => walk_at "hp"))
  | with_reducible refine r_sdput ?_ | with_reducible refine r_dget ?_ | with_reducible refine r_din ?_ | with_reducible refine r_dnin ?_ | with_reducible refine r_dpop ?_
  | ((with_reducible refine' r_dpop0 ?k1 ?_); (case k1 => walk_at "hp"))
  | ((with_reducible refine' r_strY ?k1 ?_); (case k1 => decide +kernel)) | ((with_reducible refine' r_strN ?k1 ?_); (case k1 => decide +kernel))
  | ((with_reducible refine' r_nstrY ?k1 ?_); (case k1 => decide +kernel)) | ((with_reducible refine' r_nstrN ?k1 ?_); (case k1 => decide +kernel))
  | with_reducible refine r_gcd ?_ | with_reducible refine r_par ?_ | with_reducible refine r_par1 ?_
  | with_reducible refine r_make ?_ | with_reducible refine r_orJ ?_
  | with_reducible refine r_isN ?_ | with_reducible refine r_notN ?_
  | with_reducible refine r_abs ?_ | with_reducible refine r_int ?_ | with_reducible refine r_min ?_ | with_reducible refine r_max ?_)
local macro_rules | `(tactic| walk_at "go") => `(tactic| repeat walk_at "st")
def UsesAt (K : PySem.W.Frag) (H : Hp) (p : Addr) (us : List (Str × Int)) : Prop := ∃ ps : List (Addr × (Str × Int)), ps.map (·.2) = us ∧ H p = some (.lst (ps.map fun x => .ref x.1)) ∧ ∀ x ∈ ps, SqT K H x.1 [.str x.2.1, .int x.2.2]
def ChAt (K : PySem.W.Frag) (H : Hp) (p : Addr) (cs : List (List Str)) : Prop := ∃ ps : List (Addr × List Str), ps.map (·.2) = cs ∧ H p = some (.lst (ps.map fun x => .ref x.1)) ∧ ∀ x ∈ ps, H x.1 = some (.lst (x.2.map V.str))
def spFilled (K : PySem.W.Frag) : Sp := fun vs H Q _ => ∃ (a b : Addr) (nm : Str) (gs : List Str) (m : Int) (sh : List Sh) (names : List Str), vs = [.ref a, .ref b] ∧ LimAt K H a ⟨nm, gs, .pool m sh⟩ ∧ sh.length ≤ 8 ∧ SqL K H b (names.map V.str) ∧ names.length ≤ 1000 ∧
  ∀ p H', H p = none → Ex H H' → UsesAt K H' p (filled m sh names) → Q (.ref p) H'
def spChoices (K : PySem.W.Frag) : Sp := fun vs H Q _ => ∃ (b : Addr) (names : List Str), vs = [.ref b] ∧ SqL K H b (names.map V.str) ∧ names.length ≤ 8 ∧ ∀ p H', H p = none → Ex H H' → ChAt K H' p (allChoices names) → Q (.ref p) H'
theorem not_imm_lst {xs : List V} : ¬ ((∃ ys, HO.lst xs = .tup ys) ∨ ∃ ob v, HO.lst xs = .frz ob v) := fun z => by
  rcases z with ⟨_, z⟩ | ⟨_, _, z⟩ <;> cases z
theorem all_len (names : List Str) : ∀ i, i ≤ names.length → (allChoices (names.take i)).length = 2 ^ i := by
  intro i
  induction i with
  | zero =>
    intro _
    rfl
  | succ i ih =>
    intro h
    obtain ⟨x, hx⟩ : ∃ x, names[i]? = some x := ⟨names[i], List.getElem?_eq_getElem (by omega)⟩
    have tk : names.take (i + 1) = names.take i ++ [x] := by rw [List.take_add_one, hx] <;> rfl
    have e := ih (by omega)
    unfold allChoices at e ⊢
    rw [tk, List.foldl_append]
    rw [List.foldl_cons, List.foldl_nil, List.length_append, List.length_map, e, Nat.pow_succ]
    omega
/-- a comprehension whose items are new lists -/
theorem lc_N {K : PySem.W.Frag} {α : Type} {a : Addr} {L : List α} {ev : α → V} {F : α → List V} {g : TG} {te : TE} {tl : TE} {vs : List Nat} {σ : L2.St} {H : Hp} {Q : VK}
    (hz : L.length ≤ 100000) (hx : SqL K H a (L.map ev)) (hl : ∀ Q' : VK, Q' (.ref a) H → tl σ H Q')
    (turn : ∀ x ∈ L, ∀ H', Ex H H' → ∀ Kt : V → Hp → Prop, (∀ q H'', H' q = none → Ex H' H'' → H'' q = some (.lst (F x)) → Kt (.ref q) H'') → g (ev x) (wipe σ vs) H' fun σ2 H2 => wipe σ2 vs = wipe σ vs ∧ te σ2 H2 Kt)
    (k : ∀ D H' (ps : List (Addr × α)), H D = none → Ex H H' → ps.map (·.2) = L → H' D = some (.lst (ps.map fun x => .ref x.1)) → (∀ x ∈ ps, H' x.1 = some (.lst (F x.2))) → Q (.ref D) H') : tLc (iList K tl) g tYes te vs σ H Q := by
  refine hl _ ⟨a, rfl, ⟨_, hx⟩, fun D hD => ?_⟩
  refine lc_list (xs := L.map ev) (fun i H' => Ex H H' ∧ ∃ ps : List (Addr × α), ps.map (·.2) = L.take i ∧ H' D = some (.lst (ps.map fun x => .ref x.1)) ∧ ∀ x ∈ ps, x.1 ≠ D ∧ H' x.1 = some (.lst (F x.2))) ⟨Ex.nw hD, [], rfl, upd_same, fun x hx => nomatch hx⟩ (fun i H' _ e => e.1.l hx) ?_ ?_
  · rintro i v H' hi ⟨e, ps, h1, h2, h3⟩
    rw [List.getElem?_map] at hi
    cases q : L[i]? with
    | none =>
      rw [q] at hi
      cases hi
    | some x =>
      rw [q] at hi
      cases hi
      obtain ⟨hlt, _⟩ := List.getElem?_eq_some_iff.mp q
      have tk : L.take (i + 1) = L.take i ++ [x] := by rw [List.take_add_one, q] <;> rfl
      have hlen : ps.length ≤ i := by
        rw [← List.length_map (f := fun x : Addr × α => x.2), h1]
        exact List.length_take_le i L
      have h0 := turn x (List.mem_of_getElem? q) H' e (fun y H4 => ∃ acc, H4 D = some (.lst acc) ∧ acc.length < sizeLine ∧ (fun i H' => Ex H H' ∧ ∃ ps : List (Addr × α), ps.map (·.2) = L.take i ∧ H' D = some (.lst (ps.map fun x => .ref x.1)) ∧ ∀ x ∈ ps, x.1 ≠ D ∧ H' x.1 = some (.lst (F x.2))) (i + 1) (upd H4 D (.lst (acc ++ [y])))) (fun q' H'' nq e' hq => ?_)
      · exact h0
      · have nqD : q' ≠ D := fun z => by
          rw [z, h2] at nq
          cases nq
        refine ⟨_, e' _ _ h2, ?_, (e.tr e').mt hD, ps ++ [(q', x)], ?_, ?_, fun y hy => ?_⟩
        · rw [List.length_map]
          exact Evl.sz_lt (by omega)
        · rw [List.map_append, h1, tk] <;> rfl
        · rw [upd_same, List.map_append] <;> rfl
        · rcases List.mem_append.mp hy with z | z
          · exact ⟨(h3 y z).1, (upd_ne (h3 y z).1).trans (e' _ _ (h3 y z).2)⟩
          · rw [List.mem_singleton.mp z]
            exact ⟨nqD, (upd_ne nqD).trans hq⟩
  · rintro H' ⟨e, ps, h1, h2, h3⟩
    rw [List.length_map, List.take_length] at h1
    exact k D H' ps hD e h1 h2 fun x hx => (h3 x hx).2
section
variable {P : Program} {w : World} {K : PySem.W.Frag} {mg : Str → Option Value} {base : Heap}
abbrev sc_filled_N : List Str := ["limit", "names", "left", "uses", "name", "own", "ceiling", "more"]
theorem sc_filled : FnScope ["limit", "names", "left", "uses", "name", "own", "ceiling", "more"] ["limit", "names"] (defScope s_filled) := ⟨rfl, rfl, rfl, by decide +kernel, rfl, by decide +kernel, by decide +kernel⟩
theorem ok_filled (T : Tx w K mg) : OkD P w K mg base ("filled", none) 2 ["limit", "names"] (spFilled K) := by
  refine (T.fd_filled).ok sc_filled (fun vs H Q E h => ?_) (fun cdv A outer s H vs Q E hr h => ?_)
  · obtain ⟨a, b, nm, gs, m, sh, names, rfl, _⟩ := h
    rfl
  · obtain ⟨a, b, nm, gs, m, sh, names, rfl, hL, hl, hb, hz, k⟩ := h
    refine ⟨_, (PSs.nox (pss_cons (ps_set (i := 2) sc_filled.nd rfl (Or.inl rfl) (pe_call ((ok_common_of T).mono (by decide)) hr (by rfl) T.g_common_of T.fd_common_of.kp T.bd_common_of .nil pass0 (pa_cons (pv 0) pa_nil)))
    (pss_cons (ps_set (i := 3) sc_filled.nd rfl (Or.inl rfl) (pe_lst pa_nil))
    (pss_cons (ps_for PassesOwn.never rfl (pi_list (pv 1)) (pg_name (i := 4) sc_filled.nd rfl (Or.inl rfl))
    (pss_cons (ps_asg (pe_call ((ok_share_for T).mono (by decide)) hr (by rfl) T.g_share_for T.fd_share_for.kp T.bd_share_for .nil pass0 (pa_cons (pv 0) (pa_cons (pv 4) pa_nil))) (pg_tup rfl (pgs_cons (pg_name (i := 5) sc_filled.nd rfl (Or.inl rfl)) (pgs_cons (pg_name (i := 6) sc_filled.nd rfl (Or.inl rfl)) pgs_nil))))
    (pss_cons (ps_set (i := 7) sc_filled.nd rfl (Or.inl rfl) (pe_callB (cr_minJ rfl) (by rfl) T.f_min (by decide +kernel) (pa_cons (pv 2) (pa_cons (pe_op op_sub (pv 6) (pv 5)) pa_nil))))
    (pss_cons (ps_set (i := 2) sc_filled.nd rfl (Or.inl rfl) (pe_op op_sub (pv 2) (pv 7)))
    (pss_one (ps_expr (pe_bm PySem.F.plainAttrs_list PySem.F.slot_list_append PySem.F.type_list_append mt_append (pv 3) (pa_cons (pe_tup (pa_cons (pv 4) (pa_cons (pe_op op_add (pv 5) (pv 7)) pa_nil))) pa_nil))))))))
    (pss_one (ps_ret (pv 3))))))), ?_⟩
    walk_at "go"
    refine ⟨a, nm, gs, m, sh, rfl, hL, hl, fun H1 e1 => ?_⟩
    walk_at "go"
    refine r_newL (fun p H2 n2 e2 hp => ?_)
    have n0 : H p = none := e1.fr n2
    walk_at "go"
    refine fo_L (L := names) (ev := V.str) (fun i σ' H' => Ex H H' ∧ ∃ (left : Int) (ps : List (Addr × (Str × Int))) (z1 z2 z3 z4 : Option V), σ' = [some (.ref a), some (.ref b), some (.int left), some (.ref p), z1, z2, z3, z4] ∧ H' p = some (.lst (ps.map fun x => .ref x.1)) ∧
      (∀ x ∈ ps, SqT K H' x.1 [.str x.2.1, .int x.2.2]) ∧ ps.length = i ∧ ps.map (·.2) ++ filledFrom sh left (names.drop i) = filled m sh names) ((e1.tr e2).l hb) (fun Q' q => ?_)
      ⟨e1.tr e2, common m sh, [], none, none, none, none, rfl, hp, (fun x hx => nomatch hx), rfl, rfl⟩ (fun i σ' H' q => q.1.l hb) ?_ ?_
    · walk_at "go"
      exact q
    · rintro i x σ' H' hi ⟨e, left, ps, z1, z2, z3, z4, rfl, h1, h2, h3, h4⟩
      have hx := (List.getElem?_eq_some_iff.mp hi).1
      have hd : names.drop i = x :: names.drop (i + 1) := by
        rw [List.drop_eq_getElem_cons hx]
        congr 1
        exact (List.getElem?_eq_some_iff.mp hi).2
      walk_at "go"
      refine ⟨a, nm, gs, m, sh, x, rfl, e.lim hL, fun q H3 e3 hq => ?_⟩
      walk_at "go"
      refine r_newT (fun p4 H4 n4 e4 h5 => ?_)
      have hp4 := (e3.tr e4) _ _ h1
      walk_at "go"
      refine r_app hp4 (by rw [List.length_map]; omega) ?_
      walk_at "go"
      have tu := Tu.mt (o := .lst (ps.map (fun x => V.ref x.1) ++ [V.ref p4])) hp4 not_imm_lst
      refine ⟨((e.tr e3).tr e4).mt n0, _, ps ++ [(p4, (x, (shareFor sh x).1 + min left ((shareFor sh x).2 - (shareFor sh x).1)))], _, _, _, _, rfl, ?_, fun y hy => ?_, ?_, ?_⟩
      · rw [upd_same, List.map_append] <;> rfl
      · rcases List.mem_append.mp hy with q | q
        · exact tu.t ((e3.tr e4).t (h2 y q))
        · rw [List.mem_singleton.mp q]
          exact tu.t (.inl (.inl h5))
      · rw [List.length_append, h3] <;> rfl
      · rw [hd] at h4
        rw [← h4, List.map_append, List.append_assoc]
        rfl
    · rintro σ' H' ⟨e, left, ps, z1, z2, z3, z4, rfl, h1, h2, h3, h4⟩
      rw [List.drop_length] at h4
      walk_at "go"
      refine k p H' n0 e ⟨ps, ?_, h1, h2⟩
      rw [← h4]
      exact (List.append_nil _).symm
abbrev sc_all_choices_N : List Str := ["names", "found", "name", "row"]
theorem sc_all_choices : FnScope ["names", "found", "name", "row"] ["names"] (defScope s_all_choices) := ⟨rfl, rfl, rfl, by decide +kernel, rfl, by decide +kernel, by decide +kernel⟩
theorem ok_all_choices (T : Tx w K mg) : OkD P w K mg base ("all_choices", none) 1 ["names"] (spChoices K) := by
  refine (T.fd_all_choices).ok sc_all_choices (fun vs H Q E h => ?_) (fun cdv A outer s H vs Q E hr h => ?_)
  · obtain ⟨b, names, rfl, _⟩ := h
    rfl
  · obtain ⟨b, names, rfl, hb, hz, k⟩ := h
    refine ⟨_, (PSs.nox (pss_cons (ps_set (i := 1) sc_all_choices.nd rfl (Or.inl rfl) (pe_lst (pa_cons (pe_lst pa_nil) pa_nil)))
    (pss_cons (ps_for PassesOwn.never rfl (pi_list (pv 0)) (pg_name (i := 2) sc_all_choices.nd rfl (Or.inr rfl))
    (pss_one (ps_set (i := 1) sc_all_choices.nd rfl (Or.inl rfl) (pe_op op_cat (pv 1) (pe_lc (own := [("row", 3)]) rfl sc_all_choices.nd (pi_list (pv 1)) (blkOk_by (own := [("row", 3)]) (N := sc_all_choices_N) (sc := defScope s_all_choices) (by decide +kernel)) (fun _ _ _ _ _ => (pg_name (i := 3) sc_all_choices.nd rfl (Or.inl rfl))) (fun _ _ _ _ _ => pts_nil) (fun _ _ _ _ _ => (pe_op op_cat (pv 3) (pe_lst (pa_cons (pv 2) pa_nil)))))))))
    (pss_one (ps_ret (pv 1)))))), ?_⟩
    walk_at "go"
    refine r_newL (fun p0 H1 n1 e1 hp0 => ?_)
    walk_at "go"
    refine r_newL (fun p1 H2 n2 e2 hp1 => ?_)
    walk_at "go"
    refine fo_L (L := names) (ev := V.str) (fun i σ' H' => Ex H H' ∧ ∃ (q : Addr) (z1 z2 : Option V), σ' = [some (.ref b), some (.ref q), z1, z2] ∧ H q = none ∧ ChAt K H' q (allChoices (names.take i)) ∧ ∀ y ∈ allChoices (names.take i), y.length ≤ i) ((e1.tr e2).l hb) (fun Q' q => ?_)
      ⟨e1.tr e2, p1, none, none, rfl, e1.fr n2, ⟨[(p0, [])], rfl, hp1, fun x hx => by rw [List.mem_singleton.mp hx]; exact e2 _ _ hp0⟩, fun y hy => by rw [List.mem_singleton.mp hy]; exact Nat.le_refl _⟩ (fun i σ' H' q => q.1.l hb) ?_ ?_
    · walk_at "go"
      exact q
    · rintro i x σ' H' hi ⟨e, q, z1, z2, rfl, nq, ⟨ps, h1, h2, h3⟩, hrl⟩
      have hx := (List.getElem?_eq_some_iff.mp hi).1
      have tk : names.take (i + 1) = names.take i ++ [x] := by rw [List.take_add_one, hi] <;> rfl
      have hlen : ps.length = 2 ^ i := by
        rw [← List.length_map (f := fun x : Addr × List Str => x.2), h1]
        exact all_len names i (by omega)
      have hlen2 : ps.length ≤ 256 := by
        rw [hlen]
        have : i = 0 ∨ i = 1 ∨ i = 2 ∨ i = 3 ∨ i = 4 ∨ i = 5 ∨ i = 6 ∨ i = 7 := by omega
        rcases this with rfl | rfl | rfl | rfl | rfl | rfl | rfl | rfl <;> decide
      have hps : ∀ y ∈ ps, y.2.length ≤ 8 := fun y hy => by
        have := hrl y.2 (by rw [← h1]; exact List.mem_map.mpr ⟨y, hy, rfl⟩)
        omega
      walk_at "go"
      refine lc_N (L := ps) (ev := fun y => .ref y.1) (F := fun y => y.2.map V.str ++ [V.str x]) (by omega) (.inl (.inl h2)) (fun Q' q => ?_) (fun y hy H1' e' Kt kt => ?_) (fun D H4 ps2 nD e4 g1 g2 g3 => ?_)
      · walk_at "go"
        exact q
      · have hy1 := e' _ _ (h3 y hy)
        walk_at "go"
        refine r_newL (fun p5 H5 n5 e5 h5 => ?_)
        refine r_cat (e5 _ _ hy1) h5 (by rw [List.length_map]; have := hps y hy; show _ + 1 ≤ _; omega) (fun p6 H6 n6 e6 h6 => kt p6 H6 (e5.fr n6) (e5.tr e6) h6)
      · have hq4 := e4 _ _ h2
        have hlen4 : ps2.length = ps.length := by rw [← g1, List.length_map]
        refine r_cat hq4 g2 (by rw [List.length_map, List.length_map]; omega) (fun p7 H7 n7 e7 h7 => ?_)
        walk_at "go"
        have ch : allChoices (names.take (i + 1)) = allChoices (names.take i) ++ (allChoices (names.take i)).map fun r => r ++ [x] := by
          unfold allChoices
          rw [tk, List.foldl_append]
          rfl
        refine ⟨(e.tr e4).tr e7, p7, _, _, rfl, (e.tr e4).fr n7, ⟨ps ++ ps2.map (fun y => (y.1, y.2.2 ++ [x])), ?_, ?_, fun y hy => ?_⟩, fun y hy => ?_⟩
        · rw [ch, ← h1, ← g1]
          simp [Function.comp_def]
        · rw [h7, List.map_append, List.map_map] <;> rfl
        · rcases List.mem_append.mp hy with z | z
          · exact (e4.tr e7) _ _ (h3 y z)
          · obtain ⟨y0, hy0, rfl⟩ := List.mem_map.mp z
            have := e7 _ _ (g3 y0 hy0)
            rw [this, List.map_append] <;> rfl
        · rw [ch] at hy
          rcases List.mem_append.mp hy with z | z
          · have := hrl y z
            omega
          · obtain ⟨y0, hy0, rfl⟩ := List.mem_map.mp z
            have := hrl y0 hy0
            rw [List.length_append]
            show _ + 1 ≤ _
            omega
    · rintro σ' H' ⟨e, q, z1, z2, rfl, nq, hc, _⟩
      rw [List.take_length] at hc
      walk_at "go"
      exact k q H' nq e hc
end
end Lw
end
section
set_option maxRecDepth 100000
set_option maxHeartbeats 4000000
namespace Lw
open PySem PySem.Spec PyProof.Rows L2
local macro_rules | `(tactic| walk_at "hp") => `(tactic| first | assumption | exact upd_same | exact (by assumption : Ex _ _) _ _ (by assumption))
local macro_rules | `(tactic| walk_at "lk") => `(tactic| fail "no look-up")
local macro_rules | `(tactic| walk_at "tk") => `(tactic| first | assumption | exact Ex.t (by assumption) (by assumption) | exact Ex.l (by assumption) (by assumption) | exact .inl (.inl (by assumption)))
local macro_rules | `(tactic| walk_at "st") => `(tactic| first
  | with_reducible refine r_seq ?_ | with_reducible refine r_asg ?_ | with_reducible refine r_name ?_
  | ((with_reducible refine' r_var ?k1 ?_); (case k1 => exact rfl))
  | with_reducible refine r_c ?_ | with_reducible refine r_op ?_ | with_reducible refine r_un ?_ | with_reducible refine r_cb ?_ | with_reducible refine r_nil ?_ | with_reducible refine r_cons ?_
  | with_reducible refine r_call ?_ | with_reducible refine r_ret ?_ | with_reducible refine r_drop ?_ | with_reducible refine r_ifs ?_ | with_reducible refine r_ife ?_ | with_reducible refine r_next ?_
  | with_reducible refine r_test ?_ | with_reducible refine r_tB ?_ | with_reducible refine r_bl ?_ | with_reducible refine r_blx ?_ | with_reducible refine r_tnot ?_ | with_reducible refine r_tand ?_ | with_reducible refine r_tor ?_
  | with_reducible refine r_not ?_ | with_reducible refine r_and ?_ | with_reducible refine r_or ?_ | with_reducible refine r_I0 ?_ | with_reducible refine r_U ?_
  | with_reducible refine r_eqS ?_ | with_reducible refine r_eqI ?_ | with_reducible refine r_neS ?_ | with_reducible refine r_neI ?_ | with_reducible refine r_chain ?_
  | ((with_reducible refine' r_gtup ?k1 ?k2 ?_); (case k1 => walk_at "tk"); (case k2 => exact rfl))
  | with_reducible refine r_gcons ?_ | with_reducible refine r_gnil ?_
  | ((with_reducible refine' r_ixT ?k1 ?k2 ?_); (case k1 => walk_at "tk"); (case k2 => exact rfl))
  | ((with_reducible refine' r_ixL ?k1 ?k2 ?_); (case k1 => walk_at "tk"); (case k2 => exact rfl))
  | with_reducible refine r_tup ?_ | with_reducible refine r_lst ?_ | with_reducible refine iteT ?_ | with_reducible refine iteF ?_
  | ((with_reducible refine' r_wipe ?k1 ?_); (case k1 => exact rfl)) | with_reducible refine r_tyes ?_
  | ((with_reducible refine' r_lenT ?k1 ?_); (case k1 => walk_at "tk")) | ((with_reducible refine' r_lenL ?k1 ?_); (case k1 => walk_at "tk"))
  | with_reducible refine r_fld ?_ | with_reducible refine r_sfld ?_ | with_reducible refine r_gfld ?_ | with_reducible refine r_meth ?_
  | ((with_reducible refine' r_fld1 ?k1 ?k2 ?k3 ?k4 ?_); (case k1 => walk_at "hp"); (case k2 => assumption); (case k3 => assumption); (case k4 => walk_at "lk"))
  | ((with_reducible refine' r_sfld1 ?k1 ?k2 ?k3 ?k4 ?_); (case k1 => walk_at "hp"); (case k2 => assumption); (case k3 => assumption); (case k4 => exact Nat.lt_of_le_of_lt (Nat.le_of_ble_eq_true rfl) (by decide : 10 < 1000)))
  | ((with_reducible refine' r_gfld1 ?k1 ?k2 ?k3 ?k4 ?_); (case k1 => walk_at "hp"); (case k2 => assumption); (case k3 => assumption); (case k4 => exact Nat.lt_of_le_of_lt (Nat.le_of_ble_eq_true rfl) (by decide : 10 < 1000)))
  | with_reducible refine r_ks ?_ | with_reducible refine r_kq ?_
  | ((with_reducible refine' r_meth1 ?k1 ?k2 ?_); (case k1 => walk_at "hp"); (case k2 => kernel_rfl))
  | with_reducible refine r_kb ?_ | with_reducible refine r_tru ?_ | with_reducible refine r_bm0 ?_ | with_reducible refine r_bm ?_
  | ((with_reducible refine' r_tyL ?k1 ?_); (case k1 => walk_at "hp"))
  | with_reducible refine r_sdput ?_ | with_reducible refine r_dget ?_ | with_reducible refine r_din ?_ | with_reducible refine r_dnin ?_ | with_reducible refine r_dpop ?_
  | ((with_reducible refine' r_dpop0 ?k1 ?_); (case k1 => walk_at "hp"))
  | ((with_reducible refine' r_strY ?k1 ?_); (case k1 => decide +kernel)) | ((with_reducible refine' r_strN ?k1 ?_); (case k1 => decide +kernel))
  | ((with_reducible refine' r_nstrY ?k1 ?_); (case k1 => decide +kernel)) | ((with_reducible refine' r_nstrN ?k1 ?_); (case k1 => decide +kernel))
  | with_reducible refine r_gcd ?_ | with_reducible refine r_par ?_ | with_reducible refine r_par1 ?_
  | with_reducible refine r_make ?_ | with_reducible refine r_orJ ?_
  | with_reducible refine r_isN ?_ | with_reducible refine r_notN ?_
  | with_reducible refine r_abs ?_ | with_reducible refine r_int ?_ | with_reducible refine r_min ?_ | with_reducible refine r_max ?_)
local macro_rules | `(tactic| walk_at "go") => `(tactic| repeat walk_at "st")
def spBorrow (K : PySem.W.Frag) : Sp := fun vs H Q _ => ∃ (a b : Addr) (nm no : Str) (gs go : List Str) (m mo : Int) (sh so : List Sh), vs = [.ref a, .ref b] ∧ LimAt K H a ⟨nm, gs, .pool m sh⟩ ∧ LimAt K H b ⟨no, go, .pool mo so⟩ ∧ WfL ⟨nm, gs, .pool m sh⟩ ∧ WfL ⟨no, go, .pool mo so⟩ ∧
  ∀ p u H', Ex H H' → SqT K H' p [.ref u, .int (mostBorrowed sh mo so)] → Q (.ref p) H'
def spHeldCost (K : PySem.W.Frag) : Sp := fun vs H Q _ => ∃ (a : Addr) (O : Lim) (g : Str), vs = [.ref a, .str g] ∧ LimAt K H a O ∧ WfL O ∧ isFlow O.rule = false ∧ ∀ H', Ex H H' → Q (.int (heldCost O.rule g)) H'
def spAsked (K : PySem.W.Frag) : Sp := fun vs H Q _ => ∃ (a b : Addr) (L O : Lim), vs = [.ref a, .ref b] ∧ LimAt K H a L ∧ LimAt K H b O ∧ WfL L ∧ WfL O ∧ isFlow O.rule = false ∧ ∀ p (x : Str) H', Ex H H' → SqT K H' p [.str x, .int (askedCost L O.rule)] → Q (.ref p) H'
theorem groups_len {L : Lim} (wl : WfL L) : (groupsNamed L).length ≤ 8 := by
  obtain ⟨nm, gs, r⟩ := L
  cases r with
  | pool m sh =>
    have := (wf_n wl).2.2.2.2.2.2
    show (sh.map (·.1)).length ≤ 8
    rw [List.length_map]
    exact this
  | _ => exact wl.sm.g
theorem filled_len (sh : List Sh) : ∀ (names : List Str) (left : Int), (filledFrom sh left names).length = names.length
  | [], _ => rfl
  | g :: r, left => by
    show (filledFrom sh _ r).length + 1 = r.length + 1
    rw [filled_len sh r]
theorem choice_len (names : List Str) : ∀ c ∈ allChoices names, c.length ≤ names.length := by
  have h : ∀ (l : List Str) (acc : List (List Str)) (n : Nat), (∀ c ∈ acc, c.length ≤ n) → ∀ c ∈ l.foldl (fun found g => found ++ found.map fun r => r ++ [g]) acc, c.length ≤ n + l.length := by
    intro l
    induction l with
    | nil => exact fun acc n h c hc => h c hc
    | cons g r ih =>
      intro acc n h c hc
      have := ih (acc ++ acc.map fun r => r ++ [g]) (n + 1) (fun c hc => by
        rcases List.mem_append.mp hc with z | z
        · have := h c z
          omega
        · obtain ⟨d, hd, rfl⟩ := List.mem_map.mp z
          have := h d hd
          rw [List.length_append]
          show _ + 1 ≤ _
          omega) c hc
      rw [List.length_cons]
      omega
  intro c hc
  have := h names [[]] 0 (fun c hc => by rw [List.mem_singleton.mp hc]; exact Nat.le_refl _) c hc
  omega
section
variable {P : Program} {w : World} {K : PySem.W.Frag} {mg : Str → Option Value} {base : Heap}
abbrev sc_most_borrowed_N : List Str := ["limit", "other", "best", "chosen", "uses", "borrowed", "name", "used"]
theorem sc_most_borrowed : FnScope ["limit", "other", "best", "chosen", "uses", "borrowed", "name", "used"] ["limit", "other"] (defScope s_most_borrowed) := ⟨rfl, rfl, rfl, by decide +kernel, rfl, by decide +kernel, by decide +kernel⟩
theorem ok_most_borrowed (T : Tx w K mg) : OkD P w K mg base ("most_borrowed", none) 3 ["limit", "other"] (spBorrow K) := by
  refine (T.fd_most_borrowed).ok sc_most_borrowed (fun vs H Q E h => ?_) (fun cdv A outer s H vs Q E hr h => ?_)
  · obtain ⟨a, b, nm, no, gs, go, m, mo, sh, so, rfl, _⟩ := h
    rfl
  · obtain ⟨a, b, nm, no, gs, go, m, mo, sh, so, rfl, hL, hO, wl, wo, k⟩ := h
    have ls : (groupsNamed (⟨nm, gs, .pool m sh⟩ : Lim)).length ≤ 8 := groups_len wl
    have lo : so.length ≤ 8 := (wf_n wo).2.2.2.2.2.2
    refine ⟨_, (PSs.nox (pss_cons (ps_set (i := 2) sc_most_borrowed.nd rfl (Or.inl rfl) (pe_tup (pa_cons (pe_lst pa_nil) (pa_cons pe_int pa_nil))))
    (pss_cons (ps_for PassesOwn.never rfl (pi_list (pe_call ((ok_all_choices T).mono (by decide)) hr (by rfl) T.g_all_choices T.fd_all_choices.kp T.bd_all_choices .nil pass0 (pa_cons (pe_call ((ok_groups_named T).mono (by decide)) hr (by rfl) T.g_groups_named T.fd_groups_named.kp T.bd_groups_named .nil pass0 (pa_cons (pv 0) pa_nil)) pa_nil))) (pg_name (i := 3) sc_most_borrowed.nd rfl (Or.inl rfl))
    (pss_cons (ps_set (i := 4) sc_most_borrowed.nd rfl (Or.inl rfl) (pe_call ((ok_filled T).mono (by decide)) hr (by rfl) T.g_filled T.fd_filled.kp T.bd_filled .nil pass0 (pa_cons (pv 1) (pa_cons (pv 3) pa_nil))))
    (pss_cons (ps_set (i := 5) sc_most_borrowed.nd rfl (Or.inl rfl) (pe_callB (r := rSum K) (cr_sum rfl) (by rfl) T.f_sum (by decide +kernel) (pa_cons (pe_lc (own := [("name", 6), ("used", 7)]) rfl sc_most_borrowed.nd (pi_list (pv 4)) (blkOk_by (own := [("name", 6), ("used", 7)]) (N := sc_most_borrowed_N) (sc := defScope s_most_borrowed) (by decide +kernel)) (fun _ _ _ _ _ => (show PG _ _ (gTup K 2 _) from pg_tup rfl (pgs_cons (pg_name (i := 6) sc_most_borrowed.nd rfl (Or.inl rfl)) (pgs_cons (pg_name (i := 7) sc_most_borrowed.nd rfl (Or.inl rfl)) pgs_nil)))) (fun _ _ _ _ _ => pts_nil) (fun _ _ _ _ _ => (pe_callB (cr_maxJ rfl) (by rfl) T.f_max (by decide +kernel) (pa_cons pe_int (pa_cons (pe_op op_sub (pv 7) (pe_ix (r := rIxT K) ix_tup (pe_call ((ok_share_for T).mono (by decide)) hr (by rfl) T.g_share_for T.fd_share_for.kp T.bd_share_for .nil pass0 (pa_cons (pv 0) (pa_cons (pv 6) pa_nil))) pe_int (fun _ _ => rfl))) pa_nil))))) pa_nil)))
    (pss_one (ps_if (pt_cmpR op_gt (pv 5) (pe_ix (r := rIxT K) ix_tup (pv 2) pe_int (fun _ _ => rfl)) (nomark _)) (pss_one (ps_set (i := 2) sc_most_borrowed.nd rfl (Or.inl rfl) (pe_tup (pa_cons (pv 4) (pa_cons (pv 5) pa_nil))))) pss_nil)))))
    (pss_one (ps_ret (pv 2)))))), ?_⟩
    walk_at "go"
    refine r_newL (fun p0 H1 n1 e1 hp0 => ?_)
    walk_at "go"
    refine r_newT (fun p1 H2 n2 e2 hp1 => ?_)
    walk_at "go"
    refine r_foL ?_
    walk_at "go"
    refine ⟨a, _, rfl, (e1.tr e2).lim hL, wl, fun p2 H3 n3 e3 hp2 => ?_⟩
    walk_at "go"
    refine ⟨p2, groupsNamed ⟨nm, gs, .pool m sh⟩, rfl, .inl (.inl hp2), ls, fun p3 H4 n4 e4 hc => ?_⟩
    obtain ⟨cs, c1, c2, c3⟩ := hc
    have e04 := ((e1.tr e2).tr e3).tr e4
    refine fo_L (L := cs) (ev := fun x => .ref x.1) (fun i σ' H' => Ex H4 H' ∧ ∃ (q u : Addr) (n : Int) (z3 z4 z5 z6 z7 : Option V), σ' = [some (.ref a), some (.ref b), some (.ref q), z3, z4, z5, z6, z7] ∧ SqT K H' q [.ref u, .int n] ∧
      ((cs.map (·.2)).drop i).foldl (fun best ch => if best < borrowsOf sh (filled mo so ch) then borrowsOf sh (filled mo so ch) else best) n = mostBorrowed sh mo so) (.inl (.inl c2)) (fun Q' q => q)
      ⟨Ex.rf, p1, p0, 0, none, none, none, none, none, rfl, (e3.tr e4).t (.inl (.inl hp1)), by rw [c1] <;> rfl⟩ (fun i σ' H' q => .inl (.inl (q.1 _ _ c2))) ?_ ?_
    · rintro i x σ' H' hi ⟨e, q, u, n, z3, z4, z5, z6, z7, rfl, hq, hf⟩
      have hx := List.mem_of_getElem? hi
      have hlt := (List.getElem?_eq_some_iff.mp hi).1
      have hd : (cs.map (·.2)).drop i = x.2 :: (cs.map (·.2)).drop (i + 1) := by
        rw [List.drop_eq_getElem_cons (by rw [List.length_map]; exact hlt), List.getElem_map, (List.getElem?_eq_some_iff.mp hi).2]
      rw [hd] at hf
      have hxl : x.2.length ≤ 8 := by
        have h1 := choice_len (groupsNamed ⟨nm, gs, .pool m sh⟩) x.2 (by rw [← c1]; exact List.mem_map.mpr ⟨x, hx, rfl⟩)
        exact Nat.le_trans h1 ls
      walk_at "go"
      refine ⟨b, x.1, no, go, mo, so, x.2, rfl, (e04.tr e).lim hO, lo, .inl (.inl (e _ _ (c3 x hx))), by omega, fun p5 H5 n5 e5 hu => ?_⟩
      obtain ⟨us, u1, u2, u3⟩ := hu
      have ul : us.length ≤ 8 := by
        rw [← List.length_map (f := fun x : Addr × (Str × Int) => x.2), u1]
        unfold filled
        rw [filled_len]
        exact hxl
      walk_at "go"
      refine lc_L1 (L := us) (ev := fun x => .ref x.1) (f := fun y => .int (max 0 (y.2.2 - (shareFor sh y.2.1).1))) (by omega) (.inl (.inl u2)) (fun Q' q => ?_) (fun y hy H6 e6 Kt Kf kt => ?_) (fun D H6 nD e6 hD => ?_)
      · walk_at "go"
        exact q
      · have hs := e6.t (u3 y hy)
        walk_at "go"
        refine ⟨a, nm, gs, m, sh, y.2.1, rfl, ((e04.tr e).tr (e5.tr e6)).lim hL, fun p7 H7 e7 hp7 => ?_⟩
        walk_at "go"
        exact kt _ e7
      · have hb : us.map (fun y => V.int (max 0 (y.2.2 - (shareFor sh y.2.1).1))) = ((filled mo so x.2).map fun u => max 0 (u.2 - (shareFor sh u.1).1)).map V.int := by
          rw [← u1, List.map_map, List.map_map]
          rfl
        rw [hb] at hD
        walk_at "go"
        refine r_sum (.inl (.inl hD)) ?_
        have hq6 := (e5.tr e6).t hq
        walk_at "go"
        refine r_d2 (fun lt => ?_) (fun lt => ?_)
        · walk_at "go"
          refine r_newT (fun p8 H8 n8 e8 hp8 => ?_)
          walk_at "go"
          refine ⟨e.tr ((e5.tr e6).tr e8), p8, p5, borrowsOf sh (filled mo so x.2), _, _, _, _, _, rfl, .inl (.inl hp8), ?_⟩
          have hf : ((cs.map (·.2)).drop (i + 1)).foldl _ (if n < borrowsOf sh (filled mo so x.2) then borrowsOf sh (filled mo so x.2) else n) = mostBorrowed sh mo so := hf
          rw [show (if n < borrowsOf sh (filled mo so x.2) then borrowsOf sh (filled mo so x.2) else n) = borrowsOf sh (filled mo so x.2) from if_pos lt] at hf
          exact hf
        · walk_at "go"
          refine ⟨e.tr (e5.tr e6), q, u, n, _, _, _, _, _, rfl, hq6, ?_⟩
          have hf : ((cs.map (·.2)).drop (i + 1)).foldl _ (if n < borrowsOf sh (filled mo so x.2) then borrowsOf sh (filled mo so x.2) else n) = mostBorrowed sh mo so := hf
          rw [show (if n < borrowsOf sh (filled mo so x.2) then borrowsOf sh (filled mo so x.2) else n) = n from if_neg lt] at hf
          exact hf
    · rintro σ' H' ⟨e, q, u, n, z3, z4, z5, z6, z7, rfl, hq, hf⟩
      rw [← List.length_map (f := fun x : Addr × List Str => x.2), List.drop_length] at hf
      have hf : n = mostBorrowed sh mo so := hf
      rw [hf] at hq
      walk_at "go"
      exact k q u H' (e04.tr e) hq
abbrev sc_held_cost_N : List Str := ["other", "group"]
theorem sc_held_cost : FnScope ["other", "group"] ["other", "group"] (defScope s_held_cost) := ⟨rfl, rfl, rfl, by decide +kernel, rfl, by decide +kernel, by decide +kernel⟩
theorem ok_held_cost (T : Tx w K mg) : OkD P w K mg base ("held_cost", none) 3 ["other", "group"] (spHeldCost K) := by
  refine (T.fd_held_cost).ok sc_held_cost (fun vs H Q E h => ?_) (fun cdv A outer s H vs Q E hr h => ?_)
  · obtain ⟨a, O, g, rfl, _⟩ := h
    rfl
  · obtain ⟨a, ⟨nm, gs, r⟩, g, rfl, hL, wf, hf, k⟩ := h
    have hL0 := hL
    obtain ⟨ga, na, h1, h2, h3⟩ := hL
    refine ⟨_, (PSs.nox (pss_cons (ps_if (pt_cmpR op_eq (pe_ix (r := rIxT K) ix_tup (pv 0) pe_int (fun _ _ => rfl)) pe_str (nomark _)) (pss_one (ps_ret (pe_callB (cr_minJ rfl) (by rfl) T.f_min (by decide +kernel) (pa_cons (pe_glob (v := .int 1000) rfl T.i_MOST_COST ⟨_, rfl⟩) (pa_cons (pe_call ((ok_most_used T).mono (by decide)) hr (by rfl) T.g_most_used T.fd_most_used.kp T.bd_most_used .nil pass0 (pa_cons (pv 0) (pa_cons (pv 1) pa_nil))) pa_nil))))) pss_nil)
    (pss_one (ps_ret (pe_callB (cr_minJ rfl) (by rfl) T.f_min (by decide +kernel) (pa_cons (pe_glob (v := .int 1000) rfl T.i_MOST_COST ⟨_, rfl⟩) (pa_cons (pe_ix (r := rIxT K) ix_tup (pe_ix (r := rIxT K) ix_tup (pv 0) pe_int (fun _ _ => rfl)) pe_int (fun _ _ => rfl)) pa_nil))))))), ?_⟩
    cases r with
    | pool m sh =>
      have h1 : SqT K H a [.str nm, .str "pool", .ref ga, .ref na] := h1
      walk_at "go"
      refine ⟨a, nm, gs, m, sh, g, rfl, hL0, (wf_n wf).2.2.2.2.2.2, fun H1 e1 => ?_⟩
      walk_at "go"
      exact k _ e1
    | held m =>
      have h1 : SqT K H a [.str nm, .str "held", .ref ga, .ref na] := h1
      have h3 : SqT K H na [.int m] := h3
      walk_at "go"
      exact k _ Ex.rf
    | window m l => cases hf
    | span m l => cases hf
    | bucket m l => cases hf
    | gap t => cases hf
abbrev sc_asked_group_N : List Str := ["limit", "other", "best", "name"]
theorem sc_asked_group : FnScope ["limit", "other", "best", "name"] ["limit", "other"] (defScope s_asked_group) := ⟨rfl, rfl, rfl, by decide +kernel, rfl, by decide +kernel, by decide +kernel⟩
theorem ok_asked_group (T : Tx w K mg) : OkD P w K mg base ("asked_group", none) 4 ["limit", "other"] (spAsked K) := by
  refine (T.fd_asked_group).ok sc_asked_group (fun vs H Q E h => ?_) (fun cdv A outer s H vs Q E hr h => ?_)
  · obtain ⟨a, b, L, O, rfl, _⟩ := h
    rfl
  · obtain ⟨a, b, L, O, rfl, hL, hO, wl, wo, hfo, k⟩ := h
    have gl := groups_len wl
    refine ⟨_, (PSs.nox (pss_cons (ps_set (i := 2) sc_asked_group.nd rfl (Or.inl rfl) (pe_tup (pa_cons pe_str (pa_cons pe_int pa_nil))))
    (pss_cons (ps_for PassesOwn.never rfl (pi_list (pe_orJ (pe_call ((ok_groups_named T).mono (by decide)) hr (by rfl) T.g_groups_named T.fd_groups_named.kp T.bd_groups_named .nil pass0 (pa_cons (pv 0) pa_nil)) (pe_one (pe_lst (pa_cons pe_str pa_nil))))) (pg_name (i := 3) sc_asked_group.nd rfl (Or.inl rfl))
    (pss_one (ps_if (pt_cmpR op_gt (pe_call ((ok_held_cost T).mono (by decide)) hr (by rfl) T.g_held_cost T.fd_held_cost.kp T.bd_held_cost .nil pass0 (pa_cons (pv 1) (pa_cons (pv 3) pa_nil))) (pe_ix (r := rIxT K) ix_tup (pv 2) pe_int (fun _ _ => rfl)) (nomark _)) (pss_one (ps_set (i := 2) sc_asked_group.nd rfl (Or.inl rfl) (pe_tup (pa_cons (pv 3) (pa_cons (pe_call ((ok_held_cost T).mono (by decide)) hr (by rfl) T.g_held_cost T.fd_held_cost.kp T.bd_held_cost .nil pass0 (pa_cons (pv 1) (pa_cons (pv 3) pa_nil))) pa_nil))))) pss_nil)))
    (pss_one (ps_ret (pv 2)))))), ?_⟩
    walk_at "go"
    refine r_newT (fun p0 H1 n1 e1 hp0 => ?_)
    walk_at "go"
    have loop : ∀ (p : Addr) (names : List Str) (H2 : Hp), Ex H1 H2 → H2 p = some (.lst (names.map V.str)) → names = askedNames L →
        tFor (iList K (tC (.ref p))) (gName 3) (tIfS (tTest (tOp (rI0 fun i j => .bl (decide (j < i))) (tCall (spHeldCost K) [] E0 (tCons (tVar 1) (tCons (tVar 3) tNil))) (tOp (rIxT K) (tVar 2) (tC (.int 1))))) (tAsg (tTup (tCons (tVar 3) (tCons (tCall (spHeldCost K) [] E0 (tCons (tVar 1) (tCons (tVar 3) tNil))) tNil))) (gName 2)) tNext)
          { nx := tRet (tVar 2) { nx := fun _ H' => Q .non H', rt := Q }, rt := Q } [some (.ref a), some (.ref b), some (.ref p0), none] H2 := by
      intro p names H2 e2 hp hn
      refine fo_L (L := names) (ev := V.str) (fun i σ' H' => Ex H2 H' ∧ ∃ (q : Addr) (x : Str) (n : Int) (z3 : Option V), σ' = [some (.ref a), some (.ref b), some (.ref q), z3] ∧ SqT K H' q [.str x, .int n] ∧ (names.drop i).foldl (fun best g => if best < heldCost O.rule g then heldCost O.rule g else best) n = askedCost L O.rule) (.inl (.inl hp)) (fun Q' q => q)
        ⟨Ex.rf, p0, "a", 0, none, rfl, e2.t (.inl (.inl hp0)), by rw [hn] <;> rfl⟩ (fun i σ' H' q => .inl (.inl (q.1 _ _ hp))) ?_ ?_
      · rintro i y σ' H' hi ⟨e, q, x, n, z3, rfl, hq, hf⟩
        have hlt := (List.getElem?_eq_some_iff.mp hi).1
        have hd : names.drop i = y :: names.drop (i + 1) := by
          rw [List.drop_eq_getElem_cons hlt, (List.getElem?_eq_some_iff.mp hi).2]
        rw [hd] at hf
        have hf : (names.drop (i + 1)).foldl (fun best g => if best < heldCost O.rule g then heldCost O.rule g else best) (if n < heldCost O.rule y then heldCost O.rule y else n) = askedCost L O.rule := hf
        walk_at "go"
        refine ⟨b, O, y, rfl, ((e1.tr e2).tr e).lim hO, wo, hfo, fun H3 e3 => ?_⟩
        have hq3 := e3.t hq
        walk_at "go"
        refine r_d2 (fun lt => ?_) (fun lt => ?_)
        · rw [if_pos lt] at hf
          walk_at "go"
          refine ⟨b, O, y, rfl, (((e1.tr e2).tr e).tr e3).lim hO, wo, hfo, fun H4 e4 => ?_⟩
          walk_at "go"
          refine r_newT (fun p5 H5 n5 e5 hp5 => ?_)
          walk_at "go"
          exact ⟨e.tr ((e3.tr e4).tr e5), p5, y, _, _, rfl, .inl (.inl hp5), hf⟩
        · rw [if_neg lt] at hf
          walk_at "go"
          exact ⟨e.tr e3, q, x, n, _, rfl, hq3, hf⟩
      · rintro σ' H' ⟨e, q, x, n, z3, rfl, hq, hf⟩
        rw [List.drop_length] at hf
        have hf : n = askedCost L O.rule := hf
        rw [hf] at hq
        walk_at "go"
        exact k q x H' ((e1.tr e2).tr e) hq
    refine r_foL ?_
    walk_at "go"
    refine ⟨a, L, rfl, e1.lim hL, wl, fun p H2 n2 e2 hp => ?_⟩
    refine r_truW (.inl (.inl hp)) ?_
    refine r_b2 (fun z => ?_) (fun z => ?_)
    · refine r_kq (loop p (groupsNamed L) H2 e2 hp ?_)
      unfold askedNames
      cases q : (groupsNamed L).isEmpty with
      | true =>
        rw [List.isEmpty_iff.mp q] at z
        cases z
      | false => rfl
    · walk_at "go"
      refine r_newL (fun p3 H3 n3 e3 hp3 => ?_)
      refine loop p3 ["a"] H3 (e2.tr e3) hp3 ?_
      unfold askedNames
      cases q : (groupsNamed L).isEmpty with
      | true => rfl
      | false =>
        rw [List.isEmpty_map, q] at z
        cases z
end
end Lw
end
section
set_option maxRecDepth 100000
set_option maxHeartbeats 4000000
namespace Lw
open PySem PySem.Spec PyProof.Rows L2
local macro_rules | `(tactic| walk_at "hp") => `(tactic| first | assumption | exact upd_same | exact (by assumption : Ex _ _) _ _ (by assumption))
local macro_rules | `(tactic| walk_at "lk") => `(tactic| fail "no look-up")
local macro_rules | `(tactic| walk_at "tk") => `(tactic| first | assumption | exact Ex.t (by assumption) (by assumption) | exact Ex.l (by assumption) (by assumption) | exact .inl (.inl (by assumption)))
local macro_rules | `(tactic| walk_at "st") => `(tactic| first
  | with_reducible refine r_seq ?_ | with_reducible refine r_asg ?_ | with_reducible refine r_name ?_
  | ((with_reducible refine' r_var ?k1 ?_); (case k1 => exact rfl))
  | with_reducible refine r_c ?_ | with_reducible refine r_op ?_ | with_reducible refine r_un ?_ | with_reducible refine r_cb ?_ | with_reducible refine r_nil ?_ | with_reducible refine r_cons ?_
  | with_reducible refine r_call ?_ | with_reducible refine r_ret ?_ | with_reducible refine r_drop ?_ | with_reducible refine r_ifs ?_ | with_reducible refine r_ife ?_ | with_reducible refine r_next ?_
  | with_reducible refine r_test ?_ | with_reducible refine r_tB ?_ | with_reducible refine r_bl ?_ | with_reducible refine r_blx ?_ | with_reducible refine r_tnot ?_ | with_reducible refine r_tand ?_ | with_reducible refine r_tor ?_
  | with_reducible refine r_not ?_ | with_reducible refine r_and ?_ | with_reducible refine r_or ?_ | with_reducible refine r_I0 ?_ | with_reducible refine r_U ?_
  | with_reducible refine r_eqS ?_ | with_reducible refine r_eqI ?_ | with_reducible refine r_neS ?_ | with_reducible refine r_neI ?_ | with_reducible refine r_chain ?_
  | ((with_reducible refine' r_gtup ?k1 ?k2 ?_); (case k1 => walk_at "tk"); (case k2 => exact rfl))
  | with_reducible refine r_gcons ?_ | with_reducible refine r_gnil ?_
  | ((with_reducible refine' r_ixT ?k1 ?k2 ?_); (case k1 => walk_at "tk"); (case k2 => exact rfl))
  | ((with_reducible refine' r_ixL ?k1 ?k2 ?_); (case k1 => walk_at "tk"); (case k2 => exact rfl))
  | with_reducible refine r_tup ?_ | with_reducible refine r_lst ?_ | with_reducible refine iteT ?_ | with_reducible refine iteF ?_
  | ((with_reducible refine' r_wipe ?k1 ?_); (case k1 => exact rfl)) | with_reducible refine r_tyes ?_
  | ((with_reducible refine' r_lenT ?k1 ?_); (case k1 => walk_at "tk")) | ((with_reducible refine' r_lenL ?k1 ?_); (case k1 => walk_at "tk"))
  | with_reducible refine r_fld ?_ | with_reducible refine r_sfld ?_ | with_reducible refine r_gfld ?_ | with_reducible refine r_meth ?_
  | ((with_reducible refine' r_fld1 ?k1 ?k2 ?k3 ?k4 ?_); (case k1 => walk_at "hp"); (case k2 => assumption); (case k3 => assumption); (case k4 => walk_at "lk"))
  | ((with_reducible refine' r_sfld1 ?k1 ?k2 ?k3 ?k4 ?_); (case k1 => walk_at "hp"); (case k2 => assumption); (case k3 => assumption); (case k4 => exact Nat.lt_of_le_of_lt (Nat.le_of_ble_eq_true rfl) (by decide : 10 < 1000)))
  | ((with_reducible refine' r_gfld1 ?k1 ?k2 ?k3 ?k4 ?_); (case k1 => walk_at "hp"); (case k2 => assumption); (case k3 => assumption); (case k4 => exact Nat.lt_of_le_of_lt (Nat.le_of_ble_eq_true rfl) (by decide : 10 < 1000)))
  | with_reducible refine r_ks ?_ | with_reducible refine r_kq ?_
  | ((with_reducible refine' r_meth1 ?k1 ?k2 ?_); (case k1 => walk_at "hp"); (case k2 => kernel_rfl))
  | with_reducible refine r_kb ?_ | with_reducible refine r_tru ?_ | with_reducible refine r_bm0 ?_ | with_reducible refine r_bm ?_
  | ((with_reducible refine' r_tyL ?k1 ?_); (case k1 => walk_at "hp"))
  | with_reducible refine r_sdput ?_ | with_reducible refine r_dget ?_ | with_reducible refine r_din ?_ | with_reducible refine r_dnin ?_ | with_reducible refine r_dpop ?_
  | ((with_reducible refine' r_dpop0 ?k1 ?_); (case k1 => walk_at "hp"))
  | ((with_reducible refine' r_strY ?k1 ?_); (case k1 => decide +kernel)) | ((with_reducible refine' r_strN ?k1 ?_); (case k1 => decide +kernel))
  | ((with_reducible refine' r_nstrY ?k1 ?_); (case k1 => decide +kernel)) | ((with_reducible refine' r_nstrN ?k1 ?_); (case k1 => decide +kernel))
  | with_reducible refine r_gcd ?_ | with_reducible refine r_par ?_ | with_reducible refine r_par1 ?_
  | with_reducible refine r_make ?_ | with_reducible refine r_orJ ?_
  | with_reducible refine r_isN ?_ | with_reducible refine r_notN ?_
  | with_reducible refine r_abs ?_ | with_reducible refine r_int ?_ | with_reducible refine r_min ?_ | with_reducible refine r_max ?_)
local macro_rules | `(tactic| walk_at "go") => `(tactic| repeat walk_at "st")
def spBeyond (K : PySem.W.Frag) : Sp := fun vs H Q _ => ∃ (a b : Addr) (L O : Lim), vs = [.ref a, .ref b] ∧ LimAt K H a L ∧ LimAt K H b O ∧ WfL L ∧ WfL O ∧ isFlow L.rule = false ∧ isFlow O.rule = false ∧ ∀ v H', Ex H H' → decide (v = .non) = withinB L O → Q v H'
def spBeside (K : PySem.W.Frag) : Sp := fun vs H Q _ => ∃ (a b : Addr) (L O : Lim), vs = [.ref a, .ref b] ∧ LimAt K H a L ∧ LimAt K H b O ∧ WfL L ∧ WfL O ∧ ∀ H', Ex H H' → Q (.bl (idleB L O)) H'
theorem mem_take_succ {α : Type} {L : List α} {i : Nat} {x y : α} (hi : L[i]? = some x) (h : y ∈ L.take (i + 1)) : y ∈ L.take i ∨ y = x := by
  rw [List.take_add_one, hi] at h
  rcases List.mem_append.mp h with z | z
  · exact .inl z
  · exact .inr (List.mem_singleton.mp z)
theorem atI_zero {y : V} {ys : List V} : atI (y :: ys) 0 = some y := by
  have h : ixN (y :: ys).length 0 = some 0 := by
    unfold ixN
    rw [if_pos (Int.le_refl 0), if_pos (by rw [List.length_cons]; omega)] <;> rfl
  unfold atI
  rw [h] <;> rfl
theorem bl_cast {Q : VK} {p r : Bool} {H : Hp} (h : Q (.bl p) H) (q : p = r) : Q (.bl r) H := by
  rw [← q]
  exact h
theorem flow_in (O : Lim) : inV (.str O.word) [.str "window", .str "span", .str "bucket", .str "gap"] = isFlow O.rule := by
  obtain ⟨n, g, r⟩ := O
  cases r <;> rfl
section
variable {P : Program} {w : World} {K : PySem.W.Frag} {mg : Str → Option Value} {base : Heap}
abbrev sc_uses_beyond_N : List Str := ["limit", "other", "names", "most", "name", "uses", "borrowed", "_", "used"]
theorem sc_uses_beyond : FnScope ["limit", "other", "names", "most", "name", "uses", "borrowed", "_", "used"] ["limit", "other"] (defScope s_uses_beyond) := ⟨rfl, rfl, rfl, by decide +kernel, rfl, by decide +kernel, by decide +kernel⟩
theorem ok_uses_beyond (T : Tx w K mg) : OkD P w K mg base ("uses_beyond", none) 4 ["limit", "other"] (spBeyond K) := by
  refine (T.fd_uses_beyond).ok sc_uses_beyond (fun vs H Q E h => ?_) (fun cdv A outer s H vs Q E hr h => ?_)
  · obtain ⟨a, b, L, O, rfl, _⟩ := h
    rfl
  · obtain ⟨a, b, ⟨nl, gl, rl⟩, ⟨no, go, ro⟩, rfl, hL, hO, wl, wo, fl, fo, k⟩ := h
    have gle := groups_len wl
    have hL0 := hL
    have hO0 := hO
    obtain ⟨ga, na, h1, h2, h3⟩ := hL
    obtain ⟨gb, nb, h4, h5, h6⟩ := hO
    refine ⟨_, (PSs.nox (pss_cons (ps_set (i := 2) sc_uses_beyond.nd rfl (Or.inl rfl) (pe_call ((ok_groups_named T).mono (by decide)) hr (by rfl) T.g_groups_named T.fd_groups_named.kp T.bd_groups_named .nil pass0 (pa_cons (pv 0) pa_nil)))
    (pss_cons (ps_if (pt_cmpR op_eq (pe_ix (r := rIxT K) ix_tup (pv 1) pe_int (fun _ _ => rfl)) pe_str (nomark _)) (pss_cons (ps_set (i := 3) sc_uses_beyond.nd rfl (Or.inl rfl) (pe_ix (r := rIxT K) ix_tup (pe_ix (r := rIxT K) ix_tup (pv 1) pe_int (fun _ _ => rfl)) pe_int (fun _ _ => rfl)))
    (pss_cons (ps_if (pt_cmpR op_eq (pe_ix (r := rIxT K) ix_tup (pv 0) pe_int (fun _ _ => rfl)) pe_str (nomark _)) (pss_one (ps_ret (pe_ifExp (pt_cmpR op_gt (pv 3) (pe_ix (r := rIxT K) ix_tup (pe_ix (r := rIxT K) ix_tup (pv 0) pe_int (fun _ _ => rfl)) pe_int (fun _ _ => rfl)) (nomark _)) (pe_lst (pa_cons (pe_tup (pa_cons (pe_ix (r := rIxL K) ix_list (pe_op op_cat (pv 2) (pe_lst (pa_cons pe_str pa_nil))) pe_int (fun _ _ => rfl)) (pa_cons (pv 3) pa_nil))) pa_nil)) pe_non))) pss_nil)
    (pss_cons (ps_for PassesOwn.never rfl (pi_list (pv 2)) (pg_name (i := 4) sc_uses_beyond.nd rfl (Or.inl rfl))
    (pss_one (ps_if (pt_cmpR op_gt (pv 3) (pe_call ((ok_most_used T).mono (by decide)) hr (by rfl) T.g_most_used T.fd_most_used.kp T.bd_most_used .nil pass0 (pa_cons (pv 0) (pa_cons (pv 4) pa_nil))) (nomark _)) (pss_one (ps_ret (pe_lst (pa_cons (pe_tup (pa_cons (pv 4) (pa_cons (pv 3) pa_nil))) pa_nil)))) pss_nil)))
    (pss_one (ps_ret pe_non))))) pss_nil)
    (pss_cons (ps_if (pt_cmpR op_eq (pe_ix (r := rIxT K) ix_tup (pv 0) pe_int (fun _ _ => rfl)) pe_str (nomark _)) (pss_cons (ps_set (i := 5) sc_uses_beyond.nd rfl (Or.inl rfl) (pe_call ((ok_filled T).mono (by decide)) hr (by rfl) T.g_filled T.fd_filled.kp T.bd_filled .nil pass0 (pa_cons (pv 1) (pa_cons (pv 2) pa_nil))))
    (pss_one (ps_ret (pe_ifExp (pt_cmpR op_gt (pe_callB (r := rSum K) (cr_sum rfl) (by rfl) T.f_sum (by decide +kernel) (pa_cons (pe_lc (own := [("_", 7), ("used", 8)]) rfl sc_uses_beyond.nd (pi_list (pv 5)) (blkOk_by (own := [("_", 7), ("used", 8)]) (N := sc_uses_beyond_N) (sc := defScope s_uses_beyond) (by decide +kernel)) (fun _ _ _ _ _ => (show PG _ _ (gTup K 2 _) from pg_tup rfl (pgs_cons (pg_name (i := 7) sc_uses_beyond.nd rfl (Or.inl rfl)) (pgs_cons (pg_name (i := 8) sc_uses_beyond.nd rfl (Or.inl rfl)) pgs_nil)))) (fun _ _ _ _ _ => pts_nil) (fun _ _ _ _ _ => (pv 8))) pa_nil)) (pe_ix (r := rIxT K) ix_tup (pe_ix (r := rIxT K) ix_tup (pv 0) pe_int (fun _ _ => rfl)) pe_int (fun _ _ => rfl)) (nomark _)) (pv 5) pe_non)))) pss_nil)
    (pss_cons (ps_for PassesOwn.never rfl (pi_list (pv 2)) (pg_name (i := 4) sc_uses_beyond.nd rfl (Or.inl rfl))
    (pss_one (ps_if (pt_cmpR op_gt (pe_call ((ok_most_used T).mono (by decide)) hr (by rfl) T.g_most_used T.fd_most_used.kp T.bd_most_used .nil pass0 (pa_cons (pv 1) (pa_cons (pv 4) pa_nil))) (pe_ix (r := rIxT K) ix_tup (pe_call ((ok_share_for T).mono (by decide)) hr (by rfl) T.g_share_for T.fd_share_for.kp T.bd_share_for .nil pass0 (pa_cons (pv 0) (pa_cons (pv 4) pa_nil))) pe_int (fun _ _ => rfl)) (nomark _)) (pss_one (ps_ret (pe_lst (pa_cons (pe_tup (pa_cons (pv 4) (pa_cons (pe_call ((ok_most_used T).mono (by decide)) hr (by rfl) T.g_most_used T.fd_most_used.kp T.bd_most_used .nil pass0 (pa_cons (pv 1) (pa_cons (pv 4) pa_nil))) pa_nil))) pa_nil)))) pss_nil)))
    (pss_cons (ps_asg (pe_call ((ok_most_borrowed T).mono (by decide)) hr (by rfl) T.g_most_borrowed T.fd_most_borrowed.kp T.bd_most_borrowed .nil pass0 (pa_cons (pv 0) (pa_cons (pv 1) pa_nil))) (pg_tup rfl (pgs_cons (pg_name (i := 5) sc_uses_beyond.nd rfl (Or.inl rfl)) (pgs_cons (pg_name (i := 6) sc_uses_beyond.nd rfl (Or.inl rfl)) pgs_nil))))
    (pss_one (ps_ret (pe_ifExp (pt_cmpR op_gt (pv 6) (pe_call ((ok_common_of T).mono (by decide)) hr (by rfl) T.g_common_of T.fd_common_of.kp T.bd_common_of .nil pass0 (pa_cons (pv 0) pa_nil)) (nomark _)) (pv 5) pe_non))))))))), ?_⟩
    cases ro with
    | window m l => cases fo
    | span m l => cases fo
    | bucket m l => cases fo
    | gap t => cases fo
    | held mo =>
      have h4 : SqT K H b [.str no, .str "held", .ref gb, .ref nb] := h4
      have h6 : SqT K H nb [.int mo] := h6
      cases rl with
      | window m l => cases fl
      | span m l => cases fl
      | bucket m l => cases fl
      | gap t => cases fl
      | held ml =>
        have h1 : SqT K H a [.str nl, .str "held", .ref ga, .ref na] := h1
        have h3 : SqT K H na [.int ml] := h3
        walk_at "go"
        refine ⟨a, _, rfl, hL0, wl, fun p1 H1 n1 e1 hp1 => ?_⟩
        have h1 := e1.t h1
        have h3 := e1.t h3
        have h4 := e1.t h4
        have h6 := e1.t h6
        walk_at "go"
        refine r_d2 (fun lt => ?_) (fun lt => ?_)
        · walk_at "go"
          refine r_newL (fun p2 H2 n2 e2 hp2 => ?_)
          refine r_cat (e2 _ _ hp1) hp2 (by rw [List.length_map]; exact Nat.le_trans (Nat.add_le_add_right gle _) (by decide)) (fun p3 H3 n3 e3 hp3 => ?_)
          walk_at "go"
          obtain ⟨v, hv⟩ : ∃ v, atI ((groupsNamed (⟨nl, gl, .held ml⟩ : Lim)).map V.str ++ [.str "a"]) 0 = some v := by
            cases groupsNamed (⟨nl, gl, .held ml⟩ : Lim) with
            | nil => exact ⟨_, rfl⟩
            | cons x r => exact ⟨.str x, atI_zero⟩
          refine r_ixL (.inl (.inl hp3)) hv ?_
          walk_at "go"
          refine r_newT (fun p4 H4 n4 e4 hp4 => ?_)
          walk_at "go"
          refine r_newL (fun p5 H5 n5 e5 hp5 => ?_)
          refine k _ _ (e1.tr ((e2.tr e3).tr (e4.tr e5))) ?_
          show false = decide (mo ≤ ml)
          exact (decide_eq_false (by omega)).symm
        · walk_at "go"
          refine k _ _ e1 ?_
          show true = decide (mo ≤ ml)
          exact (decide_eq_true (by omega)).symm
      | pool ml sh =>
        have h1 : SqT K H a [.str nl, .str "pool", .ref ga, .ref na] := h1
        walk_at "go"
        refine ⟨a, _, rfl, hL0, wl, fun p1 H1 n1 e1 hp1 => ?_⟩
        have h1 := e1.t h1
        have h4 := e1.t h4
        have h6 := e1.t h6
        walk_at "go"
        have ls : sh.length ≤ 8 := (wf_n wl).2.2.2.2.2.2
        refine fo_L (L := groupsNamed ⟨nl, gl, .pool ml sh⟩) (ev := V.str) (fun i σ' H' => Ex H1 H' ∧ (∀ x ∈ (groupsNamed ⟨nl, gl, .pool ml sh⟩).take i, mo ≤ mostUsed ml sh x) ∧ ∃ z1 z2 z3 z4 z5, σ' = [some (.ref a), some (.ref b), some (.ref p1), some (.int mo), z1, z2, z3, z4, z5]) (.inl (.inl hp1)) (fun Q' q => ?_)
          ⟨Ex.rf, (fun x hx => by simp at hx), _, _, _, _, _, rfl⟩ (fun i σ' H' q => .inl (.inl (q.1 _ _ hp1))) ?_ ?_
        · walk_at "go"
          exact q
        · rintro i x σ' H' hi ⟨e, hh, z1, z2, z3, z4, z5, rfl⟩
          walk_at "go"
          refine ⟨a, nl, gl, ml, sh, x, rfl, (e1.tr e).lim hL0, ls, fun H2 e2 => ?_⟩
          walk_at "go"
          refine r_d2 (fun lt => ?_) (fun lt => ?_)
          · walk_at "go"
            refine r_newT (fun p4 H4 n4 e4 hp4 => ?_)
            walk_at "go"
            refine r_newL (fun p5 H5 n5 e5 hp5 => ?_)
            refine k _ _ ((e1.tr e).tr (e2.tr (e4.tr e5))) ?_
            show false = sh.all fun s => decide (mo ≤ mostUsed ml sh s.1)
            obtain ⟨s, hs, rfl⟩ := List.mem_map.mp (List.mem_of_getElem? hi)
            refine (List.all_eq_false.mpr ⟨s, hs, ?_⟩).symm
            rw [decide_eq_true_iff]
            omega
          · walk_at "go"
            refine ⟨e.tr e2, fun y hy => ?_, _, _, _, _, _, rfl⟩
            rcases mem_take_succ hi hy with z | rfl
            · exact hh y z
            · omega
        · rintro σ' H' ⟨e, hh, z1, z2, z3, z4, z5, rfl⟩
          rw [List.take_length] at hh
          walk_at "go"
          refine k _ _ (e1.tr e) ?_
          show true = sh.all fun s => decide (mo ≤ mostUsed ml sh s.1)
          refine (List.all_eq_true.mpr fun s hs => ?_).symm
          rw [decide_eq_true_iff]
          exact hh _ (List.mem_map.mpr ⟨s, hs, rfl⟩)
    | pool mo so =>
      have h4 : SqT K H b [.str no, .str "pool", .ref gb, .ref nb] := h4
      have lo : so.length ≤ 8 := (wf_n wo).2.2.2.2.2.2
      cases rl with
      | window m l => cases fl
      | span m l => cases fl
      | bucket m l => cases fl
      | gap t => cases fl
      | held ml =>
        have h1 : SqT K H a [.str nl, .str "held", .ref ga, .ref na] := h1
        have h3 : SqT K H na [.int ml] := h3
        walk_at "go"
        refine ⟨a, _, rfl, hL0, wl, fun p1 H1 n1 e1 hp1 => ?_⟩
        have h1 := e1.t h1
        have h3 := e1.t h3
        have h4 := e1.t h4
        walk_at "go"
        refine ⟨b, p1, no, go, mo, so, groupsNamed ⟨nl, gl, .held ml⟩, rfl, e1.lim hO0, lo, .inl (.inl hp1), by omega, fun p2 H2 n2 e2 hu => ?_⟩
        obtain ⟨us, u1, u2, u3⟩ := hu
        have ul : us.length ≤ 8 := by
          rw [← List.length_map (f := fun x : Addr × (Str × Int) => x.2), u1]
          unfold filled
          rw [filled_len]
          exact gle
        walk_at "go"
        refine lc_L1 (L := us) (ev := fun x => .ref x.1) (f := fun y => .int y.2.2) (by omega) (.inl (.inl u2)) (fun Q' q => ?_) (fun y hy H6 e6 Kt Kf kt => ?_) (fun D H6 nD e6 hD => ?_)
        · walk_at "go"
          exact q
        · have hs := e6.t (u3 y hy)
          walk_at "go"
          exact kt _ Ex.rf
        · have hb : us.map (fun y => V.int y.2.2) = ((filled mo so gl).map (·.2)).map V.int := by
            rw [show filled mo so gl = us.map (·.2) from u1.symm, List.map_map, List.map_map]
            rfl
          rw [hb] at hD
          have h1 := (e2.tr e6).t h1
          have h3 := (e2.tr e6).t h3
          walk_at "go"
          refine r_sum (.inl (.inl hD)) ?_
          walk_at "go"
          refine r_d2 (fun lt => ?_) (fun lt => ?_)
          · walk_at "go"
            refine k _ _ (e1.tr (e2.tr e6)) ?_
            show false = decide (sumUses (filled mo so gl) ≤ ml)
            refine (decide_eq_false ?_).symm
            unfold sumUses
            omega
          · walk_at "go"
            refine k _ _ (e1.tr (e2.tr e6)) ?_
            show true = decide (sumUses (filled mo so gl) ≤ ml)
            refine (decide_eq_true ?_).symm
            unfold sumUses
            omega
      | pool ml sh =>
        have h1 : SqT K H a [.str nl, .str "pool", .ref ga, .ref na] := h1
        walk_at "go"
        refine ⟨a, _, rfl, hL0, wl, fun p1 H1 n1 e1 hp1 => ?_⟩
        have h1 := e1.t h1
        have h4 := e1.t h4
        walk_at "go"
        have ls : sh.length ≤ 8 := (wf_n wl).2.2.2.2.2.2
        refine fo_L (L := groupsNamed ⟨nl, gl, .pool ml sh⟩) (ev := V.str) (fun i σ' H' => Ex H1 H' ∧ (∀ x ∈ (groupsNamed ⟨nl, gl, .pool ml sh⟩).take i, mostUsed mo so x ≤ (shareFor sh x).2) ∧ ∃ z1 z2 z3 z4 z5 z6, σ' = [some (.ref a), some (.ref b), some (.ref p1), z1, z2, z3, z4, z5, z6]) (.inl (.inl hp1)) (fun Q' q => ?_)
          ⟨Ex.rf, (fun x hx => by simp at hx), _, _, _, _, _, _, rfl⟩ (fun i σ' H' q => .inl (.inl (q.1 _ _ hp1))) ?_ ?_
        · walk_at "go"
          exact q
        · rintro i x σ' H' hi ⟨e, hh, z1, z2, z3, z4, z5, z6, rfl⟩
          walk_at "go"
          refine ⟨b, no, go, mo, so, x, rfl, (e1.tr e).lim hO0, lo, fun H2 e2 => ?_⟩
          walk_at "go"
          refine ⟨a, nl, gl, ml, sh, x, rfl, ((e1.tr e).tr e2).lim hL0, fun p3 H3 e3 hp3 => ?_⟩
          walk_at "go"
          refine r_d2 (fun lt => ?_) (fun lt => ?_)
          · walk_at "go"
            refine ⟨b, no, go, mo, so, x, rfl, (((e1.tr e).tr e2).tr e3).lim hO0, lo, fun H4 e4 => ?_⟩
            walk_at "go"
            refine r_newT (fun p5 H5 n5 e5 hp5 => ?_)
            walk_at "go"
            refine r_newL (fun p6 H6 n6 e6 hp6 => ?_)
            refine k _ _ ((e1.tr e).tr ((e2.tr e3).tr (e4.tr (e5.tr e6)))) ?_
            show false = ((sh.all fun s => decide (mostUsed mo so s.1 ≤ (shareFor sh s.1).2)) && decide (mostBorrowed sh mo so ≤ common ml sh))
            obtain ⟨s, hs, rfl⟩ := List.mem_map.mp (List.mem_of_getElem? hi)
            rw [List.all_eq_false.mpr ⟨s, hs, ?_⟩]
            · rfl
            rw [decide_eq_true_iff]
            omega
          · walk_at "go"
            refine ⟨e.tr (e2.tr e3), fun y hy => ?_, _, _, _, _, _, _, rfl⟩
            rcases mem_take_succ hi hy with z | rfl
            · exact hh y z
            · omega
        · rintro σ' H' ⟨e, hh, z1, z2, z3, z4, z5, z6, rfl⟩
          rw [List.take_length] at hh
          have hall : (sh.all fun s => decide (mostUsed mo so s.1 ≤ (shareFor sh s.1).2)) = true := by
            refine List.all_eq_true.mpr fun s hs => ?_
            rw [decide_eq_true_iff]
            exact hh _ (List.mem_map.mpr ⟨s, hs, rfl⟩)
          walk_at "go"
          refine ⟨a, b, nl, no, gl, go, ml, mo, sh, so, rfl, (e1.tr e).lim hL0, (e1.tr e).lim hO0, wl, wo, fun p u H2 e2 hp => ?_⟩
          walk_at "go"
          refine ⟨a, nl, gl, ml, sh, rfl, ((e1.tr e).tr e2).lim hL0, ls, fun H3 e3 => ?_⟩
          walk_at "go"
          refine r_d2 (fun lt => ?_) (fun lt => ?_)
          · walk_at "go"
            refine k _ _ ((e1.tr e).tr (e2.tr e3)) ?_
            show false = ((sh.all fun s => decide (mostUsed mo so s.1 ≤ (shareFor sh s.1).2)) && decide (mostBorrowed sh mo so ≤ common ml sh))
            rw [hall, decide_eq_false (by omega : ¬ mostBorrowed sh mo so ≤ common ml sh)]
            rfl
          · walk_at "go"
            refine k _ _ ((e1.tr e).tr (e2.tr e3)) ?_
            show true = ((sh.all fun s => decide (mostUsed mo so s.1 ≤ (shareFor sh s.1).2)) && decide (mostBorrowed sh mo so ≤ common ml sh))
            rw [hall, decide_eq_true (by omega : mostBorrowed sh mo so ≤ common ml sh)]
            rfl
abbrev sc_idle_beside_N : List Str := ["limit", "other"]
theorem sc_idle_beside : FnScope ["limit", "other"] ["limit", "other"] (defScope s_idle_beside) := ⟨rfl, rfl, rfl, by decide +kernel, rfl, by decide +kernel, by decide +kernel⟩
theorem ok_idle_beside (T : Tx w K mg) : OkD P w K mg base ("idle_beside", none) 7 ["limit", "other"] (spBeside K) := by
  refine (T.fd_idle_beside).ok sc_idle_beside (fun vs H Q E h => ?_) (fun cdv A outer s H vs Q E hr h => ?_)
  · obtain ⟨a, b, L, O, rfl, _⟩ := h
    rfl
  · obtain ⟨a, b, L, O, rfl, hL, hO, wl, wo, k⟩ := h
    have hL0 := hL
    have hO0 := hO
    obtain ⟨ga, na, h1, h2, h3⟩ := hL
    obtain ⟨gb, nb, h4, h5, h6⟩ := hO
    have hF := T.FLOWS H
    unfold idleB at k
    refine ⟨_, (PSs.nox (pss_cons (ps_if (pt_cmpR op_notN1 (pe_call ((ok_free_group T).mono (by decide)) hr (by rfl) T.g_free_group T.fd_free_group.kp T.bd_free_group .nil pass0 (pa_cons (pv 0) (pa_cons (pv 1) pa_nil))) pe_non (nomark _)) (pss_one (ps_ret pe_bl)) pss_nil)
    (pss_cons (ps_if (pt_cmpR (r := rIn K false) op_in_seq (pe_ix (r := rIxT K) ix_tup (pv 1) pe_int (fun _ _ => rfl)) (pe_glob (v := .ref (He.ga K "FLOWS")) rfl T.g_FLOWS rfl) (by rfl)) (pss_one (ps_ret (pe_call ((ok_is_idle_beside_flow T).mono (by decide)) hr (by rfl) T.g_is_idle_beside_flow T.fd_is_idle_beside_flow.kp T.bd_is_idle_beside_flow .nil pass0 (pa_cons (pv 0) (pa_cons (pv 1) pa_nil))))) pss_nil)
    (pss_cons (ps_if (pt_cmpR (r := rIn K false) op_in_seq (pe_ix (r := rIxT K) ix_tup (pv 0) pe_int (fun _ _ => rfl)) (pe_glob (v := .ref (He.ga K "FLOWS")) rfl T.g_FLOWS rfl) (by rfl)) (pss_one (ps_ret (pe_cmpR op_eq (pe_ix (r := rIxT K) ix_tup (pe_call ((ok_asked_group T).mono (by decide)) hr (by rfl) T.g_asked_group T.fd_asked_group.kp T.bd_asked_group .nil pass0 (pa_cons (pv 0) (pa_cons (pv 1) pa_nil))) pe_int (fun _ _ => rfl)) pe_int (nomark _)))) pss_nil)
    (pss_one (ps_ret (pe_cmpR op_isN1 (pe_call ((ok_uses_beyond T).mono (by decide)) hr (by rfl) T.g_uses_beyond T.fd_uses_beyond.kp T.bd_uses_beyond .nil pass0 (pa_cons (pv 0) (pa_cons (pv 1) pa_nil))) pe_non (nomark _)))))))), ?_⟩
    walk_at "go"
    refine ⟨a, b, L, O, rfl, hL0, hO0, wl, wo, fun H1 e1 => ?_⟩
    walk_at "go"
    cases q : freeG L O with
    | some x =>
      rw [q] at k
      refine r_nyes (fun z => nomatch z) ?_
      walk_at "go"
      exact k _ e1
    | none =>
      rw [q] at k
      have h1 := e1.t h1
      have h4 := e1.t h4
      refine r_nno rfl ?_
      walk_at "go"
      refine r_inT (T.FLOWS _) rfl rfl ?_
      rw [show (if false = true then !inV (.str O.word) [.str "window", .str "span", .str "bucket", .str "gap"] else inV (.str O.word) [.str "window", .str "span", .str "bucket", .str "gap"]) = isFlow O.rule from flow_in O]
      walk_at "go"
      cases fo : isFlow O.rule with
      | true =>
        rw [fo] at k
        walk_at "go"
        exact ⟨a, b, L, O, rfl, e1.lim hL0, e1.lim hO0, wl, wo, fo, fun H2 e2 => k _ (e1.tr e2)⟩
      | false =>
        rw [fo] at k
        walk_at "go"
        refine r_inT (T.FLOWS _) rfl rfl ?_
        rw [show (if false = true then !inV (.str L.word) [.str "window", .str "span", .str "bucket", .str "gap"] else inV (.str L.word) [.str "window", .str "span", .str "bucket", .str "gap"]) = isFlow L.rule from flow_in L]
        walk_at "go"
        cases fl : isFlow L.rule with
        | true =>
          rw [fl] at k
          walk_at "go"
          refine ⟨a, b, L, O, rfl, e1.lim hL0, e1.lim hO0, wl, wo, fo, fun p x H2 e2 hp => ?_⟩
          walk_at "go"
          have k2 := k _ (e1.tr e2)
          refine bl_cast k2 ?_
          exact decide_eq_decide.mpr ⟨fun z => congrArg V.int z, fun z => V.int.inj z⟩
        | false =>
          rw [fl] at k
          walk_at "go"
          refine ⟨a, b, L, O, rfl, e1.lim hL0, e1.lim hO0, wl, wo, fl, fo, fun v H2 e2 hv => ?_⟩
          walk_at "go"
          have k2 := k _ (e1.tr e2)
          rw [hv]
          exact k2
end
end Lw
end
section
set_option maxRecDepth 100000
set_option maxHeartbeats 4000000
namespace Lw
open PySem PySem.Spec PyProof.Rows L2 RZ
section
variable {X : Cx} {a b c d : Expr} {ta tb tc td : TE} {pos p p2 q : Pos}
/-! ### a <= b <= c <= d, where it holds -/
def tLe4 (ta tb tc td : TE) : TT := fun σ H R => ta σ H fun x H1 => tb σ H1 fun y H2 => ∃ i j : Int, x = .int i ∧ y = .int j ∧ i ≤ j ∧ tc σ H2 fun z H3 => ∃ k : Int, z = .int k ∧ j ≤ k ∧ td σ H3 fun w H4 => ∃ l : Int, w = .int l ∧ k ≤ l ∧ KB R true H4
theorem pt_le4 (ha : PE X a ta) (hb : PE X b tb) (hc : PE X c tc) (hd : PE X d td)
    (hm : lastMarks [.LtE, .LtE, .LtE] [b, c, d] = false := by with_unfolding_all rfl) : PT X (.Compare a [.LtE, .LtE, .LtE] [b, c, d] pos) (tLe4 ta tb tc td) := by
  refine ⟨fun pins s σ H Q I h => ?_⟩
  refine isTrue_chain (thn (ha.run pins s σ H _ I h) fun v s1 ⟨x, H1, I1, r1, q1⟩ => test_link (thn (hb.run pins s1 σ H1 _ I1 q1) fun u s2 ⟨y, H2, I2, r2, i, j, ex, ey, l1, q2⟩ =>
    thn (op_le pins s2 σ H2 x y v u (fun z H' => z = .bl true ∧ tc σ H' fun z H3 => ∃ k : Int, z = .int k ∧ j ≤ k ∧ td σ H3 fun w H4 => ∃ l : Int, w = .int l ∧ k ≤ l ∧ KB Q true H4) I2 r1 r2 ⟨i, j, ex, ey, congrArg V.bl (decide_eq_true l1), q2⟩) fun d s3 ⟨z, H3, I3, r3, ez, q3⟩ => ?_)) hm
  subst ez
  cases r3
  refine wpAny_truthy_bool (ite_tt (test_link (thn (hc.run pins s3 σ H3 _ I3 q3) fun v4 s4 ⟨x4, H4, I4, r4, k, e4, l4, q4⟩ =>
    thn (op_le pins s4 σ H4 y x4 u v4 (fun z H' => z = .bl true ∧ td σ H' fun w H4 => ∃ l : Int, w = .int l ∧ k ≤ l ∧ KB Q true H4) I4 r2 r4 ⟨j, k, ey, e4, congrArg V.bl (decide_eq_true l4), q4⟩) fun d5 s5 ⟨z5, H5, I5, r5, e5, q5⟩ => ?_)))
  subst e5
  cases r5
  refine wpAny_truthy_bool (ite_tt (test_last (thn (hd.run pins s5 σ H5 _ I5 q5) fun v6 s6 ⟨x6, H6, I6, r6, l, e6, l6, q6⟩ =>
    thn (op_le pins s6 σ H6 x4 x6 v4 v6 (fun z H' => z = .bl true ∧ KB Q true H') I6 r4 r6 ⟨k, l, e4, e6, congrArg V.bl (decide_eq_true l6), q6⟩) fun d7 s7 ⟨z7, H7, I7, r7, e7, q7⟩ => ?_)))
  subst e7
  cases r7
  exact wpAny_truthy_bool ⟨H7, I7, q7⟩
/-! ### a list or a tuple -/
def iEither (wa wb : TI) : TI := fun σ H R => wa σ H R ∨ wb σ H R
theorem pi_either {tg it : Expr} {wa wb : TI} (h1 : PI X tg it wa) (h2 : PI X tg it wb) : PI X tg it (iEither wa wb) :=
  ⟨fun pins s σ H R I h => h.elim (fun q => h1.run pins s σ H R I q) (fun q => h2.run pins s σ H R I q)⟩
/-- word not in a dict of the module -/
def rNotKd (K : PySem.W.Frag) (d : Addr) : R2 := fun x y H Q => ∃ (z : Str) (r : Option Value), x = .str z ∧ y = .ref d ∧ PySem.W.nsIn K d z = some r ∧ Q (.bl (!r.isSome)) H
theorem op_notKd {d : Addr} (h : ∃ es n, KDict X.K X.w d es n) : OpR X (compareOp .NotIn) (rNotKd X.K d) := by
  obtain ⟨es, n, D⟩ := h
  exact op_notIn_kd D
/-! ### texts -/
def rLenS : List V → Hp → VK → Prop := fun xs H Q => ∃ z, xs = [.str z] ∧ z.length ≤ sizeLine ∧ Q (.int z.length) H
theorem cr_lenS : CallR X (.builtin "len") rLenS := call_len_str
def rLtS : R2 := fun x y H Q => ∃ i j, x = .str i ∧ y = .str j ∧ Q (.bl (decide (i.cps.toList < j.cps.toList))) H
theorem op_ltS : OpR X (compareOp .Lt) rLtS := op_lt_str
end
section
variable {K : PySem.W.Frag} {H : Hp} {Q : VK} {σ : L2.St} {g : TG} {tt : TT} {te : TE} {tl : TE} {vs : List Nat}
theorem r_lenS {z : Str} (h : z.length ≤ 1000) (k : Q (.int z.length) H) : rLenS [.str z] H Q := ⟨z, rfl, Nat.le_of_lt (Evl.sz_lt (by omega)), k⟩
theorem r_ltS {i j : Str} (k : Q (.bl (decide (i.cps.toList < j.cps.toList))) H) : rLtS (.str i) (.str j) H Q := ⟨i, j, rfl, rfl, k⟩
theorem r_inS {z : Str} {c : Nat} (k : Q (.bl (decide (c ∈ z.cps.toList))) H) : rInS (.str ⟨#[c]⟩) (.str z) H Q := ⟨c, z, rfl, rfl, k⟩
theorem r_fo1 {wa wb : TI} {t : TS} {D : Ends} (h : tFor wa g t D σ H) : tFor (iEither wa wb) g t D σ H := .inl h
theorem r_fo2 {wa wb : TI} {t : TS} {D : Ends} (h : tFor wb g t D σ H) : tFor (iEither wa wb) g t D σ H := .inr h
theorem r_le4 {ta tb tc td : TE} {R : Bool → Hp → Prop} (h : ta σ H fun x H1 => tb σ H1 fun y H2 => ∃ i j : Int, x = .int i ∧ y = .int j ∧ i ≤ j ∧ tc σ H2 fun z H3 => ∃ k : Int, z = .int k ∧ j ≤ k ∧ td σ H3 fun w H4 => ∃ l : Int, w = .int l ∧ k ≤ l ∧ KB R true H4) : tLe4 ta tb tc td σ H R := h
/-- a type's test -/
theorem tyT {p : Addr} {xs : List V} (h : SqT K H p xs) : TyX K H (.ref p) (.type "tuple") := by
  rcases h with (h | ⟨o, h⟩) | ⟨o, _, _, h, c, _⟩
  · exact .base (.tup h)
  · exact .fTuple h
  · exact .kTuple h c
theorem r_isi {x c : V} {t u : Value} {b : Bool} (k1 : ClsV c u) (k2 : TyX K H x t) (k3 : PySem.W.kitOne K t u = some b) (k : Q (.bl b) H) : rIsi K [x, c] H Q := ⟨x, c, t, u, b, rfl, k1, k2, k3, k⟩
theorem r_notKd {d : Addr} {z : Str} {u : Value} (h : PySem.W.nsIn K d z = some (some u)) (k : Q (.bl false) H) : rNotKd K d (.str z) (.ref d) H Q := ⟨z, some u, rfl, rfl, h, k⟩
theorem r_ixKd {w : World} {d : Addr} {z : Str} {v : V} {u : Value} (D : ∃ es n, KDict K w d es n) (h : PySem.W.nsIn K d z = some (some u)) (r : RelV v u) (k : Q v H) : rIxD K w (.ref d) (.str z) H Q := by
  obtain ⟨es, n, D⟩ := D
  exact ⟨d, z, v, rfl, rfl, ⟨es, n, u, D.at_, D.lit, h, r⟩, k⟩
theorem r_disp {trs : List (TE × TE)} (h : ∀ p H', H p = none → Ex H H' → H' p = some (.dK []) → tPairs trs σ H' fun ps H2 => H2 p = some (.dK []) ∧ ∃ kvs : List (Key × V), ps = kvs.map (fun kv => (kV kv.1, kv.2)) ∧ kvs.length ≤ 15 ∧ KQ Q (.ref p) (upd H2 p (.dK (mergeK [] kvs)))) : tDisp trs σ H Q := fun p n => h p _ n (Ex.nw n) upd_same
theorem r_pr {tk tv : TE} {r : List (TE × TE)} {R : List (V × V) → Hp → Prop} (h : tk σ H fun x H1 => tv σ H1 fun y H2 => tPairs r σ H2 fun ps H3 => R ((x, y) :: ps) H3) : tPairs ((tk, tv) :: r) σ H R := h
theorem r_pnil {R : List (V × V) → Hp → Prop} (h : R [] H) : tPairs [] σ H R := h
theorem r_catT {a b : Addr} {xs ys : List V} (ha : SqT K H a xs) (hb : SqT K H b ys) (hz : xs.length + ys.length ≤ 10000) (q : ∀ p H', Ex H H' → SqT K H' p (xs ++ ys) → Q (.ref p) H') : rCatA K (.ref a) (.ref b) H Q := by
  refine ⟨a, b, xs, ys, rfl, rfl, ha, hb, Nat.le_of_lt (Evl.sz_lt (by omega)), fun z => ?_, fun _ z => ?_, fun _ _ p n => q p _ (Ex.nw n) (.inl (.inl upd_same))⟩
  · refine q b H Ex.rf ?_
    rw [z]
    exact hb
  · refine q a H Ex.rf ?_
    rw [z, List.append_nil]
    exact ha
theorem fo_Z {ta : TA} {tb : TS} {D : Ends} {a b : Addr} {xs ys : List V} (Pv : Nat → L2.St → Hp → Prop) (hl : xs.length = ys.length) (ha : ∀ QA : List V → Hp → Prop, QA [.ref a, .ref b] H → ta σ H QA) (hx : SqT K H a xs) (hy : SqT K H b ys) (h0 : Pv 0 σ H)
    (hq : ∀ i σ' H', Pv i σ' H' → SqT K H' a xs ∧ SqT K H' b ys)
    (turn : ∀ (i : Nat) (x y : V) (T : Addr) (σ' : L2.St) (H' : Hp), xs[i]? = some x → ys[i]? = some y → Pv i σ' H' → H' T = none → g (.ref T) σ' (upd H' T (.tup [x, y])) fun σ2 H2 => tb { D with nx := Pv (i + 1), ct := Pv (i + 1), bk := D.nx } σ2 H2)
    (hd : ∀ σ' H', Pv xs.length σ' H' → D.nx σ' H') : tFor (iZipA K ta) g tb D σ H := ha _ ⟨a, b, xs, ys, rfl, .inr ⟨hx, hy, for_zipT hl Pv h0 hq turn hd⟩⟩
/-- over range of any number -/
theorem lc_Rz {n : Int} {f : Nat → V} {ta : TA} (hz : -100000 ≤ n ∧ n ≤ 100000) (hl : ∀ QA : List V → Hp → Prop, QA [.int n] H → ta σ H QA)
    (turn : ∀ i, i < n.toNat → ∀ H', Ex H H' → ∀ (Kt : V → Hp → Prop) (Kf : Hp → Prop), (∀ H'', Ex H' H'' → Kt (f i) H'') → g (.int (i : Int)) (wipe σ vs) H' fun σ2 H2 => wipe σ2 vs = wipe σ vs ∧ tt σ2 H2 fun b H3 => if b = true then te σ2 H3 Kt else Kf H3)
    (k : ∀ D H', H D = none → Ex H H' → H' D = some (.lst ((List.range n.toNat).map f)) → Q (.ref D) H') : tLc (iRng1 ta) g tt te vs σ H Q := by
  refine hl _ ⟨n, rfl, by omega, by omega, fun D hD => ?_⟩
  refine lc_range (lo := 0) (n := n.toNat) (fun i H' => Ex H H' ∧ H' D = some (.lst ((List.range i).map f))) ⟨Ex.nw hD, upd_same⟩ ?_ ?_
  · rintro i H' hi ⟨e, hd⟩
    rw [Int.zero_add]
    refine turn i (by omega) H' e _ _ (fun H'' e' => ⟨_, e' _ _ hd, ?_, (e.tr e').mt hD, ?_⟩)
    · rw [List.length_map, List.length_range]
      exact Evl.sz_lt (by omega)
    · rw [upd_same, List.range_succ, List.map_append]
      rfl
  · rintro H' ⟨e, hd⟩
    exact k D H' hD e hd
theorem r_fo0 {wa : TI} {t : TS} {D : Ends} (h : tFor wa g t D σ H) : tFor wa g t D σ H := h
theorem r_nt {A B : Prop} (h : B) : if (!true) = true then A else B := h
theorem r_nf {A B : Prop} (h : A) : if (!false) = true then A else B := h
/-- over the signs of a text -/
theorem lc_S {z : Str} {f : Nat → V} (hz : z.cps.size ≤ 1000) (hl : ∀ Q' : VK, Q' (.str z) H → tl σ H Q')
    (turn : ∀ c ∈ z.cps.toList, ∀ H', Ex H H' → ∀ (Kt : V → Hp → Prop) (Kf : Hp → Prop), (∀ H'', Ex H' H'' → Kt (f c) H'') → g (.str ⟨#[c]⟩) (wipe σ vs) H' fun σ2 H2 => wipe σ2 vs = wipe σ vs ∧ tt σ2 H2 fun b H3 => if b = true then te σ2 H3 Kt else Kf H3)
    (k : ∀ D H', H D = none → Ex H H' → H' D = some (.lst (z.cps.toList.map f)) → Q (.ref D) H') : tLc (iStr tl) g tt te vs σ H Q := by
  refine hl _ ⟨z, rfl, fun D hD => ?_⟩
  refine lc_it walk_str (fun i H' => Ex H H' ∧ H' D = some (.lst ((z.cps.toList.take i).map f))) ⟨Ex.nw hD, upd_same⟩ (fun _ _ _ _ => True.intro) ?_ ?_
  · rintro i x H' _ hi ⟨e, hd⟩ ⟨rfl, c, hc, rfl⟩
    have hc2 : z.cps.toList[i]? = some c := by
      rw [← hc, Array.getElem?_toList]
    have tk : z.cps.toList.take (i + 1) = z.cps.toList.take i ++ [c] := by rw [List.take_add_one, hc2] <;> rfl
    refine turn c (List.mem_of_getElem? hc2) _ e _ _ (fun H'' e' => ⟨_, e' _ _ hd, ?_, (e.tr e').mt hD, ?_⟩)
    · rw [List.length_map]
      have := List.length_take_le i z.cps.toList
      exact Evl.sz_lt (by omega)
    · rw [upd_same, tk, List.map_append]
      rfl
  · rintro H' ⟨e, hd⟩
    rw [← Array.length_toList, List.take_length] at hd
    exact k D H' hD e hd
end
end Lw
end
section
set_option maxRecDepth 100000
set_option maxHeartbeats 4000000
namespace Lw
open PySem PySem.Spec PyProof.Rows L2
local macro_rules | `(tactic| walk_at "hp") => `(tactic| first | assumption | exact upd_same | exact (by assumption : Ex _ _) _ _ (by assumption))
local macro_rules | `(tactic| walk_at "lk") => `(tactic| fail "no look-up")
local macro_rules | `(tactic| walk_at "tk") => `(tactic| first | assumption | exact Ex.t (by assumption) (by assumption) | exact Ex.l (by assumption) (by assumption) | exact .inl (.inl (by assumption)))
local macro_rules | `(tactic| walk_at "st") => `(tactic| first
  | with_reducible refine r_seq ?_ | with_reducible refine r_asg ?_ | with_reducible refine r_name ?_
  | ((with_reducible refine' r_var ?k1 ?_); (case k1 => exact rfl))
  | with_reducible refine r_c ?_ | with_reducible refine r_op ?_ | with_reducible refine r_un ?_ | with_reducible refine r_cb ?_ | with_reducible refine r_nil ?_ | with_reducible refine r_cons ?_
  | with_reducible refine r_call ?_ | with_reducible refine r_ret ?_ | with_reducible refine r_drop ?_ | with_reducible refine r_ifs ?_ | with_reducible refine r_ife ?_ | with_reducible refine r_next ?_
  | with_reducible refine r_test ?_ | with_reducible refine r_tB ?_ | with_reducible refine r_bl ?_ | with_reducible refine r_blx ?_ | with_reducible refine r_tnot ?_ | with_reducible refine r_tand ?_ | with_reducible refine r_tor ?_
  | with_reducible refine r_not ?_ | with_reducible refine r_and ?_ | with_reducible refine r_or ?_ | with_reducible refine r_I0 ?_ | with_reducible refine r_U ?_
  | with_reducible refine r_eqS ?_ | with_reducible refine r_eqI ?_ | with_reducible refine r_neS ?_ | with_reducible refine r_neI ?_ | with_reducible refine r_chain ?_
  | ((with_reducible refine' r_gtup ?k1 ?k2 ?_); (case k1 => walk_at "tk"); (case k2 => exact rfl))
  | with_reducible refine r_gcons ?_ | with_reducible refine r_gnil ?_
  | ((with_reducible refine' r_ixT ?k1 ?k2 ?_); (case k1 => walk_at "tk"); (case k2 => exact rfl))
  | ((with_reducible refine' r_ixL ?k1 ?k2 ?_); (case k1 => walk_at "tk"); (case k2 => exact rfl))
  | with_reducible refine r_tup ?_ | with_reducible refine r_lst ?_ | with_reducible refine iteT ?_ | with_reducible refine iteF ?_
  | ((with_reducible refine' r_wipe ?k1 ?_); (case k1 => exact rfl)) | with_reducible refine r_tyes ?_
  | ((with_reducible refine' r_lenT ?k1 ?_); (case k1 => walk_at "tk")) | ((with_reducible refine' r_lenL ?k1 ?_); (case k1 => walk_at "tk"))
  | with_reducible refine r_fld ?_ | with_reducible refine r_sfld ?_ | with_reducible refine r_gfld ?_ | with_reducible refine r_meth ?_
  | ((with_reducible refine' r_fld1 ?k1 ?k2 ?k3 ?k4 ?_); (case k1 => walk_at "hp"); (case k2 => assumption); (case k3 => assumption); (case k4 => walk_at "lk"))
  | ((with_reducible refine' r_sfld1 ?k1 ?k2 ?k3 ?k4 ?_); (case k1 => walk_at "hp"); (case k2 => assumption); (case k3 => assumption); (case k4 => exact Nat.lt_of_le_of_lt (Nat.le_of_ble_eq_true rfl) (by decide : 10 < 1000)))
  | ((with_reducible refine' r_gfld1 ?k1 ?k2 ?k3 ?k4 ?_); (case k1 => walk_at "hp"); (case k2 => assumption); (case k3 => assumption); (case k4 => exact Nat.lt_of_le_of_lt (Nat.le_of_ble_eq_true rfl) (by decide : 10 < 1000)))
  | with_reducible refine r_ks ?_ | with_reducible refine r_kq ?_
  | ((with_reducible refine' r_meth1 ?k1 ?k2 ?_); (case k1 => walk_at "hp"); (case k2 => kernel_rfl))
  | with_reducible refine r_kb ?_ | with_reducible refine r_tru ?_ | with_reducible refine r_bm0 ?_ | with_reducible refine r_bm ?_
  | ((with_reducible refine' r_tyL ?k1 ?_); (case k1 => walk_at "hp"))
  | with_reducible refine r_sdput ?_ | with_reducible refine r_dget ?_ | with_reducible refine r_din ?_ | with_reducible refine r_dnin ?_ | with_reducible refine r_dpop ?_
  | ((with_reducible refine' r_dpop0 ?k1 ?_); (case k1 => walk_at "hp"))
  | ((with_reducible refine' r_strY ?k1 ?_); (case k1 => decide +kernel)) | ((with_reducible refine' r_strN ?k1 ?_); (case k1 => decide +kernel))
  | ((with_reducible refine' r_nstrY ?k1 ?_); (case k1 => decide +kernel)) | ((with_reducible refine' r_nstrN ?k1 ?_); (case k1 => decide +kernel))
  | with_reducible refine r_gcd ?_ | with_reducible refine r_par ?_ | with_reducible refine r_par1 ?_
  | with_reducible refine r_make ?_ | with_reducible refine r_orJ ?_
  | with_reducible refine r_isN ?_ | with_reducible refine r_notN ?_
  | with_reducible refine r_abs ?_ | with_reducible refine r_int ?_ | with_reducible refine r_min ?_ | with_reducible refine r_max ?_)
local macro_rules | `(tactic| walk_at "go") => `(tactic| repeat walk_at "st")
local macro_rules | `(tactic| walk_at "st") => `(tactic| first | with_reducible refine r_nt ?_ | with_reducible refine r_nf ?_ | with_reducible refine r_le4 ?_ | with_reducible refine r_ltS ?_ | with_reducible refine r_inS ?_)
def lettersL : List Nat := (Str.ofString "abcdefghijklmnopqrstuvwxyz0123456789").cps.toList
def nameOk (g : Str) : Bool := decide (1 ≤ g.length) && decide (g.length ≤ 12) && g.cps.toList.all fun c => decide (c ∈ lettersL)
def keyOk (g : Str) : Bool := decide (1 ≤ g.length) && decide (g.length ≤ 20) && g.cps.toList.all fun c => decide (c ∈ lettersL) || decide (V.str ⟨#[c]⟩ = V.str "-")
def spIsName : Sp := fun vs H Q _ => ∃ g : Str, vs = [.str g] ∧ nameOk g = true ∧ ∀ H', Ex H H' → Q (.bl true) H'
def spIsKey : Sp := fun vs H Q _ => ∃ g : Str, vs = [.str g] ∧ keyOk g = true ∧ ∀ H', Ex H H' → Q (.bl true) H'
def spReq : Sp := fun vs H Q _ => ∃ (k g : Str) (c : Int), vs = [.str k, .str g, .int c] ∧ keyOk k = true ∧ nameOk g = true ∧ 1 ≤ c ∧ c ≤ 1000 ∧ ∀ H', Ex H H' → Q .non H'
def nAt (ns : List Str) (k : Nat) : Str := (ns[k]?).getD "a"
def ascB (ns : List Str) : Bool := (List.range (ns.length - 1)).all fun k => decide ((nAt ns k).cps.toList < (nAt ns (k + 1)).cps.toList)
def SqE (K : PySem.W.Frag) (H : Hp) (p : Addr) (xs : List V) : Prop := SqL K H p xs ∨ SqT K H p xs
def spAscends (K : PySem.W.Frag) : Sp := fun vs H Q _ => ∃ (p : Addr) (ns : List Str), vs = [.ref p] ∧ SqE K H p (ns.map V.str) ∧ ns.length ≤ 8 ∧ ascB ns = true ∧ ∀ H', Ex H H' → Q (.bl true) H'
def spNames (K : PySem.W.Frag) : Sp := fun vs H Q _ => ∃ (p : Addr) (ns : List Str), vs = [.ref p] ∧ SqE K H p (ns.map V.str) ∧ (∀ n ∈ ns, nameOk n = true) ∧ ∀ H', Ex H H' → Q .non H'
theorem nAt_at {ns : List Str} {k : Nat} (h : k < ns.length) : atI (ns.map V.str) (k : Int) = some (.str (nAt ns k)) := by
  unfold atI
  rw [show ixN (ns.map V.str).length (k : Int) = some k from by
    unfold ixN
    rw [if_pos (Int.natCast_nonneg k), if_pos (by rw [List.length_map]; omega)] <;> rfl]
  show (ns.map V.str)[k]? = _
  rw [List.getElem?_map]
  unfold nAt
  rw [List.getElem?_eq_getElem h] <;> rfl
def spMoment : Sp := fun vs H Q _ => ∃ t : Int, vs = [.int t] ∧ 0 ≤ t ∧ t ≤ 1000000000 ∧ Q .non H
section
variable {P : Program} {w : World} {K : PySem.W.Frag} {mg : Str → Option Value} {base : Heap}
abbrev sc_is_name_N : List Str := ["text", "letter"]
theorem sc_is_name : FnScope ["text", "letter"] ["text"] (defScope s_is_name) := ⟨rfl, rfl, rfl, by decide +kernel, rfl, by decide +kernel, by decide +kernel⟩
theorem ok_is_name (T : Tx w K mg) : OkD P w K mg base ("is_name", none) 1 ["text"] spIsName := by
  refine (T.fd_is_name).ok sc_is_name (fun vs H Q E h => ?_) (fun cdv A outer s H vs Q E hr h => ?_)
  · obtain ⟨g, rfl, _⟩ := h
    rfl
  · obtain ⟨g, rfl, ok, k⟩ := h
    unfold nameOk at ok
    rw [Bool.and_eq_true, Bool.and_eq_true, decide_eq_true_iff, decide_eq_true_iff] at ok
    obtain ⟨⟨l1, l2⟩, ok⟩ := ok
    refine ⟨_, (PSs.nox (pss_one (ps_ret (pe_and (pe_chain op_le op_le pe_int (pe_callB (r := rLenS) cr_lenS (by rfl) T.f_len PySem.boot_len (pa_cons (pv 0) pa_nil)) pe_int) (pe_one (pe_callB (r := rAll K) (cr_all rfl) (by rfl) T.f_all (by decide +kernel) (pa_cons (pe_lc (own := [("letter", 1)]) rfl sc_is_name.nd (pi_str (pv 0)) (blkOk_by (own := [("letter", 1)]) (N := sc_is_name_N) (sc := defScope s_is_name) (by decide +kernel)) (fun _ _ _ _ _ => (pg_name (i := 1) sc_is_name.nd rfl (Or.inl rfl))) (fun _ _ _ _ _ => pts_nil) (fun _ _ _ _ _ => (pe_cmpR op_inS (pv 1) (pe_glob (v := .str "abcdefghijklmnopqrstuvwxyz0123456789") rfl T.s_LETTERS ⟨_, rfl⟩) (by rfl)))) pa_nil))))))), ?_⟩
    walk_at "go"
    refine r_lenS (by omega) ?_
    walk_at "go"
    refine r_d2 (fun lt => ?_) (fun lt => absurd (Int.ofNat_le.mpr l1) lt)
    walk_at "go"
    refine r_d2 (fun lt => ?_) (fun lt => absurd (Int.ofNat_le.mpr l2) lt)
    walk_at "go"
    refine lc_S (f := fun c => .bl (decide (c ∈ lettersL))) (Nat.le_trans l2 (by decide)) (fun Q' q => ?_) (fun c hc H' e Kt Kf kt => ?_) (fun D H' hD e hd => ?_)
    · walk_at "go"
      exact q
    · walk_at "go"
      exact kt _ Ex.rf
    · rw [show g.cps.toList.map (fun c => V.bl (decide (c ∈ lettersL))) = (g.cps.toList.map fun c => decide (c ∈ lettersL)).map V.bl from by rw [List.map_map] <;> rfl] at hd
      walk_at "go"
      refine r_all (.inl (.inl hd)) ?_
      have ha : ((g.cps.toList.map fun c => decide (c ∈ lettersL)).all id) = true := by
        rw [List.all_map]
        exact ok
      rw [ha]
      exact k _ e
abbrev sc_is_key_N : List Str := ["text", "letter"]
theorem sc_is_key : FnScope ["text", "letter"] ["text"] (defScope s_is_key) := ⟨rfl, rfl, rfl, by decide +kernel, rfl, by decide +kernel, by decide +kernel⟩
theorem ok_is_key (T : Tx w K mg) : OkD P w K mg base ("is_key", none) 1 ["text"] spIsKey := by
  refine (T.fd_is_key).ok sc_is_key (fun vs H Q E h => ?_) (fun cdv A outer s H vs Q E hr h => ?_)
  · obtain ⟨g, rfl, _⟩ := h
    rfl
  · obtain ⟨g, rfl, ok, k⟩ := h
    unfold keyOk at ok
    rw [Bool.and_eq_true, Bool.and_eq_true, decide_eq_true_iff, decide_eq_true_iff] at ok
    obtain ⟨⟨l1, l2⟩, ok⟩ := ok
    refine ⟨_, (PSs.nox (pss_one (ps_ret (pe_and (pe_chain op_le op_le pe_int (pe_callB (r := rLenS) cr_lenS (by rfl) T.f_len PySem.boot_len (pa_cons (pv 0) pa_nil)) pe_int) (pe_one (pe_callB (r := rAll K) (cr_all rfl) (by rfl) T.f_all (by decide +kernel) (pa_cons (pe_lc (own := [("letter", 1)]) rfl sc_is_key.nd (pi_str (pv 0)) (blkOk_by (own := [("letter", 1)]) (N := sc_is_key_N) (sc := defScope s_is_key) (by decide +kernel)) (fun _ _ _ _ _ => (pg_name (i := 1) sc_is_key.nd rfl (Or.inl rfl))) (fun _ _ _ _ _ => pts_nil) (fun _ _ _ _ _ => (pe_or (pe_cmpR op_inS (pv 1) (pe_glob (v := .str "abcdefghijklmnopqrstuvwxyz0123456789") rfl T.s_LETTERS ⟨_, rfl⟩) (by rfl)) (pe_one (pe_cmpR op_eq (pv 1) pe_str (nomark _)))))) pa_nil))))))), ?_⟩
    walk_at "go"
    refine r_lenS (by omega) ?_
    walk_at "go"
    refine r_d2 (fun lt => ?_) (fun lt => absurd (Int.ofNat_le.mpr l1) lt)
    walk_at "go"
    refine r_d2 (fun lt => ?_) (fun lt => absurd (Int.ofNat_le.mpr l2) lt)
    walk_at "go"
    refine lc_S (f := fun c => .bl (decide (c ∈ lettersL) || decide (V.str ⟨#[c]⟩ = V.str "-"))) (Nat.le_trans l2 (by decide)) (fun Q' q => ?_) (fun c hc H' e Kt Kf kt => ?_) (fun D H' hD e hd => ?_)
    · walk_at "go"
      exact q
    · walk_at "go"
      refine r_d2 (fun z => ?_) (fun z => ?_)
      · have k1 := kt _ Ex.rf
        rw [show decide (c ∈ lettersL) = true from decide_eq_true z] at k1
        exact k1
      · have k1 := kt _ Ex.rf
        rw [show decide (c ∈ lettersL) = false from decide_eq_false z] at k1
        walk_at "go"
        exact k1
    · rw [show g.cps.toList.map (fun c => V.bl (decide (c ∈ lettersL) || decide (V.str ⟨#[c]⟩ = V.str "-"))) = (g.cps.toList.map fun c => decide (c ∈ lettersL) || decide (V.str ⟨#[c]⟩ = V.str "-")).map V.bl from by rw [List.map_map] <;> rfl] at hd
      walk_at "go"
      refine r_all (.inl (.inl hd)) ?_
      have ha : ((g.cps.toList.map fun c => decide (c ∈ lettersL) || decide (V.str ⟨#[c]⟩ = V.str "-")).all id) = true := by
        rw [List.all_map]
        exact ok
      rw [ha]
      exact k _ e
abbrev sc_check_request_N : List Str := ["key", "group", "cost"]
theorem sc_check_request : FnScope ["key", "group", "cost"] ["key", "group", "cost"] (defScope s_check_request) := ⟨rfl, rfl, rfl, by decide +kernel, rfl, by decide +kernel, by decide +kernel⟩
theorem ok_check_request (T : Tx w K mg) : OkD P w K mg base ("check_request", none) 2 ["key", "group", "cost"] spReq := by
  refine (T.fd_check_request).ok sc_check_request (fun vs H Q E h => ?_) (fun cdv A outer s H vs Q E hr h => ?_)
  · obtain ⟨k, g, c, rfl, _⟩ := h
    rfl
  · obtain ⟨kk, g, c, rfl, ok, og, c1, c2, k⟩ := h
    refine ⟨_, (PSs.nox (pss_one (ps_if (PW.pt (pw_or (pt_not (pt_val (pe_call ((ok_is_key T).mono (by decide)) hr (by rfl) T.g_is_key T.fd_is_key.kp T.bd_is_key .nil pass0 (pa_cons (pv 0) pa_nil)))) (pw_or (pt_not (pt_val (pe_call ((ok_is_name T).mono (by decide)) hr (by rfl) T.g_is_name T.fd_is_name.kp T.bd_is_name .nil pass0 (pa_cons (pv 1) pa_nil)))) (pw_or1 (pt_not (pt_chain op_le op_le pe_int (pv 2) pe_int)))))) (pss_one ps_never) pss_nil))), ?_⟩
    walk_at "go"
    refine ⟨kk, rfl, ok, fun H1 e1 => ?_⟩
    walk_at "go"
    refine ⟨g, rfl, og, fun H2 e2 => ?_⟩
    walk_at "go"
    refine r_d2 (fun z => ?_) (fun z => absurd c1 z)
    walk_at "go"
    rw [show decide (c ≤ 1000) = true from decide_eq_true c2]
    walk_at "go"
    exact k _ (e1.tr e2)
abbrev sc_check_moment_N : List Str := ["moment"]
theorem sc_check_moment : FnScope ["moment"] ["moment"] (defScope s_check_moment) := ⟨rfl, rfl, rfl, by decide +kernel, rfl, by decide +kernel, by decide +kernel⟩
theorem ok_check_moment (T : Tx w K mg) : OkD P w K mg base ("check_moment", none) 1 ["moment"] spMoment := by
  refine (T.fd_check_moment).ok sc_check_moment (fun vs H Q E h => ?_) (fun cdv A outer s H vs Q E hr h => ?_)
  · obtain ⟨t, rfl, _⟩ := h
    rfl
  · obtain ⟨t, rfl, c1, c2, k⟩ := h
    refine ⟨_, (PSs.nox (pss_one (ps_if (pt_not (pt_chain op_le op_le pe_int (pv 0) (pe_glob (v := .int 1000000000) rfl T.i_MOST_MOMENT ⟨_, rfl⟩))) (pss_one ps_never) pss_nil))), ?_⟩
    walk_at "go"
    refine r_d2 (fun z => ?_) (fun z => absurd c1 z)
    walk_at "go"
    rw [show decide (t ≤ 1000000000) = true from decide_eq_true c2]
    walk_at "go"
    exact k
abbrev sc_ascends_N : List Str := ["names", "k"]
theorem sc_ascends : FnScope ["names", "k"] ["names"] (defScope s_ascends) := ⟨rfl, rfl, rfl, by decide +kernel, rfl, by decide +kernel, by decide +kernel⟩
theorem ok_ascends (T : Tx w K mg) : OkD P w K mg base ("ascends", none) 1 ["names"] (spAscends K) := by
  refine (T.fd_ascends).ok sc_ascends (fun vs H Q E h => ?_) (fun cdv A outer s H vs Q E hr h => ?_)
  · obtain ⟨p, ns, rfl, _⟩ := h
    rfl
  · obtain ⟨p, ns, rfl, hp, hl, ha, k⟩ := h
    refine ⟨_, (PSs.nox (pss_one (ps_ret (pe_callB (r := rAll K) (cr_all rfl) (by rfl) T.f_all (by decide +kernel) (pa_cons (pe_lc (own := [("k", 1)]) rfl sc_ascends.nd (pi_range1 (by rfl) T.f_range (pa_cons (pe_op op_sub (pe_callB (r := rLenJ K) cr_lenJ (by rfl) T.f_len PySem.boot_len (pa_cons (pv 0) pa_nil)) pe_int) pa_nil)) (blkOk_by (own := [("k", 1)]) (N := sc_ascends_N) (sc := defScope s_ascends) (by decide +kernel)) (fun _ _ _ _ _ => (pg_name (i := 1) sc_ascends.nd rfl (Or.inl rfl))) (fun _ _ _ _ _ => pts_nil) (fun _ _ _ _ _ => (pe_cmpR op_ltS (pe_either (pe_ix (r := rIxL K) ix_list (pv 0) (pv 1) (fun _ _ => rfl)) (pe_ix (r := rIxT K) ix_tup (pv 0) (pv 1) (fun _ _ => rfl))) (pe_either (pe_ix (r := rIxL K) ix_list (pv 0) (pe_op op_add (pv 1) pe_int) (fun _ _ => rfl)) (pe_ix (r := rIxT K) ix_tup (pv 0) (pe_op op_add (pv 1) pe_int) (fun _ _ => rfl))) (nomark _)))) pa_nil))))), ?_⟩
    walk_at "go"
    refine lc_Rz (n := (ns.length : Int) - 1) (f := fun k => .bl (decide ((nAt ns k).cps.toList < (nAt ns (k + 1)).cps.toList))) (by omega) (fun QA q => ?_) (fun i hi H' e Kt Kf kt => ?_) (fun D H' hD e hd => ?_)
    · have hm : (ns.map V.str).length = ns.length := List.length_map ..
      rcases hp with hp | hp
      · walk_at "go"
        rw [hm]
        exact q
      · walk_at "go"
        rw [hm]
        exact q
    · have a1 : atI (ns.map V.str) (i : Int) = some (.str (nAt ns i)) := nAt_at (by omega)
      have a2 : atI (ns.map V.str) ((i : Int) + 1) = some (.str (nAt ns (i + 1))) := nAt_at (k := i + 1) (by omega)
      rcases hp with hp | hp
      · have hp := e.l hp
        walk_at "go"
        refine .inl ?_
        walk_at "go"
        refine r_ixL hp a1 ?_
        refine .inl ?_
        walk_at "go"
        refine r_ixL hp a2 ?_
        walk_at "go"
        exact kt _ Ex.rf
      · have hp := e.t hp
        walk_at "go"
        refine .inr ?_
        walk_at "go"
        refine r_ixT hp a1 ?_
        refine .inr ?_
        walk_at "go"
        refine r_ixT hp a2 ?_
        walk_at "go"
        exact kt _ Ex.rf
    · have hn : ((ns.length : Int) - 1).toNat = ns.length - 1 := by omega
      rw [hn, show (List.range (ns.length - 1)).map (fun k => V.bl (decide ((nAt ns k).cps.toList < (nAt ns (k + 1)).cps.toList))) = ((List.range (ns.length - 1)).map fun k => decide ((nAt ns k).cps.toList < (nAt ns (k + 1)).cps.toList)).map V.bl from by rw [List.map_map] <;> rfl] at hd
      walk_at "go"
      refine r_all (.inl (.inl hd)) ?_
      have ha : (((List.range (ns.length - 1)).map fun k => decide ((nAt ns k).cps.toList < (nAt ns (k + 1)).cps.toList)).all id) = true := by
        rw [List.all_map]
        exact ha
      rw [ha]
      exact k _ e
abbrev sc_check_names_N : List Str := ["names", "name"]
theorem sc_check_names : FnScope ["names", "name"] ["names"] (defScope s_check_names) := ⟨rfl, rfl, rfl, by decide +kernel, rfl, by decide +kernel, by decide +kernel⟩
theorem ok_check_names (T : Tx w K mg) : OkD P w K mg base ("check_names", none) 2 ["names"] (spNames K) := by
  refine (T.fd_check_names).ok sc_check_names (fun vs H Q E h => ?_) (fun cdv A outer s H vs Q E hr h => ?_)
  · obtain ⟨p, ns, rfl, _⟩ := h
    rfl
  · obtain ⟨p, ns, rfl, hp, ha, k⟩ := h
    refine ⟨_, (PSs.nox (pss_one (ps_for PassesOwn.never rfl (pi_either (pi_list (pv 0)) (pi_tup (pv 0))) (pg_name (i := 1) sc_check_names.nd rfl (Or.inl rfl))
    (pss_one (ps_if (pt_not (pt_val (pe_call ((ok_is_name T).mono (by decide)) hr (by rfl) T.g_is_name T.fd_is_name.kp T.bd_is_name .nil pass0 (pa_cons (pv 1) pa_nil)))) (pss_one ps_never) pss_nil))))), ?_⟩
    walk_at "go"
    rcases hp with hp | hp
    · refine r_fo1 (fo_L (L := ns) (ev := V.str) (fun i σ' H' => Ex H H' ∧ ∃ z, σ' = [some (.ref p), z]) hp (fun Q' q => ?_) ⟨Ex.rf, none, rfl⟩ (fun i σ' H' q => q.1.l hp) ?_ ?_)
      · walk_at "go"
        exact q
      · rintro i x σ' H' hi ⟨e, z, rfl⟩
        walk_at "go"
        refine ⟨x, rfl, ha x (List.mem_of_getElem? hi), fun H1 e1 => ?_⟩
        walk_at "go"
        exact ⟨e.tr e1, _, rfl⟩
      · rintro σ' H' ⟨e, z, rfl⟩
        exact k _ e
    · refine r_fo2 (fo_T (L := ns) (ev := V.str) (fun i σ' H' => Ex H H' ∧ ∃ z, σ' = [some (.ref p), z]) hp (fun Q' q => ?_) ⟨Ex.rf, none, rfl⟩ (fun i σ' H' q => q.1.tu) ?_ ?_)
      · walk_at "go"
        exact q
      · rintro i x σ' H' hi ⟨e, z, rfl⟩
        walk_at "go"
        refine ⟨x, rfl, ha x (List.mem_of_getElem? hi), fun H1 e1 => ?_⟩
        walk_at "go"
        exact ⟨e.tr e1, _, rfl⟩
      · rintro σ' H' ⟨e, z, rfl⟩
        exact k _ e
end
end Lw
end
section
set_option maxRecDepth 100000
set_option maxHeartbeats 4000000
namespace Lw
open PySem PySem.Spec PyProof.Rows L2 RZ
local macro_rules | `(tactic| walk_at "hp") => `(tactic| first | assumption | exact upd_same | exact (by assumption : Ex _ _) _ _ (by assumption))
local macro_rules | `(tactic| walk_at "lk") => `(tactic| fail "no look-up")
local macro_rules | `(tactic| walk_at "tk") => `(tactic| first | assumption | exact Ex.t (by assumption) (by assumption) | exact Ex.l (by assumption) (by assumption) | exact .inl (.inl (by assumption)))
local macro_rules | `(tactic| walk_at "st") => `(tactic| first
  | with_reducible refine r_seq ?_ | with_reducible refine r_asg ?_ | with_reducible refine r_name ?_
  | ((with_reducible refine' r_var ?k1 ?_); (case k1 => exact rfl))
  | with_reducible refine r_c ?_ | with_reducible refine r_op ?_ | with_reducible refine r_un ?_ | with_reducible refine r_cb ?_ | with_reducible refine r_nil ?_ | with_reducible refine r_cons ?_
  | with_reducible refine r_call ?_ | with_reducible refine r_ret ?_ | with_reducible refine r_drop ?_ | with_reducible refine r_ifs ?_ | with_reducible refine r_ife ?_ | with_reducible refine r_next ?_
  | with_reducible refine r_test ?_ | with_reducible refine r_tB ?_ | with_reducible refine r_bl ?_ | with_reducible refine r_blx ?_ | with_reducible refine r_tnot ?_ | with_reducible refine r_tand ?_ | with_reducible refine r_tor ?_
  | with_reducible refine r_not ?_ | with_reducible refine r_and ?_ | with_reducible refine r_or ?_ | with_reducible refine r_I0 ?_ | with_reducible refine r_U ?_
  | with_reducible refine r_eqS ?_ | with_reducible refine r_eqI ?_ | with_reducible refine r_neS ?_ | with_reducible refine r_neI ?_ | with_reducible refine r_chain ?_
  | ((with_reducible refine' r_gtup ?k1 ?k2 ?_); (case k1 => walk_at "tk"); (case k2 => exact rfl))
  | with_reducible refine r_gcons ?_ | with_reducible refine r_gnil ?_
  | ((with_reducible refine' r_ixT ?k1 ?k2 ?_); (case k1 => walk_at "tk"); (case k2 => exact rfl))
  | ((with_reducible refine' r_ixL ?k1 ?k2 ?_); (case k1 => walk_at "tk"); (case k2 => exact rfl))
  | with_reducible refine r_tup ?_ | with_reducible refine r_lst ?_ | with_reducible refine iteT ?_ | with_reducible refine iteF ?_
  | ((with_reducible refine' r_wipe ?k1 ?_); (case k1 => exact rfl)) | with_reducible refine r_tyes ?_
  | ((with_reducible refine' r_lenT ?k1 ?_); (case k1 => walk_at "tk")) | ((with_reducible refine' r_lenL ?k1 ?_); (case k1 => walk_at "tk"))
  | with_reducible refine r_fld ?_ | with_reducible refine r_sfld ?_ | with_reducible refine r_gfld ?_ | with_reducible refine r_meth ?_
  | ((with_reducible refine' r_fld1 ?k1 ?k2 ?k3 ?k4 ?_); (case k1 => walk_at "hp"); (case k2 => assumption); (case k3 => assumption); (case k4 => walk_at "lk"))
  | ((with_reducible refine' r_sfld1 ?k1 ?k2 ?k3 ?k4 ?_); (case k1 => walk_at "hp"); (case k2 => assumption); (case k3 => assumption); (case k4 => exact Nat.lt_of_le_of_lt (Nat.le_of_ble_eq_true rfl) (by decide : 10 < 1000)))
  | ((with_reducible refine' r_gfld1 ?k1 ?k2 ?k3 ?k4 ?_); (case k1 => walk_at "hp"); (case k2 => assumption); (case k3 => assumption); (case k4 => exact Nat.lt_of_le_of_lt (Nat.le_of_ble_eq_true rfl) (by decide : 10 < 1000)))
  | with_reducible refine r_ks ?_ | with_reducible refine r_kq ?_
  | ((with_reducible refine' r_meth1 ?k1 ?k2 ?_); (case k1 => walk_at "hp"); (case k2 => kernel_rfl))
  | with_reducible refine r_kb ?_ | with_reducible refine r_tru ?_ | with_reducible refine r_bm0 ?_ | with_reducible refine r_bm ?_
  | ((with_reducible refine' r_tyL ?k1 ?_); (case k1 => walk_at "hp"))
  | with_reducible refine r_sdput ?_ | with_reducible refine r_dget ?_ | with_reducible refine r_din ?_ | with_reducible refine r_dnin ?_ | with_reducible refine r_dpop ?_
  | ((with_reducible refine' r_dpop0 ?k1 ?_); (case k1 => walk_at "hp"))
  | ((with_reducible refine' r_strY ?k1 ?_); (case k1 => decide +kernel)) | ((with_reducible refine' r_strN ?k1 ?_); (case k1 => decide +kernel))
  | ((with_reducible refine' r_nstrY ?k1 ?_); (case k1 => decide +kernel)) | ((with_reducible refine' r_nstrN ?k1 ?_); (case k1 => decide +kernel))
  | with_reducible refine r_gcd ?_ | with_reducible refine r_par ?_ | with_reducible refine r_par1 ?_
  | with_reducible refine r_make ?_ | with_reducible refine r_orJ ?_
  | with_reducible refine r_isN ?_ | with_reducible refine r_notN ?_
  | with_reducible refine r_abs ?_ | with_reducible refine r_int ?_ | with_reducible refine r_min ?_ | with_reducible refine r_max ?_)
local macro_rules | `(tactic| walk_at "go") => `(tactic| repeat walk_at "st")
local macro_rules | `(tactic| walk_at "st") => `(tactic| first | with_reducible refine r_nt ?_ | with_reducible refine r_nf ?_ | with_reducible refine r_le4 ?_ | with_reducible refine r_ltS ?_ | with_reducible refine r_inS ?_)
local macro_rules | `(tactic| walk_at "st") => `(tactic| first | with_reducible refine r_disp ?_ | with_reducible refine r_pr ?_ | with_reducible refine r_pnil ?_ | ((with_reducible refine' r_isi ?k1 ?k2 ?k3 ?_); (case k1 => exact ClsV.ty _); (case k2 => first | exact .base (.int _) | exact tyT (by assumption)); (case k3 => exact kit_ty (r := true) (by decide +kernel))))
def spAreShares (K : PySem.W.Frag) : Sp := fun vs H Q _ => ∃ (p : Addr) (sh : List Sh), vs = [.ref p] ∧ ShsAt K H p sh ∧ sh.length ≤ 8 ∧ ∀ H', Ex H H' → Q (.bl true) H'
def spHasForm (K : PySem.W.Frag) : Sp := fun vs H Q _ => ∃ (p : Addr) (n : Str) (g : List Str) (r : Rule) (wd : Str), vs = [.str wd, .ref p] ∧ wd = Lim.word ⟨n, g, r⟩ ∧ NumAt K H p r ∧ WfNum r ∧ ∀ H', Ex H H' → Q (.bl true) H'
def spCheckPool (K : PySem.W.Frag) : Sp := fun vs H Q _ => ∃ (g p : Addr) (m : Int) (sh : List Sh), vs = [.ref g, .int m, .ref p] ∧ SqT K H g [] ∧ ShsAt K H p sh ∧ WfNum (.pool m sh) ∧ ascB (sh.map (·.1)) = true ∧ ∀ H', Ex H H' → Q .non H'
def spCheckNums (K : PySem.W.Frag) : Sp := fun vs H Q _ => ∃ (p : Addr) (n : Str) (g : List Str) (r : Rule) (wd : Str), vs = [.str wd, .ref p] ∧ wd = Lim.word ⟨n, g, r⟩ ∧ NumAt K H p r ∧ WfNum r ∧ isPool r = false ∧ ∀ H', Ex H H' → Q .non H'
structure BkL (L : Lim) : Prop where
  wf : WfL L
  nm : nameOk L.name = true
  gs : ∀ g ∈ L.groups, nameOk g = true
  asc : ascB L.groups = true
  pl : ∀ m sh, L.rule = .pool m sh → L.groups = [] ∧ (∀ s ∈ sh, nameOk s.1 = true) ∧ ascB (sh.map (·.1)) = true
def spCheckLim (K : PySem.W.Frag) : Sp := fun vs H Q _ => ∃ (a : Addr) (L : Lim), vs = [.ref a] ∧ LimAt K H a L ∧ BkL L ∧ ∀ H', Ex H H' → Q .non H'
section
variable {P : Program} {w : World} {K : PySem.W.Frag} {mg : Str → Option Value} {base : Heap}
abbrev sc_are_shares_N : List Str := ["shares", "share"]
theorem sc_are_shares : FnScope ["shares", "share"] ["shares"] (defScope s_are_shares) := ⟨rfl, rfl, rfl, by decide +kernel, rfl, by decide +kernel, by decide +kernel⟩
theorem ok_are_shares (T : Tx w K mg) : OkD P w K mg base ("are_shares", none) 1 ["shares"] (spAreShares K) := by
  refine (T.fd_are_shares).ok sc_are_shares (fun vs H Q E h => ?_) (fun cdv A outer s H vs Q E hr h => ?_)
  · obtain ⟨p, sh, rfl, _⟩ := h
    rfl
  · obtain ⟨p, sh, rfl, ⟨ps, h1, h2, h3⟩, hl, k⟩ := h
    have pl : ps.length ≤ 8 := by
      rw [← List.length_map (f := fun p : Addr × Sh => p.2), h1]
      exact hl
    refine ⟨_, (PSs.nox (pss_one (ps_ret (pe_and (pe_callB (id := "isinstance") (r := rIsi K) call_isi (by rfl) T.f_isinstance (by decide +kernel) (pa_cons (pv 0) (pa_cons (pe_bltn (v := .ty "tuple") rfl T.f_tuple boot_tuple rfl) pa_nil))) (pe_one (pe_callB (r := rAll K) (cr_all rfl) (by rfl) T.f_all (by decide +kernel) (pa_cons (pe_lc (own := [("share", 1)]) rfl sc_are_shares.nd (pi_tup (pv 0)) (blkOk_by (own := [("share", 1)]) (N := sc_are_shares_N) (sc := defScope s_are_shares) (by decide +kernel)) (fun _ _ _ _ _ => (pg_name (i := 1) sc_are_shares.nd rfl (Or.inl rfl))) (fun _ _ _ _ _ => pts_nil) (fun _ _ _ _ _ => (pe_and (pe_callB (id := "isinstance") (r := rIsi K) call_isi (by rfl) T.f_isinstance (by decide +kernel) (pa_cons (pv 1) (pa_cons (pe_bltn (v := .ty "tuple") rfl T.f_tuple boot_tuple rfl) pa_nil))) (pe_one (pe_cmpR op_eq (pe_callB (r := rLenJ K) cr_lenJ (by rfl) T.f_len PySem.boot_len (pa_cons (pv 1) pa_nil)) pe_int (nomark _)))))) pa_nil))))))), ?_⟩
    walk_at "go"
    refine lc_T1 (L := ps) (ev := fun p => .ref p.1) (f := fun _ => .bl true) (by omega) h2 (fun Q' q => ?_) (fun x hx H' e Kt Kf kt => ?_) (fun D H' hD e hd => ?_)
    · walk_at "go"
      exact q
    · have hs := e.t (h3 x hx)
      walk_at "go"
      exact kt _ Ex.rf
    · rw [show ps.map (fun _ => V.bl true) = (ps.map fun _ => true).map V.bl from by rw [List.map_map] <;> rfl] at hd
      walk_at "go"
      refine r_all (.inl (.inl hd)) ?_
      have ha : ((ps.map fun _ => true).all id) = true := by
        rw [List.all_map, List.all_eq_true]
        intro x hx
        rfl
      rw [ha]
      exact k _ e
theorem wordIn (T : Tx w K mg) (n : Str) (g : List Str) (r : Rule) (k : Int) (h : k = match r with
    | .window _ _ => 2
    | .span _ _ => 2
    | .bucket _ _ => 2
    | .gap _ => 1
    | .held _ => 1
    | .pool _ _ => 2) : ∃ u, PySem.W.nsIn K (He.ga K "SIZES") (Lim.word ⟨n, g, r⟩) = some (some u) ∧ RelV (.int k) u := by
  subst h
  cases r with
  | window m l => exact T.size_of (.head _)
  | span m l => exact T.size_of (.tail _ (.head _))
  | bucket m l => exact T.size_of (.tail _ (.tail _ (.head _)))
  | gap t => exact T.size_of (.tail _ (.tail _ (.tail _ (.head _))))
  | held m => exact T.size_of (.tail _ (.tail _ (.tail _ (.tail _ (.head _)))))
  | pool m sh => exact T.size_of (.tail _ (.tail _ (.tail _ (.tail _ (.tail _ (.head _))))))
abbrev sc_has_form_N : List Str := ["word", "numbers", "number"]
theorem sc_has_form : FnScope ["word", "numbers", "number"] ["word", "numbers"] (defScope s_has_form) := ⟨rfl, rfl, rfl, by decide +kernel, rfl, by decide +kernel, by decide +kernel⟩
theorem ok_has_form (T : Tx w K mg) : OkD P w K mg base ("has_form", none) 2 ["word", "numbers"] (spHasForm K) := by
  refine (T.fd_has_form).ok sc_has_form (fun vs H Q E h => ?_) (fun cdv A outer s H vs Q E hr h => ?_)
  · obtain ⟨p, n, g, r, wd, rfl, _⟩ := h
    rfl
  · obtain ⟨p, n, g, r, wd, rfl, hw, hp, wn, k⟩ := h
    have two : ∀ m l : Int, SqT K H p [.int m, .int l] → ∀ D H', H' D = some (.lst (([m, l] : List Int).map fun _ => V.bl true)) → SqL K H' D (([true, true] : List Bool).map V.bl) := fun _ _ _ D H' h => .inl (.inl h)
    refine ⟨_, (PSs.nox (pss_cons (ps_if (PW.pt (pw_or (pt_cmpR (show OpR _ _ (rNotKd K (He.ga K "SIZES")) from op_notKd T.SIZES) (pv 0) (pe_glob (v := .ref (He.ga K "SIZES")) rfl T.g_SIZES rfl) (by rfl)) (pw_or1 (pt_cmpR op_ne (pe_callB (r := rLenJ K) cr_lenJ (by rfl) T.f_len PySem.boot_len (pa_cons (pv 1) pa_nil)) (pe_ix (r := rIxD K w) ix_kdict (pe_glob (v := .ref (He.ga K "SIZES")) rfl T.g_SIZES rfl) (pv 0) (fun _ _ => rfl)) (nomark _))))) (pss_one (ps_ret pe_bl)) pss_nil)
    (pss_cons (ps_if (pt_cmpR op_eq (pv 0) pe_str (nomark _)) (pss_one (ps_ret (pe_and (pe_callB (id := "isinstance") (r := rIsi K) call_isi (by rfl) T.f_isinstance (by decide +kernel) (pa_cons (pe_ix (r := rIxT K) ix_tup (pv 1) pe_int (fun _ _ => rfl)) (pa_cons (pe_bltn (v := .ty "int") rfl T.f_int boot_int rfl) pa_nil))) (pe_one (pe_call ((ok_are_shares T).mono (by decide)) hr (by rfl) T.g_are_shares T.fd_are_shares.kp T.bd_are_shares .nil pass0 (pa_cons (pe_ix (r := rIxT K) ix_tup (pv 1) pe_int (fun _ _ => rfl)) pa_nil)))))) pss_nil)
    (pss_one (ps_ret (pe_callB (r := rAll K) (cr_all rfl) (by rfl) T.f_all (by decide +kernel) (pa_cons (pe_lc (own := [("number", 2)]) rfl sc_has_form.nd (pi_tup (pv 1)) (blkOk_by (own := [("number", 2)]) (N := sc_has_form_N) (sc := defScope s_has_form) (by decide +kernel)) (fun _ _ _ _ _ => (pg_name (i := 2) sc_has_form.nd rfl (Or.inl rfl))) (fun _ _ _ _ _ => pts_nil) (fun _ _ _ _ _ => (pe_callB (id := "isinstance") (r := rIsi K) call_isi (by rfl) T.f_isinstance (by decide +kernel) (pa_cons (pv 2) (pa_cons (pe_bltn (v := .ty "int") rfl T.f_int boot_int rfl) pa_nil))))) pa_nil))))))), ?_⟩
    cases r with
    | pool m sh =>
      obtain rfl : wd = "pool" := hw
      obtain ⟨s, h1, h2⟩ := hp
      obtain ⟨u, u1, u2⟩ := wordIn T n g (.pool m sh) 2 rfl
      walk_at "go"
      refine r_notKd u1 ?_
      walk_at "go"
      refine r_ixKd T.SIZES u1 u2 ?_
      walk_at "go"
      refine r_nno rfl ?_
      walk_at "go"
      exact ⟨s, sh, rfl, h2, wn.2.2.2.2.2.2, k⟩
    | window m l =>
      obtain rfl : wd = "window" := hw
      have hp : SqT K H p [.int m, .int l] := hp
      obtain ⟨u, u1, u2⟩ := wordIn T n g (.window m l) 2 rfl
      walk_at "go"
      refine r_notKd u1 ?_
      walk_at "go"
      refine r_ixKd T.SIZES u1 u2 ?_
      walk_at "go"
      refine r_nno rfl ?_
      walk_at "go"
      refine lc_T1 (L := [m, l]) (ev := V.int) (f := fun _ => .bl true) (Nat.le_of_ble_eq_true rfl) hp (fun Q' q => ?_) (fun x hx H' e Kt Kf kt => ?_) (fun D H' hD e hd => ?_)
      · walk_at "go"
        exact q
      · walk_at "go"
        exact kt _ Ex.rf
      · walk_at "go"
        exact r_all (bs := [true, true]) (.inl (.inl hd)) (k _ e)
    | span m l =>
      obtain rfl : wd = "span" := hw
      have hp : SqT K H p [.int m, .int l] := hp
      obtain ⟨u, u1, u2⟩ := wordIn T n g (.span m l) 2 rfl
      walk_at "go"
      refine r_notKd u1 ?_
      walk_at "go"
      refine r_ixKd T.SIZES u1 u2 ?_
      walk_at "go"
      refine r_nno rfl ?_
      walk_at "go"
      refine lc_T1 (L := [m, l]) (ev := V.int) (f := fun _ => .bl true) (Nat.le_of_ble_eq_true rfl) hp (fun Q' q => ?_) (fun x hx H' e Kt Kf kt => ?_) (fun D H' hD e hd => ?_)
      · walk_at "go"
        exact q
      · walk_at "go"
        exact kt _ Ex.rf
      · walk_at "go"
        exact r_all (bs := [true, true]) (.inl (.inl hd)) (k _ e)
    | bucket m l =>
      obtain rfl : wd = "bucket" := hw
      have hp : SqT K H p [.int m, .int l] := hp
      obtain ⟨u, u1, u2⟩ := wordIn T n g (.bucket m l) 2 rfl
      walk_at "go"
      refine r_notKd u1 ?_
      walk_at "go"
      refine r_ixKd T.SIZES u1 u2 ?_
      walk_at "go"
      refine r_nno rfl ?_
      walk_at "go"
      refine lc_T1 (L := [m, l]) (ev := V.int) (f := fun _ => .bl true) (Nat.le_of_ble_eq_true rfl) hp (fun Q' q => ?_) (fun x hx H' e Kt Kf kt => ?_) (fun D H' hD e hd => ?_)
      · walk_at "go"
        exact q
      · walk_at "go"
        exact kt _ Ex.rf
      · walk_at "go"
        exact r_all (bs := [true, true]) (.inl (.inl hd)) (k _ e)
    | gap m =>
      obtain rfl : wd = "gap" := hw
      have hp : SqT K H p [.int m] := hp
      obtain ⟨u, u1, u2⟩ := wordIn T n g (.gap m) 1 rfl
      walk_at "go"
      refine r_notKd u1 ?_
      walk_at "go"
      refine r_ixKd T.SIZES u1 u2 ?_
      walk_at "go"
      refine r_nno rfl ?_
      walk_at "go"
      refine lc_T1 (L := [m]) (ev := V.int) (f := fun _ => .bl true) (Nat.le_of_ble_eq_true rfl) hp (fun Q' q => ?_) (fun x hx H' e Kt Kf kt => ?_) (fun D H' hD e hd => ?_)
      · walk_at "go"
        exact q
      · walk_at "go"
        exact kt _ Ex.rf
      · walk_at "go"
        exact r_all (bs := [true]) (.inl (.inl hd)) (k _ e)
    | held m =>
      obtain rfl : wd = "held" := hw
      have hp : SqT K H p [.int m] := hp
      obtain ⟨u, u1, u2⟩ := wordIn T n g (.held m) 1 rfl
      walk_at "go"
      refine r_notKd u1 ?_
      walk_at "go"
      refine r_ixKd T.SIZES u1 u2 ?_
      walk_at "go"
      refine r_nno rfl ?_
      walk_at "go"
      refine lc_T1 (L := [m]) (ev := V.int) (f := fun _ => .bl true) (Nat.le_of_ble_eq_true rfl) hp (fun Q' q => ?_) (fun x hx H' e Kt Kf kt => ?_) (fun D H' hD e hd => ?_)
      · walk_at "go"
        exact q
      · walk_at "go"
        exact kt _ Ex.rf
      · walk_at "go"
        exact r_all (bs := [true]) (.inl (.inl hd)) (k _ e)
theorem le_nine {x : Int} (h : x ≤ 1000) : x ≤ 1000000 := by omega
abbrev sc_check_pool_N : List Str := ["groups", "most", "shares", "names", "_", "own", "ceiling", "share"]
theorem sc_check_pool : FnScope ["groups", "most", "shares", "names", "_", "own", "ceiling", "share"] ["groups", "most", "shares"] (defScope s_check_pool) := ⟨rfl, rfl, rfl, by decide +kernel, rfl, by decide +kernel, by decide +kernel⟩
theorem ok_check_pool (T : Tx w K mg) : OkD P w K mg base ("check_pool", none) 2 ["groups", "most", "shares"] (spCheckPool K) := by
  refine (T.fd_check_pool).ok sc_check_pool (fun vs H Q E h => ?_) (fun cdv A outer s H vs Q E hr h => ?_)
  · obtain ⟨g, p, m, sh, rfl, _⟩ := h
    rfl
  · obtain ⟨g, p, m, sh, rfl, hg, ⟨ps, h1, h2, h3⟩, wn, ha, k⟩ := h
    obtain ⟨w1, w2, w3, w4, w5, w6, w7⟩ := wn
    have pl : ps.length = sh.length := by rw [← List.length_map (f := fun p : Addr × Sh => p.2), h1]
    refine ⟨_, (PSs.nox (pss_cons (ps_setLc (i := 3) (own := [("share", 7)]) rfl sc_check_pool.nd rfl rfl (sw_true rfl rfl rfl (by decide +kernel)) (pi_tup (pv 2)) (blkOk_by (own := [("share", 7)]) (N := sc_check_pool_N) (sc := defScope s_check_pool) (by decide +kernel)) (fun _ _ _ _ _ => (pg_name (i := 7) sc_check_pool.nd rfl (Or.inl rfl))) (fun _ _ _ _ _ => pts_nil) (fun _ _ _ _ _ => (pe_ix (r := rIxT K) ix_tup (pv 7) pe_int (fun _ _ => rfl))))
    (pss_cons (ps_if (PW.pt (pw_or (pt_cmpR op_gt (pe_callB (r := rLenJ K) cr_lenJ (by rfl) T.f_len PySem.boot_len (pa_cons (pv 0) pa_nil)) pe_int (nomark _)) (pw_or (pt_not (pt_chain op_le op_le pe_int (pe_callB (r := rLenJ K) cr_lenJ (by rfl) T.f_len PySem.boot_len (pa_cons (pv 2) pa_nil)) pe_int)) (pw_or (pt_not (pt_val (pe_call ((ok_ascends T).mono (by decide)) hr (by rfl) T.g_ascends T.fd_ascends.kp T.bd_ascends .nil pass0 (pa_cons (pv 3) pa_nil)))) (pw_or1 (pt_not (pt_chain op_le op_le pe_int (pv 1) (pe_glob (v := .int 1000000) rfl T.i_MOST_NUMBER ⟨_, rfl⟩)))))))) (pss_one ps_never) pss_nil)
    (pss_cons (ps_for PassesOwn.never rfl (pi_tup (pv 2)) (pg_tup rfl (pgs_cons (pg_name (i := 4) sc_check_pool.nd rfl (Or.inl rfl)) (pgs_cons (pg_name (i := 5) sc_check_pool.nd rfl (Or.inl rfl)) (pgs_cons (pg_name (i := 6) sc_check_pool.nd rfl (Or.inl rfl)) pgs_nil))))
    (pss_one (ps_if (pt_not (pt_le4 pe_int (pv 5) (pv 6) (pe_glob (v := .int 1000000) rfl T.i_MOST_NUMBER ⟨_, rfl⟩))) (pss_one ps_never) pss_nil)))
    (pss_one (ps_if (pt_cmpR op_gt (pe_callB (r := rSum K) (cr_sum rfl) (by rfl) T.f_sum (by decide +kernel) (pa_cons (pe_lc (own := [("share", 7)]) rfl sc_check_pool.nd (pi_tup (pv 2)) (blkOk_by (own := [("share", 7)]) (N := sc_check_pool_N) (sc := defScope s_check_pool) (by decide +kernel)) (fun _ _ _ _ _ => (pg_name (i := 7) sc_check_pool.nd rfl (Or.inl rfl))) (fun _ _ _ _ _ => pts_nil) (fun _ _ _ _ _ => (pe_ix (r := rIxT K) ix_tup (pv 7) pe_int (fun _ _ => rfl)))) pa_nil)) (pv 1) (nomark _)) (pss_one ps_never) pss_nil)))))), ?_⟩
    walk_at "go"
    refine lc_T1 (L := ps) (ev := fun p => .ref p.1) (f := fun p => .str p.2.1) (by omega) h2 (fun Q' q => ?_) (fun x hx H' e Kt Kf kt => ?_) (fun D H' hD e hd => ?_)
    · walk_at "go"
      exact q
    · have hs : SqT K H' x.1 _ := e.t (h3 x hx)
      walk_at "go"
      exact kt _ Ex.rf
    rw [show ps.map (fun p => V.str p.2.1) = (sh.map (·.1)).map V.str from by rw [← h1, List.map_map, List.map_map] <;> rfl] at hd
    have hg1 := e.t hg
    have h21 := e.t h2
    have hlen : (ps.map fun p : Addr × Sh => V.ref p.1).length = sh.length := by rw [List.length_map, pl]
    walk_at "go"
    refine r_no (by decide) ?_
    walk_at "go"
    rw [hlen]
    refine r_d2 (fun z => ?_) (fun z => absurd z (by omega))
    walk_at "go"
    rw [show decide ((sh.length : Int) ≤ 8) = true from decide_eq_true (by omega)]
    walk_at "go"
    refine ⟨D, sh.map (·.1), rfl, .inl (.inl (.inl hd)), by rw [List.length_map]; omega, ha, fun H2 e2 => ?_⟩
    walk_at "go"
    refine r_d2 (fun z => ?_) (fun z => absurd z (by omega))
    walk_at "go"
    rw [show decide (m ≤ 1000000) = true from decide_eq_true (by omega)]
    walk_at "go"
    refine fo_T (L := ps) (ev := fun p => .ref p.1) (fun i σ' H' => Ex H2 H' ∧ ∃ z1 z2 z3 z4, σ' = [some (.ref g), some (.int m), some (.ref p), some (.ref D), z1, z2, z3, z4]) (e2.t h21) (fun Q' q => ?_) ⟨Ex.rf, none, none, none, none, rfl⟩ (fun i σ' H' q => q.1.tu) ?_ ?_
    · walk_at "go"
      exact q
    · rintro i x σ' H' hi ⟨e3, z1, z2, z3, z4, rfl⟩
      have hx := List.mem_of_getElem? hi
      have hs : SqT K H' x.1 _ := ((e.tr e2).tr e3).t (h3 x hx)
      have hb := w4 x.2 (by rw [← h1]; exact List.mem_map.mpr ⟨x, hx, rfl⟩)
      walk_at "go"
      refine ⟨_, _, rfl, rfl, hb.1, ?_⟩
      walk_at "go"
      refine ⟨_, rfl, hb.2.1, ?_⟩
      walk_at "go"
      refine ⟨_, rfl, le_nine hb.2.2, ?_⟩
      walk_at "go"
      exact ⟨e3, _, _, _, _, rfl⟩
    · rintro σ' H' ⟨e3, z1, z2, z3, z4, rfl⟩
      have h24 := ((e.tr e2).tr e3).t h2
      walk_at "go"
      refine lc_T1 (L := ps) (ev := fun p => .ref p.1) (f := fun p => .int p.2.2.1) (by omega) h24 (fun Q' q => ?_) (fun x hx H5 e5 Kt Kf kt => ?_) (fun D5 H5 hD5 e5 hd5 => ?_)
      · walk_at "go"
        exact q
      · have hs : SqT K H5 x.1 _ := (((e.tr e2).tr e3).tr e5).t (h3 x hx)
        walk_at "go"
        exact kt _ Ex.rf
      · rw [show ps.map (fun p => V.int p.2.2.1) = (sh.map (·.2.1)).map V.int from by rw [← h1, List.map_map, List.map_map] <;> rfl] at hd5
        walk_at "go"
        refine r_sum (.inl (.inl hd5)) ?_
        walk_at "go"
        refine r_no ?_ ?_
        · have w3 : (sh.map (·.2.1)).sum ≤ m := w3
          omega
        · walk_at "go"
          exact k _ (((e.tr e2).tr e3).tr e5)
theorem word_np {n : Str} {g : List Str} : ∀ {r : Rule}, isPool r = false → ¬ Lim.word ⟨n, g, r⟩ = "pool"
  | .window _ _, _ => (by decide +kernel : ¬ ("window" : Str) = "pool")
  | .span _ _, _ => (by decide +kernel : ¬ ("span" : Str) = "pool")
  | .bucket _ _, _ => (by decide +kernel : ¬ ("bucket" : Str) = "pool")
  | .gap _, _ => (by decide +kernel : ¬ ("gap" : Str) = "pool")
  | .held _, _ => (by decide +kernel : ¬ ("held" : Str) = "pool")
  | .pool _ _, z => nomatch z
theorem nums2 (T : True) {Q : Prop} {a b lo hi : Int} {i : Nat} {x y : V} (hx : ([V.int a, V.int b] : List V)[i]? = some x) (hy : ([V.int lo, V.int hi] : List V)[i]? = some y) (k : ∀ n m : Int, x = .int n → y = .int m → (n = a ∧ m = lo) ∨ (n = b ∧ m = hi) → Q) : Q := by
  match i with
  | 0 =>
    cases hx
    cases hy
    exact k _ _ rfl rfl (.inl ⟨rfl, rfl⟩)
  | 1 =>
    cases hx
    cases hy
    exact k _ _ rfl rfl (.inr ⟨rfl, rfl⟩)
  | n + 2 => cases hx
theorem nums1 (T : True) {Q : Prop} {a lo : Int} {i : Nat} {x y : V} (hx : ([V.int a] : List V)[i]? = some x) (hy : ([V.int lo] : List V)[i]? = some y) (k : ∀ n m : Int, x = .int n → y = .int m → n = a ∧ m = lo → Q) : Q := by
  match i with
  | 0 =>
    cases hx
    cases hy
    exact k _ _ rfl rfl ⟨rfl, rfl⟩
  | n + 1 => cases hx
theorem tup_apart {H : Hp} {p q : Addr} {xs : List V} {kvs : List (Key × V)} (h : H p = some (.tup xs)) (g : H q = some (.dK kvs)) : p ≠ q := fun z => by
  rw [z, g] at h
  cases h
abbrev sc_check_numbers_N : List Str := ["word", "numbers", "least", "number", "low"]
theorem sc_check_numbers : FnScope ["word", "numbers", "least", "number", "low"] ["word", "numbers"] (defScope s_check_numbers) := ⟨rfl, rfl, rfl, by decide +kernel, rfl, by decide +kernel, by decide +kernel⟩
theorem ok_check_numbers (T : Tx w K mg) : OkD P w K mg base ("check_numbers", none) 1 ["word", "numbers"] (spCheckNums K) := by
  refine (T.fd_check_numbers).ok sc_check_numbers (fun vs H Q E h => ?_) (fun cdv A outer s H vs Q E hr h => ?_)
  · obtain ⟨p, n, g, r, wd, rfl, _⟩ := h
    rfl
  · obtain ⟨p, n, g, r, wd, rfl, hw, hp, wn, np, k⟩ := h
    refine ⟨_, (PSs.nox (pss_cons (ps_set (i := 2) sc_check_numbers.nd rfl (Or.inl rfl) (pe_dget (hu_of hr) (pe_disp (pps_cons pe_str (pe_tup (pa_cons pe_int (pa_cons pe_int pa_nil))) (pps_cons pe_str (pe_tup (pa_cons pe_int (pa_cons pe_int pa_nil))) (pps_cons pe_str (pe_tup (pa_cons pe_int (pa_cons pe_int pa_nil))) (pps_cons pe_str (pe_tup (pa_cons pe_int pa_nil)) (pps_cons pe_str (pe_tup (pa_cons pe_int pa_nil)) pps_nil))))) (by rfl) (by rfl) (fun z => by cases z) (by decide)) (pv 0) (fun _ _ => rfl)))
    (pss_one (ps_for PassesOwn.never rfl (pi_zipA (by rfl) T.f_zip (pa_cons (pv 1) (pa_cons (pv 2) pa_nil))) (pg_tup rfl (pgs_cons (pg_name (i := 3) sc_check_numbers.nd rfl (Or.inl rfl)) (pgs_cons (pg_name (i := 4) sc_check_numbers.nd rfl (Or.inl rfl)) pgs_nil)))
    (pss_one (ps_if (pt_not (pt_chain op_le op_le (pv 4) (pv 3) (pe_glob (v := .int 1000000) rfl T.i_MOST_NUMBER ⟨_, rfl⟩))) (pss_one ps_never) pss_nil)))))), ?_⟩
    walk_at "go"
    intro d H1 n1 e1 hd
    walk_at "go"
    refine r_newT (fun p1 H2 n2 e2 h1 => ?_)
    walk_at "go"
    refine r_newT (fun p2 H3 n3 e3 h2 => ?_)
    walk_at "go"
    refine r_newT (fun p3 H4 n4 e4 h3 => ?_)
    walk_at "go"
    refine r_newT (fun p4 H5 n5 e5 h4 => ?_)
    walk_at "go"
    refine r_newT (fun p5 H6 n6 e6 h5 => ?_)
    walk_at "go"
    have hd2 := e2 _ _ hd
    have hd3 := e3 _ _ hd2
    have hd4 := e4 _ _ hd3
    have hd5 := e5 _ _ hd4
    have hd6 := e6 _ _ hd5
    refine ⟨hd6, [(Sum.inr "window", .ref p1), (Sum.inr "span", .ref p2), (Sum.inr "bucket", .ref p3), (Sum.inr "gap", .ref p4), (Sum.inr "held", .ref p5)], rfl, Nat.le_of_ble_eq_true rfl, ?_⟩
    have e16 := e1.tr (e2.tr (e3.tr (e4.tr (e5.tr e6))))
    have q1 := (upd_ne (o := .dK (mergeK [] [((Sum.inr "window" : Key), V.ref p1), (Sum.inr "span", .ref p2), (Sum.inr "bucket", .ref p3), (Sum.inr "gap", .ref p4), (Sum.inr "held", .ref p5)])) (tup_apart h1 hd2)).trans (e6 _ _ (e5 _ _ (e4 _ _ (e3 _ _ h1))))
    have q2 := (upd_ne (o := .dK (mergeK [] [((Sum.inr "window" : Key), V.ref p1), (Sum.inr "span", .ref p2), (Sum.inr "bucket", .ref p3), (Sum.inr "gap", .ref p4), (Sum.inr "held", .ref p5)])) (tup_apart h2 hd3)).trans (e6 _ _ (e5 _ _ (e4 _ _ h2)))
    have q3 := (upd_ne (o := .dK (mergeK [] [((Sum.inr "window" : Key), V.ref p1), (Sum.inr "span", .ref p2), (Sum.inr "bucket", .ref p3), (Sum.inr "gap", .ref p4), (Sum.inr "held", .ref p5)])) (tup_apart h3 hd4)).trans (e6 _ _ (e5 _ _ h3))
    have q4 := (upd_ne (o := .dK (mergeK [] [((Sum.inr "window" : Key), V.ref p1), (Sum.inr "span", .ref p2), (Sum.inr "bucket", .ref p3), (Sum.inr "gap", .ref p4), (Sum.inr "held", .ref p5)])) (tup_apart h4 hd5)).trans (e6 _ _ h4)
    have q5 := (upd_ne (o := .dK (mergeK [] [((Sum.inr "window" : Key), V.ref p1), (Sum.inr "span", .ref p2), (Sum.inr "bucket", .ref p3), (Sum.inr "gap", .ref p4), (Sum.inr "held", .ref p5)])) (tup_apart h5 hd6)).trans h5
    have eF := e16.mt (o := .dK (mergeK [] [((Sum.inr "window" : Key), V.ref p1), (Sum.inr "span", .ref p2), (Sum.inr "bucket", .ref p3), (Sum.inr "gap", .ref p4), (Sum.inr "held", .ref p5)])) n1
    generalize hHF : upd H6 d (.dK (mergeK [] [((Sum.inr "window" : Key), V.ref p1), (Sum.inr "span", .ref p2), (Sum.inr "bucket", .ref p3), (Sum.inr "gap", .ref p4), (Sum.inr "held", .ref p5)])) = HF at q1 q2 q3 q4 q5 eF ⊢
    have qd : HF d = some (.dK (mergeK [] [((Sum.inr "window" : Key), V.ref p1), (Sum.inr "span", .ref p2), (Sum.inr "bucket", .ref p3), (Sum.inr "gap", .ref p4), (Sum.inr "held", .ref p5)])) := by
      rw [← hHF]
      exact upd_same
    walk_at "go"
    cases r with
    | pool m sh => cases np
    | window m l =>
      obtain rfl : wd = "window" := hw
      have hn : SqT K HF p [.int m, .int l] := eF.t hp
      obtain ⟨w1, w2, w3, w4⟩ := wn
      refine r_dget1 (v := .ref p1) qd (by kernel_rfl) ?_
      walk_at "go"
      with_reducible refine r_fo0 ?_
      refine fo_Z (a := p) (b := p1) (xs := [.int m, .int l]) (ys := [.int 0, .int 1]) (fun i σ' H' => Ex HF H' ∧ ∃ z1 z2, σ' = [some (.str "window"), some (.ref p), some (.ref p1), z1, z2]) rfl (fun QA q => ?_) hn (.inl (.inl q1)) ⟨Ex.rf, none, none, rfl⟩ (fun i σ' H' q => ⟨q.1.t hn, q.1.t (.inl (.inl q1))⟩) ?_ ?_
      · walk_at "go"
        exact q
      · rintro i x y t σ' H' hx hy ⟨e, z1, z2, rfl⟩ nt
        have hT : (upd H' t (.tup [x, y])) t = some (.tup [x, y]) := upd_same
        refine nums2 trivial hx hy fun a b ea eb hab => ?_
        subst ea
        subst eb
        walk_at "go"
        refine r_d2 (fun z => ?_) (fun z => absurd z (by omega))
        walk_at "go"
        rw [show decide (a ≤ 1000000) = true from decide_eq_true (by omega)]
        walk_at "go"
        exact ⟨e.tr (Ex.nw nt), _, _, rfl⟩
      · rintro σ' H' ⟨e, z1, z2, rfl⟩
        exact k _ (eF.tr e)
    | span m l =>
      obtain rfl : wd = "span" := hw
      have hn : SqT K HF p [.int m, .int l] := eF.t hp
      obtain ⟨w1, w2, w3, w4⟩ := wn
      refine r_dget1 (v := .ref p2) qd (by kernel_rfl) ?_
      walk_at "go"
      with_reducible refine r_fo0 ?_
      refine fo_Z (a := p) (b := p2) (xs := [.int m, .int l]) (ys := [.int 0, .int 1]) (fun i σ' H' => Ex HF H' ∧ ∃ z1 z2, σ' = [some (.str "span"), some (.ref p), some (.ref p2), z1, z2]) rfl (fun QA q => ?_) hn (.inl (.inl q2)) ⟨Ex.rf, none, none, rfl⟩ (fun i σ' H' q => ⟨q.1.t hn, q.1.t (.inl (.inl q2))⟩) ?_ ?_
      · walk_at "go"
        exact q
      · rintro i x y t σ' H' hx hy ⟨e, z1, z2, rfl⟩ nt
        have hT : (upd H' t (.tup [x, y])) t = some (.tup [x, y]) := upd_same
        refine nums2 trivial hx hy fun a b ea eb hab => ?_
        subst ea
        subst eb
        walk_at "go"
        refine r_d2 (fun z => ?_) (fun z => absurd z (by omega))
        walk_at "go"
        rw [show decide (a ≤ 1000000) = true from decide_eq_true (by omega)]
        walk_at "go"
        exact ⟨e.tr (Ex.nw nt), _, _, rfl⟩
      · rintro σ' H' ⟨e, z1, z2, rfl⟩
        exact k _ (eF.tr e)
    | bucket m l =>
      obtain rfl : wd = "bucket" := hw
      have hn : SqT K HF p [.int m, .int l] := eF.t hp
      obtain ⟨w1, w2, w3, w4⟩ := wn
      refine r_dget1 (v := .ref p3) qd (by kernel_rfl) ?_
      walk_at "go"
      with_reducible refine r_fo0 ?_
      refine fo_Z (a := p) (b := p3) (xs := [.int m, .int l]) (ys := [.int 0, .int 1]) (fun i σ' H' => Ex HF H' ∧ ∃ z1 z2, σ' = [some (.str "bucket"), some (.ref p), some (.ref p3), z1, z2]) rfl (fun QA q => ?_) hn (.inl (.inl q3)) ⟨Ex.rf, none, none, rfl⟩ (fun i σ' H' q => ⟨q.1.t hn, q.1.t (.inl (.inl q3))⟩) ?_ ?_
      · walk_at "go"
        exact q
      · rintro i x y t σ' H' hx hy ⟨e, z1, z2, rfl⟩ nt
        have hT : (upd H' t (.tup [x, y])) t = some (.tup [x, y]) := upd_same
        refine nums2 trivial hx hy fun a b ea eb hab => ?_
        subst ea
        subst eb
        walk_at "go"
        refine r_d2 (fun z => ?_) (fun z => absurd z (by omega))
        walk_at "go"
        rw [show decide (a ≤ 1000000) = true from decide_eq_true (by omega)]
        walk_at "go"
        exact ⟨e.tr (Ex.nw nt), _, _, rfl⟩
      · rintro σ' H' ⟨e, z1, z2, rfl⟩
        exact k _ (eF.tr e)
    | gap m =>
      obtain rfl : wd = "gap" := hw
      have hn : SqT K HF p [.int m] := eF.t hp
      obtain ⟨w1, w2⟩ := wn
      refine r_dget1 (v := .ref p4) qd (by kernel_rfl) ?_
      walk_at "go"
      with_reducible refine r_fo0 ?_
      refine fo_Z (a := p) (b := p4) (xs := [.int m]) (ys := [.int 1]) (fun i σ' H' => Ex HF H' ∧ ∃ z1 z2, σ' = [some (.str "gap"), some (.ref p), some (.ref p4), z1, z2]) rfl (fun QA q => ?_) hn (.inl (.inl q4)) ⟨Ex.rf, none, none, rfl⟩ (fun i σ' H' q => ⟨q.1.t hn, q.1.t (.inl (.inl q4))⟩) ?_ ?_
      · walk_at "go"
        exact q
      · rintro i x y t σ' H' hx hy ⟨e, z1, z2, rfl⟩ nt
        have hT : (upd H' t (.tup [x, y])) t = some (.tup [x, y]) := upd_same
        refine nums1 trivial hx hy fun a b ea eb hab => ?_
        subst ea
        subst eb
        walk_at "go"
        refine r_d2 (fun z => ?_) (fun z => absurd z (by omega))
        walk_at "go"
        rw [show decide (a ≤ 1000000) = true from decide_eq_true (by omega)]
        walk_at "go"
        exact ⟨e.tr (Ex.nw nt), _, _, rfl⟩
      · rintro σ' H' ⟨e, z1, z2, rfl⟩
        exact k _ (eF.tr e)
    | held m =>
      obtain rfl : wd = "held" := hw
      have hn : SqT K HF p [.int m] := eF.t hp
      obtain ⟨w1, w2⟩ := wn
      refine r_dget1 (v := .ref p5) qd (by kernel_rfl) ?_
      walk_at "go"
      with_reducible refine r_fo0 ?_
      refine fo_Z (a := p) (b := p5) (xs := [.int m]) (ys := [.int 0]) (fun i σ' H' => Ex HF H' ∧ ∃ z1 z2, σ' = [some (.str "held"), some (.ref p), some (.ref p5), z1, z2]) rfl (fun QA q => ?_) hn (.inl (.inl q5)) ⟨Ex.rf, none, none, rfl⟩ (fun i σ' H' q => ⟨q.1.t hn, q.1.t (.inl (.inl q5))⟩) ?_ ?_
      · walk_at "go"
        exact q
      · rintro i x y t σ' H' hx hy ⟨e, z1, z2, rfl⟩ nt
        have hT : (upd H' t (.tup [x, y])) t = some (.tup [x, y]) := upd_same
        refine nums1 trivial hx hy fun a b ea eb hab => ?_
        subst ea
        subst eb
        walk_at "go"
        refine r_d2 (fun z => ?_) (fun z => absurd z (by omega))
        walk_at "go"
        rw [show decide (a ≤ 1000000) = true from decide_eq_true (by omega)]
        walk_at "go"
        exact ⟨e.tr (Ex.nw nt), _, _, rfl⟩
      · rintro σ' H' ⟨e, z1, z2, rfl⟩
        exact k _ (eF.tr e)
abbrev sc_check_limit_N : List Str := ["limit", "name", "word", "groups", "numbers", "share"]
theorem sc_check_limit : FnScope ["limit", "name", "word", "groups", "numbers", "share"] ["limit"] (defScope s_check_limit) := ⟨rfl, rfl, rfl, by decide +kernel, rfl, by decide +kernel, by decide +kernel⟩
theorem ok_check_limit (T : Tx w K mg) : OkD P w K mg base ("check_limit", none) 3 ["limit"] (spCheckLim K) := by
  refine (T.fd_check_limit).ok sc_check_limit (fun vs H Q E h => ?_) (fun cdv A outer s H vs Q E hr h => ?_)
  · obtain ⟨a, L, rfl, _⟩ := h
    rfl
  · obtain ⟨a, ⟨nm, gs, r⟩, rfl, hL, bk, k⟩ := h
    obtain ⟨ga, na, h1, h2, h3⟩ := hL
    have gl : gs.length ≤ 8 := bk.wf.sm.g
    have hgl : (gs.map V.str).length = gs.length := List.length_map ..
    generalize hw : (⟨nm, gs, r⟩ : Lim).word = wd at h1
    have h1 : SqT K H a [.str nm, .str wd, .ref ga, .ref na] := h1
    refine ⟨_, (PSs.nox (pss_cons (ps_if (pt_cmpR op_ne (pe_callB (r := rLenJ K) cr_lenJ (by rfl) T.f_len PySem.boot_len (pa_cons (pv 0) pa_nil)) pe_int (nomark _)) (pss_one ps_never) pss_nil)
    (pss_cons (ps_asg (pv 0) (pg_tup rfl (pgs_cons (pg_name (i := 1) sc_check_limit.nd rfl (Or.inl rfl)) (pgs_cons (pg_name (i := 2) sc_check_limit.nd rfl (Or.inl rfl)) (pgs_cons (pg_name (i := 3) sc_check_limit.nd rfl (Or.inl rfl)) (pgs_cons (pg_name (i := 4) sc_check_limit.nd rfl (Or.inl rfl)) pgs_nil))))))
    (pss_cons (ps_expr (pe_call ((ok_check_names T).mono (by decide)) hr (by rfl) T.g_check_names T.fd_check_names.kp T.bd_check_names .nil pass0 (pa_cons (pe_op op_catA (pe_tup (pa_cons (pv 1) pa_nil)) (pv 3)) pa_nil)))
    (pss_cons (ps_if (pt_not (pt_val (pe_call ((ok_has_form T).mono (by decide)) hr (by rfl) T.g_has_form T.fd_has_form.kp T.bd_has_form .nil pass0 (pa_cons (pv 2) (pa_cons (pv 4) pa_nil))))) (pss_one ps_never) pss_nil)
    (pss_cons (ps_if (pt_cmpR op_eq (pv 2) pe_str (nomark _)) (pss_cons (ps_expr (pe_call ((ok_check_names T).mono (by decide)) hr (by rfl) T.g_check_names T.fd_check_names.kp T.bd_check_names .nil pass0 (pa_cons (pe_lc (own := [("share", 5)]) rfl sc_check_limit.nd (pi_tup (pe_ix (r := rIxT K) ix_tup (pv 4) pe_int (fun _ _ => rfl))) (blkOk_by (own := [("share", 5)]) (N := sc_check_limit_N) (sc := defScope s_check_limit) (by decide +kernel)) (fun _ _ _ _ _ => (pg_name (i := 5) sc_check_limit.nd rfl (Or.inl rfl))) (fun _ _ _ _ _ => pts_nil) (fun _ _ _ _ _ => (pe_ix (r := rIxT K) ix_tup (pv 5) pe_int (fun _ _ => rfl)))) pa_nil)))
    (pss_cons (ps_expr (pe_call ((ok_check_pool T).mono (by decide)) hr (by rfl) T.g_check_pool T.fd_check_pool.kp T.bd_check_pool .nil pass0 (pa_cons (pv 3) (pa_cons (pe_ix (r := rIxT K) ix_tup (pv 4) pe_int (fun _ _ => rfl)) (pa_cons (pe_ix (r := rIxT K) ix_tup (pv 4) pe_int (fun _ _ => rfl)) pa_nil)))))
    (pss_one ps_retN))) pss_nil)
    (pss_cons (ps_if (PW.pt (pw_or (pt_cmpR op_gt (pe_callB (r := rLenJ K) cr_lenJ (by rfl) T.f_len PySem.boot_len (pa_cons (pv 3) pa_nil)) pe_int (nomark _)) (pw_or1 (pt_not (pt_val (pe_call ((ok_ascends T).mono (by decide)) hr (by rfl) T.g_ascends T.fd_ascends.kp T.bd_ascends .nil pass0 (pa_cons (pv 3) pa_nil))))))) (pss_one ps_never) pss_nil)
    (pss_one (ps_expr (pe_call ((ok_check_numbers T).mono (by decide)) hr (by rfl) T.g_check_numbers T.fd_check_numbers.kp T.bd_check_numbers .nil pass0 (pa_cons (pv 2) (pa_cons (pv 4) pa_nil)))))))))))), ?_⟩
    walk_at "go"
    refine r_nno rfl ?_
    walk_at "go"
    refine r_newT (fun p1 H1 n1 e1 hp1 => ?_)
    walk_at "go"
    refine r_catT (.inl (.inl hp1)) (e1.t h2) (by rw [hgl]; simp; omega) (fun p2 H2 e2 hp2 => ?_)
    walk_at "go"
    refine ⟨p2, nm :: gs, rfl, .inr hp2, fun n hn => ?_, fun H3 e3 => ?_⟩
    · rcases List.mem_cons.mp hn with rfl | z
      · exact bk.nm
      · exact bk.gs n z
    have e03 := e1.tr (e2.tr e3)
    walk_at "go"
    refine ⟨na, nm, gs, r, wd, rfl, hw.symm, e03.tu.num h3, bk.wf.num, fun H4 e4 => ?_⟩
    have e04 := e03.tr e4
    have h24 := e04.t h2
    walk_at "go"
    cases r with
    | pool m sh =>
      obtain rfl : wd = "pool" := hw.symm
      obtain ⟨b1, b2, b3⟩ := bk.pl m sh rfl
      have b1 : gs = [] := b1
      subst b1
      have h34 : NumAt K H4 na (.pool m sh) := e04.tu.num h3
      obtain ⟨sa, s1, s2⟩ := h34
      have s20 := s2
      obtain ⟨ps, t1, t2, t3⟩ := s2
      have ls : sh.length ≤ 8 := bk.wf.num.2.2.2.2.2.2
      have pl : ps.length = sh.length := by rw [← List.length_map (f := fun p : Addr × Sh => p.2), t1]
      walk_at "go"
      refine lc_T1 (L := ps) (ev := fun p => .ref p.1) (f := fun p => .str p.2.1) (by omega) t2 (fun Q' q => ?_) (fun x hx H' e Kt Kf kt => ?_) (fun D H5 hD e5 hd => ?_)
      · walk_at "go"
        exact q
      · have hs : SqT K H' x.1 _ := e.t (t3 x hx)
        walk_at "go"
        exact kt _ Ex.rf
      rw [show ps.map (fun p => V.str p.2.1) = (sh.map (·.1)).map V.str from by rw [← t1, List.map_map, List.map_map] <;> rfl] at hd
      walk_at "go"
      refine ⟨D, sh.map (·.1), rfl, .inl (.inl (.inl hd)), fun n hn => ?_, fun H6 e6 => ?_⟩
      · obtain ⟨x, hx, rfl⟩ := List.mem_map.mp hn
        exact b2 x hx
      have s15 := (e5.tr e6).t s1
      walk_at "go"
      exact ⟨ga, sa, m, sh, rfl, (e5.tr e6).t h24, (e5.tr e6).shs s20, bk.wf.num, b3, fun H7 e7 => k _ (e04.tr ((e5.tr e6).tr e7))⟩
    | _ =>
      rw [← hw]
      refine r_strN (word_np rfl) ?_
      walk_at "go"
      rw [hgl]
      refine r_no (by omega) ?_
      walk_at "go"
      refine ⟨ga, gs, rfl, .inr h24, gl, bk.asc, fun H5 e5 => ?_⟩
      walk_at "go"
      exact ⟨na, nm, gs, _, _, rfl, rfl, (e04.tr e5).tu.num h3, bk.wf.num, rfl, fun H6 e6 => k _ (e04.tr (e5.tr e6))⟩
end
end Lw
end
section
set_option maxRecDepth 100000
set_option maxHeartbeats 4000000
namespace Lw
open PySem PySem.Spec PyProof.Rows
/-! ### set of a list of texts that differ -/
abbrev KS' (prg : Program) (wo : World) := PySem.strKind prg wo
section
variable {prg : Program} {wo : World} {Ar : Around} {Rr : Result → Shared → Prop} {itA : Addr} {foot wrt : List Addr} {Gn : Array GenState → Array GenState → Prop} {m : Nat} {Pw : Nat → Value → Prop} {Sw : Nat → Shared → Prop}
theorem any_next {ws : List Str} {i : Nat} {z : Str} (hz : ws[i]? = some z) (j : Str) : (ws.take (i + 1)).any (· == j) = ((ws.take i).any (· == j) || decide (j = z)) := by
  rw [List.take_add_one, hz, List.any_append]
  by_cases q : j = z
  · subst q
    simp
  · have ne : (z == j) = false := beq_eq_false_iff_ne.mpr fun h => q h.symm
    simp [ne, q]
theorem not_met {ws : List Str} (nd : ws.Nodup) {i : Nat} {z : Str} (hz : ws[i]? = some z) : (ws.take i).any (· == z) = false := by
  rw [List.any_eq_false]
  intro y hy hyz
  have yz : y = z := eq_of_beq hyz
  subst yz
  obtain ⟨j, hj, e⟩ := List.mem_iff_getElem.mp hy
  rw [List.length_take] at hj
  rw [List.getElem_take] at e
  obtain ⟨hi, e2⟩ := List.getElem?_eq_some_iff.mp hz
  exact List.pairwise_iff_getElem.mp nd j i (by omega) hi (by omega) (e.trans e2.symm)
theorem loop_texts (Wk : WalksS prg wo Ar.in1 itA foot wrt Gn m Pw Sw) (stA : Addr) (apart : stA ∉ foot) (ws : List Str) (nd : ws.Nodup) (len : ws.length = m) (bnd : m + 1 < scanBound)
    (vals : ∀ i v, Pw i v → ∃ tk, v = .str (ws.getD i Str.empty) tk) :
    ∀ (left i : Nat) (sh : Shared), m - i = left → i ≤ m → Sw i sh → sh.heap.SetOf (KS' prg wo) stA (fun y => (ws.take i).any (· == y)) i →
      (∀ sh2, Moved (stA :: wrt) Gn sh sh2 → sh2.heap.SetOf (KS' prg wo) stA (fun y => (ws.take m).any (· == y)) m → Rr (.ok (.ret .none)) sh2) →
      codeAny (model prg wo) Ar (.builtin "set.update.loop" ⟨[.ref stA, .ref itA], []⟩) Rr sh := by
  have apart2 : stA ∉ wrt := fun z => apart (Wk.sub _ z)
  have more : ∀ b ∈ wrt, b ∈ stA :: wrt := fun _ z => List.mem_cons_of_mem _ z
  intro left
  induction left with
  | zero =>
    intro i sh hl hi st setI fin
    obtain rfl : i = m := by omega
    refine codeAny_builtin PyProof.Rows.F.entry_set_update_loop ?_
    rw [Around.under_plainId PyProof.Rows.F.plain_set_update_loop _]
    show wpAny _ Ar.in1 (pyNext (.ref itA) >>= _) _ _ sh
    refine wpAny_bind (Wk.done sh _ _ st fun sh2 mv => ?_)
    show wpAny _ Ar.in1 (ret Value.none) _ _ sh2
    refine wpAny_pure (fin sh2 (mv.mono more) ?_)
    obtain ⟨ob, es, ep, tb, hob, rst⟩ := setI
    exact ⟨ob, es, ep, tb, mv.heap stA _ apart2 hob, rst⟩
  | succ left ih =>
    intro i sh hl hi st setI fin
    have lt : i < m := by omega
    obtain ⟨z, hz⟩ : ∃ z, ws[i]? = some z := ⟨ws[i], List.getElem?_eq_getElem (by omega)⟩
    refine codeAny_builtin PyProof.Rows.F.entry_set_update_loop ?_
    rw [Around.under_plainId PyProof.Rows.F.plain_set_update_loop _]
    show wpAny _ Ar.in1 (pyNext (.ref itA) >>= _) _ _ sh
    refine wpAny_bind (Wk.item i sh _ _ lt st fun v sh2 pv st2 mv => ?_)
    obtain ⟨tk, rfl⟩ := vals i v pv
    have gz : ws.getD i Str.empty = z := by rw [List.getD_eq_getElem?_getD, hz] <;> rfl
    rw [gz]
    have set2 : sh2.heap.SetOf (KS' prg wo) stA (fun y => (ws.take i).any (· == y)) i := by
      obtain ⟨ob, es, ep, tb, hob, rst⟩ := setI
      exact ⟨ob, es, ep, tb, mv.heap stA _ apart2 hob, rst⟩
    show wpAny _ Ar.in1 (holding [Value.str z tk] (setAdd stA (.str z tk)) >>= _) _ _ sh2
    refine wpAny_bind (wpAny_holding ?_)
    unfold setAdd
    refine wpAny_holding ?_
    refine wpAny_bind ((KS' prg wo).pyHash (k := z) (strKind_is _ _ _ _) ?_)
    refine wpAny_setAddHashed_of (knd := KS' prg wo) (s := { sh2 with toks := sh2.toks + 1 }) (strKind_is _ _ _ _) rfl set2 (by omega) fun hp sb set3 => ?_
    have set4 : hp.SetOf (KS' prg wo) stA (fun y => (ws.take (i + 1)).any (· == y)) (i + 1) :=
      SetOf_congr set3 (fun y => (any_next hz y).symm) (if_neg (by rw [not_met nd hz]; exact Bool.false_ne_true))
    refine wpAny_pure ⟨plainId_quiet PyProof.Rows.F.plain_set_update_loop _, ih (i + 1) _ (by omega) lt (Wk.frame _ sh2 _ _ st2 (Nat.le_succ _) fun b hb o e => ?_) set4 fun sh3 mv3 set5 => ?_⟩
    · rw [sb.2 b fun q : b = stA => apart (q ▸ hb)]
      exact e
    · refine fin sh3 (Moved.trans Wk.gtrans ((mv.mono more).then_heap (Nat.le_succ _) fun b o hb e => ?_) mv3) set5
      rw [sb.2 b fun q : b = stA => hb (q ▸ List.mem_cons_self)]
      exact e
end
section
variable {prg : Program} {wo : World} {Ar : Around} {Er : Value → Shared → Prop} {sh : Shared}
set_option maxHeartbeats 3200000 in
theorem call_set_texts {la : Addr} {cells : Array Value} {ws : List Str} {Qv : Value → Shared → Prop} (calm : Ar.handled = none) (isl : sh.heap.IsList la cells) (txs : PyProof.Rows.StrsAre cells.toList ws) (nd : ws.Nodup) (bnd : cells.size + 1 < scanBound)
    (fin : ∀ (hp : Heap) (tk : Nat), hp.SetOf (KS' prg wo) sh.heap.objs.size (fun y => (ws.take cells.size).any (· == y)) cells.size →
      (∀ b o, b < sh.heap.objs.size → sh.heap.get? b = some o → hp.get? b = some o) → Qv (.ref sh.heap.objs.size) { sh with heap := hp, toks := tk }) :
    wpAny (model prg wo) Ar (call (.type "set") [.ref la]) Qv Er sh := by
  obtain ⟨cl, rest, mro⟩ := PySem.F.called_set.mro
  have made1 := PySem.F.called_set.made
  have sub1 := PySem.F.called_set.sub
  refine wpAny_call (codeAny_of_tree ?_)
  show wpAny _ _ (callAny (.type "set") _) _ _ _
  refine wpAny_pure ⟨Code.quiet_builtin _ (by decide +kernel), codeAny_builtin PySem.F.entry_type_call ?_⟩
  rw [Around.under_plain (weight_type_call_type "set" [.ref la] []) rfl]
  have nt := PySem.F.called_set.notType
  have cc := PySem.F.called_set.canCreate
  have tc := PySem.F.typeCall_set_1 (.ref la)
  repeat (any_goals (first | assumption | wp_step))
  refine codeAny_mono (code_set_new_1 (.ref la) (E := Er) (Q₁ := fun ob sh1 => ∃ led : Bool, ob = .ref sh.heap.objs.size ∧ sh1 = { sh with heap := sh.heap.push { cls := .type "set", dict := none, data := .set #[] 0 (.fresh 0 0 led) } }) fun led => ⟨led, rfl, rfl⟩) fun r sh1 hr => ?_
  cases r with
  | error e => exact hr
  | ok fl =>
    cases fl with
    | ret ob =>
      obtain ⟨led, rfl, rfl⟩ := hr
      have atS : (sh.heap.push { cls := .type "set", dict := none, data := .set #[] 0 (.fresh 0 0 led) }).get? sh.heap.objs.size = some { cls := .type "set", dict := none, data := .set #[] 0 (.fresh 0 0 led) } := Heap.get?_push_size _ rfl
      have tyS : Shared.TypeIs { sh with heap := sh.heap.push { cls := .type "set", dict := none, data := .set #[] 0 (.fresh 0 0 led) } } (.ref sh.heap.objs.size) "set" := ⟨_, atS, rfl⟩
      have il := PySem.F.called_set.init.lookup
      have ib := PySem.F.called_set.init.bind (.ref sh.heap.objs.size)
      repeat (any_goals (first | assumption | wp_step))
      refine codeAny_mono (codeAny_call_builtin (R := wants (fun r sh2 => r = .none ∧ ∃ hp tk, sh2 = { sh with heap := hp, toks := tk } ∧ hp.SetOf (KS' prg wo) sh.heap.objs.size (fun y => (ws.take cells.size).any (· == y)) cells.size ∧
          (∀ b o, b < sh.heap.objs.size → sh.heap.get? b = some o → hp.get? b = some o)) Er) PySem.F.called_set.init.plain PySem.F.entry_set_init (check_set_init_1 tyS ?_)) fun r2 sh2 hr2 => ?_
      · obtain ⟨lo, hlo, lc, ln, ld⟩ := isl
        obtain ⟨c1, c2, c3, c4⟩ := lo
        simp only at lc ld
        subst lc; subst ld
        have hlo2 : (sh.heap.push { cls := .type "set", dict := none, data := .set #[] 0 (.fresh 0 0 led) }).get? la = some { cls := .type "list", dict := c2, data := .seq cells ln, slots := c4 } := Heap.get?_push_of_some _ hlo
        have s1 := PySem.F.sub_list_set
        have s2 := PySem.F.sub_list_frozenset
        have nd2 : (Value.type "list" == Value.type "dict") = false := by decide
        have il2 : (sh.heap.push { cls := .type "set", dict := none, data := .set #[] 0 (.fresh 0 0 led) }).IsList la cells := ⟨_, hlo2, rfl, ln, rfl⟩
        unfold Builtin.«set.__init__» noKeywords Builtin.Frozenset.updateFrom
        generalize gp : pyIter = PyI
        wp_walk
        subst gp
        refine wpAny_pyIter_list il2 ?_
        refine wpAny_bind (wpAny_runValue ?_)
        have below : la < sh.heap.objs.size := Heap.lt_size hlo
        have calm3 : Ar.in1.in1.in1.handled = none := by simp [calm]
        have ne1 : la ≠ (sh.heap.push { cls := .type "set", dict := none, data := .set #[] 0 (.fresh 0 0 led) }).objs.size := by
          rw [Heap.size_push]
          exact Nat.ne_of_lt (Nat.lt_succ_of_lt below)
        have ap : sh.heap.objs.size ∉ [(sh.heap.push { cls := .type "set", dict := none, data := .set #[] 0 (.fresh 0 0 led) }).objs.size, la] := by
          rw [Heap.size_push]
          simp only [List.mem_cons, List.mem_singleton, List.not_mem_nil, or_false, not_or]
          exact ⟨Nat.ne_of_lt (Nat.lt_succ_self _), Nat.ne_of_gt below⟩
        have wl : ws.length = cells.size := by rw [← StrsAre.len_eq txs, Array.length_toList]
        have vs : ∀ (i : Nat) (v : Value), cells[i]? = some v → ∃ tk, v = .str (ws.getD i Str.empty) tk := fun i v hv => SS.strs_at txs i v (by rw [Array.getElem?_toList]; exact hv)
        refine loop_texts ((Walks.list calm3 _ la ne1 cells).toS) sh.heap.objs.size ap ws nd wl bnd vs (cells.size - 0) 0 _ (by omega) (Nat.zero_le _) ⟨⟨_, Heap.get?_push_size _ rfl, rfl, rfl⟩, (il2.push _)⟩ ?first ?last
        case first =>
          have g : ((sh.heap.push { cls := .type "set", dict := none, data := .set #[] 0 (.fresh 0 0 led) }).push { cls := .type "list_iterator", data := .fields #[.ref la, .int 0 0] }).get? sh.heap.objs.size = some { cls := .type "set", dict := none, data := .set #[] 0 (.fresh 0 0 led) } := Heap.get?_push_of_some _ atS
          exact SetOf_congr ((PyProof.Rows.setObjOf_fresh (knd := KS' prg wo) led).setOf g (by unfold scanBound; omega)) (fun _ => rfl) rfl
        case last =>
          intro sh3 mv set3
          obtain ⟨h3, g3, d3, t3, o3⟩ := sh3
          obtain rfl : g3 = sh.gens := mv.gens
          obtain rfl : d3 = sh.drawn := mv.drawn
          obtain rfl : o3 = sh.os := mv.os
          show wpAny _ _ _ _ _ _
          refine wpAny_pure ?_
          show wpAny _ _ (ret Value.none) _ _ _
          refine wpAny_pure ⟨rfl, h3, t3, rfl, set3, fun b o hb e => ?_⟩
          refine mv.heap b o ?_ (Heap.get?_push_of_some _ (Heap.get?_push_of_some _ e))
          rw [Heap.size_push]
          simp only [List.mem_cons, List.mem_singleton, List.not_mem_nil, or_false, not_or]
          exact ⟨Nat.ne_of_lt hb, Nat.ne_of_lt (Nat.lt_succ_of_lt hb)⟩
      · cases r2 with
        | error e => exact hr2
        | ok fl2 =>
          cases fl2 with
          | ret r =>
            obtain ⟨rfl, hp, tk, rfl, set9, old9⟩ := hr2
            repeat (any_goals (first | assumption | wp_step))
            exact fin _ _ set9 old9
          | _ => exact hr2.elim
    | _ => exact hr.elim
end
section
open L2
variable {X : Cx}
/-- len(set(xs)), xs a list of texts that differ -/
def tLenTx (K : PySem.W.Frag) (ta : TE) : TE := fun σ H Q => ta σ H fun x H1 => ∃ (la : Addr) (ws : List Str), x = .ref la ∧ SqL K H1 la (ws.map V.str) ∧ ws.Nodup ∧ ws.length ≤ 100 ∧ KQ Q (.int ws.length) H1
theorem pe_lenTx {a : Expr} {ta : TE} {p p2 q pos : Pos} (calm : X.calm = true) (g1 : Gl X "len") (n1 : X.mg "len" = none) (g2 : Gl X "set") (n2 : X.mg "set" = none) (ha : PE X a ta)
    (na : starEach [a] X.env = (false, eval a X.env) :: starEach [] X.env := by rfl) : PE X (.Call (.Name "len" p) [.Call (.Name "set" p2) [a] [] q] [] pos) (tLenTx X.K ta) := by
  refine ⟨fun pins sh σ H Q inv h => ?_⟩
  refine Call_ (ld_blt inv g1 n1 PySem.boot_len ?_)
  refine PyProof.Rows.callWith_builtin1 (PyProof.Rows.args_cons ?_ rfl) rfl rfl
  refine Call_ (ld_blt inv g2 n2 boot_set ?_)
  refine PyProof.Rows.callWith_type1 (PyProof.Rows.args_cons (thn (ha.run pins sh σ H _ inv h) fun v s1 ⟨x, H1, i1, r1, q1⟩ => PyProof.Rows.args_nil ?_) na) na rfl
  obtain ⟨la, ws, rfl, hq, nd, hl, q1⟩ := q1
  cases r1
  obtain ⟨its, r, pl, hz⟩ := i1.list hq
  have wl : its.toArray.size = ws.length := by rw [List.size_toArray, ← r.length, List.length_map]
  refine call_set_texts (i1.ok.hd calm) pl.isList (by simpa using L2.strsAre_of r) nd (by rw [wl]; unfold scanBound; omega) fun hp tk set2 old => ?_
  refine PyProof.Rows.args_nil ?_
  rw [wl] at set2
  obtain ⟨o, es, ep, t, ho, hex, hd, _, _, _, hf, hn⟩ := set2
  have i2 : Inv X pins σ H1 { s1 with heap := hp, toks := tk } := i1.kept fun b o e => old b o (Heap.lt_size e) e
  exact call_len_set ho hex hd hf (by rw [hn]; omega) ⟨.int ws.length, H1, i2.tok _, ⟨_, by rw [hn]⟩, q1⟩
end
end Lw
end
section
set_option maxRecDepth 100000
set_option maxHeartbeats 4000000
namespace Lw
open PySem PySem.Spec PyProof.Rows L2
theorem seqIx0 {n : Nat} (h : 0 < n) : seqIndex? 0 n = some 0 := by
  have e : (0 : Int) < n := by omega
  unfold seqIndex?
  rw [show (if (0 : Int) < 0 then (0 : Int) + n else 0) = 0 from rfl]
  rw [if_pos (by rw [Bool.and_eq_true, decide_eq_true_iff, decide_eq_true_iff]; exact ⟨Int.le_refl _, e⟩)]
  rfl
section
variable {P : Program} {w : World} {K : PySem.W.Frag} {mg : Str → Option Value}
abbrev sc_first_of_N : List Str := ["limit"]
theorem sc_first_of : FnScope ["limit"] ["limit"] (defScope s_first_of) := ⟨rfl, rfl, rfl, by decide +kernel, rfl, by decide +kernel, by decide +kernel⟩
theorem Tx.first_run (T : Tx w K mg) {A : Around} {sh : Shared} {v : Addr} {its : Array Value} {nm : Str} {tk0 : Tok} {Er : Value → Shared → Prop} (dep : A.depth < recursionLimit) (kin : K.In sh.heap) (lim : sh.heap.NoLimit)
    (hv : IsTup sh.heap v its) (h0 : its[0]? = some (.str nm tk0)) :
    wpAny (model P w) A (call (.ref (He.fAd K ("first_of", none))) [.ref v]) (PySem.W.KeyPure (.str nm) sh) Er sh := by
  obtain ⟨oc, od, dV, kV, doc, pm, an, cdv, ct, osl, efd, lk, hcd, hd, hk⟩ := T.fd_first_of.ex
  have hb := T.bd_first_of sh [.ref v] kin rfl
  have efd2 : fdOfA K (He.fAd K ("first_of", none)) = _ := efd
  rw [efd2] at hb
  rw [efd] at lk
  refine wpAny_call (codeAny_call_function dep (kin _ _ lk) rfl sc_first_of.co sc_first_of.gen rfl (PySem.W.codeRec_of kin hcd) (hb _ _ _ _ ?_))
  refine wpAny_newFunctionEnv_cells sc_first_of.kind (fun y hy => ?_) fun env he s1 x => ?_
  · rcases sc_first_of.par y.1 (List.of_mem_zip hy).1 with q | q
    · exact .inl q
    · exact .inr ⟨q, PySem.W.cellsFrom_some _ _ _ (.inl q)⟩
  subst he
  refine ⟨lim.keeps x.toInCall.keep, codeAny_func ?_⟩
  show wpAny _ _ (execs [.Return (some (.Subscript (.Name "limit" _) (.Constant (.int 0) _ _) _)) _] _) _ _ _
  refine wpAny_execs_cons (wpAny_Return_some (Subscript_ (wpAny_Name (wpAny_loadName_local rfl rfl x.toInCall.ns (v := .ref v) (by kernel_rfl) ?_) rfl)))
  refine wpAny_Constant_int ?_
  have hv1 : IsTup ({ s1 with toks := s1.toks + 1 } : Shared).heap v its := by
    obtain ⟨o, h1, h2⟩ := hv
    exact ⟨o, x.toInCall.keep _ _ h1, h2⟩
  have hz : 0 < its.size := by
    cases q : its.size with
    | zero =>
      rw [Array.getElem?_eq_none (by omega)] at h0
      cases h0
    | succ n => omega
  refine subscriptTail_builtinR (x := .str nm tk0) hv1.typeIs slot_tuple_getitem.lookup (getItem_tuple (j := 0) hv1 (by decide) (by decide) ?_ h0 ⟨rfl, ?_⟩) (by with_unfolding_all rfl)
  · exact seqIx0 hz
  · obtain ⟨h1, tk, e, hk2⟩ := x.toInCall.done
    subst e
    exact ⟨h1, _, rfl, hk2, by constructor⟩
/-- the order of limits by their names -/
def leN (a b : Lim) : Bool := decide (a.name.cps.toList ≤ b.name.cps.toList)
def sortL (Ls : List Lim) : List Lim := Ls.mergeSort leN
def sortP (ps : List (Addr × Lim)) : List (Addr × Lim) := ps.mergeSort fun a b => leN a.2 b.2
theorem sortP_map (ps : List (Addr × Lim)) : (sortP ps).map (·.2) = sortL (ps.map (·.2)) := by
  unfold sortP sortL
  exact List.map_mergeSort fun a _ b _ => rfl
theorem each_ref {its : List Value} : ∀ {ps : List (Addr × Lim)}, Vals (ps.map fun x => V.ref x.1) its → PySem.W.EachIs (fun (v : Value) (x : Addr × Lim) => v = .ref x.1) its ps
  | [], h => by
    cases h
    exact .nil
  | x :: r, h => by
    cases h with
    | cons e t => exact .cons e (each_ref t)
theorem vals_each {its : List Value} {ps : List (Addr × Lim)} (h : PySem.W.EachIs (fun (v : Value) (x : Addr × Lim) => v = .ref x.1) its ps) : Vals (ps.map fun x => V.ref x.1) its := by
  induction h with
  | nil => exact .nil
  | cons e t ih => exact .cons e ih
section
variable {X : Cx}
def rSortDef (K : PySem.W.Frag) (f : Addr) : List V → List V → Hp → VK → Prop := fun vs zs H Q => ∃ (p : Addr) (ps : List (Addr × Lim)), vs = [.ref p] ∧ zs = [.ref f] ∧ SqL K H p (ps.map fun x => .ref x.1) ∧ ps.length ≤ 100 ∧ (∀ x ∈ ps, ∃ rest, SqT K H x.1 (.str x.2.name :: rest)) ∧
  ∀ l H', H l = none → Ex H H' → H' l = some (.lst ((sortP ps).map fun x => .ref x.1)) → KQ Q (.ref l) H'
theorem IsT_of {h : Heap} {a : Addr} {its : List Value} {n : Nat} (x : ∃ o, h.get? a = some o ∧ o.cls = .type "tuple" ∧ o.data = .seq its.toArray n) : IsTup h a its.toArray := by
  obtain ⟨o, h1, h2, h3⟩ := x
  exact ⟨o, h1, h2, n, h3⟩
theorem cr_sortedDef (T : Tx X.w X.K X.mg) {k : Nat} (room : Room (k + 2) X.A) : CallRK X (.builtin "sorted") [Str.ofString "key"] (rSortDef X.K (He.fAd X.K ("first_of", none))) := by
  intro pins sh σ H vs zs us ws Q inv r rz h
  obtain ⟨p, ps, rfl, rfl, hp, hl, ht, q⟩ := h
  obtain ⟨its, rv, pl, hz⟩ := inv.list hp
  rw [Vals.ref1 r, Vals.ref1 rz]
  have lim : X.base.NoLimit := inv.ok.mod.nolimit
  have hle : PySem.W.dataLe false (fun x : Addr × Lim => PyData.str x.2.name) = fun a b => leN a.2 b.2 := PySem.W.dataLe_str _
  refine PySem.W.sorted_key_data (f := .ref (He.fAd X.K ("first_of", none))) (b := false) (fun x : Addr × Lim => PyData.str x.2.name) pl.isList (each_ref rv) (PySem.W.AllAlike.of fun _ _ => rfl) (PySem.W.Sortable.others fun _ => ⟨(fun z => by cases z), fun _ z => by cases z⟩) (Nat.le_of_lt (Evl.sz_lt (by omega)))
    (fun x _ => ?_) (PyProof.Rows.ksk_s1 _ _) (fun _ => PyProof.Rows.ksk_l1 _ _) (fun _ => ?_) (fun v x e hx hh tk old => ?_) fun out c h2 tk old fr at2 len each => ?_
  · have := room.units
    have d0 : (PyData.str x.2.name).depth = 0 := by simp [PyData.depth]
    omega
  · exact PyProof.Rows.ksk_t1 _ _
  · subst e
    obtain ⟨rest, hr⟩ := ht x hx
    obtain ⟨its2, rv2, pl2, _⟩ := inv.tuple hr
    obtain ⟨u, r2, rfl⟩ : ∃ u r2, its2 = u :: r2 := by
      cases rv2 with
      | cons e t => exact ⟨_, _, rfl⟩
    have ru : RelV (.str x.2.name) u := by
      cases rv2 with
      | cons e t => exact e
    obtain ⟨t0, rfl⟩ := ru
    refine T.first_run (A := X.A.in1.in1) room.depth (inv.kIn.keeps old) (inv.nolimit.keeps old) (its := (Value.str x.2.name t0 :: r2).toArray) ?_ rfl
    obtain ⟨o, g1, g2⟩ := pl2
    exact ⟨o, old _ _ g1, g2⟩
  · rw [hle] at each
    have vv : Vals ((sortP ps).map fun x => V.ref x.1) out := vals_each each
    have hlen : ((sortP ps).map fun x => V.ref x.1).length ≤ sizeLine := by
      rw [vv.length, len]
      exact Nat.le_of_lt (Evl.sz_lt (by omega))
    have n1 : H (sh.heap.objs.size + 1) = none := inv.hok.fresh (Nat.le_succ _)
    exact ⟨.ref _, upd H (sh.heap.objs.size + 1) (.lst ((sortP ps).map fun x => V.ref x.1)), inv.laid (t' := tk) old (Nat.le_succ _) ⟨hlen, out, c, vv, at2⟩, rfl, q _ _ n1 (Ex.nw n1) upd_same⟩
end
end
end Lw
end
section
set_option maxRecDepth 100000
set_option maxHeartbeats 4000000
namespace Lw
open PySem PySem.Spec PyProof.Rows L2
section
variable {K : PySem.W.Frag} {σ : L2.St} {H : Hp} {Q : VK} {ta tb : TE}
theorem r_ckw {r : List V → List V → Hp → VK → Prop} {t tk : TA} (h : t σ H fun vs H1 => tk σ H1 fun zs H2 => r vs zs H2 Q) : tCKw r t tk σ H Q := h
theorem r_lenTx (h : ta σ H fun x H1 => ∃ (la : Addr) (ws : List Str), x = .ref la ∧ SqL K H1 la (ws.map V.str) ∧ ws.Nodup ∧ ws.length ≤ 100 ∧ KQ Q (.int ws.length) H1) : tLenTx K ta σ H Q := h
end
local macro_rules | `(tactic| walk_at "hp") => `(tactic| first | assumption | exact upd_same | exact (by assumption : Ex _ _) _ _ (by assumption))
local macro_rules | `(tactic| walk_at "lk") => `(tactic| fail "no look-up")
local macro_rules | `(tactic| walk_at "tk") => `(tactic| first | assumption | exact Ex.t (by assumption) (by assumption) | exact Ex.l (by assumption) (by assumption) | exact .inl (.inl (by assumption)))
local macro_rules | `(tactic| walk_at "st") => `(tactic| first
  | with_reducible refine r_seq ?_ | with_reducible refine r_asg ?_ | with_reducible refine r_name ?_
  | ((with_reducible refine' r_var ?k1 ?_); (case k1 => exact rfl))
  | with_reducible refine r_c ?_ | with_reducible refine r_op ?_ | with_reducible refine r_un ?_ | with_reducible refine r_cb ?_ | with_reducible refine r_nil ?_ | with_reducible refine r_cons ?_
  | with_reducible refine r_call ?_ | with_reducible refine r_ret ?_ | with_reducible refine r_drop ?_ | with_reducible refine r_ifs ?_ | with_reducible refine r_ife ?_ | with_reducible refine r_next ?_
  | with_reducible refine r_test ?_ | with_reducible refine r_tB ?_ | with_reducible refine r_bl ?_ | with_reducible refine r_blx ?_ | with_reducible refine r_tnot ?_ | with_reducible refine r_tand ?_ | with_reducible refine r_tor ?_
  | with_reducible refine r_not ?_ | with_reducible refine r_and ?_ | with_reducible refine r_or ?_ | with_reducible refine r_I0 ?_ | with_reducible refine r_U ?_
  | with_reducible refine r_eqS ?_ | with_reducible refine r_eqI ?_ | with_reducible refine r_neS ?_ | with_reducible refine r_neI ?_ | with_reducible refine r_chain ?_
  | ((with_reducible refine' r_gtup ?k1 ?k2 ?_); (case k1 => walk_at "tk"); (case k2 => exact rfl))
  | with_reducible refine r_gcons ?_ | with_reducible refine r_gnil ?_
  | ((with_reducible refine' r_ixT ?k1 ?k2 ?_); (case k1 => walk_at "tk"); (case k2 => exact rfl))
  | ((with_reducible refine' r_ixL ?k1 ?k2 ?_); (case k1 => walk_at "tk"); (case k2 => exact rfl))
  | with_reducible refine r_tup ?_ | with_reducible refine r_lst ?_ | with_reducible refine iteT ?_ | with_reducible refine iteF ?_
  | ((with_reducible refine' r_wipe ?k1 ?_); (case k1 => exact rfl)) | with_reducible refine r_tyes ?_
  | ((with_reducible refine' r_lenT ?k1 ?_); (case k1 => walk_at "tk")) | ((with_reducible refine' r_lenL ?k1 ?_); (case k1 => walk_at "tk"))
  | with_reducible refine r_fld ?_ | with_reducible refine r_sfld ?_ | with_reducible refine r_gfld ?_ | with_reducible refine r_meth ?_
  | ((with_reducible refine' r_fld1 ?k1 ?k2 ?k3 ?k4 ?_); (case k1 => walk_at "hp"); (case k2 => assumption); (case k3 => assumption); (case k4 => walk_at "lk"))
  | ((with_reducible refine' r_sfld1 ?k1 ?k2 ?k3 ?k4 ?_); (case k1 => walk_at "hp"); (case k2 => assumption); (case k3 => assumption); (case k4 => exact Nat.lt_of_le_of_lt (Nat.le_of_ble_eq_true rfl) (by decide : 10 < 1000)))
  | ((with_reducible refine' r_gfld1 ?k1 ?k2 ?k3 ?k4 ?_); (case k1 => walk_at "hp"); (case k2 => assumption); (case k3 => assumption); (case k4 => exact Nat.lt_of_le_of_lt (Nat.le_of_ble_eq_true rfl) (by decide : 10 < 1000)))
  | with_reducible refine r_ks ?_ | with_reducible refine r_kq ?_
  | ((with_reducible refine' r_meth1 ?k1 ?k2 ?_); (case k1 => walk_at "hp"); (case k2 => kernel_rfl))
  | with_reducible refine r_kb ?_ | with_reducible refine r_tru ?_ | with_reducible refine r_bm0 ?_ | with_reducible refine r_bm ?_
  | ((with_reducible refine' r_tyL ?k1 ?_); (case k1 => walk_at "hp"))
  | with_reducible refine r_sdput ?_ | with_reducible refine r_dget ?_ | with_reducible refine r_din ?_ | with_reducible refine r_dnin ?_ | with_reducible refine r_dpop ?_
  | ((with_reducible refine' r_dpop0 ?k1 ?_); (case k1 => walk_at "hp"))
  | ((with_reducible refine' r_strY ?k1 ?_); (case k1 => decide +kernel)) | ((with_reducible refine' r_strN ?k1 ?_); (case k1 => decide +kernel))
  | ((with_reducible refine' r_nstrY ?k1 ?_); (case k1 => decide +kernel)) | ((with_reducible refine' r_nstrN ?k1 ?_); (case k1 => decide +kernel))
  | with_reducible refine r_gcd ?_ | with_reducible refine r_par ?_ | with_reducible refine r_par1 ?_
  | with_reducible refine r_make ?_ | with_reducible refine r_orJ ?_
  | with_reducible refine r_isN ?_ | with_reducible refine r_notN ?_
  | with_reducible refine r_abs ?_ | with_reducible refine r_int ?_ | with_reducible refine r_min ?_ | with_reducible refine r_max ?_)
local macro_rules | `(tactic| walk_at "go") => `(tactic| repeat walk_at "st")
local macro_rules | `(tactic| walk_at "st") => `(tactic| first | with_reducible refine r_nt ?_ | with_reducible refine r_nf ?_ | with_reducible refine r_le4 ?_ | with_reducible refine r_ltS ?_ | with_reducible refine r_inS ?_)
local macro_rules | `(tactic| walk_at "st") => `(tactic| first | with_reducible refine r_disp ?_ | with_reducible refine r_pr ?_ | with_reducible refine r_pnil ?_ | ((with_reducible refine' r_isi ?k1 ?k2 ?k3 ?_); (case k1 => exact ClsV.ty _); (case k2 => first | exact .base (.int _) | exact tyT (by assumption)); (case k3 => exact kit_ty (r := true) (by decide +kernel))))
local macro_rules | `(tactic| walk_at "st") => `(tactic| first | with_reducible refine r_ckw ?_ | with_reducible refine r_lenTx ?_)
theorem lk_book {v : V} : List.lookup ("_limits" : Str) [(("_limits" : Str), v)] = some v := by
  rw [List.lookup_cons, beq_self_eq_true]
/-- behind the making of an object -/
theorem made {H2 H' : Hp} {x dx : Addr} {o1 o2 : HO} (nx : H2 x = none) (nd : H2 dx = none) (fr : Fr (fun b => b = x) (upd (upd H2 dx o1) x o2) H') : Ex H2 H' := fun b u h =>
  fr b u ((upd_ne (ne_of_none h nx)).trans ((upd_ne (ne_of_none h nd)).trans h)) (.inr (ne_of_none h nx))
local macro_rules | `(tactic| walk_at "lk") => `(tactic| exact lk_book)
def LimsAt (K : PySem.W.Frag) (H : Hp) (p : Addr) (Ls : List Lim) : Prop := ∃ ps : List (Addr × Lim), ps.map (·.2) = Ls ∧ SqL K H p (ps.map fun x => .ref x.1) ∧ ∀ x ∈ ps, LimAt K H x.1 x.2
def BookAt (K : PySem.W.Frag) (H : Hp) (b : Addr) (Ls : List Lim) : Prop := ∃ dx l, H b = some (.ins (He.ga K "Book") dx [("_limits", .ref l)]) ∧ LimsAt K H l Ls
structure BkLs (Ls : List Lim) : Prop where
  one : 1 ≤ Ls.length
  most : Ls.length ≤ 8
  nd : (Ls.map Lim.name).Nodup
  bk : ∀ L ∈ Ls, BkL L
def spBookInit (K : PySem.W.Frag) : Sp := fun vs H Q _ => ∃ (m p dx : Addr) (Ls : List Lim), vs = [.ref m, .ref p] ∧ H m = some (.ins (He.ga K "Book") dx []) ∧ LimsAt K H p Ls ∧ BkLs Ls ∧ ∀ H', Fr (fun b => b = m) H H' → BookAt K H' m (sortL Ls) → Q .non H'
def spBookLims (K : PySem.W.Frag) : Sp := fun vs H Q _ => ∃ (b : Addr) (Ls : List Lim), vs = [.ref b] ∧ BookAt K H b Ls ∧ ∀ p H', Ex H H' → LimsAt K H' p Ls → Q (.ref p) H'
def spNamed (K : PySem.W.Frag) : Sp := fun vs H Q _ => ∃ (b : Addr) (nm : Str) (Ls : List Lim), vs = [.ref b, .str nm] ∧ BookAt K H b Ls ∧ (∃ L ∈ Ls, L.name = nm) ∧ ∀ v H', Ex H H' → Q v H'
def spWithout (K : PySem.W.Frag) : Sp := fun vs H Q _ => ∃ (b : Addr) (nm : Str) (Ls : List Lim), vs = [.ref b, .str nm] ∧ BookAt K H b Ls ∧ Ls.length ≤ 8 ∧ (∃ L ∈ Ls, L.name = nm) ∧ BkLs (Ls.filter fun L => !decide (L.name = nm)) ∧
  ∀ p H', Ex H H' → BookAt K H' p (sortL (Ls.filter fun L => !decide (L.name = nm))) → Q (.ref p) H'
theorem Ex.lims {K : PySem.W.Frag} {H H' : Hp} {p : Addr} {Ls : List Lim} (e : Ex H H') (h : LimsAt K H p Ls) : LimsAt K H' p Ls := by
  obtain ⟨ps, h1, h2, h3⟩ := h
  exact ⟨ps, h1, e.l h2, fun x hx => e.lim (h3 x hx)⟩
theorem Ex.book {K : PySem.W.Frag} {H H' : Hp} {p : Addr} {Ls : List Lim} (e : Ex H H') (h : BookAt K H p Ls) : BookAt K H' p Ls := by
  obtain ⟨dx, l, h1, h2⟩ := h
  exact ⟨dx, l, e _ _ h1, e.lims h2⟩
section
variable {P : Program} {w : World} {K : PySem.W.Frag} {mg : Str → Option Value} {base : Heap}
abbrev sc_Book_init_N : List Str := ["self", "limits", "limit", "names"]
theorem sc_Book_init : FnScope ["self", "limits", "limit", "names"] ["self", "limits"] (defScope s_Book_init) := ⟨rfl, rfl, rfl, by decide +kernel, rfl, by decide +kernel, by decide +kernel⟩
theorem ok_Book_init (T : Tx w K mg) : OkD P w K mg base ("Book", some "__init__") 5 ["self", "limits"] (spBookInit K) := by
  refine (T.fd_Book_init).ok sc_Book_init (fun vs H Q E h => ?_) (fun cdv A outer s H vs Q E hr h => ?_)
  · obtain ⟨m, p, dx, Ls, rfl, _⟩ := h
    rfl
  · obtain ⟨m, p, dx, Ls, rfl, hm, hp, bk, k⟩ := h
    have hcl := T.cl_Book; have hno__limits := T.no_Book__limits
    obtain ⟨ps, p1, p2, p3⟩ := hp
    have pl : ps.length = Ls.length := by rw [← p1, List.length_map]
    have pl1 := bk.one
    have pl2 := bk.most
    have ml : (ps.map fun x : Addr × Lim => V.ref x.1).length = Ls.length := by rw [List.length_map, pl]
    refine ⟨_, (PSs.nox (pss_cons (ps_for PassesOwn.never rfl (pi_list (pv 1)) (pg_name (i := 2) sc_Book_init.nd rfl (Or.inl rfl))
    (pss_one (ps_expr (pe_call ((ok_check_limit T).mono (by decide)) hr (by rfl) T.g_check_limit T.fd_check_limit.kp T.bd_check_limit .nil pass0 (pa_cons (pv 2) pa_nil)))))
    (pss_cons (ps_setLc (i := 3) (own := [("limit", 2)]) rfl sc_Book_init.nd rfl rfl (sw_true rfl rfl rfl (by decide +kernel)) (pi_list (pv 1)) (blkOk_by (own := [("limit", 2)]) (N := sc_Book_init_N) (sc := defScope s_Book_init) (by decide +kernel)) (fun _ _ _ _ _ => (pg_name (i := 2) sc_Book_init.nd rfl (Or.inl rfl))) (fun _ _ _ _ _ => pts_nil) (fun _ _ _ _ _ => (pe_ix (r := rIxT K) ix_tup (pv 2) pe_int (fun _ _ => rfl))))
    (pss_cons (ps_if (PW.pt (pw_or (pt_not (pt_chain op_le op_le pe_int (pe_callB (r := rLenJ K) cr_lenJ (by rfl) T.f_len PySem.boot_len (pa_cons (pv 1) pa_nil)) pe_int)) (pw_or1 (pt_cmpR op_ne (pe_lenTx rfl (by rfl) T.f_len (by rfl) T.f_set (pv 3)) (pe_callB (r := rLenJ K) cr_lenJ (by rfl) T.f_len PySem.boot_len (pa_cons (pv 3) pa_nil)) (nomark _))))) (pss_one ps_never) pss_nil)
    (pss_one (ps_fld (pv 0) (pe_callBK (id := "sorted") (r := rSortDef K (He.fAd K ("first_of", none))) (cr_sortedDef T hr) (by rfl) T.f_sorted (by decide +kernel) (pa_cons (pv 1) pa_nil) (pk_cons (pe_glob (v := .ref (He.fAd K ("first_of", none))) rfl T.g_first_of rfl) pk_nil)) rfl)))))), ?_⟩
    walk_at "go"
    refine fo_L (L := ps) (ev := fun x => .ref x.1) (fun i σ' H' => Ex H H' ∧ ∃ z1, σ' = [some (.ref m), some (.ref p), z1, none]) p2 (fun Q' q => ?_) ⟨Ex.rf, none, rfl⟩ (fun i σ' H' q => q.1.l p2) ?_ ?_
    · walk_at "go"
      exact q
    · rintro i x σ' H' hi ⟨e, z1, rfl⟩
      have hx := List.mem_of_getElem? hi
      walk_at "go"
      refine ⟨x.1, x.2, rfl, e.lim (p3 x hx), bk.bk x.2 (by rw [← p1]; exact List.mem_map.mpr ⟨x, hx, rfl⟩), fun H1 e1 => ?_⟩
      walk_at "go"
      exact ⟨e.tr e1, _, rfl⟩
    · rintro σ' H1 ⟨e1, z1, rfl⟩
      have p21 := e1.l p2
      walk_at "go"
      refine lc_L1 (L := ps) (ev := fun x => .ref x.1) (f := fun x => .str x.2.name) (by omega) p21 (fun Q' q => ?_) (fun x hx H' e Kt Kf kt => ?_) (fun D H2 hD e2 hd => ?_)
      · walk_at "go"
        exact q
      · obtain ⟨ga, na, h1, h2, h3⟩ := (e1.tr e).lim (p3 x hx)
        walk_at "go"
        exact kt _ Ex.rf
      have e12 := e1.tr e2
      have p22 := e12.l p2
      have hm2 := e12 _ _ hm
      have hnm : ps.map (fun x => V.str x.2.name) = (Ls.map Lim.name).map V.str := by rw [← p1, List.map_map, List.map_map] <;> rfl
      rw [hnm] at hd
      have hdl : SqL K H2 D ((Ls.map Lim.name).map V.str) := .inl (.inl hd)
      have nl : ((Ls.map Lim.name).map V.str).length = Ls.length := by rw [List.length_map, List.length_map]
      walk_at "go"
      rw [ml]
      refine r_d2 (fun z => ?_) (fun z => absurd z (by omega))
      walk_at "go"
      rw [show decide ((Ls.length : Int) ≤ 8) = true from decide_eq_true (by omega)]
      walk_at "go"
      refine ⟨D, Ls.map Lim.name, rfl, hdl, bk.nd, by rw [List.length_map]; omega, ?_⟩
      walk_at "go"
      rw [nl, List.length_map]
      refine r_nno rfl ?_
      walk_at "go"
      refine ⟨p, ps, rfl, rfl, p22, by omega, fun x hx => ?_, fun l H3 n3 e3 hl => ?_⟩
      · obtain ⟨ga, na, h1, h2, h3⟩ := e12.lim (p3 x hx)
        exact ⟨_, h1⟩
      have hm3 := e3 _ _ hm2
      have nm : l ≠ m := fun z => by
        rw [z, hm2] at n3
        cases n3
      walk_at "go"
      have fr : Fr (fun b => b = m) H (upd H3 m (.ins (He.ga K "Book") dx (putF "_limits" (.ref l) []))) := Fr.tr (Ex.frm (e12.tr e3)) (Fr.wr hm3 (fun z => z) rfl)
      refine k _ fr ⟨dx, l, upd_same, sortP ps, by rw [sortP_map, p1], .inl (.inl ((upd_ne nm).trans hl)), fun x hx => fr.tu.lim (p3 x ?_)⟩
      exact (List.mergeSort_perm ps _).mem_iff.mp hx
abbrev sc_Book_limits_N : List Str := ["self"]
theorem sc_Book_limits : FnScope ["self"] ["self"] (defScope s_Book_limits) := ⟨rfl, rfl, rfl, by decide +kernel, rfl, by decide +kernel, by decide +kernel⟩
theorem ok_Book_limits (T : Tx w K mg) : FnOk P w K mg base CX0 2 (limG K) (fdOfA K (limG K)) ["self"] (spBookLims K) := by
  refine (T.fd_Book_limits).ok sc_Book_limits (fun vs H Q E h => ?_) (fun cdv A outer s H vs Q E hr h => ?_)
  · obtain ⟨b, Ls, rfl, _⟩ := h
    rfl
  · obtain ⟨b, Ls, rfl, ⟨dx, l, hb, hl⟩, k⟩ := h
    have hcl := T.cl_Book; have hno__limits := T.no_Book__limits
    have hl0 := hl
    obtain ⟨ps, p1, p2, p3⟩ := hl
    refine ⟨_, (PSs.nox (pss_one (ps_ret (pe_callTy (r := rLstJ K) cr_lstJ (by rfl) T.f_list (by decide +kernel) (pa_cons (show PE _ _ (tFld K _ _) from pe_fld (pv 0) rfl) pa_nil))))), ?_⟩
    walk_at "go"
    refine r_lstL p2 fun q H1 n1 e1 hq => ?_
    walk_at "go"
    exact k q H1 e1 ⟨ps, p1, .inl (.inl hq), fun x hx => e1.lim (p3 x hx)⟩
abbrev sc_Book_limit_named_N : List Str := ["self", "name", "limit"]
theorem sc_Book_limit_named : FnScope ["self", "name", "limit"] ["self", "name"] (defScope s_Book_limit_named) := ⟨rfl, rfl, rfl, by decide +kernel, rfl, by decide +kernel, by decide +kernel⟩
theorem ok_Book_limit_named (T : Tx w K mg) : OkD P w K mg base ("Book", some "limit_named") 1 ["self", "name"] (spNamed K) := by
  refine (T.fd_Book_limit_named).ok sc_Book_limit_named (fun vs H Q E h => ?_) (fun cdv A outer s H vs Q E hr h => ?_)
  · obtain ⟨b, nm, Ls, rfl, _⟩ := h
    rfl
  · obtain ⟨b, nm, Ls, rfl, ⟨dx, l, hb, hl⟩, hin, k⟩ := h
    have hcl := T.cl_Book; have hno__limits := T.no_Book__limits
    obtain ⟨ps, p1, p2, p3⟩ := hl
    refine ⟨_, (PSs.nox (pss_cons (ps_for PassesOwn.never rfl (pi_list (show PE _ _ (tFld K _ _) from pe_fld (pv 0) rfl)) (pg_name (i := 2) sc_Book_limit_named.nd rfl (Or.inl rfl))
    (pss_one (ps_if (pt_cmpR op_eq (pe_ix (r := rIxT K) ix_tup (pv 2) pe_int (fun _ _ => rfl)) (pv 1) (nomark _)) (pss_one (ps_ret (pv 2))) pss_nil)))
    (pss_one ps_never))), ?_⟩
    walk_at "go"
    refine r_foL ?_
    walk_at "go"
    refine fo_L (L := ps) (ev := fun x => .ref x.1) (fun i σ' H' => Ex H H' ∧ (∀ x ∈ ps.take i, x.2.name ≠ nm) ∧ ∃ z1, σ' = [some (.ref b), some (.str nm), z1]) p2 (fun Q' q => r_c q) ⟨Ex.rf, (fun x hx => by simp at hx), none, rfl⟩ (fun i σ' H' q => q.1.l p2) ?_ ?_
    · rintro i x σ' H' hi ⟨e, hh, z1, rfl⟩
      have hx := List.mem_of_getElem? hi
      obtain ⟨ga, na, h1, h2, h3⟩ := e.lim (p3 x hx)
      walk_at "go"
      refine r_d2 (fun z => ?_) (fun z => ?_)
      · walk_at "go"
        exact k _ _ e
      · walk_at "go"
        refine ⟨e, fun y hy => ?_, _, rfl⟩
        rcases mem_take_succ hi hy with q | rfl
        · exact hh y q
        · exact fun q => z (congrArg V.str q)
    · rintro σ' H' ⟨e, hh, z1, rfl⟩
      rw [List.take_length] at hh
      obtain ⟨L, hL, hn⟩ := hin
      rw [← p1] at hL
      obtain ⟨x, hx, rfl⟩ := List.mem_map.mp hL
      exact absurd hn (hh x hx)
abbrev sc_Book_without_limit_N : List Str := ["self", "name", "other"]
theorem sc_Book_without_limit : FnScope ["self", "name", "other"] ["self", "name"] (defScope s_Book_without_limit) := ⟨rfl, rfl, rfl, by decide +kernel, rfl, by decide +kernel, by decide +kernel⟩
theorem ok_Book_without_limit (T : Tx w K mg) : OkD P w K mg base ("Book", some "without_limit") 7 ["self", "name"] (spWithout K) := by
  refine (T.fd_Book_without_limit).ok sc_Book_without_limit (fun vs H Q E h => ?_) (fun cdv A outer s H vs Q E hr h => ?_)
  · obtain ⟨b, nm, Ls, rfl, _⟩ := h
    rfl
  · obtain ⟨b, nm, Ls, rfl, hB, hlen, hin, bk, k⟩ := h
    have hcl := T.cl_Book; have hno__limits := T.no_Book__limits
    have hB0 := hB
    obtain ⟨dx, l, hb, hl⟩ := hB
    have hl0 := hl
    refine ⟨_, (PSs.nox (pss_cons (ps_expr (pe_meth (pv 0) T.cl_Book T.me_Book_limit_named ((ok_Book_limit_named T).mono (by decide)) hr T.bd_Book_limit_named .nil pass0 (pa_cons (pv 1) pa_nil)))
    (pss_one (ps_ret (pe_make T.mk_Book ((ok_Book_init T).mono (by decide)) hr (by rfl) T.g_Book T.bd_Book_init .nil pass0 (pa_cons (pe_lc (own := [("other", 2)]) rfl sc_Book_without_limit.nd (pi_list (show PE _ _ (tFld K _ _) from pe_fld (pv 0) rfl)) (blkOk_by (own := [("other", 2)]) (N := sc_Book_without_limit_N) (sc := defScope s_Book_without_limit) (by decide +kernel)) (fun _ _ _ _ _ => (pg_name (i := 2) sc_Book_without_limit.nd rfl (Or.inl rfl))) (fun _ _ _ _ _ => pts_one (pt_cmpR op_ne (pe_ix (r := rIxT K) ix_tup (pv 2) pe_int (fun _ _ => rfl)) (pv 1) (nomark _))) (fun _ _ _ _ _ => (pv 2))) pa_nil)))))), ?_⟩
    walk_at "go"
    refine ⟨b, nm, Ls, rfl, hB0, hin, fun v H1 e1 => ?_⟩
    have hb1 := e1 _ _ hb
    obtain ⟨ps, p1, p2, p3⟩ := e1.lims hl0
    walk_at "go"
    refine r_lcL ?_
    walk_at "go"
    have pn : ∀ x : Addr × Lim, (fun x : Addr × Lim => !decide (x.2.name = nm)) x = true → ¬ x.2.name = nm := fun x h => by simpa using h
    have pl : ps.length = Ls.length := by rw [← p1, List.length_map]
    refine lc_L (L := ps) (ev := fun x => .ref x.1) (p := fun x => !decide (x.2.name = nm)) (f := fun x => .ref x.1) (by omega) p2 (fun Q' q => ?_) (fun x hx H' e Kt Kf kt kf => ?_) (fun D H2 hD e2 hd => ?_)
    · walk_at "go"
      exact q
    · obtain ⟨ga, na, h1, h2, h3⟩ := e.lim (p3 x hx)
      walk_at "go"
      by_cases z : x.2.name = nm
      · refine r_nno (congrArg V.str z) ?_
        exact kf (by rw [z]; simp) _ Ex.rf
      · refine r_nyes (fun q => z (V.str.inj q)) ?_
        walk_at "go"
        exact kt (by simp [z]) _ Ex.rf
    · walk_at "go"
      intro x dx2 nx nd ne
      have hl2 : LimsAt K (upd (upd H2 dx2 (.own x)) x (.ins (He.ga K "Book") dx2 [])) D (Ls.filter fun L => !decide (L.name = nm)) := by
        refine Ex.lims (Ex.tr (Ex.nw nd) (Ex.nw ?_)) ⟨ps.filter fun x => !decide (x.2.name = nm), ?_, .inl (.inl hd), fun y hy => e2.lim (p3 y (List.mem_filter.mp hy).1)⟩
        · rw [upd_ne (Ne.symm ne)]
          exact nx
        · rw [← p1, List.filter_map]
          rfl
      refine ⟨x, D, dx2, _, rfl, upd_same, hl2, bk, fun H' fr hB => ⟨rfl, k x H' (e1.tr (e2.tr (made nx nd fr))) hB⟩⟩
end
end Lw
end
section
set_option maxRecDepth 100000
set_option maxHeartbeats 4000000
namespace Lw
open PySem PySem.Spec PyProof.Rows L2
/-! ### what a meter holds, by the keys that were asked -/
def StIn (ks : List Str) (L : Lim) : MSt → Prop
  | .window sums => sums.length ≤ ks.length
  | .held costs _ => (∀ x ∈ costs, x.1 ∈ ks) ∧ costs.length ≤ ks.length
  | .pool costs uses => (∀ x ∈ costs, x.1 ∈ ks) ∧ costs.length ≤ ks.length ∧ (∀ m sh, L.rule = .pool m sh → uses.map (·.1) = sh.map (·.1)) ∧ ∀ x ∈ costs, ∀ m sh, L.rule = .pool m sh → x.2.1 ∈ sh.map (·.1)
  | _ => True
theorem StIn.ok {ks : List Str} {L : Lim} {s : MSt} (h : StIn ks L s) (hz : ks.length ≤ 1000) : StOk L s := by
  cases s with
  | window sums => exact Nat.le_trans h hz
  | pool costs uses => exact ⟨h.2.2.1, h.2.2.2⟩
  | _ => trivial
theorem StIn.fresh {ks : List Str} {L : Lim} {s : MSt} {k : Str} (h : StIn ks L s) (hz : ks.length ≤ 1000) (hk : k ∉ ks) : Fresh k s := by
  cases s with
  | held costs used => exact ⟨fun x hx e => hk (e ▸ h.1 x hx), Nat.le_trans h.2 hz⟩
  | pool costs uses => exact ⟨fun x hx e => hk (e ▸ h.1 x hx), Nat.le_trans h.2.1 hz⟩
  | _ => trivial
theorem StIn.more {ks : List Str} {L : Lim} {s : MSt} (k : Str) (h : StIn ks L s) : StIn (ks ++ [k]) L s := by
  have l : (ks ++ [k]).length = ks.length + 1 := by rw [List.length_append] <;> rfl
  cases s with
  | window sums =>
    show sums.length ≤ _
    rw [l]
    exact Nat.le_succ_of_le h
  | held costs used => exact ⟨fun x hx => List.mem_append_left _ (h.1 x hx), by rw [l]; exact Nat.le_succ_of_le h.2⟩
  | pool costs uses => exact ⟨fun x hx => List.mem_append_left _ (h.1 x hx), by rw [l]; exact Nat.le_succ_of_le h.2.1, h.2.2⟩
  | _ => trivial
theorem StIn.init (ks : List Str) (L : Lim) : StIn ks L (initM L.rule) := by
  obtain ⟨n, g, r⟩ := L
  cases r with
  | window a b => exact Nat.zero_le _
  | held a => exact ⟨(fun x hx => nomatch hx), Nat.zero_le _⟩
  | pool a sh =>
    refine ⟨(fun x hx => nomatch hx), Nat.zero_le _, fun m sh2 e => ?_, fun x hx => nomatch hx⟩
    cases e
    rw [List.map_map]
    rfl
  | _ => trivial
theorem setUse_names (uses : List (Str × Int)) (g : Str) (n : Int) : (setUse uses g n).map (·.1) = uses.map (·.1) := by
  unfold setUse
  rw [List.map_map]
  refine List.map_congr_left fun u _ => ?_
  show (if u.1 = g then (u.1, n) else u).1 = u.1
  by_cases h : u.1 = g
  · rw [if_pos h]
  · rw [if_neg h]
/-- which kind of state a limit has -/
def Fits : Rule → MSt → Prop
  | .window _ _, .window _ => True
  | .span _ _, .span _ _ => True
  | .bucket _ _, .bucket _ _ => True
  | .gap _, .gap _ => True
  | .held _, .held _ _ => True
  | .pool _ _, .pool _ _ => True
  | _, _ => False
theorem Fits.init (r : Rule) : Fits r (initM r) := by cases r <;> trivial
theorem letC_w (m l : Int) (sums : List (Int × Int)) (t : Int) (g : Str) (c : Int) (k : Str) : letC (.window m l) (.window sums) t g c k = (match (since l sums t).getLast? with
    | some r => if r.1 = t then .window ((since l sums t).dropLast ++ [(t, c + r.2)]) else .window (since l sums t ++ [(t, c)])
    | none => .window [(t, c)]) := rfl
theorem relM_h (costs : List (Str × Int)) (used : Int) (k : Str) : relM (.held costs used) k = (match costs.find? fun x => decide (x.1 = k) with
    | some x => .held (costs.filter fun y => !decide (y.1 = k)) (used - x.2)
    | none => .held costs used) := rfl
theorem relM_p (costs : List (Str × Str × Int)) (uses : List (Str × Int)) (k : Str) : relM (.pool costs uses) k = (match costs.find? fun x => decide (x.1 = k) with
    | some x => .pool (costs.filter fun y => !decide (y.1 = k)) (setUse uses x.2.1 (useOf uses x.2.1 - x.2.2))
    | none => .pool costs uses) := rfl
theorem Fits.letC {r : Rule} {s : MSt} (h : Fits r s) (t : Int) (g : Str) (c : Int) (k : Str) : Fits r (letC r s t g c k) := by
  cases r <;> cases s <;> first | exact h.elim | trivial | skip
  rename_i a b sums
  rw [letC_w]
  cases (since b sums t).getLast? with
  | none => trivial
  | some x =>
    by_cases e : x.1 = t
    · show Fits _ (if x.1 = t then _ else _)
      rw [if_pos e]
      trivial
    · show Fits _ (if x.1 = t then _ else _)
      rw [if_neg e]
      trivial
theorem Fits.letM {L : Lim} {s : MSt} (h : Fits L.rule s) (t : Int) (g : Str) (c : Int) (k : Str) : Fits L.rule (letM L s t g c k) := by
  unfold Lw.letM
  by_cases e : looksB L g = true
  · rw [if_pos e]
    exact h.letC t g c k
  · rw [if_neg e]
    exact h
theorem Fits.relM {r : Rule} {s : MSt} (h : Fits r s) (k : Str) : Fits r (relM s k) := by
  cases r <;> cases s <;> first | exact h.elim | trivial | skip
  · rename_i a costs used
    rw [relM_h]
    cases costs.find? fun x => decide (x.1 = k) with
    | none => trivial
    | some x => trivial
  · rename_i a sh costs used
    rw [relM_p]
    cases costs.find? fun x => decide (x.1 = k) with
    | none => trivial
    | some x => trivial
theorem since_len (l : Int) (sums : List (Int × Int)) (t : Int) : (since l sums t).length ≤ sums.length := List.length_filter_le _ _
theorem looks_poolM {n : Str} {gs : List Str} {m : Int} {sh : List Sh} {g : Str} (h : looksB ⟨n, gs, .pool m sh⟩ g = true) : g ∈ sh.map (·.1) := by
  have h : (sh.any fun s => decide (s.1 = g)) = true := h
  obtain ⟨s, hs, e⟩ := List.any_eq_true.mp h
  exact List.mem_map.mpr ⟨s, hs, of_decide_eq_true e⟩
theorem StIn.letM {ks : List Str} {L : Lim} {s : MSt} (f : Fits L.rule s) (h : StIn ks L s) (t : Int) (g : Str) (c : Int) (k : Str) : StIn (ks ++ [k]) L (letM L s t g c k) := by
  unfold Lw.letM
  by_cases e : looksB L g = true
  · rw [if_pos e]
    obtain ⟨n, gs, r⟩ := L
    have l : (ks ++ [k]).length = ks.length + 1 := by rw [List.length_append] <;> rfl
    cases r <;> cases s <;> first | exact f.elim | trivial | skip
    · rename_i a b sums
      have h : sums.length ≤ ks.length := h
      have sl := since_len b sums t
      rw [letC_w]
      cases q : (since b sums t).getLast? with
      | none =>
        show ([(t, c)] : List (Int × Int)).length ≤ _
        rw [l]
        exact Nat.succ_le_succ (Nat.zero_le _)
      | some x =>
        show StIn _ _ (if x.1 = t then _ else _)
        by_cases e2 : x.1 = t
        · rw [if_pos e2]
          show (_ ++ [_]).length ≤ _
          rw [List.length_append, List.length_dropLast, l]
          show _ + 1 ≤ _
          omega
        · rw [if_neg e2]
          show (_ ++ [_]).length ≤ _
          rw [List.length_append, l]
          show _ + 1 ≤ _
          omega
    · rename_i a costs used
      refine ⟨fun x hx => ?_, ?_⟩
      · rcases List.mem_append.mp hx with z | z
        · exact List.mem_append_left _ (h.1 x z)
        · rw [List.mem_singleton.mp z]
          exact List.mem_append_right _ (List.mem_singleton.mpr rfl)
      · rw [List.length_append, l]
        exact Nat.succ_le_succ h.2
    · rename_i a sh costs uses
      refine ⟨fun x hx => ?_, ?_, fun m sh2 q => ?_, fun x hx m sh2 q => ?_⟩
      · rcases List.mem_append.mp hx with z | z
        · exact List.mem_append_left _ (h.1 x z)
        · rw [List.mem_singleton.mp z]
          exact List.mem_append_right _ (List.mem_singleton.mpr rfl)
      · rw [List.length_append, l]
        exact Nat.succ_le_succ h.2.1
      · rw [setUse_names]
        exact h.2.2.1 m sh2 q
      · rcases List.mem_append.mp hx with z | z
        · exact h.2.2.2 x z m sh2 q
        · rw [List.mem_singleton.mp z]
          cases q
          exact looks_poolM e
  · rw [if_neg e]
    exact h.more k
theorem StIn.relM {ks : List Str} {L : Lim} {s : MSt} (h : StIn ks L s) (k : Str) : StIn ks L (relM s k) := by
  cases s <;> first | exact h | skip
  · rename_i costs used
    rw [relM_h]
    cases costs.find? fun x => decide (x.1 = k) with
    | none => exact h
    | some x => exact ⟨fun y hy => h.1 y (List.mem_filter.mp hy).1, Nat.le_trans (List.length_filter_le _ _) h.2⟩
  · rename_i costs uses
    rw [relM_p]
    cases costs.find? fun x => decide (x.1 = k) with
    | none => exact h
    | some x =>
      refine ⟨fun y hy => h.1 y (List.mem_filter.mp hy).1, Nat.le_trans (List.length_filter_le _ _) h.2.1, fun m sh q => ?_, fun y hy => h.2.2.2 y (List.mem_filter.mp hy).1⟩
      rw [setUse_names]
      exact h.2.2.1 m sh q
end Lw
end
section
set_option maxRecDepth 100000
set_option maxHeartbeats 4000000
namespace Lw
open PySem PySem.Spec PyProof.Rows L2
local macro_rules | `(tactic| walk_at "hp") => `(tactic| first | assumption | exact upd_same | exact (by assumption : Ex _ _) _ _ (by assumption))
local macro_rules | `(tactic| walk_at "lk") => `(tactic| fail "no look-up")
local macro_rules | `(tactic| walk_at "tk") => `(tactic| first | assumption | exact Ex.t (by assumption) (by assumption) | exact Ex.l (by assumption) (by assumption) | exact .inl (.inl (by assumption)))
local macro_rules | `(tactic| walk_at "st") => `(tactic| first
  | with_reducible refine r_seq ?_ | with_reducible refine r_asg ?_ | with_reducible refine r_name ?_
  | ((with_reducible refine' r_var ?k1 ?_); (case k1 => exact rfl))
  | with_reducible refine r_c ?_ | with_reducible refine r_op ?_ | with_reducible refine r_un ?_ | with_reducible refine r_cb ?_ | with_reducible refine r_nil ?_ | with_reducible refine r_cons ?_
  | with_reducible refine r_call ?_ | with_reducible refine r_ret ?_ | with_reducible refine r_drop ?_ | with_reducible refine r_ifs ?_ | with_reducible refine r_ife ?_ | with_reducible refine r_next ?_
  | with_reducible refine r_test ?_ | with_reducible refine r_tB ?_ | with_reducible refine r_bl ?_ | with_reducible refine r_blx ?_ | with_reducible refine r_tnot ?_ | with_reducible refine r_tand ?_ | with_reducible refine r_tor ?_
  | with_reducible refine r_not ?_ | with_reducible refine r_and ?_ | with_reducible refine r_or ?_ | with_reducible refine r_I0 ?_ | with_reducible refine r_U ?_
  | with_reducible refine r_eqS ?_ | with_reducible refine r_eqI ?_ | with_reducible refine r_neS ?_ | with_reducible refine r_neI ?_ | with_reducible refine r_chain ?_
  | ((with_reducible refine' r_gtup ?k1 ?k2 ?_); (case k1 => walk_at "tk"); (case k2 => exact rfl))
  | with_reducible refine r_gcons ?_ | with_reducible refine r_gnil ?_
  | ((with_reducible refine' r_ixT ?k1 ?k2 ?_); (case k1 => walk_at "tk"); (case k2 => exact rfl))
  | ((with_reducible refine' r_ixL ?k1 ?k2 ?_); (case k1 => walk_at "tk"); (case k2 => exact rfl))
  | with_reducible refine r_tup ?_ | with_reducible refine r_lst ?_ | with_reducible refine iteT ?_ | with_reducible refine iteF ?_
  | ((with_reducible refine' r_wipe ?k1 ?_); (case k1 => exact rfl)) | with_reducible refine r_tyes ?_
  | ((with_reducible refine' r_lenT ?k1 ?_); (case k1 => walk_at "tk")) | ((with_reducible refine' r_lenL ?k1 ?_); (case k1 => walk_at "tk"))
  | with_reducible refine r_fld ?_ | with_reducible refine r_sfld ?_ | with_reducible refine r_gfld ?_ | with_reducible refine r_meth ?_
  | ((with_reducible refine' r_fld1 ?k1 ?k2 ?k3 ?k4 ?_); (case k1 => walk_at "hp"); (case k2 => assumption); (case k3 => assumption); (case k4 => walk_at "lk"))
  | ((with_reducible refine' r_sfld1 ?k1 ?k2 ?k3 ?k4 ?_); (case k1 => walk_at "hp"); (case k2 => assumption); (case k3 => assumption); (case k4 => exact Nat.lt_of_le_of_lt (Nat.le_of_ble_eq_true rfl) (by decide : 10 < 1000)))
  | ((with_reducible refine' r_gfld1 ?k1 ?k2 ?k3 ?k4 ?_); (case k1 => walk_at "hp"); (case k2 => assumption); (case k3 => assumption); (case k4 => exact Nat.lt_of_le_of_lt (Nat.le_of_ble_eq_true rfl) (by decide : 10 < 1000)))
  | with_reducible refine r_ks ?_ | with_reducible refine r_kq ?_
  | ((with_reducible refine' r_meth1 ?k1 ?k2 ?_); (case k1 => walk_at "hp"); (case k2 => kernel_rfl))
  | with_reducible refine r_kb ?_ | with_reducible refine r_tru ?_ | with_reducible refine r_bm0 ?_ | with_reducible refine r_bm ?_
  | ((with_reducible refine' r_tyL ?k1 ?_); (case k1 => walk_at "hp"))
  | with_reducible refine r_sdput ?_ | with_reducible refine r_dget ?_ | with_reducible refine r_din ?_ | with_reducible refine r_dnin ?_ | with_reducible refine r_dpop ?_
  | ((with_reducible refine' r_dpop0 ?k1 ?_); (case k1 => walk_at "hp"))
  | ((with_reducible refine' r_strY ?k1 ?_); (case k1 => decide +kernel)) | ((with_reducible refine' r_strN ?k1 ?_); (case k1 => decide +kernel))
  | ((with_reducible refine' r_nstrY ?k1 ?_); (case k1 => decide +kernel)) | ((with_reducible refine' r_nstrN ?k1 ?_); (case k1 => decide +kernel))
  | with_reducible refine r_gcd ?_ | with_reducible refine r_par ?_ | with_reducible refine r_par1 ?_
  | with_reducible refine r_make ?_ | with_reducible refine r_orJ ?_
  | with_reducible refine r_isN ?_ | with_reducible refine r_notN ?_
  | with_reducible refine r_abs ?_ | with_reducible refine r_int ?_ | with_reducible refine r_min ?_ | with_reducible refine r_max ?_)
local macro_rules | `(tactic| walk_at "go") => `(tactic| repeat walk_at "st")
local macro_rules | `(tactic| walk_at "st") => `(tactic| first | with_reducible refine r_nt ?_ | with_reducible refine r_nf ?_ | with_reducible refine r_le4 ?_ | with_reducible refine r_ltS ?_ | with_reducible refine r_inS ?_)
local macro_rules | `(tactic| walk_at "st") => `(tactic| first | with_reducible refine r_disp ?_ | with_reducible refine r_pr ?_ | with_reducible refine r_pnil ?_ | ((with_reducible refine' r_isi ?k1 ?k2 ?k3 ?_); (case k1 => exact ClsV.ty _); (case k2 => first | exact .base (.int _) | exact tyT (by assumption)); (case k3 => exact kit_ty (r := true) (by decide +kernel))))
local macro_rules | `(tactic| walk_at "st") => `(tactic| first | with_reducible refine r_ckw ?_ | with_reducible refine r_lenTx ?_)
/-- a new meter, all of whose objects are new -/
def NewF (K : PySem.W.Frag) (H H' : Hp) (la m : Addr) (own : List Addr) (L : Lim) : Prop := ∀ H2 : Hp, (∀ b o, H' b = some o → H b = none → H2 b = some o) → LimAt K H2 la L → MetAt K H2 m own L (initM L.rule)
def spMeterFor (K : PySem.W.Frag) : Sp := fun vs H Q _ => ∃ (la : Addr) (L : Lim), vs = [.ref la] ∧ LimAt K H la L ∧ WfL L ∧ ∀ m own H', Ex H H' → (∀ b ∈ own, H b = none) → NewF K H H' la m own L → Q (.ref m) H'
def spAnswer (K : PySem.W.Frag) : Sp := fun vs H Q _ => ∃ (a dx p : Addr) (key : Str) (mo : Int) (lack : List Str) (e : Option Int), vs = [.ref a, .str key, .int mo, .ref p, optV e] ∧ H a = some (.ins (He.ga K "Answer") dx []) ∧ SqT K H p (lack.map V.str) ∧
  ∀ H', Fr (fun b => b = a) H H' → H' a = some (.ins (He.ga K "Answer") dx [("key", .str key), ("moment", .int mo), ("lacking", .ref p), ("earliest", optV e), ("is_let", .bl lack.isEmpty)]) → Q .non H'
theorem ans_init {a b c d e : V} : putF "is_let" e (putF "earliest" d (putF "lacking" c (putF "moment" b (putF "key" a [])))) = [(("key" : Str), a), ("moment", b), ("lacking", c), ("earliest", d), ("is_let", e)] := by kernel_rfl
theorem dec_len (l : List Str) : decide (V.int (l.length : Int) = V.int 0) = l.isEmpty := by
  cases l with
  | nil => rfl
  | cons x r =>
    rw [decide_eq_false (fun z => ?_)]
    · rfl
    · have h : ((x :: r).length : Int) = 0 := V.int.inj z
      rw [List.length_cons] at h
      omega
theorem own_new {H : Hp} {x dx b : Addr} {o1 o2 : HO} (nx : H x = none) (nd : H dx = none) (h : b = x ∨ (upd (upd H dx o1) x o2) b = none) : H b = none := by
  rcases h with h | h
  · rw [h]
    exact nx
  · by_cases q : b = x
    · rw [q]
      exact nx
    · rw [upd_ne q] at h
      by_cases q2 : b = dx
      · rw [q2]
        exact nd
      · rw [upd_ne q2] at h
        exact h
theorem newF {K : PySem.W.Frag} {H H' : Hp} {la x dx : Addr} {o1 o2 : HO} {own : List Addr} {L : Lim} (nx : H x = none) (nd : H dx = none) (h : NewAt K (upd (upd H dx o1) x o2) H' la x own L) : NewF K H H' la x own L := fun H2 g hl => h H2 (fun b o e q => g b o e (own_new nx nd q)) hl
section
variable {P : Program} {w : World} {K : PySem.W.Frag} {mg : Str → Option Value} {base : Heap}
abbrev sc_meter_for_N : List Str := ["limit", "word"]
theorem sc_meter_for : FnScope ["limit", "word"] ["limit"] (defScope s_meter_for) := ⟨rfl, rfl, rfl, by decide +kernel, rfl, by decide +kernel, by decide +kernel⟩
theorem ok_meter_for (T : Tx w K mg) : OkD P w K mg base ("meter_for", none) 3 ["limit"] (spMeterFor K) := by
  refine (T.fd_meter_for).ok sc_meter_for (fun vs H Q E h => ?_) (fun cdv A outer s H vs Q E hr h => ?_)
  · obtain ⟨la, L, rfl, _⟩ := h
    rfl
  · obtain ⟨la, ⟨nm, gs, r⟩, rfl, hL, wf, k⟩ := h
    have hL0 := hL
    obtain ⟨ga, na, h1, h2, h3⟩ := hL
    refine ⟨_, (PSs.nox (pss_cons (ps_set (i := 1) sc_meter_for.nd rfl (Or.inl rfl) (pe_ix (r := rIxT K) ix_tup (pv 0) pe_int (fun _ _ => rfl)))
    (pss_cons (ps_if (pt_cmpR op_eq (pv 1) pe_str (nomark _)) (pss_one (ps_ret (pe_make T.mk_WindowMeter ((ok_WindowMeter_init T).mono (by decide)) hr (by rfl) T.g_WindowMeter T.bd_WindowMeter_init .nil pass0 (pa_cons (pv 0) pa_nil)))) pss_nil)
    (pss_cons (ps_if (pt_cmpR op_eq (pv 1) pe_str (nomark _)) (pss_one (ps_ret (pe_make T.mk_SpanMeter ((ok_SpanMeter_init T).mono (by decide)) hr (by rfl) T.g_SpanMeter T.bd_SpanMeter_init .nil pass0 (pa_cons (pv 0) pa_nil)))) pss_nil)
    (pss_cons (ps_if (pt_cmpR op_eq (pv 1) pe_str (nomark _)) (pss_one (ps_ret (pe_make T.mk_BucketMeter ((ok_BucketMeter_init T).mono (by decide)) hr (by rfl) T.g_BucketMeter T.bd_BucketMeter_init .nil pass0 (pa_cons (pv 0) pa_nil)))) pss_nil)
    (pss_cons (ps_if (pt_cmpR op_eq (pv 1) pe_str (nomark _)) (pss_one (ps_ret (pe_make T.mk_GapMeter ((ok_GapMeter_init T).mono (by decide)) hr (by rfl) T.g_GapMeter T.bd_GapMeter_init .nil pass0 (pa_cons (pv 0) pa_nil)))) pss_nil)
    (pss_cons (ps_if (pt_cmpR op_eq (pv 1) pe_str (nomark _)) (pss_one (ps_ret (pe_make T.mk_HeldMeter ((ok_HeldMeter_init T).mono (by decide)) hr (by rfl) T.g_HeldMeter T.bd_HeldMeter_init .nil pass0 (pa_cons (pv 0) pa_nil)))) pss_nil)
    (pss_one (ps_ret (pe_make T.mk_PoolMeter ((ok_PoolMeter_init T).mono (by decide)) hr (by rfl) T.g_PoolMeter T.bd_PoolMeter_init .nil pass0 (pa_cons (pv 0) pa_nil))))))))))), ?_⟩
    cases r with
    | window a b =>
      have h1 : SqT K H la [.str nm, .str "window", .ref ga, .ref na] := h1
      walk_at "go"
      intro x dx nx nd ne
      refine ⟨x, la, dx, _, rfl, upd_same, Ex.lim (Ex.tr (Ex.nw nd) (Ex.nw (by rw [upd_ne (Ne.symm ne)]; exact nx))) hL0, rfl, wf, fun H' own fr ho hn => ⟨rfl, k x own H' (made nx nd fr) (fun b hb => ?_) (newF nx nd hn)⟩⟩
      exact own_new nx nd (ho b hb)
    | span a b =>
      have h1 : SqT K H la [.str nm, .str "span", .ref ga, .ref na] := h1
      walk_at "go"
      intro x dx nx nd ne
      refine ⟨x, la, dx, _, rfl, upd_same, Ex.lim (Ex.tr (Ex.nw nd) (Ex.nw (by rw [upd_ne (Ne.symm ne)]; exact nx))) hL0, rfl, wf, fun H' own fr ho hn => ⟨rfl, k x own H' (made nx nd fr) (fun b hb => ?_) (newF nx nd hn)⟩⟩
      exact own_new nx nd (ho b hb)
    | bucket a b =>
      have h1 : SqT K H la [.str nm, .str "bucket", .ref ga, .ref na] := h1
      walk_at "go"
      intro x dx nx nd ne
      refine ⟨x, la, dx, _, rfl, upd_same, Ex.lim (Ex.tr (Ex.nw nd) (Ex.nw (by rw [upd_ne (Ne.symm ne)]; exact nx))) hL0, rfl, wf, fun H' own fr ho hn => ⟨rfl, k x own H' (made nx nd fr) (fun b hb => ?_) (newF nx nd hn)⟩⟩
      exact own_new nx nd (ho b hb)
    | gap a =>
      have h1 : SqT K H la [.str nm, .str "gap", .ref ga, .ref na] := h1
      walk_at "go"
      intro x dx nx nd ne
      refine ⟨x, la, dx, _, rfl, upd_same, Ex.lim (Ex.tr (Ex.nw nd) (Ex.nw (by rw [upd_ne (Ne.symm ne)]; exact nx))) hL0, rfl, wf, fun H' own fr ho hn => ⟨rfl, k x own H' (made nx nd fr) (fun b hb => ?_) (newF nx nd hn)⟩⟩
      exact own_new nx nd (ho b hb)
    | held a =>
      have h1 : SqT K H la [.str nm, .str "held", .ref ga, .ref na] := h1
      walk_at "go"
      intro x dx nx nd ne
      refine ⟨x, la, dx, _, rfl, upd_same, Ex.lim (Ex.tr (Ex.nw nd) (Ex.nw (by rw [upd_ne (Ne.symm ne)]; exact nx))) hL0, rfl, wf, fun H' own fr ho hn => ⟨rfl, k x own H' (made nx nd fr) (fun b hb => ?_) (newF nx nd hn)⟩⟩
      exact own_new nx nd (ho b hb)
    | pool a b =>
      have h1 : SqT K H la [.str nm, .str "pool", .ref ga, .ref na] := h1
      walk_at "go"
      intro x dx nx nd ne
      refine ⟨x, la, dx, _, rfl, upd_same, Ex.lim (Ex.tr (Ex.nw nd) (Ex.nw (by rw [upd_ne (Ne.symm ne)]; exact nx))) hL0, rfl, wf, fun H' own fr ho hn => ⟨rfl, k x own H' (made nx nd fr) (fun b hb => ?_) (newF nx nd hn)⟩⟩
      exact own_new nx nd (ho b hb)
abbrev sc_Answer_init_N : List Str := ["self", "key", "moment", "lacking", "earliest"]
theorem sc_Answer_init : FnScope ["self", "key", "moment", "lacking", "earliest"] ["self", "key", "moment", "lacking", "earliest"] (defScope s_Answer_init) := ⟨rfl, rfl, rfl, by decide +kernel, rfl, by decide +kernel, by decide +kernel⟩
theorem ok_Answer_init (T : Tx w K mg) : OkD P w K mg base ("Answer", some "__init__") 1 ["self", "key", "moment", "lacking", "earliest"] (spAnswer K) := by
  refine (T.fd_Answer_init).ok sc_Answer_init (fun vs H Q E h => ?_) (fun cdv A outer s H vs Q E hr h => ?_)
  · obtain ⟨a, dx, p, key, mo, lack, e, rfl, _⟩ := h
    rfl
  · obtain ⟨a, dx, p, key, mo, lack, e, rfl, ha, hp, k⟩ := h
    have hcl := T.cl_Answer; have hno_earliest := T.no_Answer_earliest; have hno_is_let := T.no_Answer_is_let; have hno_key := T.no_Answer_key; have hno_lacking := T.no_Answer_lacking; have hno_moment := T.no_Answer_moment
    have hl : (lack.map V.str).length = lack.length := List.length_map ..
    refine ⟨_, (PSs.nox (pss_cons (ps_fld (pv 0) (pv 1) rfl)
    (pss_cons (ps_fld (pv 0) (pv 2) rfl)
    (pss_cons (ps_fld (pv 0) (pv 3) rfl)
    (pss_cons (ps_fld (pv 0) (pv 4) rfl)
    (pss_one (ps_fld (pv 0) (pe_cmpR op_eq (pe_callB (r := rLenJ K) cr_lenJ (by rfl) T.f_len PySem.boot_len (pa_cons (pv 3) pa_nil)) pe_int (nomark _)) rfl))))))), ?_⟩
    walk_at "go"
    rw [upd_upd, upd_upd, upd_upd]
    have f1 : Fr (fun b => b = a) H (upd H a (.ins (He.ga K "Answer") dx (putF "earliest" (optV e) (putF "lacking" (.ref p) (putF "moment" (.int mo) (putF "key" (.str key) [])))))) := Fr.wr ha (fun z => z) rfl
    have hp1 := f1.tu.t hp
    walk_at "go"
    rw [hl, dec_len, upd_upd, ans_init]
    exact k _ (Fr.wr ha (fun z => z) rfl) upd_same
end
end Lw
end
section
set_option maxRecDepth 100000
set_option maxHeartbeats 4000000
namespace Lw
open PySem PySem.Spec PyProof.Rows L2
local macro_rules | `(tactic| walk_at "hp") => `(tactic| first | assumption | exact upd_same | exact (by assumption : Ex _ _) _ _ (by assumption))
local macro_rules | `(tactic| walk_at "lk") => `(tactic| fail "no look-up")
local macro_rules | `(tactic| walk_at "tk") => `(tactic| first | assumption | exact Ex.t (by assumption) (by assumption) | exact Ex.l (by assumption) (by assumption) | exact .inl (.inl (by assumption)))
local macro_rules | `(tactic| walk_at "st") => `(tactic| first
  | with_reducible refine r_seq ?_ | with_reducible refine r_asg ?_ | with_reducible refine r_name ?_
  | ((with_reducible refine' r_var ?k1 ?_); (case k1 => exact rfl))
  | with_reducible refine r_c ?_ | with_reducible refine r_op ?_ | with_reducible refine r_un ?_ | with_reducible refine r_cb ?_ | with_reducible refine r_nil ?_ | with_reducible refine r_cons ?_
  | with_reducible refine r_call ?_ | with_reducible refine r_ret ?_ | with_reducible refine r_drop ?_ | with_reducible refine r_ifs ?_ | with_reducible refine r_ife ?_ | with_reducible refine r_next ?_
  | with_reducible refine r_test ?_ | with_reducible refine r_tB ?_ | with_reducible refine r_bl ?_ | with_reducible refine r_blx ?_ | with_reducible refine r_tnot ?_ | with_reducible refine r_tand ?_ | with_reducible refine r_tor ?_
  | with_reducible refine r_not ?_ | with_reducible refine r_and ?_ | with_reducible refine r_or ?_ | with_reducible refine r_I0 ?_ | with_reducible refine r_U ?_
  | with_reducible refine r_eqS ?_ | with_reducible refine r_eqI ?_ | with_reducible refine r_neS ?_ | with_reducible refine r_neI ?_ | with_reducible refine r_chain ?_
  | ((with_reducible refine' r_gtup ?k1 ?k2 ?_); (case k1 => walk_at "tk"); (case k2 => exact rfl))
  | with_reducible refine r_gcons ?_ | with_reducible refine r_gnil ?_
  | ((with_reducible refine' r_ixT ?k1 ?k2 ?_); (case k1 => walk_at "tk"); (case k2 => exact rfl))
  | ((with_reducible refine' r_ixL ?k1 ?k2 ?_); (case k1 => walk_at "tk"); (case k2 => exact rfl))
  | with_reducible refine r_tup ?_ | with_reducible refine r_lst ?_ | with_reducible refine iteT ?_ | with_reducible refine iteF ?_
  | ((with_reducible refine' r_wipe ?k1 ?_); (case k1 => exact rfl)) | with_reducible refine r_tyes ?_
  | ((with_reducible refine' r_lenT ?k1 ?_); (case k1 => walk_at "tk")) | ((with_reducible refine' r_lenL ?k1 ?_); (case k1 => walk_at "tk"))
  | with_reducible refine r_fld ?_ | with_reducible refine r_sfld ?_ | with_reducible refine r_gfld ?_ | with_reducible refine r_meth ?_
  | ((with_reducible refine' r_fld1 ?k1 ?k2 ?k3 ?k4 ?_); (case k1 => walk_at "hp"); (case k2 => assumption); (case k3 => assumption); (case k4 => walk_at "lk"))
  | ((with_reducible refine' r_sfld1 ?k1 ?k2 ?k3 ?k4 ?_); (case k1 => walk_at "hp"); (case k2 => assumption); (case k3 => assumption); (case k4 => exact Nat.lt_of_le_of_lt (Nat.le_of_ble_eq_true rfl) (by decide : 10 < 1000)))
  | ((with_reducible refine' r_gfld1 ?k1 ?k2 ?k3 ?k4 ?_); (case k1 => walk_at "hp"); (case k2 => assumption); (case k3 => assumption); (case k4 => exact Nat.lt_of_le_of_lt (Nat.le_of_ble_eq_true rfl) (by decide : 10 < 1000)))
  | with_reducible refine r_ks ?_ | with_reducible refine r_kq ?_
  | ((with_reducible refine' r_meth1 ?k1 ?k2 ?_); (case k1 => walk_at "hp"); (case k2 => kernel_rfl))
  | with_reducible refine r_kb ?_ | with_reducible refine r_tru ?_ | with_reducible refine r_bm0 ?_ | with_reducible refine r_bm ?_
  | ((with_reducible refine' r_tyL ?k1 ?_); (case k1 => walk_at "hp"))
  | with_reducible refine r_sdput ?_ | with_reducible refine r_dget ?_ | with_reducible refine r_din ?_ | with_reducible refine r_dnin ?_ | with_reducible refine r_dpop ?_
  | ((with_reducible refine' r_dpop0 ?k1 ?_); (case k1 => walk_at "hp"))
  | ((with_reducible refine' r_strY ?k1 ?_); (case k1 => decide +kernel)) | ((with_reducible refine' r_strN ?k1 ?_); (case k1 => decide +kernel))
  | ((with_reducible refine' r_nstrY ?k1 ?_); (case k1 => decide +kernel)) | ((with_reducible refine' r_nstrN ?k1 ?_); (case k1 => decide +kernel))
  | with_reducible refine r_gcd ?_ | with_reducible refine r_par ?_ | with_reducible refine r_par1 ?_
  | with_reducible refine r_make ?_ | with_reducible refine r_orJ ?_
  | with_reducible refine r_isN ?_ | with_reducible refine r_notN ?_
  | with_reducible refine r_abs ?_ | with_reducible refine r_int ?_ | with_reducible refine r_min ?_ | with_reducible refine r_max ?_)
local macro_rules | `(tactic| walk_at "go") => `(tactic| repeat walk_at "st")
local macro_rules | `(tactic| walk_at "st") => `(tactic| first | with_reducible refine r_nt ?_ | with_reducible refine r_nf ?_ | with_reducible refine r_le4 ?_ | with_reducible refine r_ltS ?_ | with_reducible refine r_inS ?_)
local macro_rules | `(tactic| walk_at "st") => `(tactic| first | with_reducible refine r_disp ?_ | with_reducible refine r_pr ?_ | with_reducible refine r_pnil ?_ | ((with_reducible refine' r_isi ?k1 ?k2 ?k3 ?_); (case k1 => exact ClsV.ty _); (case k2 => first | exact .base (.int _) | exact tyT (by assumption)); (case k3 => exact kit_ty (r := true) (by decide +kernel))))
local macro_rules | `(tactic| walk_at "st") => `(tactic| first | with_reducible refine r_ckw ?_ | with_reducible refine r_lenTx ?_)
def clsOf : Rule → Str
  | .window _ _ => "WindowMeter"
  | .span _ _ => "SpanMeter"
  | .bucket _ _ => "BucketMeter"
  | .gap _ => "GapMeter"
  | .held _ => "HeldMeter"
  | .pool _ _ => "PoolMeter"
section
variable {K : PySem.W.Frag} {σ : L2.St} {H : Hp} {Q : VK} {to t1 t2 t3 t4 t5 t6 : TE} {tr : TA}
theorem met_ins {m : Addr} {own : List Addr} {L : Lim} {s : MSt} (h : MetAt K H m own L s) : ∃ (dx : Addr) (fs : List (Str × V)), H m = some (.ins (He.ga K (clsOf L.rule)) dx fs) ∧ fs.lookup ("room" : Str) = none ∧ fs.lookup ("earliest" : Str) = none ∧ fs.lookup ("let" : Str) = none ∧ fs.lookup ("released" : Str) = none := by
  obtain ⟨dx, la, _, h⟩ := h
  obtain ⟨n, gs, r⟩ := L
  cases r <;> cases s <;> first | exact h.elim | skip
  · obtain ⟨_, sl, h1, _⟩ := (show _ ∧ _ from h)
    exact ⟨dx, _, h1, by kernel_rfl, by kernel_rfl, by kernel_rfl, by kernel_rfl⟩
  · exact ⟨dx, _, h.2, by kernel_rfl, by kernel_rfl, by kernel_rfl, by kernel_rfl⟩
  · exact ⟨dx, _, h.2, by kernel_rfl, by kernel_rfl, by kernel_rfl, by kernel_rfl⟩
  · exact ⟨dx, _, h.2, by kernel_rfl, by kernel_rfl, by kernel_rfl, by kernel_rfl⟩
  · obtain ⟨d, _, _, h1, _⟩ := h
    exact ⟨dx, _, h1, by kernel_rfl, by kernel_rfl, by kernel_rfl, by kernel_rfl⟩
  · obtain ⟨d, u, _, _, _, _, h1, _⟩ := h
    exact ⟨dx, _, h1, by kernel_rfl, by kernel_rfl, by kernel_rfl, by kernel_rfl⟩
theorem r_s1 (h : t1 σ H Q) : tSix t1 t2 t3 t4 t5 t6 σ H Q := .inl h
theorem r_s2 (h : t2 σ H Q) : tSix t1 t2 t3 t4 t5 t6 σ H Q := .inr (.inl h)
theorem r_s3 (h : t3 σ H Q) : tSix t1 t2 t3 t4 t5 t6 σ H Q := .inr (.inr (.inl h))
theorem r_s4 (h : t4 σ H Q) : tSix t1 t2 t3 t4 t5 t6 σ H Q := .inr (.inr (.inr (.inl h)))
theorem r_s5 (h : t5 σ H Q) : tSix t1 t2 t3 t4 t5 t6 σ H Q := .inr (.inr (.inr (.inr (.inl h))))
theorem r_s6 (h : t6 σ H Q) : tSix t1 t2 t3 t4 t5 t6 σ H Q := .inr (.inr (.inr (.inr (.inr h))))
theorem six_room {m : Addr} {own : List Addr} {L : Lim} {s : MSt} {t : Int} {g : Str} {c : Int} (hm : MetAt K H m own L s) (wf : WfL L) (ok : StOk L s) (ho : ∀ Q' : VK, Q' (.ref m) H → to σ H Q') (ha : ∀ QA : List V → Hp → Prop, QA [.int t, .str g, .int c] H → tr σ H QA)
    (k : ∀ H', Ex H H' → Q (.bl (roomM L s t g c)) H') : tSix (tMeth (He.ga K "WindowMeter") "room" (spRoom K "window") [] E0 to tr) (tMeth (He.ga K "SpanMeter") "room" (spRoom K "span") [] E0 to tr) (tMeth (He.ga K "BucketMeter") "room" (spRoom K "bucket") [] E0 to tr) (tMeth (He.ga K "GapMeter") "room" (spRoom K "gap") [] E0 to tr) (tMeth (He.ga K "HeldMeter") "room" (spRoom K "held") [] E0 to tr) (tMeth (He.ga K "PoolMeter") "room" (spRoom K "pool") [] E0 to tr) σ H Q := by
  obtain ⟨dx, fs, h1, h2, h3, h4, h5⟩ := met_ins hm
  obtain ⟨n, gs, r⟩ := L
  cases r with
  | window a b => exact r_s1 (r_meth (ho _ ⟨m, dx, fs, rfl, h1, h2, ha _ ⟨m, own, _, s, t, g, c, rfl, hm, rfl, wf, ok, k⟩⟩))
  | span a b => exact r_s2 (r_meth (ho _ ⟨m, dx, fs, rfl, h1, h2, ha _ ⟨m, own, _, s, t, g, c, rfl, hm, rfl, wf, ok, k⟩⟩))
  | bucket a b => exact r_s3 (r_meth (ho _ ⟨m, dx, fs, rfl, h1, h2, ha _ ⟨m, own, _, s, t, g, c, rfl, hm, rfl, wf, ok, k⟩⟩))
  | gap a => exact r_s4 (r_meth (ho _ ⟨m, dx, fs, rfl, h1, h2, ha _ ⟨m, own, _, s, t, g, c, rfl, hm, rfl, wf, ok, k⟩⟩))
  | held a => exact r_s5 (r_meth (ho _ ⟨m, dx, fs, rfl, h1, h2, ha _ ⟨m, own, _, s, t, g, c, rfl, hm, rfl, wf, ok, k⟩⟩))
  | pool a b => exact r_s6 (r_meth (ho _ ⟨m, dx, fs, rfl, h1, h2, ha _ ⟨m, own, _, s, t, g, c, rfl, hm, rfl, wf, ok, k⟩⟩))
theorem six_early {m : Addr} {own : List Addr} {L : Lim} {s : MSt} {t : Int} {g : Str} {c : Int} (hm : MetAt K H m own L s) (wf : WfL L) (ok : StOk L s) (ho : ∀ Q' : VK, Q' (.ref m) H → to σ H Q') (ha : ∀ QA : List V → Hp → Prop, QA [.int t, .str g, .int c] H → tr σ H QA)
    (k : ∀ H', Ex H H' → Q (optV (earlyM L s t g c)) H') : tSix (tMeth (He.ga K "WindowMeter") "earliest" (spEarly K "window") [] E0 to tr) (tMeth (He.ga K "SpanMeter") "earliest" (spEarly K "span") [] E0 to tr) (tMeth (He.ga K "BucketMeter") "earliest" (spEarly K "bucket") [] E0 to tr) (tMeth (He.ga K "GapMeter") "earliest" (spEarly K "gap") [] E0 to tr) (tMeth (He.ga K "HeldMeter") "earliest" (spEarly K "held") [] E0 to tr) (tMeth (He.ga K "PoolMeter") "earliest" (spEarly K "pool") [] E0 to tr) σ H Q := by
  obtain ⟨dx, fs, h1, h2, h3, h4, h5⟩ := met_ins hm
  obtain ⟨n, gs, r⟩ := L
  cases r with
  | window a b => exact r_s1 (r_meth (ho _ ⟨m, dx, fs, rfl, h1, h3, ha _ ⟨m, own, _, s, t, g, c, rfl, hm, rfl, wf, ok, k⟩⟩))
  | span a b => exact r_s2 (r_meth (ho _ ⟨m, dx, fs, rfl, h1, h3, ha _ ⟨m, own, _, s, t, g, c, rfl, hm, rfl, wf, ok, k⟩⟩))
  | bucket a b => exact r_s3 (r_meth (ho _ ⟨m, dx, fs, rfl, h1, h3, ha _ ⟨m, own, _, s, t, g, c, rfl, hm, rfl, wf, ok, k⟩⟩))
  | gap a => exact r_s4 (r_meth (ho _ ⟨m, dx, fs, rfl, h1, h3, ha _ ⟨m, own, _, s, t, g, c, rfl, hm, rfl, wf, ok, k⟩⟩))
  | held a => exact r_s5 (r_meth (ho _ ⟨m, dx, fs, rfl, h1, h3, ha _ ⟨m, own, _, s, t, g, c, rfl, hm, rfl, wf, ok, k⟩⟩))
  | pool a b => exact r_s6 (r_meth (ho _ ⟨m, dx, fs, rfl, h1, h3, ha _ ⟨m, own, _, s, t, g, c, rfl, hm, rfl, wf, ok, k⟩⟩))
theorem six_let {m : Addr} {own : List Addr} {L : Lim} {s : MSt} {t : Int} {g : Str} {c : Int} {key : Str} (hm : MetAt K H m own L s) (wf : WfL L) (ok : StOk L s) (fre : Fresh key s) (ho : ∀ Q' : VK, Q' (.ref m) H → to σ H Q') (ha : ∀ QA : List V → Hp → Prop, QA [.int t, .str g, .int c, .str key] H → tr σ H QA)
    (k : ∀ H', Fr (fun b => b ∈ own) H H' → MetAt K H' m own L (letM L s t g c key) → Q .non H') : tSix (tMeth (He.ga K "WindowMeter") "let" (spLet K "window") [] E0 to tr) (tMeth (He.ga K "SpanMeter") "let" (spLet K "span") [] E0 to tr) (tMeth (He.ga K "BucketMeter") "let" (spLet K "bucket") [] E0 to tr) (tMeth (He.ga K "GapMeter") "let" (spLet K "gap") [] E0 to tr) (tMeth (He.ga K "HeldMeter") "let" (spLet K "held") [] E0 to tr) (tMeth (He.ga K "PoolMeter") "let" (spLet K "pool") [] E0 to tr) σ H Q := by
  obtain ⟨dx, fs, h1, h2, h3, h4, h5⟩ := met_ins hm
  obtain ⟨n, gs, r⟩ := L
  cases r with
  | window a b => exact r_s1 (r_meth (ho _ ⟨m, dx, fs, rfl, h1, h4, ha _ ⟨m, own, _, s, t, g, c, key, rfl, hm, rfl, wf, ok, fre, k⟩⟩))
  | span a b => exact r_s2 (r_meth (ho _ ⟨m, dx, fs, rfl, h1, h4, ha _ ⟨m, own, _, s, t, g, c, key, rfl, hm, rfl, wf, ok, fre, k⟩⟩))
  | bucket a b => exact r_s3 (r_meth (ho _ ⟨m, dx, fs, rfl, h1, h4, ha _ ⟨m, own, _, s, t, g, c, key, rfl, hm, rfl, wf, ok, fre, k⟩⟩))
  | gap a => exact r_s4 (r_meth (ho _ ⟨m, dx, fs, rfl, h1, h4, ha _ ⟨m, own, _, s, t, g, c, key, rfl, hm, rfl, wf, ok, fre, k⟩⟩))
  | held a => exact r_s5 (r_meth (ho _ ⟨m, dx, fs, rfl, h1, h4, ha _ ⟨m, own, _, s, t, g, c, key, rfl, hm, rfl, wf, ok, fre, k⟩⟩))
  | pool a b => exact r_s6 (r_meth (ho _ ⟨m, dx, fs, rfl, h1, h4, ha _ ⟨m, own, _, s, t, g, c, key, rfl, hm, rfl, wf, ok, fre, k⟩⟩))
theorem six_rel {m : Addr} {own : List Addr} {L : Lim} {s : MSt} {key : Str} {t : Int} (hm : MetAt K H m own L s) (wf : WfL L) (ok : StOk L s) (ho : ∀ Q' : VK, Q' (.ref m) H → to σ H Q') (ha : ∀ QA : List V → Hp → Prop, QA [.str key, .int t] H → tr σ H QA)
    (k : ∀ b H', Fr (fun b => b ∈ own) H H' → MetAt K H' m own L (relM s key) → Q (.bl b) H') : tSix (tMeth (He.ga K "WindowMeter") "released" (spRel K "window") [] E0 to tr) (tMeth (He.ga K "SpanMeter") "released" (spRel K "span") [] E0 to tr) (tMeth (He.ga K "BucketMeter") "released" (spRel K "bucket") [] E0 to tr) (tMeth (He.ga K "GapMeter") "released" (spRel K "gap") [] E0 to tr) (tMeth (He.ga K "HeldMeter") "released" (spRel K "held") [] E0 to tr) (tMeth (He.ga K "PoolMeter") "released" (spRel K "pool") [] E0 to tr) σ H Q := by
  obtain ⟨dx, fs, h1, h2, h3, h4, h5⟩ := met_ins hm
  obtain ⟨n, gs, r⟩ := L
  cases r with
  | window a b => exact r_s1 (r_meth (ho _ ⟨m, dx, fs, rfl, h1, h5, ha _ ⟨m, own, _, s, key, t, rfl, hm, rfl, wf, ok, k⟩⟩))
  | span a b => exact r_s2 (r_meth (ho _ ⟨m, dx, fs, rfl, h1, h5, ha _ ⟨m, own, _, s, key, t, rfl, hm, rfl, wf, ok, k⟩⟩))
  | bucket a b => exact r_s3 (r_meth (ho _ ⟨m, dx, fs, rfl, h1, h5, ha _ ⟨m, own, _, s, key, t, rfl, hm, rfl, wf, ok, k⟩⟩))
  | gap a => exact r_s4 (r_meth (ho _ ⟨m, dx, fs, rfl, h1, h5, ha _ ⟨m, own, _, s, key, t, rfl, hm, rfl, wf, ok, k⟩⟩))
  | held a => exact r_s5 (r_meth (ho _ ⟨m, dx, fs, rfl, h1, h5, ha _ ⟨m, own, _, s, key, t, rfl, hm, rfl, wf, ok, k⟩⟩))
  | pool a b => exact r_s6 (r_meth (ho _ ⟨m, dx, fs, rfl, h1, h5, ha _ ⟨m, own, _, s, key, t, rfl, hm, rfl, wf, ok, k⟩⟩))
end
end Lw
end
section
set_option maxRecDepth 100000
set_option maxHeartbeats 4000000
namespace Lw
open PySem PySem.Spec PyProof.Rows L2
local macro_rules | `(tactic| walk_at "hp") => `(tactic| first | assumption | exact upd_same | exact (by assumption : Ex _ _) _ _ (by assumption))
local macro_rules | `(tactic| walk_at "lk") => `(tactic| fail "no look-up")
local macro_rules | `(tactic| walk_at "tk") => `(tactic| first | assumption | exact Ex.t (by assumption) (by assumption) | exact Ex.l (by assumption) (by assumption) | exact .inl (.inl (by assumption)))
local macro_rules | `(tactic| walk_at "st") => `(tactic| first
  | with_reducible refine r_seq ?_ | with_reducible refine r_asg ?_ | with_reducible refine r_name ?_
  | ((with_reducible refine' r_var ?k1 ?_); (case k1 => exact rfl))
  | with_reducible refine r_c ?_ | with_reducible refine r_op ?_ | with_reducible refine r_un ?_ | with_reducible refine r_cb ?_ | with_reducible refine r_nil ?_ | with_reducible refine r_cons ?_
  | with_reducible refine r_call ?_ | with_reducible refine r_ret ?_ | with_reducible refine r_drop ?_ | with_reducible refine r_ifs ?_ | with_reducible refine r_ife ?_ | with_reducible refine r_next ?_
  | with_reducible refine r_test ?_ | with_reducible refine r_tB ?_ | with_reducible refine r_bl ?_ | with_reducible refine r_blx ?_ | with_reducible refine r_tnot ?_ | with_reducible refine r_tand ?_ | with_reducible refine r_tor ?_
  | with_reducible refine r_not ?_ | with_reducible refine r_and ?_ | with_reducible refine r_or ?_ | with_reducible refine r_I0 ?_ | with_reducible refine r_U ?_
  | with_reducible refine r_eqS ?_ | with_reducible refine r_eqI ?_ | with_reducible refine r_neS ?_ | with_reducible refine r_neI ?_ | with_reducible refine r_chain ?_
  | ((with_reducible refine' r_gtup ?k1 ?k2 ?_); (case k1 => walk_at "tk"); (case k2 => exact rfl))
  | with_reducible refine r_gcons ?_ | with_reducible refine r_gnil ?_
  | ((with_reducible refine' r_ixT ?k1 ?k2 ?_); (case k1 => walk_at "tk"); (case k2 => exact rfl))
  | ((with_reducible refine' r_ixL ?k1 ?k2 ?_); (case k1 => walk_at "tk"); (case k2 => exact rfl))
  | with_reducible refine r_tup ?_ | with_reducible refine r_lst ?_ | with_reducible refine iteT ?_ | with_reducible refine iteF ?_
  | ((with_reducible refine' r_wipe ?k1 ?_); (case k1 => exact rfl)) | with_reducible refine r_tyes ?_
  | ((with_reducible refine' r_lenT ?k1 ?_); (case k1 => walk_at "tk")) | ((with_reducible refine' r_lenL ?k1 ?_); (case k1 => walk_at "tk"))
  | with_reducible refine r_fld ?_ | with_reducible refine r_sfld ?_ | with_reducible refine r_gfld ?_ | with_reducible refine r_meth ?_
  | ((with_reducible refine' r_fld1 ?k1 ?k2 ?k3 ?k4 ?_); (case k1 => walk_at "hp"); (case k2 => assumption); (case k3 => assumption); (case k4 => walk_at "lk"))
  | ((with_reducible refine' r_sfld1 ?k1 ?k2 ?k3 ?k4 ?_); (case k1 => walk_at "hp"); (case k2 => assumption); (case k3 => assumption); (case k4 => exact Nat.lt_of_le_of_lt (Nat.le_of_ble_eq_true rfl) (by decide : 10 < 1000)))
  | ((with_reducible refine' r_gfld1 ?k1 ?k2 ?k3 ?k4 ?_); (case k1 => walk_at "hp"); (case k2 => assumption); (case k3 => assumption); (case k4 => exact Nat.lt_of_le_of_lt (Nat.le_of_ble_eq_true rfl) (by decide : 10 < 1000)))
  | with_reducible refine r_ks ?_ | with_reducible refine r_kq ?_
  | ((with_reducible refine' r_meth1 ?k1 ?k2 ?_); (case k1 => walk_at "hp"); (case k2 => kernel_rfl))
  | with_reducible refine r_kb ?_ | with_reducible refine r_tru ?_ | with_reducible refine r_bm0 ?_ | with_reducible refine r_bm ?_
  | ((with_reducible refine' r_tyL ?k1 ?_); (case k1 => walk_at "hp"))
  | with_reducible refine r_sdput ?_ | with_reducible refine r_dget ?_ | with_reducible refine r_din ?_ | with_reducible refine r_dnin ?_ | with_reducible refine r_dpop ?_
  | ((with_reducible refine' r_dpop0 ?k1 ?_); (case k1 => walk_at "hp"))
  | ((with_reducible refine' r_strY ?k1 ?_); (case k1 => decide +kernel)) | ((with_reducible refine' r_strN ?k1 ?_); (case k1 => decide +kernel))
  | ((with_reducible refine' r_nstrY ?k1 ?_); (case k1 => decide +kernel)) | ((with_reducible refine' r_nstrN ?k1 ?_); (case k1 => decide +kernel))
  | with_reducible refine r_gcd ?_ | with_reducible refine r_par ?_ | with_reducible refine r_par1 ?_
  | with_reducible refine r_make ?_ | with_reducible refine r_orJ ?_
  | with_reducible refine r_isN ?_ | with_reducible refine r_notN ?_
  | with_reducible refine r_abs ?_ | with_reducible refine r_int ?_ | with_reducible refine r_min ?_ | with_reducible refine r_max ?_)
local macro_rules | `(tactic| walk_at "go") => `(tactic| repeat walk_at "st")
local macro_rules | `(tactic| walk_at "st") => `(tactic| first | with_reducible refine r_nt ?_ | with_reducible refine r_nf ?_ | with_reducible refine r_le4 ?_ | with_reducible refine r_ltS ?_ | with_reducible refine r_inS ?_)
local macro_rules | `(tactic| walk_at "st") => `(tactic| first | with_reducible refine r_disp ?_ | with_reducible refine r_pr ?_ | with_reducible refine r_pnil ?_ | ((with_reducible refine' r_isi ?k1 ?k2 ?k3 ?_); (case k1 => exact ClsV.ty _); (case k2 => first | exact .base (.int _) | exact tyT (by assumption)); (case k3 => exact kit_ty (r := true) (by decide +kernel))))
local macro_rules | `(tactic| walk_at "st") => `(tactic| first | with_reducible refine r_ckw ?_ | with_reducible refine r_lenTx ?_)
/-! ### a keeper on the heap -/
structure MRow where
  pa : Addr
  m : Addr
  own : List Addr
  L : Lim
  s : MSt
def RowAt (K : PySem.W.Frag) (H : Hp) (r : MRow) : Prop := SqT K H r.pa [.str r.L.name, .ref r.m] ∧ MetAt K H r.m r.own r.L r.s
def MetsAt (K : PySem.W.Frag) (H : Hp) (lm : Addr) (rows : List MRow) : Prop := H lm = some (.lst (rows.map fun r => .ref r.pa)) ∧ ∀ r ∈ rows, RowAt K H r
def Apart (rows : List MRow) : Prop := ∀ (i j : Nat) (r r' : MRow), i ≠ j → rows[i]? = some r → rows[j]? = some r' → ∀ b ∈ r.own, b ∉ r'.own
def ownR (rows : List MRow) (b : Addr) : Prop := ∃ r ∈ rows, b ∈ r.own
def fsK (bk mom : V) (lm da dr : Addr) : List (Str × V) := [("book", bk), ("moment", mom), ("_meters", .ref lm), ("_asked", .ref da), ("_released", .ref dr)]
def upR (f : MRow → MSt) (rows : List MRow) : List MRow := rows.map fun r => { r with s := f r }
section
variable {K : PySem.W.Frag} {H H' H2 : Hp} {rows : List MRow} {f : MRow → MSt} {i : Nat} {r : MRow} {bk mom : V} {lm da dr : Addr}
theorem lkK1 : List.lookup ("book" : Str) (fsK bk mom lm da dr) = some bk := by kernel_rfl
theorem lkK2 : List.lookup ("moment" : Str) (fsK bk mom lm da dr) = some mom := by kernel_rfl
theorem lkK3 : List.lookup ("_meters" : Str) (fsK bk mom lm da dr) = some (.ref lm) := by kernel_rfl
theorem lkK4 : List.lookup ("_asked" : Str) (fsK bk mom lm da dr) = some (.ref da) := by kernel_rfl
theorem lkK5 : List.lookup ("_released" : Str) (fsK bk mom lm da dr) = some (.ref dr) := by kernel_rfl
theorem rows_step (ap : Apart rows) (hi : rows[i]? = some r) (inv : ∀ j r, rows[j]? = some r → MetAt K H' r.m r.own r.L (if j < i then f r else r.s)) (fr : Fr (fun b => b ∈ r.own) H' H2) (hm : MetAt K H2 r.m r.own r.L (f r)) :
    ∀ j r', rows[j]? = some r' → MetAt K H2 r'.m r'.own r'.L (if j < i + 1 then f r' else r'.s) := by
  intro j r' hj
  by_cases e : j = i
  · subst e
    rw [hi] at hj
    cases hj
    rw [if_pos (Nat.lt_succ_self _)]
    exact hm
  · have h1 := inv j r' hj
    have h2 : (if j < i + 1 then f r' else r'.s) = if j < i then f r' else r'.s := by
      by_cases z : j < i
      · rw [if_pos z, if_pos (by omega)]
      · rw [if_neg z, if_neg (by omega)]
    rw [h2]
    exact h1.keep fr fun b hb hb2 => ap j i r' r e hj hi b hb hb2
theorem rows_end (fr : Fr (ownR rows) H H') (h : MetsAt K H lm rows) (inv : ∀ j r, rows[j]? = some r → MetAt K H' r.m r.own r.L (if j < rows.length then f r else r.s)) : MetsAt K H' lm (upR f rows) := by
  refine ⟨?_, fun r hr => ?_⟩
  · rw [fr lm _ h.1 (.inl trivial)]
    unfold upR
    rw [List.map_map]
    rfl
  · obtain ⟨x, hx, rfl⟩ := List.mem_map.mp hr
    obtain ⟨j, hj, e⟩ := List.mem_iff_getElem.mp hx
    have q := inv j x (by rw [List.getElem?_eq_getElem hj, e])
    rw [if_pos hj] at q
    exact ⟨fr.tu.t (h.2 x hx).1, q⟩
theorem Fr.own (h : r ∈ rows) (e : Fr (fun b => b ∈ r.own) H H') : Fr (ownR rows) H H' := e.mono fun b hb => ⟨r, h, hb⟩
end
local macro_rules | `(tactic| walk_at "lk") => `(tactic| first | exact lkK1 | exact lkK2 | exact lkK3 | exact lkK4 | exact lkK5)
def AskAt (K : PySem.W.Frag) (H : Hp) (a : Addr) (lack : List Str) : Prop := ∃ (g c mo e : V) (la : Addr), SqT K H a [g, c, mo, .ref la, e] ∧ SqT K H la (lack.map V.str)
def AsksAt (K : PySem.W.Frag) (H : Hp) (da : Addr) (asked : List (Str × List Str)) : Prop := ∃ asks : List (Addr × (Str × List Str)), asks.map (·.2) = asked ∧ H da = some (.dK (asks.map fun x => (Sum.inr x.2.1, .ref x.1))) ∧ ∀ x ∈ asks, AskAt K H x.1 x.2.2
def RelAt (H : Hp) (dr : Addr) (rel : List Str) : Prop := H dr = some (.dK (rel.map fun key => (Sum.inr key, .bl true)))
def spKNext (K : PySem.W.Frag) : Sp := fun vs H Q _ => ∃ (k dx lm da dr : Addr) (bk : V) (mo : Option Int) (t : Int), vs = [.ref k, .int t] ∧ H k = some (.ins (He.ga K "Keeper") dx (fsK bk (optV mo) lm da dr)) ∧ (∀ n, mo = some n → n ≤ t) ∧ Q .non H
def spKKnown (K : PySem.W.Frag) : Sp := fun vs H Q _ => ∃ (k dx lm da dr : Addr) (bk mo : V) (key : Str) (asked : List (Str × List Str)), vs = [.ref k, .str key] ∧ H k = some (.ins (He.ga K "Keeper") dx (fsK bk mo lm da dr)) ∧ AsksAt K H da asked ∧ (∃ x ∈ asked, x.1 = key) ∧ Q .non H
def spKHolds (K : PySem.W.Frag) : Sp := fun vs H Q _ => ∃ (k dx lm da dr : Addr) (bk mo : V) (key : Str) (asked : List (Str × List Str)) (rel : List Str) (x : Str × List Str), vs = [.ref k, .str key] ∧ H k = some (.ins (He.ga K "Keeper") dx (fsK bk mo lm da dr)) ∧ AsksAt K H da asked ∧ RelAt H dr rel ∧
  (asked.find? fun x => decide (x.1 = key)) = some x ∧ Q (.bl (x.2.isEmpty && !rel.any fun y => decide (y = key))) H
def earlyAll (l : List (Option Int)) : Option Int := if l.any Option.isNone = true then none else (l.filterMap id).max?
def spKEarly (K : PySem.W.Frag) : Sp := fun vs H Q _ => ∃ (k dx lm da dr : Addr) (bk mo : V) (rows : List MRow) (g : Str) (c t : Int), vs = [.ref k, .str g, .int c, .int t] ∧ H k = some (.ins (He.ga K "Keeper") dx (fsK bk mo lm da dr)) ∧ MetsAt K H lm rows ∧ 1 ≤ rows.length ∧ rows.length ≤ 100 ∧
  (∀ r ∈ rows, WfL r.L ∧ StOk r.L r.s) ∧ ∀ H', Ex H H' → Q (optV (earlyAll (rows.map fun r => earlyM r.L r.s t g c))) H'
theorem find_map2 {α β : Type} (f : α → β) (p : β → Bool) (l : List α) : (l.map f).find? p = (l.find? fun x => p (f x)).map f := by
  induction l with
  | nil => rfl
  | cons x r ih =>
    rw [List.map_cons, List.find?_cons, List.find?_cons]
    cases p (f x) with
    | true => rfl
    | false => exact ih
def spKLet (K : PySem.W.Frag) : Sp := fun vs H Q _ => ∃ (k dx lm da dr : Addr) (bk mom : V) (rows : List MRow) (key g : Str) (c t : Int), vs = [.ref k, .str key, .str g, .int c, .int t] ∧ H k = some (.ins (He.ga K "Keeper") dx (fsK bk mom lm da dr)) ∧ MetsAt K H lm rows ∧ Apart rows ∧
  (∀ r ∈ rows, WfL r.L ∧ StOk r.L r.s ∧ Fresh key r.s) ∧ ∀ H', Fr (ownR rows) H H' → MetsAt K H' lm (upR (fun r => letM r.L r.s t g c key) rows) → Q .non H'
section
variable {P : Program} {w : World} {K : PySem.W.Frag} {mg : Str → Option Value} {base : Heap}
abbrev sc_Keeper_let_N : List Str := ["self", "key", "group", "cost", "moment", "_", "meter"]
theorem sc_Keeper_let : FnScope ["self", "key", "group", "cost", "moment", "_", "meter"] ["self", "key", "group", "cost", "moment"] (defScope s_Keeper_let) := ⟨rfl, rfl, rfl, by decide +kernel, rfl, by decide +kernel, by decide +kernel⟩
theorem ok_Keeper_let (T : Tx w K mg) : OkD P w K mg base ("Keeper", some "_let") 3 ["self", "key", "group", "cost", "moment"] (spKLet K) := by
  refine (T.fd_Keeper_let).ok sc_Keeper_let (fun vs H Q E h => ?_) (fun cdv A outer s H vs Q E hr h => ?_)
  · obtain ⟨k, dx, lm, da, dr, bk, mom, rows, key, g, c, t, rfl, _⟩ := h
    rfl
  · obtain ⟨k, dx, lm, da, dr, bk, mom, rows, key, g, c, t, rfl, hk, hr0, ap, ok, k0⟩ := h
    have hcl := T.cl_Keeper; have hno__asked := T.no_Keeper__asked; have hno__meters := T.no_Keeper__meters; have hno__released := T.no_Keeper__released; have hno_book := T.no_Keeper_book; have hno_moment := T.no_Keeper_moment
    refine ⟨_, (PSs.nox (pss_one (ps_for PassesOwn.never rfl (pi_list (show PE _ _ (tFld K _ _) from pe_fld (pv 0) rfl)) (pg_tup rfl (pgs_cons (pg_name (i := 5) sc_Keeper_let.nd rfl (Or.inl rfl)) (pgs_cons (pg_name (i := 6) sc_Keeper_let.nd rfl (Or.inl rfl)) pgs_nil)))
    (pss_one (ps_expr (pe_six (pe_meth (pv 6) T.cl_WindowMeter T.me_WindowMeter_let ((ok_WindowMeter_let T).mono (by decide)) hr T.bd_WindowMeter_let .nil pass0 (pa_cons (pv 4) (pa_cons (pv 2) (pa_cons (pv 3) (pa_cons (pv 1) pa_nil))))) (pe_meth (pv 6) T.cl_SpanMeter T.me_SpanMeter_let ((ok_SpanMeter_let T).mono (by decide)) hr T.bd_SpanMeter_let .nil pass0 (pa_cons (pv 4) (pa_cons (pv 2) (pa_cons (pv 3) (pa_cons (pv 1) pa_nil))))) (pe_meth (pv 6) T.cl_BucketMeter T.me_BucketMeter_let ((ok_BucketMeter_let T).mono (by decide)) hr T.bd_BucketMeter_let .nil pass0 (pa_cons (pv 4) (pa_cons (pv 2) (pa_cons (pv 3) (pa_cons (pv 1) pa_nil))))) (pe_meth (pv 6) T.cl_GapMeter T.me_GapMeter_let ((ok_GapMeter_let T).mono (by decide)) hr T.bd_GapMeter_let .nil pass0 (pa_cons (pv 4) (pa_cons (pv 2) (pa_cons (pv 3) (pa_cons (pv 1) pa_nil))))) (pe_meth (pv 6) T.cl_HeldMeter T.me_HeldMeter_let ((ok_HeldMeter_let T).mono (by decide)) hr T.bd_HeldMeter_let .nil pass0 (pa_cons (pv 4) (pa_cons (pv 2) (pa_cons (pv 3) (pa_cons (pv 1) pa_nil))))) (pe_meth (pv 6) T.cl_PoolMeter T.me_PoolMeter_let ((ok_PoolMeter_let T).mono (by decide)) hr T.bd_PoolMeter_let .nil pass0 (pa_cons (pv 4) (pa_cons (pv 2) (pa_cons (pv 3) (pa_cons (pv 1) pa_nil))))))))))), ?_⟩
    walk_at "go"
    refine r_foL ?_
    walk_at "go"
    refine fo_L (L := rows) (ev := fun r => .ref r.pa) (fun i σ' H' => Fr (ownR rows) H H' ∧ (∀ j r, rows[j]? = some r → MetAt K H' r.m r.own r.L (if j < i then letM r.L r.s t g c key else r.s)) ∧ ∃ z1 z2, σ' = [some (.ref k), some (.str key), some (.str g), some (.int c), some (.int t), z1, z2]) (.inl (.inl hr0.1)) (fun Q' q => r_c q)
      ⟨Fr.rf, (fun j r hj => by rw [if_neg (Nat.not_lt_zero _)]; exact (hr0.2 r (List.mem_of_getElem? hj)).2), none, none, rfl⟩ (fun i σ' H' q => .inl (.inl (q.1 lm _ hr0.1 (.inl trivial)))) ?_ ?_
    · rintro i r σ' H' hi ⟨fr, inv, z1, z2, rfl⟩
      have hr := List.mem_of_getElem? hi
      have hp := fr.tu.t (hr0.2 r hr).1
      have hm := inv i r hi
      rw [if_neg (Nat.lt_irrefl i)] at hm
      obtain ⟨wf, so, fre⟩ := ok r hr
      walk_at "go"
      refine six_let (t := t) (g := g) (c := c) hm wf so fre (fun Q' q => ?_) (fun QA q => ?_) (fun H2 f2 hm2 => ?_)
      · walk_at "go"
        exact q
      · walk_at "go"
        exact q
      · walk_at "go"
        exact ⟨fr.tr (Fr.own hr f2), rows_step ap hi inv f2 hm2, _, _, rfl⟩
    · rintro σ' H' ⟨fr, inv, z1, z2, rfl⟩
      exact k0 H' fr (rows_end fr hr0 inv)
abbrev sc_Keeper_check_next_N : List Str := ["self", "moment"]
theorem sc_Keeper_check_next : FnScope ["self", "moment"] ["self", "moment"] (defScope s_Keeper_check_next) := ⟨rfl, rfl, rfl, by decide +kernel, rfl, by decide +kernel, by decide +kernel⟩
theorem ok_Keeper_check_next (T : Tx w K mg) : OkD P w K mg base ("Keeper", some "_check_next") 1 ["self", "moment"] (spKNext K) := by
  refine (T.fd_Keeper_check_next).ok sc_Keeper_check_next (fun vs H Q E h => ?_) (fun cdv A outer s H vs Q E hr h => ?_)
  · obtain ⟨k, dx, lm, da, dr, bk, mo, t, rfl, _⟩ := h
    rfl
  · obtain ⟨k, dx, lm, da, dr, bk, mo, t, rfl, hk, hle, k0⟩ := h
    have hcl := T.cl_Keeper; have hno__asked := T.no_Keeper__asked; have hno__meters := T.no_Keeper__meters; have hno__released := T.no_Keeper__released; have hno_book := T.no_Keeper_book; have hno_moment := T.no_Keeper_moment
    refine ⟨_, (PSs.nox (pss_one (ps_if (PW.pt (pw_and (pt_cmpR op_notN1 (show PE _ _ (tFld K _ _) from pe_fld (pv 0) rfl) pe_non (nomark _)) (pw_and1 (pt_cmpR op_lt (pv 1) (show PE _ _ (tFld K _ _) from pe_fld (pv 0) rfl) (nomark _))))) (pss_one ps_never) pss_nil))), ?_⟩
    cases mo with
    | none =>
      have hk : H k = some (.ins (He.ga K "Keeper") dx (fsK bk .non lm da dr)) := hk
      walk_at "go"
      refine r_nno rfl ?_
      walk_at "go"
      exact k0
    | some n =>
      have hk : H k = some (.ins (He.ga K "Keeper") dx (fsK bk (.int n) lm da dr)) := hk
      have hn := hle n rfl
      walk_at "go"
      refine r_nyes (fun z => nomatch z) ?_
      walk_at "go"
      refine r_no (by omega) ?_
      walk_at "go"
      exact k0
abbrev sc_Keeper_check_known_N : List Str := ["self", "key"]
theorem sc_Keeper_check_known : FnScope ["self", "key"] ["self", "key"] (defScope s_Keeper_check_known) := ⟨rfl, rfl, rfl, by decide +kernel, rfl, by decide +kernel, by decide +kernel⟩
theorem ok_Keeper_check_known (T : Tx w K mg) : OkD P w K mg base ("Keeper", some "_check_known") 1 ["self", "key"] (spKKnown K) := by
  refine (T.fd_Keeper_check_known).ok sc_Keeper_check_known (fun vs H Q E h => ?_) (fun cdv A outer s H vs Q E hr h => ?_)
  · obtain ⟨k, dx, lm, da, dr, bk, mo, key, asked, rfl, _⟩ := h
    rfl
  · obtain ⟨k, dx, lm, da, dr, bk, mo, key, asked, rfl, hk, ⟨asks, a1, a2, a3⟩, ⟨x, hx, ex⟩, k0⟩ := h
    have hcl := T.cl_Keeper; have hno__asked := T.no_Keeper__asked; have hno__meters := T.no_Keeper__meters; have hno__released := T.no_Keeper__released; have hno_book := T.no_Keeper_book; have hno_moment := T.no_Keeper_moment
    rw [← a1] at hx
    obtain ⟨y, hy, e⟩ := List.mem_map.mp hx
    refine ⟨_, (PSs.nox (pss_one (ps_if (pt_cmp (pc_dnotin (hu_of hr) (pv 1) (show PE _ _ (tFld K _ _) from pe_fld (pv 0) rfl))) (pss_one ps_never) pss_nil))), ?_⟩
    walk_at "go"
    refine r_dnin1 a2 ?_
    have hs : (valV (asks.map fun x => ((Sum.inr x.2.1 : Key), V.ref x.1)) (Sum.inr key)).isSome = true := by
      rw [valV_str, Option.isSome_map, List.find?_isSome]
      exact ⟨y, hy, decide_eq_true (by rw [e]; exact ex)⟩
    rw [hs]
    walk_at "go"
    exact k0
abbrev sc_Keeper_holds_N : List Str := ["self", "key"]
theorem sc_Keeper_holds : FnScope ["self", "key"] ["self", "key"] (defScope s_Keeper_holds) := ⟨rfl, rfl, rfl, by decide +kernel, rfl, by decide +kernel, by decide +kernel⟩
theorem ok_Keeper_holds (T : Tx w K mg) : OkD P w K mg base ("Keeper", some "holds") 2 ["self", "key"] (spKHolds K) := by
  refine (T.fd_Keeper_holds).ok sc_Keeper_holds (fun vs H Q E h => ?_) (fun cdv A outer s H vs Q E hr h => ?_)
  · obtain ⟨k, dx, lm, da, dr, bk, mo, key, asked, rel, x, rfl, _⟩ := h
    rfl
  · obtain ⟨k, dx, lm, da, dr, bk, mo, key, asked, rel, x, rfl, hk, hA, hR, hf, k0⟩ := h
    have hcl := T.cl_Keeper; have hno__asked := T.no_Keeper__asked; have hno__meters := T.no_Keeper__meters; have hno__released := T.no_Keeper__released; have hno_book := T.no_Keeper_book; have hno_moment := T.no_Keeper_moment
    have hA0 := hA
    obtain ⟨asks, a1, a2, a3⟩ := hA
    have hf0 := hf
    rw [← a1, find_map2] at hf
    obtain ⟨y, hy, rfl⟩ := Option.map_eq_some_iff.mp hf
    have hv : valV (asks.map fun x => ((Sum.inr x.2.1 : Key), V.ref x.1)) (Sum.inr key) = some (.ref y.1) := by
      rw [valV_str, hy]
      rfl
    obtain ⟨gg, cc, mm, ee, la, t1, t2⟩ := a3 y (List.mem_of_find?_eq_some hy)
    have hl : (y.2.2.map V.str).length = y.2.2.length := List.length_map ..
    refine ⟨_, (PSs.nox (pss_cons (ps_expr (pe_meth (pv 0) T.cl_Keeper T.me_Keeper_check_known ((ok_Keeper_check_known T).mono (by decide)) hr T.bd_Keeper_check_known .nil pass0 (pa_cons (pv 1) pa_nil)))
    (pss_one (ps_ret (pe_and (pe_cmpR op_eq (pe_callB (r := rLenJ K) cr_lenJ (by rfl) T.f_len PySem.boot_len (pa_cons (pe_ix (r := rIxT K) ix_tup (pe_dget (hu_of hr) (show PE _ _ (tFld K _ _) from pe_fld (pv 0) rfl) (pv 1) (fun _ _ => rfl)) pe_int (fun _ _ => rfl)) pa_nil)) pe_int (nomark _)) (pe_one (pe_cmp (pc_dnotin (hu_of hr) (pv 1) (show PE _ _ (tFld K _ _) from pe_fld (pv 0) rfl))))))))), ?_⟩
    walk_at "go"
    refine ⟨k, dx, lm, da, dr, bk, mo, key, asked, rfl, hk, hA0, ⟨y.2, List.mem_of_find?_eq_some hf0, of_decide_eq_true (List.find?_some (p := fun x : Str × List Str => decide (x.1 = key)) hf0)⟩, ?_⟩
    walk_at "go"
    refine r_dget1 a2 hv ?_
    walk_at "go"
    rw [hl, dec_len]
    cases q : y.2.2.isEmpty with
    | false =>
      rw [q] at k0
      walk_at "go"
      exact k0
    | true =>
      rw [q] at k0
      walk_at "go"
      refine r_dnin1 hR ?_
      have hs : (valV (rel.map fun key => ((Sum.inr key : Key), V.bl true)) (Sum.inr key)).isSome = rel.any fun y => decide (y = key) := by
        rw [valV_str, Option.isSome_map]
        cases z : rel.any fun y => decide (y = key) with
        | true =>
          rw [List.find?_isSome]
          exact List.any_eq_true.mp z
        | false =>
          rw [List.find?_eq_none.mpr (fun y hy h => by rw [List.any_eq_false] at z; exact z y hy h)]
          rfl
      rw [hs]
      walk_at "go"
      exact k0
abbrev sc_Keeper_earliest_N : List Str := ["self", "group", "cost", "moment", "found", "_", "meter"]
theorem sc_Keeper_earliest : FnScope ["self", "group", "cost", "moment", "found", "_", "meter"] ["self", "group", "cost", "moment"] (defScope s_Keeper_earliest) := ⟨rfl, rfl, rfl, by decide +kernel, rfl, by decide +kernel, by decide +kernel⟩
theorem ok_Keeper_earliest (T : Tx w K mg) : OkD P w K mg base ("Keeper", some "_earliest") 5 ["self", "group", "cost", "moment"] (spKEarly K) := by
  refine (T.fd_Keeper_earliest).ok sc_Keeper_earliest (fun vs H Q E h => ?_) (fun cdv A outer s H vs Q E hr h => ?_)
  · obtain ⟨k, dx, lm, da, dr, bk, mo, rows, g, c, t, rfl, _⟩ := h
    rfl
  · obtain ⟨k, dx, lm, da, dr, bk, mo, rows, g, c, t, rfl, hk, hm, h1, h2, ok, k0⟩ := h
    have hcl := T.cl_Keeper; have hno__asked := T.no_Keeper__asked; have hno__meters := T.no_Keeper__meters; have hno__released := T.no_Keeper__released; have hno_book := T.no_Keeper_book; have hno_moment := T.no_Keeper_moment
    refine ⟨_, (PSs.nox (pss_cons (ps_setLc (i := 4) (own := [("_", 5), ("meter", 6)]) rfl sc_Keeper_earliest.nd rfl rfl (sw_true rfl rfl rfl (by decide +kernel)) (pi_list (show PE _ _ (tFld K _ _) from pe_fld (pv 0) rfl)) (blkOk_by (own := [("_", 5), ("meter", 6)]) (N := sc_Keeper_earliest_N) (sc := defScope s_Keeper_earliest) (by decide +kernel)) (fun _ _ _ _ _ => (show PG _ _ (gTup K 2 _) from pg_tup rfl (pgs_cons (pg_name (i := 5) sc_Keeper_earliest.nd rfl (Or.inl rfl)) (pgs_cons (pg_name (i := 6) sc_Keeper_earliest.nd rfl (Or.inl rfl)) pgs_nil)))) (fun _ _ _ _ _ => pts_nil) (fun _ _ _ _ _ => (pe_six (pe_meth (pv 6) T.cl_WindowMeter T.me_WindowMeter_earliest ((ok_WindowMeter_earliest T).mono (by decide)) hr T.bd_WindowMeter_earliest .nil pass0 (pa_cons (pv 3) (pa_cons (pv 1) (pa_cons (pv 2) pa_nil)))) (pe_meth (pv 6) T.cl_SpanMeter T.me_SpanMeter_earliest ((ok_SpanMeter_earliest T).mono (by decide)) hr T.bd_SpanMeter_earliest .nil pass0 (pa_cons (pv 3) (pa_cons (pv 1) (pa_cons (pv 2) pa_nil)))) (pe_meth (pv 6) T.cl_BucketMeter T.me_BucketMeter_earliest ((ok_BucketMeter_earliest T).mono (by decide)) hr T.bd_BucketMeter_earliest .nil pass0 (pa_cons (pv 3) (pa_cons (pv 1) (pa_cons (pv 2) pa_nil)))) (pe_meth (pv 6) T.cl_GapMeter T.me_GapMeter_earliest ((ok_GapMeter_earliest T).mono (by decide)) hr T.bd_GapMeter_earliest .nil pass0 (pa_cons (pv 3) (pa_cons (pv 1) (pa_cons (pv 2) pa_nil)))) (pe_meth (pv 6) T.cl_HeldMeter T.me_HeldMeter_earliest ((ok_HeldMeter_earliest T).mono (by decide)) hr T.bd_HeldMeter_earliest .nil pass0 (pa_cons (pv 3) (pa_cons (pv 1) (pa_cons (pv 2) pa_nil)))) (pe_meth (pv 6) T.cl_PoolMeter T.me_PoolMeter_earliest ((ok_PoolMeter_earliest T).mono (by decide)) hr T.bd_PoolMeter_earliest .nil pass0 (pa_cons (pv 3) (pa_cons (pv 1) (pa_cons (pv 2) pa_nil)))))))
    (pss_cons (ps_if (pt_cmpR (r := rIn K false) op_in_seq pe_non (pv 4) (by rfl)) (pss_one (ps_ret pe_non)) pss_nil)
    (pss_one (ps_ret (pe_callB (r := rMax K) (cr_max rfl) (by rfl) T.f_max (by decide +kernel) (pa_cons (pv 4) pa_nil))))))), ?_⟩
    walk_at "go"
    refine r_lcL ?_
    walk_at "go"
    refine lc_L1 (L := rows) (ev := fun r => .ref r.pa) (f := fun r => optV (earlyM r.L r.s t g c)) (by omega) (.inl (.inl hm.1)) (fun Q' q => ?_) (fun r hr H' e Kt Kf kt => ?_) (fun D H' hD e hd => ?_)
    · walk_at "go"
      exact q
    · have hp := e.t (hm.2 r hr).1
      have hmt := (hm.2 r hr).2.ex e
      walk_at "go"
      refine six_early (t := t) (g := g) (c := c) hmt (ok r hr).1 (ok r hr).2 (fun Q' q => ?_) (fun QA q => ?_) (fun H2 e2 => ?_)
      · walk_at "go"
        exact q
      · walk_at "go"
        exact q
      · exact kt _ e2
    · have flat : ∀ l : List (Option Int), (l.map optV).all flatV = true := fun l => by
        rw [List.all_map, List.all_eq_true]
        intro x _
        cases x <;> rfl
      have inN : ∀ l : List (Option Int), inV .non (l.map optV) = l.any Option.isNone := fun l => by
        induction l with
        | nil => rfl
        | cons x r ih =>
          cases x with
          | none => rfl
          | some n =>
            unfold inV at ih ⊢
            rw [List.map_cons, List.any_cons, List.any_cons, ih]
            rfl
      have hd : H' D = some (.lst ((rows.map fun r => earlyM r.L r.s t g c).map optV)) := by rw [hd, List.map_map] <;> rfl
      have hn : (rows.map fun r => earlyM r.L r.s t g c).length = rows.length := List.length_map ..
      generalize (rows.map fun r => earlyM r.L r.s t g c) = es at hd hn k0
      have k0 : ∀ H', Ex H H' → Q (optV (earlyAll es)) H' := k0
      walk_at "go"
      refine r_inL (.inl (.inl hd)) rfl (flat es) ?_
      rw [show (if false = true then !inV V.non (es.map optV) else inV V.non (es.map optV)) = es.any Option.isNone from inN es]
      walk_at "go"
      unfold earlyAll at k0
      refine r_b2 (fun z => ?_) (fun z => ?_)
      · rw [if_pos z] at k0
        walk_at "go"
        exact k0 _ e
      · rw [if_neg (by rw [z]; exact Bool.false_ne_true)] at k0
        have hz : es = (es.filterMap id).map some := by
          have : ∀ l : List (Option Int), l.any Option.isNone = false → l = (l.filterMap id).map some := by
            intro l
            induction l with
            | nil => exact fun _ => rfl
            | cons x r ih =>
              intro h
              rw [List.any_cons, Bool.or_eq_false_iff] at h
              cases x with
              | none => cases h.1
              | some n =>
                have := ih h.2
                show some n :: r = some n :: (r.filterMap id).map some
                rw [← this]
          exact this es z
        walk_at "go"
        have hl : (es.filterMap id).length = es.length := by
          rw [← List.length_map (f := some), ← hz]
        have hd3 : SqL K H' D ((es.filterMap id).map V.int) := by
          refine .inl (.inl ?_)
          rw [hd, hz, List.map_map, List.filterMap_map]
          have : ∀ l : List Int, l.map (optV ∘ some) = (l.filterMap (id ∘ some)).map V.int := fun l => by
            rw [show (id ∘ some : Int → Option Int) = some from rfl, List.filterMap_some]
            rfl
          rw [this]
        refine ⟨D, es.filterMap id, rfl, hd3, by omega, fun m hm hle => ?_⟩
        have k1 := k0 _ e
        rw [List.max?_eq_some_iff.mpr ⟨hm, hle⟩] at k1
        exact k1
end
end Lw
end
section
set_option maxRecDepth 100000
set_option maxHeartbeats 4000000
namespace Lw
open PySem PySem.Spec PyProof.Rows L2
section
variable {X : Cx} {H : Hp} {Q : VK}
def rLenD : List V → Hp → VK → Prop := fun xs H Q => ∃ a kvs, xs = [V.ref a] ∧ H a = some (.dK kvs) ∧ Q (.int kvs.length) H
theorem cr_lenD : CallR X (.builtin "len") rLenD := call_lenD
theorem r_lenD {a : Addr} {kvs : List (Key × V)} (h : H a = some (.dK kvs)) (k : Q (.int kvs.length) H) : rLenD [.ref a] H Q := ⟨a, kvs, rfl, h, k⟩
end
local macro_rules | `(tactic| walk_at "hp") => `(tactic| first | assumption | exact upd_same | exact (by assumption : Ex _ _) _ _ (by assumption))
local macro_rules | `(tactic| walk_at "lk") => `(tactic| fail "no look-up")
local macro_rules | `(tactic| walk_at "tk") => `(tactic| first | assumption | exact Ex.t (by assumption) (by assumption) | exact Ex.l (by assumption) (by assumption) | exact .inl (.inl (by assumption)))
local macro_rules | `(tactic| walk_at "st") => `(tactic| first
  | with_reducible refine r_seq ?_ | with_reducible refine r_asg ?_ | with_reducible refine r_name ?_
  | ((with_reducible refine' r_var ?k1 ?_); (case k1 => exact rfl))
  | with_reducible refine r_c ?_ | with_reducible refine r_op ?_ | with_reducible refine r_un ?_ | with_reducible refine r_cb ?_ | with_reducible refine r_nil ?_ | with_reducible refine r_cons ?_
  | with_reducible refine r_call ?_ | with_reducible refine r_ret ?_ | with_reducible refine r_drop ?_ | with_reducible refine r_ifs ?_ | with_reducible refine r_ife ?_ | with_reducible refine r_next ?_
  | with_reducible refine r_test ?_ | with_reducible refine r_tB ?_ | with_reducible refine r_bl ?_ | with_reducible refine r_blx ?_ | with_reducible refine r_tnot ?_ | with_reducible refine r_tand ?_ | with_reducible refine r_tor ?_
  | with_reducible refine r_not ?_ | with_reducible refine r_and ?_ | with_reducible refine r_or ?_ | with_reducible refine r_I0 ?_ | with_reducible refine r_U ?_
  | with_reducible refine r_eqS ?_ | with_reducible refine r_eqI ?_ | with_reducible refine r_neS ?_ | with_reducible refine r_neI ?_ | with_reducible refine r_chain ?_
  | ((with_reducible refine' r_gtup ?k1 ?k2 ?_); (case k1 => walk_at "tk"); (case k2 => exact rfl))
  | with_reducible refine r_gcons ?_ | with_reducible refine r_gnil ?_
  | ((with_reducible refine' r_ixT ?k1 ?k2 ?_); (case k1 => walk_at "tk"); (case k2 => exact rfl))
  | ((with_reducible refine' r_ixL ?k1 ?k2 ?_); (case k1 => walk_at "tk"); (case k2 => exact rfl))
  | with_reducible refine r_tup ?_ | with_reducible refine r_lst ?_ | with_reducible refine iteT ?_ | with_reducible refine iteF ?_
  | ((with_reducible refine' r_wipe ?k1 ?_); (case k1 => exact rfl)) | with_reducible refine r_tyes ?_
  | ((with_reducible refine' r_lenT ?k1 ?_); (case k1 => walk_at "tk")) | ((with_reducible refine' r_lenL ?k1 ?_); (case k1 => walk_at "tk"))
  | with_reducible refine r_fld ?_ | with_reducible refine r_sfld ?_ | with_reducible refine r_gfld ?_ | with_reducible refine r_meth ?_
  | ((with_reducible refine' r_fld1 ?k1 ?k2 ?k3 ?k4 ?_); (case k1 => walk_at "hp"); (case k2 => assumption); (case k3 => assumption); (case k4 => walk_at "lk"))
  | ((with_reducible refine' r_sfld1 ?k1 ?k2 ?k3 ?k4 ?_); (case k1 => walk_at "hp"); (case k2 => assumption); (case k3 => assumption); (case k4 => exact Nat.lt_of_le_of_lt (Nat.le_of_ble_eq_true rfl) (by decide : 10 < 1000)))
  | ((with_reducible refine' r_gfld1 ?k1 ?k2 ?k3 ?k4 ?_); (case k1 => walk_at "hp"); (case k2 => assumption); (case k3 => assumption); (case k4 => exact Nat.lt_of_le_of_lt (Nat.le_of_ble_eq_true rfl) (by decide : 10 < 1000)))
  | with_reducible refine r_ks ?_ | with_reducible refine r_kq ?_
  | ((with_reducible refine' r_meth1 ?k1 ?k2 ?_); (case k1 => walk_at "hp"); (case k2 => kernel_rfl))
  | with_reducible refine r_kb ?_ | with_reducible refine r_tru ?_ | with_reducible refine r_bm0 ?_ | with_reducible refine r_bm ?_
  | ((with_reducible refine' r_tyL ?k1 ?_); (case k1 => walk_at "hp"))
  | with_reducible refine r_sdput ?_ | with_reducible refine r_dget ?_ | with_reducible refine r_din ?_ | with_reducible refine r_dnin ?_ | with_reducible refine r_dpop ?_
  | ((with_reducible refine' r_dpop0 ?k1 ?_); (case k1 => walk_at "hp"))
  | ((with_reducible refine' r_strY ?k1 ?_); (case k1 => decide +kernel)) | ((with_reducible refine' r_strN ?k1 ?_); (case k1 => decide +kernel))
  | ((with_reducible refine' r_nstrY ?k1 ?_); (case k1 => decide +kernel)) | ((with_reducible refine' r_nstrN ?k1 ?_); (case k1 => decide +kernel))
  | with_reducible refine r_gcd ?_ | with_reducible refine r_par ?_ | with_reducible refine r_par1 ?_
  | with_reducible refine r_make ?_ | with_reducible refine r_orJ ?_
  | with_reducible refine r_isN ?_ | with_reducible refine r_notN ?_
  | with_reducible refine r_abs ?_ | with_reducible refine r_int ?_ | with_reducible refine r_min ?_ | with_reducible refine r_max ?_)
local macro_rules | `(tactic| walk_at "go") => `(tactic| repeat walk_at "st")
local macro_rules | `(tactic| walk_at "st") => `(tactic| first | with_reducible refine r_nt ?_ | with_reducible refine r_nf ?_ | with_reducible refine r_le4 ?_ | with_reducible refine r_ltS ?_ | with_reducible refine r_inS ?_)
local macro_rules | `(tactic| walk_at "st") => `(tactic| first | with_reducible refine r_disp ?_ | with_reducible refine r_pr ?_ | with_reducible refine r_pnil ?_ | ((with_reducible refine' r_isi ?k1 ?k2 ?k3 ?_); (case k1 => exact ClsV.ty _); (case k2 => first | exact .base (.int _) | exact tyT (by assumption)); (case k3 => exact kit_ty (r := true) (by decide +kernel))))
local macro_rules | `(tactic| walk_at "st") => `(tactic| first | with_reducible refine r_ckw ?_ | with_reducible refine r_lenTx ?_)
local macro_rules | `(tactic| walk_at "lk") => `(tactic| first | exact lkK1 | exact lkK2 | exact lkK3 | exact lkK4 | exact lkK5)
structure KSt where
  mom : Option Int
  ms : List (Lim × MSt)
  asked : List (Str × List Str)
  rel : List Str
def rowK (r : MRow) : Lim × MSt := (r.L, r.s)
def ownK (k da dr : Addr) (rows : List MRow) (b : Addr) : Prop := b = k ∨ b = da ∨ b = dr ∨ ownR rows b
structure KAp (k da dr : Addr) (rows : List MRow) : Prop where
  ap : Apart rows
  nk : ¬ ownR rows k
  na : ¬ ownR rows da
  nr : ¬ ownR rows dr
  ak : da ≠ k
  rk : dr ≠ k
  ar : da ≠ dr
def KpAt (K : PySem.W.Frag) (H : Hp) (k : Addr) (own : Addr → Prop) (S : KSt) : Prop := ∃ (dx lm da dr : Addr) (bk : V) (rows : List MRow), own = ownK k da dr rows ∧ KAp k da dr rows ∧ rows.map rowK = S.ms ∧
  H k = some (.ins (He.ga K "Keeper") dx (fsK bk (optV S.mom) lm da dr)) ∧ MetsAt K H lm rows ∧ AsksAt K H da S.asked ∧ RelAt H dr S.rel
structure KOk (S : KSt) : Prop where
  ms : ∀ x ∈ S.ms, WfL x.1 ∧ Fits x.1.rule x.2 ∧ StIn (S.asked.map (·.1)) x.1 x.2
  one : 1 ≤ S.ms.length
  most : S.ms.length ≤ 8
  few : S.asked.length ≤ 500
def lackK (S : KSt) (t : Int) (g : Str) (c : Int) : List Str := (S.ms.filter fun x => !roomM x.1 x.2 t g c).map fun x => x.1.name
def earlyK (S : KSt) (t : Int) (g : Str) (c : Int) : Option Int := earlyAll (S.ms.map fun x => earlyM x.1 x.2 t g c)
def askK (S : KSt) (key g : Str) (c t : Int) : KSt := { mom := some t, ms := if (lackK S t g c).isEmpty = true then S.ms.map fun x => (x.1, letM x.1 x.2 t g c key) else S.ms, asked := S.asked ++ [(key, lackK S t g c)], rel := S.rel }
def holdsK (S : KSt) (key : Str) : Bool := match S.asked.find? fun x => decide (x.1 = key) with
  | some x => x.2.isEmpty && !S.rel.any fun y => decide (y = key)
  | none => false
def relK (S : KSt) (key : Str) (t : Int) : KSt := { mom := some t, ms := if holdsK S key = true then S.ms.map fun x => (x.1, relM x.2 key) else S.ms, asked := S.asked, rel := if holdsK S key = true then S.rel ++ [key] else S.rel }
def AnsAt (K : PySem.W.Frag) (H : Hp) (a : Addr) (key : Str) (t : Int) (lack : List Str) (e : Option Int) : Prop := ∃ dx p, H a = some (.ins (He.ga K "Answer") dx [("key", .str key), ("moment", .int t), ("lacking", .ref p), ("earliest", optV e), ("is_let", .bl lack.isEmpty)]) ∧ SqT K H p (lack.map V.str)
def spKBack (K : PySem.W.Frag) : Sp := fun vs H Q _ => ∃ (k dx lm da dr : Addr) (bk mom : V) (rows : List MRow) (key : Str) (t : Int) (rel : List Str), vs = [.ref k, .str key, .int t] ∧ H k = some (.ins (He.ga K "Keeper") dx (fsK bk mom lm da dr)) ∧ MetsAt K H lm rows ∧ KAp k da dr rows ∧
  (∀ r ∈ rows, WfL r.L ∧ StOk r.L r.s) ∧ RelAt H dr rel ∧ (∀ y ∈ rel, y ≠ key) ∧ rel.length ≤ 1000 ∧ ∀ H', Fr (fun b => b = dr ∨ ownR rows b) H H' → MetsAt K H' lm (upR (fun r => relM r.s key) rows) → RelAt H' dr (rel ++ [key]) → Q .non H'
def spKRel (K : PySem.W.Frag) : Sp := fun vs H Q _ => ∃ (k : Addr) (own : Addr → Prop) (S : KSt) (key : Str) (t : Int), vs = [.ref k, .str key, .int t] ∧ KpAt K H k own S ∧ KOk S ∧ S.rel.length ≤ 500 ∧ 0 ≤ t ∧ t ≤ 1000000000 ∧ (∀ n, S.mom = some n → n ≤ t) ∧ (∃ x ∈ S.asked, x.1 = key) ∧
  ∀ H', Fr own H H' → KpAt K H' k own (relK S key t) → Q (.bl (holdsK S key)) H'
section
variable {K : PySem.W.Frag} {H H' : Hp} {rows : List MRow} {f : MRow → MSt} {k da dr lm : Addr}
theorem upR_own (b : Addr) : ownR (upR f rows) b ↔ ownR rows b := by
  constructor
  · rintro ⟨r, hr, hb⟩
    obtain ⟨x, hx, rfl⟩ := List.mem_map.mp hr
    exact ⟨x, hx, hb⟩
  · rintro ⟨r, hr, hb⟩
    exact ⟨_, List.mem_map.mpr ⟨r, hr, rfl⟩, hb⟩
theorem upR_own' : ownR (upR f rows) = ownR rows := funext fun b => propext (upR_own b)
theorem upR_ap (h : Apart rows) : Apart (upR f rows) := by
  intro i j r r' ne hi hj b hb
  unfold upR at hi hj
  rw [List.getElem?_map] at hi hj
  obtain ⟨x, hx, rfl⟩ := Option.map_eq_some_iff.mp hi
  obtain ⟨y, hy, rfl⟩ := Option.map_eq_some_iff.mp hj
  exact h i j x y ne hx hy b hb
theorem upR_kap (h : KAp k da dr rows) : KAp k da dr (upR f rows) := ⟨upR_ap h.ap, fun z => h.nk ((upR_own _).mp z), fun z => h.na ((upR_own _).mp z), fun z => h.nr ((upR_own _).mp z), h.ak, h.rk, h.ar⟩
theorem Fr.mets {W : Addr → Prop} (e : Fr W H H') (d : ∀ b, ownR rows b → ¬ W b) (h : MetsAt K H lm rows) : MetsAt K H' lm rows :=
  ⟨e lm _ h.1 (.inl trivial), fun r hr => ⟨e.tu.t (h.2 r hr).1, (h.2 r hr).2.keep e fun b hb => d b ⟨r, hr, hb⟩⟩⟩
theorem Fr.asks {W : Addr → Prop} {asked : List (Str × List Str)} (e : Fr W H H') (d : ¬ W da) (h : AsksAt K H da asked) : AsksAt K H' da asked := by
  obtain ⟨asks, a1, a2, a3⟩ := h
  refine ⟨asks, a1, e da _ a2 (.inr d), fun x hx => ?_⟩
  obtain ⟨g, c, mo, ee, la, t1, t2⟩ := a3 x hx
  exact ⟨g, c, mo, ee, la, e.tu.t t1, e.tu.t t2⟩
theorem KpAt.keep {W own : Addr → Prop} {S : KSt} (e : Fr W H H') (d : ∀ b, own b → ¬ W b) (h : KpAt K H k own S) : KpAt K H' k own S := by
  obtain ⟨dx, lm, da, dr, bk, rows, rfl, ap, hm, h1, h2, h3, h4⟩ := h
  exact ⟨dx, lm, da, dr, bk, rows, rfl, ap, hm, e k _ h1 (.inr (d k (.inl rfl))), e.mets (fun b hb => d b (.inr (.inr (.inr hb)))) h2, e.asks (d da (.inr (.inl rfl))) h3, e dr _ h4 (.inr (d dr (.inr (.inr (.inl rfl)))))⟩
theorem fsK_mom {bk mom : V} {t : Int} : putF "moment" (.int t) (fsK bk mom lm da dr) = fsK bk (.int t) lm da dr := by kernel_rfl
end
section
variable {P : Program} {w : World} {K : PySem.W.Frag} {mg : Str → Option Value} {base : Heap}
abbrev sc_Keeper_give_back_N : List Str := ["self", "key", "moment", "_", "meter"]
theorem sc_Keeper_give_back : FnScope ["self", "key", "moment", "_", "meter"] ["self", "key", "moment"] (defScope s_Keeper_give_back) := ⟨rfl, rfl, rfl, by decide +kernel, rfl, by decide +kernel, by decide +kernel⟩
theorem ok_Keeper_give_back (T : Tx w K mg) : OkD P w K mg base ("Keeper", some "give_back") 2 ["self", "key", "moment"] (spKBack K) := by
  refine (T.fd_Keeper_give_back).ok sc_Keeper_give_back (fun vs H Q E h => ?_) (fun cdv A outer s H vs Q E hr h => ?_)
  · obtain ⟨k, dx, lm, da, dr, bk, mom, rows, key, t, rel, rfl, _⟩ := h
    rfl
  · obtain ⟨k, dx, lm, da, dr, bk, mom, rows, key, t, rel, rfl, hk, hr0, ap, ok, hR, nin, rl, k0⟩ := h
    have hcl := T.cl_Keeper; have hno__asked := T.no_Keeper__asked; have hno__meters := T.no_Keeper__meters; have hno__released := T.no_Keeper__released; have hno_book := T.no_Keeper_book; have hno_moment := T.no_Keeper_moment
    refine ⟨_, (PSs.nox (pss_cons (ps_for PassesOwn.never rfl (pi_list (show PE _ _ (tFld K _ _) from pe_fld (pv 0) rfl)) (pg_tup rfl (pgs_cons (pg_name (i := 3) sc_Keeper_give_back.nd rfl (Or.inl rfl)) (pgs_cons (pg_name (i := 4) sc_Keeper_give_back.nd rfl (Or.inl rfl)) pgs_nil)))
    (pss_one (ps_expr (pe_six (pe_meth (pv 4) T.cl_WindowMeter T.me_WindowMeter_released ((ok_WindowMeter_released T).mono (by decide)) hr T.bd_WindowMeter_released .nil pass0 (pa_cons (pv 1) (pa_cons (pv 2) pa_nil))) (pe_meth (pv 4) T.cl_SpanMeter T.me_SpanMeter_released ((ok_SpanMeter_released T).mono (by decide)) hr T.bd_SpanMeter_released .nil pass0 (pa_cons (pv 1) (pa_cons (pv 2) pa_nil))) (pe_meth (pv 4) T.cl_BucketMeter T.me_BucketMeter_released ((ok_BucketMeter_released T).mono (by decide)) hr T.bd_BucketMeter_released .nil pass0 (pa_cons (pv 1) (pa_cons (pv 2) pa_nil))) (pe_meth (pv 4) T.cl_GapMeter T.me_GapMeter_released ((ok_GapMeter_released T).mono (by decide)) hr T.bd_GapMeter_released .nil pass0 (pa_cons (pv 1) (pa_cons (pv 2) pa_nil))) (pe_meth (pv 4) T.cl_HeldMeter T.me_HeldMeter_released ((ok_HeldMeter_released T).mono (by decide)) hr T.bd_HeldMeter_released .nil pass0 (pa_cons (pv 1) (pa_cons (pv 2) pa_nil))) (pe_meth (pv 4) T.cl_PoolMeter T.me_PoolMeter_released ((ok_PoolMeter_released T).mono (by decide)) hr T.bd_PoolMeter_released .nil pass0 (pa_cons (pv 1) (pa_cons (pv 2) pa_nil)))))))
    (pss_one (ps_dput (hu_of hr) (show PE _ _ (tFld K _ _) from pe_fld (pv 0) rfl) (pv 1) pe_bl rfl)))), ?_⟩
    walk_at "go"
    refine r_foL ?_
    walk_at "go"
    refine fo_L (L := rows) (ev := fun r => .ref r.pa) (fun i σ' H' => Fr (ownR rows) H H' ∧ (∀ j r, rows[j]? = some r → MetAt K H' r.m r.own r.L (if j < i then relM r.s key else r.s)) ∧ ∃ z1 z2, σ' = [some (.ref k), some (.str key), some (.int t), z1, z2]) (.inl (.inl hr0.1)) (fun Q' q => r_c q)
      ⟨Fr.rf, (fun j r hj => by rw [if_neg (Nat.not_lt_zero _)]; exact (hr0.2 r (List.mem_of_getElem? hj)).2), none, none, rfl⟩ (fun i σ' H' q => .inl (.inl (q.1 lm _ hr0.1 (.inl trivial)))) ?_ ?_
    · rintro i r σ' H' hi ⟨fr, inv, z1, z2, rfl⟩
      have hr := List.mem_of_getElem? hi
      have hp := fr.tu.t (hr0.2 r hr).1
      have hm := inv i r hi
      rw [if_neg (Nat.lt_irrefl i)] at hm
      obtain ⟨wf, so⟩ := ok r hr
      walk_at "go"
      refine six_rel (t := t) (key := key) hm wf so (fun Q' q => ?_) (fun QA q => ?_) (fun b H2 f2 hm2 => ?_)
      · walk_at "go"
        exact q
      · walk_at "go"
        exact q
      · walk_at "go"
        exact ⟨fr.tr (Fr.own hr f2), rows_step ap.ap hi inv f2 hm2, _, _, rfl⟩
    · rintro σ' H' ⟨fr, inv, z1, z2, rfl⟩
      have hm2 := rows_end fr hr0 inv
      have hk2 := fr k _ hk (.inr ap.nk)
      have hR2 : RelAt H' dr rel := fr dr _ hR (.inr ap.nr)
      walk_at "go"
      refine r_sdput1 hR2 (by rw [List.length_map]; omega) ?_
      rw [show putK (rel.map fun key => ((Sum.inr key : Key), V.bl true)) (Sum.inr key) (V.bl true) = (rel.map fun x => ((Sum.inr (id x) : Key), V.bl true)) ++ [(Sum.inr key, V.bl true)] from putK_new (f := id) (v := fun _ => V.bl true) nin]
      have f3 : Fr (fun b => b = dr) H' (upd H' dr (.dK ((rel.map fun x => ((Sum.inr (id x) : Key), V.bl true)) ++ [(Sum.inr key, V.bl true)]))) := Fr.wr hR2 (fun z => z) rfl
      refine k0 _ ((fr.mono fun b hb => .inr hb).tr (f3.mono fun b hb => .inl hb)) ?_ ?_
      · exact f3.mets (fun b hb e => ap.nr (by rw [← e]; exact (upR_own b).mp hb)) hm2
      · show upd _ _ _ dr = _
        rw [upd_same, List.map_append]
        rfl
abbrev sc_Keeper_release_N : List Str := ["self", "key", "moment"]
theorem sc_Keeper_release : FnScope ["self", "key", "moment"] ["self", "key", "moment"] (defScope s_Keeper_release) := ⟨rfl, rfl, rfl, by decide +kernel, rfl, by decide +kernel, by decide +kernel⟩
theorem ok_Keeper_release (T : Tx w K mg) : OkD P w K mg base ("Keeper", some "release") 3 ["self", "key", "moment"] (spKRel K) := by
  refine (T.fd_Keeper_release).ok sc_Keeper_release (fun vs H Q E h => ?_) (fun cdv A outer s H vs Q E hr h => ?_)
  · obtain ⟨k, own, S, key, t, rfl, _⟩ := h
    rfl
  · obtain ⟨k, own, S, key, t, rfl, hK, ok, rl, t0, t1, hle, hin, k0⟩ := h
    have hcl := T.cl_Keeper; have hno__asked := T.no_Keeper__asked; have hno__meters := T.no_Keeper__meters; have hno__released := T.no_Keeper__released; have hno_book := T.no_Keeper_book; have hno_moment := T.no_Keeper_moment
    obtain ⟨dx, lm, da, dr, bk, rows, rfl, ap, hms, hk, hm, hA, hR⟩ := hK
    obtain ⟨x, hx, ex⟩ := hin
    obtain ⟨y, hy⟩ : ∃ y, S.asked.find? (fun x => decide (x.1 = key)) = some y := by
      cases q : S.asked.find? (fun x => decide (x.1 = key)) with
      | none => exact absurd (decide_eq_true ex) (List.find?_eq_none.mp q x hx)
      | some y => exact ⟨y, rfl⟩
    have hh : holdsK S key = (y.2.isEmpty && !S.rel.any fun y => decide (y = key)) := by
      unfold holdsK
      rw [hy]
    have mok : ∀ r ∈ rows, WfL r.L ∧ StOk r.L r.s := fun r hr => by
      have h1 := ok.ms (rowK r) (by rw [← hms]; exact List.mem_map.mpr ⟨r, hr, rfl⟩)
      exact ⟨h1.1, h1.2.2.ok (by rw [List.length_map]; exact Nat.le_trans ok.few (by decide))⟩
    have f1 : Fr (ownK k da dr rows) H (upd H k (.ins (He.ga K "Keeper") dx (fsK bk (.int t) lm da dr))) := Fr.wr hk (fun z => z) (.inl rfl)
    have f0 : Fr (fun b => b = k) H (upd H k (.ins (He.ga K "Keeper") dx (fsK bk (.int t) lm da dr))) := Fr.wr hk (fun z => z) rfl
    have hk1 : (upd H k (.ins (He.ga K "Keeper") dx (fsK bk (.int t) lm da dr))) k = some (.ins (He.ga K "Keeper") dx (fsK bk (.int t) lm da dr)) := upd_same
    have hm1 := f0.mets (fun b hb e => ap.nk (by rw [← e]; exact hb)) hm
    have hA1 := f0.asks ap.ak hA
    have hR1 : RelAt _ dr S.rel := f0 dr _ hR (.inr ap.rk)
    refine ⟨_, (PSs.nox (pss_cons (ps_expr (pe_call ((ok_check_moment T).mono (by decide)) hr (by rfl) T.g_check_moment T.fd_check_moment.kp T.bd_check_moment .nil pass0 (pa_cons (pv 2) pa_nil)))
    (pss_cons (ps_expr (pe_meth (pv 0) T.cl_Keeper T.me_Keeper_check_known ((ok_Keeper_check_known T).mono (by decide)) hr T.bd_Keeper_check_known .nil pass0 (pa_cons (pv 1) pa_nil)))
    (pss_cons (ps_expr (pe_meth (pv 0) T.cl_Keeper T.me_Keeper_check_next ((ok_Keeper_check_next T).mono (by decide)) hr T.bd_Keeper_check_next .nil pass0 (pa_cons (pv 2) pa_nil)))
    (pss_cons (ps_fld (pv 0) (pv 2) rfl)
    (pss_cons (ps_if (pt_not (pt_val (pe_meth (pv 0) T.cl_Keeper T.me_Keeper_holds ((ok_Keeper_holds T).mono (by decide)) hr T.bd_Keeper_holds .nil pass0 (pa_cons (pv 1) pa_nil)))) (pss_one (ps_ret pe_bl)) pss_nil)
    (pss_cons (ps_expr (pe_meth (pv 0) T.cl_Keeper T.me_Keeper_give_back ((ok_Keeper_give_back T).mono (by decide)) hr T.bd_Keeper_give_back .nil pass0 (pa_cons (pv 1) (pa_cons (pv 2) pa_nil))))
    (pss_one (ps_ret pe_bl))))))))), ?_⟩
    walk_at "go"
    refine ⟨t, rfl, t0, t1, ?_⟩
    walk_at "go"
    refine ⟨k, dx, lm, da, dr, bk, _, key, S.asked, rfl, hk, hA, ⟨x, hx, ex⟩, ?_⟩
    walk_at "go"
    refine ⟨k, dx, lm, da, dr, bk, S.mom, t, rfl, hk, hle, ?_⟩
    walk_at "go"
    rw [fsK_mom]
    walk_at "go"
    refine ⟨k, dx, lm, da, dr, bk, _, key, S.asked, S.rel, y, rfl, hk1, hA1, hR1, hy, ?_⟩
    rw [← hh]
    cases q : holdsK S key with
    | false =>
      rw [q] at k0
      walk_at "go"
      refine k0 _ f1 ⟨dx, lm, da, dr, bk, rows, rfl, ap, ?_, hk1, hm1, hA1, ?_⟩
      · unfold relK
        rw [q]
        exact hms
      · unfold relK
        rw [q]
        exact hR1
    | true =>
      rw [q] at k0
      have nin : ∀ z ∈ S.rel, z ≠ key := fun z hz e => by
        rw [q, Eq.comm, Bool.and_eq_true] at hh
        have h2 := hh.2
        rw [Bool.not_eq_true', List.any_eq_false] at h2
        exact h2 z hz (decide_eq_true e)
      walk_at "go"
      refine ⟨k, dx, lm, da, dr, bk, _, rows, key, t, S.rel, rfl, hk1, hm1, ap, mok, hR1, nin, by omega, fun H' f2 hm2 hR2 => ?_⟩
      walk_at "go"
      have kk : H' k = _ := f2 k _ hk1 (.inr (fun z => z.elim (fun e => ap.rk e.symm) ap.nk))
      refine k0 _ (f1.tr (f2.mono fun b hb => .inr (.inr hb))) ⟨dx, lm, da, dr, bk, upR (fun r => relM r.s key) rows, ?_, upR_kap ap, ?_, kk, hm2, f2.asks (fun z => z.elim ap.ar ap.na) hA1, ?_⟩
      · funext b
        unfold ownK
        rw [upR_own']
      · unfold relK
        rw [q, if_pos rfl, ← hms]
        unfold upR
        rw [List.map_map, List.map_map]
        rfl
      · unfold relK
        rw [q]
        exact hR2
end
end Lw
end
section
set_option maxRecDepth 100000
set_option maxHeartbeats 4000000
namespace Lw
open PySem PySem.Spec PyProof.Rows L2
local macro_rules | `(tactic| walk_at "hp") => `(tactic| first | assumption | exact upd_same | exact (by assumption : Ex _ _) _ _ (by assumption))
local macro_rules | `(tactic| walk_at "lk") => `(tactic| fail "no look-up")
local macro_rules | `(tactic| walk_at "tk") => `(tactic| first | assumption | exact Ex.t (by assumption) (by assumption) | exact Ex.l (by assumption) (by assumption) | exact .inl (.inl (by assumption)))
local macro_rules | `(tactic| walk_at "st") => `(tactic| first
  | with_reducible refine r_seq ?_ | with_reducible refine r_asg ?_ | with_reducible refine r_name ?_
  | ((with_reducible refine' r_var ?k1 ?_); (case k1 => exact rfl))
  | with_reducible refine r_c ?_ | with_reducible refine r_op ?_ | with_reducible refine r_un ?_ | with_reducible refine r_cb ?_ | with_reducible refine r_nil ?_ | with_reducible refine r_cons ?_
  | with_reducible refine r_call ?_ | with_reducible refine r_ret ?_ | with_reducible refine r_drop ?_ | with_reducible refine r_ifs ?_ | with_reducible refine r_ife ?_ | with_reducible refine r_next ?_
  | with_reducible refine r_test ?_ | with_reducible refine r_tB ?_ | with_reducible refine r_bl ?_ | with_reducible refine r_blx ?_ | with_reducible refine r_tnot ?_ | with_reducible refine r_tand ?_ | with_reducible refine r_tor ?_
  | with_reducible refine r_not ?_ | with_reducible refine r_and ?_ | with_reducible refine r_or ?_ | with_reducible refine r_I0 ?_ | with_reducible refine r_U ?_
  | with_reducible refine r_eqS ?_ | with_reducible refine r_eqI ?_ | with_reducible refine r_neS ?_ | with_reducible refine r_neI ?_ | with_reducible refine r_chain ?_
  | ((with_reducible refine' r_gtup ?k1 ?k2 ?_); (case k1 => walk_at "tk"); (case k2 => exact rfl))
  | with_reducible refine r_gcons ?_ | with_reducible refine r_gnil ?_
  | ((with_reducible refine' r_ixT ?k1 ?k2 ?_); (case k1 => walk_at "tk"); (case k2 => exact rfl))
  | ((with_reducible refine' r_ixL ?k1 ?k2 ?_); (case k1 => walk_at "tk"); (case k2 => exact rfl))
  | with_reducible refine r_tup ?_ | with_reducible refine r_lst ?_ | with_reducible refine iteT ?_ | with_reducible refine iteF ?_
  | ((with_reducible refine' r_wipe ?k1 ?_); (case k1 => exact rfl)) | with_reducible refine r_tyes ?_
  | ((with_reducible refine' r_lenT ?k1 ?_); (case k1 => walk_at "tk")) | ((with_reducible refine' r_lenL ?k1 ?_); (case k1 => walk_at "tk"))
  | with_reducible refine r_fld ?_ | with_reducible refine r_sfld ?_ | with_reducible refine r_gfld ?_ | with_reducible refine r_meth ?_
  | ((with_reducible refine' r_fld1 ?k1 ?k2 ?k3 ?k4 ?_); (case k1 => walk_at "hp"); (case k2 => assumption); (case k3 => assumption); (case k4 => walk_at "lk"))
  | ((with_reducible refine' r_sfld1 ?k1 ?k2 ?k3 ?k4 ?_); (case k1 => walk_at "hp"); (case k2 => assumption); (case k3 => assumption); (case k4 => exact Nat.lt_of_le_of_lt (Nat.le_of_ble_eq_true rfl) (by decide : 10 < 1000)))
  | ((with_reducible refine' r_gfld1 ?k1 ?k2 ?k3 ?k4 ?_); (case k1 => walk_at "hp"); (case k2 => assumption); (case k3 => assumption); (case k4 => exact Nat.lt_of_le_of_lt (Nat.le_of_ble_eq_true rfl) (by decide : 10 < 1000)))
  | with_reducible refine r_ks ?_ | with_reducible refine r_kq ?_
  | ((with_reducible refine' r_meth1 ?k1 ?k2 ?_); (case k1 => walk_at "hp"); (case k2 => kernel_rfl))
  | with_reducible refine r_kb ?_ | with_reducible refine r_tru ?_ | with_reducible refine r_bm0 ?_ | with_reducible refine r_bm ?_
  | ((with_reducible refine' r_tyL ?k1 ?_); (case k1 => walk_at "hp"))
  | with_reducible refine r_sdput ?_ | with_reducible refine r_dget ?_ | with_reducible refine r_din ?_ | with_reducible refine r_dnin ?_ | with_reducible refine r_dpop ?_
  | ((with_reducible refine' r_dpop0 ?k1 ?_); (case k1 => walk_at "hp"))
  | ((with_reducible refine' r_strY ?k1 ?_); (case k1 => decide +kernel)) | ((with_reducible refine' r_strN ?k1 ?_); (case k1 => decide +kernel))
  | ((with_reducible refine' r_nstrY ?k1 ?_); (case k1 => decide +kernel)) | ((with_reducible refine' r_nstrN ?k1 ?_); (case k1 => decide +kernel))
  | with_reducible refine r_gcd ?_ | with_reducible refine r_par ?_ | with_reducible refine r_par1 ?_
  | with_reducible refine r_make ?_ | with_reducible refine r_orJ ?_
  | with_reducible refine r_isN ?_ | with_reducible refine r_notN ?_
  | with_reducible refine r_abs ?_ | with_reducible refine r_int ?_ | with_reducible refine r_min ?_ | with_reducible refine r_max ?_)
local macro_rules | `(tactic| walk_at "go") => `(tactic| repeat walk_at "st")
local macro_rules | `(tactic| walk_at "st") => `(tactic| first | with_reducible refine r_nt ?_ | with_reducible refine r_nf ?_ | with_reducible refine r_le4 ?_ | with_reducible refine r_ltS ?_ | with_reducible refine r_inS ?_)
local macro_rules | `(tactic| walk_at "st") => `(tactic| first | with_reducible refine r_disp ?_ | with_reducible refine r_pr ?_ | with_reducible refine r_pnil ?_ | ((with_reducible refine' r_isi ?k1 ?k2 ?k3 ?_); (case k1 => exact ClsV.ty _); (case k2 => first | exact .base (.int _) | exact tyT (by assumption)); (case k3 => exact kit_ty (r := true) (by decide +kernel))))
local macro_rules | `(tactic| walk_at "st") => `(tactic| first | with_reducible refine r_ckw ?_ | with_reducible refine r_lenTx ?_)
local macro_rules | `(tactic| walk_at "lk") => `(tactic| first | exact lkK1 | exact lkK2 | exact lkK3 | exact lkK4 | exact lkK5)
def spKAsk (K : PySem.W.Frag) : Sp := fun vs H Q _ => ∃ (k rq : Addr) (own : Addr → Prop) (S : KSt) (key g : Str) (c t : Int), vs = [.ref k, .ref rq, .int t] ∧ SqT K H rq [.str key, .str g, .int c] ∧ KpAt K H k own S ∧ KOk S ∧ keyOk key = true ∧ nameOk g = true ∧ 1 ≤ c ∧ c ≤ 1000 ∧ 0 ≤ t ∧ t ≤ 1000000000 ∧
  (∀ n, S.mom = some n → n ≤ t) ∧ (∀ x ∈ S.asked, x.1 ≠ key) ∧ ∀ a H', Fr own H H' → KpAt K H' k own (askK S key g c t) → AnsAt K H' a key t (lackK S t g c) (earlyK S t g c) → Q (.ref a) H'
section
variable {P : Program} {w : World} {K : PySem.W.Frag} {mg : Str → Option Value} {base : Heap}
abbrev sc_Keeper_ask_N : List Str := ["self", "request", "moment", "key", "group", "cost", "lacking", "earliest", "name", "meter"]
theorem sc_Keeper_ask : FnScope ["self", "request", "moment", "key", "group", "cost", "lacking", "earliest", "name", "meter"] ["self", "request", "moment"] (defScope s_Keeper_ask) := ⟨rfl, rfl, rfl, by decide +kernel, rfl, by decide +kernel, by decide +kernel⟩
theorem ok_Keeper_ask (T : Tx w K mg) : OkD P w K mg base ("Keeper", some "ask") 6 ["self", "request", "moment"] (spKAsk K) := by
  refine (T.fd_Keeper_ask).ok sc_Keeper_ask (fun vs H Q E h => ?_) (fun cdv A outer s H vs Q E hr h => ?_)
  · obtain ⟨k, rq, own, S, key, g, c, t, rfl, _⟩ := h
    rfl
  · obtain ⟨k, rq, own, S, key, g, c, t, rfl, hrq, hK, ok, kok, gok, c1, c2, t1, t2, hle, nin, k0⟩ := h
    have hcl := T.cl_Keeper; have hno__asked := T.no_Keeper__asked; have hno__meters := T.no_Keeper__meters; have hno__released := T.no_Keeper__released; have hno_book := T.no_Keeper_book; have hno_moment := T.no_Keeper_moment
    obtain ⟨dx, lm, da, dr, bk, rows, rfl, ap, hms, hk, hm, hA, hR⟩ := hK
    have nrow : rows.length = S.ms.length := by rw [← hms, List.length_map]
    have one := ok.one
    have most := ok.most
    have few := ok.few
    have kz : (S.asked.map (·.1)).length ≤ 1000 := by rw [List.length_map]; omega
    have mok : ∀ r ∈ rows, WfL r.L ∧ StOk r.L r.s ∧ Fresh key r.s := fun r hr => by
      have h1 := ok.ms (rowK r) (by rw [← hms]; exact List.mem_map.mpr ⟨r, hr, rfl⟩)
      refine ⟨h1.1, h1.2.2.ok kz, h1.2.2.fresh kz fun z => ?_⟩
      obtain ⟨x, hx, e⟩ := List.mem_map.mp z
      exact nin x hx e
    refine ⟨_, (PSs.nox (pss_cons (ps_asg (pv 1) (pg_tup rfl (pgs_cons (pg_name (i := 3) sc_Keeper_ask.nd rfl (Or.inl rfl)) (pgs_cons (pg_name (i := 4) sc_Keeper_ask.nd rfl (Or.inr rfl)) (pgs_cons (pg_name (i := 5) sc_Keeper_ask.nd rfl (Or.inr rfl)) pgs_nil)))))
    (pss_cons (ps_expr (pe_call ((ok_check_request T).mono (by decide)) hr (by rfl) T.g_check_request T.fd_check_request.kp T.bd_check_request .nil pass0 (pa_cons (pv 3) (pa_cons (pv 4) (pa_cons (pv 5) pa_nil)))))
    (pss_cons (ps_expr (pe_call ((ok_check_moment T).mono (by decide)) hr (by rfl) T.g_check_moment T.fd_check_moment.kp T.bd_check_moment .nil pass0 (pa_cons (pv 2) pa_nil)))
    (pss_cons (ps_if (pt_cmp (pc_din (hu_of hr) (pv 3) (show PE _ _ (tFld K _ _) from pe_fld (pv 0) rfl))) (pss_one ps_never) pss_nil)
    (pss_cons (ps_expr (pe_meth (pv 0) T.cl_Keeper T.me_Keeper_check_next ((ok_Keeper_check_next T).mono (by decide)) hr T.bd_Keeper_check_next .nil pass0 (pa_cons (pv 2) pa_nil)))
    (pss_cons (ps_if (pt_cmpR op_ge (pe_callB (r := rLenD) cr_lenD (by rfl) T.f_len PySem.boot_len (pa_cons (show PE _ _ (tFld K _ _) from pe_fld (pv 0) rfl) pa_nil)) (pe_glob (v := .int 2000) rfl T.i_MOST_KEYS ⟨_, rfl⟩) (nomark _)) (pss_one ps_never) pss_nil)
    (pss_cons (ps_set (i := 6) sc_Keeper_ask.nd rfl (Or.inl rfl) (pe_callTy (r := rTupJ K) cr_tupJ (by rfl) T.f_tuple (by decide +kernel) (pa_cons (pe_lc (own := [("name", 8), ("meter", 9)]) rfl sc_Keeper_ask.nd (pi_list (show PE _ _ (tFld K _ _) from pe_fld (pv 0) rfl)) (blkOk_by (own := [("name", 8), ("meter", 9)]) (N := sc_Keeper_ask_N) (sc := defScope s_Keeper_ask) (by decide +kernel)) (fun _ _ _ _ _ => (show PG _ _ (gTup K 2 _) from pg_tup rfl (pgs_cons (pg_name (i := 8) sc_Keeper_ask.nd rfl (Or.inl rfl)) (pgs_cons (pg_name (i := 9) sc_Keeper_ask.nd rfl (Or.inl rfl)) pgs_nil)))) (fun _ _ _ _ _ => pts_one (pt_not (pt_val (pe_six (pe_meth (pv 9) T.cl_WindowMeter T.me_WindowMeter_room ((ok_WindowMeter_room T).mono (by decide)) hr T.bd_WindowMeter_room .nil pass0 (pa_cons (pv 2) (pa_cons (pv 4) (pa_cons (pv 5) pa_nil)))) (pe_meth (pv 9) T.cl_SpanMeter T.me_SpanMeter_room ((ok_SpanMeter_room T).mono (by decide)) hr T.bd_SpanMeter_room .nil pass0 (pa_cons (pv 2) (pa_cons (pv 4) (pa_cons (pv 5) pa_nil)))) (pe_meth (pv 9) T.cl_BucketMeter T.me_BucketMeter_room ((ok_BucketMeter_room T).mono (by decide)) hr T.bd_BucketMeter_room .nil pass0 (pa_cons (pv 2) (pa_cons (pv 4) (pa_cons (pv 5) pa_nil)))) (pe_meth (pv 9) T.cl_GapMeter T.me_GapMeter_room ((ok_GapMeter_room T).mono (by decide)) hr T.bd_GapMeter_room .nil pass0 (pa_cons (pv 2) (pa_cons (pv 4) (pa_cons (pv 5) pa_nil)))) (pe_meth (pv 9) T.cl_HeldMeter T.me_HeldMeter_room ((ok_HeldMeter_room T).mono (by decide)) hr T.bd_HeldMeter_room .nil pass0 (pa_cons (pv 2) (pa_cons (pv 4) (pa_cons (pv 5) pa_nil)))) (pe_meth (pv 9) T.cl_PoolMeter T.me_PoolMeter_room ((ok_PoolMeter_room T).mono (by decide)) hr T.bd_PoolMeter_room .nil pass0 (pa_cons (pv 2) (pa_cons (pv 4) (pa_cons (pv 5) pa_nil)))))))) (fun _ _ _ _ _ => (pv 8))) pa_nil)))
    (pss_cons (ps_set (i := 7) sc_Keeper_ask.nd rfl (Or.inl rfl) (pe_meth (pv 0) T.cl_Keeper T.me_Keeper_earliest ((ok_Keeper_earliest T).mono (by decide)) hr T.bd_Keeper_earliest .nil pass0 (pa_cons (pv 4) (pa_cons (pv 5) (pa_cons (pv 2) pa_nil)))))
    (pss_cons (ps_if (pt_cmpR op_eq (pe_callB (r := rLenJ K) cr_lenJ (by rfl) T.f_len PySem.boot_len (pa_cons (pv 6) pa_nil)) pe_int (nomark _)) (pss_one (ps_expr (pe_meth (pv 0) T.cl_Keeper T.me_Keeper_let ((ok_Keeper_let T).mono (by decide)) hr T.bd_Keeper_let .nil pass0 (pa_cons (pv 3) (pa_cons (pv 4) (pa_cons (pv 5) (pa_cons (pv 2) pa_nil))))))) pss_nil)
    (pss_cons (ps_dput (hu_of hr) (show PE _ _ (tFld K _ _) from pe_fld (pv 0) rfl) (pv 3) (pe_tup (pa_cons (pv 4) (pa_cons (pv 5) (pa_cons (pv 2) (pa_cons (pv 6) (pa_cons (pv 7) pa_nil)))))) rfl)
    (pss_cons (ps_fld (pv 0) (pv 2) rfl)
    (pss_one (ps_ret (pe_make T.mk_Answer ((ok_Answer_init T).mono (by decide)) hr (by rfl) T.g_Answer T.bd_Answer_init .nil pass0 (pa_cons (pv 3) (pa_cons (pv 2) (pa_cons (pv 6) (pa_cons (pv 7) pa_nil))))))))))))))))))), ?_⟩
    walk_at "go"
    refine ⟨key, g, c, rfl, kok, gok, c1, c2, fun H1 e1 => ?_⟩
    walk_at "go"
    refine ⟨t, rfl, t1, t2, ?_⟩
    have hk1 := e1 _ _ hk
    obtain ⟨asks0, a1, a2, a3⟩ := (Ex.frm (W := fun _ => False) e1).asks id hA
    walk_at "go"
    refine r_din1 a2 ?_
    have hs : (valV (asks0.map fun x => ((Sum.inr x.2.1 : Key), V.ref x.1)) (Sum.inr key)).isSome = false := by
      rw [valV_str, Option.isSome_map, List.find?_eq_none.mpr (fun y hy h => nin y.2 (by rw [← a1]; exact List.mem_map.mpr ⟨y, hy, rfl⟩) (of_decide_eq_true h))]
      rfl
    rw [hs]
    walk_at "go"
    refine ⟨k, dx, lm, da, dr, bk, S.mom, t, rfl, hk1, hle, ?_⟩
    walk_at "go"
    refine r_lenD a2 ?_
    walk_at "go"
    refine r_no ?_ ?_
    · have : asks0.length = S.asked.length := by rw [← a1, List.length_map]
      rw [List.length_map]
      omega
    walk_at "go"
    refine r_lcL ?_
    walk_at "go"
    have hm1 := (Ex.frm (W := fun _ => False) e1).mets (fun b _ => id) hm
    refine lc_L (L := rows) (ev := fun r => .ref r.pa) (p := fun r => !roomM r.L r.s t g c) (f := fun r => .str r.L.name) (by omega) (.inl (.inl hm1.1)) (fun Q' q => ?_) (fun r hr H' e Kt Kf kt kf => ?_) (fun D H2 hD e2 hd => ?_)
    · walk_at "go"
      exact q
    · have hp := e.t (hm1.2 r hr).1
      have hmt := (hm1.2 r hr).2.ex e
      walk_at "go"
      refine six_room (t := t) (g := g) (c := c) hmt (mok r hr).1 (mok r hr).2.1 (fun Q' q => ?_) (fun QA q => ?_) (fun H2 e2 => ?_)
      · walk_at "go"
        exact q
      · walk_at "go"
        exact q
      · walk_at "go"
        cases z : roomM r.L r.s t g c with
        | true => exact kf (by show (!roomM r.L r.s t g c) = false; rw [z]; rfl) _ e2
        | false =>
          refine r_nf ?_
          walk_at "go"
          exact kt (by show (!roomM r.L r.s t g c) = true; rw [z]; rfl) _ e2
    have hlack : (rows.filter fun r => !roomM r.L r.s t g c).map (fun r => V.str r.L.name) = (lackK S t g c).map V.str := by
      unfold lackK
      rw [← hms, List.filter_map, List.map_map, List.map_map]
      rfl
    rw [hlack] at hd
    walk_at "go"
    refine r_tupOf (.inl (.inl hd)) fun lk H3 n3 e3 hlk => ?_
    have hk3 := e3 _ _ (e2 _ _ hk1)
    have e03 := e1.tr (e2.tr e3)
    have hm3 := (Ex.frm (W := fun _ => False) e03).mets (fun b _ => id) hm
    walk_at "go"
    refine ⟨k, dx, lm, da, dr, bk, _, rows, g, c, t, rfl, hk3, hm3, by omega, by omega, fun r hr => ⟨(mok r hr).1, (mok r hr).2.1⟩, fun H4 e4 => ?_⟩
    have hke : earlyAll (rows.map fun r => earlyM r.L r.s t g c) = earlyK S t g c := by
      unfold earlyK
      rw [← hms, List.map_map]
      rfl
    rw [hke]
    have lk4 : SqT K H4 lk ((lackK S t g c).map V.str) := e4.t (.inl (.inl hlk))
    have hll : ((lackK S t g c).map V.str).length = (lackK S t g c).length := List.length_map ..
    have hk4 := e4 _ _ hk3
    have e04 := e03.tr e4
    have hm4 := (Ex.frm (W := fun _ => False) e04).mets (fun b _ => id) hm
    have f4 : Fr (ownR rows) H H4 := Ex.frm e04
    walk_at "go"
    rw [hll, dec_len]
    cases qe : (lackK S t g c).isEmpty with
    | false =>
      have hrow : rows.map rowK = (askK S key g c t).ms := by
        unfold askK
        rw [qe]
        exact hms
      have kap := ap
      have hown : ownK k da dr rows = ownK k da dr rows := rfl
      obtain ⟨rows4, er⟩ : ∃ r4, r4 = rows := ⟨_, rfl⟩
      rw [← er] at hrow kap hm4
      have hown : ownK k da dr rows = ownK k da dr rows4 := by rw [er]
      walk_at "go"
      refine r_newT (fun pt H5 n5 e5 hpt => ?_)
      have hk5 := e5 _ _ hk4
      have f45 : Fr (ownR rows) H H5 := f4.tr (Ex.frm e5)
      obtain ⟨asks, a1, a2, a3⟩ := f45.asks ap.na hA
      have la : asks.length = S.asked.length := by rw [← a1, List.length_map]
      have few := ok.few
      walk_at "go"
      refine r_sdput1 a2 (by rw [List.length_map]; omega) ?_
      rw [show putK (asks.map fun x => ((Sum.inr x.2.1 : Key), V.ref x.1)) (Sum.inr key) (.ref pt) = (asks.map fun x => ((Sum.inr x.2.1 : Key), V.ref x.1)) ++ [(Sum.inr key, .ref pt)] from putK_new (f := fun x : Addr × (Str × List Str) => x.2.1) (v := fun x => V.ref x.1) (fun x hx => nin x.2 (by rw [← a1]; exact List.mem_map.mpr ⟨x, hx, rfl⟩))]
      have f6 : Fr (fun b => b = da) H5 (upd H5 da (.dK ((asks.map fun x => ((Sum.inr x.2.1 : Key), V.ref x.1)) ++ [(Sum.inr key, .ref pt)]))) := Fr.wr a2 (fun z => z) rfl
      have d6 : (upd H5 da (.dK ((asks.map fun x => ((Sum.inr x.2.1 : Key), V.ref x.1)) ++ [(Sum.inr key, .ref pt)]))) da = some (.dK ((asks.map fun x => ((Sum.inr x.2.1 : Key), V.ref x.1)) ++ [(Sum.inr key, .ref pt)])) := upd_same
      generalize upd H5 da (.dK ((asks.map fun x => ((Sum.inr x.2.1 : Key), V.ref x.1)) ++ [(Sum.inr key, .ref pt)])) = H6 at f6 d6 ⊢
      have hk6 := f6 k _ hk5 (.inr ap.ak.symm)
      walk_at "go"
      rw [fsK_mom]
      have f7 : Fr (fun b => b = k) H6 (upd H6 k (.ins (He.ga K "Keeper") dx (fsK bk (.int t) lm da dr))) := Fr.wr hk6 (fun z => z) rfl
      have d7 : (upd H6 k (.ins (He.ga K "Keeper") dx (fsK bk (.int t) lm da dr))) k = some (.ins (He.ga K "Keeper") dx (fsK bk (.int t) lm da dr)) := upd_same
      generalize upd H6 k (.ins (He.ga K "Keeper") dx (fsK bk (.int t) lm da dr)) = H7 at f7 d7 ⊢
      have f57 : Tu H5 H7 := (f6.tu).tr f7.tu
      intro x dx2 nx nd ne
      have exm : Ex H7 (upd (upd H7 dx2 (.own x)) x (.ins (He.ga K "Answer") dx2 [])) := Ex.tr (Ex.nw nd) (Ex.nw (by rw [upd_ne (Ne.symm ne)]; exact nx))
      have lk7 := f57.t ((Ex.frm (W := fun _ => False) e5).tu.t lk4)
      refine ⟨x, dx2, _, key, t, lackK S t g c, earlyK S t g c, rfl, upd_same, exm.t lk7, fun H' fr hans => ⟨rfl, ?_⟩⟩
      have eL := made nx nd fr
      have f67 : Fr (ownK k da dr rows) H5 H7 := (f6.mono fun b (hb : b = da) => .inr (.inl hb)).tr (f7.mono fun b (hb : b = k) => .inl hb)
      have fall : Fr (ownK k da dr rows) H H' := (f45.mono fun b hb => .inr (.inr (.inr hb))).tr (f67.tr (Ex.frm eL))
      refine k0 x H' fall ?_ ⟨dx2, _, hans, eL.t lk7⟩
      · refine KpAt.keep (W := fun _ => False) (Ex.frm eL) (fun b _ => id) ⟨dx, lm, da, dr, bk, rows4, hown, kap, hrow, d7, ?_, ⟨asks ++ [(pt, (key, lackK S t g c))], ?_, ?_, fun y hy => ?_⟩, ?_⟩
        · exact f7.mets (fun b hb e => kap.nk (by rw [← e]; exact hb)) (f6.mets (fun b hb e => kap.na (by rw [← e]; exact hb)) ((Ex.frm (W := fun _ => False) e5).mets (fun b _ => id) hm4))
        · rw [List.map_append, a1]
          rfl
        · rw [f7 da _ d6 (.inr ap.ak), List.map_append]
          rfl
        · rcases List.mem_append.mp hy with z | z
          · obtain ⟨q1, q2, q3, q4, q5, q6, q7⟩ := a3 y z
            exact ⟨q1, q2, q3, q4, q5, f57.t q6, f57.t q7⟩
          · rw [List.mem_singleton.mp z]
            exact ⟨_, _, _, _, _, f57.t (.inl (.inl hpt)), lk7⟩
        · exact f7 dr _ (f6 dr _ (f45 dr _ hR (.inr ap.nr)) (.inr ap.ar.symm)) (.inr ap.rk)
    | true =>
      walk_at "go"
      refine ⟨k, dx, lm, da, dr, bk, _, rows, key, g, c, t, rfl, hk4, hm4, ap.ap, mok, fun H4 fL hmL => ?_⟩
      have lk4 := fL.tu.t lk4
      have hk4 := fL k _ hk4 (.inr ap.nk)
      have f4 := f4.tr fL
      have hm4 := hmL
      have kap := upR_kap (f := fun r => letM r.L r.s t g c key) ap
      have hrow : (upR (fun r => letM r.L r.s t g c key) rows).map rowK = (askK S key g c t).ms := by
        unfold askK
        rw [qe, if_pos rfl, ← hms]
        unfold upR
        rw [List.map_map, List.map_map]
        rfl
      have hown : ownK k da dr rows = ownK k da dr (upR (fun r => letM r.L r.s t g c key) rows) := by
        funext b
        unfold ownK
        rw [upR_own']
      generalize upR (fun r => letM r.L r.s t g c key) rows = rows4 at hm4 kap hrow hown
      walk_at "go"
      refine r_newT (fun pt H5 n5 e5 hpt => ?_)
      have hk5 := e5 _ _ hk4
      have f45 : Fr (ownR rows) H H5 := f4.tr (Ex.frm e5)
      obtain ⟨asks, a1, a2, a3⟩ := f45.asks ap.na hA
      have la : asks.length = S.asked.length := by rw [← a1, List.length_map]
      have few := ok.few
      walk_at "go"
      refine r_sdput1 a2 (by rw [List.length_map]; omega) ?_
      rw [show putK (asks.map fun x => ((Sum.inr x.2.1 : Key), V.ref x.1)) (Sum.inr key) (.ref pt) = (asks.map fun x => ((Sum.inr x.2.1 : Key), V.ref x.1)) ++ [(Sum.inr key, .ref pt)] from putK_new (f := fun x : Addr × (Str × List Str) => x.2.1) (v := fun x => V.ref x.1) (fun x hx => nin x.2 (by rw [← a1]; exact List.mem_map.mpr ⟨x, hx, rfl⟩))]
      have f6 : Fr (fun b => b = da) H5 (upd H5 da (.dK ((asks.map fun x => ((Sum.inr x.2.1 : Key), V.ref x.1)) ++ [(Sum.inr key, .ref pt)]))) := Fr.wr a2 (fun z => z) rfl
      have d6 : (upd H5 da (.dK ((asks.map fun x => ((Sum.inr x.2.1 : Key), V.ref x.1)) ++ [(Sum.inr key, .ref pt)]))) da = some (.dK ((asks.map fun x => ((Sum.inr x.2.1 : Key), V.ref x.1)) ++ [(Sum.inr key, .ref pt)])) := upd_same
      generalize upd H5 da (.dK ((asks.map fun x => ((Sum.inr x.2.1 : Key), V.ref x.1)) ++ [(Sum.inr key, .ref pt)])) = H6 at f6 d6 ⊢
      have hk6 := f6 k _ hk5 (.inr ap.ak.symm)
      walk_at "go"
      rw [fsK_mom]
      have f7 : Fr (fun b => b = k) H6 (upd H6 k (.ins (He.ga K "Keeper") dx (fsK bk (.int t) lm da dr))) := Fr.wr hk6 (fun z => z) rfl
      have d7 : (upd H6 k (.ins (He.ga K "Keeper") dx (fsK bk (.int t) lm da dr))) k = some (.ins (He.ga K "Keeper") dx (fsK bk (.int t) lm da dr)) := upd_same
      generalize upd H6 k (.ins (He.ga K "Keeper") dx (fsK bk (.int t) lm da dr)) = H7 at f7 d7 ⊢
      have f57 : Tu H5 H7 := (f6.tu).tr f7.tu
      intro x dx2 nx nd ne
      have exm : Ex H7 (upd (upd H7 dx2 (.own x)) x (.ins (He.ga K "Answer") dx2 [])) := Ex.tr (Ex.nw nd) (Ex.nw (by rw [upd_ne (Ne.symm ne)]; exact nx))
      have lk7 := f57.t ((Ex.frm (W := fun _ => False) e5).tu.t lk4)
      refine ⟨x, dx2, _, key, t, lackK S t g c, earlyK S t g c, rfl, upd_same, exm.t lk7, fun H' fr hans => ⟨rfl, ?_⟩⟩
      have eL := made nx nd fr
      have f67 : Fr (ownK k da dr rows) H5 H7 := (f6.mono fun b (hb : b = da) => .inr (.inl hb)).tr (f7.mono fun b (hb : b = k) => .inl hb)
      have fall : Fr (ownK k da dr rows) H H' := (f45.mono fun b hb => .inr (.inr (.inr hb))).tr (f67.tr (Ex.frm eL))
      refine k0 x H' fall ?_ ⟨dx2, _, hans, eL.t lk7⟩
      · refine KpAt.keep (W := fun _ => False) (Ex.frm eL) (fun b _ => id) ⟨dx, lm, da, dr, bk, rows4, hown, kap, hrow, d7, ?_, ⟨asks ++ [(pt, (key, lackK S t g c))], ?_, ?_, fun y hy => ?_⟩, ?_⟩
        · exact f7.mets (fun b hb e => kap.nk (by rw [← e]; exact hb)) (f6.mets (fun b hb e => kap.na (by rw [← e]; exact hb)) ((Ex.frm (W := fun _ => False) e5).mets (fun b _ => id) hm4))
        · rw [List.map_append, a1]
          rfl
        · rw [f7 da _ d6 (.inr ap.ak), List.map_append]
          rfl
        · rcases List.mem_append.mp hy with z | z
          · obtain ⟨q1, q2, q3, q4, q5, q6, q7⟩ := a3 y z
            exact ⟨q1, q2, q3, q4, q5, f57.t q6, f57.t q7⟩
          · rw [List.mem_singleton.mp z]
            exact ⟨_, _, _, _, _, f57.t (.inl (.inl hpt)), lk7⟩
        · exact f7 dr _ (f6 dr _ (f45 dr _ hR (.inr ap.nr)) (.inr ap.ar.symm)) (.inr ap.rk)
end
end Lw
end
section
set_option maxRecDepth 100000
set_option maxHeartbeats 4000000
namespace Lw
open PySem PySem.Spec PyProof.Rows L2
section
variable {K : PySem.W.Frag} {σ : L2.St} {H : Hp} {Q : VK} {ta : TE}
theorem r_prop {C : Addr} {sp : Sp} {E : XK} (h : ta σ H fun x H1 => ∃ a dx fs, x = .ref a ∧ H1 a = some (.ins C dx fs) ∧ sp [.ref a] H1 Q E) : tProp C sp [] E ta σ H Q := h
theorem met_own {m : Addr} {own : List Addr} {L : Lim} {s : MSt} (h : MetAt K H m own L s) : m ∈ own ∧ ∀ b ∈ own, ∃ o, H b = some o := by
  obtain ⟨dx, la, _, h⟩ := h
  obtain ⟨n, gs, r⟩ := L
  cases r <;> cases s <;> first | exact h.elim | skip
  · obtain ⟨ho, sl, h1, _⟩ := (show _ ∧ _ from h)
    rw [ho]
    exact ⟨List.mem_singleton.mpr rfl, fun b hb => by rw [List.mem_singleton.mp hb]; exact ⟨_, h1⟩⟩
  · rw [h.1]
    exact ⟨List.mem_singleton.mpr rfl, fun b hb => by rw [List.mem_singleton.mp hb]; exact ⟨_, h.2⟩⟩
  · rw [h.1]
    exact ⟨List.mem_singleton.mpr rfl, fun b hb => by rw [List.mem_singleton.mp hb]; exact ⟨_, h.2⟩⟩
  · rw [h.1]
    exact ⟨List.mem_singleton.mpr rfl, fun b hb => by rw [List.mem_singleton.mp hb]; exact ⟨_, h.2⟩⟩
  · obtain ⟨d, ho, _, h1, h2⟩ := (show ∃ d, _ from h)
    rw [ho]
    refine ⟨.head _, fun b hb => ?_⟩
    rcases List.mem_cons.mp hb with z | z
    · rw [z]
      exact ⟨_, h1⟩
    · rw [List.mem_singleton.mp z]
      exact ⟨_, h2⟩
  · obtain ⟨d, u, ho, _, _, _, h1, h2, cs, _, h3, _⟩ := (show ∃ d u, _ from h)
    rw [ho]
    refine ⟨.head _, fun b hb => ?_⟩
    rcases List.mem_cons.mp hb with z | z
    · rw [z]
      exact ⟨_, h1⟩
    rcases List.mem_cons.mp z with z | z
    · rw [z]
      exact ⟨_, h3⟩
    · rw [List.mem_singleton.mp z]
      exact ⟨_, h2⟩
/-- a row that was made behind H -/
structure NewRow (K : PySem.W.Frag) (H H' : Hp) (D : Addr) (r : MRow) : Prop where
  tup : H' r.pa = some (.tup [.str r.L.name, .ref r.m])
  pd : r.pa ≠ D
  st : r.s = initM r.L.rule
  own : ∀ b ∈ r.own, H b = none ∧ b ≠ D ∧ ∃ o, H' b = some o
  met : ∀ H2, Tu H H2 → (∀ b o, H' b = some o → b ≠ D → H b = none → H2 b = some o) → MetAt K H2 r.m r.own r.L r.s
theorem NewRow.up {H' H2 : Hp} {D : Addr} {r : MRow} (h : NewRow K H H' D r) (e : ∀ b o, H' b = some o → b ≠ D → H2 b = some o) : NewRow K H H2 D r :=
  ⟨e _ _ h.tup h.pd, h.pd, h.st, fun b hb => by
    obtain ⟨h1, h2, o, h3⟩ := h.own b hb
    exact ⟨h1, h2, o, e _ _ h3 h2⟩, fun H3 t g => h.met H3 t fun b o hb hd hn => g b o (e b o hb hd) hd hn⟩
theorem lc_M {a : Addr} {L : List (Addr × Lim)} {g : TG} {te : TE} {tl : TE} {vs : List Nat}
    (hz : L.length ≤ 100) (hx : SqL K H a (L.map fun x => .ref x.1)) (hL : ∀ x ∈ L, LimAt K H x.1 x.2) (hl : ∀ Q' : VK, Q' (.ref a) H → tl σ H Q')
    (turn : ∀ x ∈ L, ∀ H', Ex H H' → ∀ Kt : V → Hp → Prop, (∀ pa m own H1 H2, Ex H' H1 → (∀ b ∈ own, H' b = none) → NewF K H' H1 x.1 m own x.2 → H1 pa = none → Ex H1 H2 → H2 pa = some (.tup [.str x.2.name, .ref m]) → Kt (.ref pa) H2) → g (.ref x.1) (wipe σ vs) H' fun σ2 H2 => wipe σ2 vs = wipe σ vs ∧ te σ2 H2 Kt)
    (k : ∀ D H' (rows : List MRow), H D = none → Ex H H' → rows.map (·.L) = L.map (·.2) → H' D = some (.lst (rows.map fun r => .ref r.pa)) → (∀ r ∈ rows, NewRow K H H' D r) → Apart rows → Q (.ref D) H') : tLc (iList K tl) g tYes te vs σ H Q := by
  refine hl _ ⟨a, rfl, ⟨_, hx⟩, fun D hD => ?_⟩
  refine lc_list (xs := L.map fun x => V.ref x.1) (fun i H' => Ex H H' ∧ ∃ rows : List MRow, rows.map (·.L) = (L.take i).map (·.2) ∧ H' D = some (.lst (rows.map fun r => .ref r.pa)) ∧ (∀ r ∈ rows, NewRow K H H' D r) ∧ Apart rows) ⟨Ex.nw hD, [], rfl, upd_same, (fun x hx => nomatch hx), fun i j r r' _ h => by simp at h⟩ (fun i H' _ e => e.1.l hx) ?_ ?_
  · rintro i v H' hi ⟨e, rows, h1, h2, h3, h4⟩
    rw [List.getElem?_map] at hi
    cases q : L[i]? with
    | none =>
      rw [q] at hi
      cases hi
    | some x =>
      rw [q] at hi
      cases hi
      obtain ⟨hlt, _⟩ := List.getElem?_eq_some_iff.mp q
      have hx2 := List.mem_of_getElem? q
      have tk : L.take (i + 1) = L.take i ++ [x] := by rw [List.take_add_one, q] <;> rfl
      have hlen : rows.length ≤ i := by
        rw [← List.length_map (f := fun r : MRow => r.L), h1, List.length_map]
        exact List.length_take_le i L
      refine turn x hx2 H' e (fun y H4 => ∃ acc, H4 D = some (.lst acc) ∧ acc.length < sizeLine ∧ (fun i H' => Ex H H' ∧ ∃ rows : List MRow, rows.map (·.L) = (L.take i).map (·.2) ∧ H' D = some (.lst (rows.map fun r => .ref r.pa)) ∧ (∀ r ∈ rows, NewRow K H H' D r) ∧ Apart rows) (i + 1) (upd H4 D (.lst (acc ++ [y])))) (fun pa m own H1 H2 e1 ow nf np e2 hp => ?_)
      have e12 := e1.tr e2
      have npD : pa ≠ D := fun z => by
        rw [z, e1 _ _ h2] at np
        cases np
      have ow2 : ∀ b ∈ own, H b = none ∧ b ≠ D ∧ ∃ o, H1 b = some o := fun b hb => by
        have nb := ow b hb
        refine ⟨e.fr nb, fun z => ?_, (met_own (nf H1 (fun b o h _ => h) ((e.tr e1).lim (hL x hx2)))).2 b hb⟩
        rw [z, h2] at nb
        cases nb
      refine ⟨_, e12 _ _ h2, by rw [List.length_map]; exact Evl.sz_lt (by omega), (e.tr e12).mt hD, rows ++ [⟨pa, m, own, x.2, initM x.2.rule⟩], ?_, ?_, fun r hr => ?_, ?_⟩
      · rw [List.map_append, h1, tk, List.map_append] <;> rfl
      · rw [upd_same, List.map_append] <;> rfl
      · rcases List.mem_append.mp hr with z | z
        · exact (h3 r z).up fun b o hb hd => (upd_ne hd).trans (e12 _ _ hb)
        · rw [List.mem_singleton.mp z]
          refine ⟨(upd_ne npD).trans hp, npD, rfl, fun b hb => ?_, fun H3 t gg => nf H3 (fun b o hb hn => ?_) (t.lim (hL x hx2))⟩
          · obtain ⟨q1, q2, o, q3⟩ := ow2 b hb
            exact ⟨q1, q2, o, (upd_ne q2).trans (e2 _ _ q3)⟩
          · have bd : b ≠ D := fun z => by
              rw [z, h2] at hn
              cases hn
            exact gg b o ((upd_ne bd).trans (e2 _ _ hb)) bd (e.fr hn)
      · intro i1 j1 r r' ne hi1 hj1 b hb hb2
        have old : ∀ (j : Nat) (r : MRow), rows[j]? = some r → ∀ b ∈ r.own, H' b ≠ none := fun j r hj b hb z => by
          obtain ⟨_, _, o, ho⟩ := (h3 r (List.mem_of_getElem? hj)).own b hb
          rw [ho] at z
          cases z
        rw [List.getElem?_append] at hi1 hj1
        by_cases c1 : i1 < rows.length
        · rw [if_pos c1] at hi1
          by_cases c2 : j1 < rows.length
          · rw [if_pos c2] at hj1
            exact h4 i1 j1 r r' ne hi1 hj1 b hb hb2
          · rw [if_neg c2] at hj1
            have hj2 := List.mem_singleton.mp (List.mem_of_getElem? hj1)
            rw [hj2] at hb2
            exact old i1 r hi1 b hb (ow b hb2)
        · rw [if_neg c1] at hi1
          have hi2 := List.mem_singleton.mp (List.mem_of_getElem? hi1)
          by_cases c2 : j1 < rows.length
          · rw [if_pos c2] at hj1
            rw [hi2] at hb
            exact old j1 r' hj1 b hb2 (ow b hb)
          · rw [if_neg c2] at hj1
            obtain ⟨q1, _⟩ := List.getElem?_eq_some_iff.mp hi1
            obtain ⟨q2, _⟩ := List.getElem?_eq_some_iff.mp hj1
            rw [List.length_singleton] at q1 q2
            omega
  · rintro H' ⟨e, rows, h1, h2, h3, h4⟩
    rw [List.length_map, List.take_length] at h1
    exact k D H' rows hD e h1 h2 h3 h4
end
end Lw
end
section
set_option maxRecDepth 100000
set_option maxHeartbeats 4000000
namespace Lw
open PySem PySem.Spec PyProof.Rows L2
local macro_rules | `(tactic| walk_at "hp") => `(tactic| first | assumption | exact upd_same | exact (by assumption : Ex _ _) _ _ (by assumption))
local macro_rules | `(tactic| walk_at "lk") => `(tactic| fail "no look-up")
local macro_rules | `(tactic| walk_at "tk") => `(tactic| first | assumption | exact Ex.t (by assumption) (by assumption) | exact Ex.l (by assumption) (by assumption) | exact .inl (.inl (by assumption)))
local macro_rules | `(tactic| walk_at "st") => `(tactic| first
  | with_reducible refine r_seq ?_ | with_reducible refine r_asg ?_ | with_reducible refine r_name ?_
  | ((with_reducible refine' r_var ?k1 ?_); (case k1 => exact rfl))
  | with_reducible refine r_c ?_ | with_reducible refine r_op ?_ | with_reducible refine r_un ?_ | with_reducible refine r_cb ?_ | with_reducible refine r_nil ?_ | with_reducible refine r_cons ?_
  | with_reducible refine r_call ?_ | with_reducible refine r_ret ?_ | with_reducible refine r_drop ?_ | with_reducible refine r_ifs ?_ | with_reducible refine r_ife ?_ | with_reducible refine r_next ?_
  | with_reducible refine r_test ?_ | with_reducible refine r_tB ?_ | with_reducible refine r_bl ?_ | with_reducible refine r_blx ?_ | with_reducible refine r_tnot ?_ | with_reducible refine r_tand ?_ | with_reducible refine r_tor ?_
  | with_reducible refine r_not ?_ | with_reducible refine r_and ?_ | with_reducible refine r_or ?_ | with_reducible refine r_I0 ?_ | with_reducible refine r_U ?_
  | with_reducible refine r_eqS ?_ | with_reducible refine r_eqI ?_ | with_reducible refine r_neS ?_ | with_reducible refine r_neI ?_ | with_reducible refine r_chain ?_
  | ((with_reducible refine' r_gtup ?k1 ?k2 ?_); (case k1 => walk_at "tk"); (case k2 => exact rfl))
  | with_reducible refine r_gcons ?_ | with_reducible refine r_gnil ?_
  | ((with_reducible refine' r_ixT ?k1 ?k2 ?_); (case k1 => walk_at "tk"); (case k2 => exact rfl))
  | ((with_reducible refine' r_ixL ?k1 ?k2 ?_); (case k1 => walk_at "tk"); (case k2 => exact rfl))
  | with_reducible refine r_tup ?_ | with_reducible refine r_lst ?_ | with_reducible refine iteT ?_ | with_reducible refine iteF ?_
  | ((with_reducible refine' r_wipe ?k1 ?_); (case k1 => exact rfl)) | with_reducible refine r_tyes ?_
  | ((with_reducible refine' r_lenT ?k1 ?_); (case k1 => walk_at "tk")) | ((with_reducible refine' r_lenL ?k1 ?_); (case k1 => walk_at "tk"))
  | with_reducible refine r_fld ?_ | with_reducible refine r_sfld ?_ | with_reducible refine r_gfld ?_ | with_reducible refine r_meth ?_
  | ((with_reducible refine' r_fld1 ?k1 ?k2 ?k3 ?k4 ?_); (case k1 => walk_at "hp"); (case k2 => assumption); (case k3 => assumption); (case k4 => walk_at "lk"))
  | ((with_reducible refine' r_sfld1 ?k1 ?k2 ?k3 ?k4 ?_); (case k1 => walk_at "hp"); (case k2 => assumption); (case k3 => assumption); (case k4 => exact Nat.lt_of_le_of_lt (Nat.le_of_ble_eq_true rfl) (by decide : 10 < 1000)))
  | ((with_reducible refine' r_gfld1 ?k1 ?k2 ?k3 ?k4 ?_); (case k1 => walk_at "hp"); (case k2 => assumption); (case k3 => assumption); (case k4 => exact Nat.lt_of_le_of_lt (Nat.le_of_ble_eq_true rfl) (by decide : 10 < 1000)))
  | with_reducible refine r_ks ?_ | with_reducible refine r_kq ?_
  | ((with_reducible refine' r_meth1 ?k1 ?k2 ?_); (case k1 => walk_at "hp"); (case k2 => kernel_rfl))
  | with_reducible refine r_kb ?_ | with_reducible refine r_tru ?_ | with_reducible refine r_bm0 ?_ | with_reducible refine r_bm ?_
  | ((with_reducible refine' r_tyL ?k1 ?_); (case k1 => walk_at "hp"))
  | with_reducible refine r_sdput ?_ | with_reducible refine r_dget ?_ | with_reducible refine r_din ?_ | with_reducible refine r_dnin ?_ | with_reducible refine r_dpop ?_
  | ((with_reducible refine' r_dpop0 ?k1 ?_); (case k1 => walk_at "hp"))
  | ((with_reducible refine' r_strY ?k1 ?_); (case k1 => decide +kernel)) | ((with_reducible refine' r_strN ?k1 ?_); (case k1 => decide +kernel))
  | ((with_reducible refine' r_nstrY ?k1 ?_); (case k1 => decide +kernel)) | ((with_reducible refine' r_nstrN ?k1 ?_); (case k1 => decide +kernel))
  | with_reducible refine r_gcd ?_ | with_reducible refine r_par ?_ | with_reducible refine r_par1 ?_
  | with_reducible refine r_make ?_ | with_reducible refine r_orJ ?_
  | with_reducible refine r_isN ?_ | with_reducible refine r_notN ?_
  | with_reducible refine r_abs ?_ | with_reducible refine r_int ?_ | with_reducible refine r_min ?_ | with_reducible refine r_max ?_)
local macro_rules | `(tactic| walk_at "go") => `(tactic| repeat walk_at "st")
local macro_rules | `(tactic| walk_at "st") => `(tactic| first | with_reducible refine r_nt ?_ | with_reducible refine r_nf ?_ | with_reducible refine r_le4 ?_ | with_reducible refine r_ltS ?_ | with_reducible refine r_inS ?_)
local macro_rules | `(tactic| walk_at "st") => `(tactic| first | with_reducible refine r_disp ?_ | with_reducible refine r_pr ?_ | with_reducible refine r_pnil ?_ | ((with_reducible refine' r_isi ?k1 ?k2 ?k3 ?_); (case k1 => exact ClsV.ty _); (case k2 => first | exact .base (.int _) | exact tyT (by assumption)); (case k3 => exact kit_ty (r := true) (by decide +kernel))))
local macro_rules | `(tactic| walk_at "st") => `(tactic| first | with_reducible refine r_ckw ?_ | with_reducible refine r_lenTx ?_)
local macro_rules | `(tactic| walk_at "st") => `(tactic| first | with_reducible refine r_prop ?_)
theorem fsK_init {bk : V} {lm da dr : Addr} : putF "_released" (.ref dr) (putF "_asked" (.ref da) (putF "_meters" (.ref lm) (putF "moment" .non (putF "book" bk [])))) = fsK bk .non lm da dr := by kernel_rfl
def initK (Ls : List Lim) : KSt := { mom := none, ms := Ls.map fun L => (L, initM L.rule), asked := [], rel := [] }
def spKInit (K : PySem.W.Frag) : Sp := fun vs H Q _ => ∃ (k b dx : Addr) (Ls : List Lim), vs = [.ref k, .ref b] ∧ H k = some (.ins (He.ga K "Keeper") dx []) ∧ BookAt K H b Ls ∧ Ls.length ≤ 8 ∧ (∀ L ∈ Ls, WfL L) ∧
  ∀ (own : Addr → Prop) H', Fr (fun b => b = k) H H' → (∀ b, own b → b = k ∨ H b = none) → KpAt K H' k own (initK Ls) → Q .non H'
theorem frn {H H' : Hp} {k c : Addr} (e : Fr (fun b => b = k) H H') (n : H' c = none) (ne : c ≠ k) : H c = none := by
  cases q : H c with
  | none => rfl
  | some u =>
    rw [e c u q (.inr ne)] at n
    cases n
section
variable {P : Program} {w : World} {K : PySem.W.Frag} {mg : Str → Option Value} {base : Heap}
abbrev sc_Keeper_init_N : List Str := ["self", "book", "limit"]
theorem sc_Keeper_init : FnScope ["self", "book", "limit"] ["self", "book"] (defScope s_Keeper_init) := ⟨rfl, rfl, rfl, by decide +kernel, rfl, by decide +kernel, by decide +kernel⟩
theorem ok_Keeper_init (T : Tx w K mg) : OkD P w K mg base ("Keeper", some "__init__") 4 ["self", "book"] (spKInit K) := by
  refine (T.fd_Keeper_init).ok sc_Keeper_init (fun vs H Q E h => ?_) (fun cdv A outer s H vs Q E hr h => ?_)
  · obtain ⟨k, b, dx, Ls, rfl, _⟩ := h
    rfl
  · obtain ⟨k, b, dx, Ls, rfl, hk, hB, hl, wf, k0⟩ := h
    have hcl := T.cl_Keeper; have hno__asked := T.no_Keeper__asked; have hno__meters := T.no_Keeper__meters; have hno__released := T.no_Keeper__released; have hno_book := T.no_Keeper_book; have hno_moment := T.no_Keeper_moment
    have hB0 := hB
    obtain ⟨dxb, l, hb, hls⟩ := hB
    have nbk : b ≠ k := fun z => by
      rw [z, hk] at hb
      exact nomatch (HO.ins.inj (Option.some.inj hb)).2.2
    refine ⟨_, (PSs.nox (pss_cons (ps_fld (pv 0) (pv 1) rfl)
    (pss_cons (ps_fld (pv 0) pe_non rfl)
    (pss_cons (ps_fld (pv 0) (pe_lc (own := [("limit", 2)]) rfl sc_Keeper_init.nd (pi_list (pe_prop (pv 1) T.cl_Book T.pr_limits ((ok_Book_limits T).mono (by decide)) hr T.bd_Book_limits .nil pass0 rfl)) (blkOk_by (own := [("limit", 2)]) (N := sc_Keeper_init_N) (sc := defScope s_Keeper_init) (by decide +kernel)) (fun _ _ _ _ _ => (pg_name (i := 2) sc_Keeper_init.nd rfl (Or.inl rfl))) (fun _ _ _ _ _ => pts_nil) (fun _ _ _ _ _ => (pe_tup (pa_cons (pe_ix (r := rIxT K) ix_tup (pv 2) pe_int (fun _ _ => rfl)) (pa_cons (pe_call ((ok_meter_for T).mono (by decide)) hr (by rfl) T.g_meter_for T.fd_meter_for.kp T.bd_meter_for .nil pass0 (pa_cons (pv 2) pa_nil)) pa_nil))))) rfl)
    (pss_cons (ps_fld (pv 0) pe_dnewK rfl)
    (pss_one (ps_fld (pv 0) pe_dnewK rfl))))))), ?_⟩
    walk_at "go"
    rw [upd_upd]
    have f1 : Fr (fun b => b = k) H (upd H k (.ins (He.ga K "Keeper") dx (putF "moment" .non (putF "book" (.ref b) [])))) := Fr.wr hk (fun z => z) rfl
    have d1 : (upd H k (.ins (He.ga K "Keeper") dx (putF "moment" .non (putF "book" (.ref b) [])))) k = some (.ins (He.ga K "Keeper") dx (putF "moment" .non (putF "book" (.ref b) []))) := upd_same
    have back : ∀ c, (upd H k (.ins (He.ga K "Keeper") dx (putF "moment" .non (putF "book" (.ref b) [])))) c = none → H c = none := fun c h => by
      by_cases z : c = k
      · rw [z, d1] at h
        cases h
      · rw [upd_ne z] at h
        exact h
    generalize upd H k (.ins (He.ga K "Keeper") dx (putF "moment" .non (putF "book" (.ref b) []))) = H1 at f1 d1 back ⊢
    have hb1 : H1 b = _ := f1 b _ hb (.inr nbk)
    have hls1 : LimsAt K H1 l Ls := by
      obtain ⟨ps, p1, p2, p3⟩ := hls
      refine ⟨ps, p1, ?_, fun x hx => f1.tu.lim (p3 x hx)⟩
      rcases p2 with (p2 | ⟨o, p2⟩) | p2
      · exact .inl (.inl (f1 _ _ p2 (.inl trivial)))
      · exact .inl (.inr ⟨o, f1 _ _ p2 (.inl trivial)⟩)
      · exact .inr p2
    refine r_lcL ?_
    walk_at "go"
    refine ⟨b, dxb, _, rfl, hb1, b, Ls, rfl, ⟨dxb, l, hb1, hls1⟩, fun p H2 e2 hp => ?_⟩
    obtain ⟨ps, p1, p2, p3⟩ := hp
    have pl : ps.length = Ls.length := by rw [← p1, List.length_map]
    refine lc_M (L := ps) (by omega) p2 p3 (fun Q' q => ?_) (fun x hx H' e Kt kt => ?_) (fun D H3 rows hD e3 r1 r2 r3 r4 => ?_)
    · walk_at "go"
      exact q
    · have hL := e.lim (p3 x hx)
      have hL0 := hL
      obtain ⟨ga, na, h1, h2, h3⟩ := hL
      walk_at "go"
      refine ⟨x.1, x.2, rfl, hL0, wf x.2 (by rw [← p1]; exact List.mem_map.mpr ⟨x, hx, rfl⟩), fun m own H4 e4 ow nf => ?_⟩
      walk_at "go"
      refine r_newT (fun pa H5 n5 e5 h5 => ?_)
      exact kt pa m own H4 H5 e4 ow nf n5 e5 h5
    · have hk3 := e3 _ _ (e2 _ _ d1)
      walk_at "go"
      have f4 : Fr (fun b => b = k) H3 (upd H3 k (.ins (He.ga K "Keeper") dx (putF "_meters" (.ref D) (putF "moment" .non (putF "book" (.ref b) []))))) := Fr.wr hk3 (fun z => z) rfl
      have d4 : (upd H3 k (.ins (He.ga K "Keeper") dx (putF "_meters" (.ref D) (putF "moment" .non (putF "book" (.ref b) []))))) k = some (.ins (He.ga K "Keeper") dx (putF "_meters" (.ref D) (putF "moment" .non (putF "book" (.ref b) [])))) := upd_same
      generalize upd H3 k (.ins (He.ga K "Keeper") dx (putF "_meters" (.ref D) (putF "moment" .non (putF "book" (.ref b) [])))) = H4 at f4 d4 ⊢
      refine r_dnew fun da H5 n5 e5 h5 => ?_
      have nda : da ≠ k := fun z => by
        rw [z, d4] at n5
        cases n5
      have d5 := e5 _ _ d4
      walk_at "go"
      have f6 : Fr (fun b => b = k) H5 (upd H5 k (.ins (He.ga K "Keeper") dx (putF "_asked" (.ref da) (putF "_meters" (.ref D) (putF "moment" .non (putF "book" (.ref b) [])))))) := Fr.wr d5 (fun z => z) rfl
      have d6 : (upd H5 k (.ins (He.ga K "Keeper") dx (putF "_asked" (.ref da) (putF "_meters" (.ref D) (putF "moment" .non (putF "book" (.ref b) [])))))) k = some (.ins (He.ga K "Keeper") dx (putF "_asked" (.ref da) (putF "_meters" (.ref D) (putF "moment" .non (putF "book" (.ref b) []))))) := upd_same
      generalize upd H5 k (.ins (He.ga K "Keeper") dx (putF "_asked" (.ref da) (putF "_meters" (.ref D) (putF "moment" .non (putF "book" (.ref b) []))))) = H6 at f6 d6 ⊢
      refine r_dnew fun dr H7 n7 e7 h7 => ?_
      have ndr : dr ≠ k := fun z => by
        rw [z, d6] at n7
        cases n7
      have d7 := e7 _ _ d6
      walk_at "go"
      rw [fsK_init]
      have f8 : Fr (fun b => b = k) H7 (upd H7 k (.ins (He.ga K "Keeper") dx (fsK (.ref b) .non D da dr))) := Fr.wr d7 (fun z => z) rfl
      have d8 : (upd H7 k (.ins (He.ga K "Keeper") dx (fsK (.ref b) .non D da dr))) k = some (.ins (He.ga K "Keeper") dx (fsK (.ref b) .non D da dr)) := upd_same
      generalize upd H7 k (.ins (He.ga K "Keeper") dx (fsK (.ref b) .non D da dr)) = H8 at f8 d8 ⊢
      have n3a : H3 da = none := frn f4 n5 nda
      have n5r : H5 dr = none := frn f6 n7 ndr
      have n3r : H3 dr = none := frn f4 (e5.fr n5r) ndr
      have f38 : Fr (fun b => b = k) H3 H8 := f4.tr ((Ex.frm e5).tr (f6.tr ((Ex.frm e7).tr f8)))
      have f18 : Fr (fun b => b = k) H H8 := f1.tr ((Ex.frm (e2.tr e3)).tr f38)
      have h2k : H2 k = _ := e2 _ _ d1
      have up : ∀ {c : Addr}, H3 c = none → H c = none := fun {c} h => back c (e2.fr (e3.fr h))
      have ne2 : ∀ {c : Addr}, H2 c = none → c ≠ k := fun {c} h z => by
        rw [z, h2k] at h
        cases h
      refine k0 (ownK k da dr rows) H8 f18 (fun c hc => ?_) ⟨dx, D, da, dr, .ref b, rows, rfl, ⟨r4, ?_, ?_, ?_, nda, ndr, ?_⟩, ?_, d8, ⟨f38 D _ r2 (.inl trivial), fun r hr => ⟨.inl (.inl (f38 _ _ (r3 r hr).tup (.inl trivial))), (r3 r hr).met H8 ((e3.tu).tr f38.tu) fun c o hc hd hn => f38 c o hc (.inr (ne2 hn))⟩⟩, ⟨[], rfl, ?_, fun x hx => nomatch hx⟩, ?_⟩
      · rcases hc with z | z | z | ⟨r, hr, hc⟩
        · exact .inl z
        · rw [z]
          exact .inr (up n3a)
        · rw [z]
          exact .inr (up n3r)
        · exact .inr (back c (e2.fr ((r3 r hr).own c hc).1))
      · rintro ⟨r, hr, hc⟩
        exact ne2 ((r3 r hr).own k hc).1 rfl
      · rintro ⟨r, hr, hc⟩
        obtain ⟨_, _, o, ho⟩ := (r3 r hr).own da hc
        rw [n3a] at ho
        cases ho
      · rintro ⟨r, hr, hc⟩
        obtain ⟨_, _, o, ho⟩ := (r3 r hr).own dr hc
        rw [n3r] at ho
        cases ho
      · intro z
        rw [z, n5r] at h5
        cases h5
      · have h1 : rows.map rowK = (rows.map (·.L)).map fun L => (L, initM L.rule) := by
          rw [List.map_map]
          refine List.map_congr_left fun r hr => ?_
          show (r.L, r.s) = (r.L, initM r.L.rule)
          rw [(r3 r hr).st]
        rw [h1, r1, p1]
        rfl
      · exact f8 da _ (e7 _ _ (f6 da _ h5 (.inr nda))) (.inr nda)
      · exact f8 dr _ h7 (.inr ndr)
end
end Lw
end
section
set_option maxRecDepth 100000
namespace Lw.Pl
open PySem (Str)
/-! ### the earliest moment, from the state alone -/
def StW : Rule → MSt → Int → Prop
  | .window _ _, .window sums, T => sums.Pairwise (fun x y => x.1 < y.1) ∧ ∀ r ∈ sums, 0 ≤ r.2 ∧ r.1 ≤ T
  | .span _ l, .span sp used, T => sp * l ≤ T ∧ 0 ≤ used
  | .bucket _ _, .bucket _ mo, T => mo ≤ T
  | _, _, _ => True
theorem StW.up {r : Rule} {s : MSt} {T T' : Int} (h : StW r s T) (hT : T ≤ T') : StW r s T' := by
  cases r <;> cases s <;> first | exact trivial | skip
  · exact ⟨h.1, fun x hx => ⟨(h.2 x hx).1, Int.le_trans (h.2 x hx).2 hT⟩⟩
  · exact ⟨Int.le_trans h.1 hT, h.2⟩
  · exact Int.le_trans h hT
theorem tot_nil : tot [] = 0 := rfl
theorem tot_cons (r : Int × Int) (rs : List (Int × Int)) : tot (r :: rs) = r.2 + tot rs := by
  unfold tot
  rw [List.map_cons, List.sum_cons]
theorem tot_app (a b : List (Int × Int)) : tot (a ++ b) = tot a + tot b := by
  unfold tot
  rw [List.map_append, List.sum_append]
theorem tot_pos {rs : List (Int × Int)} (h : ∀ r ∈ rs, 0 ≤ r.2) : 0 ≤ tot rs := by
  induction rs with
  | nil => exact Int.le_refl 0
  | cons r rs ih =>
    rw [tot_cons]
    have h1 := h r (.head _)
    have h2 := ih fun x hx => h x (.tail _ hx)
    omega
theorem gone_spec {m c l : Int} : ∀ (rows : List (Int × Int)) (used : Int), used = tot rows → m < used + c → c ≤ m → ∃ pre r post, rows = pre ++ r :: post ∧ gone m c l used rows = r.1 + l ∧ tot post + c ≤ m ∧ m < tot (r :: post) + c
  | [], used, e, h, hc => by
    rw [tot_nil] at e
    omega
  | r :: rest, used, e, h, hc => by
    rw [tot_cons] at e
    unfold gone
    by_cases q : used - r.2 + c ≤ m
    · rw [if_pos q]
      refine ⟨[], r, rest, rfl, rfl, by omega, ?_⟩
      rw [tot_cons]
      omega
    · rw [if_neg q]
      obtain ⟨pre, r', post, h1, h2, h3, h4⟩ := gone_spec (m := m) (c := c) (l := l) rest (used - r.2) (by omega) (by omega) hc
      exact ⟨r :: pre, r', post, by rw [h1] <;> rfl, h2, h3, h4⟩
theorem since_up {l t e : Int} (h : t ≤ e) (sums : List (Int × Int)) : since l sums e = since l (since l sums t) e := by
  unfold since
  rw [List.filter_filter]
  refine List.filter_congr fun x _ => ?_
  by_cases q : e - l < x.1
  · rw [decide_eq_true q, decide_eq_true (show t - l < x.1 by omega)]
    rfl
  · rw [decide_eq_false q]
    rfl
theorem early_room {L : Lim} {s : MSt} {T t c e : Int} {g : Str} (f : Fits L.rule s) (wf : WfNum L.rule) (w : StW L.rule s T) (ht : T ≤ t) (h : earlyM L s t g c = some e) : t ≤ e ∧ roomM L s e g c = true := by
  unfold earlyM at h
  by_cases q : roomM L s t g c = true
  · rw [if_pos q] at h
    cases h
    exact ⟨Int.le_refl _, q⟩
  rw [if_neg q] at h
  unfold roomM at q ⊢
  cases hl : looksB L g with
  | false =>
    rw [hl] at q
    exact absurd rfl q
  | true =>
  rw [hl] at q
  replace q : ¬ roomC L.rule s t g c = true := q
  show t ≤ e ∧ (false || roomC L.rule s e g c) = true
  rw [Bool.false_or]
  obtain ⟨n, gs, r⟩ := L
  cases r <;> cases s <;> first | exact f.elim | skip
  · rename_i m l sums
    have q : ¬ decide (tot (since l sums t) + c ≤ m) = true := q
    rw [decide_eq_true_iff] at q
    have h : (if m < c then none else some (gone m c l (tot (since l sums t)) (since l sums t))) = some e := h
    by_cases hc : m < c
    · rw [if_pos hc] at h
      cases h
    rw [if_neg hc] at h
    obtain ⟨pre, r, post, h1, h2, h3, h4⟩ := gone_spec (m := m) (c := c) (l := l) (since l sums t) _ rfl (by omega) (by omega)
    have h := Option.some.inj h
    have hr : r ∈ since l sums t := by
      rw [h1]
      exact List.mem_append_right _ (.head _)
    have hr1 := of_decide_eq_true (List.mem_filter.mp hr).2
    have he : e = r.1 + l := by omega
    have te : t ≤ e := by omega
    refine ⟨te, ?_⟩
    show decide (tot (since l sums e) + c ≤ m) = true
    rw [decide_eq_true_iff, since_up te, h1]
    have pw : (pre ++ r :: post).Pairwise (fun x y => x.1 < y.1) := by
      rw [← h1]
      exact w.1.filter _
    rw [List.pairwise_append, List.pairwise_cons] at pw
    obtain ⟨_, ⟨p2, _⟩, p3⟩ := pw
    have e1 : since l (pre ++ r :: post) e = post := by
      unfold since
      rw [List.filter_append, List.filter_cons, if_neg (by rw [decide_eq_true_iff]; omega), List.filter_eq_nil_iff.mpr, List.filter_eq_self.mpr]
      · rfl
      · intro x hx
        have := p2 x hx
        exact decide_eq_true (by omega)
      · intro x hx
        have := p3 x hx r (.head _)
        rw [decide_eq_true_iff]
        omega
    rw [e1]
    exact h3
  · rename_i m l sp used
    have h : (if m < c then none else some ((t / l + 1) * l)) = some e := h
    by_cases hc : m < c
    · rw [if_pos hc] at h
      cases h
    rw [if_neg hc] at h
    have h := Option.some.inj h
    obtain ⟨_, _, l1, _⟩ := wf
    obtain ⟨w1, w2⟩ := w
    have d1 := Int.mul_ediv_add_emod t l
    have d2 := Int.emod_lt_of_pos t (show 0 < l by omega)
    have ee : e = l * (t / l) + l := by
      rw [← h, Int.add_mul, Int.mul_comm, Int.one_mul]
    have te : t ≤ e := by omega
    refine ⟨te, ?_⟩
    show decide (usedIn l sp used e + c ≤ m) = true
    have eq : e / l = t / l + 1 := by
      rw [← h]
      exact Int.mul_ediv_cancel _ (by omega)
    have sp1 : sp ≤ t / l := Int.le_ediv_of_mul_le (by omega) (by omega)
    unfold usedIn
    rw [eq, if_neg (by omega)]
    exact decide_eq_true (by omega)
  · rename_i m l mi mo
    have q : ¬ decide (missAt mi mo t + l * c - m * l ≤ 0) = true := q
    rw [decide_eq_true_iff] at q
    have h : (if m < c then none else some (t + (missAt mi mo t + l * c - m * l))) = some e := h
    by_cases hc : m < c
    · rw [if_pos hc] at h
      cases h
    rw [if_neg hc] at h
    have h := Option.some.inj h
    refine ⟨by omega, ?_⟩
    show decide (missAt mi mo e + l * c - m * l ≤ 0) = true
    have l1 : 1 ≤ l := wf.2.2.1
    have k : l * c ≤ m * l := by
      rw [Int.mul_comm m l]
      exact Int.mul_le_mul_of_nonneg_left (by omega) (by omega)
    rw [decide_eq_true_iff]
    unfold missAt at q h ⊢
    omega
  · rename_i ti last
    cases last with
    | none => exact absurd rfl q
    | some b =>
      have h : some (max t (b + ti)) = some e := h
      have h := Option.some.inj h
      refine ⟨by omega, ?_⟩
      show decide (max e (b + ti) = e) = true
      rw [decide_eq_true_iff]
      omega
  · cases h
  · cases h
theorem room_early {L : Lim} {s : MSt} {T t c e : Int} {g : Str} (f : Fits L.rule s) (wf : WfNum L.rule) (w : StW L.rule s T) (ht : T ≤ t) (te : t ≤ e) (h : roomM L s e g c = true) : ∃ e', earlyM L s t g c = some e' ∧ e' ≤ e := by
  unfold earlyM
  by_cases q : roomM L s t g c = true
  · rw [if_pos q]
    exact ⟨t, rfl, te⟩
  rw [if_neg q]
  unfold roomM at q h
  cases hl : looksB L g with
  | false =>
    rw [hl] at q
    exact absurd rfl q
  | true =>
  rw [hl] at q h
  replace q : ¬ roomC L.rule s t g c = true := q
  replace h : roomC L.rule s e g c = true := h
  obtain ⟨n, gs, r⟩ := L
  cases r <;> cases s <;> first | exact f.elim | skip
  · rename_i m l sums
    have q : ¬ decide (tot (since l sums t) + c ≤ m) = true := q
    have h : decide (tot (since l sums e) + c ≤ m) = true := h
    rw [decide_eq_true_iff] at q h
    have pos : ∀ t, ∀ r ∈ since l sums t, 0 ≤ r.2 := fun t r hr => (w.2 r (List.mem_filter.mp hr).1).1
    have p1 := tot_pos (pos e)
    show ∃ e', (if m < c then none else some (gone m c l (tot (since l sums t)) (since l sums t))) = some e' ∧ e' ≤ e
    rw [if_neg (by omega)]
    obtain ⟨pre, r, post, h1, h2, h3, h4⟩ := gone_spec (m := m) (c := c) (l := l) (since l sums t) _ rfl (by omega) (by omega)
    refine ⟨_, rfl, ?_⟩
    rw [h2]
    by_cases z : r.1 + l ≤ e
    · exact z
    exfalso
    rw [since_up te, h1] at h
    have pw : (pre ++ r :: post).Pairwise (fun x y => x.1 < y.1) := by
      rw [← h1]
      exact w.1.filter _
    rw [List.pairwise_append, List.pairwise_cons] at pw
    obtain ⟨_, ⟨p2, _⟩, p3⟩ := pw
    have e1 : since l (pre ++ r :: post) e = since l pre e ++ r :: post := by
      unfold since
      have e2 : post.filter (fun r => decide (e - l < r.1)) = post := List.filter_eq_self.mpr fun x hx => by
        have := p2 x hx
        exact decide_eq_true (by omega)
      rw [List.filter_append, List.filter_cons, if_pos (by rw [decide_eq_true_iff]; omega), e2]
    rw [e1, tot_app] at h
    have := tot_pos (rs := since l pre e) fun x hx => pos t x (by rw [h1]; exact List.mem_append_left _ (List.mem_filter.mp hx).1)
    omega
  · rename_i m l sp used
    have q : ¬ decide (usedIn l sp used t + c ≤ m) = true := q
    have h : decide (usedIn l sp used e + c ≤ m) = true := h
    rw [decide_eq_true_iff] at q h
    obtain ⟨_, _, l1, _⟩ := wf
    obtain ⟨w1, w2⟩ := w
    show ∃ e', (if m < c then none else some ((t / l + 1) * l)) = some e' ∧ e' ≤ e
    have u0 : 0 ≤ usedIn l sp used e := by
      unfold usedIn
      split <;> omega
    rw [if_neg (by omega)]
    refine ⟨_, rfl, ?_⟩
    have ne : e / l ≠ t / l := fun z => by
      unfold usedIn at q h
      rw [z] at h
      exact q h
    have mono : t / l ≤ e / l := Int.ediv_le_ediv (by omega) te
    have := Int.mul_le_mul_of_nonneg_right (show t / l + 1 ≤ e / l by omega) (show 0 ≤ l by omega)
    have d := Int.ediv_mul_le e (show l ≠ 0 by omega)
    omega
  · rename_i m l mi mo
    have q : ¬ decide (missAt mi mo t + l * c - m * l ≤ 0) = true := q
    have h : decide (missAt mi mo e + l * c - m * l ≤ 0) = true := h
    rw [decide_eq_true_iff] at q h
    have l1 : 1 ≤ l := wf.2.2.1
    show ∃ e', (if m < c then none else some (t + (missAt mi mo t + l * c - m * l))) = some e' ∧ e' ≤ e
    have cm : ¬ m < c := fun z => by
      have : l * (m + 1) ≤ l * c := Int.mul_le_mul_of_nonneg_left (by omega) (by omega)
      rw [Int.mul_add, Int.mul_comm l m] at this
      unfold missAt at h
      omega
    have k : l * c ≤ m * l := by
      rw [Int.mul_comm m l]
      exact Int.mul_le_mul_of_nonneg_left (by omega) (by omega)
    rw [if_neg cm]
    refine ⟨_, rfl, ?_⟩
    unfold missAt at q h ⊢
    omega
  · rename_i ti last
    cases last with
    | none => exact absurd rfl q
    | some b =>
      have h : decide (max e (b + ti) = e) = true := h
      rw [decide_eq_true_iff] at h
      exact ⟨_, rfl, by omega⟩
  · exact absurd h q
  · exact absurd h q
end Lw.Pl
end
section
set_option maxRecDepth 100000
namespace Lw.Pl
open PySem (Str)
/-! ### rows of costs at moments, and flows that they keep -/
abbrev Hist := List (Int × Int)
/-- the costs behind a, up to b -/
def S : Hist → Int → Int → Int
  | [], _, _ => 0
  | r :: h, a, b => (if a < r.1 ∧ r.1 ≤ b then r.2 else 0) + S h a b
theorem S_cons (r : Int × Int) (h : Hist) (a b : Int) : S (r :: h) a b = (if a < r.1 ∧ r.1 ≤ b then r.2 else 0) + S h a b := rfl
theorem S_app (h k : Hist) (a b : Int) : S (h ++ k) a b = S h a b + S k a b := by
  induction h with
  | nil => exact (Int.zero_add _).symm
  | cons r h ih =>
    rw [List.cons_append, S_cons, S_cons, ih, Int.add_assoc]
theorem S_one (t c a b : Int) : S [(t, c)] a b = if a < t ∧ t ≤ b then c else 0 := by
  rw [S_cons]
  exact Int.add_zero _
theorem S_pos {h : Hist} (p : ∀ r ∈ h, 0 ≤ r.2) (a b : Int) : 0 ≤ S h a b := by
  induction h with
  | nil => exact Int.le_refl 0
  | cons r h ih =>
    rw [S_cons]
    have h1 := p r (.head _)
    have h2 := ih fun x hx => p x (.tail _ hx)
    split <;> omega
theorem S_zero {h : Hist} {a b : Int} (p : ∀ r ∈ h, ¬ (a < r.1 ∧ r.1 ≤ b)) : S h a b = 0 := by
  induction h with
  | nil => rfl
  | cons r h ih =>
    rw [S_cons, if_neg (p r (.head _)), ih fun x hx => p x (.tail _ hx)]
    rfl
theorem S_sub {h k : Hist} (s : h.Sublist k) (p : ∀ r ∈ k, 0 ≤ r.2) (a b : Int) : S h a b ≤ S k a b := by
  induction s with
  | slnil => exact Int.le_refl _
  | cons x _ ih =>
    rw [S_cons]
    have h1 := p x (.head _)
    have h2 := ih fun x hx => p x (.tail _ hx)
    split <;> omega
  | cons_cons x _ ih =>
    rw [S_cons, S_cons]
    have h2 := ih fun x hx => p x (.tail _ hx)
    omega
theorem S_split (h : Hist) {a b c : Int} (ab : a ≤ b) (bc : b ≤ c) : S h a c = S h a b + S h b c := by
  induction h with
  | nil => rfl
  | cons r h ih =>
    rw [S_cons, S_cons, S_cons, ih]
    split <;> split <;> split <;> omega
theorem S_wide {h : Hist} (p : ∀ r ∈ h, 0 ≤ r.2) {a b a' b' : Int} (h1 : a' ≤ a) (h2 : b ≤ b') : S h a b ≤ S h a' b' := by
  induction h with
  | nil => exact Int.le_refl _
  | cons r h ih =>
    rw [S_cons, S_cons]
    have q1 := p r (.head _)
    have q2 := ih fun x hx => p x (.tail _ hx)
    split <;> split <;> omega
structure Hg (h : Hist) : Prop where
  c : ∀ r ∈ h, 1 ≤ r.2 ∧ r.2 ≤ 1000
  s : h.Pairwise fun x y => x.1 ≤ y.1
theorem Hg.p {h : Hist} (g : Hg h) : ∀ r ∈ h, 0 ≤ r.2 := fun r hr => Int.le_trans (by decide) (g.c r hr).1
theorem Hg.sub {h k : Hist} (g : Hg k) (s : h.Sublist k) : Hg h := ⟨fun r hr => g.c r (s.subset hr), g.s.sublist s⟩
def Keep : Rule → Hist → Prop
  | .window m l, h => ∀ x, S h (x - l) x ≤ m
  | .span m l, h => ∀ k, S h (k * l - 1) (k * l + l - 1) ≤ m
  | .bucket s e, h => ∀ a b, a ≤ b → e * S h (a - 1) b ≤ s * e + (b - a)
  | .gap t, h => h.Pairwise fun x y => x.1 + t ≤ y.1
  | _, _ => True
theorem Keep.sub {r : Rule} {h k : Hist} (wf : WfNum r) (s : h.Sublist k) (p : ∀ r ∈ k, 0 ≤ r.2) (q : Keep r k) : Keep r h := by
  cases r with
  | window m l => exact fun x => Int.le_trans (S_sub s p _ _) (q x)
  | span m l => exact fun x => Int.le_trans (S_sub s p _ _) (q x)
  | bucket m l =>
    have l1 : 1 ≤ l := wf.2.2.1
    exact fun a b ab => Int.le_trans (Int.mul_le_mul_of_nonneg_left (S_sub s p _ _) (by omega)) (q a b ab)
  | gap t => exact List.Pairwise.sublist s q
  | held m => trivial
  | pool m sh => trivial
theorem cover_w {h : Hist} {m l : Int} (l0 : 0 ≤ l) (k : ∀ x, S h (x - l) x ≤ m) (a : Int) : ∀ q : Nat, S h a (a + q * l) ≤ m * q
  | 0 => by
    rw [S_zero]
    · simp
    · intro r _
      simp only [Int.natCast_zero, Int.zero_mul]
      omega
  | q + 1 => by
    have ih := cover_w l0 k a q
    have h1 := k (a + (q + 1 : Nat) * l)
    have e1 : a + ((q + 1 : Nat) : Int) * l - l = a + q * l := by
      rw [Int.natCast_add, Int.add_mul]
      omega
    rw [e1] at h1
    have q0 : 0 ≤ (q : Int) * l := Int.mul_nonneg (Int.natCast_nonneg q) l0
    have e2 : ((q + 1 : Nat) : Int) * l = q * l + l := by
      rw [Int.natCast_add, Int.add_mul]
      omega
    rw [S_split h (b := a + q * l) (by omega) (by omega)]
    have e3 : m * ((q + 1 : Nat) : Int) = m * q + m := by
      rw [Int.natCast_add, Int.mul_add]
      omega
    omega
theorem cover_s {h : Hist} {m l : Int} (l0 : 0 ≤ l) (k : ∀ k, S h (k * l - 1) (k * l + l - 1) ≤ m) (z : Int) : ∀ q : Nat, S h (z * l - 1) ((z + q) * l - 1) ≤ m * q
  | 0 => by
    rw [S_zero]
    · simp
    · intro r _
      simp only [Int.natCast_zero, Int.add_zero]
      omega
  | q + 1 => by
    have ih := cover_s l0 k z q
    have h1 := k (z + q)
    have q0 : 0 ≤ (q : Int) * l := Int.mul_nonneg (Int.natCast_nonneg q) l0
    have e0 : (z + (q : Int)) * l = z * l + q * l := Int.add_mul ..
    have e2 : (z + ((q + 1 : Nat) : Int)) * l = (z + q) * l + l := by
      rw [Int.natCast_add, ← Int.add_assoc, Int.add_mul]
      omega
    rw [e2, S_split h (b := (z + q) * l - 1) (by omega) (by omega)]
    have e3 : m * ((q + 1 : Nat) : Int) = m * q + m := by
      rw [Int.natCast_add, Int.mul_add]
      omega
    omega
theorem gap_w {h : Hist} (g : Hg h) {t : Int} (t1 : 1 ≤ t) (k : Keep (.gap t) h) : Keep (.window 1000 t) h := by
  intro x
  induction h with
  | nil => exact (by decide : (0 : Int) ≤ 1000)
  | cons r h ih =>
    obtain ⟨k1, k2⟩ := List.pairwise_cons.mp k
    rw [S_cons]
    by_cases q : x - t < r.1 ∧ r.1 ≤ x
    · rw [if_pos q, S_zero fun y hy => ?_]
      · have := (g.c r (.head _)).2
        omega
      · have := k1 y hy
        omega
    · rw [if_neg q]
      have := ih (g.sub (List.sublist_cons_self _ _)) k2
      omega
theorem ru_mul {n d : Int} (d1 : 1 ≤ d) : n ≤ roundedUp n d * d := by
  unfold roundedUp
  have h1 := Int.mul_ediv_add_emod (n + d - 1) d
  have h2 := Int.emod_lt_of_pos (n + d - 1) (show 0 < d by omega)
  rw [Int.mul_comm] at h1
  omega
theorem ru_pos {n d : Int} (n0 : 0 ≤ n) (d1 : 1 ≤ d) : 0 ≤ roundedUp n d := Int.ediv_nonneg (by omega) (by omega)
theorem ru_one {n d : Int} (d1 : 1 ≤ d) : roundedUp n d = (n - 1) / d + 1 := by
  unfold roundedUp
  rw [show n + d - 1 = n - 1 + 1 * d by omega, Int.add_mul_ediv_right _ _ (by omega)]
theorem win_in {h : Hist} (p : ∀ r ∈ h, 0 ≤ r.2) {m l n x : Int} (l1 : 1 ≤ l) (n1 : 0 ≤ n) (k : Keep (.window m l) h) : S h (x - n) x ≤ m * roundedUp n l := by
  obtain ⟨q, e⟩ := Int.eq_ofNat_of_zero_le (ru_pos (n := n) (d := l) n1 l1)
  have h1 := ru_mul (n := n) (d := l) l1
  have h2 := cover_w (by omega) k (x - q * l) q
  rw [e] at h1 ⊢
  rw [show x - q * l + q * l = x by omega] at h2
  exact Int.le_trans (S_wide p (by omega) (Int.le_refl _)) h2
theorem span_in {h : Hist} (p : ∀ r ∈ h, 0 ≤ r.2) {m l a b z q : Int} (l1 : 1 ≤ l) (q0 : 0 ≤ q) (ha : z * l ≤ a + 1) (hb : b < (z + q) * l) (k : Keep (.span m l) h) : S h a b ≤ m * q := by
  obtain ⟨n, rfl⟩ := Int.eq_ofNat_of_zero_le q0
  exact Int.le_trans (S_wide p (by omega) (by omega)) (cover_s (by omega) k z n)
/-- the greatest cost within n moments -/
theorem within {r : Rule} {h : Hist} (g : Hg h) (wf : WfNum r) (f : isFlow r = true) (ln : letsNothing r = false) (k : Keep r h) {n : Int} (n1 : 1 ≤ n) (x : Int) : S h (x - n) x ≤ mostWithin r n := by
  unfold mostWithin
  rw [if_neg (by rw [ln]; decide)]
  cases r with
  | window m l => exact win_in g.p wf.2.2.1 (by omega) k
  | span m l =>
    have l1 : 1 ≤ l := wf.2.2.1
    show _ ≤ m * (roundedUp (n - 1) l + 1)
    have h0 := ru_pos (n := n - 1) (d := l) (by omega) l1
    have h1 := ru_mul (n := n - 1) (d := l) l1
    have d1 := Int.mul_ediv_add_emod (x - n + 1) l
    have d2 := Int.emod_lt_of_pos (x - n + 1) (show 0 < l by omega)
    have d3 := Int.emod_nonneg (x - n + 1) (show l ≠ 0 by omega)
    rw [Int.mul_comm] at d1
    refine span_in g.p l1 (z := (x - n + 1) / l) (by omega) (by omega) ?_ k
    rw [Int.add_mul, Int.add_mul]
    omega
  | bucket s e =>
    have e1 : 1 ≤ e := wf.2.2.1
    have h1 := k (x - n + 1) x (by omega)
    rw [show x - n + 1 - 1 = x - n by omega] at h1
    have h2 : S h (x - n) x - s ≤ (n - 1) / e := by
      refine Int.le_ediv_of_mul_le (by omega) ?_
      rw [Int.sub_mul, Int.mul_comm (S h (x - n) x)]
      omega
    show _ ≤ s + (n - 1) / e
    omega
  | gap t =>
    have t1 : 1 ≤ t := wf.1
    show _ ≤ 1000 * ((n - 1) / t + 1)
    rw [← ru_one t1]
    exact win_in g.p t1 (by omega) (gap_w g t1 k)
  | held m => cases f
  | pool m sh => cases f
theorem off_le {k l o : Int} (o1 : 1 ≤ o) : k * l % o ≤ lastOffset l o := by
  unfold lastOffset
  have d1 := Int.mul_ediv_add_emod (k * l) o
  have d2 := Int.emod_lt_of_pos (k * l) (show 0 < o by omega)
  have g1 : ((Nat.gcd o.natAbs l.natAbs : Nat) : Int) ∣ o := Int.gcd_dvd_left (a := o) (b := l)
  have g2 : ((Nat.gcd o.natAbs l.natAbs : Nat) : Int) ∣ l := Int.gcd_dvd_right (a := o) (b := l)
  have g3 : ((Nat.gcd o.natAbs l.natAbs : Nat) : Int) ∣ o - k * l % o := by
    rw [show o - k * l % o = o + o * (k * l / o) - k * l by omega]
    exact Int.dvd_sub (Int.dvd_add g1 (Int.dvd_mul_of_dvd_left g1)) (Int.dvd_mul_of_dvd_right g2)
  have := Int.le_of_dvd (by omega) g3
  omega
theorem win_bucket {h : Hist} (p : ∀ r ∈ h, 0 ≤ r.2) {m l s e : Int} (l1 : 1 ≤ l) (m0 : 0 ≤ m) (e1 : 1 ≤ e) (ms : m ≤ s) (em : e * m ≤ l) (k : Keep (.window m l) h) : Keep (.bucket s e) h := by
  intro a b ab
  have h1 := win_in p (n := b - a + 1) (x := b) l1 (by omega) k
  rw [ru_one l1, show b - (b - a + 1) = a - 1 by omega, show b - a + 1 - 1 = b - a by omega] at h1
  have h2 := Int.mul_le_mul_of_nonneg_left h1 (show 0 ≤ e by omega)
  rw [← Int.mul_assoc, Int.mul_add, Int.mul_one] at h2
  have d0 : 0 ≤ (b - a) / l := Int.ediv_nonneg (by omega) (by omega)
  have h3 := Int.mul_le_mul_of_nonneg_right em d0
  have h4 := Int.mul_ediv_self_le (x := b - a) (k := l) (by omega)
  have h5 := Int.mul_le_mul_of_nonneg_left ms (show 0 ≤ e by omega)
  rw [Int.mul_comm s e]
  omega
theorem pair_of {h : Hist} {x y : Int × Int} (g : Hg h) (s : [x, y].Sublist h) : x.1 ≤ y.1 ∧ ∀ a b, a < x.1 → y.1 ≤ b → 2 ≤ S h a b := by
  have xy := List.pairwise_iff_forall_sublist.mp g.s s
  refine ⟨xy, fun a b h1 h2 => ?_⟩
  have cx := (g.c x (s.subset (.head _))).1
  have cy := (g.c y (s.subset (.tail _ (.head _)))).1
  have h3 := S_sub s g.p a b
  rw [S_cons, S_cons, if_pos (by omega), if_pos (by omega)] at h3
  have h4 : S [] a b = 0 := rfl
  omega
theorem keep_gap {o : Rule} {h : Hist} (g : Hg h) (wo : WfNum o) (f : isFlow o = true) {t : Int} (t1 : 1 ≤ t) (le : t ≤ leastDist o) (k : Keep o h) : Keep (.gap t) h := by
  refine List.pairwise_iff_forall_sublist.mpr fun {x y} s => ?_
  obtain ⟨xy, two⟩ := pair_of g s
  cases o with
  | gap t' =>
    have := List.pairwise_iff_forall_sublist.mp k s
    have le : t ≤ t' := le
    omega
  | window m l =>
    have le : t ≤ if 1 < m then 0 else l := le
    have m1 : ¬ 1 < m := fun z => by
      rw [if_pos z] at le
      omega
    rw [if_neg m1] at le
    by_cases q : x.1 + t ≤ y.1
    · exact q
    · have h1 := k y.1
      have h2 := two (y.1 - l) y.1 (by omega) (Int.le_refl _)
      omega
  | span m l =>
    have le : t ≤ if 1 < m then 0 else 1 := le
    have l1 : 1 ≤ l := wo.2.2.1
    have m1 : ¬ 1 < m := fun z => by
      rw [if_pos z] at le
      omega
    rw [if_neg m1] at le
    by_cases q : x.1 + t ≤ y.1
    · exact q
    · have d1 := Int.mul_ediv_add_emod x.1 l
      have d2 := Int.emod_lt_of_pos x.1 (show 0 < l by omega)
      have d3 := Int.emod_nonneg x.1 (show l ≠ 0 by omega)
      rw [Int.mul_comm] at d1
      have h1 := k (x.1 / l)
      have h2 := two (x.1 / l * l - 1) (x.1 / l * l + l - 1) (by omega) (by omega)
      omega
  | bucket s' e =>
    have le : t ≤ if 1 < s' then 0 else e := le
    have e1 : 1 ≤ e := wo.2.2.1
    have m1 : ¬ 1 < s' := fun z => by
      rw [if_pos z] at le
      omega
    rw [if_neg m1] at le
    have h1 := k x.1 y.1 xy
    have h2 := two (x.1 - 1) y.1 (by omega) (Int.le_refl _)
    have h3 := Int.mul_le_mul_of_nonneg_left h2 (show 0 ≤ e by omega)
    have h4 := Int.mul_le_mul_of_nonneg_right (show s' ≤ 1 by omega) (show 0 ≤ e by omega)
    omega
  | held m => cases f
  | pool m sh => cases f
theorem keep_bucket {o : Rule} {h : Hist} (g : Hg h) (wo : WfNum o) {s e : Int} (e1 : 1 ≤ e) (le : belowBucket s e o = true) (k : Keep o h) : Keep (.bucket s e) h := by
  cases o with
  | bucket a b =>
    have le : (decide (a ≤ s) && decide (e ≤ b)) = true := le
    rw [Bool.and_eq_true, decide_eq_true_iff, decide_eq_true_iff] at le
    intro u v uv
    have h1 := k u v uv
    by_cases q : S h (u - 1) v ≤ s
    · have h2 := Int.mul_le_mul_of_nonneg_left q (show 0 ≤ e by omega)
      rw [Int.mul_comm s e]
      omega
    · have h2 := Int.mul_le_mul_of_nonneg_right le.2 (show 0 ≤ S h (u - 1) v - s by omega)
      have h3 := Int.mul_le_mul_of_nonneg_left le.1 (show 0 ≤ b by omega)
      rw [Int.mul_sub, Int.mul_sub] at h2
      rw [Int.mul_comm a b] at h1
      rw [Int.mul_comm s e]
      omega
  | gap t =>
    have le : (decide (1000 ≤ s) && decide (e * 1000 ≤ t)) = true := le
    rw [Bool.and_eq_true, decide_eq_true_iff, decide_eq_true_iff] at le
    exact win_bucket g.p wo.1 (by decide) e1 le.1 le.2 (gap_w g wo.1 k)
  | window m l =>
    have le : (decide (m ≤ s) && decide (e * m ≤ l)) = true := le
    rw [Bool.and_eq_true, decide_eq_true_iff, decide_eq_true_iff] at le
    exact win_bucket g.p wo.2.2.1 wo.1 e1 le.1 le.2 k
  | span m l =>
    have le : (if s * e + 1 < 2 * m * e then false else decide (m ≤ s) && decide (e * m ≤ l)) = true := le
    have q : ¬ s * e + 1 < 2 * m * e := fun z => by
      rw [if_pos z] at le
      cases le
    rw [if_neg q, Bool.and_eq_true, decide_eq_true_iff, decide_eq_true_iff] at le
    have l1 : 1 ≤ l := wo.2.2.1
    intro a b ab
    have d1 := Int.mul_ediv_add_emod a l
    have d2 := Int.emod_lt_of_pos a (show 0 < l by omega)
    have d3 := Int.emod_nonneg a (show l ≠ 0 by omega)
    have c1 := Int.mul_ediv_add_emod b l
    have c2 := Int.emod_lt_of_pos b (show 0 < l by omega)
    have c3 := Int.emod_nonneg b (show l ≠ 0 by omega)
    rw [Int.mul_comm] at d1 c1
    have mono : a / l ≤ b / l := Int.ediv_le_ediv (by omega) ab
    have h1 := span_in g.p (a := a - 1) (b := b) (z := a / l) (q := b / l - a / l + 1) l1 (by omega) (by omega) (by
      rw [show a / l + (b / l - a / l + 1) = b / l + 1 by omega, Int.add_mul]
      omega) k
    have h2 := Int.mul_le_mul_of_nonneg_left h1 (show 0 ≤ e by omega)
    rw [← Int.mul_assoc] at h2
    by_cases z : a / l = b / l
    · rw [show b / l - a / l + 1 = 1 by omega] at h2
      have h5 := Int.mul_le_mul_of_nonneg_left le.1 (show 0 ≤ e by omega)
      rw [Int.mul_comm s e]
      omega
    · have h3 := Int.mul_le_mul_of_nonneg_right le.2 (show 0 ≤ b / l - a / l - 1 by omega)
      rw [show b / l - a / l + 1 = (b / l - a / l - 1) + 2 by omega, Int.mul_add] at h2
      rw [Int.mul_sub l, Int.mul_sub l, Int.mul_comm l, Int.mul_comm l] at h3
      rw [show 2 * m * e = e * m * 2 by rw [Int.mul_comm, Int.mul_comm 2 m, Int.mul_assoc]] at q
      omega
  | held m => cases le
  | pool m sh => cases le
theorem keep_idle {r o : Rule} {h : Hist} (g : Hg h) (wr : WfNum r) (wo : WfNum o) (fo : isFlow o = true) (ln : letsNothing o = false) (i : idleFlow r o = true) (k : Keep o h) : Keep r h := by
  unfold idleFlow at i
  rw [if_neg (by rw [ln]; decide)] at i
  cases r with
  | gap t => exact keep_gap g wo fo wr.1 (of_decide_eq_true i) k
  | window m l =>
    have i : mostWithin o l ≤ m := of_decide_eq_true i
    exact fun x => Int.le_trans (within g wo fo ln k wr.2.2.1 x) i
  | span m l =>
    have i : mostInSpan l o ≤ m := of_decide_eq_true i
    have l1 : 1 ≤ l := wr.2.2.1
    intro z
    refine Int.le_trans ?_ i
    have flat := within g wo fo ln k l1 (z * l + l - 1)
    rw [show z * l + l - 1 - l = z * l - 1 by omega] at flat
    cases o with
    | span m' o =>
      have o1 : 1 ≤ o := wo.2.2.1
      show _ ≤ m' * roundedUp (lastOffset l o + l) o
      have h1 := off_le (k := z) (l := l) o1
      have d1 := Int.mul_ediv_add_emod (z * l) o
      have d3 := Int.emod_nonneg (z * l) (show o ≠ 0 by omega)
      rw [Int.mul_comm] at d1
      have h2 := ru_mul (n := lastOffset l o + l) o1
      refine span_in g.p o1 (z := z * l / o) (ru_pos (by omega) o1) (by omega) ?_ k
      rw [Int.add_mul]
      omega
    | window m' o => exact flat
    | bucket m' o => exact flat
    | gap o => exact flat
    | held o => cases fo
    | pool o sh => cases fo
  | bucket s e => exact keep_bucket g wo wr.2.2.1 i k
  | held m => trivial
  | pool m sh => trivial
end Lw.Pl
end
section
set_option maxRecDepth 100000
namespace Lw.Pl
open PySem (Str)
/-! ### a state of a flow and the row behind it -/
def Rep : Rule → MSt → Hist → Int → Prop
  | .window _ l, .window sums, h, T => ∀ t, T ≤ t → tot (since l sums t) = S h (t - l) t
  | .span _ l, .span sp used, h, T => ∀ t, T ≤ t → usedIn l sp used t = S h (t / l * l - 1) t
  | .bucket _ e, .bucket mi mo, h, T => ∀ t, T ≤ t → (∀ a, a ≤ t → e * S h (a - 1) t - (t - a) ≤ missAt mi mo t) ∧ (missAt mi mo t ≤ 0 ∨ ∃ a, a ≤ t ∧ missAt mi mo t ≤ e * S h (a - 1) t - (t - a))
  | .gap _, .gap none, h, _ => h = []
  | .gap _, .gap (some b), h, _ => (∀ x ∈ h, x.1 ≤ b) ∧ ∃ x ∈ h, x.1 = b
  | _, _, _, _ => True
def Upto (h : Hist) (T : Int) : Prop := ∀ r ∈ h, r.1 ≤ T
theorem S_top {h : Hist} {T a b b' : Int} (u : Upto h T) (hb : T ≤ b) (hb' : T ≤ b') : S h a b = S h a b' := by
  induction h with
  | nil => rfl
  | cons r h ih =>
    rw [S_cons, S_cons, ih fun x hx => u x (.tail _ hx)]
    have := u r (.head _)
    split <;> split <;> omega
theorem Rep.up {r : Rule} {s : MSt} {h : Hist} {T T' : Int} (R : Rep r s h T) (e : T ≤ T') : Rep r s h T' := by
  cases r <;> cases s <;> first | exact trivial | skip
  · exact fun t ht => R t (Int.le_trans e ht)
  · exact fun t ht => R t (Int.le_trans e ht)
  · exact fun t ht => R t (Int.le_trans e ht)
  · rename_i t last
    cases last with
    | none => exact R
    | some b => exact R
theorem room_keep {r : Rule} {s : MSt} {h : Hist} {T t c : Int} {g : Str} (f : Fits r s) (wf : WfNum r) (R : Rep r s h T) (u : Upto h T) (ht : T ≤ t) (p : ∀ r ∈ h, 0 ≤ r.2) (k : Keep r h) (q : roomC r s t g c = true) : Keep r (h ++ [(t, c)]) := by
  cases r <;> cases s <;> first | exact f.elim | exact trivial | skip
  · rename_i m l sums
    have q : tot (since l sums t) + c ≤ m := of_decide_eq_true q
    rw [R t ht] at q
    intro x
    have kx := k x
    rw [S_app, S_one]
    split
    · have h1 := S_wide p (a := x - l) (b := x) (a' := t - l) (b' := x) (by omega) (Int.le_refl _)
      rw [S_top (a := t - l) (b := x) (b' := t) u (by omega) ht] at h1
      omega
    · omega
  · rename_i m l sp used
    have q : usedIn l sp used t + c ≤ m := of_decide_eq_true q
    rw [R t ht] at q
    have l1 : 1 ≤ l := wf.2.2.1
    intro x
    have kx := k x
    rw [S_app, S_one]
    split
    · rename_i z
      have e : t / l = x := by
        have h1 : x ≤ t / l := Int.le_ediv_of_mul_le (by omega) (by omega)
        have h2 : t / l < x + 1 := Int.ediv_lt_of_lt_mul (by omega) (by rw [Int.add_mul]; omega)
        omega
      rw [e] at q
      rw [S_top (b' := t) u (by omega) ht]
      exact q
    · omega
  · rename_i m e mi mo
    have q : missAt mi mo t + e * c - m * e ≤ 0 := of_decide_eq_true q
    intro a b ab
    have kx := k a b ab
    rw [S_app, S_one, Int.mul_add]
    split
    · have h1 := (R t ht).1 a (by omega)
      rw [S_top (b' := t) u (by omega) ht]
      omega
    · rw [Int.mul_zero]
      omega
  · rename_i ti last
    refine List.pairwise_append.mpr ⟨k, List.pairwise_singleton .., fun x hx y hy => ?_⟩
    rw [List.mem_singleton.mp hy]
    cases last with
    | none =>
      have R : h = [] := R
      rw [R] at hx
      cases hx
    | some b =>
      have q : max t (b + ti) = t := of_decide_eq_true q
      have := R.1 x hx
      show x.1 + ti ≤ t
      omega
theorem keep_room {r : Rule} {s : MSt} {h : Hist} {T t c : Int} {g : Str} (f : Fits r s) (fl : isFlow r = true) (wf : WfNum r) (R : Rep r s h T) (u : Upto h T) (ht : T ≤ t) (p : ∀ r ∈ h, 0 ≤ r.2) (k : Keep r (h ++ [(t, c)])) : roomC r s t g c = true := by
  cases r <;> cases s <;> first | exact f.elim | cases fl | skip
  · rename_i m l sums
    show decide (tot (since l sums t) + c ≤ m) = true
    have kx := k t
    by_cases l1 : 1 ≤ l
    · rw [S_app, S_one, if_pos (by omega)] at kx
      rw [R t ht]
      exact decide_eq_true kx
    · exact absurd wf.2.2.1 l1
  · rename_i m l sp used
    have l1 : 1 ≤ l := wf.2.2.1
    show decide (usedIn l sp used t + c ≤ m) = true
    have d1 := Int.mul_ediv_add_emod t l
    have d2 := Int.emod_lt_of_pos t (show 0 < l by omega)
    have d3 := Int.emod_nonneg t (show l ≠ 0 by omega)
    rw [Int.mul_comm] at d1
    have kx := k (t / l)
    rw [S_app, S_one, if_pos (by omega), S_top (b' := t) u (by omega) ht] at kx
    rw [R t ht]
    exact decide_eq_true kx
  · rename_i m e mi mo
    have e1 : 1 ≤ e := wf.2.2.1
    show decide (missAt mi mo t + e * c - m * e ≤ 0) = true
    rw [decide_eq_true_iff]
    rcases (R t ht).2 with z | ⟨a, ha, z⟩
    · have kx := k t t (Int.le_refl _)
      rw [S_app, S_one, if_pos (by omega), Int.mul_add] at kx
      have := Int.mul_nonneg (show 0 ≤ e by omega) (S_pos p (t - 1) t)
      omega
    · have kx := k a t ha
      rw [S_app, S_one, if_pos (by omega), Int.mul_add] at kx
      omega
  · rename_i ti last
    cases last with
    | none => rfl
    | some b =>
      obtain ⟨_, _, k3⟩ := List.pairwise_append.mp k
      obtain ⟨x, hx, e⟩ := R.2
      have := k3 x hx (t, c) (List.mem_singleton.mpr rfl)
      have this : x.1 + ti ≤ t := this
      show decide (max t (b + ti) = t) = true
      rw [decide_eq_true_iff]
      omega
theorem tos_app (l : Int) (a b : List (Int × Int)) (t : Int) : tot (since l (a ++ b) t) = tot (since l a t) + tot (since l b t) := by
  unfold since
  rw [List.filter_append, tot_app]
theorem tos_one (l u c t : Int) : tot (since l [(u, c)] t) = if t - l < u then c else 0 := by
  unfold since
  by_cases h : t - l < u
  · rw [if_pos h, List.filter_cons, if_pos (decide_eq_true h), List.filter_nil, tot_cons, tot_nil]
    omega
  · rw [if_neg h, List.filter_cons, if_neg (by rw [decide_eq_true_iff]; exact h), List.filter_nil, tot_nil]
theorem let_rep {r : Rule} {s : MSt} {h : Hist} {T t c : Int} {g k : Str} (f : Fits r s) (wf : WfNum r) (w : StW r s T) (R : Rep r s h T) (u : Upto h T) (ht : T ≤ t) (p : ∀ r ∈ h, 0 ≤ r.2) (c0 : 0 ≤ c) : Rep r (letC r s t g c k) (h ++ [(t, c)]) t ∧ StW r (letC r s t g c k) t := by
  cases r <;> cases s <;> first | exact f.elim | exact ⟨trivial, trivial⟩ | skip
  · rename_i m l sums
    have l1 : 1 ≤ l := wf.2.2.1
    have base : ∀ t2, t ≤ t2 → tot (since l (since l sums t ++ [(t, c)]) t2) = S (h ++ [(t, c)]) (t2 - l) t2 := fun t2 h2 => by
      rw [tos_app, ← since_up h2, R t2 (by omega), S_app, tos_one, S_one]
      split <;> split <;> omega
    have pw : (since l sums t).Pairwise (fun x y => x.1 < y.1) := w.1.filter _
    have mem : ∀ r ∈ since l sums t, 0 ≤ r.2 ∧ r.1 ≤ T := fun r hr => w.2 r (List.mem_filter.mp hr).1
    rw [letC_w]
    cases q : (since l sums t).getLast? with
    | none =>
      rw [List.getLast?_eq_none_iff] at q
      rw [q] at base
      refine ⟨base, List.pairwise_singleton .., fun x hx => ?_⟩
      rw [List.mem_singleton.mp hx]
      exact ⟨c0, Int.le_refl _⟩
    | some x =>
      obtain ⟨A, hA⟩ := List.getLast?_eq_some_iff.mp q
      rw [hA] at base pw mem
      obtain ⟨w1, _, w3⟩ := List.pairwise_append.mp pw
      have xm := mem x (List.mem_append_right _ (.head _))
      show Rep _ (if x.1 = t then _ else _) _ _ ∧ StW _ (if x.1 = t then _ else _) _
      by_cases z : x.1 = t
      · rw [if_pos z, hA, List.dropLast_concat]
        refine ⟨fun t2 h2 => ?_, List.pairwise_append.mpr ⟨w1, List.pairwise_singleton .., fun y hy y2 hy2 => ?_⟩, fun y hy => ?_⟩
        · rw [← base t2 h2, tos_app, tos_app, tos_app, tos_one, tos_one]
          obtain ⟨x1, x2⟩ := x
          rw [tos_one]
          have z : x1 = t := z
          rw [z]
          have ex : (c + ((x1, x2) : Int × Int).2) = c + x2 := rfl
          rw [ex]
          split <;> omega
        · rw [List.mem_singleton.mp hy2]
          have := w3 y hy x (.head _)
          show y.1 < t
          omega
        · rcases List.mem_append.mp hy with v | v
          · have := mem y (List.mem_append_left _ v)
            omega
          · rw [List.mem_singleton.mp v]
            show 0 ≤ c + x.2 ∧ t ≤ t
            omega
      · rw [if_neg z, hA]
        refine ⟨base, List.pairwise_append.mpr ⟨pw, List.pairwise_singleton .., fun y hy y2 hy2 => ?_⟩, fun y hy => ?_⟩
        · rw [List.mem_singleton.mp hy2]
          show y.1 < t
          rcases List.mem_append.mp hy with v | v
          · have := w3 y v x (.head _)
            omega
          · rw [List.mem_singleton.mp v]
            omega
        · rcases List.mem_append.mp hy with v | v
          · have := mem y v
            omega
          · rw [List.mem_singleton.mp v]
            exact ⟨c0, Int.le_refl _⟩
  · rename_i m l sp used
    have l1 : 1 ≤ l := wf.2.2.1
    have d1 := Int.mul_ediv_add_emod t l
    have d2 := Int.emod_lt_of_pos t (show 0 < l by omega)
    have d3 := Int.emod_nonneg t (show l ≠ 0 by omega)
    rw [Int.mul_comm] at d1
    refine ⟨fun t2 h2 => ?_, (by show t / l * l ≤ t; omega), ?_⟩
    · show usedIn l (t / l) (usedIn l sp used t + c) t2 = _
      have e : ∀ x, usedIn l (t / l) x t2 = if t2 / l = t / l then x else 0 := fun _ => rfl
      rw [e, S_app, S_one, R t ht]
      by_cases z : t2 / l = t / l
      · rw [if_pos z, z, S_top (b := t2) (b' := t) u (by omega) ht, if_pos (by omega)]
      · have mono : t / l ≤ t2 / l := Int.ediv_le_ediv (by omega) h2
        have h3 := Int.mul_le_mul_of_nonneg_right (show t / l + 1 ≤ t2 / l by omega) (show 0 ≤ l by omega)
        rw [Int.add_mul] at h3
        rw [if_neg z, if_neg (by omega), S_zero]
        · rfl
        · intro x hx
          have := u x hx
          omega
    · show 0 ≤ usedIn l sp used t + c
      rw [R t ht]
      have := S_pos p (t / l * l - 1) t
      omega
  · rename_i m e mi mo
    have e1 : 1 ≤ e := wf.2.2.1
    refine ⟨fun t2 h2 => ?_, Int.le_refl t⟩
    show (∀ a, a ≤ t2 → _ ≤ missAt (missAt mi mo t + e * c) t t2) ∧ (missAt (missAt mi mo t + e * c) t t2 ≤ 0 ∨ ∃ a, a ≤ t2 ∧ missAt (missAt mi mo t + e * c) t t2 ≤ _)
    obtain ⟨R1, R2⟩ := R t ht
    have ec := Int.mul_nonneg (show 0 ≤ e by omega) c0
    have m0 : 0 ≤ missAt mi mo t := Int.le_max_left ..
    have em : missAt (missAt mi mo t + e * c) t t2 = max 0 (missAt mi mo t + e * c - (t2 - t)) := rfl
    rw [em]
    constructor
    · intro a ha
      rw [S_app, S_one, Int.mul_add]
      by_cases z : a ≤ t
      · have h1 := R1 a z
        rw [if_pos (by omega), S_top (b' := t) u (by omega) ht]
        omega
      · rw [if_neg (by omega), Int.mul_zero, S_zero, Int.mul_zero]
        · omega
        · intro x hx
          have := u x hx
          omega
    · rcases R2 with z | ⟨a, ha, z⟩
      · by_cases y : max 0 (missAt mi mo t + e * c - (t2 - t)) ≤ 0
        · exact .inl y
        · refine .inr ⟨t, h2, ?_⟩
          rw [S_app, S_one, Int.mul_add, if_pos (by omega)]
          have := Int.mul_nonneg (show 0 ≤ e by omega) (S_pos p (t - 1) t2)
          omega
      · by_cases y : max 0 (missAt mi mo t + e * c - (t2 - t)) ≤ 0
        · exact .inl y
        · refine .inr ⟨a, by omega, ?_⟩
          rw [S_app, S_one, Int.mul_add, if_pos (by omega), S_top (b' := t) u (by omega) ht]
          omega
  · refine ⟨⟨fun x hx => ?_, (t, c), List.mem_append_right _ (.head _), rfl⟩, trivial⟩
    rcases List.mem_append.mp hx with v | v
    · exact Int.le_trans (u x v) ht
    · rw [List.mem_singleton.mp v]
      exact Int.le_refl _
theorem init_rep (r : Rule) (wf : WfNum r) (T : Int) (T0 : 0 ≤ T) : Rep r (initM r) [] T ∧ StW r (initM r) T ∧ Keep r [] := by
  cases r with
  | window m l => exact ⟨fun t _ => rfl, ⟨.nil, fun x hx => nomatch hx⟩, fun x => wf.1⟩
  | span m l =>
    refine ⟨fun t _ => ?_, ⟨?_, Int.le_refl 0⟩, fun x => wf.1⟩
    · show usedIn l 0 0 t = 0
      unfold usedIn
      split <;> rfl
    · show 0 * l ≤ T
      rw [Int.zero_mul]
      exact T0
  | bucket s e =>
    have e1 : 1 ≤ e := wf.2.2.1
    refine ⟨fun t ht => ⟨fun a ha => ?_, .inl ?_⟩, T0, fun a b ab => ?_⟩
    · show e * 0 - (t - a) ≤ max 0 (0 - (t - 0))
      omega
    · show max 0 (0 - (t - 0)) ≤ 0
      omega
    · show e * 0 ≤ s * e + (b - a)
      have := Int.mul_nonneg wf.1 (show 0 ≤ e by omega)
      omega
  | gap t => exact ⟨rfl, trivial, .nil⟩
  | held m => exact ⟨trivial, trivial, trivial⟩
  | pool m sh => exact ⟨trivial, trivial, trivial⟩
end Lw.Pl
end
section
set_option maxRecDepth 100000
namespace Lw.Pl
open PySem (Str)
/-! ### what is held -/
abbrev Ent := Str × Str × Int
abbrev Cur := List Ent
def W (w : Ent → Int) : Cur → Int
  | [] => 0
  | x :: r => w x + W w r
theorem W_cons (w : Ent → Int) (x : Ent) (r : Cur) : W w (x :: r) = w x + W w r := rfl
theorem W_app (w : Ent → Int) (a b : Cur) : W w (a ++ b) = W w a + W w b := by
  induction a with
  | nil => exact (Int.zero_add _).symm
  | cons x a ih => rw [List.cons_append, W_cons, W_cons, ih, Int.add_assoc]
theorem W_sub {w : Ent → Int} {a b : Cur} (s : a.Sublist b) (p : ∀ x ∈ b, 0 ≤ w x) : W w a ≤ W w b := by
  induction s with
  | slnil => exact Int.le_refl _
  | cons x _ ih =>
    rw [W_cons]
    have h1 := p x (.head _)
    have h2 := ih fun y hy => p y (.tail _ hy)
    omega
  | cons_cons x _ ih =>
    rw [W_cons, W_cons]
    have h2 := ih fun y hy => p y (.tail _ hy)
    omega
theorem W_pos {w : Ent → Int} {a : Cur} (p : ∀ x ∈ a, 0 ≤ w x) : 0 ≤ W w a := W_sub (List.nil_sublist a) p
theorem W_le {w v : Ent → Int} {a : Cur} (p : ∀ x ∈ a, w x ≤ v x) : W w a ≤ W v a := by
  induction a with
  | nil => exact Int.le_refl _
  | cons x a ih =>
    rw [W_cons, W_cons]
    have h1 := p x (.head _)
    have h2 := ih fun y hy => p y (.tail _ hy)
    omega
theorem W_congr {w v : Ent → Int} {a : Cur} (p : ∀ x ∈ a, w x = v x) : W w a = W v a := by
  induction a with
  | nil => rfl
  | cons x a ih => rw [W_cons, W_cons, p x (.head _), ih fun y hy => p y (.tail _ hy)]
def wL (P : Str → Bool) (x : Ent) : Int := if P x.2.1 = true then x.2.2 else 0
def wG (g : Str) (x : Ent) : Int := if x.2.1 = g then x.2.2 else 0
theorem wL_pos {P : Str → Bool} {x : Ent} (h : 0 ≤ x.2.2) : 0 ≤ wL P x := by
  unfold wL
  split <;> omega
theorem wG_pos {g : Str} {x : Ent} (h : 0 ≤ x.2.2) : 0 ≤ wG g x := by
  unfold wG
  split <;> omega
abbrev Un (cur : Cur) (g : Str) : Int := W (wG g) cur
theorem Un_app (cur : Cur) (k g : Str) (c : Int) (g' : Str) : Un (cur ++ [(k, g, c)]) g' = Un cur g' + if g = g' then c else 0 := by
  show W _ (_ ++ _) = _
  rw [W_app, W_cons]
  show _ + ((if g = g' then c else 0) + 0) = _
  rw [Int.add_zero]
def kn (k : Str) (x : Ent) : Bool := !decide (x.1 = k)
theorem kn_nf {k : Str} {cur : Cur} (h : ∀ x ∈ cur, x.1 ≠ k) : cur.filter (kn k) = cur := List.filter_eq_self.mpr fun x hx => by
  unfold kn
  rw [decide_eq_false (h x hx)]
  rfl
/-- a release takes one entry away -/
theorem W_rel (w : Ent → Int) {k : Str} {cur : Cur} (nd : (cur.map (·.1)).Nodup) : W w (cur.filter (kn k)) = W w cur - (match cur.find? (fun x => decide (x.1 = k)) with
    | some x => w x
    | none => 0) := by
  induction cur with
  | nil => rfl
  | cons x r ih =>
    rw [List.map_cons, List.nodup_cons] at nd
    by_cases e : x.1 = k
    · have hn : ∀ y ∈ r, y.1 ≠ k := fun y hy z => nd.1 (by rw [e, ← z]; exact List.mem_map.mpr ⟨y, hy, rfl⟩)
      rw [List.filter_cons, if_neg (by unfold kn; rw [decide_eq_true e]; decide), kn_nf hn, List.find?_cons_of_pos (p := fun x : Ent => decide (x.1 = k)) (decide_eq_true e), W_cons]
      show _ = w x + W w r - w x
      omega
    · rw [List.filter_cons, if_pos (by unfold kn; rw [decide_eq_false e]; rfl), W_cons, W_cons, ih nd.2, List.find?_cons_of_neg (by rw [decide_eq_true_iff]; exact e)]
      omega
theorem find_filter {P : Ent → Bool} {k : Str} {cur : Cur} (nd : (cur.map (·.1)).Nodup) : (cur.filter P).find? (fun x => decide (x.1 = k)) = (match cur.find? (fun x => decide (x.1 = k)) with
    | some x => if P x = true then some x else none
    | none => none) := by
  induction cur with
  | nil => rfl
  | cons x r ih =>
    rw [List.map_cons, List.nodup_cons] at nd
    by_cases e : x.1 = k
    · have hn : ∀ y ∈ r, y.1 ≠ k := fun y hy z => nd.1 (by rw [e, ← z]; exact List.mem_map.mpr ⟨y, hy, rfl⟩)
      rw [List.find?_cons_of_pos (p := fun x : Ent => decide (x.1 = k)) (decide_eq_true e), List.filter_cons]
      show _ = if P x = true then some x else none
      by_cases q : P x = true
      · rw [if_pos q, if_pos q, List.find?_cons_of_pos (p := fun x : Ent => decide (x.1 = k)) (decide_eq_true e)]
      · rw [if_neg q, if_neg q, List.find?_eq_none]
        intro y hy
        rw [decide_eq_true_iff]
        exact hn y (List.mem_filter.mp hy).1
    · rw [List.find?_cons_of_neg (by rw [decide_eq_true_iff]; exact e), ← ih nd.2, List.filter_cons]
      by_cases q : P x = true
      · rw [if_pos q, List.find?_cons_of_neg (by rw [decide_eq_true_iff]; exact e)]
      · rw [if_neg q]
def namesOf : Rule → List Str
  | .pool _ sh => sh.map (·.1)
  | _ => []
def lkE (L : Lim) (x : Ent) : Bool := looksB L x.2.1
def RepH (L : Lim) : MSt → Cur → Prop
  | .held costs used, cur => costs = (cur.filter (lkE L)).map (fun x => (x.1, x.2.2)) ∧ used = W (wL (looksB L)) cur
  | .pool costs uses, cur => costs = cur.filter (lkE L) ∧ uses.map (·.1) = namesOf L.rule ∧ ∀ g ∈ namesOf L.rule, useOf uses g = Un cur g
  | _, _ => True
theorem useOf_set {uses : List (Str × Int)} {g : Str} {n : Int} {g' : Str} (hg : g ∈ uses.map (·.1)) : useOf (setUse uses g n) g' = if g' = g then n else useOf uses g' := by
  unfold useOf setUse
  induction uses with
  | nil => cases hg
  | cons u r ih =>
    rw [List.map_cons]
    by_cases e : u.1 = g'
    · rw [List.find?_cons_of_pos (p := fun u : Str × Int => decide (u.1 = g')) (a := u) (decide_eq_true e)]
      by_cases e2 : u.1 = g
      · rw [if_pos e2, List.find?_cons_of_pos (p := fun u : Str × Int => decide (u.1 = g')) (a := (u.1, n)) (decide_eq_true e), if_pos (by rw [← e, e2])]
      · rw [if_neg e2, List.find?_cons_of_pos (p := fun u : Str × Int => decide (u.1 = g')) (decide_eq_true e), if_neg (by rw [← e]; exact e2)]
    · rw [List.find?_cons_of_neg (p := fun u : Str × Int => decide (u.1 = g')) (a := u) (by rw [decide_eq_true_iff]; exact e)]
      by_cases e2 : u.1 = g
      · rw [if_pos e2, List.find?_cons_of_neg (by rw [decide_eq_true_iff]; exact e)]
        by_cases h : g ∈ r.map (·.1)
        · exact ih h
        · have : r.map (fun u => if u.1 = g then (u.1, n) else u) = r := by
            rw [List.map_congr_left (g := id), List.map_id]
            intro y hy
            exact if_neg fun z => h (by rw [← z]; exact List.mem_map.mpr ⟨y, hy, rfl⟩)
          rw [this, if_neg (by rw [← e2]; exact fun z => e z.symm)]
      · rw [if_neg e2, List.find?_cons_of_neg (by rw [decide_eq_true_iff]; exact e)]
        refine ih ?_
        rw [List.map_cons] at hg
        rcases List.mem_cons.mp hg with z | z
        · exact absurd z.symm e2
        · exact z
theorem looks_pool {n : Str} {gs : List Str} {m : Int} {sh : List Sh} {g : Str} : looksB ⟨n, gs, .pool m sh⟩ g = true ↔ g ∈ sh.map (·.1) := by
  show (sh.any fun s => decide (s.1 = g)) = true ↔ _
  rw [List.any_eq_true, List.mem_map]
  constructor
  · rintro ⟨s, hs, e⟩
    exact ⟨s, hs, of_decide_eq_true e⟩
  · rintro ⟨s, hs, e⟩
    exact ⟨s, hs, decide_eq_true e⟩
theorem letH {L : Lim} {s : MSt} {cur : Cur} {t c : Int} {g k : Str} (f : Fits L.rule s) (R : RepH L s cur) : RepH L (letM L s t g c k) (cur ++ [(k, g, c)]) := by
  unfold letM
  obtain ⟨n, gs, r⟩ := L
  by_cases q : looksB ⟨n, gs, r⟩ g = true
  · rw [if_pos q]
    have ef : [(k, g, c)].filter (lkE ⟨n, gs, r⟩) = [(k, g, c)] := by
      rw [List.filter_cons, if_pos (show lkE ⟨n, gs, r⟩ (k, g, c) = true from q)]
      rfl
    cases r <;> cases s <;> first | exact f.elim | exact trivial | skip
    · rename_i m l sums
      rw [letC_w]
      cases (since l sums t).getLast? with
      | none => exact trivial
      | some x =>
        show RepH _ (if x.1 = t then _ else _) _
        by_cases e : x.1 = t
        · rw [if_pos e]
          exact trivial
        · rw [if_neg e]
          exact trivial
    · rename_i m costs used
      obtain ⟨R1, R2⟩ := R
      refine ⟨?_, ?_⟩
      · rw [List.filter_append, List.map_append, ef, ← R1]
        rfl
      · rw [W_app, ← R2, W_cons]
        show used + c = used + ((if looksB _ g = true then c else 0) + 0)
        rw [if_pos q]
        omega
    · rename_i m sh costs uses
      obtain ⟨R1, R2, R3⟩ := R
      have hg : g ∈ sh.map (·.1) := looks_pool.mp q
      refine ⟨?_, ?_, fun g' hg' => ?_⟩
      · rw [List.filter_append, ef, ← R1]
      · rw [setUse_names]
        exact R2
      · rw [useOf_set (by rw [R2]; exact hg), Un_app]
        by_cases e : g' = g
        · rw [if_pos e, if_pos e.symm, R3 g hg, e]
        · rw [if_neg e, if_neg (Ne.symm e), R3 g' hg']
          omega
  · rw [if_neg q]
    have ef : [(k, g, c)].filter (lkE ⟨n, gs, r⟩) = [] := by
      rw [List.filter_cons, if_neg (show ¬ lkE ⟨n, gs, r⟩ (k, g, c) = true from q)]
      rfl
    cases r <;> cases s <;> first | exact f.elim | exact trivial | skip
    · rename_i m costs used
      obtain ⟨R1, R2⟩ := R
      refine ⟨?_, ?_⟩
      · rw [List.filter_append, List.map_append, ef, ← R1, List.map_nil, List.append_nil]
      · rw [W_app, ← R2, W_cons]
        show used = used + ((if looksB _ g = true then c else 0) + 0)
        rw [if_neg q]
        omega
    · rename_i m sh costs uses
      obtain ⟨R1, R2, R3⟩ := R
      refine ⟨?_, R2, fun g' hg' => ?_⟩
      · rw [List.filter_append, ef, ← R1, List.append_nil]
      · rw [Un_app, if_neg (fun z => q (looks_pool.mpr (by rw [z]; exact hg'))), R3 g' hg']
        omega
theorem filter_swap (p q : Ent → Bool) (l : Cur) : (l.filter p).filter q = (l.filter q).filter p := by
  rw [List.filter_filter, List.filter_filter]
  exact List.filter_congr fun x _ => Bool.and_comm _ _
theorem relH {L : Lim} {s : MSt} {cur : Cur} {k : Str} (f : Fits L.rule s) (nd : (cur.map (·.1)).Nodup) (R : RepH L s cur) : RepH L (relM s k) (cur.filter (kn k)) := by
  obtain ⟨n, gs, r⟩ := L
  cases r <;> cases s <;> first | exact f.elim | exact trivial | skip
  · rename_i m costs used
    obtain ⟨R1, R2⟩ := R
    rw [relM_h]
    have hf : costs.find? (fun x => decide (x.1 = k)) = ((cur.filter (lkE ⟨n, gs, .held m⟩)).find? fun x => decide (x.1 = k)).map (fun x => (x.1, x.2.2)) := by
      rw [R1, List.find?_map]
      rfl
    rw [hf, find_filter nd]
    have hw := W_rel (wL (looksB ⟨n, gs, .held m⟩)) (k := k) nd
    have hc : costs.filter (fun y => !decide (y.1 = k)) = ((cur.filter (kn k)).filter (lkE ⟨n, gs, .held m⟩)).map (fun x => (x.1, x.2.2)) := by
      rw [R1, List.filter_map, filter_swap]
      rfl
    cases q : cur.find? fun x => decide (x.1 = k) with
    | none =>
      rw [q] at hw
      have hn : ∀ x ∈ cur, x.1 ≠ k := fun x hx z => List.find?_eq_none.mp q x hx (decide_eq_true z)
      rw [kn_nf hn]
      exact ⟨R1, R2⟩
    | some x =>
      rw [q] at hw
      have hw : W (wL (looksB ⟨n, gs, .held m⟩)) (cur.filter (kn k)) = W (wL (looksB ⟨n, gs, .held m⟩)) cur - wL (looksB ⟨n, gs, .held m⟩) x := hw
      show RepH _ (match (if lkE ⟨n, gs, .held m⟩ x = true then some x else none).map (fun x => (x.1, x.2.2)) with
        | some x => _
        | none => _) _
      by_cases z : lkE ⟨n, gs, .held m⟩ x = true
      · rw [if_pos z]
        refine ⟨hc, ?_⟩
        rw [hw, ← R2]
        show used - x.2.2 = used - (if looksB _ x.2.1 = true then x.2.2 else 0)
        rw [if_pos (show looksB _ x.2.1 = true from z)]
      · rw [if_neg z]
        refine ⟨?_, ?_⟩
        · rw [← hc, List.filter_eq_self.mpr]
          intro y hy
          rw [R1] at hy
          obtain ⟨y', hy', rfl⟩ := List.mem_map.mp hy
          obtain ⟨m1, m2⟩ := List.mem_filter.mp hy'
          have : ¬ y'.1 = k := fun e => by
            have := List.find?_some q
            have h2 : (cur.filter (lkE ⟨n, gs, .held m⟩)).find? (fun x => decide (x.1 = k)) = none := by
              rw [find_filter nd, q]
              exact if_neg z
            exact List.find?_eq_none.mp h2 y' hy' (decide_eq_true e)
          rw [decide_eq_false this]
          rfl
        · rw [hw, ← R2]
          show used = used - (if looksB _ x.2.1 = true then x.2.2 else 0)
          rw [if_neg (show ¬ looksB _ x.2.1 = true from z)]
          omega
  · rename_i m sh costs uses
    obtain ⟨R1, R2, R3⟩ := R
    rw [relM_p, R1, find_filter nd]
    cases q : cur.find? fun x => decide (x.1 = k) with
    | none =>
      have hn : ∀ x ∈ cur, x.1 ≠ k := fun x hx z => List.find?_eq_none.mp q x hx (decide_eq_true z)
      rw [kn_nf hn]
      exact ⟨rfl, R2, R3⟩
    | some x =>
      have hw : ∀ g, Un (cur.filter (kn k)) g = Un cur g - wG g x := fun g => by
        have := W_rel (wG g) (k := k) nd
        rw [q] at this
        exact this
      show RepH _ (match (if lkE ⟨n, gs, .pool m sh⟩ x = true then some x else none) with
        | some x => _
        | none => _) _
      by_cases z : lkE ⟨n, gs, .pool m sh⟩ x = true
      · rw [if_pos z]
        have hx : x.2.1 ∈ sh.map (·.1) := looks_pool.mp z
        refine ⟨by rw [filter_swap]; rfl, by rw [setUse_names]; exact R2, fun g' hg' => ?_⟩
        rw [useOf_set (by rw [R2]; exact hx), hw]
        show _ = _ - (if x.2.1 = g' then x.2.2 else 0)
        by_cases e : g' = x.2.1
        · rw [if_pos e, if_pos e.symm, R3 _ hx, e]
        · rw [if_neg e, if_neg (Ne.symm e), R3 g' hg']
          omega
      · rw [if_neg z]
        refine ⟨?_, R2, fun g' hg' => ?_⟩
        · rw [filter_swap, Eq.comm, List.filter_eq_self]
          intro y hy
          have h2 : (cur.filter (lkE ⟨n, gs, .pool m sh⟩)).find? (fun x => decide (x.1 = k)) = none := by
            rw [find_filter nd, q]
            exact if_neg z
          have : ¬ y.1 = k := fun e => List.find?_eq_none.mp h2 y hy (decide_eq_true e)
          unfold kn
          rw [decide_eq_false this]
          rfl
        · rw [hw, R3 g' hg']
          show _ = _ - (if x.2.1 = g' then x.2.2 else 0)
          rw [if_neg (fun e => z (looks_pool.mpr (by rw [e]; exact hg')))]
          omega
theorem initH (L : Lim) : RepH L (initM L.rule) [] := by
  obtain ⟨n, gs, r⟩ := L
  cases r with
  | held m => exact ⟨rfl, rfl⟩
  | pool m sh =>
    refine ⟨rfl, ?_, fun g hg => ?_⟩
    · rw [List.map_map]
      rfl
    · unfold useOf
      cases q : (sh.map fun s => (s.1, (0 : Int))).find? fun u => decide (u.1 = g) with
      | none => rfl
      | some u =>
        obtain ⟨s, _, rfl⟩ := List.mem_map.mp (List.mem_of_find?_eq_some q)
        rfl
  | _ => trivial
end Lw.Pl
end
section
set_option maxRecDepth 100000
namespace Lw.Pl
open PySem (Str)
/-! ### sums -/
section
variable {α : Type} {f g : α → Int} {l : List α}
theorem sum_le (h : ∀ x ∈ l, f x ≤ g x) : (l.map f).sum ≤ (l.map g).sum := by
  induction l with
  | nil => exact Int.le_refl _
  | cons x l ih =>
    rw [List.map_cons, List.map_cons, List.sum_cons, List.sum_cons]
    have h1 := h x (.head _)
    have h2 := ih fun y hy => h y (.tail _ hy)
    omega
theorem sum_nn (h : ∀ x ∈ l, 0 ≤ f x) : 0 ≤ (l.map f).sum := by
  induction l with
  | nil => exact Int.le_refl _
  | cons x l ih =>
    rw [List.map_cons, List.sum_cons]
    have h1 := h x (.head _)
    have h2 := ih fun y hy => h y (.tail _ hy)
    omega
theorem sum_mem {x : α} (h : ∀ x ∈ l, 0 ≤ f x) (hx : x ∈ l) : f x ≤ (l.map f).sum := by
  induction l with
  | nil => cases hx
  | cons y l ih =>
    rw [List.map_cons, List.sum_cons]
    have h1 := h y (.head _)
    have h2 := sum_nn (f := f) (l := l) fun y hy => h y (.tail _ hy)
    rcases List.mem_cons.mp hx with z | z
    · rw [z]
      omega
    · have := ih (fun y hy => h y (.tail _ hy)) z
      omega
theorem sum_plus : (l.map fun x => f x + g x).sum = (l.map f).sum + (l.map g).sum := by
  induction l with
  | nil => rfl
  | cons y l ih =>
    rw [List.map_cons, List.map_cons, List.map_cons, List.sum_cons, List.sum_cons, List.sum_cons, ih]
    omega
end
theorem sum_sub {f : Str → Int} : ∀ {l m : List Str}, l.Nodup → (∀ x ∈ l, x ∈ m) → (∀ x ∈ m, 0 ≤ f x) → (l.map f).sum ≤ (m.map f).sum
  | [], m, _, _, p => sum_nn p
  | a :: l, m, nd, s, p => by
    rw [List.nodup_cons] at nd
    obtain ⟨m1, m2, rfl⟩ := List.append_of_mem (s a (.head _))
    have ih := sum_sub (f := f) (l := l) (m := m1 ++ m2) nd.2 (fun x hx => by
      rcases List.mem_append.mp (s x (.tail _ hx)) with z | z
      · exact List.mem_append_left _ z
      · rcases List.mem_cons.mp z with y | y
        · rw [y] at hx
          exact absurd hx nd.1
        · exact List.mem_append_right _ y) (fun x hx => p x (by
      rcases List.mem_append.mp hx with z | z
      · exact List.mem_append_left _ z
      · exact List.mem_append_right _ (.tail _ z)))
    rw [List.map_append, List.sum_append] at ih
    rw [List.map_cons, List.sum_cons, List.map_append, List.sum_append, List.map_cons, List.sum_cons]
    omega
theorem sum_ite (g : Str) (c : Int) : ∀ {l : List Str}, l.Nodup → (l.map fun g' => if g = g' then c else 0).sum = if g ∈ l then c else 0
  | [], _ => rfl
  | a :: l, nd => by
    rw [List.nodup_cons] at nd
    rw [List.map_cons, List.sum_cons, sum_ite g c nd.2]
    by_cases e : g = a
    · rw [if_pos e, if_neg (by rw [e]; exact nd.1), if_pos (by rw [e]; exact .head _)]
      omega
    · rw [if_neg e]
      by_cases q : g ∈ l
      · rw [if_pos q, if_pos (.tail _ q)]
        omega
      · rw [if_neg q, if_neg (fun z => (List.mem_cons.mp z).elim e q)]
        rfl
def wN (names : List Str) (x : Ent) : Int := if x.2.1 ∈ names then x.2.2 else 0
theorem sumU {names : List Str} (nd : names.Nodup) (cur : Cur) : (names.map (Un cur)).sum = W (wN names) cur := by
  induction cur with
  | nil =>
    have : (names.map fun _ => (0 : Int)).sum = 0 := by
      induction names with
      | nil => rfl
      | cons a l ih =>
        rw [List.map_cons, List.sum_cons, ih (List.nodup_cons.mp nd).2]
        rfl
    exact this
  | cons x r ih =>
    rw [W_cons, ← ih]
    have e : Un (x :: r) = fun g => (fun g' => if x.2.1 = g' then x.2.2 else 0) g + Un r g := funext fun g => rfl
    rw [e, sum_plus, sum_ite _ _ nd]
    rfl
/-! ### pools -/
theorem share_mem {sh : List Sh} (nd : (sh.map (·.1)).Nodup) {s : Sh} (h : s ∈ sh) : shareFor sh s.1 = s.2 := by
  unfold shareFor
  induction sh with
  | nil => cases h
  | cons a r ih =>
    rw [List.map_cons, List.nodup_cons] at nd
    rcases List.mem_cons.mp h with z | z
    · rw [z, List.find?_cons_of_pos (p := fun s' : Sh => decide (s'.1 = a.1)) (decide_eq_true rfl)]
    · have : ¬ a.1 = s.1 := fun e => nd.1 (by rw [e]; exact List.mem_map.mpr ⟨s, z, rfl⟩)
      rw [List.find?_cons_of_neg (p := fun s' : Sh => decide (s'.1 = s.1)) (by rw [decide_eq_true_iff]; exact this)]
      exact ih nd.2 z
def KeepH (L : Lim) (cur : Cur) : Prop := match L.rule with
  | .held m => W (wL (looksB L)) cur ≤ m
  | .pool m sh => (∀ s ∈ sh, Un cur s.1 ≤ s.2.2) ∧ (sh.map fun s => max 0 (Un cur s.1 - s.2.1)).sum ≤ common m sh
  | _ => True
def Cp (cur : Cur) : Prop := ∀ x ∈ cur, 0 ≤ x.2.2
theorem Un_pos {cur : Cur} (p : Cp cur) (g : Str) : 0 ≤ Un cur g := W_pos fun x hx => wG_pos (p x hx)
theorem rel_keepH {L : Lim} {cur : Cur} {q : Ent → Bool} (p : Cp cur) (k : KeepH L cur) : KeepH L (cur.filter q) := by
  obtain ⟨n, gs, r⟩ := L
  cases r with
  | held m => exact Int.le_trans (W_sub List.filter_sublist fun x hx => wL_pos (p x hx)) k
  | pool m sh =>
    have u : ∀ g, Un (cur.filter q) g ≤ Un cur g := fun g => W_sub List.filter_sublist fun x hx => wG_pos (p x hx)
    refine ⟨fun s hs => Int.le_trans (u s.1) (k.1 s hs), Int.le_trans (sum_le fun s hs => ?_) k.2⟩
    have := u s.1
    omega
  | _ => trivial
theorem skip_keepH {L : Lim} {cur : Cur} {key g : Str} {c : Int} (nl : ¬ looksB L g = true) (k : KeepH L cur) : KeepH L (cur ++ [(key, g, c)]) := by
  obtain ⟨n, gs, r⟩ := L
  cases r with
  | held m =>
    show W _ (_ ++ _) ≤ m
    rw [W_app, W_cons]
    show _ + ((if looksB _ g = true then c else 0) + 0) ≤ m
    rw [if_neg nl]
    have k : W (wL (looksB ⟨n, gs, .held m⟩)) cur ≤ m := k
    omega
  | pool m sh =>
    have u : ∀ s ∈ sh, Un (cur ++ [(key, g, c)]) s.1 = Un cur s.1 := fun s hs => by
      rw [Un_app, if_neg (fun z => nl (looks_pool.mpr (by rw [z]; exact List.mem_map.mpr ⟨s, hs, rfl⟩)))]
      omega
    refine ⟨fun s hs => by rw [u s hs]; exact k.1 s hs, Int.le_trans (sum_le fun s hs => ?_) k.2⟩
    rw [u s hs]
    exact Int.le_refl _
  | _ => trivial
theorem borrowed_eq {n : Str} {gs : List Str} {m : Int} {sh : List Sh} {costs : List (Str × Str × Int)} {uses : List (Str × Int)} {cur : Cur} {key g : Str} {c : Int} (R : RepH ⟨n, gs, .pool m sh⟩ (.pool costs uses) cur) : borrowed sh uses g c = (sh.map fun s => max 0 (Un (cur ++ [(key, g, c)]) s.1 - s.2.1)).sum := by
  unfold borrowed
  congr 1
  refine List.map_congr_left fun s hs => ?_
  have h := R.2.2 s.1 (List.mem_map.mpr ⟨s, hs, rfl⟩)
  rw [Un_app, h]
  by_cases e : s.1 = g
  · rw [if_pos e, if_pos e.symm]
  · rw [if_neg e, if_neg (Ne.symm e), Int.add_zero]
theorem roomP {m : Int} {sh : List Sh} {costs : List (Str × Str × Int)} {uses : List (Str × Int)} {t c : Int} {g : Str} : roomC (.pool m sh) (.pool costs uses) t g c = true ↔ useOf uses g + c ≤ (shareFor sh g).2 ∧ borrowed sh uses g c ≤ common m sh := by
  show (if (shareFor sh g).2 < useOf uses g + c then false else decide (borrowed sh uses g c ≤ common m sh)) = true ↔ _
  by_cases h : (shareFor sh g).2 < useOf uses g + c
  · rw [if_pos h]
    constructor
    · intro z
      cases z
    · intro z
      omega
  · rw [if_neg h, decide_eq_true_iff]
    constructor
    · intro z
      omega
    · intro z
      exact z.2
theorem room_keepH {L : Lim} {s : MSt} {cur : Cur} {key g : Str} {t c : Int} (f : Fits L.rule s) (wf : WfNum L.rule) (R : RepH L s cur) (k : KeepH L cur) (hl : looksB L g = true) (q : roomC L.rule s t g c = true) : KeepH L (cur ++ [(key, g, c)]) := by
  obtain ⟨n, gs, r⟩ := L
  cases r <;> cases s <;> first | exact f.elim | exact trivial | skip
  · rename_i m costs used
    have q : used + c ≤ m := of_decide_eq_true q
    show W _ (_ ++ _) ≤ m
    rw [W_app, W_cons, ← R.2]
    show _ + ((if looksB _ g = true then c else 0) + 0) ≤ m
    rw [if_pos hl]
    omega
  · rename_i m sh costs uses
    obtain ⟨q1, q2⟩ := roomP.mp q
    rw [borrowed_eq (key := key) R] at q2
    refine ⟨fun s hs => ?_, q2⟩
    have h := R.2.2 s.1 (List.mem_map.mpr ⟨s, hs, rfl⟩)
    rw [Un_app]
    by_cases e : g = s.1
    · rw [e, share_mem wf.2.2.2.2.1 hs, h] at q1
      rw [if_pos e]
      exact q1
    · rw [if_neg e, Int.add_zero]
      exact k.1 s hs
theorem keep_roomH {L : Lim} {s : MSt} {cur : Cur} {key g : Str} {t c : Int} (f : Fits L.rule s) (nf : isFlow L.rule = false) (wf : WfNum L.rule) (R : RepH L s cur) (hl : looksB L g = true) (k : KeepH L (cur ++ [(key, g, c)])) : roomC L.rule s t g c = true := by
  obtain ⟨n, gs, r⟩ := L
  cases r <;> cases s <;> first | exact f.elim | cases nf | skip
  · rename_i m costs used
    have k : W _ (_ ++ _) ≤ m := k
    rw [W_app, W_cons, ← R.2] at k
    have k : used + ((if looksB _ g = true then c else 0) + 0) ≤ m := k
    rw [if_pos hl] at k
    exact decide_eq_true (by omega)
  · rename_i m sh costs uses
    have hg := looks_pool.mp hl
    obtain ⟨s, hs, e⟩ := List.mem_map.mp hg
    refine roomP.mpr ⟨?_, ?_⟩
    · have h := R.2.2 g hg
      have h2 := k.1 s hs
      rw [Un_app, if_pos e.symm, e] at h2
      rw [← e, share_mem wf.2.2.2.2.1 hs, e, h]
      exact h2
    · rw [borrowed_eq (key := key) R]
      exact k.2
theorem init_keepH {L : Lim} (wf : WfNum L.rule) : KeepH L [] := by
  obtain ⟨n, gs, r⟩ := L
  cases r with
  | held m => exact wf.1
  | pool m sh =>
    obtain ⟨w1, w2, w3, w4, w5⟩ := wf
    refine ⟨fun s hs => Int.le_trans (w4 s hs).1 (w4 s hs).2.1, ?_⟩
    have : (sh.map fun s => max 0 (Un [] s.1 - s.2.1)).sum ≤ (sh.map fun _ => (0 : Int)).sum := sum_le fun s hs => by
      have := (w4 s hs).1
      show max 0 (0 - s.2.1) ≤ 0
      omega
    have z : ∀ l : List Sh, (l.map fun _ => (0 : Int)).sum = 0 := fun l => by
      induction l with
      | nil => rfl
      | cons a l ih =>
        rw [List.map_cons, List.sum_cons, ih]
        rfl
    rw [z] at this
    unfold common
    omega
  | _ => trivial
/-! ### the greatest uses of a pool -/
def dG (so : List Sh) (g : Str) : Int := (shareFor so g).2 - (shareFor so g).1
def oG (so : List Sh) (g : Str) : Int := (shareFor so g).1
theorem fill_sum {so : List Sh} : ∀ (names : List Str) (left : Int), 0 ≤ left → (∀ g ∈ names, 0 ≤ dG so g) → sumUses (filledFrom so left names) = (names.map (oG so)).sum + min left (names.map (dG so)).sum
  | [], left, h, _ => by
    show 0 = 0 + min left 0
    omega
  | g :: r, left, h, p => by
    have d0 := p g (.head _)
    have pr := sum_nn (f := dG so) (l := r) fun x hx => p x (.tail _ hx)
    have ih := fill_sum r (left - min left (dG so g)) (by omega) fun x hx => p x (.tail _ hx)
    have e : sumUses (filledFrom so left (g :: r)) = (oG so g + min left (dG so g)) + sumUses (filledFrom so (left - min left (dG so g)) r) := by
      have ff : filledFrom so left (g :: r) = (g, oG so g + min left (dG so g)) :: filledFrom so (left - min left (dG so g)) r := rfl
      unfold sumUses
      rw [ff, List.map_cons, List.sum_cons]
    rw [e, ih, List.map_cons, List.map_cons, List.sum_cons, List.sum_cons]
    omega
theorem fill_names {so : List Sh} : ∀ (names : List Str) (left : Int), (filledFrom so left names).map (·.1) = names
  | [], _ => rfl
  | g :: r, left => by
    unfold filledFrom
    rw [List.map_cons, fill_names r]
theorem fill_most {so : List Sh} {names : List Str} {left : Int} {u : Str → Int} (l0 : 0 ≤ left) (d0 : ∀ g ∈ names, 0 ≤ dG so g) (h1 : ∀ g ∈ names, u g ≤ (shareFor so g).2) (h2 : (names.map fun g => max 0 (u g - oG so g)).sum ≤ left) : (names.map u).sum ≤ sumUses (filledFrom so left names) := by
  rw [fill_sum names left l0 d0]
  have a1 : (names.map u).sum ≤ (names.map fun g => oG so g + max 0 (u g - oG so g)).sum := sum_le fun g _ => by omega
  rw [sum_plus] at a1
  have a2 : (names.map fun g => max 0 (u g - oG so g)).sum ≤ (names.map (dG so)).sum := sum_le fun g hg => by
    have q1 := h1 g hg
    have q2 := d0 g hg
    unfold dG oG at *
    omega
  omega
theorem choice_mem : ∀ (names : List Str) (acc : List (List Str)) (r l : List Str), r ∈ acc → l.Sublist names → r ++ l ∈ names.foldl (fun found g => found ++ found.map fun r => r ++ [g]) acc
  | [], acc, r, l, hr, s => by
    rw [List.sublist_nil.mp s, List.append_nil]
    exact hr
  | g :: names, acc, r, l, hr, s => by
    rw [List.foldl_cons]
    cases s with
    | cons _ s => exact choice_mem names _ r l (List.mem_append_left _ hr) s
    | cons_cons _ s =>
      rename_i l'
      have := choice_mem names (acc ++ acc.map fun r => r ++ [g]) (r ++ [g]) l' (List.mem_append_right _ (List.mem_map.mpr ⟨r, hr, rfl⟩)) s
      rw [List.append_assoc] at this
      exact this
theorem fold_ge {α : Type} (v : α → Int) : ∀ (l : List α) (b : Int), b ≤ l.foldl (fun best ch => if best < v ch then v ch else best) b ∧ ∀ x ∈ l, v x ≤ l.foldl (fun best ch => if best < v ch then v ch else best) b
  | [], b => ⟨Int.le_refl _, fun x hx => nomatch hx⟩
  | a :: l, b => by
    rw [List.foldl_cons]
    obtain ⟨h1, h2⟩ := fold_ge v l (if b < v a then v a else b)
    refine ⟨?_, fun x hx => ?_⟩
    · refine Int.le_trans ?_ h1
      split <;> omega
    · rcases List.mem_cons.mp hx with z | z
      · refine Int.le_trans ?_ h1
        rw [z]
        split <;> omega
      · exact h2 x z
theorem fold_le {α : Type} (v : α → Int) : ∀ (l : List α) (b m : Int), b ≤ m → (∀ x ∈ l, v x ≤ m) → l.foldl (fun best ch => if best < v ch then v ch else best) b ≤ m
  | [], b, m, h, _ => h
  | a :: l, b, m, h, p => by
    rw [List.foldl_cons]
    refine fold_le v l _ m ?_ fun x hx => p x (.tail _ hx)
    have := p a (.head _)
    split <;> omega
theorem mostB_ge {sh so : List Sh} {mo : Int} {ch : List Str} (s : ch.Sublist (sh.map (·.1))) : borrowsOf sh (filled mo so ch) ≤ mostBorrowed sh mo so :=
  (fold_ge (fun ch => borrowsOf sh (filled mo so ch)) (allChoices (sh.map fun s : Sh => s.1)) 0).2 ch (by
    have := choice_mem (sh.map fun s : Sh => s.1) [[]] [] ch (.head _) s
    exact this)
/-! ### idle, of what is held -/
theorem one_borrows : ∀ (l : List (Int × Int)), (∀ x ∈ l, 0 ≤ x.1 ∧ 0 ≤ x.2) → (l.map fun x => max 0 (x.1 - x.2)).sum ≤ 0 ∨ ∃ x ∈ l, (l.map fun x => max 0 (x.1 - x.2)).sum ≤ (l.map (·.1)).sum - x.2
  | [], _ => .inl (Int.le_refl _)
  | a :: l, p => by
    have pa := p a (.head _)
    have pl : (l.map fun x => max 0 (x.1 - x.2)).sum ≤ (l.map (·.1)).sum := sum_le fun x hx => by
      have := p x (.tail _ hx)
      omega
    rw [List.map_cons, List.map_cons, List.sum_cons, List.sum_cons]
    by_cases q : a.1 ≤ a.2
    · rcases one_borrows l fun x hx => p x (.tail _ hx) with z | ⟨x, hx, z⟩
      · exact .inl (by omega)
      · exact .inr ⟨x, .tail _ hx, by omega⟩
    · exact .inr ⟨a, .head _, by omega⟩
theorem free_none {L O : Lim} (wl : WfL L) (wo : WfL O) (h : (freeG L O).isSome = false) : (∀ g, looksB L g = true → looksB O g = true) ∧ (groupsNamed L = [] → ∀ g, looksB O g = true) := by
  have h : ∀ g ∈ freeNames L, looksB O g = true := fun g hg => by
    unfold freeG at h
    rw [Option.isSome_eq_false_iff, Option.isNone_iff_eq_none, List.find?_eq_none] at h
    have := h g hg
    cases q : looksB O g with
    | true => rfl
    | false =>
      rw [q] at this
      exact absurd rfl this
  have all : groupsNamed L = [] → ∀ g, looksB O g = true := fun e g => by
    unfold freeNames at h
    rw [e] at h
    have h : ∀ g ∈ nine, looksB O g = true := h
    obtain ⟨n, gs, r⟩ := O
    have key : ∀ names : List Str, names.length ≤ 8 → (∀ g ∈ nine, g ∈ names) → False := fun names l8 s => by
      have h1 := sum_sub (f := fun _ => 1) (l := nine) (m := names) (by decide) s (fun _ _ => by decide)
      have h2 : ∀ l : List Str, (l.map fun _ => (1 : Int)).sum = l.length := fun l => by
        induction l with
        | nil => rfl
        | cons a l ih =>
          rw [List.map_cons, List.sum_cons, ih, List.length_cons]
          omega
      rw [h2, h2] at h1
      have h3 : nine.length = 9 := rfl
      omega
    have flat : (∀ g', looksB ⟨n, gs, r⟩ g' = (gs.isEmpty || gs.any fun x => decide (x = g'))) → looksB ⟨n, gs, r⟩ g = true := fun e => by
      rw [e]
      cases gs with
      | nil => rfl
      | cons a gs =>
        refine (key (a :: gs) wo.sm.g fun g' hg' => ?_).elim
        have := h g' hg'
        rw [e] at this
        have this : ((a :: gs).any fun x => decide (x = g')) = true := this
        obtain ⟨x, hx, e⟩ := List.any_eq_true.mp this
        rw [← of_decide_eq_true e]
        exact hx
    cases r with
    | pool m sh => exact (key (sh.map (·.1)) (by rw [List.length_map]; exact wo.sm.s m sh rfl) fun g' hg' => looks_pool.mp (h g' hg')).elim
    | _ => exact flat fun _ => rfl
  refine ⟨fun g hg => ?_, all⟩
  by_cases e : groupsNamed L = []
  · exact all e g
  · refine h g ?_
    unfold freeNames
    rw [if_neg (by rw [List.isEmpty_iff]; exact e)]
    obtain ⟨n, gs, r⟩ := L
    have flat : groupsNamed ⟨n, gs, r⟩ = gs → looksB ⟨n, gs, r⟩ g = (gs.isEmpty || gs.any fun x => decide (x = g)) → g ∈ groupsNamed ⟨n, gs, r⟩ := fun e1 e2 => by
      rw [e1] at e ⊢
      rw [e2, Bool.or_eq_true, List.isEmpty_iff] at hg
      rcases hg with z | z
      · exact absurd z e
      · obtain ⟨x, hx, e⟩ := List.any_eq_true.mp z
        rw [← of_decide_eq_true e]
        exact hx
    cases r with
    | pool m sh => exact looks_pool.mp hg
    | _ => exact flat rfl rfl
theorem idleH {L O : Lim} {cur : Cur} (wl : WfL L) (wo : WfL O) (ndg : L.groups.Nodup) (fr : (freeG L O).isSome = false) (i : withinB L O = true) (p : Cp cur) (k : KeepH O cur) : KeepH L cur := by
  obtain ⟨lk, all⟩ := free_none wl wo fr
  obtain ⟨n, gs, r⟩ := L
  obtain ⟨n', gs', o⟩ := O
  have poolO : ∀ {mo : Int} {so : List Sh}, WfNum (.pool mo so) → KeepH ⟨n', gs', .pool mo so⟩ cur → (∀ g ∈ so.map (·.1), Un cur g ≤ (shareFor so g).2 ∧ 0 ≤ dG so g ∧ max 0 (Un cur g - oG so g) ≤ common mo so) ∧ ∀ names : List Str, names.Nodup → (∀ g ∈ names, g ∈ so.map (·.1)) → (names.map (Un cur)).sum ≤ sumUses (filled mo so names) := by
    intro mo so wf k
    obtain ⟨w1, w2, w3, w4, w5, _⟩ := wf
    obtain ⟨k1, k2⟩ := k
    have ks : (sh : List Str) → sh = so.map (·.1) → (sh.map fun g => max 0 (Un cur g - oG so g)).sum ≤ common mo so := by
      rintro _ rfl
      refine Int.le_trans ?_ k2
      rw [List.map_map]
      refine sum_le fun s hs => ?_
      show max 0 (Un cur s.1 - (shareFor so s.1).1) ≤ _
      rw [share_mem w5 hs]
      exact Int.le_refl _
    have k3 := ks _ rfl
    have a : ∀ g ∈ so.map (·.1), Un cur g ≤ (shareFor so g).2 ∧ 0 ≤ dG so g := fun g hg => by
      obtain ⟨s, hs, rfl⟩ := List.mem_map.mp hg
      unfold dG
      rw [share_mem w5 hs]
      have := w4 s hs
      exact ⟨k1 s hs, by omega⟩
    refine ⟨fun g hg => ⟨(a g hg).1, (a g hg).2, Int.le_trans (sum_mem (f := fun g => max 0 (Un cur g - oG so g)) (fun x _ => Int.le_max_left ..) hg) k3⟩, fun names nd sub => ?_⟩
    refine fill_most (by unfold common; omega) (fun g hg => (a g (sub g hg)).2) (fun g hg => (a g (sub g hg)).1) ?_
    exact Int.le_trans (sum_sub nd sub fun x _ => Int.le_max_left ..) k3
  cases r with
  | held ml =>
    cases o with
    | held mo =>
      have i : mo ≤ ml := of_decide_eq_true i
      have k : W (wL (looksB ⟨n', gs', .held mo⟩)) cur ≤ mo := k
      show W (wL (looksB ⟨n, gs, .held ml⟩)) cur ≤ ml
      refine Int.le_trans (W_le fun x hx => ?_) (Int.le_trans k i)
      have := p x hx
      unfold wL
      by_cases q : looksB ⟨n, gs, .held ml⟩ x.2.1 = true
      · rw [if_pos q, if_pos (lk _ q)]
        exact Int.le_refl _
      · rw [if_neg q]
        split <;> omega
    | pool mo so =>
      have i : sumUses (filled mo so gs) ≤ ml := of_decide_eq_true i
      obtain ⟨_, h2⟩ := poolO wo.num k
      have ne : gs ≠ [] := fun e => by
        have h1 := all e "g0"
        have ha : ∀ g, g ∈ so.map (·.1) := fun g => looks_pool.mp (all e g)
        have l8 := wo.sm.s mo so rfl
        have h1 := sum_sub (f := fun _ => 1) (l := nine) (m := so.map (·.1)) (by decide) (fun g _ => ha g) (fun _ _ => by decide)
        have h2 : ∀ l : List Str, (l.map fun _ => (1 : Int)).sum = l.length := fun l => by
          induction l with
          | nil => rfl
          | cons a l ih =>
            rw [List.map_cons, List.sum_cons, ih, List.length_cons]
            omega
        rw [h2, h2, List.length_map] at h1
        have h3 : nine.length = 9 := rfl
        omega
      have lkg : ∀ g, looksB ⟨n, gs, .held ml⟩ g = true ↔ g ∈ gs := fun g => by
        show (gs.isEmpty || gs.any fun x => decide (x = g)) = true ↔ _
        rw [Bool.or_eq_true, List.isEmpty_iff, List.any_eq_true]
        constructor
        · rintro (z | ⟨x, hx, e⟩)
          · exact absurd z ne
          · rw [← of_decide_eq_true e]
            exact hx
        · exact fun hg => .inr ⟨g, hg, decide_eq_true rfl⟩
      have h3 := h2 gs ndg fun g hg => looks_pool.mp (lk g ((lkg g).mpr hg))
      rw [sumU ndg] at h3
      show W (wL (looksB ⟨n, gs, .held ml⟩)) cur ≤ ml
      refine Int.le_trans (W_le fun x hx => ?_) (Int.le_trans h3 i)
      unfold wL wN
      by_cases q : looksB ⟨n, gs, .held ml⟩ x.2.1 = true
      · rw [if_pos q, if_pos ((lkg _).mp q)]
        exact Int.le_refl _
      · rw [if_neg q, if_neg fun z => q ((lkg _).mpr z)]
        exact Int.le_refl _
    | _ => cases i
  | pool ml sh =>
    obtain ⟨w1, w2, w3, w4, w5, _⟩ := wl.num
    have un0 := Un_pos p
    cases o with
    | held mo =>
      have i : (sh.all fun s => decide (mo ≤ mostUsed ml sh s.1)) = true := i
      rw [List.all_eq_true] at i
      have k : W (wL (looksB ⟨n', gs', .held mo⟩)) cur ≤ mo := k
      have tl : ((sh.map (·.1)).map (Un cur)).sum ≤ mo := by
        rw [sumU w5]
        refine Int.le_trans (W_le fun x hx => ?_) k
        have := p x hx
        unfold wL wN
        by_cases q : x.2.1 ∈ sh.map (·.1)
        · rw [if_pos q, if_pos (lk _ (looks_pool.mpr q))]
          exact Int.le_refl _
        · rw [if_neg q]
          split <;> omega
      have mu : ∀ s ∈ sh, mo ≤ s.2.2 ∧ mo ≤ s.2.1 + common ml sh := fun s hs => by
        have h := of_decide_eq_true (i s hs)
        unfold mostUsed at h
        rw [share_mem w5 hs] at h
        omega
      refine ⟨fun s hs => ?_, ?_⟩
      · have := sum_mem (f := Un cur) (l := sh.map (·.1)) (fun g _ => un0 g) (List.mem_map.mpr ⟨s, hs, rfl⟩)
        have := (mu s hs).1
        show Un cur s.1 ≤ s.2.2
        omega
      · have ob := one_borrows (sh.map fun s => (Un cur s.1, s.2.1)) fun x hx => by
          obtain ⟨s, hs, rfl⟩ := List.mem_map.mp hx
          exact ⟨un0 _, (w4 s hs).1⟩
        rw [List.map_map, List.map_map] at ob
        rw [List.map_map] at tl
        have tl : (sh.map ((fun x => x.1) ∘ fun s : Sh => (Un cur s.1, s.2.1))).sum ≤ mo := tl
        show (sh.map ((fun x => max 0 (x.1 - x.2)) ∘ fun s : Sh => (Un cur s.1, s.2.1))).sum ≤ common ml sh
        rcases ob with z | ⟨x, hx, z⟩
        · unfold common
          omega
        · obtain ⟨s, hs, rfl⟩ := List.mem_map.mp hx
          have := (mu s hs).2
          have z : _ ≤ _ - s.2.1 := z
          omega
    | pool mo so =>
      have i : ((sh.all fun s => decide (mostUsed mo so s.1 ≤ (shareFor sh s.1).2)) && decide (mostBorrowed sh mo so ≤ common ml sh)) = true := i
      rw [Bool.and_eq_true, List.all_eq_true, decide_eq_true_iff] at i
      obtain ⟨h1, h2⟩ := poolO wo.num k
      have sub : ∀ g ∈ sh.map (·.1), g ∈ so.map (·.1) := fun g hg => looks_pool.mp (lk g (looks_pool.mpr hg))
      refine ⟨fun s hs => ?_, ?_⟩
      · have hm := of_decide_eq_true (i.1 s hs)
        obtain ⟨q1, q2, q3⟩ := h1 s.1 (sub _ (List.mem_map.mpr ⟨s, hs, rfl⟩))
        rw [share_mem w5 hs] at hm
        unfold mostUsed at hm
        unfold oG at q3
        omega
      · refine Int.le_trans ?_ i.2
        have cs : ((sh.map (·.1)).filter fun g => decide ((shareFor sh g).1 < Un cur g)).Sublist (sh.map (·.1)) := List.filter_sublist
        refine Int.le_trans ?_ (mostB_ge cs)
        generalize hC : ((sh.map (·.1)).filter fun g => decide ((shareFor sh g).1 < Un cur g)) = C at cs ⊢
        have h3 := h2 C (w5.sublist cs) fun g hg => sub g (cs.subset hg)
        have e1 : (sh.map fun s => max 0 (Un cur s.1 - s.2.1)).sum = ((sh.map (·.1)).map fun g => max 0 (Un cur g - oG sh g)).sum := by
          rw [List.map_map]
          congr 1
          refine List.map_congr_left fun s hs => ?_
          show _ = max 0 (Un cur s.1 - (shareFor sh s.1).1)
          rw [share_mem w5 hs]
        have e2 : ∀ l : List Str, (l.map fun g => max 0 (Un cur g - oG sh g)).sum = ((l.filter fun g => decide ((shareFor sh g).1 < Un cur g)).map (Un cur)).sum - ((l.filter fun g => decide ((shareFor sh g).1 < Un cur g)).map (oG sh)).sum := fun l => by
          induction l with
          | nil => rfl
          | cons a l ih =>
            rw [List.map_cons, List.sum_cons, ih, List.filter_cons]
            by_cases q : (shareFor sh a).1 < Un cur a
            · rw [if_pos (decide_eq_true q), List.map_cons, List.map_cons, List.sum_cons, List.sum_cons]
              unfold oG
              omega
            · rw [if_neg (by rw [decide_eq_true_iff]; exact q)]
              unfold oG
              omega
        rw [e1, e2, hC]
        have e3 : (C.map (oG sh)).sum = ((filled mo so C).map fun u => oG sh u.1).sum := by
          show _ = ((filledFrom so (common mo so) C).map (oG sh ∘ fun u => u.1)).sum
          rw [← List.map_map, fill_names]
        have e4 : sumUses (filled mo so C) ≤ ((filled mo so C).map fun u => oG sh u.1 + max 0 (u.2 - (shareFor sh u.1).1)).sum := sum_le fun u _ => by
          unfold oG
          omega
        rw [sum_plus] at e4
        unfold borrowsOf
        omega
    | _ => cases i
  | _ => trivial
end Lw.Pl
end
section
set_option maxRecDepth 100000
namespace Lw.Pl
open PySem (Str)
/-! ### all limits of a keeper -/
abbrev Log := List (Int × Str × Int)
def hist (L : Lim) (G : Log) : Hist := (G.filter fun x => looksB L x.2.1).map fun x => (x.1, x.2.2)
structure GInv (G : Log) (cur : Cur) (T : Int) : Prop where
  c : ∀ x ∈ G, 1 ≤ x.2.2 ∧ x.2.2 ≤ 1000 ∧ x.1 ≤ T
  s : G.Pairwise fun x y => x.1 ≤ y.1
  p : Cp cur
  nd : (cur.map (·.1)).Nodup
structure SInv (L : Lim) (s : MSt) (G : Log) (cur : Cur) (T : Int) : Prop where
  f : Fits L.rule s
  w : StW L.rule s T
  r : Rep L.rule s (hist L G) T
  h : RepH L s cur
  k : Keep L.rule (hist L G)
  kh : KeepH L cur
theorem hist_mem {L : Lim} {G : Log} {r : Int × Int} (h : r ∈ hist L G) : ∃ g, (r.1, g, r.2) ∈ G := by
  obtain ⟨x, hx, rfl⟩ := List.mem_map.mp h
  exact ⟨x.2.1, (List.mem_filter.mp hx).1⟩
theorem GInv.hg {G : Log} {cur : Cur} {T : Int} (i : GInv G cur T) (L : Lim) : Hg (hist L G) := by
  refine ⟨fun r hr => ?_, ?_⟩
  · obtain ⟨g, hg⟩ := hist_mem hr
    have := i.c _ hg
    exact ⟨this.1, this.2.1⟩
  · unfold hist
    rw [List.pairwise_map]
    exact i.s.filter _
theorem GInv.up {G : Log} {cur : Cur} {T : Int} (i : GInv G cur T) (L : Lim) : Upto (hist L G) T := fun r hr => by
  obtain ⟨g, hg⟩ := hist_mem hr
  exact (i.c _ hg).2.2
theorem hist_sub {I O : Lim} {G : Log} (lk : ∀ g, looksB I g = true → looksB O g = true) : (hist I G).Sublist (hist O G) := by
  unfold hist
  have : (G.filter fun x => looksB I x.2.1) = (G.filter fun x => looksB O x.2.1).filter fun x => looksB I x.2.1 := by
    rw [List.filter_filter]
    refine List.filter_congr fun x _ => ?_
    cases q : looksB I x.2.1 with
    | true => rw [lk _ q] <;> rfl
    | false => rfl
  rw [this]
  exact List.filter_sublist.map _
/-- nothing is let in -/
theorem nothing_flow {L : Lim} {s : MSt} {t c : Int} {g : Str} {G : Log} {cur : Cur} {T : Int} (i : SInv L s G cur T) (gi : GInv G cur T) (fl : isFlow L.rule = true) (wf : WfNum L.rule) (ln : letsNothing L.rule = true) (ht : T ≤ t) (c1 : 1 ≤ c) : ¬ roomC L.rule s t g c = true := by
  intro q
  have k := room_keep (g := g) i.f wf i.r (gi.up L) ht (gi.hg L).p i.k q
  have p : ∀ r ∈ hist L G ++ [(t, c)], 0 ≤ r.2 := fun r hr => by
    rcases List.mem_append.mp hr with z | z
    · exact (gi.hg L).p r z
    · rw [List.mem_singleton.mp z]
      show 0 ≤ c
      omega
  have one : ∀ a b, a < t → t ≤ b → 1 ≤ S (hist L G ++ [(t, c)]) a b := fun a b h1 h2 => by
    rw [S_app, S_one, if_pos ⟨h1, h2⟩]
    have := S_pos (gi.hg L).p a b
    omega
  obtain ⟨n, gs, r⟩ := L
  cases r with
  | window m l =>
    have ln : m = 0 := of_decide_eq_true ln
    have := k t
    have := one (t - l) t (by have := wf.2.2.1; omega) (Int.le_refl _)
    omega
  | span m l =>
    have ln : m = 0 := of_decide_eq_true ln
    have l1 : 1 ≤ l := wf.2.2.1
    have d1 := Int.mul_ediv_add_emod t l
    have d2 := Int.emod_lt_of_pos t (show 0 < l by omega)
    have d3 := Int.emod_nonneg t (show l ≠ 0 by omega)
    rw [Int.mul_comm] at d1
    have := k (t / l)
    have := one (t / l * l - 1) (t / l * l + l - 1) (by omega) (by omega)
    omega
  | bucket s e =>
    have ln : s = 0 := of_decide_eq_true ln
    have e1 : 1 ≤ e := wf.2.2.1
    have h1 := k t t (Int.le_refl _)
    have h2 := one (t - 1) t (by omega) (Int.le_refl _)
    have h3 := Int.mul_le_mul_of_nonneg_left h2 (show 0 ≤ e by omega)
    have h4 : s * e = 0 := by rw [ln, Int.zero_mul]
    omega
  | gap t => cases ln
  | held m => cases fl
  | pool m sh => cases fl
theorem asked_zero {I O : Lim} (h : askedCost I O.rule = 0) {g : Str} (hg : g ∈ askedNames I) : heldCost O.rule g ≤ 0 := by
  have := (fold_ge (fun g => heldCost O.rule g) (askedNames I) 0).2 g hg
  unfold askedCost at h
  omega
theorem nothing_held {I O : Lim} {s : MSt} {t c : Int} {g : Str} {G : Log} {cur : Cur} {T : Int} (i : SInv O s G cur T) (gi : GInv G cur T) (wi : WfL I) (wo : WfL O) (nf : isFlow O.rule = false) (fi : isFlow I.rule = true) (fr : (freeG I O).isSome = false) (h : askedCost I O.rule = 0) (hl : looksB I g = true) (c1 : 1 ≤ c) : ¬ roomC O.rule s t g c = true := by
  intro q
  obtain ⟨lk, all⟩ := free_none wi wo fr
  have hlo := lk g hl
  have k := room_keepH (key := "x") i.f wo.num i.h i.kh hlo q
  have gin : groupsNamed I ≠ [] → g ∈ askedNames I := fun ne => by
    unfold askedNames
    rw [if_neg (by rw [List.isEmpty_iff]; exact ne)]
    obtain ⟨n, gs, r⟩ := I
    have flat : groupsNamed ⟨n, gs, r⟩ = gs → looksB ⟨n, gs, r⟩ g = (gs.isEmpty || gs.any fun x => decide (x = g)) → g ∈ groupsNamed ⟨n, gs, r⟩ := fun e1 e2 => by
      rw [e1] at ne ⊢
      rw [e2, Bool.or_eq_true, List.isEmpty_iff] at hl
      rcases hl with z | z
      · exact absurd z ne
      · obtain ⟨x, hx, e⟩ := List.any_eq_true.mp z
        rw [← of_decide_eq_true e]
        exact hx
    cases r with
    | pool m sh => cases fi
    | _ => exact flat rfl rfl
  obtain ⟨n, gs, r⟩ := O
  cases r with
  | held m =>
    have hm : min 1000 m ≤ 0 := by
      by_cases e : groupsNamed I = []
      · exact asked_zero (O := ⟨n, gs, .held m⟩) (g := "a") h (by
          unfold askedNames
          rw [e]
          exact .head _)
      · exact asked_zero (O := ⟨n, gs, .held m⟩) h (gin e)
    have k : W _ (_ ++ _) ≤ m := k
    rw [W_app, W_cons] at k
    have k : _ + ((if looksB _ g = true then c else 0) + 0) ≤ m := k
    rw [if_pos hlo] at k
    have := W_pos (w := wL (looksB ⟨n, gs, .held m⟩)) fun x hx => wL_pos (gi.p x hx)
    omega
  | pool m sh =>
    have ne : groupsNamed I ≠ [] := fun e => by
      have ha : ∀ g, g ∈ sh.map (·.1) := fun g => looks_pool.mp (all e g)
      have l8 := wo.sm.s m sh rfl
      have h1 := sum_sub (f := fun _ => 1) (l := nine) (m := sh.map (·.1)) (by decide) (fun g _ => ha g) (fun _ _ => by decide)
      have h2 : ∀ l : List Str, (l.map fun _ => (1 : Int)).sum = l.length := fun l => by
        induction l with
        | nil => rfl
        | cons a l ih =>
          rw [List.map_cons, List.sum_cons, ih, List.length_cons]
          omega
      rw [h2, h2, List.length_map] at h1
      have h3 : nine.length = 9 := rfl
      omega
    obtain ⟨w1, w2, w3, w4, w5, _⟩ := wo.num
    have hz : min 1000 (min (shareFor sh g).2 ((shareFor sh g).1 + common m sh)) ≤ 0 := asked_zero (O := ⟨n, gs, .pool m sh⟩) h (gin ne)
    obtain ⟨x, hx, e⟩ := List.mem_map.mp (looks_pool.mp hlo)
    obtain ⟨k1, k2⟩ := k
    have h1 := k1 x hx
    have h2 := sum_mem (f := fun s : Sh => max 0 (Un (cur ++ [(("x" : Str), g, c)]) s.1 - s.2.1)) (l := sh) (fun _ _ => Int.le_max_left ..) hx
    have h2 := Int.le_trans h2 k2
    have h2 : max 0 (Un (cur ++ [(("x" : Str), g, c)]) x.1 - x.2.1) ≤ common m sh := h2
    rw [Un_app, if_pos e.symm] at h1 h2
    rw [← e, share_mem w5 hx] at hz
    have := Un_pos gi.p x.1
    have := w4 x hx
    unfold common at *
    omega
  | _ => cases nf
/-- idle: where the other has room, it has room -/
theorem idle_room {I O : Lim} {si so : MSt} {t c : Int} {g : Str} {G : Log} {cur : Cur} {T : Int} (ii : SInv I si G cur T) (io : SInv O so G cur T) (gi : GInv G cur T) (wi : WfL I) (wo : WfL O) (ndg : I.groups.Nodup) (id : idleB I O = true) (ht : T ≤ t) (c1 : 1 ≤ c) (c2 : c ≤ 1000) (q : roomM O so t g c = true) : roomM I si t g c = true := by
  unfold roomM at q ⊢
  cases hl : looksB I g with
  | false => rfl
  | true =>
  show (false || roomC I.rule si t g c) = true
  rw [Bool.false_or]
  unfold idleB at id
  have fr : (freeG I O).isSome = false := by
    cases z : (freeG I O).isSome with
    | true =>
      rw [z, if_pos rfl] at id
      cases id
    | false => rfl
  obtain ⟨lk, _⟩ := free_none wi wo fr
  rw [lk g hl] at q
  have q : (false || roomC O.rule so t g c) = true := q
  rw [Bool.false_or] at q
  rw [fr, if_neg Bool.false_ne_true] at id
  cases fo : isFlow O.rule with
  | true =>
    rw [fo, if_pos rfl] at id
    cases ln : letsNothing O.rule with
    | true => exact absurd q (nothing_flow io gi fo wo.num ln ht c1)
    | false =>
      have fi : isFlow I.rule = true := by
        obtain ⟨n, gs, r⟩ := I
        unfold idleFlow at id
        rw [ln, if_neg Bool.false_ne_true] at id
        cases r with
        | held m => cases id
        | pool m sh => cases id
        | _ => rfl
      have k := room_keep (g := g) io.f wo.num io.r (gi.up O) ht (gi.hg O).p io.k q
      have hg : Hg (hist O G ++ [(t, c)]) := by
        refine ⟨fun r hr => ?_, List.pairwise_append.mpr ⟨(gi.hg O).s, List.pairwise_singleton .., fun x hx y hy => ?_⟩⟩
        · rcases List.mem_append.mp hr with z | z
          · exact (gi.hg O).c r z
          · rw [List.mem_singleton.mp z]
            exact ⟨c1, c2⟩
        · rw [List.mem_singleton.mp hy]
          exact Int.le_trans (gi.up O x hx) ht
      have ki := keep_idle hg wi.num wo.num fo ln id k
      have ks := Keep.sub wi.num ((hist_sub (G := G) lk).append (List.Sublist.refl [(t, c)])) hg.p ki
      exact keep_room ii.f fi wi.num ii.r (gi.up I) ht (gi.hg I).p ks
  | false =>
    rw [fo, if_neg Bool.false_ne_true] at id
    cases fi : isFlow I.rule with
    | true =>
      rw [fi, if_pos rfl] at id
      exact absurd q (nothing_held io gi wi wo fo fi fr (of_decide_eq_true id) hl c1)
    | false =>
      rw [fi, if_neg Bool.false_ne_true] at id
      have k := room_keepH (key := "x") io.f wo.num io.h io.kh (lk g hl) q
      have p : Cp (cur ++ [(("x" : Str), g, c)]) := fun x hx => by
        rcases List.mem_append.mp hx with z | z
        · exact gi.p x z
        · rw [List.mem_singleton.mp z]
          show 0 ≤ c
          omega
      exact keep_roomH (key := "x") ii.f fi wi.num ii.h hl (idleH wi wo ndg fr id p k)
theorem SInv.let_ {L : Lim} {s : MSt} {G : Log} {cur : Cur} {T t c : Int} {g key : Str} (i : SInv L s G cur T) (gi : GInv G cur T) (wf : WfNum L.rule) (ht : T ≤ t) (c1 : 1 ≤ c) (q : roomM L s t g c = true) : SInv L (letM L s t g c key) (G ++ [(t, g, c)]) (cur ++ [(key, g, c)]) t := by
  unfold roomM at q
  cases hl : looksB L g with
  | true =>
    rw [hl] at q
    have q : (false || roomC L.rule s t g c) = true := q
    rw [Bool.false_or] at q
    have eh : hist L (G ++ [(t, g, c)]) = hist L G ++ [(t, c)] := by
      unfold hist
      rw [List.filter_append, List.map_append, List.filter_cons, if_pos (show looksB L (t, g, c).2.1 = true from hl)]
      rfl
    have el : letM L s t g c key = letC L.rule s t g c key := by
      unfold letM
      rw [if_pos hl]
    obtain ⟨r1, r2⟩ := let_rep (g := g) (k := key) (c := c) i.f wf i.w i.r (gi.up L) ht (gi.hg L).p (by omega)
    refine ⟨i.f.letM _ _ _ _, ?_, ?_, letH i.f i.h, ?_, room_keepH i.f wf i.h i.kh hl q⟩
    · rw [el]
      exact r2
    · rw [el, eh]
      exact r1
    · rw [eh]
      exact room_keep (g := g) i.f wf i.r (gi.up L) ht (gi.hg L).p i.k q
  | false =>
    have nl : ¬ looksB L g = true := by
      rw [hl]
      exact Bool.false_ne_true
    have eh : hist L (G ++ [(t, g, c)]) = hist L G := by
      unfold hist
      rw [List.filter_append, List.filter_cons, if_neg (show ¬ looksB L (t, g, c).2.1 = true from nl)]
      exact congrArg _ (List.append_nil _)
    have el : letM L s t g c key = s := by
      unfold letM
      rw [if_neg nl]
    refine ⟨i.f.letM _ _ _ _, ?_, ?_, letH i.f i.h, ?_, skip_keepH nl i.kh⟩
    · rw [el]
      exact i.w.up ht
    · rw [el, eh]
      exact i.r.up ht
    · rw [eh]
      exact i.k
theorem SInv.rel {L : Lim} {s : MSt} {G : Log} {cur : Cur} {T : Int} {key : Str} (i : SInv L s G cur T) (gi : GInv G cur T) : SInv L (relM s key) G (cur.filter (kn key)) T := by
  have h := relH (k := key) i.f gi.nd i.h
  have kh := rel_keepH (q := kn key) gi.p i.kh
  have fl : ∀ r s, Fits r s → isFlow r = true → relM s key = s := fun r s f z => by
    cases r <;> cases s <;> first | exact f.elim | rfl | cases z
  have nf : ∀ r s' h T, isFlow r = false → Fits r s' → StW r s' T ∧ Rep r s' h T := fun r s' h T z f => by
    cases r <;> cases s' <;> first | exact f.elim | exact ⟨trivial, trivial⟩ | cases z
  cases z : isFlow L.rule with
  | true =>
    have e := fl L.rule s i.f z
    rw [e] at h ⊢
    exact ⟨i.f, i.w, i.r, h, i.k, kh⟩
  | false =>
    have f2 := i.f.relM key
    obtain ⟨w, r⟩ := nf L.rule (relM s key) (hist L G) T z f2
    exact ⟨f2, w, r, h, i.k, kh⟩
theorem SInv.up {L : Lim} {s : MSt} {G : Log} {cur : Cur} {T T' : Int} (i : SInv L s G cur T) (h : T ≤ T') : SInv L s G cur T' := ⟨i.f, i.w.up h, i.r.up h, i.h, i.k, i.kh⟩
theorem GInv.later {G : Log} {cur : Cur} {T T' : Int} (i : GInv G cur T) (h : T ≤ T') : GInv G cur T' := ⟨fun x hx => ⟨(i.c x hx).1, (i.c x hx).2.1, Int.le_trans (i.c x hx).2.2 h⟩, i.s, i.p, i.nd⟩
theorem GInv.let_ {G : Log} {cur : Cur} {T t c : Int} {g key : Str} (i : GInv G cur T) (ht : T ≤ t) (c1 : 1 ≤ c) (c2 : c ≤ 1000) (nk : ∀ x ∈ cur, x.1 ≠ key) : GInv (G ++ [(t, g, c)]) (cur ++ [(key, g, c)]) t := by
  refine ⟨fun x hx => ?_, List.pairwise_append.mpr ⟨i.s, List.pairwise_singleton .., fun x hx y hy => ?_⟩, fun x hx => ?_, ?_⟩
  · rcases List.mem_append.mp hx with z | z
    · exact ⟨(i.c x z).1, (i.c x z).2.1, Int.le_trans (i.c x z).2.2 ht⟩
    · rw [List.mem_singleton.mp z]
      exact ⟨c1, c2, Int.le_refl _⟩
  · rw [List.mem_singleton.mp hy]
    exact Int.le_trans (i.c x hx).2.2 ht
  · rcases List.mem_append.mp hx with z | z
    · exact i.p x z
    · rw [List.mem_singleton.mp z]
      show 0 ≤ c
      omega
  · rw [List.map_append, List.nodup_append]
    refine ⟨i.nd, List.nodup_cons.mpr ⟨List.not_mem_nil, .nil⟩, fun a ha b hb => ?_⟩
    obtain ⟨x, hx, rfl⟩ := List.mem_map.mp ha
    rw [List.mem_singleton.mp hb]
    exact nk x hx
theorem GInv.rel {G : Log} {cur : Cur} {T : Int} (i : GInv G cur T) (q : Ent → Bool) : GInv G (cur.filter q) T := ⟨i.c, i.s, fun x hx => i.p x (List.mem_filter.mp hx).1, i.nd.sublist (List.filter_sublist.map _)⟩
theorem SInv.init {L : Lim} (wf : WfNum L.rule) : SInv L (initM L.rule) [] [] 0 := by
  obtain ⟨h1, h2, h3⟩ := init_rep L.rule wf 0 (Int.le_refl 0)
  exact ⟨Fits.init _, h2, h1, initH L, h3, init_keepH wf⟩
/-- and the earliest moments -/
theorem idle_early {I O : Lim} {si so : MSt} {t c e : Int} {g : Str} {G : Log} {cur : Cur} {T : Int} (ii : SInv I si G cur T) (io : SInv O so G cur T) (gi : GInv G cur T) (wi : WfL I) (wo : WfL O) (ndg : I.groups.Nodup) (id : idleB I O = true) (ht : T ≤ t) (c1 : 1 ≤ c) (c2 : c ≤ 1000) (q : earlyM O so t g c = some e) : ∃ e', earlyM I si t g c = some e' ∧ e' ≤ e := by
  obtain ⟨te, r⟩ := early_room io.f wo.num io.w ht q
  exact room_early ii.f wi.num ii.w ht te (idle_room ii io gi wi wo ndg id (Int.le_trans ht te) c1 c2 r)
end Lw.Pl
end
section
set_option maxRecDepth 100000
namespace Lw.Pl
open PySem (Str)
/-! ### two keepers -/
theorem nd_inj {α β : Type} {f : α → β} : ∀ {l : List α}, (l.map f).Nodup → ∀ {x y : α}, x ∈ l → y ∈ l → f x = f y → x = y
  | a :: l, nd, x, y, hx, hy, e => by
    rw [List.map_cons, List.nodup_cons] at nd
    rcases List.mem_cons.mp hx with z | z
    · rcases List.mem_cons.mp hy with w | w
      · rw [z, w]
      · exact absurd (List.mem_map.mpr ⟨y, w, by rw [← e, z]⟩) nd.1
    · rcases List.mem_cons.mp hy with w | w
      · exact absurd (List.mem_map.mpr ⟨x, z, by rw [e, w]⟩) nd.1
      · exact nd_inj nd.2 z w e
def nn (nm : Str) (y : Str) : Bool := !decide (y = nm)
theorem nn_t {nm y : Str} : nn nm y = true ↔ y ≠ nm := by
  unfold nn
  rw [Bool.not_eq_true', decide_eq_false_iff_not]
structure Pair (I O : Lim) (S1 S2 : KSt) (G : Log) (cur : Cur) (T : Int) : Prop where
  nd : (S1.ms.map fun x => x.1.name).Nodup
  mi : ∃ s, (I, s) ∈ S1.ms
  mo : ∃ s, (O, s) ∈ S1.ms
  ne : O.name ≠ I.name
  id : idleB I O = true
  wf : ∀ x ∈ S1.ms, WfL x.1
  ndg : I.groups.Nodup
  ms : S2.ms = S1.ms.filter fun x => nn I.name x.1.name
  mom : S2.mom = S1.mom
  momT : ∀ n, S1.mom = some n → n ≤ T
  asked : S2.asked = S1.asked.map fun x => (x.1, x.2.filter (nn I.name))
  emp : ∀ x ∈ S1.asked, x.2.isEmpty = (x.2.filter (nn I.name)).isEmpty
  rel : S2.rel = S1.rel
  inv : ∀ x ∈ S1.ms, SInv x.1 x.2 G cur T
  gi : GInv G cur T
  cur : ∀ x ∈ cur, x.1 ∈ S1.asked.map (·.1)
theorem mem_some {α : Type} {l : List α} {f : α → Option Int} {m : Int} : m ∈ (l.map f).filterMap id ↔ ∃ x ∈ l, f x = some m := by
  rw [List.mem_filterMap]
  constructor
  · rintro ⟨o, ho, e⟩
    obtain ⟨x, hx, rfl⟩ := List.mem_map.mp ho
    exact ⟨x, hx, e⟩
  · rintro ⟨x, hx, e⟩
    exact ⟨f x, List.mem_map.mpr ⟨x, hx, rfl⟩, e⟩
theorem any_none {α : Type} {l : List α} {f : α → Option Int} : (l.map f).any Option.isNone = true ↔ ∃ x ∈ l, f x = none := by
  rw [List.any_eq_true]
  constructor
  · rintro ⟨o, ho, e⟩
    obtain ⟨x, hx, rfl⟩ := List.mem_map.mp ho
    exact ⟨x, hx, Option.isNone_iff_eq_none.mp e⟩
  · rintro ⟨x, hx, e⟩
    exact ⟨f x, List.mem_map.mpr ⟨x, hx, rfl⟩, by rw [e]; rfl⟩
theorem early_eq {α : Type} {l : List α} {f : α → Option Int} {q : α → Bool} (h : ∀ x ∈ l, q x = false → ∃ y ∈ l, q y = true ∧ ∀ e, f y = some e → ∃ e', f x = some e' ∧ e' ≤ e) : earlyAll (l.map f) = earlyAll ((l.filter q).map f) := by
  unfold earlyAll
  by_cases n1 : ((l.filter q).map f).any Option.isNone = true
  · obtain ⟨x, hx, e⟩ := any_none.mp n1
    rw [if_pos n1, if_pos (any_none.mpr ⟨x, (List.mem_filter.mp hx).1, e⟩)]
  · have sm : ∀ y ∈ l, q y = true → ∃ m, f y = some m := fun y hy hq => by
      cases z : f y with
      | none => exact absurd (any_none.mpr ⟨y, List.mem_filter.mpr ⟨hy, hq⟩, z⟩) n1
      | some m => exact ⟨m, rfl⟩
    have n2 : ¬ (l.map f).any Option.isNone = true := fun z => by
      obtain ⟨x, hx, e⟩ := any_none.mp z
      cases hq : q x with
      | true =>
        obtain ⟨m, hm⟩ := sm x hx hq
        rw [e] at hm
        cases hm
      | false =>
        obtain ⟨y, hy, hq2, k⟩ := h x hx hq
        obtain ⟨m, hm⟩ := sm y hy hq2
        obtain ⟨e', he, _⟩ := k m hm
        rw [e] at he
        cases he
    rw [if_neg n1, if_neg n2]
    cases hm : (((l.filter q).map f).filterMap id).max? with
    | none =>
      have hnil := List.max?_eq_none_iff.mp hm
      have none_in : ∀ x ∈ l, False := fun x hx => by
        have : ∃ y ∈ l, q y = true := by
          cases hq : q x with
          | true => exact ⟨x, hx, hq⟩
          | false =>
            obtain ⟨y, hy, hq2, _⟩ := h x hx hq
            exact ⟨y, hy, hq2⟩
        obtain ⟨y, hy, hq2⟩ := this
        obtain ⟨m, hm⟩ := sm y hy hq2
        have : m ∈ ((l.filter q).map f).filterMap id := mem_some.mpr ⟨y, List.mem_filter.mpr ⟨hy, hq2⟩, hm⟩
        rw [hnil] at this
        cases this
      cases l with
      | nil => rfl
      | cons a l => exact (none_in a (.head _)).elim
    | some m =>
      obtain ⟨h1, h2⟩ := List.max?_eq_some_iff.mp hm
      refine List.max?_eq_some_iff.mpr ⟨?_, fun b hb => ?_⟩
      · obtain ⟨x, hx, e⟩ := mem_some.mp h1
        exact mem_some.mpr ⟨x, (List.mem_filter.mp hx).1, e⟩
      · obtain ⟨x, hx, e⟩ := mem_some.mp hb
        cases hq : q x with
        | true => exact h2 b (mem_some.mpr ⟨x, List.mem_filter.mpr ⟨hx, hq⟩, e⟩)
        | false =>
          obtain ⟨y, hy, hq2, k⟩ := h x hx hq
          obtain ⟨m2, hm2⟩ := sm y hy hq2
          obtain ⟨e', he, le⟩ := k m2 hm2
          rw [e] at he
          cases he
          exact Int.le_trans le (h2 m2 (mem_some.mpr ⟨y, List.mem_filter.mpr ⟨hy, hq2⟩, hm2⟩))
section
variable {I O : Lim} {S1 S2 : KSt} {G : Log} {cur : Cur} {T t c : Int} {g key : Str}
theorem Pair.isI (p : Pair I O S1 S2 G cur T) {x : Lim × MSt} (hx : x ∈ S1.ms) (e : x.1.name = I.name) : x.1 = I := by
  obtain ⟨s, hs⟩ := p.mi
  have := nd_inj p.nd hx hs e
  rw [this]
theorem lackK_mem {S : KSt} {n : Str} : n ∈ lackK S t g c ↔ ∃ x ∈ S.ms, roomM x.1 x.2 t g c = false ∧ x.1.name = n := by
  unfold lackK
  rw [List.mem_map]
  constructor
  · rintro ⟨x, hx, e⟩
    obtain ⟨h1, h2⟩ := List.mem_filter.mp hx
    refine ⟨x, h1, ?_, e⟩
    cases z : roomM x.1 x.2 t g c with
    | false => rfl
    | true =>
      rw [z] at h2
      cases h2
  · rintro ⟨x, hx, z, e⟩
    exact ⟨x, List.mem_filter.mpr ⟨hx, by rw [z]; rfl⟩, e⟩
theorem Pair.lack (p : Pair I O S1 S2 G cur T) : (lackK S1 t g c).filter (nn I.name) = lackK S2 t g c := by
  unfold lackK
  rw [p.ms, List.filter_map, List.filter_filter, List.filter_filter]
  congr 1
  exact List.filter_congr fun x _ => Bool.and_comm _ _
theorem Pair.named (p : Pair I O S1 S2 G cur T) (ht : T ≤ t) (c1 : 1 ≤ c) (c2 : c ≤ 1000) (h : I.name ∈ lackK S1 t g c) : O.name ∈ lackK S1 t g c := by
  obtain ⟨x, hx, r, e⟩ := lackK_mem.mp h
  obtain ⟨s, hs⟩ := p.mo
  have ei := p.isI hx e
  refine lackK_mem.mpr ⟨_, hs, ?_, rfl⟩
  cases z : roomM O s t g c with
  | false => rfl
  | true =>
    have h1 := p.inv x hx
    have h2 := p.wf x hx
    rw [ei] at h1 h2 r
    have := idle_room h1 (p.inv _ hs) p.gi h2 (p.wf _ hs) p.ndg p.id ht c1 c2 z
    rw [r] at this
    cases this
theorem Pair.empty (p : Pair I O S1 S2 G cur T) (ht : T ≤ t) (c1 : 1 ≤ c) (c2 : c ≤ 1000) : (lackK S1 t g c).isEmpty = ((lackK S1 t g c).filter (nn I.name)).isEmpty := by
  have h := p.named (g := g) ht c1 c2
  generalize lackK S1 t g c = l at h
  cases l with
  | nil => rfl
  | cons a l =>
    show false = _
    rw [Eq.comm, List.isEmpty_eq_false_iff]
    intro z
    rw [List.filter_eq_nil_iff] at z
    have ha := z a (.head _)
    rw [nn_t] at ha
    have ha : a = I.name := Classical.byContradiction ha
    have ho := h (by rw [← ha]; exact .head _)
    exact z _ ho (nn_t.mpr p.ne)
theorem Pair.early (p : Pair I O S1 S2 G cur T) (ht : T ≤ t) (c1 : 1 ≤ c) (c2 : c ≤ 1000) : earlyK S1 t g c = earlyK S2 t g c := by
  unfold earlyK
  rw [p.ms]
  refine early_eq fun x hx e => ?_
  have e : x.1.name = I.name := by
    cases z : decide (x.1.name = I.name) with
    | true => exact of_decide_eq_true z
    | false =>
      have : nn I.name x.1.name = true := by
        unfold nn
        rw [z]
        rfl
      rw [this] at e
      cases e
  obtain ⟨s, hs⟩ := p.mo
  have ei := p.isI hx e
  refine ⟨_, hs, nn_t.mpr p.ne, fun m hm => ?_⟩
  have h1 := p.inv x hx
  have h2 := p.wf x hx
  rw [ei] at h1 h2 ⊢
  exact idle_early h1 (p.inv _ hs) p.gi h2 (p.wf _ hs) p.ndg p.id ht c1 c2 hm
theorem Pair.ask (p : Pair I O S1 S2 G cur T) (ht : T ≤ t) (c1 : 1 ≤ c) (c2 : c ≤ 1000) (nk : ∀ x ∈ S1.asked, x.1 ≠ key) : ∃ G' cur', Pair I O (askK S1 key g c t) (askK S2 key g c t) G' cur' t := by
  have lk := p.lack (t := t) (g := g) (c := c)
  have em := p.empty (g := g) ht c1 c2
  have em2 := em
  rw [lk] at em2
  have as2 : (askK S2 key g c t).asked = (askK S1 key g c t).asked.map fun x => (x.1, x.2.filter (nn I.name)) := by
    show S2.asked ++ [(key, lackK S2 t g c)] = (S1.asked ++ [(key, lackK S1 t g c)]).map _
    rw [List.map_append, p.asked, ← lk]
    rfl
  have emA : ∀ x ∈ (askK S1 key g c t).asked, x.2.isEmpty = (x.2.filter (nn I.name)).isEmpty := fun x hx => by
    rcases List.mem_append.mp hx with z | z
    · exact p.emp x z
    · rw [List.mem_singleton.mp z]
      exact em
  have keys : ∀ y ∈ S1.asked.map (·.1), y ∈ (askK S1 key g c t).asked.map (·.1) := fun y hy => by
    show y ∈ (S1.asked ++ [(key, lackK S1 t g c)]).map _
    rw [List.map_append]
    exact List.mem_append_left _ hy
  have momT : ∀ n, (askK S1 key g c t).mom = some n → n ≤ t := fun n e => by
    cases e
    exact Int.le_refl _
  have nkc : ∀ x ∈ cur, x.1 ≠ key := fun x hx e => by
    obtain ⟨y, hy, e2⟩ := List.mem_map.mp (p.cur x hx)
    exact nk y hy (by rw [e2, e])
  by_cases z : (lackK S1 t g c).isEmpty = true
  · have room : ∀ x ∈ S1.ms, roomM x.1 x.2 t g c = true := fun x hx => by
      cases q : roomM x.1 x.2 t g c with
      | true => rfl
      | false =>
        have := lackK_mem.mpr ⟨x, hx, q, rfl⟩
        rw [List.isEmpty_iff.mp z] at this
        cases this
    have m1 : (askK S1 key g c t).ms = S1.ms.map fun x => (x.1, letM x.1 x.2 t g c key) := if_pos z
    have m2 : (askK S2 key g c t).ms = S2.ms.map fun x => (x.1, letM x.1 x.2 t g c key) := if_pos (by rw [← em2]; exact z)
    obtain ⟨s1, h1⟩ := p.mi
    obtain ⟨s2, h2⟩ := p.mo
    refine ⟨G ++ [(t, g, c)], cur ++ [(key, g, c)], ⟨?_, ⟨letM I s1 t g c key, ?_⟩, ⟨letM O s2 t g c key, ?_⟩, p.ne, p.id, ?_, p.ndg, ?_, rfl, momT, as2, emA, p.rel, ?_, p.gi.let_ ht c1 c2 nkc, ?_⟩⟩
    · rw [m1, List.map_map]
      exact p.nd
    · rw [m1]
      exact List.mem_map.mpr ⟨_, h1, rfl⟩
    · rw [m1]
      exact List.mem_map.mpr ⟨_, h2, rfl⟩
    · rw [m1]
      intro x hx
      obtain ⟨y, hy, rfl⟩ := List.mem_map.mp hx
      exact p.wf y hy
    · rw [m1, m2, p.ms, List.filter_map]
      rfl
    · rw [m1]
      intro x hx
      obtain ⟨y, hy, rfl⟩ := List.mem_map.mp hx
      exact (p.inv y hy).let_ p.gi (p.wf y hy).num ht c1 (room y hy)
    · intro x hx
      rcases List.mem_append.mp hx with y | y
      · exact keys _ (p.cur x y)
      · rw [List.mem_singleton.mp y]
        show key ∈ (S1.asked ++ [(key, lackK S1 t g c)]).map _
        rw [List.map_append]
        exact List.mem_append_right _ (.head _)
  · have m1 : (askK S1 key g c t).ms = S1.ms := if_neg z
    have m2 : (askK S2 key g c t).ms = S2.ms := if_neg (by rw [← em2]; exact z)
    exact ⟨G, cur, ⟨by rw [m1]; exact p.nd, by rw [m1]; exact p.mi, by rw [m1]; exact p.mo, p.ne, p.id, by rw [m1]; exact p.wf, p.ndg, by rw [m1, m2]; exact p.ms, rfl, momT, as2, emA, p.rel, by rw [m1]; exact fun x hx => (p.inv x hx).up ht, p.gi.later ht, fun x hx => keys _ (p.cur x hx)⟩⟩
theorem Pair.holds (p : Pair I O S1 S2 G cur T) : holdsK S1 key = holdsK S2 key := by
  unfold holdsK
  rw [p.asked, List.find?_map, p.rel]
  cases q : S1.asked.find? (fun x => decide (x.1 = key)) with
  | none =>
    have : S1.asked.find? ((fun x : Str × List Str => decide (x.1 = key)) ∘ fun x => (x.1, x.2.filter (nn I.name))) = none := q
    rw [this]
    rfl
  | some x =>
    have : S1.asked.find? ((fun x : Str × List Str => decide (x.1 = key)) ∘ fun x => (x.1, x.2.filter (nn I.name))) = some x := q
    rw [this]
    show (x.2.isEmpty && _) = ((x.2.filter (nn I.name)).isEmpty && _)
    rw [p.emp x (List.mem_of_find?_eq_some q)]
theorem Pair.release (p : Pair I O S1 S2 G cur T) (ht : T ≤ t) : ∃ G' cur', Pair I O (relK S1 key t) (relK S2 key t) G' cur' t := by
  have hh := p.holds (key := key)
  have momT : ∀ n, (relK S1 key t).mom = some n → n ≤ t := fun n e => by
    cases e
    exact Int.le_refl _
  have rl : (relK S2 key t).rel = (relK S1 key t).rel := by
    show (if holdsK S2 key = true then S2.rel ++ [key] else S2.rel) = if holdsK S1 key = true then S1.rel ++ [key] else S1.rel
    rw [hh, p.rel]
  by_cases z : holdsK S1 key = true
  · have m1 : (relK S1 key t).ms = S1.ms.map fun x => (x.1, relM x.2 key) := if_pos z
    have m2 : (relK S2 key t).ms = S2.ms.map fun x => (x.1, relM x.2 key) := if_pos (by rw [← hh]; exact z)
    obtain ⟨s1, h1⟩ := p.mi
    obtain ⟨s2, h2⟩ := p.mo
    refine ⟨G, cur.filter (kn key), ⟨?_, ⟨relM s1 key, ?_⟩, ⟨relM s2 key, ?_⟩, p.ne, p.id, ?_, p.ndg, ?_, rfl, momT, p.asked, p.emp, rl, ?_, (p.gi.rel _).later ht, fun x hx => p.cur x (List.mem_filter.mp hx).1⟩⟩
    · rw [m1, List.map_map]
      exact p.nd
    · rw [m1]
      exact List.mem_map.mpr ⟨_, h1, rfl⟩
    · rw [m1]
      exact List.mem_map.mpr ⟨_, h2, rfl⟩
    · rw [m1]
      intro x hx
      obtain ⟨y, hy, rfl⟩ := List.mem_map.mp hx
      exact p.wf y hy
    · rw [m1, m2, p.ms, List.filter_map]
      rfl
    · rw [m1]
      intro x hx
      obtain ⟨y, hy, rfl⟩ := List.mem_map.mp hx
      exact ((p.inv y hy).rel p.gi).up ht
  · have m1 : (relK S1 key t).ms = S1.ms := if_neg z
    have m2 : (relK S2 key t).ms = S2.ms := if_neg (by rw [← hh]; exact z)
    exact ⟨G, cur, ⟨by rw [m1]; exact p.nd, by rw [m1]; exact p.mi, by rw [m1]; exact p.mo, p.ne, p.id, by rw [m1]; exact p.wf, p.ndg, by rw [m1, m2]; exact p.ms, rfl, momT, p.asked, p.emp, rl, by rw [m1]; exact fun x hx => (p.inv x hx).up ht, p.gi.later ht, p.cur⟩⟩
theorem Pair.init {Ls : List Lim} (nd : (Ls.map Lim.name).Nodup) (hi : I ∈ Ls) (ho : O ∈ Ls) (ne : O.name ≠ I.name) (id : idleB I O = true) (wf : ∀ L ∈ Ls, WfL L) (ndg : I.groups.Nodup) : Pair I O (initK Ls) (initK (Ls.filter fun L => nn I.name L.name)) [] [] 0 := by
  refine ⟨?_, ⟨_, List.mem_map.mpr ⟨I, hi, rfl⟩⟩, ⟨_, List.mem_map.mpr ⟨O, ho, rfl⟩⟩, ne, id, fun x hx => ?_, ndg, ?_, rfl, (fun n e => nomatch e), rfl, (fun x hx => nomatch hx), rfl, fun x hx => ?_, ⟨(fun x hx => nomatch hx), .nil, (fun x hx => nomatch hx), .nil⟩, (fun x hx => nomatch hx)⟩
  · show ((Ls.map fun L => (L, initM L.rule)).map _).Nodup
    rw [List.map_map]
    exact nd
  · obtain ⟨L, hL, rfl⟩ := List.mem_map.mp hx
    exact wf L hL
  · show (Ls.filter _).map _ = (Ls.map _).filter _
    rw [List.filter_map]
    rfl
  · obtain ⟨L, hL, rfl⟩ := List.mem_map.mp hx
    exact SInv.init (wf L hL).num
/-! ### what keepers want -/
theorem KOk.ask {S : KSt} (k : KOk S) (few : S.asked.length < 500) : KOk (askK S key g c t) := by
  have l : (askK S key g c t).asked.length = S.asked.length + 1 := by
    show (S.asked ++ [_]).length = _
    rw [List.length_append]
    rfl
  have ks : (askK S key g c t).asked.map (·.1) = S.asked.map (·.1) ++ [key] := by
    show (S.asked ++ [_]).map _ = _
    rw [List.map_append]
    rfl
  by_cases z : (lackK S t g c).isEmpty = true
  · have m : (askK S key g c t).ms = S.ms.map fun x => (x.1, letM x.1 x.2 t g c key) := if_pos z
    refine ⟨?_, by rw [m, List.length_map]; exact k.one, by rw [m, List.length_map]; exact k.most, by omega⟩
    rw [m, ks]
    intro x hx
    obtain ⟨y, hy, rfl⟩ := List.mem_map.mp hx
    obtain ⟨h1, h2, h3⟩ := k.ms y hy
    exact ⟨h1, h2.letM t g c key, h3.letM h2 t g c key⟩
  · have m : (askK S key g c t).ms = S.ms := if_neg z
    refine ⟨?_, by rw [m]; exact k.one, by rw [m]; exact k.most, by omega⟩
    rw [m, ks]
    intro x hx
    obtain ⟨h1, h2, h3⟩ := k.ms x hx
    exact ⟨h1, h2, h3.more key⟩
theorem KOk.rel {S : KSt} (k : KOk S) : KOk (relK S key t) := by
  by_cases z : holdsK S key = true
  · have m : (relK S key t).ms = S.ms.map fun x => (x.1, relM x.2 key) := if_pos z
    refine ⟨?_, by rw [m, List.length_map]; exact k.one, by rw [m, List.length_map]; exact k.most, k.few⟩
    rw [m]
    intro x hx
    obtain ⟨y, hy, rfl⟩ := List.mem_map.mp hx
    obtain ⟨h1, h2, h3⟩ := k.ms y hy
    exact ⟨h1, h2.relM key, h3.relM key⟩
  · have m : (relK S key t).ms = S.ms := if_neg z
    exact ⟨by rw [m]; exact k.ms, by rw [m]; exact k.one, by rw [m]; exact k.most, k.few⟩
theorem KOk.init {Ls : List Lim} (one : 1 ≤ Ls.length) (most : Ls.length ≤ 8) (wf : ∀ L ∈ Ls, WfL L) : KOk (initK Ls) := by
  refine ⟨fun x hx => ?_, by show 1 ≤ (Ls.map _).length; rw [List.length_map]; exact one, by show (Ls.map _).length ≤ 8; rw [List.length_map]; exact most, Nat.zero_le _⟩
  obtain ⟨L, hL, rfl⟩ := List.mem_map.mp hx
  exact ⟨wf L hL, Fits.init _, StIn.init _ _⟩
end
/-! ### a looser copy -/
def loosen (d : Int) : Rule → Rule
  | .window m l => .window (m + d) l
  | .span m l => .span (m + d) l
  | .bucket m l => .bucket (m + d) l
  | .gap t => .gap (max 1 (t - d))
  | .held m => .held (m + d)
  | .pool m sh => .pool (m + d) sh
theorem fill_borrows {sh : List Sh} (nd : (sh.map (·.1)).Nodup) (p : ∀ s ∈ sh, s.2.1 ≤ s.2.2) : ∀ (ch : List Str) (left : Int), 0 ≤ left → (∀ g ∈ ch, g ∈ sh.map (·.1)) → borrowsOf sh (filledFrom sh left ch) ≤ left
  | [], left, h, _ => h
  | g :: r, left, h, s => by
    obtain ⟨x, hx, e⟩ := List.mem_map.mp (s g (.head _))
    have px := p x hx
    have ih := fill_borrows nd p r (left - min left ((shareFor sh g).2 - (shareFor sh g).1)) (by omega) fun y hy => s y (.tail _ hy)
    have ff : filledFrom sh left (g :: r) = (g, (shareFor sh g).1 + min left ((shareFor sh g).2 - (shareFor sh g).1)) :: filledFrom sh (left - min left ((shareFor sh g).2 - (shareFor sh g).1)) r := rfl
    unfold borrowsOf at ih ⊢
    rw [ff, List.map_cons, List.sum_cons]
    have sf : shareFor sh g = x.2 := by rw [← e, share_mem nd hx]
    rw [sf] at ih ⊢
    show max 0 (x.2.1 + min left (x.2.2 - x.2.1) - x.2.1) + _ ≤ left
    omega
theorem choice_sub {names : List Str} : ∀ (l : List Str) (acc : List (List Str)), (∀ g ∈ l, g ∈ names) → (∀ r ∈ acc, ∀ g ∈ r, g ∈ names) → ∀ r ∈ l.foldl (fun found g => found ++ found.map fun r => r ++ [g]) acc, ∀ g ∈ r, g ∈ names
  | [], acc, _, h => h
  | a :: l, acc, hl, h => by
    rw [List.foldl_cons]
    refine choice_sub l _ (fun g hg => hl g (.tail _ hg)) fun r hr g hg => ?_
    rcases List.mem_append.mp hr with z | z
    · exact h r z g hg
    · obtain ⟨r', hr', rfl⟩ := List.mem_map.mp z
      rcases List.mem_append.mp hg with w | w
      · exact h r' hr' g w
      · rw [List.mem_singleton.mp w]
        exact hl a (.head _)
theorem loose_idle {O : Lim} {nm : Str} {d : Int} (wf : WfL O) (d0 : 0 ≤ d) : idleB ⟨nm, O.groups, loosen d O.rule⟩ O = true := by
  have gn : groupsNamed ⟨nm, O.groups, loosen d O.rule⟩ = groupsNamed O := by
    obtain ⟨n, gs, r⟩ := O
    cases r <;> rfl
  have fr : (freeG ⟨nm, O.groups, loosen d O.rule⟩ O).isSome = false := by
    unfold freeG
    rw [Option.isSome_eq_false_iff, Option.isNone_iff_eq_none, List.find?_eq_none]
    unfold freeNames
    rw [gn]
    intro g hg
    have key : looksB O g = true := by
      obtain ⟨n, gs, r⟩ := O
      have flat : groupsNamed ⟨n, gs, r⟩ = gs → looksB ⟨n, gs, r⟩ g = (gs.isEmpty || gs.any fun x => decide (x = g)) → looksB ⟨n, gs, r⟩ g = true := fun e1 e2 => by
        rw [e1] at hg
        rw [e2]
        cases gs with
        | nil => rfl
        | cons a gs =>
          show ((a :: gs).any fun x => decide (x = g)) = true
          exact List.any_eq_true.mpr ⟨g, hg, decide_eq_true rfl⟩
      cases r with
      | pool m sh =>
        refine looks_pool.mpr ?_
        have hg : g ∈ if (sh.map (·.1)).isEmpty = true then nine else sh.map (·.1) := hg
        cases sh with
        | nil => exact absurd wf.num.2.2.2.2.2.1 (by decide)
        | cons a sh => exact hg
      | _ => exact flat rfl rfl
    rw [key]
    decide
  unfold idleB
  rw [fr, if_neg Bool.false_ne_true]
  obtain ⟨n, gs, r⟩ := O
  have num := wf.num
  have flow : ∀ r, WfNum r → isFlow r = true → idleFlow (loosen d r) r = true := fun r w f => by
    unfold idleFlow
    by_cases ln : letsNothing r = true
    · rw [if_pos ln]
    rw [if_neg ln]
    have mw : ∀ m l, 1 ≤ l → m * roundedUp l l = m := fun m l l1 => by
      rw [ru_one l1, Int.ediv_eq_zero_of_lt (by omega) (by omega)]
      omega
    cases r with
    | window m l =>
      show decide (mostWithin (.window m l) l ≤ m + d) = true
      unfold mostWithin
      rw [if_neg ln]
      show decide (m * roundedUp l l ≤ m + d) = true
      rw [mw m l w.2.2.1]
      exact decide_eq_true (by omega)
    | span m l =>
      have l1 : 1 ≤ l := w.2.2.1
      show decide (m * roundedUp (lastOffset l l + l) l ≤ m + d) = true
      have e : lastOffset l l = 0 := by
        unfold lastOffset
        rw [Nat.gcd_self]
        omega
      rw [e, Int.zero_add, mw m l l1]
      exact decide_eq_true (by omega)
    | bucket m l =>
      show (decide (m ≤ m + d) && decide (l ≤ l)) = true
      rw [decide_eq_true (show m ≤ m + d by omega), decide_eq_true (Int.le_refl l)]
      rfl
    | gap t =>
      have t1 : 1 ≤ t := w.1
      exact decide_eq_true (show max 1 (t - d) ≤ t by omega)
    | held m => cases f
    | pool m sh => cases f
  cases r with
  | held m => exact decide_eq_true (show m ≤ m + d by omega)
  | pool m sh =>
    obtain ⟨w1, w2, w3, w4, w5, _⟩ := num
    show ((sh.all fun s => decide (mostUsed m sh s.1 ≤ (shareFor sh s.1).2)) && decide (mostBorrowed sh m sh ≤ common (m + d) sh)) = true
    rw [Bool.and_eq_true, List.all_eq_true, decide_eq_true_iff]
    have c0 : 0 ≤ common m sh := by
      unfold common
      omega
    refine ⟨fun s hs => decide_eq_true ?_, ?_⟩
    · unfold mostUsed
      omega
    · have cd : common (m + d) sh = common m sh + d := by
        unfold common
        omega
      have : mostBorrowed sh m sh ≤ common m sh := by
        unfold mostBorrowed
        refine fold_le (fun ch => borrowsOf sh (filled m sh ch)) _ 0 _ c0 fun ch hch => ?_
        have := choice_sub (names := sh.map fun s : Sh => s.1) (sh.map fun s : Sh => s.1) [[]] (fun g hg => hg) (fun r hr g hg => by
          rw [List.mem_singleton.mp hr] at hg
          cases hg) ch hch
        exact fill_borrows w5 (fun s hs => (w4 s hs).2.1) ch _ c0 this
      omega
  | window m l => exact flow _ num rfl
  | span m l => exact flow _ num rfl
  | bucket m l => exact flow _ num rfl
  | gap m => exact flow _ num rfl
end Lw.Pl
end
section
set_option maxRecDepth 100000
set_option maxHeartbeats 4000000
namespace Lw
open PySem PySem.Spec PyProof.Rows L2
local macro_rules | `(tactic| walk_at "hp") => `(tactic| first | assumption | exact upd_same | exact (by assumption : Ex _ _) _ _ (by assumption))
local macro_rules | `(tactic| walk_at "lk") => `(tactic| fail "no look-up")
local macro_rules | `(tactic| walk_at "tk") => `(tactic| first | assumption | exact Ex.t (by assumption) (by assumption) | exact Ex.l (by assumption) (by assumption) | exact .inl (.inl (by assumption)))
local macro_rules | `(tactic| walk_at "st") => `(tactic| first
  | with_reducible refine r_seq ?_ | with_reducible refine r_asg ?_ | with_reducible refine r_name ?_
  | ((with_reducible refine' r_var ?k1 ?_); (case k1 => exact rfl))
  | with_reducible refine r_c ?_ | with_reducible refine r_op ?_ | with_reducible refine r_un ?_ | with_reducible refine r_cb ?_ | with_reducible refine r_nil ?_ | with_reducible refine r_cons ?_
  | with_reducible refine r_call ?_ | with_reducible refine r_ret ?_ | with_reducible refine r_drop ?_ | with_reducible refine r_ifs ?_ | with_reducible refine r_ife ?_ | with_reducible refine r_next ?_
  | with_reducible refine r_test ?_ | with_reducible refine r_tB ?_ | with_reducible refine r_bl ?_ | with_reducible refine r_blx ?_ | with_reducible refine r_tnot ?_ | with_reducible refine r_tand ?_ | with_reducible refine r_tor ?_
  | with_reducible refine r_not ?_ | with_reducible refine r_and ?_ | with_reducible refine r_or ?_ | with_reducible refine r_I0 ?_ | with_reducible refine r_U ?_
  | with_reducible refine r_eqS ?_ | with_reducible refine r_eqI ?_ | with_reducible refine r_neS ?_ | with_reducible refine r_neI ?_ | with_reducible refine r_chain ?_
  | ((with_reducible refine' r_gtup ?k1 ?k2 ?_); (case k1 => walk_at "tk"); (case k2 => exact rfl))
  | with_reducible refine r_gcons ?_ | with_reducible refine r_gnil ?_
  | ((with_reducible refine' r_ixT ?k1 ?k2 ?_); (case k1 => walk_at "tk"); (case k2 => exact rfl))
  | ((with_reducible refine' r_ixL ?k1 ?k2 ?_); (case k1 => walk_at "tk"); (case k2 => exact rfl))
  | with_reducible refine r_tup ?_ | with_reducible refine r_lst ?_ | with_reducible refine iteT ?_ | with_reducible refine iteF ?_
  | ((with_reducible refine' r_wipe ?k1 ?_); (case k1 => exact rfl)) | with_reducible refine r_tyes ?_
  | ((with_reducible refine' r_lenT ?k1 ?_); (case k1 => walk_at "tk")) | ((with_reducible refine' r_lenL ?k1 ?_); (case k1 => walk_at "tk"))
  | with_reducible refine r_fld ?_ | with_reducible refine r_sfld ?_ | with_reducible refine r_gfld ?_ | with_reducible refine r_meth ?_
  | ((with_reducible refine' r_fld1 ?k1 ?k2 ?k3 ?k4 ?_); (case k1 => walk_at "hp"); (case k2 => assumption); (case k3 => assumption); (case k4 => walk_at "lk"))
  | ((with_reducible refine' r_sfld1 ?k1 ?k2 ?k3 ?k4 ?_); (case k1 => walk_at "hp"); (case k2 => assumption); (case k3 => assumption); (case k4 => exact Nat.lt_of_le_of_lt (Nat.le_of_ble_eq_true rfl) (by decide : 10 < 1000)))
  | ((with_reducible refine' r_gfld1 ?k1 ?k2 ?k3 ?k4 ?_); (case k1 => walk_at "hp"); (case k2 => assumption); (case k3 => assumption); (case k4 => exact Nat.lt_of_le_of_lt (Nat.le_of_ble_eq_true rfl) (by decide : 10 < 1000)))
  | with_reducible refine r_ks ?_ | with_reducible refine r_kq ?_
  | ((with_reducible refine' r_meth1 ?k1 ?k2 ?_); (case k1 => walk_at "hp"); (case k2 => kernel_rfl))
  | with_reducible refine r_kb ?_ | with_reducible refine r_tru ?_ | with_reducible refine r_bm0 ?_ | with_reducible refine r_bm ?_
  | ((with_reducible refine' r_tyL ?k1 ?_); (case k1 => walk_at "hp"))
  | with_reducible refine r_sdput ?_ | with_reducible refine r_dget ?_ | with_reducible refine r_din ?_ | with_reducible refine r_dnin ?_ | with_reducible refine r_dpop ?_
  | ((with_reducible refine' r_dpop0 ?k1 ?_); (case k1 => walk_at "hp"))
  | ((with_reducible refine' r_strY ?k1 ?_); (case k1 => decide +kernel)) | ((with_reducible refine' r_strN ?k1 ?_); (case k1 => decide +kernel))
  | ((with_reducible refine' r_nstrY ?k1 ?_); (case k1 => decide +kernel)) | ((with_reducible refine' r_nstrN ?k1 ?_); (case k1 => decide +kernel))
  | with_reducible refine r_gcd ?_ | with_reducible refine r_par ?_ | with_reducible refine r_par1 ?_
  | with_reducible refine r_make ?_ | with_reducible refine r_orJ ?_
  | with_reducible refine r_isN ?_ | with_reducible refine r_notN ?_
  | with_reducible refine r_abs ?_ | with_reducible refine r_int ?_ | with_reducible refine r_min ?_ | with_reducible refine r_max ?_)
local macro_rules | `(tactic| walk_at "go") => `(tactic| repeat walk_at "st")
local macro_rules | `(tactic| walk_at "st") => `(tactic| first | with_reducible refine r_nt ?_ | with_reducible refine r_nf ?_ | with_reducible refine r_le4 ?_ | with_reducible refine r_ltS ?_ | with_reducible refine r_inS ?_)
local macro_rules | `(tactic| walk_at "st") => `(tactic| first | with_reducible refine r_disp ?_ | with_reducible refine r_pr ?_ | with_reducible refine r_pnil ?_ | ((with_reducible refine' r_isi ?k1 ?k2 ?k3 ?_); (case k1 => exact ClsV.ty _); (case k2 => first | exact .base (.int _) | exact tyT (by assumption)); (case k3 => exact kit_ty (r := true) (by decide +kernel))))
local macro_rules | `(tactic| walk_at "st") => `(tactic| first | with_reducible refine r_ckw ?_ | with_reducible refine r_lenTx ?_)
def spRow : Sp := fun vs H Q _ => ∃ (c : Int) (n : Nat), vs = [.int c, .int (n : Int)] ∧ n ≤ 200 ∧ ∀ (p : Addr) (ns : List Int) (H' : Hp), H p = none → Ex H H' → H' p = some (.lst (ns.map V.int)) → ns.length = n → (∀ x ∈ ns, 0 ≤ x ∧ x < 1009) → Q (.ref p) H'
section
variable {P : Program} {w : World} {K : PySem.W.Frag} {mg : Str → Option Value} {base : Heap}
abbrev sc_law_row_N : List Str := ["_law_cell", "_law_many", "_law_row_here", "_law_rest", "_law_state", "_law_k"]
theorem sc_law_row : FnScope ["_law_cell", "_law_many", "_law_row_here", "_law_rest", "_law_state", "_law_k"] ["_law_cell", "_law_many"] (defScope s_law_row) := ⟨rfl, rfl, rfl, by decide +kernel, rfl, by decide +kernel, by decide +kernel⟩
theorem ok_law_row (T : Tx w K mg) : OkD P w K mg base ("_law_row", none) 1 ["_law_cell", "_law_many"] spRow := by
  refine (T.fd_law_row).ok sc_law_row (fun vs H Q E h => ?_) (fun cdv A outer s H vs Q E hr h => ?_)
  · obtain ⟨c, n, rfl, _⟩ := h
    rfl
  · obtain ⟨c, n, rfl, hn, k⟩ := h
    refine ⟨_, (PSs.nox (pss_cons (ps_set (i := 2) sc_law_row.nd rfl (Or.inl rfl) (pe_lst pa_nil))
    (pss_cons (ps_set (i := 3) sc_law_row.nd rfl (Or.inl rfl) pe_int)
    (pss_cons (ps_if (pt_cmpR op_ge (pe_callB cr_absJ (by rfl) T.f_abs (by decide +kernel) (pa_cons (pv 0) pa_nil)) (pe_op op_pow pe_int pe_int) (nomark _)) (pss_one (ps_set (i := 3) sc_law_row.nd rfl (Or.inl rfl) (pe_callB cr_absJ (by rfl) T.f_abs (by decide +kernel) (pa_cons (pv 0) pa_nil)))) pss_nil)
    (pss_cons (ps_set (i := 4) sc_law_row.nd rfl (Or.inl rfl) (pe_op op_mod (pe_callTy cr_intJ (by rfl) T.f_int (by decide +kernel) (pa_cons (pe_callB cr_absJ (by rfl) T.f_abs (by decide +kernel) (pa_cons (pv 0) pa_nil)) pa_nil)) pe_int))
    (pss_cons (ps_for PassesOwn.never rfl (pi_range1 (by rfl) T.f_range (pa_cons (pv 1) pa_nil)) (pg_name (i := 5) sc_law_row.nd rfl (Or.inl rfl))
    (pss_cons (ps_set (i := 4) sc_law_row.nd rfl (Or.inl rfl) (pe_op op_mod (pe_callTy cr_intJ (by rfl) T.f_int (by decide +kernel) (pa_cons (pe_op op_add (pe_op op_mul (pe_op op_add (pv 4) pe_int) pe_int) (pe_op op_mul pe_int (pv 5))) pa_nil)) pe_int))
    (pss_one (ps_if (pt_cmpR op_gt (pv 3) pe_int (nomark _)) (pss_cons (ps_expr (pe_bm PySem.F.plainAttrs_list PySem.F.slot_list_append PySem.F.type_list_append mt_append (pv 2) (pa_cons (pe_op op_mod (pe_callTy cr_intJ (by rfl) T.f_int (by decide +kernel) (pa_cons (pv 3) pa_nil)) pe_int) pa_nil)))
    (pss_one (ps_set (i := 3) sc_law_row.nd rfl (Or.inl rfl) (pe_op op_fdiv (pv 3) pe_int)))) (pss_one (ps_expr (pe_bm PySem.F.plainAttrs_list PySem.F.slot_list_append PySem.F.type_list_append mt_append (pv 2) (pa_cons (pe_op op_mod (pe_callTy cr_intJ (by rfl) T.f_int (by decide +kernel) (pa_cons (pe_op op_fdiv (pv 4) pe_int) pa_nil)) pe_int) pa_nil))))))))
    (pss_one (ps_ret (pv 2))))))))), ?_⟩
    walk_at "go"
    refine r_newL fun p H1 n1 e1 hp => ?_
    walk_at "go"
    refine r_I (⟨by decide, by decide, by decide⟩ : CPow 10 18) ?_
    walk_at "go"
    refine r_d2 (fun big => ?_) (fun big => ?_)
    · walk_at "go"
      refine r_I (by decide) ?_
      walk_at "go"
      refine fo_R (n := (n : Int)) (fun i σ' H' => Ex H H' ∧ ∃ (ns : List Int) (rest st : Int) (z : Option V), H' p = some (.lst (ns.map V.int)) ∧ ns.length = i ∧ (∀ x ∈ ns, 0 ≤ x ∧ x < 1009) ∧ 0 ≤ rest ∧ 0 ≤ st ∧ st < 2147483647 ∧ σ' = [some (.int c), some (.int (n : Int)), some (.ref p), some (.int rest), some (.int st), z]) ⟨by omega, by omega⟩ (fun QA q => ?_)
        ⟨e1, [], _, _, _, hp, rfl, (fun x hx => nomatch hx), Int.natCast_nonneg _, Int.emod_nonneg _ (by decide), Int.emod_lt_of_pos _ (by decide), rfl⟩ ?_ ?_
      · walk_at "go"
        exact q
      · rintro i σ' H' hi ⟨e, ns, rest, st, z, hp2, hln, hb, r0, s0, s1, rfl⟩
        have hz2 : (ns.map V.int).length < 100000 := by
          rw [List.length_map, hln]
          omega
        have keep : ∀ y : Int, 0 ≤ y → y < 1009 → ∀ x ∈ ns ++ [y], 0 ≤ x ∧ x < 1009 := fun y h1 h2 x hx => by
          rcases List.mem_append.mp hx with q | q
          · exact hb x q
          · rw [List.mem_singleton.mp q]
            exact ⟨h1, h2⟩
        have lay : ∀ y : Int, upd H' p (.lst (ns.map V.int ++ [.int y])) = upd H' p (.lst ((ns ++ [y]).map V.int)) := fun y => by rw [List.map_append] <;> rfl
        walk_at "go"
        refine r_I (.inl ⟨by omega, by omega⟩) ?_
        walk_at "go"
        refine r_I (.inl ⟨by omega, by omega⟩) ?_
        walk_at "go"
        refine r_I (by decide) ?_
        have t0 : 0 ≤ ((st + 1) * 48271 + 69621 * (i : Int)) % 2147483647 := Int.emod_nonneg _ (by decide)
        have t1 : ((st + 1) * 48271 + 69621 * (i : Int)) % 2147483647 < 2147483647 := Int.emod_lt_of_pos _ (by decide)
        generalize ((st + 1) * 48271 + 69621 * (i : Int)) % 2147483647 = st2 at t0 t1 ⊢
        walk_at "go"
        refine r_d2 (fun lt => ?_) (fun lt => ?_)
        · walk_at "go"
          refine r_I (by decide) ?_
          walk_at "go"
          refine r_app hp2 hz2 ?_
          walk_at "go"
          refine r_I ⟨by decide, by decide⟩ ?_
          walk_at "go"
          rw [lay]
          exact ⟨e.mt n1, ns ++ [rest % 1009], _, _, _, upd_same, by rw [List.length_append, hln] <;> rfl, keep _ (Int.emod_nonneg _ (by decide)) (Int.emod_lt_of_pos _ (by decide)), Int.ediv_nonneg r0 (by decide), t0, t1, rfl⟩
        · walk_at "go"
          refine r_I ⟨by decide, by decide⟩ ?_
          walk_at "go"
          refine r_I (by decide) ?_
          walk_at "go"
          refine r_app hp2 hz2 ?_
          walk_at "go"
          rw [lay]
          exact ⟨e.mt n1, ns ++ [st2 / 2048 % 1009], _, _, _, upd_same, by rw [List.length_append, hln] <;> rfl, keep _ (Int.emod_nonneg _ (by decide)) (Int.emod_lt_of_pos _ (by decide)), r0, t0, t1, rfl⟩
      · rintro σ' H' ⟨e, ns, rest, st, z, hp2, hln, hb, r0, s0, s1, rfl⟩
        walk_at "go"
        exact k p ns H' n1 e hp2 (by rw [hln]; omega) hb
    · walk_at "go"
      refine r_I (by decide) ?_
      walk_at "go"
      refine fo_R (n := (n : Int)) (fun i σ' H' => Ex H H' ∧ ∃ (ns : List Int) (rest st : Int) (z : Option V), H' p = some (.lst (ns.map V.int)) ∧ ns.length = i ∧ (∀ x ∈ ns, 0 ≤ x ∧ x < 1009) ∧ 0 ≤ rest ∧ 0 ≤ st ∧ st < 2147483647 ∧ σ' = [some (.int c), some (.int (n : Int)), some (.ref p), some (.int rest), some (.int st), z]) ⟨by omega, by omega⟩ (fun QA q => ?_)
        ⟨e1, [], _, _, _, hp, rfl, (fun x hx => nomatch hx), Int.le_refl 0, Int.emod_nonneg _ (by decide), Int.emod_lt_of_pos _ (by decide), rfl⟩ ?_ ?_
      · walk_at "go"
        exact q
      · rintro i σ' H' hi ⟨e, ns, rest, st, z, hp2, hln, hb, r0, s0, s1, rfl⟩
        have hz2 : (ns.map V.int).length < 100000 := by
          rw [List.length_map, hln]
          omega
        have keep : ∀ y : Int, 0 ≤ y → y < 1009 → ∀ x ∈ ns ++ [y], 0 ≤ x ∧ x < 1009 := fun y h1 h2 x hx => by
          rcases List.mem_append.mp hx with q | q
          · exact hb x q
          · rw [List.mem_singleton.mp q]
            exact ⟨h1, h2⟩
        have lay : ∀ y : Int, upd H' p (.lst (ns.map V.int ++ [.int y])) = upd H' p (.lst ((ns ++ [y]).map V.int)) := fun y => by rw [List.map_append] <;> rfl
        walk_at "go"
        refine r_I (.inl ⟨by omega, by omega⟩) ?_
        walk_at "go"
        refine r_I (.inl ⟨by omega, by omega⟩) ?_
        walk_at "go"
        refine r_I (by decide) ?_
        have t0 : 0 ≤ ((st + 1) * 48271 + 69621 * (i : Int)) % 2147483647 := Int.emod_nonneg _ (by decide)
        have t1 : ((st + 1) * 48271 + 69621 * (i : Int)) % 2147483647 < 2147483647 := Int.emod_lt_of_pos _ (by decide)
        generalize ((st + 1) * 48271 + 69621 * (i : Int)) % 2147483647 = st2 at t0 t1 ⊢
        walk_at "go"
        refine r_d2 (fun lt => ?_) (fun lt => ?_)
        · walk_at "go"
          refine r_I (by decide) ?_
          walk_at "go"
          refine r_app hp2 hz2 ?_
          walk_at "go"
          refine r_I ⟨by decide, by decide⟩ ?_
          walk_at "go"
          rw [lay]
          exact ⟨e.mt n1, ns ++ [rest % 1009], _, _, _, upd_same, by rw [List.length_append, hln] <;> rfl, keep _ (Int.emod_nonneg _ (by decide)) (Int.emod_lt_of_pos _ (by decide)), Int.ediv_nonneg r0 (by decide), t0, t1, rfl⟩
        · walk_at "go"
          refine r_I ⟨by decide, by decide⟩ ?_
          walk_at "go"
          refine r_I (by decide) ?_
          walk_at "go"
          refine r_app hp2 hz2 ?_
          walk_at "go"
          rw [lay]
          exact ⟨e.mt n1, ns ++ [st2 / 2048 % 1009], _, _, _, upd_same, by rw [List.length_append, hln] <;> rfl, keep _ (Int.emod_nonneg _ (by decide)) (Int.emod_lt_of_pos _ (by decide)), r0, t0, t1, rfl⟩
      · rintro σ' H' ⟨e, ns, rest, st, z, hp2, hln, hb, r0, s0, s1, rfl⟩
        walk_at "go"
        exact k p ns H' n1 e hp2 (by rw [hln]; omega) hb
end
end Lw
end
section
set_option maxRecDepth 100000
set_option maxHeartbeats 4000000
namespace Lw
open PySem PySem.Spec PyProof.Rows L2
section
variable {K : PySem.W.Frag} {σ : L2.St} {H : Hp} {Q : VK} {te t : TE} {tl th : TO} {R : Option Int → Hp → Prop}
theorem r_sl {r : V → Option Int → Option Int → Hp → VK → Prop} (h : te σ H fun x H1 => tl σ H1 fun l H2 => th σ H2 fun u H3 => r x l u H3 Q) : tSl r te tl th σ H Q := h
theorem r_nopart (h : R none H) : tNoPart σ H R := h
theorem r_part (h : t σ H fun x H1 => ∃ i, x = .int i ∧ R (some i) H1) : tPart t σ H R := h
theorem r_int1 {W : Int → Prop} {i : Int} (h : W i) : ∃ i', V.int i = .int i' ∧ W i' := ⟨i, rfl, h⟩
theorem r_slL {a : Addr} {xs : List V} {lo hi : Option Int} (h : SqL K H a xs) (q : ∀ p H', H p = none → Ex H H' → H' p = some (.lst (cutV xs lo hi)) → Q (.ref p) H') : rSlL K (.ref a) lo hi H Q := ⟨a, xs, rfl, h, fun p n => q p _ n (Ex.nw n) upd_same⟩
theorem cut_to {xs : List V} {k : Nat} : cutV xs none (some (k : Int)) = xs.take k := by
  unfold cutV
  rw [HT.sIx_none, HT.sIx_nat, List.drop_zero, Nat.sub_zero]
  by_cases h : k ≤ xs.length
  · rw [Nat.min_eq_left h]
  · rw [Nat.min_eq_right (by omega), List.take_length, List.take_of_length_le (by omega)]
end
local macro_rules | `(tactic| walk_at "hp") => `(tactic| first | assumption | exact upd_same | exact (by assumption : Ex _ _) _ _ (by assumption))
local macro_rules | `(tactic| walk_at "lk") => `(tactic| fail "no look-up")
local macro_rules | `(tactic| walk_at "tk") => `(tactic| first | assumption | exact Ex.t (by assumption) (by assumption) | exact Ex.l (by assumption) (by assumption) | exact .inl (.inl (by assumption)))
local macro_rules | `(tactic| walk_at "st") => `(tactic| first
  | with_reducible refine r_seq ?_ | with_reducible refine r_asg ?_ | with_reducible refine r_name ?_
  | ((with_reducible refine' r_var ?k1 ?_); (case k1 => exact rfl))
  | with_reducible refine r_c ?_ | with_reducible refine r_op ?_ | with_reducible refine r_un ?_ | with_reducible refine r_cb ?_ | with_reducible refine r_nil ?_ | with_reducible refine r_cons ?_
  | with_reducible refine r_call ?_ | with_reducible refine r_ret ?_ | with_reducible refine r_drop ?_ | with_reducible refine r_ifs ?_ | with_reducible refine r_ife ?_ | with_reducible refine r_next ?_
  | with_reducible refine r_test ?_ | with_reducible refine r_tB ?_ | with_reducible refine r_bl ?_ | with_reducible refine r_blx ?_ | with_reducible refine r_tnot ?_ | with_reducible refine r_tand ?_ | with_reducible refine r_tor ?_
  | with_reducible refine r_not ?_ | with_reducible refine r_and ?_ | with_reducible refine r_or ?_ | with_reducible refine r_I0 ?_ | with_reducible refine r_U ?_
  | with_reducible refine r_eqS ?_ | with_reducible refine r_eqI ?_ | with_reducible refine r_neS ?_ | with_reducible refine r_neI ?_ | with_reducible refine r_chain ?_
  | ((with_reducible refine' r_gtup ?k1 ?k2 ?_); (case k1 => walk_at "tk"); (case k2 => exact rfl))
  | with_reducible refine r_gcons ?_ | with_reducible refine r_gnil ?_
  | ((with_reducible refine' r_ixT ?k1 ?k2 ?_); (case k1 => walk_at "tk"); (case k2 => exact rfl))
  | ((with_reducible refine' r_ixL ?k1 ?k2 ?_); (case k1 => walk_at "tk"); (case k2 => exact rfl))
  | with_reducible refine r_tup ?_ | with_reducible refine r_lst ?_ | with_reducible refine iteT ?_ | with_reducible refine iteF ?_
  | ((with_reducible refine' r_wipe ?k1 ?_); (case k1 => exact rfl)) | with_reducible refine r_tyes ?_
  | ((with_reducible refine' r_lenT ?k1 ?_); (case k1 => walk_at "tk")) | ((with_reducible refine' r_lenL ?k1 ?_); (case k1 => walk_at "tk"))
  | with_reducible refine r_fld ?_ | with_reducible refine r_sfld ?_ | with_reducible refine r_gfld ?_ | with_reducible refine r_meth ?_
  | ((with_reducible refine' r_fld1 ?k1 ?k2 ?k3 ?k4 ?_); (case k1 => walk_at "hp"); (case k2 => assumption); (case k3 => assumption); (case k4 => walk_at "lk"))
  | ((with_reducible refine' r_sfld1 ?k1 ?k2 ?k3 ?k4 ?_); (case k1 => walk_at "hp"); (case k2 => assumption); (case k3 => assumption); (case k4 => exact Nat.lt_of_le_of_lt (Nat.le_of_ble_eq_true rfl) (by decide : 10 < 1000)))
  | ((with_reducible refine' r_gfld1 ?k1 ?k2 ?k3 ?k4 ?_); (case k1 => walk_at "hp"); (case k2 => assumption); (case k3 => assumption); (case k4 => exact Nat.lt_of_le_of_lt (Nat.le_of_ble_eq_true rfl) (by decide : 10 < 1000)))
  | with_reducible refine r_ks ?_ | with_reducible refine r_kq ?_
  | ((with_reducible refine' r_meth1 ?k1 ?k2 ?_); (case k1 => walk_at "hp"); (case k2 => kernel_rfl))
  | with_reducible refine r_kb ?_ | with_reducible refine r_tru ?_ | with_reducible refine r_bm0 ?_ | with_reducible refine r_bm ?_
  | ((with_reducible refine' r_tyL ?k1 ?_); (case k1 => walk_at "hp"))
  | with_reducible refine r_sdput ?_ | with_reducible refine r_dget ?_ | with_reducible refine r_din ?_ | with_reducible refine r_dnin ?_ | with_reducible refine r_dpop ?_
  | ((with_reducible refine' r_dpop0 ?k1 ?_); (case k1 => walk_at "hp"))
  | ((with_reducible refine' r_strY ?k1 ?_); (case k1 => decide +kernel)) | ((with_reducible refine' r_strN ?k1 ?_); (case k1 => decide +kernel))
  | ((with_reducible refine' r_nstrY ?k1 ?_); (case k1 => decide +kernel)) | ((with_reducible refine' r_nstrN ?k1 ?_); (case k1 => decide +kernel))
  | with_reducible refine r_gcd ?_ | with_reducible refine r_par ?_ | with_reducible refine r_par1 ?_
  | with_reducible refine r_make ?_ | with_reducible refine r_orJ ?_
  | with_reducible refine r_isN ?_ | with_reducible refine r_notN ?_
  | with_reducible refine r_abs ?_ | with_reducible refine r_int ?_ | with_reducible refine r_min ?_ | with_reducible refine r_max ?_)
local macro_rules | `(tactic| walk_at "go") => `(tactic| repeat walk_at "st")
local macro_rules | `(tactic| walk_at "st") => `(tactic| first | with_reducible refine r_nt ?_ | with_reducible refine r_nf ?_ | with_reducible refine r_le4 ?_ | with_reducible refine r_ltS ?_ | with_reducible refine r_inS ?_)
local macro_rules | `(tactic| walk_at "st") => `(tactic| first | with_reducible refine r_disp ?_ | with_reducible refine r_pr ?_ | with_reducible refine r_pnil ?_ | ((with_reducible refine' r_isi ?k1 ?k2 ?k3 ?_); (case k1 => exact ClsV.ty _); (case k2 => first | exact .base (.int _) | exact tyT (by assumption)); (case k3 => exact kit_ty (r := true) (by decide +kernel))))
local macro_rules | `(tactic| walk_at "st") => `(tactic| first | with_reducible refine r_ckw ?_ | with_reducible refine r_lenTx ?_)
local macro_rules | `(tactic| walk_at "st") => `(tactic| first | with_reducible refine r_sl ?_ | with_reducible refine r_nopart ?_ | with_reducible refine r_part ?_ | with_reducible refine r_int1 ?_)
def spNumbers (K : PySem.W.Frag) : Sp := fun vs H Q _ => ∃ (a : Addr) (ns : List Int), vs = [.ref a, .int 150] ∧ SqL K H a (ns.map V.int) ∧ ns.length ≤ 63 ∧ ∀ (p : Addr) (ms : List Int) (H' : Hp), Ex H H' → H' p = some (.lst (ms.map V.int)) → ms.length = 150 → (∀ x ∈ ms, 0 ≤ x ∧ x < 1009) → Q (.ref p) H'
section
variable {P : Program} {w : World} {K : PySem.W.Frag} {mg : Str → Option Value} {base : Heap}
abbrev sc_law_numbers_N : List Str := ["_law_script", "_law_many", "_law_cells", "_law_each", "_law_numbers_here", "_law_cell", "_law_number"]
theorem sc_law_numbers : FnScope ["_law_script", "_law_many", "_law_cells", "_law_each", "_law_numbers_here", "_law_cell", "_law_number"] ["_law_script", "_law_many"] (defScope s_law_numbers) := ⟨rfl, rfl, rfl, by decide +kernel, rfl, by decide +kernel, by decide +kernel⟩
theorem ok_law_numbers (T : Tx w K mg) : OkD P w K mg base ("_law_numbers", none) 2 ["_law_script", "_law_many"] (spNumbers K) := by
  refine (T.fd_law_numbers).ok sc_law_numbers (fun vs H Q E h => ?_) (fun cdv A outer s H vs Q E hr h => ?_)
  · obtain ⟨a, ns, rfl, _⟩ := h
    rfl
  · obtain ⟨a, ns, rfl, ha, hl, k⟩ := h
    refine ⟨_, (PSs.nox (pss_cons (ps_set (i := 2) sc_law_numbers.nd rfl (Or.inl rfl) (pe_slice (r := rSlL K) sl_list (pv 0) po_none (po_some pe_int)))
    (pss_cons (ps_set (i := 3) sc_law_numbers.nd rfl (Or.inl rfl) (pe_op op_add pe_int (pe_op op_fdiv (pv 1) (pe_callB (cr_maxJ rfl) (by rfl) T.f_max (by decide +kernel) (pa_cons pe_int (pa_cons (pe_callB (r := rLenJ K) cr_lenJ (by rfl) T.f_len PySem.boot_len (pa_cons (pv 2) pa_nil)) pa_nil))))))
    (pss_cons (ps_set (i := 4) sc_law_numbers.nd rfl (Or.inl rfl) (pe_lst pa_nil))
    (pss_cons (ps_for PassesOwn.never rfl (pi_list (pv 2)) (pg_name (i := 5) sc_law_numbers.nd rfl (Or.inl rfl))
    (pss_one (ps_for PassesOwn.never rfl (pi_list (pe_call ((ok_law_row T).mono (by decide)) hr (by rfl) T.g_law_row T.fd_law_row.kp T.bd_law_row .nil pass0 (pa_cons (pv 5) (pa_cons (pv 3) pa_nil)))) (pg_name (i := 6) sc_law_numbers.nd rfl (Or.inl rfl))
    (pss_one (ps_expr (pe_bm PySem.F.plainAttrs_list PySem.F.slot_list_append PySem.F.type_list_append mt_append (pv 4) (pa_cons (pv 6) pa_nil)))))))
    (pss_cons (ps_while PassesOwn.never (pt_cmpR op_lt (pe_callB (r := rLenJ K) cr_lenJ (by rfl) T.f_len PySem.boot_len (pa_cons (pv 4) pa_nil)) (pv 1) (nomark _)) (pss_one (ps_expr (pe_bm PySem.F.plainAttrs_list PySem.F.slot_list_append PySem.F.type_list_append mt_append (pv 4) (pa_cons pe_int pa_nil)))))
    (pss_one (ps_ret (pe_slice (r := rSlL K) sl_list (pv 4) po_none (po_some (pv 1))))))))))), ?_⟩
    walk_at "go"
    refine r_slL ha fun pc H1 n1 e1 hc => ?_
    have hc : H1 pc = some (.lst ((ns.take 63).map V.int)) := by
      rw [hc, show cutV (ns.map V.int) none (some 63) = (ns.map V.int).take 63 from cut_to (k := 63), List.map_take]
    rw [List.take_of_length_le hl] at hc
    have hcl : (ns.map V.int).length = ns.length := List.length_map ..
    walk_at "go"
    rw [hcl]
    walk_at "go"
    refine r_I ⟨by omega, by omega⟩ ?_
    walk_at "go"
    obtain ⟨each, he⟩ : ∃ e : Nat, (1 + 150 / max 1 (ns.length : Int)) = (e : Int) := ⟨(1 + 150 / max 1 (ns.length : Int)).toNat, by
      have : 0 ≤ 150 / max 1 (ns.length : Int) := Int.ediv_nonneg (by decide) (by omega)
      omega⟩
    have hel : each ≤ 151 := by
      have : 150 / max 1 (ns.length : Int) ≤ 150 := Int.ediv_le_self _ (by decide)
      omega
    rw [he]
    refine r_newL fun p H2 n2 e2 hp => ?_
    have n0 : H p = none := e1.fr n2
    walk_at "go"
    have lay : ∀ (H' : Hp) (acc : List Int) (y : Int), upd H' p (.lst (acc.map V.int ++ [.int y])) = upd H' p (.lst ((acc ++ [y]).map V.int)) := fun H' acc y => by rw [List.map_append] <;> rfl
    have keep : ∀ (acc : List Int) (y : Int), (∀ x ∈ acc, 0 ≤ x ∧ x < 1009) → 0 ≤ y → y < 1009 → ∀ x ∈ acc ++ [y], 0 ≤ x ∧ x < 1009 := fun acc y hb h1 h2 x hx => by
      rcases List.mem_append.mp hx with q | q
      · exact hb x q
      · rw [List.mem_singleton.mp q]
        exact ⟨h1, h2⟩
    refine fo_L (L := ns) (ev := V.int) (fun i σ' H' => Ex H1 H' ∧ ∃ (acc : List Int) (z1 z2 : Option V), H' p = some (.lst (acc.map V.int)) ∧ acc.length = i * each ∧ (∀ x ∈ acc, 0 ≤ x ∧ x < 1009) ∧ σ' = [some (.ref a), some (.int 150), some (.ref pc), some (.int (each : Int)), some (.ref p), z1, z2]) (.inl (.inl (e2 _ _ hc))) (fun Q' q => ?_)
      ⟨e2, [], none, none, hp, (Nat.zero_mul _).symm, (fun x hx => nomatch hx), rfl⟩ (fun i σ' H' q => .inl (.inl (q.1 _ _ hc))) ?_ ?_
    · walk_at "go"
      exact q
    · rintro i x σ' H' hi ⟨e, acc, z1, z2, hp2, hln, hb, rfl⟩
      have hi2 := (List.getElem?_eq_some_iff.mp hi).1
      have big : i * each ≤ 63 * 151 := Nat.mul_le_mul (by omega) hel
      refine r_foL ?_
      walk_at "go"
      refine ⟨x, each, rfl, by omega, fun q row H3 nq e3 hq hrl hrb => ?_⟩
      have npq : p ≠ q := fun z => by
        rw [← z, hp2] at nq
        cases nq
      refine fo_L (L := row) (ev := V.int) (fun j σ' H' => Ex H1 H' ∧ H' q = some (.lst (row.map V.int)) ∧ ∃ (acc2 : List Int) (z2 : Option V), H' p = some (.lst (acc2.map V.int)) ∧ acc2.length = i * each + j ∧ (∀ x ∈ acc2, 0 ≤ x ∧ x < 1009) ∧ σ' = [some (.ref a), some (.int 150), some (.ref pc), some (.int (each : Int)), some (.ref p), some (.int x), z2]) (.inl (.inl hq)) (fun Q' q => r_c q)
        ⟨e.tr e3, hq, acc, _, e3 _ _ hp2, hln, hb, rfl⟩ (fun i σ' H' q => .inl (.inl q.2.1)) ?_ ?_
      · rintro j y σ' H4 hj ⟨e4, hq4, acc2, z2, hp4, hl4, hb4, rfl⟩
        have hj2 := (List.getElem?_eq_some_iff.mp hj).1
        have hy := hrb y (List.mem_of_getElem? hj)
        have hz2 : (acc2.map V.int).length < 100000 := by
          rw [List.length_map, hl4]
          omega
        walk_at "go"
        refine r_app hp4 hz2 ?_
        walk_at "go"
        rw [lay]
        exact ⟨e4.mt n2, (upd_ne npq.symm).trans hq4, acc2 ++ [y], _, upd_same, by rw [List.length_append, hl4] <;> rfl, keep acc2 y hb4 hy.1 hy.2, rfl⟩
      · rintro σ' H4 ⟨e4, hq4, acc2, z2, hp4, hl4, hb4, rfl⟩
        refine ⟨e4, acc2, _, _, hp4, ?_, hb4, rfl⟩
        rw [hl4, hrl, Nat.succ_mul]
    · rintro σ' H' ⟨e, acc, z1, z2, hp2, hln, hb, rfl⟩
      have big : ns.length * each ≤ 63 * 151 := Nat.mul_le_mul hl hel
      walk_at "go"
      refine ⟨fun m σ'' H'' => Ex H1 H'' ∧ ∃ (acc2 : List Int), H'' p = some (.lst (acc2.map V.int)) ∧ m = 150 - acc2.length ∧ acc2.length ≤ 20000 ∧ (∀ x ∈ acc2, 0 ≤ x ∧ x < 1009) ∧ σ'' = [some (.ref a), some (.int 150), some (.ref pc), some (.int (each : Int)), some (.ref p), z1, z2], ⟨_, e, acc, hp2, rfl, by omega, hb, rfl⟩, ?_⟩
      rintro m σ'' H3 ⟨e3, acc2, hp3, hm, hl3, hb3, rfl⟩
      have hal : (acc2.map V.int).length = acc2.length := List.length_map ..
      walk_at "go"
      rw [hal]
      cases q : decide ((acc2.length : Int) < 150) with
      | true =>
        have lt : acc2.length < 150 := by
          have := of_decide_eq_true q
          omega
        rw [if_pos rfl]
        refine ⟨fun σ' H' => Ex H1 H' ∧ ∃ (acc3 : List Int), H' p = some (.lst (acc3.map V.int)) ∧ acc3.length = acc2.length + 1 ∧ (∀ x ∈ acc3, 0 ≤ x ∧ x < 1009) ∧ σ' = [some (.ref a), some (.int 150), some (.ref pc), some (.int (each : Int)), some (.ref p), z1, z2], ?_, ?_⟩
        · rintro σ' H' ⟨e5, acc3, hp5, hl5, hb5, rfl⟩
          exact ⟨150 - acc3.length, by omega, e5, acc3, hp5, rfl, by omega, hb5, rfl⟩
        · walk_at "go"
          refine r_app hp3 (by rw [hal]; omega) ?_
          walk_at "go"
          rw [lay]
          exact ⟨e3.mt n2, acc2 ++ [0], upd_same, by rw [List.length_append] <;> rfl, keep acc2 0 hb3 (by decide) (by decide), rfl⟩
      | false =>
        have ge : 150 ≤ acc2.length := by
          have := of_decide_eq_false q
          omega
        rw [if_neg Bool.false_ne_true]
        walk_at "go"
        refine r_slL (.inl (.inl hp3)) fun q2 H4 n4 e4 hq2 => ?_
        have hq2 : H4 q2 = some (.lst ((acc2.take 150).map V.int)) := by
          rw [hq2, show cutV (acc2.map V.int) none (some 150) = (acc2.map V.int).take 150 from cut_to (k := 150), List.map_take]
        exact k q2 (acc2.take 150) H4 (e1.tr (e3.tr e4)) hq2 (by rw [List.length_take]; omega) fun x hx => hb3 x (List.mem_of_mem_take hx)
end
end Lw
end
section
set_option maxRecDepth 100000
set_option maxHeartbeats 4000000
namespace Lw
open PySem PySem.Spec PyProof.Rows L2
local macro_rules | `(tactic| walk_at "hp") => `(tactic| first | assumption | exact upd_same | exact (by assumption : Ex _ _) _ _ (by assumption))
local macro_rules | `(tactic| walk_at "lk") => `(tactic| fail "no look-up")
local macro_rules | `(tactic| walk_at "tk") => `(tactic| first | assumption | exact Ex.t (by assumption) (by assumption) | exact Ex.l (by assumption) (by assumption) | exact .inl (.inl (by assumption)))
local macro_rules | `(tactic| walk_at "st") => `(tactic| first
  | with_reducible refine r_seq ?_ | with_reducible refine r_asg ?_ | with_reducible refine r_name ?_
  | ((with_reducible refine' r_var ?k1 ?_); (case k1 => exact rfl))
  | with_reducible refine r_c ?_ | with_reducible refine r_op ?_ | with_reducible refine r_un ?_ | with_reducible refine r_cb ?_ | with_reducible refine r_nil ?_ | with_reducible refine r_cons ?_
  | with_reducible refine r_call ?_ | with_reducible refine r_ret ?_ | with_reducible refine r_drop ?_ | with_reducible refine r_ifs ?_ | with_reducible refine r_ife ?_ | with_reducible refine r_next ?_
  | with_reducible refine r_test ?_ | with_reducible refine r_tB ?_ | with_reducible refine r_bl ?_ | with_reducible refine r_blx ?_ | with_reducible refine r_tnot ?_ | with_reducible refine r_tand ?_ | with_reducible refine r_tor ?_
  | with_reducible refine r_not ?_ | with_reducible refine r_and ?_ | with_reducible refine r_or ?_ | with_reducible refine r_I0 ?_ | with_reducible refine r_U ?_
  | with_reducible refine r_eqS ?_ | with_reducible refine r_eqI ?_ | with_reducible refine r_neS ?_ | with_reducible refine r_neI ?_ | with_reducible refine r_chain ?_
  | ((with_reducible refine' r_gtup ?k1 ?k2 ?_); (case k1 => walk_at "tk"); (case k2 => exact rfl))
  | with_reducible refine r_gcons ?_ | with_reducible refine r_gnil ?_
  | ((with_reducible refine' r_ixT ?k1 ?k2 ?_); (case k1 => walk_at "tk"); (case k2 => exact rfl))
  | ((with_reducible refine' r_ixL ?k1 ?k2 ?_); (case k1 => walk_at "tk"); (case k2 => exact rfl))
  | with_reducible refine r_tup ?_ | with_reducible refine r_lst ?_ | with_reducible refine iteT ?_ | with_reducible refine iteF ?_
  | ((with_reducible refine' r_wipe ?k1 ?_); (case k1 => exact rfl)) | with_reducible refine r_tyes ?_
  | ((with_reducible refine' r_lenT ?k1 ?_); (case k1 => walk_at "tk")) | ((with_reducible refine' r_lenL ?k1 ?_); (case k1 => walk_at "tk"))
  | with_reducible refine r_fld ?_ | with_reducible refine r_sfld ?_ | with_reducible refine r_gfld ?_ | with_reducible refine r_meth ?_
  | ((with_reducible refine' r_fld1 ?k1 ?k2 ?k3 ?k4 ?_); (case k1 => walk_at "hp"); (case k2 => assumption); (case k3 => assumption); (case k4 => walk_at "lk"))
  | ((with_reducible refine' r_sfld1 ?k1 ?k2 ?k3 ?k4 ?_); (case k1 => walk_at "hp"); (case k2 => assumption); (case k3 => assumption); (case k4 => exact Nat.lt_of_le_of_lt (Nat.le_of_ble_eq_true rfl) (by decide : 10 < 1000)))
  | ((with_reducible refine' r_gfld1 ?k1 ?k2 ?k3 ?k4 ?_); (case k1 => walk_at "hp"); (case k2 => assumption); (case k3 => assumption); (case k4 => exact Nat.lt_of_le_of_lt (Nat.le_of_ble_eq_true rfl) (by decide : 10 < 1000)))
  | with_reducible refine r_ks ?_ | with_reducible refine r_kq ?_
  | ((with_reducible refine' r_meth1 ?k1 ?k2 ?_); (case k1 => walk_at "hp"); (case k2 => kernel_rfl))
  | with_reducible refine r_kb ?_ | with_reducible refine r_tru ?_ | with_reducible refine r_bm0 ?_ | with_reducible refine r_bm ?_
  | ((with_reducible refine' r_tyL ?k1 ?_); (case k1 => walk_at "hp"))
  | with_reducible refine r_sdput ?_ | with_reducible refine r_dget ?_ | with_reducible refine r_din ?_ | with_reducible refine r_dnin ?_ | with_reducible refine r_dpop ?_
  | ((with_reducible refine' r_dpop0 ?k1 ?_); (case k1 => walk_at "hp"))
  | ((with_reducible refine' r_strY ?k1 ?_); (case k1 => decide +kernel)) | ((with_reducible refine' r_strN ?k1 ?_); (case k1 => decide +kernel))
  | ((with_reducible refine' r_nstrY ?k1 ?_); (case k1 => decide +kernel)) | ((with_reducible refine' r_nstrN ?k1 ?_); (case k1 => decide +kernel))
  | with_reducible refine r_gcd ?_ | with_reducible refine r_par ?_ | with_reducible refine r_par1 ?_
  | with_reducible refine r_make ?_ | with_reducible refine r_orJ ?_
  | with_reducible refine r_isN ?_ | with_reducible refine r_notN ?_
  | with_reducible refine r_abs ?_ | with_reducible refine r_int ?_ | with_reducible refine r_min ?_ | with_reducible refine r_max ?_)
local macro_rules | `(tactic| walk_at "go") => `(tactic| repeat walk_at "st")
local macro_rules | `(tactic| walk_at "st") => `(tactic| first | with_reducible refine r_nt ?_ | with_reducible refine r_nf ?_ | with_reducible refine r_le4 ?_ | with_reducible refine r_ltS ?_ | with_reducible refine r_inS ?_)
local macro_rules | `(tactic| walk_at "st") => `(tactic| first | with_reducible refine r_disp ?_ | with_reducible refine r_pr ?_ | with_reducible refine r_pnil ?_ | ((with_reducible refine' r_isi ?k1 ?k2 ?k3 ?_); (case k1 => exact ClsV.ty _); (case k2 => first | exact .base (.int _) | exact tyT (by assumption)); (case k3 => exact kit_ty (r := true) (by decide +kernel))))
local macro_rules | `(tactic| walk_at "st") => `(tactic| first | with_reducible refine r_ckw ?_ | with_reducible refine r_lenTx ?_)
local macro_rules | `(tactic| walk_at "st") => `(tactic| first | with_reducible refine r_sl ?_ | with_reducible refine r_nopart ?_ | with_reducible refine r_part ?_ | with_reducible refine r_int1 ?_)
def four : List Str := ["a", "b", "c7", "z"]
def spLGroups (K : PySem.W.Frag) : Sp := fun vs H Q _ => ∃ n : Int, vs = [.int n] ∧ ∀ (p : Addr) (gs : List Str) (H' : Hp), Ex H H' → SqT K H' p (gs.map V.str) → gs.Sublist four → Q (.ref p) H'
section
variable {P : Program} {w : World} {K : PySem.W.Frag} {mg : Str → Option Value} {base : Heap}
abbrev sc_law_groups_N : List Str := ["_law_number", "_law_found", "_law_k"]
theorem sc_law_groups : FnScope ["_law_number", "_law_found", "_law_k"] ["_law_number"] (defScope s_law_groups) := ⟨rfl, rfl, rfl, by decide +kernel, rfl, by decide +kernel, by decide +kernel⟩
theorem ok_law_groups (T : Tx w K mg) : OkD P w K mg base ("_law_groups", none) 1 ["_law_number"] (spLGroups K) := by
  refine (T.fd_law_groups).ok sc_law_groups (fun vs H Q E h => ?_) (fun cdv A outer s H vs Q E hr h => ?_)
  · obtain ⟨n, rfl, _⟩ := h
    rfl
  · obtain ⟨n, rfl, k⟩ := h
    refine ⟨_, (PSs.nox (pss_cons (ps_set (i := 1) sc_law_groups.nd rfl (Or.inl rfl) (pe_lst pa_nil))
    (pss_cons (ps_for PassesOwn.never rfl (pi_range1 (by rfl) T.f_range (pa_cons pe_int pa_nil)) (pg_name (i := 2) sc_law_groups.nd rfl (Or.inl rfl))
    (pss_one (ps_if (pt_cmpR op_eq (pe_op op_mod (pe_callTy cr_intJ (by rfl) T.f_int (by decide +kernel) (pa_cons (pe_op op_fdiv (pv 0) (pe_ix (r := rIxL K) ix_list (pe_lst (pa_cons pe_int (pa_cons pe_int (pa_cons pe_int (pa_cons pe_int pa_nil))))) (pv 2) (fun _ _ => rfl))) pa_nil)) pe_int) pe_int (nomark _)) (pss_one (ps_expr (pe_bm PySem.F.plainAttrs_list PySem.F.slot_list_append PySem.F.type_list_append mt_append (pv 1) (pa_cons (pe_ix (r := rIxL K) ix_list (pe_lst (pa_cons pe_str (pa_cons pe_str (pa_cons pe_str (pa_cons pe_str pa_nil))))) (pv 2) (fun _ _ => rfl)) pa_nil)))) pss_nil)))
    (pss_one (ps_ret (pe_callTy (r := rTupJ K) cr_tupJ (by rfl) T.f_tuple (by decide +kernel) (pa_cons (pv 1) pa_nil))))))), ?_⟩
    walk_at "go"
    refine r_newL fun p H1 n1 e1 hp => ?_
    walk_at "go"
    refine fo_R (n := 4) (fun i σ' H' => Ex H H' ∧ ∃ (acc : List Str) (z : Option V), H' p = some (.lst (acc.map V.str)) ∧ acc.Sublist (four.take i) ∧ σ' = [some (.int n), some (.ref p), z]) ⟨by decide, by decide⟩ (fun QA q => ?_) ⟨e1, [], none, hp, List.Sublist.refl _, rfl⟩ ?_ ?_
    · walk_at "go"
      exact q
    · rintro i σ' H' hi ⟨e, acc, z, hp2, hs, rfl⟩
      have hlen : acc.length ≤ 4 := Nat.le_trans hs.length_le (List.length_take_le' _ _)
      have lay : ∀ (H' : Hp) (y : Str), upd H' p (.lst (acc.map V.str ++ [.str y])) = upd H' p (.lst ((acc ++ [y]).map V.str)) := fun H' y => by rw [List.map_append] <;> rfl
      obtain ⟨d, y, hd, hy, d0, d1, tk⟩ : ∃ (d : Int) (y : Str), atI [V.int 1, V.int 2, V.int 4, V.int 8] (i : Int) = some (.int d) ∧ atI [V.str "a", V.str "b", V.str "c7", V.str "z"] (i : Int) = some (.str y) ∧ 0 < d ∧ d < 1073741824 ∧ four.take (i + 1) = four.take i ++ [y] := by
        match i, hi with
        | 0, _ => exact ⟨_, _, rfl, rfl, by decide, by decide, rfl⟩
        | 1, _ => exact ⟨_, _, rfl, rfl, by decide, by decide, rfl⟩
        | 2, _ => exact ⟨_, _, rfl, rfl, by decide, by decide, rfl⟩
        | 3, _ => exact ⟨_, _, rfl, rfl, by decide, by decide, rfl⟩
        | m + 4, hi => exact absurd hi (by omega)
      walk_at "go"
      refine r_newL fun q1 H2 m2 e2 hq1 => ?_
      walk_at "go"
      refine r_ixL (.inl (.inl hq1)) hd ?_
      walk_at "go"
      refine r_I ⟨d0, d1⟩ ?_
      walk_at "go"
      refine r_I (by decide) ?_
      walk_at "go"
      refine r_d2 (fun yes => ?_) (fun no => ?_)
      · have hp3 := e2 _ _ hp2
        walk_at "go"
        refine r_newL fun q3 H3 m3 e3 hq3 => ?_
        have hp4 := e3 _ _ hp3
        walk_at "go"
        refine r_ixL (.inl (.inl hq3)) hy ?_
        walk_at "go"
        refine r_app hp4 (by rw [List.length_map]; omega) ?_
        walk_at "go"
        rw [lay]
        exact ⟨(e.tr (e2.tr e3)).mt n1, acc ++ [y], _, upd_same, by rw [tk]; exact hs.append (List.Sublist.refl _), rfl⟩
      · walk_at "go"
        refine ⟨e.tr e2, acc, _, e2 _ _ hp2, ?_, rfl⟩
        rw [tk]
        exact hs.trans (List.sublist_append_left _ _)
    · rintro σ' H' ⟨e, acc, z, hp2, hs, rfl⟩
      walk_at "go"
      refine r_tupOf (.inl (.inl hp2)) fun q H2 m2 e2 hq => ?_
      exact k q acc H2 (e.tr e2) (.inl (.inl hq)) hs
end
end Lw
end
section
set_option maxRecDepth 100000
set_option maxHeartbeats 4000000
namespace Lw
open PySem PySem.Spec PyProof.Rows L2
/-! ### names of groups -/
structure NamesOk (gs : List Str) : Prop where
  ok : ∀ g ∈ gs, nameOk g = true
  asc : ascB gs = true
  nd : gs.Nodup
  most : gs.length ≤ 8
def eight : List Str := ["a", "b", "c7", "d", "e9", "f", "q", "z"]
def nines : List Str := ["0", "1x", "9", "a", "b", "c7", "q", "z"]
def okB (gs : List Str) : Bool := gs.all nameOk && ascB gs && decide gs.Nodup && decide (gs.length ≤ 8)
theorem okB_ok {gs : List Str} (h : okB gs = true) : NamesOk gs := by
  unfold okB at h
  rw [Bool.and_eq_true, Bool.and_eq_true, Bool.and_eq_true, decide_eq_true_iff, decide_eq_true_iff, List.all_eq_true] at h
  exact ⟨h.1.1.1, h.1.1.2, h.1.2, h.2⟩
def subs : List Str → List (List Str)
  | [] => [[]]
  | x :: r => subs r ++ (subs r).map (x :: ·)
theorem mem_subs {l m : List Str} (h : l.Sublist m) : l ∈ subs m := by
  induction h with
  | slnil => exact .head _
  | cons x _ ih => exact List.mem_append_left _ ih
  | cons_cons x _ ih => exact List.mem_append_right _ (List.mem_map.mpr ⟨_, ih, rfl⟩)
theorem four_ok : ∀ gs ∈ subs four, okB gs = true := by decide +kernel
theorem four_names {gs : List Str} (h : gs.Sublist four) : NamesOk gs := okB_ok (four_ok gs (mem_subs h))
theorem eight_ok : ∀ k < 4, okB (eight.drop k) = true := by decide +kernel
theorem nines_ok : ∀ k < 4, okB (nines.drop k) = true := by decide +kernel
theorem b_ok : okB ["b"] = true := by decide +kernel
theorem ab_ok : okB ["a", "b"] = true := by decide +kernel
theorem nil_ok : okB [] = true := by decide +kernel
theorem name_ok : ∀ k < 8, nameOk ("n" ++ Str.ofString (toString k)) = true := by decide +kernel
end Lw
end
section
set_option maxRecDepth 100000
set_option maxHeartbeats 4000000
namespace Lw
open PySem PySem.Spec PyProof.Rows L2
section
variable {K : PySem.W.Frag} {H : Hp} {Q : VK}
theorem cut_whole {xs : List V} {lo hi : Option Int} (h : HT.sIx xs.length 0 lo = 0 ∧ HT.sIx xs.length xs.length hi = xs.length) : cutV xs lo hi = xs := by
  unfold cutV
  rw [h.1, h.2, List.drop_zero, Nat.sub_zero, List.take_length]
theorem r_slT {a : Addr} {xs : List V} {lo hi : Option Int} (h : SqT K H a xs) (q : ∀ p H', Ex H H' → SqT K H' p (cutV xs lo hi) → Q (.ref p) H') : rSlA K (.ref a) lo hi H Q := by
  refine ⟨a, xs, rfl, h, fun z => q a H Ex.rf ?_, fun _ p n => q p _ (Ex.nw n) (.inl (.inl upd_same))⟩
  rw [cut_whole z]
  exact h
theorem cut_from {xs : List V} {k : Nat} (h : k ≤ xs.length) : cutV xs (some (k : Int)) none = xs.drop k := by
  unfold cutV
  rw [HT.sIx_none, HT.sIx_nat, Nat.min_eq_left h, List.take_of_length_le]
  rw [List.length_drop]
  omega
end
end Lw
end
section
set_option maxRecDepth 100000
set_option maxHeartbeats 4000000
namespace Lw
open PySem PySem.Spec PyProof.Rows L2
/-! ### what the law's numbers and limits are -/
structure LmOk (L : Lim) : Prop where
  wf : WfL L
  low : num0 L.rule ≤ 500
  gs : NamesOk L.groups
  pl : ∀ m sh, L.rule = .pool m sh → L.groups = [] ∧ NamesOk (sh.map (·.1))
structure NumsAt (K : PySem.W.Frag) (H : Hp) (a : Addr) (ns : List Int) : Prop where
  at_ : H a = some (.lst (ns.map V.int))
  len : ns.length = 150
  bd : ∀ x ∈ ns, 0 ≤ x ∧ x < 1009
theorem NumsAt.ex {K : PySem.W.Frag} {H H' : Hp} {a : Addr} {ns : List Int} (h : NumsAt K H a ns) (e : Ex H H') : NumsAt K H' a ns := ⟨e _ _ h.at_, h.len, h.bd⟩
theorem NumsAt.get {K : PySem.W.Frag} {H : Hp} {a : Addr} {ns : List Int} (h : NumsAt K H a ns) {k : Int} (k0 : 0 ≤ k) (k1 : k < 150) : ∃ x, atI (ns.map V.int) k = some (.int x) ∧ 0 ≤ x ∧ x < 1009 := by
  obtain ⟨n, rfl⟩ := Int.eq_ofNat_of_zero_le k0
  have hn : n < ns.length := by
    rw [h.len]
    omega
  refine ⟨ns[n], ?_, h.bd _ (List.getElem_mem hn)⟩
  unfold atI
  rw [show ixN (ns.map V.int).length (n : Int) = some n from by
    unfold ixN
    rw [if_pos (Int.natCast_nonneg n), if_pos (by rw [List.length_map]; omega)] <;> rfl]
  show (ns.map V.int)[n]? = _
  rw [List.getElem?_map, List.getElem?_eq_getElem hn]
  rfl
theorem r_num {K : PySem.W.Frag} {H H' : Hp} {a : Addr} {ns : List Int} {i : Int} {v : V} {Q : VK} (h : NumsAt K H a ns) (e : Ex H H') (q : atI (ns.map V.int) i = some v) (k : Q v H') : rIxL K (.ref a) (.int i) H' Q := r_ixL (.inl (.inl (h.ex e).at_)) q k
theorem r_cutA {te : TE} {g : TG} {D : Ends} {σ : L2.St} {H : Hp} (C : L2.St → Hp → Prop) (h2 : ∀ σ' H', C σ' H' → D.nx σ' H') (h1 : (∀ σ' H', C σ' H' → D.nx σ' H') → tAsg te g D σ H) : tAsg te g D σ H := h1 h2
theorem r_cutI {tt : TT} {t u : TS} {D : Ends} {σ : L2.St} {H : Hp} (C : L2.St → Hp → Prop) (h2 : ∀ σ' H', C σ' H' → D.nx σ' H') (h1 : (∀ σ' H', C σ' H' → D.nx σ' H') → tIfS tt t u D σ H) : tIfS tt t u D σ H := h1 h2
end Lw
end
section
set_option maxRecDepth 100000
set_option maxHeartbeats 4000000
namespace Lw
open PySem PySem.Spec PyProof.Rows L2
local macro_rules | `(tactic| walk_at "hp") => `(tactic| first | assumption | exact upd_same | exact (by assumption : Ex _ _) _ _ (by assumption))
local macro_rules | `(tactic| walk_at "lk") => `(tactic| fail "no look-up")
local macro_rules | `(tactic| walk_at "tk") => `(tactic| first | assumption | exact Ex.t (by assumption) (by assumption) | exact Ex.l (by assumption) (by assumption) | exact .inl (.inl (by assumption)))
local macro_rules | `(tactic| walk_at "st") => `(tactic| first
  | with_reducible refine r_seq ?_ | with_reducible refine r_asg ?_ | with_reducible refine r_name ?_
  | ((with_reducible refine' r_var ?k1 ?_); (case k1 => exact rfl))
  | with_reducible refine r_c ?_ | with_reducible refine r_op ?_ | with_reducible refine r_un ?_ | with_reducible refine r_cb ?_ | with_reducible refine r_nil ?_ | with_reducible refine r_cons ?_
  | with_reducible refine r_call ?_ | with_reducible refine r_ret ?_ | with_reducible refine r_drop ?_ | with_reducible refine r_ifs ?_ | with_reducible refine r_ife ?_ | with_reducible refine r_next ?_
  | with_reducible refine r_test ?_ | with_reducible refine r_tB ?_ | with_reducible refine r_bl ?_ | with_reducible refine r_blx ?_ | with_reducible refine r_tnot ?_ | with_reducible refine r_tand ?_ | with_reducible refine r_tor ?_
  | with_reducible refine r_not ?_ | with_reducible refine r_and ?_ | with_reducible refine r_or ?_ | with_reducible refine r_I0 ?_ | with_reducible refine r_U ?_
  | with_reducible refine r_eqS ?_ | with_reducible refine r_eqI ?_ | with_reducible refine r_neS ?_ | with_reducible refine r_neI ?_ | with_reducible refine r_chain ?_
  | ((with_reducible refine' r_gtup ?k1 ?k2 ?_); (case k1 => walk_at "tk"); (case k2 => exact rfl))
  | with_reducible refine r_gcons ?_ | with_reducible refine r_gnil ?_
  | ((with_reducible refine' r_ixT ?k1 ?k2 ?_); (case k1 => walk_at "tk"); (case k2 => exact rfl))
  | ((with_reducible refine' r_ixL ?k1 ?k2 ?_); (case k1 => walk_at "tk"); (case k2 => exact rfl))
  | with_reducible refine r_tup ?_ | with_reducible refine r_lst ?_ | with_reducible refine iteT ?_ | with_reducible refine iteF ?_
  | ((with_reducible refine' r_wipe ?k1 ?_); (case k1 => exact rfl)) | with_reducible refine r_tyes ?_
  | ((with_reducible refine' r_lenT ?k1 ?_); (case k1 => walk_at "tk")) | ((with_reducible refine' r_lenL ?k1 ?_); (case k1 => walk_at "tk"))
  | with_reducible refine r_fld ?_ | with_reducible refine r_sfld ?_ | with_reducible refine r_gfld ?_ | with_reducible refine r_meth ?_
  | ((with_reducible refine' r_fld1 ?k1 ?k2 ?k3 ?k4 ?_); (case k1 => walk_at "hp"); (case k2 => assumption); (case k3 => assumption); (case k4 => walk_at "lk"))
  | ((with_reducible refine' r_sfld1 ?k1 ?k2 ?k3 ?k4 ?_); (case k1 => walk_at "hp"); (case k2 => assumption); (case k3 => assumption); (case k4 => exact Nat.lt_of_le_of_lt (Nat.le_of_ble_eq_true rfl) (by decide : 10 < 1000)))
  | ((with_reducible refine' r_gfld1 ?k1 ?k2 ?k3 ?k4 ?_); (case k1 => walk_at "hp"); (case k2 => assumption); (case k3 => assumption); (case k4 => exact Nat.lt_of_le_of_lt (Nat.le_of_ble_eq_true rfl) (by decide : 10 < 1000)))
  | with_reducible refine r_ks ?_ | with_reducible refine r_kq ?_
  | ((with_reducible refine' r_meth1 ?k1 ?k2 ?_); (case k1 => walk_at "hp"); (case k2 => kernel_rfl))
  | with_reducible refine r_kb ?_ | with_reducible refine r_tru ?_ | with_reducible refine r_bm0 ?_ | with_reducible refine r_bm ?_
  | ((with_reducible refine' r_tyL ?k1 ?_); (case k1 => walk_at "hp"))
  | with_reducible refine r_sdput ?_ | with_reducible refine r_dget ?_ | with_reducible refine r_din ?_ | with_reducible refine r_dnin ?_ | with_reducible refine r_dpop ?_
  | ((with_reducible refine' r_dpop0 ?k1 ?_); (case k1 => walk_at "hp"))
  | ((with_reducible refine' r_strY ?k1 ?_); (case k1 => decide +kernel)) | ((with_reducible refine' r_strN ?k1 ?_); (case k1 => decide +kernel))
  | ((with_reducible refine' r_nstrY ?k1 ?_); (case k1 => decide +kernel)) | ((with_reducible refine' r_nstrN ?k1 ?_); (case k1 => decide +kernel))
  | with_reducible refine r_gcd ?_ | with_reducible refine r_par ?_ | with_reducible refine r_par1 ?_
  | with_reducible refine r_make ?_ | with_reducible refine r_orJ ?_
  | with_reducible refine r_isN ?_ | with_reducible refine r_notN ?_
  | with_reducible refine r_abs ?_ | with_reducible refine r_int ?_ | with_reducible refine r_min ?_ | with_reducible refine r_max ?_)
local macro_rules | `(tactic| walk_at "go") => `(tactic| repeat walk_at "st")
local macro_rules | `(tactic| walk_at "st") => `(tactic| first | with_reducible refine r_nt ?_ | with_reducible refine r_nf ?_ | with_reducible refine r_le4 ?_ | with_reducible refine r_ltS ?_ | with_reducible refine r_inS ?_)
local macro_rules | `(tactic| walk_at "st") => `(tactic| first | with_reducible refine r_disp ?_ | with_reducible refine r_pr ?_ | with_reducible refine r_pnil ?_ | ((with_reducible refine' r_isi ?k1 ?k2 ?k3 ?_); (case k1 => exact ClsV.ty _); (case k2 => first | exact .base (.int _) | exact tyT (by assumption)); (case k3 => exact kit_ty (r := true) (by decide +kernel))))
local macro_rules | `(tactic| walk_at "st") => `(tactic| first | with_reducible refine r_ckw ?_ | with_reducible refine r_lenTx ?_)
local macro_rules | `(tactic| walk_at "st") => `(tactic| first | with_reducible refine r_sl ?_ | with_reducible refine r_nopart ?_ | with_reducible refine r_part ?_ | with_reducible refine r_int1 ?_)
local macro_rules | `(tactic| walk_at "st") => `(tactic| first | ((with_reducible refine' r_num ?k0 ?k1 ?k2 ?_); (case k0 => assumption); (case k1 => assumption); (case k2 => assumption)) | ((with_reducible refine' r_I ?k1 ?_); (case k1 => first | decide | exact ⟨by decide, by decide⟩ | exact .inl ⟨by decide, by decide⟩ | exact .inl ⟨by omega, by omega⟩)))
def spPool (K : PySem.W.Frag) : Sp := fun vs H Q _ => ∃ (a : Addr) (ns : List Int) (at_ : Int), vs = [.ref a, .int at_] ∧ NumsAt K H a ns ∧ 0 ≤ at_ ∧ at_ ≤ 140 ∧ ∀ (p : Addr) (m : Int) (sh : List Sh) (H' : Hp), Ex H H' → LimAt K H' p ⟨"pool1", [], .pool m sh⟩ → LmOk ⟨"pool1", [], .pool m sh⟩ → Q (.ref p) H'
theorem own_sum : ∀ ps : List (Addr × Sh), (∀ x ∈ ps, 0 ≤ x.2.2.1 ∧ x.2.2.1 ≤ 3) → 0 ≤ (ps.map fun x => x.2.2.1).sum ∧ (ps.map fun x => x.2.2.1).sum ≤ 3 * ps.length
  | [], _ => ⟨Int.le_refl _, Int.le_refl _⟩
  | a :: l, h => by
    have h1 := h a (.head _)
    have h2 := own_sum l fun x hx => h x (.tail _ hx)
    rw [List.map_cons, List.sum_cons, List.length_cons]
    omega
section
variable {P : Program} {w : World} {K : PySem.W.Frag} {mg : Str → Option Value} {base : Heap}
abbrev sc_law_pool_N : List Str := ["_law_numbers_here", "_law_at", "_law_shares", "_law_names", "_law_name", "_law_own", "_law_ceiling", "_law_most", "_law_share"]
theorem sc_law_pool : FnScope ["_law_numbers_here", "_law_at", "_law_shares", "_law_names", "_law_name", "_law_own", "_law_ceiling", "_law_most", "_law_share"] ["_law_numbers_here", "_law_at"] (defScope s_law_pool) := ⟨rfl, rfl, rfl, by decide +kernel, rfl, by decide +kernel, by decide +kernel⟩
theorem ok_law_pool (T : Tx w K mg) : OkD P w K mg base ("_law_pool", none) 2 ["_law_numbers_here", "_law_at"] (spPool K) := by
  refine (T.fd_law_pool).ok sc_law_pool (fun vs H Q E h => ?_) (fun cdv A outer s H vs Q E hr h => ?_)
  · obtain ⟨a, ns, at_, rfl, _⟩ := h
    rfl
  · obtain ⟨a, ns, at_, rfl, hn, a0, a1, k⟩ := h
    obtain ⟨x0, e0, x00, x01⟩ := hn.get (k := at_) (by omega) (by omega)
    obtain ⟨x1, e1, x10, x11⟩ := hn.get (k := at_ + 1) (by omega) (by omega)
    obtain ⟨x2, e2, x20, x21⟩ := hn.get (k := at_ + 2) (by omega) (by omega)
    obtain ⟨x3, e3, x30, x31⟩ := hn.get (k := at_ + 3) (by omega) (by omega)
    have ex0 : Ex H H := Ex.rf
    refine ⟨_, (PSs.nox (pss_cons (ps_set (i := 2) sc_law_pool.nd rfl (Or.inl rfl) (pe_lst pa_nil))
    (pss_cons (ps_set (i := 3) sc_law_pool.nd rfl (Or.inl rfl) (pe_orJ (pe_call ((ok_law_groups T).mono (by decide)) hr (by rfl) T.g_law_groups T.fd_law_groups.kp T.bd_law_groups .nil pass0 (pa_cons (pe_ix (r := rIxL K) ix_list (pv 0) (pv 1) (fun _ _ => rfl)) pa_nil)) (pe_one (pe_tup (pa_cons pe_str pa_nil)))))
    (pss_cons (ps_if (pt_cmpR op_eq (pe_op op_mod (pe_callTy cr_intJ (by rfl) T.f_int (by decide +kernel) (pa_cons (pe_op op_fdiv (pe_ix (r := rIxL K) ix_list (pv 0) (pv 1) (fun _ _ => rfl)) pe_int) pa_nil)) pe_int) pe_int (nomark _)) (pss_one (ps_set (i := 3) sc_law_pool.nd rfl (Or.inl rfl) (pe_slice (r := rSlA K) sl_tupA (pe_tup (pa_cons pe_str (pa_cons pe_str (pa_cons pe_str (pa_cons pe_str (pa_cons pe_str (pa_cons pe_str (pa_cons pe_str (pa_cons pe_str pa_nil))))))))) (po_some (pe_op op_mod (pe_callTy cr_intJ (by rfl) T.f_int (by decide +kernel) (pa_cons (pe_ix (r := rIxL K) ix_list (pv 0) (pv 1) (fun _ _ => rfl)) pa_nil)) pe_int)) po_none))) pss_nil)
    (pss_cons (ps_for PassesOwn.never rfl (pi_tup (pv 3)) (pg_name (i := 4) sc_law_pool.nd rfl (Or.inl rfl))
    (pss_cons (ps_set (i := 5) sc_law_pool.nd rfl (Or.inl rfl) (pe_op op_mod (pe_callTy cr_intJ (by rfl) T.f_int (by decide +kernel) (pa_cons (pe_op op_add (pe_ix (r := rIxL K) ix_list (pv 0) (pe_op op_add (pv 1) pe_int) (fun _ _ => rfl)) (pe_op op_mul pe_int (pe_callB (r := rLenJ K) cr_lenJ (by rfl) T.f_len PySem.boot_len (pa_cons (pv 2) pa_nil)))) pa_nil)) pe_int))
    (pss_cons (ps_set (i := 6) sc_law_pool.nd rfl (Or.inl rfl) (pe_op op_add (pv 5) (pe_op op_mod (pe_callTy cr_intJ (by rfl) T.f_int (by decide +kernel) (pa_cons (pe_op op_add (pe_ix (r := rIxL K) ix_list (pv 0) (pe_op op_add (pv 1) pe_int) (fun _ _ => rfl)) (pe_op op_mul pe_int (pe_callB (r := rLenJ K) cr_lenJ (by rfl) T.f_len PySem.boot_len (pa_cons (pv 2) pa_nil)))) pa_nil)) pe_int)))
    (pss_one (ps_expr (pe_bm PySem.F.plainAttrs_list PySem.F.slot_list_append PySem.F.type_list_append mt_append (pv 2) (pa_cons (pe_tup (pa_cons (pv 4) (pa_cons (pv 5) (pa_cons (pv 6) pa_nil)))) pa_nil)))))))
    (pss_cons (ps_set (i := 7) sc_law_pool.nd rfl (Or.inl rfl) (pe_op op_add (pe_callB (r := rSum K) (cr_sum rfl) (by rfl) T.f_sum (by decide +kernel) (pa_cons (pe_lc (own := [("_law_share", 8)]) rfl sc_law_pool.nd (pi_list (pv 2)) (blkOk_by (own := [("_law_share", 8)]) (N := sc_law_pool_N) (sc := defScope s_law_pool) (by decide +kernel)) (fun _ _ _ _ _ => (pg_name (i := 8) sc_law_pool.nd rfl (Or.inl rfl))) (fun _ _ _ _ _ => pts_nil) (fun _ _ _ _ _ => (pe_ix (r := rIxT K) ix_tup (pv 8) pe_int (fun _ _ => rfl)))) pa_nil)) (pe_op op_mod (pe_callTy cr_intJ (by rfl) T.f_int (by decide +kernel) (pa_cons (pe_ix (r := rIxL K) ix_list (pv 0) (pe_op op_add (pv 1) pe_int) (fun _ _ => rfl)) pa_nil)) pe_int)))
    (pss_one (ps_ret (pe_tup (pa_cons pe_str (pa_cons pe_str (pa_cons (pe_tup pa_nil) (pa_cons (pe_tup (pa_cons (pv 7) (pa_cons (pe_callTy (r := rTupJ K) cr_tupJ (by rfl) T.f_tuple (by decide +kernel) (pa_cons (pv 2) pa_nil)) pa_nil))) pa_nil))))))))))))), ?_⟩
    walk_at "go"
    refine r_newL fun p H1 n1 f1 hp => ?_
    walk_at "st"
    walk_at "st"
    refine r_cutA (fun σ' H' => Ex H H' ∧ H' p = some (.lst []) ∧ ∃ q names, SqT K H' q (names.map V.str) ∧ okB names = true ∧ 1 ≤ names.length ∧ σ' = [some (.ref a), some (.int at_), some (.ref p), some (.ref q), none, none, none, none, none]) ?_ (fun tail => ?_)
    · rintro σ' H2 ⟨f2, hp2, q, names, hq, ok, one, rfl⟩
      walk_at "st"
      refine r_cutI (fun σ' H' => Ex H H' ∧ H' p = some (.lst []) ∧ ∃ q names, SqT K H' q (names.map V.str) ∧ okB names = true ∧ 1 ≤ names.length ∧ σ' = [some (.ref a), some (.int at_), some (.ref p), some (.ref q), none, none, none, none, none]) ?_ (fun tail => ?_)
      · rintro σ' H3 ⟨f3, hp3, q, names, hq, ok, one, rfl⟩
        walk_at "st"
        have ok := okB_ok ok
        have n8 := ok.most
        refine fo_T (L := names) (ev := V.str) (fun i σ' H' => Ex H H' ∧ Tu H3 H' ∧ ∃ (ps : List (Addr × Sh)) (z4 z5 z6 : Option V), H' p = some (.lst (ps.map fun x => .ref x.1)) ∧ (∀ x ∈ ps, ShAt K H' x.1 x.2) ∧ ps.map (fun x => x.2.1) = names.take i ∧ (∀ x ∈ ps, 0 ≤ x.2.2.1 ∧ x.2.2.1 ≤ 3 ∧ x.2.2.1 ≤ x.2.2.2 ∧ x.2.2.2 ≤ 7) ∧ σ' = [some (.ref a), some (.int at_), some (.ref p), some (.ref q), z4, z5, z6, none, none]) hq (fun Q' q => ?_) ⟨f3, Tu.rf, [], none, none, none, hp3, (fun x hx => nomatch hx), rfl, (fun x hx => nomatch hx), rfl⟩ (fun i σ' H' q => q.2.1) ?_ ?_
        · walk_at "go"
          exact q
        · rintro i nm σ' H4 hi ⟨f4, t4, ps, z4, z5, z6, hp4, hs4, hn4, hb4, rfl⟩
          have hl4 : ps.length ≤ 8 := by
            have := congrArg List.length hn4
            rw [List.length_map, List.length_take] at this
            omega
          have hl5 : (ps.map fun x => V.ref x.1).length = ps.length := List.length_map ..
          walk_at "go"
          rw [hl5]
          walk_at "go"
          refine r_newT fun pt H5 n5 e5 hpt => ?_
          have hp5 := e5 _ _ hp4
          walk_at "go"
          refine r_app hp5 (by rw [hl5]; omega) ?_
          walk_at "go"
          have o0 : 0 ≤ (x1 + 3 * (ps.length : Int)) % 4 := Int.emod_nonneg _ (by decide)
          have o1 : (x1 + 3 * (ps.length : Int)) % 4 < 4 := Int.emod_lt_of_pos _ (by decide)
          have o2 : 0 ≤ (x2 + 5 * (ps.length : Int)) % 5 := Int.emod_nonneg _ (by decide)
          have o3 : (x2 + 5 * (ps.length : Int)) % 5 < 5 := Int.emod_lt_of_pos _ (by decide)
          generalize (x1 + 3 * (ps.length : Int)) % 4 = own at hpt o0 o1 ⊢
          generalize (x2 + 5 * (ps.length : Int)) % 5 = mo at hpt o2 o3 ⊢
          have tm : Tu H5 (upd H5 p (.lst ((ps.map fun x => V.ref x.1) ++ [.ref pt]))) := Tu.mt hp5 (by rintro (⟨_, h⟩ | ⟨_, _, h⟩) <;> cases h)
          have t45 := e5.tu.tr tm
          refine ⟨(f4.tr e5).mt n1, t4.tr t45, ps ++ [(pt, (nm, own, own + mo))], _, _, _, ?_, fun x hx => ?_, ?_, fun x hx => ?_, rfl⟩
          · rw [upd_same, List.map_append]
            rfl
          · rcases List.mem_append.mp hx with z | z
            · exact t45.t (hs4 x z)
            · rw [List.mem_singleton.mp z]
              exact tm.t (.inl (.inl hpt))
          · rw [List.map_append, hn4, List.take_add_one, hi]
            rfl
          · rcases List.mem_append.mp hx with z | z
            · exact hb4 x z
            · rw [List.mem_singleton.mp z]
              show 0 ≤ own ∧ own ≤ 3 ∧ own ≤ own + mo ∧ own + mo ≤ 7
              omega
        · rintro σ' H4 ⟨f4, t4, ps, z4, z5, z6, hp4, hs4, hn4, hb4, rfl⟩
          rw [List.take_length] at hn4
          have hl4 : ps.length = names.length := by rw [← hn4, List.length_map]
          walk_at "go"
          refine lc_L1 (L := ps) (ev := fun x => .ref x.1) (f := fun x => .int x.2.2.1) (by omega) (.inl (.inl hp4)) (fun Q' q => ?_) (fun x hx H' e Kt Kf kt => ?_) (fun D H5 hD e5 hd => ?_)
          · walk_at "go"
            exact q
          · have hx1 : SqT K H' x.1 _ := e.t (hs4 x hx)
            walk_at "go"
            exact kt _ Ex.rf
          · have hd : H5 D = some (.lst ((ps.map fun x => x.2.2.1).map V.int)) := by rw [hd, List.map_map] <;> rfl
            have f5 := f4.tr e5
            have hp5 := e5 _ _ hp4
            walk_at "go"
            refine r_sum (.inl (.inl hd)) ?_
            walk_at "go"
            have o0 : 0 ≤ x3 % 6 := Int.emod_nonneg _ (by decide)
            have o1 : x3 % 6 < 6 := Int.emod_lt_of_pos _ (by decide)
            obtain ⟨s0, s1⟩ := own_sum ps fun x hx => ⟨(hb4 x hx).1, (hb4 x hx).2.1⟩
            refine r_newT fun pg H6 n6 e6 hpg => ?_
            have hp6 := e6 _ _ hp5
            walk_at "go"
            refine r_tupOf (.inl (.inl hp6)) fun ps_ H7 n7 e7 hps => ?_
            walk_at "go"
            refine r_newT fun pn H8 n8 e8 hpn => ?_
            walk_at "go"
            refine r_newT fun pl H9 n9 e9 hpl => ?_
            walk_at "go"
            have e79 := e8.tr e9
            have e49 : Ex H4 H9 := e5.tr (e6.tr (e7.tr e79))
            have nm : (ps.map fun x => x.2).map (fun x => x.1) = names := by
              rw [List.map_map]
              exact hn4
            have so : sumOwn (ps.map fun x => x.2) = (ps.map fun x => x.2.2.1).sum := by
              unfold sumOwn
              rw [List.map_map]
              rfl
            refine k pl _ (ps.map fun x => x.2) H9 (f4.tr e49) ⟨pg, pn, .inl (.inl hpl), .inl (.inl ((e7.tr e79) _ _ hpg)), ps_, .inl (.inl (e9 _ _ hpn)), ps, rfl, .inl (.inl (e79 _ _ hps)), fun x hx => e49.t (hs4 x hx)⟩ ⟨⟨⟨Nat.zero_le _, fun m sh e => ?_⟩, ⟨by omega, by omega, by omega, fun x hx => ?_, ?_, ?_, ?_⟩⟩, ?_, okB_ok nil_ok, fun m sh e => ⟨rfl, ?_⟩⟩
            · cases e
              rw [List.length_map]
              omega
            · obtain ⟨y, hy, rfl⟩ := List.mem_map.mp hx
              have := hb4 y hy
              omega
            · rw [nm]
              exact ok.nd
            · rw [List.length_map]
              omega
            · rw [List.length_map]
              omega
            · show (ps.map fun x => x.2.2.1).sum + x3 % 6 ≤ 500
              omega
            · cases e
              rw [nm]
              exact ok
      · walk_at "go"
        refine r_d2 (fun _ => ?_) (fun _ => ?_)
        · walk_at "go"
          refine r_newT fun q8 H3 n3 e3 hq8 => ?_
          have f3 := f2.tr e3
          walk_at "go"
          obtain ⟨d, hd, hd4⟩ : ∃ d : Nat, x0 % 4 = (d : Int) ∧ d < 4 := ⟨(x0 % 4).toNat, by omega, by omega⟩
          rw [hd]
          refine r_slT (.inl (.inl hq8)) fun qs H4 e4 hqs => ?_
          with_reducible refine r_name ?_
          with_reducible refine tail _ _ ?_
          refine ⟨f3.tr e4, (e3.tr e4) _ _ hp2, qs, eight.drop d, ?_, eight_ok d hd4, ?_, rfl⟩
          · rw [List.map_drop, ← cut_from (by show d ≤ 8; omega)]
            exact hqs
          · rw [List.length_drop]
            show 1 ≤ 8 - d
            omega
        · with_reducible refine r_next ?_
          with_reducible refine tail _ _ ?_
          exact ⟨f2, hp2, q, names, hq, ok, one, rfl⟩
    · walk_at "go"
      refine ⟨x0, rfl, fun q gs H2 e2 hq hs => ?_⟩
      refine r_truX hq ?_
      cases gs with
      | nil =>
        refine iteF ?_
        walk_at "go"
        refine r_newT fun qb H3 n3 e3 hqb => ?_
        with_reducible refine r_name ?_
        with_reducible refine tail _ _ ?_
        exact ⟨f1.tr (e2.tr e3), (e2.tr e3) _ _ hp, qb, ["b"], .inl (.inl hqb), b_ok, by decide, rfl⟩
      | cons g gs =>
        refine iteT ?_
        with_reducible refine r_kq ?_
        with_reducible refine r_name ?_
        with_reducible refine tail _ _ ?_
        exact ⟨f1.tr e2, e2 _ _ hp, q, g :: gs, hq, four_ok _ (mem_subs hs), Nat.succ_le_succ (Nat.zero_le _), rfl⟩
end
end Lw
end
section
set_option maxRecDepth 100000
set_option maxHeartbeats 4000000
namespace Lw
open PySem PySem.Spec PyProof.Rows L2
local macro_rules | `(tactic| walk_at "hp") => `(tactic| first | assumption | exact upd_same | exact (by assumption : Ex _ _) _ _ (by assumption))
local macro_rules | `(tactic| walk_at "lk") => `(tactic| fail "no look-up")
local macro_rules | `(tactic| walk_at "tk") => `(tactic| first | assumption | exact Ex.t (by assumption) (by assumption) | exact Ex.l (by assumption) (by assumption) | exact .inl (.inl (by assumption)))
local macro_rules | `(tactic| walk_at "st") => `(tactic| first
  | with_reducible refine r_seq ?_ | with_reducible refine r_asg ?_ | with_reducible refine r_name ?_
  | ((with_reducible refine' r_var ?k1 ?_); (case k1 => exact rfl))
  | with_reducible refine r_c ?_ | with_reducible refine r_op ?_ | with_reducible refine r_un ?_ | with_reducible refine r_cb ?_ | with_reducible refine r_nil ?_ | with_reducible refine r_cons ?_
  | with_reducible refine r_call ?_ | with_reducible refine r_ret ?_ | with_reducible refine r_drop ?_ | with_reducible refine r_ifs ?_ | with_reducible refine r_ife ?_ | with_reducible refine r_next ?_
  | with_reducible refine r_test ?_ | with_reducible refine r_tB ?_ | with_reducible refine r_bl ?_ | with_reducible refine r_blx ?_ | with_reducible refine r_tnot ?_ | with_reducible refine r_tand ?_ | with_reducible refine r_tor ?_
  | with_reducible refine r_not ?_ | with_reducible refine r_and ?_ | with_reducible refine r_or ?_ | with_reducible refine r_I0 ?_ | with_reducible refine r_U ?_
  | with_reducible refine r_eqS ?_ | with_reducible refine r_eqI ?_ | with_reducible refine r_neS ?_ | with_reducible refine r_neI ?_ | with_reducible refine r_chain ?_
  | ((with_reducible refine' r_gtup ?k1 ?k2 ?_); (case k1 => walk_at "tk"); (case k2 => exact rfl))
  | with_reducible refine r_gcons ?_ | with_reducible refine r_gnil ?_
  | ((with_reducible refine' r_ixT ?k1 ?k2 ?_); (case k1 => walk_at "tk"); (case k2 => exact rfl))
  | ((with_reducible refine' r_ixL ?k1 ?k2 ?_); (case k1 => walk_at "tk"); (case k2 => exact rfl))
  | with_reducible refine r_tup ?_ | with_reducible refine r_lst ?_ | with_reducible refine iteT ?_ | with_reducible refine iteF ?_
  | ((with_reducible refine' r_wipe ?k1 ?_); (case k1 => exact rfl)) | with_reducible refine r_tyes ?_
  | ((with_reducible refine' r_lenT ?k1 ?_); (case k1 => walk_at "tk")) | ((with_reducible refine' r_lenL ?k1 ?_); (case k1 => walk_at "tk"))
  | with_reducible refine r_fld ?_ | with_reducible refine r_sfld ?_ | with_reducible refine r_gfld ?_ | with_reducible refine r_meth ?_
  | ((with_reducible refine' r_fld1 ?k1 ?k2 ?k3 ?k4 ?_); (case k1 => walk_at "hp"); (case k2 => assumption); (case k3 => assumption); (case k4 => walk_at "lk"))
  | ((with_reducible refine' r_sfld1 ?k1 ?k2 ?k3 ?k4 ?_); (case k1 => walk_at "hp"); (case k2 => assumption); (case k3 => assumption); (case k4 => exact Nat.lt_of_le_of_lt (Nat.le_of_ble_eq_true rfl) (by decide : 10 < 1000)))
  | ((with_reducible refine' r_gfld1 ?k1 ?k2 ?k3 ?k4 ?_); (case k1 => walk_at "hp"); (case k2 => assumption); (case k3 => assumption); (case k4 => exact Nat.lt_of_le_of_lt (Nat.le_of_ble_eq_true rfl) (by decide : 10 < 1000)))
  | with_reducible refine r_ks ?_ | with_reducible refine r_kq ?_
  | ((with_reducible refine' r_meth1 ?k1 ?k2 ?_); (case k1 => walk_at "hp"); (case k2 => kernel_rfl))
  | with_reducible refine r_kb ?_ | with_reducible refine r_tru ?_ | with_reducible refine r_bm0 ?_ | with_reducible refine r_bm ?_
  | ((with_reducible refine' r_tyL ?k1 ?_); (case k1 => walk_at "hp"))
  | with_reducible refine r_sdput ?_ | with_reducible refine r_dget ?_ | with_reducible refine r_din ?_ | with_reducible refine r_dnin ?_ | with_reducible refine r_dpop ?_
  | ((with_reducible refine' r_dpop0 ?k1 ?_); (case k1 => walk_at "hp"))
  | ((with_reducible refine' r_strY ?k1 ?_); (case k1 => decide +kernel)) | ((with_reducible refine' r_strN ?k1 ?_); (case k1 => decide +kernel))
  | ((with_reducible refine' r_nstrY ?k1 ?_); (case k1 => decide +kernel)) | ((with_reducible refine' r_nstrN ?k1 ?_); (case k1 => decide +kernel))
  | with_reducible refine r_gcd ?_ | with_reducible refine r_par ?_ | with_reducible refine r_par1 ?_
  | with_reducible refine r_make ?_ | with_reducible refine r_orJ ?_
  | with_reducible refine r_isN ?_ | with_reducible refine r_notN ?_
  | with_reducible refine r_abs ?_ | with_reducible refine r_int ?_ | with_reducible refine r_min ?_ | with_reducible refine r_max ?_)
local macro_rules | `(tactic| walk_at "go") => `(tactic| repeat walk_at "st")
local macro_rules | `(tactic| walk_at "st") => `(tactic| first | with_reducible refine r_nt ?_ | with_reducible refine r_nf ?_ | with_reducible refine r_le4 ?_ | with_reducible refine r_ltS ?_ | with_reducible refine r_inS ?_)
local macro_rules | `(tactic| walk_at "st") => `(tactic| first | with_reducible refine r_disp ?_ | with_reducible refine r_pr ?_ | with_reducible refine r_pnil ?_ | ((with_reducible refine' r_isi ?k1 ?k2 ?k3 ?_); (case k1 => exact ClsV.ty _); (case k2 => first | exact .base (.int _) | exact tyT (by assumption)); (case k3 => exact kit_ty (r := true) (by decide +kernel))))
local macro_rules | `(tactic| walk_at "st") => `(tactic| first | with_reducible refine r_ckw ?_ | with_reducible refine r_lenTx ?_)
local macro_rules | `(tactic| walk_at "st") => `(tactic| first | with_reducible refine r_sl ?_ | with_reducible refine r_nopart ?_ | with_reducible refine r_part ?_ | with_reducible refine r_int1 ?_)
local macro_rules | `(tactic| walk_at "st") => `(tactic| first | ((with_reducible refine' r_num ?k0 ?k1 ?k2 ?_); (case k0 => assumption); (case k1 => assumption); (case k2 => assumption)) | ((with_reducible refine' r_I ?k1 ?_); (case k1 => first | decide | exact ⟨by decide, by decide⟩ | exact .inl ⟨by decide, by decide⟩ | exact .inl ⟨by omega, by omega⟩)))
def words : List Str := ["window", "span", "bucket", "gap", "held", "pool"]
def spLimit (K : PySem.W.Frag) : Sp := fun vs H Q _ => ∃ (a : Addr) (ns : List Int) (at_ : Int) (wd : Str), vs = [.ref a, .int at_, .str wd] ∧ NumsAt K H a ns ∧ 0 ≤ at_ ∧ at_ ≤ 140 ∧ wd ∈ words ∧ ∀ (p : Addr) (L : Lim) (H' : Hp), Ex H H' → LimAt K H' p L → LmOk L → L.word = wd → Q (.ref p) H'
section
variable {P : Program} {w : World} {K : PySem.W.Frag} {mg : Str → Option Value} {base : Heap}
abbrev sc_law_limit_N : List Str := ["_law_numbers_here", "_law_at", "_law_word", "_law_groups_here"]
theorem sc_law_limit : FnScope ["_law_numbers_here", "_law_at", "_law_word", "_law_groups_here"] ["_law_numbers_here", "_law_at", "_law_word"] (defScope s_law_limit) := ⟨rfl, rfl, rfl, by decide +kernel, rfl, by decide +kernel, by decide +kernel⟩
theorem ok_law_limit (T : Tx w K mg) : OkD P w K mg base ("_law_limit", none) 3 ["_law_numbers_here", "_law_at", "_law_word"] (spLimit K) := by
  refine (T.fd_law_limit).ok sc_law_limit (fun vs H Q E h => ?_) (fun cdv A outer s H vs Q E hr h => ?_)
  · obtain ⟨a, ns, at_, wd, rfl, _⟩ := h
    rfl
  · obtain ⟨a, ns, at_, wd, rfl, hn, a0, a1, hw, k⟩ := h
    obtain ⟨x0, e0, x00, x01⟩ := hn.get (k := at_) (by omega) (by omega)
    obtain ⟨x1, e1, x10, x11⟩ := hn.get (k := at_ + 1) (by omega) (by omega)
    obtain ⟨x2, e2, x20, x21⟩ := hn.get (k := at_ + 2) (by omega) (by omega)
    have ex0 : Ex H H := Ex.rf
    refine ⟨_, (PSs.nox (pss_cons (ps_if (pt_cmpR op_eq (pv 2) pe_str (nomark _)) (pss_one (ps_ret (pe_call ((ok_law_pool T).mono (by decide)) hr (by rfl) T.g_law_pool T.fd_law_pool.kp T.bd_law_pool .nil pass0 (pa_cons (pv 0) (pa_cons (pv 1) pa_nil))))) pss_nil)
    (pss_cons (ps_set (i := 3) sc_law_limit.nd rfl (Or.inl rfl) (pe_tup pa_nil))
    (pss_cons (ps_if (pt_cmpR op_gt (pe_op op_mod (pe_callTy cr_intJ (by rfl) T.f_int (by decide +kernel) (pa_cons (pe_op op_fdiv (pe_ix (r := rIxL K) ix_list (pv 0) (pv 1) (fun _ _ => rfl)) pe_int) pa_nil)) pe_int) pe_int (nomark _)) (pss_one (ps_set (i := 3) sc_law_limit.nd rfl (Or.inl rfl) (pe_call ((ok_law_groups T).mono (by decide)) hr (by rfl) T.g_law_groups T.fd_law_groups.kp T.bd_law_groups .nil pass0 (pa_cons (pe_ix (r := rIxL K) ix_list (pv 0) (pv 1) (fun _ _ => rfl)) pa_nil)))) pss_nil)
    (pss_cons (ps_if (pt_cmpR op_eq (pe_op op_mod (pe_callTy cr_intJ (by rfl) T.f_int (by decide +kernel) (pa_cons (pe_op op_fdiv (pe_ix (r := rIxL K) ix_list (pv 0) (pv 1) (fun _ _ => rfl)) pe_int) pa_nil)) pe_int) pe_int (nomark _)) (pss_one (ps_set (i := 3) sc_law_limit.nd rfl (Or.inl rfl) (pe_slice (r := rSlA K) sl_tupA (pe_tup (pa_cons pe_str (pa_cons pe_str (pa_cons pe_str (pa_cons pe_str (pa_cons pe_str (pa_cons pe_str (pa_cons pe_str (pa_cons pe_str pa_nil))))))))) (po_some (pe_op op_mod (pe_callTy cr_intJ (by rfl) T.f_int (by decide +kernel) (pa_cons (pe_ix (r := rIxL K) ix_list (pv 0) (pv 1) (fun _ _ => rfl)) pa_nil)) pe_int)) po_none))) pss_nil)
    (pss_cons (ps_if (pt_cmpR op_eq (pv 2) pe_str (nomark _)) (pss_one (ps_ret (pe_tup (pa_cons pe_str (pa_cons (pv 2) (pa_cons (pv 3) (pa_cons (pe_tup (pa_cons (pe_op op_add pe_int (pe_op op_mod (pe_callTy cr_intJ (by rfl) T.f_int (by decide +kernel) (pa_cons (pe_ix (r := rIxL K) ix_list (pv 0) (pe_op op_add (pv 1) pe_int) (fun _ _ => rfl)) pa_nil)) pe_int)) pa_nil)) pa_nil))))))) pss_nil)
    (pss_cons (ps_if (pt_cmpR op_eq (pv 2) pe_str (nomark _)) (pss_one (ps_ret (pe_tup (pa_cons pe_str (pa_cons (pv 2) (pa_cons (pv 3) (pa_cons (pe_tup (pa_cons (pe_op op_mod (pe_callTy cr_intJ (by rfl) T.f_int (by decide +kernel) (pa_cons (pe_ix (r := rIxL K) ix_list (pv 0) (pe_op op_add (pv 1) pe_int) (fun _ _ => rfl)) pa_nil)) pe_int) pa_nil)) pa_nil))))))) pss_nil)
    (pss_one (ps_ret (pe_tup (pa_cons pe_str (pa_cons (pv 2) (pa_cons (pv 3) (pa_cons (pe_tup (pa_cons (pe_op op_mod (pe_callTy cr_intJ (by rfl) T.f_int (by decide +kernel) (pa_cons (pe_ix (r := rIxL K) ix_list (pv 0) (pe_op op_add (pv 1) pe_int) (fun _ _ => rfl)) pa_nil)) pe_int) (pa_cons (pe_op op_add pe_int (pe_op op_mod (pe_callTy cr_intJ (by rfl) T.f_int (by decide +kernel) (pa_cons (pe_ix (r := rIxL K) ix_list (pv 0) (pe_op op_add (pv 1) pe_int) (fun _ _ => rfl)) pa_nil)) pe_int)) pa_nil))) pa_nil)))))))))))))), ?_⟩
    walk_at "go"
    by_cases hp : wd = "pool"
    · refine r_strY hp ?_
      walk_at "go"
      refine ⟨a, ns, at_, rfl, hn, a0, a1, fun p m sh H' e hL ok => ?_⟩
      walk_at "go"
      exact k p _ H' e hL ok hp.symm
    refine r_strN hp ?_
    walk_at "go"
    refine r_newT fun q0 H1 n1 f1 hq0 => ?_
    with_reducible refine r_name ?_
    with_reducible refine r_seq ?_
    refine r_cutI (fun σ' H' => Ex H H' ∧ ∃ q gs, SqT K H' q (gs.map V.str) ∧ okB gs = true ∧ σ' = [some (.ref a), some (.int at_), some (.str wd), some (.ref q)]) ?_ (fun tail => ?_)
    · rintro σ' H2 ⟨f2, q, gs, hq, ok, rfl⟩
      with_reducible refine r_seq ?_
      refine r_cutI (fun σ' H' => Ex H H' ∧ ∃ q gs, SqT K H' q (gs.map V.str) ∧ okB gs = true ∧ σ' = [some (.ref a), some (.int at_), some (.str wd), some (.ref q)]) ?_ (fun tail => ?_)
      · rintro σ' H3 ⟨f3, q, gs, hq, ok, rfl⟩
        have ok := okB_ok ok
        have b9 : 0 ≤ x1 % 9 ∧ x1 % 9 < 9 := ⟨Int.emod_nonneg _ (by decide), Int.emod_lt_of_pos _ (by decide)⟩
        have b12 : 0 ≤ x1 % 12 ∧ x1 % 12 < 12 := ⟨Int.emod_nonneg _ (by decide), Int.emod_lt_of_pos _ (by decide)⟩
        have c9 : 0 ≤ x2 % 9 ∧ x2 % 9 < 9 := ⟨Int.emod_nonneg _ (by decide), Int.emod_lt_of_pos _ (by decide)⟩
        have sm : ∀ n r, (∀ m sh, r ≠ Rule.pool m sh) → Small ⟨n, gs, r⟩ := fun n r h => ⟨ok.most, fun m sh e => absurd e (h m sh)⟩
        have lm : ∀ n r, (∀ m sh, r ≠ Rule.pool m sh) → WfNum r → num0 r ≤ 500 → LmOk ⟨n, gs, r⟩ := fun n r h wf lo => ⟨⟨sm n r h, wf⟩, lo, ok, fun m sh e => absurd e (h m sh)⟩
        walk_at "go"
        by_cases hg : wd = "gap"
        · refine r_strY hg ?_
          walk_at "go"
          refine r_newT fun pn H4 n4 e4 hpn => ?_
          walk_at "go"
          refine r_newT fun pl H5 n5 e5 hpl => ?_
          walk_at "go"
          rw [hg] at hpl
          exact k pl ⟨"gap1", gs, .gap (1 + x1 % 9)⟩ H5 (f3.tr (e4.tr e5)) ⟨q, pn, .inl (.inl hpl), (e4.tr e5).t hq, .inl (.inl (e5 _ _ hpn))⟩ (lm _ _ (fun m sh => nofun) ⟨by omega, by omega⟩ (by show 1 + x1 % 9 ≤ 500; omega)) hg.symm
        refine r_strN hg ?_
        walk_at "go"
        by_cases hh : wd = "held"
        · refine r_strY hh ?_
          walk_at "go"
          refine r_newT fun pn H4 n4 e4 hpn => ?_
          walk_at "go"
          refine r_newT fun pl H5 n5 e5 hpl => ?_
          walk_at "go"
          rw [hh] at hpl
          exact k pl ⟨"held1", gs, .held (x1 % 12)⟩ H5 (f3.tr (e4.tr e5)) ⟨q, pn, .inl (.inl hpl), (e4.tr e5).t hq, .inl (.inl (e5 _ _ hpn))⟩ (lm _ _ (fun m sh => nofun) ⟨by omega, by omega⟩ (by show x1 % 12 ≤ 500; omega)) hh.symm
        refine r_strN hh ?_
        walk_at "go"
        refine r_newT fun pn H4 n4 e4 hpn => ?_
        walk_at "go"
        refine r_newT fun pl H5 n5 e5 hpl => ?_
        walk_at "go"
        have fin : ∀ r, wd = r.word → NumAt K H5 pn r → (∀ m sh, r ≠ Rule.pool m sh) → WfNum r → num0 r ≤ 500 → Q (.ref pl) H5 := fun r hr hnum np wf lo => by
          rw [hr] at hpl
          exact k pl ⟨"flow1", gs, r⟩ H5 (f3.tr (e4.tr e5)) ⟨q, pn, .inl (.inl hpl), (e4.tr e5).t hq, hnum⟩ (lm _ _ np wf lo) hr.symm
        have hpn5 := e5 _ _ hpn
        unfold words at hw
        simp only [List.mem_cons, List.not_mem_nil, or_false] at hw
        rcases hw with z | z | z | z | z | z
        · exact fin (.window (x1 % 9) (1 + x2 % 9)) z (.inl (.inl hpn5)) (fun m sh => nofun) ⟨by omega, by omega, by omega, by omega⟩ (by show x1 % 9 ≤ 500; omega)
        · exact fin (.span (x1 % 9) (1 + x2 % 9)) z (.inl (.inl hpn5)) (fun m sh => nofun) ⟨by omega, by omega, by omega, by omega⟩ (by show x1 % 9 ≤ 500; omega)
        · exact fin (.bucket (x1 % 9) (1 + x2 % 9)) z (.inl (.inl hpn5)) (fun m sh => nofun) ⟨by omega, by omega, by omega, by omega⟩ (by show x1 % 9 ≤ 500; omega)
        · exact absurd z hg
        · exact absurd z hh
        · exact absurd z hp
      · walk_at "go"
        refine r_d2 (fun _ => ?_) (fun _ => ?_)
        · walk_at "go"
          refine r_newT fun q8 H3 n3 e3 hq8 => ?_
          have f3 := f2.tr e3
          walk_at "go"
          obtain ⟨d, hd, hd4⟩ : ∃ d : Nat, x0 % 4 = (d : Int) ∧ d < 4 := ⟨(x0 % 4).toNat, by omega, by omega⟩
          rw [hd]
          refine r_slT (.inl (.inl hq8)) fun qs H4 e4 hqs => ?_
          with_reducible refine r_name ?_
          with_reducible refine tail _ _ ?_
          refine ⟨f3.tr e4, qs, nines.drop d, ?_, nines_ok d hd4, rfl⟩
          rw [List.map_drop, ← cut_from (by show d ≤ 8; omega)]
          exact hqs
        · with_reducible refine r_next ?_
          with_reducible refine tail _ _ ?_
          exact ⟨f2, q, gs, hq, ok, rfl⟩
    · walk_at "go"
      refine r_d2 (fun _ => ?_) (fun _ => ?_)
      · walk_at "go"
        refine ⟨x0, rfl, fun q gs H2 e2 hq hs => ?_⟩
        with_reducible refine r_name ?_
        with_reducible refine tail _ _ ?_
        exact ⟨f1.tr e2, q, gs, hq, four_ok _ (mem_subs hs), rfl⟩
      · with_reducible refine r_next ?_
        with_reducible refine tail _ _ ?_
        exact ⟨f1, q0, [], .inl (.inl hq0), nil_ok, rfl⟩
end
end Lw
end
section
set_option maxRecDepth 100000
set_option maxHeartbeats 4000000
namespace Lw
open PySem PySem.Spec PyProof.Rows L2
local macro_rules | `(tactic| walk_at "hp") => `(tactic| first | assumption | exact upd_same | exact (by assumption : Ex _ _) _ _ (by assumption))
local macro_rules | `(tactic| walk_at "lk") => `(tactic| fail "no look-up")
local macro_rules | `(tactic| walk_at "tk") => `(tactic| first | assumption | exact Ex.t (by assumption) (by assumption) | exact Ex.l (by assumption) (by assumption) | exact .inl (.inl (by assumption)))
local macro_rules | `(tactic| walk_at "st") => `(tactic| first
  | with_reducible refine r_seq ?_ | with_reducible refine r_asg ?_ | with_reducible refine r_name ?_
  | ((with_reducible refine' r_var ?k1 ?_); (case k1 => exact rfl))
  | with_reducible refine r_c ?_ | with_reducible refine r_op ?_ | with_reducible refine r_un ?_ | with_reducible refine r_cb ?_ | with_reducible refine r_nil ?_ | with_reducible refine r_cons ?_
  | with_reducible refine r_call ?_ | with_reducible refine r_ret ?_ | with_reducible refine r_drop ?_ | with_reducible refine r_ifs ?_ | with_reducible refine r_ife ?_ | with_reducible refine r_next ?_
  | with_reducible refine r_test ?_ | with_reducible refine r_tB ?_ | with_reducible refine r_bl ?_ | with_reducible refine r_blx ?_ | with_reducible refine r_tnot ?_ | with_reducible refine r_tand ?_ | with_reducible refine r_tor ?_
  | with_reducible refine r_not ?_ | with_reducible refine r_and ?_ | with_reducible refine r_or ?_ | with_reducible refine r_I0 ?_ | with_reducible refine r_U ?_
  | with_reducible refine r_eqS ?_ | with_reducible refine r_eqI ?_ | with_reducible refine r_neS ?_ | with_reducible refine r_neI ?_ | with_reducible refine r_chain ?_
  | ((with_reducible refine' r_gtup ?k1 ?k2 ?_); (case k1 => walk_at "tk"); (case k2 => exact rfl))
  | with_reducible refine r_gcons ?_ | with_reducible refine r_gnil ?_
  | ((with_reducible refine' r_ixT ?k1 ?k2 ?_); (case k1 => walk_at "tk"); (case k2 => exact rfl))
  | ((with_reducible refine' r_ixL ?k1 ?k2 ?_); (case k1 => walk_at "tk"); (case k2 => exact rfl))
  | with_reducible refine r_tup ?_ | with_reducible refine r_lst ?_ | with_reducible refine iteT ?_ | with_reducible refine iteF ?_
  | ((with_reducible refine' r_wipe ?k1 ?_); (case k1 => exact rfl)) | with_reducible refine r_tyes ?_
  | ((with_reducible refine' r_lenT ?k1 ?_); (case k1 => walk_at "tk")) | ((with_reducible refine' r_lenL ?k1 ?_); (case k1 => walk_at "tk"))
  | with_reducible refine r_fld ?_ | with_reducible refine r_sfld ?_ | with_reducible refine r_gfld ?_ | with_reducible refine r_meth ?_
  | ((with_reducible refine' r_fld1 ?k1 ?k2 ?k3 ?k4 ?_); (case k1 => walk_at "hp"); (case k2 => assumption); (case k3 => assumption); (case k4 => walk_at "lk"))
  | ((with_reducible refine' r_sfld1 ?k1 ?k2 ?k3 ?k4 ?_); (case k1 => walk_at "hp"); (case k2 => assumption); (case k3 => assumption); (case k4 => exact Nat.lt_of_le_of_lt (Nat.le_of_ble_eq_true rfl) (by decide : 10 < 1000)))
  | ((with_reducible refine' r_gfld1 ?k1 ?k2 ?k3 ?k4 ?_); (case k1 => walk_at "hp"); (case k2 => assumption); (case k3 => assumption); (case k4 => exact Nat.lt_of_le_of_lt (Nat.le_of_ble_eq_true rfl) (by decide : 10 < 1000)))
  | with_reducible refine r_ks ?_ | with_reducible refine r_kq ?_
  | ((with_reducible refine' r_meth1 ?k1 ?k2 ?_); (case k1 => walk_at "hp"); (case k2 => kernel_rfl))
  | with_reducible refine r_kb ?_ | with_reducible refine r_tru ?_ | with_reducible refine r_bm0 ?_ | with_reducible refine r_bm ?_
  | ((with_reducible refine' r_tyL ?k1 ?_); (case k1 => walk_at "hp"))
  | with_reducible refine r_sdput ?_ | with_reducible refine r_dget ?_ | with_reducible refine r_din ?_ | with_reducible refine r_dnin ?_ | with_reducible refine r_dpop ?_
  | ((with_reducible refine' r_dpop0 ?k1 ?_); (case k1 => walk_at "hp"))
  | ((with_reducible refine' r_strY ?k1 ?_); (case k1 => decide +kernel)) | ((with_reducible refine' r_strN ?k1 ?_); (case k1 => decide +kernel))
  | ((with_reducible refine' r_nstrY ?k1 ?_); (case k1 => decide +kernel)) | ((with_reducible refine' r_nstrN ?k1 ?_); (case k1 => decide +kernel))
  | with_reducible refine r_gcd ?_ | with_reducible refine r_par ?_ | with_reducible refine r_par1 ?_
  | with_reducible refine r_make ?_ | with_reducible refine r_orJ ?_
  | with_reducible refine r_isN ?_ | with_reducible refine r_notN ?_
  | with_reducible refine r_abs ?_ | with_reducible refine r_int ?_ | with_reducible refine r_min ?_ | with_reducible refine r_max ?_)
local macro_rules | `(tactic| walk_at "go") => `(tactic| repeat walk_at "st")
local macro_rules | `(tactic| walk_at "st") => `(tactic| first | with_reducible refine r_nt ?_ | with_reducible refine r_nf ?_ | with_reducible refine r_le4 ?_ | with_reducible refine r_ltS ?_ | with_reducible refine r_inS ?_)
local macro_rules | `(tactic| walk_at "st") => `(tactic| first | with_reducible refine r_disp ?_ | with_reducible refine r_pr ?_ | with_reducible refine r_pnil ?_ | ((with_reducible refine' r_isi ?k1 ?k2 ?k3 ?_); (case k1 => exact ClsV.ty _); (case k2 => first | exact .base (.int _) | exact tyT (by assumption)); (case k3 => exact kit_ty (r := true) (by decide +kernel))))
local macro_rules | `(tactic| walk_at "st") => `(tactic| first | with_reducible refine r_ckw ?_ | with_reducible refine r_lenTx ?_)
local macro_rules | `(tactic| walk_at "st") => `(tactic| first | with_reducible refine r_sl ?_ | with_reducible refine r_nopart ?_ | with_reducible refine r_part ?_ | with_reducible refine r_int1 ?_)
local macro_rules | `(tactic| walk_at "st") => `(tactic| first | ((with_reducible refine' r_num ?k0 ?k1 ?k2 ?_); (case k0 => assumption); (case k1 => assumption); (case k2 => assumption)) | ((with_reducible refine' r_I ?k1 ?_); (case k1 => first | decide | exact ⟨by decide, by decide⟩ | exact .inl ⟨by decide, by decide⟩ | exact .inl ⟨by omega, by omega⟩)))
local macro_rules | `(tactic| walk_at "gn") => `(tactic| repeat (fail_if_success (with_reducible refine r_seq ?_)); walk_at "st")
def spRequest (K : PySem.W.Frag) : Sp := fun vs H Q _ => ∃ (a l : Addr) (ns : List Int) (L : Lim) (at_ mo : Int), vs = [.ref a, .int at_, .ref l, .int mo] ∧ NumsAt K H a ns ∧ 0 ≤ at_ ∧ at_ ≤ 140 ∧ LimAt K H l L ∧ WfL L ∧ 0 ≤ mo ∧ mo ≤ 1000000000 ∧
  ∀ (p : Addr) (mo' : Int) (g : Str) (c : Int) (H' : Hp), Ex H H' → SqT K H' p [.int mo', .str g, .int c] → mo ≤ mo' → mo' ≤ 1000000000 → nameOk g = true → 1 ≤ c → c ≤ 1000 → Q (.ref p) H'
theorem flowW : [("window" : Str), "span", "bucket", "gap"].all (fun x => inV (.str x) [.str "window", .str "span", .str "bucket", .str "gap"]) = true := by decide +kernel
theorem heldW : [("held" : Str), "pool"].all (fun x => !inV (.str x) [.str "window", .str "span", .str "bucket", .str "gap"]) = true := by decide +kernel
theorem asks_ok : [("a" : Str), "b", "c7", "z", "q"].all nameOk = true := by decide +kernel
section
variable {P : Program} {w : World} {K : PySem.W.Frag} {mg : Str → Option Value} {base : Heap}
abbrev sc_law_request_N : List Str := ["_law_numbers_here", "_law_at", "_law_limit_here", "_law_moment", "_law_wide", "_law_step", "_law_cost"]
theorem sc_law_request : FnScope ["_law_numbers_here", "_law_at", "_law_limit_here", "_law_moment", "_law_wide", "_law_step", "_law_cost"] ["_law_numbers_here", "_law_at", "_law_limit_here", "_law_moment"] (defScope s_law_request) := ⟨rfl, rfl, rfl, by decide +kernel, rfl, by decide +kernel, by decide +kernel⟩
theorem ok_law_request (T : Tx w K mg) : OkD P w K mg base ("_law_request", none) 1 ["_law_numbers_here", "_law_at", "_law_limit_here", "_law_moment"] (spRequest K) := by
  refine (T.fd_law_request).ok sc_law_request (fun vs H Q E h => ?_) (fun cdv A outer s H vs Q E hr h => ?_)
  · obtain ⟨a, l, ns, L, at_, mo, rfl, _⟩ := h
    rfl
  · obtain ⟨a, l, ns, L, at_, mo, rfl, hn, a0, a1, hL, lm, m0, m1, k⟩ := h
    obtain ⟨x0, e0, x00, x01⟩ := hn.get (k := at_) (by omega) (by omega)
    obtain ⟨x1, e1, x10, x11⟩ := hn.get (k := at_ + 1) (by omega) (by omega)
    obtain ⟨x2, e2, x20, x21⟩ := hn.get (k := at_ + 2) (by omega) (by omega)
    obtain ⟨x3, e3, x30, x31⟩ := hn.get (k := at_ + 3) (by omega) (by omega)
    have ex0 : Ex H H := Ex.rf
    refine ⟨_, (PSs.nox (pss_cons (ps_set (i := 4) sc_law_request.nd rfl (Or.inl rfl) pe_int)
    (pss_cons (ps_if (pt_cmpR (r := rIn K false) op_in_seq (pe_ix (r := rIxT K) ix_tup (pv 2) pe_int (fun _ _ => rfl)) (pe_lst (pa_cons pe_str (pa_cons pe_str (pa_cons pe_str (pa_cons pe_str pa_nil))))) (by rfl)) (pss_one (ps_set (i := 4) sc_law_request.nd rfl (Or.inl rfl) (pe_ix (r := rIxT K) ix_tup (pe_ix (r := rIxT K) ix_tup (pv 2) pe_int (fun _ _ => rfl)) (pe_un un_neg pe_int) (fun _ _ => rfl)))) pss_nil)
    (pss_cons (ps_set (i := 5) sc_law_request.nd rfl (Or.inl rfl) (pe_ix (r := rIxL K) ix_list (pe_lst (pa_cons pe_int (pa_cons pe_int (pa_cons pe_int (pa_cons (pe_op op_mod (pe_callTy cr_intJ (by rfl) T.f_int (by decide +kernel) (pa_cons (pe_ix (r := rIxL K) ix_list (pv 0) (pe_op op_add (pv 1) pe_int) (fun _ _ => rfl)) pa_nil)) pe_int) (pa_cons (pe_op op_mod (pe_callTy cr_intJ (by rfl) T.f_int (by decide +kernel) (pa_cons (pe_ix (r := rIxL K) ix_list (pv 0) (pe_op op_add (pv 1) pe_int) (fun _ _ => rfl)) pa_nil)) (pv 4)) (pa_cons (pe_op op_sub (pv 4) pe_int) (pa_cons (pv 4) pa_nil)))))))) (pe_op op_mod (pe_callTy cr_intJ (by rfl) T.f_int (by decide +kernel) (pa_cons (pe_ix (r := rIxL K) ix_list (pv 0) (pv 1) (fun _ _ => rfl)) pa_nil)) pe_int) (fun _ _ => rfl)))
    (pss_cons (ps_set (i := 3) sc_law_request.nd rfl (Or.inl rfl) (pe_callB (cr_minJ rfl) (by rfl) T.f_min (by decide +kernel) (pa_cons (pe_op op_pow pe_int pe_int) (pa_cons (pe_op op_add (pv 3) (pv 5)) pa_nil))))
    (pss_cons (ps_set (i := 6) sc_law_request.nd rfl (Or.inl rfl) (pe_op op_add pe_int (pe_op op_mod (pe_callTy cr_intJ (by rfl) T.f_int (by decide +kernel) (pa_cons (pe_ix (r := rIxL K) ix_list (pv 0) (pe_op op_add (pv 1) pe_int) (fun _ _ => rfl)) pa_nil)) (pe_ix (r := rIxL K) ix_list (pe_lst (pa_cons pe_int (pa_cons pe_int (pa_cons pe_int (pa_cons pe_int (pa_cons pe_int pa_nil)))))) (pe_op op_mod (pe_callTy cr_intJ (by rfl) T.f_int (by decide +kernel) (pa_cons (pe_op op_fdiv (pe_ix (r := rIxL K) ix_list (pv 0) (pe_op op_add (pv 1) pe_int) (fun _ _ => rfl)) pe_int) pa_nil)) pe_int) (fun _ _ => rfl)))))
    (pss_one (ps_ret (pe_tup (pa_cons (pv 3) (pa_cons (pe_ix (r := rIxL K) ix_list (pe_lst (pa_cons pe_str (pa_cons pe_str (pa_cons pe_str (pa_cons pe_str (pa_cons pe_str pa_nil)))))) (pe_op op_mod (pe_callTy cr_intJ (by rfl) T.f_int (by decide +kernel) (pa_cons (pe_ix (r := rIxL K) ix_list (pv 0) (pe_op op_add (pv 1) pe_int) (fun _ _ => rfl)) pa_nil)) pe_int) (fun _ _ => rfl)) (pa_cons (pv 6) pa_nil)))))))))))), ?_⟩
    with_reducible refine r_seq ?_
    with_reducible refine r_asg ?_
    with_reducible refine r_c ?_
    with_reducible refine r_name ?_
    with_reducible refine r_seq ?_
    refine r_cutI (fun σ' H' => Ex H H' ∧ ∃ wide : Int, 1 ≤ wide ∧ wide ≤ 1000 ∧ σ' = [some (.ref a), some (.int at_), some (.ref l), some (.int mo), some (.int wide), none, none]) ?_ (fun tail => ?_)
    · rintro σ' H2 ⟨f2, wide, w0, w1, rfl⟩
      walk_at "go"
      refine r_I (show 0 < wide by omega) ?_
      have b7 : 0 ≤ x1 % 7 ∧ x1 % 7 < 7 := ⟨Int.emod_nonneg _ (by decide), Int.emod_lt_of_pos _ (by decide)⟩
      have bw : 0 ≤ x1 % wide ∧ x1 % wide < wide := ⟨Int.emod_nonneg _ (by omega), Int.emod_lt_of_pos _ (by omega)⟩
      walk_at "go"
      refine r_newL fun q3 H3 n3 e3 hq3 => ?_
      have f3 := f2.tr e3
      walk_at "go"
      obtain ⟨v, hv, v0, v1⟩ : ∃ v : Int, atI [V.int 0, V.int 0, V.int 1, V.int (x1 % 7), V.int (x1 % wide), V.int (wide - 1), V.int wide] (x0 % 7) = some (.int v) ∧ 0 ≤ v ∧ v ≤ 1000 := by
        have h0 : 0 ≤ x0 % 7 := Int.emod_nonneg _ (by decide)
        have h1 : x0 % 7 < 7 := Int.emod_lt_of_pos _ (by decide)
        generalize x0 % 7 = d at h0 h1
        obtain ⟨n, rfl⟩ := Int.eq_ofNat_of_zero_le h0
        match n, h1 with
        | 0, _ => exact ⟨_, rfl, by omega, by omega⟩
        | 1, _ => exact ⟨_, rfl, by omega, by omega⟩
        | 2, _ => exact ⟨_, rfl, by omega, by omega⟩
        | 3, _ => exact ⟨_, rfl, by omega, by omega⟩
        | 4, _ => exact ⟨_, rfl, by omega, by omega⟩
        | 5, _ => exact ⟨_, rfl, by omega, by omega⟩
        | 6, _ => exact ⟨_, rfl, by omega, by omega⟩
        | n + 7, h => exact absurd h (by omega)
      refine r_ixL (.inl (.inl hq3)) hv ?_
      walk_at "go"
      refine r_newL fun q4 H4 n4 e4 hq4 => ?_
      have f4 := f3.tr e4
      walk_at "go"
      obtain ⟨d, hd, d0, d1⟩ : ∃ v : Int, atI [V.int 2, V.int 3, V.int 6, V.int 12, V.int 1000] (x2 / 5 % 5) = some (.int v) ∧ 0 < v ∧ v ≤ 1000 := by
        have h0 : 0 ≤ x2 / 5 % 5 := Int.emod_nonneg _ (by decide)
        have h1 : x2 / 5 % 5 < 5 := Int.emod_lt_of_pos _ (by decide)
        generalize x2 / 5 % 5 = d at h0 h1
        obtain ⟨n, rfl⟩ := Int.eq_ofNat_of_zero_le h0
        match n, h1 with
        | 0, _ => exact ⟨_, rfl, by omega, by omega⟩
        | 1, _ => exact ⟨_, rfl, by omega, by omega⟩
        | 2, _ => exact ⟨_, rfl, by omega, by omega⟩
        | 3, _ => exact ⟨_, rfl, by omega, by omega⟩
        | 4, _ => exact ⟨_, rfl, by omega, by omega⟩
        | n + 5, h => exact absurd h (by omega)
      refine r_ixL (.inl (.inl hq4)) hd ?_
      refine r_I d0 ?_
      have c0 : 0 ≤ x3 % d ∧ x3 % d < d := ⟨Int.emod_nonneg _ (by omega), Int.emod_lt_of_pos _ (by omega)⟩
      walk_at "go"
      refine r_newL fun q5 H5 n5 e5 hq5 => ?_
      have f5 := f4.tr e5
      walk_at "go"
      obtain ⟨g, hg, gok⟩ : ∃ g : Str, atI [V.str "a", V.str "b", V.str "c7", V.str "z", V.str "q"] (x2 % 5) = some (.str g) ∧ nameOk g = true := by
        have h0 : 0 ≤ x2 % 5 := Int.emod_nonneg _ (by decide)
        have h1 : x2 % 5 < 5 := Int.emod_lt_of_pos _ (by decide)
        have ok := List.all_eq_true.mp asks_ok
        generalize x2 % 5 = d at h0 h1
        obtain ⟨n, rfl⟩ := Int.eq_ofNat_of_zero_le h0
        match n, h1 with
        | 0, _ => exact ⟨_, rfl, ok _ (.head _)⟩
        | 1, _ => exact ⟨_, rfl, ok _ (.tail _ (.head _))⟩
        | 2, _ => exact ⟨_, rfl, ok _ (.tail _ (.tail _ (.head _)))⟩
        | 3, _ => exact ⟨_, rfl, ok _ (.tail _ (.tail _ (.tail _ (.head _))))⟩
        | 4, _ => exact ⟨_, rfl, ok _ (.tail _ (.tail _ (.tail _ (.tail _ (.head _)))))⟩
        | n + 5, h => exact absurd h (by omega)
      refine r_ixL (.inl (.inl hq5)) hg ?_
      walk_at "go"
      refine r_newT fun q6 H6 n6 e6 hq6 => ?_
      walk_at "go"
      have e9 : (10 : Int) ^ (9 : Int).toNat = 1000000000 := by decide
      rw [e9] at hq6
      exact k q6 _ g _ H6 (f5.tr e6) (.inl (.inl hq6)) (by omega) (by omega) gok (by omega) (by omega)
    · obtain ⟨nm, gs, r⟩ := L
      obtain ⟨ga, na, h1, h2, h3⟩ := hL
      have fw := List.all_eq_true.mp flowW
      have hw := List.all_eq_true.mp heldW
      have wf := lm.num
      cases r with
      | window m l' =>
        have h1 : SqT K H l [.str nm, .str "window", .ref ga, .ref na] := h1
        have h3 : SqT K H na [.int m, .int l'] := h3
        walk_at "go"
        refine r_newL fun q3 H3 n3 e3 hq3 => ?_
        have h1 := e3.t h1
        have h3 := e3.t h3
        walk_at "go"
        refine r_inL (.inl (.inl hq3)) rfl rfl ?_
        rw [if_neg Bool.false_ne_true, fw "window" (.head _)]
        walk_at "gn"
        exact tail _ _ ⟨e3, l', by have := wf; unfold WfNum at this; omega, by have := wf; unfold WfNum at this; omega, rfl⟩
      | span m l' =>
        have h1 : SqT K H l [.str nm, .str "span", .ref ga, .ref na] := h1
        have h3 : SqT K H na [.int m, .int l'] := h3
        walk_at "go"
        refine r_newL fun q3 H3 n3 e3 hq3 => ?_
        have h1 := e3.t h1
        have h3 := e3.t h3
        walk_at "go"
        refine r_inL (.inl (.inl hq3)) rfl rfl ?_
        rw [if_neg Bool.false_ne_true, fw "span" (.tail _ (.head _))]
        walk_at "gn"
        exact tail _ _ ⟨e3, l', by have := wf; unfold WfNum at this; omega, by have := wf; unfold WfNum at this; omega, rfl⟩
      | bucket m l' =>
        have h1 : SqT K H l [.str nm, .str "bucket", .ref ga, .ref na] := h1
        have h3 : SqT K H na [.int m, .int l'] := h3
        walk_at "go"
        refine r_newL fun q3 H3 n3 e3 hq3 => ?_
        have h1 := e3.t h1
        have h3 := e3.t h3
        walk_at "go"
        refine r_inL (.inl (.inl hq3)) rfl rfl ?_
        rw [if_neg Bool.false_ne_true, fw "bucket" (.tail _ (.tail _ (.head _)))]
        walk_at "gn"
        exact tail _ _ ⟨e3, l', by have := wf; unfold WfNum at this; omega, by have := wf; unfold WfNum at this; omega, rfl⟩
      | gap l' =>
        have h1 : SqT K H l [.str nm, .str "gap", .ref ga, .ref na] := h1
        have h3 : SqT K H na [.int l'] := h3
        walk_at "go"
        refine r_newL fun q3 H3 n3 e3 hq3 => ?_
        have h1 := e3.t h1
        have h3 := e3.t h3
        walk_at "go"
        refine r_inL (.inl (.inl hq3)) rfl rfl ?_
        rw [if_neg Bool.false_ne_true, fw "gap" (.tail _ (.tail _ (.tail _ (.head _))))]
        walk_at "gn"
        exact tail _ _ ⟨e3, l', by have := wf; unfold WfNum at this; omega, by have := wf; unfold WfNum at this; omega, rfl⟩
      | held m =>
        have h1 : SqT K H l [.str nm, .str "held", .ref ga, .ref na] := h1
        walk_at "go"
        refine r_newL fun q3 H3 n3 e3 hq3 => ?_
        walk_at "go"
        refine r_inL (.inl (.inl hq3)) rfl rfl ?_
        have hw := hw "held" (.head _)
        rw [Bool.not_eq_true'] at hw
        rw [if_neg Bool.false_ne_true, hw]
        walk_at "gn"
        exact tail _ _ ⟨e3, 4, by decide, by decide, rfl⟩
      | pool m sh =>
        have h1 : SqT K H l [.str nm, .str "pool", .ref ga, .ref na] := h1
        walk_at "go"
        refine r_newL fun q3 H3 n3 e3 hq3 => ?_
        walk_at "go"
        refine r_inL (.inl (.inl hq3)) rfl rfl ?_
        have hw := hw "pool" (.tail _ (.head _))
        rw [Bool.not_eq_true'] at hw
        rw [if_neg Bool.false_ne_true, hw]
        walk_at "gn"
        exact tail _ _ ⟨e3, 4, by decide, by decide, rfl⟩
end
end Lw
end
section
set_option maxRecDepth 100000
set_option maxHeartbeats 4000000
namespace Lw
open PySem PySem.Spec PyProof.Rows L2
local macro_rules | `(tactic| walk_at "hp") => `(tactic| first | assumption | exact upd_same | exact (by assumption : Ex _ _) _ _ (by assumption))
local macro_rules | `(tactic| walk_at "lk") => `(tactic| fail "no look-up")
local macro_rules | `(tactic| walk_at "tk") => `(tactic| first | assumption | exact Ex.t (by assumption) (by assumption) | exact Ex.l (by assumption) (by assumption) | exact .inl (.inl (by assumption)))
local macro_rules | `(tactic| walk_at "st") => `(tactic| first
  | with_reducible refine r_seq ?_ | with_reducible refine r_asg ?_ | with_reducible refine r_name ?_
  | ((with_reducible refine' r_var ?k1 ?_); (case k1 => exact rfl))
  | with_reducible refine r_c ?_ | with_reducible refine r_op ?_ | with_reducible refine r_un ?_ | with_reducible refine r_cb ?_ | with_reducible refine r_nil ?_ | with_reducible refine r_cons ?_
  | with_reducible refine r_call ?_ | with_reducible refine r_ret ?_ | with_reducible refine r_drop ?_ | with_reducible refine r_ifs ?_ | with_reducible refine r_ife ?_ | with_reducible refine r_next ?_
  | with_reducible refine r_test ?_ | with_reducible refine r_tB ?_ | with_reducible refine r_bl ?_ | with_reducible refine r_blx ?_ | with_reducible refine r_tnot ?_ | with_reducible refine r_tand ?_ | with_reducible refine r_tor ?_
  | with_reducible refine r_not ?_ | with_reducible refine r_and ?_ | with_reducible refine r_or ?_ | with_reducible refine r_I0 ?_ | with_reducible refine r_U ?_
  | with_reducible refine r_eqS ?_ | with_reducible refine r_eqI ?_ | with_reducible refine r_neS ?_ | with_reducible refine r_neI ?_ | with_reducible refine r_chain ?_
  | ((with_reducible refine' r_gtup ?k1 ?k2 ?_); (case k1 => walk_at "tk"); (case k2 => exact rfl))
  | with_reducible refine r_gcons ?_ | with_reducible refine r_gnil ?_
  | ((with_reducible refine' r_ixT ?k1 ?k2 ?_); (case k1 => walk_at "tk"); (case k2 => exact rfl))
  | ((with_reducible refine' r_ixL ?k1 ?k2 ?_); (case k1 => walk_at "tk"); (case k2 => exact rfl))
  | with_reducible refine r_tup ?_ | with_reducible refine r_lst ?_ | with_reducible refine iteT ?_ | with_reducible refine iteF ?_
  | ((with_reducible refine' r_wipe ?k1 ?_); (case k1 => exact rfl)) | with_reducible refine r_tyes ?_
  | ((with_reducible refine' r_lenT ?k1 ?_); (case k1 => walk_at "tk")) | ((with_reducible refine' r_lenL ?k1 ?_); (case k1 => walk_at "tk"))
  | with_reducible refine r_fld ?_ | with_reducible refine r_sfld ?_ | with_reducible refine r_gfld ?_ | with_reducible refine r_meth ?_
  | ((with_reducible refine' r_fld1 ?k1 ?k2 ?k3 ?k4 ?_); (case k1 => walk_at "hp"); (case k2 => assumption); (case k3 => assumption); (case k4 => walk_at "lk"))
  | ((with_reducible refine' r_sfld1 ?k1 ?k2 ?k3 ?k4 ?_); (case k1 => walk_at "hp"); (case k2 => assumption); (case k3 => assumption); (case k4 => exact Nat.lt_of_le_of_lt (Nat.le_of_ble_eq_true rfl) (by decide : 10 < 1000)))
  | ((with_reducible refine' r_gfld1 ?k1 ?k2 ?k3 ?k4 ?_); (case k1 => walk_at "hp"); (case k2 => assumption); (case k3 => assumption); (case k4 => exact Nat.lt_of_le_of_lt (Nat.le_of_ble_eq_true rfl) (by decide : 10 < 1000)))
  | with_reducible refine r_ks ?_ | with_reducible refine r_kq ?_
  | ((with_reducible refine' r_meth1 ?k1 ?k2 ?_); (case k1 => walk_at "hp"); (case k2 => kernel_rfl))
  | with_reducible refine r_kb ?_ | with_reducible refine r_tru ?_ | with_reducible refine r_bm0 ?_ | with_reducible refine r_bm ?_
  | ((with_reducible refine' r_tyL ?k1 ?_); (case k1 => walk_at "hp"))
  | with_reducible refine r_sdput ?_ | with_reducible refine r_dget ?_ | with_reducible refine r_din ?_ | with_reducible refine r_dnin ?_ | with_reducible refine r_dpop ?_
  | ((with_reducible refine' r_dpop0 ?k1 ?_); (case k1 => walk_at "hp"))
  | ((with_reducible refine' r_strY ?k1 ?_); (case k1 => decide +kernel)) | ((with_reducible refine' r_strN ?k1 ?_); (case k1 => decide +kernel))
  | ((with_reducible refine' r_nstrY ?k1 ?_); (case k1 => decide +kernel)) | ((with_reducible refine' r_nstrN ?k1 ?_); (case k1 => decide +kernel))
  | with_reducible refine r_gcd ?_ | with_reducible refine r_par ?_ | with_reducible refine r_par1 ?_
  | with_reducible refine r_make ?_ | with_reducible refine r_orJ ?_
  | with_reducible refine r_isN ?_ | with_reducible refine r_notN ?_
  | with_reducible refine r_abs ?_ | with_reducible refine r_int ?_ | with_reducible refine r_min ?_ | with_reducible refine r_max ?_)
local macro_rules | `(tactic| walk_at "go") => `(tactic| repeat walk_at "st")
local macro_rules | `(tactic| walk_at "st") => `(tactic| first | with_reducible refine r_nt ?_ | with_reducible refine r_nf ?_ | with_reducible refine r_le4 ?_ | with_reducible refine r_ltS ?_ | with_reducible refine r_inS ?_)
local macro_rules | `(tactic| walk_at "st") => `(tactic| first | with_reducible refine r_disp ?_ | with_reducible refine r_pr ?_ | with_reducible refine r_pnil ?_ | ((with_reducible refine' r_isi ?k1 ?k2 ?k3 ?_); (case k1 => exact ClsV.ty _); (case k2 => first | exact .base (.int _) | exact tyT (by assumption)); (case k3 => exact kit_ty (r := true) (by decide +kernel))))
local macro_rules | `(tactic| walk_at "st") => `(tactic| first | with_reducible refine r_ckw ?_ | with_reducible refine r_lenTx ?_)
local macro_rules | `(tactic| walk_at "st") => `(tactic| first | with_reducible refine r_sl ?_ | with_reducible refine r_nopart ?_ | with_reducible refine r_part ?_ | with_reducible refine r_int1 ?_)
local macro_rules | `(tactic| walk_at "st") => `(tactic| first | ((with_reducible refine' r_num ?k0 ?k1 ?k2 ?_); (case k0 => assumption); (case k1 => assumption); (case k2 => assumption)) | ((with_reducible refine' r_I ?k1 ?_); (case k1 => first | decide | exact ⟨by decide, by decide⟩ | exact .inl ⟨by decide, by decide⟩ | exact .inl ⟨by omega, by omega⟩)))
def spLooser (K : PySem.W.Frag) : Sp := fun vs H Q _ => ∃ (l : Addr) (L : Lim) (n : Int), vs = [.ref l, .int n] ∧ LimAt K H l L ∧ LmOk L ∧
  ∀ (p : Addr) (d : Int) (H' : Hp), Ex H H' → 0 ≤ d → d ≤ 2 → LimAt K H' p ⟨"loose", L.groups, Pl.loosen d L.rule⟩ → Q (.ref p) H'
section
variable {P : Program} {w : World} {K : PySem.W.Frag} {mg : Str → Option Value} {base : Heap}
abbrev sc_law_looser_N : List Str := ["_law_limit_here", "_law_number", "_law_numbers_here"]
theorem sc_law_looser : FnScope ["_law_limit_here", "_law_number", "_law_numbers_here"] ["_law_limit_here", "_law_number"] (defScope s_law_looser) := ⟨rfl, rfl, rfl, by decide +kernel, rfl, by decide +kernel, by decide +kernel⟩
theorem ok_law_looser (T : Tx w K mg) : OkD P w K mg base ("_law_looser", none) 1 ["_law_limit_here", "_law_number"] (spLooser K) := by
  refine (T.fd_law_looser).ok sc_law_looser (fun vs H Q E h => ?_) (fun cdv A outer s H vs Q E hr h => ?_)
  · obtain ⟨l, L, n, rfl, _⟩ := h
    rfl
  · obtain ⟨l, ⟨nm, gs, r⟩, n, rfl, hL, lm, k⟩ := h
    refine ⟨_, (PSs.nox (pss_cons (ps_set (i := 2) sc_law_looser.nd rfl (Or.inl rfl) (pe_ix (r := rIxT K) ix_tup (pv 0) pe_int (fun _ _ => rfl)))
    (pss_cons (ps_if (pt_cmpR op_eq (pe_ix (r := rIxT K) ix_tup (pv 0) pe_int (fun _ _ => rfl)) pe_str (nomark _)) (pss_one (ps_ret (pe_tup (pa_cons pe_str (pa_cons pe_str (pa_cons (pe_ix (r := rIxT K) ix_tup (pv 0) pe_int (fun _ _ => rfl)) (pa_cons (pe_tup (pa_cons (pe_callB (cr_maxJ rfl) (by rfl) T.f_max (by decide +kernel) (pa_cons pe_int (pa_cons (pe_op op_sub (pe_ix (r := rIxT K) ix_tup (pv 2) pe_int (fun _ _ => rfl)) (pe_op op_mod (pe_callTy cr_intJ (by rfl) T.f_int (by decide +kernel) (pa_cons (pv 1) pa_nil)) pe_int)) pa_nil))) pa_nil)) pa_nil))))))) pss_nil)
    (pss_cons (ps_if (pt_cmpR op_eq (pe_ix (r := rIxT K) ix_tup (pv 0) pe_int (fun _ _ => rfl)) pe_str (nomark _)) (pss_one (ps_ret (pe_tup (pa_cons pe_str (pa_cons pe_str (pa_cons (pe_tup pa_nil) (pa_cons (pe_tup (pa_cons (pe_op op_add (pe_ix (r := rIxT K) ix_tup (pv 2) pe_int (fun _ _ => rfl)) (pe_op op_mod (pe_callTy cr_intJ (by rfl) T.f_int (by decide +kernel) (pa_cons (pv 1) pa_nil)) pe_int)) (pa_cons (pe_ix (r := rIxT K) ix_tup (pv 2) pe_int (fun _ _ => rfl)) pa_nil))) pa_nil))))))) pss_nil)
    (pss_one (ps_ret (pe_op op_catA (pe_op op_catA (pe_tup (pa_cons pe_str pa_nil)) (pe_slice (r := rSlA K) sl_tupA (pv 0) (po_some pe_int) (po_some pe_int))) (pe_tup (pa_cons (pe_op op_catA (pe_tup (pa_cons (pe_op op_add (pe_ix (r := rIxT K) ix_tup (pv 2) pe_int (fun _ _ => rfl)) (pe_op op_mod (pe_callTy cr_intJ (by rfl) T.f_int (by decide +kernel) (pa_cons (pv 1) pa_nil)) pe_int)) pa_nil)) (pe_slice (r := rSlA K) sl_tupA (pv 2) (po_some pe_int) po_none)) pa_nil))))))))), ?_⟩
    obtain ⟨ga, na, h1, h2, h3⟩ := hL
    have d0 : 0 ≤ n % 3 := Int.emod_nonneg _ (by decide)
    have d2 : n % 3 < 3 := Int.emod_lt_of_pos _ (by decide)
    cases r with
    | window m l' =>
      have h1 : SqT K H l [.str nm, .str "window", .ref ga, .ref na] := h1
      have h3 : SqT K H na [.int m, .int l'] := h3
      walk_at "go"
      refine r_newT fun p1 H1 n1 e1 hp1 => ?_
      have h1 := e1.t h1
      have h3 := e1.t h3
      walk_at "go"
      refine r_slT h1 fun p2 H2 e2 hp2 => ?_
      have hp2 : SqT K H2 p2 [.str "window", .ref ga] := hp2
      have h3 := e2.t h3
      refine r_catT (e2.t (.inl (.inl hp1))) hp2 (Nat.le_of_ble_eq_true rfl) fun p3 H3 e3 hp3 => ?_
      have hp3 : SqT K H3 p3 [.str "loose", .str "window", .ref ga] := hp3
      have h3 := e3.t h3
      walk_at "go"
      refine r_newT fun p4 H4 n4 e4 hp4 => ?_
      have h3 := e4.t h3
      walk_at "go"
      refine r_slT h3 fun p5 H5 e5 hp5 => ?_
      have hp5 : SqT K H5 p5 [.int l'] := hp5
      refine r_catT (e5.t (.inl (.inl hp4))) hp5 (Nat.le_of_ble_eq_true rfl) fun p6 H6 e6 hp6 => ?_
      walk_at "go"
      refine r_newT fun p7 H7 n7 e7 hp7 => ?_
      have e37 : Ex H3 H7 := e4.tr (e5.tr (e6.tr e7))
      refine r_catT (e37.t hp3) (.inl (.inl hp7)) (Nat.le_of_ble_eq_true rfl) fun p8 H8 e8 hp8 => ?_
      walk_at "go"
      have e68 : Ex H6 H8 := e7.tr e8
      have e08 : Ex H H8 := e1.tr (e2.tr (e3.tr (e37.tr e8)))
      exact k p8 (n % 3) H8 e08 d0 (by omega) ⟨ga, p6, hp8, e08.t h2, e68.t hp6⟩
    | span m l' =>
      have h1 : SqT K H l [.str nm, .str "span", .ref ga, .ref na] := h1
      have h3 : SqT K H na [.int m, .int l'] := h3
      walk_at "go"
      refine r_newT fun p1 H1 n1 e1 hp1 => ?_
      have h1 := e1.t h1
      have h3 := e1.t h3
      walk_at "go"
      refine r_slT h1 fun p2 H2 e2 hp2 => ?_
      have hp2 : SqT K H2 p2 [.str "span", .ref ga] := hp2
      have h3 := e2.t h3
      refine r_catT (e2.t (.inl (.inl hp1))) hp2 (Nat.le_of_ble_eq_true rfl) fun p3 H3 e3 hp3 => ?_
      have hp3 : SqT K H3 p3 [.str "loose", .str "span", .ref ga] := hp3
      have h3 := e3.t h3
      walk_at "go"
      refine r_newT fun p4 H4 n4 e4 hp4 => ?_
      have h3 := e4.t h3
      walk_at "go"
      refine r_slT h3 fun p5 H5 e5 hp5 => ?_
      have hp5 : SqT K H5 p5 [.int l'] := hp5
      refine r_catT (e5.t (.inl (.inl hp4))) hp5 (Nat.le_of_ble_eq_true rfl) fun p6 H6 e6 hp6 => ?_
      walk_at "go"
      refine r_newT fun p7 H7 n7 e7 hp7 => ?_
      have e37 : Ex H3 H7 := e4.tr (e5.tr (e6.tr e7))
      refine r_catT (e37.t hp3) (.inl (.inl hp7)) (Nat.le_of_ble_eq_true rfl) fun p8 H8 e8 hp8 => ?_
      walk_at "go"
      have e68 : Ex H6 H8 := e7.tr e8
      have e08 : Ex H H8 := e1.tr (e2.tr (e3.tr (e37.tr e8)))
      exact k p8 (n % 3) H8 e08 d0 (by omega) ⟨ga, p6, hp8, e08.t h2, e68.t hp6⟩
    | bucket m l' =>
      have h1 : SqT K H l [.str nm, .str "bucket", .ref ga, .ref na] := h1
      have h3 : SqT K H na [.int m, .int l'] := h3
      walk_at "go"
      refine r_newT fun p1 H1 n1 e1 hp1 => ?_
      have h1 := e1.t h1
      have h3 := e1.t h3
      walk_at "go"
      refine r_slT h1 fun p2 H2 e2 hp2 => ?_
      have hp2 : SqT K H2 p2 [.str "bucket", .ref ga] := hp2
      have h3 := e2.t h3
      refine r_catT (e2.t (.inl (.inl hp1))) hp2 (Nat.le_of_ble_eq_true rfl) fun p3 H3 e3 hp3 => ?_
      have hp3 : SqT K H3 p3 [.str "loose", .str "bucket", .ref ga] := hp3
      have h3 := e3.t h3
      walk_at "go"
      refine r_newT fun p4 H4 n4 e4 hp4 => ?_
      have h3 := e4.t h3
      walk_at "go"
      refine r_slT h3 fun p5 H5 e5 hp5 => ?_
      have hp5 : SqT K H5 p5 [.int l'] := hp5
      refine r_catT (e5.t (.inl (.inl hp4))) hp5 (Nat.le_of_ble_eq_true rfl) fun p6 H6 e6 hp6 => ?_
      walk_at "go"
      refine r_newT fun p7 H7 n7 e7 hp7 => ?_
      have e37 : Ex H3 H7 := e4.tr (e5.tr (e6.tr e7))
      refine r_catT (e37.t hp3) (.inl (.inl hp7)) (Nat.le_of_ble_eq_true rfl) fun p8 H8 e8 hp8 => ?_
      walk_at "go"
      have e68 : Ex H6 H8 := e7.tr e8
      have e08 : Ex H H8 := e1.tr (e2.tr (e3.tr (e37.tr e8)))
      exact k p8 (n % 3) H8 e08 d0 (by omega) ⟨ga, p6, hp8, e08.t h2, e68.t hp6⟩
    | gap t =>
      have h1 : SqT K H l [.str nm, .str "gap", .ref ga, .ref na] := h1
      have h3 : SqT K H na [.int t] := h3
      walk_at "go"
      refine r_newT fun p1 H1 n1 e1 hp1 => ?_
      walk_at "go"
      refine r_newT fun p2 H2 n2 e2 hp2 => ?_
      walk_at "go"
      have e02 := e1.tr e2
      exact k p2 (n % 3) H2 e02 d0 (by omega) ⟨ga, p1, .inl (.inl hp2), e02.t h2, .inl (.inl (e2 _ _ hp1))⟩
    | held m =>
      have h1 : SqT K H l [.str nm, .str "held", .ref ga, .ref na] := h1
      have h3 : SqT K H na [.int m] := h3
      walk_at "go"
      refine r_newT fun p1 H1 n1 e1 hp1 => ?_
      have h1 := e1.t h1
      have h3 := e1.t h3
      walk_at "go"
      refine r_slT h1 fun p2 H2 e2 hp2 => ?_
      have hp2 : SqT K H2 p2 [.str "held", .ref ga] := hp2
      have h3 := e2.t h3
      refine r_catT (e2.t (.inl (.inl hp1))) hp2 (Nat.le_of_ble_eq_true rfl) fun p3 H3 e3 hp3 => ?_
      have hp3 : SqT K H3 p3 [.str "loose", .str "held", .ref ga] := hp3
      have h3 := e3.t h3
      walk_at "go"
      refine r_newT fun p4 H4 n4 e4 hp4 => ?_
      have h3 := e4.t h3
      walk_at "go"
      refine r_slT h3 fun p5 H5 e5 hp5 => ?_
      have hp5 : SqT K H5 p5 [] := hp5
      refine r_catT (e5.t (.inl (.inl hp4))) hp5 (Nat.le_of_ble_eq_true rfl) fun p6 H6 e6 hp6 => ?_
      walk_at "go"
      refine r_newT fun p7 H7 n7 e7 hp7 => ?_
      have e37 : Ex H3 H7 := e4.tr (e5.tr (e6.tr e7))
      refine r_catT (e37.t hp3) (.inl (.inl hp7)) (Nat.le_of_ble_eq_true rfl) fun p8 H8 e8 hp8 => ?_
      walk_at "go"
      have e68 : Ex H6 H8 := e7.tr e8
      have e08 : Ex H H8 := e1.tr (e2.tr (e3.tr (e37.tr e8)))
      exact k p8 (n % 3) H8 e08 d0 (by omega) ⟨ga, p6, hp8, e08.t h2, e68.t hp6⟩
    | pool m sh =>
      have h1 : SqT K H l [.str nm, .str "pool", .ref ga, .ref na] := h1
      obtain ⟨s, h3, h4⟩ := h3
      have hg : gs = [] := (lm.pl m sh rfl).1
      walk_at "go"
      refine r_newT fun p0 H0 n0 e0 hp0 => ?_
      have h1 := e0.t h1
      have h3 := e0.t h3
      walk_at "go"
      refine r_newT fun p1 H1 n1 e1 hp1 => ?_
      walk_at "go"
      refine r_newT fun p2 H2 n2 e2 hp2 => ?_
      walk_at "go"
      have e02 := e0.tr (e1.tr e2)
      refine k p2 (n % 3) H2 e02 d0 (by omega) ⟨p0, p1, .inl (.inl hp2), ?_, s, .inl (.inl (e2 _ _ hp1)), e02.shs h4⟩
      rw [hg]
      exact .inl (.inl ((e1.tr e2) _ _ hp0))
end
end Lw
end
section
set_option maxRecDepth 100000
set_option maxHeartbeats 4000000
namespace Lw
open PySem PySem.Spec PyProof.Rows L2
local macro_rules | `(tactic| walk_at "hp") => `(tactic| first | assumption | exact upd_same | exact (by assumption : Ex _ _) _ _ (by assumption))
local macro_rules | `(tactic| walk_at "lk") => `(tactic| fail "no look-up")
local macro_rules | `(tactic| walk_at "tk") => `(tactic| first | assumption | exact Ex.t (by assumption) (by assumption) | exact Ex.l (by assumption) (by assumption) | exact .inl (.inl (by assumption)))
local macro_rules | `(tactic| walk_at "st") => `(tactic| first
  | with_reducible refine r_seq ?_ | with_reducible refine r_asg ?_ | with_reducible refine r_name ?_
  | ((with_reducible refine' r_var ?k1 ?_); (case k1 => exact rfl))
  | with_reducible refine r_c ?_ | with_reducible refine r_op ?_ | with_reducible refine r_un ?_ | with_reducible refine r_cb ?_ | with_reducible refine r_nil ?_ | with_reducible refine r_cons ?_
  | with_reducible refine r_call ?_ | with_reducible refine r_ret ?_ | with_reducible refine r_drop ?_ | with_reducible refine r_ifs ?_ | with_reducible refine r_ife ?_ | with_reducible refine r_next ?_
  | with_reducible refine r_test ?_ | with_reducible refine r_tB ?_ | with_reducible refine r_bl ?_ | with_reducible refine r_blx ?_ | with_reducible refine r_tnot ?_ | with_reducible refine r_tand ?_ | with_reducible refine r_tor ?_
  | with_reducible refine r_not ?_ | with_reducible refine r_and ?_ | with_reducible refine r_or ?_ | with_reducible refine r_I0 ?_ | with_reducible refine r_U ?_
  | with_reducible refine r_eqS ?_ | with_reducible refine r_eqI ?_ | with_reducible refine r_neS ?_ | with_reducible refine r_neI ?_ | with_reducible refine r_chain ?_
  | ((with_reducible refine' r_gtup ?k1 ?k2 ?_); (case k1 => walk_at "tk"); (case k2 => exact rfl))
  | with_reducible refine r_gcons ?_ | with_reducible refine r_gnil ?_
  | ((with_reducible refine' r_ixT ?k1 ?k2 ?_); (case k1 => walk_at "tk"); (case k2 => exact rfl))
  | ((with_reducible refine' r_ixL ?k1 ?k2 ?_); (case k1 => walk_at "tk"); (case k2 => exact rfl))
  | with_reducible refine r_tup ?_ | with_reducible refine r_lst ?_ | with_reducible refine iteT ?_ | with_reducible refine iteF ?_
  | ((with_reducible refine' r_wipe ?k1 ?_); (case k1 => exact rfl)) | with_reducible refine r_tyes ?_
  | ((with_reducible refine' r_lenT ?k1 ?_); (case k1 => walk_at "tk")) | ((with_reducible refine' r_lenL ?k1 ?_); (case k1 => walk_at "tk"))
  | with_reducible refine r_fld ?_ | with_reducible refine r_sfld ?_ | with_reducible refine r_gfld ?_ | with_reducible refine r_meth ?_
  | ((with_reducible refine' r_fld1 ?k1 ?k2 ?k3 ?k4 ?_); (case k1 => walk_at "hp"); (case k2 => assumption); (case k3 => assumption); (case k4 => walk_at "lk"))
  | ((with_reducible refine' r_sfld1 ?k1 ?k2 ?k3 ?k4 ?_); (case k1 => walk_at "hp"); (case k2 => assumption); (case k3 => assumption); (case k4 => exact Nat.lt_of_le_of_lt (Nat.le_of_ble_eq_true rfl) (by decide : 10 < 1000)))
  | ((with_reducible refine' r_gfld1 ?k1 ?k2 ?k3 ?k4 ?_); (case k1 => walk_at "hp"); (case k2 => assumption); (case k3 => assumption); (case k4 => exact Nat.lt_of_le_of_lt (Nat.le_of_ble_eq_true rfl) (by decide : 10 < 1000)))
  | with_reducible refine r_ks ?_ | with_reducible refine r_kq ?_
  | ((with_reducible refine' r_meth1 ?k1 ?k2 ?_); (case k1 => walk_at "hp"); (case k2 => kernel_rfl))
  | with_reducible refine r_kb ?_ | with_reducible refine r_tru ?_ | with_reducible refine r_bm0 ?_ | with_reducible refine r_bm ?_
  | ((with_reducible refine' r_tyL ?k1 ?_); (case k1 => walk_at "hp"))
  | with_reducible refine r_sdput ?_ | with_reducible refine r_dget ?_ | with_reducible refine r_din ?_ | with_reducible refine r_dnin ?_ | with_reducible refine r_dpop ?_
  | ((with_reducible refine' r_dpop0 ?k1 ?_); (case k1 => walk_at "hp"))
  | ((with_reducible refine' r_strY ?k1 ?_); (case k1 => decide +kernel)) | ((with_reducible refine' r_strN ?k1 ?_); (case k1 => decide +kernel))
  | ((with_reducible refine' r_nstrY ?k1 ?_); (case k1 => decide +kernel)) | ((with_reducible refine' r_nstrN ?k1 ?_); (case k1 => decide +kernel))
  | with_reducible refine r_gcd ?_ | with_reducible refine r_par ?_ | with_reducible refine r_par1 ?_
  | with_reducible refine r_make ?_ | with_reducible refine r_orJ ?_
  | with_reducible refine r_isN ?_ | with_reducible refine r_notN ?_
  | with_reducible refine r_abs ?_ | with_reducible refine r_int ?_ | with_reducible refine r_min ?_ | with_reducible refine r_max ?_)
local macro_rules | `(tactic| walk_at "go") => `(tactic| repeat walk_at "st")
local macro_rules | `(tactic| walk_at "st") => `(tactic| first | with_reducible refine r_nt ?_ | with_reducible refine r_nf ?_ | with_reducible refine r_le4 ?_ | with_reducible refine r_ltS ?_ | with_reducible refine r_inS ?_)
local macro_rules | `(tactic| walk_at "st") => `(tactic| first | with_reducible refine r_disp ?_ | with_reducible refine r_pr ?_ | with_reducible refine r_pnil ?_ | ((with_reducible refine' r_isi ?k1 ?k2 ?k3 ?_); (case k1 => exact ClsV.ty _); (case k2 => first | exact .base (.int _) | exact tyT (by assumption)); (case k3 => exact kit_ty (r := true) (by decide +kernel))))
local macro_rules | `(tactic| walk_at "st") => `(tactic| first | with_reducible refine r_ckw ?_ | with_reducible refine r_lenTx ?_)
local macro_rules | `(tactic| walk_at "st") => `(tactic| first | with_reducible refine r_sl ?_ | with_reducible refine r_nopart ?_ | with_reducible refine r_part ?_ | with_reducible refine r_int1 ?_)
local macro_rules | `(tactic| walk_at "st") => `(tactic| first | ((with_reducible refine' r_num ?k0 ?k1 ?k2 ?_); (case k0 => assumption); (case k1 => assumption); (case k2 => assumption)) | ((with_reducible refine' r_I ?k1 ?_); (case k1 => first | decide | exact ⟨by decide, by decide⟩ | exact .inl ⟨by decide, by decide⟩ | exact .inl ⟨by omega, by omega⟩)))
def nmK (k : Nat) : Str := "n" ++ Str.ofString (toString k)
def spLimits (K : PySem.W.Frag) : Sp := fun vs H Q _ => ∃ (a : Addr) (ns : List Int), vs = [.ref a] ∧ NumsAt K H a ns ∧
  ∀ (p : Addr) (ps : List (Addr × Lim)) (n : Nat) (H' : Hp), Ex H H' → H' p = some (.lst (ps.map fun x => .ref x.1)) → (∀ x ∈ ps, LimAt K H' x.1 x.2 ∧ LmOk x.2) → ps.map (fun x => x.2.name) = (List.range n).map nmK → 2 ≤ n → n ≤ 4 → Q (.ref p) H'
theorem LmOk.rename {n n' : Str} {gs : List Str} {r : Rule} (h : LmOk ⟨n, gs, r⟩) : LmOk ⟨n', gs, r⟩ := ⟨⟨⟨h.wf.sm.g, h.wf.sm.s⟩, h.wf.num⟩, h.low, h.gs, h.pl⟩
theorem r_addS {i j : Str} {H : Hp} {Q : VK} (hz : i.length + j.length ≤ 10000) (q : Q (.str (i ++ j)) H) : (∃ i' j', V.str i = .str i' ∧ V.str j = .str j' ∧ i'.length + j'.length ≤ sizeLine ∧ Q (.str (i' ++ j')) H) := ⟨i, j, rfl, rfl, Evl.sz_of (by omega), q⟩
theorem nmK_len : ∀ k < 17, ("n" : Str).length + (Str.ofString (toString k)).length ≤ 10000 := by decide +kernel
section
variable {P : Program} {w : World} {K : PySem.W.Frag} {mg : Str → Option Value} {base : Heap}
abbrev sc_law_limits_N : List Str := ["_law_numbers_here", "_law_limits_here", "_law_k", "_law_limit_here", "_law_groups_here"]
theorem sc_law_limits : FnScope ["_law_numbers_here", "_law_limits_here", "_law_k", "_law_limit_here", "_law_groups_here"] ["_law_numbers_here"] (defScope s_law_limits) := ⟨rfl, rfl, rfl, by decide +kernel, rfl, by decide +kernel, by decide +kernel⟩
theorem ok_law_limits (T : Tx w K mg) : OkD P w K mg base ("_law_limits", none) 4 ["_law_numbers_here"] (spLimits K) := by
  refine (T.fd_law_limits).ok sc_law_limits (fun vs H Q E h => ?_) (fun cdv A outer s H vs Q E hr h => ?_)
  · obtain ⟨a, ns, rfl, _⟩ := h
    rfl
  · obtain ⟨a, ns, rfl, hn, k⟩ := h
    obtain ⟨x1, e1, x10, x11⟩ := hn.get (k := 1) (by omega) (by omega)
    obtain ⟨x2, e2, x20, x21⟩ := hn.get (k := 2) (by omega) (by omega)
    have ex0 : Ex H H := Ex.rf
    refine ⟨_, (PSs.nox (pss_cons (ps_set (i := 1) sc_law_limits.nd rfl (Or.inl rfl) (pe_lst pa_nil))
    (pss_cons (ps_for PassesOwn.never rfl (pi_range1 (by rfl) T.f_range (pa_cons (pe_op op_add pe_int (pe_op op_mod (pe_callTy cr_intJ (by rfl) T.f_int (by decide +kernel) (pa_cons (pe_ix (r := rIxL K) ix_list (pv 0) pe_int (fun _ _ => rfl)) pa_nil)) pe_int)) pa_nil)) (pg_name (i := 2) sc_law_limits.nd rfl (Or.inl rfl))
    (pss_cons (ps_set (i := 3) sc_law_limits.nd rfl (Or.inl rfl) (pe_call ((ok_law_limit T).mono (by decide)) hr (by rfl) T.g_law_limit T.fd_law_limit.kp T.bd_law_limit .nil pass0 (pa_cons (pv 0) (pa_cons (pe_op op_add pe_int (pe_op op_mul pe_int (pv 2))) (pa_cons (pe_ix (r := rIxL K) ix_list (pe_lst (pa_cons pe_str (pa_cons pe_str (pa_cons pe_str (pa_cons pe_str (pa_cons pe_str (pa_cons pe_str pa_nil))))))) (pe_op op_mod (pe_callTy cr_intJ (by rfl) T.f_int (by decide +kernel) (pa_cons (pe_ix (r := rIxL K) ix_list (pv 0) (pe_op op_add pe_int (pe_op op_mul pe_int (pv 2))) (fun _ _ => rfl)) pa_nil)) pe_int) (fun _ _ => rfl)) pa_nil)))))
    (pss_cons (ps_if (PW.pt (pw_and (pt_cmpR op_gt (pe_op op_mod (pe_callTy cr_intJ (by rfl) T.f_int (by decide +kernel) (pa_cons (pe_ix (r := rIxL K) ix_list (pv 0) pe_int (fun _ _ => rfl)) pa_nil)) pe_int) pe_int (nomark _)) (pw_and1 (pt_cmpR op_ne (pe_ix (r := rIxT K) ix_tup (pv 3) pe_int (fun _ _ => rfl)) pe_str (nomark _))))) (pss_cons (ps_set (i := 4) sc_law_limits.nd rfl (Or.inl rfl) (pe_ix (r := rIxL K) ix_list (pe_lst (pa_cons (pe_tup pa_nil) (pa_cons (pe_tup (pa_cons pe_str (pa_cons pe_str pa_nil))) pa_nil))) (pe_op op_mod (pe_callTy cr_intJ (by rfl) T.f_int (by decide +kernel) (pa_cons (pe_op op_fdiv (pe_ix (r := rIxL K) ix_list (pv 0) pe_int (fun _ _ => rfl)) pe_int) pa_nil)) pe_int) (fun _ _ => rfl)))
    (pss_one (ps_set (i := 3) sc_law_limits.nd rfl (Or.inl rfl) (pe_op op_catA (pe_op op_catA (pe_slice (r := rSlA K) sl_tupA (pv 3) po_none (po_some pe_int)) (pe_tup (pa_cons (pv 4) pa_nil))) (pe_slice (r := rSlA K) sl_tupA (pv 3) (po_some pe_int) po_none))))) pss_nil)
    (pss_one (ps_expr (pe_bm PySem.F.plainAttrs_list PySem.F.slot_list_append PySem.F.type_list_append mt_append (pv 1) (pa_cons (pe_op op_catA (pe_tup (pa_cons (pe_op op_add_str pe_str (pe_callTy cr_strJ (by rfl) T.f_str (by decide +kernel) (pa_cons (pv 2) pa_nil))) pa_nil)) (pe_slice (r := rSlA K) sl_tupA (pv 3) (po_some pe_int) po_none)) pa_nil)))))))
    (pss_one (ps_ret (pv 1)))))), ?_⟩
    walk_at "go"
    refine r_newL fun p H1 n1 f1 hp => ?_
    walk_at "go"
    obtain ⟨n, hn3, n2, n4⟩ : ∃ n : Nat, 2 + x1 % 3 = (n : Int) ∧ 2 ≤ n ∧ n ≤ 4 := by
      have h0 : 0 ≤ x1 % 3 := Int.emod_nonneg _ (by decide)
      have h1 : x1 % 3 < 3 := Int.emod_lt_of_pos _ (by decide)
      exact ⟨(2 + x1 % 3).toNat, by omega, by omega, by omega⟩
    refine fo_R (n := (n : Int)) (fun i σ' H' => Ex H H' ∧ ∃ (ps : List (Addr × Lim)) (z2 z3 z4 : Option V), H' p = some (.lst (ps.map fun x => .ref x.1)) ∧ (∀ x ∈ ps, LimAt K H' x.1 x.2 ∧ LmOk x.2) ∧ ps.map (fun x => x.2.name) = (List.range i).map nmK ∧ σ' = [some (.ref a), some (.ref p), z2, z3, z4]) ⟨by omega, by omega⟩ (fun QA q => ?_) ⟨f1, [], none, none, none, hp, (fun x hx => nomatch hx), rfl, rfl⟩ ?_ ?_
    · walk_at "go"
      rw [hn3]
      exact q
    · rintro i σ' H2 hi ⟨f2, ps, z2, z3, z4, hp2, hl2, hn2, rfl⟩
      have hi4 : i < 4 := by omega
      obtain ⟨x3, e3, x30, x31⟩ := hn.get (k := 14 + 5 * (i : Int)) (by omega) (by omega)
      have hps : ps.length = i := by
        have := congrArg List.length hn2
        rw [List.length_map, List.length_map, List.length_range] at this
        exact this
      walk_at "go"
      refine r_newL fun q3 H3 n3 g3 hq3 => ?_
      have f3 := f2.tr g3
      walk_at "go"
      obtain ⟨wd, hwd, wok⟩ : ∃ wd : Str, atI [V.str "window", V.str "span", V.str "bucket", V.str "gap", V.str "held", V.str "pool"] (x3 % 6) = some (.str wd) ∧ wd ∈ words := by
        have h0 : 0 ≤ x3 % 6 := Int.emod_nonneg _ (by decide)
        have h1 : x3 % 6 < 6 := Int.emod_lt_of_pos _ (by decide)
        generalize x3 % 6 = d at h0 h1
        obtain ⟨m, rfl⟩ := Int.eq_ofNat_of_zero_le h0
        match m, h1 with
        | 0, _ => exact ⟨_, rfl, .head _⟩
        | 1, _ => exact ⟨_, rfl, .tail _ (.head _)⟩
        | 2, _ => exact ⟨_, rfl, .tail _ (.tail _ (.head _))⟩
        | 3, _ => exact ⟨_, rfl, .tail _ (.tail _ (.tail _ (.head _)))⟩
        | 4, _ => exact ⟨_, rfl, .tail _ (.tail _ (.tail _ (.tail _ (.head _))))⟩
        | 5, _ => exact ⟨_, rfl, .tail _ (.tail _ (.tail _ (.tail _ (.tail _ (.head _)))))⟩
        | n + 6, h => exact absurd h (by omega)
      refine r_ixL (.inl (.inl hq3)) hwd ?_
      walk_at "go"
      refine ⟨a, ns, 10 + 5 * (i : Int), wd, rfl, hn.ex f3, by omega, by omega, wok, fun l L H4 g4 hL lm _ => ?_⟩
      have g24 := g3.tr g4
      have f4 := f2.tr g24
      with_reducible refine r_name ?_
      with_reducible refine r_seq ?_
      refine r_cutI (fun σ' H' => Ex H2 H' ∧ ∃ (l : Addr) (L : Lim) (z4 : Option V), LimAt K H' l L ∧ LmOk L ∧ σ' = [some (.ref a), some (.ref p), some (.int (i : Int)), some (.ref l), z4]) ?_ (fun tail => ?_)
      · rintro σ' H5 ⟨g5, l, ⟨nm, gs, r⟩, z4, hL, lm, rfl⟩
        obtain ⟨ga, na, h1, h2, h3⟩ := hL
        have hp5 := g5 _ _ hp2
        walk_at "go"
        refine ⟨(i : Int), rfl, by
          have : ∀ k < 4, ((k : Nat) : Int).natAbs.log2 < 1920 := by decide
          exact this i hi4, ?_⟩
        refine ⟨_, _, rfl, rfl, Evl.sz_of (Nat.le_trans (nmK_len i (by omega)) (by decide)), ?_⟩
        walk_at "go"
        refine r_newT fun p1 H6 n6 e6 hp1 => ?_
        have h1 := e6.t h1
        walk_at "go"
        refine r_slT h1 fun p2 H7 e7 hp2' => ?_
        have hp2' : SqT K H7 p2 [.str (Rule.word r), .ref ga, .ref na] := hp2'
        refine r_catT (e7.t (.inl (.inl hp1))) hp2' (Nat.le_of_ble_eq_true rfl) fun p3 H8 e8 hp3 => ?_
        have e58 : Ex H5 H8 := e6.tr (e7.tr e8)
        have hp8 := e58 _ _ hp5
        walk_at "go"
        refine r_app hp8 (by rw [List.length_map]; omega) ?_
        walk_at "go"
        have tm : Tu H8 (upd H8 p (.lst ((ps.map fun x => V.ref x.1) ++ [.ref p3]))) := Tu.mt hp8 (by rintro (⟨_, h⟩ | ⟨_, _, h⟩) <;> cases h)
        have t2 : Tu H2 (upd H8 p (.lst ((ps.map fun x => V.ref x.1) ++ [.ref p3]))) := (g5.tr e58).tu.tr tm
        refine ⟨(f2.tr (g5.tr e58)).mt n1, ps ++ [(p3, ⟨nmK i, gs, r⟩)], _, _, _, ?_, fun x hx => ?_, ?_, rfl⟩
        · rw [upd_same, List.map_append]
          rfl
        · rcases List.mem_append.mp hx with z | z
          · exact ⟨t2.lim (hl2 x z).1, (hl2 x z).2⟩
          · rw [List.mem_singleton.mp z]
            exact ⟨⟨ga, na, tm.t hp3, tm.t (e58.t h2), tm.num (e58.tu.num h3)⟩, lm.rename⟩
        · rw [List.map_append, hn2, List.range_succ, List.map_append]
          rfl
      · have hL0 := hL
        obtain ⟨nm, gs, r⟩ := L
        obtain ⟨ga, na, h1, h2, h3⟩ := hL
        walk_at "go"
        refine r_d2 (fun _ => ?_) (fun _ => ?_)
        · walk_at "go"
          by_cases hpl : Rule.word r = "pool"
          · refine r_nstrN hpl ?_
            with_reducible refine r_next ?_
            exact tail _ _ ⟨g24, l, _, _, hL0, lm, rfl⟩
          · refine r_nstrY hpl ?_
            walk_at "go"
            refine r_newT fun pa H5 n5 e5 hpa => ?_
            walk_at "go"
            refine r_newT fun pb H6 n6 e6 hpb => ?_
            walk_at "go"
            refine r_newL fun pc H7 n7 e7 hpc => ?_
            have e47 := e5.tr (e6.tr e7)
            have f7 := f4.tr e47
            walk_at "go"
            obtain ⟨q, gs', hq, hq2, gok⟩ : ∃ (q : Addr) (gs' : List Str), atI [V.ref pa, V.ref pb] (x2 / 4 % 2) = some (.ref q) ∧ SqT K H7 q (gs'.map V.str) ∧ okB gs' = true := by
              have h0 : 0 ≤ x2 / 4 % 2 := Int.emod_nonneg _ (by decide)
              have h1 : x2 / 4 % 2 < 2 := Int.emod_lt_of_pos _ (by decide)
              generalize x2 / 4 % 2 = d at h0 h1
              obtain ⟨m, rfl⟩ := Int.eq_ofNat_of_zero_le h0
              match m, h1 with
              | 0, _ => exact ⟨_, [], rfl, .inl (.inl ((e6.tr e7) _ _ hpa)), nil_ok⟩
              | 1, _ => exact ⟨_, ["a", "b"], rfl, .inl (.inl (e7 _ _ hpb)), ab_ok⟩
              | n + 2, h => exact absurd h (by omega)
            refine r_ixL (.inl (.inl hpc)) hq ?_
            have h1 := e47.t h1
            walk_at "go"
            refine r_slT h1 fun p2 H8 e8 hp2' => ?_
            have hp2' : SqT K H8 p2 [.str nm, .str (Rule.word r)] := hp2'
            walk_at "go"
            refine r_newT fun p3 H9 n9 e9 hp3 => ?_
            refine r_catT (e9.t hp2') (.inl (.inl hp3)) (Nat.le_of_ble_eq_true rfl) fun p4 H10 e10 hp4 => ?_
            have h1 := (e8.tr (e9.tr e10)).t h1
            walk_at "go"
            refine r_slT h1 fun p5 H11 e11 hp5 => ?_
            have hp5 : SqT K H11 p5 [.ref na] := hp5
            refine r_catT (e11.t hp4) hp5 (Nat.le_of_ble_eq_true rfl) fun p6 H12 e12 hp6 => ?_
            have e712 : Ex H7 H12 := e8.tr (e9.tr (e10.tr (e11.tr e12)))
            have e412 : Ex H4 H12 := e47.tr e712
            with_reducible refine r_name ?_
            have gk := okB_ok gok
            have np : ∀ m sh, r ≠ .pool m sh := fun m sh e => hpl (by rw [e]; rfl)
            exact tail _ _ ⟨g24.tr e412, p6, ⟨nm, gs', r⟩, _, ⟨q, na, hp6, e712.t hq2, e412.tu.num h3⟩, ⟨⟨⟨gk.most, fun m sh e => absurd e (np m sh)⟩, lm.wf.num⟩, lm.low, gk, fun m sh e => absurd e (np m sh)⟩, rfl⟩
        · refine iteF ?_
          with_reducible refine r_next ?_
          exact tail _ _ ⟨g24, l, _, _, hL0, lm, rfl⟩
    · rintro σ' H2 ⟨f2, ps, z2, z3, z4, hp2, hl2, hn2, rfl⟩
      walk_at "go"
      exact k p ps n H2 f2 hp2 hl2 (by rw [hn2]; rfl) n2 n4
end
end Lw
end
section
set_option maxRecDepth 100000
set_option maxHeartbeats 4000000
namespace Lw
open PySem PySem.Spec PyProof.Rows L2
local macro_rules | `(tactic| walk_at "hp") => `(tactic| first | assumption | exact upd_same | exact (by assumption : Ex _ _) _ _ (by assumption))
local macro_rules | `(tactic| walk_at "lk") => `(tactic| fail "no look-up")
local macro_rules | `(tactic| walk_at "tk") => `(tactic| first | assumption | exact Ex.t (by assumption) (by assumption) | exact Ex.l (by assumption) (by assumption) | exact .inl (.inl (by assumption)))
local macro_rules | `(tactic| walk_at "st") => `(tactic| first
  | with_reducible refine r_seq ?_ | with_reducible refine r_asg ?_ | with_reducible refine r_name ?_
  | ((with_reducible refine' r_var ?k1 ?_); (case k1 => exact rfl))
  | with_reducible refine r_c ?_ | with_reducible refine r_op ?_ | with_reducible refine r_un ?_ | with_reducible refine r_cb ?_ | with_reducible refine r_nil ?_ | with_reducible refine r_cons ?_
  | with_reducible refine r_call ?_ | with_reducible refine r_ret ?_ | with_reducible refine r_drop ?_ | with_reducible refine r_ifs ?_ | with_reducible refine r_ife ?_ | with_reducible refine r_next ?_
  | with_reducible refine r_test ?_ | with_reducible refine r_tB ?_ | with_reducible refine r_bl ?_ | with_reducible refine r_blx ?_ | with_reducible refine r_tnot ?_ | with_reducible refine r_tand ?_ | with_reducible refine r_tor ?_
  | with_reducible refine r_not ?_ | with_reducible refine r_and ?_ | with_reducible refine r_or ?_ | with_reducible refine r_I0 ?_ | with_reducible refine r_U ?_
  | with_reducible refine r_eqS ?_ | with_reducible refine r_eqI ?_ | with_reducible refine r_neS ?_ | with_reducible refine r_neI ?_ | with_reducible refine r_chain ?_
  | ((with_reducible refine' r_gtup ?k1 ?k2 ?_); (case k1 => walk_at "tk"); (case k2 => exact rfl))
  | with_reducible refine r_gcons ?_ | with_reducible refine r_gnil ?_
  | ((with_reducible refine' r_ixT ?k1 ?k2 ?_); (case k1 => walk_at "tk"); (case k2 => exact rfl))
  | ((with_reducible refine' r_ixL ?k1 ?k2 ?_); (case k1 => walk_at "tk"); (case k2 => exact rfl))
  | with_reducible refine r_tup ?_ | with_reducible refine r_lst ?_ | with_reducible refine iteT ?_ | with_reducible refine iteF ?_
  | ((with_reducible refine' r_wipe ?k1 ?_); (case k1 => exact rfl)) | with_reducible refine r_tyes ?_
  | ((with_reducible refine' r_lenT ?k1 ?_); (case k1 => walk_at "tk")) | ((with_reducible refine' r_lenL ?k1 ?_); (case k1 => walk_at "tk"))
  | with_reducible refine r_fld ?_ | with_reducible refine r_sfld ?_ | with_reducible refine r_gfld ?_ | with_reducible refine r_meth ?_
  | ((with_reducible refine' r_fld1 ?k1 ?k2 ?k3 ?k4 ?_); (case k1 => walk_at "hp"); (case k2 => assumption); (case k3 => assumption); (case k4 => walk_at "lk"))
  | ((with_reducible refine' r_sfld1 ?k1 ?k2 ?k3 ?k4 ?_); (case k1 => walk_at "hp"); (case k2 => assumption); (case k3 => assumption); (case k4 => exact Nat.lt_of_le_of_lt (Nat.le_of_ble_eq_true rfl) (by decide : 10 < 1000)))
  | ((with_reducible refine' r_gfld1 ?k1 ?k2 ?k3 ?k4 ?_); (case k1 => walk_at "hp"); (case k2 => assumption); (case k3 => assumption); (case k4 => exact Nat.lt_of_le_of_lt (Nat.le_of_ble_eq_true rfl) (by decide : 10 < 1000)))
  | with_reducible refine r_ks ?_ | with_reducible refine r_kq ?_
  | ((with_reducible refine' r_meth1 ?k1 ?k2 ?_); (case k1 => walk_at "hp"); (case k2 => kernel_rfl))
  | with_reducible refine r_kb ?_ | with_reducible refine r_tru ?_ | with_reducible refine r_bm0 ?_ | with_reducible refine r_bm ?_
  | ((with_reducible refine' r_tyL ?k1 ?_); (case k1 => walk_at "hp"))
  | with_reducible refine r_sdput ?_ | with_reducible refine r_dget ?_ | with_reducible refine r_din ?_ | with_reducible refine r_dnin ?_ | with_reducible refine r_dpop ?_
  | ((with_reducible refine' r_dpop0 ?k1 ?_); (case k1 => walk_at "hp"))
  | ((with_reducible refine' r_strY ?k1 ?_); (case k1 => decide +kernel)) | ((with_reducible refine' r_strN ?k1 ?_); (case k1 => decide +kernel))
  | ((with_reducible refine' r_nstrY ?k1 ?_); (case k1 => decide +kernel)) | ((with_reducible refine' r_nstrN ?k1 ?_); (case k1 => decide +kernel))
  | with_reducible refine r_gcd ?_ | with_reducible refine r_par ?_ | with_reducible refine r_par1 ?_
  | with_reducible refine r_make ?_ | with_reducible refine r_orJ ?_
  | with_reducible refine r_isN ?_ | with_reducible refine r_notN ?_
  | with_reducible refine r_abs ?_ | with_reducible refine r_int ?_ | with_reducible refine r_min ?_ | with_reducible refine r_max ?_)
local macro_rules | `(tactic| walk_at "go") => `(tactic| repeat walk_at "st")
local macro_rules | `(tactic| walk_at "st") => `(tactic| first | with_reducible refine r_nt ?_ | with_reducible refine r_nf ?_ | with_reducible refine r_le4 ?_ | with_reducible refine r_ltS ?_ | with_reducible refine r_inS ?_)
local macro_rules | `(tactic| walk_at "st") => `(tactic| first | with_reducible refine r_disp ?_ | with_reducible refine r_pr ?_ | with_reducible refine r_pnil ?_ | ((with_reducible refine' r_isi ?k1 ?k2 ?k3 ?_); (case k1 => exact ClsV.ty _); (case k2 => first | exact .base (.int _) | exact tyT (by assumption)); (case k3 => exact kit_ty (r := true) (by decide +kernel))))
local macro_rules | `(tactic| walk_at "st") => `(tactic| first | with_reducible refine r_ckw ?_ | with_reducible refine r_lenTx ?_)
local macro_rules | `(tactic| walk_at "st") => `(tactic| first | with_reducible refine r_sl ?_ | with_reducible refine r_nopart ?_ | with_reducible refine r_part ?_ | with_reducible refine r_int1 ?_)
local macro_rules | `(tactic| walk_at "st") => `(tactic| first | ((with_reducible refine' r_num ?k0 ?k1 ?k2 ?_); (case k0 => assumption); (case k1 => assumption); (case k2 => assumption)) | ((with_reducible refine' r_I ?k1 ?_); (case k1 => first | decide | exact ⟨by decide, by decide⟩ | exact .inl ⟨by decide, by decide⟩ | exact .inl ⟨by omega, by omega⟩)))
structure BkOut (Ls : List Lim) (I O : Lim) : Prop where
  nd : (Ls.map Lim.name).Nodup
  two : 2 ≤ Ls.length
  five : Ls.length ≤ 5
  bk : ∀ L ∈ Ls, BkL L
  hi : I ∈ Ls
  ho : O ∈ Ls
  ne : O.name ≠ I.name
  idle : idleB I O = true
  ndg : I.groups.Nodup
def spIPair (K : PySem.W.Frag) : Sp := fun vs H Q _ => ∃ (p : Addr) (ps : List (Addr × Lim)) (n : Nat) (x : Int), vs = [.ref p, .int x] ∧ H p = some (.lst (ps.map fun x => .ref x.1)) ∧ (∀ x ∈ ps, LimAt K H x.1 x.2 ∧ LmOk x.2) ∧ ps.map (fun x => x.2.name) = (List.range n).map nmK ∧ 2 ≤ n ∧ n ≤ 4 ∧
  ∀ (r p' li lo : Addr) (ps' : List (Addr × Lim)) (I O : Lim) (H' : Hp), Ex H H' → SqT K H' r [.ref p', .ref li, .ref lo] → H' p' = some (.lst (ps'.map fun x => .ref x.1)) → (∀ x ∈ ps', LimAt K H' x.1 x.2) → LimAt K H' li I → LimAt K H' lo O → BkOut (ps'.map (·.2)) I O → Q (.ref r) H'
theorem LmOk.bk {L : Lim} (h : LmOk L) (n : nameOk L.name = true) : BkL L := ⟨h.wf, n, h.gs.ok, h.gs.asc, fun m sh e => ⟨(h.pl m sh e).1, fun s hs => (h.pl m sh e).2.ok s.1 (List.mem_map.mpr ⟨s, hs, rfl⟩), (h.pl m sh e).2.asc⟩⟩
theorem loose_name : nameOk "loose" = true := by decide +kernel
theorem loose_bk {nm : Str} {gs : List Str} {r : Rule} {d : Int} (h : LmOk ⟨nm, gs, r⟩) (d0 : 0 ≤ d) (d2 : d ≤ 2) : BkL ⟨"loose", gs, Pl.loosen d r⟩ := by
  have low := h.low
  have num := h.wf.num
  have pl := h.pl
  have sms := h.wf.sm.s
  cases r with
  | window m l =>
    have low : m ≤ 500 := low
    obtain ⟨a, b, c, e⟩ := num
    exact ⟨⟨⟨h.wf.sm.g, fun m sh e => nomatch e⟩, ⟨by omega, by omega, c, e⟩⟩, loose_name, h.gs.ok, h.gs.asc, fun m sh e => nomatch e⟩
  | span m l =>
    have low : m ≤ 500 := low
    obtain ⟨a, b, c, e⟩ := num
    exact ⟨⟨⟨h.wf.sm.g, fun m sh e => nomatch e⟩, ⟨by omega, by omega, c, e⟩⟩, loose_name, h.gs.ok, h.gs.asc, fun m sh e => nomatch e⟩
  | bucket m l =>
    have low : m ≤ 500 := low
    obtain ⟨a, b, c, e⟩ := num
    exact ⟨⟨⟨h.wf.sm.g, fun m sh e => nomatch e⟩, ⟨by omega, by omega, c, e⟩⟩, loose_name, h.gs.ok, h.gs.asc, fun m sh e => nomatch e⟩
  | gap t =>
    have low : t ≤ 500 := low
    obtain ⟨a, b⟩ := num
    exact ⟨⟨⟨h.wf.sm.g, fun m sh e => nomatch e⟩, ⟨by omega, by omega⟩⟩, loose_name, h.gs.ok, h.gs.asc, fun m sh e => nomatch e⟩
  | held m =>
    have low : m ≤ 500 := low
    obtain ⟨a, b⟩ := num
    exact ⟨⟨⟨h.wf.sm.g, fun m sh e => nomatch e⟩, ⟨by omega, by omega⟩⟩, loose_name, h.gs.ok, h.gs.asc, fun m sh e => nomatch e⟩
  | pool m sh =>
    have low : m ≤ 500 := low
    obtain ⟨a, b, c, e, f, g⟩ := num
    refine ⟨⟨⟨h.wf.sm.g, fun m' sh' q => ?_⟩, ⟨by omega, by omega, by omega, e, f, g⟩⟩, loose_name, h.gs.ok, h.gs.asc, fun m' sh' q => ?_⟩
    · have q : Rule.pool (m + d) sh = .pool m' sh' := q
      cases q
      exact g.2
    · have q : Rule.pool (m + d) sh = .pool m' sh' := q
      cases q
      exact ⟨(pl m sh rfl).1, fun s hs => (pl m sh rfl).2.ok s.1 (List.mem_map.mpr ⟨s, hs, rfl⟩), (pl m sh rfl).2.asc⟩
theorem nm_nd : ∀ n < 5, ((List.range n).map nmK ++ [("loose" : Str)]).Nodup := by decide +kernel
theorem nm_ok : ∀ k < 5, nameOk (nmK k) = true := by decide +kernel
section
variable {P : Program} {w : World} {K : PySem.W.Frag} {mg : Str → Option Value} {base : Heap}
abbrev sc_law_idle_pair_N : List Str := ["_law_limits_here", "_law_number", "_law_limit_here", "_law_other", "_law_loose"]
theorem sc_law_idle_pair : FnScope ["_law_limits_here", "_law_number", "_law_limit_here", "_law_other", "_law_loose"] ["_law_limits_here", "_law_number"] (defScope s_law_idle_pair) := ⟨rfl, rfl, rfl, by decide +kernel, rfl, by decide +kernel, by decide +kernel⟩
theorem ok_law_idle_pair (T : Tx w K mg) : OkD P w K mg base ("_law_idle_pair", none) 8 ["_law_limits_here", "_law_number"] (spIPair K) := by
  refine (T.fd_law_idle_pair).ok sc_law_idle_pair (fun vs H Q E h => ?_) (fun cdv A outer s H vs Q E hr h => ?_)
  · obtain ⟨p, ps, n, x, rfl, _⟩ := h
    rfl
  · obtain ⟨p, ps, n, x, rfl, hp, hl, hnm, n2, n4, k⟩ := h
    refine ⟨_, (PSs.nox (pss_cons (ps_for PassesOwn.never rfl (pi_list (pv 0)) (pg_name (i := 2) sc_law_idle_pair.nd rfl (Or.inl rfl))
    (pss_one (ps_for PassesOwn.never rfl (pi_list (pv 0)) (pg_name (i := 3) sc_law_idle_pair.nd rfl (Or.inl rfl))
    (pss_one (ps_if (PW.pt (pw_and (pt_cmpR op_ne (pe_ix (r := rIxT K) ix_tup (pv 2) pe_int (fun _ _ => rfl)) (pe_ix (r := rIxT K) ix_tup (pv 3) pe_int (fun _ _ => rfl)) (nomark _)) (pw_and1 (pt_val (pe_call ((ok_idle_beside T).mono (by decide)) hr (by rfl) T.g_idle_beside T.fd_idle_beside.kp T.bd_idle_beside .nil pass0 (pa_cons (pv 2) (pa_cons (pv 3) pa_nil))))))) (pss_one (ps_ret (pe_tup (pa_cons (pv 0) (pa_cons (pv 2) (pa_cons (pv 3) pa_nil)))))) pss_nil)))))
    (pss_cons (ps_set (i := 3) sc_law_idle_pair.nd rfl (Or.inl rfl) (pe_ix (r := rIxL K) ix_list (pv 0) (pe_op op_mod (pe_callTy cr_intJ (by rfl) T.f_int (by decide +kernel) (pa_cons (pv 1) pa_nil)) (pe_callB (r := rLenJ K) cr_lenJ (by rfl) T.f_len PySem.boot_len (pa_cons (pv 0) pa_nil))) (fun _ _ => rfl)))
    (pss_cons (ps_set (i := 4) sc_law_idle_pair.nd rfl (Or.inl rfl) (pe_call ((ok_law_looser T).mono (by decide)) hr (by rfl) T.g_law_looser T.fd_law_looser.kp T.bd_law_looser .nil pass0 (pa_cons (pv 3) (pa_cons (pe_op op_fdiv (pv 1) pe_int) pa_nil))))
    (pss_one (ps_ret (pe_tup (pa_cons (pe_op op_cat (pv 0) (pe_lst (pa_cons (pv 4) pa_nil))) (pa_cons (pv 4) (pa_cons (pv 3) pa_nil)))))))))), ?_⟩
    have hlen : ps.length = n := by
      have := congrArg List.length hnm
      rw [List.length_map, List.length_map, List.length_range] at this
      exact this
    have nd2 := nm_nd n (by omega)
    have nms : (ps.map (·.2)).map Lim.name = (List.range n).map nmK := by
      rw [List.map_map]
      exact hnm
    have nok : ∀ y ∈ ps, nameOk y.2.name = true := fun y hy => by
      have : y.2.name ∈ (List.range n).map nmK := by
        rw [← hnm]
        exact List.mem_map.mpr ⟨y, hy, rfl⟩
      obtain ⟨j, hj, e⟩ := List.mem_map.mp this
      rw [← e]
      exact nm_ok j (by have := List.mem_range.mp hj; omega)
    have bks : ∀ L ∈ ps.map (·.2), BkL L := fun L hL => by
      obtain ⟨y, hy, rfl⟩ := List.mem_map.mp hL
      exact (hl y hy).2.bk (nok y hy)
    walk_at "st"
    refine fo_L (L := ps) (ev := fun x => .ref x.1) (fun i σ' H' => Ex H H' ∧ ∃ z2 z3, σ' = [some (.ref p), some (.int x), z2, z3, none]) (.inl (.inl hp)) (fun Q' q => ?_) ⟨Ex.rf, none, none, rfl⟩ (fun i σ' H' q => .inl (.inl (q.1 _ _ hp))) ?_ ?_
    · walk_at "go"
      exact q
    · rintro i y σ' H1 hi ⟨f1, z2, z3, rfl⟩
      have hy := List.mem_of_getElem? hi
      have hp1 := f1 _ _ hp
      walk_at "go"
      refine fo_L (L := ps) (ev := fun x => .ref x.1) (fun i σ' H' => Ex H H' ∧ ∃ z3, σ' = [some (.ref p), some (.int x), some (.ref y.1), z3, none]) (.inl (.inl hp1)) (fun Q' q => ?_) ⟨f1, z3, rfl⟩ (fun i σ' H' q => .inl (.inl (q.1 _ _ hp))) ?_ ?_
      · walk_at "go"
        exact q
      · rintro j u σ' H2 hj ⟨f2, z3, rfl⟩
        have hu := List.mem_of_getElem? hj
        have hLy := f2.lim (hl y hy).1
        have hLu := f2.lim (hl u hu).1
        have hLy0 := hLy
        have hLu0 := hLu
        obtain ⟨ga, na, a1, a2, a3⟩ := hLy
        obtain ⟨gb, nb, b1, b2, b3⟩ := hLu
        walk_at "go"
        by_cases hnn : y.2.name = u.2.name
        · refine r_nstrN hnn ?_
          refine iteF ?_
          walk_at "go"
          exact ⟨f2, _, rfl⟩
        · refine r_nstrY hnn ?_
          walk_at "go"
          refine ⟨y.1, u.1, y.2, u.2, rfl, hLy0, hLu0, (hl y hy).2.wf, (hl u hu).2.wf, fun H3 e3 => ?_⟩
          walk_at "go"
          refine r_b2 (fun yes => ?_) (fun no => ?_)
          · walk_at "go"
            refine r_newT fun q H4 n4' e4 hq => ?_
            walk_at "go"
            have e24 := e3.tr e4
            have f4 := f2.tr e24
            exact k q p y.1 u.1 ps y.2 u.2 H4 f4 (.inl (.inl hq)) (f4 _ _ hp) (fun x hx => f4.lim (hl x hx).1) (e24.lim hLy0) (e24.lim hLu0) ⟨by rw [nms]; exact (List.nodup_append.mp nd2).1, by rw [List.length_map]; omega, by rw [List.length_map]; omega, bks, List.mem_map.mpr ⟨y, hy, rfl⟩, List.mem_map.mpr ⟨u, hu, rfl⟩, fun e => hnn e.symm, yes, (hl y hy).2.gs.nd⟩
          · walk_at "go"
            exact ⟨f2.tr e3, _, rfl⟩
      · rintro σ' H2 ⟨f2, z3, rfl⟩
        walk_at "go"
        exact ⟨f2, _, _, rfl⟩
    · rintro σ' H1 ⟨f1, z2, z3, rfl⟩
      have hp1 := f1 _ _ hp
      have hpl : (ps.map fun x => V.ref x.1).length = ps.length := List.length_map ..
      walk_at "go"
      rw [hpl]
      refine r_I (show (0 : Int) < (ps.length : Int) by omega) ?_
      walk_at "go"
      obtain ⟨o, ho, hat⟩ : ∃ o ∈ ps, atI (ps.map fun x => V.ref x.1) (x % (ps.length : Int)) = some (.ref o.1) := by
        have h0 : 0 ≤ x % (ps.length : Int) := Int.emod_nonneg _ (by omega)
        have h1 : x % (ps.length : Int) < ps.length := Int.emod_lt_of_pos _ (by omega)
        generalize x % (ps.length : Int) = d at h0 h1
        obtain ⟨m, rfl⟩ := Int.eq_ofNat_of_zero_le h0
        have hm : m < ps.length := by omega
        refine ⟨ps[m], List.getElem_mem hm, ?_⟩
        unfold atI
        rw [show ixN (ps.map fun x => V.ref x.1).length (m : Int) = some m from by
          unfold ixN
          rw [if_pos (Int.natCast_nonneg m), if_pos (by rw [List.length_map]; omega)] <;> rfl]
        show (ps.map fun x => V.ref x.1)[m]? = _
        rw [List.getElem?_map, List.getElem?_eq_getElem hm]
        rfl
      refine r_ixL (.inl (.inl hp1)) hat ?_
      walk_at "go"
      refine ⟨o.1, o.2, _, rfl, f1.lim (hl o ho).1, (hl o ho).2, fun lp d H2 e2 d0 d2 hlo => ?_⟩
      have hp2 := e2 _ _ hp1
      walk_at "go"
      refine r_newL fun q3 H3 n3 e3 hq3 => ?_
      refine r_cat (e3 _ _ hp2) hq3 (by rw [hpl]; show ps.length + 1 ≤ _; omega) fun q4 H4 n4' e4 hq4 => ?_
      walk_at "go"
      refine r_newT fun q5 H5 n5 e5 hq5 => ?_
      walk_at "go"
      have e25 : Ex H2 H5 := e3.tr (e4.tr e5)
      have f5 : Ex H H5 := f1.tr (e2.tr e25)
      have nmo : o.2.name ≠ "loose" := fun z => by
        have h1 : o.2.name ∈ (List.range n).map nmK := by
          rw [← hnm]
          exact List.mem_map.mpr ⟨o, ho, rfl⟩
        exact (List.nodup_append.mp nd2).2.2 _ h1 _ (.head _) z
      refine k q5 q4 lp o.1 (ps ++ [(lp, ⟨"loose", o.2.groups, Pl.loosen d o.2.rule⟩)]) ⟨"loose", o.2.groups, Pl.loosen d o.2.rule⟩ o.2 H5 f5 (.inl (.inl hq5)) ?_ (fun x hx => ?_) (e25.lim hlo) (f5.lim (hl o ho).1) ⟨?_, ?_, ?_, fun L hL => ?_, ?_, ?_, nmo, Pl.loose_idle (hl o ho).2.wf d0, (hl o ho).2.gs.nd⟩
      · rw [e5 _ _ hq4, List.map_append]
        rfl
      · rcases List.mem_append.mp hx with z | z
        · exact f5.lim (hl x z).1
        · rw [List.mem_singleton.mp z]
          exact e25.lim hlo
      · rw [List.map_append, List.map_append, nms]
        exact nd2
      · rw [List.length_map, List.length_append]
        omega
      · rw [List.length_map, List.length_append]
        show ps.length + 1 ≤ 5
        omega
      · rw [List.map_append] at hL
        rcases List.mem_append.mp hL with z | z
        · exact bks L z
        · rw [List.mem_singleton.mp z]
          exact loose_bk (nm := o.2.name) (hl o ho).2 d0 d2
      · rw [List.map_append]
        exact List.mem_append_right _ (.head _)
      · rw [List.map_append]
        exact List.mem_append_left _ (List.mem_map.mpr ⟨o, ho, rfl⟩)
end
end Lw
end
section
set_option maxRecDepth 100000
set_option maxHeartbeats 4000000
namespace Lw
open PySem PySem.Spec PyProof.Rows L2
/-! ### two keepers in one heap -/
def NoKey (o : HO) : Prop := ∀ C dx v r, o ≠ .ins C dx ((("key" : Str), v) :: r)
theorem nokey_ins {C dx : Addr} {x : Str} {v : V} {r : List (Str × V)} (h : x ≠ "key") : NoKey (.ins C dx ((x, v) :: r)) := fun C' dx' v' r' e => h (Prod.mk.inj (List.cons.inj (HO.ins.inj e).2.2).1).1
theorem nokey_dK {l : List (Key × V)} : NoKey (.dK l) := fun _ _ _ _ e => nomatch e
theorem lim_key : ("limit" : Str) ≠ "key" := by decide +kernel
theorem book_key : ("book" : Str) ≠ "key" := by decide +kernel
section
variable {K : PySem.W.Frag} {H H' : Hp}
theorem met_obj {m : Addr} {own : List Addr} {L : Lim} {s : MSt} (h : MetAt K H m own L s) : ∀ b ∈ own, ∃ o, H b = some o ∧ NoKey o := by
  obtain ⟨dx, la, _, h⟩ := h
  obtain ⟨n, gs, r⟩ := L
  cases r <;> cases s <;> first | exact h.elim | skip
  · obtain ⟨ho, sl, h1, _⟩ := (show _ ∧ _ from h)
    rw [ho]
    exact fun b hb => by rw [List.mem_singleton.mp hb]; exact ⟨_, h1, nokey_ins lim_key⟩
  · rw [h.1]
    exact fun b hb => by rw [List.mem_singleton.mp hb]; exact ⟨_, h.2, nokey_ins lim_key⟩
  · rw [h.1]
    exact fun b hb => by rw [List.mem_singleton.mp hb]; exact ⟨_, h.2, nokey_ins lim_key⟩
  · rw [h.1]
    exact fun b hb => by rw [List.mem_singleton.mp hb]; exact ⟨_, h.2, nokey_ins lim_key⟩
  · obtain ⟨d, ho, _, h1, h2⟩ := (show ∃ d, _ from h)
    rw [ho]
    intro b hb
    rcases List.mem_cons.mp hb with z | z
    · rw [z]
      exact ⟨_, h1, nokey_ins lim_key⟩
    · rw [List.mem_singleton.mp z]
      exact ⟨_, h2, nokey_dK⟩
  · obtain ⟨d, u, ho, _, _, _, h1, h2, cs, _, h3, _⟩ := (show ∃ d u, _ from h)
    rw [ho]
    intro b hb
    rcases List.mem_cons.mp hb with z | z
    · rw [z]
      exact ⟨_, h1, nokey_ins lim_key⟩
    rcases List.mem_cons.mp z with z | z
    · rw [z]
      exact ⟨_, h3, nokey_dK⟩
    · rw [List.mem_singleton.mp z]
      exact ⟨_, h2, nokey_dK⟩
theorem KpAt.obj {k : Addr} {own : Addr → Prop} {S : KSt} (h : KpAt K H k own S) {b : Addr} (hb : own b) : ∃ o, H b = some o ∧ NoKey o := by
  obtain ⟨dx, lm, da, dr, bk, rows, rfl, ap, _, hk, hm, ⟨asks, _, ha, _⟩, hr⟩ := h
  rcases hb with z | z | z | ⟨r, hr', hb⟩
  · rw [z]
    exact ⟨_, hk, nokey_ins book_key⟩
  · rw [z]
    exact ⟨_, ha, nokey_dK⟩
  · rw [z]
    exact ⟨_, hr, nokey_dK⟩
  · exact met_obj (hm.2 r hr').2 b hb
theorem KpAt.ins {k : Addr} {own : Addr → Prop} {S : KSt} (h : KpAt K H k own S) : ∃ (dx lm da dr : Addr) (bk : V), H k = some (.ins (He.ga K "Keeper") dx (fsK bk (optV S.mom) lm da dr)) := by
  obtain ⟨dx, lm, da, dr, bk, rows, _, _, _, hk, _⟩ := h
  exact ⟨dx, lm, da, dr, bk, hk⟩
theorem KpAt.own_k {k : Addr} {own : Addr → Prop} {S : KSt} (h : KpAt K H k own S) : own k := by
  obtain ⟨dx, lm, da, dr, bk, rows, rfl, _⟩ := h
  exact .inl rfl
theorem ans_free {k a : Addr} {own : Addr → Prop} {S : KSt} {key : Str} {t : Int} {l : List Str} {e : Option Int} (h : KpAt K H k own S) (ha : AnsAt K H a key t l e) : ¬ own a := fun z => by
  obtain ⟨o, ho, nk⟩ := h.obj z
  obtain ⟨dx, p, h1, _⟩ := ha
  rw [h1] at ho
  exact nk _ _ _ _ (Option.some.inj ho).symm
theorem AnsAt.keep {W : Addr → Prop} {a : Addr} {key : Str} {t : Int} {l : List Str} {e : Option Int} (f : Fr W H H') (n : ¬ W a) (h : AnsAt K H a key t l e) : AnsAt K H' a key t l e := by
  obtain ⟨dx, p, h1, h2⟩ := h
  exact ⟨dx, p, f a _ h1 (.inr n), f.tu.t h2⟩
/-- what never changes stays, whatever is written -/
def All (_ : Addr) : Prop := True
theorem Fr.all {W : Addr → Prop} (f : Fr W H H') : Fr All H H' := f.mono fun _ _ => trivial
theorem Fr.lst {W : Addr → Prop} {a : Addr} {xs : List V} (f : Fr W H H') (h : H a = some (.lst xs)) : H' a = some (.lst xs) := f a _ h (.inl trivial)
theorem Fr.nums {W : Addr → Prop} {a : Addr} {ns : List Int} (f : Fr W H H') (h : NumsAt K H a ns) : NumsAt K H' a ns := ⟨f.lst h.at_, h.len, h.bd⟩
end
/-! ### the two books -/
theorem leN_trans (a b c : Lim) (h1 : leN a b = true) (h2 : leN b c = true) : leN a c = true := decide_eq_true (List.le_trans (of_decide_eq_true h1) (of_decide_eq_true h2))
theorem leN_total (a b : Lim) : (leN a b || leN b a) = true := by
  rw [Bool.or_eq_true]
  exact (List.le_total a.name.cps.toList b.name.cps.toList).imp decide_eq_true decide_eq_true
theorem sortL_perm (Ls : List Lim) : (sortL Ls).Perm Ls := List.mergeSort_perm Ls leN
theorem sortL_filter (Ls : List Lim) (p : Lim → Bool) : sortL ((sortL Ls).filter p) = (sortL Ls).filter p :=
  List.mergeSort_of_pairwise ((List.pairwise_mergeSort leN_trans leN_total Ls).filter p)
theorem BkOut.sorted {Ls : List Lim} {I O : Lim} (h : BkOut Ls I O) : BkOut (sortL Ls) I O := by
  have p := sortL_perm Ls
  exact ⟨((p.map Lim.name).nodup_iff).mpr h.nd, by rw [p.length_eq]; exact h.two, by rw [p.length_eq]; exact h.five, fun L hL => h.bk L (p.mem_iff.mp hL), p.mem_iff.mpr h.hi, p.mem_iff.mpr h.ho, h.ne, h.idle, h.ndg⟩
theorem BkOut.bks {Ls : List Lim} {I O : Lim} (h : BkOut Ls I O) : BkLs Ls := ⟨by have := h.two; omega, by have := h.five; omega, h.nd, h.bk⟩
theorem BkOut.bks2 {Ls : List Lim} {I O : Lim} (h : BkOut Ls I O) : BkLs (Ls.filter fun L => !decide (L.name = I.name)) := by
  have five := h.five
  have l1 := List.length_filter_le (fun L : Lim => !decide (L.name = I.name)) Ls
  refine ⟨?_, by omega, (h.nd.sublist (List.filter_sublist.map _)), fun L hL => h.bk L (List.mem_filter.mp hL).1⟩
  have : O ∈ Ls.filter fun L => !decide (L.name = I.name) := List.mem_filter.mpr ⟨h.ho, by
    rw [Bool.not_eq_true', decide_eq_false_iff_not]
    exact h.ne⟩
  exact List.length_pos_of_mem this
theorem BkOut.pair {Ls : List Lim} {I O : Lim} (h : BkOut Ls I O) : Pl.Pair I O (initK Ls) (initK (Ls.filter fun L => !decide (L.name = I.name))) [] [] 0 :=
  Pl.Pair.init h.nd h.hi h.ho h.ne h.idle (fun L hL => (h.bk L hL).wf) h.ndg
theorem BkOut.kok {Ls : List Lim} {I O : Lim} (h : BkOut Ls I O) : KOk (initK Ls) ∧ KOk (initK (Ls.filter fun L => !decide (L.name = I.name))) := by
  have a := h.bks
  have b := h.bks2
  exact ⟨Pl.KOk.init a.one a.most fun L hL => (a.bk L hL).wf, Pl.KOk.init b.one b.most fun L hL => (b.bk L hL).wf⟩
/-! ### keys, answers -/
def kK (k : Nat) : Str := "k" ++ Str.ofString (toString k)
theorem kK_ok : ∀ k < 17, keyOk (kK k) = true := by decide +kernel
theorem kK_new : ∀ k < 17, ∀ j < k, kK j ≠ kK k := by decide +kernel
theorem kK_len : ∀ k < 17, ("k" : Str).length + (Str.ofString (toString k)).length ≤ 100000 := by decide +kernel
theorem kK_log : ∀ k < 17, ((k : Nat) : Int).natAbs.log2 < 1920 := by decide
theorem eqv_strs : ∀ l : List Str, PyData.eqv (.tuple (l.map PyData.str)) (.tuple (l.map PyData.str)) = true := by
  intro l
  have h : ∀ l : List Str, PyData.eqvAll (l.map PyData.str) (l.map PyData.str) = true := by
    intro l
    induction l with
    | nil => rw [List.map_nil, PyData.eqvAll]
    | cons a l ih =>
      rw [List.map_cons, PyData.eqvAll, ih, PyData.eqv]
      simp
  rw [PyData.eqv]
  exact h l
theorem low_letters : ∀ c ∈ lettersL, c < 0x110000 := by decide +kernel
theorem strOk_name {g : Str} (h : nameOk g = true) : PyData.strOk g = true := by
  unfold nameOk at h
  rw [Bool.and_eq_true, List.all_eq_true] at h
  unfold PyData.strOk
  rw [← Array.all_toList, List.all_eq_true]
  exact fun c hc => decide_eq_true (low_letters c (of_decide_eq_true (h.2 c hc)))
theorem shaped_strs {l : List Str} (h : ∀ g ∈ l, nameOk g = true) : SeqAt.shaped (.tuple (l.map PyData.str)) = true := by
  have h1 : PyData.canLayAll0 (l.map PyData.str) = true := by
    induction l with
    | nil => rfl
    | cons a l ih =>
      show (PyData.strOk a && PyData.canLayAll0 (l.map PyData.str)) = true
      rw [strOk_name (h a (.head _)), ih fun g hg => h g (.tail _ hg)]
      rfl
  have h2 : PyData.depthAll (l.map PyData.str) = 0 := by
    clear h1 h
    induction l with
    | nil => rfl
    | cons a l ih =>
      show max 0 (PyData.depthAll (l.map PyData.str)) = 0
      rw [ih]
      rfl
  unfold SeqAt.shaped
  rw [Bool.and_eq_true]
  refine ⟨h1, decide_eq_true ?_⟩
  show PyData.depthAll (l.map PyData.str) + 1 ≤ 64
  rw [h2]
  decide
theorem dp_strs {K : PySem.W.Frag} {H : Hp} {p : Addr} {l : List Str} (h : SqT K H p (l.map V.str)) : Dp K H (.ref p) (.tuple (l.map PyData.str)) := by
  refine .tup h ?_
  clear h
  induction l with
  | nil => exact .nil
  | cons a l ih => exact .cons (.str a) ih
/-! ### both keepers, turn by turn -/
structure Both (K : PySem.W.Frag) (k1 k2 : Addr) (own1 own2 : Addr → Prop) (I O : Lim) (Ls : List Lim) (i : Nat) (H : Hp) (S1 S2 : KSt) (mo : Int) : Prop where
  a1 : KpAt K H k1 own1 S1
  a2 : KpAt K H k2 own2 S2
  o1 : KOk S1
  o2 : KOk S2
  pr : ∃ G cur, Pl.Pair I O S1 S2 G cur mo
  m0 : 0 ≤ mo
  m1 : mo ≤ 1000000000
  ks : S1.asked.map (·.1) = (List.range i).map kK
  rl : S1.rel.length ≤ i
  ls : S1.ms.map (·.1) = Ls
section
variable {K : PySem.W.Frag} {k1 k2 : Addr} {own1 own2 : Addr → Prop} {I O : Lim} {Ls : List Lim} {i : Nat} {H H' : Hp} {S1 S2 : KSt} {mo t c : Int} {g : Str}
theorem Both.len (B : Both K k1 k2 own1 own2 I O Ls i H S1 S2 mo) : S1.asked.length = i := by
  have := congrArg List.length B.ks
  rw [List.length_map, List.length_map, List.length_range] at this
  exact this
theorem Both.len2 (B : Both K k1 k2 own1 own2 I O Ls i H S1 S2 mo) : S2.asked.length = i := by
  obtain ⟨G, cur, p⟩ := B.pr
  rw [p.asked, List.length_map]
  exact B.len
theorem Both.new (B : Both K k1 k2 own1 own2 I O Ls i H S1 S2 mo) (hi : i < 17) : ∀ x ∈ S1.asked, x.1 ≠ kK i := fun x hx e => by
  have : x.1 ∈ (List.range i).map kK := by
    rw [← B.ks]
    exact List.mem_map.mpr ⟨x, hx, rfl⟩
  obtain ⟨j, hj, ej⟩ := List.mem_map.mp this
  exact kK_new i hi j (List.mem_range.mp hj) (by rw [ej, e])
theorem Both.new2 (B : Both K k1 k2 own1 own2 I O Ls i H S1 S2 mo) (hi : i < 17) : ∀ x ∈ S2.asked, x.1 ≠ kK i := fun x hx e => by
  obtain ⟨G, cur, p⟩ := B.pr
  rw [p.asked] at hx
  obtain ⟨y, hy, rfl⟩ := List.mem_map.mp hx
  exact B.new hi y hy e
theorem Both.mom (B : Both K k1 k2 own1 own2 I O Ls i H S1 S2 mo) : ∀ n, S1.mom = some n → n ≤ mo := by
  obtain ⟨G, cur, p⟩ := B.pr
  exact p.momT
theorem Both.mom2 (B : Both K k1 k2 own1 own2 I O Ls i H S1 S2 mo) : ∀ n, S2.mom = some n → n ≤ mo := fun n e => by
  obtain ⟨G, cur, p⟩ := B.pr
  exact p.momT n (by rw [← p.mom]; exact e)
theorem Both.rl2 (B : Both K k1 k2 own1 own2 I O Ls i H S1 S2 mo) : S2.rel.length ≤ i := by
  obtain ⟨G, cur, p⟩ := B.pr
  rw [p.rel]
  exact B.rl
theorem Both.at_ (B : Both K k1 k2 own1 own2 I O Ls i H S1 S2 mo) (h1 : KpAt K H' k1 own1 S1) (h2 : KpAt K H' k2 own2 S2) : Both K k1 k2 own1 own2 I O Ls i H' S1 S2 mo := ⟨h1, h2, B.o1, B.o2, B.pr, B.m0, B.m1, B.ks, B.rl, B.ls⟩
theorem askK_ls (S : KSt) (key : Str) : (askK S key g c t).ms.map (·.1) = S.ms.map (·.1) := by
  show (if (lackK S t g c).isEmpty = true then S.ms.map (fun x => (x.1, letM x.1 x.2 t g c key)) else S.ms).map (·.1) = _
  split
  · rw [List.map_map]
    rfl
  · rfl
theorem relK_ls (S : KSt) (key : Str) : (relK S key t).ms.map (·.1) = S.ms.map (·.1) := by
  show (if holdsK S key = true then S.ms.map (fun x => (x.1, relM x.2 key)) else S.ms).map (·.1) = _
  split
  · rw [List.map_map]
    rfl
  · rfl
theorem Both.ask (B : Both K k1 k2 own1 own2 I O Ls i H S1 S2 mo) (hi : i < 17) (ht : mo ≤ t) (ht1 : t ≤ 1000000000) (c1 : 1 ≤ c) (c2 : c ≤ 1000) (h1 : KpAt K H' k1 own1 (askK S1 (kK i) g c t)) (h2 : KpAt K H' k2 own2 (askK S2 (kK i) g c t)) :
    Both K k1 k2 own1 own2 I O Ls (i + 1) H' (askK S1 (kK i) g c t) (askK S2 (kK i) g c t) t := by
  obtain ⟨G, cur, p⟩ := B.pr
  have l1 := B.len
  have l2 := B.len2
  have m0 := B.m0
  refine ⟨h1, h2, Pl.KOk.ask B.o1 (by omega), Pl.KOk.ask B.o2 (by omega), p.ask ht c1 c2 (B.new hi), by omega, ht1, ?_, Nat.le_succ_of_le B.rl, by rw [askK_ls]; exact B.ls⟩
  show (S1.asked ++ [(kK i, lackK S1 t g c)]).map _ = _
  rw [List.map_append, B.ks, List.range_succ, List.map_append]
  rfl
theorem Both.release {key : Str} (B : Both K k1 k2 own1 own2 I O Ls i H S1 S2 mo) (rl : S1.rel.length + 1 ≤ i) (h1 : KpAt K H' k1 own1 (relK S1 key mo)) (h2 : KpAt K H' k2 own2 (relK S2 key mo)) :
    Both K k1 k2 own1 own2 I O Ls i H' (relK S1 key mo) (relK S2 key mo) mo := by
  obtain ⟨G, cur, p⟩ := B.pr
  refine ⟨h1, h2, Pl.KOk.rel B.o1, Pl.KOk.rel B.o2, p.release (Int.le_refl _), B.m0, B.m1, B.ks, ?_, by rw [relK_ls]; exact B.ls⟩
  show (if holdsK S1 key = true then S1.rel ++ [key] else S1.rel).length ≤ i
  split
  · rw [List.length_append]
    exact rl
  · omega
theorem Both.facts (B : Both K k1 k2 own1 own2 I O Ls i H S1 S2 mo) (ht : mo ≤ t) (c1 : 1 ≤ c) (c2 : c ≤ 1000) : (lackK S1 t g c).isEmpty = (lackK S2 t g c).isEmpty ∧ earlyK S1 t g c = earlyK S2 t g c ∧ (lackK S1 t g c).filter (fun y => !decide (y = I.name)) = lackK S2 t g c ∧ (I.name ∈ lackK S1 t g c → O.name ∈ lackK S1 t g c) := by
  obtain ⟨G, cur, p⟩ := B.pr
  have e := p.empty (g := g) ht c1 c2
  rw [p.lack] at e
  exact ⟨e, p.early ht c1 c2, p.lack, p.named ht c1 c2⟩
theorem Both.holds {key : Str} (B : Both K k1 k2 own1 own2 I O Ls i H S1 S2 mo) : holdsK S1 key = holdsK S2 key := by
  obtain ⟨G, cur, p⟩ := B.pr
  exact p.holds
theorem Both.names (B : Both K k1 k2 own1 own2 I O Ls i H S1 S2 mo) (ok : ∀ L ∈ Ls, nameOk L.name = true) : ∀ y ∈ lackK S1 t g c, nameOk y = true := fun y hy => by
  obtain ⟨x, hx, _, rfl⟩ := Pl.lackK_mem.mp hy
  exact ok x.1 (by rw [← B.ls]; exact List.mem_map.mpr ⟨x, hx, rfl⟩)
theorem Both.has (B : Both K k1 k2 own1 own2 I O Ls i H S1 S2 mo) {j : Nat} (hj : j < i) : (∃ x ∈ S1.asked, x.1 = kK j) ∧ ∃ x ∈ S2.asked, x.1 = kK j := by
  have : kK j ∈ S1.asked.map (·.1) := by
    rw [B.ks]
    exact List.mem_map.mpr ⟨j, List.mem_range.mpr hj, rfl⟩
  obtain ⟨x, hx, e⟩ := List.mem_map.mp this
  refine ⟨⟨x, hx, e⟩, ?_⟩
  obtain ⟨G, cur, p⟩ := B.pr
  rw [p.asked]
  exact ⟨_, List.mem_map.mpr ⟨x, hx, rfl⟩, e⟩
end
end Lw
end
section
set_option maxRecDepth 100000
set_option maxHeartbeats 4000000
namespace Lw
open PySem PySem.Spec PyProof.Rows L2
local macro_rules | `(tactic| walk_at "hp") => `(tactic| first | assumption | exact upd_same | exact (by assumption : Ex _ _) _ _ (by assumption))
local macro_rules | `(tactic| walk_at "lk") => `(tactic| fail "no look-up")
local macro_rules | `(tactic| walk_at "tk") => `(tactic| first | assumption | exact Ex.t (by assumption) (by assumption) | exact Ex.l (by assumption) (by assumption) | exact .inl (.inl (by assumption)))
local macro_rules | `(tactic| walk_at "st") => `(tactic| first
  | with_reducible refine r_seq ?_ | with_reducible refine r_asg ?_ | with_reducible refine r_name ?_
  | ((with_reducible refine' r_var ?k1 ?_); (case k1 => exact rfl))
  | with_reducible refine r_c ?_ | with_reducible refine r_op ?_ | with_reducible refine r_un ?_ | with_reducible refine r_cb ?_ | with_reducible refine r_nil ?_ | with_reducible refine r_cons ?_
  | with_reducible refine r_call ?_ | with_reducible refine r_ret ?_ | with_reducible refine r_drop ?_ | with_reducible refine r_ifs ?_ | with_reducible refine r_ife ?_ | with_reducible refine r_next ?_
  | with_reducible refine r_test ?_ | with_reducible refine r_tB ?_ | with_reducible refine r_bl ?_ | with_reducible refine r_blx ?_ | with_reducible refine r_tnot ?_ | with_reducible refine r_tand ?_ | with_reducible refine r_tor ?_
  | with_reducible refine r_not ?_ | with_reducible refine r_and ?_ | with_reducible refine r_or ?_ | with_reducible refine r_I0 ?_ | with_reducible refine r_U ?_
  | with_reducible refine r_eqS ?_ | with_reducible refine r_eqI ?_ | with_reducible refine r_neS ?_ | with_reducible refine r_neI ?_ | with_reducible refine r_chain ?_
  | ((with_reducible refine' r_gtup ?k1 ?k2 ?_); (case k1 => walk_at "tk"); (case k2 => exact rfl))
  | with_reducible refine r_gcons ?_ | with_reducible refine r_gnil ?_
  | ((with_reducible refine' r_ixT ?k1 ?k2 ?_); (case k1 => walk_at "tk"); (case k2 => exact rfl))
  | ((with_reducible refine' r_ixL ?k1 ?k2 ?_); (case k1 => walk_at "tk"); (case k2 => exact rfl))
  | with_reducible refine r_tup ?_ | with_reducible refine r_lst ?_ | with_reducible refine iteT ?_ | with_reducible refine iteF ?_
  | ((with_reducible refine' r_wipe ?k1 ?_); (case k1 => exact rfl)) | with_reducible refine r_tyes ?_
  | ((with_reducible refine' r_lenT ?k1 ?_); (case k1 => walk_at "tk")) | ((with_reducible refine' r_lenL ?k1 ?_); (case k1 => walk_at "tk"))
  | with_reducible refine r_fld ?_ | with_reducible refine r_sfld ?_ | with_reducible refine r_gfld ?_ | with_reducible refine r_meth ?_
  | ((with_reducible refine' r_fld1 ?k1 ?k2 ?k3 ?k4 ?_); (case k1 => walk_at "hp"); (case k2 => assumption); (case k3 => assumption); (case k4 => walk_at "lk"))
  | ((with_reducible refine' r_sfld1 ?k1 ?k2 ?k3 ?k4 ?_); (case k1 => walk_at "hp"); (case k2 => assumption); (case k3 => assumption); (case k4 => exact Nat.lt_of_le_of_lt (Nat.le_of_ble_eq_true rfl) (by decide : 10 < 1000)))
  | ((with_reducible refine' r_gfld1 ?k1 ?k2 ?k3 ?k4 ?_); (case k1 => walk_at "hp"); (case k2 => assumption); (case k3 => assumption); (case k4 => exact Nat.lt_of_le_of_lt (Nat.le_of_ble_eq_true rfl) (by decide : 10 < 1000)))
  | with_reducible refine r_ks ?_ | with_reducible refine r_kq ?_
  | ((with_reducible refine' r_meth1 ?k1 ?k2 ?_); (case k1 => walk_at "hp"); (case k2 => kernel_rfl))
  | with_reducible refine r_kb ?_ | with_reducible refine r_tru ?_ | with_reducible refine r_bm0 ?_ | with_reducible refine r_bm ?_
  | ((with_reducible refine' r_tyL ?k1 ?_); (case k1 => walk_at "hp"))
  | with_reducible refine r_sdput ?_ | with_reducible refine r_dget ?_ | with_reducible refine r_din ?_ | with_reducible refine r_dnin ?_ | with_reducible refine r_dpop ?_
  | ((with_reducible refine' r_dpop0 ?k1 ?_); (case k1 => walk_at "hp"))
  | ((with_reducible refine' r_strY ?k1 ?_); (case k1 => decide +kernel)) | ((with_reducible refine' r_strN ?k1 ?_); (case k1 => decide +kernel))
  | ((with_reducible refine' r_nstrY ?k1 ?_); (case k1 => decide +kernel)) | ((with_reducible refine' r_nstrN ?k1 ?_); (case k1 => decide +kernel))
  | with_reducible refine r_gcd ?_ | with_reducible refine r_par ?_ | with_reducible refine r_par1 ?_
  | with_reducible refine r_make ?_ | with_reducible refine r_orJ ?_
  | with_reducible refine r_isN ?_ | with_reducible refine r_notN ?_
  | with_reducible refine r_abs ?_ | with_reducible refine r_int ?_ | with_reducible refine r_min ?_ | with_reducible refine r_max ?_)
local macro_rules | `(tactic| walk_at "go") => `(tactic| repeat walk_at "st")
local macro_rules | `(tactic| walk_at "st") => `(tactic| first | with_reducible refine r_nt ?_ | with_reducible refine r_nf ?_ | with_reducible refine r_le4 ?_ | with_reducible refine r_ltS ?_ | with_reducible refine r_inS ?_)
local macro_rules | `(tactic| walk_at "st") => `(tactic| first | with_reducible refine r_disp ?_ | with_reducible refine r_pr ?_ | with_reducible refine r_pnil ?_ | ((with_reducible refine' r_isi ?k1 ?k2 ?k3 ?_); (case k1 => exact ClsV.ty _); (case k2 => first | exact .base (.int _) | exact tyT (by assumption)); (case k3 => exact kit_ty (r := true) (by decide +kernel))))
local macro_rules | `(tactic| walk_at "st") => `(tactic| first | with_reducible refine r_ckw ?_ | with_reducible refine r_lenTx ?_)
local macro_rules | `(tactic| walk_at "st") => `(tactic| first | with_reducible refine r_sl ?_ | with_reducible refine r_nopart ?_ | with_reducible refine r_part ?_ | with_reducible refine r_int1 ?_)
local macro_rules | `(tactic| walk_at "st") => `(tactic| first | ((with_reducible refine' r_num ?k0 ?k1 ?k2 ?_); (case k0 => assumption); (case k1 => assumption); (case k2 => assumption)) | ((with_reducible refine' r_I ?k1 ?_); (case k1 => first | decide | exact ⟨by decide, by decide⟩ | exact .inl ⟨by decide, by decide⟩ | exact .inl ⟨by omega, by omega⟩)))
local macro_rules | `(tactic| walk_at "gn") => `(tactic| repeat (fail_if_success (with_reducible refine r_seq ?_)); walk_at "st")
theorem r_neQ {x : V} {H : Hp} {Q : VK} (s : scal x x = true) (q : Q (.bl false) H) : rNe x x H Q := ⟨s, by
  rw [decide_eq_true rfl]
  exact q⟩
theorem ifF {A B : Prop} {b : Bool} (h : B) (e : b = false := by rfl) : if b = true then A else B := by
  rw [e]
  exact iteF h
theorem ifT {A B : Prop} {b : Bool} (h : A) (e : b = true := by rfl) : if b = true then A else B := by
  rw [e]
  exact iteT h
theorem r_inAnd {K : PySem.W.Frag} {H : Hp} {la : Addr} {l : List Str} {n : Str} {Tst : Hp → (Bool → Hp → Prop) → Prop} {A B : Hp → Prop} (h : SqT K H la (l.map V.str)) (hB : B H) (hT : B H → n ∈ l → Tst H fun b H1 => if b = true then A H1 else B H1) :
    rIn K false (.str n) (.ref la) H fun x H' => ∃ k, x = .bl k ∧ if k = true then Tst H' (fun b H1 => if b = true then A H1 else B H1) else (if false = true then A H' else B H') := by
  refine r_inT h rfl (flat_strs l) ?_
  rw [if_neg Bool.false_ne_true, inV_str]
  refine ⟨_, rfl, r_b2 (fun z => ?_) (fun _ => iteF hB)⟩
  obtain ⟨x, hx, e⟩ := List.any_eq_true.mp z
  exact hT hB (by rw [← of_decide_eq_true e]; exact hx)
theorem lkA1 {a b c d e : V} : List.lookup ("lacking" : Str) [(("key" : Str), a), ("moment", b), ("lacking", c), ("earliest", d), ("is_let", e)] = some c := by kernel_rfl
theorem lkA2 {a b c d e : V} : List.lookup ("earliest" : Str) [(("key" : Str), a), ("moment", b), ("lacking", c), ("earliest", d), ("is_let", e)] = some d := by kernel_rfl
theorem lkA3 {a b c d e : V} : List.lookup ("is_let" : Str) [(("key" : Str), a), ("moment", b), ("lacking", c), ("earliest", d), ("is_let", e)] = some e := by kernel_rfl
local macro_rules | `(tactic| walk_at "lk") => `(tactic| first | exact lkA1 | exact lkA2 | exact lkA3)
section
variable {P : Program} {w : World} {K : PySem.W.Frag} {mg : Str → Option Value} {base : Heap}
abbrev sc_law_N : List Str := ["_law_script", "_law_numbers_here", "_law_limits_here", "_law_idle", "_law_other", "_law_book", "_law_whole", "_law_fewer", "_law_moment", "_law_k", "_law_group", "_law_cost", "_law_first", "_law_second", "_law_named", "_law_key", "_law_name"]
theorem sc_law : FnScope ["_law_script", "_law_numbers_here", "_law_limits_here", "_law_idle", "_law_other", "_law_book", "_law_whole", "_law_fewer", "_law_moment", "_law_k", "_law_group", "_law_cost", "_law_first", "_law_second", "_law_named", "_law_key", "_law_name"] ["_law_script"] (defScope s_law) := ⟨rfl, rfl, rfl, by decide +kernel, rfl, by decide +kernel, by decide +kernel⟩
theorem ok_law (T : Tx w K mg) : OkD P w K mg base ("law", none) 9 ["_law_script"] (spLaw K) := by
  refine (T.fd_law).ok sc_law (fun vs H Q E h => ?_) (fun cdv A outer s H vs Q E hr h => ?_)
  · obtain ⟨a, ns, rfl, _⟩ := h
    rfl
  · obtain ⟨a, ns0, rfl, ha, hlen, k0⟩ := h
    have hcl := T.cl_Answer; have hno_earliest := T.no_Answer_earliest; have hno_is_let := T.no_Answer_is_let; have hno_key := T.no_Answer_key; have hno_lacking := T.no_Answer_lacking; have hno_moment := T.no_Answer_moment
    refine ⟨_, (PSs.nox (pss_cons (ps_set (i := 1) sc_law.nd rfl (Or.inl rfl) (pe_call ((ok_law_numbers T).mono (by decide)) hr (by rfl) T.g_law_numbers T.fd_law_numbers.kp T.bd_law_numbers .nil pass0 (pa_cons (pv 0) (pa_cons pe_int pa_nil))))
    (pss_cons (ps_asg (pe_call ((ok_law_idle_pair T).mono (by decide)) hr (by rfl) T.g_law_idle_pair T.fd_law_idle_pair.kp T.bd_law_idle_pair .nil pass0 (pa_cons (pe_call ((ok_law_limits T).mono (by decide)) hr (by rfl) T.g_law_limits T.fd_law_limits.kp T.bd_law_limits .nil pass0 (pa_cons (pv 1) pa_nil)) (pa_cons (pe_ix (r := rIxL K) ix_list (pv 1) pe_int (fun _ _ => rfl)) pa_nil))) (pg_tup rfl (pgs_cons (pg_name (i := 2) sc_law.nd rfl (Or.inl rfl)) (pgs_cons (pg_name (i := 3) sc_law.nd rfl (Or.inr rfl)) (pgs_cons (pg_name (i := 4) sc_law.nd rfl (Or.inl rfl)) pgs_nil)))))
    (pss_cons (ps_if (pt_not (pt_val (pe_call ((ok_idle_beside T).mono (by decide)) hr (by rfl) T.g_idle_beside T.fd_idle_beside.kp T.bd_idle_beside .nil pass0 (pa_cons (pv 3) (pa_cons (pv 4) pa_nil))))) (pss_one (ps_ret pe_bl)) pss_nil)
    (pss_cons (ps_set (i := 5) sc_law.nd rfl (Or.inl rfl) (pe_make T.mk_Book ((ok_Book_init T).mono (by decide)) hr (by rfl) T.g_Book T.bd_Book_init .nil pass0 (pa_cons (pv 2) pa_nil)))
    (pss_cons (ps_set (i := 6) sc_law.nd rfl (Or.inl rfl) (pe_make T.mk_Keeper ((ok_Keeper_init T).mono (by decide)) hr (by rfl) T.g_Keeper T.bd_Keeper_init .nil pass0 (pa_cons (pv 5) pa_nil)))
    (pss_cons (ps_set (i := 7) sc_law.nd rfl (Or.inl rfl) (pe_make T.mk_Keeper ((ok_Keeper_init T).mono (by decide)) hr (by rfl) T.g_Keeper T.bd_Keeper_init .nil pass0 (pa_cons (pe_meth (pv 5) T.cl_Book T.me_Book_without_limit ((ok_Book_without_limit T).mono (by decide)) hr T.bd_Book_without_limit .nil pass0 (pa_cons (pe_ix (r := rIxT K) ix_tup (pv 3) pe_int (fun _ _ => rfl)) pa_nil)) pa_nil)))
    (pss_cons (ps_set (i := 8) sc_law.nd rfl (Or.inl rfl) pe_int)
    (pss_cons (ps_for PassesOwn.never rfl (pi_range1 (by rfl) T.f_range (pa_cons (pe_op op_mod (pe_callTy cr_intJ (by rfl) T.f_int (by decide +kernel) (pa_cons (pe_ix (r := rIxL K) ix_list (pv 1) pe_int (fun _ _ => rfl)) pa_nil)) pe_int) pa_nil)) (pg_name (i := 9) sc_law.nd rfl (Or.inl rfl))
    (pss_cons (ps_asg (pe_call ((ok_law_request T).mono (by decide)) hr (by rfl) T.g_law_request T.fd_law_request.kp T.bd_law_request .nil pass0 (pa_cons (pv 1) (pa_cons (pe_op op_add pe_int (pe_op op_mul pe_int (pv 9))) (pa_cons (pe_ix (r := rIxL K) ix_list (pv 2) (pe_op op_mod (pv 9) (pe_callB (r := rLenJ K) cr_lenJ (by rfl) T.f_len PySem.boot_len (pa_cons (pv 2) pa_nil))) (fun _ _ => rfl)) (pa_cons (pv 8) pa_nil))))) (pg_tup rfl (pgs_cons (pg_name (i := 8) sc_law.nd rfl (Or.inl rfl)) (pgs_cons (pg_name (i := 10) sc_law.nd rfl (Or.inl rfl)) (pgs_cons (pg_name (i := 11) sc_law.nd rfl (Or.inl rfl)) pgs_nil)))))
    (pss_cons (ps_set (i := 12) sc_law.nd rfl (Or.inl rfl) (pe_meth (pv 6) T.cl_Keeper T.me_Keeper_ask ((ok_Keeper_ask T).mono (by decide)) hr T.bd_Keeper_ask .nil pass0 (pa_cons (pe_tup (pa_cons (pe_op op_add_str pe_str (pe_callTy cr_strJ (by rfl) T.f_str (by decide +kernel) (pa_cons (pv 9) pa_nil))) (pa_cons (pv 10) (pa_cons (pv 11) pa_nil)))) (pa_cons (pv 8) pa_nil))))
    (pss_cons (ps_set (i := 13) sc_law.nd rfl (Or.inl rfl) (pe_meth (pv 7) T.cl_Keeper T.me_Keeper_ask ((ok_Keeper_ask T).mono (by decide)) hr T.bd_Keeper_ask .nil pass0 (pa_cons (pe_tup (pa_cons (pe_op op_add_str pe_str (pe_callTy cr_strJ (by rfl) T.f_str (by decide +kernel) (pa_cons (pv 9) pa_nil))) (pa_cons (pv 10) (pa_cons (pv 11) pa_nil)))) (pa_cons (pv 8) pa_nil))))
    (pss_cons (ps_set (i := 14) sc_law.nd rfl (Or.inl rfl) (pe_callTy (r := rTupJ K) cr_tupJ (by rfl) T.f_tuple (by decide +kernel) (pa_cons (pe_lc (own := [("_law_name", 16)]) rfl sc_law.nd (pi_tup (show PE _ _ (tFld K _ _) from pe_fld (pv 12) rfl)) (blkOk_by (own := [("_law_name", 16)]) (N := sc_law_N) (sc := defScope s_law) (by decide +kernel)) (fun _ _ _ _ _ => (pg_name (i := 16) sc_law.nd rfl (Or.inl rfl))) (fun _ _ _ _ _ => pts_one (pt_cmpR op_ne (pv 16) (pe_ix (r := rIxT K) ix_tup (pv 3) pe_int (fun _ _ => rfl)) (nomark _))) (fun _ _ _ _ _ => (pv 16))) pa_nil)))
    (pss_cons (ps_if (PW.pt (pw_or (pt_cmpR op_ne (show PE _ _ (tFld K _ _) from pe_fld (pv 12) rfl) (show PE _ _ (tFld K _ _) from pe_fld (pv 13) rfl) (nomark _)) (pw_or (pt_cmpR op_ne (show PE _ _ (tFld K _ _) from pe_fld (pv 12) rfl) (show PE _ _ (tFld K _ _) from pe_fld (pv 13) rfl) (nomark _)) (pw_or1 (pt_cmpR (show OpR _ _ (rNeD K) from op_neD hr.units) (pv 14) (show PE _ _ (tFld K _ _) from pe_fld (pv 13) rfl) (nomark _)))))) (pss_one (ps_ret pe_bl)) pss_nil)
    (pss_cons (ps_if (PW.pt (pw_and (pt_cmpR (r := rIn K false) op_in_seq (pe_ix (r := rIxT K) ix_tup (pv 3) pe_int (fun _ _ => rfl)) (show PE _ _ (tFld K _ _) from pe_fld (pv 12) rfl) (by rfl)) (pw_and1 (pt_cmpR (r := rIn K true) op_notIn_seq (pe_ix (r := rIxT K) ix_tup (pv 4) pe_int (fun _ _ => rfl)) (show PE _ _ (tFld K _ _) from pe_fld (pv 12) rfl) (by rfl))))) (pss_one (ps_ret pe_bl)) pss_nil)
    (pss_cons (ps_set (i := 15) sc_law.nd rfl (Or.inl rfl) (pe_op op_add_str pe_str (pe_callTy cr_strJ (by rfl) T.f_str (by decide +kernel) (pa_cons (pe_op op_mod (pe_callTy cr_intJ (by rfl) T.f_int (by decide +kernel) (pa_cons (pe_ix (r := rIxL K) ix_list (pv 1) (pe_op op_add pe_int (pe_op op_mul pe_int (pv 9))) (fun _ _ => rfl)) pa_nil)) (pe_op op_add (pv 9) pe_int)) pa_nil))))
    (pss_one (ps_if (PW.pt (pw_and (pt_cmpR op_eq (pe_op op_mod (pe_callTy cr_intJ (by rfl) T.f_int (by decide +kernel) (pa_cons (pe_ix (r := rIxL K) ix_list (pv 1) (pe_op op_add pe_int (pe_op op_mul pe_int (pv 9))) (fun _ _ => rfl)) pa_nil)) pe_int) pe_int (nomark _)) (pw_and1 (pt_cmpR op_ne (pe_meth (pv 6) T.cl_Keeper T.me_Keeper_release ((ok_Keeper_release T).mono (by decide)) hr T.bd_Keeper_release .nil pass0 (pa_cons (pv 15) (pa_cons (pv 8) pa_nil))) (pe_meth (pv 7) T.cl_Keeper T.me_Keeper_release ((ok_Keeper_release T).mono (by decide)) hr T.bd_Keeper_release .nil pass0 (pa_cons (pv 15) (pa_cons (pv 8) pa_nil))) (nomark _))))) (pss_one (ps_ret pe_bl)) pss_nil))))))))))
    (pss_one (ps_ret pe_bl))))))))))), ?_⟩
    walk_at "go"
    refine ⟨a, ns0, rfl, ha, hlen, fun p1 ns H1 f1 hp1 l1 b1 => ?_⟩
    have hn : NumsAt K H1 p1 ns := ⟨hp1, l1, b1⟩
    walk_at "go"
    refine ⟨p1, ns, rfl, hn, fun p2 ps n H2 f2 hp2 hl2 hnm n2 n4 => ?_⟩
    obtain ⟨x3, e3, x30, x31⟩ := hn.get (k := 3) (by omega) (by omega)
    walk_at "go"
    refine ⟨p2, ps, n, x3, rfl, hp2, hl2, hnm, n2, n4, fun r p3 li lo ps3 I O H3 f3 hr3 hp3 hl3 hI hO bk => ?_⟩
    have hI0 := hI
    have hO0 := hO
    obtain ⟨gI, nI, i1, i2, i3⟩ := hI
    obtain ⟨gO, nO, o1, o2, o3⟩ := hO
    walk_at "go"
    refine ⟨li, lo, I, O, rfl, hI0, hO0, (bk.bk I bk.hi).wf, (bk.bk O bk.ho).wf, fun H4 f4 => ?_⟩
    rw [bk.idle]
    walk_at "go"
    intro b dxb nb ndb neb
    have eb : Ex H4 (upd (upd H4 dxb (.own b)) b (.ins (He.ga K "Book") dxb [])) := Ex.tr (Ex.nw ndb) (Ex.nw (by rw [upd_ne (Ne.symm neb)]; exact nb))
    refine ⟨b, p3, dxb, ps3.map (·.2), rfl, upd_same, (f4.tr eb).lims ⟨ps3, rfl, .inl (.inl hp3), hl3⟩, bk.bks, fun H5 fr5 hB => ⟨rfl, ?_⟩⟩
    have f5 : Ex H4 H5 := made nb ndb fr5
    have wfs0 : ∀ L ∈ ps3.map (·.2), WfL L := fun L hL => (bk.bk L hL).wf
    have two3 : 2 ≤ ps3.length := by
      have := bk.two
      rw [List.length_map] at this
      exact this
    have five3 : ps3.length ≤ 5 := by
      have := bk.five
      rw [List.length_map] at this
      exact this
    have bk := bk.sorted
    have srt := sortL_filter (ps3.map (·.2)) fun L => !decide (L.name = I.name)
    generalize sortL (ps3.map (·.2)) = Ls at bk hB srt
    have five := bk.five
    have wfs : ∀ L ∈ Ls, WfL L := fun L hL => (bk.bk L hL).wf
    walk_at "go"
    intro k1 dx1 nk1 nd1 ne1
    have e1' : Ex H5 (upd (upd H5 dx1 (.own k1)) k1 (.ins (He.ga K "Keeper") dx1 [])) := Ex.tr (Ex.nw nd1) (Ex.nw (by rw [upd_ne (Ne.symm ne1)]; exact nk1))
    refine ⟨k1, b, dx1, Ls, rfl, upd_same, e1'.book hB, by omega, wfs, fun own1 H6 fr6 ow1 kp1 => ⟨rfl, ?_⟩⟩
    have f6 : Ex H5 H6 := made nk1 nd1 fr6
    have hB6 := f6.book hB
    obtain ⟨dxb6, lb6, hb6, hls6⟩ := id hB6
    have f36 : Ex H3 H6 := f4.tr (f5.tr f6)
    have i16 := f36.t i1
    walk_at "go"
    refine ⟨b, I.name, Ls, rfl, hB6, by omega, ⟨I, bk.hi, rfl⟩, bk.bks2, fun b2 H7 f7 hB2 => ?_⟩
    rw [srt] at hB2
    walk_at "go"
    intro k2 dx2 nk2 nd2 ne2
    have e2' : Ex H7 (upd (upd H7 dx2 (.own k2)) k2 (.ins (He.ga K "Keeper") dx2 [])) := Ex.tr (Ex.nw nd2) (Ex.nw (by rw [upd_ne (Ne.symm ne2)]; exact nk2))
    refine ⟨k2, b2, dx2, Ls.filter fun L => !decide (L.name = I.name), rfl, upd_same, e2'.book hB2, bk.bks2.most, fun L hL => wfs L (List.mem_filter.mp hL).1, fun own2 H8 fr8 ow2 kp2 => ⟨rfl, ?_⟩⟩
    have f8 : Ex H7 H8 := made nk2 nd2 fr8
    have dj : ∀ c, own1 c → ¬ own2 c := fun c h1 h2 => by
      obtain ⟨o, ho, _⟩ := kp1.obj h1
      have ho := f7 _ _ ho
      rcases ow2 c h2 with z | z
      · rw [z, nk2] at ho
        cases ho
      · rw [e2' _ _ ho] at z
        cases z
    have kp1 : KpAt K H8 k1 own1 (initK Ls) := KpAt.keep (W := fun _ => False) (Ex.frm (f7.tr f8)) (fun _ _ => id) kp1
    have f38 : Ex H3 H8 := f36.tr (f7.tr f8)
    have hn8 : NumsAt K H8 p1 ns := hn.ex (f2.tr (f3.tr f38))
    have hp8 := f38 _ _ hp3
    have hl8 : ∀ x ∈ ps3, LimAt K H8 x.1 x.2 := fun x hx => f38.lim (hl3 x hx)
    have i18 := f38.t i1
    have o18 := f38.t o1
    have B0 : Both K k1 k2 own1 own2 I O Ls 0 H8 (initK Ls) (initK (Ls.filter fun L => !decide (L.name = I.name))) 0 :=
      ⟨kp1, kp2, bk.kok.1, bk.kok.2, ⟨_, _, bk.pair⟩, Int.le_refl _, by decide, rfl, Nat.le_refl _, by show (Ls.map _).map _ = _; rw [List.map_map]; exact List.map_id _⟩
    clear hn hp3 i1 o1 hl3 hI0 hO0 hp2 hl2 hp1 hr3 hB hB6 hb6 hls6 hB2 kp1 kp2 i16
    obtain ⟨x4, e4, x40, x41⟩ := hn8.get (k := 4) (by omega) (by omega)
    have ex8 : Ex H8 H8 := Ex.rf
    have wfo : ∀ x ∈ ps3, WfL x.2 := fun x hx => wfs0 _ (List.mem_map.mpr ⟨x, hx, rfl⟩)
    have pl3 : (ps3.map fun x => V.ref x.1).length = ps3.length := List.length_map ..
    walk_at "go"
    have n0 : 0 ≤ x4 % 17 := Int.emod_nonneg _ (by decide)
    have n1 : x4 % 17 < 17 := Int.emod_lt_of_pos _ (by decide)
    refine fo_R (n := x4 % 17) (fun i σ' H' => Fr All H8 H' ∧ ∃ (S1 S2 : KSt) (mo : Int) (z9 z10 z11 z12 z13 z14 z15 : Option V), Both K k1 k2 own1 own2 I O Ls i H' S1 S2 mo ∧ σ' = [some (.ref a), some (.ref p1), some (.ref p3), some (.ref li), some (.ref lo), some (.ref b), some (.ref k1), some (.ref k2), some (.int mo), z9, z10, z11, z12, z13, z14, z15, none]) ⟨n0, by omega⟩ (fun QA q => ?_) ⟨Fr.rf, _, _, 0, none, none, none, none, none, none, none, B0, rfl⟩ ?_ ?_
    · walk_at "go"
      exact q
    · rintro i σ' H9 hi ⟨f9, S1, S2, mo, z9, z10, z11, z12, z13, z14, z15, B, rfl⟩
      have hi17 : i < 17 := by omega
      have m0 := B.m0
      have m1 := B.m1
      have hn9 := f9.nums hn8
      have hp9 := f9.lst hp8
      have i19 := f9.tu.t i18
      have o19 := f9.tu.t o18
      clear hn8 e4 ex8
      have ex9 : Ex H9 H9 := Ex.rf
      walk_at "go"
      rw [pl3]
      have pos3 : 0 < (ps3.length : Int) := by omega
      refine r_I pos3 ?_
      obtain ⟨o, ho, hat⟩ : ∃ o ∈ ps3, atI (ps3.map fun x => V.ref x.1) ((i : Int) % (ps3.length : Int)) = some (.ref o.1) := by
        have h0 : 0 ≤ (i : Int) % (ps3.length : Int) := Int.emod_nonneg _ (by omega)
        have h1 : (i : Int) % (ps3.length : Int) < ps3.length := Int.emod_lt_of_pos _ (by omega)
        generalize (i : Int) % (ps3.length : Int) = d at h0 h1
        obtain ⟨m, rfl⟩ := Int.eq_ofNat_of_zero_le h0
        have hm : m < ps3.length := by omega
        refine ⟨ps3[m], List.getElem_mem hm, ?_⟩
        unfold atI
        rw [show ixN (ps3.map fun x => V.ref x.1).length (m : Int) = some m from by
          unfold ixN
          rw [if_pos (Int.natCast_nonneg m), if_pos (by rw [List.length_map]; omega)] <;> rfl]
        show (ps3.map fun x => V.ref x.1)[m]? = _
        rw [List.getElem?_map, List.getElem?_eq_getElem hm]
        rfl
      refine r_ixL (.inl (.inl hp9)) hat ?_
      walk_at "go"
      refine ⟨p1, o.1, ns, o.2, 40 + 6 * (i : Int), mo, rfl, hn9, by omega, by omega, f9.tu.lim (hl8 o ho), wfo o ho, m0, m1, fun rq t g c H10 e10 hq t0 t1 gok c1 c2 => ?_⟩
      have kp1 : KpAt K H10 k1 own1 S1 := KpAt.keep (W := fun _ => False) (Ex.frm e10) (fun _ _ => id) B.a1
      have kp2 : KpAt K H10 k2 own2 S2 := KpAt.keep (W := fun _ => False) (Ex.frm e10) (fun _ _ => id) B.a2
      obtain ⟨dxk, lmk, dak, drk, bkk, hk1⟩ := kp1.ins
      walk_at "go"
      refine ⟨(i : Int), rfl, kK_log i hi17, ?_⟩
      refine ⟨_, _, rfl, rfl, Evl.sz_of (kK_len i hi17), ?_⟩
      walk_at "go"
      refine r_newT fun q11 H11 n11 e11 hq11 => ?_
      have kp1 : KpAt K H11 k1 own1 S1 := KpAt.keep (W := fun _ => False) (Ex.frm e11) (fun _ _ => id) kp1
      have kp2 : KpAt K H11 k2 own2 S2 := KpAt.keep (W := fun _ => False) (Ex.frm e11) (fun _ _ => id) kp2
      walk_at "go"
      refine ⟨k1, q11, own1, S1, kK i, g, c, t, rfl, .inl (.inl hq11), kp1, B.o1, kK_ok i hi17, gok, c1, c2, by omega, t1, fun n e => Int.le_trans (B.mom n e) t0, B.new hi17, fun a1 H12 fr12 kp12 an1 => ?_⟩
      have kp2 : KpAt K H12 k2 own2 S2 := KpAt.keep fr12 (fun b hb h => dj b h hb) kp2
      obtain ⟨dxj, lmj, daj, drj, bkj, hk2⟩ := kp2.ins
      walk_at "go"
      refine ⟨(i : Int), rfl, kK_log i hi17, ?_⟩
      refine ⟨_, _, rfl, rfl, Evl.sz_of (kK_len i hi17), ?_⟩
      walk_at "go"
      refine r_newT fun q13 H13 n13 e13 hq13 => ?_
      have kp13 := KpAt.keep (W := fun _ => False) (Ex.frm e13) (fun _ _ => id) kp12
      have an13 := AnsAt.keep (W := fun _ => False) (Ex.frm e13) id an1
      have kp2 : KpAt K H13 k2 own2 S2 := KpAt.keep (W := fun _ => False) (Ex.frm e13) (fun _ _ => id) kp2
      walk_at "go"
      refine ⟨k2, q13, own2, S2, kK i, g, c, t, rfl, .inl (.inl hq13), kp2, B.o2, kK_ok i hi17, gok, c1, c2, by omega, t1, fun n e => Int.le_trans (B.mom2 n e) t0, B.new2 hi17, fun a2 H14 fr14 kp14 an2 => ?_⟩
      have kp11 := KpAt.keep fr14 (fun b hb h => dj b hb h) kp13
      obtain ⟨d1, la1, ha1, hla1⟩ := an13.keep fr14 (ans_free kp2 an13)
      obtain ⟨d2, la2, ha2, hla2⟩ := an2
      have f914 : Fr All H9 H14 := (Ex.frm (e10.tr e11)).tr (fr12.all.tr ((Ex.frm e13).tr fr14.all))
      have hn14 := f914.nums hn9
      have i14 := f914.tu.t i19
      have o14 := f914.tu.t o19
      have B14 := B.ask hi17 t0 t1 c1 c2 kp11 kp14
      obtain ⟨q1, q2, q3, q4⟩ := B.facts (g := g) t0 c1 c2
      have nmk := B.names (t := t) (g := g) (c := c) fun L hL => (bk.bk L hL).nm
      have ll : (lackK S1 t g c).length ≤ 8 := by
        have h1 := B.o1.most
        have h2 := List.length_filter_le (fun x : Lim × MSt => !roomM x.1 x.2 t g c) S1.ms
        unfold lackK
        rw [List.length_map]
        omega
      have rlS := B.rl
      have rlS2 := B.rl2
      have few14 := B14.len
      have few142 := B14.len2
      clear kp1 kp2 kp12 kp13 an1 an13 hk1 hk2 fr12 fr14 hn9 i19 o19 hp9 hq hq11 hq13 ex9 B kp11 kp14
      generalize lackK S1 t g c = l1 at q1 q3 q4 nmk ll ha1 hla1 B14
      generalize lackK S2 t g c = l2 at q1 q3 ha2 hla2 B14
      walk_at "go"
      refine r_lcT ?_
      walk_at "go"
      refine lc_T (L := l1) (ev := V.str) (p := fun y => !decide (y = I.name)) (f := V.str) (by omega) hla1 (fun Q' q => ?_) (fun y hy H' e Kt Kf kt kf => ?_) (fun D H15 hD e15 hd => ?_)
      · walk_at "go"
        exact q
      · have ii := e.t i14
        walk_at "go"
        by_cases hyn : y = I.name
        · refine r_nnoS (congrArg V.str hyn) ?_
          exact kf (by rw [hyn]; simp) _ Ex.rf
        · refine r_nyesS (fun z => hyn (V.str.inj z)) ?_
          walk_at "go"
          exact kt (by simp [hyn]) _ Ex.rf
      rw [q3] at hd
      walk_at "go"
      refine r_tupOf (.inl (.inl hd)) fun nm H16 n16 e16 hnm => ?_
      have e1416 := e15.tr e16
      have ha1 := e1416 _ _ ha1
      have ha2 := e1416 _ _ ha2
      have hla1 := e1416.t hla1
      have hla2 := e1416.t hla2
      have i16 := e1416.t i14
      have o16 := e1416.t o14
      have hn16 := hn14.ex e1416
      have f816 : Fr All H8 H16 := f9.tr (f914.tr (Ex.frm e1416))
      have B16 := B14.at_ (KpAt.keep (W := fun _ => False) (Ex.frm e1416) (fun _ _ => id) B14.a1) (KpAt.keep (W := fun _ => False) (Ex.frm e1416) (fun _ _ => id) B14.a2)
      clear hn14 e1416 e15 e16 i14 o14 B14
      have nmk2 : ∀ y ∈ l2, nameOk y = true := fun y hy => nmk y (by rw [← q3] at hy; exact (List.mem_filter.mp hy).1)
      walk_at "go"
      rw [q1]
      refine r_neQ rfl ?_
      walk_at "go"
      rw [q2]
      refine r_neQ (by cases earlyK S2 t g c <;> rfl) ?_
      walk_at "go"
      refine ⟨_, _, dp_strs (.inl (.inl hnm)), dp_strs hla2, shaped_strs nmk2, shaped_strs nmk2, ?_⟩
      rw [eqv_strs]
      walk_at "go"
      refine r_inAnd hla1 ?_ (fun hB hin => ?_)
      rotate_left
      · walk_at "go"
        refine r_inT hla1 rfl (flat_strs l1) ?_
        rw [if_pos rfl, inV_str, show (l1.any fun x => decide (x = O.name)) = true from List.any_eq_true.mpr ⟨_, q4 hin, decide_eq_true rfl⟩]
        refine ⟨_, rfl, iteF ?_⟩
        exact hB
      obtain ⟨x45, e45, x450, x451⟩ := hn16.get (k := 45 + 6 * (i : Int)) (by omega) (by omega)
      obtain ⟨x44, e44, x440, x441⟩ := hn16.get (k := 44 + 6 * (i : Int)) (by omega) (by omega)
      have ex16 : Ex H16 H16 := Ex.rf
      walk_at "go"
      refine r_I (show (0 : Int) < (i : Int) + 1 by omega) ?_
      obtain ⟨j, hj, hji⟩ : ∃ j : Nat, x45 % ((i : Int) + 1) = (j : Int) ∧ j < i + 1 := by
        have h0 : 0 ≤ x45 % ((i : Int) + 1) := Int.emod_nonneg _ (by omega)
        have h1 : x45 % ((i : Int) + 1) < (i : Int) + 1 := Int.emod_lt_of_pos _ (by omega)
        exact ⟨(x45 % ((i : Int) + 1)).toNat, by omega, by omega⟩
      rw [hj]
      walk_at "go"
      refine ⟨(j : Int), rfl, kK_log j (by omega), ?_⟩
      refine ⟨_, _, rfl, rfl, Evl.sz_of (kK_len j (by omega)), ?_⟩
      walk_at "go"
      obtain ⟨hs1, hs2⟩ := B16.has hji
      have rl1 : (askK S1 (kK i) g c t).rel.length ≤ i := rlS
      have rl2 : (askK S2 (kK i) g c t).rel.length ≤ i := rlS2
      refine r_d2 (fun _ => ?_) (fun _ => ?_)
      · obtain ⟨dxk, lmk, dak, drk, bkk, hk1⟩ := B16.a1.ins
        walk_at "go"
        refine ⟨k1, own1, _, kK j, t, rfl, B16.a1, B16.o1, by omega, by omega, t1, B16.mom, hs1, fun H17 fr17 kp17 => ?_⟩
        have kp2 := KpAt.keep fr17 (fun b hb h => dj b h hb) B16.a2
        obtain ⟨dxj, lmj, daj, drj, bkj, hk2⟩ := kp2.ins
        walk_at "go"
        refine ⟨k2, own2, _, kK j, t, rfl, kp2, B16.o2, by omega, by omega, t1, B16.mom2, hs2, fun H18 fr18 kp18 => ?_⟩
        rw [B16.holds]
        refine r_neQ rfl ?_
        walk_at "go"
        exact ⟨f816.tr (fr17.all.tr fr18.all), _, _, t, _, _, _, _, _, _, _, B16.release (by omega) (KpAt.keep fr18 (fun b hb h => dj b hb h) kp17) kp18, rfl⟩
      · walk_at "go"
        exact ⟨f816, _, _, t, _, _, _, _, _, _, _, B16, rfl⟩
    · rintro σ' H9 ⟨f9, S1, S2, mo, z9, z10, z11, z12, z13, z14, z15, B, rfl⟩
      walk_at "go"
      exact k0 _
end
end Lw
end
set_option maxRecDepth 100000
set_option maxHeartbeats 0
namespace Lw
open PySem PySem.Spec PyProof.Rows L2
theorem facts {P : Program} {w : World} {K : PySem.W.Frag} {h : Heap} {mg : Str → Option Value} {f : Addr} (X : K.In h) (G : h.Ns mainGlobals mg) (hfa : mg ("law" : Str) = some (.ref f)) (c : SaysL w K) :
    ∃ fd : FuncData, (∀ (s : Shared) (v : Value), BindsTo s fd ⟨[v], []⟩ [("_law_script", v)]) ∧ ∀ base : Heap, K.In base → base.Ns mainGlobals mg → FnOk P w K mg base CX0 30 f fd ["_law_script"] (spLaw K) := by
  have T : Tx w K mg := ⟨c, h, X, G⟩
  have e := T.g_law
  rw [hfa] at e
  cases e
  exact ⟨fdOf K ("law", none), fun s v => T.fd_law.bindsA (ps := ["_law_script"]) (fun _ _ _ _ _ _ us hl => match us, hl with | [_], _ => rfl) s [v] rfl, fun base _ _ => (ok_law T).mono (by decide)⟩
end Lw
theorem PySem.Challenge.cw_limitweave_k78_whole_books_without_idle_holds : PySem.Challenge.rw_limitweave_k78_whole_books_without_idle.Holds := by
  exact Lw.end_of Lw.run fun X G hfa c => Lw.facts X G hfa c
