import PyProof.Rows.All
import Wide.All
import OpenK.AllK
import Wide.FinOn
import PySem.Challenge.RW_pairwarden_k88_whole_any_order_of_equal
import HandS.ForMost
import HandS.Codes
import HandS.Defaults
import HandS.Evl
import HandS.HeadHook1
import HandS.Deep
import HandS.Style
import HandS.TupAny
import HandS.IsInst
import HandS.Conv
import HandS.Flow
import HandS.HeadHook2
import HandS.HeadHook3
import HandS.HeadHook4
import HandS.SetKeys
import HandS.DictComp
import PyProof.DictMoreH
import HandS.TupSets
import HandS.SetFor
import HandS.Iter
import KE.DataMinMax
import KE.DataFind
import PyProof.TupleOfSeq
import KE.GoesEnum
import KE.GoesMore
import HandS.Lambda
import KE.SortKeyHeap
import HandS.ForExc
import HandS.Head0
import HandS.Head1
import HandS.Head2
import HandS.HeadEnd
import HandS.HeadWalk
set_option Elab.async false
set_option linter.all false
set_option maxRecDepth 100000
namespace Pw
open PySem PySem.Spec PyProof.Rows L2
def top (i : Nat) : Stmt := PySem.Challenge.pw_pairwarden_k88_whole_any_order_of_equal.main.body.getD i (.Pass ⟨0, 0, 0, 0⟩)
abbrev s_pairs_among : Stmt := top 7
abbrev N_pairs_among : List Str := ["holders", "low", "high"]
theorem sc_pairs_among : FnScope N_pairs_among ["holders"] (defScope s_pairs_among) := ⟨rfl, rfl, rfl, by decide +kernel, rfl, by decide +kernel, by decide +kernel⟩
abbrev s_has_twice : Stmt := top 8
abbrev N_has_twice : List Str := ["numbers"]
theorem sc_has_twice : FnScope N_has_twice ["numbers"] (defScope s_has_twice) := ⟨rfl, rfl, rfl, by decide +kernel, rfl, by decide +kernel, by decide +kernel⟩
abbrev s_are_below : Stmt := top 9
abbrev N_are_below : List Str := ["numbers", "limit", "number"]
theorem sc_are_below : FnScope N_are_below ["numbers", "limit"] (defScope s_are_below) := ⟨rfl, rfl, rfl, by decide +kernel, rfl, by decide +kernel, by decide +kernel⟩
abbrev s_clean_holders : Stmt := top 10
abbrev N_clean_holders : List Str := ["holders", "seats"]
theorem sc_clean_holders : FnScope N_clean_holders ["holders", "seats"] (defScope s_clean_holders) := ⟨rfl, rfl, rfl, by decide +kernel, rfl, by decide +kernel, by decide +kernel⟩
abbrev s_Pool_init : Stmt := inClass (top 12) 0
abbrev N_Pool_init : List Str := ["self", "caps", "holders", "rows", "row"]
theorem sc_Pool_init : FnScope N_Pool_init ["self", "caps", "holders"] (defScope s_Pool_init) := ⟨rfl, rfl, rfl, by decide +kernel, rfl, by decide +kernel, by decide +kernel⟩
abbrev s_pair_room : Stmt := top 13
abbrev N_pair_room : List Str := ["pool", "pair"]
theorem sc_pair_room : FnScope N_pair_room ["pool", "pair"] (defScope s_pair_room) := ⟨rfl, rfl, rfl, by decide +kernel, rfl, by decide +kernel, by decide +kernel⟩
abbrev s_held_pairs : Stmt := top 14
abbrev N_held_pairs : List Str := ["pool", "piece", "pair"]
theorem sc_held_pairs : FnScope N_held_pairs ["pool", "piece"] (defScope s_held_pairs) := ⟨rfl, rfl, rfl, by decide +kernel, rfl, by decide +kernel, by decide +kernel⟩
abbrev s_pool_with : Stmt := top 15
abbrev N_pool_with : List Str := ["pool", "holders"]
theorem sc_pool_with : FnScope N_pool_with ["pool", "holders"] (defScope s_pool_with) := ⟨rfl, rfl, rfl, by decide +kernel, rfl, by decide +kernel, by decide +kernel⟩
abbrev s_is_dealing : Stmt := top 17
abbrev N_is_dealing : List Str := ["pool", "dealing", "used", "piece", "pair"]
theorem sc_is_dealing : FnScope N_is_dealing ["pool", "dealing"] (defScope s_is_dealing) := ⟨rfl, rfl, rfl, by decide +kernel, rfl, by decide +kernel, by decide +kernel⟩
abbrev s_pieces_on : Stmt := top 19
abbrev N_pieces_on : List Str := ["dealing", "found", "piece", "pair"]
theorem sc_pieces_on : FnScope N_pieces_on ["dealing"] (defScope s_pieces_on) := ⟨rfl, rfl, rfl, by decide +kernel, rfl, by decide +kernel, by decide +kernel⟩
abbrev s_forest : Stmt := top 20
abbrev N_forest : List Str := ["pool", "dealt", "roots", "before", "row", "looked", "current", "pair", "piece", "root"]
theorem sc_forest : FnScope N_forest ["pool", "dealt", "roots"] (defScope s_forest) := ⟨rfl, rfl, rfl, by decide +kernel, rfl, by decide +kernel, by decide +kernel⟩
abbrev s_free_pair : Stmt := top 21
abbrev N_free_pair : List Str := ["pool", "dealt", "piece", "pair"]
theorem sc_free_pair : FnScope N_free_pair ["pool", "dealt", "piece"] (defScope s_free_pair) := ⟨rfl, rfl, rfl, by decide +kernel, rfl, by decide +kernel, by decide +kernel⟩
abbrev s_walk_back : Stmt := top 22
abbrev N_walk_back : List Str := ["dealing", "before", "piece", "pair", "steps"]
theorem sc_walk_back : FnScope N_walk_back ["dealing", "before", "piece", "pair"] (defScope s_walk_back) := ⟨rfl, rfl, rfl, by decide +kernel, rfl, by decide +kernel, by decide +kernel⟩
abbrev s_find_walk : Stmt := top 23
abbrev N_find_walk : List Str := ["pool", "dealing", "pieces", "roots", "dealt", "before", "piece", "pair"]
theorem sc_find_walk : FnScope N_find_walk ["pool", "dealing", "pieces"] (defScope s_find_walk) := ⟨rfl, rfl, rfl, by decide +kernel, rfl, by decide +kernel, by decide +kernel⟩
abbrev s_take_walk : Stmt := top 24
abbrev N_take_walk : List Str := ["dealing", "walk", "after", "piece", "pair"]
theorem sc_take_walk : FnScope N_take_walk ["dealing", "walk"] (defScope s_take_walk) := ⟨rfl, rfl, rfl, by decide +kernel, rfl, by decide +kernel, by decide +kernel⟩
abbrev s_first_fit : Stmt := top 26
abbrev N_first_fit : List Str := ["pool", "dealing", "after", "dealt", "piece", "pair"]
theorem sc_first_fit : FnScope N_first_fit ["pool", "dealing"] (defScope s_first_fit) := ⟨rfl, rfl, rfl, by decide +kernel, rfl, by decide +kernel, by decide +kernel⟩
abbrev s_greatest_dealing : Stmt := top 27
abbrev N_greatest_dealing : List Str := ["pool", "start", "begun", "dealing", "walk"]
theorem sc_greatest_dealing : FnScope N_greatest_dealing ["pool", "start"] (defScope s_greatest_dealing) := ⟨rfl, rfl, rfl, by decide +kernel, rfl, by decide +kernel, by decide +kernel⟩
abbrev s_most_dealt : Stmt := top 28
abbrev N_most_dealt : List Str := ["pool"]
theorem sc_most_dealt : FnScope N_most_dealt ["pool"] (defScope s_most_dealt) := ⟨rfl, rfl, rfl, by decide +kernel, rfl, by decide +kernel, by decide +kernel⟩
abbrev s_is_safe : Stmt := top 29
abbrev N_is_safe : List Str := ["pool"]
theorem sc_is_safe : FnScope N_is_safe ["pool"] (defScope s_is_safe) := ⟨rfl, rfl, rfl, by decide +kernel, rfl, by decide +kernel, by decide +kernel⟩
abbrev s_others_of : Stmt := top 31
abbrev N_others_of : List Str := ["held", "seat", "other"]
theorem sc_others_of : FnScope N_others_of ["held", "seat"] (defScope s_others_of) := ⟨rfl, rfl, rfl, by decide +kernel, rfl, by decide +kernel, by decide +kernel⟩
abbrev s_after_loss : Stmt := top 32
abbrev N_after_loss : List Str := ["pool", "seat", "held"]
theorem sc_after_loss : FnScope N_after_loss ["pool", "seat"] (defScope s_after_loss) := ⟨rfl, rfl, rfl, by decide +kernel, rfl, by decide +kernel, by decide +kernel⟩
abbrev s_first_wrong : Stmt := top 33
abbrev N_first_wrong : List Str := ["pool", "seat", "sends", "sent", "used", "index", "piece", "sender", "held"]
theorem sc_first_wrong : FnScope N_first_wrong ["pool", "seat", "sends"] (defScope s_first_wrong) := ⟨rfl, rfl, rfl, by decide +kernel, rfl, by decide +kernel, by decide +kernel⟩
abbrev s_after_round : Stmt := top 34
abbrev N_after_round : List Str := ["pool", "seat", "sends", "wrong", "holders", "piece", "_"]
theorem sc_after_round : FnScope N_after_round ["pool", "seat", "sends"] (defScope s_after_round) := ⟨rfl, rfl, rfl, by decide +kernel, rfl, by decide +kernel, by decide +kernel⟩
abbrev s_killing_row : Stmt := top 36
abbrev N_killing_row : List Str := ["pool"]
theorem sc_killing_row : FnScope N_killing_row ["pool"] (defScope s_killing_row) := ⟨rfl, rfl, rfl, by decide +kernel, rfl, by decide +kernel, by decide +kernel⟩
abbrev s_first_sends : Stmt := top 37
abbrev N_first_sends : List Str := ["pool", "rounds", "current", "first", "seat", "sends", "piece", "sender"]
theorem sc_first_sends : FnScope N_first_sends ["pool", "rounds"] (defScope s_first_sends) := ⟨rfl, rfl, rfl, by decide +kernel, rfl, by decide +kernel, by decide +kernel⟩
abbrev s_Game_init : Stmt := inClass (top 39) 0
abbrev N_Game_init : List Str := ["self", "pool"]
theorem sc_Game_init : FnScope N_Game_init ["self", "pool"] (defScope s_Game_init) := ⟨rfl, rfl, rfl, by decide +kernel, rfl, by decide +kernel, by decide +kernel⟩
abbrev s_Game_play : Stmt := inClass (top 39) 1
abbrev N_Game_play : List Str := ["self", "seat", "sends", "after"]
theorem sc_Game_play : FnScope N_Game_play ["self", "seat", "sends"] (defScope s_Game_play) := ⟨rfl, rfl, rfl, by decide +kernel, rfl, by decide +kernel, by decide +kernel⟩
abbrev s_Game_dead : Stmt := inClass (top 39) 2
abbrev N_Game_dead : List Str := ["self", "piece"]
theorem sc_Game_dead : FnScope N_Game_dead ["self"] (defScope s_Game_dead) := ⟨rfl, rfl, rfl, by decide +kernel, rfl, by decide +kernel, by decide +kernel⟩
abbrev s_l_cell : Stmt := top 41
abbrev N_l_cell : List Str := ["_law_script", "_law_k"]
theorem sc_l_cell : FnScope N_l_cell ["_law_script", "_law_k"] (defScope s_l_cell) := ⟨rfl, rfl, rfl, by decide +kernel, rfl, by decide +kernel, by decide +kernel⟩
abbrev s_l_draws : Stmt := top 42
abbrev N_l_draws : List Str := ["_law_cell_here", "_law_sizes", "_law_left", "_law_digits", "_law_drawn", "_law_k", "_law_size", "_law_mixed"]
theorem sc_l_draws : FnScope N_l_draws ["_law_cell_here", "_law_sizes"] (defScope s_l_draws) := ⟨rfl, rfl, rfl, by decide +kernel, rfl, by decide +kernel, by decide +kernel⟩
abbrev s_l_bits : Stmt := top 43
abbrev N_l_bits : List Str := ["_law_mask", "_law_count", "_law_k"]
theorem sc_l_bits : FnScope N_l_bits ["_law_mask", "_law_count"] (defScope s_l_bits) := ⟨rfl, rfl, rfl, by decide +kernel, rfl, by decide +kernel, by decide +kernel⟩
abbrev s_l_pairs : Stmt := top 44
abbrev N_l_pairs : List Str := ["_law_seats", "_law_pairs_here", "_law_low", "_law_high"]
theorem sc_l_pairs : FnScope N_l_pairs ["_law_seats"] (defScope s_l_pairs) := ⟨rfl, rfl, rfl, by decide +kernel, rfl, by decide +kernel, by decide +kernel⟩
abbrev s_l_pool : Stmt := top 45
abbrev N_l_pool : List Str := ["_law_cell_here", "_law_most", "_law_drawn", "_law_seats", "_law_caps", "_law_pairs_here", "_law_holders", "_law_p", "_law_held", "_law_pair", "_law_k"]
theorem sc_l_pool : FnScope N_l_pool ["_law_cell_here", "_law_most"] (defScope s_l_pool) := ⟨rfl, rfl, rfl, by decide +kernel, rfl, by decide +kernel, by decide +kernel⟩
abbrev s_l_crowded : Stmt := top 46
abbrev N_l_crowded : List Str := ["_law_cell_here", "_law_most", "_law_drawn", "_law_seats", "_law_pairs_here", "_law_caps", "_law_holders", "_law_p", "_law_pair", "_law_spot", "_law_k"]
theorem sc_l_crowded : FnScope N_l_crowded ["_law_cell_here", "_law_most"] (defScope s_l_crowded) := ⟨rfl, rfl, rfl, by decide +kernel, rfl, by decide +kernel, by decide +kernel⟩
abbrev s_l_is_dealing : Stmt := top 47
abbrev N_l_is_dealing : List Str := ["_law_caps", "_law_holders", "_law_dealing", "_law_p", "_law_pair", "_law_one"]
theorem sc_l_is_dealing : FnScope N_l_is_dealing ["_law_caps", "_law_holders", "_law_dealing"] (defScope s_l_is_dealing) := ⟨rfl, rfl, rfl, by decide +kernel, rfl, by decide +kernel, by decide +kernel⟩
abbrev s_l_is_integer : Stmt := top 48
abbrev N_l_is_integer : List Str := ["_law_actual"]
theorem sc_l_is_integer : FnScope N_l_is_integer ["_law_actual"] (defScope s_l_is_integer) := ⟨rfl, rfl, rfl, by decide +kernel, rfl, by decide +kernel, by decide +kernel⟩
abbrev s_l_is_list : Stmt := top 49
abbrev N_l_is_list : List Str := ["_law_actual", "_law_size"]
theorem sc_l_is_list : FnScope N_l_is_list ["_law_actual", "_law_size"] (defScope s_l_is_list) := ⟨rfl, rfl, rfl, by decide +kernel, rfl, by decide +kernel, by decide +kernel⟩
abbrev s_l_sends : Stmt := top 50
abbrev N_l_sends : List Str := ["_law_caps", "_law_holders", "_law_seat", "_law_drawn", "_law_k", "_law_sends_here", "_law_p", "_law_others", "_law_number", "_law_sender", "_law_used", "_law_j", "_law_step"]
theorem sc_l_sends : FnScope N_l_sends ["_law_caps", "_law_holders", "_law_seat", "_law_drawn", "_law_k"] (defScope s_l_sends) := ⟨rfl, rfl, rfl, by decide +kernel, rfl, by decide +kernel, by decide +kernel⟩
abbrev s_l_round : Stmt := top 51
abbrev N_l_round : List Str := ["_law_holders", "_law_seat", "_law_sends_here", "_law_sent", "_law_after_here", "_law_p", "_law_kept_here", "_law_step", "_law_j"]
theorem sc_l_round : FnScope N_l_round ["_law_holders", "_law_seat", "_law_sends_here"] (defScope s_l_round) := ⟨rfl, rfl, rfl, by decide +kernel, rfl, by decide +kernel, by decide +kernel⟩
abbrev s_l_is_row : Stmt := top 52
abbrev N_l_is_row : List Str := ["_law_actual", "_law_due", "_law_k"]
theorem sc_l_is_row : FnScope N_l_is_row ["_law_actual", "_law_due"] (defScope s_l_is_row) := ⟨rfl, rfl, rfl, by decide +kernel, rfl, by decide +kernel, by decide +kernel⟩
abbrev s_l_is_pool : Stmt := top 53
abbrev N_l_is_pool : List Str := ["_law_actual", "_law_caps", "_law_holders", "_law_p"]
theorem sc_l_is_pool : FnScope N_l_is_pool ["_law_actual", "_law_caps", "_law_holders"] (defScope s_l_is_pool) := ⟨rfl, rfl, rfl, by decide +kernel, rfl, by decide +kernel, by decide +kernel⟩
abbrev s_l_kept : Stmt := top 54
abbrev N_l_kept : List Str := ["_law_caps", "_law_holders", "_law_seat", "_law_drawn", "_law_k", "_law_kind", "_law_last", "_law_turned", "_law_number", "_law_p", "_law_step"]
theorem sc_l_kept : FnScope N_l_kept ["_law_caps", "_law_holders", "_law_seat", "_law_drawn", "_law_k", "_law_kind"] (defScope s_l_kept) := ⟨rfl, rfl, rfl, by decide +kernel, rfl, by decide +kernel, by decide +kernel⟩
abbrev s_l_made : Stmt := top 55
abbrev N_l_made : List Str := ["_law_caps", "_law_holders", "_law_row"]
theorem sc_l_made : FnScope N_l_made ["_law_caps", "_law_holders"] (defScope s_l_made) := ⟨rfl, rfl, rfl, by decide +kernel, rfl, by decide +kernel, by decide +kernel⟩
abbrev s_l_are_numbers : Stmt := top 56
abbrev N_l_are_numbers : List Str := ["_law_actual", "_law_due", "_law_k"]
theorem sc_l_are_numbers : FnScope N_l_are_numbers ["_law_actual", "_law_due"] (defScope s_l_are_numbers) := ⟨rfl, rfl, rfl, by decide +kernel, rfl, by decide +kernel, by decide +kernel⟩
abbrev s_l_are_entries : Stmt := top 57
abbrev N_l_are_entries : List Str := ["_law_actual", "_law_due", "_law_p"]
theorem sc_l_are_entries : FnScope N_l_are_entries ["_law_actual", "_law_due"] (defScope s_l_are_entries) := ⟨rfl, rfl, rfl, by decide +kernel, rfl, by decide +kernel, by decide +kernel⟩
abbrev s_l_copied : Stmt := top 58
abbrev N_l_copied : List Str := ["_law_rounds", "_law_one"]
theorem sc_l_copied : FnScope N_l_copied ["_law_rounds"] (defScope s_l_copied) := ⟨rfl, rfl, rfl, by decide +kernel, rfl, by decide +kernel, by decide +kernel⟩
abbrev s_l_firsts : Stmt := top 59
abbrev N_l_firsts : List Str := ["_law_count", "_law_rounds", "_law_first", "_law_one", "_law_step"]
theorem sc_l_firsts : FnScope N_l_firsts ["_law_count", "_law_rounds"] (defScope s_l_firsts) := ⟨rfl, rfl, rfl, by decide +kernel, rfl, by decide +kernel, by decide +kernel⟩
abbrev s_l_order : Stmt := top 60
abbrev N_l_order : List Str := ["_law_count", "_law_drawn", "_law_left", "_law_order_here", "_law_k", "_law_spot"]
theorem sc_l_order : FnScope N_l_order ["_law_count", "_law_drawn"] (defScope s_l_order) := ⟨rfl, rfl, rfl, by decide +kernel, rfl, by decide +kernel, by decide +kernel⟩
abbrev s_l_after : Stmt := top 61
abbrev N_l_after : List Str := ["_law_game", "_law_caps", "_law_rows", "_law_seat", "_law_sends_here", "_law_after_here"]
theorem sc_l_after : FnScope N_l_after ["_law_game", "_law_caps", "_law_rows", "_law_seat", "_law_sends_here"] (defScope s_l_after) := ⟨rfl, rfl, rfl, by decide +kernel, rfl, by decide +kernel, by decide +kernel⟩
abbrev s_l_says_dead : Stmt := top 62
abbrev N_l_says_dead : List Str := ["_law_game", "_law_rows", "_law_p"]
theorem sc_l_says_dead : FnScope N_l_says_dead ["_law_game", "_law_rows"] (defScope s_l_says_dead) := ⟨rfl, rfl, rfl, by decide +kernel, rfl, by decide +kernel, by decide +kernel⟩
abbrev s_l_any_order : Stmt := top 63
abbrev N_l_any_order : List Str := ["_law_script", "_law_caps", "_law_holders", "_law_numbers", "_law_row", "_law_pool_here", "_law_game", "_law_rounds", "_law_rows", "_law_k", "_law_picks", "_law_sends_here", "_law_first", "_law_handed", "_law_told", "_law_living", "_law_most", "_law_number", "_law_p"]
theorem sc_l_any_order : FnScope N_l_any_order ["_law_script", "_law_caps", "_law_holders", "_law_numbers"] (defScope s_l_any_order) := ⟨rfl, rfl, rfl, by decide +kernel, rfl, by decide +kernel, by decide +kernel⟩
abbrev s_l_low_first : Stmt := top 64
abbrev N_l_low_first : List Str := ["_law_script", "_law_caps", "_law_holders", "_law_small", "_law_spot", "_law_pool_here", "_law_game", "_law_sends_here", "_law_rows", "_law_picks", "_law_told", "_law_p", "_law_row"]
theorem sc_l_low_first : FnScope N_l_low_first ["_law_script", "_law_caps", "_law_holders", "_law_small", "_law_spot"] (defScope s_l_low_first) := ⟨rfl, rfl, rfl, by decide +kernel, rfl, by decide +kernel, by decide +kernel⟩
abbrev s_l_high_first : Stmt := top 65
abbrev N_l_high_first : List Str := ["_law_script", "_law_caps", "_law_holders", "_law_small", "_law_pool_here", "_law_game", "_law_rows", "_law_sent", "_law_seat", "_law_picks", "_law_sends_here", "_law_living", "_law_most", "_law_first", "_law_told", "_law_step", "_law_p"]
theorem sc_l_high_first : FnScope N_l_high_first ["_law_script", "_law_caps", "_law_holders", "_law_small"] (defScope s_l_high_first) := ⟨rfl, rfl, rfl, by decide +kernel, rfl, by decide +kernel, by decide +kernel⟩
abbrev s_law : Stmt := top 66
abbrev N_law : List Str := ["_law_script", "_law_numbers", "_law_built", "_law_drawn", "_law_high", "_law_small", "_law_caps", "_law_holders", "_law_k", "_law_p"]
theorem sc_law : FnScope N_law ["_law_script"] (defScope s_law) := ⟨rfl, rfl, rfl, by decide +kernel, rfl, by decide +kernel, by decide +kernel⟩
end Pw
set_option Elab.async false
set_option linter.all false
set_option maxRecDepth 100000
set_option maxHeartbeats 400000
/-! The own layer: data in a frozen part F of the abstract heap H; a def's state told by data alone. -/
namespace Pw
open PySem PySem.Spec PyProof.Rows L2

/-! ### data -/
inductive Dat where
  | non | bl (b : Bool) | int (i : Int)
  | lst (ds : List Dat) | tup (ds : List Dat)
  | pool (caps : List Int) (rows : List (List Int))
  | dI (kvs : List (Int × Dat)) | dP (kvs : List ((Int × Int) × Dat))
  | scr (ns : List Int)
  | ins (C : Str) (fs : List (Str × Dat))
abbrev tI (ns : List Int) : Dat := .tup (ns.map .int)
abbrev lI (ns : List Int) : Dat := .lst (ns.map .int)
abbrev kP (p : Int × Int) : List Key := [Sum.inl p.1, Sum.inl p.2]
mutual
/-- in the heap H the value v is this datum -/
inductive Rp (K : PySem.W.Frag) (H : Hp) : V → Dat → Prop
  | non : Rp K H .non .non
  | bl (b : Bool) : Rp K H (.bl b) (.bl b)
  | int (i : Int) : Rp K H (.int i) (.int i)
  | lst {a : Addr} {xs : List V} {ds : List Dat} : H a = some (.lst xs) → RpL K H xs ds → Rp K H (.ref a) (.lst ds)
  | tup {a : Addr} {xs : List V} {ds : List Dat} : H a = some (.tup xs) → RpL K H xs ds → Rp K H (.ref a) (.tup ds)
  | pool {p dx a b : Addr} {fs : List (Str × V)} {bs : List V} {caps : List Int} {rows : List (List Int)} : H p = some (.ins (He.ga K "Pool") dx fs) →
      fs.lookup ("caps" : Str) = some (.ref a) → fs.lookup ("holders" : Str) = some (.ref b) → fs.lookup ("seats" : Str) = some (.int caps.length) → fs.lookup ("pieces" : Str) = some (.int rows.length) →
      H a = some (.tup (caps.map V.int)) → H b = some (.tup bs) → RpL K H bs (rows.map tI) → Rp K H (.ref p) (.pool caps rows)
  | dI {a : Addr} {ks : List (Key × V)} {kvs : List (Int × Dat)} : Rd H a (.dK ks) → RpI K H ks kvs → Rp K H (.ref a) (.dI kvs)
  | dP {a : Addr} {ks : List (List Key × V)} {kvs : List ((Int × Int) × Dat)} : H a = some (.dT ks) → RpP K H ks kvs → Rp K H (.ref a) (.dP kvs)
  | scr {a : Addr} {ns : List Int} : SqL K H a (ns.map V.int) → Rp K H (.ref a) (.scr ns)
  | ins {a dx : Addr} {C : Str} {fsV : List (Str × V)} {fs : List (Str × Dat)} : H a = some (.ins (He.ga K C) dx fsV) → RpF K H fsV fs → Rp K H (.ref a) (.ins C fs)
inductive RpF (K : PySem.W.Frag) (H : Hp) : List (Str × V) → List (Str × Dat) → Prop
  | nil : RpF K H [] []
  | cons {f : Str} {v : V} {d : Dat} {vs : List (Str × V)} {ds : List (Str × Dat)} : Rp K H v d → RpF K H vs ds → RpF K H ((f, v) :: vs) ((f, d) :: ds)
inductive RpL (K : PySem.W.Frag) (H : Hp) : List V → List Dat → Prop
  | nil : RpL K H [] []
  | cons {v : V} {d : Dat} {vs : List V} {ds : List Dat} : Rp K H v d → RpL K H vs ds → RpL K H (v :: vs) (d :: ds)
inductive RpI (K : PySem.W.Frag) (H : Hp) : List (Key × V) → List (Int × Dat) → Prop
  | nil : RpI K H [] []
  | cons {i : Int} {v : V} {d : Dat} {vs : List (Key × V)} {ds : List (Int × Dat)} : Rp K H v d → RpI K H vs ds → RpI K H ((Sum.inl i, v) :: vs) ((i, d) :: ds)
inductive RpP (K : PySem.W.Frag) (H : Hp) : List (List Key × V) → List ((Int × Int) × Dat) → Prop
  | nil : RpP K H [] []
  | cons {p : Int × Int} {v : V} {d : Dat} {vs : List (List Key × V)} {ds : List ((Int × Int) × Dat)} : Rp K H v d → RpP K H vs ds → RpP K H ((kP p, v) :: vs) ((p, d) :: ds)
end
/-- as it was, or a lock taken off -/
def Off (H H' : Hp) : Prop := ∀ b o, H b = some o → H' b = some o ∨ ∃ od u, o = .frz od u ∧ H' b = some u
theorem Off.of {H H' : Hp} (e : Same H H') : Off H H' := fun b o h => .inl (e b o h)
theorem Off.at {H H' : Hp} {a : Addr} {o : HO} (e : Off H H') (h : H a = some o) (n : ∀ od u, o ≠ .frz od u) : H' a = some o := by
  rcases e a o h with q | ⟨od, u, q, _⟩
  · exact q
  · exact absurd q (n od u)
theorem Off.rd {H H' : Hp} {a : Addr} {o : HO} (e : Off H H') (h : Rd H a o) (n : ∀ od u, o ≠ .frz od u) : Rd H' a o := by
  rcases h with h | ⟨ob, h⟩
  · exact .inl (e.at h n)
  · rcases e a _ h with q | ⟨od, u, q, r⟩
    · exact .inr ⟨ob, q⟩
    · cases q
      exact .inl r
theorem Off.lst {H H' : Hp} {a : Addr} {xs : List V} (e : Off H H') (h : H a = some (.lst xs)) : H' a = some (.lst xs) := e.at h fun _ _ z => by cases z
theorem Off.tup {H H' : Hp} {a : Addr} {xs : List V} (e : Off H H') (h : H a = some (.tup xs)) : H' a = some (.tup xs) := e.at h fun _ _ z => by cases z
theorem Off.ins {H H' : Hp} {a C dx : Addr} {fs : List (Str × V)} (e : Off H H') (h : H a = some (.ins C dx fs)) : H' a = some (.ins C dx fs) := e.at h fun _ _ z => by cases z
theorem Off.dT {H H' : Hp} {a : Addr} {ks : List (List Key × V)} (e : Off H H') (h : H a = some (.dT ks)) : H' a = some (.dT ks) := e.at h fun _ _ z => by cases z
theorem Off.rdK {H H' : Hp} {a : Addr} {ks : List (Key × V)} (e : Off H H') (h : Rd H a (.dK ks)) : Rd H' a (.dK ks) := e.rd h fun _ _ z => by cases z
theorem Off.sq {K : PySem.W.Frag} {H H' : Hp} {a : Addr} {xs : List V} (e : Off H H') (h : SqL K H a xs) : SqL K H' a xs := by
  rcases h with h | h
  · exact .inl (e.rd h fun _ _ z => by cases z)
  · exact .inr h
section
variable {K : PySem.W.Frag} {H H' : Hp}
mutual
theorem Rp.off (e : Off H H') : ∀ {v : V} {d : Dat}, Rp K H v d → Rp K H' v d
  | _, _, .non => .non
  | _, _, .bl b => .bl b
  | _, _, .int i => .int i
  | _, _, .lst h r => .lst (e.lst h) (RpL.off e r)
  | _, _, .tup h r => .tup (e.tup h) (RpL.off e r)
  | _, _, .pool h l1 l2 l3 l4 ha hb r => .pool (e.ins h) l1 l2 l3 l4 (e.tup ha) (e.tup hb) (RpL.off e r)
  | _, _, .dI h r => .dI (e.rdK h) (RpI.off e r)
  | _, _, .dP h r => .dP (e.dT h) (RpP.off e r)
  | _, _, .scr h => .scr (e.sq h)
  | _, _, .ins h r => .ins (e.ins h) (RpF.off e r)
theorem RpF.off (e : Off H H') : ∀ {v : List (Str × V)} {d : List (Str × Dat)}, RpF K H v d → RpF K H' v d
  | _, _, .nil => .nil
  | _, _, .cons h r => .cons (Rp.off e h) (RpF.off e r)
theorem RpL.off (e : Off H H') : ∀ {v : List V} {d : List Dat}, RpL K H v d → RpL K H' v d
  | _, _, .nil => .nil
  | _, _, .cons h r => .cons (Rp.off e h) (RpL.off e r)
theorem RpI.off (e : Off H H') : ∀ {v : List (Key × V)} {d : List (Int × Dat)}, RpI K H v d → RpI K H' v d
  | _, _, .nil => .nil
  | _, _, .cons h r => .cons (Rp.off e h) (RpI.off e r)
theorem RpP.off (e : Off H H') : ∀ {v : List (List Key × V)} {d : List ((Int × Int) × Dat)}, RpP K H v d → RpP K H' v d
  | _, _, .nil => .nil
  | _, _, .cons h r => .cons (Rp.off e h) (RpP.off e r)
end
theorem Rp.mono (e : Same H H') {v : V} {d : Dat} (h : Rp K H v d) : Rp K H' v d := h.off (Off.of e)
theorem RpL.mono (e : Same H H') {v : List V} {d : List Dat} (h : RpL K H v d) : RpL K H' v d := h.off (Off.of e)
theorem RpF.mono (e : Same H H') {v : List (Str × V)} {d : List (Str × Dat)} (h : RpF K H v d) : RpF K H' v d := h.off (Off.of e)
theorem RpI.mono (e : Same H H') {v : List (Key × V)} {d : List (Int × Dat)} (h : RpI K H v d) : RpI K H' v d := h.off (Off.of e)
theorem RpP.mono (e : Same H H') {v : List (List Key × V)} {d : List ((Int × Int) × Dat)} (h : RpP K H v d) : RpP K H' v d := h.off (Off.of e)
theorem RpL.length : ∀ {v : List V} {d : List Dat}, RpL K H v d → v.length = d.length
  | _, _, .nil => rfl
  | _, _, .cons _ r => congrArg Nat.succ (RpL.length r)
theorem RpI.length : ∀ {v : List (Key × V)} {d : List (Int × Dat)}, RpI K H v d → v.length = d.length
  | _, _, .nil => rfl
  | _, _, .cons _ r => congrArg Nat.succ (RpI.length r)
theorem RpP.length : ∀ {v : List (List Key × V)} {d : List ((Int × Int) × Dat)}, RpP K H v d → v.length = d.length
  | _, _, .nil => rfl
  | _, _, .cons _ r => congrArg Nat.succ (RpP.length r)
theorem RpL.get : ∀ {v : List V} {d : List Dat} {i : Nat} {x : Dat}, RpL K H v d → d[i]? = some x → ∃ u, v[i]? = some u ∧ Rp K H u x
  | _, _, _, _, .nil, e => by simp at e
  | _, _, 0, _, .cons h _, e => by
    simp at e
    subst e
    exact ⟨_, rfl, h⟩
  | _, _, i + 1, _, .cons _ r, e => by
    obtain ⟨u, h1, h2⟩ := RpL.get (i := i) r (by simpa using e)
    exact ⟨u, by simpa using h1, h2⟩
theorem RpL.snoc : ∀ {v : List V} {d : List Dat} {u : V} {x : Dat}, RpL K H v d → Rp K H u x → RpL K H (v ++ [u]) (d ++ [x])
  | _, _, _, _, .nil, h => .cons h .nil
  | _, _, _, _, .cons h r, q => .cons h (RpL.snoc r q)
theorem RpL.append : ∀ {v : List V} {d : List Dat} {w : List V} {x : List Dat}, RpL K H v d → RpL K H w x → RpL K H (v ++ w) (d ++ x)
  | _, _, _, _, .nil, h => h
  | _, _, _, _, .cons h r, q => .cons h (RpL.append r q)
theorem RpL.set : ∀ {v : List V} {d : List Dat} {u : V} {x : Dat} (i : Nat), RpL K H v d → Rp K H u x → RpL K H (v.set i u) (d.set i x)
  | _, _, _, _, _, .nil, _ => .nil
  | _, _, _, _, 0, .cons _ r, q => .cons q r
  | _, _, _, _, i + 1, .cons h r, q => .cons h (RpL.set i r q)
theorem RpL.take : ∀ {v : List V} {d : List Dat} (i : Nat), RpL K H v d → RpL K H (v.take i) (d.take i)
  | _, _, 0, _ => .nil
  | _, _, i + 1, .nil => .nil
  | _, _, i + 1, .cons h r => .cons h (RpL.take i r)
theorem RpL.drop : ∀ {v : List V} {d : List Dat} (i : Nat), RpL K H v d → RpL K H (v.drop i) (d.drop i)
  | _, _, 0, r => r
  | _, _, i + 1, .nil => .nil
  | _, _, i + 1, .cons _ r => RpL.drop i r
theorem RpL.reverse : ∀ {v : List V} {d : List Dat}, RpL K H v d → RpL K H v.reverse d.reverse
  | _, _, .nil => .nil
  | _, _, .cons h r => by
    rw [List.reverse_cons, List.reverse_cons]
    exact (RpL.reverse r).snoc h
theorem RpL.ints : ∀ {v : List V} {ns : List Int}, RpL K H v (ns.map .int) → v = ns.map V.int
  | _, [], h => by
    cases h
    rfl
  | _, n :: ns, h => by
    cases h with
    | cons h r =>
      cases h
      rw [RpL.ints r]
      rfl
theorem RpL.of_ints : ∀ (ns : List Int), RpL K H (ns.map V.int) (ns.map .int)
  | [] => .nil
  | n :: ns => .cons (.int n) (RpL.of_ints ns)
theorem Rp.of_int {v : V} {i : Int} (h : Rp K H v (.int i)) : v = .int i := by
  cases h
  rfl
theorem Rp.of_bl {v : V} {i : Bool} (h : Rp K H v (.bl i)) : v = .bl i := by
  cases h
  rfl
theorem Rp.of_non {v : V} (h : Rp K H v .non) : v = .non := by
  cases h
  rfl
theorem Rp.of_lst {v : V} {ds : List Dat} (h : Rp K H v (.lst ds)) : ∃ a xs, v = .ref a ∧ H a = some (.lst xs) ∧ RpL K H xs ds := by
  cases h with
  | lst h r => exact ⟨_, _, rfl, h, r⟩
theorem Rp.of_tup {v : V} {ds : List Dat} (h : Rp K H v (.tup ds)) : ∃ a xs, v = .ref a ∧ H a = some (.tup xs) ∧ RpL K H xs ds := by
  cases h with
  | tup h r => exact ⟨_, _, rfl, h, r⟩
theorem Rp.of_dI {v : V} {ds : List (Int × Dat)} (h : Rp K H v (.dI ds)) : ∃ a xs, v = .ref a ∧ Rd H a (.dK xs) ∧ RpI K H xs ds := by
  cases h with
  | dI h r => exact ⟨_, _, rfl, h, r⟩
theorem Rp.of_ins {v : V} {C : Str} {fs : List (Str × Dat)} (h : Rp K H v (.ins C fs)) : ∃ a dx fsV, v = .ref a ∧ H a = some (.ins (He.ga K C) dx fsV) ∧ RpF K H fsV fs := by
  cases h with
  | ins h r => exact ⟨_, _, _, rfl, h, r⟩
theorem Rp.of_dP {v : V} {ds : List ((Int × Int) × Dat)} (h : Rp K H v (.dP ds)) : ∃ a xs, v = .ref a ∧ H a = some (.dT xs) ∧ RpP K H xs ds := by
  cases h with
  | dP h r => exact ⟨_, _, rfl, h, r⟩
end

/-! ### how a frozen part and the heap grow -/
structure Ext (F H F' H' : Hp) : Prop where
  f : Same F F'
  h : Same H H'
  s : Same F' H'
  n : ∀ a, F a = Option.none → F' a ≠ Option.none → H a = Option.none
section
variable {F H F1 H1 F2 H2 : Hp} {a p : Addr} {o : HO}
theorem upd_same' {G : Hp} (h : G p = Option.none) : Same G (upd G p o) := fun b x e => by
  rw [upd_ne (ne_of_none e h)]
  exact e
theorem Ext.refl (s : Same F H) : Ext F H F H := ⟨Same.refl F, Same.refl H, s, fun a h1 h2 => absurd h1 h2⟩
theorem Ext.trans (e : Ext F H F1 H1) (g : Ext F1 H1 F2 H2) : Ext F H F2 H2 := ⟨e.f.trans g.f, e.h.trans g.h, g.s, fun a h1 h2 => by
  cases q : F1 a with
  | none => exact e.h.free (g.n a q h2)
  | some o => exact e.n a h1 (by rw [q]; exact nofun)⟩
theorem Ext.new (s : Same F H) (hp : H p = Option.none) : Ext F H (upd F p o) (upd H p o) := by
  refine ⟨upd_same' (s.free hp), upd_same' hp, fun b x e => ?_, fun a h1 h2 => ?_⟩
  · by_cases hb : b = p
    · subst hb
      rw [upd_same] at e ⊢
      exact e
    · rw [upd_ne hb] at e ⊢
      exact s _ _ e
  · by_cases hb : a = p
    · subst hb
      exact hp
    · rw [upd_ne hb] at h2
      exact absurd h1 h2
/-- a new object that is not frozen -/
theorem Ext.own (s : Same F H) (hp : H p = Option.none) : Ext F H F (upd H p o) := ⟨Same.refl F, upd_same' hp, s.trans (upd_same' hp), fun a h1 h2 => absurd h1 h2⟩
theorem Ext.freeze {F0 H0 : Hp} (e : Ext F0 H0 F H) (h0 : H0 a = Option.none) (hF : F a = Option.none) (hH : H a = some o) : Ext F0 H0 (upd F a o) H := by
  refine ⟨e.f.trans (upd_same' hF), e.h, fun b x q => ?_, fun b h1 h2 => ?_⟩
  · by_cases hb : b = a
    · subst hb
      rw [upd_same] at q
      rw [hH]
      exact q
    · rw [upd_ne hb] at q
      exact e.s _ _ q
  · by_cases hb : b = a
    · subst hb
      exact h0
    · rw [upd_ne hb] at h2
      exact e.n b h1 h2
theorem Ext.mut {F0 H0 : Hp} (e : Ext F0 H0 F H) (h0 : H0 a = Option.none) (hF : F a = Option.none) : Ext F0 H0 F (upd H a o) := by
  refine ⟨e.f, fun b x q => ?_, fun b x q => ?_, e.n⟩
  · rw [upd_ne (ne_of_none q h0)]
    exact e.h _ _ q
  · rw [upd_ne (ne_of_none q hF)]
    exact e.s _ _ q
theorem Ext.keep (e : Ext F H F1 H1) (hF : F a = Option.none) (hH : H a = some o) : F1 a = Option.none := by
  cases q : F1 a with
  | none => rfl
  | some x =>
    have z := e.n a hF (by rw [q]; exact nofun)
    rw [hH] at z
    cases z
end

/-! ### slots -/
/-- what is known of a slot: nothing; a datum; an own list | dict that may still change; a datum of the entry's heap, frozen or not -/
inductive Sl where
  | no
  | d (x : Dat)
  | ol (ds : List Dat)
  | oI (kvs : List (Int × Dat))
  | oP (kvs : List ((Int × Int) × Dat))
  | oL (kvs : List ((Int × Int) × List Dat))
  | rd (x : Dat)
  | oN (a : Addr) (C : Str) (fs : List (Str × Dat))
  | rN (C : Str) (fs : List (Str × Dat))
/-- a dict of own lists -/
inductive RpO (K : PySem.W.Frag) (F H : Hp) (fp : Addr → Prop) : List (List Key × V) → List ((Int × Int) × List Dat) → List Addr → Prop
  | nil : RpO K F H fp [] [] []
  | cons {p : Int × Int} {l : Addr} {xs : List V} {ds : List Dat} {ks : List (List Key × V)} {kvs : List ((Int × Int) × List Dat)} {ls : List Addr} : fp l → H l = some (.lst xs) → RpL K F xs ds → RpO K F H fp ks kvs ls → RpO K F H fp ((kP p, .ref l) :: ks) ((p, ds) :: kvs) (l :: ls)
def SlR (K : PySem.W.Frag) (H0 F H : Hp) (ov : Option (Option V)) (fp : Addr → Prop) : Sl → Prop
  | .no => True
  | .d x => ∃ v, ov = some (some v) ∧ Rp K F v x
  | .ol ds => ∃ a xs, ov = some (some (.ref a)) ∧ fp a ∧ H a = some (.lst xs) ∧ RpL K F xs ds
  | .oI kvs => ∃ a ks, ov = some (some (.ref a)) ∧ fp a ∧ H a = some (.dK ks) ∧ RpI K F ks kvs
  | .oP kvs => ∃ a ks, ov = some (some (.ref a)) ∧ fp a ∧ H a = some (.dT ks) ∧ RpP K F ks kvs
  | .oL kvs => ∃ a ks ls, ov = some (some (.ref a)) ∧ fp a ∧ H a = some (.dT ks) ∧ RpO K F H fp ks kvs ls ∧ (a :: ls).Nodup
  | .rd x => ∃ v, ov = some (some v) ∧ Rp K H0 v x
  | .oN a C fs => ∃ dx fsV, ov = some (some (.ref a)) ∧ fp a ∧ H a = some (.ins (He.ga K C) dx fsV) ∧ RpF K F fsV fs
  | .rN C fs => ∃ a dx fsV, ov = some (some (.ref a)) ∧ H0 a = some (.ins (He.ga K C) dx fsV) ∧ RpF K F fsV fs
theorem RpO.mono {K : PySem.W.Frag} {F H F' H' : Hp} {fp fp' : Addr → Prop} (hf : Same F F') (hh : ∀ a, fp a → H' a = H a) (hfp : ∀ a, fp a → fp' a) : ∀ {ks : List (List Key × V)} {kvs : List ((Int × Int) × List Dat)} {ls : List Addr}, RpO K F H fp ks kvs ls → RpO K F' H' fp' ks kvs ls
  | _, _, _, .nil => .nil
  | _, _, _, .cons h1 h2 h3 r => .cons (hfp _ h1) (by rw [hh _ h1]; exact h2) (h3.mono hf) (RpO.mono hf hh hfp r)
theorem SlR.mono {K : PySem.W.Frag} {H0 F H F' H' : Hp} {ov : Option (Option V)} {fp : Addr → Prop} {s : Sl} (hf : Same F F') (hh : ∀ a, fp a → H' a = H a) (h : SlR K H0 F H ov fp s) : SlR K H0 F' H' ov fp s := by
  cases s with
  | no => trivial
  | d x =>
    obtain ⟨v, e, r⟩ := h
    exact ⟨v, e, r.mono hf⟩
  | ol ds =>
    obtain ⟨a, xs, e, q, ha, r⟩ := h
    exact ⟨a, xs, e, q, by rw [hh a q]; exact ha, r.mono hf⟩
  | oI ds =>
    obtain ⟨a, xs, e, q, ha, r⟩ := h
    exact ⟨a, xs, e, q, by rw [hh a q]; exact ha, r.mono hf⟩
  | oP ds =>
    obtain ⟨a, xs, e, q, ha, r⟩ := h
    exact ⟨a, xs, e, q, by rw [hh a q]; exact ha, r.mono hf⟩
  | oL ds =>
    obtain ⟨a, xs, ls, e, q, ha, r, nd⟩ := h
    exact ⟨a, xs, ls, e, q, by rw [hh a q]; exact ha, r.mono hf hh (fun _ z => z), nd⟩
  | rd x => exact h
  | oN a C fs =>
    obtain ⟨dx, xs, e, q, ha, r⟩ := h
    exact ⟨dx, xs, e, q, by rw [hh a q]; exact ha, r.mono hf⟩
  | rN C fs =>
    obtain ⟨a, dx, xs, e, ha, r⟩ := h
    exact ⟨a, dx, xs, e, ha, r.mono hf⟩
/-- the state of a def: F0, H0 at its entry -/
structure Stt (K : PySem.W.Frag) (F0 H0 F H : Hp) (σ : L2.St) (δ : List Sl) : Prop where
  ext : Ext F0 H0 F H
  len : σ.length = δ.length
  own : ∃ fp : Nat → Addr → Prop, (∀ i a, fp i a → H0 a = Option.none ∧ F a = Option.none ∧ H a ≠ Option.none) ∧ (∀ i j a, fp i a → fp j a → i = j) ∧ ∀ i s, δ[i]? = some s → SlR K H0 F H σ[i]? (fp i) s
section
variable {K : PySem.W.Frag} {F0 H0 F H F1 H1 : Hp} {σ : L2.St} {δ : List Sl} {i : Nat} {x : Dat} {v : V} {ds : List Dat}
theorem Stt.grow (S : Stt K F0 H0 F H σ δ) (e : Ext F H F1 H1) : Stt K F0 H0 F1 H1 σ δ := by
  obtain ⟨fp, h1, h2, h3⟩ := S.own
  have hh : ∀ i a, fp i a → H1 a = H a := fun i a q => by
    cases z : H a with
    | none => exact absurd z (h1 i a q).2.2
    | some o => exact e.h a o z
  refine ⟨S.ext.trans e, S.len, fp, fun i a q => ⟨(h1 i a q).1, ?_, ?_⟩, h2, fun i s hs => (h3 i s hs).mono e.f (hh i)⟩
  · cases z : H a with
    | none => exact absurd z (h1 i a q).2.2
    | some o => exact e.keep (h1 i a q).2.1 z
  · rw [hh i a q]
    exact (h1 i a q).2.2
theorem Stt.get (S : Stt K F0 H0 F H σ δ) (h : δ[i]? = some (.d x)) : ∃ v, σ[i]? = some (some v) ∧ Rp K F v x := by
  obtain ⟨fp, h1, h2, h3⟩ := S.own
  exact h3 i _ h
theorem Stt.getR (S : Stt K F0 H0 F H σ δ) (h : δ[i]? = some (.rd x)) : ∃ v, σ[i]? = some (some v) ∧ Rp K H v x := by
  obtain ⟨fp, h1, h2, h3⟩ := S.own
  obtain ⟨v, e, r⟩ := h3 i _ h
  exact ⟨v, e, r.mono S.ext.h⟩
theorem Stt.getL (S : Stt K F0 H0 F H σ δ) (h : δ[i]? = some (.ol ds)) : ∃ a xs, σ[i]? = some (some (.ref a)) ∧ H0 a = Option.none ∧ F a = Option.none ∧ H a = some (.lst xs) ∧ RpL K F xs ds := by
  obtain ⟨fp, h1, h2, h3⟩ := S.own
  obtain ⟨a, xs, e, q, ha, r⟩ := h3 i _ h
  exact ⟨a, xs, e, (h1 i a q).1, (h1 i a q).2.1, ha, r⟩
/-- slot i has a new value, with the slots' owned parts as they are but for i's -/
theorem Stt.put (S : Stt K F0 H0 F H σ δ) (w : V) (s : Sl) (new : Addr → Prop) (hn : ∀ a, new a → H0 a = Option.none ∧ F a = Option.none ∧ H a ≠ Option.none) (hd : ∀ fp : Nat → Addr → Prop, (∀ i s, δ[i]? = some s → SlR K H0 F H σ[i]? (fp i) s) → (∀ i j a, fp i a → fp j a → i = j) → (∀ i a, fp i a → H0 a = Option.none ∧ F a = Option.none ∧ H a ≠ Option.none) → ∃ fp' : Nat → Addr → Prop, (∀ i s, δ[i]? = some s → SlR K H0 F H σ[i]? (fp' i) s) ∧ (∀ i j a, fp' i a → fp' j a → i = j) ∧ (∀ i a, fp' i a → H0 a = Option.none ∧ F a = Option.none ∧ H a ≠ Option.none) ∧ ∀ j a, j ≠ i → fp' j a → ¬ new a) (hi : i < δ.length → SlR K H0 F H (some (some w)) new s) : Stt K F0 H0 F H (σ.set i (some w)) (δ.set i s) := by
  obtain ⟨fp, h1, h2, h3⟩ := S.own
  obtain ⟨fp', g3, g2, g1, g4⟩ := hd fp h3 h2 h1
  refine ⟨S.ext, by rw [List.length_set, List.length_set]; exact S.len, fun j a => if j = i then new a else fp' j a, fun j a q => ?_, fun j k a q1 q2 => ?_, fun j t ht => ?_⟩
  · dsimp only at q
    by_cases hj : j = i
    · rw [if_pos hj] at q
      exact hn a q
    · rw [if_neg hj] at q
      exact g1 j a q
  · dsimp only at q1 q2
    by_cases hj : j = i <;> by_cases hk : k = i
    · exact hj.trans hk.symm
    · rw [if_pos hj] at q1
      rw [if_neg hk] at q2
      exact absurd q1 (g4 k a hk q2)
    · rw [if_neg hj] at q1
      rw [if_pos hk] at q2
      exact absurd q2 (g4 j a hj q1)
    · rw [if_neg hj] at q1
      rw [if_neg hk] at q2
      exact g2 j k a q1 q2
  · by_cases hj : j = i
    · subst hj
      by_cases hl : j < δ.length
      · rw [List.getElem?_set_self hl] at ht
        cases ht
        rw [List.getElem?_set_self (by rw [S.len]; exact hl)]
        have e : (fun a => if j = j then new a else fp' j a) = new := funext fun a => if_pos rfl
        show SlR K H0 F H (some (some w)) (fun a => if j = j then new a else fp' j a) s
        rw [e]
        exact hi hl
      · rw [List.getElem?_eq_none (by rw [List.length_set]; omega)] at ht
        cases ht
    · rw [List.getElem?_set_ne (Ne.symm hj)] at ht
      rw [List.getElem?_set_ne (Ne.symm hj)]
      have e : (fun a => if j = i then new a else fp' j a) = fp' j := funext fun a => if_neg hj
      show SlR K H0 F H σ[j]? (fun a => if j = i then new a else fp' j a) t
      rw [e]
      exact g3 j t ht
theorem Stt.set (S : Stt K F0 H0 F H σ δ) (r : Rp K F v x) : Stt K F0 H0 F H (σ.set i (some v)) (δ.set i (.d x)) :=
  S.put v (.d x) (fun _ => False) (fun _ z => z.elim) (fun fp h3 h2 h1 => ⟨fp, h3, h2, h1, fun _ _ _ _ z => z⟩) fun _ => ⟨v, rfl, r⟩
/-- a new own object in slot i: nobody else's -/
theorem Stt.setNew (S : Stt K F0 H0 F H σ δ) {a : Addr} {s : Sl} {H' : Hp} (hp : H a = Option.none) (hH : Same H H') (hF : F a = Option.none) (hs : Same F H') (ha : H' a ≠ Option.none) (hr : SlR K H0 F H' (some (some (.ref a))) (fun b => b = a) s) : Stt K F0 H0 F H' (σ.set i (some (.ref a))) (δ.set i s) := by
  have e : Ext F H F H' := ⟨Same.refl F, hH, hs, fun a h1 h2 => absurd h1 h2⟩
  obtain ⟨fp, h1, h2, h3⟩ := S.own
  have hh : ∀ i a, fp i a → H' a = H a := fun i a q => by
    cases z : H a with
    | none => exact absurd z (h1 i a q).2.2
    | some o => exact e.h a o z
  have S2 : Stt K F0 H0 F H' σ δ := S.grow e
  have nfp : ∀ j b, fp j b → b ≠ a := fun j b q z => (h1 j b q).2.2 (by rw [z]; exact hp)
  refine S2.put (.ref a) s (fun b => b = a) (fun b z => ?_) (fun fp0 g3 g2 g1 => ⟨fp, fun i s hs => (h3 i s hs).mono (Same.refl F) (hh i), h2, fun i b q => ⟨(h1 i b q).1, (h1 i b q).2.1, by rw [hh i b q]; exact (h1 i b q).2.2⟩, fun j b _ q z => nfp j b q z⟩) fun _ => hr
  subst z
  refine ⟨?_, hF, ha⟩
  exact S.ext.h.free hp
/-- the own object of slot i changes -/
theorem Stt.mut (S : Stt K F0 H0 F H σ δ) {a : Addr} {o : HO} {s t : Sl} (hs : δ[i]? = some s) (hv : ∀ fp : Addr → Prop, SlR K H0 F H σ[i]? fp s → fp a ∧ SlR K H0 F (upd H a o) σ[i]? fp t) : Stt K F0 H0 F (upd H a o) σ (δ.set i t) := by
  obtain ⟨fp, h1, h2, h3⟩ := S.own
  obtain ⟨fa, ht⟩ := hv (fp i) (h3 i s hs)
  obtain ⟨q1, q2, q3⟩ := h1 i a fa
  refine ⟨S.ext.mut q1 q2, by rw [List.length_set]; exact S.len, fp, fun j b q => ⟨(h1 j b q).1, (h1 j b q).2.1, ?_⟩, h2, fun j u hu => ?_⟩
  · by_cases hb : b = a
    · rw [hb, upd_same]
      exact nofun
    · rw [upd_ne hb]
      exact (h1 j b q).2.2
  · by_cases hj : j = i
    · subst hj
      rw [List.getElem?_set_self (List.getElem?_eq_some_iff.mp hs).1] at hu
      cases hu
      exact ht
    · rw [List.getElem?_set_ne (Ne.symm hj)] at hu
      exact (h3 j u hu).mono (Same.refl F) fun b q => upd_ne fun z => hj (h2 j i b q (by rw [z]; exact fa))
/-- an own list is frozen -/
theorem Stt.freezeL (S : Stt K F0 H0 F H σ δ) (h : δ[i]? = some (.ol ds)) : ∃ F', Same F F' ∧ Stt K F0 H0 F' H σ (δ.set i (.d (.lst ds))) := by
  obtain ⟨fp, h1, h2, h3⟩ := S.own
  obtain ⟨a, xs, e, q, ha, r⟩ := h3 i _ h
  obtain ⟨q1, q2, q3⟩ := h1 i a q
  refine ⟨upd F a (.lst xs), upd_same' q2, S.ext.freeze q1 q2 ha, by rw [List.length_set]; exact S.len, fun j b => j ≠ i ∧ fp j b, fun j b z => ⟨(h1 j b z.2).1, ?_, (h1 j b z.2).2.2⟩, fun j k b z w => h2 j k b z.2 w.2, fun j u hu => ?_⟩
  · rw [upd_ne fun w => z.1 (h2 j i b z.2 (by rw [w]; exact q))]
    exact (h1 j b z.2).2.1
  · by_cases hj : j = i
    · subst hj
      rw [List.getElem?_set_self (List.getElem?_eq_some_iff.mp h).1] at hu
      cases hu
      exact ⟨.ref a, e, .lst upd_same (r.mono (upd_same' q2))⟩
    · rw [List.getElem?_set_ne (Ne.symm hj)] at hu
      have ee : (fun b => j ≠ i ∧ fp j b) = fp j := funext fun b => propext ⟨fun z => z.2, fun z => ⟨hj, z⟩⟩
      show SlR K H0 (upd F a (.lst xs)) H σ[j]? (fun b => j ≠ i ∧ fp j b) u
      rw [ee]
      exact (h3 j u hu).mono (upd_same' q2) fun _ _ => rfl
theorem Stt.freezeI {kvs : List (Int × Dat)} (S : Stt K F0 H0 F H σ δ) (h : δ[i]? = some (.oI kvs)) : ∃ F', Same F F' ∧ Stt K F0 H0 F' H σ (δ.set i (.d (.dI kvs))) := by
  obtain ⟨fp, h1, h2, h3⟩ := S.own
  obtain ⟨a, xs, e, q, ha, r⟩ := h3 i _ h
  obtain ⟨q1, q2, q3⟩ := h1 i a q
  refine ⟨upd F a (.dK xs), upd_same' q2, S.ext.freeze q1 q2 ha, by rw [List.length_set]; exact S.len, fun j b => j ≠ i ∧ fp j b, fun j b z => ⟨(h1 j b z.2).1, ?_, (h1 j b z.2).2.2⟩, fun j k b z w => h2 j k b z.2 w.2, fun j u hu => ?_⟩
  · rw [upd_ne fun w => z.1 (h2 j i b z.2 (by rw [w]; exact q))]
    exact (h1 j b z.2).2.1
  · by_cases hj : j = i
    · subst hj
      rw [List.getElem?_set_self (List.getElem?_eq_some_iff.mp h).1] at hu
      cases hu
      exact ⟨.ref a, e, .dI (.inl upd_same) (r.mono (upd_same' q2))⟩
    · rw [List.getElem?_set_ne (Ne.symm hj)] at hu
      have ee : (fun b => j ≠ i ∧ fp j b) = fp j := funext fun b => propext ⟨fun z => z.2, fun z => ⟨hj, z⟩⟩
      show SlR K H0 (upd F a (.dK xs)) H σ[j]? (fun b => j ≠ i ∧ fp j b) u
      rw [ee]
      exact (h3 j u hu).mono (upd_same' q2) fun _ _ => rfl
end
end Pw
set_option Elab.async false
set_option linter.all false
set_option maxRecDepth 100000
set_option maxHeartbeats 400000
/-! The judgements told by data: a piece of syntax and what it does to the data (XE, XT, XA, XN, XI, XG, XS, XSs). -/
namespace Pw
open PySem PySem.Spec L2

abbrev DE := List Sl → (Dat → Prop) → Prop
abbrev DT := List Sl → (Bool → Prop) → Prop
abbrev DA := List Sl → (List Dat → Prop) → Prop
abbrev DG := Dat → List Sl → (List Sl → Prop) → Prop
abbrev DGs := List Dat → List Sl → (List Sl → Prop) → Prop
structure DEnds where
  nx : List Sl → Prop
  rt : Dat → Prop
  rtn : List Dat → Prop
  rtm : List ((Int × Int) × List Dat) → Prop
  bk : List Sl → Prop
  ct : List Sl → Prop
  /-- a return, with the state as it stands -/
  rtg : List Sl → Dat → Prop
abbrev DS := DEnds → List Sl → Prop
/-! ### what it is that a reading does what its data tell -/
def SndE (K : PySem.W.Frag) (t : TE) (d : DE) : Prop := ∀ (F0 H0 F H : Hp) (σ : L2.St) (δ : List Sl) (P : Dat → Prop), Stt K F0 H0 F H σ δ → d δ P → ∀ Q : VK, (∀ v F2 H2 x, Ext F H F2 H2 → Rp K F2 v x → P x → Q v H2) → t σ H Q
def SndT (K : PySem.W.Frag) (t : TT) (d : DT) : Prop := ∀ (F0 H0 F H : Hp) (σ : L2.St) (δ : List Sl) (P : Bool → Prop), Stt K F0 H0 F H σ δ → d δ P → ∀ Q : Bool → Hp → Prop, (∀ b F2 H2, Ext F H F2 H2 → P b → Q b H2) → t σ H Q
def SndA (K : PySem.W.Frag) (t : TA) (d : DA) : Prop := ∀ (F0 H0 F H : Hp) (σ : L2.St) (δ : List Sl) (P : List Dat → Prop), Stt K F0 H0 F H σ δ → d δ P → ∀ Q : List V → Hp → Prop, (∀ vs F2 H2 xs, Ext F H F2 H2 → RpL K F2 vs xs → P xs → Q vs H2) → t σ H Q
/-- a new list, not yet frozen -/
def SndN (K : PySem.W.Frag) (t : TE) (d : DA) : Prop := ∀ (F0 H0 F H : Hp) (σ : L2.St) (δ : List Sl) (P : List Dat → Prop), Stt K F0 H0 F H σ δ → d δ P → ∀ Q : VK,
  (∀ a ys F2 H2 xs, Ext F H F2 H2 → H a = Option.none → F2 a = Option.none → H2 a = some (.lst ys) → RpL K F2 ys xs → P xs → Q (.ref a) H2) → t σ H Q
structure ItOk (K : PySem.W.Frag) (J : It) (F : Hp) (items : List Dat) : Prop where
  go : ∀ i F1 H1, Same F F1 → Same F1 H1 → i < items.length → J.go i H1
  yld : ∀ i F1 H1 x H2, Same F F1 → Same F1 H1 → J.yld i H1 x H2 → ∀ d, items[i]? = some d → ∃ F2, Ext F1 H1 F2 H2 ∧ Rp K F2 x d
  stop : ∀ i F1 H1, Same F F1 → Same F1 H1 → items.length ≤ i → J.stop i H1
def SndI (K : PySem.W.Frag) (t : TI) (d : DA) : Prop := ∀ (F0 H0 F H : Hp) (σ : L2.St) (δ : List Sl) (P : List Dat → Prop), Stt K F0 H0 F H σ δ → d δ P → ∀ R : It → Hp → Prop, (∀ J F2 H2 items, Ext F H F2 H2 → ItOk K J F2 items → P items → R J H2) → t σ H R
/-- vs: the slots that the target stores -/
def SndG (K : PySem.W.Frag) (vs : List Nat) (t : TG) (d : DG) : Prop := ∀ (F0 H0 F H : Hp) (σ : L2.St) (δ : List Sl) (v : V) (x : Dat) (P : List Sl → Prop), Stt K F0 H0 F H σ δ → Rp K F v x → d x δ P → ∀ Q : L2.St → Hp → Prop, (∀ σ' δ', Stt K F0 H0 F H σ' δ' → wipe σ' vs = wipe σ vs → P δ' → Q σ' H) → t v σ H Q
def SndGs (K : PySem.W.Frag) (vs : List Nat) (t : TGs) (d : DGs) : Prop := ∀ (F0 H0 F H : Hp) (σ : L2.St) (δ : List Sl) (v : List V) (x : List Dat) (P : List Sl → Prop), Stt K F0 H0 F H σ δ → RpL K F v x → d x δ P → ∀ Q : L2.St → Hp → Prop, (∀ σ' δ', Stt K F0 H0 F H σ' δ' → wipe σ' vs = wipe σ vs → P δ' → Q σ' H) → t v σ H Q
structure EndsOk (K : PySem.W.Frag) (F0 H0 F : Hp) (D : Ends) (DD : DEnds) : Prop where
  nx : ∀ F' H' σ' δ', Stt K F0 H0 F' H' σ' δ' → Same F F' → DD.nx δ' → D.nx σ' H'
  rt : ∀ v F' H' x, Ext F0 H0 F' H' → Rp K F' v x → DD.rt x → D.rt v H'
  rtn : ∀ a ys F' H' xs, Ext F0 H0 F' H' → H0 a = Option.none → F' a = Option.none → H' a = some (.lst ys) → RpL K F' ys xs → DD.rtn xs → D.rt (.ref a) H'
  rtm : ∀ a ks ls F' H' kvs, Ext F0 H0 F' H' → (∀ b ∈ a :: ls, H0 b = Option.none ∧ F' b = Option.none) → (a :: ls).Nodup → H' a = some (.dT ks) → RpO K F' H' (fun b => b ∈ a :: ls) ks kvs ls → DD.rtm kvs → D.rt (.ref a) H'
  bk : ∀ F' H' σ' δ', Stt K F0 H0 F' H' σ' δ' → Same F F' → DD.bk δ' → D.bk σ' H'
  ct : ∀ F' H' σ' δ', Stt K F0 H0 F' H' σ' δ' → Same F F' → DD.ct δ' → D.ct σ' H'
  rtg : ∀ v F' H' σ' δ' x, Stt K F0 H0 F' H' σ' δ' → Same F F' → Rp K F' v x → DD.rtg δ' x → D.rt v H'
def SndS (K : PySem.W.Frag) (t : TS) (d : DS) : Prop := ∀ (F0 H0 F H : Hp) (σ : L2.St) (δ : List Sl) (D : Ends) (DD : DEnds), Stt K F0 H0 F H σ δ → d DD δ → EndsOk K F0 H0 F D DD → t D σ H
/-! ### the readings that data give -/
def tD (K : PySem.W.Frag) (d : DE) : TE := fun σ H Q => ∃ F0 H0 F δ P, Stt K F0 H0 F H σ δ ∧ d δ P ∧ ∀ v F2 H2 x, Ext F H F2 H2 → Rp K F2 v x → P x → Q v H2
def tDT (K : PySem.W.Frag) (d : DT) : TT := fun σ H Q => ∃ F0 H0 F δ P, Stt K F0 H0 F H σ δ ∧ d δ P ∧ ∀ b F2 H2, Ext F H F2 H2 → P b → Q b H2
def tDA (K : PySem.W.Frag) (d : DA) : TA := fun σ H Q => ∃ F0 H0 F δ P, Stt K F0 H0 F H σ δ ∧ d δ P ∧ ∀ v F2 H2 x, Ext F H F2 H2 → RpL K F2 v x → P x → Q v H2
def tDN (K : PySem.W.Frag) (d : DA) : TE := fun σ H Q => ∃ F0 H0 F δ P, Stt K F0 H0 F H σ δ ∧ d δ P ∧ ∀ a ys F2 H2 xs, Ext F H F2 H2 → H a = Option.none → F2 a = Option.none → H2 a = some (.lst ys) → RpL K F2 ys xs → P xs → Q (.ref a) H2
def tDI (K : PySem.W.Frag) (d : DA) : TI := fun σ H R => ∃ F0 H0 F δ P, Stt K F0 H0 F H σ δ ∧ d δ P ∧ ∀ J F2 H2 items, Ext F H F2 H2 → ItOk K J F2 items → P items → R J H2
def tDG (K : PySem.W.Frag) (vs : List Nat) (d : DG) : TG := fun v σ H Q => ∃ F0 H0 F δ x P, Stt K F0 H0 F H σ δ ∧ Rp K F v x ∧ d x δ P ∧ ∀ σ' δ', Stt K F0 H0 F H σ' δ' → wipe σ' vs = wipe σ vs → P δ' → Q σ' H
def tDGs (K : PySem.W.Frag) (vs : List Nat) (d : DGs) : TGs := fun v σ H Q => ∃ F0 H0 F δ x P, Stt K F0 H0 F H σ δ ∧ RpL K F v x ∧ d x δ P ∧ ∀ σ' δ', Stt K F0 H0 F H σ' δ' → wipe σ' vs = wipe σ vs → P δ' → Q σ' H
def tDS (K : PySem.W.Frag) (d : DS) : TS := fun D σ H => ∃ F0 H0 F δ DD, Stt K F0 H0 F H σ δ ∧ d DD δ ∧ EndsOk K F0 H0 F D DD
section
variable {K : PySem.W.Frag}
theorem snd_tD (d : DE) : SndE K (tD K d) d := fun F0 H0 F H σ δ P S h Q q => ⟨F0, H0, F, δ, P, S, h, q⟩
theorem snd_tDT (d : DT) : SndT K (tDT K d) d := fun F0 H0 F H σ δ P S h Q q => ⟨F0, H0, F, δ, P, S, h, q⟩
theorem snd_tDA (d : DA) : SndA K (tDA K d) d := fun F0 H0 F H σ δ P S h Q q => ⟨F0, H0, F, δ, P, S, h, q⟩
theorem snd_tDN (d : DA) : SndN K (tDN K d) d := fun F0 H0 F H σ δ P S h Q q => ⟨F0, H0, F, δ, P, S, h, q⟩
theorem snd_tDI (d : DA) : SndI K (tDI K d) d := fun F0 H0 F H σ δ P S h Q q => ⟨F0, H0, F, δ, P, S, h, q⟩
theorem snd_tDG (vs : List Nat) (d : DG) : SndG K vs (tDG K vs d) d := fun F0 H0 F H σ δ v x P S r h Q q => ⟨F0, H0, F, δ, x, P, S, r, h, q⟩
theorem snd_tDGs (vs : List Nat) (d : DGs) : SndGs K vs (tDGs K vs d) d := fun F0 H0 F H σ δ v x P S r h Q q => ⟨F0, H0, F, δ, x, P, S, r, h, q⟩
theorem snd_tDS (d : DS) : SndS K (tDS K d) d := fun F0 H0 F H σ δ D DD S h e => ⟨F0, H0, F, δ, DD, S, h, e⟩
end
/-! ### the judgements -/
def XE (X : Cx) (e : Expr) (d : DE) : Prop := PE X e (tD X.K d)
def XT (X : Cx) (e : Expr) (d : DT) : Prop := PT X e (tDT X.K d)
def XW (X : Cx) (e : Expr) (d : DT) : Prop := PW X e (tDT X.K d)
def XA (X : Cx) (es : List Expr) (d : DA) : Prop := PA X es (tDA X.K d)
def XN (X : Cx) (e : Expr) (d : DA) : Prop := PE X e (tDN X.K d)
def XI (X : Cx) (tg e : Expr) (d : DA) : Prop := PI X tg e (tDI X.K d)
def XG (X : Cx) (vs : List Nat) (e : Expr) (d : DG) : Prop := PG X e (tDG X.K vs d)
def XGs (X : Cx) (vs : List Nat) (es : List Expr) (d : DGs) : Prop := PGs X es (tDGs X.K vs d)
def XS (X : Cx) (st : Stmt) (d : DS) : Prop := PS X st (tDS X.K d)
def XSs (X : Cx) (sts : List Stmt) (d : DS) : Prop := PSs X sts (tDS X.K d)
section
variable {X : Cx}
theorem xe_of {e : Expr} {t : TE} {d : DE} (h : PE X e t) (s : SndE X.K t d) : XE X e d := ⟨fun pins s0 σ H Q I ⟨F0, H0, F, δ, P, S, hd, q⟩ => h.run pins s0 σ H Q I (s F0 H0 F H σ δ P S hd Q q)⟩
theorem xt_of {e : Expr} {t : TT} {d : DT} (h : PT X e t) (s : SndT X.K t d) : XT X e d := ⟨fun pins s0 σ H Q I ⟨F0, H0, F, δ, P, S, hd, q⟩ => h.run pins s0 σ H Q I (s F0 H0 F H σ δ P S hd Q q)⟩
theorem xw_of {e : Expr} {t : TT} {d : DT} (h : PW X e t) (s : SndT X.K t d) : XW X e d := ⟨fun wh pins s0 σ H Q I ⟨F0, H0, F, δ, P, S, hd, q⟩ => h.run wh pins s0 σ H Q I (s F0 H0 F H σ δ P S hd Q q)⟩
theorem xa_of {e : List Expr} {t : TA} {d : DA} (h : PA X e t) (s : SndA X.K t d) : XA X e d := ⟨fun pos pins s0 σ H Q I ⟨F0, H0, F, δ, P, S, hd, q⟩ => h.run pos pins s0 σ H Q I (s F0 H0 F H σ δ P S hd Q q)⟩
theorem xn_of {e : Expr} {t : TE} {d : DA} (h : PE X e t) (s : SndN X.K t d) : XN X e d := ⟨fun pins s0 σ H Q I ⟨F0, H0, F, δ, P, S, hd, q⟩ => h.run pins s0 σ H Q I (s F0 H0 F H σ δ P S hd Q q)⟩
theorem xi_of {tg e : Expr} {t : TI} {d : DA} (h : PI X tg e t) (s : SndI X.K t d) : XI X tg e d := ⟨fun pins s0 σ H Q I ⟨F0, H0, F, δ, P, S, hd, q⟩ => h.run pins s0 σ H Q I (s F0 H0 F H σ δ P S hd Q q)⟩
theorem xg_of {vs : List Nat} {e : Expr} {t : TG} {d : DG} (h : PG X e t) (s : SndG X.K vs t d) : XG X vs e d := ⟨fun pins s0 σ H v u Q I r ⟨F0, H0, F, δ, x, P, S, rx, hd, q⟩ => h.run pins s0 σ H v u Q I r (s F0 H0 F H σ δ v x P S rx hd Q q)⟩
theorem xgs_of {vs : List Nat} {e : List Expr} {t : TGs} {d : DGs} (h : PGs X e t) (s : SndGs X.K vs t d) : XGs X vs e d := ⟨fun pins s0 σ H v u Q I r ⟨F0, H0, F, δ, x, P, S, rx, hd, q⟩ => h.run pins s0 σ H v u Q I r (s F0 H0 F H σ δ v x P S rx hd Q q)⟩
theorem xs_of {e : Stmt} {t : TS} {d : DS} (h : PS X e t) (s : SndS X.K t d) : XS X e d := ⟨fun pins s0 σ H D I ⟨F0, H0, F, δ, DD, S, hd, q⟩ => h.run pins s0 σ H D I (s F0 H0 F H σ δ D DD S hd q)⟩
theorem xss_of {e : List Stmt} {t : TS} {d : DS} (h : PSs X e t) (s : SndS X.K t d) : XSs X e d := ⟨fun pins s0 σ H D I ⟨F0, H0, F, δ, DD, S, hd, q⟩ => h.run pins s0 σ H D I (s F0 H0 F H σ δ D DD S hd q)⟩
end
/-! ### values -/
section
variable {X : Cx} {pos p : Pos}
def dVar (i : Nat) : DE := fun δ P => ∃ x, δ[i]? = some (.d x) ∧ P x
def dC (x : Dat) : DE := fun _ P => P x
theorem xv (i : Nat) {x : Str} (hN : X.N[i]? = some x := by rfl) (hv : Vis X.env.scope x := by first | exact Or.inl rfl | exact Or.inr (Or.inl rfl) | exact Or.inr (Or.inr rfl)) (hd : (x == ("__debug__" : Str)) = false := by decide)
    (hcd : (x == ("__classdict__" : Str)) = false := by decide) : XE X (.Name x pos) (dVar i) :=
  xe_of (pv i hN hv hd hcd) fun F0 H0 F H σ δ P S ⟨x, hx, px⟩ Q q => by
    obtain ⟨v, hv, r⟩ := S.get hx
    exact ⟨v, hv, q v F H x (Ext.refl S.ext.s) r px⟩
theorem xint {i : Int} {j} : XE X (.Constant (.int i) j pos) (dC (.int i)) := xe_of pe_int fun F0 H0 F H σ δ P S h Q q => q _ F H _ (Ext.refl S.ext.s) (.int i) h
theorem xbl {b : Bool} {j} : XE X (.Constant (.bool b) j pos) (dC (.bl b)) := xe_of pe_bl fun F0 H0 F H σ δ P S h Q q => q _ F H _ (Ext.refl S.ext.s) (.bl b) h
theorem xnon {j} : XE X (.Constant .none j pos) (dC .non) := xe_of pe_non fun F0 H0 F H σ δ P S h Q q => q _ F H _ (Ext.refl S.ext.s) .non h
/-- a new list is a value too -/
theorem xe_new {e : Expr} {d : DA} (h : XN X e d) : XE X e (fun δ P => d δ fun xs => P (.lst xs)) := xe_of h fun F0 H0 F H σ δ P S hd Q q =>
  snd_tDN d F0 H0 F H σ δ _ S hd Q fun a ys F2 H2 xs e0 ha hF hH r px => q (.ref a) (upd F2 a (.lst ys)) H2 (.lst xs) (e0.freeze ha hF hH) (.lst upd_same (r.mono (upd_same' hF))) px
/-! ### argument lists -/
def dNil : DA := fun _ P => P []
def dCons (d : DE) (r : DA) : DA := fun δ P => d δ fun x => r δ fun xs => P (x :: xs)
theorem xa_nil : XA X [] dNil := xa_of pa_nil fun F0 H0 F H σ δ P S h Q q => q [] F H [] (Ext.refl S.ext.s) .nil h
theorem xa_cons {e : Expr} {es : List Expr} {d : DE} {r : DA} (h : XE X e d) (hr : XA X es r)
    (hs : starEach (e :: es) X.env = (false, eval e X.env) :: starEach es X.env := by rfl) : XA X (e :: es) (dCons d r) :=
  xa_of (pa_cons h hr hs) fun F0 H0 F H σ δ P S hd Q q =>
    snd_tD d F0 H0 F H σ δ _ S hd _ fun v F2 H2 x e1 rx hx => snd_tDA r F0 H0 F2 H2 σ δ _ (S.grow e1) hx _ fun vs F3 H3 xs e2 rs px => q (v :: vs) F3 H3 (x :: xs) (e1.trans e2) (.cons (rx.mono e2.f) rs) px
/-! ### operators by values -/
def OpD (K : PySem.W.Frag) (r : R2) (d : Dat → Dat → (Dat → Prop) → Prop) : Prop := ∀ (F H : Hp) (v u : V) (x y : Dat) (P : Dat → Prop), Same F H → Rp K F v x → Rp K F u y → d x y P → ∀ Q : VK, (∀ w F2 H2 z, Ext F H F2 H2 → Rp K F2 w z → P z → Q w H2) → r v u H Q
def OpN (K : PySem.W.Frag) (r : R2) (d : Dat → Dat → (List Dat → Prop) → Prop) : Prop := ∀ (F H : Hp) (v u : V) (x y : Dat) (P : List Dat → Prop), Same F H → Rp K F v x → Rp K F u y → d x y P → ∀ Q : VK,
  (∀ a ys F2 H2 xs, Ext F H F2 H2 → H a = Option.none → F2 a = Option.none → H2 a = some (.lst ys) → RpL K F2 ys xs → P xs → Q (.ref a) H2) → r v u H Q
def dOp (r : Dat → Dat → (Dat → Prop) → Prop) (da db : DE) : DE := fun δ P => da δ fun x => db δ fun y => r x y P
def dOpN (r : Dat → Dat → (List Dat → Prop) → Prop) (da db : DE) : DA := fun δ P => da δ fun x => db δ fun y => r x y P
theorem snd_op {K : PySem.W.Frag} {r : R2} {rd : Dat → Dat → (Dat → Prop) → Prop} {da db : DE} (hr : OpD K r rd) : SndE K (tOp r (tD K da) (tD K db)) (dOp rd da db) := fun F0 H0 F H σ δ P S hd Q q =>
  snd_tD da F0 H0 F H σ δ _ S hd _ fun v F2 H2 x e1 rx hx => snd_tD db F0 H0 F2 H2 σ δ _ (S.grow e1) hx _ fun u F3 H3 y e2 ry hy =>
    hr F3 H3 v u x y P e2.s (rx.mono e2.f) ry hy Q fun w F4 H4 z e3 rz pz => q w F4 H4 z ((e1.trans e2).trans e3) rz pz
theorem snd_opN {K : PySem.W.Frag} {r : R2} {rd : Dat → Dat → (List Dat → Prop) → Prop} {da db : DE} (hr : OpN K r rd) : SndN K (tOp r (tD K da) (tD K db)) (dOpN rd da db) := fun F0 H0 F H σ δ P S hd Q q =>
  snd_tD da F0 H0 F H σ δ _ S hd _ fun v F2 H2 x e1 rx hx => snd_tD db F0 H0 F2 H2 σ δ _ (S.grow e1) hx _ fun u F3 H3 y e2 ry hy =>
    hr F3 H3 v u x y P e2.s (rx.mono e2.f) ry hy Q fun a ys F4 H4 xs e3 na hF hH rz pz => q a ys F4 H4 xs ((e1.trans e2).trans e3) ((e1.trans e2).h.free na) hF hH rz pz
theorem xe_op {a b : Expr} {op : Operator} {r : R2} {rd : Dat → Dat → (Dat → Prop) → Prop} {da db : DE} (ho : OpR X (binaryOp op) r) (hr : OpD X.K r rd) (ha : XE X a da) (hb : XE X b db) : XE X (.BinOp a op b pos) (dOp rd da db) := xe_of (pe_op ho ha hb) (snd_op hr)
theorem xn_op {a b : Expr} {op : Operator} {r : R2} {rd : Dat → Dat → (List Dat → Prop) → Prop} {da db : DE} (ho : OpR X (binaryOp op) r) (hr : OpN X.K r rd) (ha : XE X a da) (hb : XE X b db) : XN X (.BinOp a op b pos) (dOpN rd da db) := xn_of (pe_op ho ha hb) (snd_opN hr)
theorem xe_cmp {a b : Expr} {op : CmpOp} {r : R2} {rd : Dat → Dat → (Dat → Prop) → Prop} {da db : DE} (ho : OpR X (compareOp op) r) (hr : OpD X.K r rd) (ha : XE X a da) (hb : XE X b db) (hm : behindInMarks op b = false := by rfl) : XE X (.Compare a [op] [b] pos) (dOp rd da db) := xe_of (pe_cmpR ho ha hb hm) (snd_op hr)
theorem xe_ix {a b : Expr} {r : R2} {rd : Dat → Dat → (Dat → Prop) → Prop} {da db : DE} (ho : IxR X r) (hr : OpD X.K r rd) (ha : XE X a da) (hb : XE X b db) (hm : PlainIx b := by intro _ _; rfl) : XE X (.Subscript a b pos) (dOp rd da db) := xe_of (pe_ix ho ha hb hm) (snd_op hr)
/-! ### calls of built-ins by values -/
def CalD (K : PySem.W.Frag) (r : List V → Hp → VK → Prop) (d : List Dat → (Dat → Prop) → Prop) : Prop := ∀ (F H : Hp) (vs : List V) (xs : List Dat) (P : Dat → Prop), Same F H → RpL K F vs xs → d xs P → ∀ Q : VK, (∀ w F2 H2 z, Ext F H F2 H2 → Rp K F2 w z → P z → Q w H2) → r vs H Q
def CalN (K : PySem.W.Frag) (r : List V → Hp → VK → Prop) (d : List Dat → (List Dat → Prop) → Prop) : Prop := ∀ (F H : Hp) (vs : List V) (xs : List Dat) (P : List Dat → Prop), Same F H → RpL K F vs xs → d xs P → ∀ Q : VK,
  (∀ a ys F2 H2 zs, Ext F H F2 H2 → H a = Option.none → F2 a = Option.none → H2 a = some (.lst ys) → RpL K F2 ys zs → P zs → Q (.ref a) H2) → r vs H Q
def dCall (r : List Dat → (Dat → Prop) → Prop) (d : DA) : DE := fun δ P => d δ fun xs => r xs P
def dCallN (r : List Dat → (List Dat → Prop) → Prop) (d : DA) : DA := fun δ P => d δ fun xs => r xs P
theorem snd_call {K : PySem.W.Frag} {r : List V → Hp → VK → Prop} {rd : List Dat → (Dat → Prop) → Prop} {d : DA} (hr : CalD K r rd) : SndE K (tCB r (tDA K d)) (dCall rd d) := fun F0 H0 F H σ δ P S hd Q q =>
  snd_tDA d F0 H0 F H σ δ _ S hd _ fun vs F2 H2 xs e1 rx hx => hr F2 H2 vs xs P e1.s rx hx Q fun w F3 H3 z e2 rz pz => q w F3 H3 z (e1.trans e2) rz pz
theorem snd_callN {K : PySem.W.Frag} {r : List V → Hp → VK → Prop} {rd : List Dat → (List Dat → Prop) → Prop} {d : DA} (hr : CalN K r rd) : SndN K (tCB r (tDA K d)) (dCallN rd d) := fun F0 H0 F H σ δ P S hd Q q =>
  snd_tDA d F0 H0 F H σ δ _ S hd _ fun vs F2 H2 xs e1 rx hx => hr F2 H2 vs xs P e1.s rx hx Q fun a ys F3 H3 zs e2 na hF hH rz pz => q a ys F3 H3 zs (e1.trans e2) (e1.h.free na) hF hH rz pz
section
variable {x : Str} {e : Expr} {es : List Expr} {d : DA} {id T : String} {r : List V → Hp → VK → Prop}
theorem xe_callB {rd : List Dat → (Dat → Prop) → Prop} (hc : CallR X (.builtin id) r) (hr : CalD X.K r rd) (hm : X.mg x = Option.none) (ha : XA X (e :: es) d) (hg : Gl X x := by rfl) (hv : bootBuiltins x = some (.builtin id) := by decide +kernel) (hn : x ≠ "__name__" := by decide) (hdb : (x == ("__debug__" : Str)) = false := by decide)
    (he : starEach (e :: es) X.env = (false, eval e X.env) :: starEach es X.env := by rfl) (hpl : (backTo pos (starEach es X.env)).any (·.1) = false := by rfl) : XE X (.Call (.Name x p) (e :: es) [] pos) (dCall rd d) := xe_of (pe_callB hc hg hm hv ha hn hdb he hpl) (snd_call hr)
theorem xn_callB {rd : List Dat → (List Dat → Prop) → Prop} (hc : CallR X (.builtin id) r) (hr : CalN X.K r rd) (hm : X.mg x = Option.none) (ha : XA X (e :: es) d) (hg : Gl X x := by rfl) (hv : bootBuiltins x = some (.builtin id) := by decide +kernel) (hn : x ≠ "__name__" := by decide) (hdb : (x == ("__debug__" : Str)) = false := by decide)
    (he : starEach (e :: es) X.env = (false, eval e X.env) :: starEach es X.env := by rfl) (hpl : (backTo pos (starEach es X.env)).any (·.1) = false := by rfl) : XN X (.Call (.Name x p) (e :: es) [] pos) (dCallN rd d) := xn_of (pe_callB hc hg hm hv ha hn hdb he hpl) (snd_callN hr)
theorem xe_callT {rd : List Dat → (Dat → Prop) → Prop} (hc : CallR X (.type T) r) (hr : CalD X.K r rd) (hm : X.mg x = Option.none) (ha : XA X (e :: es) d) (hg : Gl X x := by rfl) (hv : bootBuiltins x = some (.type T) := by decide +kernel) (hn : x ≠ "__name__" := by decide) (hdb : (x == ("__debug__" : Str)) = false := by decide)
    (he : starEach (e :: es) X.env = (false, eval e X.env) :: starEach es X.env := by rfl) (hpl : (backTo pos (starEach es X.env)).any (·.1) = false := by rfl) : XE X (.Call (.Name x p) (e :: es) [] pos) (dCall rd d) := xe_of (pe_callTy hc hg hm hv ha hn hdb he hpl) (snd_call hr)
theorem xn_callT {rd : List Dat → (List Dat → Prop) → Prop} (hc : CallR X (.type T) r) (hr : CalN X.K r rd) (hm : X.mg x = Option.none) (ha : XA X (e :: es) d) (hg : Gl X x := by rfl) (hv : bootBuiltins x = some (.type T) := by decide +kernel) (hn : x ≠ "__name__" := by decide) (hdb : (x == ("__debug__" : Str)) = false := by decide)
    (he : starEach (e :: es) X.env = (false, eval e X.env) :: starEach es X.env := by rfl) (hpl : (backTo pos (starEach es X.env)).any (·.1) = false := by rfl) : XN X (.Call (.Name x p) (e :: es) [] pos) (dCallN rd d) := xn_of (pe_callTy hc hg hm hv ha hn hdb he hpl) (snd_callN hr)
end
/-! ### calls of the text's own defs -/
/-- a def's promise told by data -/
def spD (K : PySem.W.Frag) (pre : List Dat → (Dat → Prop) → Prop) : Sp := fun vs H Q _ => ∃ F ds post, Same F H ∧ RpL K F vs ds ∧ pre ds post ∧ ∀ v F2 H2 d, Ext F H F2 H2 → Rp K F2 v d → post d → Q v H2
/-- .. of a def that hands back a new list -/
def spDN (K : PySem.W.Frag) (pre : List Dat → (List Dat → Prop) → Prop) : Sp := fun vs H Q _ => ∃ F ds post, Same F H ∧ RpL K F vs ds ∧ pre ds post ∧ ∀ a ys F2 H2 zs, Ext F H F2 H2 → H a = Option.none → F2 a = Option.none → H2 a = some (.lst ys) → RpL K F2 ys zs → post zs → Q (.ref a) H2
abbrev CalX (X : Cx) (k : Nat) (x : Str) (sp : Sp) (dvs : List V) : Prop := C8.Cal X.prog X.w X.K X.mg X.base k x sp dvs
theorem xe_c {k j : Nat} {x : Str} {pre : List Dat → (Dat → Prop) → Prop} {e : Expr} {es : List Expr} {d : DA} (c : CalX X k x (spD X.K pre) []) (hr : Room j X.A) (ha : XA X (e :: es) d) (hk : k ≤ j := by decide) (hg : Gl X x := by rfl)
    (hdb : (x == ("__debug__" : Str)) = false := by decide) (he : starEach (e :: es) X.env = (false, eval e X.env) :: starEach es X.env := by rfl) (hpl : (backTo pos (starEach es X.env)).any (·.1) = false := by rfl) : XE X (.Call (.Name x p) (e :: es) [] pos) (dCall pre d) :=
  xe_of (C8.pe_c c hr hk hg ha hdb he hpl) fun F0 H0 F H σ δ P S hd Q q => snd_tDA d F0 H0 F H σ δ _ S hd _ fun vs F2 H2 xs e1 rx hx => by
    rw [List.append_nil]
    exact ⟨F2, xs, P, e1.s, rx, hx, fun v F3 H3 z e2 rz pz => q v F3 H3 z (e1.trans e2) rz pz⟩
theorem xn_c {k j : Nat} {x : Str} {pre : List Dat → (List Dat → Prop) → Prop} {e : Expr} {es : List Expr} {d : DA} (c : CalX X k x (spDN X.K pre) []) (hr : Room j X.A) (ha : XA X (e :: es) d) (hk : k ≤ j := by decide) (hg : Gl X x := by rfl)
    (hdb : (x == ("__debug__" : Str)) = false := by decide) (he : starEach (e :: es) X.env = (false, eval e X.env) :: starEach es X.env := by rfl) (hpl : (backTo pos (starEach es X.env)).any (·.1) = false := by rfl) : XN X (.Call (.Name x p) (e :: es) [] pos) (dCallN pre d) :=
  xn_of (C8.pe_c c hr hk hg ha hdb he hpl) fun F0 H0 F H σ δ P S hd Q q => snd_tDA d F0 H0 F H σ δ _ S hd _ fun vs F2 H2 xs e1 rx hx => by
    rw [List.append_nil]
    exact ⟨F2, xs, P, e1.s, rx, hx, fun a ys F3 H3 z e2 na hF hH rz pz => q a ys F3 H3 z (e1.trans e2) (e1.h.free na) hF hH rz pz⟩
/-- .. with one more parameter that stands by default (None) -/
theorem xe_c1 {k j : Nat} {x : Str} {pre : List Dat → (Dat → Prop) → Prop} {e : Expr} {es : List Expr} {d : DA} (c : CalX X k x (spD X.K pre) [.non]) (hr : Room j X.A) (ha : XA X (e :: es) d) (hk : k ≤ j := by decide) (hg : Gl X x := by rfl)
    (hdb : (x == ("__debug__" : Str)) = false := by decide) (he : starEach (e :: es) X.env = (false, eval e X.env) :: starEach es X.env := by rfl) (hpl : (backTo pos (starEach es X.env)).any (·.1) = false := by rfl) : XE X (.Call (.Name x p) (e :: es) [] pos) (dCall (fun xs P => pre (xs ++ [.non]) P) d) :=
  xe_of (C8.pe_c c hr hk hg ha hdb he hpl) fun F0 H0 F H σ δ P S hd Q q => snd_tDA d F0 H0 F H σ δ _ S hd _ fun vs F2 H2 xs e1 rx hx =>
    ⟨F2, xs ++ [.non], P, e1.s, rx.snoc .non, hx, fun v F3 H3 z e2 rz pz => q v F3 H3 z (e1.trans e2) rz pz⟩
/-! ### displays -/
def dTup (d : DA) : DE := fun δ P => d δ fun xs => xs.length ≤ 1000 ∧ P (.tup xs)
def dLst (d : DA) : DA := fun δ P => d δ fun xs => xs.length ≤ 1000 ∧ P xs
theorem sz1000 {n : Nat} (h : n ≤ 1000) : n ≤ sizeLine := Nat.le_trans h (by decide)
theorem sz100000 {n : Nat} (h : n < 100000) : n < sizeLine := Nat.lt_of_lt_of_le h (by decide)
theorem xe_tup {es : List Expr} {k : Nat} {d : DA} (h : XA X es d) : XE X (.Tuple es k pos) (dTup d) := xe_of (pe_tup h) fun F0 H0 F H σ δ P S hd Q q =>
  snd_tDA d F0 H0 F H σ δ _ S hd _ fun vs F2 H2 xs e1 rx hx => ⟨sz1000 (by rw [rx.length]; exact hx.1), fun a ha => q (.ref a) _ _ (.tup xs) (e1.trans (Ext.new e1.s ha)) (.tup upd_same (rx.mono (upd_same' (e1.s.free ha)))) hx.2⟩
theorem xn_lst {es : List Expr} {d : DA} (h : XA X es d) : XN X (.List es pos) (dLst d) := xn_of (pe_lst h) fun F0 H0 F H σ δ P S hd Q q =>
  snd_tDA d F0 H0 F H σ δ _ S hd _ fun vs F2 H2 xs e1 rx hx => ⟨sz1000 (by rw [rx.length]; exact hx.1), fun a ha => q a vs F2 _ xs (e1.trans (Ext.own e1.s ha)) (e1.h.free ha) (e1.s.free ha) upd_same rx hx.2⟩
/-! ### tests -/
def dTest (d : DE) : DT := fun δ P => d δ fun x => ∃ b, x = .bl b ∧ P b
theorem snd_test {K : PySem.W.Frag} {t : TE} {d : DE} (h : SndE K t d) : SndT K (tTest t) (dTest d) := fun F0 H0 F H σ δ P S hd Q q => h F0 H0 F H σ δ _ S hd _ fun v F2 H2 x e1 rx ⟨b, hb, pb⟩ => by
  subst hb
  exact ⟨b, rx.of_bl, q b F2 H2 e1 pb⟩
/-- a comparison as a test -/
theorem xt_cmp {a b : Expr} {op : CmpOp} {r : R2} {rd : Dat → Dat → (Dat → Prop) → Prop} {da db : DE} (ho : OpR X (compareOp op) r) (hr : OpD X.K r rd) (ha : XE X a da) (hb : XE X b db) (hm : behindInMarks op b = false := by rfl) : XT X (.Compare a [op] [b] pos) (dTest (dOp rd da db)) := xt_of (pt_cmpR ho ha hb hm) (snd_test (snd_op hr))
def dB (d : DE) : DT := fun δ P => d δ fun x => ∃ b, x = .bl b ∧ P b
/-- any expression that gives a bool, as a test -/
theorem xt_val {e : Expr} {d : DE} (h : XE X e d) (he : ∀ whole, isTrue e X.env whole = (do let v ← whole; standAt e.pos; holding [v] (truthy v)) := by intro _; rfl) : XT X e (dB d) := xt_of (pt_val h he) fun F0 H0 F H σ δ P S hd Q q => snd_tD d F0 H0 F H σ δ _ S hd _ fun v F2 H2 x e1 rx ⟨b, hb, pb⟩ => by
  subst hb
  exact ⟨b, rx.of_bl, q b F2 H2 e1 pb⟩
end
end Pw
set_option Elab.async false
set_option linter.all false
set_option maxRecDepth 100000
set_option maxHeartbeats 400000
/-! and, or, not; statements, loops, comprehensions, told by data. -/
namespace Pw
open PySem PySem.Spec L2
section
variable {X : Cx} {pos p : Pos} {a b c : Expr} {rest : List Expr}
/-! ### and, or, not -/
def dAnd (t u : DT) : DT := fun δ P => t δ fun b => if b = true then u δ P else P false
def dOr (t u : DT) : DT := fun δ P => t δ fun b => if b = true then P true else u δ P
def dNot (t : DT) : DT := fun δ P => t δ fun b => P (!b)
theorem xw_and1 {d : DT} (ha : XT X a d) : XW X (.BoolOp .And [a] pos) d := xw_of (pw_and1 ha) (snd_tDT d)
theorem xw_or1 {d : DT} (ha : XT X a d) : XW X (.BoolOp .Or [a] pos) d := xw_of (pw_or1 ha) (snd_tDT d)
theorem xw_and {da db : DT} (ha : XT X a da) (hb : XW X (.BoolOp .And (b :: rest) pos) db) : XW X (.BoolOp .And (a :: b :: rest) pos) (dAnd da db) := xw_of (pw_and ha hb) fun F0 H0 F H σ δ P S hd Q q =>
  snd_tDT da F0 H0 F H σ δ _ S hd _ fun v F2 H2 e1 h => by
    cases v with
    | true => exact snd_tDT db F0 H0 F2 H2 σ δ _ (S.grow e1) h _ fun w F3 H3 e2 h2 => q w F3 H3 (e1.trans e2) h2
    | false => exact q false F2 H2 e1 h
theorem xw_or {da db : DT} (ha : XT X a da) (hb : XW X (.BoolOp .Or (b :: rest) pos) db) : XW X (.BoolOp .Or (a :: b :: rest) pos) (dOr da db) := xw_of (pw_or ha hb) fun F0 H0 F H σ δ P S hd Q q =>
  snd_tDT da F0 H0 F H σ δ _ S hd _ fun v F2 H2 e1 h => by
    cases v with
    | true => exact q true F2 H2 e1 h
    | false => exact snd_tDT db F0 H0 F2 H2 σ δ _ (S.grow e1) h _ fun w F3 H3 e2 h2 => q w F3 H3 (e1.trans e2) h2
theorem xw_t {d : DT} (h : XW X a d) : XT X a d := h.pt
theorem xt_not {d : DT} (ha : XT X a d) : XT X (.UnaryOp .Not a pos) (dNot d) := xt_of (pt_not ha) fun F0 H0 F H σ δ P S hd Q q => snd_tDT d F0 H0 F H σ δ _ S hd _ fun v F2 H2 e1 h => q (!v) F2 H2 e1 h
/-- .. as values -/
def dAndV (da db : DE) : DE := fun δ P => da δ fun x => ∃ c, x = .bl c ∧ if c = true then db δ P else P (.bl false)
def dOrV (da db : DE) : DE := fun δ P => da δ fun x => ∃ c, x = .bl c ∧ if c = true then P (.bl true) else db δ P
def dNotV (da : DE) : DE := fun δ P => da δ fun x => ∃ c, x = .bl c ∧ P (.bl (!c))
theorem xe_one {op} {d : DE} (h : XE X a d) : XE X (.BoolOp op [a] pos) d := xe_of (pe_one h) (snd_tD d)
theorem xe_and {da db : DE} (ha : XE X a da) (hb : XE X (.BoolOp .And (b :: rest) pos) db) : XE X (.BoolOp .And (a :: b :: rest) pos) (dAndV da db) := xe_of (pe_and ha hb) fun F0 H0 F H σ δ P S hd Q q =>
  snd_tD da F0 H0 F H σ δ _ S hd _ fun v F2 H2 x e1 rx ⟨c, hc, h⟩ => by
    subst hc
    refine ⟨c, rx.of_bl, ?_⟩
    cases c with
    | true => exact snd_tD db F0 H0 F2 H2 σ δ _ (S.grow e1) h _ fun w F3 H3 y e2 ry h2 => q w F3 H3 y (e1.trans e2) ry h2
    | false => exact q _ F2 H2 _ e1 (.bl false) h
theorem xe_or {da db : DE} (ha : XE X a da) (hb : XE X (.BoolOp .Or (b :: rest) pos) db) : XE X (.BoolOp .Or (a :: b :: rest) pos) (dOrV da db) := xe_of (pe_or ha hb) fun F0 H0 F H σ δ P S hd Q q =>
  snd_tD da F0 H0 F H σ δ _ S hd _ fun v F2 H2 x e1 rx ⟨c, hc, h⟩ => by
    subst hc
    refine ⟨c, rx.of_bl, ?_⟩
    cases c with
    | true => exact q _ F2 H2 _ e1 (.bl true) h
    | false => exact snd_tD db F0 H0 F2 H2 σ δ _ (S.grow e1) h _ fun w F3 H3 y e2 ry h2 => q w F3 H3 y (e1.trans e2) ry h2
theorem xe_not {da : DE} (ha : XE X a da) : XE X (.UnaryOp .Not a pos) (dNotV da) := xe_of (pe_not ha) fun F0 H0 F H σ δ P S hd Q q => snd_tD da F0 H0 F H σ δ _ S hd _ fun v F2 H2 x e1 rx ⟨c, hc, h⟩ => by
  subst hc
  exact ⟨c, rx.of_bl, q _ F2 H2 _ e1 (.bl _) h⟩
def dIfE (t : DT) (da db : DE) : DE := fun δ P => t δ fun c => if c = true then da δ P else db δ P
theorem xe_if {dt : DT} {da db : DE} (hc : XT X c dt) (ha : XE X a da) (hb : XE X b db) : XE X (.IfExp c a b pos) (dIfE dt da db) := xe_of (pe_ifExp hc ha hb) fun F0 H0 F H σ δ P S hd Q q =>
  snd_tDT dt F0 H0 F H σ δ _ S hd _ fun v F2 H2 e1 h => by
    cases v with
    | true => exact snd_tD da F0 H0 F2 H2 σ δ _ (S.grow e1) h _ fun w F3 H3 y e2 ry h2 => q w F3 H3 y (e1.trans e2) ry h2
    | false => exact snd_tD db F0 H0 F2 H2 σ δ _ (S.grow e1) h _ fun w F3 H3 y e2 ry h2 => q w F3 H3 y (e1.trans e2) ry h2
end
/-! ### statements -/
theorem EndsOk.grow {K : PySem.W.Frag} {F0 H0 F F' : Hp} {D : Ends} {DD : DEnds} (e : EndsOk K F0 H0 F D DD) (h : Same F F') : EndsOk K F0 H0 F' D DD :=
  ⟨fun F1 H1 σ δ S s => e.nx F1 H1 σ δ S (h.trans s), e.rt, e.rtn, e.rtm, fun F1 H1 σ δ S s => e.bk F1 H1 σ δ S (h.trans s), fun F1 H1 σ δ S s => e.ct F1 H1 σ δ S (h.trans s), fun v F1 H1 σ δ x S s => e.rtg v F1 H1 σ δ x S (h.trans s)⟩
section
variable {X : Cx} {pos p : Pos} {st : Stmt} {sts : List Stmt} {e : Expr}
def dNext : DS := fun D δ => D.nx δ
def dSeq (d u : DS) : DS := fun D δ => d { D with nx := u D } δ
theorem xss_nil : XSs X [] dNext := xss_of pss_nil fun F0 H0 F H σ δ D DD S h e => e.nx F H σ δ S (Same.refl F) h
theorem xss_one {d : DS} (h : XS X st d) : XSs X [st] d := xss_of (pss_one h) (snd_tDS d)
theorem xss_cons {d u : DS} (h : XS X st d) (hu : XSs X sts u) : XSs X (st :: sts) (dSeq d u) := xss_of (pss_cons h hu) fun F0 H0 F H σ δ D DD S hd e =>
  snd_tDS d F0 H0 F H σ δ _ { DD with nx := u DD } S hd ⟨fun F' H' σ' δ' S' s hn => snd_tDS u F0 H0 F' H' σ' δ' D DD S' hn (e.grow s), e.rt, e.rtn, e.rtm, e.bk, e.ct, e.rtg⟩
def dAsg (i : Nat) (d : DE) : DS := fun D δ => d δ fun x => D.nx (δ.set i (.d x))
def dAsgN (i : Nat) (d : DA) : DS := fun D δ => d δ fun xs => D.nx (δ.set i (.ol xs))
section
variable {i : Nat} {x : Str} {pos' : Pos}
theorem snd_asg {K : PySem.W.Frag} {t : TE} {d : DE} (h : SndE K t d) : SndS K (tAsg t (gName i)) (dAsg i d) := fun F0 H0 F H σ δ D DD S hd e =>
  h F0 H0 F H σ δ _ S hd _ fun v F2 H2 x e1 rx hx => e.nx F2 H2 _ _ ((S.grow e1).set rx) e1.f hx
theorem snd_asgN {K : PySem.W.Frag} {t : TE} {d : DA} (h : SndN K t d) : SndS K (tAsg t (gName i)) (dAsgN i d) := fun F0 H0 F H σ δ D DD S hd e =>
  h F0 H0 F H σ δ _ S hd _ fun a ys F2 H2 xs e1 na hF hH rx hx => by
    refine e.nx F2 H2 _ _ ?_ e1.f hx
    -- the list at a is not among the heap ahead; tell it as a new own object
    have S2 := S.grow e1
    obtain ⟨fp, h1, h2, h3⟩ := S.own
    obtain ⟨fpx, g1, g2, g3⟩ := S2.own
    have nfp : ∀ j b, fp j b → b ≠ a := fun j b q z => (h1 j b q).2.2 (by rw [z]; exact na)
    have hh : ∀ i b, fp i b → H2 b = H b := fun i b q => by
      cases z : H b with
      | none => exact absurd z (h1 i b q).2.2
      | some o => exact e1.h b o z
    refine S2.put (.ref a) (.ol xs) (fun b => b = a) (fun b z => ?_) (fun _ _ _ _ => ⟨fp, fun i s hs => (h3 i s hs).mono e1.f (hh i), h2, fun i b q => ⟨(h1 i b q).1, ?_, by rw [hh i b q]; exact (h1 i b q).2.2⟩, fun j b _ q z => nfp j b q z⟩) fun _ => ⟨a, ys, rfl, rfl, hH, rx⟩
    · subst z
      exact ⟨S.ext.h.free na, hF, by rw [hH]; exact nofun⟩
    · cases z : H b with
      | none => exact absurd z (h1 i b q).2.2
      | some o => exact e1.keep (h1 i b q).2.1 z
theorem xs_set {d : DE} (hN : X.N.Nodup) (he : XE X e d) (hi : X.N[i]? = some x := by rfl) (hx : Loc X.env.scope x := by first | exact Or.inl rfl | exact Or.inr rfl) (hs : swapsWith e (some (.Name x pos')) pos.line X.env = pure false := by rfl)
    (hf : X.fn x = true ∨ X.env.scope.names.lookup x = some .local := by first | exact .inl rfl | exact .inr rfl) : XS X (.Assign [.Name x pos'] e pos) (dAsg i d) := xs_of (ps_set hN hi hx he hs hf) (snd_asg (snd_tD d))
theorem xs_setN {d : DA} (hN : X.N.Nodup) (he : XN X e d) (hi : X.N[i]? = some x := by rfl) (hx : Loc X.env.scope x := by first | exact Or.inl rfl | exact Or.inr rfl) (hs : swapsWith e (some (.Name x pos')) pos.line X.env = pure false := by rfl)
    (hf : X.fn x = true ∨ X.env.scope.names.lookup x = some .local := by first | exact .inl rfl | exact .inr rfl) : XS X (.Assign [.Name x pos'] e pos) (dAsgN i d) := xs_of (ps_set hN hi hx he hs hf) (snd_asgN (snd_tDN d))
end
def dRet (d : DE) : DS := fun D δ => d δ D.rt
def dRetN (d : DA) : DS := fun D δ => d δ D.rtn
theorem xs_ret {d : DE} (he : XE X e d) : XS X (.Return (some e) pos) (dRet d) := xs_of (ps_ret he) fun F0 H0 F H σ δ D DD S hd en => snd_tD d F0 H0 F H σ δ _ S hd _ fun v F2 H2 x e1 rx hx => en.rt v F2 H2 x (S.ext.trans e1) rx hx
theorem xs_retN {d : DA} (he : XN X e d) : XS X (.Return (some e) pos) (dRetN d) := xs_of (ps_ret he) fun F0 H0 F H σ δ D DD S hd en => snd_tDN d F0 H0 F H σ δ _ S hd _ fun a ys F2 H2 x e1 na hF hH rx hx => en.rtn a ys F2 H2 x (S.ext.trans e1) (S.ext.h.free na) hF hH rx hx
/-- return, the state told too -/
def dRetG (d : DE) : DS := fun D δ => d δ fun x => D.rtg δ x
theorem xs_retG {d : DE} (he : XE X e d) : XS X (.Return (some e) pos) (dRetG d) := xs_of (ps_ret he) fun F0 H0 F H σ δ D DD S hd en => snd_tD d F0 H0 F H σ δ _ S hd _ fun v F2 H2 x e1 rx hx => en.rtg v F2 H2 σ δ x (S.grow e1) e1.f rx hx
/-- return of an own list -/
def dRetO (i : Nat) : DS := fun D δ => ∃ ds, δ[i]? = some (.ol ds) ∧ D.rtn ds
theorem xs_retO (i : Nat) {x : Str} {pos'} (hN : X.N[i]? = some x := by rfl) (hv : Vis X.env.scope x := by first | exact Or.inl rfl | exact Or.inr (Or.inl rfl) | exact Or.inr (Or.inr rfl)) (hd : (x == ("__debug__" : Str)) = false := by decide)
    (hcd : (x == ("__classdict__" : Str)) = false := by decide) : XS X (.Return (some (.Name x pos')) pos) (dRetO i) := xs_of (ps_ret (pv i hN hv hd hcd)) fun F0 H0 F H σ δ D DD S ⟨ds, hds, h⟩ en => by
  obtain ⟨a, xs, h1, h2, h3, h4, h5⟩ := S.getL hds
  exact ⟨.ref a, h1, en.rtn a xs F H ds S.ext h2 h3 h4 h5 h⟩
/-- an own list is left as it is from here on -/
def dFrz (i : Nat) (d : DS) : DS := fun D δ => ∃ ds, δ[i]? = some (.ol ds) ∧ d D (δ.set i (.d (.lst ds)))
theorem xss_frz (i : Nat) {d : DS} (h : XSs X sts d) : XSs X sts (dFrz i d) := xss_of h fun F0 H0 F H σ δ D DD S ⟨ds, hds, hd⟩ en => by
  obtain ⟨F', sf, S'⟩ := S.freezeL hds
  exact snd_tDS d F0 H0 F' H σ _ D DD S' hd (en.grow sf)
def dFrzI (i : Nat) (d : DS) : DS := fun D δ => ∃ ds, δ[i]? = some (.oI ds) ∧ d D (δ.set i (.d (.dI ds)))
theorem xss_frzI (i : Nat) {d : DS} (h : XSs X sts d) : XSs X sts (dFrzI i d) := xss_of h fun F0 H0 F H σ δ D DD S ⟨ds, hds, hd⟩ en => by
  obtain ⟨F', sf, S'⟩ := S.freezeI hds
  exact snd_tDS d F0 H0 F' H σ _ D DD S' hd (en.grow sf)
def dIf (t : DT) (d u : DS) : DS := fun D δ => t δ fun b => if b = true then d D δ else u D δ
theorem xs_if {c : Expr} {l r : List Stmt} {dt : DT} {d u : DS} (hc : XT X c dt) (hl : XSs X l d) (hr : XSs X r u) : XS X (.If c l r pos) (dIf dt d u) := xs_of (ps_if hc hl hr) fun F0 H0 F H σ δ D DD S hd en =>
  snd_tDT dt F0 H0 F H σ δ _ S hd _ fun v F2 H2 e1 h => by
    cases v with
    | true => exact snd_tDS d F0 H0 F2 H2 σ δ D DD (S.grow e1) h (en.grow e1.f)
    | false => exact snd_tDS u F0 H0 F2 H2 σ δ D DD (S.grow e1) h (en.grow e1.f)
def dNever : DS := fun _ _ => False
theorem xs_never : XS X st dNever := xs_of (t := tNever) ps_never fun _ _ _ _ _ _ _ _ _ h _ => h
def dDrop (d : DE) : DS := fun D δ => d δ fun _ => D.nx δ
theorem xs_expr {d : DE} (he : XE X e d) (hs : swapsWith e none pos.line X.env = pure false := by rfl) : XS X (.Expr e pos) (dDrop d) := xs_of (ps_expr he hs) fun F0 H0 F H σ δ D DD S hd en => snd_tD d F0 H0 F H σ δ _ S hd _ fun v F2 H2 x e1 rx hx => en.nx F2 H2 _ _ (S.grow e1) e1.f hx
/-- what a call of a built-in's method asks of its syntax -/
structure BM (X : Cx) (o e : Expr) (name : Str) (apos cpos : Pos) : Prop where
  base : attributeBase o name X.env (eval o X.env) = eval o X.env
  few : ((backTo cpos (starEach [e] X.env)).all (fun x => !x.1) && (backToKw cpos (keywordEach [] X.env)).all (fun x => x.1.isSome) && decide (([e] : List Expr).length + ([] : List Keyword).length + (if ([] : List Keyword).isEmpty then 0 else 1) < 30)) = true
  line : (apos.endLine == cpos.line) = true
  st : starEach [e] X.env = (false, eval e X.env) :: starEach [] X.env
  pl : (backTo cpos (starEach [] X.env)).any (·.1) = false
/-- own.append(e) -/
def dApp (i : Nat) (d : DE) : DS := fun D δ => ∃ ds, δ[i]? = some (.ol ds) ∧ ds.length < 100000 ∧ d δ fun x => D.nx (δ.set i (.ol (ds ++ [x])))
theorem xs_app (i : Nat) {x : Str} {d : DE} {ea : Expr} {apos npos cpos : Pos} (he : XE X ea d) (hN : X.N[i]? = some x := by rfl) (hv : Vis X.env.scope x := by first | exact Or.inl rfl | exact Or.inr (Or.inl rfl) | exact Or.inr (Or.inr rfl))
    (hd : (x == ("__debug__" : Str)) = false := by decide) (hcd : (x == ("__classdict__" : Str)) = false := by decide) (m : BM X (.Name x npos) ea "append" apos cpos := by exact ⟨rfl, rfl, rfl, rfl, rfl⟩)
    (hs : swapsWith (.Call (.Attribute (.Name x npos) "append" apos) [ea] [] cpos) none pos.line X.env = pure false := by rfl) : XS X (.Expr (.Call (.Attribute (.Name x npos) "append" apos) [ea] [] cpos) pos) (dApp i d) := xs_of (ps_expr (pe_bm (t := tCons (tD X.K d) tNil) PySem.F.plainAttrs_list PySem.F.slot_list_append PySem.F.type_list_append mt_append (pv i hN hv hd hcd) (pa_cons he pa_nil m.st) m.base m.few m.line m.st m.pl) hs) fun F0 H0 F H σ δ D DD S ⟨ds, hds, hl, hd⟩ en => by
  obtain ⟨a, xs, h1, h2, h3, h4, h5⟩ := S.getL hds
  refine ⟨.ref a, h1, Or.inl ⟨rfl, xs, SqL.of h4⟩, ?_⟩
  refine snd_tD d F0 H0 F H σ δ _ S hd _ fun v F2 H2 y e1 ry hy => ?_
  refine ⟨a, xs, v, rfl, rfl, e1.h _ _ h4, sz100000 (by rw [h5.length]; exact hl), ?_⟩
  refine en.nx F2 _ _ _ ((S.grow e1).mut (s := .ol ds) (t := .ol (ds ++ [y])) hds fun fp hf => ?_) e1.f hy
  obtain ⟨a', xs', q1, q2, q3, q4⟩ := hf
  have ea : a' = a := by
    rw [h1] at q1
    cases q1
    rfl
  subst ea
  rw [e1.h _ _ h4] at q3
  cases q3
  exact ⟨q2, a', xs ++ [v], h1, q2, upd_same, q4.snoc ry⟩
/-! ### targets -/
def dgN (i : Nat) : DG := fun x δ P => P (δ.set i (.d x))
theorem wipe_set {σ : L2.St} {i : Nat} {o : Option V} : ∀ {vs : List Nat}, i ∈ vs → wipe (σ.set i o) vs = wipe σ vs
  | v :: vs, h => by
    unfold wipe
    rcases List.mem_cons.mp h with e | h
    · subst e
      by_cases hm : i ∈ vs
      · rw [wipe_set hm]
      · have g : ∀ (us : List Nat), i ∉ us → wipe (σ.set i o) us = (wipe σ us).set i o := by
          intro us
          induction us with
          | nil =>
            intro _
            rfl
          | cons u us ih =>
            intro hu
            have h1 : i ≠ u := fun z => hu (by rw [z]; exact List.mem_cons_self)
            have h2 : i ∉ us := fun z => hu (List.mem_cons_of_mem _ z)
            unfold wipe
            rw [ih h2, List.set_comm _ _ h1]
        rw [g vs hm, List.set_set]
    · rw [wipe_set h]
theorem xg_name (i : Nat) {x : Str} {pos' : Pos} {vs : List Nat} (hN : X.N.Nodup) (hi : X.N[i]? = some x := by rfl) (hv : i ∈ vs := by decide) (hx : Loc X.env.scope x := by first | exact Or.inl rfl | exact Or.inr rfl) (hf : X.fn x = true ∨ X.env.scope.names.lookup x = some .local := by first | exact .inl rfl | exact .inr rfl) :
    XG X vs (.Name x pos') (dgN i) := xg_of (pg_name hN hi hx hf) fun F0 H0 F H σ δ v y P S ry hd Q q => q _ _ (S.set ry) (wipe_set hv) hd
def dgNil : DGs := fun xs δ P => xs = [] ∧ P δ
def dgCons (d : DG) (u : DGs) : DGs := fun xs δ P => ∃ x r, xs = x :: r ∧ d x δ fun δ' => u r δ' P
theorem xgs_nil {vs : List Nat} : XGs X vs [] dgNil := xgs_of pgs_nil fun F0 H0 F H σ δ v y P S ry hd Q q => by
  obtain ⟨e, hd⟩ := hd
  subst e
  cases ry
  exact ⟨rfl, q σ δ S rfl hd⟩
theorem xgs_cons {vs : List Nat} {es : List Expr} {d : DG} {u : DGs} (h : XG X vs e d) (hu : XGs X vs es u) (hs : (assignEach (e :: es) X.env).map (·.2) = assign e X.env :: (assignEach es X.env).map (·.2) := by rfl) : XGs X vs (e :: es) (dgCons d u) :=
  xgs_of (pgs_cons h hu hs) fun F0 H0 F H σ δ v y P S ry hd Q q => by
    obtain ⟨x, r, e1, hd⟩ := hd
    subst e1
    cases ry with
    | cons r1 rr => exact ⟨_, _, rfl, snd_tDG vs d F0 H0 F H σ δ _ _ _ S r1 hd _ fun σ' δ' S' w1 h' => snd_tDGs vs u F0 H0 F H σ' δ' _ _ _ S' rr h' _ fun σ2 δ2 S2 w2 h2 => q σ2 δ2 S2 (w2.trans w1) h2⟩
def dgTup (n : Nat) (d : DGs) : DG := fun x δ P => ∃ xs, x = .tup xs ∧ xs.length = n ∧ d xs δ P
theorem xg_tup {vs : List Nat} {es : List Expr} {k : Nat} {d : DGs} {n : Nat} (hc : X.calm = true) (h : XGs X vs es d) (hn : (assignEach es X.env).length = n := by rfl) (hst : (assignEach es X.env).findIdx? (·.1) = Option.none := by rfl) : XG X vs (.Tuple es k pos) (dgTup n d) :=
  xg_of (pg_tup hc h hn hst) fun F0 H0 F H σ δ v y P S ry hd Q q => by
    obtain ⟨xs, e1, hl, hd⟩ := hd
    subst e1
    obtain ⟨a, vs', rfl, ha, r⟩ := ry.of_tup
    exact ⟨a, vs', rfl, SqT.of (S.ext.s _ _ ha), r.length.trans hl, snd_tDGs vs d F0 H0 F H σ δ _ _ _ S r hd _ fun σ' δ' S' w1 h' => q σ' δ' S' w1 h'⟩
/-! ### for -/
def dFor (di : DA) (dg : DG) (db : DS) : DS := fun D δ => di δ fun items => ∃ I : Nat → List Sl → Prop, I 0 δ ∧ (∀ k x δ', items[k]? = some x → I k δ' → dg x δ' fun δ2 => db { D with nx := I (k + 1), ct := I (k + 1), bk := D.nx } δ2) ∧ ∀ δ', I items.length δ' → D.nx δ'
theorem xs_for {vs : List Nat} {tg iter : Expr} {body : List Stmt} {di : DA} {dg : DG} {db : DS} (hc : X.calm = true) (hi : XI X tg iter di) (hg : XG X vs tg dg) (hb : XSs X body db) (hp : PassesOwn (model X.prog X.w) X.A X.env X.xe := by exact PassesOwn.never)
    (hs : ∀ x, foldedSetIterable iter X.env x = pure x := by intro _; rfl) : XS X (.For tg iter body [] pos) (dFor di dg db) := xs_of (ps_for hp hc hi hg hb hs) fun F0 H0 F H σ δ D DD S hd en =>
  snd_tDI di F0 H0 F H σ δ _ S hd _ fun J F1 H1 items e1 ok ⟨I, i0, turn, fin⟩ => by
    refine ⟨fun i m σ' H' => ∃ F' δ', m = items.length - i ∧ i ≤ items.length ∧ Stt X.K F0 H0 F' H' σ' δ' ∧ Same F1 F' ∧ I i δ', ⟨items.length, F1, δ, by simp, Nat.zero_le _, S.grow e1, Same.refl _, i0⟩, ?_⟩
    rintro i m σ' H' ⟨F', δ', rfl, hi, S', sf, hI⟩
    by_cases hlt : i < items.length
    · refine Or.inr ⟨ok.go i F' H' sf S'.ext.s hlt, fun σ2 H2 => ∃ F2 δ2, Stt X.K F0 H0 F2 H2 σ2 δ2 ∧ Same F1 F2 ∧ I (i + 1) δ2, fun σ2 H2 ⟨F2, δ2, S2, s2, h2⟩ => ⟨items.length - (i + 1), by omega, F2, δ2, rfl, hlt, S2, s2, h2⟩, fun v H2 y => ?_⟩
      have hx : items[i]? = some items[i] := List.getElem?_eq_getElem hlt
      obtain ⟨F2, e2, rv⟩ := ok.yld i F' H' v H2 sf S'.ext.s y _ hx
      refine snd_tDG vs dg F0 H0 F2 H2 σ' δ' v _ _ (S'.grow e2) rv (turn i _ δ' hx hI) _ fun σ3 δ3 S3 _ h3 => ?_
      exact snd_tDS db F0 H0 F2 H2 σ3 δ3 _ _ S3 h3 ⟨fun F4 H4 σ4 δ4 S4 s4 h4 => ⟨F4, δ4, S4, (sf.trans e2.f).trans s4, h4⟩, en.rt, en.rtn, en.rtm, fun F4 H4 σ4 δ4 S4 s4 h4 => en.nx F4 H4 σ4 δ4 S4 (((e1.f.trans sf).trans e2.f).trans s4) h4, fun F4 H4 σ4 δ4 S4 s4 h4 => ⟨F4, δ4, S4, (sf.trans e2.f).trans s4, h4⟩, fun v F4 H4 σ4 δ4 x S4 s4 => en.rtg v F4 H4 σ4 δ4 x S4 (((e1.f.trans sf).trans e2.f).trans s4)⟩
    · have e : i = items.length := by omega
      subst e
      exact Or.inl ⟨ok.stop _ F' H' sf S'.ext.s (Nat.le_refl _), en.nx F' H' σ' δ' S' (e1.f.trans sf) (fin δ' hI)⟩
/-! ### while -/
def dWhile (dt : DT) (db : DS) : DS := fun D δ => ∃ I : Nat → List Sl → Prop, (∃ m, I m δ) ∧ ∀ m δ', I m δ' → dt δ' fun b => if b = true then db { D with nx := fun δ2 => ∃ m', m' < m ∧ I m' δ2, ct := fun δ2 => ∃ m', m' < m ∧ I m' δ2, bk := D.nx } δ' else D.nx δ'
theorem xs_while {c : Expr} {body : List Stmt} {dt : DT} {db : DS} (hc : XT X c dt) (hb : XSs X body db) (hp : PassesOwn (model X.prog X.w) X.A X.env X.xe := by exact PassesOwn.never) : XS X (.While c body [] pos) (dWhile dt db) := xs_of (ps_while hp hc hb) fun F0 H0 F H σ δ D DD S hd en => by
  obtain ⟨I, ⟨m0, h0⟩, turn⟩ := hd
  refine ⟨fun m σ' H' => ∃ F' δ', Stt X.K F0 H0 F' H' σ' δ' ∧ Same F F' ∧ I m δ', ⟨m0, F, δ, S, Same.refl _, h0⟩, ?_⟩
  rintro m σ' H' ⟨F', δ', S', sf, hI⟩
  refine snd_tDT dt F0 H0 F' H' σ' δ' _ S' (turn m δ' hI) _ fun b F2 H2 e2 hb => ?_
  cases b with
  | true =>
    refine ⟨fun σ3 H3 => ∃ m', m' < m ∧ ∃ F3 δ3, Stt X.K F0 H0 F3 H3 σ3 δ3 ∧ Same F F3 ∧ I m' δ3, fun _ _ h => h, ?_⟩
    exact snd_tDS db F0 H0 F2 H2 σ' δ' _ _ (S'.grow e2) hb ⟨fun F4 H4 σ4 δ4 S4 s4 ⟨m', hm, h4⟩ => ⟨m', hm, F4, δ4, S4, (sf.trans e2.f).trans s4, h4⟩, en.rt, en.rtn, en.rtm, fun F4 H4 σ4 δ4 S4 s4 h4 => en.nx F4 H4 σ4 δ4 S4 ((sf.trans e2.f).trans s4) h4, fun F4 H4 σ4 δ4 S4 s4 ⟨m', hm, h4⟩ => ⟨m', hm, F4, δ4, S4, (sf.trans e2.f).trans s4, h4⟩, fun v F4 H4 σ4 δ4 x S4 s4 => en.rtg v F4 H4 σ4 δ4 x S4 ((sf.trans e2.f).trans s4)⟩
  | false => exact en.nx F2 H2 σ' δ' (S'.grow e2) (sf.trans e2.f) hb
end
/-! ### comprehensions -/
def wipeD (δ : List Sl) : List Nat → List Sl
  | [] => δ
  | v :: vs => (wipeD δ vs).set v .no
theorem Stt.wipe1 {K : PySem.W.Frag} {F0 H0 F H : Hp} {σ : L2.St} {δ : List Sl} (S : Stt K F0 H0 F H σ δ) (v : Nat) : Stt K F0 H0 F H (List.set σ v Option.none) (δ.set v .no) := by
  obtain ⟨fp, h1, h2, h3⟩ := S.own
  refine ⟨S.ext, by rw [List.length_set, List.length_set]; exact S.len, fp, h1, h2, fun j s hs => ?_⟩
  by_cases hj : j = v
  · subst hj
    by_cases hl : j < δ.length
    · rw [List.getElem?_set_self hl] at hs
      cases hs
      trivial
    · rw [List.getElem?_eq_none (by rw [List.length_set]; omega)] at hs
      cases hs
  · rw [List.getElem?_set_ne (Ne.symm hj)] at hs
    rw [List.getElem?_set_ne (Ne.symm hj)]
    exact h3 j s hs
theorem Stt.wipe {K : PySem.W.Frag} {F0 H0 F H : Hp} {σ : L2.St} {δ : List Sl} (S : Stt K F0 H0 F H σ δ) : ∀ vs : List Nat, Stt K F0 H0 F H (L2.wipe σ vs) (wipeD δ vs)
  | [] => S
  | v :: vs => (S.wipe vs).wipe1 v
section
variable {X : Cx} {pos p : Pos}
def XTs (X : Cx) (ts : List Expr) (d : DT) : Prop := PTs X ts (tDT X.K d)
def dYes : DT := fun _ P => P true
theorem xts_nil : XTs X [] dYes := ⟨fun pins s σ H Q I ⟨F0, H0, F, δ, P, S, hd, q⟩ => pts_nil.run pins s σ H Q I (q true F H (Ext.refl S.ext.s) hd)⟩
theorem xts_one {a : Expr} {d : DT} (h : XT X a d) : XTs X [a] d := pts_one h
def dLc (di : DA) (dg : DG) (dt : DT) (de : DE) (vs : List Nat) : DA := fun δ P => di δ fun items => ∃ I : Nat → List Dat → Prop, I 0 [] ∧ (∀ k x acc, items[k]? = some x → I k acc → dg x (wipeD δ vs) fun δ2 => dt δ2 fun b => if b = true then de δ2 fun y => acc.length < 100000 ∧ I (k + 1) (acc ++ [y]) else I (k + 1) acc) ∧ ∀ acc, I items.length acc → P acc
theorem wipe_wipe (σ : L2.St) : ∀ vs : List Nat, L2.wipe (L2.wipe σ vs) vs = L2.wipe σ vs := by
  have g : ∀ us vs : List Nat, (∀ u ∈ us, u ∈ vs) → L2.wipe (L2.wipe σ us) vs = L2.wipe σ vs := by
    intro us
    induction us with
    | nil =>
      intro vs _
      rfl
    | cons u us ih =>
      intro vs h
      show L2.wipe ((L2.wipe σ us).set u Option.none) vs = _
      rw [wipe_set (h u List.mem_cons_self)]
      exact ih vs fun w hw => h w (List.mem_cons_of_mem _ hw)
  exact fun vs => g vs vs fun _ h => h
theorem snd_lc {K : PySem.W.Frag} {di : DA} {dg : DG} {dt : DT} {de : DE} {vs : List Nat} : SndN K (tLc (tDI K di) (tDG K vs dg) (tDT K dt) (tD K de) vs) (dLc di dg dt de vs) := fun F0 H0 F H σ δ P S hd Q q =>
  snd_tDI di F0 H0 F H σ δ _ S hd _ fun J F1 H1 items e1 ok ⟨I, i0, turn, fin⟩ => by
    intro D hD
    have S1 := S.grow e1
    refine ⟨fun i m H' => ∃ F' ys acc, m = items.length - i ∧ i ≤ items.length ∧ Ext F1 H1 F' H' ∧ F' D = Option.none ∧ H' D = some (.lst ys) ∧ RpL K F' ys acc ∧ I i acc, ⟨items.length, F1, [], [], by simp, Nat.zero_le _, Ext.own e1.s hD, e1.s.free hD, upd_same, .nil, i0⟩, ?_⟩
    rintro i m H' ⟨F', ys, acc, rfl, hi, ex, hF, hH, ry, hI⟩
    by_cases hlt : i < items.length
    · refine Or.inr ⟨ok.go i F' H' ex.f ex.s hlt, fun H2 => ∃ F' ys acc, Ext F1 H1 F' H2 ∧ F' D = Option.none ∧ H2 D = some (.lst ys) ∧ RpL K F' ys acc ∧ I (i + 1) acc, fun H2 ⟨F', ys, acc, h⟩ => ⟨items.length - (i + 1), by omega, F', ys, acc, rfl, hlt, h⟩, fun v H2 y => ?_⟩
      have hx : items[i]? = some items[i] := List.getElem?_eq_getElem hlt
      obtain ⟨F2, e2, rv⟩ := ok.yld i F' H' v H2 ex.f ex.s y _ hx
      refine snd_tDG vs dg F0 H0 F2 H2 _ _ v _ _ (((S1.grow ex).grow e2).wipe vs) rv (turn i _ acc hx hI) _ fun σ3 δ3 S3 w3 h3 => ⟨w3.trans (wipe_wipe σ vs), ?_⟩
      refine snd_tDT dt F0 H0 F2 H2 σ3 δ3 _ S3 h3 _ fun b F3 H3 e3 hb => ?_
      have hF2 : F2 D = Option.none := e2.keep hF hH
      have hH2 := e2.h _ _ hH
      have hF3 : F3 D = Option.none := e3.keep hF2 hH2
      have hH3 := e3.h _ _ hH2
      cases b with
      | true =>
        refine snd_tD de F0 H0 F3 H3 σ3 δ3 _ (S3.grow e3) hb _ fun w F4 H4 z e4 rz hz => ?_
        have hF4 : F4 D = Option.none := e4.keep hF3 hH3
        have hH4 := e4.h _ _ hH3
        exact ⟨ys, hH4, sz100000 (by rw [ry.length]; exact hz.1), F4, ys ++ [w], acc ++ [z], (((ex.trans e2).trans e3).trans e4).mut hD hF4, hF4, upd_same, (((ry.mono e2.f).mono e3.f).mono e4.f).snoc rz, hz.2⟩
      | false => exact ⟨F3, ys, acc, (ex.trans e2).trans e3, hF3, hH3, (ry.mono e2.f).mono e3.f, hb⟩
    · have e : i = items.length := by omega
      subst e
      exact Or.inl ⟨ok.stop _ F' H' ex.f ex.s (Nat.le_refl _), q D ys F' H' acc (e1.trans ex) (e1.h.free hD) hF hH ry (fin acc hI)⟩
theorem xn_lc {elt tg iter : Expr} {ifs : List Expr} {scope : Scope} {own : List (Str × Nat)} {di : DA} {dg : DG} {dt : DT} {de : DE} (hc : X.calm = true) (hN : X.N.Nodup) (hi : XI X tg iter di) (ok : BlkOk X.N X.env.scope scope own)
    (hg : ∀ (s : Shared) (H : Hp) (C : Addr) (cl : List (Str × Addr)) (fp : List Addr), XG (X.blk s H scope (compEnvC scope cl C X.env) fp) (own.map (·.2)) tg dg) (ht : ∀ (s : Shared) (H : Hp) (C : Addr) (cl : List (Str × Addr)) (fp : List Addr), XTs (X.blk s H scope (compEnvC scope cl C X.env) fp) ifs dt)
    (he : ∀ (s : Shared) (H : Hp) (C : Addr) (cl : List (Str × Addr)) (fp : List Addr), XE (X.blk s H scope (compEnvC scope cl C X.env) fp) elt de) (hs : ∀ x, foldedSetIterable iter X.env x = pure x := by intro _; rfl) :
    XN X (.ListComp elt [⟨tg, iter, ifs, 0⟩] scope pos) (dLc di dg dt de (own.map (·.2))) := xn_of (pe_lc (g := tDG X.K (own.map fun q : Str × Nat => q.2) dg) (tt := tDT X.K dt) (te := tD X.K de) hc hN hi ok hg ht he hs) snd_lc
/-- name = [..] -/
theorem xs_setLcN {i : Nat} {y : Str} {py : Pos} {elt tg iter : Expr} {ifs : List Expr} {scope : Scope} {own : List (Str × Nat)} {spos : Pos} {di : DA} {dg : DG} {dt : DT} {de : DE} (hc : X.calm = true) (hN : X.N.Nodup) (hi : XI X tg iter di) (ok : BlkOk X.N X.env.scope scope own)
    (hg : ∀ (s : Shared) (H : Hp) (C : Addr) (cl : List (Str × Addr)) (fp : List Addr), XG (X.blk s H scope (compEnvC scope cl C X.env) fp) (own.map (·.2)) tg dg) (ht : ∀ (s : Shared) (H : Hp) (C : Addr) (cl : List (Str × Addr)) (fp : List Addr), XTs (X.blk s H scope (compEnvC scope cl C X.env) fp) ifs dt)
    (he : ∀ (s : Shared) (H : Hp) (C : Addr) (cl : List (Str × Addr)) (fp : List Addr), XE (X.blk s H scope (compEnvC scope cl C X.env) fp) elt de) (hy : X.N[i]? = some y := by rfl) (hyl : X.env.scope.names.lookup y = some .local := by rfl)
    (hsw : swapsWith (.ListComp elt [⟨tg, iter, ifs, 0⟩] scope pos) (some (.Name y py)) spos.line X.env = pure true := by exact sw_true rfl rfl rfl (by decide +kernel)) (hs : ∀ x, foldedSetIterable iter X.env x = pure x := by intro _; rfl) :
    XS X (.Assign [.Name y py] (.ListComp elt [⟨tg, iter, ifs, 0⟩] scope pos) spos) (dAsgN i (dLc di dg dt de (own.map (·.2)))) := xs_of (ps_setLc (g := tDG X.K (own.map fun q : Str × Nat => q.2) dg) (tt := tDT X.K dt) (te := tD X.K de) hc hN hy hyl hsw hi ok hg ht he hs) (snd_asgN snd_lc)
/-- .. frozen at once -/
theorem xs_setLc {i : Nat} {y : Str} {py : Pos} {elt tg iter : Expr} {ifs : List Expr} {scope : Scope} {own : List (Str × Nat)} {spos : Pos} {di : DA} {dg : DG} {dt : DT} {de : DE} (hc : X.calm = true) (hN : X.N.Nodup) (hi : XI X tg iter di) (ok : BlkOk X.N X.env.scope scope own)
    (hg : ∀ (s : Shared) (H : Hp) (C : Addr) (cl : List (Str × Addr)) (fp : List Addr), XG (X.blk s H scope (compEnvC scope cl C X.env) fp) (own.map (·.2)) tg dg) (ht : ∀ (s : Shared) (H : Hp) (C : Addr) (cl : List (Str × Addr)) (fp : List Addr), XTs (X.blk s H scope (compEnvC scope cl C X.env) fp) ifs dt)
    (he : ∀ (s : Shared) (H : Hp) (C : Addr) (cl : List (Str × Addr)) (fp : List Addr), XE (X.blk s H scope (compEnvC scope cl C X.env) fp) elt de) (hy : X.N[i]? = some y := by rfl) (hyl : X.env.scope.names.lookup y = some .local := by rfl)
    (hsw : swapsWith (.ListComp elt [⟨tg, iter, ifs, 0⟩] scope pos) (some (.Name y py)) spos.line X.env = pure true := by exact sw_true rfl rfl rfl (by decide +kernel)) (hs : ∀ x, foldedSetIterable iter X.env x = pure x := by intro _; rfl) :
    XS X (.Assign [.Name y py] (.ListComp elt [⟨tg, iter, ifs, 0⟩] scope pos) spos) (dAsg i (fun δ P => dLc di dg dt de (own.map (·.2)) δ fun xs => P (.lst xs))) := xs_of (ps_setLc (g := tDG X.K (own.map fun q : Str × Nat => q.2) dg) (tt := tDT X.K dt) (te := tD X.K de) hc hN hy hyl hsw hi ok hg ht he hs) (snd_asg (fun F0 H0 F H σ δ P S hd Q q => snd_lc F0 H0 F H σ δ _ S hd Q fun a ys F2 H2 xs e0 ha hF hH r px => q (.ref a) (upd F2 a (.lst ys)) H2 (.lst xs) (e0.freeze ha hF hH) (.lst upd_same (r.mono (upd_same' hF))) px))
end
end Pw
set_option Elab.async false
set_option linter.all false
set_option maxRecDepth 100000
set_option maxHeartbeats 400000
/-! Operators and built-ins, told by data. -/
namespace Pw
open PySem PySem.Spec L2
section
variable {K : PySem.W.Frag}
/-! ### numbers -/
def d2I (f : Int → Int → Int) : Dat → Dat → (Dat → Prop) → Prop := fun x y P => ∃ i j, x = .int i ∧ y = .int j ∧ P (.int (f i j))
def d2B (f : Int → Int → Bool) : Dat → Dat → (Dat → Prop) → Prop := fun x y P => ∃ i j, x = .int i ∧ y = .int j ∧ P (.bl (f i j))
def d2C (C : Int → Int → Prop) (f : Int → Int → Int) : Dat → Dat → (Dat → Prop) → Prop := fun x y P => ∃ i j, x = .int i ∧ y = .int j ∧ C i j ∧ P (.int (f i j))
theorem od_I {f : Int → Int → Int} : OpD K (rI0 fun i j => .int (f i j)) (d2I f) := fun F H v u x y P s rx ry ⟨i, j, e1, e2, p⟩ Q q => by
  subst e1 e2
  exact ⟨i, j, rx.of_int, ry.of_int, q _ F H _ (Ext.refl s) (.int _) p⟩
theorem od_B {f : Int → Int → Bool} : OpD K (rI0 fun i j => .bl (f i j)) (d2B f) := fun F H v u x y P s rx ry ⟨i, j, e1, e2, p⟩ Q q => by
  subst e1 e2
  exact ⟨i, j, rx.of_int, ry.of_int, q _ F H _ (Ext.refl s) (.bl _) p⟩
theorem od_C {C : Int → Int → Prop} {f : Int → Int → Int} : OpD K (rI C fun i j => .int (f i j)) (d2C C f) := fun F H v u x y P s rx ry ⟨i, j, e1, e2, c, p⟩ Q q => by
  subst e1 e2
  exact ⟨i, j, rx.of_int, ry.of_int, c, q _ F H _ (Ext.refl s) (.int _) p⟩
theorem od_eq : OpD K rEq (d2B fun i j => decide (i = j)) := fun F H v u x y P s rx ry ⟨i, j, e1, e2, p⟩ Q q => by
  subst e1 e2
  rw [rx.of_int, ry.of_int]
  refine ⟨rfl, ?_⟩
  have e : decide (V.int i = V.int j) = decide (i = j) := by
    by_cases h : i = j
    · subst h
      simp
    · simp [h]
  rw [e]
  exact q _ F H _ (Ext.refl s) (.bl _) p
theorem od_ne : OpD K rNe (d2B fun i j => !decide (i = j)) := fun F H v u x y P s rx ry ⟨i, j, e1, e2, p⟩ Q q => by
  subst e1 e2
  rw [rx.of_int, ry.of_int]
  refine ⟨rfl, ?_⟩
  have e : decide (V.int i = V.int j) = decide (i = j) := by
    by_cases h : i = j
    · subst h
      simp
    · simp [h]
  rw [e]
  exact q _ F H _ (Ext.refl s) (.bl _) p
/-! ### None, bools -/
def isN : Dat → Bool
  | .non => true
  | _ => false
theorem isN_ok {H : Hp} {v : V} {x : Dat} (r : Rp K H v x) : decide (v = V.non) = isN x := by
  cases r <;> first | rfl | (exact decide_eq_false (fun z => by cases z))
def dIsN : Dat → Dat → (Dat → Prop) → Prop := fun x y P => y = .non ∧ P (.bl (isN x))
def dNotN : Dat → Dat → (Dat → Prop) → Prop := fun x y P => y = .non ∧ P (.bl (!isN x))
theorem od_isN : OpD K (fun x y H Q => y = .non ∧ Q (.bl (decide (x = .non))) H) dIsN := fun F H v u x y P s rx ry ⟨e, p⟩ Q q => by
  subst e
  refine ⟨ry.of_non, ?_⟩
  rw [isN_ok rx]
  exact q _ F H _ (Ext.refl s) (.bl _) p
theorem od_notN : OpD K (fun x y H Q => y = .non ∧ Q (.bl (!decide (x = .non))) H) dNotN := fun F H v u x y P s rx ry ⟨e, p⟩ Q q => by
  subst e
  refine ⟨ry.of_non, ?_⟩
  rw [isN_ok rx]
  exact q _ F H _ (Ext.refl s) (.bl _) p
def dNotB : Dat → Dat → (Dat → Prop) → Prop := fun x y P => ∃ a b, x = .bl a ∧ y = .bl b ∧ P (.bl (!decide (a = b)))
theorem od_notB : OpD K rNotB dNotB := fun F H v u x y P s rx ry ⟨a, b, e1, e2, p⟩ Q q => by
  subst e1 e2
  exact ⟨a, b, rx.of_bl, ry.of_bl, q _ F H _ (Ext.refl s) (.bl _) p⟩
/-! ### in, of ints in a list or tuple of ints -/
def intsOf : Dat → Option (List Int)
  | .lst ds => ds.mapM fun | .int i => some i | _ => Option.none
  | .tup ds => ds.mapM fun | .int i => some i | _ => Option.none
  | _ => Option.none
def dIn (neg : Bool) : Dat → Dat → (Dat → Prop) → Prop := fun x y P => ∃ i ns, x = .int i ∧ (y = lI ns ∨ y = tI ns) ∧ P (.bl (if neg then !decide (i ∈ ns) else decide (i ∈ ns)))
theorem inV_ints (i : Int) : ∀ ns : List Int, inV (.int i) (ns.map V.int) = decide (i ∈ ns)
  | [] => by simp [inV]
  | n :: ns => by
    have ih := inV_ints i ns
    unfold inV at ih ⊢
    rw [List.map_cons, List.any_cons, ih]
    show ((n == i) || decide (i ∈ ns)) = decide (i ∈ n :: ns)
    by_cases h : n = i
    · subst h
      simp
    · have h2 : ¬ i = n := fun z => h z.symm
      simp [h, h2]
theorem flat_ints (ns : List Int) : (ns.map V.int).all flatV = true := by
  rw [List.all_map]
  exact List.all_eq_true.mpr fun _ _ => rfl
theorem od_in {neg : Bool} : OpD K (rIn K neg) (dIn neg) := fun F H v u x y P s rx ry ⟨i, ns, e1, e2, p⟩ Q q => by
  subst e1
  have ev := rx.of_int
  subst ev
  rcases e2 with e2 | e2
  · subst e2
    obtain ⟨a, xs, ea, ha, r⟩ := ry.of_lst
    have ex := r.ints
    subst ea ex
    refine ⟨a, _, rfl, .inl (SqL.of (s _ _ ha)), rfl, flat_ints ns, ?_⟩
    rw [inV_ints]
    exact q _ F H _ (Ext.refl s) (.bl _) p
  · subst e2
    obtain ⟨a, xs, ea, ha, r⟩ := ry.of_tup
    have ex := r.ints
    subst ea ex
    refine ⟨a, _, rfl, .inr (SqT.of (s _ _ ha)), rfl, flat_ints ns, ?_⟩
    rw [inV_ints]
    exact q _ F H _ (Ext.refl s) (.bl _) p
/-! ### data that == and in look through -/
mutual
def toPy : Dat → Option PyData
  | .non => some .none
  | .bl b => some (.bool b)
  | .int i => some (.int i)
  | .lst ds => (toPyL ds).map .list
  | .tup ds => (toPyL ds).map .tuple
  | _ => Option.none
def toPyL : List Dat → Option (List PyData)
  | [] => some []
  | d :: ds => match toPy d, toPyL ds with
    | some x, some xs => some (x :: xs)
    | _, _ => Option.none
end
mutual
theorem dp_of {H F : Hp} (s : Same F H) : ∀ {v : V} {d : Dat} {p : PyData}, Rp K F v d → toPy d = some p → Dp K H v p
  | _, _, _, .non, e => by
    simp only [toPy] at e
    cases e
    exact .non
  | _, _, _, .bl b, e => by
    simp only [toPy] at e
    cases e
    exact .bl b
  | _, _, _, .int i, e => by
    simp only [toPy] at e
    cases e
    exact .int i
  | _, _, _, .lst (ds := ds) h r, e => by
    simp only [toPy] at e
    cases z : toPyL ds with
    | none =>
      rw [z] at e
      cases e
    | some ps =>
      rw [z] at e
      cases e
      exact .lst (SqL.of (s _ _ h)) (dps_of s r z)
  | _, _, _, .tup (ds := ds) h r, e => by
    simp only [toPy] at e
    cases z : toPyL ds with
    | none =>
      rw [z] at e
      cases e
    | some ps =>
      rw [z] at e
      cases e
      exact .tup (SqT.of (s _ _ h)) (dps_of s r z)
  | _, _, _, .pool _ _ _ _ _ _ _ _, e => by
    simp only [toPy] at e
    cases e
  | _, _, _, .dI _ _, e => by
    simp only [toPy] at e
    cases e
  | _, _, _, .dP _ _, e => by
    simp only [toPy] at e
    cases e
  | _, _, _, .scr _, e => by
    simp only [toPy] at e
    cases e
  | _, _, _, .ins _ _, e => by
    simp only [toPy] at e
    cases e
theorem dps_of {H F : Hp} (s : Same F H) : ∀ {v : List V} {d : List Dat} {p : List PyData}, RpL K F v d → toPyL d = some p → DpAll K H v p
  | _, _, _, .nil, e => by
    simp only [toPyL] at e
    cases e
    exact .nil
  | _, _, _, .cons (d := d) (ds := ds) h r, e => by
    simp only [toPyL] at e
    cases z : toPy d with
    | none =>
      rw [z] at e
      cases e
    | some x =>
      cases z2 : toPyL ds with
      | none =>
        rw [z, z2] at e
        cases e
      | some xs =>
        rw [z, z2] at e
        cases e
        exact .cons (dp_of s h z) (dps_of s r z2)
end
def dEqD (neg : Bool) : Dat → Dat → (Dat → Prop) → Prop := fun x y P => ∃ p q, toPy x = some p ∧ toPy y = some q ∧ SeqAt.shaped p = true ∧ SeqAt.shaped q = true ∧ P (.bl (if neg then !PyData.eqv p q else PyData.eqv p q))
theorem od_eqD : OpD K (rEqD K) (dEqD false) := fun F H v u x y P s rx ry ⟨p, q, e1, e2, s1, s2, h⟩ Q k => ⟨p, q, dp_of s rx e1, dp_of s ry e2, s1, s2, k _ F H _ (Ext.refl s) (.bl _) h⟩
theorem od_neD : OpD K (rNeD K) (dEqD true) := fun F H v u x y P s rx ry ⟨p, q, e1, e2, s1, s2, h⟩ Q k => ⟨p, q, dp_of s rx e1, dp_of s ry e2, s1, s2, k _ F H _ (Ext.refl s) (.bl _) h⟩
def dInD (neg : Bool) : Dat → Dat → (Dat → Prop) → Prop := fun x y P => ∃ p qs, toPy x = some p ∧ toPy y = some (.list qs) ∧ SeqAt.shaped p = true ∧ SeqAt.shaped (.list qs) = true ∧ P (.bl (if neg then !(qs.any fun z => PyData.eqv z p) else qs.any fun z => PyData.eqv z p))
theorem od_inD : OpD K (rInD K) (dInD false) := fun F H v u x y P s rx ry ⟨p, q, e1, e2, s1, s2, h⟩ Q k => ⟨p, q, dp_of s rx e1, dp_of s ry e2, s1, s2, k _ F H _ (Ext.refl s) (.bl _) h⟩
theorem od_notInD : OpD K (rNotInD K) (dInD true) := fun F H v u x y P s rx ry ⟨p, q, e1, e2, s1, s2, h⟩ Q k => ⟨p, q, dp_of s rx e1, dp_of s ry e2, s1, s2, k _ F H _ (Ext.refl s) (.bl _) h⟩
/-! ### lists, tuples -/
def dCat : Dat → Dat → (List Dat → Prop) → Prop := fun x y P => ∃ a b, x = .lst a ∧ y = .lst b ∧ a.length + b.length ≤ 1000 ∧ P (a ++ b)
theorem on_cat : OpN K rCat dCat := fun F H v u x y P s rx ry ⟨a, b, e1, e2, hl, p⟩ Q q => by
  subst e1 e2
  obtain ⟨l, xs, rfl, h1, r1⟩ := rx.of_lst
  obtain ⟨m, ys, rfl, h2, r2⟩ := ry.of_lst
  exact ⟨l, m, xs, ys, rfl, rfl, s _ _ h1, s _ _ h2, sz1000 (by rw [r1.length, r2.length]; exact hl), fun t ht => q t _ F _ _ (Ext.own s ht) ht (s.free ht) upd_same (r1.append r2) p⟩
def dRep : Dat → Dat → (List Dat → Prop) → Prop := fun x y P => ∃ z k, x = .lst [z] ∧ y = .int k ∧ 0 ≤ k ∧ k ≤ 1000 ∧ P (List.replicate k.toNat z)
theorem rep_flat {α : Type} (z : α) : ∀ n : Nat, (List.replicate n [z]).flatten = List.replicate n z
  | 0 => rfl
  | n + 1 => by
    rw [List.replicate_succ, List.flatten_cons, rep_flat z n]
    rfl
theorem RpL.rep {H : Hp} {v : V} {d : Dat} (h : Rp K H v d) : ∀ n, RpL K H (List.replicate n v) (List.replicate n d)
  | 0 => .nil
  | n + 1 => .cons h (RpL.rep h n)
theorem on_rep : OpN K rRep dRep := fun F H v u x y P s rx ry ⟨z, k, e1, e2, hb, hl, p⟩ Q q => by
  subst e1 e2
  obtain ⟨l, xs, rfl, h1, r1⟩ := rx.of_lst
  have eu := ry.of_int
  subst eu
  cases r1 with
  | cons rz rn =>
    cases rn
    refine ⟨l, k, _, rfl, rfl, s _ _ h1, by omega, by omega, ?_, fun t ht => q t _ F _ _ (Ext.own s ht) ht (s.free ht) upd_same ?_ p⟩
    · show 1 * k.toNat ≤ sizeLine
      exact sz1000 (by omega)
    · rw [rep_flat]
      exact RpL.rep rz _
def dCatT : Dat → Dat → (Dat → Prop) → Prop := fun x y P => ∃ a b, x = .tup a ∧ y = .tup b ∧ a.length + b.length ≤ 1000 ∧ P (.tup (a ++ b))
theorem od_catT : OpD K (rCatA K) dCatT := fun F H v u x y P s rx ry ⟨a, b, e1, e2, hl, p⟩ Q q => by
  subst e1 e2
  obtain ⟨l, xs, rfl, h1, r1⟩ := rx.of_tup
  obtain ⟨m, ys, rfl, h2, r2⟩ := ry.of_tup
  refine ⟨l, m, xs, ys, rfl, rfl, SqT.of (s _ _ h1), SqT.of (s _ _ h2), sz1000 (by rw [r1.length, r2.length]; exact hl), fun hx => ?_, fun _ hy => ?_, fun _ _ t ht => q (.ref t) _ _ _ (Ext.new s ht) (.tup upd_same ((r1.append r2).mono (upd_same' (s.free ht)))) p⟩
  · subst hx
    cases r1
    exact q (.ref m) F H _ (Ext.refl s) ry p
  · subst hy
    cases r2
    have ee : a ++ [] = a := List.append_nil a
    exact q (.ref l) F H (.tup a) (Ext.refl s) rx (by rw [ee] at p; exact p)
def dIxL : Dat → Dat → (Dat → Prop) → Prop := fun x y P => ∃ ds i d, x = .lst ds ∧ y = .int i ∧ atI ds i = some d ∧ P d
def dIxT : Dat → Dat → (Dat → Prop) → Prop := fun x y P => ∃ ds i d, x = .tup ds ∧ y = .int i ∧ atI ds i = some d ∧ P d
def dIxS : Dat → Dat → (Dat → Prop) → Prop := fun x y P => ∃ ns i n, x = .scr ns ∧ y = .int i ∧ atI ns i = some n ∧ P (.int n)
theorem atI_rp {H : Hp} {xs : List V} {ds : List Dat} {i : Int} {d : Dat} (r : RpL K H xs ds) (h : atI ds i = some d) : ∃ v, atI xs i = some v ∧ Rp K H v d := by
  unfold atI at h ⊢
  rw [r.length]
  cases e : ixN ds.length i with
  | none =>
    rw [e] at h
    cases h
  | some j =>
    rw [e] at h
    exact r.get h
theorem od_ixL : OpD K (rIxL K) dIxL := fun F H v u x y P s rx ry ⟨ds, i, d, e1, e2, h, p⟩ Q q => by
  subst e1 e2
  obtain ⟨l, xs, rfl, h1, r1⟩ := rx.of_lst
  obtain ⟨w, hw, rw'⟩ := atI_rp r1 h
  exact ⟨l, xs, i, w, rfl, ry.of_int, SqL.of (s _ _ h1), hw, q w F H d (Ext.refl s) rw' p⟩
theorem od_ixT : OpD K (rIxT K) dIxT := fun F H v u x y P s rx ry ⟨ds, i, d, e1, e2, h, p⟩ Q q => by
  subst e1 e2
  obtain ⟨l, xs, rfl, h1, r1⟩ := rx.of_tup
  obtain ⟨w, hw, rw'⟩ := atI_rp r1 h
  exact ⟨l, xs, i, w, rfl, ry.of_int, SqT.of (s _ _ h1), hw, q w F H d (Ext.refl s) rw' p⟩
theorem od_ixS : OpD K (rIxL K) dIxS := fun F H v u x y P s rx ry ⟨ns, i, n, e1, e2, h, p⟩ Q q => by
  subst e1 e2
  cases rx with
  | scr hs =>
    refine ⟨_, ns.map V.int, i, .int n, rfl, ry.of_int, s.seq hs, ?_, q _ F H _ (Ext.refl s) (.int n) p⟩
    unfold atI at h ⊢
    rw [List.length_map]
    cases e : ixN ns.length i with
    | none =>
      rw [e] at h
      cases h
    | some j =>
      rw [e] at h
      show (ns.map V.int)[j]? = some (.int n)
      rw [List.getElem?_map, show ns[j]? = some n from h]
      rfl
end
section
variable {X : Cx} {pos p apos cpos : Pos} {a b e : Expr}
/-! ### calls -/
def dLen : List Dat → (Dat → Prop) → Prop := fun xs P => (∃ ds, xs = [.lst ds] ∧ P (.int ds.length)) ∨ (∃ ds, xs = [.tup ds] ∧ P (.int ds.length)) ∨ ∃ ns, xs = [.scr ns] ∧ P (.int ns.length)
theorem cd_len {K : PySem.W.Frag} : CalD K (fun xs H Q => ∃ p ys, xs = [.ref p] ∧ (SqL K H p ys ∨ SqT K H p ys) ∧ Q (.int ys.length) H) dLen := fun F H vs xs P s r h Q q => by
  rcases h with ⟨ds, e, p⟩ | ⟨ds, e, p⟩ | ⟨ns, e, p⟩
  · subst e
    cases r with
    | cons h1 rn =>
      cases rn
      obtain ⟨l, ys, rfl, h2, r2⟩ := h1.of_lst
      refine ⟨l, ys, rfl, .inl (SqL.of (s _ _ h2)), ?_⟩
      rw [r2.length]
      exact q _ F H _ (Ext.refl s) (.int _) p
  · subst e
    cases r with
    | cons h1 rn =>
      cases rn
      obtain ⟨l, ys, rfl, h2, r2⟩ := h1.of_tup
      refine ⟨l, ys, rfl, .inr (SqT.of (s _ _ h2)), ?_⟩
      rw [r2.length]
      exact q _ F H _ (Ext.refl s) (.int _) p
  · subst e
    cases r with
    | cons h1 rn =>
      cases rn
      cases h1 with
      | scr hs =>
        refine ⟨_, ns.map V.int, rfl, .inl (s.seq hs), ?_⟩
        rw [List.length_map]
        exact q _ F H _ (Ext.refl s) (.int _) p
theorem xe_len {d : DA} (hm : X.mg "len" = Option.none) (ha : XA X [e] d) (hg : Gl X "len" := by rfl) (hst : starEach [e] X.env = (false, eval e X.env) :: starEach [] X.env := by rfl) (hpl : (backTo pos (starEach [] X.env)).any (·.1) = false := by rfl) : XE X (.Call (.Name "len" p) [e] [] pos) (dCall dLen d) := xe_callB call_len_seq cd_len hm ha hg (by decide +kernel) (by decide) (by decide) hst hpl
def d2Min : List Dat → (Dat → Prop) → Prop := fun xs P => ∃ i j, xs = [.int i, .int j] ∧ P (.int (if j < i then j else i))
def d2Max : List Dat → (Dat → Prop) → Prop := fun xs P => ∃ i j, xs = [.int i, .int j] ∧ P (.int (if j > i then j else i))
theorem two_ints {K : PySem.W.Frag} {F : Hp} {vs : List V} {i j : Int} (r : RpL K F vs [.int i, .int j]) : vs = [.int i, .int j] := by
  cases r with
  | cons h1 r =>
    cases r with
    | cons h2 r =>
      cases r
      cases h1
      cases h2
      rfl
theorem one_int {K : PySem.W.Frag} {F : Hp} {vs : List V} {i : Int} (r : RpL K F vs [.int i]) : vs = [.int i] := by
  cases r with
  | cons h1 r =>
    cases r
    cases h1
    rfl
theorem cd_min2 {K : PySem.W.Frag} : CalD K (fun xs H Q => ∃ i j, xs = [.int i, .int j] ∧ Q (.int (if j < i then j else i)) H) d2Min := fun F H vs xs P s r ⟨i, j, e, p⟩ Q q => by
  subst e
  exact ⟨i, j, two_ints r, q _ F H _ (Ext.refl s) (.int _) p⟩
theorem cd_max2 {K : PySem.W.Frag} : CalD K (fun xs H Q => ∃ i j, xs = [.int i, .int j] ∧ Q (.int (if j > i then j else i)) H) d2Max := fun F H vs xs P s r ⟨i, j, e, p⟩ Q q => by
  subst e
  exact ⟨i, j, two_ints r, q _ F H _ (Ext.refl s) (.int _) p⟩
def dAbs : List Dat → (Dat → Prop) → Prop := fun xs P => ∃ i, xs = [.int i] ∧ P (.int (if i < 0 then -i else i))
theorem cd_abs {K : PySem.W.Frag} : CalD K (fun xs H Q => ∃ i, xs = [.int i] ∧ Q (.int (if i < 0 then -i else i)) H) dAbs := fun F H vs xs P s r ⟨i, e, p⟩ Q q => by
  subst e
  exact ⟨i, one_int r, q _ F H _ (Ext.refl s) (.int _) p⟩
def dInt : List Dat → (Dat → Prop) → Prop := fun xs P => ∃ i, xs = [.int i] ∧ P (.int i)
theorem cd_int {K : PySem.W.Frag} : CalD K (fun xs H Q => (∃ i, xs = [.int i] ∧ Q (.int i) H) ∨ ∃ k, xs = [.bl k] ∧ Q (.int (if k then 1 else 0)) H) dInt := fun F H vs xs P s r ⟨i, e, p⟩ Q q => by
  subst e
  exact .inl ⟨i, one_int r, q _ F H _ (Ext.refl s) (.int _) p⟩
def dTupOf : List Dat → (Dat → Prop) → Prop := fun xs P => ∃ ds, (xs = [.lst ds] ∨ xs = [.tup ds]) ∧ P (.tup ds)
theorem cd_tupOf {K : PySem.W.Frag} : CalD K (fun xs H Q => ∃ p ys, xs = [.ref p] ∧ ((SqL K H p ys ∧ ∀ l, H l = Option.none → Q (.ref l) (upd H l (.tup ys))) ∨ (SqT K H p ys ∧ Q (.ref p) H))) dTupOf := fun F H vs xs P s r ⟨ds, e, p⟩ Q q => by
  rcases e with e | e
  · subst e
    cases r with
    | cons h1 rn =>
      cases rn
      obtain ⟨l, ys, rfl, h2, r2⟩ := h1.of_lst
      exact ⟨l, ys, rfl, .inl ⟨SqL.of (s _ _ h2), fun t ht => q (.ref t) _ _ _ (Ext.new s ht) (.tup upd_same (r2.mono (upd_same' (s.free ht)))) p⟩⟩
  · subst e
    cases r with
    | cons h1 rn =>
      cases rn
      obtain ⟨l, ys, rfl, h2, r2⟩ := h1.of_tup
      exact ⟨l, ys, rfl, .inr ⟨SqT.of (s _ _ h2), q (.ref l) F H _ (Ext.refl s) h1 p⟩⟩
def dListOf : List Dat → (List Dat → Prop) → Prop := fun xs P => ∃ ds, (xs = [.lst ds] ∨ xs = [.tup ds]) ∧ P ds
theorem cn_listOf {K : PySem.W.Frag} : CalN K (fun xs H Q => ∃ p ys, xs = [.ref p] ∧ (SqL K H p ys ∨ SqT K H p ys) ∧ ∀ l, H l = Option.none → Q (.ref l) (upd H l (.lst ys))) dListOf := fun F H vs xs P s r ⟨ds, e, p⟩ Q q => by
  rcases e with e | e
  · subst e
    cases r with
    | cons h1 rn =>
      cases rn
      obtain ⟨l, ys, rfl, h2, r2⟩ := h1.of_lst
      exact ⟨l, ys, rfl, .inl (SqL.of (s _ _ h2)), fun t ht => q t _ F _ _ (Ext.own s ht) ht (s.free ht) upd_same r2 p⟩
  · subst e
    cases r with
    | cons h1 rn =>
      cases rn
      obtain ⟨l, ys, rfl, h2, r2⟩ := h1.of_tup
      exact ⟨l, ys, rfl, .inr (SqT.of (s _ _ h2)), fun t ht => q t _ F _ _ (Ext.own s ht) ht (s.free ht) upd_same r2 p⟩
/-- list(d), d a dict with int keys -/
def dListD : List Dat → (List Dat → Prop) → Prop := fun xs P => ∃ kvs, xs = [.dI kvs] ∧ P (kvs.map fun q => .int q.1)
theorem RpI.keys {K : PySem.W.Frag} {H : Hp} : ∀ {ks : List (Key × V)} {kvs : List (Int × Dat)}, RpI K H ks kvs → (ks.map fun kv => kV kv.1) = (kvs.map (·.1)).map V.int
  | _, _, .nil => rfl
  | _, _, .cons _ r => by
    rw [List.map_cons, RpI.keys r]
    rfl
/-- sorted(list of ints) -/
def dSorted : List Dat → (List Dat → Prop) → Prop := fun xs P => ∃ ns, xs = [lI ns] ∧ ns.length < 64 ∧ ∀ ms : List Int, ms.Perm ns → ms.Pairwise (· ≤ ·) → P (ms.map .int)
theorem cn_sorted {K : PySem.W.Frag} : CalN K (rSorted K) dSorted := fun F H vs xs P s r ⟨ns, e, hl, p⟩ Q q => by
  subst e
  cases r with
  | cons h1 rn =>
    cases rn
    obtain ⟨l, ys, rfl, h2, r2⟩ := h1.of_lst
    have ey := r2.ints
    subst ey
    exact ⟨l, ns, rfl, SqL.of (s _ _ h2), hl, fun ms t hp ho ht => q t _ F _ _ (Ext.own s ht) ht (s.free ht) upd_same (RpL.of_ints ms) (p ms hp ho)⟩
def dMinL : List Dat → (Dat → Prop) → Prop := fun xs P => ∃ ns, xs = [lI ns] ∧ 0 < ns.length ∧ ∀ m, m ∈ ns → (∀ y, y ∈ ns → m ≤ y) → P (.int m)
theorem cd_minL {K : PySem.W.Frag} : CalD K (rMin K) dMinL := fun F H vs xs P s r ⟨ns, e, hl, p⟩ Q q => by
  subst e
  cases r with
  | cons h1 rn =>
    cases rn
    obtain ⟨l, ys, rfl, h2, r2⟩ := h1.of_lst
    have ey := r2.ints
    subst ey
    exact ⟨l, ns, rfl, SqL.of (s _ _ h2), hl, fun m h1 h2 => q _ F H _ (Ext.refl s) (.int m) (p m h1 h2)⟩
/-! ### slices -/
def dNoP : List Sl → (Option Int → Prop) → Prop := fun _ P => P Option.none
def dP1 (d : DE) : List Sl → (Option Int → Prop) → Prop := fun δ P => d δ fun x => ∃ i, x = .int i ∧ P (some i)
def cutD (xs : List Dat) (lo hi : Option Int) : List Dat := (xs.drop (HT.sIx xs.length 0 lo)).take (HT.sIx xs.length xs.length hi - HT.sIx xs.length 0 lo)
abbrev DO := List Sl → (Option Int → Prop) → Prop
def SndO (K : PySem.W.Frag) (t : TO) (d : DO) : Prop := ∀ (F0 H0 F H : Hp) (σ : L2.St) (δ : List Sl) (P : Option Int → Prop), Stt K F0 H0 F H σ δ → d δ P → ∀ Q : Option Int → Hp → Prop, (∀ i F2 H2, Ext F H F2 H2 → P i → Q i H2) → t σ H Q
def XO (X : Cx) (e : Option Expr) (d : DO) : Prop := ∃ t, PO X e t ∧ SndO X.K t d
theorem xo_none : XO X Option.none dNoP := ⟨_, po_none, fun F0 H0 F H σ δ P S h Q q => q _ F H (Ext.refl S.ext.s) h⟩
theorem xo_some {e : Expr} {d : DE} (h : XE X e d) : XO X (some e) (dP1 d) := ⟨_, po_some h, fun F0 H0 F H σ δ P S hd Q q => snd_tD d F0 H0 F H σ δ _ S hd _ fun v F2 H2 x e1 rx ⟨i, hi, pi⟩ => by
  subst hi
  exact ⟨i, rx.of_int, q (some i) F2 H2 e1 pi⟩⟩
def dSl (d : DE) (l h : DO) : DA := fun δ P => d δ fun x => l δ fun lo => h δ fun hi => ∃ ds, x = .lst ds ∧ P (cutD ds lo hi)
theorem xn_slice {o : Expr} {lo hi : Option Expr} {p' : Pos} {d : DE} {dl dh : DO} (ho : XE X o d) (hl : XO X lo dl) (hh : XO X hi dh)
    (pe : ∀ {to : TE} {tl th : TO}, PE X o to → PO X lo tl → PO X hi th → PE X (.Subscript o (.Slice lo hi Option.none p') pos) (tSl (rSlL X.K) to tl th) := by exact fun a b c => pe_slice sl_list a b c) : XN X (.Subscript o (.Slice lo hi Option.none p') pos) (dSl d dl dh) := by
  obtain ⟨tl, pl, sl⟩ := hl
  obtain ⟨th, ph, sh⟩ := hh
  refine xn_of (pe ho pl ph) fun F0 H0 F H σ δ P S hd Q q => ?_
  refine snd_tD d F0 H0 F H σ δ _ S hd _ fun v F1 H1 x e1 rx h1 => ?_
  refine sl F0 H0 F1 H1 σ δ _ (S.grow e1) h1 _ fun i F2 H2 e2 h2 => ?_
  refine sh F0 H0 F2 H2 σ δ _ ((S.grow e1).grow e2) h2 _ fun j F3 H3 e3 ⟨ds, ed, h3⟩ => ?_
  subst ed
  obtain ⟨l, ys, rfl, ha, r⟩ := rx.of_lst
  have s := e3.s
  refine ⟨l, ys, rfl, SqL.of (e3.h _ _ (e2.h _ _ (e1.s _ _ ha))), fun t ht => q t _ F3 _ _ (((e1.trans e2).trans e3).trans (Ext.own s ht)) (((e1.trans e2).trans e3).h.free ht) (s.free ht) upd_same ?_ h3⟩
  have r3 := (r.mono e2.f).mono e3.f
  unfold cutV cutD
  rw [r3.length]
  exact (r3.drop _).take _
/-- xs[::-1] -/
def dRev (d : DE) : DA := fun δ P => d δ fun x => ∃ ds, x = .lst ds ∧ P ds.reverse
theorem xn_rev {o : Expr} {k : Nat} {p1 p2 p3 : Pos} {d : DE} (ho : XE X o d) : XN X (.Subscript o (.Slice Option.none Option.none (some (.UnaryOp .USub (.Constant (.int 1) k p1) p2)) p3) pos) (dRev d) := xn_of (pe_revL ho) fun F0 H0 F H σ δ P S hd Q q =>
  snd_tD d F0 H0 F H σ δ _ S hd _ fun v F1 H1 x e1 rx ⟨ds, ed, h1⟩ => by
    subst ed
    obtain ⟨l, ys, rfl, ha, r⟩ := rx.of_lst
    exact ⟨l, ys, rfl, SqL.of (e1.s _ _ ha), fun t ht => q t _ F1 _ _ (e1.trans (Ext.own e1.s ht)) (e1.h.free ht) (e1.s.free ht) upd_same r.reverse h1⟩
/-! ### isinstance -/
def tyN : Dat → String
  | .non => "NoneType"
  | .bl _ => "bool"
  | .int _ => "int"
  | .lst _ => "list"
  | .tup _ => "tuple"
  | _ => ""
def dIsi (T : String) (d : DE) : DE := fun δ P => d δ fun x => ∃ b, tyN x ≠ "" ∧ kitB (tyN x) T = some b ∧ P (.bl b)
theorem xe_isi {x : Str} {T : String} {p2 : Pos} {d : DE} (hm : X.mg "isinstance" = Option.none) (hm2 : X.mg x = Option.none) (he : XE X e d) (hg : Gl X "isinstance" := by rfl) (hg2 : Gl X x := by rfl) (hv : bootBuiltins x = some (.type T) := by decide +kernel) (hn : x ≠ "__name__" := by decide) (hdb : (x == ("__debug__" : Str)) = false := by decide)
    (st : starEach [e, .Name x p2] X.env = (false, eval e X.env) :: starEach [.Name x p2] X.env := by rfl) (st2 : starEach [.Name x p2] X.env = (false, eval (.Name x p2) X.env) :: starEach [] X.env := by rfl) (hpl : (backTo pos (starEach [.Name x p2] X.env)).any (·.1) = false := by rfl) : XE X (.Call (.Name "isinstance" p) [e, .Name x p2] [] pos) (dIsi T d) :=
  xe_of (pe_callB (t := tCons (tD X.K d) (tCons (tC (.ty T)) tNil)) call_isi hg hm (by decide +kernel) (pa_cons he (pa_cons (pe_bltn hg2 hm2 hv rfl hn hdb) pa_nil st2) st) (by decide) (by decide) st hpl) fun F0 H0 F H σ δ P S hd Q q => snd_tD d F0 H0 F H σ δ _ S hd _ fun v F1 H1 y e1 ry ⟨b, h0, hb, hp⟩ => by
    refine ⟨v, .ty T, .type (tyN y), .type T, b, rfl, .ty T, .base ?_, kit_ty hb, q _ F1 H1 _ e1 (.bl b) hp⟩
    cases ry with
    | non => exact .non
    | bl b => exact .bl b
    | int i => exact .int i
    | lst ha _ => exact .lst (e1.s _ _ ha)
    | tup ha _ => exact .tup (e1.s _ _ ha)
    | pool _ _ _ _ _ _ _ _ => exact absurd rfl h0
    | dI _ _ => exact absurd rfl h0
    | dP _ _ => exact absurd rfl h0
    | scr _ => exact absurd rfl h0
    | ins _ _ => exact absurd rfl h0
/-! ### what is walked -/
def dItL (d : DE) : DA := fun δ P => d δ fun x => ∃ ds, (x = .lst ds) ∧ P ds
def dItT (d : DE) : DA := fun δ P => d δ fun x => ∃ ds, (x = .tup ds) ∧ P ds
theorem xi_list {tg : Expr} {d : DE} (h : XE X e d) : XI X tg e (dItL d) := xi_of (pi_list h) fun F0 H0 F H σ δ P S hd R q => snd_tD d F0 H0 F H σ δ _ S hd _ fun v F1 H1 x e1 rx ⟨ds, ed, hp⟩ => by
  subst ed
  obtain ⟨l, xs, rfl, ha, r⟩ := rx.of_lst
  refine ⟨l, rfl, ⟨xs, SqL.of (e1.s _ _ ha)⟩, q _ F1 H1 ds e1 ⟨fun i F2 H2 f s hi => ⟨xs, xs[i]'(by rw [r.length]; exact hi), SqL.of (s _ _ (f _ _ ha)), List.getElem?_eq_getElem _⟩, fun i F2 H2 x H3 f s ⟨e, y⟩ d hd => ?_, fun i F2 H2 f s hi => ⟨xs, SqL.of (s _ _ (f _ _ ha)), by rw [r.length]; exact hi⟩⟩ hp⟩
  subst e
  obtain ⟨u, hu, ru⟩ := r.get hd
  have hx := y xs (SqL.of (s _ _ (f _ _ ha)))
  rw [hu] at hx
  cases hx
  exact ⟨F2, Ext.refl s, ru.mono f⟩
theorem xi_tup {tg : Expr} {d : DE} (h : XE X e d) : XI X tg e (dItT d) := xi_of (pi_tup h) fun F0 H0 F H σ δ P S hd R q => snd_tD d F0 H0 F H σ δ _ S hd _ fun v F1 H1 x e1 rx ⟨ds, ed, hp⟩ => by
  subst ed
  obtain ⟨l, xs, rfl, ha, r⟩ := rx.of_tup
  refine ⟨l, rfl, ⟨xs, SqT.of (e1.s _ _ ha)⟩, q _ F1 H1 ds e1 ⟨fun i F2 H2 f s hi => ⟨xs, xs[i]'(by rw [r.length]; exact hi), SqT.of (s _ _ (f _ _ ha)), List.getElem?_eq_getElem _⟩, fun i F2 H2 x H3 f s ⟨e, y⟩ d hd => ?_, fun i F2 H2 f s hi => ⟨xs, SqT.of (s _ _ (f _ _ ha)), by rw [r.length]; exact hi⟩⟩ hp⟩
  subst e
  obtain ⟨u, hu, ru⟩ := r.get hd
  have hx := y xs (SqT.of (s _ _ (f _ _ ha)))
  rw [hu] at hx
  cases hx
  exact ⟨F2, Ext.refl s, ru.mono f⟩
/-- either -/
theorem xi_or {tg : Expr} {d d' : DA} (h : XI X tg e d) (h' : XI X tg e d') : XI X tg e (fun δ P => d δ P ∨ d' δ P) := ⟨fun pins s σ H R I ⟨F0, H0, F, δ, P, S, hd, q⟩ => by
  rcases hd with hd | hd
  · exact h.run pins s σ H R I ⟨F0, H0, F, δ, P, S, hd, q⟩
  · exact h'.run pins s σ H R I ⟨F0, H0, F, δ, P, S, hd, q⟩⟩
theorem xe_orr {d d' : DE} (h : XE X e d) (h' : XE X e d') : XE X e (fun δ P => d δ P ∨ d' δ P) := ⟨fun pins s σ H R I ⟨F0, H0, F, δ, P, S, hd, q⟩ => by
  rcases hd with hd | hd
  · exact h.run pins s σ H R I ⟨F0, H0, F, δ, P, S, hd, q⟩
  · exact h'.run pins s σ H R I ⟨F0, H0, F, δ, P, S, hd, q⟩⟩
def rngD (lo : Int) (n : Nat) : List Dat := (List.range n).map fun (k : Nat) => Dat.int (lo + (k : Int))
theorem rng_ok {K : PySem.W.Frag} {F : Hp} {lo : Int} {n : Nat} : ItOk K (Itr lo n) F (rngD lo n) where
  go := fun i F1 H1 f s hi => by
    unfold rngD at hi
    rw [List.length_map, List.length_range] at hi
    exact hi
  yld := fun i F1 H1 x H2 f s ⟨e, y⟩ d hd => by
    subst e y
    unfold rngD at hd
    rw [List.getElem?_map] at hd
    by_cases hi : i < n
    · rw [List.getElem?_range hi] at hd
      cases hd
      exact ⟨F1, Ext.refl s, .int _⟩
    · rw [List.getElem?_eq_none (by rw [List.length_range]; omega)] at hd
      cases hd
  stop := fun i F1 H1 f s hi => by
    unfold rngD at hi
    rw [List.length_map, List.length_range] at hi
    exact hi
def dRng1 (d : DA) : DA := fun δ P => d δ fun xs => ∃ n, xs = [.int n] ∧ -1000 ≤ n ∧ n ≤ 1000000 ∧ P (rngD 0 n.toNat)
def dRng2 (d : DA) : DA := fun δ P => d δ fun xs => ∃ i n, xs = [.int i, .int n] ∧ (-1000 ≤ i ∧ i ≤ 1000000 ∧ -1000 ≤ n ∧ n ≤ 1000000) ∧ P (rngD i (n - i).toNat)
theorem xi_rng1 {tg : Expr} {d : DA} (hm : X.mg "range" = Option.none) (h : XA X [a] d) (hg : Gl X "range" := by rfl) (hs : starEach [a] X.env = [(false, eval a X.env)] := by rfl) : XI X tg (.Call (.Name "range" p) [a] [] pos) (dRng1 d) := xi_of (pi_range1 hg hm h hs) fun F0 H0 F H σ δ P S hd R q => snd_tDA d F0 H0 F H σ δ _ S hd _ fun vs F1 H1 xs e1 rx ⟨n, ed, h1, h2, hp⟩ => by
  subst ed
  exact ⟨n, one_int rx, by omega, by omega, q _ F1 H1 _ e1 rng_ok hp⟩
theorem xi_rng2 {tg : Expr} {d : DA} (hm : X.mg "range" = Option.none) (h : XA X [a, b] d) (hg : Gl X "range" := by rfl) (hs : starEach [a, b] X.env = [(false, eval a X.env), (false, eval b X.env)] := by rfl) (hs2 : starEach [b] X.env = [(false, eval b X.env)] := by rfl) : XI X tg (.Call (.Name "range" p) [a, b] [] pos) (dRng2 d) := xi_of (pi_range2 hg hm h hs hs2) fun F0 H0 F H σ δ P S hd R q => snd_tDA d F0 H0 F H σ δ _ S hd _ fun vs F1 H1 xs e1 rx ⟨i, n, ed, ⟨h1, h2, h3, h4⟩, hp⟩ => by
  subst ed
  exact ⟨i, n, two_ints rx, ⟨by omega, by omega, by omega, by omega⟩, q _ F1 H1 _ e1 rng_ok hp⟩
/-! ### fields of a pool -/
def dCaps (d : DE) : DE := fun δ P => d δ fun x => ∃ c r, x = .pool c r ∧ P (tI c)
def dHold (d : DE) : DE := fun δ P => d δ fun x => ∃ c r, x = .pool c r ∧ P (.tup (r.map tI))
def dSeats (d : DE) : DE := fun δ P => d δ fun x => ∃ c r, x = .pool c r ∧ P (.int (c.length : Int))
def dPieces (d : DE) : DE := fun δ P => d δ fun x => ∃ c r, x = .pool c r ∧ P (.int (r.length : Int))
structure PoolC (K : PySem.W.Frag) : Prop where
  cl : Cls K (He.ga K "Pool")
  c : NoAttr K (He.ga K "Pool") "caps"
  h : NoAttr K (He.ga K "Pool") "holders"
  s : NoAttr K (He.ga K "Pool") "seats"
  p : NoAttr K (He.ga K "Pool") "pieces"
theorem xe_caps {d : DE} (C : PoolC X.K) (he : XE X e d) (hb : attributeBase e "caps" X.env (eval e X.env) = eval e X.env := by rfl) : XE X (.Attribute e "caps" pos) (dCaps d) := xe_of (pe_fld he hb) fun F0 H0 F H σ δ P S hd Q q => snd_tD d F0 H0 F H σ δ _ S hd _ fun v F1 H1 x e1 rx ⟨c, r, ed, hp⟩ => by
  subst ed
  cases rx with
  | pool h l1 l2 l3 l4 ha hb r => exact ⟨_, _, _, _, _, rfl, e1.s _ _ h, C.cl, C.c, l1, q _ F1 H1 _ e1 (.tup ha (RpL.of_ints c)) hp⟩
theorem xe_hold {d : DE} (C : PoolC X.K) (he : XE X e d) (hb : attributeBase e "holders" X.env (eval e X.env) = eval e X.env := by rfl) : XE X (.Attribute e "holders" pos) (dHold d) := xe_of (pe_fld he hb) fun F0 H0 F H σ δ P S hd Q q => snd_tD d F0 H0 F H σ δ _ S hd _ fun v F1 H1 x e1 rx ⟨c, r, ed, hp⟩ => by
  subst ed
  cases rx with
  | pool h l1 l2 l3 l4 ha hb r => exact ⟨_, _, _, _, _, rfl, e1.s _ _ h, C.cl, C.h, l2, q _ F1 H1 _ e1 (.tup hb r) hp⟩
theorem xe_seats {d : DE} (C : PoolC X.K) (he : XE X e d) (hb : attributeBase e "seats" X.env (eval e X.env) = eval e X.env := by rfl) : XE X (.Attribute e "seats" pos) (dSeats d) := xe_of (pe_fld he hb) fun F0 H0 F H σ δ P S hd Q q => snd_tD d F0 H0 F H σ δ _ S hd _ fun v F1 H1 x e1 rx ⟨c, r, ed, hp⟩ => by
  subst ed
  cases rx with
  | pool h l1 l2 l3 l4 ha hb r => exact ⟨_, _, _, _, _, rfl, e1.s _ _ h, C.cl, C.s, l3, q _ F1 H1 _ e1 (.int _) hp⟩
theorem xe_pieces {d : DE} (C : PoolC X.K) (he : XE X e d) (hb : attributeBase e "pieces" X.env (eval e X.env) = eval e X.env := by rfl) : XE X (.Attribute e "pieces" pos) (dPieces d) := xe_of (pe_fld he hb) fun F0 H0 F H σ δ P S hd Q q => snd_tD d F0 H0 F H σ δ _ S hd _ fun v F1 H1 x e1 rx ⟨c, r, ed, hp⟩ => by
  subst ed
  cases rx with
  | pool h l1 l2 l3 l4 ha hb r => exact ⟨_, _, _, _, _, rfl, e1.s _ _ h, C.cl, C.p, l4, q _ F1 H1 _ e1 (.int _) hp⟩
end
end Pw
set_option Elab.async false
set_option linter.all false
set_option maxRecDepth 100000
set_option maxHeartbeats 400000
/-! The defs as the head tells them; a def's promise by its body, told by data. -/
namespace Pw
open PySem PySem.Spec L2
def d_pairs_among : He.DefD := ⟨("pairs_among", none), "pairs_among", "pairs_among", defArgs s_pairs_among, defBody s_pairs_among, defScope s_pairs_among, [], []⟩
def d_has_twice : He.DefD := ⟨("has_twice", none), "has_twice", "has_twice", defArgs s_has_twice, defBody s_has_twice, defScope s_has_twice, [], []⟩
def d_are_below : He.DefD := ⟨("are_below", none), "are_below", "are_below", defArgs s_are_below, defBody s_are_below, defScope s_are_below, [], []⟩
def d_clean_holders : He.DefD := ⟨("clean_holders", none), "clean_holders", "clean_holders", defArgs s_clean_holders, defBody s_clean_holders, defScope s_clean_holders, [], []⟩
def d_Pool_init : He.DefD := ⟨("Pool", some "__init__"), "__init__", "Pool.__init__", defArgs s_Pool_init, defBody s_Pool_init, defScope s_Pool_init, [], []⟩
def d_pair_room : He.DefD := ⟨("pair_room", none), "pair_room", "pair_room", defArgs s_pair_room, defBody s_pair_room, defScope s_pair_room, [], []⟩
def d_held_pairs : He.DefD := ⟨("held_pairs", none), "held_pairs", "held_pairs", defArgs s_held_pairs, defBody s_held_pairs, defScope s_held_pairs, [], []⟩
def d_pool_with : He.DefD := ⟨("pool_with", none), "pool_with", "pool_with", defArgs s_pool_with, defBody s_pool_with, defScope s_pool_with, [], []⟩
def d_is_dealing : He.DefD := ⟨("is_dealing", none), "is_dealing", "is_dealing", defArgs s_is_dealing, defBody s_is_dealing, defScope s_is_dealing, [], []⟩
def d_pieces_on : He.DefD := ⟨("pieces_on", none), "pieces_on", "pieces_on", defArgs s_pieces_on, defBody s_pieces_on, defScope s_pieces_on, [], []⟩
def d_forest : He.DefD := ⟨("forest", none), "forest", "forest", defArgs s_forest, defBody s_forest, defScope s_forest, [], []⟩
def d_free_pair : He.DefD := ⟨("free_pair", none), "free_pair", "free_pair", defArgs s_free_pair, defBody s_free_pair, defScope s_free_pair, [], []⟩
def d_walk_back : He.DefD := ⟨("walk_back", none), "walk_back", "walk_back", defArgs s_walk_back, defBody s_walk_back, defScope s_walk_back, [], []⟩
def d_find_walk : He.DefD := ⟨("find_walk", none), "find_walk", "find_walk", defArgs s_find_walk, defBody s_find_walk, defScope s_find_walk, [], [("pieces", .non)]⟩
def d_take_walk : He.DefD := ⟨("take_walk", none), "take_walk", "take_walk", defArgs s_take_walk, defBody s_take_walk, defScope s_take_walk, [], []⟩
def d_first_fit : He.DefD := ⟨("first_fit", none), "first_fit", "first_fit", defArgs s_first_fit, defBody s_first_fit, defScope s_first_fit, [], []⟩
def d_greatest_dealing : He.DefD := ⟨("greatest_dealing", none), "greatest_dealing", "greatest_dealing", defArgs s_greatest_dealing, defBody s_greatest_dealing, defScope s_greatest_dealing, [], [("start", .non)]⟩
def d_most_dealt : He.DefD := ⟨("most_dealt", none), "most_dealt", "most_dealt", defArgs s_most_dealt, defBody s_most_dealt, defScope s_most_dealt, [], []⟩
def d_is_safe : He.DefD := ⟨("is_safe", none), "is_safe", "is_safe", defArgs s_is_safe, defBody s_is_safe, defScope s_is_safe, [], []⟩
def d_others_of : He.DefD := ⟨("others_of", none), "others_of", "others_of", defArgs s_others_of, defBody s_others_of, defScope s_others_of, [], []⟩
def d_after_loss : He.DefD := ⟨("after_loss", none), "after_loss", "after_loss", defArgs s_after_loss, defBody s_after_loss, defScope s_after_loss, [], []⟩
def d_first_wrong : He.DefD := ⟨("first_wrong", none), "first_wrong", "first_wrong", defArgs s_first_wrong, defBody s_first_wrong, defScope s_first_wrong, [], []⟩
def d_after_round : He.DefD := ⟨("after_round", none), "after_round", "after_round", defArgs s_after_round, defBody s_after_round, defScope s_after_round, [], []⟩
def d_killing_row : He.DefD := ⟨("killing_row", none), "killing_row", "killing_row", defArgs s_killing_row, defBody s_killing_row, defScope s_killing_row, [], []⟩
def d_first_sends : He.DefD := ⟨("first_sends", none), "first_sends", "first_sends", defArgs s_first_sends, defBody s_first_sends, defScope s_first_sends, [], []⟩
def d_Game_init : He.DefD := ⟨("Game", some "__init__"), "__init__", "Game.__init__", defArgs s_Game_init, defBody s_Game_init, defScope s_Game_init, [], []⟩
def d_Game_play : He.DefD := ⟨("Game", some "play"), "play", "Game.play", defArgs s_Game_play, defBody s_Game_play, defScope s_Game_play, [], []⟩
def d_Game_dead : He.DefD := ⟨("Game", some "dead"), "dead", "Game.dead", defArgs s_Game_dead, defBody s_Game_dead, defScope s_Game_dead, [], []⟩
def d_l_cell : He.DefD := ⟨("_law_cell", none), "_law_cell", "_law_cell", defArgs s_l_cell, defBody s_l_cell, defScope s_l_cell, [], []⟩
def d_l_draws : He.DefD := ⟨("_law_draws", none), "_law_draws", "_law_draws", defArgs s_l_draws, defBody s_l_draws, defScope s_l_draws, [], []⟩
def d_l_bits : He.DefD := ⟨("_law_bits", none), "_law_bits", "_law_bits", defArgs s_l_bits, defBody s_l_bits, defScope s_l_bits, [], []⟩
def d_l_pairs : He.DefD := ⟨("_law_pairs", none), "_law_pairs", "_law_pairs", defArgs s_l_pairs, defBody s_l_pairs, defScope s_l_pairs, [], []⟩
def d_l_pool : He.DefD := ⟨("_law_pool", none), "_law_pool", "_law_pool", defArgs s_l_pool, defBody s_l_pool, defScope s_l_pool, [], []⟩
def d_l_crowded : He.DefD := ⟨("_law_crowded", none), "_law_crowded", "_law_crowded", defArgs s_l_crowded, defBody s_l_crowded, defScope s_l_crowded, [], []⟩
def d_l_is_dealing : He.DefD := ⟨("_law_is_dealing", none), "_law_is_dealing", "_law_is_dealing", defArgs s_l_is_dealing, defBody s_l_is_dealing, defScope s_l_is_dealing, [], []⟩
def d_l_is_integer : He.DefD := ⟨("_law_is_integer", none), "_law_is_integer", "_law_is_integer", defArgs s_l_is_integer, defBody s_l_is_integer, defScope s_l_is_integer, [], []⟩
def d_l_is_list : He.DefD := ⟨("_law_is_list", none), "_law_is_list", "_law_is_list", defArgs s_l_is_list, defBody s_l_is_list, defScope s_l_is_list, [], []⟩
def d_l_sends : He.DefD := ⟨("_law_sends", none), "_law_sends", "_law_sends", defArgs s_l_sends, defBody s_l_sends, defScope s_l_sends, [], []⟩
def d_l_round : He.DefD := ⟨("_law_round", none), "_law_round", "_law_round", defArgs s_l_round, defBody s_l_round, defScope s_l_round, [], []⟩
def d_l_is_row : He.DefD := ⟨("_law_is_row", none), "_law_is_row", "_law_is_row", defArgs s_l_is_row, defBody s_l_is_row, defScope s_l_is_row, [], []⟩
def d_l_is_pool : He.DefD := ⟨("_law_is_pool", none), "_law_is_pool", "_law_is_pool", defArgs s_l_is_pool, defBody s_l_is_pool, defScope s_l_is_pool, [], []⟩
def d_l_kept : He.DefD := ⟨("_law_kept", none), "_law_kept", "_law_kept", defArgs s_l_kept, defBody s_l_kept, defScope s_l_kept, [], []⟩
def d_l_made : He.DefD := ⟨("_law_made", none), "_law_made", "_law_made", defArgs s_l_made, defBody s_l_made, defScope s_l_made, [], []⟩
def d_l_are_numbers : He.DefD := ⟨("_law_are_numbers", none), "_law_are_numbers", "_law_are_numbers", defArgs s_l_are_numbers, defBody s_l_are_numbers, defScope s_l_are_numbers, [], []⟩
def d_l_are_entries : He.DefD := ⟨("_law_are_entries", none), "_law_are_entries", "_law_are_entries", defArgs s_l_are_entries, defBody s_l_are_entries, defScope s_l_are_entries, [], []⟩
def d_l_copied : He.DefD := ⟨("_law_copied", none), "_law_copied", "_law_copied", defArgs s_l_copied, defBody s_l_copied, defScope s_l_copied, [], []⟩
def d_l_firsts : He.DefD := ⟨("_law_firsts", none), "_law_firsts", "_law_firsts", defArgs s_l_firsts, defBody s_l_firsts, defScope s_l_firsts, [], []⟩
def d_l_order : He.DefD := ⟨("_law_order", none), "_law_order", "_law_order", defArgs s_l_order, defBody s_l_order, defScope s_l_order, [], []⟩
def d_l_after : He.DefD := ⟨("_law_after", none), "_law_after", "_law_after", defArgs s_l_after, defBody s_l_after, defScope s_l_after, [], []⟩
def d_l_says_dead : He.DefD := ⟨("_law_says_dead", none), "_law_says_dead", "_law_says_dead", defArgs s_l_says_dead, defBody s_l_says_dead, defScope s_l_says_dead, [], []⟩
def d_l_any_order : He.DefD := ⟨("_law_any_order", none), "_law_any_order", "_law_any_order", defArgs s_l_any_order, defBody s_l_any_order, defScope s_l_any_order, [], []⟩
def d_l_low_first : He.DefD := ⟨("_law_low_first", none), "_law_low_first", "_law_low_first", defArgs s_l_low_first, defBody s_l_low_first, defScope s_l_low_first, [], []⟩
def d_l_high_first : He.DefD := ⟨("_law_high_first", none), "_law_high_first", "_law_high_first", defArgs s_l_high_first, defBody s_l_high_first, defScope s_l_high_first, [], []⟩
def d_law : He.DefD := ⟨("law", none), "law", "law", defArgs s_law, defBody s_law, defScope s_law, [], []⟩
def fn : List He.DefD := [d_pairs_among, d_has_twice, d_are_below, d_clean_holders, d_Pool_init, d_pair_room, d_held_pairs, d_pool_with, d_is_dealing, d_pieces_on, d_forest, d_free_pair, d_walk_back, d_find_walk, d_take_walk, d_first_fit, d_greatest_dealing, d_most_dealt, d_is_safe, d_others_of, d_after_loss, d_first_wrong, d_after_round, d_killing_row, d_first_sends, d_Game_init, d_Game_play, d_Game_dead, d_l_cell, d_l_draws, d_l_bits, d_l_pairs, d_l_pool, d_l_crowded, d_l_is_dealing, d_l_is_integer, d_l_is_list, d_l_sends, d_l_round, d_l_is_row, d_l_is_pool, d_l_kept, d_l_made, d_l_are_numbers, d_l_are_entries, d_l_copied, d_l_firsts, d_l_order, d_l_after, d_l_says_dead, d_l_any_order, d_l_low_first, d_l_high_first, d_law]
def fa : List He.Fa := [.glo "pairs_among", .glo "has_twice", .glo "are_below", .glo "clean_holders", .glo "pair_room", .glo "held_pairs", .glo "pool_with", .glo "is_dealing", .glo "pieces_on", .glo "forest", .glo "free_pair", .glo "walk_back", .glo "find_walk", .glo "take_walk", .glo "first_fit", .glo "greatest_dealing", .glo "most_dealt", .glo "is_safe", .glo "others_of", .glo "after_loss", .glo "first_wrong", .glo "after_round", .glo "killing_row", .glo "first_sends", .glo "_law_cell", .glo "_law_draws", .glo "_law_bits", .glo "_law_pairs", .glo "_law_pool", .glo "_law_crowded", .glo "_law_is_dealing", .glo "_law_is_integer", .glo "_law_is_list", .glo "_law_sends", .glo "_law_round", .glo "_law_is_row", .glo "_law_is_pool", .glo "_law_kept", .glo "_law_made", .glo "_law_are_numbers", .glo "_law_are_entries", .glo "_law_copied", .glo "_law_firsts", .glo "_law_order", .glo "_law_after", .glo "_law_says_dead", .glo "_law_any_order", .glo "_law_low_first", .glo "_law_high_first", .glo "law", .glo "Pool", .glo "Game", .free "len", .free "set", .free "tuple", .free "sorted", .free "range", .free "min", .free "max", .free "enumerate", .free "list", .free "isinstance", .free "int", .free "bool", .free "abs", .cls "Pool", .noat "Pool" "caps", .noat "Pool" "holders", .noat "Pool" "seats", .noat "Pool" "pieces", .mkr "Pool", .cls "Game", .noat "Game" "start", .noat "Game" "pool", .noat "Game" "rounds", .noat "Game" "fault", .mkr "Game", .meth "Game" "play", .meth "Game" "dead"]
/-- what isinstance asks of the class Pool, beside -/
def exB (K : PySem.W.Frag) : Bool :=
  He.eqO (PySem.W.findIn K (.ref (He.ga K "Pool")) "__class__") (some (some (.builtin "object.__class__"))) &&
  (He.eqO (PySem.W.specialIn K (.builtin "object.__class__") "__get__") (some (some (.builtin "getset_descriptor.__get__"))) &&
  (decide (PySem.W.takesIn K (.builtin "object.__class__") = some true) &&
  (decide (PySem.W.mroIn K (He.ga K "Pool") (.type "object") = some true) &&
  decide (PySem.W.kitOne K (.ref (He.ga K "Pool")) (.ref (He.ga K "Pool")) = some true))))
structure Top (K : PySem.W.Frag) (mg : Str → Option Value) : Prop where
  c : He.SaysD fa fn K
  h : ∃ h : Heap, K.In h ∧ h.Ns mainGlobals mg
  ex : exB K = true
section
variable {K : PySem.W.Frag} {mg : Str → Option Value}
theorem Top.glo (T : Top K mg) (i : Nat) {x : Str} (h : fa[i]? = some (.glo x) := by rfl) : mg x = some (.ref (He.ga K x)) := by
  obtain ⟨hp, X, G⟩ := T.h
  exact He.glo_ok X G (T.c.fact i h)
theorem Top.free (T : Top K mg) (i : Nat) {x : Str} (h : fa[i]? = some (.free x) := by rfl) : mg x = Option.none := by
  obtain ⟨hp, X, G⟩ := T.h
  exact He.free_ok X G (T.c.fact i h)
theorem Top.fact (T : Top K mg) (i : Nat) {f : He.Fa} (h : fa[i]? = some f := by rfl) : f.ok K = true := T.c.fact i h
theorem Top.m_len (T : Top K mg) : mg "len" = Option.none := T.free 52
theorem Top.m_set (T : Top K mg) : mg "set" = Option.none := T.free 53
theorem Top.m_tuple (T : Top K mg) : mg "tuple" = Option.none := T.free 54
theorem Top.m_sorted (T : Top K mg) : mg "sorted" = Option.none := T.free 55
theorem Top.m_range (T : Top K mg) : mg "range" = Option.none := T.free 56
theorem Top.m_min (T : Top K mg) : mg "min" = Option.none := T.free 57
theorem Top.m_max (T : Top K mg) : mg "max" = Option.none := T.free 58
theorem Top.m_enumerate (T : Top K mg) : mg "enumerate" = Option.none := T.free 59
theorem Top.m_list (T : Top K mg) : mg "list" = Option.none := T.free 60
theorem Top.m_isinstance (T : Top K mg) : mg "isinstance" = Option.none := T.free 61
theorem Top.m_int (T : Top K mg) : mg "int" = Option.none := T.free 62
theorem Top.m_bool (T : Top K mg) : mg "bool" = Option.none := T.free 63
theorem Top.m_abs (T : Top K mg) : mg "abs" = Option.none := T.free 64
theorem Top.pc (T : Top K mg) : PoolC K := ⟨He.cls_ok (T.fact 65), He.noat_ok (T.fact 66), He.noat_ok (T.fact 67), He.noat_ok (T.fact 68), He.noat_ok (T.fact 69)⟩
end
def startD (N : List Str) (ds : List Dat) : List Sl := ds.map Sl.d ++ List.replicate (N.length - ds.length) Sl.no
def lsts (kvs : List ((Int × Int) × List Dat)) : List ((Int × Int) × Dat) := kvs.map fun q => (q.1, .lst q.2)
def endsOf (post : Dat → Prop) : DEnds := ⟨fun _ => post .non, post, fun ds => post (.lst ds), fun kvs => post (.dP (lsts kvs)), fun _ => False, fun _ => False, fun _ _ => False⟩
def endsN (post : List Dat → Prop) : DEnds := ⟨fun _ => False, fun _ => False, post, fun _ => False, fun _ => False, fun _ => False, fun _ _ => False⟩
theorem RpL.at {K : PySem.W.Frag} {H : Hp} : ∀ {vs : List V} {ds : List Dat} {i : Nat} {x : Dat}, RpL K H vs ds → ds[i]? = some x → ∃ v, vs[i]? = some v ∧ Rp K H v x := fun r h => r.get h
theorem stt_start {K : PySem.W.Frag} {N : List Str} {F H : Hp} {vs : List V} {ds : List Dat} (s : Same F H) (r : RpL K F vs ds) : Stt K F H F H (L2.start N vs) (startD N ds) := by
  refine ⟨Ext.refl s, ?_, fun _ _ => False, fun _ _ z => z.elim, fun _ _ _ z => z.elim, fun i t ht => ?_⟩
  · unfold L2.start startD
    rw [List.length_append, List.length_append, List.length_map, List.length_map, List.length_replicate, List.length_replicate, r.length]
  · unfold startD at ht
    by_cases hi : i < ds.length
    · rw [List.getElem?_append_left (by simpa using hi), List.getElem?_map, List.getElem?_eq_getElem hi] at ht
      cases ht
      obtain ⟨v, hv, rv⟩ := r.get (List.getElem?_eq_getElem hi)
      refine ⟨v, ?_, rv⟩
      unfold L2.start
      rw [List.getElem?_append_left (by rw [List.length_map, r.length]; exact hi), List.getElem?_map, hv]
      rfl
    · rw [List.getElem?_append_right (by simpa using hi), List.getElem?_replicate] at ht
      split at ht
      · cases ht
        trivial
      · cases ht
/-- a dict of own lists is frozen -/
theorem rpO_frz {K : PySem.W.Frag} {F H G : Hp} {fp : Addr → Prop} : ∀ {ks : List (List Key × V)} {kvs : List ((Int × Int) × List Dat)} {ls : List Addr}, RpO K F H fp ks kvs ls → Same F G → (∀ l ∈ ls, G l = H l) → RpP K G ks (lsts kvs)
  | _, _, _, .nil, _, _ => .nil
  | _, _, _, .cons h1 h2 h3 r, s, g => .cons (.lst (by rw [g _ List.mem_cons_self]; exact h2) (h3.mono s)) (rpO_frz r s fun l hl => g l (List.mem_cons_of_mem _ hl))
theorem ext_frzM {F0 H0 F H : Hp} (e : Ext F0 H0 F H) {as : List Addr} (hn : ∀ b ∈ as, H0 b = Option.none ∧ F b = Option.none) : ∃ G, Ext F0 H0 G H ∧ Same F G ∧ ∀ b ∈ as, G b = H b := by
  classical
  refine ⟨fun b => if b ∈ as then H b else F b, ⟨fun b o h => ?_, e.h, fun b o h => ?_, fun b h1 h2 => ?_⟩, fun b o h => ?_, fun b hb => if_pos hb⟩
  · by_cases hb : b ∈ as
    · have z := (hn b hb).2
      rw [e.f _ _ h] at z
      cases z
    · show (if b ∈ as then H b else F b) = some o
      rw [if_neg hb]
      exact e.f _ _ h
  · by_cases hb : b ∈ as
    · have h' : (if b ∈ as then H b else F b) = some o := h
      rw [if_pos hb] at h'
      exact h'
    · have h' : (if b ∈ as then H b else F b) = some o := h
      rw [if_neg hb] at h'
      exact e.s _ _ h'
  · by_cases hb : b ∈ as
    · exact (hn b hb).1
    · have h' : (if b ∈ as then H b else F b) ≠ Option.none := h2
      rw [if_neg hb] at h'
      exact e.n b h1 h'
  · by_cases hb : b ∈ as
    · have z := (hn b hb).2
      rw [h] at z
      cases z
    · show (if b ∈ as then H b else F b) = some o
      rw [if_neg hb]
      exact h
section
variable {P : Program} {w : World} {K : PySem.W.Frag} {mg : Str → Option Value} {base : Heap}
abbrev Cal (P : Program) (w : World) (K : PySem.W.Frag) (mg : Str → Option Value) (base : Heap) (k : Nat) (x : Str) (sp : Sp) : Prop := C8.Cal P w K mg base k x sp []
/-- the context of a def's body -/
abbrev cxD (P : Program) (w : World) (K : PySem.W.Frag) (mg : Str → Option Value) (base : Heap) (N : List Str) (d : He.DefD) (cdv : Value) (A : Around) (outer : List Env) (s : Shared) (H : Hp) (E : XK) : Cx := (cxOf C8.CX0 P w K mg base N d.qual d.scope (He.fAd K d.at_) cdv A outer s H E).nox
abbrev arD (K : PySem.W.Frag) (d : He.DefD) (cdv : Value) (A : Around) (s : Shared) : Around := A.deeper (PyProof.Rows.envOfC d.qual d.scope s.heap.objs.size (He.fAd K d.at_) cdv)
theorem ends_ok {F H : Hp} {Q : VK} {post : Dat → Prop} (q : ∀ v F2 H2 d, Ext F H F2 H2 → Rp K F2 v d → post d → Q v H2) : EndsOk K F H F { nx := fun _ H' => Q .non H', rt := Q } (endsOf post) :=
  ⟨fun F' H' σ' δ' S _ h => q .non F' H' .non S.ext .non h, fun v F' H' x e r h => q v F' H' x e r h,
    fun a ys F' H' xs e na hF hH r h => q (.ref a) (upd F' a (.lst ys)) H' (.lst xs) (e.freeze na hF hH) (.lst upd_same (r.mono (upd_same' hF))) h,
    fun a ks ls F' H' kvs e hn nd hH r h => by
      obtain ⟨G, eG, sG, gG⟩ := ext_frzM e hn
      exact q (.ref a) G H' (.dP (lsts kvs)) eG (.dP (by rw [gG a List.mem_cons_self]; exact hH) (rpO_frz r sG fun l hl => gG l (List.mem_cons_of_mem _ hl))) h,
    fun _ _ _ _ _ _ h => h, fun _ _ _ _ _ _ h => h, fun _ _ _ _ _ _ _ _ _ h => h.elim⟩
theorem ends_okN {F H : Hp} {Q : VK} {post : List Dat → Prop} (q : ∀ a ys F2 H2 zs, Ext F H F2 H2 → H a = Option.none → F2 a = Option.none → H2 a = some (.lst ys) → RpL K F2 ys zs → post zs → Q (.ref a) H2) : EndsOk K F H F { nx := fun _ H' => Q .non H', rt := Q } (endsN post) :=
  ⟨fun _ _ _ _ _ _ h => h.elim, fun _ _ _ _ _ _ h => h.elim, fun a ys F' H' xs e na hF hH r h => q a ys F' H' xs e na hF hH r h, fun _ _ _ _ _ _ _ _ _ _ _ h => h.elim, fun _ _ _ _ _ _ h => h.elim, fun _ _ _ _ _ _ h => h.elim, fun _ _ _ _ _ _ _ _ _ h => h.elim⟩
theorem calD (T : Top K mg) (d : He.DefD) (i j : Nat) {N ps : List Str} (S : FnScope N ps d.scope) {k : Nat} {pre : List Dat → (Dat → Prop) → Prop} (len : ∀ ds post, pre ds post → ds.length = ps.length)
    (body : ∀ (cdv : Value) (A : Around) (outer : List Env) (s : Shared) (H : Hp) (E : XK), Room k (arD K d cdv A s) → ∃ dd, XSs (cxD P w K mg base N d cdv A outer s H E) d.body dd ∧ ∀ ds post, pre ds post → dd (endsOf post) (startD N ds))
    (hb : ∀ (kV doc pm : Value) (an : Option Addr) (cdv ct : Value) (us : List Value), us.length = ps.length → bindArgs (PySem.W.fnOf d.name d.qual d.params d.body d.scope .none kV doc pm an cdv ct) ⟨us, []⟩ = pure (ps.zip us))
    (hd : fn[i]? = some d := by rfl) (hg : fa[j]? = some (.glo d.name) := by rfl) (ha : d.at_ = (d.name, Option.none) := by rfl) (hdf : d.dfl = [] := by rfl) (hkw : d.kwd = [] := by rfl) : Cal P w K mg base (k + 1) d.name (spD K pre) := by
  obtain ⟨fd, F⟩ := T.c.def_ i hd
  have e1 : d.dvs K = [] := by
    unfold He.DefD.dvs
    rw [hdf] <;> rfl
  have e2 : d.kws K = [] := by
    unfold He.DefD.kws
    rw [hkw] <;> rfl
  rw [e1, e2] at F
  have b : Binds K fd ps [] := FunD.bindsN F hb
  have hm : mg d.name = some (.ref (He.fAd K d.at_)) := by
    rw [ha]
    exact T.glo j hg
  refine ⟨He.fAd K d.at_, fd, ps, [], F.ok S (fun vs H Q E h => ?_) (fun cdv A outer s H vs Q E hr h => ?_), hm, F.kp, b, .nil⟩
  · obtain ⟨G, ds, post, s, r, p, _⟩ := h
    exact r.length.trans (len ds post p)
  · obtain ⟨dd, hx, hw⟩ := body cdv A outer s H E hr
    obtain ⟨G, ds, post, sG, r, p, q⟩ := h
    exact ⟨_, PSs.nox hx, snd_tDS dd G H G H _ _ _ _ (stt_start sG r) (hw ds post p) (ends_ok q)⟩
/-- .. with one keyword-only parameter that stands by None -/
theorem calD1 (T : Top K mg) (d : He.DefD) (i j : Nat) (y : Str) {N ps : List Str} (S : FnScope N ps d.scope) {k : Nat} {pre : List Dat → (Dat → Prop) → Prop} (len : ∀ ds post, pre ds post → ds.length = ps.length)
    (body : ∀ (cdv : Value) (A : Around) (outer : List Env) (s : Shared) (H : Hp) (E : XK), Room k (arD K d cdv A s) → ∃ dd, XSs (cxD P w K mg base N d cdv A outer s H E) d.body dd ∧ ∀ ds post, pre ds post → dd (endsOf post) (startD N ds))
    (hb : ∀ {fd : FuncData}, FunD K d.name d.qual d.params d.body d.scope [] [(y, V.non)] (He.fAd K d.at_) fd → ∃ vs, Binds K fd ps vs ∧ Vals [.non] vs)
    (hd : fn[i]? = some d := by rfl) (hg : fa[j]? = some (.glo d.name) := by rfl) (ha : d.at_ = (d.name, Option.none) := by rfl) (hdf : d.dfl = [] := by rfl) (hkw : d.kwd = [(y, .non)] := by rfl) : C8.Cal P w K mg base (k + 1) d.name (spD K pre) [.non] := by
  obtain ⟨fd, F⟩ := T.c.def_ i hd
  have e1 : d.dvs K = [] := by
    unfold He.DefD.dvs
    rw [hdf] <;> rfl
  have e2 : d.kws K = [(y, .non)] := by
    unfold He.DefD.kws
    rw [hkw] <;> rfl
  rw [e1, e2] at F
  obtain ⟨vs, b, rv⟩ := hb F
  have hm : mg d.name = some (.ref (He.fAd K d.at_)) := by
    rw [ha]
    exact T.glo j hg
  refine ⟨He.fAd K d.at_, fd, ps, vs, F.ok S (fun vs H Q E h => ?_) (fun cdv A outer s H vs Q E hr h => ?_), hm, F.kp, b, rv⟩
  · obtain ⟨G, ds, post, s, r, p, _⟩ := h
    exact r.length.trans (len ds post p)
  · obtain ⟨dd, hx, hw⟩ := body cdv A outer s H E hr
    obtain ⟨G, ds, post, sG, r, p, q⟩ := h
    exact ⟨_, PSs.nox hx, snd_tDS dd G H G H _ _ _ _ (stt_start sG r) (hw ds post p) (ends_ok q)⟩
/-- .. that hands back a new list -/
theorem calDN (T : Top K mg) (d : He.DefD) (i j : Nat) {N ps : List Str} (S : FnScope N ps d.scope) {k : Nat} {pre : List Dat → (List Dat → Prop) → Prop} (len : ∀ ds post, pre ds post → ds.length = ps.length)
    (body : ∀ (cdv : Value) (A : Around) (outer : List Env) (s : Shared) (H : Hp) (E : XK), Room k (arD K d cdv A s) → ∃ dd, XSs (cxD P w K mg base N d cdv A outer s H E) d.body dd ∧ ∀ ds post, pre ds post → dd (endsN post) (startD N ds))
    (hb : ∀ (kV doc pm : Value) (an : Option Addr) (cdv ct : Value) (us : List Value), us.length = ps.length → bindArgs (PySem.W.fnOf d.name d.qual d.params d.body d.scope .none kV doc pm an cdv ct) ⟨us, []⟩ = pure (ps.zip us))
    (hd : fn[i]? = some d := by rfl) (hg : fa[j]? = some (.glo d.name) := by rfl) (ha : d.at_ = (d.name, Option.none) := by rfl) (hdf : d.dfl = [] := by rfl) (hkw : d.kwd = [] := by rfl) : Cal P w K mg base (k + 1) d.name (spDN K pre) := by
  obtain ⟨fd, F⟩ := T.c.def_ i hd
  have e1 : d.dvs K = [] := by
    unfold He.DefD.dvs
    rw [hdf] <;> rfl
  have e2 : d.kws K = [] := by
    unfold He.DefD.kws
    rw [hkw] <;> rfl
  rw [e1, e2] at F
  have b : Binds K fd ps [] := FunD.bindsN F hb
  have hm : mg d.name = some (.ref (He.fAd K d.at_)) := by
    rw [ha]
    exact T.glo j hg
  refine ⟨He.fAd K d.at_, fd, ps, [], F.ok S (fun vs H Q E h => ?_) (fun cdv A outer s H vs Q E hr h => ?_), hm, F.kp, b, .nil⟩
  · obtain ⟨G, ds, post, s, r, p, _⟩ := h
    exact r.length.trans (len ds post p)
  · obtain ⟨dd, hx, hw⟩ := body cdv A outer s H E hr
    obtain ⟨G, ds, post, sG, r, p, q⟩ := h
    exact ⟨_, PSs.nox hx, snd_tDS dd G H G H _ _ _ _ (stt_start sG r) (hw ds post p) (ends_okN q)⟩
end
end Pw
set_option Elab.async false
set_option linter.all false
set_option maxRecDepth 100000
set_option maxHeartbeats 400000
/-! Own lists and dicts; rules that the hand layer lacks. -/
namespace Pw
open PySem PySem.Spec L2
/-! ### tables by pairs -/
section
variable {α : Type}
def lookP (kvs : List ((Int × Int) × α)) (p : Int × Int) : Option α := (kvs.find? fun q => decide (q.1 = p)).map (·.2)
def putP (kvs : List ((Int × Int) × α)) (p : Int × Int) (v : α) : List ((Int × Int) × α) := if (kvs.any fun q => decide (q.1 = p)) = true then kvs.map (fun q => if q.1 = p then (q.1, v) else q) else kvs ++ [(p, v)]
def lookI (kvs : List (Int × α)) (p : Int) : Option α := (kvs.find? fun q => decide (q.1 = p)).map (·.2)
def putI (kvs : List (Int × α)) (p : Int) (v : α) : List (Int × α) := if (kvs.any fun q => decide (q.1 = p)) = true then kvs.map (fun q => if q.1 = p then (q.1, v) else q) else kvs ++ [(p, v)]
end
theorem kP_inj {p q : Int × Int} (h : kP p = kP q) : p = q := by
  obtain ⟨a, b⟩ := p
  obtain ⟨c, d⟩ := q
  simp only [kP, List.cons.injEq, Sum.inl.injEq, and_true] at h
  rw [h.1, h.2]
theorem kP_eq (p q : Int × Int) : decide (kP p = kP q) = decide (p = q) := by
  by_cases h : p = q
  · subst h
    simp
  · rw [decide_eq_false h, decide_eq_false fun z => h (kP_inj z)]
theorem inl_eq (p q : Int) : decide ((Sum.inl p : Key) = Sum.inl q) = decide (p = q) := by
  by_cases h : p = q
  · subst h
    simp
  · rw [decide_eq_false h, decide_eq_false fun z => h (Sum.inl.inj z)]
section
variable {K : PySem.W.Frag} {H : Hp}
theorem RpP.look (p : Int × Int) : ∀ {ks : List (List Key × V)} {kvs : List ((Int × Int) × Dat)}, RpP K H ks kvs → (∀ d, lookP kvs p = some d → ∃ v, valV ks (kP p) = some v ∧ Rp K H v d) ∧ (lookP kvs p = Option.none → valV ks (kP p) = Option.none)
  | _, _, .nil => ⟨fun d h => (nomatch h), fun _ => rfl⟩
  | _, _, .cons (p := q) (v := v) (d := d) h r => by
    have ih := RpP.look p r
    unfold lookP valV at ih ⊢
    by_cases e : q = p
    · subst e
      simp only [List.find?_cons, decide_true, Option.map_some]
      refine ⟨fun d' hd => ?_, fun hd => nomatch hd⟩
      cases hd
      exact ⟨v, rfl, h⟩
    · have e2 : decide (q = p) = false := decide_eq_false e
      have e3 : decide (kP q = kP p) = false := by rw [kP_eq]; exact e2
      simp only [List.find?_cons, e2, e3]
      exact ih
theorem RpI.look (p : Int) : ∀ {ks : List (Key × V)} {kvs : List (Int × Dat)}, RpI K H ks kvs → (∀ d, lookI kvs p = some d → ∃ v, valV ks (Sum.inl p) = some v ∧ Rp K H v d) ∧ (lookI kvs p = Option.none → valV ks (Sum.inl p) = Option.none)
  | _, _, .nil => ⟨fun d h => (nomatch h), fun _ => rfl⟩
  | _, _, .cons (i := q) (v := v) (d := d) h r => by
    have ih := RpI.look p r
    unfold lookI valV at ih ⊢
    by_cases e : q = p
    · subst e
      simp only [List.find?_cons, decide_true, Option.map_some]
      refine ⟨fun d' hd => ?_, fun hd => nomatch hd⟩
      cases hd
      exact ⟨v, rfl, h⟩
    · have e2 : decide (q = p) = false := decide_eq_false e
      have e3 : decide ((Sum.inl q : Key) = Sum.inl p) = false := by rw [inl_eq]; exact e2
      simp only [List.find?_cons, e2, e3]
      exact ih
theorem RpP.any (p : Int × Int) : ∀ {ks : List (List Key × V)} {kvs : List ((Int × Int) × Dat)}, RpP K H ks kvs → (ks.any fun q => decide (q.1 = kP p)) = kvs.any fun q => decide (q.1 = p)
  | _, _, .nil => rfl
  | _, _, .cons (p := q) h r => by rw [List.any_cons, List.any_cons, RpP.any p r, kP_eq]
theorem RpI.any (p : Int) : ∀ {ks : List (Key × V)} {kvs : List (Int × Dat)}, RpI K H ks kvs → (ks.any fun q => decide (q.1 = Sum.inl p)) = kvs.any fun q => decide (q.1 = p)
  | _, _, .nil => rfl
  | _, _, .cons (i := q) h r => by rw [List.any_cons, List.any_cons, RpI.any p r, inl_eq]
theorem RpP.snoc {p : Int × Int} {v : V} {d : Dat} (h : Rp K H v d) : ∀ {ks : List (List Key × V)} {kvs : List ((Int × Int) × Dat)}, RpP K H ks kvs → RpP K H (ks ++ [(kP p, v)]) (kvs ++ [(p, d)])
  | _, _, .nil => .cons h .nil
  | _, _, .cons q r => .cons q (RpP.snoc h r)
theorem RpI.snoc {p : Int} {v : V} {d : Dat} (h : Rp K H v d) : ∀ {ks : List (Key × V)} {kvs : List (Int × Dat)}, RpI K H ks kvs → RpI K H (ks ++ [(Sum.inl p, v)]) (kvs ++ [(p, d)])
  | _, _, .nil => .cons h .nil
  | _, _, .cons q r => .cons q (RpI.snoc h r)
theorem RpP.repl {p : Int × Int} {v : V} {d : Dat} (h : Rp K H v d) : ∀ {ks : List (List Key × V)} {kvs : List ((Int × Int) × Dat)}, RpP K H ks kvs → RpP K H (ks.map fun q => if q.1 = kP p then (q.1, v) else q) (kvs.map fun q => if q.1 = p then (q.1, d) else q)
  | _, _, .nil => .nil
  | _, _, .cons (p := q) g r => by
    rw [List.map_cons, List.map_cons]
    by_cases e : q = p
    · subst e
      rw [if_pos rfl, if_pos rfl]
      exact .cons h (RpP.repl h r)
    · rw [if_neg (show ¬ kP q = kP p from fun z => e (kP_inj z)), if_neg e]
      exact .cons g (RpP.repl h r)
theorem RpI.repl {p : Int} {v : V} {d : Dat} (h : Rp K H v d) : ∀ {ks : List (Key × V)} {kvs : List (Int × Dat)}, RpI K H ks kvs → RpI K H (ks.map fun q => if q.1 = Sum.inl p then (q.1, v) else q) (kvs.map fun q => if q.1 = p then (q.1, d) else q)
  | _, _, .nil => .nil
  | _, _, .cons (i := q) g r => by
    rw [List.map_cons, List.map_cons]
    by_cases e : q = p
    · subst e
      rw [if_pos rfl, if_pos rfl]
      exact .cons h (RpI.repl h r)
    · rw [if_neg (show ¬ (Sum.inl q : Key) = Sum.inl p from fun z => e (Sum.inl.inj z)), if_neg e]
      exact .cons g (RpI.repl h r)
theorem RpP.put {p : Int × Int} {v : V} {d : Dat} {ks : List (List Key × V)} {kvs : List ((Int × Int) × Dat)} (r : RpP K H ks kvs) (h : Rp K H v d) : RpP K H (putK ks (kP p) v) (putP kvs p d) := by
  unfold putK putP
  rw [r.any]
  by_cases e : (kvs.any fun q => decide (q.1 = p)) = true
  · rw [if_pos e, if_pos e]
    exact r.repl h
  · rw [if_neg e, if_neg e]
    exact r.snoc h
theorem RpI.put {p : Int} {v : V} {d : Dat} {ks : List (Key × V)} {kvs : List (Int × Dat)} (r : RpI K H ks kvs) (h : Rp K H v d) : RpI K H (putK ks (Sum.inl p) v) (putI kvs p d) := by
  unfold putK putI
  rw [r.any]
  by_cases e : (kvs.any fun q => decide (q.1 = p)) = true
  · rw [if_pos e, if_pos e]
    exact r.repl h
  · rw [if_neg e, if_neg e]
    exact r.snoc h
theorem RpI.nokey (p : Int) : ∀ {ks : List (Key × V)} {kvs : List (Int × Dat)}, RpI K H ks kvs → lookI kvs p = Option.none → valV ks (Sum.inl p) = Option.none := fun r h => (r.look p).2 h
/-- a pair at its address is the key -/
theorem key_at {v : V} {a b : Int} {F : Hp} (s : Same F H) (r : Rp K F v (tI [a, b])) : ∃ t, v = .ref t ∧ H t = some (.tup ((kP (a, b)).map kV)) := by
  obtain ⟨t, xs, rfl, h, rr⟩ := r.of_tup
  have e := RpL.ints (ns := [a, b]) rr
  subst e
  exact ⟨t, rfl, s _ _ h⟩
end
/-! ### own lists -/
section
variable {X : Cx} {pos p apos cpos npos : Pos} {e eb : Expr} {x : Str}
def dIxO (i : Nat) (d : DE) : DE := fun δ P => ∃ ds, δ[i]? = some (.ol ds) ∧ d δ fun y => ∃ j z, y = .int j ∧ atI ds j = some z ∧ P z
theorem xe_ixO (i : Nat) {d : DE} (hb : XE X eb d) (hN : X.N[i]? = some x := by rfl) (hv : Vis X.env.scope x := by first | exact Or.inl rfl | exact Or.inr (Or.inl rfl) | exact Or.inr (Or.inr rfl)) (hd : (x == ("__debug__" : Str)) = false := by decide) (hcd : (x == ("__classdict__" : Str)) = false := by decide)
    (hm : PlainIx eb := by intro _ _; rfl) : XE X (.Subscript (.Name x npos) eb pos) (dIxO i d) := xe_of (pe_ix ix_list (pv i hN hv hd hcd) hb hm) fun F0 H0 F H σ δ P S ⟨ds, hds, hd⟩ Q q => by
  obtain ⟨a, xs, h1, h2, h3, h4, h5⟩ := S.getL hds
  refine ⟨.ref a, h1, snd_tD d F0 H0 F H σ δ _ S hd _ fun u F1 H1 y e1 ry ⟨j, z, ey, hj, pz⟩ => ?_⟩
  subst ey
  obtain ⟨w, hw, rw'⟩ := atI_rp h5 hj
  exact ⟨a, xs, j, w, rfl, ry.of_int, SqL.of (e1.h _ _ h4), hw, q w F1 H1 z e1 (rw'.mono e1.f) pz⟩
def dLenO (i : Nat) : DE := fun δ P => ∃ ds, δ[i]? = some (.ol ds) ∧ P (.int (ds.length : Int))
theorem xe_lenO (i : Nat) (hm : X.mg "len" = Option.none) (hN : X.N[i]? = some x := by rfl) (hv : Vis X.env.scope x := by first | exact Or.inl rfl | exact Or.inr (Or.inl rfl) | exact Or.inr (Or.inr rfl)) (hd : (x == ("__debug__" : Str)) = false := by decide) (hcd : (x == ("__classdict__" : Str)) = false := by decide)
    (hg : Gl X "len" := by rfl) (hst : starEach [.Name x npos] X.env = (false, eval (.Name x npos) X.env) :: starEach [] X.env := by rfl) (hpl : (backTo pos (starEach [] X.env)).any (·.1) = false := by rfl) (hs : starEach [.Name x npos] X.env = (false, eval (.Name x npos) X.env) :: starEach [] X.env := by rfl) : XE X (.Call (.Name "len" p) [.Name x npos] [] pos) (dLenO i) :=
  xe_of (pe_callB call_len_seq hg hm (by decide +kernel) (pa_cons (pv i hN hv hd hcd) pa_nil hs) (by decide) (by decide) hst hpl) fun F0 H0 F H σ δ P S ⟨ds, hds, hp⟩ Q q => by
  obtain ⟨a, xs, h1, h2, h3, h4, h5⟩ := S.getL hds
  refine ⟨.ref a, h1, a, xs, rfl, Or.inl (SqL.of h4), ?_⟩
  rw [h5.length]
  exact q _ F H _ (Ext.refl S.ext.s) (.int _) hp
def isSc : Dat → Prop
  | .int _ => True
  | .bl _ => True
  | .non => True
  | _ => False
/-- an own list read through as if it were frozen, for a number or a truth value -/
def dThaw (i : Nat) (d : DE) : DE := fun δ P => ∃ ds, δ[i]? = some (.ol ds) ∧ d (δ.set i (.d (.lst ds))) fun z => isSc z ∧ P z
theorem xe_thaw (i : Nat) {d : DE} (h : XE X e d) : XE X e (dThaw i d) := xe_of h fun F0 H0 F H σ δ P S ⟨ds, hds, hd⟩ Q q => by
  obtain ⟨fp, g1, g2, g3⟩ := S.own
  obtain ⟨a, xs, ea, fa, h4, h5⟩ := g3 i _ hds
  obtain ⟨n0, nF, nH⟩ := g1 i a fa
  -- the frozen state
  have S' : Stt X.K F0 H0 (upd F a (.lst xs)) H σ (δ.set i (.d (.lst ds))) := by
    refine ⟨S.ext.freeze n0 nF h4, by rw [List.length_set]; exact S.len, fun j b => j ≠ i ∧ fp j b, fun j b z => ⟨(g1 j b z.2).1, ?_, (g1 j b z.2).2.2⟩, fun j k b z w => g2 j k b z.2 w.2, fun j u hu => ?_⟩
    · rw [upd_ne fun w => z.1 (g2 j i b z.2 (by rw [w]; exact fa))]
      exact (g1 j b z.2).2.1
    · by_cases hj : j = i
      · subst hj
        rw [List.getElem?_set_self (List.getElem?_eq_some_iff.mp hds).1] at hu
        cases hu
        exact ⟨.ref a, ea, .lst upd_same (h5.mono (upd_same' nF))⟩
      · rw [List.getElem?_set_ne (Ne.symm hj)] at hu
        have ee : (fun b => j ≠ i ∧ fp j b) = fp j := funext fun b => propext ⟨fun z => z.2, fun z => ⟨hj, z⟩⟩
        show SlR X.K H0 (upd F a (.lst xs)) H σ[j]? (fun b => j ≠ i ∧ fp j b) u
        rw [ee]
        exact (g3 j u hu).mono (upd_same' nF) fun _ _ => rfl
  refine snd_tD d F0 H0 _ H σ _ _ S' hd Q fun v F2 H2 z e2 rz ⟨hz, pz⟩ => ?_
  refine q v (fun b => if b = a then Option.none else F2 b) H2 z ⟨fun b o hb => ?_, e2.h, fun b o hb => ?_, fun b hb1 hb2 => ?_⟩ ?_ pz
  · have nb : b ≠ a := fun w => by
      rw [w, nF] at hb
      cases hb
    show (if b = a then Option.none else F2 b) = some o
    rw [if_neg nb]
    exact e2.f _ _ (by rw [upd_ne nb]; exact hb)
  · by_cases nb : b = a
    · have hb' : (if b = a then Option.none else F2 b) = some o := hb
      rw [if_pos nb] at hb'
      cases hb'
    · have hb' : (if b = a then Option.none else F2 b) = some o := hb
      rw [if_neg nb] at hb'
      exact e2.s _ _ hb'
  · by_cases nb : b = a
    · exact absurd (show (if b = a then Option.none else F2 b) = Option.none from if_pos nb) hb2
    · have hb' : (if b = a then Option.none else F2 b) ≠ Option.none := hb2
      rw [if_neg nb] at hb'
      exact e2.n b (by rw [upd_ne nb]; exact hb1) hb'
  · cases z with
    | int i =>
      rw [rz.of_int]
      exact .int i
    | bl i =>
      rw [rz.of_bl]
      exact .bl i
    | non =>
      rw [rz.of_non]
      exact .non
    | lst _ => exact hz.elim
    | tup _ => exact hz.elim
    | pool _ _ => exact hz.elim
    | dI _ => exact hz.elim
    | dP _ => exact hz.elim
    | scr _ => exact hz.elim
    | ins _ _ => exact hz.elim
/-- own[j] = e -/
def dSetO (i : Nat) (di dv : DE) : DS := fun D δ => dv δ fun z => ∃ ds, δ[i]? = some (.ol ds) ∧ di δ fun y => ∃ j k, y = .int j ∧ ixN ds.length j = some k ∧ D.nx (δ.set i (.ol (ds.set k z)))
theorem stt_setL {K : PySem.W.Frag} {F0 H0 F H : Hp} {σ : L2.St} {δ : List Sl} {i : Nat} {ds es : List Dat} {a : Addr} {xs ys : List V} (S : Stt K F0 H0 F H σ δ) (h : δ[i]? = some (.ol ds)) (ha : σ[i]? = some (some (.ref a))) (r : RpL K F ys es) : Stt K F0 H0 F (upd H a (.lst ys)) σ (δ.set i (.ol es)) :=
  S.mut (s := .ol ds) (t := .ol es) h fun fp hf => by
    obtain ⟨a', xs', q1, q2, q3, q4⟩ := hf
    have ea : a' = a := by
      rw [ha] at q1
      cases q1
      rfl
    subst ea
    exact ⟨q2, a', ys, ha, q2, upd_same, r⟩
theorem xs_setO (i : Nat) {di dv : DE} {ev : Expr} {tpos : Pos} (hi : XE X eb di) (hv : XE X ev dv) (hN : X.N[i]? = some x := by rfl) (hvi : Vis X.env.scope x := by first | exact Or.inl rfl | exact Or.inr (Or.inl rfl) | exact Or.inr (Or.inr rfl)) (hd : (x == ("__debug__" : Str)) = false := by decide) (hcd : (x == ("__classdict__" : Str)) = false := by decide)
    (hp : ∀ {te to ti : TE}, PE X ev te → PE X (.Name x npos) to → PE X eb ti → PS X (.Assign [.Subscript (.Name x npos) eb tpos] ev pos) (tAsg te (gSub to ti rSetL)) := by exact fun a b c => ps_asg a (pg_sub b c set_list)) : XS X (.Assign [.Subscript (.Name x npos) eb tpos] ev pos) (dSetO i di dv) :=
  xs_of (hp hv (pv i hN hvi hd hcd) hi) fun F0 H0 F H σ δ D DD S hdd en => by
  refine snd_tD dv F0 H0 F H σ δ _ S hdd _ fun v F1 H1 z e1 rz ⟨ds, hds, h1⟩ => ?_
  have S1 := S.grow e1
  obtain ⟨a, xs, g1, g2, g3, g4, g5⟩ := S1.getL hds
  refine ⟨.ref a, g1, snd_tD di F0 H0 F1 H1 σ δ _ S1 h1 _ fun u F2 H2 y e2 ry ⟨j, k, ey, hk, hn⟩ => ?_⟩
  subst ey
  have S2 := S1.grow e2
  refine ⟨a, xs, j, k, rfl, ry.of_int, e2.h _ _ g4, by rw [g5.length]; exact hk, ?_⟩
  exact en.nx F2 _ σ _ (stt_setL (xs := xs) S2 hds g1 ((g5.mono e2.f).set k (rz.mono e2.f))) (e1.f.trans e2.f) hn
def rIxN (K : PySem.W.Frag) : V → V → Hp → VK → Prop := fun x y H Q => ∃ p xs i v, x = .ref p ∧ y = .int i ∧ SqL K H p xs ∧ 0 ≤ i ∧ i < 1000000 ∧ xs[i.toNat]? = some v ∧ Q v H
theorem pget_list : PGet X (rIxN X.K) := fun pins s σ H o i ov iv Q I ro ri h => by
  obtain ⟨p, xs, i', v, e1, e2, hs, h0, h1, ha, q⟩ := h
  subst e1 e2
  cases ro
  obtain ⟨t, rfl⟩ := ri
  obtain ⟨its, r, pl, hz⟩ := I.list hs
  obtain ⟨w, ew, rw'⟩ := r.get ha
  exact wpAny_getItem_list pl.isList h0 (by omega) (by simpa using ew) ⟨v, H, I, rw', q⟩
def dAugO (i : Nat) (di dv : DE) : DS := fun D δ => ∃ ds, δ[i]? = some (.ol ds) ∧ di δ fun y => ∃ (k : Nat) (n : Int), y = .int (k : Int) ∧ k < 1000000 ∧ ds[k]? = some (.int n) ∧ dv δ fun z => ∃ m, z = .int m ∧ D.nx (δ.set i (.ol (ds.set k (.int (n + m)))))
theorem xs_augO (i : Nat) {di dv : DE} {ev : Expr} {tpos : Pos} (hi : XE X eb di) (hv : XE X ev dv) (hN : X.N[i]? = some x := by rfl) (hvi : Vis X.env.scope x := by first | exact Or.inl rfl | exact Or.inr (Or.inl rfl) | exact Or.inr (Or.inr rfl)) (hd : (x == ("__debug__" : Str)) = false := by decide) (hcd : (x == ("__classdict__" : Str)) = false := by decide)
    (ha : ∀ ov iv new, augStore eb ov iv new = (do holding [new, ov, iv] (setItem ov iv new); release [new, ov, iv] []; pure .next) := by intros; rfl) : XS X (.AugAssign (.Subscript (.Name x npos) eb tpos) .Add ev pos) (dAugO i di dv) :=
  xs_of (ps_augS (pv i hN hvi hd hcd) hi pget_list hv ip_add set_list ha) fun F0 H0 F H σ δ D DD S ⟨ds, hds, hdd⟩ en => by
  obtain ⟨a, xs, g1, g2, g3, g4, g5⟩ := S.getL hds
  refine ⟨.ref a, g1, snd_tD di F0 H0 F H σ δ _ S hdd _ fun u F1 H1 y e1 ry ⟨k, n, ey, hk, hn, h1⟩ => ?_⟩
  subst ey
  obtain ⟨w, hw, rw'⟩ := g5.get hn
  refine ⟨a, xs, (k : Int), w, rfl, ry.of_int, SqL.of (e1.h _ _ g4), by omega, by omega, by rw [Int.toNat_natCast]; exact hw, ?_⟩
  have S1 := S.grow e1
  refine snd_tD dv F0 H0 F1 H1 σ δ _ S1 h1 _ fun u2 F2 H2 z e2 rz ⟨m, ez, hx⟩ => ?_
  subst ez
  refine ⟨n, m, rw'.of_int, rz.of_int, ?_⟩
  have S2 := S1.grow e2
  refine ⟨a, xs, (k : Int), k, rfl, ry.of_int, e2.h _ _ (e1.h _ _ g4), ?_, ?_⟩
  · have hl : k < xs.length := by
      rw [g5.length]
      exact (List.getElem?_eq_some_iff.mp hn).1
    unfold ixN
    rw [if_pos (by omega), if_pos (by omega), Int.toNat_natCast]
  · exact en.nx F2 _ σ _ (stt_setL (xs := xs) S2 hds g1 (((g5.mono e1.f).mono e2.f).set k (.int _))) (e1.f.trans e2.f) hx
def dAug (i : Nat) (dv : DE) : DS := fun D δ => ∃ n, δ[i]? = some (.d (.int n)) ∧ dv δ fun z => ∃ m, z = .int m ∧ D.nx (δ.set i (.d (.int (n + m))))
theorem xs_aug {i : Nat} {dv : DE} {ev : Expr} (hN : X.N.Nodup) (hv : XE X ev dv) (hi : X.N[i]? = some x := by rfl) (hx : Loc X.env.scope x := by first | exact Or.inl rfl | exact Or.inr rfl) (hf : X.fn x = true ∨ X.env.scope.names.lookup x = some .local := by first | exact .inl rfl | exact .inr rfl) : XS X (.AugAssign (.Name x npos) .Add ev pos) (dAug i dv) :=
  xs_of (ps_aug hN hi hx hv ip_add hf) fun F0 H0 F H σ δ D DD S ⟨n, hn, hdd⟩ en => by
  obtain ⟨v, hv, rv⟩ := S.get hn
  refine ⟨v, hv, snd_tD dv F0 H0 F H σ δ _ S hdd _ fun u F1 H1 z e1 rz ⟨m, ez, hx⟩ => ?_⟩
  subst ez
  exact ⟨n, m, rv.of_int, rz.of_int, en.nx F1 H1 _ _ ((S.grow e1).set (.int _)) e1.f hx⟩
/-! ### dicts with int keys -/
/-- k in own, k not in own -/
def dInI (i : Nat) (neg : Bool) (d : DE) : DE := fun δ P => d δ fun y => ∃ kvs n, δ[i]? = some (.oI kvs) ∧ y = .int n ∧ P (.bl (if neg then !(lookI kvs n).isSome else (lookI kvs n).isSome))
theorem Stt.getI {K : PySem.W.Frag} {F0 H0 F H : Hp} {σ : L2.St} {δ : List Sl} {i : Nat} {kvs : List (Int × Dat)} (S : Stt K F0 H0 F H σ δ) (h : δ[i]? = some (.oI kvs)) : ∃ a ks, σ[i]? = some (some (.ref a)) ∧ H0 a = Option.none ∧ F a = Option.none ∧ H a = some (.dK ks) ∧ RpI K F ks kvs := by
  obtain ⟨fp, h1, h2, h3⟩ := S.own
  obtain ⟨a, xs, e, q, ha, r⟩ := h3 i _ h
  exact ⟨a, xs, e, (h1 i a q).1, (h1 i a q).2.1, ha, r⟩
theorem xe_notInI (i : Nat) {d : DE} (hu : X.A.units + 1 < cLine) (h : XE X e d) (hN : X.N[i]? = some x := by rfl) (hv : Vis X.env.scope x := by first | exact Or.inl rfl | exact Or.inr (Or.inl rfl) | exact Or.inr (Or.inr rfl)) (hd : (x == ("__debug__" : Str)) = false := by decide) (hcd : (x == ("__classdict__" : Str)) = false := by decide)
    (hm : behindInMarks .NotIn (.Name x npos) = false := by rfl) : XE X (.Compare e [.NotIn] [.Name x npos] pos) (dInI i true d) := xe_of (pe_cmp (pc_dnotin hu h (pv i hN hv hd hcd)) hm) fun F0 H0 F H σ δ P S hdd Q q => by
  refine snd_tD d F0 H0 F H σ δ _ S hdd _ fun v F1 H1 y e1 ry ⟨kvs, n, hk, ey, hp⟩ => ?_
  subst ey
  obtain ⟨a, ks, g1, g2, g3, g4, g5⟩ := (S.grow e1).getI hk
  have ev := ry.of_int
  subst ev
  refine ⟨.ref a, g1, a, _, rfl, DGet.k (k := Sum.inl n) g4, ?_⟩
  have z : (valV ks (Sum.inl n)).isSome = (lookI kvs n).isSome := by
    cases w : lookI kvs n with
    | none => rw [(g5.look n).2 w]; rfl
    | some d' =>
      obtain ⟨v', hv', _⟩ := (g5.look n).1 d' w
      rw [hv']
      rfl
  rw [z]
  exact q _ F1 H1 _ e1 (.bl _) hp
theorem xt_notInI (i : Nat) {d : DE} (hu : X.A.units + 1 < cLine) (h : XE X e d) (hN : X.N[i]? = some x := by rfl) (hv : Vis X.env.scope x := by first | exact Or.inl rfl | exact Or.inr (Or.inl rfl) | exact Or.inr (Or.inr rfl)) (hd : (x == ("__debug__" : Str)) = false := by decide) (hcd : (x == ("__classdict__" : Str)) = false := by decide)
    (hm : behindInMarks .NotIn (.Name x npos) = false := by rfl) : XT X (.Compare e [.NotIn] [.Name x npos] pos) (dTest (dInI i true d)) := xt_of (pt_cmp (pc_dnotin hu h (pv i hN hv hd hcd)) hm) fun F0 H0 F H σ δ P S hdd Q q => by
  refine snd_tD d F0 H0 F H σ δ _ S hdd _ fun v F1 H1 y e1 ry ⟨kvs, n, hk, ey, b, eb, hp⟩ => ?_
  subst ey
  obtain ⟨a, ks, g1, g2, g3, g4, g5⟩ := (S.grow e1).getI hk
  have ev := ry.of_int
  subst ev
  refine ⟨.ref a, g1, a, _, rfl, DGet.k (k := Sum.inl n) g4, ?_⟩
  have z : (valV ks (Sum.inl n)).isSome = (lookI kvs n).isSome := by
    cases w : lookI kvs n with
    | none => rw [(g5.look n).2 w]; rfl
    | some d' =>
      obtain ⟨v', hv', _⟩ := (g5.look n).1 d' w
      rw [hv']
      rfl
  rw [z]
  injection eb with eb
  subst eb
  exact ⟨_, rfl, q _ F1 H1 e1 hp⟩
theorem stt_setI {K : PySem.W.Frag} {F0 H0 F H : Hp} {σ : L2.St} {δ : List Sl} {i : Nat} {ds es : List (Int × Dat)} {a : Addr} {ys : List (Key × V)} (S : Stt K F0 H0 F H σ δ) (h : δ[i]? = some (.oI ds)) (ha : σ[i]? = some (some (.ref a))) (r : RpI K F ys es) : Stt K F0 H0 F (upd H a (.dK ys)) σ (δ.set i (.oI es)) :=
  S.mut (s := .oI ds) (t := .oI es) h fun fp hf => by
    obtain ⟨a', xs', q1, q2, q3, q4⟩ := hf
    have ea : a' = a := by
      rw [ha] at q1
      cases q1
      rfl
    subst ea
    exact ⟨q2, a', ys, ha, q2, upd_same, r⟩
/-- own[k] = v -/
def dPutI (i : Nat) (di dv : DE) : DS := fun D δ => dv δ fun z => ∃ kvs, δ[i]? = some (.oI kvs) ∧ kvs.length < 100000 ∧ di δ fun y => ∃ n, y = .int n ∧ D.nx (δ.set i (.oI (putI kvs n z)))
theorem xs_putI (i : Nat) {di dv : DE} {ev : Expr} {tpos : Pos} (hu : X.A.units + 1 < cLine) (hi : XE X eb di) (hv : XE X ev dv) (hN : X.N[i]? = some x := by rfl) (hvi : Vis X.env.scope x := by first | exact Or.inl rfl | exact Or.inr (Or.inl rfl) | exact Or.inr (Or.inr rfl)) (hd : (x == ("__debug__" : Str)) = false := by decide) (hcd : (x == ("__classdict__" : Str)) = false := by decide)
    (hs : swapsWith ev (some (.Subscript (.Name x npos) eb tpos)) pos.line X.env = pure false := by rfl) : XS X (.Assign [.Subscript (.Name x npos) eb tpos] ev pos) (dPutI i di dv) := xs_of (ps_dput hu (pv i hN hvi hd hcd) hi hv hs) fun F0 H0 F H σ δ D DD S hdd en => by
  refine snd_tD dv F0 H0 F H σ δ _ S hdd _ fun v F1 H1 z e1 rz ⟨kvs, hk, hl, h1⟩ => ?_
  have S1 := S.grow e1
  obtain ⟨a, ks, g1, g2, g3, g4, g5⟩ := S1.getI hk
  refine ⟨.ref a, g1, snd_tD di F0 H0 F1 H1 σ δ _ S1 h1 _ fun u F2 H2 y e2 ry ⟨n, ey, hn⟩ => ?_⟩
  subst ey
  have ev := ry.of_int
  subst ev
  refine ⟨a, _, rfl, DPut.k (k := Sum.inl n) (e2.h _ _ g4) (sz100000 (by rw [g5.length]; exact hl)), ?_⟩
  exact en.nx F2 _ σ _ (stt_setI (S1.grow e2) hk g1 ((g5.mono e2.f).put (rz.mono e2.f))) (e1.f.trans e2.f) hn
end
end Pw
set_option Elab.async false
set_option linter.all false
set_option maxRecDepth 100000
set_option maxHeartbeats 800000
/-! Dicts: comprehension, walk, tuple keys, own lists within. -/
namespace Pw
open PySem PySem.Spec L2
section
variable {X : Cx} {pos p apos cpos npos : Pos} {e eb ef : Expr} {x : Str}
/-! ### frozen dicts read -/
def dIxI : DE → DE → DE := fun d u δ P => d δ fun a => u δ fun y => ∃ kvs n z, a = .dI kvs ∧ y = .int n ∧ lookI kvs n = some z ∧ P z
theorem xe_ixI {d u : DE} (hu : X.A.units + 1 < cLine) (ha : XE X e d) (hb : XE X eb u) (hs : NoSl eb := by intro _ _; rfl) : XE X (.Subscript e eb pos) (dIxI d u) := xe_of (pe_dget hu ha hb hs) fun F0 H0 F H σ δ P S hd Q q => by
  refine snd_tD d F0 H0 F H σ δ _ S hd _ fun v F1 H1 a e1 ra h1 => ?_
  refine snd_tD u F0 H0 F1 H1 σ δ _ (S.grow e1) h1 _ fun w F2 H2 y e2 ry ⟨kvs, n, z, ea, ey, hz, pz⟩ => ?_
  subst ea ey
  obtain ⟨t, ks, rfl, ht, r⟩ := (ra.mono e2.f).of_dI
  obtain ⟨v', hv', rv'⟩ := (r.look n).1 z hz
  have ew := ry.of_int
  subst ew
  refine ⟨t, v', rfl, Or.inl ⟨ks, Sum.inl n, ?_, rfl, hv'.symm⟩, q v' F2 H2 z (e1.trans e2) rv' pz⟩
  rcases ht with ht | ⟨o, ht⟩
  · exact .inl (e2.s _ _ ht)
  · exact .inr ⟨o, e2.s _ _ ht⟩
theorem isD_dT {H : Hp} {a : Addr} {ks : List (List Key × V)} (h : H a = some (.dT ks)) : IsD H a := .inr ⟨ks, .inl h⟩
theorem lookP_getD {K : PySem.W.Frag} {H : Hp} {ks : List (List Key × V)} {kvs : List ((Int × Int) × Dat)} (r : RpP K H ks kvs) (k : Int × Int) {w : V} {z : Dat} (rz : Rp K H w z) : Rp K H ((valV ks (kP k)).getD w) ((lookP kvs k).getD z) := by
  cases w4 : lookP kvs k with
  | none =>
    rw [(r.look k).2 w4]
    exact rz
  | some z' =>
    obtain ⟨v', hv', rv'⟩ := (r.look k).1 z' w4
    rw [hv']
    exact rv'
/-- d.get(pair, default), d frozen -/
def dGetF : DE → DE → DE → DE := fun d u f δ P => d δ fun a => ∃ kvs, a = .dP kvs ∧ u δ fun y => f δ fun z => ∃ i j, y = tI [i, j] ∧ P ((lookP kvs (i, j)).getD z)
theorem xe_getF {d u f : DE} (hu : X.A.units + 1 < cLine) (ha : XE X e d) (hb : XE X eb u) (hf : XE X ef f) (m : M2 X e "get" apos eb ef cpos := by exact ⟨rfl, rfl, rfl, rfl⟩) : XE X (.Call (.Attribute e "get" apos) [eb, ef] [] cpos) (dGetF d u f) := xe_of (pe_dget2 hu ha hb hf m) fun F0 H0 F H σ δ P S hd Q q => by
  refine snd_tD d F0 H0 F H σ δ _ S hd _ fun v F1 H1 a e1 ra ⟨kvs, ea, h1⟩ => ?_
  subst ea
  obtain ⟨t, ks, rfl, ht, r⟩ := ra.of_dP
  refine ⟨_, rfl, isD_dT (e1.s _ _ ht), ?_⟩
  refine snd_tD u F0 H0 F1 H1 σ δ _ (S.grow e1) h1 _ fun w F2 H2 y e2 ry h2 => ?_
  refine snd_tD f F0 H0 F2 H2 σ δ _ ((S.grow e1).grow e2) h2 _ fun w' F3 H3 z e3 rz ⟨i, j, ey, pz⟩ => ?_
  subst ey
  obtain ⟨b, rfl, hk⟩ := key_at e3.s (ry.mono e3.f)
  exact ⟨_, DGet.t (k := kP (i, j)) (e3.h _ _ (e2.h _ _ (e1.s _ _ ht))) hk, q _ F3 H3 _ ((e1.trans e2).trans e3) (lookP_getD ((r.mono e2.f).mono e3.f) (i, j) rz) pz⟩
/-! ### own dict of plain data, by pairs -/
theorem Stt.getP {K : PySem.W.Frag} {F0 H0 F H : Hp} {σ : L2.St} {δ : List Sl} {i : Nat} {kvs : List ((Int × Int) × Dat)} (S : Stt K F0 H0 F H σ δ) (h : δ[i]? = some (.oP kvs)) : ∃ a ks, σ[i]? = some (some (.ref a)) ∧ H0 a = Option.none ∧ F a = Option.none ∧ H a = some (.dT ks) ∧ RpP K F ks kvs := by
  obtain ⟨fp, h1, h2, h3⟩ := S.own
  obtain ⟨a, xs, e, q, ha, r⟩ := h3 i _ h
  exact ⟨a, xs, e, (h1 i a q).1, (h1 i a q).2.1, ha, r⟩
/-- {} -/
def dAsgP (i : Nat) : DS := fun D δ => D.nx (δ.set i (.oP []))
theorem xs_newP (i : Nat) {dpos : Pos} (hN : X.N.Nodup) (hi : X.N[i]? = some x := by rfl) (hx : Loc X.env.scope x := by first | exact Or.inl rfl | exact Or.inr rfl) (hs : swapsWith (.Dict [] [] dpos) (some (.Name x npos)) pos.line X.env = pure false := by rfl)
    (hf : X.fn x = true ∨ X.env.scope.names.lookup x = some .local := by first | exact .inl rfl | exact .inr rfl) : XS X (.Assign [.Name x npos] (.Dict [] [] dpos) pos) (dAsgP i) := xs_of (ps_set hN hi hx pe_dnewT hs hf) fun F0 H0 F H σ δ D DD S hd en => by
  intro a ha
  have s := S.ext.s
  exact en.nx F _ _ _ (S.setNew (s := .oP []) ha (upd_same' ha) (s.free ha) (s.trans (upd_same' ha)) (by rw [upd_same]; exact nofun) ⟨a, [], rfl, rfl, upd_same, .nil⟩) (Same.refl F) hd
def dAsgL (i : Nat) : DS := fun D δ => D.nx (δ.set i (.oL []))
theorem xs_newL (i : Nat) {dpos : Pos} (hN : X.N.Nodup) (hi : X.N[i]? = some x := by rfl) (hx : Loc X.env.scope x := by first | exact Or.inl rfl | exact Or.inr rfl) (hs : swapsWith (.Dict [] [] dpos) (some (.Name x npos)) pos.line X.env = pure false := by rfl)
    (hf : X.fn x = true ∨ X.env.scope.names.lookup x = some .local := by first | exact .inl rfl | exact .inr rfl) : XS X (.Assign [.Name x npos] (.Dict [] [] dpos) pos) (dAsgL i) := xs_of (ps_set hN hi hx pe_dnewT hs hf) fun F0 H0 F H σ δ D DD S hd en => by
  intro a ha
  have s := S.ext.s
  exact en.nx F _ _ _ (S.setNew (s := .oL []) ha (upd_same' ha) (s.free ha) (s.trans (upd_same' ha)) (by rw [upd_same]; exact nofun) ⟨a, [], [], rfl, rfl, upd_same, .nil, by simp⟩) (Same.refl F) hd
/-- own.get(pair, default) -/
def dGetP (i : Nat) : DE → DE → DE := fun u f δ P => ∃ kvs, δ[i]? = some (.oP kvs) ∧ u δ fun y => f δ fun z => ∃ a b, y = tI [a, b] ∧ P ((lookP kvs (a, b)).getD z)
theorem xe_getP (i : Nat) {u f : DE} (hu : X.A.units + 1 < cLine) (hb : XE X eb u) (hf : XE X ef f) (hN : X.N[i]? = some x := by rfl) (hv : Vis X.env.scope x := by first | exact Or.inl rfl | exact Or.inr (Or.inl rfl) | exact Or.inr (Or.inr rfl)) (hd : (x == ("__debug__" : Str)) = false := by decide) (hcd : (x == ("__classdict__" : Str)) = false := by decide)
    (m : M2 X (.Name x npos) "get" apos eb ef cpos := by exact ⟨rfl, rfl, rfl, rfl⟩) : XE X (.Call (.Attribute (.Name x npos) "get" apos) [eb, ef] [] cpos) (dGetP i u f) := xe_of (pe_dget2 hu (pv i hN hv hd hcd) hb hf m) fun F0 H0 F H σ δ P S ⟨kvs, hk, h1⟩ Q q => by
  obtain ⟨t, ks, g1, g2, g3, g4, g5⟩ := S.getP hk
  refine ⟨_, g1, _, rfl, isD_dT g4, ?_⟩
  refine snd_tD u F0 H0 F H σ δ _ S h1 _ fun w F2 H2 y e2 ry h2 => ?_
  refine snd_tD f F0 H0 F2 H2 σ δ _ (S.grow e2) h2 _ fun w' F3 H3 z e3 rz ⟨a, b, ey, pz⟩ => ?_
  subst ey
  obtain ⟨c, rfl, hk⟩ := key_at e3.s (ry.mono e3.f)
  exact ⟨_, DGet.t (k := kP (a, b)) (e3.h _ _ (e2.h _ _ g4)) hk, q _ F3 H3 _ (e2.trans e3) (lookP_getD ((g5.mono e2.f).mono e3.f) (a, b) rz) pz⟩
/-- own[pair] -/
def dIxP (i : Nat) : DE → DE := fun u δ P => ∃ kvs, δ[i]? = some (.oP kvs) ∧ u δ fun y => ∃ a b z, y = tI [a, b] ∧ lookP kvs (a, b) = some z ∧ P z
theorem xe_ixP (i : Nat) {u : DE} (hu : X.A.units + 1 < cLine) (hb : XE X eb u) (hN : X.N[i]? = some x := by rfl) (hv : Vis X.env.scope x := by first | exact Or.inl rfl | exact Or.inr (Or.inl rfl) | exact Or.inr (Or.inr rfl)) (hd : (x == ("__debug__" : Str)) = false := by decide) (hcd : (x == ("__classdict__" : Str)) = false := by decide)
    (hs : NoSl eb := by intro _ _; rfl) : XE X (.Subscript (.Name x npos) eb pos) (dIxP i u) := xe_of (pe_dget hu (pv i hN hv hd hcd) hb hs) fun F0 H0 F H σ δ P S ⟨kvs, hk, h1⟩ Q q => by
  obtain ⟨t, ks, g1, g2, g3, g4, g5⟩ := S.getP hk
  refine ⟨_, g1, ?_⟩
  refine snd_tD u F0 H0 F H σ δ _ S h1 _ fun w F2 H2 y e2 ry ⟨a, b, z, ey, hz, pz⟩ => ?_
  subst ey
  obtain ⟨c, rfl, hk⟩ := key_at e2.s ry
  obtain ⟨v', hv', rv'⟩ := (g5.look (a, b)).1 z hz
  refine ⟨t, v', rfl, ?_, q v' F2 H2 z e2 (rv'.mono e2.f) pz⟩
  rw [← hv']
  exact DGet.t (k := kP (a, b)) (e2.h _ _ g4) hk
theorem stt_setP {K : PySem.W.Frag} {F0 H0 F H : Hp} {σ : L2.St} {δ : List Sl} {i : Nat} {ds es : List ((Int × Int) × Dat)} {a : Addr} {ys : List (List Key × V)} (S : Stt K F0 H0 F H σ δ) (h : δ[i]? = some (.oP ds)) (ha : σ[i]? = some (some (.ref a))) (r : RpP K F ys es) : Stt K F0 H0 F (upd H a (.dT ys)) σ (δ.set i (.oP es)) :=
  S.mut (s := .oP ds) (t := .oP es) h fun fp hf => by
    obtain ⟨a', xs', q1, q2, q3, q4⟩ := hf
    have ea : a' = a := by
      rw [ha] at q1
      cases q1
      rfl
    subst ea
    exact ⟨q2, a', ys, ha, q2, upd_same, r⟩
/-- own[pair] = v -/
def dPutP (i : Nat) (di dv : DE) : DS := fun D δ => dv δ fun z => ∃ kvs, δ[i]? = some (.oP kvs) ∧ kvs.length < 100000 ∧ di δ fun y => ∃ a b, y = tI [a, b] ∧ D.nx (δ.set i (.oP (putP kvs (a, b) z)))
theorem xs_putP (i : Nat) {di dv : DE} {ev : Expr} {tpos : Pos} (hu : X.A.units + 1 < cLine) (hi : XE X eb di) (hv : XE X ev dv) (hN : X.N[i]? = some x := by rfl) (hvi : Vis X.env.scope x := by first | exact Or.inl rfl | exact Or.inr (Or.inl rfl) | exact Or.inr (Or.inr rfl)) (hd : (x == ("__debug__" : Str)) = false := by decide) (hcd : (x == ("__classdict__" : Str)) = false := by decide)
    (hs : swapsWith ev (some (.Subscript (.Name x npos) eb tpos)) pos.line X.env = pure false := by rfl) : XS X (.Assign [.Subscript (.Name x npos) eb tpos] ev pos) (dPutP i di dv) := xs_of (ps_dput hu (pv i hN hvi hd hcd) hi hv hs) fun F0 H0 F H σ δ D DD S hdd en => by
  refine snd_tD dv F0 H0 F H σ δ _ S hdd _ fun v F1 H1 z e1 rz ⟨kvs, hk, hl, h1⟩ => ?_
  have S1 := S.grow e1
  obtain ⟨t, ks, g1, g2, g3, g4, g5⟩ := S1.getP hk
  refine ⟨.ref t, g1, snd_tD di F0 H0 F1 H1 σ δ _ S1 h1 _ fun u F2 H2 y e2 ry ⟨a, b, ey, hn⟩ => ?_⟩
  subst ey
  obtain ⟨c, rfl, hk2⟩ := key_at e2.s ry
  refine ⟨t, _, rfl, DPut.t (k := kP (a, b)) (e2.h _ _ g4) hk2 (sz100000 (by rw [g5.length]; exact hl)), ?_⟩
  exact en.nx F2 _ σ _ (stt_setP (S1.grow e2) hk g1 ((g5.mono e2.f).put (rz.mono e2.f))) (e1.f.trans e2.f) hn
/-! ### {k: v for ..} with int keys -/
def dDc (di : DA) (dg : DG) (dt : DT) (dk dv : DE) (vs : List Nat) (i : Nat) : DS := fun D δ => di δ fun items => ∃ I : Nat → List (Int × Dat) → Prop, I 0 [] ∧ (∀ k x acc, items[k]? = some x → I k acc → dg x (wipeD δ vs) fun δ2 => dt δ2 fun b => if b = true then dk δ2 fun y => dv δ2 fun z => ∃ n, y = .int n ∧ acc.length < 100000 ∧ I (k + 1) (putI acc n z) else I (k + 1) acc) ∧ ∀ acc, I items.length acc → D.nx (δ.set i (.oI acc))
theorem ps_setDc {i : Nat} {y : Str} {py : Pos} {kx vx tg iter : Expr} {ifs : List Expr} {scope : Scope} {own : List (Str × Nat)} {spos : Pos} {wi : TI} {g : TG} {tt : TT} {tk tv : TE} (hc : X.calm = true) (hN : X.N.Nodup) (hy : X.N[i]? = some y) (hyl : X.env.scope.names.lookup y = some .local)
    (hsw : swapsWith (.DictComp kx vx [⟨tg, iter, ifs, 0⟩] scope pos) (some (.Name y py)) spos.line X.env = pure true) (hi : PI X tg iter wi) (ok : BlkOk X.N X.env.scope scope own)
    (hg : ∀ (s : Shared) (H : Hp) (C : Addr) (cl : List (Str × Addr)) (fp : List Addr), PG (X.blk s H scope (compEnvC scope cl C X.env) fp) tg g) (ht : ∀ (s : Shared) (H : Hp) (C : Addr) (cl : List (Str × Addr)) (fp : List Addr), PTs (X.blk s H scope (compEnvC scope cl C X.env) fp) ifs tt)
    (hk : ∀ (s : Shared) (H : Hp) (C : Addr) (cl : List (Str × Addr)) (fp : List Addr), PE (X.blk s H scope (compEnvC scope cl C X.env) fp) kx tk)
    (he : ∀ (s : Shared) (H : Hp) (C : Addr) (cl : List (Str × Addr)) (fp : List Addr), PE (X.blk s H scope (compEnvC scope cl C X.env) fp) vx tv) (hs : ∀ x, foldedSetIterable iter X.env x = pure x := by intro _; rfl) :
    PS X (.Assign [.Name y py] (.DictComp kx vx [⟨tg, iter, ifs, 0⟩] scope pos) spos) (tAsg (tDc wi g tt tk tv (own.map (·.2))) (gName i)) := by
  refine ⟨fun pins s σ H D I h => ?_⟩
  rw [exec_Assign_Name_used _ _ _ _ hsw]
  refine wpAny_bind (wpAny_standAt (wpAny_bind ?_))
  show wpAny _ X.A (do let _ ← comprehension (.DictComp kx vx [⟨tg, iter, ifs, 0⟩] scope pos) scope X.env (firstIterPos [⟨tg, iter, ifs, 0⟩] pos) newDict false (eval iter X.env) (some (assign (.Name y py) X.env))) _ _ s
  have h : tDc wi g tt tk tv (own.map (·.2)) σ H (fun x H1 => gName i x σ H1 D.nx) := h
  refine wpAny_bind (thn (dc_core (Qf := fun _ s' => SP X pins D .next s') hc hN I hi ok hg ht hk he hs h fun L C s' m H' I' q hn f => ?_) fun _ s' hq => wpAny_pure (wpAny_pure hq))
  show wpAny _ _ (assign (.Name y py) X.env (.ref L)) _ _ _
  refine wpAny_assign_Name (store_ok2 (v := V.ref L) I' hN hy (.inl hyl) rfl (fun s2 I2 ⟨a, sb, ha⟩ => ?_) (.inr hyl))
  obtain ⟨f0, f1, f2, f3, f4, f5⟩ := f
  have haC : C ≠ a := by
    rcases ha with z | z
    · rw [z]; exact f1
    · exact fun e => f4 y a z e.symm
  refine ⟨m, hn.sameBut sb haC, fun h3 sb3 => ?_⟩
  exact ⟨_, H', I2.turned (t' := s2.toks) (fun b o hb e => (sb3.2 b hb).trans e) f0 f1 f3 f4 f5, q⟩
theorem snd_dc {K : PySem.W.Frag} {di : DA} {dg : DG} {dt : DT} {dk dv : DE} {vs : List Nat} {i : Nat} : SndS K (tAsg (tDc (tDI K di) (tDG K vs dg) (tDT K dt) (tD K dk) (tD K dv) vs) (gName i)) (dDc di dg dt dk dv vs i) := fun F0 H0 F H σ δ DE0 DD S hd en =>
  snd_tDI di F0 H0 F H σ δ _ S hd _ fun J F1 H1 items e1 ok ⟨I, i0, turn, fin⟩ => by
    intro D hD
    have S1 := S.grow e1
    refine ⟨fun j m H' => ∃ F' ys acc, m = items.length - j ∧ j ≤ items.length ∧ Ext F1 H1 F' H' ∧ F' D = Option.none ∧ H' D = some (.dK ys) ∧ RpI K F' ys acc ∧ I j acc, ⟨items.length, F1, [], [], by simp, Nat.zero_le _, Ext.own e1.s hD, e1.s.free hD, upd_same, .nil, i0⟩, ?_⟩
    rintro j m H' ⟨F', ys, acc, rfl, hi, ex, hF, hH, ry, hI⟩
    by_cases hlt : j < items.length
    · refine Or.inr ⟨ok.go j F' H' ex.f ex.s hlt, fun H2 => ∃ F' ys acc, Ext F1 H1 F' H2 ∧ F' D = Option.none ∧ H2 D = some (.dK ys) ∧ RpI K F' ys acc ∧ I (j + 1) acc, fun H2 ⟨F', ys, acc, h⟩ => ⟨items.length - (j + 1), by omega, F', ys, acc, rfl, hlt, h⟩, fun v H2 y => ?_⟩
      have hx : items[j]? = some items[j] := List.getElem?_eq_getElem hlt
      obtain ⟨F2, e2, rv⟩ := ok.yld j F' H' v H2 ex.f ex.s y _ hx
      refine snd_tDG vs dg F0 H0 F2 H2 _ _ v _ _ (((S1.grow ex).grow e2).wipe vs) rv (turn j _ acc hx hI) _ fun σ3 δ3 S3 w3 h3 => ⟨w3.trans (wipe_wipe σ vs), ?_⟩
      refine snd_tDT dt F0 H0 F2 H2 σ3 δ3 _ S3 h3 _ fun b F3 H3 e3 hb => ?_
      have hF2 : F2 D = Option.none := e2.keep hF hH
      have hH2 := e2.h _ _ hH
      have hF3 : F3 D = Option.none := e3.keep hF2 hH2
      have hH3 := e3.h _ _ hH2
      cases b with
      | true =>
        refine snd_tD dk F0 H0 F3 H3 σ3 δ3 _ (S3.grow e3) hb _ fun w F4 H4 yk e4 rk hk => ?_
        refine snd_tD dv F0 H0 F4 H4 σ3 δ3 _ ((S3.grow e3).grow e4) hk _ fun w' F5 H5 z e5 rz ⟨n, en', hl, hz⟩ => ?_
        subst en'
        have ew := rk.of_int
        subst ew
        have hF4 : F4 D = Option.none := e4.keep hF3 hH3
        have hH4 := e4.h _ _ hH3
        have hF5 : F5 D = Option.none := e5.keep hF4 hH4
        have hH5 := e5.h _ _ hH4
        exact ⟨ys, Sum.inl n, rfl, hH5, sz100000 (by rw [ry.length]; exact hl), F5, _, _, ((((ex.trans e2).trans e3).trans e4).trans e5).mut hD hF5, hF5, upd_same, ((((ry.mono e2.f).mono e3.f).mono e4.f).mono e5.f).put rz, hz⟩
      | false => exact ⟨F3, ys, acc, (ex.trans e2).trans e3, hF3, hH3, (ry.mono e2.f).mono e3.f, hb⟩
    · have e : j = items.length := by omega
      subst e
      refine Or.inl ⟨ok.stop _ F' H' ex.f ex.s (Nat.le_refl _), en.nx F' H' _ _ ?_ (e1.f.trans ex.f) (fin acc hI)⟩
      have S2 := S1.grow ex
      obtain ⟨fp, h1, h2, h3⟩ := S1.own
      have nfp : ∀ j b, fp j b → b ≠ D := fun j b q z => (h1 j b q).2.2 (by rw [z]; exact hD)
      have hh : ∀ i b, fp i b → H' b = H1 b := fun i b q => by
        cases z : H1 b with
        | none => exact absurd z (h1 i b q).2.2
        | some o => exact ex.h b o z
      refine S2.put (.ref D) (.oI acc) (fun b => b = D) (fun b z => ?_) (fun _ _ _ _ => ⟨fp, fun i s hs => (h3 i s hs).mono ex.f (hh i), h2, fun i b q => ⟨(h1 i b q).1, ?_, by rw [hh i b q]; exact (h1 i b q).2.2⟩, fun j b _ q z => nfp j b q z⟩) fun _ => ⟨D, ys, rfl, rfl, hH, ry⟩
      · subst z
        exact ⟨(S.ext.h.trans e1.h).free hD, hF, by rw [hH]; exact nofun⟩
      · cases z : H1 b with
        | none => exact absurd z (h1 i b q).2.2
        | some o => exact ex.keep (h1 i b q).2.1 z
theorem xs_setDc {i : Nat} {y : Str} {py : Pos} {kx vx tg iter : Expr} {ifs : List Expr} {scope : Scope} {own : List (Str × Nat)} {spos : Pos} {di : DA} {dg : DG} {dt : DT} {dk dv : DE} (hc : X.calm = true) (hN : X.N.Nodup) (hi : XI X tg iter di) (ok : BlkOk X.N X.env.scope scope own)
    (hg : ∀ (s : Shared) (H : Hp) (C : Addr) (cl : List (Str × Addr)) (fp : List Addr), XG (X.blk s H scope (compEnvC scope cl C X.env) fp) (own.map (·.2)) tg dg) (ht : ∀ (s : Shared) (H : Hp) (C : Addr) (cl : List (Str × Addr)) (fp : List Addr), XTs (X.blk s H scope (compEnvC scope cl C X.env) fp) ifs dt)
    (hk : ∀ (s : Shared) (H : Hp) (C : Addr) (cl : List (Str × Addr)) (fp : List Addr), XE (X.blk s H scope (compEnvC scope cl C X.env) fp) kx dk)
    (he : ∀ (s : Shared) (H : Hp) (C : Addr) (cl : List (Str × Addr)) (fp : List Addr), XE (X.blk s H scope (compEnvC scope cl C X.env) fp) vx dv) (hy : X.N[i]? = some y := by rfl) (hyl : X.env.scope.names.lookup y = some .local := by rfl)
    (hsw : swapsWith (.DictComp kx vx [⟨tg, iter, ifs, 0⟩] scope pos) (some (.Name y py)) spos.line X.env = pure true := by rfl) (hs : ∀ x, foldedSetIterable iter X.env x = pure x := by intro _; rfl) :
    XS X (.Assign [.Name y py] (.DictComp kx vx [⟨tg, iter, ifs, 0⟩] scope pos) spos) (dDc di dg dt dk dv (own.map (·.2)) i) := xs_of (ps_setDc (g := tDG X.K (own.map fun q : Str × Nat => q.2) dg) (tt := tDT X.K dt) (tk := tD X.K dk) (tv := tD X.K dv) hc hN hy hyl hsw hi ok hg ht hk he hs) snd_dc
/-- list(own dict) -/
def dListI (i : Nat) : DA := fun δ P => ∃ kvs, δ[i]? = some (.oI kvs) ∧ P (kvs.map fun q => .int q.1)
theorem xn_listI (i : Nat) (hc : X.calm = true) (hm : X.mg "list" = Option.none) (hN : X.N[i]? = some x := by rfl) (hv : Vis X.env.scope x := by first | exact Or.inl rfl | exact Or.inr (Or.inl rfl) | exact Or.inr (Or.inr rfl)) (hd : (x == ("__debug__" : Str)) = false := by decide) (hcd : (x == ("__classdict__" : Str)) = false := by decide)
    (hg : Gl X "list" := by rfl) (hst : starEach [.Name x npos] X.env = (false, eval (.Name x npos) X.env) :: starEach [] X.env := by rfl) (hpl : (backTo pos (starEach [] X.env)).any (·.1) = false := by rfl) : XN X (.Call (.Name "list" p) [.Name x npos] [] pos) (dListI i) :=
  xn_of (pe_callTy (call_list_dK hc) hg hm (by decide +kernel) (pa_cons (pv i hN hv hd hcd) pa_nil hst) (by decide) (by decide) hst hpl) fun F0 H0 F H σ δ P S ⟨kvs, hk, hp⟩ Q q => by
  obtain ⟨a, ks, g1, g2, g3, g4, g5⟩ := S.getI hk
  refine ⟨.ref a, g1, a, ks, rfl, g4, fun t ht => q t _ F _ _ (Ext.own S.ext.s ht) ht (S.ext.s.free ht) upd_same ?_ hp⟩
  rw [g5.keys]
  have e : (kvs.map fun q => Dat.int q.1) = (kvs.map (·.1)).map .int := by rw [List.map_map]; rfl
  rw [e]
  exact RpL.of_ints _
end
end Pw
set_option Elab.async false
set_option linter.all false
set_option maxRecDepth 100000
set_option maxHeartbeats 800000
/-! Built-ins over tuples of ints; count(None); enumerate. -/
namespace Pw
open PySem PySem.Spec L2
open PyProof.Rows (IsTup)
section
variable {X : Cx} {pos p p2 apos cpos npos : Pos} {e eb ef : Expr} {x : Str}
theorem len_sub : ∀ {ns ms : List Int}, ns.Nodup → (∀ k ∈ ns, k ∈ ms) → ns.length ≤ ms.length
  | [], ms, _, _ => Nat.zero_le _
  | n :: ns, ms, h, s => by
    obtain ⟨h1, h2⟩ := List.nodup_cons.mp h
    have hm := s n List.mem_cons_self
    have ih := len_sub (ns := ns) (ms := ms.erase n) h2 fun k hk => (List.mem_erase_of_ne fun z => h1 (by rw [← z]; exact hk)).mpr (s k (List.mem_cons_of_mem _ hk))
    have hl := List.length_erase_of_mem hm
    have h0 : 0 < ms.length := List.length_pos_of_mem hm
    rw [List.length_cons]
    omega
theorem intsT {s : Shared} {H : Hp} {σ : L2.St} {pins : List (Addr × Obj)} {a : Addr} {ns : List Int} (I : Inv X pins σ H s) (h : SqT X.K H a (ns.map V.int)) : ∃ its : List Value, PyProof.Rows.IntsAre its ns ∧ PyProof.Rows.IsTup s.heap a its.toArray ∧ ns.length ≤ sizeLine := by
  obtain ⟨its, rv, p, hz⟩ := I.tuple h
  rw [List.length_map] at hz
  exact ⟨its, rv.ints, p, hz⟩
/-! ### len(set(a)) -/
def tLenSetT (K : PySem.W.Frag) (ta : TE) : TE := fun σ H Q => ta σ H fun x H1 => ∃ (l : Addr) (ns : List Int), x = V.ref l ∧ SqT K H1 l (ns.map V.int) ∧ ns.length < 64 ∧ ns.Nodup ∧ Q (.int ns.length) H1
theorem pe_lenSetT {ta : TE} {q : Pos} (hc : X.calm = true) (hg : Gl X "len") (hm : X.mg "len" = Option.none) (hg2 : Gl X "set") (hm2 : X.mg "set" = Option.none) (ha : PE X e ta)
    (na : starEach [e] X.env = (false, eval e X.env) :: starEach [] X.env := by rfl) : PE X (.Call (.Name "len" p) [.Call (.Name "set" p2) [e] [] q] [] pos) (tLenSetT X.K ta) := by
  refine ⟨fun pins s σ H Q I h => ?_⟩
  refine PyProof.Rows.Call_ (ld_blt I hg hm PySem.boot_len ?_)
  refine PyProof.Rows.callWith_builtin1 (PyProof.Rows.args_cons ?_ rfl) rfl rfl
  refine PyProof.Rows.Call_ (ld_blt I hg2 hm2 PyProof.Rows.boot_set ?_)
  refine PyProof.Rows.callWith_type1 (PyProof.Rows.args_cons (thn (ha.run pins s σ H _ I h) fun v s1 ⟨x, H1, I1, r1, q1⟩ => PyProof.Rows.args_nil ?_) na) na rfl
  obtain ⟨l, ns, rfl, hq, h1, hnd, q1⟩ := q1
  cases r1
  obtain ⟨its, hi, pl, hz⟩ := intsT I1 hq
  refine call_set_tupI ns (I1.ok.hd hc) (show s1.heap.IsTuple l its.toArray from pl) (by simpa using hi) (by unfold scanBound; omega) fun h' tk c hS hcl hk => ?_
  refine PyProof.Rows.args_nil ?_
  obtain ⟨o, es, ep, t, ho, hex, hd, hgood, hnd2, hmem, hsz, hf, hn, _⟩ := hS
  have I2 : Inv X pins σ H1 { s1 with heap := h', toks := tk } := I1.kept fun b o e => hk b o e
  have hlen : es.size = ns.length := by
    have g1 : ns.length ≤ (es.toList.map L2.keyOf).length := len_sub hnd fun k hk => (hmem k).mp (decide_eq_true hk)
    rw [List.length_map, Array.length_toList (xs := es)] at g1
    omega
  exact call_len_set ho hex hd hf (by rw [hlen] <;> omega) ⟨.int ns.length, H1, I2.tok _, ⟨_, by rw [hlen]⟩, q1⟩
def dLenSet (d : DE) : DE := fun δ P => d δ fun x => ∃ ns, (x = lI ns ∨ x = tI ns) ∧ ns.length < 64 ∧ ns.Nodup ∧ P (.int ns.length)
theorem xe_lenSet {d : DE} {q : Pos} (hc : X.calm = true) (hm : X.mg "len" = Option.none) (hm2 : X.mg "set" = Option.none) (ha : XE X e d) (hg : Gl X "len" := by rfl) (hg2 : Gl X "set" := by rfl)
    (na : starEach [e] X.env = (false, eval e X.env) :: starEach [] X.env := by rfl) : XE X (.Call (.Name "len" p) [.Call (.Name "set" p2) [e] [] q] [] pos) (dLenSet d) := by
  refine ⟨fun pins s0 σ H Q I ⟨F0, H0, F, δ, P, S, hd, q⟩ => ?_⟩
  -- which of the two it is, the reading of e tells
  refine PE.run (t := fun σ H Q => tD X.K d σ H fun v H1 => (∃ (l : Addr) (ns : List Int), v = V.ref l ∧ SqL X.K H1 l (ns.map V.int) ∧ ns.length < 64 ∧ ns.Nodup ∧ Q (.int ns.length) H1) ∨ ∃ (l : Addr) (ns : List Int), v = V.ref l ∧ SqT X.K H1 l (ns.map V.int) ∧ ns.length < 64 ∧ ns.Nodup ∧ Q (.int ns.length) H1) ?_ pins s0 σ H Q I ?_
  · refine ⟨fun pins s σ H Q I h => ?_⟩
    refine PyProof.Rows.Call_ (ld_blt I hg hm PySem.boot_len ?_)
    refine PyProof.Rows.callWith_builtin1 (PyProof.Rows.args_cons ?_ rfl) rfl rfl
    refine PyProof.Rows.Call_ (ld_blt I hg2 hm2 PyProof.Rows.boot_set ?_)
    refine PyProof.Rows.callWith_type1 (PyProof.Rows.args_cons (thn (ha.run pins s σ H _ I h) fun v s1 ⟨x, H1, I1, r1, q1⟩ => PyProof.Rows.args_nil ?_) na) na rfl
    rcases q1 with ⟨l, ns, rfl, hq, h1, hnd, q1⟩ | ⟨l, ns, rfl, hq, h1, hnd, q1⟩
    · cases r1
      obtain ⟨its, r, pl, hz⟩ := I1.list hq
      have hl : its.toArray.size = ns.length := by rw [List.size_toArray, ← r.length, List.length_map]
      refine call_set_list (I1.ok.hd hc) pl.isList (ns := ns) (by simpa using r.ints) (by unfold scanBound; omega) fun h' tk hS hk => ?_
      rw [hl, firstMet_nodup ns hnd ns.length (Nat.le_refl _), List.take_length] at hS
      refine PyProof.Rows.args_nil ?_
      obtain ⟨o, es, ep, t, ho, hex, hd, _, _, _, hf, hn⟩ := hS
      have I2 : Inv X pins σ H1 { s1 with heap := h', toks := tk } := I1.kept fun b o e => hk b o (Heap.lt_size e) e
      exact call_len_set ho hex hd hf (by rw [hn] <;> omega) ⟨.int ns.length, H1, I2.tok _, ⟨_, by rw [hn]⟩, q1⟩
    · cases r1
      obtain ⟨its, hi, pl, hz⟩ := intsT I1 hq
      refine call_set_tupI ns (I1.ok.hd hc) (show s1.heap.IsTuple l its.toArray from pl) (by simpa using hi) (by unfold scanBound; omega) fun h' tk c hS hcl hk => ?_
      refine PyProof.Rows.args_nil ?_
      obtain ⟨o, es, ep, t, ho, hex, hd, hgood, hnd2, hmem, hsz, hf, hn, _⟩ := hS
      have I2 : Inv X pins σ H1 { s1 with heap := h', toks := tk } := I1.kept fun b o e => hk b o e
      have hlen : es.size = ns.length := by
        have g1 : ns.length ≤ (es.toList.map L2.keyOf).length := len_sub hnd fun k hk => (hmem k).mp (decide_eq_true hk)
        rw [List.length_map, Array.length_toList (xs := es)] at g1
        omega
      exact call_len_set ho hex hd hf (by rw [hlen] <;> omega) ⟨.int ns.length, H1, I2.tok _, ⟨_, by rw [hlen]⟩, q1⟩
  · refine snd_tD d F0 H0 F H σ δ _ S hd _ fun v F1 H1 y e1 ry ⟨ns, ey, hl, hnd, hp⟩ => ?_
    rcases ey with ey | ey
    · subst ey
      obtain ⟨l, ys, rfl, hy, r⟩ := ry.of_lst
      have e2 := r.ints
      subst e2
      exact .inl ⟨l, ns, rfl, SqL.of (e1.s _ _ hy), hl, hnd, q _ F1 H1 _ e1 (.int _) hp⟩
    · subst ey
      obtain ⟨l, ys, rfl, hy, r⟩ := ry.of_tup
      have e2 := r.ints
      subst e2
      exact .inr ⟨l, ns, rfl, SqT.of (e1.s _ _ hy), hl, hnd, q _ F1 H1 _ e1 (.int _) hp⟩
/-! ### sorted(tuple of ints), min(list or tuple of ints) -/
def rSortedT (K : PySem.W.Frag) : List V → Hp → VK → Prop := fun vs H Q => ∃ (a : Addr) (ns : List Int), vs = [V.ref a] ∧ SqT K H a (ns.map V.int) ∧ ns.length < 64 ∧
  ∀ (ns' : List Int) (p : Addr), ns'.Perm ns → ns'.Pairwise (· ≤ ·) → H p = Option.none → Q (.ref p) (upd H p (.lst (ns'.map V.int)))
theorem cr_sortedTup : CallR X (.builtin "sorted") (rSortedT X.K) := by
  intro pins s σ H vs us Q I r h
  obtain ⟨a, ns, rfl, hs, h64, q⟩ := h
  obtain ⟨its, hi, pl, hz⟩ := intsT I hs
  rw [Vals.ref1 r]
  have hlen : its.length = ns.length := hi.length
  obtain ⟨o, ho, hc, n, hd⟩ := id (show s.heap.IsTuple a its.toArray from pl)
  refine Calls.call_function_entry PyProof.Rows.kind_sorted PyProof.Rows.plain_sorted PyProof.Rows.entry_sorted (PyProof.Rows.args_sorted1 _) ?_
  unfold Builtin.«sorted»
  refine wpAny_bind (m := checkCount "sorted" 1 1 _) (wpAny_pure ?_)
  refine wpAny_bind (wpAny_collect_seq (A := X.A.in1) a (.inr rfl) ho hc hd (fun h' hk => ?_) (by rw [List.size_toArray, hlen]; exact hz))
  have I1 : Inv X pins σ H { s with heap := h' } := I.kept (t' := s.toks) hk
  have e0 : its.toArray.toList = its := by simp
  rw [e0]
  refine wpAny_bind (wpAny_newList ?_ (by rw [hlen, sizeLine_eq]; omega))
  have hoL : (h'.push (PyProof.Rows.seqObj "list" its.toArray 0)).get? h'.objs.size = some (PyProof.Rows.seqObj "list" its.toArray 0) := Heap.get?_push_size _ rfl
  show wpAny _ _ _ _ _ { s with heap := h'.push (PyProof.Rows.seqObj "list" its.toArray 0) }
  refine wpAny_bind (wpAny_holding (wpAny_call_entry PyProof.Rows.slot_list_sort ⟨_, hoL, rfl⟩ PyProof.Rows.entry_list_sort
    (PyProof.Rows.list_sort_tree (s := { s with heap := h'.push (PyProof.Rows.seqObj "list" its.toArray 0) }) hoL hi (by rw [hlen]; exact h64) fun out ys g1 g2 g3 => ⟨_, rfl, ?_⟩) (PyProof.Rows.args_list_sort _)))
  obtain ⟨e', he'⟩ := PyProof.Rows.sortedHeap_at (vs := its) (out := out) hoL
  have hl2 : (ys.map V.int).length ≤ sizeLine := by
    rw [List.length_map, g2.length_eq]
    exact Nat.le_trans (Nat.le_of_lt h64) (by decide)
  refine wpAny_pure ⟨_, rfl, .ref h'.objs.size, upd H h'.objs.size (.lst (ys.map V.int)), I1.laid (t' := s.toks) (fun b u e => ?_) (Nat.le_refl _)
    (show ObjOk X.prog X.w _ _ _ (.lst (ys.map V.int)) from ⟨hl2, out.toList, e', vals_of_ints g1, by rw [Array.toArray_toList]; exact he'⟩), rfl, q ys _ g2 g3 (I1.hok.fresh (Nat.le_refl _))⟩
  have hb : b < h'.objs.size := Heap.lt_size e
  rw [PyProof.Rows.sortedHeap_old (Nat.ne_of_lt hb) (by rw [PyProof.Rows.size_push']; exact Nat.lt_succ_of_lt hb)]
  exact Heap.get?_push_of_some _ e
def dSortedT : List Dat → (List Dat → Prop) → Prop := fun xs P => ∃ ns, xs = [tI ns] ∧ ns.length < 64 ∧ ∀ ms : List Int, ms.Perm ns → ms.Pairwise (· ≤ ·) → P (ms.map .int)
theorem cn_sortedT {K : PySem.W.Frag} : CalN K (rSortedT K) dSortedT := fun F H vs xs P s r ⟨ns, e, hl, p⟩ Q q => by
  subst e
  obtain ⟨v, rfl, rv⟩ : ∃ v, vs = [v] ∧ Rp K F v (tI ns) := by
    cases r with
    | cons h r =>
      cases r
      exact ⟨_, rfl, h⟩
  obtain ⟨a, ys, rfl, hy, ry⟩ := rv.of_tup
  have e2 := ry.ints
  subst e2
  exact ⟨a, ns, rfl, SqT.of (s _ _ hy), hl, fun ms l hp hs hn => q l _ F _ (ms.map .int) (Ext.own s hn) hn (s.free hn) upd_same (RpL.of_ints ms) (p ms hp hs)⟩
/-- either of two -/
theorem cn_or {r r' : List V → Hp → VK → Prop} {K : PySem.W.Frag} {d d' : List Dat → (List Dat → Prop) → Prop} (h : CalN K r d) (h' : CalN K r' d') : CalN K (fun vs H Q => r vs H Q ∨ r' vs H Q) (fun xs P => d xs P ∨ d' xs P) := fun F H vs xs P s rv p Q q => by
  rcases p with p | p
  · exact .inl (h F H vs xs P s rv p Q q)
  · exact .inr (h' F H vs xs P s rv p Q q)
theorem cr_or {v : Value} {r r' : List V → Hp → VK → Prop} (h : CallR X v r) (h' : CallR X v r') : CallR X v (fun vs H Q => r vs H Q ∨ r' vs H Q) := fun pins s σ H vs us Q I rv p => by
  rcases p with p | p
  · exact h pins s σ H vs us Q I rv p
  · exact h' pins s σ H vs us Q I rv p
/-! ### min(tuple of ints) -/
end
end Pw
set_option Elab.async false
set_option linter.all false
set_option maxRecDepth 100000
set_option maxHeartbeats 1000000
/-! enumerate over a list or a tuple. -/
namespace PySem
theorem meets_enumerate_new1 {v : Value} {o : Obj} {H : Heap → Prop} (B : Begins v o H) :
    Meets (Builtin.«enumerate.__new__» ⟨[.type "enumerate", v], []⟩) (fun _ R s => H s.heap ∧
      R (.ok (.ret (.ref (s.heap.push o).objs.size))) { s with heap := (s.heap.push o).push { cls := .type "enumerate", data := .fields #[.none, .bool false, .ref s.heap.objs.size, rawInt 0, .none, .none] } }) :=
  .of_wp fun prog w A R s h => by
    obtain ⟨hp, g, d, tk, os⟩ := s; obtain ⟨h1, h⟩ := h
    have hsub := sub_enumerate
    have q1 : ∀ {A' : Around} {E : Value → Shared → Prop} {Q : Value → Shared → Prop}, Q (.ref hp.objs.size) ⟨hp.push o, g, d, tk, os⟩ → wpAny (model prog w) A' (pyIter v) Q E ⟨hp, g, d, tk, os⟩ :=
      fun q => B.iter prog w _ _ ⟨hp, g, d, tk, os⟩ _ h1 q
    wp_walk using q1
    refine wpAny_stack_any fun st => wpAny_pure ?_
    split
    · rename_i c _ _ _ _ _
      cases (c == Value.type "enumerate")
      · wp_walk using q1
        exact ⟨_, rfl, h⟩
      · wp_walk using q1
        exact ⟨_, rfl, h⟩
    · wp_walk using q1
      exact ⟨_, rfl, h⟩
theorem enum_begins1 {prog : Program} {w : World} {A : Around} {E : Value → Shared → Prop} {s : Shared} {v : Value} {o : Obj} {H : Heap → Prop} {Q : Value → Shared → Prop} (B : Begins v o H) (h1 : H s.heap)
    (h : ∀ h', IsEnum h' (s.heap.objs.size + 1) s.heap.objs.size 0 .none → h'.get? s.heap.objs.size = some o → h'.objs.size = s.heap.objs.size + 2 →
      (∀ b o, s.heap.get? b = some o → h'.get? b = some o) → Q (.ref (s.heap.objs.size + 1)) { s with heap := h' }) :
    wpAny (model prog w) A (call (.type "enumerate") [v]) Q E s := by
  refine callType_new F.called_enumerate (by decide) (F.typeCall_enumerate_1 _) (F.newCall_enumerate_1 _) (fun obj => F.args_object_init_2 obj _) F.entry_enumerate_new
    (meets_enumerate_new1 B) ⟨h1, ?_⟩
  have hz : (s.heap.push o).objs.size = s.heap.objs.size + 1 := Heap.size_push ..
  show _ ∧ _
  rw [hz]
  have he : IsEnum ((s.heap.push o).push { cls := .type "enumerate", data := .fields #[.none, .bool false, .ref s.heap.objs.size, rawInt 0, .none, .none] }) (s.heap.objs.size + 1) s.heap.objs.size 0 .none := by
    have := Heap.get?_push_size (s.heap.push o) (o := { cls := .type "enumerate", data := .fields #[.none, .bool false, .ref s.heap.objs.size, rawInt 0, .none, .none] }) rfl
    rw [hz] at this; exact this
  refine ⟨⟨_, he, rfl⟩, h _ he (Heap.get?_push_of_some _ (Heap.get?_push_size _ B.free)) (by rw [Heap.size_push, hz]) fun b o x => Heap.get?_push_of_some _ (Heap.get?_push_of_some _ x)⟩
end PySem
namespace Pw
open PySem PySem.Spec L2
/-- the tuple at a, each item in a new pair -/
def IteT (K : PySem.W.Frag) (a : Addr) : It :=
  ⟨fun i H => ∃ (xs : List V) (x : V), SqT K H a xs ∧ xs[i]? = some x, fun i H v H' => ∃ T x, v = .ref T ∧ H T = Option.none ∧ H' = upd H T (.tup [.int (i : Nat), x]) ∧ ∀ xs, SqT K H a xs → xs[i]? = some x, fun i H => ∃ xs : List V, SqT K H a xs ∧ xs.length ≤ i⟩
theorem turn_enumT {P : Program} {w : World} {K : PySem.W.Frag} {elts : List Expr} {kk : Nat} {tpos : Pos} (a e it : Addr) (hat : a ≠ it) (hae : a ≠ e) :
    Turn P w K (.Tuple elts kk tpos) (IteT K a) [e, it] e (fun i h => (∃ old, IsEnum h e it ((i : Nat) : Int) old) ∧ h.IsTupleIter it a i ∧ e ≠ it) where
  mem := by simp
  obj := fun i h st b hb => by
    obtain ⟨⟨old, he⟩, ⟨o, ho, hc, hd⟩, _⟩ := st
    have e' : b = e ∨ b = it := by simpa using hb
    rcases e' with z | z
    · rw [z]; exact ⟨_, he, fun v q => nomatch q⟩
    · rw [z]; exact ⟨o, ho, fun v q => by rw [hd] at q; cases q⟩
  keep := fun i h h' st k => let ⟨⟨old, he⟩, hi, hne⟩ := st; ⟨⟨old, k e (by simp) _ he⟩, hi.at fun o q => k it (by simp) o q, hne⟩
  item := by
    intro X hP hw hK hc i pins s σ H E I hf st hg
    subst hP hw hK
    obtain ⟨⟨old, he⟩, hit, hne⟩ := st
    obtain ⟨xs, x, hq, hx⟩ := hg
    obtain ⟨its, rv, p, hz⟩ := I.tuple hq
    obtain ⟨u, hu, ru⟩ := rv.get hx
    have hel : e < s.heap.objs.size := Heap.lt_size he
    have hil : it < s.heap.objs.size := by obtain ⟨_, q, _⟩ := hit; exact Heap.lt_size q
    have hi : i < its.toArray.size := by
      obtain ⟨q, _⟩ := List.getElem?_eq_some_iff.mp hu
      simpa using q
    refine wpAny_pyNext_enum_itemD (Draws.tuple (A := X.A.in1) (show X.A.in1.handled = Option.none from I.ok.hd hc) it a hat its.toArray) he ⟨hit, show s.heap.IsTuple a its.toArray from p⟩ hi hne (by simp [hne, Ne.symm hae]) fun u' h' tk hu' ho hit' hT hsz hk => ?_
    have eu : u' = u := by
      have : its[i]? = some u' := by simpa using hu'
      rw [hu] at this
      exact (Option.some.inj this).symm
    subst eu
    refine ⟨_, rfl, wpAny_letOwnedTupleGo_enum (s := { s with heap := h', toks := tk + 1 }) ho fun h'' he' sb => ?_⟩
    have hT2 : h''.get? s.heap.objs.size = some { cls := .type "tuple", data := .seq #[.int i tk, u'] } := (sb.2 _ (Nat.ne_of_gt hel)).trans hT
    have new : ObjOk X.prog X.w (upd H s.heap.objs.size (.tup [.int (i : Nat), x])) h'' s.heap.objs.size (.tup [.int (i : Nat), x]) :=
      ⟨by show 2 ≤ sizeLine; decide, [.int i tk, u'], .cons ⟨_, rfl⟩ (.cons ru .nil), ⟨_, hT2, rfl, _, rfl⟩⟩
    have I1 : Inv X pins σ (upd H s.heap.objs.size (.tup [.int (i : Nat), x])) { s with heap := h'', toks := tk + 1 } :=
      I.turnedNew (ch := [e, it]) (fun b ob hb q => (sb.2 b (fun z => hb (by simp [z]))).trans (hk b ob (fun z => hb (by simp [z])) (fun z => hb (by simp [z])) q)) hf (Nat.le_refl _) new
    refine ⟨.ref s.heap.objs.size, _, I1, rfl, ⟨_, x, rfl, I.hok.fresh (Nat.le_refl _), rfl, fun ys hy => by rw [I.tuple_inj hy hq]; exact hx⟩, ⟨⟨u', ?_⟩, hit'.1.at fun o q => (sb.2 it (Ne.symm hne)).trans q, hne⟩, fun b hb => ?_⟩
    · have e1 : ((i + 1 : Nat) : Int) = (i : Int) + 1 := by omega
      rw [e1]; exact he'
    · have hb' : b < s.heap.objs.size := by
        have e' : b = e ∨ b = it := by simpa using hb
        rcases e' with z | z
        · rw [z]; exact hel
        · rw [z]; exact hil
      rw [upd_ne (Nat.ne_of_lt hb')]
      exact (hf b hb).1
  done := by
    intro X hP hw hK hc i pins s σ H E I hf st hg
    subst hP hw hK
    obtain ⟨⟨old, he⟩, hit, hne⟩ := st
    obtain ⟨xs, hq, hx⟩ := hg
    obtain ⟨its, rv, p, hz⟩ := I.tuple hq
    obtain ⟨f0, f1, f2, f3, f4, f5⟩ := hf it (by simp)
    have hl := rv.length
    have hT : s.TypeIs (.ref e) "enumerate" := ⟨_, he, rfl⟩
    unfold pyNext
    refine wpAny_bind (wpAny_attempt (wpAny_callSpecial?_slot (name := Str.ofString "__next__") hT F.slot_enumerate_next
      (wpAny_call_entry F.slot_enumerate_next hT F.entry_enumerate_next ?_ (F.args_enumerate_next_1 _))))
    show wpAny _ _ (PySem.field (.ref e) 2 >>= _) _ _ _
    refine wpAny_bind (wpAny_field he rfl (x := .ref it) rfl ?_)
    refine wpAny_bind (wpAny_nextOf_tuple_end (I.ok.hd hc) hit (show s.heap.IsTuple a its.toArray from p) (by simp; omega) fun h' x he' hx' => ?_)
    obtain ⟨o, ho, hcl⟩ := hx'
    refine wpAny_bind (wpAny_isInstance (T := "StopIteration") (b := true) ⟨o, ho, hcl⟩ isSubtype_stop ?_)
    exact wpAny_pure ⟨rfl, I.turned (t' := s.toks) (fun b o hb q => he' b o hb q) f0 f1 f3 f4 f5⟩
  self := fun A i s Q E st h => let ⟨⟨_, he⟩, _⟩ := st; wpAny_pyIter_enum he h
def iEnumB (K : PySem.W.Frag) (ta : TA) : TI := fun σ H R => ta σ H fun vs H1 => ∃ a xs, vs = [.ref a] ∧ ((SqL K H1 a xs ∧ R (Ite K a) H1) ∨ (SqT K H1 a xs ∧ R (IteT K a) H1))
theorem pi_enumB {X : Cx} {e : Expr} {ta : TA} {p pos tpos : Pos} {elts : List Expr} {kk : Nat} (hg : Gl X "enumerate") (hm : X.mg "enumerate" = Option.none) (ha : PA X [e] ta) (hs : starEach [e] X.env = [(false, eval e X.env)] := by rfl) :
    PI X (.Tuple elts kk tpos) (.Call (.Name "enumerate" p) [e] [] pos) (iEnumB X.K ta) := by
  refine ⟨fun pins s σ H R I h => ?_⟩
  refine PyProof.Rows.Call_ (ld_blt I hg hm PyProof.Rows.boot_enumerate (PyProof.Rows.callWith_type1 (thn (ha.run pos pins s σ H _ I h) fun us s1 ⟨vs, H1, I1, r1, q1⟩ => ?_) hs rfl))
  obtain ⟨a, xs, ex, q⟩ := q1
  subst ex
  cases r1 with
  | cons r rr =>
    cases rr
    cases r
    rcases q with ⟨hq, q⟩ | ⟨hq, q⟩
    · obtain ⟨its, rv, p', hz⟩ := I1.list hq
      refine call_enumerate_list p'.isList fun h' he hit hsz hk => wpAny_pyIter_enum he ?_
      have I2 : Inv X pins σ H1 { s1 with heap := h' } := I1.kept (t' := s1.toks) hk
      refine ⟨s1.heap.objs.size + 1, [s1.heap.objs.size + 1, s1.heap.objs.size], _, _, H1, rfl, I2, turn_enum a (s1.heap.objs.size + 1) s1.heap.objs.size, ⟨⟨.none, he⟩, hit, Nat.succ_ne_self _⟩, fun b hb => ?_, q⟩
      have e' : b = s1.heap.objs.size + 1 ∨ b = s1.heap.objs.size := by simpa using hb
      have hle : s1.heap.objs.size ≤ b := by
        rcases e' with z | z
        · rw [z]; exact Nat.le_add_right _ _
        · rw [z]; exact Nat.le_refl _
      exact I1.fpOk hle (I1.hok.fresh hle)
    · obtain ⟨its, rv, p', hz⟩ := I1.tuple hq
      have hal : a < s1.heap.objs.size := by obtain ⟨o, ho, _⟩ := id p'; exact Heap.lt_size ho
      refine enum_begins1 (begins_tuple a its.toArray) (show s1.heap.IsTuple a its.toArray from p') fun h' he hit hsz hk => wpAny_pyIter_enum he ?_
      have I2 : Inv X pins σ H1 { s1 with heap := h' } := I1.kept (t' := s1.toks) hk
      refine ⟨s1.heap.objs.size + 1, [s1.heap.objs.size + 1, s1.heap.objs.size], _, _, H1, rfl, I2, turn_enumT a (s1.heap.objs.size + 1) s1.heap.objs.size (Nat.ne_of_lt hal) (Nat.ne_of_lt (Nat.lt_succ_of_lt hal)), ⟨⟨.none, he⟩, ⟨_, hit, rfl, rfl⟩, Nat.succ_ne_self _⟩, fun b hb => ?_, q⟩
      have e' : b = s1.heap.objs.size + 1 ∨ b = s1.heap.objs.size := by simpa using hb
      have hle : s1.heap.objs.size ≤ b := by
        rcases e' with z | z
        · rw [z]; exact Nat.le_add_right _ _
        · rw [z]; exact Nat.le_refl _
      exact I1.fpOk hle (I1.hok.fresh hle)
def enumD (ds : List Dat) : List Dat := (List.range ds.length).map fun (k : Nat) => Dat.tup [.int (k : Int), (ds[k]?).getD .non]
def dEnum (d : DA) : DA := fun δ P => d δ fun xs => ∃ ds, (xs = [.lst ds] ∨ xs = [.tup ds]) ∧ P (enumD ds)
theorem enumD_at {ds : List Dat} {i : Nat} {d : Dat} (h : (enumD ds)[i]? = some d) : ∃ x, ds[i]? = some x ∧ d = .tup [.int (i : Int), x] := by
  unfold enumD at h
  rw [List.getElem?_map] at h
  cases q : (List.range ds.length)[i]? with
  | none =>
    rw [q] at h
    cases h
  | some k =>
    rw [q] at h
    obtain ⟨hi, e⟩ := List.getElem?_eq_some_iff.mp q
    rw [List.getElem_range] at e
    subst e
    rw [List.length_range] at hi
    have e2 := List.getElem?_eq_getElem hi
    have h2 : Dat.tup [.int (i : Int), (ds[i]?).getD .non] = d := Option.some.inj h
    rw [e2] at h2
    exact ⟨_, e2, h2.symm⟩
theorem enumD_len {ds : List Dat} : (enumD ds).length = ds.length := by simp [enumD]
theorem enum_ok {K : PySem.W.Frag} {F : Hp} {J : It} {ds : List Dat} {xs : List V} (r : RpL K F xs ds)
    (hg : ∀ i F1 H1, Same F F1 → Same F1 H1 → ∀ x, xs[i]? = some x → J.go i H1)
    (hy : ∀ i F1 H1 v H2, Same F F1 → Same F1 H1 → J.yld i H1 v H2 → ∃ T x, v = .ref T ∧ H1 T = Option.none ∧ H2 = upd H1 T (.tup [.int (i : Nat), x]) ∧ xs[i]? = some x)
    (hs : ∀ i F1 H1, Same F F1 → Same F1 H1 → xs.length ≤ i → J.stop i H1) : ItOk K J F (enumD ds) where
  go := fun i F1 H1 f s hi => by
    rw [enumD_len, ← r.length] at hi
    exact hg i F1 H1 f s _ (List.getElem?_eq_getElem hi)
  yld := fun i F1 H1 v H2 f s y d hd => by
    obtain ⟨T, x, rfl, hT, rfl, hx⟩ := hy i F1 H1 v H2 f s y
    obtain ⟨z, hz, rfl⟩ := enumD_at hd
    obtain ⟨u, hu, ru⟩ := r.get hz
    have hx' := hu.symm.trans hx
    cases hx'
    have hF : F1 T = Option.none := s.free hT
    exact ⟨upd F1 T (.tup [.int (i : Nat), x]), Ext.new s hT, .tup upd_same (.cons (.int _) (.cons ((ru.mono f).mono (upd_same' hF)) .nil))⟩
  stop := fun i F1 H1 f s hi => by
    rw [enumD_len, ← r.length] at hi
    exact hs i F1 H1 f s hi
theorem xi_enum {X : Cx} {e : Expr} {d : DA} {p pos tpos : Pos} {elts : List Expr} {kk : Nat} (hm : X.mg "enumerate" = Option.none) (ha : XA X [e] d) (hg : Gl X "enumerate" := by rfl) (hs : starEach [e] X.env = [(false, eval e X.env)] := by rfl) :
    XI X (.Tuple elts kk tpos) (.Call (.Name "enumerate" p) [e] [] pos) (dEnum d) := xi_of (pi_enumB hg hm ha hs) fun F0 H0 F H σ δ P S hd R q => by
  refine snd_tDA d F0 H0 F H σ δ _ S hd _ fun vs F1 H1 xs e1 rv ⟨ds, ex, hp⟩ => ?_
  rcases ex with ex | ex
  · subst ex
    obtain ⟨v, rfl, rw⟩ : ∃ v, vs = [v] ∧ Rp X.K F1 v (.lst ds) := by
      cases rv with
      | cons h r =>
        cases r
        exact ⟨_, rfl, h⟩
    obtain ⟨a, ys, rfl, hy, r⟩ := rw.of_lst
    refine ⟨a, ys, rfl, .inl ⟨SqL.of (e1.s _ _ hy), q _ F1 H1 _ e1 (enum_ok r (fun i F2 H2 f s x hx => ⟨ys, x, SqL.of (s _ _ (f _ _ hy)), hx⟩) (fun i F2 H2 v H3 f s ⟨T, x, h1, h2, h3, h4⟩ => ⟨T, x, h1, h2, h3, h4 ys (SqL.of (s _ _ (f _ _ hy)))⟩) fun i F2 H2 f s hi => ⟨ys, SqL.of (s _ _ (f _ _ hy)), hi⟩) hp⟩⟩
  · subst ex
    obtain ⟨v, rfl, rw⟩ : ∃ v, vs = [v] ∧ Rp X.K F1 v (.tup ds) := by
      cases rv with
      | cons h r =>
        cases r
        exact ⟨_, rfl, h⟩
    obtain ⟨a, ys, rfl, hy, r⟩ := rw.of_tup
    refine ⟨a, ys, rfl, .inr ⟨SqT.of (e1.s _ _ hy), q _ F1 H1 _ e1 (enum_ok r (fun i F2 H2 f s x hx => ⟨ys, x, SqT.of (s _ _ (f _ _ hy)), hx⟩) (fun i F2 H2 v H3 f s ⟨T, x, h1, h2, h3, h4⟩ => ⟨T, x, h1, h2, h3, h4 ys (SqT.of (s _ _ (f _ _ hy)))⟩) fun i F2 H2 f s hi => ⟨ys, SqT.of (s _ _ (f _ _ hy)), hi⟩) hp⟩⟩
end Pw
set_option Elab.async false
set_option linter.all false
set_option maxRecDepth 100000
set_option maxHeartbeats 1000000
/-! A comprehension with two iterations; min; count(None); list(range). -/
namespace Pw
open PySem PySem.Spec L2
/-- no own object in the slots -/
def Clean (δ : List Sl) : Prop := ∀ s ∈ δ, s = .no ∨ ∃ x, s = .d x
theorem Stt.clean {K : PySem.W.Frag} {F0 H0 F H F1 H1 F' H' : Hp} {σ : L2.St} {δ : List Sl} (S : Stt K F0 H0 F H σ δ) (c : Clean δ) (e : Ext F1 H1 F' H') (f : ∀ v x, Rp K F v x → Rp K F' v x) : Stt K F1 H1 F' H' σ δ := by
  obtain ⟨fp, h1, h2, h3⟩ := S.own
  refine ⟨e, S.len, fun _ _ => False, fun _ _ z => z.elim, fun _ _ _ z => z.elim, fun i s hs => ?_⟩
  have q := h3 i s hs
  rcases c s (List.mem_of_getElem? hs) with z | ⟨x, z⟩
  · subst z
    trivial
  · subst z
    obtain ⟨v, hv, r⟩ := q
    exact ⟨v, hv, f _ _ r⟩
def dLc2 (di : DA) (dg : DG) (dt : DT) (di1 : DA) (dg1 : DG) (dt1 : DT) (de : DE) (vs vs1 : List Nat) : DA := fun δ P => di δ fun items => ∃ I : Nat → List Dat → Prop, I 0 [] ∧
  (∀ k x acc, items[k]? = some x → I k acc → dg x (wipeD δ vs) fun δ2 => dt δ2 fun b => if b = true then Clean δ2 ∧ di1 δ2 fun items1 => ∃ J : Nat → List Dat → Prop, J 0 acc ∧
    (∀ j y acc', items1[j]? = some y → J j acc' → dg1 y (wipeD δ2 vs1) fun δ3 => dt1 δ3 fun b1 => if b1 = true then de δ3 fun z => acc'.length < 100000 ∧ J (j + 1) (acc' ++ [z]) else J (j + 1) acc') ∧ ∀ acc', J items1.length acc' → I (k + 1) acc'
    else I (k + 1) acc) ∧ ∀ acc, I items.length acc → P acc
theorem snd_lc2 {K : PySem.W.Frag} {di di1 : DA} {dg dg1 : DG} {dt dt1 : DT} {de : DE} {vs vs1 : List Nat} : SndN K (tLc2 (tDI K di) (tDG K vs dg) (tDT K dt) (tDI K di1) (tDG K vs1 dg1) (tDT K dt1) (tD K de) vs vs1) (dLc2 di dg dt di1 dg1 dt1 de vs vs1) := fun F0 H0 F H σ δ P S hd Q q =>
  snd_tDI di F0 H0 F H σ δ _ S hd _ fun J F1 H1 items e1 ok ⟨I, i0, turn, fin⟩ => by
    intro D hD
    have S1 := S.grow e1
    refine ⟨fun i m H' => ∃ F' ys acc, m = items.length - i ∧ i ≤ items.length ∧ Ext F1 H1 F' H' ∧ F' D = Option.none ∧ H' D = some (.lst ys) ∧ RpL K F' ys acc ∧ I i acc, ⟨items.length, F1, [], [], by simp, Nat.zero_le _, Ext.own e1.s hD, e1.s.free hD, upd_same, .nil, i0⟩, ?_⟩
    rintro i m H' ⟨F', ys, acc, rfl, hi, ex, hF, hH, ry, hI⟩
    by_cases hlt : i < items.length
    · refine Or.inr ⟨ok.go i F' H' ex.f ex.s hlt, fun H2 => ∃ F' ys acc, Ext F1 H1 F' H2 ∧ F' D = Option.none ∧ H2 D = some (.lst ys) ∧ RpL K F' ys acc ∧ I (i + 1) acc, fun H2 ⟨F', ys, acc, h⟩ => ⟨items.length - (i + 1), by omega, F', ys, acc, rfl, hlt, h⟩, fun v H2 y => ?_⟩
      have hx : items[i]? = some items[i] := List.getElem?_eq_getElem hlt
      obtain ⟨F2, e2, rv⟩ := ok.yld i F' H' v H2 ex.f ex.s y _ hx
      refine snd_tDG vs dg F0 H0 F2 H2 _ _ v _ _ (((S1.grow ex).grow e2).wipe vs) rv (turn i _ acc hx hI) _ fun σ3 δ3 S3 w3 h3 => ⟨w3.trans (wipe_wipe σ vs), ?_⟩
      refine snd_tDT dt F0 H0 F2 H2 σ3 δ3 _ S3 h3 _ fun b F3 H3 e3 hb => ?_
      have hF2 : F2 D = Option.none := e2.keep hF hH
      have hH2 := e2.h _ _ hH
      have hF3 : F3 D = Option.none := e3.keep hF2 hH2
      have hH3 := e3.h _ _ hH2
      have ry3 := (ry.mono e2.f).mono e3.f
      have ex3 := (ex.trans e2).trans e3
      cases b with
      | true =>
        obtain ⟨hc, hb⟩ := hb
        refine snd_tDI di1 F0 H0 F3 H3 σ3 δ3 _ (S3.grow e3) hb _ fun J1 F4 H4 items1 e4 ok1 ⟨I1, i01, turn1, fin1⟩ => ?_
        have hF4 : F4 D = Option.none := e4.keep hF3 hH3
        have hH4 := e4.h _ _ hH3
        have S4 := (S3.grow e3).grow e4
        refine ⟨fun j m H' => ∃ F' ys acc, m = items1.length - j ∧ j ≤ items1.length ∧ Ext F1 H1 F' H' ∧ Stt K F0 H0 F' H' σ3 δ3 ∧ Same F4 F' ∧ F' D = Option.none ∧ H' D = some (.lst ys) ∧ RpL K F' ys acc ∧ I1 j acc, ⟨items1.length, F4, ys, acc, by simp, Nat.zero_le _, ex3.trans e4, S4, Same.refl _, hF4, hH4, ry3.mono e4.f, i01⟩, ?_⟩
        rintro j m H' ⟨F', ys, acc, rfl, hj, ex', S', sf, hF, hH, ry, hI⟩
        by_cases hlt1 : j < items1.length
        · refine Or.inr ⟨ok1.go j F' H' sf ex'.s hlt1, fun H2 => ∃ F' ys acc, Ext F1 H1 F' H2 ∧ Stt K F0 H0 F' H2 σ3 δ3 ∧ Same F4 F' ∧ F' D = Option.none ∧ H2 D = some (.lst ys) ∧ RpL K F' ys acc ∧ I1 (j + 1) acc, fun H2 ⟨F', ys, acc, h⟩ => ⟨items1.length - (j + 1), by omega, F', ys, acc, rfl, hlt1, h⟩, fun v H2 y => ?_⟩
          have hx1 : items1[j]? = some items1[j] := List.getElem?_eq_getElem hlt1
          obtain ⟨F5, e5, rv⟩ := ok1.yld j F' H' v H2 sf ex'.s y _ hx1
          have S5 := S'.grow e5
          refine snd_tDG vs1 dg1 F0 H0 F5 H2 _ _ v _ _ (S5.wipe vs1) rv (turn1 j _ acc hx1 hI) _ fun σ6 δ6 S6 w6 h6 => ⟨w6.trans (wipe_wipe σ3 vs1), ?_⟩
          refine snd_tDT dt1 F0 H0 F5 H2 σ6 δ6 _ S6 h6 _ fun b1 F7 H7 e7 hb1 => ?_
          have hF5 : F5 D = Option.none := e5.keep hF hH
          have hH5 := e5.h _ _ hH
          have hF7 : F7 D = Option.none := e7.keep hF5 hH5
          have hH7 := e7.h _ _ hH5
          cases b1 with
          | true =>
            refine snd_tD de F0 H0 F7 H7 σ6 δ6 _ (S6.grow e7) hb1 _ fun w F8 H8 z e8 rz hz => ?_
            have hF8 : F8 D = Option.none := e8.keep hF7 hH7
            have hH8 := e8.h _ _ hH7
            have g1 := (e5.trans e7).trans e8
            have S8 := S'.grow g1
            have hm := (((ex'.trans e5).trans e7).trans e8).mut (o := .lst (ys ++ [w])) hD hF8
            exact ⟨ys, hH8, sz100000 (by rw [ry.length]; exact hz.1), F8, ys ++ [w], acc ++ [z], hm, S8.clean hc (S1.ext.trans hm) (fun _ _ h => h), sf.trans g1.f, hF8, upd_same, (ry.mono g1.f).snoc rz, hz.2⟩
          | false => exact ⟨F7, ys, acc, (ex'.trans e5).trans e7, S'.grow (e5.trans e7), sf.trans (e5.trans e7).f, hF7, hH7, (ry.mono e5.f).mono e7.f, hb1⟩
        · have e : j = items1.length := by omega
          subst e
          exact Or.inl ⟨ok1.stop _ F' H' sf ex'.s (Nat.le_refl _), F', ys, acc, ex', hF, hH, ry, fin1 acc hI⟩
      | false => exact ⟨F3, ys, acc, ex3, hF3, hH3, ry3, hb⟩
    · have e : i = items.length := by omega
      subst e
      exact Or.inl ⟨ok.stop _ F' H' ex.f ex.s (Nat.le_refl _), q D ys F' H' acc (e1.trans ex) (e1.h.free hD) hF hH ry (fin acc hI)⟩
section
variable {X : Cx} {pos p p2 apos cpos npos : Pos} {e eb ef : Expr} {x : Str}
theorem xn_lc2 {elt tg iter tg1 iter1 : Expr} {ifs ifs1 : List Expr} {scope : Scope} {own : List (Str × Nat)} {vs1 : List Nat} {di di1 : DA} {dg dg1 : DG} {dt dt1 : DT} {de : DE} (hc : X.calm = true) (hN : X.N.Nodup) (hi : XI X tg iter di) (ok : BlkOk X.N X.env.scope scope own)
    (hg : ∀ (s : Shared) (H : Hp) (C : Addr) (cl : List (Str × Addr)) (fp : List Addr), XG (X.blk s H scope (compEnvC scope cl C X.env) fp) (own.map (·.2)) tg dg) (ht : ∀ (s : Shared) (H : Hp) (C : Addr) (cl : List (Str × Addr)) (fp : List Addr), XTs (X.blk s H scope (compEnvC scope cl C X.env) fp) ifs dt)
    (hi1 : ∀ (s : Shared) (H : Hp) (C : Addr) (cl : List (Str × Addr)) (fp : List Addr), XI (X.blk s H scope (compEnvC scope cl C X.env) fp) tg1 iter1 di1)
    (hg1 : ∀ (s : Shared) (H : Hp) (C : Addr) (cl : List (Str × Addr)) (fp : List Addr), XG (X.blk s H scope (compEnvC scope cl C X.env) fp) vs1 tg1 dg1) (ht1 : ∀ (s : Shared) (H : Hp) (C : Addr) (cl : List (Str × Addr)) (fp : List Addr), XTs (X.blk s H scope (compEnvC scope cl C X.env) fp) ifs1 dt1)
    (he : ∀ (s : Shared) (H : Hp) (C : Addr) (cl : List (Str × Addr)) (fp : List Addr), XE (X.blk s H scope (compEnvC scope cl C X.env) fp) elt de) (hv : ∀ i ∈ vs1, i ∈ own.map (·.2) := by decide) (hs : ∀ x, foldedSetIterable iter X.env x = pure x := by intro _; rfl) (hs1 : ∀ env x, foldedSetIterable iter1 env x = pure x := by intro _ _; rfl) :
    XN X (.ListComp elt [⟨tg, iter, ifs, 0⟩, ⟨tg1, iter1, ifs1, 0⟩] scope pos) (dLc2 di dg dt di1 dg1 dt1 de (own.map (·.2)) vs1) := xn_of (pe_lc2 (g := tDG X.K (own.map fun q : Str × Nat => q.2) dg) (tt := tDT X.K dt) (wi1 := tDI X.K di1) (g1 := tDG X.K vs1 dg1) (tt1 := tDT X.K dt1) (te := tD X.K de) hc hN hi ok hv hg ht hi1 hg1 ht1 he hs hs1) snd_lc2
/-! ### min of a list or a tuple of ints -/
def rMinT (K : PySem.W.Frag) : List V → Hp → VK → Prop := fun vs H Q => ∃ (a : Addr) (ns : List Int), vs = [V.ref a] ∧ SqT K H a (ns.map V.int) ∧ 0 < ns.length ∧ ∀ m, m ∈ ns → Q (.int m) H
theorem ints_reads {h : Heap} : ∀ {us : List Value} {ns : List Int}, PyProof.Rows.IntsAre us ns → ReadsAll h us (ns.map PyData.int) []
  | [], ns, r => by
    have e : ns = [] := List.length_eq_zero_iff.mp r.length.symm
    subst e
    exact .nil
  | u :: us, [], r => by
    have := r.length
    simp at this
  | u :: us, n :: ns, r => by
    have r0 : ∃ t, u = .int n t := by
      cases r with
      | cons t _ => exact ⟨_, rfl⟩
    have r1 : PyProof.Rows.IntsAre us ns := by
      cases r with
      | cons _ h => assumption
    obtain ⟨t, rfl⟩ := r0
    exact .cons (as := []) (bs := []) (.int n t) (ints_reads r1)
theorem depth_ints : ∀ ns : List Int, PyData.depthAll (ns.map PyData.int) ≤ 1
  | [] => by decide
  | n :: ns => by
    have := depth_ints ns
    show max (PyData.depth (.int n)) (PyData.depthAll (ns.map PyData.int)) ≤ 1
    have e : PyData.depth (.int n) ≤ 1 := by simp [PyData.depth]
    omega
theorem cr_minT (hc : X.calm = true) (hu : X.A.units + 3 < cLine) : CallR X (.builtin "min") (rMinT X.K) := by
  intro pins s σ H vs us Q I r h
  obtain ⟨a, ns, rfl, hs, hne, q⟩ := h
  obtain ⟨its, hi, pl, hz⟩ := intsT I hs
  rw [Vals.ref1 r]
  cases ns with
  | nil => exact absurd hne (by decide)
  | cons n ns =>
    have hd := depth_ints (n :: ns)
    refine PySem.W.min_tuple_data (x := .int n) (xs := ns.map .int) (as := []) (I.ok.hd hc) (show s.heap.IsTuple a its.toArray from pl) (by simpa using ints_reads hi) ⟨fun x hx y hy => ?_, fun x hx => ?_⟩ (by have : PyData.depthAll (PyData.int n :: ns.map .int) ≤ 1 := hd; omega) fun i v h' tk bs hv hr hk => ?_
    · have e1 : ∃ i, x = .int i := by
        rcases List.mem_cons.mp hx with z | z
        · exact ⟨n, z⟩
        · obtain ⟨k, _, e⟩ := List.mem_map.mp z
          exact ⟨k, e.symm⟩
      have e2 : ∃ i, y = .int i := by
        rcases List.mem_cons.mp hy with z | z
        · exact ⟨n, z⟩
        · obtain ⟨k, _, e⟩ := List.mem_map.mp z
          exact ⟨k, e.symm⟩
      obtain ⟨i, rfl⟩ := e1
      obtain ⟨j, rfl⟩ := e2
      exact rfl
    · rcases List.mem_cons.mp hx with z | z
      · rw [z]
        nofun
      · obtain ⟨k, _, e⟩ := List.mem_map.mp z
        rw [← e]
        nofun
    · have hv' : its[i]? = some v := by simpa using hv
      obtain ⟨m, t, e, hm⟩ := hi.at i v hv'
      exact ⟨.int m, H, I.kept (t' := tk) hk, ⟨t, e⟩, q m (List.mem_of_getElem? hm)⟩
end
end Pw
set_option Elab.async false
set_option linter.all false
set_option maxRecDepth 100000
set_option maxHeartbeats 1000000
/-! list.count(None) of a dealing; list(range(n)); names for the law's data. -/
namespace Pw
open PySem PySem.Spec L2
/-- a pair of seats, a send, a step -/
abbrev dPair (p : Int × Int) : Dat := tI [p.1, p.2]
/-- an entry of a dealing -/
def pr : Option (Int × Int) → Dat
  | Option.none => .non
  | some p => tI [p.1, p.2]
theorem pr_none : pr Option.none = .non := rfl
theorem pr_some (p : Int × Int) : pr (some p) = tI [p.1, p.2] := rfl
/-- a dealing -/
abbrev prs (D : List (Option (Int × Int))) : Dat := .lst (D.map pr)
def prPy : Option (Int × Int) → PyData
  | Option.none => .none
  | some p => .tuple [.int p.1, .int p.2]
theorem pr_py (p : Option (Int × Int)) : toPy (pr p) = some (prPy p) := by
  cases p with
  | none => rfl
  | some p => rfl
theorem prs_py : ∀ D : List (Option (Int × Int)), toPyL (D.map pr) = some (D.map prPy)
  | [] => rfl
  | p :: D => by
    have h := prs_py D
    have h1 := pr_py p
    show toPyL (pr p :: D.map pr) = _
    unfold toPyL
    rw [h1, h]
    rfl
theorem prPy_plain : ∀ D : List (Option (Int × Int)), PyData.plainAll (D.map prPy) = true
  | [] => rfl
  | p :: D => by
    have h := prPy_plain D
    cases p with
    | none => exact h
    | some p => exact h
theorem prPy_count : ∀ D : List (Option (Int × Int)), (D.map prPy).countP (fun y => PyData.eqv y .none) = D.count Option.none
  | [] => rfl
  | p :: D => by
    rw [List.map_cons, List.countP_cons, List.count_cons, prPy_count D]
    cases p with
    | none => rfl
    | some p => rfl
section
variable {X : Cx} {pos p p2 apos cpos npos : Pos} {e eb ef a : Expr} {x : Str}
def rCntN (K : PySem.W.Frag) : V → List V → Hp → VK → Prop := fun x xs H Q => ∃ (p : Addr) (vs : List V) (ds : List PyData), x = .ref p ∧ xs = [.non] ∧ SqL K H p vs ∧ DpAll K H vs ds ∧ PyData.plainAll ds = true ∧ Q (.int ((ds.countP fun y => PyData.eqv y .none : Nat) : Int)) H
theorem mt_countN (hu : X.A.units + 64 < cLine) : MtR X "list.count" (rCntN X.K) := by
  intro pins s σ H x xs v us Q I rx rxs h
  obtain ⟨p, vs, ds, rfl, rfl, hs, hd, hp, q⟩ := h
  cases rx
  obtain ⟨u, rfl, ru⟩ := rxs.one
  cases ru
  obtain ⟨its, rv, hl, hlen⟩ := I.list hs
  obtain ⟨as, rs⟩ := Dp.readsAll I ds vs its hd rv
  have hu2 : X.A.units + 1 + min (PyData.depthAll ds) (PyData.depth .none) < cLine := by
    have h1 : PyData.depth .none ≤ 1 := by decide
    have h2 := Nat.min_le_right (PyData.depthAll ds) (PyData.depth .none)
    omega
  refine SeqAt.count_list_data (d := .none) hl.isList (by simpa using rs) Reads.none hp rfl hu2 ⟨.int _, H, I.tok _, ⟨s.toks, rfl⟩, q⟩
def dCntN (d : DE) : DE := fun δ P => d δ fun x => ∃ D, x = prs D ∧ P (.int ((D.count Option.none : Nat) : Int))
theorem xe_countN {d : DE} {j} (hu : X.A.units + 64 < cLine) (ho : XE X e d)
    (m : BM X e (.Constant .none j npos) "count" apos cpos := by exact ⟨rfl, rfl, rfl, rfl, rfl⟩) :
    XE X (.Call (.Attribute e "count" apos) [.Constant .none j npos] [] cpos) (dCntN d) := xe_of (pe_bm (t := tCons (tD X.K (dC .non)) tNil) PySem.F.plainAttrs_list PySem.F.slot_list_count PySem.F.type_list_count (mt_countN hu) ho (pa_cons xnon pa_nil m.st) m.base m.few m.line m.st m.pl) fun F0 H0 F H σ δ P S hd Q q => by
  refine snd_tD d F0 H0 F H σ δ _ S hd _ fun v F1 H1 x e1 rx ⟨D, ex, hp⟩ => ?_
  subst ex
  obtain ⟨a, ys, rfl, hy, r⟩ := rx.of_lst
  refine ⟨Or.inl ⟨rfl, ys, SqL.of (e1.s _ _ hy)⟩, ?_⟩
  refine snd_tD (dC .non) F0 H0 F1 H1 σ δ (fun x => x = .non) (S.grow e1) rfl _ fun v F2 H2 y e2 ry ey => ?_
  subst ey
  have ev := ry.of_non
  subst ev
  have hy2 := e2.f _ _ hy
  refine ⟨a, ys, D.map prPy, rfl, rfl, SqL.of (e2.s _ _ hy2), dps_of e2.s (r.mono e2.f) (prs_py D), prPy_plain D, ?_⟩
  rw [prPy_count]
  exact q _ F2 H2 _ (e1.trans e2) (.int _) hp
/-- list(range(n)) -/
def dListR (d : DE) : DA := fun δ P => d δ fun x => ∃ n, x = .int n ∧ 0 ≤ n ∧ n ≤ 1000000 ∧ P (rngD 0 n.toNat)
theorem xn_listR {d : DE} {pos2 : Pos} (hc : X.calm = true) (hm : X.mg "list" = Option.none) (hm2 : X.mg "range" = Option.none) (ha : XE X a d) (hg : Gl X "list" := by rfl) (hg2 : Gl X "range" := by rfl)
    (na2 : starEach [a] X.env = (false, eval a X.env) :: starEach [] X.env := by rfl) (na : starEach [.Call (.Name "range" p2) [a] [] pos2] X.env = (false, eval (.Call (.Name "range" p2) [a] [] pos2) X.env) :: starEach [] X.env := by rfl) :
    XN X (.Call (.Name "list" p) [.Call (.Name "range" p2) [a] [] pos2] [] pos) (dListR d) := xn_of (pe_listRg hc hg hm (prg_1 hg2 hm2 ha na2) na) fun F0 H0 F H σ δ P S hd Q q => by
  refine snd_tD d F0 H0 F H σ δ _ S hd _ fun v F1 H1 x e1 rx ⟨n, ex, h0, h1, hp⟩ => ?_
  subst ex
  have ev := rx.of_int
  subst ev
  refine ⟨n, rfl, RgOk.of_le (by omega) (by omega) (by omega) h0, fun l hl => ?_⟩
  refine q l _ F1 _ (rngD 0 n.toNat) (e1.trans (Ext.own e1.s hl)) (e1.h.free hl) (e1.s.free hl) upd_same ?_ hp
  have e : rgV 0 n = ((List.range n.toNat).map fun (k : Nat) => (0 : Int) + (k : Int)).map V.int := by
    unfold rgV
    rw [List.map_map, Int.sub_zero]
    rfl
  have e' : rngD 0 n.toNat = ((List.range n.toNat).map fun (k : Nat) => (0 : Int) + (k : Int)).map Dat.int := by
    unfold rngD
    rw [List.map_map]
    rfl
  rw [e, e']
  exact RpL.of_ints _
end
end Pw
set_option Elab.async false
set_option linter.all false
set_option maxRecDepth 100000
set_option maxHeartbeats 1000000
/-! Own dicts of own lists: setdefault; handing back; a read dict as an argument. -/
namespace Pw
open PySem PySem.Spec L2
section
variable {X : Cx} {pins : List (Addr × Obj)} {σ : L2.St} {H : Hp} {s : Shared} {a b : Addr} {r : Value} {d : V} {k : List Key} {A : Around} {E : Value → Shared → Prop}
theorem d_setdT {kvs : List (List Key × V)} {Q : Value → Shared → Prop} (hu : A.units + 1 < cLine) (I : Inv X pins σ H s) (e : H a = some (.dT kvs)) (eb : H b = some (.tup (k.map kV))) (rd : RelV d r) (hl : kvs.length < sizeLine)
    (h1 : ∀ v, valV kvs k = some v → ∀ (w' : Value) (s' : Shared), Inv X pins σ H s' → RelV v w' → Q w' s') (h2 : valV kvs k = Option.none → ∀ (w' : Value) (s' : Shared), Inv X pins σ (upd H a (.dT (putK kvs k d))) s' → RelV d w' → Q w' s') :
    wpAny (model X.prog X.w) A (call (.builtin "dict.setdefault") [.ref a, .ref b, r]) Q E s := by
  obtain ⟨z, hd, xs, rel, dd⟩ := dt_of I.hok e
  have hz : xs.length ≤ sizeLine := by rw [← Paired.length rel]; exact z
  refine call_setdefault_heap (hsz := hz) (tupleKind_room_in1 hu) (key_of I.hok eb) hd dd (fun p hp => ?_) fun hn h' dd' hs => ?_
  · have q := rel.val k
    rw [hp] at q
    cases q0 : valV kvs k with
    | none =>
      rw [q0] at q
      exact (show False from q).elim
    | some v0 =>
      rw [q0] at q
      exact h1 v0 q0 _ _ (I.tok _) q
  · have q := rel.val k
    rw [hn] at q
    cases q0 : valV kvs k with
    | some v0 =>
      rw [q0] at q
      exact (show False from q).elim
    | none =>
      have hl2 : (putK kvs k d).length ≤ sizeLine := by
        have := length_putK kvs k d
        omega
      refine h2 q0 _ _ ?_ rd
      obtain ⟨q, es, ep, hq, h2, h3, h4, _, h5⟩ := dd'
      refine d_write I (by rw [e]; exact True.intro) hs ⟨q, hq⟩ ⟨hl2, hd, _, (rel.put k eb rd).keeps fun c ys ec => ?_, q, es, ep, hq, h2, h3, h4, h5⟩
      rw [upd_ne (ne_of ec e (fun z => nomatch z))]
      exact ec
end
/-- d.setdefault(y, z), y a tuple -/
def tDSetdT (td ty tx : TE) : TE := fun σ H Q => td σ H fun x H1 => ∃ a, x = .ref a ∧ IsD H1 a ∧ ty σ H1 fun y H2 => tx σ H2 fun z H3 => ∃ (kvs : List (List Key × V)) (k : List Key) (b : Addr), H3 a = some (.dT kvs) ∧ y = .ref b ∧ H3 b = some (.tup (k.map kV)) ∧ kvs.length < sizeLine ∧
  (∀ v, valV kvs k = some v → Q v H3) ∧ (valV kvs k = Option.none → Q z (upd H3 a (.dT (putK kvs k z))))
theorem pe_dsetdT {X : Cx} {o e f : Expr} {td ty tx : TE} {apos cpos : Pos} (hu : X.A.units + 1 < cLine) (ho : PE X o td) (he : PE X e ty) (hf : PE X f tx) (m : M2 X o "setdefault" apos e f cpos) : PE X (.Call (.Attribute o "setdefault" apos) [e, f] [] cpos) (tDSetdT td ty tx) := by
  refine ⟨fun pins s σ H Q I h => ?_⟩
  refine wpAny_Call_method m.base m.few m.line PySem.F.plainAttrs_dict PySem.F.slot_dict_setdefault PySem.F.type_dict_setdefault (thn (ho.run pins s σ H _ I h) fun u s1 ⟨x, H1, I1, rx, a, ex, d, q1⟩ => ?_)
  subst ex
  obtain rfl : u = Value.ref a := rx
  obtain ⟨t1, t2, _⟩ := isD_at I1 d
  refine ⟨t1, t2, ?_⟩
  rw [m.trees]
  refine Calls.callWith_builtin rfl (Calls.evalArgs_plain (Calls.spliced_cons (thn (he.run pins s1 σ H1 _ I1 q1) fun iv s2 ⟨y, H2, I2, ry, q2⟩ =>
    Calls.spliced_cons (thn (hf.run pins s2 σ H2 _ I2 q2) fun fv s3 ⟨z, H3, I3, rz, kvs, k, b, ea, ey, eb, hl, q3, q4⟩ => Calls.spliced_nil ?_))))
  subst ey
  obtain rfl : iv = Value.ref b := ry
  exact d_setdT hu I3 ea eb rz hl (fun v hv w' s4 I4 rw' => ⟨v, _, I4, rw', q3 v hv⟩) fun hn w' s4 I4 rw' => ⟨z, _, I4, rw', q4 hn⟩
/-! ### the table of lists -/
def addP (z : Dat) (p : Int × Int) : List ((Int × Int) × List Dat) → List ((Int × Int) × List Dat)
  | [] => []
  | (q, ds) :: r => if q = p then (q, ds ++ [z]) :: r else (q, ds) :: addP z p r
def initP (kvs : List ((Int × Int) × List Dat)) (p : Int × Int) : List ((Int × Int) × List Dat) := if (lookP kvs p).isSome then kvs else kvs ++ [(p, [])]
section
variable {K : PySem.W.Frag} {F H : Hp} {fp : Addr → Prop}
theorem lookP_cons {α : Type} {p q : Int × Int} {x : α} {kvs : List ((Int × Int) × α)} : lookP ((q, x) :: kvs) p = if q = p then some x else lookP kvs p := by
  unfold lookP
  rw [List.find?_cons]
  by_cases h : q = p
  · simp [h]
  · simp [h]
theorem valV_cons {p q : Int × Int} {x : V} {ks : List (List Key × V)} : valV ((kP q, x) :: ks) (kP p) = if q = p then some x else valV ks (kP p) := by
  unfold valV
  rw [List.find?_cons]
  by_cases h : q = p
  · simp [h]
  · have : ¬ kP q = kP p := fun z => h (kP_inj z)
    simp [h, this]
theorem RpO.look {p : Int × Int} : ∀ {ks : List (List Key × V)} {kvs : List ((Int × Int) × List Dat)} {ls : List Addr}, RpO K F H fp ks kvs ls →
    (∀ ds, lookP kvs p = some ds → ∃ l xs, valV ks (kP p) = some (.ref l) ∧ l ∈ ls ∧ fp l ∧ H l = some (.lst xs) ∧ RpL K F xs ds) ∧ (lookP kvs p = Option.none → valV ks (kP p) = Option.none)
  | _, _, _, .nil => ⟨fun ds h => (by cases h), fun _ => rfl⟩
  | _, _, _, .cons (p := q) (l := l) (xs := xs) (ds := ds) h1 h2 h3 r => by
    obtain ⟨g1, g2⟩ := RpO.look (p := p) r
    rw [lookP_cons, valV_cons]
    by_cases e : q = p
    · rw [if_pos e, if_pos e]
      refine ⟨fun ds' h => ?_, fun h => by cases h⟩
      cases h
      exact ⟨l, xs, rfl, List.mem_cons_self, h1, h2, h3⟩
    · rw [if_neg e, if_neg e]
      refine ⟨fun ds' h => ?_, g2⟩
      obtain ⟨l', xs', a1, a2, a3, a4, a5⟩ := g1 ds' h
      exact ⟨l', xs', a1, List.mem_cons_of_mem _ a2, a3, a4, a5⟩
theorem RpO.other {H' : Hp} {fp' : Addr → Prop} : ∀ {ks : List (List Key × V)} {kvs : List ((Int × Int) × List Dat)} {ls : List Addr}, RpO K F H fp ks kvs ls → (∀ l ∈ ls, H' l = H l) → (∀ l ∈ ls, fp' l) → RpO K F H' fp' ks kvs ls
  | _, _, _, .nil, _, _ => .nil
  | _, _, _, .cons h1 h2 h3 r, e, f => .cons (f _ List.mem_cons_self) (by rw [e _ List.mem_cons_self]; exact h2) h3 (RpO.other r (fun l hl => e l (List.mem_cons_of_mem _ hl)) fun l hl => f l (List.mem_cons_of_mem _ hl))
theorem RpO.mem_fp : ∀ {ks : List (List Key × V)} {kvs : List ((Int × Int) × List Dat)} {ls : List Addr}, RpO K F H fp ks kvs ls → ∀ l ∈ ls, fp l
  | _, _, _, .cons h1 _ _ r, l, hl => by
    rcases List.mem_cons.mp hl with e | h
    · rw [e]
      exact h1
    · exact RpO.mem_fp r l h
theorem RpO.len : ∀ {ks : List (List Key × V)} {kvs : List ((Int × Int) × List Dat)} {ls : List Addr}, RpO K F H fp ks kvs ls → ks.length = kvs.length
  | _, _, _, .nil => rfl
  | _, _, _, .cons _ _ _ r => congrArg Nat.succ (RpO.len r)
/-- one more item in the list at p -/
theorem RpO.add {p : Int × Int} {v : V} {z : Dat} {l : Addr} {xs : List V} (rz : Rp K F v z) : ∀ {ks : List (List Key × V)} {kvs : List ((Int × Int) × List Dat)} {ls : List Addr}, RpO K F H fp ks kvs ls → ls.Nodup → valV ks (kP p) = some (.ref l) → H l = some (.lst xs) →
    RpO K F (upd H l (.lst (xs ++ [v]))) fp ks (addP z p kvs) ls
  | _, _, _, .nil, _, h, _ => by cases h
  | _, _, _, .cons (p := q) (l := l') (xs := ys) (ds := ds) (ks := ks) (kvs := kvs) (ls := ls) h1 h2 h3 r, nd, h, hl => by
    rw [valV_cons] at h
    obtain ⟨n1, n2⟩ := List.nodup_cons.mp nd
    unfold addP
    by_cases e : q = p
    · rw [if_pos e] at h ⊢
      cases h
      rw [h2] at hl
      cases hl
      exact .cons h1 upd_same (h3.snoc rz) (r.other (fun l hl => upd_ne fun z => n1 (by rw [← z]; exact hl)) fun l hl => r.mem_fp l hl)
    · rw [if_neg e] at h ⊢
      have hm : ∃ l2, l = l2 ∧ l2 ∈ ls := by
        cases w : lookP kvs p with
        | none =>
          have := (r.look (p := p)).2 w
          rw [this] at h
          cases h
        | some dd =>
          obtain ⟨l2, _, a1, a2, _⟩ := (r.look (p := p)).1 dd w
          rw [a1] at h
          cases h
          exact ⟨_, rfl, a2⟩
      obtain ⟨_, rfl, hm⟩ := hm
      exact .cons h1 (by rw [upd_ne fun z => n1 (by rw [z]; exact hm)]; exact h2) h3 (RpO.add rz r n2 h hl)
/-- a new empty list at p -/
theorem RpO.init {p : Int × Int} {q : Addr} (h1 : fp q) (h2 : H q = some (.lst [])) : ∀ {ks : List (List Key × V)} {kvs : List ((Int × Int) × List Dat)} {ls : List Addr}, RpO K F H fp ks kvs ls → RpO K F H fp (ks ++ [(kP p, .ref q)]) (kvs ++ [(p, [])]) (ls ++ [q])
  | _, _, _, .nil => .cons h1 h2 .nil .nil
  | _, _, _, .cons a b c r => .cons a b c (RpO.init h1 h2 r)
theorem putK_new {ks : List (List Key × V)} {k : List Key} {v : V} (h : valV ks k = Option.none) : putK ks k v = ks ++ [(k, v)] := by
  unfold putK
  have : (ks.any fun q => decide (q.1 = k)) = false := by
    unfold valV at h
    rw [Option.map_eq_none_iff, List.find?_eq_none] at h
    rw [List.any_eq_false]
    intro q hq
    simpa using h q hq
  first | rw [if_neg (by rw [this]; exact Bool.false_ne_true)] | simp [this]
end
end Pw
set_option Elab.async false
set_option linter.all false
set_option maxRecDepth 100000
set_option maxHeartbeats 1000000
/-! Statements over own dicts of lists; handing them back; reading one's caller's. -/
namespace Pw
open PySem PySem.Spec L2
section
variable {K : PySem.W.Frag} {F0 H0 F H F2 H2 H' : Hp} {σ : L2.St} {δ : List Sl} {i : Nat} {s t : Sl}
/-- the own objects of slot i change, and it may take new ones -/
theorem Stt.re (S : Stt K F0 H0 F H σ δ) (e : Ext F H F2 H2) (hs : δ[i]? = some s) (hv : ∀ fp : Addr → Prop, (∀ a, fp a → F2 a = Option.none ∧ H a ≠ Option.none ∧ H2 a ≠ Option.none) → SlR K H0 F2 H2 σ[i]? fp s → ∃ fp' : Addr → Prop,
    (∀ a, fp' a → (fp a ∨ (H a = Option.none ∧ F2 a = Option.none)) ∧ H' a ≠ Option.none) ∧ (∀ a, H' a = H2 a ∨ fp a ∨ (H a = Option.none ∧ F2 a = Option.none)) ∧ SlR K H0 F2 H' σ[i]? fp' t) : Stt K F0 H0 F2 H' σ (δ.set i t) := by
  obtain ⟨fp, h1, h2, h3⟩ := S.own
  have hh : ∀ i a, fp i a → H2 a = H a := fun i a q => by
    cases z : H a with
    | none => exact absurd z (h1 i a q).2.2
    | some o => exact e.h a o z
  have kF : ∀ i a, fp i a → F2 a = Option.none := fun i a q => by
    cases z : H a with
    | none => exact absurd z (h1 i a q).2.2
    | some o => exact e.keep (h1 i a q).2.1 z
  obtain ⟨fp', g1, g2, g3⟩ := hv (fp i) (fun a q => ⟨kF i a q, (h1 i a q).2.2, by rw [hh i a q]; exact (h1 i a q).2.2⟩) ((h3 i s hs).mono e.f (hh i))
  have ch : ∀ a, H' a = H2 a ∨ (H0 a = Option.none ∧ F2 a = Option.none) := fun a => by
    rcases g2 a with q | q | q
    · exact .inl q
    · exact .inr ⟨(h1 i a q).1, kF i a q⟩
    · exact .inr ⟨S.ext.h.free q.1, q.2⟩
  have e2 := S.ext.trans e
  refine ⟨⟨e2.f, fun a o h => ?_, fun a o h => ?_, e2.n⟩, by rw [List.length_set]; exact S.len, fun j a => if j = i then fp' a else fp j a, fun j a q => ?_, fun j k a q1 q2 => ?_, fun j u hu => ?_⟩
  · rcases ch a with q | q
    · rw [q]
      exact e2.h a o h
    · rw [q.1] at h
      cases h
  · rcases ch a with q | q
    · rw [q]
      exact e2.s a o h
    · rw [q.2] at h
      cases h
  · dsimp only at q
    by_cases hj : j = i
    · rw [if_pos hj] at q
      obtain ⟨q1, q2⟩ := g1 a q
      rcases q1 with q1 | q1
      · exact ⟨(h1 i a q1).1, kF i a q1, q2⟩
      · exact ⟨S.ext.h.free q1.1, q1.2, q2⟩
    · rw [if_neg hj] at q
      refine ⟨(h1 j a q).1, kF j a q, ?_⟩
      rcases g2 a with z | z | z
      · rw [z, hh j a q]
        exact (h1 j a q).2.2
      · exact absurd (h2 j i a q z) hj
      · exact absurd z.1 (h1 j a q).2.2
  · dsimp only at q1 q2
    by_cases hj : j = i <;> by_cases hk : k = i
    · exact hj.trans hk.symm
    · rw [if_pos hj] at q1
      rw [if_neg hk] at q2
      rcases (g1 a q1).1 with z | z
      · exact hj.trans (h2 i k a z q2)
      · exact absurd z.1 (h1 k a q2).2.2
    · rw [if_neg hj] at q1
      rw [if_pos hk] at q2
      rcases (g1 a q2).1 with z | z
      · exact (h2 j i a q1 z).trans hk.symm
      · exact absurd z.1 (h1 j a q1).2.2
    · rw [if_neg hj] at q1
      rw [if_neg hk] at q2
      exact h2 j k a q1 q2
  · by_cases hj : j = i
    · subst hj
      rw [List.getElem?_set_self (List.getElem?_eq_some_iff.mp hs).1] at hu
      cases hu
      have ee : (fun a => if j = j then fp' a else fp j a) = fp' := funext fun a => if_pos rfl
      show SlR K H0 F2 H' σ[j]? (fun a => if j = j then fp' a else fp j a) t
      rw [ee]
      exact g3
    · rw [List.getElem?_set_ne (Ne.symm hj)] at hu
      have ee : (fun a => if j = i then fp' a else fp j a) = fp j := funext fun a => if_neg hj
      show SlR K H0 F2 H' σ[j]? (fun a => if j = i then fp' a else fp j a) u
      rw [ee]
      refine (h3 j u hu).mono e.f fun a q => ?_
      rcases g2 a with z | z | z
      · rw [z, hh j a q]
      · exact absurd (h2 j i a q z) hj
      · exact absurd z.1 (h1 j a q).2.2
/-- slot i takes a new own object with parts -/
theorem Stt.setNewM (S : Stt K F0 H0 F H σ δ) (e : Ext F H F2 H2) {a : Addr} {ls : List Addr} (hn : ∀ b ∈ ls, H b = Option.none ∧ F2 b = Option.none ∧ H2 b ≠ Option.none) (hr : SlR K H0 F2 H2 (some (some (.ref a))) (fun b => b ∈ ls) s) : Stt K F0 H0 F2 H2 (σ.set i (some (.ref a))) (δ.set i s) := by
  obtain ⟨fp, h1, h2, h3⟩ := S.own
  have hh : ∀ i a, fp i a → H2 a = H a := fun i a q => by
    cases z : H a with
    | none => exact absurd z (h1 i a q).2.2
    | some o => exact e.h a o z
  refine (S.grow e).put (.ref a) s (fun b => b ∈ ls) (fun b z => ⟨S.ext.h.free (hn b z).1, (hn b z).2⟩) (fun fp0 g3 g2 g1 => ⟨fp, fun i s hs => (h3 i s hs).mono e.f (hh i), h2, fun i b q => ⟨(h1 i b q).1, ?_, by rw [hh i b q]; exact (h1 i b q).2.2⟩, fun j b _ q z => (h1 j b q).2.2 (hn b z).1⟩) fun _ => hr
  cases z : H b with
  | none => exact absurd z (h1 i b q).2.2
  | some o => exact e.keep (h1 i b q).2.1 z
theorem Stt.getO {kvs : List ((Int × Int) × List Dat)} (S : Stt K F0 H0 F H σ δ) (h : δ[i]? = some (.oL kvs)) : ∃ a ks ls, σ[i]? = some (some (.ref a)) ∧ H a = some (.dT ks) ∧ RpO K F H (fun b => H0 b = Option.none ∧ F b = Option.none) ks kvs ls ∧ (a :: ls).Nodup ∧ ∀ b ∈ a :: ls, H0 b = Option.none ∧ F b = Option.none := by
  obtain ⟨fp, h1, h2, h3⟩ := S.own
  obtain ⟨a, ks, ls, e, q, ha, r, nd⟩ := h3 i _ h
  have hl : ∀ l ∈ ls, H0 l = Option.none ∧ F l = Option.none := fun l hl => ⟨(h1 i l (r.mem_fp l hl)).1, (h1 i l (r.mem_fp l hl)).2.1⟩
  refine ⟨a, ks, ls, e, ha, r.other (fun _ _ => rfl) hl, nd, fun b hb => ?_⟩
  rcases List.mem_cons.mp hb with z | z
  · rw [z]
    exact ⟨(h1 i a q).1, (h1 i a q).2.1⟩
  · exact hl b z
/-- one more item in the list at p of the own dict in slot i -/
theorem Stt.addP {kvs : List ((Int × Int) × List Dat)} {ks : List (List Key × V)} {a l : Addr} {xs : List V} {p : Int × Int} {w : V} {z : Dat} (S : Stt K F0 H0 F H σ δ) (hs : δ[i]? = some (.oL kvs)) (ha : σ[i]? = some (some (.ref a))) (hk : H a = some (.dT ks)) (hv : valV ks (kP p) = some (.ref l)) (hl : H l = some (.lst xs)) (rz : Rp K F w z) :
    Stt K F0 H0 F (upd H l (.lst (xs ++ [w]))) σ (δ.set i (.oL (Pw.addP z p kvs))) := by
  refine S.re (Ext.refl S.ext.s) hs fun fp hfp hr => ?_
  obtain ⟨a', ks', ls, e, q, ha', r, nd⟩ := hr
  rw [ha] at e
  cases e
  rw [hk] at ha'
  cases ha'
  obtain ⟨n1, n2⟩ := List.nodup_cons.mp nd
  have hm : l ∈ ls := by
    cases w : lookP kvs p with
    | none =>
      have := (r.look (p := p)).2 w
      rw [this] at hv
      cases hv
    | some dd =>
      obtain ⟨l2, _, a1, a2, _⟩ := (r.look (p := p)).1 dd w
      rw [a1] at hv
      cases hv
      exact a2
  refine ⟨fp, fun b hb => ⟨.inl hb, ?_⟩, fun b => ?_, a, ks, ls, ha, q, ?_, r.add rz n2 hv hl, nd⟩
  · by_cases hbl : b = l
    · rw [hbl, upd_same]
      exact nofun
    · rw [upd_ne hbl]
      exact (hfp b hb).2.1
  · by_cases hbl : b = l
    · exact .inr (.inl (by rw [hbl]; exact r.mem_fp l hm))
    · exact .inl (upd_ne hbl)
  · rw [upd_ne fun z => n1 (by rw [z]; exact hm)]
    exact hk
end
theorem set_self {δ : List Sl} {i : Nat} {s : Sl} (h : δ[i]? = some s) : δ.set i s = δ := by
  refine List.ext_getElem? fun j => ?_
  by_cases hj : i = j
  · subst hj
    rw [List.getElem?_set_self (List.getElem?_eq_some_iff.mp h).1, h]
  · rw [List.getElem?_set_ne hj]
section
variable {X : Cx} {pos p p2 apos cpos npos : Pos} {e eb ef : Expr} {x : Str}
def dSetd (i : Nat) (dk dv : DE) : DS := fun D δ => ∃ kvs, δ[i]? = some (.oL kvs) ∧ kvs.length < 100000 ∧ (∀ q ∈ kvs, q.2.length < 100000) ∧ dk δ fun y => ∃ a b, y = tI [a, b] ∧ dv (δ.set i (.oL (initP kvs (a, b)))) fun z => D.nx (δ.set i (.oL (addP z (a, b) (initP kvs (a, b)))))
theorem lookP_mem {α : Type} {p : Int × Int} {v : α} {kvs : List ((Int × Int) × α)} (h : lookP kvs p = some v) : ∃ q ∈ kvs, q.2 = v := by
  unfold lookP at h
  obtain ⟨q, h1, h2⟩ := Option.map_eq_some_iff.mp h
  exact ⟨q, List.mem_of_find?_eq_some h1, h2⟩
theorem xs_setd (i : Nat) {dk dv : DE} {ek ev : Expr} {lpos a2 c2 : Pos} (hu : X.A.units + 1 < cLine) (hk : XE X ek dk) (hv : XE X ev dv) (hN : X.N[i]? = some x := by rfl) (hvi : Vis X.env.scope x := by first | exact Or.inl rfl | exact Or.inr (Or.inl rfl) | exact Or.inr (Or.inr rfl)) (hd : (x == ("__debug__" : Str)) = false := by decide) (hcd : (x == ("__classdict__" : Str)) = false := by decide)
    (m : M2 X (.Name x npos) "setdefault" apos ek (.List [] lpos) cpos := by exact ⟨rfl, rfl, rfl, rfl⟩)
    (m2 : BM X (.Call (.Attribute (.Name x npos) "setdefault" apos) [ek, .List [] lpos] [] cpos) ev "append" a2 c2 := by exact ⟨rfl, rfl, rfl, rfl, rfl⟩)
    (hs : swapsWith (.Call (.Attribute (.Call (.Attribute (.Name x npos) "setdefault" apos) [ek, .List [] lpos] [] cpos) "append" a2) [ev] [] c2) none pos.line X.env = pure false := by rfl) :
    XS X (.Expr (.Call (.Attribute (.Call (.Attribute (.Name x npos) "setdefault" apos) [ek, .List [] lpos] [] cpos) "append" a2) [ev] [] c2) pos) (dSetd i dk dv) := xs_of (ps_expr (pe_bm (t := tCons (tD X.K dv) tNil) PySem.F.plainAttrs_list PySem.F.slot_list_append PySem.F.type_list_append mt_append (pe_dsetdT hu (pv i hN hvi hd hcd) hk (xn_lst xa_nil) m) (pa_cons hv pa_nil m2.st) m2.base m2.few m2.line m2.st m2.pl) hs) fun F0 H0 F H σ δ D DD S ⟨kvs, hkv, hl1, hl2, hdk⟩ en => by
  obtain ⟨a, ks, ls, g1, g2, g3, g4, g5⟩ := S.getO hkv
  refine ⟨.ref a, g1, a, rfl, isD_dT g2, ?_⟩
  refine snd_tD dk F0 H0 F H σ δ _ S hdk _ fun v F1 H1 y e1 ry ⟨p1, p2, ey, hdv⟩ => ?_
  subst ey
  obtain ⟨t, rfl, ht⟩ := key_at e1.s ry
  have S1 := S.grow e1
  refine snd_tDN (dLst dNil) F0 H0 F1 H1 σ δ (fun xs => xs = []) S1 ⟨Nat.zero_le _, rfl⟩ _ fun q ys F2 H2 xs e2 hq hqF hqH r ex => ?_
  subst ex
  cases r
  have e12 := e1.trans e2
  have ha2 : H2 a = some (.dT ks) := e12.h _ _ g2
  have hkl : ks.length < sizeLine := sz100000 (by rw [g3.len]; exact hl1)
  have aq : a ≠ q := fun z => by
    rw [← z, e1.h _ _ g2] at hq
    cases hq
  have fin : ∀ (kvs3 : List ((Int × Int) × List Dat)) (ks3 : List (List Key × V)) (l : Addr) (H3 : Hp) (xs : List V), initP kvs (p1, p2) = kvs3 → Stt X.K F0 H0 F2 H3 σ (δ.set i (.oL kvs3)) → H3 a = some (.dT ks3) → valV ks3 (kP (p1, p2)) = some (.ref l) → H3 l = some (.lst xs) → xs.length < sizeLine →
      tyV X.K "list" (.ref l) H3 ∧ tCons (tD X.K dv) tNil σ H3 fun vs H4 => rAppend (.ref l) vs H4 fun _ H5 => D.nx σ H5 := by
    intro kvs3 ks3 l H3 xs ei S3 ha3 hv3 hl3 hz3
    rw [ei] at hdv
    refine ⟨Or.inl ⟨rfl, xs, SqL.of hl3⟩, ?_⟩
    refine snd_tD dv F0 H0 F2 H3 σ _ _ S3 hdv _ fun w F4 H4 z e4 rz hz => ?_
    refine ⟨l, xs, w, rfl, rfl, e4.h _ _ hl3, hz3, ?_⟩
    have S4 := S3.grow e4
    have hi : i < δ.length := (List.getElem?_eq_some_iff.mp hkv).1
    have S5 := S4.addP (i := i) (List.getElem?_set_self hi) g1 (e4.h _ _ ha3) hv3 (e4.h _ _ hl3) rz
    rw [List.set_set] at S5
    exact en.nx _ _ _ _ S5 ((e12.f).trans e4.f) hz
  refine ⟨ks, kP (p1, p2), t, ha2, rfl, e2.h _ _ ht, hkl, fun v hv => ?_, fun hn => ?_⟩
  · cases w : lookP kvs (p1, p2) with
    | none =>
      rw [(g3.look (p := (p1, p2))).2 w] at hv
      cases hv
    | some dd =>
      obtain ⟨l, xs, b1, b2, b3, b4, b5⟩ := (g3.look (p := (p1, p2))).1 dd w
      rw [b1] at hv
      cases hv
      obtain ⟨q0, m1, m2⟩ := lookP_mem w
      refine fin kvs ks l H2 xs (by unfold initP; rw [w]; rfl) ?_ ha2 b1 (e12.h _ _ b4) (sz100000 (by rw [b5.length, ← m2]; exact hl2 q0 m1))
      rw [set_self hkv]
      exact S.grow e12
  · have w : lookP kvs (p1, p2) = Option.none := by
      cases w : lookP kvs (p1, p2) with
      | none => rfl
      | some dd =>
        obtain ⟨l, xs, b1, _⟩ := (g3.look (p := (p1, p2))).1 dd w
        rw [hn] at b1
        cases b1
    rw [putK_new hn]
    refine fin (kvs ++ [((p1, p2), [])]) (ks ++ [(kP (p1, p2), .ref q)]) q _ [] (by unfold initP; rw [w]; rfl) ?_ upd_same ?_ (by rw [upd_ne aq.symm]; exact hqH) (by decide)
    · refine S1.re e2 hkv fun fp hfp hr => ?_
      obtain ⟨a', ks', ls', c1, c2, c3, c4, c5⟩ := hr
      rw [g1] at c1
      cases c1
      rw [ha2] at c3
      cases c3
      have nq : ∀ b, fp b → b ≠ q := fun b hb z => (hfp b hb).2.1 (by rw [z]; exact hq)
      obtain ⟨n1, n2⟩ := List.nodup_cons.mp c5
      refine ⟨fun b => fp b ∨ b = q, fun b hb => ?_, fun b => ?_, a, _, ls' ++ [q], g1, .inl c2, upd_same, RpO.init (.inr rfl) (by rw [upd_ne aq.symm]; exact hqH) (c4.other (fun l hl => upd_ne fun z => n1 (by rw [← z]; exact hl)) fun l hl => .inl (c4.mem_fp l hl)), ?_⟩
      · rcases hb with hb | hb
        · refine ⟨.inl hb, ?_⟩
          by_cases hba : b = a
          · rw [hba, upd_same]
            exact nofun
          · rw [upd_ne hba]
            exact (hfp b hb).2.2
        · subst hb
          refine ⟨.inr ⟨hq, hqF⟩, ?_⟩
          rw [upd_ne aq.symm, hqH]
          exact nofun
      · by_cases hba : b = a
        · exact .inr (.inl (by rw [hba]; exact c2))
        · exact .inl (upd_ne hba)
      · rw [← List.cons_append]
        refine List.nodup_append.mpr ⟨c5, by simp, fun b hb c hc => ?_⟩
        have : c = q := by simpa using hc
        subst this
        rcases List.mem_cons.mp hb with z | z
        · rw [z]
          exact aq
        · exact nq b (c4.mem_fp b z)
    · have := (hn : valV ks (kP (p1, p2)) = Option.none)
      unfold valV at this ⊢
      rw [List.find?_append]
      have z : (ks.find? fun kv => decide (kv.1 = kP (p1, p2))) = Option.none := by simpa using this
      rw [z]
      simp
end
end Pw
set_option Elab.async false
set_option linter.all false
set_option maxRecDepth 100000
set_option maxHeartbeats 1000000
/-! Defs that hand back an own dict of lists, or read their caller's; a walk over a frozen dict's keys. -/
namespace Pw
open PySem PySem.Spec L2
/-- the promise of a def that hands back a new dict of lists -/
def spDM (K : PySem.W.Frag) (pre : List Dat → (List ((Int × Int) × List Dat) → Prop) → Prop) : Sp := fun vs H Q _ => ∃ F ds post, Same F H ∧ RpL K F vs ds ∧ pre ds post ∧
  ∀ a ks ls F2 H2 kvs, Ext F H F2 H2 → (∀ b ∈ a :: ls, H b = Option.none ∧ F2 b = Option.none) → (a :: ls).Nodup → H2 a = some (.dT ks) → RpO K F2 H2 (fun b => b ∈ a :: ls) ks kvs ls → post kvs → Q (.ref a) H2
def endsM (post : List ((Int × Int) × List Dat) → Prop) : DEnds := ⟨fun _ => False, fun _ => False, fun _ => False, post, fun _ => False, fun _ => False, fun _ _ => False⟩
/-- the promise of a def that reads its argument j, frozen or not -/
def spR (K : PySem.W.Frag) (j : Nat) (pre : List Dat → (Dat → Prop) → Prop) : Sp := fun vs H Q _ => ∃ F ds post, Same F H ∧ vs.length = ds.length ∧ (∀ (i : Nat) d, ds[i]? = some d → ∃ v, vs[i]? = some v ∧ (i ≠ j → Rp K F v d) ∧ Rp K H v d) ∧ pre ds post ∧
  ∀ v F2 H2 d, Ext F H F2 H2 → Rp K F2 v d → post d → Q v H2
def startR (N : List Str) (j : Nat) (ds : List Dat) : List Sl := (startD N ds).set j (.rd ((ds[j]?).getD .non))
section
variable {P : Program} {w : World} {K : PySem.W.Frag} {mg : Str → Option Value} {base : Heap}
theorem ends_okM {F H : Hp} {Q : VK} {post : List ((Int × Int) × List Dat) → Prop} (q : ∀ a ks ls F2 H2 kvs, Ext F H F2 H2 → (∀ b ∈ a :: ls, H b = Option.none ∧ F2 b = Option.none) → (a :: ls).Nodup → H2 a = some (.dT ks) → RpO K F2 H2 (fun b => b ∈ a :: ls) ks kvs ls → post kvs → Q (.ref a) H2) : EndsOk K F H F { nx := fun _ H' => Q .non H', rt := Q } (endsM post) :=
  ⟨fun _ _ _ _ _ _ h => h.elim, fun _ _ _ _ _ _ h => h.elim, fun _ _ _ _ _ _ _ _ _ _ h => h.elim, fun a ks ls F' H' kvs e hn nd hH r h => q a ks ls F' H' kvs e hn nd hH r h, fun _ _ _ _ _ _ h => h.elim, fun _ _ _ _ _ _ h => h.elim, fun _ _ _ _ _ _ _ _ _ h => h.elim⟩
theorem calDM (T : Top K mg) (d : He.DefD) (i j : Nat) {N ps : List Str} (S : FnScope N ps d.scope) {k : Nat} {pre : List Dat → (List ((Int × Int) × List Dat) → Prop) → Prop} (len : ∀ ds post, pre ds post → ds.length = ps.length)
    (body : ∀ (cdv : Value) (A : Around) (outer : List Env) (s : Shared) (H : Hp) (E : XK), Room k (arD K d cdv A s) → ∃ dd, XSs (cxD P w K mg base N d cdv A outer s H E) d.body dd ∧ ∀ ds post, pre ds post → dd (endsM post) (startD N ds))
    (hb : ∀ (kV doc pm : Value) (an : Option Addr) (cdv ct : Value) (us : List Value), us.length = ps.length → bindArgs (PySem.W.fnOf d.name d.qual d.params d.body d.scope .none kV doc pm an cdv ct) ⟨us, []⟩ = pure (ps.zip us))
    (hd : fn[i]? = some d := by rfl) (hg : fa[j]? = some (.glo d.name) := by rfl) (ha : d.at_ = (d.name, Option.none) := by rfl) (hdf : d.dfl = [] := by rfl) (hkw : d.kwd = [] := by rfl) : Cal P w K mg base (k + 1) d.name (spDM K pre) := by
  obtain ⟨fd, F⟩ := T.c.def_ i hd
  have e1 : d.dvs K = [] := by
    unfold He.DefD.dvs
    rw [hdf] <;> rfl
  have e2 : d.kws K = [] := by
    unfold He.DefD.kws
    rw [hkw] <;> rfl
  rw [e1, e2] at F
  have b : Binds K fd ps [] := FunD.bindsN F hb
  have hm : mg d.name = some (.ref (He.fAd K d.at_)) := by
    rw [ha]
    exact T.glo j hg
  refine ⟨He.fAd K d.at_, fd, ps, [], F.ok S (fun vs H Q E h => ?_) (fun cdv A outer s H vs Q E hr h => ?_), hm, F.kp, b, .nil⟩
  · obtain ⟨G, ds, post, s, r, p, _⟩ := h
    exact r.length.trans (len ds post p)
  · obtain ⟨dd, hx, hw⟩ := body cdv A outer s H E hr
    obtain ⟨G, ds, post, sG, r, p, q⟩ := h
    exact ⟨_, PSs.nox hx, snd_tDS dd G H G H _ _ _ _ (stt_start sG r) (hw ds post p) (ends_okM q)⟩
theorem stt_startR {N : List Str} {F H : Hp} {vs : List V} {ds : List Dat} {j : Nat} (s : Same F H) (hl : vs.length = ds.length) (hj : j < ds.length) (r : ∀ (i : Nat) d, ds[i]? = some d → ∃ v, vs[i]? = some v ∧ (i ≠ j → Rp K F v d) ∧ Rp K H v d) : Stt K F H F H (L2.start N vs) (startR N j ds) := by
  refine ⟨Ext.refl s, ?_, fun _ _ => False, fun _ _ z => z.elim, fun _ _ _ z => z.elim, fun i t ht => ?_⟩
  · unfold L2.start startR startD
    rw [List.length_set, List.length_append, List.length_append, List.length_map, List.length_map, List.length_replicate, List.length_replicate, hl]
  · unfold startR at ht
    by_cases hi : i < ds.length
    · obtain ⟨v, hv, rv1, rv2⟩ := r i _ (List.getElem?_eq_getElem hi)
      have hs : (L2.start N vs)[i]? = some (some v) := by
        unfold L2.start
        rw [List.getElem?_append_left (by rw [List.length_map, hl]; exact hi), List.getElem?_map, hv]
        rfl
      rw [hs]
      have hld : i < (startD N ds).length := by
        unfold startD
        rw [List.length_append, List.length_map]
        omega
      by_cases e : i = j
      · subst e
        rw [List.getElem?_set_self hld, List.getElem?_eq_getElem hi] at ht
        cases ht
        exact ⟨v, rfl, rv2⟩
      · rw [List.getElem?_set_ne (Ne.symm e)] at ht
        unfold startD at ht
        rw [List.getElem?_append_left (by simpa using hi), List.getElem?_map, List.getElem?_eq_getElem hi] at ht
        cases ht
        exact ⟨v, rfl, rv1 e⟩
    · rw [List.getElem?_set_ne (by omega)] at ht
      unfold startD at ht
      rw [List.getElem?_append_right (by simpa using hi), List.getElem?_replicate] at ht
      split at ht
      · cases ht
        trivial
      · cases ht
theorem calDR (T : Top K mg) (d : He.DefD) (i j jr : Nat) {N ps : List Str} (S : FnScope N ps d.scope) {k : Nat} {pre : List Dat → (Dat → Prop) → Prop} (len : ∀ ds post, pre ds post → ds.length = ps.length)
    (body : ∀ (cdv : Value) (A : Around) (outer : List Env) (s : Shared) (H : Hp) (E : XK), Room k (arD K d cdv A s) → ∃ dd, XSs (cxD P w K mg base N d cdv A outer s H E) d.body dd ∧ ∀ ds post, pre ds post → dd (endsOf post) (startR N jr ds))
    (hb : ∀ (kV doc pm : Value) (an : Option Addr) (cdv ct : Value) (us : List Value), us.length = ps.length → bindArgs (PySem.W.fnOf d.name d.qual d.params d.body d.scope .none kV doc pm an cdv ct) ⟨us, []⟩ = pure (ps.zip us))
    (hjr : jr < ps.length := by decide) (hd : fn[i]? = some d := by rfl) (hg : fa[j]? = some (.glo d.name) := by rfl) (ha : d.at_ = (d.name, Option.none) := by rfl) (hdf : d.dfl = [] := by rfl) (hkw : d.kwd = [] := by rfl) : Cal P w K mg base (k + 1) d.name (spR K jr pre) := by
  obtain ⟨fd, F⟩ := T.c.def_ i hd
  have e1 : d.dvs K = [] := by
    unfold He.DefD.dvs
    rw [hdf] <;> rfl
  have e2 : d.kws K = [] := by
    unfold He.DefD.kws
    rw [hkw] <;> rfl
  rw [e1, e2] at F
  have b : Binds K fd ps [] := FunD.bindsN F hb
  have hm : mg d.name = some (.ref (He.fAd K d.at_)) := by
    rw [ha]
    exact T.glo j hg
  refine ⟨He.fAd K d.at_, fd, ps, [], F.ok S (fun vs H Q E h => ?_) (fun cdv A outer s H vs Q E hr h => ?_), hm, F.kp, b, .nil⟩
  · obtain ⟨G, ds, post, s, l, r, p, _⟩ := h
    exact l.trans (len ds post p)
  · obtain ⟨dd, hx, hw⟩ := body cdv A outer s H E hr
    obtain ⟨G, ds, post, sG, l, r, p, q⟩ := h
    exact ⟨_, PSs.nox hx, snd_tDS dd G H G H _ _ _ _ (stt_startR sG l (by rw [len ds post p]; exact hjr) r) (hw ds post p) (ends_ok q)⟩
end
section
variable {X : Cx} {pos p p2 apos cpos npos : Pos} {e eb ef : Expr} {x : Str}
theorem RpO.objs {K : PySem.W.Frag} {F H : Hp} {fp : Addr → Prop} : ∀ {ks : List (List Key × V)} {kvs : List ((Int × Int) × List Dat)} {ls : List Addr}, RpO K F H fp ks kvs ls → ∀ l ∈ ls, ∃ xs, H l = some (.lst xs)
  | _, _, _, .cons _ h2 _ r, l, hl => by
    rcases List.mem_cons.mp hl with e | h
    · rw [e]
      exact ⟨_, h2⟩
    · exact RpO.objs r l h
/-- return own dict of lists -/
def dRetM (i : Nat) : DS := fun D δ => ∃ kvs, δ[i]? = some (.oL kvs) ∧ D.rtm kvs
theorem xs_retM (i : Nat) {x : Str} {pos'} (hN : X.N[i]? = some x := by rfl) (hv : Vis X.env.scope x := by first | exact Or.inl rfl | exact Or.inr (Or.inl rfl) | exact Or.inr (Or.inr rfl)) (hd : (x == ("__debug__" : Str)) = false := by decide)
    (hcd : (x == ("__classdict__" : Str)) = false := by decide) : XS X (.Return (some (.Name x pos')) pos) (dRetM i) := xs_of (ps_ret (pv i hN hv hd hcd)) fun F0 H0 F H σ δ D DD S ⟨kvs, hk, h⟩ en => by
  obtain ⟨a, ks, ls, g1, g2, g3, g4, g5⟩ := S.getO hk
  exact ⟨.ref a, g1, en.rtm a ks ls F H kvs S.ext g5 g4 g2 (g3.other (fun _ _ => rfl) fun l hl => List.mem_cons_of_mem _ hl) h⟩
/-- a call that hands back a new dict of lists: the caller's own -/
def dSetM (i : Nat) (pre : List Dat → (List ((Int × Int) × List Dat) → Prop) → Prop) (d : DA) : DS := fun D δ => d δ fun xs => pre xs fun kvs => D.nx (δ.set i (.oL kvs))
theorem xs_setM {i k j : Nat} {x f : Str} {pre : List Dat → (List ((Int × Int) × List Dat) → Prop) → Prop} {e : Expr} {es : List Expr} {d : DA} (hN : X.N.Nodup) (c : CalX X k f (spDM X.K pre) []) (hr : Room j X.A) (ha : XA X (e :: es) d) (hk : k ≤ j := by decide) (hg : Gl X f := by rfl)
    (hdb : (f == ("__debug__" : Str)) = false := by decide) (he : starEach (e :: es) X.env = (false, eval e X.env) :: starEach es X.env := by rfl) (hpl : (backTo cpos (starEach es X.env)).any (·.1) = false := by rfl)
    (hi : X.N[i]? = some x := by rfl) (hx : Loc X.env.scope x := by first | exact Or.inl rfl | exact Or.inr rfl) (hs : swapsWith (.Call (.Name f p) (e :: es) [] cpos) (some (.Name x npos)) pos.line X.env = pure false := by rfl)
    (hf : X.fn x = true ∨ X.env.scope.names.lookup x = some .local := by first | exact .inl rfl | exact .inr rfl) : XS X (.Assign [.Name x npos] (.Call (.Name f p) (e :: es) [] cpos) pos) (dSetM i pre d) :=
  xs_of (ps_set hN hi hx (C8.pe_c c hr hk hg ha hdb he hpl) hs hf) fun F0 H0 F H σ δ D DD S hd en => by
    refine snd_tDA d F0 H0 F H σ δ _ S hd _ fun vs F2 H2 xs e1 rx hx => ?_
    rw [List.append_nil]
    refine ⟨F2, xs, _, e1.s, rx, hx, fun a ks ls F3 H3 kvs e2 hn nd hH r hp => ?_⟩
    have S1 := S.grow e1
    refine en.nx F3 _ _ _ (S1.setNewM (s := .oL kvs) (a := a) (ls := a :: ls) e2 (fun b hb => ⟨(hn b hb).1, (hn b hb).2, ?_⟩) ⟨a, ks, ls, rfl, List.mem_cons_self, hH, r, nd⟩) (e1.f.trans e2.f) hp
    rcases List.mem_cons.mp hb with z | z
    · rw [z, hH]
      exact nofun
    · obtain ⟨xs, hl⟩ := r.objs b z
      rw [hl]
      exact nofun
/-- .. frozen at once -/
theorem xe_cM {k j : Nat} {x : Str} {pre : List Dat → (List ((Int × Int) × List Dat) → Prop) → Prop} {e : Expr} {es : List Expr} {d : DA} (c : CalX X k x (spDM X.K pre) []) (hr : Room j X.A) (ha : XA X (e :: es) d) (hk : k ≤ j := by decide) (hg : Gl X x := by rfl)
    (hdb : (x == ("__debug__" : Str)) = false := by decide) (he : starEach (e :: es) X.env = (false, eval e X.env) :: starEach es X.env := by rfl) (hpl : (backTo pos (starEach es X.env)).any (·.1) = false := by rfl) : XE X (.Call (.Name x p) (e :: es) [] pos) (dCall (fun xs P => pre xs fun kvs => P (.dP (lsts kvs))) d) :=
  xe_of (C8.pe_c c hr hk hg ha hdb he hpl) fun F0 H0 F H σ δ P S hd Q q => snd_tDA d F0 H0 F H σ δ _ S hd _ fun vs F2 H2 xs e1 rx hx => by
    rw [List.append_nil]
    refine ⟨F2, xs, _, e1.s, rx, hx, fun a ks ls F3 H3 kvs e2 hn nd hH r hp => ?_⟩
    obtain ⟨G, eG, sG, gG⟩ := ext_frzM e2 hn
    exact q (.ref a) G H3 (.dP (lsts kvs)) (e1.trans eG) (.dP (by rw [gG a List.mem_cons_self]; exact hH) (rpO_frz r sG fun l hl => gG l (List.mem_cons_of_mem _ hl))) hp
/-- a call of a def that reads: all is frozen -/
theorem xe_cR {k j jr : Nat} {x : Str} {pre : List Dat → (Dat → Prop) → Prop} {e : Expr} {es : List Expr} {d : DA} (c : CalX X k x (spR X.K jr pre) []) (hr : Room j X.A) (ha : XA X (e :: es) d) (hk : k ≤ j := by decide) (hg : Gl X x := by rfl)
    (hdb : (x == ("__debug__" : Str)) = false := by decide) (he : starEach (e :: es) X.env = (false, eval e X.env) :: starEach es X.env := by rfl) (hpl : (backTo pos (starEach es X.env)).any (·.1) = false := by rfl) : XE X (.Call (.Name x p) (e :: es) [] pos) (dCall pre d) :=
  xe_of (C8.pe_c c hr hk hg ha hdb he hpl) fun F0 H0 F H σ δ P S hd Q q => snd_tDA d F0 H0 F H σ δ _ S hd _ fun vs F2 H2 xs e1 rx hx => by
    rw [List.append_nil]
    refine ⟨F2, xs, P, e1.s, rx.length, fun i d hd => ?_, hx, fun v F3 H3 z e2 rz pz => q v F3 H3 z (e1.trans e2) rz pz⟩
    obtain ⟨v, hv, rv⟩ := rx.get hd
    exact ⟨v, hv, fun _ => rv, rv.mono e1.s⟩
/-- .. an own dict of lists is what it reads -/
def dCRO (i : Nat) (pre : List Dat → (Dat → Prop) → Prop) (i1 i3 : Nat) : DE := fun δ P => ∃ x1 x3 kvs, δ[i1]? = some (.d x1) ∧ δ[i]? = some (.oL kvs) ∧ δ[i3]? = some (.d x3) ∧ pre [x1, .dP (lsts kvs), x3] P
theorem xe_cRO {k j : Nat} (i1 i i3 : Nat) {x x1 x2 x3 : Str} {q1 q2 q3 : Pos} {pre : List Dat → (Dat → Prop) → Prop} (c : CalX X k x (spR X.K 1 pre) []) (hr : Room j X.A) (h1 : PE X (.Name x1 q1) (tVar i1)) (h2 : PE X (.Name x2 q2) (tVar i)) (h3 : PE X (.Name x3 q3) (tVar i3)) (hk : k ≤ j := by decide) (hg : Gl X x := by rfl)
    (hdb : (x == ("__debug__" : Str)) = false := by decide) (he : starEach [.Name x1 q1, .Name x2 q2, .Name x3 q3] X.env = (false, eval (.Name x1 q1) X.env) :: starEach [.Name x2 q2, .Name x3 q3] X.env := by rfl) (he2 : starEach [.Name x2 q2, .Name x3 q3] X.env = (false, eval (.Name x2 q2) X.env) :: starEach [.Name x3 q3] X.env := by rfl) (he3 : starEach [.Name x3 q3] X.env = (false, eval (.Name x3 q3) X.env) :: starEach [] X.env := by rfl)
    (hpl : (backTo pos (starEach [.Name x2 q2, .Name x3 q3] X.env)).any (·.1) = false := by rfl) : XE X (.Call (.Name x p) [.Name x1 q1, .Name x2 q2, .Name x3 q3] [] pos) (dCRO i pre i1 i3) :=
  xe_of (C8.pe_c c hr hk hg (pa_cons h1 (pa_cons h2 (pa_cons h3 pa_nil he3) he2) he) hdb he hpl) fun F0 H0 F H σ δ P S ⟨d1, d3, kvs, g1, g2, g3, hp⟩ Q q => by
    obtain ⟨v1, e1, r1⟩ := S.get g1
    obtain ⟨v3, e3, r3⟩ := S.get g3
    obtain ⟨a, ks, ls, o1, o2, o3, o4, o5⟩ := S.getO g2
    have sf := S.ext.s
    refine ⟨v1, e1, .ref a, o1, v3, e3, ?_⟩
    show spR X.K 1 pre [v1, .ref a, v3] H Q C8.E0
    refine ⟨F, [d1, .dP (lsts kvs), d3], P, sf, rfl, fun i d hd => ?_, hp, fun v F3 H3 z e2 rz pz => q v F3 H3 z e2 rz pz⟩
    match i, hd with
    | 0, hd =>
      cases hd
      exact ⟨v1, rfl, fun _ => r1, r1.mono sf⟩
    | 1, hd =>
      cases hd
      exact ⟨.ref a, rfl, fun z => absurd rfl z, .dP o2 (rpO_frz o3 sf fun _ _ => rfl)⟩
    | 2, hd =>
      cases hd
      exact ⟨v3, rfl, fun _ => r3, r3.mono sf⟩
/-- len(d.get(pair, [])), d read -/
def dLenGet (i : Nat) (dk : DE) : DE := fun δ P => ∃ kvs, δ[i]? = some (.rd (.dP (lsts kvs))) ∧ dk δ fun y => ∃ a b, y = tI [a, b] ∧ P (.int ((((lookP kvs (a, b)).getD []).length : Nat) : Int))
theorem lookP_lsts {p : Int × Int} : ∀ {kvs : List ((Int × Int) × List Dat)}, lookP (lsts kvs) p = (lookP kvs p).map .lst
  | [] => rfl
  | (q, ds) :: kvs => by
    show lookP ((q, Dat.lst ds) :: lsts kvs) p = _
    rw [lookP_cons, lookP_cons, lookP_lsts]
    split <;> rfl
theorem xe_lenGet (i : Nat) {dk : DE} {ek : Expr} {lpos : Pos} (hu : X.A.units + 1 < cLine) (hm : X.mg "len" = Option.none) (hk : XE X ek dk) (hN : X.N[i]? = some x := by rfl) (hv : Vis X.env.scope x := by first | exact Or.inl rfl | exact Or.inr (Or.inl rfl) | exact Or.inr (Or.inr rfl)) (hd : (x == ("__debug__" : Str)) = false := by decide) (hcd : (x == ("__classdict__" : Str)) = false := by decide)
    (m : M2 X (.Name x npos) "get" apos ek (.List [] lpos) cpos := by exact ⟨rfl, rfl, rfl, rfl⟩) (hg : Gl X "len" := by rfl) (hst : starEach [.Call (.Attribute (.Name x npos) "get" apos) [ek, .List [] lpos] [] cpos] X.env = (false, eval (.Call (.Attribute (.Name x npos) "get" apos) [ek, .List [] lpos] [] cpos) X.env) :: starEach [] X.env := by rfl)
    (hpl : (backTo pos (starEach [] X.env)).any (·.1) = false := by rfl) : XE X (.Call (.Name "len" p) [.Call (.Attribute (.Name x npos) "get" apos) [ek, .List [] lpos] [] cpos] [] pos) (dLenGet i dk) :=
  xe_of (pe_callB call_len_seq hg hm (by decide +kernel) (pa_cons (pe_dget2 hu (pv i hN hv hd hcd) hk (xn_lst xa_nil) m) pa_nil hst) (by decide) (by decide) hst hpl) fun F0 H0 F H σ δ P S ⟨kvs, hkv, hdk⟩ Q q => by
    obtain ⟨v, g1, r⟩ := S.getR hkv
    obtain ⟨a, ks, rfl, hH, r⟩ := r.of_dP
    refine ⟨.ref a, g1, a, rfl, isD_dT hH, ?_⟩
    refine snd_tD dk F0 H0 F H σ δ _ S hdk _ fun v F1 H1 y e1 ry ⟨p1, p2, ey, hp⟩ => ?_
    subst ey
    refine snd_tDN (dLst dNil) F0 H0 F1 H1 σ δ (fun xs => xs = []) (S.grow e1) ⟨Nat.zero_le _, rfl⟩ _ fun l ys F2 H2 xs e2 hq hqF hqH rr ex => ?_
    subst ex
    cases rr
    obtain ⟨t, rfl, ht⟩ := key_at e2.s (ry.mono e2.f)
    have e12 := e1.trans e2
    have r2 := r.mono e12.h
    refine ⟨_, DGet.t (k := kP (p1, p2)) (e12.h _ _ hH) ht, ?_⟩
    have lk := r2.look (p1, p2)
    rw [lookP_lsts] at lk
    have fin : ∀ (l : Addr) (xs : List V) (n : Nat), H2 l = some (.lst xs) → xs.length = n → P (.int (n : Int)) → ∃ p ys, [V.ref l] = [V.ref p] ∧ (SqL X.K H2 p ys ∨ SqT X.K H2 p ys) ∧ Q (.int ys.length) H2 := fun l xs n h1 h2 h3 => ⟨l, xs, rfl, Or.inl (SqL.of h1), by rw [h2]; exact q _ F2 H2 _ e12 (.int _) h3⟩
    cases w : lookP kvs (p1, p2) with
    | none =>
      rw [w] at lk hp
      rw [lk.2 rfl]
      exact fin l [] 0 hqH rfl hp
    | some dd =>
      rw [w] at lk hp
      obtain ⟨v, hv, rv⟩ := lk.1 _ rfl
      obtain ⟨l2, xs, rfl, h2, h3⟩ := rv.of_lst
      rw [hv]
      exact fin l2 xs dd.length h2 h3.length hp
end
end Pw
set_option Elab.async false
set_option linter.all false
set_option maxRecDepth 100000
set_option maxHeartbeats 1000000
/-! for k in d, d a frozen dict: it is locked while the walk goes. -/
namespace Pw
open PySem PySem.Spec L2
/-- the same to a reader -/
structure Sim (H H' : Hp) : Prop where
  lst : ∀ {a xs}, H a = some (.lst xs) → H' a = some (.lst xs)
  tup : ∀ {a xs}, H a = some (.tup xs) → H' a = some (.tup xs)
  ins : ∀ {a C dx fs}, H a = some (.ins C dx fs) → H' a = some (.ins C dx fs)
  dT : ∀ {a ks}, H a = some (.dT ks) → H' a = some (.dT ks)
  rdK : ∀ {a ks}, Rd H a (.dK ks) → Rd H' a (.dK ks)
  rdL : ∀ {a xs}, Rd H a (.lst xs) → Rd H' a (.lst xs)
section
variable {K : PySem.W.Frag} {H H' : Hp}
theorem Sim.sq (e : Sim H H') {a : Addr} {xs : List V} (h : SqL K H a xs) : SqL K H' a xs := by
  rcases h with h | h
  · exact .inl (e.rdL h)
  · exact .inr h
mutual
theorem Rp.sim (e : Sim H H') : ∀ {v : V} {d : Dat}, Rp K H v d → Rp K H' v d
  | _, _, .non => .non
  | _, _, .bl b => .bl b
  | _, _, .int i => .int i
  | _, _, .lst h r => .lst (e.lst h) (RpL.sim e r)
  | _, _, .tup h r => .tup (e.tup h) (RpL.sim e r)
  | _, _, .pool h l1 l2 l3 l4 ha hb r => .pool (e.ins h) l1 l2 l3 l4 (e.tup ha) (e.tup hb) (RpL.sim e r)
  | _, _, .dI h r => .dI (e.rdK h) (RpI.sim e r)
  | _, _, .dP h r => .dP (e.dT h) (RpP.sim e r)
  | _, _, .scr h => .scr (e.sq h)
  | _, _, .ins h r => .ins (e.ins h) (RpF.sim e r)
theorem RpF.sim (e : Sim H H') : ∀ {v : List (Str × V)} {d : List (Str × Dat)}, RpF K H v d → RpF K H' v d
  | _, _, .nil => .nil
  | _, _, .cons h r => .cons (Rp.sim e h) (RpF.sim e r)
theorem RpL.sim (e : Sim H H') : ∀ {v : List V} {d : List Dat}, RpL K H v d → RpL K H' v d
  | _, _, .nil => .nil
  | _, _, .cons h r => .cons (Rp.sim e h) (RpL.sim e r)
theorem RpI.sim (e : Sim H H') : ∀ {v : List (Key × V)} {d : List (Int × Dat)}, RpI K H v d → RpI K H' v d
  | _, _, .nil => .nil
  | _, _, .cons h r => .cons (Rp.sim e h) (RpI.sim e r)
theorem RpP.sim (e : Sim H H') : ∀ {v : List (List Key × V)} {d : List ((Int × Int) × Dat)}, RpP K H v d → RpP K H' v d
  | _, _, .nil => .nil
  | _, _, .cons h r => .cons (Rp.sim e h) (RpP.sim e r)
end
/-- one cell is written, that no reader sees otherwise -/
theorem sim_upd {a : Addr} {o o' : HO} (h : H a = some o) (n1 : ∀ xs, o ≠ .lst xs) (n2 : ∀ xs, o ≠ .tup xs) (n3 : ∀ C dx fs, o ≠ .ins C dx fs) (n4 : ∀ ks, o ≠ .dT ks) (r1 : ∀ ks, Rd H a (.dK ks) → Rd (upd H a o') a (.dK ks)) (r2 : ∀ xs, Rd H a (.lst xs) → Rd (upd H a o') a (.lst xs)) : Sim H (upd H a o') := by
  have key : ∀ {b : Addr} {x : HO}, H b = some x → x ≠ o → upd H a o' b = some x := fun {b x} hb hx => by
    by_cases e : b = a
    · subst e
      rw [h] at hb
      cases hb
      exact absurd rfl hx
    · rw [upd_ne e]
      exact hb
  have kr : ∀ {b : Addr} {x : HO}, b ≠ a → Rd H b x → Rd (upd H a o') b x := fun {b x} hb r => by
    rcases r with r | ⟨z, r⟩
    · exact .inl (by rw [upd_ne hb]; exact r)
    · exact .inr ⟨z, by rw [upd_ne hb]; exact r⟩
  refine ⟨fun q => key q fun z => n1 _ z.symm, fun q => key q fun z => n2 _ z.symm, fun q => key q fun z => n3 _ _ _ z.symm, fun q => key q fun z => n4 _ z.symm, fun {b ks} q => ?_, fun {b ks} q => ?_⟩
  · by_cases e : b = a
    · subst e
      exact r1 _ q
    · exact kr e q
  · by_cases e : b = a
    · subst e
      exact r2 _ q
    · exact kr e q
theorem sim_lock {a : Addr} {od : Obj} {ks : List (Key × V)} (h : H a = some (.dK ks)) : Sim H (upd H a (.frz od (.dK ks))) := by
  refine sim_upd h (fun _ => nofun) (fun _ => nofun) (fun _ _ _ => nofun) (fun _ => nofun) (fun ks' r => ?_) fun xs r => ?_
  · rcases r with r | ⟨z, r⟩
    · rw [h] at r
      cases r
      exact .inr ⟨od, upd_same⟩
    · rw [h] at r
      cases r
  · rcases r with r | ⟨z, r⟩
    · rw [h] at r
      cases r
    · rw [h] at r
      cases r
theorem sim_free {a : Addr} {od : Obj} {ks : List (Key × V)} (h : H a = some (.frz od (.dK ks))) : Sim H (upd H a (.dK ks)) := by
  refine sim_upd h (fun _ => nofun) (fun _ => nofun) (fun _ _ _ => nofun) (fun _ => nofun) (fun ks' r => ?_) fun xs r => ?_
  · rcases r with r | ⟨z, r⟩
    · rw [h] at r
      cases r
    · rw [h] at r
      cases r
      exact .inl upd_same
  · rcases r with r | ⟨z, r⟩
    · rw [h] at r
      cases r
    · rw [h] at r
      cases r
theorem RpI.get : ∀ {v : List (Key × V)} {d : List (Int × Dat)} {i : Nat} {x : Int × Dat}, RpI K H v d → d[i]? = some x → ∃ u, v[i]? = some (Sum.inl x.1, u) ∧ Rp K H u x.2
  | _, _, _, _, .nil, e => by simp at e
  | _, _, 0, _, .cons h _, e => by
    simp at e
    subst e
    exact ⟨_, rfl, h⟩
  | _, _, i + 1, _, .cons _ r, e => by
    obtain ⟨u, h1, h2⟩ := RpI.get (i := i) r (by simpa using e)
    exact ⟨u, by simpa using h1, h2⟩
end
def endsI (DD : DEnds) : DEnds := ⟨fun δ' => Clean δ' ∧ DD.nx δ', DD.rt, DD.rtn, fun _ => False, fun _ => False, fun _ => False, fun _ _ => False⟩
def dForI (i : Nat) (dg : DG) (db : DS) : DS := fun D δ => ∃ kvs, δ[i]? = some (.d (.dI kvs)) ∧ Clean δ ∧ ∃ I : Nat → List Sl → Prop, I 0 δ ∧
  (∀ k x δ', kvs[k]? = some x → I k δ' → dg (.int x.1) δ' fun δ2 => db ⟨I (k + 1), D.rt, D.rtn, fun _ => False, fun _ => False, I (k + 1), fun _ _ => False⟩ δ2) ∧ ∀ δ', I kvs.length δ' → Clean δ' ∧ D.nx δ'
theorem snd_forI {K : PySem.W.Frag} {i : Nat} {vs : List Nat} {dg : DG} {db : DS} {F H : Hp} {σ : L2.St} {δ : List Sl} {D : Ends} {DD : DEnds} {d : Addr} {od : Obj} {ks : List (Key × V)} {kvs : List (Int × Dat)} (S : Stt K F H F H σ δ) (hd : H d = some (.frz od (.dK ks))) (hi : σ[i]? = some (some (.ref d))) (r : RpI K F ks kvs)
    {I : Nat → List Sl → Prop} (i0 : I 0 δ) (turn : ∀ k x δ', kvs[k]? = some x → I k δ' → dg (.int x.1) δ' fun δ2 => db ⟨I (k + 1), DD.rt, DD.rtn, fun _ => False, fun _ => False, I (k + 1), fun _ _ => False⟩ δ2) (fin : ∀ δ', I kvs.length δ' → Clean δ' ∧ DD.nx δ')
    (en : EndsOk K F H F D (endsI DD)) : tFor (iKeys (tVar i)) (tDG K vs dg) (tDS K db) D σ H := by
  refine ⟨.ref d, hi, d, od, rfl, .inl ⟨ks, hd, ?_⟩⟩
  refine ⟨fun k m σ' H' => ∃ F' δ', m = kvs.length - k ∧ k ≤ kvs.length ∧ Stt K F H F' H' σ' δ' ∧ Same F F' ∧ I k δ', ⟨kvs.length, F, δ, by simp, Nat.zero_le _, S, Same.refl _, i0⟩, ?_⟩
  rintro k m σ' H' ⟨F', δ', rfl, hk, S', sf, hI⟩
  by_cases hlt : k < kvs.length
  · refine Or.inr ⟨⟨S'.ext.h _ _ hd, by rw [r.length]; exact hlt⟩, fun σ2 H2 => ∃ F2 δ2, Stt K F H F2 H2 σ2 δ2 ∧ Same F F2 ∧ I (k + 1) δ2, fun σ2 H2 ⟨F2, δ2, S2, s2, h2⟩ => ⟨kvs.length - (k + 1), by omega, F2, δ2, rfl, hlt, S2, s2, h2⟩, fun v H2 y => ?_⟩
    obtain ⟨eH, kk, v', hkk, ev⟩ := y
    subst eH
    have hx : kvs[k]? = some kvs[k] := List.getElem?_eq_getElem hlt
    obtain ⟨u, hu, ru⟩ := r.get hx
    rw [hkk] at hu
    cases hu
    subst ev
    refine snd_tDG vs dg F H F' H2 σ' δ' _ _ _ S' (.int _) (turn k _ δ' hx hI) _ fun σ3 δ3 S3 _ h3 => ?_
    exact snd_tDS db F H F' H2 σ3 δ3 _ _ S3 h3 ⟨fun F4 H4 σ4 δ4 S4 s4 h4 => ⟨F4, δ4, S4, sf.trans s4, h4⟩, en.rt, en.rtn, fun _ _ _ _ _ _ _ _ _ _ _ h => h.elim, fun _ _ _ _ _ _ h => h.elim, fun F4 H4 σ4 δ4 S4 s4 h4 => ⟨F4, δ4, S4, sf.trans s4, h4⟩, fun _ _ _ _ _ _ _ _ _ h => h.elim⟩
  · have e : k = kvs.length := by omega
    subst e
    exact Or.inl ⟨⟨S'.ext.h _ _ hd, by rw [r.length]; exact Nat.le_refl _⟩, en.nx F' H' σ' δ' S' sf (fin δ' hI)⟩
theorem ps_or {X : Cx} {st : Stmt} {t u : TS} (h : PS X st t) (h' : PS X st u) : PS X st (fun D σ H => t D σ H ∨ u D σ H) := ⟨fun pins s σ H D I q => by
  rcases q with q | q
  · exact h.run pins s σ H D I q
  · exact h'.run pins s σ H D I q⟩
theorem xs_forI {X : Cx} {pos npos : Pos} {x : Str} (i : Nat) {vs : List Nat} {tg : Expr} {body : List Stmt} {dg : DG} {db : DS} (hc : X.calm = true) (hg : XG X vs tg dg) (hb : XSs X body db) (hN : X.N[i]? = some x := by rfl) (hv : Vis X.env.scope x := by first | exact Or.inl rfl | exact Or.inr (Or.inl rfl) | exact Or.inr (Or.inr rfl)) (hd : (x == ("__debug__" : Str)) = false := by decide) (hcd : (x == ("__classdict__" : Str)) = false := by decide)
    (hp : PassesOwn (model X.prog X.w) X.A X.env X.xe := by exact PassesOwn.never) (hs : ∀ y, foldedSetIterable (.Name x npos) X.env y = pure y := by intro _; rfl) : XS X (.For tg (.Name x npos) body [] pos) (dForI i dg db) :=
  xs_of (ps_or (ps_lock (ps_for hp hc (pi_keys (pv i hN hv hd hcd)) hg hb hs)) (ps_for hp hc (pi_keys (pv i hN hv hd hcd)) hg hb hs)) fun F0 H0 F H σ δ D DD S ⟨kvs, hk, cl, I, i0, turn, fin⟩ en => by
    obtain ⟨v, hv, r⟩ := S.get hk
    obtain ⟨d, ks, rfl, hd, r⟩ := r.of_dI
    have sf := S.ext.s
    rcases hd with hd | ⟨od, hd⟩
    · refine .inl ⟨d, .dK ks, sf _ _ hd, trivial, fun od => ?_⟩
      have hH := sf _ _ hd
      have sF' : Same (upd F d (.frz od (.dK ks))) (upd H d (.frz od (.dK ks))) := fun b o q => by
        by_cases e : b = d
        · subst e
          rw [upd_same] at q ⊢
          exact q
        · rw [upd_ne e] at q ⊢
          exact sf _ _ q
      have S' : Stt X.K (upd F d (.frz od (.dK ks))) (upd H d (.frz od (.dK ks))) (upd F d (.frz od (.dK ks))) (upd H d (.frz od (.dK ks))) σ δ := S.clean cl (Ext.refl sF') fun _ _ r => r.sim (sim_lock hd)
      have back : ∀ {F3 H3 : Hp}, Ext (upd F d (.frz od (.dK ks))) (upd H d (.frz od (.dK ks))) F3 H3 → H3 d = some (.frz od (.dK ks)) ∧ Ext F H (upd F3 d (.dK ks)) (upd H3 d (.dK ks)) ∧ Sim F3 (upd F3 d (.dK ks)) := fun {F3 H3} e => by
        have f3 : F3 d = some (.frz od (.dK ks)) := e.f _ _ upd_same
        refine ⟨e.s _ _ f3, ⟨fun b o q => ?_, fun b o q => ?_, fun b o q => ?_, fun b q1 q2 => ?_⟩, sim_free f3⟩
        · by_cases z : b = d
          · subst z
            rw [hd] at q
            cases q
            exact upd_same
          · rw [upd_ne z]
            exact e.f _ _ (by rw [upd_ne z]; exact q)
        · by_cases z : b = d
          · subst z
            rw [hH] at q
            cases q
            exact upd_same
          · rw [upd_ne z]
            exact e.h _ _ (by rw [upd_ne z]; exact q)
        · by_cases z : b = d
          · subst z
            rw [upd_same] at q ⊢
            exact q
          · rw [upd_ne z] at q ⊢
            exact e.s _ _ q
        · have z : b ≠ d := fun z => by
            rw [z, hd] at q1
            cases q1
          rw [upd_ne z] at q2
          have := e.n b (by rw [upd_ne z]; exact q1) q2
          rw [upd_ne z] at this
          exact this
      refine snd_forI (DD := DD) S' upd_same hv (r.sim (sim_lock hd)) i0 turn fin ⟨fun F3 H3 σ3 δ3 S3 s3 h => ?_, fun v F3 H3 x e rv h => ?_, fun a ys F3 H3 xs e na hF hH3 rv h => ?_, fun _ _ _ _ _ _ _ _ _ _ _ h => h.elim, fun _ _ _ _ _ _ h => h.elim, fun _ _ _ _ _ _ h => h.elim, fun _ _ _ _ _ _ _ _ _ h => h.elim⟩
      · obtain ⟨b1, b2, b3⟩ := back S3.ext
        exact ⟨b1, en.nx _ _ σ3 δ3 (S3.clean h.1 (S.ext.trans b2) fun _ _ r => r.sim b3) b2.f h.2⟩
      · obtain ⟨b1, b2, b3⟩ := back e
        exact ⟨b1, en.rt v _ _ x (S.ext.trans b2) (rv.sim b3) h⟩
      · obtain ⟨b1, b2, b3⟩ := back e
        have z : a ≠ d := fun z => by
          rw [z, upd_same] at na
          cases na
        rw [upd_ne z] at na
        exact ⟨b1, en.rtn a ys _ _ xs (S.ext.trans b2) (S.ext.h.free na) (by rw [upd_ne z]; exact hF) (by rw [upd_ne z]; exact hH3) (rv.sim b3) h⟩
    · refine .inr ?_
      have S' : Stt X.K F H F H σ δ := S.clean cl (Ext.refl sf) fun _ _ r => r
      exact snd_forI (DD := DD) S' (sf _ _ hd) hv r i0 turn fin ⟨fun F3 H3 σ3 δ3 S3 s3 h => en.nx _ _ σ3 δ3 (S3.clean h.1 (S.ext.trans S3.ext) fun _ _ r => r) S3.ext.f h.2, fun v F3 H3 x e rv h => en.rt v F3 H3 x (S.ext.trans e) rv h, fun a ys F3 H3 xs e na hF hH3 rv h => en.rtn a ys F3 H3 xs (S.ext.trans e) (S.ext.h.free na) hF hH3 rv h, fun _ _ _ _ _ _ _ _ _ _ _ h => h.elim, fun _ _ _ _ _ _ h => h.elim, fun _ _ _ _ _ _ h => h.elim, fun _ _ _ _ _ _ _ _ _ h => h.elim⟩
end Pw
set_option Elab.async false
set_option linter.all false
set_option maxRecDepth 100000
set_option maxHeartbeats 1000000
/-! Instances: fields read and written, methods, making. -/
namespace Pw
open PySem PySem.Spec L2
/-- the class at the name C may be asked for f -/
structure Fld (K : PySem.W.Frag) (C f : Str) : Prop where
  cl : Cls K (He.ga K C)
  no : NoAttr K (He.ga K C) f
def putD (f : Str) (x : Dat) : List (Str × Dat) → List (Str × Dat)
  | [] => [(f, x)]
  | (g, y) :: r => if g = f then (g, x) :: r else (g, y) :: putD f x r
section
variable {K : PySem.W.Frag} {H : Hp}
theorem RpF.look (f : Str) : ∀ {vs : List (Str × V)} {ds : List (Str × Dat)}, RpF K H vs ds → (∀ d, ds.lookup f = some d → ∃ v, vs.lookup f = some v ∧ Rp K H v d) ∧ (ds.lookup f = Option.none → vs.lookup f = Option.none)
  | _, _, .nil => ⟨fun d h => (by cases h), fun _ => rfl⟩
  | _, _, .cons (f := g) (v := v) (d := d) (vs := vs) (ds := ds) h r => by
    obtain ⟨g1, g2⟩ := RpF.look f r
    rw [List.lookup_cons, List.lookup_cons]
    cases e : f == g with
    | true =>
      refine ⟨fun d' q => ?_, fun q => by cases q⟩
      cases q
      exact ⟨v, rfl, h⟩
    | false => exact ⟨g1, g2⟩
theorem RpF.put {f : Str} {v : V} {d : Dat} (h : Rp K H v d) : ∀ {vs : List (Str × V)} {ds : List (Str × Dat)}, RpF K H vs ds → RpF K H (putF f v vs) (putD f d ds)
  | _, _, .nil => .cons h .nil
  | _, _, .cons (f := g) h1 r => by
    unfold putF putD
    by_cases e : g = f
    · rw [if_pos e, if_pos e]
      exact .cons h r
    · rw [if_neg e, if_neg e]
      exact .cons h1 (RpF.put h r)
theorem RpF.len : ∀ {vs : List (Str × V)} {ds : List (Str × Dat)}, RpF K H vs ds → vs.length = ds.length
  | _, _, .nil => rfl
  | _, _, .cons _ r => congrArg Nat.succ (RpF.len r)
end
section
variable {K : PySem.W.Frag} {F0 H0 F H F2 H2 : Hp} {σ : L2.St} {δ : List Sl} {i : Nat} {C : Str} {fs : List (Str × Dat)}
theorem Stt.getN {a : Addr} (S : Stt K F0 H0 F H σ δ) (h : δ[i]? = some (.oN a C fs)) : ∃ dx fsV, σ[i]? = some (some (.ref a)) ∧ H a = some (.ins (He.ga K C) dx fsV) ∧ RpF K F fsV fs ∧ H0 a = Option.none ∧ F a = Option.none := by
  obtain ⟨fp, h1, h2, h3⟩ := S.own
  obtain ⟨dx, fsV, e, q, ha, r⟩ := h3 i _ h
  exact ⟨dx, fsV, e, ha, r, (h1 i a q).1, (h1 i a q).2.1⟩
theorem Stt.getrN (S : Stt K F0 H0 F H σ δ) (h : δ[i]? = some (.rN C fs)) : ∃ a dx fsV, σ[i]? = some (some (.ref a)) ∧ H a = some (.ins (He.ga K C) dx fsV) ∧ RpF K F fsV fs := by
  obtain ⟨fp, h1, h2, h3⟩ := S.own
  obtain ⟨a, dx, fsV, e, ha, r⟩ := h3 i _ h
  exact ⟨a, dx, fsV, e, S.ext.h _ _ ha, r⟩
/-- the own instance in slot i has changed, and frozen parts have come -/
theorem Stt.setN (S : Stt K F0 H0 F H σ δ) {a dx dx2 : Addr} {fsV fsV2 : List (Str × V)} {fs2 : List (Str × Dat)} (hs : δ[i]? = some (.oN a C fs)) (hH : H a = some (.ins (He.ga K C) dx fsV)) (f : Same F F2) (s : Same F2 H2) (h : ∀ b, b ≠ a → ∀ o, H b = some o → H2 b = some o)
    (n : ∀ b, F b = Option.none → F2 b ≠ Option.none → H b = Option.none) (hF : F2 a = Option.none) (h2 : H2 a = some (.ins (He.ga K C) dx2 fsV2)) (r : RpF K F2 fsV2 fs2) : Stt K F0 H0 F2 H2 σ (δ.set i (.oN a C fs2)) := by
  have e : Ext F H F2 (upd H2 a (.ins (He.ga K C) dx fsV)) := by
    refine ⟨f, fun b o q => ?_, fun b o q => ?_, n⟩
    · by_cases z : b = a
      · subst z
        rw [hH] at q
        cases q
        exact upd_same
      · rw [upd_ne z]
        exact h b z o q
    · rw [upd_ne (ne_of_none q hF)]
      exact s _ _ q
  refine S.re e hs fun fp hfp hr => ?_
  obtain ⟨dx', fsV', q1, q2, q3, q4⟩ := hr
  refine ⟨fp, fun b hb => ⟨.inl hb, ?_⟩, fun b => ?_, dx2, fsV2, q1, q2, h2, r⟩
  · by_cases z : b = a
    · subst z
      rw [h2]
      exact nofun
    · have := (hfp b hb).2.2
      rw [upd_ne z] at this
      exact this
  · by_cases z : b = a
    · exact .inr (.inl (by rw [z]; exact q2))
    · exact .inl (by rw [upd_ne z])
end
section
variable {X : Cx} {pos p apos cpos npos tpos : Pos} {e : Expr} {es : List Expr} {x f : Str}
/-- own.f, read.f -/
def dOF (i : Nat) (C f : Str) : DE := fun δ P => ∃ a fs z, (δ[i]? = some (.oN a C fs) ∨ δ[i]? = some (.rN C fs)) ∧ fs.lookup f = some z ∧ P z
theorem xe_oF (i : Nat) (C : Str) (c : Fld X.K C f) (hN : X.N[i]? = some x := by rfl) (hv : Vis X.env.scope x := by first | exact Or.inl rfl | exact Or.inr (Or.inl rfl) | exact Or.inr (Or.inr rfl)) (hd : (x == ("__debug__" : Str)) = false := by decide) (hcd : (x == ("__classdict__" : Str)) = false := by decide)
    (hb : attributeBase (.Name x npos) f X.env (eval (.Name x npos) X.env) = eval (.Name x npos) X.env := by rfl) : XE X (.Attribute (.Name x npos) f pos) (dOF i C f) := xe_of (pe_fld (pv i hN hv hd hcd) hb) fun F0 H0 F H σ δ P S ⟨a0, fs, z, hs, hl, hp⟩ Q q => by
  obtain ⟨a, dx, fsV, g1, g2, g3⟩ : ∃ a dx fsV, σ[i]? = some (some (.ref a)) ∧ H a = some (.ins (He.ga X.K C) dx fsV) ∧ RpF X.K F fsV fs := by
    rcases hs with hs | hs
    · obtain ⟨dx, fsV, g1, g2, g3, _⟩ := S.getN hs
      exact ⟨a0, dx, fsV, g1, g2, g3⟩
    · exact S.getrN hs
  obtain ⟨v, hv, rv⟩ := (g3.look f).1 z hl
  exact ⟨.ref a, g1, a, _, dx, fsV, v, rfl, g2, c.cl, c.no, hv, q v F H z (Ext.refl S.ext.s) rv hp⟩
/-- own.f = e -/
def dSetF (i : Nat) (C f : Str) (d : DE) : DS := fun D δ => d δ fun z => ∃ a fs, δ[i]? = some (.oN a C fs) ∧ fs.length < 1000 ∧ D.nx (δ.set i (.oN a C (putD f z fs)))
theorem xs_setF (i : Nat) (C : Str) {d : DE} (c : Fld X.K C f) (he : XE X e d) (hN : X.N[i]? = some x := by rfl) (hv : Vis X.env.scope x := by first | exact Or.inl rfl | exact Or.inr (Or.inl rfl) | exact Or.inr (Or.inr rfl)) (hd : (x == ("__debug__" : Str)) = false := by decide) (hcd : (x == ("__classdict__" : Str)) = false := by decide)
    (hs : swapsWith e (some (.Attribute (.Name x npos) f tpos)) pos.line X.env = pure false := by rfl) : XS X (.Assign [.Attribute (.Name x npos) f tpos] e pos) (dSetF i C f d) := xs_of (ps_fld (pv i hN hv hd hcd) he hs) fun F0 H0 F H σ δ D DD S hdd en => by
  refine snd_tD d F0 H0 F H σ δ _ S hdd _ fun v F1 H1 z e1 rz ⟨a, fs, hs, hl, hn⟩ => ?_
  have S1 := S.grow e1
  obtain ⟨dx, fsV, g1, g2, g3, g4, g5⟩ := S1.getN hs
  refine ⟨.ref a, g1, a, _, dx, fsV, rfl, g2, c.cl, c.no, by rw [g3.len]; exact hl, ?_⟩
  refine en.nx F1 _ _ _ (S1.setN (dx2 := dx) hs g2 (Same.refl F1) (fun b o q => ?_) (fun b hb o q => by rw [upd_ne hb]; exact q) (fun b q1 q2 => absurd q1 q2) g5 upd_same (g3.put rz)) e1.f hn
  rw [upd_ne (ne_of_none q g5)]
  exact S1.ext.s _ _ q
/-! ### an expression that changes an own instance -/
abbrev DX := List Sl → (List Sl → Dat → Prop) → Prop
def tDM (K : PySem.W.Frag) (d : DX) : TE := fun σ H Q => ∃ F0 H0 F δ P, Stt K F0 H0 F H σ δ ∧ d δ P ∧ ∀ v F2 H2 δ2 x, Stt K F0 H0 F2 H2 σ δ2 → Same F F2 → Rp K F2 v x → P δ2 x → Q v H2
def SndM (K : PySem.W.Frag) (t : TE) (d : DX) : Prop := ∀ (F0 H0 F H : Hp) (σ : L2.St) (δ : List Sl) (P : List Sl → Dat → Prop), Stt K F0 H0 F H σ δ → d δ P → ∀ Q : VK, (∀ v F2 H2 δ2 x, Stt K F0 H0 F2 H2 σ δ2 → Same F F2 → Rp K F2 v x → P δ2 x → Q v H2) → t σ H Q
theorem snd_tDM {K : PySem.W.Frag} (d : DX) : SndM K (tDM K d) d := fun F0 H0 F H σ δ P S h Q q => ⟨F0, H0, F, δ, P, S, h, q⟩
def XM (X : Cx) (e : Expr) (d : DX) : Prop := PE X e (tDM X.K d)
theorem xm_of {t : TE} {d : DX} (h : PE X e t) (s : SndM X.K t d) : XM X e d := ⟨fun pins s0 σ H Q I ⟨F0, H0, F, δ, P, S, hd, q⟩ => h.run pins s0 σ H Q I (s F0 H0 F H σ δ P S hd Q q)⟩
/-- name = e -/
def dSetX (j : Nat) (d : DX) : DS := fun D δ => d δ fun δ2 x => D.nx (δ2.set j (.d x))
theorem xs_setX {i : Nat} {d : DX} (hN : X.N.Nodup) (he : XM X e d) (hi : X.N[i]? = some x := by rfl) (hx : Loc X.env.scope x := by first | exact Or.inl rfl | exact Or.inr rfl) (hs : swapsWith e (some (.Name x npos)) pos.line X.env = pure false := by rfl)
    (hf : X.fn x = true ∨ X.env.scope.names.lookup x = some .local := by first | exact .inl rfl | exact .inr rfl) : XS X (.Assign [.Name x npos] e pos) (dSetX i d) := xs_of (ps_set hN hi hx he hs hf) fun F0 H0 F H σ δ D DD S hd en =>
  snd_tDM d F0 H0 F H σ δ _ S hd _ fun v F2 H2 δ2 x S2 s2 rx hx => en.nx F2 H2 _ _ (S2.set rx) s2 hx
/-- if e is not None: it never is -/
def dIfNN (d : DX) : DS := fun D δ => d δ fun δ2 x => x = .non ∧ D.nx δ2
theorem xs_ifNN {d : DX} {body : List Stmt} {j} (he : XM X e d) (hm : behindInMarks .IsNot (.Constant .none j npos) = false := by rfl) : XS X (.If (.Compare e [.IsNot] [.Constant .none j npos] cpos) body [] pos) (dIfNN d) :=
  xs_of (ps_if (pt_cmpR op_notN he xnon hm) pss_never pss_nil) fun F0 H0 F H σ δ D DD S hd en => by
    refine snd_tDM d F0 H0 F H σ δ _ S hd _ fun v F2 H2 δ2 x S2 s2 rx ⟨ex, hx⟩ => ?_
    subst ex
    have ev := rx.of_non
    subst ev
    refine snd_tD (dC .non) F0 H0 F2 H2 σ δ2 (fun x => x = .non) S2 rfl _ fun v F3 H3 y e3 ry ey => ?_
    subst ey
    have ev := ry.of_non
    subst ev
    exact ⟨rfl, false, rfl, en.nx F3 H3 σ δ2 (S2.grow e3) (s2.trans e3.f) hx⟩
/-! ### promises of methods -/
/-- self is the caller's own instance; what is handed back, and its fields -/
abbrev PreG := List (Str × Dat) → List Dat → (List (Str × Dat) → Dat → Prop) → Prop
def spG (K : PySem.W.Frag) (C : Str) (pre : PreG) : Sp := fun vs H Q _ => ∃ F a dx fsV vs' fs ds post, vs = .ref a :: vs' ∧ Same F H ∧ F a = Option.none ∧ H a = some (.ins (He.ga K C) dx fsV) ∧ RpF K F fsV fs ∧ RpL K F vs' ds ∧ pre fs ds post ∧
  ∀ v F2 H2 dx2 fsV2 fs2 x, Same F F2 → Same F2 H2 → (∀ b, b ≠ a → ∀ o, H b = some o → H2 b = some o) → (∀ b, F b = Option.none → F2 b ≠ Option.none → H b = Option.none) → F2 a = Option.none → H2 a = some (.ins (He.ga K C) dx2 fsV2) → RpF K F2 fsV2 fs2 → Rp K F2 v x → post fs2 x → Q v H2
/-- self is read -/
def spRN (K : PySem.W.Frag) (C : Str) (pre : List (Str × Dat) → List Dat → (Dat → Prop) → Prop) : Sp := fun vs H Q _ => ∃ F a dx fsV vs' fs ds post, vs = .ref a :: vs' ∧ Same F H ∧ H a = some (.ins (He.ga K C) dx fsV) ∧ RpF K F fsV fs ∧ RpL K F vs' ds ∧ pre fs ds post ∧
  ∀ v F2 H2 x, Ext F H F2 H2 → Rp K F2 v x → post x → Q v H2
/-! ### calls -/
/-- f(own, ..) -/
def dCallG (i : Nat) (C : Str) (pre : PreG) (da : DA) : DX := fun δ P => ∃ a fs, δ[i]? = some (.oN a C fs) ∧ da δ fun xs => pre fs xs fun fs2 x => P (δ.set i (.oN a C fs2)) x
theorem snd_callG {K : PySem.W.Frag} {i : Nat} {C : Str} {pre : PreG} {F0 H0 F H F1 H1 : Hp} {σ : L2.St} {δ : List Sl} {P : List Sl → Dat → Prop} {Q : VK} {vs : List V} {xs : List Dat} {a : Addr} {E : XK} (S : Stt K F0 H0 F H σ δ) (e1 : Ext F H F1 H1) (rx : RpL K F1 vs xs) 
    {fs : List (Str × Dat)} (hs : δ[i]? = some (.oN a C fs)) (hp : pre fs xs fun fs2 x => P (δ.set i (.oN a C fs2)) x) (q : ∀ v F2 H2 δ2 x, Stt K F0 H0 F2 H2 σ δ2 → Same F F2 → Rp K F2 v x → P δ2 x → Q v H2) : spG K C pre (.ref a :: vs) H1 Q E := by
  have S1 := S.grow e1
  obtain ⟨dx, fsV, g1, g2, g3, g4, g5⟩ := S1.getN hs
  refine ⟨F1, a, dx, fsV, vs, fs, xs, _, rfl, S1.ext.s, g5, g2, g3, rx, hp, fun v F2 H2 dx2 fsV2 fs2 x b1 b2 b3 b4 b5 b6 b7 b8 b9 => ?_⟩
  exact q v F2 H2 _ x (S1.setN hs g2 b1 b2 b3 b4 b5 b6 b7) (e1.f.trans b1) b8 b9
theorem xm_c {i k j : Nat} {C g : Str} {pre : PreG} {d : DA} (c : CalX X k g (spG X.K C pre) []) (hr : Room j X.A) (ha : XA X es d) (hk : k ≤ j := by decide) (hN : X.N[i]? = some x := by rfl) (hv : Vis X.env.scope x := by first | exact Or.inl rfl | exact Or.inr (Or.inl rfl) | exact Or.inr (Or.inr rfl)) (hd : (x == ("__debug__" : Str)) = false := by decide) (hcd : (x == ("__classdict__" : Str)) = false := by decide)
    (hg : Gl X g := by rfl) (hdb : (g == ("__debug__" : Str)) = false := by decide) (he : starEach (.Name x npos :: es) X.env = (false, eval (.Name x npos) X.env) :: starEach es X.env := by rfl) (hpl : (backTo pos (starEach es X.env)).any (·.1) = false := by rfl) : XM X (.Call (.Name g p) (.Name x npos :: es) [] pos) (dCallG i C pre d) :=
  xm_of (C8.pe_c c hr hk hg (pa_cons (pv i hN hv hd hcd) ha he) hdb he hpl) fun F0 H0 F H σ δ P S hdd Q q => by
    obtain ⟨a, fs, hs, hda⟩ := hdd
    obtain ⟨dx, fsV, g1, g2, g3, g4, g5⟩ := S.getN hs
    refine ⟨.ref a, g1, snd_tDA d F0 H0 F H σ δ _ S hda _ fun vs F1 H1 xs e1 rx hx => ?_⟩
    show spG X.K C pre (.ref a :: vs ++ []) H1 Q C8.E0
    rw [List.append_nil]
    exact snd_callG S e1 rx hs hx q
/-- own.m(..) -/
def dCallMt (i : Nat) (C m : Str) (pre : PreG) (da : DA) : DX := fun δ P => ∃ a fs, δ[i]? = some (.oN a C fs) ∧ fs.lookup m = Option.none ∧ da δ fun xs => pre fs xs fun fs2 x => P (δ.set i (.oN a C fs2)) x
theorem xm_mt {i k j : Nat} {C m : Str} {pre : PreG} {d : DA} {pl : Sem Bool} (c : C8.Met X.prog X.w X.K X.mg X.base k (He.ga X.K C) m (spG X.K C pre) []) (hr : Room j X.A) (ha : XA X (e :: es) d) (hk : k ≤ j := by decide) (hN : X.N[i]? = some x := by rfl) (hv : Vis X.env.scope x := by first | exact Or.inl rfl | exact Or.inr (Or.inl rfl) | exact Or.inr (Or.inr rfl)) (hd : (x == ("__debug__" : Str)) = false := by decide) (hcd : (x == ("__classdict__" : Str)) = false := by decide)
    (hst : starEach (e :: es) X.env = (false, eval e X.env) :: starEach es X.env := by rfl) (hpl : (backTo pos (starEach es X.env)).any (·.1) = false := by rfl)
    (ht : eval (.Call (.Attribute (.Name x npos) m apos) (e :: es) [] pos) X.env = (do
      let ov ← eval (.Name x npos) X.env
      standAt apos.atName
      let (f, first) ← holding [ov] (getMethod ov m pl)
      callWith pos f first (backTo pos (starEach (e :: es) X.env)) (backToKw pos (keywordEach [] X.env))) := by rfl) :
    XM X (.Call (.Attribute (.Name x npos) m apos) (e :: es) [] pos) (dCallMt i C m pre d) :=
  xm_of (C8.pe_mt (pl := pl) c hr hk (pv i hN hv hd hcd) ha hst hpl ht) fun F0 H0 F H σ δ P S hdd Q q => by
    obtain ⟨a, fs, hs, hl, hda⟩ := hdd
    obtain ⟨dx, fsV, g1, g2, g3, g4, g5⟩ := S.getN hs
    refine ⟨.ref a, g1, a, dx, fsV, rfl, g2, (g3.look m).2 hl, snd_tDA d F0 H0 F H σ δ _ S hda _ fun vs F1 H1 xs e1 rx hx => ?_⟩
    rw [List.append_nil]
    exact snd_callG S e1 rx hs hx q
/-- read.m() -/
def dMtR (i : Nat) (C m : Str) (pre : List (Str × Dat) → List Dat → (Dat → Prop) → Prop) : DE := fun δ P => ∃ a fs, (δ[i]? = some (.oN a C fs) ∨ δ[i]? = some (.rN C fs)) ∧ fs.lookup m = Option.none ∧ pre fs [] P
theorem Stt.getEN {K : PySem.W.Frag} {F0 H0 F H : Hp} {σ : L2.St} {δ : List Sl} {i : Nat} {C : Str} {a0 : Addr} {fs : List (Str × Dat)} (S : Stt K F0 H0 F H σ δ) (hs : δ[i]? = some (.oN a0 C fs) ∨ δ[i]? = some (.rN C fs)) : ∃ a dx fsV, σ[i]? = some (some (.ref a)) ∧ H a = some (.ins (He.ga K C) dx fsV) ∧ RpF K F fsV fs := by
  rcases hs with hs | hs
  · obtain ⟨dx, fsV, g1, g2, g3, _⟩ := S.getN hs
    exact ⟨a0, dx, fsV, g1, g2, g3⟩
  · exact S.getrN hs
theorem xe_mtR {i k j : Nat} {C m : Str} {pre : List (Str × Dat) → List Dat → (Dat → Prop) → Prop} {pl : Sem Bool} (c : C8.Met X.prog X.w X.K X.mg X.base k (He.ga X.K C) m (spRN X.K C pre) []) (hr : Room j X.A) (hk : k ≤ j := by decide) (hN : X.N[i]? = some x := by rfl) (hv : Vis X.env.scope x := by first | exact Or.inl rfl | exact Or.inr (Or.inl rfl) | exact Or.inr (Or.inr rfl)) (hd : (x == ("__debug__" : Str)) = false := by decide) (hcd : (x == ("__classdict__" : Str)) = false := by decide)
    (ht : eval (.Call (.Attribute (.Name x npos) m apos) [] [] pos) X.env = (do
      let ov ← eval (.Name x npos) X.env
      standAt apos.atName
      let (f, first) ← holding [ov] (getMethod ov m pl)
      callWith pos f first (backTo pos (starEach [] X.env)) (backToKw pos (keywordEach [] X.env))) := by rfl) :
    XE X (.Call (.Attribute (.Name x npos) m apos) [] [] pos) (dMtR i C m pre) :=
  xe_of (C8.pe_mt0 (pl := pl) c hr hk (pv i hN hv hd hcd) ht) fun F0 H0 F H σ δ P S ⟨a0, fs, hs, hl, hp⟩ Q q => by
    obtain ⟨a, dx, fsV, g1, g2, g3⟩ := S.getEN hs
    exact ⟨.ref a, g1, a, dx, fsV, rfl, g2, (g3.look m).2 hl, F, a, dx, fsV, [], fs, [], P, rfl, S.ext.s, g2, g3, .nil, hp, fun v F2 H2 x e r h => q v F2 H2 x e r h⟩
/-- f(read, ..) -/
def dCRN (i : Nat) (C : Str) (pre : List (Str × Dat) → List Dat → (Dat → Prop) → Prop) (d : DA) : DE := fun δ P => ∃ a fs, (δ[i]? = some (.oN a C fs) ∨ δ[i]? = some (.rN C fs)) ∧ d δ fun xs => pre fs xs P
theorem xe_cRN {i k j : Nat} {C g : Str} {pre : List (Str × Dat) → List Dat → (Dat → Prop) → Prop} {d : DA} (c : CalX X k g (spRN X.K C pre) []) (hr : Room j X.A) (ha : XA X es d) (hk : k ≤ j := by decide) (hN : X.N[i]? = some x := by rfl) (hv : Vis X.env.scope x := by first | exact Or.inl rfl | exact Or.inr (Or.inl rfl) | exact Or.inr (Or.inr rfl)) (hd : (x == ("__debug__" : Str)) = false := by decide) (hcd : (x == ("__classdict__" : Str)) = false := by decide)
    (hg : Gl X g := by rfl) (hdb : (g == ("__debug__" : Str)) = false := by decide) (he : starEach (.Name x npos :: es) X.env = (false, eval (.Name x npos) X.env) :: starEach es X.env := by rfl) (hpl : (backTo pos (starEach es X.env)).any (·.1) = false := by rfl) : XE X (.Call (.Name g p) (.Name x npos :: es) [] pos) (dCRN i C pre d) :=
  xe_of (C8.pe_c c hr hk hg (pa_cons (pv i hN hv hd hcd) ha he) hdb he hpl) fun F0 H0 F H σ δ P S ⟨a0, fs, hs, hda⟩ Q q => by
    obtain ⟨a, dx, fsV, g1, g2, g3⟩ := S.getEN hs
    refine ⟨.ref a, g1, snd_tDA d F0 H0 F H σ δ _ S hda _ fun vs F1 H1 xs e1 rx hx => ?_⟩
    show spRN X.K C pre (.ref a :: vs ++ []) H1 Q C8.E0
    rw [List.append_nil]
    exact ⟨F1, a, dx, fsV, vs, fs, xs, P, rfl, e1.s, e1.h _ _ g2, g3.mono e1.f, rx, hx, fun v F2 H2 x e r h => q v F2 H2 x (e1.trans e) r h⟩
/-! ### making -/
theorem snd_mk {K : PySem.W.Frag} {C : Str} {pre : PreG} {F H : Hp} {vs : List V} {xs : List Dat} {P : List (Str × Dat) → Prop} {Q : VK} {E : XK} (s : Same F H) (r : RpL K F vs xs) (h : pre [] xs fun fs x => x = .non ∧ P fs) {a dx : Addr} (ha : H a = Option.none) (hdx : H dx = Option.none) (hne : dx ≠ a)
    (q : ∀ F2 H2 dx2 fsV fs, Ext F H F2 H2 → H a = Option.none → F2 a = Option.none → H2 a = some (.ins (He.ga K C) dx2 fsV) → RpF K F2 fsV fs → P fs → Q (.ref a) H2) :
    spG K C pre (.ref a :: vs) (upd (upd H dx (.own a)) a (.ins (He.ga K C) dx [])) (fun v H2 => v = .non ∧ Q (.ref a) H2) E := by
  have hF : F a = Option.none := s.free ha
  have hFd : F dx = Option.none := s.free hdx
  have g : ∀ b o, H b = some o → upd (upd H dx (.own a)) a (.ins (He.ga K C) dx []) b = some o := fun b o z => by
    rw [upd_ne (ne_of_none z ha), upd_ne (ne_of_none z hdx)]
    exact z
  refine ⟨F, a, dx, [], vs, [], xs, _, rfl, fun b o z => g b o (s b o z), hF, upd_same, .nil, r, h, fun v F2 H2 dx2 fsV2 fs2 x b1 b2 b3 b4 b5 b6 b7 b8 b9 => ?_⟩
  obtain ⟨ex, hp⟩ := b9
  subst ex
  refine ⟨b8.of_non, q F2 H2 dx2 fsV2 fs2 ⟨b1, fun b o z => b3 b (ne_of_none z ha) o (g b o z), b2, fun b z1 z2 => ?_⟩ ha b5 b6 b7 hp⟩
  have z3 := b4 b z1 z2
  by_cases zb : b = a
  · rw [zb]
    exact ha
  · rw [upd_ne zb] at z3
    by_cases zd : b = dx
    · rw [zd]
      exact hdx
    · rw [upd_ne zd] at z3
      exact z3
/-- name = C(..): an own instance -/
def dMkN (j : Nat) (C : Str) (pre : PreG) (d : DA) : DS := fun D δ => d δ fun xs => pre [] xs fun fs x => x = .non ∧ ∀ a, D.nx (δ.set j (.oN a C fs))
theorem xs_mkN {i k j : Nat} {C : Str} {pre : PreG} {d : DA} (hN : X.N.Nodup) (c : C8.Mak X.prog X.w X.K X.mg X.base k C (He.ga X.K C) (spG X.K C pre) []) (hr : Room j X.A) (ha : XA X (e :: es) d) (hk : k + 1 ≤ j := by decide) (hg : Gl X C := by rfl)
    (hdb : (C == ("__debug__" : Str)) = false := by decide) (he : starEach (e :: es) X.env = (false, eval e X.env) :: starEach es X.env := by rfl) (hpl : (backTo cpos (starEach es X.env)).any (·.1) = false := by rfl)
    (hi : X.N[i]? = some x := by rfl) (hx : Loc X.env.scope x := by first | exact Or.inl rfl | exact Or.inr rfl) (hs : swapsWith (.Call (.Name C p) (e :: es) [] cpos) (some (.Name x npos)) pos.line X.env = pure false := by rfl)
    (hf : X.fn x = true ∨ X.env.scope.names.lookup x = some .local := by first | exact .inl rfl | exact .inr rfl) : XS X (.Assign [.Name x npos] (.Call (.Name C p) (e :: es) [] cpos) pos) (dMkN i C pre d) :=
  xs_of (ps_set hN hi hx (C8.pe_mk c hr hk hg ha hdb he hpl) hs hf) fun F0 H0 F H σ δ D DD S hd en => by
    refine snd_tDA d F0 H0 F H σ δ _ S hd _ fun vs F1 H1 xs e1 rx hx a dx h1 h2 h3 => ?_
    rw [List.append_nil]
    refine snd_mk (C := C) (E := C8.E0) (Q := fun x H1 => gName i x σ H1 D.nx) (P := fun fs => ∀ a, DD.nx (δ.set i (.oN a C fs))) e1.s rx hx h1 h2 h3 fun F2 H2 dx2 fsV fs ex na hF hH r hp => ?_
    refine en.nx F2 _ _ _ ((S.grow e1).setNewM (s := .oN a C fs) (a := a) (ls := [a]) ex (fun b hb => ?_) ⟨dx2, fsV, rfl, by simp, hH, r⟩) (e1.f.trans ex.f) (hp a)
    have : b = a := by simpa using hb
    subst this
    exact ⟨na, hF, by rw [hH]; exact nofun⟩
/-- C(..): a pool, frozen -/
def poolF (c : List Int) (r : List (List Int)) : List (Str × Dat) := [("caps", tI c), ("holders", .tup (r.map tI)), ("seats", .int c.length), ("pieces", .int r.length)]
def dMkP (pre : PreG) (d : DA) : DE := fun δ P => d δ fun xs => pre [] xs fun fs x => x = .non ∧ ∃ c r, fs = poolF c r ∧ P (.pool c r)
theorem RpF.pool {K : PySem.W.Frag} {H : Hp} {a dx : Addr} {fsV : List (Str × V)} {c : List Int} {r : List (List Int)} (ha : H a = some (.ins (He.ga K "Pool") dx fsV)) (h : RpF K H fsV (poolF c r)) : Rp K H (.ref a) (.pool c r) := by
  unfold poolF at h
  cases h with
  | cons h1 h =>
    cases h with
    | cons h2 h =>
      cases h with
      | cons h3 h =>
        cases h with
        | cons h4 h =>
          cases h
          obtain ⟨t1, y1, rfl, z1, r1⟩ := h1.of_tup
          have e1 := r1.ints
          subst e1
          obtain ⟨t2, y2, rfl, z2, r2⟩ := h2.of_tup
          have e3 := h3.of_int
          have e4 := h4.of_int
          subst e3 e4
          exact .pool ha rfl rfl rfl rfl z1 z2 r2
theorem xe_mkP {k j : Nat} {pre : PreG} {d : DA} (c : C8.Mak X.prog X.w X.K X.mg X.base k "Pool" (He.ga X.K "Pool") (spG X.K "Pool" pre) []) (hr : Room j X.A) (ha : XA X (e :: es) d) (hk : k + 1 ≤ j := by decide) (hg : Gl X "Pool" := by rfl)
    (hdb : (("Pool" : Str) == ("__debug__" : Str)) = false := by decide) (he : starEach (e :: es) X.env = (false, eval e X.env) :: starEach es X.env := by rfl) (hpl : (backTo pos (starEach es X.env)).any (·.1) = false := by rfl) : XE X (.Call (.Name "Pool" p) (e :: es) [] pos) (dMkP pre d) :=
  xe_of (C8.pe_mk c hr hk hg ha hdb he hpl) fun F0 H0 F H σ δ P S hd Q q => by
    refine snd_tDA d F0 H0 F H σ δ _ S hd _ fun vs F1 H1 xs e1 rx hx a dx h1 h2 h3 => ?_
    rw [List.append_nil]
    refine snd_mk (C := "Pool") (E := C8.E0) (Q := Q) (P := fun fs => ∃ c r, fs = poolF c r ∧ P (.pool c r)) e1.s rx hx h1 h2 h3 fun F2 H2 dx2 fsV fs ex na hF hH r hp => ?_
    obtain ⟨c, rows, ef, hp⟩ := hp
    subst ef
    exact q (.ref a) (upd F2 a _) H2 _ (e1.trans (ex.freeze na hF hH)) (RpF.pool upd_same (r.mono (upd_same' hF))) hp
end
end Pw
set_option Elab.async false
set_option linter.all false
set_option maxRecDepth 100000
set_option maxHeartbeats 1000000
/-! Defs and methods with an instance; isinstance of a pool. -/
namespace Pw
open PySem PySem.Spec L2
def startG (N : List Str) (s : Sl) (ds : List Dat) : List Sl := (startD N (.non :: ds)).set 0 s
/-- the ends of a method: what is handed back and self's fields -/
def endsG (a : Addr) (C : Str) (post : List (Str × Dat) → Dat → Prop) : DEnds := ⟨fun δ => ∃ fs, δ[0]? = some (.oN a C fs) ∧ post fs .non, fun _ => False, fun _ => False, fun _ => False, fun _ => False, fun _ => False, fun δ x => ∃ fs, δ[0]? = some (.oN a C fs) ∧ post fs x⟩
section
variable {P : Program} {w : World} {K : PySem.W.Frag} {mg : Str → Option Value} {base : Heap}
theorem stt_head {N : List Str} {F H H0 : Hp} {vs : List V} {ds : List Dat} {v0 : V} {s0 : Sl} {fp0 : Addr → Prop} (e : Ext F H0 F H) (r : RpL K F vs ds) (h0 : ∀ a, fp0 a → H0 a = Option.none ∧ F a = Option.none ∧ H a ≠ Option.none) (hs : SlR K H0 F H (some (some v0)) fp0 s0) : Stt K F H0 F H (L2.start N (v0 :: vs)) (startG N s0 ds) := by
  have hl := r.length
  refine ⟨e, ?_, fun i a => i = 0 ∧ fp0 a, fun i a z => h0 a z.2, fun i j a z1 z2 => z1.1.trans z2.1.symm, fun i t ht => ?_⟩
  · unfold L2.start startG startD
    rw [List.length_set, List.length_append, List.length_append, List.length_map, List.length_map, List.length_replicate, List.length_replicate, List.length_cons, List.length_cons, hl]
  · unfold startG at ht
    cases i with
    | zero =>
      rw [List.getElem?_set_self (by unfold startD; simp)] at ht
      cases ht
      have ee : (fun a => (0 : Nat) = 0 ∧ fp0 a) = fp0 := funext fun a => propext ⟨fun z => z.2, fun z => ⟨rfl, z⟩⟩
      show SlR K H0 F H _ (fun a => (0 : Nat) = 0 ∧ fp0 a) s0
      rw [ee]
      exact hs
    | succ i =>
      rw [List.getElem?_set_ne (by omega)] at ht
      unfold startD at ht
      by_cases hi : i < ds.length
      · rw [List.getElem?_append_left (by simpa using hi), List.getElem?_map, List.getElem?_cons_succ, List.getElem?_eq_getElem hi] at ht
        cases ht
        obtain ⟨v, hv, rv⟩ := r.get (List.getElem?_eq_getElem hi)
        refine ⟨v, ?_, rv⟩
        unfold L2.start
        rw [List.getElem?_append_left (by rw [List.length_map, List.length_cons, hl]; omega), List.getElem?_map, List.getElem?_cons_succ, hv]
        rfl
      · rw [List.getElem?_append_right (by simp; omega), List.getElem?_replicate] at ht
        split at ht
        · cases ht
          trivial
        · cases ht
theorem ends_okG {F H : Hp} {a : Addr} {C : Str} {Q : VK} {post : List (Str × Dat) → Dat → Prop} (q : ∀ v F2 H2 dx2 fsV2 fs2 x, Same F F2 → Same F2 H2 → (∀ b, b ≠ a → ∀ o, H b = some o → H2 b = some o) → (∀ b, F b = Option.none → F2 b ≠ Option.none → H b = Option.none) → F2 a = Option.none → H2 a = some (.ins (He.ga K C) dx2 fsV2) → RpF K F2 fsV2 fs2 → Rp K F2 v x → post fs2 x → Q v H2) :
    EndsOk K F (fun b => if b = a then Option.none else H b) F { nx := fun _ H' => Q .non H', rt := Q } (endsG a C post) := by
  have go : ∀ (v : V) (F' H' : Hp) (σ' : L2.St) (δ' : List Sl) (x : Dat), Stt K F (fun b => if b = a then Option.none else H b) F' H' σ' δ' → Rp K F' v x → (∃ fs, δ'[0]? = some (.oN a C fs) ∧ post fs x) → Q v H' := by
    intro v F' H' σ' δ' x S r ⟨fs, hs, hp⟩
    obtain ⟨dx, fsV, g1, g2, g3, g4, g5⟩ := S.getN hs
    refine q v F' H' dx fsV fs x S.ext.f S.ext.s (fun b hb o z => S.ext.h b o (by show (if b = a then Option.none else H b) = some o; rw [if_neg hb]; exact z)) (fun b z1 z2 => ?_) g5 g2 g3 r hp
    have z3 : (if b = a then Option.none else H b) = Option.none := S.ext.n b z1 z2
    by_cases hb : b = a
    · rw [hb, g5] at z2
      exact absurd rfl z2
    · rw [if_neg hb] at z3
      exact z3
  exact ⟨fun F' H' σ' δ' S _ h => go .non F' H' σ' δ' .non S .non h, fun _ _ _ _ _ _ h => h.elim, fun _ _ _ _ _ _ _ _ _ _ h => h.elim, fun _ _ _ _ _ _ _ _ _ _ _ h => h.elim, fun _ _ _ _ _ _ h => h.elim, fun _ _ _ _ _ _ h => h.elim, fun v F' H' σ' δ' x S _ r h => go v F' H' σ' δ' x S r h⟩
theorem fnAny (T : Top K mg) (d : He.DefD) (i : Nat) {N ps : List Str} (S : FnScope N ps d.scope) {k : Nat} {sp : Sp} (len : ∀ vs H Q E, sp vs H Q E → vs.length = ps.length)
    (body : ∀ (cdv : Value) (A : Around) (outer : List Env) (s : Shared) (H : Hp) (E : XK), Room k (arD K d cdv A s) → ∃ dd, XSs (cxD P w K mg base N d cdv A outer s H E) d.body dd ∧ ∀ vs Q, sp vs H Q E → tDS K dd { nx := fun _ H' => Q .non H', rt := Q } (L2.start N vs) H)
    (hb : ∀ (kV doc pm : Value) (an : Option Addr) (cdv ct : Value) (us : List Value), us.length = ps.length → bindArgs (PySem.W.fnOf d.name d.qual d.params d.body d.scope .none kV doc pm an cdv ct) ⟨us, []⟩ = pure (ps.zip us))
    (hd : fn[i]? = some d) (hdf : d.dfl = []) (hkw : d.kwd = []) : ∃ fd, FnOk P w K mg base C8.CX0 (k + 1) (He.fAd K d.at_) fd ps sp ∧ PySem.W.keepIn K (.ref (He.fAd K d.at_)) = true ∧ Binds K fd ps [] := by
  obtain ⟨fd, F⟩ := T.c.def_ i hd
  have e1 : d.dvs K = [] := by
    unfold He.DefD.dvs
    rw [hdf] <;> rfl
  have e2 : d.kws K = [] := by
    unfold He.DefD.kws
    rw [hkw] <;> rfl
  rw [e1, e2] at F
  have b : Binds K fd ps [] := FunD.bindsN F hb
  refine ⟨fd, F.ok S len (fun cdv A outer s H vs Q E hr h => ?_), F.kp, b⟩
  obtain ⟨dd, hx, hw⟩ := body cdv A outer s H E hr
  exact ⟨_, PSs.nox hx, hw vs Q h⟩
theorem tds_G {N : List Str} {C : Str} {pre : PreG} {dd : DS} {H : Hp} {E : XK} (hw : ∀ a fs ds post, pre fs ds post → dd (endsG a C post) (startG N (.oN a C fs) ds)) (vs : List V) (Q : VK) (h : spG K C pre vs H Q E) : tDS K dd { nx := fun _ H' => Q .non H', rt := Q } (L2.start N vs) H := by
  obtain ⟨F, a, dx, fsV, vs', fs, ds, post, rfl, s, hF, hH, rf, rl, hp, q⟩ := h
  have e : Ext F (fun b => if b = a then Option.none else H b) F H := by
    refine ⟨Same.refl F, fun b o z => ?_, s, fun b z1 z2 => absurd z1 z2⟩
    have z' : (if b = a then Option.none else H b) = some o := z
    by_cases hb : b = a
    · rw [if_pos hb] at z'
      cases z'
    · rw [if_neg hb] at z'
      exact z'
  refine snd_tDS dd F _ F H _ _ _ _ (stt_head (s0 := .oN a C fs) (fp0 := fun b => b = a) e rl (fun b z => ?_) ⟨dx, fsV, rfl, rfl, hH, rf⟩) (hw a fs ds post hp) (ends_okG q)
  subst z
  exact ⟨if_pos rfl, hF, by rw [hH]; exact nofun⟩
theorem tds_RN {N : List Str} {C : Str} {pre : List (Str × Dat) → List Dat → (Dat → Prop) → Prop} {dd : DS} {H : Hp} {E : XK} (hw : ∀ fs ds post, pre fs ds post → dd (endsOf post) (startG N (.rN C fs) ds)) (vs : List V) (Q : VK) (h : spRN K C pre vs H Q E) : tDS K dd { nx := fun _ H' => Q .non H', rt := Q } (L2.start N vs) H := by
  obtain ⟨F, a, dx, fsV, vs', fs, ds, post, rfl, s, hH, rf, rl, hp, q⟩ := h
  exact snd_tDS dd F H F H _ _ _ _ (stt_head (s0 := .rN C fs) (fp0 := fun _ => False) (Ext.refl s) rl (fun b z => z.elim) ⟨a, dx, fsV, rfl, hH, rf⟩) (hw fs ds post hp) (ends_ok q)
theorem len_G {C : Str} {pre : PreG} {n : Nat} (len : ∀ fs ds post, pre fs ds post → ds.length + 1 = n) : ∀ vs H Q E, spG K C pre vs H Q E → vs.length = n := fun vs H Q E h => by
  obtain ⟨F, a, dx, fsV, vs', fs, ds, post, rfl, s, hF, hH, rf, rl, hp, q⟩ := h
  rw [List.length_cons, rl.length]
  exact len fs ds post hp
theorem len_RN {C : Str} {pre : List (Str × Dat) → List Dat → (Dat → Prop) → Prop} {n : Nat} (len : ∀ fs ds post, pre fs ds post → ds.length + 1 = n) : ∀ vs H Q E, spRN K C pre vs H Q E → vs.length = n := fun vs H Q E h => by
  obtain ⟨F, a, dx, fsV, vs', fs, ds, post, rfl, s, hH, rf, rl, hp, q⟩ := h
  rw [List.length_cons, rl.length]
  exact len fs ds post hp
section
variable (T : Top K mg) (d : He.DefD) (i j : Nat) {N ps : List Str} (S : FnScope N ps d.scope) {k : Nat} (C : Str)
  (hb : ∀ (kV doc pm : Value) (an : Option Addr) (cdv ct : Value) (us : List Value), us.length = ps.length → bindArgs (PySem.W.fnOf d.name d.qual d.params d.body d.scope .none kV doc pm an cdv ct) ⟨us, []⟩ = pure (ps.zip us))
include T S hb
theorem calG {pre : PreG} (len : ∀ fs ds post, pre fs ds post → ds.length + 1 = ps.length)
    (body : ∀ (cdv : Value) (A : Around) (outer : List Env) (s : Shared) (H : Hp) (E : XK), Room k (arD K d cdv A s) → ∃ dd, XSs (cxD P w K mg base N d cdv A outer s H E) d.body dd ∧ ∀ a fs ds post, pre fs ds post → dd (endsG a C post) (startG N (.oN a C fs) ds))
    (hd : fn[i]? = some d := by rfl) (hg : fa[j]? = some (.glo d.name) := by rfl) (ha : d.at_ = (d.name, Option.none) := by rfl) (hdf : d.dfl = [] := by rfl) (hkw : d.kwd = [] := by rfl) : Cal P w K mg base (k + 1) d.name (spG K C pre) := by
  obtain ⟨fd, F, kp, b⟩ := fnAny (P := P) (w := w) (base := base) T d i S (len_G (K := K) (C := C) len) (fun cdv A outer s H E hr => let ⟨dd, hx, hw⟩ := body cdv A outer s H E hr; ⟨dd, hx, tds_G hw⟩) hb hd hdf hkw
  have hm : mg d.name = some (.ref (He.fAd K d.at_)) := by
    rw [ha]
    exact T.glo j hg
  exact ⟨_, fd, ps, [], F, hm, kp, b, .nil⟩
theorem calRN {pre : List (Str × Dat) → List Dat → (Dat → Prop) → Prop} (len : ∀ fs ds post, pre fs ds post → ds.length + 1 = ps.length)
    (body : ∀ (cdv : Value) (A : Around) (outer : List Env) (s : Shared) (H : Hp) (E : XK), Room k (arD K d cdv A s) → ∃ dd, XSs (cxD P w K mg base N d cdv A outer s H E) d.body dd ∧ ∀ fs ds post, pre fs ds post → dd (endsOf post) (startG N (.rN C fs) ds))
    (hd : fn[i]? = some d := by rfl) (hg : fa[j]? = some (.glo d.name) := by rfl) (ha : d.at_ = (d.name, Option.none) := by rfl) (hdf : d.dfl = [] := by rfl) (hkw : d.kwd = [] := by rfl) : Cal P w K mg base (k + 1) d.name (spRN K C pre) := by
  obtain ⟨fd, F, kp, b⟩ := fnAny (P := P) (w := w) (base := base) T d i S (len_RN (K := K) (C := C) len) (fun cdv A outer s H E hr => let ⟨dd, hx, hw⟩ := body cdv A outer s H E hr; ⟨dd, hx, tds_RN hw⟩) hb hd hdf hkw
  have hm : mg d.name = some (.ref (He.fAd K d.at_)) := by
    rw [ha]
    exact T.glo j hg
  exact ⟨_, fd, ps, [], F, hm, kp, b, .nil⟩
theorem metG {m : Str} {pre : PreG} (len : ∀ fs ds post, pre fs ds post → ds.length + 1 = ps.length) (hcl : Cls K (He.ga K C)) (hme : Meth K (He.ga K C) m (He.ma K (He.ga K C) m))
    (body : ∀ (cdv : Value) (A : Around) (outer : List Env) (s : Shared) (H : Hp) (E : XK), Room k (arD K d cdv A s) → ∃ dd, XSs (cxD P w K mg base N d cdv A outer s H E) d.body dd ∧ ∀ a fs ds post, pre fs ds post → dd (endsG a C post) (startG N (.oN a C fs) ds))
    (hd : fn[i]? = some d := by rfl) (ha : d.at_ = (C, some m) := by rfl) (hdf : d.dfl = [] := by rfl) (hkw : d.kwd = [] := by rfl) : C8.Met P w K mg base (k + 1) (He.ga K C) m (spG K C pre) [] := by
  obtain ⟨fd, F, kp, b⟩ := fnAny (P := P) (w := w) (base := base) T d i S (len_G (K := K) (C := C) len) (fun cdv A outer s H E hr => let ⟨dd, hx, hw⟩ := body cdv A outer s H E hr; ⟨dd, hx, tds_G hw⟩) hb hd hdf hkw
  rw [ha] at F
  exact ⟨_, fd, ps, [], hcl, hme, F, b, .nil⟩
theorem metRN {m : Str} {pre : List (Str × Dat) → List Dat → (Dat → Prop) → Prop} (len : ∀ fs ds post, pre fs ds post → ds.length + 1 = ps.length) (hcl : Cls K (He.ga K C)) (hme : Meth K (He.ga K C) m (He.ma K (He.ga K C) m))
    (body : ∀ (cdv : Value) (A : Around) (outer : List Env) (s : Shared) (H : Hp) (E : XK), Room k (arD K d cdv A s) → ∃ dd, XSs (cxD P w K mg base N d cdv A outer s H E) d.body dd ∧ ∀ fs ds post, pre fs ds post → dd (endsOf post) (startG N (.rN C fs) ds))
    (hd : fn[i]? = some d := by rfl) (ha : d.at_ = (C, some m) := by rfl) (hdf : d.dfl = [] := by rfl) (hkw : d.kwd = [] := by rfl) : C8.Met P w K mg base (k + 1) (He.ga K C) m (spRN K C pre) [] := by
  obtain ⟨fd, F, kp, b⟩ := fnAny (P := P) (w := w) (base := base) T d i S (len_RN (K := K) (C := C) len) (fun cdv A outer s H E hr => let ⟨dd, hx, hw⟩ := body cdv A outer s H E hr; ⟨dd, hx, tds_RN hw⟩) hb hd hdf hkw
  rw [ha] at F
  exact ⟨_, fd, ps, [], hcl, hme, F, b, .nil⟩
theorem makG {pre : PreG} (len : ∀ fs ds post, pre fs ds post → ds.length + 1 = ps.length) (hmk : Mk K (He.ga K C) (He.ma K (He.ga K C) "__init__"))
    (body : ∀ (cdv : Value) (A : Around) (outer : List Env) (s : Shared) (H : Hp) (E : XK), Room k (arD K d cdv A s) → ∃ dd, XSs (cxD P w K mg base N d cdv A outer s H E) d.body dd ∧ ∀ a fs ds post, pre fs ds post → dd (endsG a C post) (startG N (.oN a C fs) ds))
    (hd : fn[i]? = some d := by rfl) (hg : fa[j]? = some (.glo C) := by rfl) (ha : d.at_ = (C, some ("__init__" : Str)) := by rfl) (hdf : d.dfl = [] := by rfl) (hkw : d.kwd = [] := by rfl) : C8.Mak P w K mg base (k + 1) C (He.ga K C) (spG K C pre) [] := by
  obtain ⟨fd, F, kp, b⟩ := fnAny (P := P) (w := w) (base := base) T d i S (len_G (K := K) (C := C) len) (fun cdv A outer s H E hr => let ⟨dd, hx, hw⟩ := body cdv A outer s H E hr; ⟨dd, hx, tds_G hw⟩) hb hd hdf hkw
  rw [ha] at F
  exact ⟨_, fd, ps, [], hmk, F, T.glo j hg, b, .nil⟩
end
/-! ### the facts of Top for the classes -/
theorem Top.mkPool (T : Top K mg) : Mk K (He.ga K "Pool") (He.ma K (He.ga K "Pool") "__init__") := He.mkr_ok (T.fact 70)
theorem Top.gmFld (T : Top K mg) (i : Nat) {f : Str} (h : fa[i]? = some (.noat "Game" f) := by rfl) : Fld K "Game" f := ⟨He.cls_ok (T.fact 71), He.noat_ok (T.fact i h)⟩
theorem Top.poFld (T : Top K mg) (i : Nat) {f : Str} (h : fa[i]? = some (.noat "Pool" f) := by rfl) : Fld K "Pool" f := ⟨He.cls_ok (T.fact 65), He.noat_ok (T.fact i h)⟩
theorem Top.mkGame (T : Top K mg) : Mk K (He.ga K "Game") (He.ma K (He.ga K "Game") "__init__") := He.mkr_ok (T.fact 76)
theorem Top.gmCls (T : Top K mg) : Cls K (He.ga K "Game") := He.cls_ok (T.fact 71)
theorem Top.play (T : Top K mg) : Meth K (He.ga K "Game") "play" (He.ma K (He.ga K "Game") "play") := He.meth_ok (T.fact 77)
theorem Top.dead (T : Top K mg) : Meth K (He.ga K "Game") "dead" (He.ma K (He.ga K "Game") "dead") := He.meth_ok (T.fact 78)
theorem Top.isPool (T : Top K mg) : C8.InsC K (He.ga K "Pool") := by
  have h := T.ex
  unfold exB at h
  simp only [Bool.and_eq_true, decide_eq_true_eq] at h
  obtain ⟨h1, h2, h3, h4, h5⟩ := h
  exact ⟨He.cls_ok (T.fact 65), He.eqO_ok h1, He.eqO_ok h2, h3, h4, h5⟩
end
section
variable {X : Cx} {pos p p2 : Pos} {e : Expr}
/-- isinstance(e, Pool): it is -/
def dIsP (d : DE) : DE := fun δ P => d δ fun x => (∃ c r, x = .pool c r) ∧ P (.bl true)
def rIsC (C : Addr) : List V → Hp → VK → Prop := fun xs H Q => ∃ a dx fs, xs = [.ref a, .ref C] ∧ H a = some (.ins C dx fs) ∧ Q (.bl true) H
theorem xe_isP {d : DE} (hm : X.mg "isinstance" = Option.none) (hm2 : X.mg "Pool" = some (.ref (He.ga X.K "Pool"))) (c : C8.InsC X.K (He.ga X.K "Pool")) (he : XE X e d) (hg : Gl X "isinstance" := by rfl) (hg2 : Gl X "Pool" := by rfl)
    (st : starEach [e, .Name "Pool" p2] X.env = (false, eval e X.env) :: starEach [.Name "Pool" p2] X.env := by rfl) (st2 : starEach [.Name "Pool" p2] X.env = (false, eval (.Name "Pool" p2) X.env) :: starEach [] X.env := by rfl) (hpl : (backTo pos (starEach [.Name "Pool" p2] X.env)).any (·.1) = false := by rfl) : XE X (.Call (.Name "isinstance" p) [e, .Name "Pool" p2] [] pos) (dIsP d) :=
  xe_of (pe_callB (t := tCons (tD X.K d) (tCons (tC (.ref (He.ga X.K "Pool"))) tNil)) (r := rIsC (He.ga X.K "Pool")) (C8.call_isC c) hg hm (by decide +kernel) (pa_cons he (pa_cons (C8.pe_gc (v := .ref (He.ga X.K "Pool")) hg2 ⟨_, hm2, rfl⟩) pa_nil st2) st) (by decide) (by decide) st hpl) fun F0 H0 F H σ δ P S hd Q q => by
    refine snd_tD d F0 H0 F H σ δ _ S hd _ fun v F1 H1 x e1 rx ⟨⟨c', r', ex⟩, hp⟩ => ?_
    subst ex
    cases rx with
    | pool h l1 l2 l3 l4 ha hb r => exact ⟨_, _, _, rfl, e1.s _ _ h, q _ F1 H1 _ e1 (.bl true) hp⟩
end
end Pw
set_option Elab.async false
set_option linter.all false
set_option maxRecDepth 100000
set_option maxHeartbeats 1000000
/-! The plain side: pools, dealings, sends, told by lists of ints. -/
namespace Pw
open PySem PySem.Spec L2
theorem map_int_inj {a b : List Int} : a.map Dat.int = b.map Dat.int ↔ a = b := by
  constructor
  · intro h
    induction a generalizing b with
    | nil =>
      cases b with
      | nil => rfl
      | cons y b => cases h
    | cons x a ih =>
      cases b with
      | nil => cases h
      | cons y b =>
        rw [List.map_cons, List.map_cons] at h
        injection h with h1 h2
        injection h1 with h1
        rw [h1, ih h2]
  · intro h
    rw [h]
theorem atI_map {α β : Type} (f : α → β) (xs : List α) (i : Int) : atI (xs.map f) i = (atI xs i).map f := by
  unfold atI
  rw [List.length_map]
  cases ixN xs.length i with
  | none => rfl
  | some j =>
    show (xs.map f)[j]? = (xs[j]?).map f
    rw [List.getElem?_map]
theorem atI_of {α : Type} {xs : List α} {i : Int} {j : Nat} (h : i = (j : Int)) : atI xs i = xs[j]? := by
  subst h
  unfold atI ixN
  rw [if_pos (by omega)]
  by_cases hj : (j : Int) < (xs.length : Int)
  · rw [if_pos hj]
    simp
  · rw [if_neg hj]
    show Option.none = _
    rw [List.getElem?_eq_none (by omega)]
theorem atI_nat' {α : Type} {xs : List α} {j : Nat} : atI xs (j : Int) = xs[j]? := atI_of rfl
theorem atI_toNat {α : Type} {xs : List α} {i : Int} (h : 0 ≤ i) : atI xs i = xs[i.toNat]? := atI_of (by omega)
theorem ixN_of {n : Nat} {i : Int} (h0 : 0 ≤ i) (h1 : i < n) : ixN n i = some i.toNat := by
  unfold ixN
  rw [if_pos h0, if_pos h1]
/-! ### min of a list or a tuple -/
def dMinB : List Dat → (Dat → Prop) → Prop := fun xs P => ∃ ns, (xs = [lI ns] ∨ xs = [tI ns]) ∧ 0 < ns.length ∧ ∀ m ∈ ns, P (.int m)
theorem cd_minB {K : PySem.W.Frag} : CalD K (fun vs H Q => rMin K vs H Q ∨ rMinT K vs H Q) dMinB := fun F H vs xs P s r ⟨ns, e, hl, p⟩ Q q => by
  rcases e with e | e
  · subst e
    obtain ⟨v, rfl, rv⟩ : ∃ v, vs = [v] ∧ Rp K F v (lI ns) := by
      cases r with
      | cons h r =>
        cases r
        exact ⟨_, rfl, h⟩
    obtain ⟨a, ys, rfl, hy, ry⟩ := rv.of_lst
    have e2 := ry.ints
    subst e2
    exact .inl ⟨a, ns, rfl, SqL.of (s _ _ hy), hl, fun m hm _ => q _ F H _ (Ext.refl s) (.int m) (p m hm)⟩
  · subst e
    obtain ⟨v, rfl, rv⟩ : ∃ v, vs = [v] ∧ Rp K F v (tI ns) := by
      cases r with
      | cons h r =>
        cases r
        exact ⟨_, rfl, h⟩
    obtain ⟨a, ys, rfl, hy, ry⟩ := rv.of_tup
    have e2 := ry.ints
    subst e2
    exact .inr ⟨a, ns, rfl, SqT.of (s _ _ hy), hl, fun m hm => q _ F H _ (Ext.refl s) (.int m) (p m hm)⟩
/-! ### pools -/
def capOf (c : List Int) (s : Int) : Int := (atI c s).getD 0
def room (c : List Int) (p : Int × Int) : Int := if capOf c p.2 < capOf c p.1 then capOf c p.2 else capOf c p.1
structure PoolOk (c : List Int) (r : List (List Int)) : Prop where
  s0 : 0 < c.length
  s1 : c.length ≤ 8
  p1 : r.length ≤ 16
  cap : ∀ x ∈ c, 0 ≤ x
  asc : ∀ row ∈ r, row.Pairwise (· < ·)
  rng : ∀ row ∈ r, ∀ x ∈ row, 0 ≤ x ∧ x < (c.length : Int)
/-- q is a pair of holders of the row that may be dealt -/
def HeldR (c row : List Int) (q : Int × Int) : Prop := q.1 ∈ row ∧ q.2 ∈ row ∧ q.1 < q.2 ∧ 0 < room c q
def Held (c : List Int) (r : List (List Int)) (i : Nat) (q : Int × Int) : Prop := ∃ row, r[i]? = some row ∧ HeldR c row q
abbrev Deal := List (Option (Int × Int))
structure IsDeal (c : List Int) (r : List (List Int)) (D : Deal) : Prop where
  len : D.length = r.length
  held : ∀ (i : Nat) q, D[i]? = some (some q) → Held c r i q
  full : ∀ q, q ∈ D.filterMap id → (D.count (some q) : Int) ≤ room c q
def Greatest (c : List Int) (r : List (List Int)) (D : Deal) : Prop := ∀ D', IsDeal c r D' → D.count Option.none ≤ D'.count Option.none
theorem asc_len {n : Nat} : ∀ {row : List Int} {lo : Int}, row.Pairwise (· < ·) → (∀ x ∈ row, lo ≤ x ∧ x < lo + n) → row.length ≤ n := by
  intro row
  induction row generalizing n with
  | nil => intro _ _ _; exact Nat.zero_le _
  | cons a row ih =>
    intro lo hp hr
    obtain ⟨h1, h2⟩ := List.pairwise_cons.mp hp
    have ha := hr a List.mem_cons_self
    have hn : 0 < n := by omega
    have := ih (n := n - 1) (lo := lo + 1) h2 fun x hx => by
      have z1 := h1 x hx
      have z2 := hr x (List.mem_cons_of_mem _ hx)
      omega
    rw [List.length_cons]
    omega
theorem asc_nodup {row : List Int} (h : row.Pairwise (· < ·)) : row.Nodup := h.imp fun h => Int.ne_of_lt h
theorem PoolOk.rowLen {c : List Int} {r : List (List Int)} (h : PoolOk c r) {row : List Int} (hr : row ∈ r) : row.length ≤ 8 := by
  have h1 := asc_len (n := c.length) (lo := 0) (h.asc row hr) fun x hx => by
    have := h.rng row hr x hx
    omega
  have := h.s1
  omega
theorem capOf_at {c : List Int} {s : Int} (h0 : 0 ≤ s) (h1 : s < (c.length : Int)) : atI c s = some (capOf c s) := by
  unfold capOf
  rw [atI_toNat h0]
  have : s.toNat < c.length := by omega
  rw [List.getElem?_eq_getElem this]
  rfl
theorem capOf_mem {c : List Int} {s : Int} (h0 : 0 ≤ s) (h1 : s < (c.length : Int)) : capOf c s ∈ c := by
  have h := capOf_at h0 h1
  rw [atI_toNat h0] at h
  exact List.mem_of_getElem? h
/-- sorted of an ascending list is that list -/
theorem perm_asc {a b : List Int} (h : a.Perm b) (ha : a.Pairwise (· ≤ ·)) (hb : b.Pairwise (· < ·)) : a = b :=
  h.eq_of_pairwise (le := fun x y => x ≤ y) (fun x y _ _ h1 h2 => Int.le_antisymm h1 h2) ha (hb.imp fun h => Int.le_of_lt h)
end Pw
set_option Elab.async false
set_option linter.all false
set_option maxRecDepth 100000
set_option maxHeartbeats 1000000
/-! Comprehensions and loops over lists that stand as a map. -/
namespace Pw
open PySem PySem.Spec L2
theorem room65 {k : Nat} {A : Around} (r : Room k A) : A.units + 65 < cLine := by
    have := r.un
    omega
theorem room3 {k : Nat} {A : Around} (r : Room k A) : A.units + 3 < cLine := by
    have := r.un
    omega
theorem room1 {k : Nat} {A : Around} (r : Room k A) : A.units + 1 < cLine := by
    have := r.un
    omega
theorem atI_z {α : Type} {x : α} {l : List α} : atI (x :: l) 0 = some x := atI_of (j := 0) rfl
theorem atI_1 {α : Type} {x y : α} {l : List α} : atI (x :: y :: l) 1 = some y := atI_of (j := 1) rfl
theorem take_filter_succ {α : Type} {p : α → Bool} {xs : List α} {k : Nat} {x : α} (h : xs[k]? = some x) : (xs.take (k + 1)).filter p = (xs.take k).filter p ++ if p x = true then [x] else [] := by
  obtain ⟨hk, e⟩ := List.getElem?_eq_some_iff.mp h
  rw [List.take_succ_eq_append_getElem hk, List.filter_append, e]
  congr 1
  by_cases hp : p x = true <;> simp [hp]
theorem dLc_go {di : DA} {dg : DG} {dt : DT} {de : DE} {vs : List Nat} {δ : List Sl} {P : List Dat → Prop} {α : Type} (xs : List α) (f : α → Dat) (p : α → Bool) (g : α → Dat) (hl : xs.length < 100000) (hdi : ∀ Q : List Dat → Prop, Q (xs.map f) → di δ Q)
    (step : ∀ x, x ∈ xs → ∀ (Y : Dat → Prop) (N : Prop), (p x = true → Y (g x)) → (p x = false → N) → dg (f x) (wipeD δ vs) fun δ2 => dt δ2 fun b => if b = true then de δ2 Y else N) (hp : P ((xs.filter p).map g)) : dLc di dg dt de vs δ P := by
  refine hdi _ ⟨fun k acc => acc = ((xs.take k).filter p).map g, by simp, fun k x acc hx hacc => ?_, fun acc hacc => ?_⟩
  · rw [List.getElem?_map] at hx
    cases q : xs[k]? with
    | none =>
      rw [q] at hx
      cases hx
    | some y =>
      rw [q] at hx
      cases hx
      have e := take_filter_succ (p := p) q
      refine step y (List.mem_of_getElem? q) _ _ (fun hy => ⟨?_, ?_⟩) (fun hy => ?_)
      · rw [hacc, List.length_map]
        have h1 := List.length_filter_le p (xs.take k)
        have h2 := List.length_take_le k xs
        have h3 := List.length_take_le' k xs
        omega
      · show acc ++ [g y] = ((xs.take (k + 1)).filter p).map g
        rw [e, if_pos hy, hacc, List.map_append]
        rfl
      · show acc = ((xs.take (k + 1)).filter p).map g
        rw [e, hacc]
        simp [hy]
  · rw [List.length_map, List.take_length] at hacc
    rw [hacc]
    exact hp
/-- no test -/
theorem dLc_map {di : DA} {dg : DG} {de : DE} {vs : List Nat} {δ : List Sl} {P : List Dat → Prop} {α : Type} (xs : List α) (f : α → Dat) (g : α → Dat) (hl : xs.length < 100000) (hdi : ∀ Q : List Dat → Prop, Q (xs.map f) → di δ Q)
    (step : ∀ x, x ∈ xs → ∀ (Y : Dat → Prop), Y (g x) → dg (f x) (wipeD δ vs) fun δ2 => de δ2 Y) (hp : P (xs.map g)) : dLc di dg dYes de vs δ P := by
  refine dLc_go xs f (fun _ => true) g hl hdi (fun x hx Y N h1 _ => ?_) (by rw [List.filter_eq_self.mpr fun _ _ => rfl]; exact hp)
  have := step x hx Y (h1 rfl)
  simpa [dYes] using this
theorem clean_nil : Clean [] := fun _ h => by cases h
theorem clean_d {x : Dat} {δ : List Sl} : Clean (.d x :: δ) ↔ Clean δ := by
  constructor
  · intro h s hs
    exact h s (List.mem_cons_of_mem _ hs)
  · intro h s hs
    rcases List.mem_cons.mp hs with e | e
    · exact .inr ⟨x, e⟩
    · exact h s e
theorem clean_no {δ : List Sl} : Clean (.no :: δ) ↔ Clean δ := by
  constructor
  · intro h s hs
    exact h s (List.mem_cons_of_mem _ hs)
  · intro h s hs
    rcases List.mem_cons.mp hs with e | e
    · exact .inl e
    · exact h s e
end Pw
set_option Elab.async false
set_option linter.all false
set_option maxRecDepth 100000
set_option maxHeartbeats 1000000
/-! == and in over nested lists of ints. -/
namespace Pw
open PySem PySem.Spec L2
mutual
def num : PyData → Bool
  | .none => true
  | .int _ => true
  | .list xs => numAll xs
  | .tuple xs => numAll xs
  | _ => false
def numAll : List PyData → Bool
  | [] => true
  | x :: xs => num x && numAll xs
end
mutual
theorem eqv_num : ∀ (p q : PyData), num p = true → num q = true → (PyData.eqv p q = true ↔ p = q)
  | .none, q, _, hq => by cases q <;> simp_all [PyData.eqv, num]
  | .int i, q, _, hq => by cases q <;> simp_all [PyData.eqv, num]
  | .list xs, q, hp, hq => by
    cases q with
    | list ys =>
      have := eqvAll_num xs ys (by simpa [num] using hp) (by simpa [num] using hq)
      simp [PyData.eqv, this]
    | _ => simp_all [PyData.eqv, num]
  | .tuple xs, q, hp, hq => by
    cases q with
    | tuple ys =>
      have := eqvAll_num xs ys (by simpa [num] using hp) (by simpa [num] using hq)
      simp [PyData.eqv, this]
    | _ => simp_all [PyData.eqv, num]
  | .bool _, _, hp, _ => by simp [num] at hp
  | .str _, _, hp, _ => by simp [num] at hp
  | .dict _, _, hp, _ => by simp [num] at hp
theorem eqvAll_num : ∀ (p q : List PyData), numAll p = true → numAll q = true → (PyData.eqvAll p q = true ↔ p = q)
  | [], [], _, _ => by simp [PyData.eqvAll]
  | [], _ :: _, _, _ => by simp [PyData.eqvAll]
  | _ :: _, [], _, _ => by simp [PyData.eqvAll]
  | x :: xs, y :: ys, hp, hq => by
    have h1 : num x = true ∧ numAll xs = true := by simpa [numAll] using hp
    have h2 : num y = true ∧ numAll ys = true := by simpa [numAll] using hq
    have e1 := eqv_num x y h1.1 h2.1
    have e2 := eqvAll_num xs ys h1.2 h2.2
    simp [PyData.eqvAll, e1, e2]
end
structure Sh (n : Nat) (d : Dat) (p : PyData) : Prop where
  py : toPy d = some p
  nu : num p = true
  lay : p.canLay0 = true
  dep : p.depth ≤ n
theorem Sh.shaped {n : Nat} {d : Dat} {p : PyData} (h : Sh n d p) (hn : n ≤ 64) : SeqAt.shaped p = true := by
  unfold SeqAt.shaped
  rw [h.lay, decide_eq_true (Nat.le_trans h.dep hn)]
  rfl
theorem sh_int (n : Nat) (i : Int) : Sh n (.int i) (.int i) := ⟨rfl, rfl, rfl, by simp [PyData.depth]⟩
theorem sh_non (n : Nat) : Sh n .non .none := ⟨rfl, rfl, rfl, by simp [PyData.depth]⟩
theorem sh_all {α : Type} {n : Nat} {f : α → Dat} {g : α → PyData} : ∀ (xs : List α), (∀ x ∈ xs, Sh n (f x) (g x)) → toPyL (xs.map f) = some (xs.map g) ∧ numAll (xs.map g) = true ∧ PyData.canLayAll0 (xs.map g) = true ∧ PyData.depthAll (xs.map g) ≤ n
  | [], _ => ⟨rfl, rfl, rfl, Nat.zero_le _⟩
  | x :: xs, h => by
    obtain ⟨a, b, c, d⟩ := sh_all xs fun y hy => h y (List.mem_cons_of_mem _ hy)
    have hx := h x List.mem_cons_self
    refine ⟨?_, ?_, ?_, ?_⟩
    · rw [List.map_cons, List.map_cons]
      simp only [toPyL]
      rw [hx.py, a]
    · rw [List.map_cons]
      simp [numAll, hx.nu, b]
    · rw [List.map_cons]
      simp [PyData.canLayAll0, hx.lay, c]
    · rw [List.map_cons]
      have := hx.dep
      simp only [PyData.depthAll]
      omega
theorem sh_lst {α : Type} {n : Nat} {f : α → Dat} {g : α → PyData} {xs : List α} (h : ∀ x ∈ xs, Sh n (f x) (g x)) : Sh (n + 1) (.lst (xs.map f)) (.list (xs.map g)) := by
  obtain ⟨a, b, c, d⟩ := sh_all xs h
  refine ⟨by simp only [toPy, a]; rfl, by simpa [num] using b, by simpa [PyData.canLay0] using c, by simp only [PyData.depth]; omega⟩
theorem sh_tup {α : Type} {n : Nat} {f : α → Dat} {g : α → PyData} {xs : List α} (h : ∀ x ∈ xs, Sh n (f x) (g x)) : Sh (n + 1) (.tup (xs.map f)) (.tuple (xs.map g)) := by
  obtain ⟨a, b, c, d⟩ := sh_all xs h
  refine ⟨by simp only [toPy, a]; rfl, by simpa [num] using b, by simpa [PyData.canLay0] using c, by simp only [PyData.depth]; omega⟩
theorem sh_lI (ns : List Int) : Sh 1 (lI ns) (.list (ns.map .int)) := sh_lst fun i _ => sh_int 0 i
theorem sh_tI (ns : List Int) : Sh 1 (tI ns) (.tuple (ns.map .int)) := sh_tup fun i _ => sh_int 0 i
/-- == of such data -/
theorem dEqD_sh {n : Nat} {x y : Dat} {p q : PyData} {neg : Bool} {P : Dat → Prop} (hx : Sh n x p) (hy : Sh n y q) (hn : n ≤ 64) (h : ∀ b : Bool, (b = true ↔ p = q) → P (.bl (if neg then !b else b))) : dEqD neg x y P :=
  ⟨p, q, hx.py, hy.py, hx.shaped hn, hy.shaped hn, h _ (eqv_num p q hx.nu hy.nu)⟩
/-- x in [..] -/
theorem dInD_sh {α : Type} {n : Nat} {x : Dat} {p : PyData} {f : α → Dat} {g : α → PyData} {xs : List α} {neg : Bool} {P : Dat → Prop} (hx : Sh n x p) (hy : ∀ y ∈ xs, Sh n (f y) (g y)) (hn : n + 1 ≤ 64) (h : ∀ b : Bool, (b = true ↔ ∃ y ∈ xs, g y = p) → P (.bl (if neg then !b else b))) : dInD neg x (.lst (xs.map f)) P := by
  have hl := sh_lst hy
  refine ⟨p, xs.map g, hx.py, hl.py, hx.shaped (by omega), hl.shaped hn, h _ ?_⟩
  rw [List.any_map, List.any_eq_true]
  constructor
  · rintro ⟨y, hy1, hy2⟩
    exact ⟨y, hy1, (eqv_num _ _ (hy y hy1).nu hx.nu).mp hy2⟩
  · rintro ⟨y, hy1, hy2⟩
    exact ⟨y, hy1, (eqv_num _ _ (hy y hy1).nu hx.nu).mpr hy2⟩
theorem py_int_inj {a b : List Int} (h : a.map PyData.int = b.map PyData.int) : a = b := by
  induction a generalizing b with
  | nil =>
    cases b with
    | nil => rfl
    | cons y b => cases h
  | cons x a ih =>
    cases b with
    | nil => cases h
    | cons y b =>
      rw [List.map_cons, List.map_cons] at h
      injection h with h1 h2
      injection h1 with h1
      rw [h1, ih h2]
/-! ### fields -/
section
variable {a b c d e : Dat} {l : List (Str × Dat)}
theorem fP1 : putD "caps" a [] = [(("caps" : Str), a)] := rfl
theorem fP2 : putD "holders" b [(("caps" : Str), a)] = [(("caps" : Str), a), (("holders" : Str), b)] := by simp only [putD]; rw [if_neg (by decide)]
theorem fP3 : putD "seats" c [(("caps" : Str), a), (("holders" : Str), b)] = [(("caps" : Str), a), (("holders" : Str), b), (("seats" : Str), c)] := by simp only [putD]; rw [if_neg (by decide), if_neg (by decide)]
theorem fP4 : putD "pieces" d [(("caps" : Str), a), (("holders" : Str), b), (("seats" : Str), c)] = [(("caps" : Str), a), (("holders" : Str), b), (("seats" : Str), c), (("pieces" : Str), d)] := by simp only [putD]; rw [if_neg (by decide), if_neg (by decide), if_neg (by decide)]
theorem lkA {f : Str} : List.lookup f ((f, a) :: l) = some a := by simp [List.lookup]
theorem lkP2 : List.lookup ("holders" : Str) ((("caps" : Str), a) :: l) = List.lookup ("holders" : Str) l := by rw [List.lookup_cons, show (("holders" : Str) == ("caps" : Str)) = false by decide]
theorem fG1 : putD "start" a [] = [(("start" : Str), a)] := rfl
theorem fG2 : putD "pool" b [(("start" : Str), a)] = [(("start" : Str), a), (("pool" : Str), b)] := by simp only [putD]; rw [if_neg (by decide)]
theorem fG3 : putD "rounds" c [(("start" : Str), a), (("pool" : Str), b)] = [(("start" : Str), a), (("pool" : Str), b), (("rounds" : Str), c)] := by simp only [putD]; rw [if_neg (by decide), if_neg (by decide)]
theorem fG4 : putD "fault" d [(("start" : Str), a), (("pool" : Str), b), (("rounds" : Str), c)] = [(("start" : Str), a), (("pool" : Str), b), (("rounds" : Str), c), (("fault" : Str), d)] := by simp only [putD]; rw [if_neg (by decide), if_neg (by decide), if_neg (by decide)]
theorem fG5 : putD "pool" e [(("start" : Str), a), (("pool" : Str), b), (("rounds" : Str), c), (("fault" : Str), d)] = [(("start" : Str), a), (("pool" : Str), e), (("rounds" : Str), c), (("fault" : Str), d)] := by simp only [putD]; rw [if_neg (by decide), if_pos trivial]
theorem fG6 : putD "rounds" e [(("start" : Str), a), (("pool" : Str), b), (("rounds" : Str), c), (("fault" : Str), d)] = [(("start" : Str), a), (("pool" : Str), b), (("rounds" : Str), e), (("fault" : Str), d)] := by simp only [putD]; rw [if_neg (by decide), if_neg (by decide), if_pos trivial]
theorem fG7 : putD "fault" e [(("start" : Str), a), (("pool" : Str), b), (("rounds" : Str), c), (("fault" : Str), d)] = [(("start" : Str), a), (("pool" : Str), b), (("rounds" : Str), c), (("fault" : Str), e)] := by simp only [putD]; rw [if_neg (by decide), if_neg (by decide), if_neg (by decide), if_pos trivial]
theorem lkG1 : List.lookup ("pool" : Str) ((("start" : Str), a) :: l) = List.lookup ("pool" : Str) l := by rw [List.lookup_cons, show (("pool" : Str) == ("start" : Str)) = false by decide]
theorem lkG2 : List.lookup ("rounds" : Str) ((("start" : Str), a) :: (("pool" : Str), b) :: l) = List.lookup ("rounds" : Str) l := by rw [List.lookup_cons, show (("rounds" : Str) == ("start" : Str)) = false by decide, List.lookup_cons, show (("rounds" : Str) == ("pool" : Str)) = false by decide]
theorem lkG3 : List.lookup ("fault" : Str) ((("start" : Str), a) :: (("pool" : Str), b) :: (("rounds" : Str), c) :: l) = List.lookup ("fault" : Str) l := by rw [List.lookup_cons, show (("fault" : Str) == ("start" : Str)) = false by decide, List.lookup_cons, show (("fault" : Str) == ("pool" : Str)) = false by decide, List.lookup_cons, show (("fault" : Str) == ("rounds" : Str)) = false by decide]
theorem lkG4 : List.lookup ("play" : Str) [(("start" : Str), a), (("pool" : Str), b), (("rounds" : Str), c), (("fault" : Str), d)] = Option.none := by rw [List.lookup_cons, show (("play" : Str) == ("start" : Str)) = false by decide, List.lookup_cons, show (("play" : Str) == ("pool" : Str)) = false by decide, List.lookup_cons, show (("play" : Str) == ("rounds" : Str)) = false by decide, List.lookup_cons, show (("play" : Str) == ("fault" : Str)) = false by decide, List.lookup_nil]
theorem lkG5 : List.lookup ("dead" : Str) [(("start" : Str), a), (("pool" : Str), b), (("rounds" : Str), c), (("fault" : Str), d)] = Option.none := by rw [List.lookup_cons, show (("dead" : Str) == ("start" : Str)) = false by decide, List.lookup_cons, show (("dead" : Str) == ("pool" : Str)) = false by decide, List.lookup_cons, show (("dead" : Str) == ("rounds" : Str)) = false by decide, List.lookup_cons, show (("dead" : Str) == ("fault" : Str)) = false by decide, List.lookup_nil]
end
end Pw
set_option Elab.async false
set_option linter.all false
set_option maxRecDepth 100000
set_option maxHeartbeats 1000000
/-! Counting in dealings; tables. Plain. -/
namespace Pw
open PySem PySem.Spec L2
theorem rngD_at {lo : Int} {n k : Nat} {x : Dat} (h : (rngD lo n)[k]? = some x) : k < n ∧ x = .int (lo + (k : Int)) := by
  unfold rngD at h
  rw [List.getElem?_map] at h
  obtain ⟨i, h1, h2⟩ := Option.map_eq_some_iff.mp h
  obtain ⟨hk, e⟩ := List.getElem?_eq_some_iff.mp h1
  rw [List.length_range] at hk
  rw [List.getElem_range] at e
  subst e
  exact ⟨hk, h2.symm⟩
theorem rngD_len {lo : Int} {n : Nat} : (rngD lo n).length = n := by simp [rngD]
theorem map_at {α : Type} {f : α → Dat} {xs : List α} {k : Nat} {x : Dat} (h : Option.map f (xs[k]?) = some x) : ∃ y, xs[k]? = some y ∧ x = f y := by
  obtain ⟨i, h1, h2⟩ := Option.map_eq_some_iff.mp h
  exact ⟨i, h1, h2.symm⟩
theorem enum_at {α : Type} {f : α → Dat} {xs : List α} {k : Nat} {x : Dat} (h : (enumD (xs.map f))[k]? = some x) : ∃ y, xs[k]? = some y ∧ x = .tup [.int (k : Int), f y] := by
  obtain ⟨d, h1, h2⟩ := enumD_at h
  obtain ⟨y, h3, rfl⟩ := map_at (by rw [← List.getElem?_map]; exact h1)
  exact ⟨y, h3, h2⟩
theorem take_succ_of {α : Type} {xs : List α} {k : Nat} {x : α} (h : xs[k]? = some x) : xs.take (k + 1) = xs.take k ++ [x] := by
  obtain ⟨hk, e⟩ := List.getElem?_eq_some_iff.mp h
  rw [List.take_succ_eq_append_getElem hk, e]
theorem isN_pr (o : Option (Int × Int)) : isN (pr o) = o.isNone := by
  cases o <;> rfl
theorem isN_non : isN .non = true := rfl
theorem isN_int {i : Int} : isN (.int i) = false := rfl
theorem isN_lst {i : List Dat} : isN (.lst i) = false := rfl
theorem isN_tup {i : List Dat} : isN (.tup i) = false := rfl
theorem isN_pool {c : List Int} {r : List (List Int)} : isN (.pool c r) = false := rfl
theorem count_take_le (D : Deal) (k : Nat) (o : Option (Int × Int)) : (D.take k).count o ≤ D.count o := (List.take_sublist k D).count_le _
theorem mem_pairs {D : Deal} {q : Int × Int} : q ∈ D.filterMap id ↔ some q ∈ D := by
  rw [List.mem_filterMap]
  constructor
  · rintro ⟨o, h1, h2⟩
    rw [show o = some q from h2] at h1
    exact h1
  · intro h
    exact ⟨some q, h, rfl⟩
theorem lookP_nil {α : Type} {q : Int × Int} : lookP ([] : List ((Int × Int) × α)) q = Option.none := rfl
theorem lookP_append {α : Type} {a b : List ((Int × Int) × α)} {q : Int × Int} : lookP (a ++ b) q = (lookP a q).or (lookP b q) := by
  induction a with
  | nil => rfl
  | cons x a ih =>
    obtain ⟨p, v⟩ := x
    rw [List.cons_append, lookP_cons, lookP_cons, ih]
    split <;> rfl
theorem lookP_any {α : Type} {p : Int × Int} : ∀ {kvs : List ((Int × Int) × α)}, (kvs.any fun q => decide (q.1 = p)) = (lookP kvs p).isSome
  | [] => rfl
  | (q, v) :: kvs => by
    rw [List.any_cons, lookP_cons, lookP_any]
    by_cases h : q = p
    · simp [h]
    · simp [h]
theorem lookP_mapset {α : Type} {p q : Int × Int} {v : α} : ∀ {kvs : List ((Int × Int) × α)}, lookP (kvs.map fun x => if x.1 = p then (x.1, v) else x) q = if q = p then (lookP kvs p).map fun _ => v else lookP kvs q
  | [] => by
    rw [List.map_nil]
    simp only [lookP_nil, Option.map_none, ite_self]
  | (k, w) :: kvs => by
    rw [List.map_cons]
    have ih := lookP_mapset (p := p) (q := q) (v := v) (kvs := kvs)
    by_cases h : k = p
    · rw [if_pos h, lookP_cons, lookP_cons, lookP_cons, if_pos h, ih]
      by_cases hq : q = p
      · subst hq
        simp [h]
      · rw [if_neg (fun z => hq (by rw [← z, h])), if_neg hq, if_neg hq, if_neg (fun z => hq (by rw [← z, h]))]
    · rw [if_neg h, lookP_cons, lookP_cons, lookP_cons, if_neg h, ih]
      by_cases hq : q = p
      · subst hq
        simp [h]
      · rw [if_neg hq, if_neg hq]
theorem lookP_put {α : Type} {p q : Int × Int} {v : α} {kvs : List ((Int × Int) × α)} : lookP (putP kvs p v) q = if q = p then some v else lookP kvs q := by
  unfold putP
  rw [lookP_any]
  cases h : lookP kvs p with
  | some w =>
    rw [if_pos (by rfl), lookP_mapset, h]
    rfl
  | none =>
    rw [if_neg (by simp), lookP_append, lookP_cons, lookP_nil]
    by_cases hq : q = p
    · subst hq
      rw [h]
      simp
    · rw [if_neg (Ne.symm hq), if_neg hq, Option.or_none]
theorem putP_len {α : Type} {p : Int × Int} {v : α} {kvs : List ((Int × Int) × α)} : (putP kvs p v).length ≤ kvs.length + 1 := by
  unfold putP
  split
  · rw [List.length_map]
    exact Nat.le_succ _
  · simp
theorem lookI_cons {α : Type} {p q : Int} {x : α} {kvs : List (Int × α)} : lookI ((q, x) :: kvs) p = if q = p then some x else lookI kvs p := by
  unfold lookI
  rw [List.find?_cons]
  by_cases h : q = p
  · simp [h]
  · simp [h]
theorem lookI_append {α : Type} {a b : List (Int × α)} {q : Int} : lookI (a ++ b) q = (lookI a q).or (lookI b q) := by
  induction a with
  | nil => rfl
  | cons x a ih =>
    obtain ⟨p, v⟩ := x
    rw [List.cons_append, lookI_cons, lookI_cons, ih]
    split <;> rfl
theorem lookI_any {α : Type} {p : Int} : ∀ {kvs : List (Int × α)}, (kvs.any fun q => decide (q.1 = p)) = (lookI kvs p).isSome
  | [] => rfl
  | (q, v) :: kvs => by
    rw [List.any_cons, lookI_cons, lookI_any]
    by_cases h : q = p
    · simp [h]
    · simp [h]
/-- a new key goes to the end -/
theorem putI_new {α : Type} {p : Int} {v : α} {kvs : List (Int × α)} (h : lookI kvs p = Option.none) : putI kvs p v = kvs ++ [(p, v)] := by
  unfold putI
  rw [lookI_any, h]
  rfl
theorem lookI_some {α : Type} {p : Int} {v : α} : ∀ {kvs : List (Int × α)}, lookI kvs p = some v → (p, v) ∈ kvs
  | [], h => by cases h
  | (q, x) :: kvs, h => by
    rw [lookI_cons] at h
    by_cases e : q = p
    · rw [if_pos e] at h
      cases h
      rw [e]
      exact List.mem_cons_self
    · rw [if_neg e] at h
      exact List.mem_cons_of_mem _ (lookI_some h)
theorem lookI_none {α : Type} {p : Int} : ∀ {kvs : List (Int × α)}, lookI kvs p = Option.none ↔ p ∉ kvs.map (·.1)
  | [] => by simp [lookI]
  | (q, x) :: kvs => by
    rw [lookI_cons]
    have ih := lookI_none (p := p) (kvs := kvs)
    by_cases e : q = p
    · simp [e]
    · rw [if_neg e, ih]
      simp [Ne.symm e]
/-! ### the lists at the pairs -/
theorem lookP_addP {p q : Int × Int} {z : Dat} : ∀ {kvs : List ((Int × Int) × List Dat)}, lookP (addP z p kvs) q = if q = p then (lookP kvs p).map (· ++ [z]) else lookP kvs q
  | [] => by
    simp only [addP, lookP_nil, Option.map_none, ite_self]
  | (k, w) :: kvs => by
    have ih := lookP_addP (p := p) (q := q) (z := z) (kvs := kvs)
    simp only [addP]
    by_cases h : k = p
    · rw [if_pos h, lookP_cons, lookP_cons, lookP_cons, if_pos h]
      by_cases hq : q = p
      · subst hq
        simp [h]
      · rw [if_neg (fun z => hq (by rw [← z, h])), if_neg hq, if_neg (fun z => hq (by rw [← z, h]))]
    · rw [if_neg h, lookP_cons, lookP_cons, lookP_cons, if_neg h, ih]
      by_cases hq : q = p
      · subst hq
        simp [h]
      · rw [if_neg hq, if_neg hq]
theorem lookP_init {p q : Int × Int} {kvs : List ((Int × Int) × List Dat)} : (lookP (initP kvs p) q).getD [] = (lookP kvs q).getD [] ∧ (lookP (initP kvs p) p).isSome = true := by
  unfold initP
  cases h : lookP kvs p with
  | some w =>
    rw [if_pos (by rfl)]
    exact ⟨rfl, by rw [h]; rfl⟩
  | none =>
    rw [if_neg (by simp), lookP_append, lookP_append, lookP_cons, lookP_cons, lookP_nil, h]
    refine ⟨?_, by simp⟩
    by_cases hq : p = q
    · subst hq
      rw [h]
      simp
    · rw [if_neg hq, Option.or_none]
theorem lookP_grow {p q : Int × Int} {z : Dat} {kvs : List ((Int × Int) × List Dat)} : (lookP (addP z p (initP kvs p)) q).getD [] = if q = p then (lookP kvs p).getD [] ++ [z] else (lookP kvs q).getD [] := by
  rw [lookP_addP]
  obtain ⟨h1, h2⟩ := lookP_init (p := p) (q := q) (kvs := kvs)
  obtain ⟨h3, _⟩ := lookP_init (p := p) (q := p) (kvs := kvs)
  by_cases hq : q = p
  · rw [if_pos hq, if_pos hq, ← h3]
    cases h : lookP (initP kvs p) p with
    | none =>
      rw [h] at h2
      cases h2
    | some w => rfl
  · rw [if_neg hq, if_neg hq, h1]
theorem addP_sz {p : Int × Int} {z : Dat} {n : Nat} : ∀ {kvs : List ((Int × Int) × List Dat)}, (∀ e ∈ kvs, e.2.length ≤ n) → (addP z p kvs).length = kvs.length ∧ ∀ e ∈ addP z p kvs, e.2.length ≤ n + 1
  | [], _ => ⟨rfl, fun e he => by cases he⟩
  | (k, w) :: kvs, h => by
    obtain ⟨i1, i2⟩ := addP_sz (p := p) (z := z) fun e he => h e (List.mem_cons_of_mem _ he)
    simp only [addP]
    by_cases hk : k = p
    · rw [if_pos hk]
      refine ⟨rfl, fun e he => ?_⟩
      rcases List.mem_cons.mp he with q | q
      · have := h (k, w) List.mem_cons_self
        rw [q]
        show (w ++ [z]).length ≤ n + 1
        rw [List.length_append]
        exact Nat.succ_le_succ this
      · exact Nat.le_succ_of_le (h e (List.mem_cons_of_mem _ q))
    · rw [if_neg hk]
      refine ⟨by simp [i1], fun e he => ?_⟩
      rcases List.mem_cons.mp he with q | q
      · rw [q]
        exact Nat.le_succ_of_le (h (k, w) List.mem_cons_self)
      · exact i2 e q
theorem initP_sz {p : Int × Int} {n : Nat} {kvs : List ((Int × Int) × List Dat)} (h : ∀ e ∈ kvs, e.2.length ≤ n) : (initP kvs p).length ≤ kvs.length + 1 ∧ ∀ e ∈ initP kvs p, e.2.length ≤ n := by
  unfold initP
  split
  · exact ⟨Nat.le_succ _, h⟩
  · refine ⟨by simp, fun e he => ?_⟩
    rcases List.mem_append.mp he with q | q
    · exact h e q
    · have : e = (p, []) := by simpa using q
      rw [this]
      exact Nat.zero_le _
/-- the table of the dealing's pieces, n a bound of its sizes -/
structure PO (n : Nat) (D : Deal) (kvs : List ((Int × Int) × List Dat)) : Prop where
  at_ : ∀ q, ∃ L : List Int, (lookP kvs q).getD [] = L.map .int ∧ L.Nodup ∧ ∀ x : Int, x ∈ L ↔ ∃ i : Nat, x = (i : Int) ∧ D[i]? = some (some q)
  sz : kvs.length ≤ n ∧ ∀ e ∈ kvs, e.2.length ≤ n
theorem PO.put {n : Nat} {D : Deal} {kvs : List ((Int × Int) × List Dat)} (h : PO n D kvs) {i : Nat} {p : Int × Int} (hi : D[i]? = some Option.none) : PO (n + 1) (D.set i (some p)) (addP (.int (i : Int)) p (initP kvs p)) := by
  have hl : i < D.length := (List.getElem?_eq_some_iff.mp hi).1
  have st : ∀ (j : Nat) q, (D.set i (some p))[j]? = some (some q) ↔ (j = i ∧ q = p) ∨ D[j]? = some (some q) := fun j q => by
    by_cases hj : i = j
    · subst hj
      rw [List.getElem?_set_self hl, hi]
      simp [eq_comm]
    · rw [List.getElem?_set_ne hj]
      constructor
      · exact .inr
      · rintro (z | z)
        · exact absurd z.1.symm hj
        · exact z
  refine ⟨fun q => ?_, ?_⟩
  · rw [lookP_grow]
    by_cases hq : q = p
    · subst hq
      rw [if_pos rfl]
      obtain ⟨L, h1, h2, h3⟩ := h.at_ q
      refine ⟨L ++ [(i : Int)], by rw [h1, List.map_append]; rfl, ?_, fun x => ?_⟩
      · refine List.nodup_append.mpr ⟨h2, by simp, fun a ha b hb => ?_⟩
        have : b = (i : Int) := by simpa using hb
        subst this
        intro z
        obtain ⟨j, e, hj⟩ := (h3 a).mp ha
        have : j = i := by omega
        subst this
        rw [hi] at hj
        cases hj
      · rw [List.mem_append, h3]
        constructor
        · rintro (⟨j, e, hj⟩ | z)
          · exact ⟨j, e, (st j q).mpr (.inr hj)⟩
          · have : x = (i : Int) := by simpa using z
            exact ⟨i, this, (st i q).mpr (.inl ⟨rfl, rfl⟩)⟩
        · rintro ⟨j, e, hj⟩
          rcases (st j q).mp hj with z | z
          · exact .inr (by rw [e, z.1]; simp)
          · exact .inl ⟨j, e, z⟩
    · rw [if_neg hq]
      obtain ⟨L, h1, h2, h3⟩ := h.at_ q
      refine ⟨L, h1, h2, fun x => ?_⟩
      rw [h3]
      constructor
      · rintro ⟨j, e, hj⟩
        exact ⟨j, e, (st j q).mpr (.inr hj)⟩
      · rintro ⟨j, e, hj⟩
        rcases (st j q).mp hj with z | z
        · exact absurd z.2 hq
        · exact ⟨j, e, z⟩
  · obtain ⟨s1, s2⟩ := h.sz
    obtain ⟨t1, t2⟩ := initP_sz (p := p) s2
    obtain ⟨u1, u2⟩ := addP_sz (p := p) (z := .int (i : Int)) t2
    exact ⟨by omega, u2⟩
theorem cnt_range {α : Type} [BEq α] [LawfulBEq α] (a : α) : ∀ D : List α, D.count a = ((List.range D.length).filter fun i => D[i]? == some a).length
  | [] => rfl
  | x :: D => by
    rw [List.length_cons, List.range_succ_eq_map, List.filter_cons, List.count_cons, cnt_range a D, List.filter_map, List.getElem?_cons_zero]
    have e : ((fun i => (x :: D)[i]? == some a) ∘ Nat.succ) = fun i => D[i]? == some a := funext fun i => by simp
    rw [e]
    by_cases h : x = a
    · subst h
      simp
    · have h2 : (x == a) = false := by simpa using h
      have h3 : (some x == some a) = false := by simpa using h
      simp [h2, h3]
theorem PO.len {n : Nat} {D : Deal} {kvs : List ((Int × Int) × List Dat)} (h : PO n D kvs) (q : Int × Int) : ((lookP kvs q).getD []).length = D.count (some q) := by
  obtain ⟨L, h1, h2, h3⟩ := h.at_ q
  rw [h1, List.length_map, cnt_range]
  have hp : L.Perm (((List.range D.length).filter fun i => D[i]? == some (some q)).map fun (i : Nat) => (i : Int)) := by
    refine (List.perm_ext_iff_of_nodup h2 ?_).mpr fun x => ?_
    · exact List.Pairwise.map (R := (· ≠ ·)) _ (fun a b hab z => hab (by omega)) (List.nodup_range.filter _)
    · rw [h3, List.mem_map]
      constructor
      · rintro ⟨i, e, hi⟩
        exact ⟨i, List.mem_filter.mpr ⟨List.mem_range.mpr (List.getElem?_eq_some_iff.mp hi).1, by simp [hi]⟩, e.symm⟩
      · rintro ⟨i, hi, e⟩
        exact ⟨i, e.symm, by simpa using (List.mem_filter.mp hi).2⟩
  rw [hp.length_eq, List.length_map]
end Pw
set_option Elab.async false
set_option linter.all false
set_option maxRecDepth 100000
set_option maxHeartbeats 1000000
/-! Walks: a dealing without a walk is a greatest one; a walk deals one more. Plain. -/
namespace Pw
open PySem PySem.Spec L2
def keysB (B : List (Nat × Option Nat)) : List Nat := B.map (·.1)
theorem lenSub {α : Type} [DecidableEq α] : ∀ {ns ms : List α}, ns.Nodup → (∀ k ∈ ns, k ∈ ms) → ns.length ≤ ms.length
  | [], ms, _, _ => Nat.zero_le _
  | n :: ns, ms, h, s => by
    obtain ⟨h1, h2⟩ := List.nodup_cons.mp h
    have hm := s n List.mem_cons_self
    have ih := lenSub (ns := ns) (ms := ms.erase n) h2 fun k hk => (List.mem_erase_of_ne fun z => h1 (by rw [← z]; exact hk)).mpr (s k (List.mem_cons_of_mem _ hk))
    have hl := List.length_erase_of_mem hm
    have h0 : 0 < ms.length := List.length_pos_of_mem hm
    rw [List.length_cons]
    omega
/-- the table of the search, its first lk pieces looked through -/
structure FI (c : List Int) (r : List (List Int)) (D : Deal) (lk : Nat) (B : List (Nat × Option Nat)) : Prop where
  nd : (keysB B).Nodup
  rt : ∀ k : Nat, (k, Option.none) ∈ B → D[k]? = some Option.none
  all0 : ∀ i : Nat, D[i]? = some Option.none → i ∈ keysB B
  stp : ∀ j k p : Nat, B[j]? = some (k, some p) → ∃ (j' : Nat) (v : Option Nat), j' < j ∧ B[j']? = some (p, v) ∧ ∃ q, D[k]? = some (some q) ∧ Held c r p q
  rng : ∀ k ∈ keysB B, k < r.length
  cl : ∀ (j k : Nat) (v : Option Nat), j < lk → B[j]? = some (k, v) → ∀ q, Held c r k q → ∀ i : Nat, D[i]? = some (some q) → i ∈ keysB B
theorem keys_at {B : List (Nat × Option Nat)} {k : Nat} (h : k ∈ keysB B) : ∃ (j : Nat) (v : Option Nat), B[j]? = some (k, v) := by
  obtain ⟨e, he, rfl⟩ := List.mem_map.mp h
  obtain ⟨j, hj, e2⟩ := List.mem_iff_getElem.mp he
  exact ⟨j, e.2, by rw [List.getElem?_eq_getElem hj, e2]⟩
theorem at_keys {B : List (Nat × Option Nat)} {k j : Nat} {v : Option Nat} (h : B[j]? = some (k, v)) : k ∈ keysB B := List.mem_map.mpr ⟨(k, v), List.mem_of_getElem? h, rfl⟩
theorem keys_idx {B : List (Nat × Option Nat)} (h : (keysB B).Nodup) {i j k : Nat} {v u : Option Nat} (h1 : B[i]? = some (k, v)) (h2 : B[j]? = some (k, u)) : i = j := by
  have e1 : (keysB B)[i]? = some k := by unfold keysB; rw [List.getElem?_map, h1]; rfl
  have e2 : (keysB B)[j]? = some k := by unfold keysB; rw [List.getElem?_map, h2]; rfl
  exact (List.getElem?_inj (List.getElem?_eq_some_iff.mp e1).1 h).mp (e1.trans e2.symm)
theorem FI.len {c : List Int} {r : List (List Int)} {D : Deal} {lk : Nat} {B : List (Nat × Option Nat)} (h : FI c r D lk B) : B.length ≤ r.length := by
  have := lenSub (ms := List.range r.length) h.nd fun k hk => List.mem_range.mpr (h.rng k hk)
  rw [List.length_range] at this
  unfold keysB at this
  rwa [List.length_map] at this
theorem FI.add {c : List Int} {r : List (List Int)} {D : Deal} {lk : Nat} {B : List (Nat × Option Nat)} (h : FI c r D lk B) {p i : Nat} {q : Int × Int} (hp : p ∈ keysB B) (hi : D[i]? = some (some q)) (hq : Held c r p q) (hn : i ∉ keysB B) (hr : i < r.length) (hlk : lk ≤ B.length) : FI c r D lk (B ++ [(i, some p)]) := by
  have hk : ∀ k, k ∈ keysB (B ++ [(i, some p)]) ↔ k ∈ keysB B ∨ k = i := fun k => by
    unfold keysB
    rw [List.map_append, List.mem_append]
    simp
  refine ⟨?_, fun k hk => ?_, fun k hk2 => (hk k).mpr (.inl (h.all0 k hk2)), fun j k p' hj => ?_, fun k hk2 => ?_, fun j k v hj hB q' hq' i' hi' => ?_⟩
  · unfold keysB
    rw [List.map_append]
    refine List.nodup_append.mpr ⟨h.nd, by simp, fun a ha b hb => ?_⟩
    have : b = i := by simpa using hb
    subst this
    intro z
    exact hn (by rw [← z]; exact ha)
  · rcases List.mem_append.mp hk with z | z
    · exact h.rt k z
    · simp at z
  · by_cases hj2 : j < B.length
    · rw [List.getElem?_append_left hj2] at hj
      obtain ⟨j', v, a, b, d⟩ := h.stp j k p' hj
      exact ⟨j', v, a, by rw [List.getElem?_append_left (by omega)]; exact b, d⟩
    · have hj3 : j < B.length + 1 := by
        have := (List.getElem?_eq_some_iff.mp hj).1
        simpa using this
      have : j = B.length := by omega
      subst this
      rw [List.getElem?_append_right (Nat.le_refl _), Nat.sub_self] at hj
      simp at hj
      obtain ⟨e1, e2⟩ := hj
      subst e1 e2
      obtain ⟨j', v, hv⟩ := keys_at hp
      have := (List.getElem?_eq_some_iff.mp hv).1
      exact ⟨j', v, this, by rw [List.getElem?_append_left this]; exact hv, q, hi, hq⟩
  · rcases (hk k).mp hk2 with z | z
    · exact h.rng k z
    · omega
  · rw [List.getElem?_append_left (by omega)] at hB
    exact (hk i').mpr (.inl (h.cl j k v hj hB q' hq' i' hi'))
/-! ### no walk: greatest -/
def ddp : List (Int × Int) → List (Int × Int)
  | [] => []
  | q :: l => if q ∈ ddp l then ddp l else q :: ddp l
theorem ddp_nd : ∀ l, (ddp l).Nodup
  | [] => by simp [ddp]
  | q :: l => by
    unfold ddp
    split
    · exact ddp_nd l
    · rename_i h
      exact List.nodup_cons.mpr ⟨h, ddp_nd l⟩
theorem ddp_mem {q : Int × Int} : ∀ {l}, q ∈ ddp l ↔ q ∈ l
  | [] => by simp [ddp]
  | p :: l => by
    unfold ddp
    have ih := ddp_mem (q := q) (l := l)
    split
    · rename_i h
      rw [ih, List.mem_cons]
      constructor
      · exact .inr
      · rintro (z | z)
        · rw [z]
          exact ddp_mem.mp h
        · exact z
    · rw [List.mem_cons, List.mem_cons, ih]
theorem sum_count (Q : List (Int × Int)) (hQ : Q.Nodup) : ∀ D : Deal, (Q.map fun q => D.count (some q)).sum = D.countP fun o => Q.any fun q => o == some q
  | [] => by
    clear hQ
    induction Q with
    | nil => rfl
    | cons q Q ih =>
      rw [List.map_cons, List.sum_cons, ih]
      rfl
  | o :: D => by
    have ih := sum_count Q hQ D
    rw [List.countP_cons, ← ih]
    have e : (Q.map fun q => (o :: D).count (some q)).sum = (Q.map fun q => D.count (some q)).sum + (Q.map fun q => if o == some q then 1 else 0).sum := by
      clear ih hQ
      induction Q with
      | nil => rfl
      | cons q Q ih =>
        rw [List.map_cons, List.map_cons, List.map_cons, List.sum_cons, List.sum_cons, List.sum_cons, ih, List.count_cons]
        omega
    rw [e]
    congr 1
    clear e ih
    induction Q with
    | nil => rfl
    | cons q Q ih =>
      obtain ⟨h1, h2⟩ := List.nodup_cons.mp hQ
      rw [List.map_cons, List.sum_cons, ih h2, List.any_cons]
      by_cases hq : o = some q
      · subst hq
        have z : (Q.any fun p => some q == some p) = false := by
          rw [List.any_eq_false]
          intro p hp z
          have : q = p := by simpa using z
          exact h1 (by rw [this]; exact hp)
        rw [z, beq_self_eq_true]
        rfl
      · have z : (o == some q) = false := by simpa using hq
        rw [z, Bool.false_or]
        exact Nat.zero_add _
theorem countP_range {α : Type} (p : α → Bool) : ∀ D : List α, D.countP p = (List.range D.length).countP fun i => (D[i]?).any p
  | [] => rfl
  | x :: D => by
    rw [List.length_cons, List.range_succ_eq_map, List.countP_cons, List.countP_cons, countP_range p D, List.countP_map]
    rfl
theorem greatest_of {c : List Int} {r : List (List Int)} {D : Deal} (hD : IsDeal c r D) (R : Nat → Bool) (h0 : ∀ i, D[i]? = some Option.none → R i = true) (cl : ∀ k, R k = true → ∀ q, Held c r k q → ∀ i, D[i]? = some (some q) → R i = true)
    (full : ∀ k, R k = true → ∀ q, Held c r k q → room c q ≤ (D.count (some q) : Int)) : Greatest c r D := by
  intro D' hD'
  have hl := hD.len
  have hl' := hD'.len
  let n := r.length
  let Q := ddp ((List.range n).filterMap fun i => if R i = true then (D'[i]?).join else Option.none)
  have hQ : ∀ q, q ∈ Q ↔ ∃ i, i < n ∧ R i = true ∧ D'[i]? = some (some q) := fun q => by
    show q ∈ ddp _ ↔ _
    rw [ddp_mem, List.mem_filterMap]
    constructor
    · rintro ⟨i, h1, h2⟩
      by_cases hR : R i = true
      · rw [if_pos hR] at h2
        refine ⟨i, List.mem_range.mp h1, hR, ?_⟩
        cases e : D'[i]? with
        | none => rw [e] at h2; cases h2
        | some o =>
          rw [e] at h2
          rw [show o = some q from h2]
      · rw [if_neg hR] at h2
        cases h2
    · rintro ⟨i, h1, h2, h3⟩
      exact ⟨i, List.mem_range.mpr h1, by rw [if_pos h2, h3]; rfl⟩
  have hQh : ∀ q ∈ Q, ∃ k, R k = true ∧ Held c r k q := fun q hq => by
    obtain ⟨i, h1, h2, h3⟩ := (hQ q).mp hq
    exact ⟨i, h2, hD'.held i q h3⟩
  -- dealt in D' among R
  have s1 : ((List.range n).countP fun i => R i && (D'[i]?).any (·.isSome)) ≤ D'.countP fun o => Q.any fun q => o == some q := by
    rw [countP_range _ D', hl']
    refine List.countP_mono_left fun i hi h => ?_
    rw [Bool.and_eq_true] at h
    cases e : D'[i]? with
    | none => rw [e] at h; simp at h
    | some o =>
      rw [e] at h
      cases o with
      | none => simp at h
      | some q =>
        show (Q.any fun p => some q == some p) = true
        rw [List.any_eq_true]
        exact ⟨q, (hQ q).mpr ⟨i, List.mem_range.mp hi, h.1, e⟩, by simp⟩
  have s2 : (D'.countP fun o => Q.any fun q => o == some q) ≤ D.countP fun o => Q.any fun q => o == some q := by
    rw [← sum_count Q (ddp_nd _), ← sum_count Q (ddp_nd _)]
    have : ∀ P : List (Int × Int), (∀ q ∈ P, D'.count (some q) ≤ D.count (some q)) → (P.map fun q => D'.count (some q)).sum ≤ (P.map fun q => D.count (some q)).sum := by
      intro P
      induction P with
      | nil => intro _; exact Nat.le_refl _
      | cons q P ih =>
        intro h
        rw [List.map_cons, List.map_cons, List.sum_cons, List.sum_cons]
        exact Nat.add_le_add (h q List.mem_cons_self) (ih fun p hp => h p (List.mem_cons_of_mem _ hp))
    refine this Q fun q hq => ?_
    obtain ⟨i, h1, h2, h3⟩ := (hQ q).mp hq
    have a1 := hD'.full q (mem_pairs.mpr (List.mem_of_getElem? h3))
    obtain ⟨k, hk1, hk2⟩ := hQh q hq
    have a2 := full k hk1 q hk2
    omega
  have s3 : (D.countP fun o => Q.any fun q => o == some q) ≤ (List.range n).countP fun i => R i && (D[i]?).any (·.isSome) := by
    rw [countP_range, hl]
    refine List.countP_mono_left fun i hi h => ?_
    cases e : D[i]? with
    | none => rw [e] at h; simp at h
    | some o =>
      rw [e] at h
      obtain ⟨q, hq, e2⟩ := List.any_eq_true.mp (show (Q.any fun q => o == some q) = true from h)
      have e3 : o = some q := by simpa using e2
      subst e3
      obtain ⟨k, hk1, hk2⟩ := hQh q hq
      rw [cl k hk1 q hk2 i e]
      rfl
  have sp : ∀ E : Deal, E.length = n → ((List.range n).countP fun i => R i && (E[i]?).any (·.isSome)) + ((List.range n).countP fun i => R i && (E[i]?).any (·.isNone)) = (List.range n).countP R := by
    intro E hE
    have : ∀ l : List Nat, (∀ i ∈ l, i < n) → (l.countP fun i => R i && (E[i]?).any (·.isSome)) + (l.countP fun i => R i && (E[i]?).any (·.isNone)) = l.countP R := by
      intro l
      induction l with
      | nil => intro _; rfl
      | cons i l ih =>
        intro h
        have := ih fun j hj => h j (List.mem_cons_of_mem _ hj)
        rw [List.countP_cons, List.countP_cons, List.countP_cons, ← this]
        have hi := h i List.mem_cons_self
        obtain ⟨o, ho⟩ : ∃ o, E[i]? = some o := ⟨_, List.getElem?_eq_getElem (by omega)⟩
        rw [ho]
        cases R i <;> cases o <;> simp <;> omega
    exact this _ fun i hi => List.mem_range.mp hi
  have n1 : D.count Option.none = (List.range n).countP fun i => R i && (D[i]?).any (·.isNone) := by
    rw [List.count_eq_countP, countP_range, hl]
    refine List.countP_congr fun i hi => ?_
    cases e : D[i]? with
    | none => simp
    | some o =>
      cases o with
      | none => simp [h0 i e]
      | some q => simp
  have n2 : ((List.range n).countP fun i => R i && (D'[i]?).any (·.isNone)) ≤ D'.count Option.none := by
    rw [List.count_eq_countP, countP_range _ D', hl']
    refine List.countP_mono_left fun i hi h => ?_
    rw [Bool.and_eq_true] at h
    cases e : D'[i]? with
    | none => rw [e] at h; simp at h
    | some o =>
      cases o with
      | none => rfl
      | some q => rw [e] at h; simp at h
  have p1 := sp D hl
  have p2 := sp D' hl'
  omega
/-! ### a walk taken -/
def applyW (D : Deal) (W : List (Nat × (Int × Int))) : Deal := W.foldl (fun E s => E.set s.1 (some s.2)) D
/-- a walk that deals one more -/
structure GW (c : List Int) (r : List (List Int)) (D : Deal) (W : List (Nat × (Int × Int))) : Prop where
  rng : ∀ s ∈ W, s.1 < D.length
  deal : IsDeal c r (applyW D W)
  less : (applyW D W).count Option.none < D.count Option.none
theorem applyW_len : ∀ (W : List (Nat × (Int × Int))) (D : Deal), (applyW D W).length = D.length
  | [], _ => rfl
  | s :: W, D => by
    show (applyW (D.set s.1 (some s.2)) W).length = _
    rw [applyW_len W, List.length_set]
theorem applyW_set {p : Nat} {x : Option (Int × Int)} : ∀ (W : List (Nat × (Int × Int))) (D : Deal), (∀ s ∈ W, s.1 ≠ p) → applyW (D.set p x) W = (applyW D W).set p x
  | [], _, _ => rfl
  | s :: W, D, h => by
    show applyW ((D.set p x).set s.1 (some s.2)) W = (applyW (D.set s.1 (some s.2)) W).set p x
    rw [List.set_comm _ _ (Ne.symm (h s List.mem_cons_self)), applyW_set W _ fun t ht => h t (List.mem_cons_of_mem _ ht)]
theorem count_set' {D : Deal} {i : Nat} {x y : Option (Int × Int)} (h : D[i]? = some x) (a : Option (Int × Int)) : (D.set i y).count a + (if x = a then 1 else 0) = D.count a + (if y = a then 1 else 0) := by
  induction D generalizing i with
  | nil => simp at h
  | cons z D ih =>
    cases i with
    | zero =>
      simp at h
      subst h
      rw [List.set_cons_zero, List.count_cons, List.count_cons]
      simp only [beq_iff_eq]
      omega
    | succ i =>
      have := ih (i := i) (by simpa using h)
      rw [List.set_cons_succ, List.count_cons, List.count_cons]
      omega
structure WB (c : List Int) (r : List (List Int)) (D : Deal) (B : List (Nat × Option Nat)) (q : Int × Int) (S : List (Nat × (Int × Int))) (p j : Nat) (v : Option Nat) : Prop where
  at_ : B[j]? = some (p, v)
  vis : ∀ s ∈ S, ∃ (j' : Nat) (u : Option Nat), j ≤ j' ∧ B[j']? = some (s.1, u)
  old : ∀ i : Nat, (∀ s ∈ S, s.1 ≠ i) → (applyW D S.reverse)[i]? = D[i]?
  held : ∀ (i : Nat) q', (applyW D S.reverse)[i]? = some (some q') → Held c r i q'
  cnt : ∀ o, (applyW D S.reverse).count o + (if D[p]? = some o then 1 else 0) = D.count o + (if some q = o then 1 else 0)
theorem WB.start {c : List Int} {r : List (List Int)} {D : Deal} {lk : Nat} {B : List (Nat × Option Nat)} (hD : IsDeal c r D) (h : FI c r D lk B) {p : Nat} {q : Int × Int} (hp : p ∈ keysB B) (hq : Held c r p q) : ∃ j v, WB c r D B q [(p, q)] p j v := by
  obtain ⟨j, v, hj⟩ := keys_at hp
  have hl : p < D.length := by
    rw [hD.len]
    exact h.rng p hp
  obtain ⟨x, hx⟩ : ∃ x, D[p]? = some x := ⟨_, List.getElem?_eq_getElem hl⟩
  refine ⟨j, v, hj, fun s hs => ?_, fun i hi => ?_, fun i q' hi => ?_, fun o => ?_⟩
  · have : s = (p, q) := by simpa using hs
    rw [this]
    exact ⟨j, v, Nat.le_refl _, hj⟩
  · show (D.set p (some q))[i]? = _
    rw [List.getElem?_set_ne (hi (p, q) (by simp))]
  · replace hi : (D.set p (some q))[i]? = some (some q') := hi
    by_cases e : p = i
    · subst e
      rw [List.getElem?_set_self hl] at hi
      cases hi
      exact hq
    · rw [List.getElem?_set_ne e] at hi
      exact hD.held i q' hi
  · have := count_set' (y := some q) hx o
    show (D.set p (some q)).count o + _ = _
    rw [hx]
    simpa using this
theorem WB.step {c : List Int} {r : List (List Int)} {D : Deal} {lk : Nat} {B : List (Nat × Option Nat)} (hD : IsDeal c r D) (h : FI c r D lk B) {p p' j : Nat} {q : Int × Int} {S : List (Nat × (Int × Int))} (w : WB c r D B q S p j (some p')) :
    ∃ q1 j' v, D[p]? = some (some q1) ∧ j' < j ∧ WB c r D B q (S ++ [(p', q1)]) p' j' v := by
  obtain ⟨j', v, h1, h2, q1, h3, h4⟩ := h.stp j p p' w.at_
  have hn : ∀ s ∈ S, s.1 ≠ p' := fun s hs z => by
    obtain ⟨j2, u, a1, a2⟩ := w.vis s hs
    rw [z] at a2
    have := keys_idx h.nd h2 a2
    omega
  have hn' : ∀ s ∈ S.reverse, s.1 ≠ p' := fun s hs => hn s (List.mem_reverse.mp hs)
  have e : applyW D (S ++ [(p', q1)]).reverse = (applyW D S.reverse).set p' (some q1) := by
    rw [List.reverse_append]
    show applyW (D.set p' (some q1)) S.reverse = _
    exact applyW_set _ _ hn'
  have hl : p' < D.length := by
    rw [hD.len]
    exact h.rng p' (at_keys h2)
  have hle : p' < (applyW D S.reverse).length := by rw [applyW_len]; exact hl
  have hx : (applyW D S.reverse)[p']? = D[p']? := w.old p' hn
  obtain ⟨x, hx2⟩ : ∃ x, D[p']? = some x := ⟨_, List.getElem?_eq_getElem hl⟩
  refine ⟨q1, j', v, h3, h1, h2, fun s hs => ?_, fun i hi => ?_, fun i q' hi => ?_, fun o => ?_⟩
  · rcases List.mem_append.mp hs with z | z
    · obtain ⟨j2, u, a1, a2⟩ := w.vis s z
      exact ⟨j2, u, by omega, a2⟩
    · have : s = (p', q1) := by simpa using z
      rw [this]
      exact ⟨j', v, Nat.le_refl _, h2⟩
  · rw [e, List.getElem?_set_ne (hi (p', q1) (by simp))]
    exact w.old i fun s hs => hi s (List.mem_append_left _ hs)
  · rw [e] at hi
    by_cases z : p' = i
    · subst z
      rw [List.getElem?_set_self hle] at hi
      cases hi
      exact h4
    · rw [List.getElem?_set_ne z] at hi
      exact w.held i q' hi
  · have a1 := count_set' (y := some q1) (hx.trans hx2) o
    have a2 := w.cnt o
    rw [h3] at a2
    rw [e, hx2]
    simp only [Option.some.injEq] at a2 ⊢
    omega
theorem WB.done {c : List Int} {r : List (List Int)} {D : Deal} {lk : Nat} {B : List (Nat × Option Nat)} (hD : IsDeal c r D) (h : FI c r D lk B) {p j : Nat} {q : Int × Int} {S : List (Nat × (Int × Int))} (w : WB c r D B q S p j Option.none) (hf : (D.count (some q) : Int) < room c q) : GW c r D S.reverse := by
  have h0 := h.rt p (List.mem_of_getElem? w.at_)
  have hc := w.cnt
  rw [h0] at hc
  refine ⟨fun s hs => ?_, ⟨by rw [applyW_len]; exact hD.len, w.held, fun q' hq' => ?_⟩, ?_⟩
  · obtain ⟨j2, u, a1, a2⟩ := w.vis s (List.mem_reverse.mp hs)
    rw [hD.len]
    exact h.rng s.1 (at_keys a2)
  · have a := hc (some q')
    by_cases e : q = q'
    · subst e
      simp at a
      omega
    · have e2 : ¬ (some q = some q') := fun z => e (Option.some.inj z)
      rw [if_neg e2, if_neg (by simp)] at a
      have hm := List.count_pos_iff.mpr (mem_pairs.mp hq')
      have := hD.full q' (mem_pairs.mpr (List.count_pos_iff.mp (by omega)))
      omega
  · have a := hc Option.none
    simp at a
    omega
/-! ### the search's table as a dict -/
def vB : Option Nat → Dat
  | Option.none => .non
  | some k => .int (k : Int)
def kvB (B : List (Nat × Option Nat)) : List (Int × Dat) := B.map fun e => ((e.1 : Int), vB e.2)
def rowB (B : List (Nat × Option Nat)) : List Dat := B.map fun e => .int (e.1 : Int)
theorem isN_vB (v : Option Nat) : isN (vB v) = v.isNone := by
  cases v <;> rfl
theorem vB_some (k : Nat) : vB (some k) = .int (k : Int) := rfl
theorem vB_none : vB Option.none = .non := rfl
theorem lookI_kvB {k : Nat} {v : Option Nat} : ∀ {B : List (Nat × Option Nat)} {j : Nat}, (keysB B).Nodup → B[j]? = some (k, v) → lookI (kvB B) (k : Int) = some (vB v)
  | [], j, _, h => by simp at h
  | (k', v') :: B, j, nd, h => by
    obtain ⟨n1, n2⟩ := List.nodup_cons.mp nd
    show lookI (((k' : Int), vB v') :: kvB B) (k : Int) = _
    rw [lookI_cons]
    cases j with
    | zero =>
      simp at h
      rw [if_pos (by rw [h.1]), h.2]
    | succ j =>
      have h' : B[j]? = some (k, v) := by simpa using h
      have hk := at_keys h'
      rw [if_neg (fun z => n1 (by have : k' = k := by omega
                                  rw [this]
                                  exact hk))]
      exact lookI_kvB n2 h'
theorem lookI_kvB_none {k : Nat} {B : List (Nat × Option Nat)} : (lookI (kvB B) (k : Int)).isSome = decide (k ∈ keysB B) := by
  have h := lookI_none (p := (k : Int)) (kvs := kvB B)
  have e : (kvB B).map (·.1) = (keysB B).map fun (i : Nat) => (i : Int) := by
    unfold kvB keysB
    rw [List.map_map, List.map_map]
    rfl
  rw [e] at h
  have e2 : (k : Int) ∈ (keysB B).map (fun (i : Nat) => (i : Int)) ↔ k ∈ keysB B := by
    rw [List.mem_map]
    constructor
    · rintro ⟨i, hi, z⟩
      have : i = k := by omega
      rw [← this]
      exact hi
    · intro z
      exact ⟨k, z, rfl⟩
  rw [e2] at h
  by_cases hk : k ∈ keysB B
  · rw [decide_eq_true hk]
    cases q : lookI (kvB B) (k : Int) with
    | none => exact absurd hk (h.mp q)
    | some v => rfl
  · rw [decide_eq_false hk, h.mpr hk]
    rfl
theorem kvB_add {k p : Nat} {B : List (Nat × Option Nat)} (h : k ∉ keysB B) : putI (kvB B) (k : Int) (.int (p : Int)) = kvB (B ++ [(k, some p)]) := by
  have := lookI_kvB_none (k := k) (B := B)
  rw [decide_eq_false h] at this
  rw [putI_new (by simpa using this)]
  unfold kvB
  rw [List.map_append]
  rfl
theorem kvB_len {B : List (Nat × Option Nat)} : (kvB B).length = B.length := by
  unfold kvB
  rw [List.length_map]
theorem rowB_len {B : List (Nat × Option Nat)} : (rowB B).length = B.length := by
  unfold rowB
  rw [List.length_map]
theorem rowB_add {k p : Nat} {B : List (Nat × Option Nat)} : rowB B ++ [.int (k : Int)] = rowB (B ++ [(k, some p)]) := by
  unfold rowB
  rw [List.map_append]
  rfl
theorem rowB_at {k j : Nat} {v : Option Nat} {B : List (Nat × Option Nat)} (h : B[j]? = some (k, v)) : (rowB B)[j]? = some (.int (k : Int)) := by
  unfold rowB
  rw [List.getElem?_map, h]
  rfl
theorem lsts_inj : ∀ {a b : List ((Int × Int) × List Dat)}, lsts a = lsts b ↔ a = b
  | [], [] => by simp
  | [], y :: b => by simp [lsts]
  | x :: a, [] => by simp [lsts]
  | (p, x) :: a, (q, y) :: b => by
    have ih := lsts_inj (a := a) (b := b)
    constructor
    · intro h
      have h' : (p, Dat.lst x) :: lsts a = (q, Dat.lst y) :: lsts b := h
      injection h' with h1 h2
      injection h1 with h3 h4
      injection h4 with h4
      rw [h3, h4, ih.mp h2]
    · intro h
      rw [h]
abbrev dStep (s : Nat × (Int × Int)) : Dat := .tup [.int (s.1 : Int), dPair s.2]
theorem IsDeal.put {c : List Int} {r : List (List Int)} {D : Deal} (h : IsDeal c r D) {k : Nat} {q : Int × Int} (hk : D[k]? = some Option.none) (hq : Held c r k q) (hf : (D.count (some q) : Int) < room c q) : IsDeal c r (D.set k (some q)) := by
  have hl := (List.getElem?_eq_some_iff.mp hk).1
  refine ⟨by rw [List.length_set]; exact h.len, fun i q' hi => ?_, fun q' hq' => ?_⟩
  · by_cases e : k = i
    · subst e
      rw [List.getElem?_set_self hl] at hi
      cases hi
      exact hq
    · rw [List.getElem?_set_ne e] at hi
      exact h.held i q' hi
  · have a := count_set' (y := some q) hk (some q')
    by_cases e : q = q'
    · subst e
      simp at a
      omega
    · have e2 : ¬ (some q = some q') := fun z => e (Option.some.inj z)
      rw [if_neg e2, if_neg (by simp)] at a
      have hm := List.count_pos_iff.mpr (mem_pairs.mp hq')
      have := h.full q' (mem_pairs.mpr (List.count_pos_iff.mp (by omega)))
      omega
theorem isDeal_none {c : List Int} {r : List (List Int)} : IsDeal c r (List.replicate r.length Option.none) := by
  refine ⟨by rw [List.length_replicate], fun i q hi => ?_, fun q hq => ?_⟩
  · rw [List.getElem?_replicate] at hi
    split at hi <;> cases hi
  · have := mem_pairs.mp hq
    rw [List.mem_replicate] at this
    cases this.2
theorem map_set_pr {D : Deal} {p : Nat} {q : Int × Int} : (D.map pr).set p (dPair q) = (D.set p (some q)).map pr := by
  rw [List.map_set]
  rfl
end Pw
set_option Elab.async false
set_option linter.all false
set_option maxRecDepth 100000
set_option maxHeartbeats 1000000
/-! Rounds and first sends. Plain. -/
namespace Pw
open PySem PySem.Spec L2
def lossR (r : List (List Int)) (s : Int) : List (List Int) := r.map fun row => row.filter fun x => decide (x ≠ s)
abbrev Sends := List (Int × Int)
def roundR (r : List (List Int)) (s : Int) (S : Sends) : List (List Int) := r.mapIdx fun i row => if (i : Int) ∈ S.map (·.1) then row else row.filter fun x => decide (x ≠ s)
structure Allowed (c : List Int) (r : List (List Int)) (s : Int) (S : Sends) : Prop where
  nd : (S.map (·.1)).Nodup
  ok : ∀ e ∈ S, ∃ (i : Nat) (row : List Int), e.1 = (i : Int) ∧ r[i]? = some row ∧ s ∈ row ∧ e.2 ∈ row ∧ e.2 ≠ s
  cap : ∀ x ∈ S.map (·.2), ((S.map (·.2)).count x : Int) ≤ capOf c x
theorem roundR_at {r : List (List Int)} {s : Int} {S : Sends} {i : Nat} : (roundR r s S)[i]? = (r[i]?).map fun row => if (i : Int) ∈ S.map (·.1) then row else row.filter fun x => decide (x ≠ s) := by
  unfold roundR
  rw [List.getElem?_mapIdx]
theorem roundR_len {r : List (List Int)} {s : Int} {S : Sends} : (roundR r s S).length = r.length := by
  unfold roundR
  rw [List.length_mapIdx]
theorem roundR_nil {r : List (List Int)} {s : Int} : roundR r s [] = lossR r s := by
  refine List.ext_getElem? fun i => ?_
  rw [roundR_at]
  unfold lossR
  rw [List.getElem?_map]
  simp
theorem PoolOk.sub {c : List Int} {r r' : List (List Int)} (ok : PoolOk c r) (hl : r'.length = r.length) (h : ∀ row' ∈ r', ∃ row ∈ r, row'.Sublist row) : PoolOk c r' := by
  refine ⟨ok.s0, ok.s1, by rw [hl]; exact ok.p1, ok.cap, fun row' hr => ?_, fun row' hr x hx => ?_⟩
  · obtain ⟨row, h1, h2⟩ := h row' hr
    exact (ok.asc row h1).sublist h2
  · obtain ⟨row, h1, h2⟩ := h row' hr
    exact ok.rng row h1 x (h2.subset hx)
theorem PoolOk.loss {c : List Int} {r : List (List Int)} (ok : PoolOk c r) (s : Int) : PoolOk c (lossR r s) := by
  refine ok.sub (by unfold lossR; rw [List.length_map]) fun row' hr => ?_
  obtain ⟨row, h1, rfl⟩ := List.mem_map.mp hr
  exact ⟨row, h1, List.filter_sublist⟩
theorem PoolOk.round {c : List Int} {r : List (List Int)} (ok : PoolOk c r) (s : Int) (S : Sends) : PoolOk c (roundR r s S) := by
  refine ok.sub roundR_len fun row' hr => ?_
  obtain ⟨i, hi⟩ := List.mem_iff_getElem?.mp hr
  rw [roundR_at] at hi
  obtain ⟨row, h1, h2⟩ := Option.map_eq_some_iff.mp hi
  refine ⟨row, List.mem_of_getElem? h1, ?_⟩
  rw [← h2]
  split
  · exact List.Sublist.refl _
  · exact List.filter_sublist
/-- a row, its seat taken out and laid again -/
theorem back_row {row : List Int} {s : Int} (ha : row.Pairwise (· < ·)) (hs : s ∈ row) {ms : List Int} (hm : ms.Perm (row.filter (fun x => decide (x ≠ s)) ++ [s])) (hp : ms.Pairwise (· ≤ ·)) : ms = row := by
  refine perm_asc (hm.trans ?_) hp ha
  have nd := asc_nodup ha
  refine (List.perm_ext_iff_of_nodup ?_ nd).mpr fun x => ?_
  · refine List.nodup_append.mpr ⟨nd.filter _, by simp, fun a h b hb => ?_⟩
    have : b = s := by simpa using hb
    subst this
    have := (List.mem_filter.mp h).2
    simpa using this
  · rw [List.mem_append, List.mem_filter]
    constructor
    · rintro (h | h)
      · exact h.1
      · have : x = s := by simpa using h
        rw [this]
        exact hs
    · intro h
      by_cases e : x = s
      · exact .inr (by simp [e])
      · exact .inl ⟨h, by simpa using e⟩
theorem roundR_step {r : List (List Int)} {s : Int} {S : Sends} {k i : Nat} {t : Int} {row : List Int} (hk : S[k]? = some ((i : Int), t)) (hi : r[i]? = some row) : (roundR r s (S.take k)).set i row = roundR r s (S.take (k + 1)) := by
  have hil := (List.getElem?_eq_some_iff.mp hi).1
  refine List.ext_getElem? fun j => ?_
  rw [roundR_at]
  by_cases e : i = j
  · subst e
    rw [List.getElem?_set_self (by rw [roundR_len]; exact hil), hi]
    simp only [Option.map_some]
    rw [if_pos]
    rw [take_succ_of hk, List.map_append]
    simp
  · rw [List.getElem?_set_ne e, roundR_at]
    congr 1
    funext row'
    have : ((j : Int) ∈ (S.take (k + 1)).map (·.1)) ↔ ((j : Int) ∈ (S.take k).map (·.1)) := by
      rw [take_succ_of hk, List.map_append, List.mem_append]
      constructor
      · rintro (h | h)
        · exact h
        · have : (j : Int) = (i : Int) := by simpa using h
          omega
      · exact .inl
    simp only [this]
/-! ### rounds -/
abbrev Rnds := List (Int × Sends)
def runR (r : List (List Int)) (R : Rnds) : List (List Int) := R.foldl (fun r e => roundR r e.1 e.2) r
def Good (c : List Int) (r : List (List Int)) (R : Rnds) : Prop := ∀ (k : Nat) e, R[k]? = some e → Allowed c (runR r (R.take k)) e.1 e.2
theorem runR_nil {r : List (List Int)} : runR r [] = r := rfl
theorem runR_snoc {r : List (List Int)} {R : Rnds} {e : Int × Sends} : runR r (R ++ [e]) = roundR (runR r R) e.1 e.2 := by
  unfold runR
  rw [List.foldl_append]
  rfl
theorem runR_succ {r : List (List Int)} {R : Rnds} {k : Nat} {e : Int × Sends} (h : R[k]? = some e) : runR r (R.take (k + 1)) = roundR (runR r (R.take k)) e.1 e.2 := by
  rw [take_succ_of h, runR_snoc]
theorem PoolOk.run {c : List Int} : ∀ {R : Rnds} {r : List (List Int)}, PoolOk c r → PoolOk c (runR r R)
  | [], _, ok => ok
  | e :: R, _, ok => PoolOk.run (R := R) (ok.round e.1 e.2)
theorem runR_len : ∀ {R : Rnds} {r : List (List Int)}, (runR r R).length = r.length
  | [], _ => rfl
  | e :: R, r => by
    show (runR (roundR r e.1 e.2) R).length = _
    rw [runR_len, roundR_len]
theorem Good.snoc {c : List Int} {r : List (List Int)} {R : Rnds} {e : Int × Sends} (h : Good c r R) (he : Allowed c (runR r R) e.1 e.2) : Good c r (R ++ [e]) := by
  intro k e' hk
  by_cases hl : k < R.length
  · rw [List.getElem?_append_left hl] at hk
    rw [List.take_append_of_le_length (by omega)]
    exact h k e' hk
  · have hl2 : k < R.length + 1 := by
      have := (List.getElem?_eq_some_iff.mp hk).1
      simpa using this
    have : k = R.length := by omega
    subst this
    rw [List.getElem?_append_right (Nat.le_refl _), Nat.sub_self] at hk
    cases hk
    rw [List.take_append_of_le_length (Nat.le_refl _), List.take_length]
    exact he
/-- the pair of two seats -/
def mkP (s t : Int) : Int × Int := (if t < s then t else s, if t > s then t else s)
theorem mkP_comm (s t : Int) : mkP s t = mkP t s := by
  unfold mkP
  refine Prod.ext ?_ ?_
  · show (if t < s then t else s) = if s < t then s else t
    split <;> split <;> omega
  · show (if t > s then t else s) = if s > t then s else t
    split <;> split <;> omega
/-- all sends, one behind another: piece, seat, sender -/
def flat (R : Rnds) : List (Int × (Int × Int)) := R.flatMap fun e => e.2.map fun p => (p.1, (e.1, p.2))
def fstOf (L : List (Int × (Int × Int))) (i : Int) : Option (Int × Int) := (L.find? fun t => decide (t.1 = i)).map fun t => mkP t.2.1 t.2.2
def firsts (n : Nat) (L : List (Int × (Int × Int))) : Deal := (List.range n).map fun (i : Nat) => fstOf L (i : Int)
theorem firsts_len {n : Nat} {L : List (Int × (Int × Int))} : (firsts n L).length = n := by
  unfold firsts
  rw [List.length_map, List.length_range]
theorem firsts_at {n : Nat} {L : List (Int × (Int × Int))} {i : Nat} (h : i < n) : (firsts n L)[i]? = some (fstOf L (i : Int)) := by
  unfold firsts
  rw [List.getElem?_map, List.getElem?_range h]
  rfl
theorem firsts_nil {n : Nat} : firsts n [] = List.replicate n Option.none := by
  refine List.ext_getElem? fun i => ?_
  by_cases h : i < n
  · rw [firsts_at h, List.getElem?_replicate, if_pos h]
    rfl
  · rw [List.getElem?_eq_none (by rw [firsts_len]; omega), List.getElem?_eq_none (by simp; omega)]
theorem fstOf_snoc {L : List (Int × (Int × Int))} {t : Int × (Int × Int)} {i : Int} : fstOf (L ++ [t]) i = (fstOf L i).or (if t.1 = i then some (mkP t.2.1 t.2.2) else Option.none) := by
  unfold fstOf
  rw [List.find?_append, Option.map_or]
  congr 1
  by_cases h : t.1 = i
  · simp [h]
  · simp [h]
/-- one more send -/
theorem firsts_snoc {n : Nat} {L : List (Int × (Int × Int))} {i : Nat} {s t : Int} (h : i < n) : firsts n (L ++ [((i : Int), (s, t))]) = if fstOf L (i : Int) = Option.none then (firsts n L).set i (some (mkP s t)) else firsts n L := by
  refine List.ext_getElem? fun j => ?_
  by_cases hj : j < n
  · rw [firsts_at hj, fstOf_snoc]
    by_cases e : i = j
    · subst e
      rw [if_pos rfl]
      by_cases hn : fstOf L (i : Int) = Option.none
      · rw [if_pos hn, List.getElem?_set_self (by rw [firsts_len]; exact h), hn]
        rfl
      · rw [if_neg hn, firsts_at h]
        cases q : fstOf L (i : Int) with
        | none => exact absurd q hn
        | some x => rfl
    · rw [if_neg (by show ¬ ((i : Int) = (j : Int)); omega), Option.or_none]
      split
      · rw [List.getElem?_set_ne e, firsts_at hj]
      · rw [firsts_at hj]
  · rw [List.getElem?_eq_none (by rw [firsts_len]; omega)]
    split
    · rw [List.getElem?_eq_none (by rw [List.length_set, firsts_len]; omega)]
    · rw [List.getElem?_eq_none (by rw [firsts_len]; omega)]
theorem flat_succ {R : Rnds} {k : Nat} {e : Int × Sends} (h : R[k]? = some e) : flat (R.take (k + 1)) = flat (R.take k) ++ e.2.map fun p => (p.1, (e.1, p.2)) := by
  rw [take_succ_of h]
  unfold flat
  rw [List.flatMap_append]
  simp
theorem flat_snoc {R : Rnds} {e : Int × Sends} : flat (R ++ [e]) = flat R ++ e.2.map fun p => (p.1, (e.1, p.2)) := by
  unfold flat
  rw [List.flatMap_append]
  simp
theorem range_at {α : Type} {n i : Nat} {f : Nat → α} (h : i < n) : ((List.range n).map f)[i]? = some (f i) := by
  rw [List.getElem?_map, List.getElem?_range h]
  rfl
theorem range_set {α : Type} {n i : Nat} {f g : Nat → α} {y : α} (h : ∀ j, j < n → j ≠ i → f j = g j) (hi : i < n) (hy : g i = y) : ((List.range n).map f).set i y = (List.range n).map g := by
  refine List.ext_getElem? fun j => ?_
  by_cases hj : j < n
  · rw [range_at hj]
    by_cases e : i = j
    · subst e
      rw [List.getElem?_set_self (by simpa using hi), hy]
    · rw [List.getElem?_set_ne e, range_at hj, h j hj (Ne.symm e)]
  · rw [List.getElem?_eq_none (by simp; omega), List.getElem?_eq_none (by simp; omega)]
theorem range_rep {α : Type} {n : Nat} {x : α} : List.replicate n x = (List.range n).map fun _ => x := by
  refine List.ext_getElem? fun j => ?_
  by_cases hj : j < n
  · rw [range_at hj, List.getElem?_replicate, if_pos hj]
  · rw [List.getElem?_eq_none (by simp; omega), List.getElem?_eq_none (by simp; omega)]
theorem rngD_0 {n : Nat} : rngD 0 n = (List.range n).map fun (k : Nat) => Dat.int (k : Int) := by
  unfold rngD
  congr 1
  funext k
  rw [Int.zero_add]
theorem tyI {i : Int} : (tyN (.int i) ≠ "") = True := eq_true (by simp only [tyN]; decide)
theorem tyL {xs : List Dat} : (tyN (.lst xs) ≠ "") = True := eq_true (by simp only [tyN]; decide)
theorem tyT {xs : List Dat} : (tyN (.tup xs) ≠ "") = True := eq_true (by simp only [tyN]; decide)
theorem kII {i : Int} : kitB (tyN (.int i)) "int" = some true := show kitB "int" "int" = some true by decide +kernel
theorem kIB {i : Int} : kitB (tyN (.int i)) "bool" = some false := show kitB "int" "bool" = some false by decide +kernel
theorem kLL {xs : List Dat} : kitB (tyN (.lst xs)) "list" = some true := show kitB "list" "list" = some true by decide +kernel
theorem kTT {xs : List Dat} : kitB (tyN (.tup xs)) "tuple" = some true := show kitB "tuple" "tuple" = some true by decide +kernel
theorem cutD_take {xs : List Dat} {j : Nat} (h : j ≤ xs.length) : cutD xs Option.none (some (j : Int)) = xs.take j := by
  unfold cutD
  rw [HT.sIx_none, HT.sIx_nat, Nat.min_eq_left h, List.drop_zero, Nat.sub_zero]
theorem cutD_drop {xs : List Dat} {j : Nat} (h : j ≤ xs.length) : cutD xs (some (j : Int)) Option.none = xs.drop j := by
  unfold cutD
  rw [HT.sIx_none, HT.sIx_nat, Nat.min_eq_left h, List.take_of_length_le (by rw [List.length_drop]; exact Nat.le_refl _)]
theorem XE.mono {X : Cx} {e : Expr} {d d' : DE} (h : XE X e d) (m : ∀ δ P, d' δ P → d δ P) : XE X e d' := ⟨fun pins s0 σ H Q I ⟨F0, H0, F, δ, P, S, hd, q⟩ => h.run pins s0 σ H Q I ⟨F0, H0, F, δ, P, S, m δ P hd, q⟩⟩
def dLenL (d : DE) : DE := fun δ P => d δ fun x => ∃ ds, x = .lst ds ∧ P (.int (ds.length : Int))
theorem xe_lenL {X : Cx} {pos p : Pos} {e : Expr} {d : DE} (hm : X.mg "len" = Option.none) (h : XE X e d) (hg : Gl X "len" := by rfl) (hst : starEach [e] X.env = (false, eval e X.env) :: starEach [] X.env := by rfl) (hpl : (backTo pos (starEach [] X.env)).any (·.1) = false := by rfl) : XE X (.Call (.Name "len" p) [e] [] pos) (dLenL d) := by
  refine ⟨fun pins s0 σ H Q I ⟨F0, H0, F, δ, P, S, hd, q⟩ => ?_⟩
  -- the argument's reading is used as it stands
  refine (xe_of (d := dLenL d) (pe_callB call_len_seq hg hm (by decide +kernel) (pa_cons h pa_nil hst) (by decide) (by decide) hst hpl) fun F0 H0 F H σ δ P S hd Q q => ?_).run pins s0 σ H Q I ⟨F0, H0, F, δ, P, S, hd, q⟩
  refine snd_tD d F0 H0 F H σ δ _ S hd _ fun v F1 H1 x e1 rx ⟨ds, ex, hp⟩ => ?_
  subst ex
  obtain ⟨a, ys, rfl, hy, r⟩ := rx.of_lst
  refine ⟨a, ys, rfl, Or.inl (SqL.of (e1.s _ _ hy)), ?_⟩
  rw [r.length]
  exact q _ F1 H1 _ e1 (.int _) hp
end Pw
set_option Elab.async false
set_option linter.all false
set_option maxRecDepth 100000
set_option maxHeartbeats 1000000
/-! Rounds, further. Plain. -/
namespace Pw
open PySem PySem.Spec L2
theorem dFor_go {di : DA} {dg : DG} {db : DS} {D : DEnds} {δ : List Sl} (items : List Dat) (hdi : ∀ Q : List Dat → Prop, Q items → di δ Q) (I : Nat → List Sl → Prop) (h0 : I 0 δ) (turn : ∀ k x δ', items[k]? = some x → I k δ' → dg x δ' fun δ2 => db { D with nx := I (k + 1), ct := I (k + 1), bk := D.nx } δ2) (fin : ∀ δ', I items.length δ' → D.nx δ') : dFor di dg db D δ := hdi _ ⟨I, h0, turn, fin⟩
theorem Allowed.nil {c : List Int} {r : List (List Int)} {s : Int} : Allowed c r s [] := ⟨by simp, fun e h => (by cases h), fun x h => (by simp at h)⟩
theorem Allowed.snoc {c : List Int} {r : List (List Int)} {s : Int} {S : Sends} (h : Allowed c r s S) {i : Nat} {t : Int} {row : List Int} (hl : ∀ e ∈ S, e.1 < (i : Int)) (hr : r[i]? = some row) (hs : s ∈ row) (ht : t ∈ row) (hn : t ≠ s) (hc : ((S.map (·.2)).count t : Int) < capOf c t) : Allowed c r s (S ++ [((i : Int), t)]) := by
  refine ⟨?_, fun e he => ?_, fun x hx => ?_⟩
  · rw [List.map_append]
    refine List.nodup_append.mpr ⟨h.nd, by simp, fun a ha b hb => ?_⟩
    have : b = (i : Int) := by simpa using hb
    subst this
    obtain ⟨e, he, rfl⟩ := List.mem_map.mp ha
    have := hl e he
    omega
  · rcases List.mem_append.mp he with z | z
    · exact h.ok e z
    · have : e = ((i : Int), t) := by simpa using z
      subst this
      exact ⟨i, row, rfl, hr, hs, ht, hn⟩
  · rw [List.map_append, List.count_append]
    by_cases e : x = t
    · subst e
      have : List.count x (List.map (fun x => x.2) [((i : Int), x)]) = 1 := by simp
      rw [this]
      omega
    · have z : List.count x (List.map (fun x => x.2) [((i : Int), t)]) = 0 := List.count_eq_zero.mpr (by simpa using e)
      rw [z]
      have hx' : x ∈ S.map (·.2) := by
        rw [List.map_append] at hx
        rcases List.mem_append.mp hx with q | q
        · exact q
        · exact absurd (by simpa using q) e
      exact h.cap x hx'
theorem count_snd {S : Sends} {t : Int} : (S.map (·.2)).count t = (S.filter fun e => decide (e.2 = t)).length := by
  induction S with
  | nil => rfl
  | cons e S ih =>
    rw [List.map_cons, List.count_cons, List.filter_cons, ih]
    by_cases h : e.2 = t
    · simp [h]
    · simp [h]
theorem dLc_it {d : DE} {dg : DG} {dt : DT} {de : DE} {vs : List Nat} {δ : List Sl} {P : List Dat → Prop} (h : d δ fun x => ∃ ds, x = .lst ds ∧ dLc (fun _ Q => Q ds) dg dt de vs δ P) : dLc (dItL d) dg dt de vs δ P := h
theorem dFor_it {d : DE} {dg : DG} {db : DS} {D : DEnds} {δ : List Sl} (h : d δ fun x => ∃ ds, x = .lst ds ∧ dFor (fun _ Q => Q ds) dg db D δ) : dFor (dItL d) dg db D δ := h
theorem PoolOk.rev {c : List Int} {r : List (List Int)} (ok : PoolOk c r) : PoolOk c r.reverse := ok.sub (List.length_reverse) fun row h => ⟨row, List.mem_reverse.mp h, List.Sublist.refl _⟩
theorem Allowed.rev {c : List Int} {r : List (List Int)} {s : Int} {S : Sends} (h : Allowed c r.reverse s S) : Allowed c r s (S.map fun e => ((r.length : Int) - 1 - e.1, e.2)) := by
  refine ⟨?_, fun e he => ?_, ?_⟩
  · rw [List.map_map]
    have e1 : S.map ((fun x => x.1) ∘ fun e => ((r.length : Int) - 1 - e.1, e.2)) = (S.map (·.1)).map fun x => (r.length : Int) - 1 - x := by rw [List.map_map]; rfl
    rw [e1]
    exact List.Pairwise.map (R := (· ≠ ·)) _ (fun a b hab z => hab (by omega)) h.nd
  · obtain ⟨e', he', rfl⟩ := List.mem_map.mp he
    obtain ⟨i, row, e1, hrow, h1, h2, h3⟩ := h.ok e' he'
    have hi : i < r.length := by
      have := (List.getElem?_eq_some_iff.mp hrow).1
      rwa [List.length_reverse] at this
    rw [List.getElem?_reverse hi] at hrow
    exact ⟨r.length - 1 - i, row, by show (r.length : Int) - 1 - e'.1 = _; omega, hrow, h1, h2, h3⟩
  · have e1 : (S.map fun e => ((r.length : Int) - 1 - e.1, e.2)).map (·.2) = S.map (·.2) := by rw [List.map_map]; rfl
    rw [e1]
    exact h.cap
theorem lI_map {α : Type} {xs : List α} {f : α → Int} : Dat.lst (xs.map fun x => Dat.int (f x)) = lI (xs.map f) := by
  show _ = Dat.lst (List.map _ _)
  rw [List.map_map]
  rfl
/-- what follows is shown once -/
theorem dSeq_gen {d u : DS} {D : DEnds} {δ : List Sl} (h : ∀ N : List Sl → Prop, (∀ δ', N δ' ↔ u D δ') → d { D with nx := N } δ) : dSeq d u D δ := h _ fun _ => Iff.rfl
theorem dLc_ints {di : DA} {dg : DG} {de : DE} {vs : List Nat} {δ : List Sl} {P : List Dat → Prop} (n : Nat) (hn : n < 100000) (hdi : ∀ Q : List Dat → Prop, Q ((List.range n).map fun (k : Nat) => Dat.int (k : Int)) → di δ Q) (Pr : Int → Prop)
    (step : ∀ k : Nat, k < n → ∀ Y : Dat → Prop, (∀ x, Pr x → Y (.int x)) → dg (.int (k : Int)) (wipeD δ vs) fun δ2 => de δ2 Y) (hp : ∀ ns : List Int, ns.length = n → (∀ x ∈ ns, Pr x) → P (ns.map .int)) : dLc di dg dYes de vs δ P := by
  refine hdi _ ⟨fun k acc => ∃ ns : List Int, acc = ns.map .int ∧ ns.length = k ∧ ∀ x ∈ ns, Pr x, ⟨[], rfl, rfl, fun x h => (by cases h)⟩, fun k x acc hx hacc => ?_, fun acc hacc => ?_⟩
  · obtain ⟨ns, rfl, h1, h2⟩ := hacc
    have hk : k < n := by
      have := (List.getElem?_eq_some_iff.mp hx).1
      simpa using this
    rw [range_at hk] at hx
    cases hx
    have := step k hk (fun y => (ns.map Dat.int).length < 100000 ∧ ∃ ns' : List Int, ns.map Dat.int ++ [y] = ns'.map .int ∧ ns'.length = k + 1 ∧ ∀ x ∈ ns', Pr x) fun x hx => ⟨by rw [List.length_map]; omega, ns ++ [x], by rw [List.map_append]; rfl, by rw [List.length_append, h1]; rfl, fun y hy => ?_⟩
    · simpa [dYes] using this
    · rcases List.mem_append.mp hy with z | z
      · exact h2 y z
      · have : y = x := by simpa using z
        rw [this]
        exact hx
  · obtain ⟨ns, rfl, h1, h2⟩ := hacc
    rw [List.length_map, List.length_range] at h1
    exact hp ns h1 h2
end Pw
set_option Elab.async false
set_option linter.all false
set_option maxRecDepth 100000
set_option maxHeartbeats 1000000
namespace Pw
open PySem PySem.Spec L2
/-- the reading of the data, unfolded -/
local macro_rules | `(tactic| walk_at "rd") => `(tactic| simp only [dRet, dRetN, dRetO, dRetM, dRetG, dSeq, dIf, dNext, dNever, dDrop, dAsg, dAsgN, dApp, dFrz, dFrzI, dTest, dB, dYes, dOp, dOpN, dC, dVar, dCall, dCallN, dCons, dNil, dTup, dLst, dAnd, dOr, dNot, dAndV, dOrV, dNotV, dIfE, dIsi, d2I, d2B, d2C, dIxL, dIxT, dIxS, dLen, d2Min, d2Max, dAbs, dInt, dTupOf, dListOf, dCaps, dHold, dSeats, dPieces, dIsN, dNotN, dNotB, dIn, dSorted, dSortedT, dMinB, dLenSet, dEnum, dgN, dgTup, dgCons, dgNil, dItL, dItT, dRng1, dRng2, dCat, dRep, dCatT, dSl, dNoP, dP1, dRev, dCntN, dListR, dListI,
  dIxO, dLenO, dThaw, dSetO, dAugO, dAug, dInI, dPutI, dIxI, dGetF, dAsgP, dAsgL, dGetP, dIxP, dPutP, dSetM, dSetd, dCRO, dLenGet, dOF, dSetF, dSetX, dIfNN, dCallG, dCallMt, dMtR, dCRN, dMkN, dMkP, dIsP, dFor, dForI, dLc, dLc2, dDc, dWhile, endsOf, endsN, endsM, endsG, startD, startR, startG, wipeD, isSc,
  List.map_cons, List.map_nil, List.cons_append, List.nil_append, List.append_nil, List.length_cons, List.length_nil, Nat.reduceAdd, Nat.reduceSub, List.replicate_succ, List.replicate_zero, List.getElem?_cons_zero, List.getElem?_cons_succ, List.set_cons_zero, List.set_cons_succ, Option.getD_some,
  Option.some.injEq, Sl.d.injEq, Sl.ol.injEq, Sl.oI.injEq, Sl.oP.injEq, Sl.oL.injEq, Sl.rd.injEq, Sl.oN.injEq, Sl.rN.injEq, Dat.int.injEq, Dat.bl.injEq, Dat.lst.injEq, Dat.tup.injEq, Dat.pool.injEq, Dat.scr.injEq, Dat.dI.injEq, Dat.dP.injEq, List.cons.injEq, map_int_inj, reduceCtorEq, exists_eq_left', exists_eq_left, exists_eq_right, exists_and_left, exists_const, and_true, true_and, and_false, false_and, or_false, false_or, exists_false, if_true, if_false, ite_true, ite_false, Bool.false_eq_true, and_assoc, and_self, decide_eq_true_eq, exists_prop, true_or, or_true, or_self, List.length_map, Nat.reduceLeDiff, Nat.reduceLT, atI_z, atI_1, atI_map, Option.map_some, Option.map_none, atI_nat', Int.toNat_natCast, Int.zero_add, rngD_len, enumD_len, isN_pr, Option.isNone_some, Option.isNone_none, isN_non, isN_int, isN_lst, isN_tup, isN_pool, pr_none, pr_some, List.getElem?_map, lsts_inj, isN_vB, vB_some, vB_none, kvB_len, rowB_len, clean_d, clean_no, clean_nil, Bool.not_true, Bool.not_false, fP1, fP2, fP3, fP4, lkA, lkP2, fG1, fG2, fG3, fG4, fG5, fG6, fG7, lkG1, lkG2, lkG3, lkG4, lkG5])
local macro_rules | `(tactic| walk_at "rs") => `(tactic| simp only [dRet, dRetN, dRetO, dRetM, dRetG, dSeq, dIf, dNext, dNever, dDrop, dAsg, dAsgN, dApp, dFrz, dFrzI, dTest, dB, dYes, dOp, dOpN, dC, dVar, dCall, dCallN, dCons, dNil, dTup, dLst, dAnd, dOr, dNot, dAndV, dOrV, dNotV, dIfE, dIsi, d2I, d2B, d2C, dIxL, dIxT, dIxS, dLen, d2Min, d2Max, dAbs, dInt, dTupOf, dListOf, dCaps, dHold, dSeats, dPieces, dIsN, dNotN, dNotB, dIn, dSorted, dSortedT, dMinB, dLenSet, dEnum, dgN, dgTup, dgCons, dgNil, dItL, dItT, dRng1, dRng2, dCat, dRep, dCatT, dSl, dNoP, dP1, dRev, dCntN, dListR, dListI,
  dIxO, dLenO, dThaw, dSetO, dAugO, dAug, dInI, dPutI, dIxI, dGetF, dAsgP, dAsgL, dGetP, dIxP, dPutP, dSetM, dSetd, dCRO, dLenGet, dOF, dSetF, dSetX, dIfNN, dCallG, dCallMt, dMtR, dCRN, dMkN, dMkP, dIsP, endsOf, endsN, endsM, endsG, startD, startR, startG, wipeD, isSc,
  List.map_cons, List.map_nil, List.cons_append, List.nil_append, List.append_nil, List.length_cons, List.length_nil, Nat.reduceAdd, Nat.reduceSub, List.replicate_succ, List.replicate_zero, List.getElem?_cons_zero, List.getElem?_cons_succ, List.set_cons_zero, List.set_cons_succ, Option.getD_some,
  Option.some.injEq, Sl.d.injEq, Sl.ol.injEq, Sl.oI.injEq, Sl.oP.injEq, Sl.oL.injEq, Sl.rd.injEq, Sl.oN.injEq, Sl.rN.injEq, Dat.int.injEq, Dat.bl.injEq, Dat.lst.injEq, Dat.tup.injEq, Dat.pool.injEq, Dat.scr.injEq, Dat.dI.injEq, Dat.dP.injEq, List.cons.injEq, map_int_inj, reduceCtorEq, exists_eq_left', exists_eq_left, exists_eq_right, exists_and_left, exists_const, and_true, true_and, and_false, false_and, or_false, false_or, exists_false, if_true, if_false, ite_true, ite_false, Bool.false_eq_true, and_assoc, and_self, decide_eq_true_eq, exists_prop, true_or, or_true, or_self, List.length_map, Nat.reduceLeDiff, Nat.reduceLT, atI_z, atI_1, atI_map, Option.map_some, Option.map_none, atI_nat', Int.toNat_natCast, Int.zero_add, rngD_len, enumD_len, isN_pr, Option.isNone_some, Option.isNone_none, isN_non, isN_int, isN_lst, isN_tup, isN_pool, pr_none, pr_some, List.getElem?_map, lsts_inj, isN_vB, vB_some, vB_none, kvB_len, rowB_len, clean_d, clean_no, clean_nil, Bool.not_true, Bool.not_false, fP1, fP2, fP3, fP4, lkA, lkP2, fG1, fG2, fG3, fG4, fG5, fG6, fG7, lkG1, lkG2, lkG3, lkG4, lkG5])
section
variable {P : Program} {w : World} {K : PySem.W.Frag} {mg : Str → Option Value} {base : Heap}
/-! Tools and pools. -/
def sp_pairs_among (ds : List Dat) (post : Dat → Prop) : Prop := ∃ row, ds = [tI row] ∧ row.length ≤ 64 ∧ ∀ ps : List (Int × Int), (∀ q, q ∈ ps ↔ q.1 ∈ row ∧ q.2 ∈ row ∧ q.1 < q.2) → ps.length ≤ 4096 → post (.lst (ps.map dPair))
theorem len_pairs_among {ds : List Dat} {post : Dat → Prop} (h : sp_pairs_among ds post) : ds.length = 1 := by
  obtain ⟨_, rfl, _⟩ := h
  rfl
theorem int_at {row : List Int} {k : Nat} {x : Dat} (h : Option.map Dat.int (row[k]?) = some x) : ∃ i, row[k]? = some i ∧ x = .int i := map_at h
theorem mem_take_succ {α : Type} {row : List α} {k : Nat} {x y : α} (h : row[k]? = some x) : y ∈ row.take (k + 1) ↔ y ∈ row.take k ∨ y = x := by
  obtain ⟨hk, e⟩ := List.getElem?_eq_some_iff.mp h
  rw [List.take_succ_eq_append_getElem hk, List.mem_append, e]
  simp
theorem c_pairs_among (T : Top K mg) : Cal P w K mg base 1 "pairs_among" (spD K sp_pairs_among) := by
  refine calD T d_pairs_among 0 0 sc_pairs_among (fun ds post h => len_pairs_among h) (fun cdv A outer s H E hr => ⟨_, (xss_one (xs_retN (xn_lc2 (own := [("low", 1), ("high", 2)]) (vs1 := [2]) rfl sc_pairs_among.nd (xi_tup (xv 0)) (blkOk_by (own := [("low", 1), ("high", 2)]) (N := N_pairs_among) (sc := defScope s_pairs_among) (by decide +kernel)) (fun _ _ _ _ _ => (xg_name 1 sc_pairs_among.nd)) (fun _ _ _ _ _ => xts_nil) (fun _ _ _ _ _ => xi_tup (xv 0)) (fun _ _ _ _ _ => xg_name 2 sc_pairs_among.nd) (fun _ _ _ _ _ => xts_one (xt_cmp op_lt od_B (xv 1) (xv 2))) (fun _ _ _ _ _ => xe_tup (xa_cons (xv 1) (xa_cons (xv 2) xa_nil)))))), fun ds post h => ?_⟩)
    (fun _ _ _ _ _ _ us hl => match us, hl with | [_], _ => rfl)
  obtain ⟨row, rfl, hl, hp⟩ := h
  walk_at "rd"
  refine ⟨fun k acc => ∃ ps : List (Int × Int), acc = ps.map dPair ∧ (∀ q, q ∈ ps ↔ q.1 ∈ row.take k ∧ q.2 ∈ row ∧ q.1 < q.2) ∧ ps.length ≤ k * row.length ∧ k ≤ row.length, ⟨[], rfl, by simp, by simp, Nat.zero_le _⟩, fun k x acc hx ⟨ps, h1, h2, h3, h5⟩ => ?_, fun acc ⟨ps, h1, h2, h3, h5⟩ => ?_⟩
  · obtain ⟨i, hi, rfl⟩ := int_at hx
    subst h1
    have hk : k < row.length := (List.getElem?_eq_some_iff.mp hi).1
    have hkk : (k + 1) * row.length ≤ 64 * 64 := Nat.mul_le_mul (by omega) hl
    refine ⟨fun j acc => ∃ ps : List (Int × Int), acc = ps.map dPair ∧ (∀ q, q ∈ ps ↔ (q.1 ∈ row.take k ∧ q.2 ∈ row ∧ q.1 < q.2) ∨ (q.1 = i ∧ q.2 ∈ row.take j ∧ q.1 < q.2)) ∧ ps.length ≤ k * row.length + j ∧ j ≤ row.length, ⟨ps, rfl, fun q => by rw [h2]; simp, by omega, Nat.zero_le _⟩, fun j y acc' hy ⟨ps', g1, g2, g3, g5⟩ => ?_, fun acc' ⟨ps', g1, g2, g3, g5⟩ => ?_⟩
    · obtain ⟨i2, hi2, rfl⟩ := int_at hy
      subst g1
      have hj : j < row.length := (List.getElem?_eq_some_iff.mp hi2).1
      refine ⟨i, rfl, i2, rfl, ?_⟩
      by_cases hlt : i < i2
      · rw [if_pos hlt]
        refine ⟨by rw [List.length_map, Nat.add_mul] at *; omega, ps' ++ [(i, i2)], by simp, fun q => ?_, by simp; omega, by omega⟩
        rw [List.mem_append, g2, mem_take_succ hi2, List.mem_singleton]
        constructor
        · rintro ((h | h) | h)
          · exact .inl h
          · exact .inr ⟨h.1, .inl h.2.1, h.2.2⟩
          · subst h
            exact .inr ⟨rfl, .inr rfl, hlt⟩
        · rintro (h | ⟨h1, h | h, h3⟩)
          · exact .inl (.inl h)
          · exact .inl (.inr ⟨h1, h, h3⟩)
          · exact .inr (Prod.ext h1 h)
      · rw [if_neg hlt]
        refine ⟨ps', rfl, fun q => ?_, by omega, by omega⟩
        rw [g2, mem_take_succ hi2]
        constructor
        · rintro (h | h)
          · exact .inl h
          · exact .inr ⟨h.1, .inl h.2.1, h.2.2⟩
        · rintro (h | ⟨h1, h | h, h3⟩)
          · exact .inl h
          · exact .inr ⟨h1, h, h3⟩
          · rw [h1, h] at h3
            exact absurd h3 hlt
    · refine ⟨ps', g1, fun q => ?_, by rw [Nat.add_mul]; omega, by omega⟩
      rw [g2, mem_take_succ hi, List.take_length]
      constructor
      · rintro (h | h)
        · exact ⟨.inl h.1, h.2⟩
        · exact ⟨.inr h.1, h.2⟩
      · rintro ⟨h | h, h2⟩
        · exact .inl ⟨h, h2⟩
        · exact .inr ⟨h, h2⟩
  · subst h1
    rw [List.take_length] at h2
    exact hp ps h2 (Nat.le_trans h3 (Nat.le_trans (Nat.mul_le_mul hl hl) (by decide)))
def sp_has_twice (ds : List Dat) (post : Dat → Prop) : Prop := ∃ ns, (ds = [lI ns] ∨ ds = [tI ns]) ∧ ns.length < 64 ∧ ns.Nodup ∧ post (.bl false)
theorem len_has_twice {ds : List Dat} {post : Dat → Prop} (h : sp_has_twice ds post) : ds.length = 1 := by
  obtain ⟨_, rfl | rfl, _⟩ := h <;> rfl
theorem c_has_twice (T : Top K mg) : Cal P w K mg base 1 "has_twice" (spD K sp_has_twice) := by
  refine calD T d_has_twice 1 1 sc_has_twice (fun ds post h => len_has_twice h) (fun cdv A outer s H E hr => ⟨_, (xss_one (xs_ret (xe_cmp op_lt od_B (xe_lenSet rfl T.m_len T.m_set (xv 0)) (xe_len T.m_len (xa_cons (xv 0) xa_nil))))), fun ds post h => ?_⟩)
    (fun _ _ _ _ _ _ us hl => match us, hl with | [_], _ => rfl)
  obtain ⟨ns, rfl | rfl, hl, hn, hp⟩ := h
  · walk_at "rd"
    refine ⟨hl, hn, ?_⟩
    rw [decide_eq_false (by omega)]
    exact hp
  · walk_at "rd"
    refine ⟨hl, hn, ?_⟩
    rw [decide_eq_false (by omega)]
    exact hp
def sp_are_below (ds : List Dat) (post : Dat → Prop) : Prop := ∃ ns n, (ds = [lI ns, .int n] ∨ ds = [tI ns, .int n]) ∧ (∀ x ∈ ns, 0 ≤ x ∧ x < n) ∧ post (.bl true)
theorem len_are_below {ds : List Dat} {post : Dat → Prop} (h : sp_are_below ds post) : ds.length = 2 := by
  obtain ⟨_, _, rfl | rfl, _⟩ := h <;> rfl
theorem c_are_below (T : Top K mg) : Cal P w K mg base 1 "are_below" (spD K sp_are_below) := by
  refine calD T d_are_below 2 2 sc_are_below (fun ds post h => len_are_below h) (fun cdv A outer s H E hr => ⟨_, (xss_cons (xs_for (vs := [2]) rfl (xi_or (xi_list (xv 0)) (xi_tup (xv 0))) (xg_name 2 sc_are_below.nd) (xss_one (xs_if (xw_t (xw_or (xt_cmp op_lt od_B (xv 2) xint) (xw_or1 (xt_cmp op_ge od_B (xv 2) (xv 1))))) (xss_one (xs_ret xbl)) xss_nil)))
      (xss_one (xs_ret xbl))), fun ds post h => ?_⟩)
    (fun _ _ _ _ _ _ us hl => match us, hl with | [_, _], _ => rfl)
  obtain ⟨ns, n, rfl | rfl, hx, hp⟩ := h
  all_goals
    walk_at "rd"
    refine ⟨fun k δ => ∃ s, δ = [_, Sl.d (.int n), s], ⟨_, rfl⟩, fun k x δ' hk ⟨s, e⟩ => ?_, fun _ _ => hp⟩
    obtain ⟨i, hi, rfl⟩ := int_at hk
    subst e
    have hb := hx i (List.mem_of_getElem? hi)
    walk_at "rd"
    rw [if_neg (by omega), if_neg (by omega)]
    exact ⟨_, rfl⟩
def sp_clean_holders (ds : List Dat) (post : Dat → Prop) : Prop := ∃ row n, (ds = [lI row, .int n] ∨ ds = [tI row, .int n]) ∧ row.length < 64 ∧ row.Pairwise (· < ·) ∧ (∀ x ∈ row, 0 ≤ x ∧ x < n) ∧ post (tI row)
theorem len_clean_holders {ds : List Dat} {post : Dat → Prop} (h : sp_clean_holders ds post) : ds.length = 2 := by
  obtain ⟨_, _, rfl | rfl, _⟩ := h <;> rfl
theorem c_clean_holders (T : Top K mg) : Cal P w K mg base 2 "clean_holders" (spD K sp_clean_holders) := by
  refine calD T d_clean_holders 3 3 sc_clean_holders (fun ds post h => len_clean_holders h) (fun cdv A outer s H E hr => ⟨_, (xss_cons (xs_if (xw_t (xw_or (xt_val (xe_c (c_has_twice T) hr (xa_cons (xv 0) xa_nil))) (xw_or1 (xt_not (xt_val (xe_c (c_are_below T) hr (xa_cons (xv 0) (xa_cons (xv 1) xa_nil)))))))) (xss_one (xs_ret xnon)) xss_nil)
      (xss_one (xs_ret (xe_callT call_tuple_of cd_tupOf T.m_tuple (xa_cons (xe_new (xn_callB (cr_or cr_sorted cr_sortedTup) (cn_or cn_sorted cn_sortedT) T.m_sorted (xa_cons (xv 0) xa_nil))) xa_nil))))), fun ds post h => ?_⟩)
    (fun _ _ _ _ _ _ us hl => match us, hl with | [_, _], _ => rfl)
  obtain ⟨row, n, rfl | rfl, hl, ha, hx, hp⟩ := h
  all_goals
    walk_at "rd"
    refine ⟨row, by simp, hl, asc_nodup ha, ?_⟩
    walk_at "rd"
    refine ⟨row, n, by simp, hx, ?_⟩
    walk_at "rd"
    refine ⟨hl, fun ms h1 h2 => ?_⟩
    rw [perm_asc h1 h2 ha]
    exact hp
def sp_Pool_init (fs : List (Str × Dat)) (ds : List Dat) (post : List (Str × Dat) → Dat → Prop) : Prop := ∃ c r, fs = [] ∧ (∃ cd hd, ds = [cd, hd] ∧ (cd = lI c ∨ cd = tI c) ∧ (hd = .lst (r.map lI) ∨ hd = .lst (r.map tI))) ∧ PoolOk c r ∧ post (poolF c r) .non
theorem len_Pool_init {fs : List (Str × Dat)} {ds : List Dat} {post : List (Str × Dat) → Dat → Prop} (h : sp_Pool_init fs ds post) : ds.length + 1 = 3 := by
  obtain ⟨_, _, _, ⟨_, _, rfl, _⟩, _⟩ := h
  rfl
theorem inD_none {r : List (List Int)} {P : Dat → Prop} (h : P (.bl false)) : dInD false .non (.lst (r.map tI)) P := by
  refine dInD_sh (f := tI) (g := fun row => .tuple (row.map .int)) (sh_non 1) (fun row _ => sh_tI row) (by decide) fun b hb => ?_
  have : b = false := by
    cases b with
    | false => rfl
    | true =>
      obtain ⟨y, _, hy⟩ := hb.mp rfl
      cases hy
  rw [this]
  exact h
theorem c_Pool_init (T : Top K mg) : C8.Mak P w K mg base 3 "Pool" (He.ga K "Pool") (spG K "Pool" sp_Pool_init) [] := by
  refine makG T d_Pool_init 4 50 sc_Pool_init "Pool" (fun _ _ _ _ _ _ us hl => match us, hl with | [_, _, _], _ => rfl) (fun fs ds post h => len_Pool_init h) T.mkPool (fun cdv A outer s H E hr => ⟨_, (xss_cons (xs_if (xw_t (xw_or (xt_cmp op_eq od_eq (xe_len T.m_len (xa_cons (xv 1) xa_nil)) xint) (xw_or1 (xt_cmp op_lt od_B (xe_callB (cr_or (cr_min rfl) (cr_minT rfl (room3 hr))) cd_minB T.m_min (xa_cons (xv 1) xa_nil)) xint)))) (xss_one xs_never) xss_nil)
      (xss_cons (xs_setLc (i := 3) (own := [("row", 4)]) rfl sc_Pool_init.nd (xi_list (xv 2)) (blkOk_by (own := [("row", 4)]) (N := N_Pool_init) (sc := defScope s_Pool_init) (by decide +kernel)) (fun _ _ _ _ _ => (xg_name 4 sc_Pool_init.nd)) (fun _ _ _ _ _ => xts_nil) (fun _ _ _ _ _ => (xe_c (c_clean_holders T) hr (xa_cons (xv 4) (xa_cons (xe_len T.m_len (xa_cons (xv 1) xa_nil)) xa_nil)))))
      (xss_cons (xs_if (xt_cmp (op_inD (room65 hr)) od_inD xnon (xv 3)) (xss_one xs_never) xss_nil)
      (xss_cons (xs_setF 0 "Pool" (T.poFld 66) (xe_callT call_tuple_of cd_tupOf T.m_tuple (xa_cons (xv 1) xa_nil)))
      (xss_cons (xs_setF 0 "Pool" (T.poFld 67) (xe_callT call_tuple_of cd_tupOf T.m_tuple (xa_cons (xv 3) xa_nil)))
      (xss_cons (xs_setF 0 "Pool" (T.poFld 68) (xe_len T.m_len (xa_cons (xe_oF 0 "Pool" (T.poFld 66)) xa_nil)))
      (xss_one (xs_setF 0 "Pool" (T.poFld 69) (xe_len T.m_len (xa_cons (xe_oF 0 "Pool" (T.poFld 67)) xa_nil)))))))))), fun a fs ds post h => ?_⟩)
  obtain ⟨c, r, rfl, ⟨cd, hd, rfl, hc, hh⟩, ok, hp⟩ := h
  have h0 := ok.s0
  have hrl := ok.p1
  have hstep : ∀ row ∈ r, row.length < 64 ∧ row.Pairwise (· < ·) ∧ ∀ x ∈ row, 0 ≤ x ∧ x < (c.length : Int) := fun row hr => ⟨by have := ok.rowLen hr; omega, ok.asc row hr, ok.rng row hr⟩
  rcases hc with rfl | rfl <;> rcases hh with rfl | rfl
  all_goals
    walk_at "rd"
    rw [if_neg (by omega)]
    refine ⟨h0, fun m hm => ?_⟩
    rw [if_neg (by have := ok.cap m hm; omega)]
    refine ⟨fun k acc => acc = (r.take k).map tI, rfl, fun k x acc hk e => ?_, fun acc e => ?_⟩
    · skip
      obtain ⟨row, hrow, rfl⟩ := Option.map_eq_some_iff.mp hk
      have hm := List.mem_of_getElem? hrow
      obtain ⟨g1, g2, g3⟩ := hstep row hm
      obtain ⟨hkl, eq⟩ := List.getElem?_eq_some_iff.mp hrow
      refine ⟨row, _, by simp, g1, g2, g3, by rw [e]; simp; omega, ?_⟩
      show _ = (r.take (k + 1)).map tI
      rw [List.take_succ_eq_append_getElem hkl, List.map_append, eq, ← e]
      rfl
    · replace e : acc = (r.take r.length).map tI := e
      rw [List.take_length] at e
      subst e
      refine inD_none ?_
      walk_at "rd"
      exact hp
def sp_pair_room (ds : List Dat) (post : Dat → Prop) : Prop := ∃ c r q, ds = [.pool c r, dPair q] ∧ (0 ≤ q.1 ∧ q.1 < (c.length : Int)) ∧ (0 ≤ q.2 ∧ q.2 < (c.length : Int)) ∧ post (.int (room c q))
theorem len_pair_room {ds : List Dat} {post : Dat → Prop} (h : sp_pair_room ds post) : ds.length = 2 := by
  obtain ⟨_, _, _, rfl, _⟩ := h
  rfl
theorem c_pair_room (T : Top K mg) : Cal P w K mg base 1 "pair_room" (spD K sp_pair_room) := by
  refine calD T d_pair_room 5 4 sc_pair_room (fun ds post h => len_pair_room h) (fun cdv A outer s H E hr => ⟨_, (xss_one (xs_ret (xe_callB (call_min2 rfl) cd_min2 T.m_min (xa_cons (xe_ix ix_tup od_ixT (xe_caps T.pc (xv 0)) (xe_ix ix_tup od_ixT (xv 1) xint)) (xa_cons (xe_ix ix_tup od_ixT (xe_caps T.pc (xv 0)) (xe_ix ix_tup od_ixT (xv 1) xint)) xa_nil))))), fun ds post h => ?_⟩)
    (fun _ _ _ _ _ _ us hl => match us, hl with | [_, _], _ => rfl)
  obtain ⟨c, r, ⟨x, y⟩, rfl, h1, h2, hp⟩ := h
  walk_at "rd"
  rw [capOf_at h1.1 h1.2, capOf_at h2.1 h2.2]
  walk_at "rd"
  exact hp
def sp_held_pairs (ds : List Dat) (post : Dat → Prop) : Prop := ∃ c r p row, ds = [.pool c r, .int (p : Nat)] ∧ PoolOk c r ∧ r[p]? = some row ∧ ∀ ps : List (Int × Int), (∀ q, q ∈ ps ↔ HeldR c row q) → ps.length ≤ 4096 → post (.lst (ps.map dPair))
theorem len_held_pairs {ds : List Dat} {post : Dat → Prop} (h : sp_held_pairs ds post) : ds.length = 2 := by
  obtain ⟨_, _, _, _, rfl, _⟩ := h
  rfl
theorem c_held_pairs (T : Top K mg) : Cal P w K mg base 2 "held_pairs" (spD K sp_held_pairs) := by
  refine calD T d_held_pairs 6 5 sc_held_pairs (fun ds post h => len_held_pairs h) (fun cdv A outer s H E hr => ⟨_, (xss_one (xs_retN (xn_lc (own := [("pair", 2)]) rfl sc_held_pairs.nd (xi_list (xe_c (c_pairs_among T) hr (xa_cons (xe_ix ix_tup od_ixT (xe_hold T.pc (xv 0)) (xv 1)) xa_nil))) (blkOk_by (own := [("pair", 2)]) (N := N_held_pairs) (sc := defScope s_held_pairs) (by decide +kernel)) (fun _ _ _ _ _ => (xg_name 2 sc_held_pairs.nd)) (fun _ _ _ _ _ => (xts_one (xt_cmp op_gt od_B (xe_c (c_pair_room T) hr (xa_cons (xv 0) (xa_cons (xv 2) xa_nil))) xint))) (fun _ _ _ _ _ => (xv 2))))), fun ds post h => ?_⟩)
    (fun _ _ _ _ _ _ us hl => match us, hl with | [_, _], _ => rfl)
  obtain ⟨c, r, p, row, rfl, ok, hrow, hp⟩ := h
  walk_at "rd"
  rw [hrow]
  walk_at "rd"
  have hm := List.mem_of_getElem? hrow
  have hr := ok.rng row hm
  refine ⟨row, by simp, by have := ok.rowLen hm; omega, fun ps hps hlen => ?_⟩
  walk_at "rd"
  have hin : ∀ q ∈ ps, (0 ≤ q.1 ∧ q.1 < (c.length : Int)) ∧ 0 ≤ q.2 ∧ q.2 < (c.length : Int) := fun q hq => by
    obtain ⟨h1, h2, _⟩ := (hps q).mp hq
    exact ⟨hr _ h1, hr _ h2⟩
  refine ⟨fun k acc => acc = ((ps.take k).filter fun q => decide (0 < room c q)).map dPair, rfl, fun k x acc hk e => ?_, fun acc e => ?_⟩
  · skip
    obtain ⟨q, hq, rfl⟩ := Option.map_eq_some_iff.mp hk
    have hm := List.mem_of_getElem? hq
    have e2 := take_filter_succ (p := fun q => decide (0 < room c q)) hq
    refine ⟨c, r, q, rfl, (hin q hm).1, (hin q hm).2, ?_⟩
    walk_at "rd"
    by_cases h0 : 0 < room c q
    · rw [if_pos h0]
      refine ⟨?_, ?_⟩
      · rw [e, List.length_map]
        have h1 := List.length_filter_le (fun q => decide (0 < room c q)) (ps.take k)
        have h2 := List.length_take_le' k ps
        omega
      · show _ = ((ps.take (k + 1)).filter _).map dPair
        rw [e2, if_pos (decide_eq_true h0), List.map_append, e]
        rfl
    · rw [if_neg h0]
      show _ = ((ps.take (k + 1)).filter _).map dPair
      rw [e2, if_neg (by simpa using h0), List.append_nil, e]
  · replace e : acc = ((ps.take ps.length).filter fun q => decide (0 < room c q)).map dPair := e
    rw [List.take_length] at e
    subst e
    refine hp _ (fun q => ?_) (Nat.le_trans (List.length_filter_le _ _) hlen)
    rw [List.mem_filter, hps, decide_eq_true_eq]
    unfold HeldR
    simp only [and_assoc]
def sp_pool_with (ds : List Dat) (post : Dat → Prop) : Prop := ∃ c r r2, ds = [.pool c r, .lst (r2.map tI)] ∧ PoolOk c r2 ∧ post (.pool c r2)
theorem len_pool_with {ds : List Dat} {post : Dat → Prop} (h : sp_pool_with ds post) : ds.length = 2 := by
  obtain ⟨_, _, _, rfl, _⟩ := h
  rfl
theorem c_pool_with (T : Top K mg) : Cal P w K mg base 5 "pool_with" (spD K sp_pool_with) := by
  refine calD T d_pool_with 7 6 sc_pool_with (fun ds post h => len_pool_with h) (fun cdv A outer s H E hr => ⟨_, (xss_one (xs_ret (xe_mkP (c_Pool_init T) hr (xa_cons (xe_caps T.pc (xv 0)) (xa_cons (xv 1) xa_nil))))), fun ds post h => ?_⟩)
    (fun _ _ _ _ _ _ us hl => match us, hl with | [_, _], _ => rfl)
  obtain ⟨c, r, r2, rfl, ok, hp⟩ := h
  walk_at "rd"
  exact ⟨c, r2, rfl, ⟨_, _, rfl, .inr rfl, .inr rfl⟩, ok, rfl, c, r2, rfl, hp⟩
end
end Pw
set_option Elab.async false
set_option linter.all false
set_option maxRecDepth 100000
set_option maxHeartbeats 1000000
namespace Pw
open PySem PySem.Spec L2
/-- the reading of the data, unfolded -/
local macro_rules | `(tactic| walk_at "rd") => `(tactic| simp only [dRet, dRetN, dRetO, dRetM, dRetG, dSeq, dIf, dNext, dNever, dDrop, dAsg, dAsgN, dApp, dFrz, dFrzI, dTest, dB, dYes, dOp, dOpN, dC, dVar, dCall, dCallN, dCons, dNil, dTup, dLst, dAnd, dOr, dNot, dAndV, dOrV, dNotV, dIfE, dIsi, d2I, d2B, d2C, dIxL, dIxT, dIxS, dLen, d2Min, d2Max, dAbs, dInt, dTupOf, dListOf, dCaps, dHold, dSeats, dPieces, dIsN, dNotN, dNotB, dIn, dSorted, dSortedT, dMinB, dLenSet, dEnum, dgN, dgTup, dgCons, dgNil, dItL, dItT, dRng1, dRng2, dCat, dRep, dCatT, dSl, dNoP, dP1, dRev, dCntN, dListR, dListI,
  dIxO, dLenO, dThaw, dSetO, dAugO, dAug, dInI, dPutI, dIxI, dGetF, dAsgP, dAsgL, dGetP, dIxP, dPutP, dSetM, dSetd, dCRO, dLenGet, dOF, dSetF, dSetX, dIfNN, dCallG, dCallMt, dMtR, dCRN, dMkN, dMkP, dIsP, dFor, dForI, dLc, dLc2, dDc, dWhile, endsOf, endsN, endsM, endsG, startD, startR, startG, wipeD, isSc,
  List.map_cons, List.map_nil, List.cons_append, List.nil_append, List.append_nil, List.length_cons, List.length_nil, Nat.reduceAdd, Nat.reduceSub, List.replicate_succ, List.replicate_zero, List.getElem?_cons_zero, List.getElem?_cons_succ, List.set_cons_zero, List.set_cons_succ, Option.getD_some,
  Option.some.injEq, Sl.d.injEq, Sl.ol.injEq, Sl.oI.injEq, Sl.oP.injEq, Sl.oL.injEq, Sl.rd.injEq, Sl.oN.injEq, Sl.rN.injEq, Dat.int.injEq, Dat.bl.injEq, Dat.lst.injEq, Dat.tup.injEq, Dat.pool.injEq, Dat.scr.injEq, Dat.dI.injEq, Dat.dP.injEq, List.cons.injEq, map_int_inj, reduceCtorEq, exists_eq_left', exists_eq_left, exists_eq_right, exists_and_left, exists_const, and_true, true_and, and_false, false_and, or_false, false_or, exists_false, if_true, if_false, ite_true, ite_false, Bool.false_eq_true, and_assoc, and_self, decide_eq_true_eq, exists_prop, true_or, or_true, or_self, List.length_map, Nat.reduceLeDiff, Nat.reduceLT, atI_z, atI_1, atI_map, Option.map_some, Option.map_none, atI_nat', Int.toNat_natCast, Int.zero_add, rngD_len, enumD_len, isN_pr, Option.isNone_some, Option.isNone_none, isN_non, isN_int, isN_lst, isN_tup, isN_pool, pr_none, pr_some, List.getElem?_map, lsts_inj, isN_vB, vB_some, vB_none, kvB_len, rowB_len, clean_d, clean_no, clean_nil, Bool.not_true, Bool.not_false, fP1, fP2, fP3, fP4, lkA, lkP2, fG1, fG2, fG3, fG4, fG5, fG6, fG7, lkG1, lkG2, lkG3, lkG4, lkG5])
local macro_rules | `(tactic| walk_at "rs") => `(tactic| simp only [dRet, dRetN, dRetO, dRetM, dRetG, dSeq, dIf, dNext, dNever, dDrop, dAsg, dAsgN, dApp, dFrz, dFrzI, dTest, dB, dYes, dOp, dOpN, dC, dVar, dCall, dCallN, dCons, dNil, dTup, dLst, dAnd, dOr, dNot, dAndV, dOrV, dNotV, dIfE, dIsi, d2I, d2B, d2C, dIxL, dIxT, dIxS, dLen, d2Min, d2Max, dAbs, dInt, dTupOf, dListOf, dCaps, dHold, dSeats, dPieces, dIsN, dNotN, dNotB, dIn, dSorted, dSortedT, dMinB, dLenSet, dEnum, dgN, dgTup, dgCons, dgNil, dItL, dItT, dRng1, dRng2, dCat, dRep, dCatT, dSl, dNoP, dP1, dRev, dCntN, dListR, dListI,
  dIxO, dLenO, dThaw, dSetO, dAugO, dAug, dInI, dPutI, dIxI, dGetF, dAsgP, dAsgL, dGetP, dIxP, dPutP, dSetM, dSetd, dCRO, dLenGet, dOF, dSetF, dSetX, dIfNN, dCallG, dCallMt, dMtR, dCRN, dMkN, dMkP, dIsP, endsOf, endsN, endsM, endsG, startD, startR, startG, wipeD, isSc,
  List.map_cons, List.map_nil, List.cons_append, List.nil_append, List.append_nil, List.length_cons, List.length_nil, Nat.reduceAdd, Nat.reduceSub, List.replicate_succ, List.replicate_zero, List.getElem?_cons_zero, List.getElem?_cons_succ, List.set_cons_zero, List.set_cons_succ, Option.getD_some,
  Option.some.injEq, Sl.d.injEq, Sl.ol.injEq, Sl.oI.injEq, Sl.oP.injEq, Sl.oL.injEq, Sl.rd.injEq, Sl.oN.injEq, Sl.rN.injEq, Dat.int.injEq, Dat.bl.injEq, Dat.lst.injEq, Dat.tup.injEq, Dat.pool.injEq, Dat.scr.injEq, Dat.dI.injEq, Dat.dP.injEq, List.cons.injEq, map_int_inj, reduceCtorEq, exists_eq_left', exists_eq_left, exists_eq_right, exists_and_left, exists_const, and_true, true_and, and_false, false_and, or_false, false_or, exists_false, if_true, if_false, ite_true, ite_false, Bool.false_eq_true, and_assoc, and_self, decide_eq_true_eq, exists_prop, true_or, or_true, or_self, List.length_map, Nat.reduceLeDiff, Nat.reduceLT, atI_z, atI_1, atI_map, Option.map_some, Option.map_none, atI_nat', Int.toNat_natCast, Int.zero_add, rngD_len, enumD_len, isN_pr, Option.isNone_some, Option.isNone_none, isN_non, isN_int, isN_lst, isN_tup, isN_pool, pr_none, pr_some, List.getElem?_map, lsts_inj, isN_vB, vB_some, vB_none, kvB_len, rowB_len, clean_d, clean_no, clean_nil, Bool.not_true, Bool.not_false, fP1, fP2, fP3, fP4, lkA, lkP2, fG1, fG2, fG3, fG4, fG5, fG6, fG7, lkG1, lkG2, lkG3, lkG4, lkG5])
section
variable {P : Program} {w : World} {K : PySem.W.Frag} {mg : Str → Option Value} {base : Heap}
/-! Dealings. -/
def sp_is_dealing (ds : List Dat) (post : Dat → Prop) : Prop := ∃ c r D, ds = [.pool c r, prs D] ∧ PoolOk c r ∧ ∀ b : Bool, (b = true ↔ IsDeal c r D) → post (.bl b)
theorem len_is_dealing {ds : List Dat} {post : Dat → Prop} (h : sp_is_dealing ds post) : ds.length = 2 := by
  obtain ⟨_, _, _, rfl, _⟩ := h
  rfl
theorem isd_false {c : List Int} {r : List (List Int)} {D : Deal} {post : Dat → Prop} (hp : ∀ b : Bool, (b = true ↔ IsDeal c r D) → post (.bl b)) (h : ¬ IsDeal c r D) : post (.bl false) := hp false ⟨fun z => (by cases z), fun z => absurd z h⟩
theorem sh_pair (q : Int × Int) : Sh 1 (dPair q) (.tuple ([q.1, q.2].map .int)) := sh_tI [q.1, q.2]
theorem pair_py {q p : Int × Int} (h : PyData.tuple ([q.1, q.2].map .int) = .tuple ([p.1, p.2].map .int)) : q = p := by
  injection h with h
  have := py_int_inj h
  simp at this
  exact Prod.ext this.1 this.2
theorem c_is_dealing (T : Top K mg) : Cal P w K mg base 3 "is_dealing" (spD K sp_is_dealing) := by
  refine calD T d_is_dealing 8 7 sc_is_dealing (fun ds post h => len_is_dealing h) (fun cdv A outer s H E hr => ⟨_, (xss_cons (xs_if (xt_cmp op_ne od_ne (xe_len T.m_len (xa_cons (xv 1) xa_nil)) (xe_pieces T.pc (xv 0))) (xss_one (xs_ret xbl)) xss_nil)
      (xss_cons (xs_newP 2 sc_is_dealing.nd)
      (xss_cons (xs_for (vs := [3]) rfl (xi_rng1 T.m_range (xa_cons (xe_pieces T.pc (xv 0)) xa_nil)) (xg_name 3 sc_is_dealing.nd) (xss_cons (xs_set (i := 4) sc_is_dealing.nd (xe_ix ix_list od_ixL (xv 1) (xv 3)))
      (xss_one (xs_if (xt_cmp op_notN od_notN (xv 4) xnon) (xss_cons (xs_putP 2 (room1 hr) (xv 4) (xe_op op_add od_I (xe_getP 2 (room1 hr) (xv 4) xint) xint))
      (xss_one (xs_if (xw_t (xw_or (xt_cmp (op_notInD (room65 hr)) od_notInD (xv 4) (xe_c (c_held_pairs T) hr (xa_cons (xv 0) (xa_cons (xv 3) xa_nil)))) (xw_or1 (xt_cmp op_gt od_B (xe_ixP 2 (room1 hr) (xv 4)) (xe_c (c_pair_room T) hr (xa_cons (xv 0) (xa_cons (xv 4) xa_nil))))))) (xss_one (xs_ret xbl)) xss_nil))) xss_nil))))
      (xss_one (xs_ret xbl))))), fun ds post h => ?_⟩)
    (fun _ _ _ _ _ _ us hl => match us, hl with | [_, _], _ => rfl)
  obtain ⟨c, r, D, rfl, ok, hp⟩ := h
  have hpc := ok.p1
  walk_at "rd"
  by_cases hl : D.length = r.length
  · rw [if_neg (by simp [hl])]
    refine ⟨by omega, by omega, ?_⟩
    refine ⟨fun k δ => ∃ used s3 s4, δ = [Sl.d (.pool c r), Sl.d (prs D), Sl.oP used, s3, s4] ∧ (∀ q, (lookP used q).getD (.int 0) = .int ((D.take k).count (some q) : Nat)) ∧ used.length ≤ k ∧
      (∀ (i : Nat) q, i < k → D[i]? = some (some q) → Held c r i q) ∧ ∀ q, ((D.take k).count (some q) : Int) ≤ room c q ∨ (D.take k).count (some q) = 0, ⟨[], _, _, rfl, fun q => rfl, Nat.zero_le _, fun _ _ h => absurd h (Nat.not_lt_zero _), fun q => .inr rfl⟩, fun k x δ' hk ⟨used, s3, s4, e, h1, h2, h3, h4⟩ => ?_, fun δ' ⟨used, s3, s4, e, h1, h2, h3, h4⟩ => ?_⟩
    · subst e
      obtain ⟨hk, rfl⟩ := rngD_at hk
      obtain ⟨o, ho⟩ : ∃ o, D[k]? = some o := ⟨_, List.getElem?_eq_getElem (by omega)⟩
      have et := take_succ_of ho
      walk_at "rd"
      rw [ho]
      walk_at "rd"
      cases o with
      | none =>
        walk_at "rd"
        refine ⟨fun q => ?_, by omega, fun i q hi hq => ?_, fun q => ?_⟩
        · rw [et, List.count_append, h1]
          simp
        · by_cases e : i = k
          · subst e
            rw [ho] at hq
            cases hq
          · exact h3 i q (by omega) hq
        · rw [et, List.count_append]
          simpa using h4 q
      | some q =>
        obtain ⟨a, b⟩ := q
        walk_at "rd"
        rw [h1]
        walk_at "rd"
        obtain ⟨row, hrow⟩ : ∃ row, r[k]? = some row := ⟨_, List.getElem?_eq_getElem (by omega)⟩
        refine ⟨by omega, c, r, k, row, rfl, ok, hrow, fun ps hps hpl => ?_⟩
        refine dInD_sh (f := dPair) (g := fun q => .tuple ([q.1, q.2].map .int)) (sh_pair (a, b)) (fun y _ => sh_pair y) (by decide) fun bb hbb => ?_
        have hbb2 : bb = true ↔ HeldR c row (a, b) := by
          rw [hbb]
          constructor
          · rintro ⟨y, hy, e⟩
            rw [← pair_py e]
            exact (hps y).mp hy
          · intro z
            exact ⟨(a, b), (hps _).mpr z, rfl⟩
        walk_at "rd"
        by_cases hb : bb = true
        · rw [if_neg (by simp [hb])]
          have hh := hbb2.mp hb
          rw [lookP_put, if_pos rfl]
          walk_at "rd"
          have hm := List.mem_of_getElem? hrow
          refine ⟨c, r, (a, b), rfl, ok.rng row hm a hh.1, ok.rng row hm b hh.2.1, ?_⟩
          walk_at "rd"
          have hc1 : (D.take (k + 1)).count (some (a, b)) = (D.take k).count (some (a, b)) + 1 := by
            rw [et, List.count_append]
            simp
          have hc2 : ∀ q, q ≠ (a, b) → (D.take (k + 1)).count (some q) = (D.take k).count (some q) := fun q hq => by
            have z : List.count (some q) [some (a, b)] = 0 := List.count_eq_zero.mpr (by simpa using hq)
            rw [et, List.count_append, z, Nat.add_zero]
          by_cases hgt : room c (a, b) < ((D.take k).count (some (a, b)) : Int) + 1
          · rw [if_pos hgt]
            refine isd_false hp fun z => ?_
            have z1 := z.full (a, b) (mem_pairs.mpr (List.mem_of_getElem? ho))
            have z2 := count_take_le D (k + 1) (some (a, b))
            omega
          · rw [if_neg hgt]
            refine ⟨fun q => ?_, Nat.le_trans putP_len (by omega), fun i q hi hq => ?_, fun q => ?_⟩
            · rw [lookP_put]
              by_cases e : q = (a, b)
              · subst e
                rw [if_pos rfl, hc1]
                show Dat.int _ = Dat.int _
                congr 1
              · rw [if_neg e, h1, hc2 q e]
            · by_cases e : i = k
              · subst e
                rw [ho] at hq
                cases hq
                exact ⟨row, hrow, hh⟩
              · exact h3 i q (by omega) hq
            · by_cases e : q = (a, b)
              · subst e
                left
                omega
              · rw [hc2 q e]
                exact h4 q
        · rw [if_pos (by simp [hb])]
          refine isd_false hp fun z => ?_
          obtain ⟨row', e1, e2⟩ := z.held k (a, b) ho
          rw [hrow] at e1
          cases e1
          exact hb (hbb2.mpr e2)
    · refine hp true ⟨fun _ => ⟨hl, fun i q hq => h3 i q ?_ hq, fun q hq => ?_⟩, fun _ => rfl⟩
      · have := (List.getElem?_eq_some_iff.mp hq).1
        omega
      · have z := h4 q
        rw [List.take_of_length_le (by omega)] at z
        have := List.count_pos_iff.mpr (mem_pairs.mp hq)
        omega
  · rw [if_pos (by simp; omega)]
    exact isd_false hp fun z => hl z.len
def sp_pieces_on (ds : List Dat) (post : List ((Int × Int) × List Dat) → Prop) : Prop := ∃ D : Deal, ds = [prs D] ∧ D.length ≤ 64 ∧ ∀ kvs, PO 64 D kvs → post kvs
theorem len_pieces_on {ds : List Dat} {post : List ((Int × Int) × List Dat) → Prop} (h : sp_pieces_on ds post) : ds.length = 1 := by
  obtain ⟨_, rfl, _⟩ := h
  rfl
theorem c_pieces_on (T : Top K mg) : Cal P w K mg base 1 "pieces_on" (spDM K sp_pieces_on) := by
  refine calDM T d_pieces_on 9 8 sc_pieces_on (fun ds post h => len_pieces_on h) (fun cdv A outer s H E hr => ⟨_, (xss_cons (xs_newL 1 sc_pieces_on.nd)
      (xss_cons (xs_for (vs := [2, 3]) rfl (xi_enum T.m_enumerate (xa_cons (xv 0) xa_nil)) (xg_tup (n := 2) rfl (xgs_cons (xg_name 2 sc_pieces_on.nd) (xgs_cons (xg_name 3 sc_pieces_on.nd) xgs_nil))) (xss_one (xs_if (xt_cmp op_notN od_notN (xv 3) xnon) (xss_one (xs_setd 1 (room1 hr) (xv 3) (xv 2))) xss_nil)))
      (xss_one (xs_retM 1)))), fun ds post h => ?_⟩)
    (fun _ _ _ _ _ _ us hl => match us, hl with | [_], _ => rfl)
  obtain ⟨D, rfl, hl, hp⟩ := h
  walk_at "rd"
  refine ⟨fun k δ => ∃ kvs s2 s3, δ = [Sl.d (prs D), Sl.oL kvs, s2, s3] ∧ ∃ E : Deal, E.length = D.length ∧ (∀ i, i < k → E[i]? = D[i]?) ∧ (∀ i, k ≤ i → i < D.length → E[i]? = some Option.none) ∧ PO k E kvs, ?_, fun k x δ' hk hI => ?_, fun δ' hI => ?_⟩
  · refine ⟨[], _, _, rfl, List.replicate D.length Option.none, by simp, fun i hi => absurd hi (Nat.not_lt_zero _), fun i _ hi => by rw [List.getElem?_replicate, if_pos hi], ⟨fun q => ⟨[], rfl, by simp, fun x => ?_⟩, Nat.zero_le _, fun e he => by cases he⟩⟩
    constructor
    · intro h
      cases h
    · rintro ⟨i, _, hi⟩
      rw [List.getElem?_replicate] at hi
      split at hi <;> cases hi
  · obtain ⟨kvs, s2, s3, rfl, E, h1, h2, h3, h4⟩ := hI
    obtain ⟨o, ho, rfl⟩ := enum_at hk
    have hkl := (List.getElem?_eq_some_iff.mp ho).1
    walk_at "rd"
    cases o with
    | none =>
      walk_at "rd"
      refine ⟨E, h1, fun i hi => ?_, fun i hi hl => h3 i (by omega) hl, h4.at_, Nat.le_succ_of_le h4.sz.1, fun e he => Nat.le_succ_of_le (h4.sz.2 e he)⟩
      by_cases e : i = k
      · subst e
        rw [ho, h3 i (Nat.le_refl _) hkl]
      · exact h2 i (by omega)
    | some q =>
      obtain ⟨a, b⟩ := q
      walk_at "rd"
      refine ⟨by have := h4.sz.1; omega, fun e he => by have := h4.sz.2 e he; omega, E.set k (some (a, b)), by rw [List.length_set, h1], fun i hi => ?_, fun i hi hl => ?_, h4.put (h3 k (Nat.le_refl _) hkl)⟩
      · by_cases e : k = i
        · subst e
          rw [List.getElem?_set_self (by omega), ho]
        · rw [List.getElem?_set_ne e]
          exact h2 i (by omega)
      · rw [List.getElem?_set_ne (by omega)]
        exact h3 i (by omega) hl
  · obtain ⟨kvs, s2, s3, rfl, E, h1, h2, h3, h4⟩ := hI
    walk_at "rd"
    have e : E = D := List.ext_getElem? fun i => by
      by_cases hi : i < D.length
      · exact h2 i (by simpa using hi)
      · rw [List.getElem?_eq_none (by omega), List.getElem?_eq_none (by omega)]
    subst e
    refine hp kvs ⟨h4.at_, ?_, ?_⟩
    · have := h4.sz.1
      omega
    · intro e he
      have := h4.sz.2 e he
      omega
end
end Pw
set_option Elab.async false
set_option linter.all false
set_option maxRecDepth 100000
set_option maxHeartbeats 1000000
namespace Pw
open PySem PySem.Spec L2
/-- the reading of the data, unfolded -/
local macro_rules | `(tactic| walk_at "rd") => `(tactic| simp only [dRet, dRetN, dRetO, dRetM, dRetG, dSeq, dIf, dNext, dNever, dDrop, dAsg, dAsgN, dApp, dFrz, dFrzI, dTest, dB, dYes, dOp, dOpN, dC, dVar, dCall, dCallN, dCons, dNil, dTup, dLst, dAnd, dOr, dNot, dAndV, dOrV, dNotV, dIfE, dIsi, d2I, d2B, d2C, dIxL, dIxT, dIxS, dLen, d2Min, d2Max, dAbs, dInt, dTupOf, dListOf, dCaps, dHold, dSeats, dPieces, dIsN, dNotN, dNotB, dIn, dSorted, dSortedT, dMinB, dLenSet, dEnum, dgN, dgTup, dgCons, dgNil, dItL, dItT, dRng1, dRng2, dCat, dRep, dCatT, dSl, dNoP, dP1, dRev, dCntN, dListR, dListI,
  dIxO, dLenO, dThaw, dSetO, dAugO, dAug, dInI, dPutI, dIxI, dGetF, dAsgP, dAsgL, dGetP, dIxP, dPutP, dSetM, dSetd, dCRO, dLenGet, dOF, dSetF, dSetX, dIfNN, dCallG, dCallMt, dMtR, dCRN, dMkN, dMkP, dIsP, dFor, dForI, dLc, dLc2, dDc, dWhile, endsOf, endsN, endsM, endsG, startD, startR, startG, wipeD, isSc,
  List.map_cons, List.map_nil, List.cons_append, List.nil_append, List.append_nil, List.length_cons, List.length_nil, Nat.reduceAdd, Nat.reduceSub, List.replicate_succ, List.replicate_zero, List.getElem?_cons_zero, List.getElem?_cons_succ, List.set_cons_zero, List.set_cons_succ, Option.getD_some,
  Option.some.injEq, Sl.d.injEq, Sl.ol.injEq, Sl.oI.injEq, Sl.oP.injEq, Sl.oL.injEq, Sl.rd.injEq, Sl.oN.injEq, Sl.rN.injEq, Dat.int.injEq, Dat.bl.injEq, Dat.lst.injEq, Dat.tup.injEq, Dat.pool.injEq, Dat.scr.injEq, Dat.dI.injEq, Dat.dP.injEq, List.cons.injEq, map_int_inj, reduceCtorEq, exists_eq_left', exists_eq_left, exists_eq_right, exists_and_left, exists_const, and_true, true_and, and_false, false_and, or_false, false_or, exists_false, if_true, if_false, ite_true, ite_false, Bool.false_eq_true, and_assoc, and_self, decide_eq_true_eq, exists_prop, true_or, or_true, or_self, List.length_map, Nat.reduceLeDiff, Nat.reduceLT, atI_z, atI_1, atI_map, Option.map_some, Option.map_none, atI_nat', Int.toNat_natCast, Int.zero_add, rngD_len, enumD_len, isN_pr, Option.isNone_some, Option.isNone_none, isN_non, isN_int, isN_lst, isN_tup, isN_pool, pr_none, pr_some, List.getElem?_map, lsts_inj, isN_vB, vB_some, vB_none, kvB_len, rowB_len, clean_d, clean_no, clean_nil, Bool.not_true, Bool.not_false, fP1, fP2, fP3, fP4, lkA, lkP2, fG1, fG2, fG3, fG4, fG5, fG6, fG7, lkG1, lkG2, lkG3, lkG4, lkG5])
local macro_rules | `(tactic| walk_at "rs") => `(tactic| simp only [dRet, dRetN, dRetO, dRetM, dRetG, dSeq, dIf, dNext, dNever, dDrop, dAsg, dAsgN, dApp, dFrz, dFrzI, dTest, dB, dYes, dOp, dOpN, dC, dVar, dCall, dCallN, dCons, dNil, dTup, dLst, dAnd, dOr, dNot, dAndV, dOrV, dNotV, dIfE, dIsi, d2I, d2B, d2C, dIxL, dIxT, dIxS, dLen, d2Min, d2Max, dAbs, dInt, dTupOf, dListOf, dCaps, dHold, dSeats, dPieces, dIsN, dNotN, dNotB, dIn, dSorted, dSortedT, dMinB, dLenSet, dEnum, dgN, dgTup, dgCons, dgNil, dItL, dItT, dRng1, dRng2, dCat, dRep, dCatT, dSl, dNoP, dP1, dRev, dCntN, dListR, dListI,
  dIxO, dLenO, dThaw, dSetO, dAugO, dAug, dInI, dPutI, dIxI, dGetF, dAsgP, dAsgL, dGetP, dIxP, dPutP, dSetM, dSetd, dCRO, dLenGet, dOF, dSetF, dSetX, dIfNN, dCallG, dCallMt, dMtR, dCRN, dMkN, dMkP, dIsP, endsOf, endsN, endsM, endsG, startD, startR, startG, wipeD, isSc,
  List.map_cons, List.map_nil, List.cons_append, List.nil_append, List.append_nil, List.length_cons, List.length_nil, Nat.reduceAdd, Nat.reduceSub, List.replicate_succ, List.replicate_zero, List.getElem?_cons_zero, List.getElem?_cons_succ, List.set_cons_zero, List.set_cons_succ, Option.getD_some,
  Option.some.injEq, Sl.d.injEq, Sl.ol.injEq, Sl.oI.injEq, Sl.oP.injEq, Sl.oL.injEq, Sl.rd.injEq, Sl.oN.injEq, Sl.rN.injEq, Dat.int.injEq, Dat.bl.injEq, Dat.lst.injEq, Dat.tup.injEq, Dat.pool.injEq, Dat.scr.injEq, Dat.dI.injEq, Dat.dP.injEq, List.cons.injEq, map_int_inj, reduceCtorEq, exists_eq_left', exists_eq_left, exists_eq_right, exists_and_left, exists_const, and_true, true_and, and_false, false_and, or_false, false_or, exists_false, if_true, if_false, ite_true, ite_false, Bool.false_eq_true, and_assoc, and_self, decide_eq_true_eq, exists_prop, true_or, or_true, or_self, List.length_map, Nat.reduceLeDiff, Nat.reduceLT, atI_z, atI_1, atI_map, Option.map_some, Option.map_none, atI_nat', Int.toNat_natCast, Int.zero_add, rngD_len, enumD_len, isN_pr, Option.isNone_some, Option.isNone_none, isN_non, isN_int, isN_lst, isN_tup, isN_pool, pr_none, pr_some, List.getElem?_map, lsts_inj, isN_vB, vB_some, vB_none, kvB_len, rowB_len, clean_d, clean_no, clean_nil, Bool.not_true, Bool.not_false, fP1, fP2, fP3, fP4, lkA, lkP2, fG1, fG2, fG3, fG4, fG5, fG6, fG7, lkG1, lkG2, lkG3, lkG4, lkG5])
section
variable {P : Program} {w : World} {K : PySem.W.Frag} {mg : Str → Option Value} {base : Heap}
/-! Walks. -/
def sp_free_pair (ds : List Dat) (post : Dat → Prop) : Prop := ∃ c r kvs n D p row, ds = [.pool c r, .dP (lsts kvs), .int (p : Nat)] ∧ PoolOk c r ∧ PO n D kvs ∧ r[p]? = some row ∧
  (∀ q, HeldR c row q → (D.count (some q) : Int) < room c q → post (dPair q)) ∧ ((∀ q, HeldR c row q → room c q ≤ (D.count (some q) : Int)) → post .non)
theorem len_free_pair {ds : List Dat} {post : Dat → Prop} (h : sp_free_pair ds post) : ds.length = 3 := by
  obtain ⟨_, _, _, _, _, _, _, rfl, _⟩ := h
  rfl
theorem heldR_rng {c : List Int} {r : List (List Int)} (ok : PoolOk c r) {row : List Int} (hm : row ∈ r) {q : Int × Int} (h : HeldR c row q) : (0 ≤ q.1 ∧ q.1 < (c.length : Int)) ∧ 0 ≤ q.2 ∧ q.2 < (c.length : Int) := ⟨ok.rng row hm _ h.1, ok.rng row hm _ h.2.1⟩
theorem c_free_pair (T : Top K mg) : Cal P w K mg base 3 "free_pair" (spR K 1 sp_free_pair) := by
  refine calDR T d_free_pair 11 10 1 sc_free_pair (fun ds post h => len_free_pair h) (fun cdv A outer s H E hr => ⟨_, (xss_cons (xs_for (vs := [3]) rfl (xi_list (xe_c (c_held_pairs T) hr (xa_cons (xv 0) (xa_cons (xv 2) xa_nil)))) (xg_name 3 sc_free_pair.nd) (xss_one (xs_if (xt_cmp op_lt od_B (xe_lenGet 1 (room1 hr) T.m_len (xv 3)) (xe_c (c_pair_room T) hr (xa_cons (xv 0) (xa_cons (xv 3) xa_nil)))) (xss_one (xs_ret (xv 3))) xss_nil)))
      (xss_one (xs_ret xnon))), fun ds post h => ?_⟩)
    (fun _ _ _ _ _ _ us hl => match us, hl with | [_, _, _], _ => rfl)
  obtain ⟨c, r, kvs, n, D, p, row, rfl, ok, po, hrow, h1, h2⟩ := h
  walk_at "rd"
  refine ⟨c, r, p, row, rfl, ok, hrow, fun ps hps _ => ?_⟩
  walk_at "rd"
  refine ⟨fun k δ => ∃ s3, δ = [Sl.d (.pool c r), Sl.rd (.dP (lsts kvs)), Sl.d (.int (p : Nat)), s3] ∧ ∀ i q, i < k → ps[i]? = some q → room c q ≤ (D.count (some q) : Int), ⟨_, rfl, fun i q hi => absurd hi (Nat.not_lt_zero _)⟩, fun k x δ' hk hI => ?_, fun δ' hI => ?_⟩
  · obtain ⟨s3, rfl, hI⟩ := hI
    obtain ⟨⟨a, b⟩, hq, rfl⟩ := map_at hk
    have hh := (hps _).mp (List.mem_of_getElem? hq)
    have hb := heldR_rng ok (List.mem_of_getElem? hrow) hh
    walk_at "rd"
    refine ⟨c, r, (a, b), rfl, hb.1, hb.2, ?_⟩
    walk_at "rd"
    rw [po.len]
    by_cases hlt : (D.count (some (a, b)) : Int) < room c (a, b)
    · rw [if_pos hlt]
      exact h1 _ hh hlt
    · rw [if_neg hlt]
      intro i q hi hq2
      by_cases e : i = k
      · subst e
        rw [hq] at hq2
        cases hq2
        omega
      · exact hI i q (by omega) hq2
  · obtain ⟨s3, rfl, hI⟩ := hI
    refine h2 fun q hq => ?_
    obtain ⟨i, hi⟩ := List.mem_iff_getElem?.mp ((hps q).mpr hq)
    exact hI i q (List.getElem?_eq_some_iff.mp hi).1 hi
def sp_walk_back (ds : List Dat) (post : Dat → Prop) : Prop := ∃ c r D lk B p q, ds = [prs D, .dI (kvB B), .int (p : Nat), dPair q] ∧ D.length ≤ 16 ∧ IsDeal c r D ∧ FI c r D lk B ∧ p ∈ keysB B ∧ Held c r p q ∧ (D.count (some q) : Int) < room c q ∧ ∀ W, GW c r D W → post (.lst (W.map dStep))
theorem len_walk_back {ds : List Dat} {post : Dat → Prop} (h : sp_walk_back ds post) : ds.length = 4 := by
  obtain ⟨_, _, _, _, _, _, _, rfl, _⟩ := h
  rfl
theorem c_walk_back (T : Top K mg) : Cal P w K mg base 1 "walk_back" (spD K sp_walk_back) := by
  refine calD T d_walk_back 12 11 sc_walk_back (fun ds post h => len_walk_back h) (fun cdv A outer s H E hr => ⟨_, (xss_cons (xs_setN (i := 4) sc_walk_back.nd (xn_lst (xa_cons (xe_tup (xa_cons (xv 2) (xa_cons (xv 3) xa_nil))) xa_nil)))
      (xss_cons (xs_while (xt_cmp op_notN od_notN (xe_ixI (room1 hr) (xv 1) (xv 2)) xnon) (xss_cons (xs_app 4 (xe_tup (xa_cons (xe_ixI (room1 hr) (xv 1) (xv 2)) (xa_cons (xe_ix ix_list od_ixL (xv 0) (xv 2)) xa_nil))))
      (xss_one (xs_set (i := 2) sc_walk_back.nd (xe_ixI (room1 hr) (xv 1) (xv 2))))))
      (xss_frz 4 (xss_one (xs_retN (xn_rev (xv 4))))))), fun ds post h => ?_⟩)
    (fun _ _ _ _ _ _ us hl => match us, hl with | [_, _, _, _], _ => rfl)
  obtain ⟨c, r, D, lk, B, p, q, rfl, hl, hD, hB, hp, hq, hf, hW⟩ := h
  have hBl := hB.len
  have hDl := hD.len
  walk_at "rd"
  obtain ⟨j0, v0, w0⟩ := WB.start hD hB hp hq
  refine ⟨fun m δ => ∃ S p j v, δ = [Sl.d (prs D), Sl.d (.dI (kvB B)), Sl.d (.int (p : Nat)), Sl.d (dPair q), Sl.ol (S.map dStep)] ∧ WB c r D B q S p j v ∧ m = j ∧ S.length + j ≤ B.length, ⟨j0, [(p, q)], p, j0, v0, rfl, w0, rfl, ?_⟩, fun m δ' hI => ?_⟩
  · have := (List.getElem?_eq_some_iff.mp w0.at_).1
    show 1 + j0 ≤ _
    omega
  · obtain ⟨S, p, j, v, rfl, w, rfl, hs⟩ := hI
    walk_at "rd"
    rw [lookI_kvB hB.nd w.at_]
    walk_at "rd"
    cases v with
    | none =>
      walk_at "rd"
      have := hW _ (w.done hD hB hf)
      rw [List.map_reverse] at this
      exact this
    | some p' =>
      obtain ⟨q1, j', v', h1, h2, w'⟩ := w.step hD hB
      have hjl := (List.getElem?_eq_some_iff.mp w'.at_).1
      walk_at "rd"
      rw [h1]
      walk_at "rd"
      exact ⟨by omega, j', h2, S ++ [(p', q1)], p', rfl, by rw [List.map_append]; rfl, j', v', w', rfl, by rw [List.length_append]; show S.length + 1 + j' ≤ _; omega⟩
def sp_forest (ds : List Dat) (post : Dat → Prop) : Prop := ∃ c r kvs n D rs, ds = [.pool c r, .dP (lsts kvs), .lst ((rs : List Nat).map fun (i : Nat) => Dat.int (i : Int))] ∧ PoolOk c r ∧ PO n D kvs ∧ D.length = r.length ∧ rs.Nodup ∧ (∀ i : Nat, i ∈ rs ↔ D[i]? = some Option.none) ∧
  ∀ B, FI c r D B.length B → post (.dI (kvB B))
theorem len_forest {ds : List Dat} {post : Dat → Prop} (h : sp_forest ds post) : ds.length = 3 := by
  obtain ⟨_, _, _, _, _, _, rfl, _⟩ := h
  rfl
theorem keys_new (rs : List Nat) : keysB (rs.map fun i => (i, Option.none)) = rs := by
  unfold keysB
  rw [List.map_map]
  exact List.map_id rs
theorem c_forest (T : Top K mg) : Cal P w K mg base 3 "forest" (spD K sp_forest) := by
  refine calD T d_forest 10 9 sc_forest (fun ds post h => len_forest h) (fun cdv A outer s H E hr => ⟨_, (xss_cons (xs_setDc (i := 3) (own := [("root", 9)]) rfl sc_forest.nd (xi_list (xv 2)) (blkOk_by (own := [("root", 9)]) (N := N_forest) (sc := defScope s_forest) (by decide +kernel)) (fun _ _ _ _ _ => xg_name 9 sc_forest.nd) (fun _ _ _ _ _ => xts_nil) (fun _ _ _ _ _ => xv 9) (fun _ _ _ _ _ => xnon))
      (xss_cons (xs_setN (i := 4) sc_forest.nd (xn_listI 3 rfl T.m_list))
      (xss_cons (xs_set (i := 5) sc_forest.nd xint)
      (xss_cons (xs_while (xt_cmp op_lt od_B (xv 5) (xe_lenO 4 T.m_len)) (xss_cons (xs_set (i := 6) sc_forest.nd (xe_ixO 4 (xv 5)))
      (xss_cons (xs_for (vs := [7]) rfl (xi_list (xe_c (c_held_pairs T) hr (xa_cons (xv 0) (xa_cons (xv 6) xa_nil)))) (xg_name 7 sc_forest.nd) (xss_one (xs_for (vs := [8]) rfl (xi_list (xe_getF (room1 hr) (xv 1) (xv 7) (xe_new (xn_lst xa_nil)))) (xg_name 8 sc_forest.nd) (xss_one (xs_if (xt_notInI 3 (room1 hr) (xv 8)) (xss_cons (xs_putI 3 (room1 hr) (xv 8) (xv 6))
      (xss_one (xs_app 4 (xv 8)))) xss_nil)))))
      (xss_one (xs_aug (i := 5) sc_forest.nd xint)))))
      (xss_frzI 3 (xss_one (xs_ret (xv 3)))))))), fun ds post h => ?_⟩)
    (fun _ _ _ _ _ _ us hl => match us, hl with | [_, _, _], _ => rfl)
  obtain ⟨c, r, kvs, n, D, rs, rfl, ok, po, hl, hnd, hrs, hp⟩ := h
  have hpl := ok.p1
  have hrl : rs.length ≤ r.length := by
    have := lenSub (ms := List.range r.length) hnd fun i hi => List.mem_range.mpr (by have := (List.getElem?_eq_some_iff.mp ((hrs i).mp hi)).1; omega)
    rwa [List.length_range] at this
  walk_at "rd"
  refine ⟨fun k acc => acc = kvB ((rs.take k).map fun i => (i, Option.none)), rfl, fun k x acc hk e => ?_, fun acc e => ?_⟩
  · obtain ⟨i, hi, rfl⟩ := map_at hk
    have hkl := (List.getElem?_eq_some_iff.mp hi).1
    have et := take_succ_of hi
    refine ⟨i, rfl, ?_, ?_⟩
    · rw [e, kvB_len]
      simp
      omega
    · show putI acc (i : Int) .non = kvB ((rs.take (k + 1)).map fun i => (i, Option.none))
      rw [e, putI_new, et]
      · unfold kvB
        rw [List.map_append, List.map_append]
        rfl
      · have := lookI_kvB_none (k := i) (B := (rs.take k).map fun i => (i, Option.none))
        rw [keys_new, decide_eq_false] at this
        · simpa using this
        · intro z
          obtain ⟨j, hj⟩ := List.mem_iff_getElem?.mp z
          have hjk : j < k := by
            have := (List.getElem?_eq_some_iff.mp hj).1
            simp at this
            omega
          rw [List.getElem?_take_of_lt hjk] at hj
          have := (List.getElem?_inj (List.getElem?_eq_some_iff.mp hj).1 hnd).mp (hj.trans hi.symm)
          omega
  · replace e : acc = kvB ((rs.take rs.length).map fun i => (i, Option.none)) := e
    rw [List.take_length] at e
    subst e
    have F0 : FI c r D 0 (rs.map fun i => (i, Option.none)) := by
      refine ⟨by rw [keys_new]; exact hnd, fun k hk => ?_, fun i hi => by rw [keys_new]; exact (hrs i).mpr hi, fun j k p hj => ?_, fun k hk => ?_, fun j k v hj => absurd hj (Nat.not_lt_zero _)⟩
      · obtain ⟨i, hi, e⟩ := List.mem_map.mp hk
        cases e
        exact (hrs _).mp hi
      · rw [List.getElem?_map] at hj
        obtain ⟨i, _, e⟩ := Option.map_eq_some_iff.mp hj
        cases e
      · rw [keys_new] at hk
        have := (List.getElem?_eq_some_iff.mp ((hrs k).mp hk)).1
        omega
    obtain ⟨I, hI⟩ : ∃ I : Nat → List Sl → Prop, ∀ m δ, I m δ ↔ ∃ B lk s6 s7 s8 s9, δ = [Sl.d (.pool c r), Sl.d (.dP (lsts kvs)), Sl.d (.lst (rs.map fun (i : Nat) => Dat.int (i : Int))), Sl.oI (kvB B), Sl.ol (rowB B), Sl.d (.int ((lk : Nat) : Int)), s6, s7, s8, s9] ∧ FI c r D lk B ∧ lk ≤ B.length ∧ m = r.length - lk := ⟨_, fun _ _ => Iff.rfl⟩
    refine ⟨I, ⟨_, (hI _ _).mpr ⟨_, 0, .no, .no, .no, .no, ?_, F0, Nat.zero_le _, rfl⟩⟩, fun m δ' h => ?_⟩
    · have e : (kvB (rs.map fun i => (i, Option.none))).map (fun q => Dat.int q.1) = rowB (rs.map fun i => (i, Option.none)) := by
        unfold kvB rowB
        rw [List.map_map]
        rfl
      rw [e]
      rfl
    · obtain ⟨B, lk, s6, s7, s8, s9, rfl, F, hlk, rfl⟩ := (hI _ _).mp h
      have hBl := F.len
      walk_at "rd"
      by_cases hlt : (lk : Int) < (B.length : Int)
      · rw [if_pos hlt]
        obtain ⟨⟨p, v⟩, hpv⟩ : ∃ e, B[lk]? = some e := ⟨_, List.getElem?_eq_getElem (by omega)⟩
        rw [rowB_at hpv]
        walk_at "rd"
        have hpk := at_keys hpv
        have hpr := F.rng p hpk
        obtain ⟨row, hrow⟩ : ∃ row, r[p]? = some row := ⟨_, List.getElem?_eq_getElem hpr⟩
        refine ⟨c, r, p, row, rfl, ok, hrow, fun ps hps _ => ?_⟩
        walk_at "rd"
        have hheld : ∀ q ∈ ps, Held c r p q := fun q hq => ⟨row, hrow, (hps q).mp hq⟩
        obtain ⟨J, hJ⟩ : ∃ J : Nat → List Sl → Prop, ∀ k δ, J k δ ↔ ∃ B' s7 s8 s9, δ = [Sl.d (.pool c r), Sl.d (.dP (lsts kvs)), Sl.d (.lst (rs.map fun (i : Nat) => Dat.int (i : Int))), Sl.oI (kvB B'), Sl.ol (rowB B'), Sl.d (.int ((lk : Nat) : Int)), Sl.d (.int ((p : Nat) : Int)), s7, s8, s9] ∧ FI c r D lk B' ∧ lk < B'.length ∧ B'[lk]? = some (p, v) ∧ (∀ (k' : Nat) q, k' < k → ps[k']? = some q → ∀ i : Nat, D[i]? = some (some q) → i ∈ keysB B') := ⟨_, fun _ _ => Iff.rfl⟩
        refine ⟨J, (hJ _ _).mpr ⟨B, _, _, _, rfl, F, by omega, hpv, fun k' q hk' => absurd hk' (Nat.not_lt_zero _)⟩, fun k x δ' hk h => ?_, fun δ' h => ?_⟩
        · obtain ⟨B', t7, t8, t9, rfl, F', hlk', hpv', hcl⟩ := (hJ _ _).mp h
          obtain ⟨⟨a, b⟩, hq, rfl⟩ := map_at hk
          have hhq := hheld _ (List.mem_of_getElem? hq)
          obtain ⟨L, g1, g2, g3⟩ := po.at_ (a, b)
          walk_at "rd"
          rw [lookP_lsts]
          have e : ((lookP kvs (a, b)).map Dat.lst).getD (.lst []) = .lst (L.map .int) := by
            rw [← g1]
            cases lookP kvs (a, b) <;> rfl
          rw [e]
          walk_at "rd"
          obtain ⟨M, hM⟩ : ∃ M : Nat → List Sl → Prop, ∀ t δ, M t δ ↔ ∃ B' s8 s9, δ = [Sl.d (.pool c r), Sl.d (.dP (lsts kvs)), Sl.d (.lst (rs.map fun (i : Nat) => Dat.int (i : Int))), Sl.oI (kvB B'), Sl.ol (rowB B'), Sl.d (.int ((lk : Nat) : Int)), Sl.d (.int ((p : Nat) : Int)), Sl.d (dPair (a, b)), s8, s9] ∧ FI c r D lk B' ∧ lk < B'.length ∧ B'[lk]? = some (p, v) ∧ (∀ (k' : Nat) q, k' < k → ps[k']? = some q → ∀ i : Nat, D[i]? = some (some q) → i ∈ keysB B') ∧ ∀ (t' : Nat) x, t' < t → L[t']? = some x → ∃ i : Nat, x = (i : Int) ∧ i ∈ keysB B' := ⟨_, fun _ _ => Iff.rfl⟩
          refine ⟨M, (hM _ _).mpr ⟨B', _, _, rfl, F', hlk', hpv', hcl, fun t' x ht => absurd ht (Nat.not_lt_zero _)⟩, fun t x δ' ht h => ?_, fun δ' h => ?_⟩
          · obtain ⟨B2, u8, u9, rfl, F2, hlk2, hpv2, hcl2, hL2⟩ := (hM _ _).mp h
            obtain ⟨y, hy, rfl⟩ := map_at ht
            obtain ⟨i, rfl, hi⟩ := (g3 y).mp (List.mem_of_getElem? hy)
            have hir : i < r.length := by
              have := (List.getElem?_eq_some_iff.mp hi).1
              omega
            have hB2l := F2.len
            walk_at "rd"
            rw [lookI_kvB_none]
            by_cases hik : i ∈ keysB B2
            · rw [decide_eq_true hik]
              walk_at "rd"
              refine (hM _ _).mpr ⟨B2, _, _, rfl, F2, hlk2, hpv2, hcl2, fun t' x ht' hx => ?_⟩
              by_cases e : t' = t
              · subst e
                rw [hy] at hx
                cases hx
                exact ⟨i, rfl, hik⟩
              · exact hL2 t' x (by omega) hx
            · rw [decide_eq_false hik]
              walk_at "rd"
              have hsub : ∀ x, x ∈ keysB B2 → x ∈ keysB (B2 ++ [(i, some p)]) := fun x hx => by
                unfold keysB
                rw [List.map_append]
                exact List.mem_append_left _ hx
              rw [kvB_add hik, rowB_add (p := p)]
              refine ⟨by omega, by omega, (hM _ _).mpr ⟨B2 ++ [(i, some p)], _, _, rfl, F2.add (at_keys hpv2) hi hhq hik hir (by omega), by rw [List.length_append]; omega, by rw [List.getElem?_append_left hlk2]; exact hpv2, fun k' q hk' hq' j hj => hsub _ (hcl2 k' q hk' hq' j hj), fun t' x ht' hx => ?_⟩⟩
              by_cases e : t' = t
              · subst e
                rw [hy] at hx
                cases hx
                refine ⟨i, rfl, ?_⟩
                unfold keysB
                rw [List.map_append]
                simp
              · obtain ⟨j, e2, hj⟩ := hL2 t' x (by omega) hx
                exact ⟨j, e2, hsub _ hj⟩
          · obtain ⟨B2, u8, u9, rfl, F2, hlk2, hpv2, hcl2, hL2⟩ := (hM _ _).mp h
            refine (hJ _ _).mpr ⟨B2, _, _, _, rfl, F2, hlk2, hpv2, fun k' q hk' hq' i hi => ?_⟩
            by_cases e : k' = k
            · subst e
              rw [hq] at hq'
              cases hq'
              obtain ⟨t', ht'⟩ := List.mem_iff_getElem?.mp ((g3 (i : Int)).mpr ⟨i, rfl, hi⟩)
              obtain ⟨j, e2, hj⟩ := hL2 t' _ (List.getElem?_eq_some_iff.mp ht').1 ht'
              have : i = j := by omega
              rw [this]
              exact hj
            · exact hcl2 k' q (by omega) hq' i hi
        · obtain ⟨B', t7, t8, t9, rfl, F', hlk', hpv', hcl⟩ := (hJ _ _).mp h
          have hB'l := F'.len
          walk_at "rd"
          refine ⟨r.length - (lk + 1), by omega, (hI _ _).mpr ⟨B', lk + 1, _, _, _, _, rfl, ⟨F'.nd, F'.rt, F'.all0, F'.stp, F'.rng, fun j k v' hj hB q hq i hi => ?_⟩, by omega, rfl⟩⟩
          by_cases e : j = lk
          · subst e
            rw [hpv'] at hB
            cases hB
            obtain ⟨row', e1, e2⟩ := hq
            rw [hrow] at e1
            cases e1
            obtain ⟨k', hk'⟩ := List.mem_iff_getElem?.mp ((hps q).mpr e2)
            exact hcl k' q (List.getElem?_eq_some_iff.mp hk').1 hk' i hi
          · exact F'.cl j k v' (by omega) hB q hq i hi
      · rw [if_neg hlt]
        have e : lk = B.length := by omega
        subst e
        exact hp B F
end
end Pw
set_option Elab.async false
set_option linter.all false
set_option maxRecDepth 100000
set_option maxHeartbeats 1000000
namespace Pw
open PySem PySem.Spec L2
/-- the reading of the data, unfolded -/
local macro_rules | `(tactic| walk_at "rd") => `(tactic| simp only [dRet, dRetN, dRetO, dRetM, dRetG, dSeq, dIf, dNext, dNever, dDrop, dAsg, dAsgN, dApp, dFrz, dFrzI, dTest, dB, dYes, dOp, dOpN, dC, dVar, dCall, dCallN, dCons, dNil, dTup, dLst, dAnd, dOr, dNot, dAndV, dOrV, dNotV, dIfE, dIsi, d2I, d2B, d2C, dIxL, dIxT, dIxS, dLen, d2Min, d2Max, dAbs, dInt, dTupOf, dListOf, dCaps, dHold, dSeats, dPieces, dIsN, dNotN, dNotB, dIn, dSorted, dSortedT, dMinB, dLenSet, dEnum, dgN, dgTup, dgCons, dgNil, dItL, dItT, dRng1, dRng2, dCat, dRep, dCatT, dSl, dNoP, dP1, dRev, dCntN, dListR, dListI,
  dIxO, dLenO, dThaw, dSetO, dAugO, dAug, dInI, dPutI, dIxI, dGetF, dAsgP, dAsgL, dGetP, dIxP, dPutP, dSetM, dSetd, dCRO, dLenGet, dOF, dSetF, dSetX, dIfNN, dCallG, dCallMt, dMtR, dCRN, dMkN, dMkP, dIsP, dFor, dForI, dLc, dLc2, dDc, dWhile, endsOf, endsN, endsM, endsG, startD, startR, startG, wipeD, isSc,
  List.map_cons, List.map_nil, List.cons_append, List.nil_append, List.append_nil, List.length_cons, List.length_nil, Nat.reduceAdd, Nat.reduceSub, List.replicate_succ, List.replicate_zero, List.getElem?_cons_zero, List.getElem?_cons_succ, List.set_cons_zero, List.set_cons_succ, Option.getD_some,
  Option.some.injEq, Sl.d.injEq, Sl.ol.injEq, Sl.oI.injEq, Sl.oP.injEq, Sl.oL.injEq, Sl.rd.injEq, Sl.oN.injEq, Sl.rN.injEq, Dat.int.injEq, Dat.bl.injEq, Dat.lst.injEq, Dat.tup.injEq, Dat.pool.injEq, Dat.scr.injEq, Dat.dI.injEq, Dat.dP.injEq, List.cons.injEq, map_int_inj, reduceCtorEq, exists_eq_left', exists_eq_left, exists_eq_right, exists_and_left, exists_const, and_true, true_and, and_false, false_and, or_false, false_or, exists_false, if_true, if_false, ite_true, ite_false, Bool.false_eq_true, and_assoc, and_self, decide_eq_true_eq, exists_prop, true_or, or_true, or_self, List.length_map, Nat.reduceLeDiff, Nat.reduceLT, atI_z, atI_1, atI_map, Option.map_some, Option.map_none, atI_nat', Int.toNat_natCast, Int.zero_add, rngD_len, enumD_len, isN_pr, Option.isNone_some, Option.isNone_none, isN_non, isN_int, isN_lst, isN_tup, isN_pool, pr_none, pr_some, List.getElem?_map, lsts_inj, isN_vB, vB_some, vB_none, kvB_len, rowB_len, clean_d, clean_no, clean_nil, Bool.not_true, Bool.not_false, fP1, fP2, fP3, fP4, lkA, lkP2, fG1, fG2, fG3, fG4, fG5, fG6, fG7, lkG1, lkG2, lkG3, lkG4, lkG5])
local macro_rules | `(tactic| walk_at "rs") => `(tactic| simp only [dRet, dRetN, dRetO, dRetM, dRetG, dSeq, dIf, dNext, dNever, dDrop, dAsg, dAsgN, dApp, dFrz, dFrzI, dTest, dB, dYes, dOp, dOpN, dC, dVar, dCall, dCallN, dCons, dNil, dTup, dLst, dAnd, dOr, dNot, dAndV, dOrV, dNotV, dIfE, dIsi, d2I, d2B, d2C, dIxL, dIxT, dIxS, dLen, d2Min, d2Max, dAbs, dInt, dTupOf, dListOf, dCaps, dHold, dSeats, dPieces, dIsN, dNotN, dNotB, dIn, dSorted, dSortedT, dMinB, dLenSet, dEnum, dgN, dgTup, dgCons, dgNil, dItL, dItT, dRng1, dRng2, dCat, dRep, dCatT, dSl, dNoP, dP1, dRev, dCntN, dListR, dListI,
  dIxO, dLenO, dThaw, dSetO, dAugO, dAug, dInI, dPutI, dIxI, dGetF, dAsgP, dAsgL, dGetP, dIxP, dPutP, dSetM, dSetd, dCRO, dLenGet, dOF, dSetF, dSetX, dIfNN, dCallG, dCallMt, dMtR, dCRN, dMkN, dMkP, dIsP, endsOf, endsN, endsM, endsG, startD, startR, startG, wipeD, isSc,
  List.map_cons, List.map_nil, List.cons_append, List.nil_append, List.append_nil, List.length_cons, List.length_nil, Nat.reduceAdd, Nat.reduceSub, List.replicate_succ, List.replicate_zero, List.getElem?_cons_zero, List.getElem?_cons_succ, List.set_cons_zero, List.set_cons_succ, Option.getD_some,
  Option.some.injEq, Sl.d.injEq, Sl.ol.injEq, Sl.oI.injEq, Sl.oP.injEq, Sl.oL.injEq, Sl.rd.injEq, Sl.oN.injEq, Sl.rN.injEq, Dat.int.injEq, Dat.bl.injEq, Dat.lst.injEq, Dat.tup.injEq, Dat.pool.injEq, Dat.scr.injEq, Dat.dI.injEq, Dat.dP.injEq, List.cons.injEq, map_int_inj, reduceCtorEq, exists_eq_left', exists_eq_left, exists_eq_right, exists_and_left, exists_const, and_true, true_and, and_false, false_and, or_false, false_or, exists_false, if_true, if_false, ite_true, ite_false, Bool.false_eq_true, and_assoc, and_self, decide_eq_true_eq, exists_prop, true_or, or_true, or_self, List.length_map, Nat.reduceLeDiff, Nat.reduceLT, atI_z, atI_1, atI_map, Option.map_some, Option.map_none, atI_nat', Int.toNat_natCast, Int.zero_add, rngD_len, enumD_len, isN_pr, Option.isNone_some, Option.isNone_none, isN_non, isN_int, isN_lst, isN_tup, isN_pool, pr_none, pr_some, List.getElem?_map, lsts_inj, isN_vB, vB_some, vB_none, kvB_len, rowB_len, clean_d, clean_no, clean_nil, Bool.not_true, Bool.not_false, fP1, fP2, fP3, fP4, lkA, lkP2, fG1, fG2, fG3, fG4, fG5, fG6, fG7, lkG1, lkG2, lkG3, lkG4, lkG5])
section
variable {P : Program} {w : World} {K : PySem.W.Frag} {mg : Str → Option Value} {base : Heap}
/-! Greatest dealings. -/
def sp_find_walk (ds : List Dat) (post : Dat → Prop) : Prop := ∃ c r D, ds = [.pool c r, prs D, .non] ∧ PoolOk c r ∧ IsDeal c r D ∧ (∀ W, GW c r D W → post (.lst (W.map dStep))) ∧ (Greatest c r D → post .non)
theorem len_find_walk {ds : List Dat} {post : Dat → Prop} (h : sp_find_walk ds post) : ds.length = 3 := by
  obtain ⟨_, _, _, rfl, _⟩ := h
  rfl
theorem c_find_walk (T : Top K mg) : C8.Cal P w K mg base 4 "find_walk" (spD K sp_find_walk) [.non] := by
  refine calD1 T d_find_walk 13 12 "pieces" sc_find_walk (fun ds post h => len_find_walk h) (fun cdv A outer s H E hr => ⟨_, (xss_cons (xs_setLc (i := 3) (own := [("piece", 6), ("pair", 7)]) rfl sc_find_walk.nd (xi_enum T.m_enumerate (xa_cons (xv 1) xa_nil)) (blkOk_by (own := [("piece", 6), ("pair", 7)]) (N := N_find_walk) (sc := defScope s_find_walk) (by decide +kernel)) (fun _ _ _ _ _ => (xg_tup (n := 2) rfl (xgs_cons (xg_name 6 sc_find_walk.nd) (xgs_cons (xg_name 7 sc_find_walk.nd) xgs_nil)))) (fun _ _ _ _ _ => (xts_one (xw_t (xw_and (xt_cmp op_isN od_isN (xv 7) xnon) (xw_and1 (xw_t (xw_or (xt_cmp op_isN od_isN (xv 2) xnon) (xw_or1 (xt_cmp op_in_seq od_in (xv 6) (xv 2)))))))))) (fun _ _ _ _ _ => (xv 6)))
      (xss_cons (xs_set (i := 4) sc_find_walk.nd (xe_cM (c_pieces_on T) hr (xa_cons (xv 1) xa_nil)))
      (xss_cons (xs_set (i := 5) sc_find_walk.nd (xe_c (c_forest T) hr (xa_cons (xv 0) (xa_cons (xv 4) (xa_cons (xv 3) xa_nil)))))
      (xss_cons (xs_forI 5 (vs := [6]) rfl (xg_name 6 sc_find_walk.nd) (xss_cons (xs_set (i := 7) sc_find_walk.nd (xe_cR (c_free_pair T) hr (xa_cons (xv 0) (xa_cons (xv 4) (xa_cons (xv 6) xa_nil)))))
      (xss_one (xs_if (xt_cmp op_notN od_notN (xv 7) xnon) (xss_one (xs_ret (xe_c (c_walk_back T) hr (xa_cons (xv 1) (xa_cons (xv 5) (xa_cons (xv 6) (xa_cons (xv 7) xa_nil))))))) xss_nil))))
      (xss_one (xs_ret xnon)))))), fun ds post h => ?_⟩)
    (fun F => let ⟨ds, r, b⟩ := FunD.binds0 F 2 (by simp) rfl (fun D doc pm an cdv ct us ks l1 l2 => match us, ks, l1, l2 with | [_, _], [_], _, _ => ⟨_, _, _, _, _, _, rfl, rfl, (by unfold KwChain; rfl)⟩); ⟨ds, b, r⟩)
  obtain ⟨c, r, D, rfl, ok, hD, h1, h2⟩ := h
  walk_at "rs"
  have hl := hD.len
  have hpl := ok.p1
  have e0 : enumD (D.map pr) = (List.range D.length).map fun (k : Nat) => Dat.tup [.int (k : Int), (((D.map pr)[k]?).getD .non)] := by
    unfold enumD
    rw [List.length_map]
  refine dLc_go (List.range D.length) (fun (k : Nat) => Dat.tup [.int (k : Int), (((D.map pr)[k]?).getD .non)]) (fun k => D[k]? == some Option.none) (fun (k : Nat) => .int (k : Int)) (by rw [List.length_range]; omega) (fun Q h => ?_) (fun k hk Y N h1 h2 => ?_) ?_
  · walk_at "rs"
    rw [e0]
    exact h
  · obtain ⟨o, ho⟩ : ∃ o, D[k]? = some o := ⟨_, List.getElem?_eq_getElem (List.mem_range.mp hk)⟩
    walk_at "rs"
    rw [ho]
    walk_at "rs"
    cases o with
    | none =>
      walk_at "rs"
      exact h1 (by simp [ho])
    | some q =>
      walk_at "rs"
      exact h2 (by simp [ho])
  · let rs := (List.range D.length).filter fun k => D[k]? == some Option.none
    have hrs : ∀ i : Nat, i ∈ rs ↔ D[i]? = some Option.none := fun i => by
      show i ∈ List.filter _ _ ↔ _
      rw [List.mem_filter, List.mem_range]
      constructor
      · intro h
        simpa using h.2
      · intro h
        exact ⟨(List.getElem?_eq_some_iff.mp h).1, by simp [h]⟩
    refine ⟨D, rfl, by omega, fun kvs hk => ⟨c, r, kvs, 64, D, rs, rfl, ok, hk, hl, List.nodup_range.filter _, hrs, fun B hB => ?_⟩⟩
    have hBl := hB.len
    walk_at "rd"
    obtain ⟨I, hI⟩ : ∃ I : Nat → List Sl → Prop, ∀ m δ, I m δ ↔ ∃ s6 s7, δ = [Sl.d (.pool c r), Sl.d (prs D), Sl.d .non, Sl.d (.lst (rs.map fun (i : Nat) => Dat.int (i : Int))), Sl.d (.dP (lsts kvs)), Sl.d (.dI (kvB B)), s6, s7] ∧ Clean [s6, s7] ∧ ∀ (j k : Nat) v, j < m → B[j]? = some (k, v) → ∀ q, Held c r k q → room c q ≤ (D.count (some q) : Int) := ⟨_, fun _ _ => Iff.rfl⟩
    refine ⟨I, (hI _ _).mpr ⟨_, _, rfl, by walk_at "rd", fun j k v hj => absurd hj (Nat.not_lt_zero _)⟩, fun k x δ' hk2 h => ?_, fun δ' h => ?_⟩
    · obtain ⟨s6, s7, rfl, hc, hd⟩ := (hI _ _).mp h
      obtain ⟨⟨p, v⟩, hpv, rfl⟩ : ∃ e, B[k]? = some e ∧ x = ((e.1 : Int), vB e.2) := by
        unfold kvB at hk2
        rw [List.getElem?_map] at hk2
        obtain ⟨e, h1, h2⟩ := Option.map_eq_some_iff.mp hk2
        exact ⟨e, h1, h2.symm⟩
      have hpk := at_keys hpv
      obtain ⟨row, hrow⟩ : ∃ row, r[p]? = some row := ⟨_, List.getElem?_eq_getElem (hB.rng p hpk)⟩
      walk_at "rd"
      refine ⟨c, r, kvs, 64, D, p, row, rfl, ok, hk, hrow, fun q hq hlt => ?_, fun hall => ?_⟩
      · walk_at "rd"
        exact ⟨c, r, D, _, B, p, q, rfl, by omega, hD, hB, hpk, ⟨row, hrow, hq⟩, hlt, h1⟩
      · walk_at "rd"
        refine (hI _ _).mpr ⟨_, _, rfl, by walk_at "rd", fun j k' v' hj hb q hq => ?_⟩
        by_cases e : j = k
        · subst e
          rw [hpv] at hb
          cases hb
          obtain ⟨row', e1, e2⟩ := hq
          rw [hrow] at e1
          cases e1
          exact hall q e2
        · exact hd j k' v' (by omega) hb q hq
    · obtain ⟨s6, s7, rfl, hc, hd⟩ := (hI _ _).mp h
      refine ⟨by walk_at "rd"; exact hc, h2 ?_⟩
      refine greatest_of hD (fun k => decide (k ∈ keysB B)) (fun i hi => decide_eq_true (hB.all0 i hi)) (fun k hk q hq i hi => ?_) fun k hk q hq => ?_
      · obtain ⟨j, v, hj⟩ := keys_at (of_decide_eq_true hk)
        exact decide_eq_true (hB.cl j k v (List.getElem?_eq_some_iff.mp hj).1 hj q hq i hi)
      · obtain ⟨j, v, hj⟩ := keys_at (of_decide_eq_true hk)
        exact hd j k v (List.getElem?_eq_some_iff.mp hj).1 hj q hq
def sp_take_walk (ds : List Dat) (post : Dat → Prop) : Prop := ∃ (D : Deal) (W : List (Nat × (Int × Int))), ds = [prs D, .lst (W.map dStep)] ∧ D.length ≤ 64 ∧ (∀ s ∈ W, s.1 < D.length) ∧ post (prs (applyW D W))
theorem len_take_walk {ds : List Dat} {post : Dat → Prop} (h : sp_take_walk ds post) : ds.length = 2 := by
  obtain ⟨_, _, rfl, _⟩ := h
  rfl
theorem c_take_walk (T : Top K mg) : Cal P w K mg base 1 "take_walk" (spD K sp_take_walk) := by
  refine calD T d_take_walk 14 13 sc_take_walk (fun ds post h => len_take_walk h) (fun cdv A outer s H E hr => ⟨_, (xss_cons (xs_setN (i := 2) sc_take_walk.nd (xn_callT call_list_of cn_listOf T.m_list (xa_cons (xv 0) xa_nil)))
      (xss_cons (xs_for (vs := [3, 4]) rfl (xi_list (xv 1)) (xg_tup (n := 2) rfl (xgs_cons (xg_name 3 sc_take_walk.nd) (xgs_cons (xg_name 4 sc_take_walk.nd) xgs_nil))) (xss_one (xs_setO 2 (xv 3) (xv 4))))
      (xss_one (xs_retO 2)))), fun ds post h => ?_⟩)
    (fun _ _ _ _ _ _ us hl => match us, hl with | [_, _], _ => rfl)
  obtain ⟨D, W, rfl, hl, hW, hp⟩ := h
  walk_at "rd"
  obtain ⟨I, hI⟩ : ∃ I : Nat → List Sl → Prop, ∀ m δ, I m δ ↔ ∃ s3 s4, δ = [Sl.d (prs D), Sl.d (.lst (W.map dStep)), Sl.ol ((applyW D (W.take m)).map pr), s3, s4] := ⟨_, fun _ _ => Iff.rfl⟩
  refine ⟨I, (hI _ _).mpr ⟨_, _, rfl⟩, fun k x δ' hk h => ?_, fun δ' h => ?_⟩
  · obtain ⟨s3, s4, rfl⟩ := (hI _ _).mp h
    obtain ⟨⟨p, q⟩, hs, rfl⟩ := map_at hk
    have hp2 := hW _ (List.mem_of_getElem? hs)
    walk_at "rd"
    have e : applyW D (W.take (k + 1)) = (applyW D (W.take k)).set p (some q) := by
      rw [take_succ_of hs]
      unfold applyW
      rw [List.foldl_append]
      rfl
    rw [ixN_of (by omega) (by rw [applyW_len]; exact Int.ofNat_lt.mpr hp2), Int.toNat_natCast]
    walk_at "rd"
    rw [map_set_pr, ← e]
    exact (hI _ _).mpr ⟨_, _, rfl⟩
  · obtain ⟨s3, s4, rfl⟩ := (hI _ _).mp h
    walk_at "rd"
    rw [List.take_length]
    exact hp
def sp_first_fit (ds : List Dat) (post : Dat → Prop) : Prop := ∃ c r D, ds = [.pool c r, prs D] ∧ PoolOk c r ∧ IsDeal c r D ∧ ∀ D', IsDeal c r D' → post (prs D')
theorem len_first_fit {ds : List Dat} {post : Dat → Prop} (h : sp_first_fit ds post) : ds.length = 2 := by
  obtain ⟨_, _, _, rfl, _⟩ := h
  rfl
theorem c_first_fit (T : Top K mg) : Cal P w K mg base 4 "first_fit" (spD K sp_first_fit) := by
  refine calD T d_first_fit 15 14 sc_first_fit (fun ds post h => len_first_fit h) (fun cdv A outer s H E hr => ⟨_, (xss_cons (xs_setN (i := 2) sc_first_fit.nd (xn_callT call_list_of cn_listOf T.m_list (xa_cons (xv 1) xa_nil)))
      (xss_cons (xs_setM (i := 3) sc_first_fit.nd (c_pieces_on T) hr (xa_cons (xv 1) xa_nil))
      (xss_cons (xs_for (vs := [4]) rfl (xi_rng1 T.m_range (xa_cons (xe_pieces T.pc (xv 0)) xa_nil)) (xg_name 4 sc_first_fit.nd) (xss_cons (xs_set (i := 5) sc_first_fit.nd (xe_cRO 0 3 4 (c_free_pair T) hr (pv 0) (pv 3) (pv 4)))
      (xss_one (xs_if (xw_t (xw_and (xt_cmp op_isN od_isN (xe_ixO 2 (xv 4)) xnon) (xw_and1 (xt_cmp op_notN od_notN (xv 5) xnon)))) (xss_cons (xs_setO 2 (xv 4) (xv 5))
      (xss_one (xs_setd 3 (room1 hr) (xv 5) (xv 4)))) xss_nil))))
      (xss_one (xs_retO 2))))), fun ds post h => ?_⟩)
    (fun _ _ _ _ _ _ us hl => match us, hl with | [_, _], _ => rfl)
  obtain ⟨c, r, D, rfl, ok, hD, hp⟩ := h
  have hl := hD.len
  have hpl := ok.p1
  walk_at "rd"
  refine ⟨D, rfl, by omega, fun kvs hk => ⟨by omega, by omega, ?_⟩⟩
  obtain ⟨I, hI⟩ : ∃ I : Nat → List Sl → Prop, ∀ m δ, I m δ ↔ ∃ D' kvs s4 s5, δ = [Sl.d (.pool c r), Sl.d (prs D), Sl.ol (D'.map pr), Sl.oL kvs, s4, s5] ∧ IsDeal c r D' ∧ PO (64 + m) D' kvs := ⟨_, fun _ _ => Iff.rfl⟩
  refine ⟨I, (hI _ _).mpr ⟨D, kvs, _, _, rfl, hD, hk⟩, fun k x δ' hk h => ?_, fun δ' h => ?_⟩
  · obtain ⟨D', kvs, s4, s5, rfl, hD', hpo⟩ := (hI _ _).mp h
    obtain ⟨hkl, rfl⟩ := rngD_at hk
    have hl' := hD'.len
    obtain ⟨o, ho⟩ : ∃ o, D'[k]? = some o := ⟨_, List.getElem?_eq_getElem (by omega)⟩
    obtain ⟨row, hrow⟩ : ∃ row, r[k]? = some row := ⟨_, List.getElem?_eq_getElem hkl⟩
    have hmore : PO (64 + (k + 1)) D' kvs := ⟨hpo.at_, Nat.le_succ_of_le hpo.sz.1, fun e he => Nat.le_succ_of_le (hpo.sz.2 e he)⟩
    walk_at "rd"
    rw [ho]
    refine ⟨c, r, kvs, _, D', k, row, rfl, ok, hpo, hrow, fun q hq hlt => ?_, fun _ => ?_⟩
    · obtain ⟨a, b⟩ := q
      walk_at "rd"
      cases o with
      | some q' =>
        walk_at "rd"
        exact (hI _ _).mpr ⟨D', kvs, _, _, rfl, hD', hmore⟩
      | none =>
        walk_at "rd"
        rw [ixN_of (by omega) (by omega), Int.toNat_natCast]
        walk_at "rd"
        rw [map_set_pr (q := (a, b))]
        exact ⟨by have := hpo.sz.1; omega, fun e he => by have := hpo.sz.2 e he; omega, (hI _ _).mpr ⟨D'.set k (some (a, b)), _, _, _, rfl, hD'.put ho ⟨row, hrow, hq⟩ hlt, hpo.put ho⟩⟩
    · walk_at "rd"
      cases o with
      | some q' =>
        walk_at "rd"
        exact (hI _ _).mpr ⟨D', kvs, _, _, rfl, hD', hmore⟩
      | none =>
        walk_at "rd"
        exact (hI _ _).mpr ⟨D', kvs, _, _, rfl, hD', hmore⟩
  · obtain ⟨D', kvs, s4, s5, rfl, hD', hpo⟩ := (hI _ _).mp h
    walk_at "rd"
    exact hp D' hD'
def sp_greatest_dealing (ds : List Dat) (post : Dat → Prop) : Prop := ∃ c r, ds = [.pool c r, .non] ∧ PoolOk c r ∧ ∀ D, IsDeal c r D → Greatest c r D → post (prs D)
theorem len_greatest_dealing {ds : List Dat} {post : Dat → Prop} (h : sp_greatest_dealing ds post) : ds.length = 2 := by
  obtain ⟨_, _, rfl, _⟩ := h
  rfl
theorem c_greatest_dealing (T : Top K mg) : C8.Cal P w K mg base 5 "greatest_dealing" (spD K sp_greatest_dealing) [.non] := by
  refine calD1 T d_greatest_dealing 16 15 "start" sc_greatest_dealing (fun ds post h => len_greatest_dealing h) (fun cdv A outer s H E hr => ⟨_, (xss_cons (xs_set (i := 2) sc_greatest_dealing.nd (xe_new (xn_op op_rep on_rep (xe_new (xn_lst (xa_cons xnon xa_nil))) (xe_pieces T.pc (xv 0)))))
      (xss_cons (xs_if (xt_cmp op_notN od_notN (xv 1) xnon) (xss_one (xs_set (i := 2) sc_greatest_dealing.nd (xe_new (xn_callT call_list_of cn_listOf T.m_list (xa_cons (xv 1) xa_nil))))) xss_nil)
      (xss_cons (xs_if (xt_not (xt_val (xe_c (c_is_dealing T) hr (xa_cons (xv 0) (xa_cons (xv 2) xa_nil))))) (xss_one xs_never) xss_nil)
      (xss_cons (xs_set (i := 3) sc_greatest_dealing.nd (xe_c (c_first_fit T) hr (xa_cons (xv 0) (xa_cons (xv 2) xa_nil))))
      (xss_cons (xs_set (i := 4) sc_greatest_dealing.nd (xe_c1 (c_find_walk T) hr (xa_cons (xv 0) (xa_cons (xv 3) xa_nil))))
      (xss_cons (xs_while (xt_cmp op_notN od_notN (xv 4) xnon) (xss_cons (xs_set (i := 3) sc_greatest_dealing.nd (xe_c (c_take_walk T) hr (xa_cons (xv 3) (xa_cons (xv 4) xa_nil))))
      (xss_one (xs_set (i := 4) sc_greatest_dealing.nd (xe_c1 (c_find_walk T) hr (xa_cons (xv 0) (xa_cons (xv 3) xa_nil)))))))
      (xss_one (xs_ret (xv 3))))))))), fun ds post h => ?_⟩)
    (fun F => let ⟨ds, r, b⟩ := FunD.binds0 F 1 (by simp) rfl (fun D doc pm an cdv ct us ks l1 l2 => match us, ks, l1, l2 with | [_], [_], _, _ => ⟨_, _, _, _, _, _, rfl, rfl, (by unfold KwChain; rfl)⟩); ⟨ds, b, r⟩)
  obtain ⟨c, r, rfl, ok, hp⟩ := h
  have hpl := ok.p1
  walk_at "rd"
  refine ⟨by omega, by omega, ?_⟩
  have e0 : Dat.lst (List.replicate r.length Dat.non) = prs (List.replicate r.length Option.none) := by
    show _ = Dat.lst ((List.replicate r.length Option.none).map pr)
    rw [List.map_replicate]
    rfl
  rw [e0]
  refine ⟨c, r, _, rfl, ok, fun b hb => ?_⟩
  have : b = true := hb.mpr isDeal_none
  subst this
  walk_at "rd"
  refine ⟨c, r, _, rfl, ok, isDeal_none, fun D hD => ?_⟩
  obtain ⟨I, hI⟩ : ∃ I : Nat → List Sl → Prop, ∀ m δ, I m δ ↔ ∃ D wd, δ = [Sl.d (.pool c r), Sl.d .non, Sl.d (prs (List.replicate r.length Option.none)), Sl.d (prs D), Sl.d wd] ∧ IsDeal c r D ∧ m = D.count Option.none ∧ ((wd = .non ∧ Greatest c r D) ∨ ∃ W, wd = .lst (W.map dStep) ∧ GW c r D W) := ⟨_, fun _ _ => Iff.rfl⟩
  refine ⟨c, r, D, rfl, ok, hD, fun W hW => ?_, fun hG => ?_⟩
  all_goals
    refine ⟨I, ⟨_, (hI _ _).mpr ⟨D, _, rfl, hD, rfl, by first | exact .inr ⟨W, rfl, hW⟩ | exact .inl ⟨rfl, hG⟩⟩⟩, fun m δ' h => ?_⟩
    obtain ⟨D, wd, rfl, hD, rfl, hw⟩ := (hI _ _).mp h
    rcases hw with ⟨rfl, hG⟩ | ⟨W, rfl, hW⟩
    · walk_at "rd"
      exact hp D hD hG
    · walk_at "rd"
      refine ⟨D, W, rfl, by have := hD.len; omega, hW.rng, ⟨c, r, _, rfl, ok, hW.deal, fun W2 hW2 => ?_, fun hG2 => ?_⟩⟩
      · exact ⟨_, hW.less, (hI _ _).mpr ⟨_, _, rfl, hW.deal, rfl, .inr ⟨W2, rfl, hW2⟩⟩⟩
      · exact ⟨_, hW.less, (hI _ _).mpr ⟨_, _, rfl, hW.deal, rfl, .inl ⟨rfl, hG2⟩⟩⟩
def sp_most_dealt (ds : List Dat) (post : Dat → Prop) : Prop := ∃ c r, ds = [.pool c r] ∧ PoolOk c r ∧ ∀ D, IsDeal c r D → Greatest c r D → post (.int ((r.length : Int) - (D.count Option.none : Nat)))
theorem len_most_dealt {ds : List Dat} {post : Dat → Prop} (h : sp_most_dealt ds post) : ds.length = 1 := by
  obtain ⟨_, _, rfl, _⟩ := h
  rfl
theorem c_most_dealt (T : Top K mg) : Cal P w K mg base 6 "most_dealt" (spD K sp_most_dealt) := by
  refine calD T d_most_dealt 17 16 sc_most_dealt (fun ds post h => len_most_dealt h) (fun cdv A outer s H E hr => ⟨_, (xss_one (xs_ret (xe_op op_sub od_I (xe_pieces T.pc (xv 0)) (xe_countN hr.units (xe_c1 (c_greatest_dealing T) hr (xa_cons (xv 0) xa_nil)))))), fun ds post h => ?_⟩)
    (fun _ _ _ _ _ _ us hl => match us, hl with | [_], _ => rfl)
  obtain ⟨c, r, rfl, ok, hp⟩ := h
  walk_at "rd"
  refine ⟨c, r, rfl, ok, fun D hD hG => ?_⟩
  exact ⟨D, rfl, hp D hD hG⟩
def sp_is_safe (ds : List Dat) (post : Dat → Prop) : Prop := ∃ c r, ds = [.pool c r] ∧ PoolOk c r ∧ ∀ b, post (.bl b)
theorem len_is_safe {ds : List Dat} {post : Dat → Prop} (h : sp_is_safe ds post) : ds.length = 1 := by
  obtain ⟨_, _, rfl, _⟩ := h
  rfl
theorem c_is_safe (T : Top K mg) : Cal P w K mg base 7 "is_safe" (spD K sp_is_safe) := by
  refine calD T d_is_safe 18 17 sc_is_safe (fun ds post h => len_is_safe h) (fun cdv A outer s H E hr => ⟨_, (xss_one (xs_ret (xe_cmp op_eq od_eq (xe_c (c_most_dealt T) hr (xa_cons (xv 0) xa_nil)) (xe_pieces T.pc (xv 0))))), fun ds post h => ?_⟩)
    (fun _ _ _ _ _ _ us hl => match us, hl with | [_], _ => rfl)
  obtain ⟨c, r, rfl, ok, hp⟩ := h
  walk_at "rd"
  refine ⟨c, r, rfl, ok, fun D hD hG => ?_⟩
  walk_at "rd"
  exact hp _
end
end Pw
set_option Elab.async false
set_option linter.all false
set_option maxRecDepth 100000
set_option maxHeartbeats 1000000
namespace Pw
open PySem PySem.Spec L2
/-- the reading of the data, unfolded -/
local macro_rules | `(tactic| walk_at "rd") => `(tactic| simp only [dRet, dRetN, dRetO, dRetM, dRetG, dSeq, dIf, dNext, dNever, dDrop, dAsg, dAsgN, dApp, dFrz, dFrzI, dTest, dB, dYes, dOp, dOpN, dC, dVar, dCall, dCallN, dCons, dNil, dTup, dLst, dAnd, dOr, dNot, dAndV, dOrV, dNotV, dIfE, dIsi, d2I, d2B, d2C, dIxL, dIxT, dIxS, dLen, d2Min, d2Max, dAbs, dInt, dTupOf, dListOf, dCaps, dHold, dSeats, dPieces, dIsN, dNotN, dNotB, dIn, dSorted, dSortedT, dMinB, dLenSet, dEnum, dgN, dgTup, dgCons, dgNil, dItL, dItT, dRng1, dRng2, dCat, dRep, dCatT, dSl, dNoP, dP1, dRev, dCntN, dListR, dListI,
  dIxO, dLenO, dThaw, dSetO, dAugO, dAug, dInI, dPutI, dIxI, dGetF, dAsgP, dAsgL, dGetP, dIxP, dPutP, dSetM, dSetd, dCRO, dLenGet, dOF, dSetF, dSetX, dIfNN, dCallG, dCallMt, dMtR, dCRN, dMkN, dMkP, dIsP, dFor, dForI, dLc, dLc2, dDc, dWhile, endsOf, endsN, endsM, endsG, startD, startR, startG, wipeD, isSc,
  List.map_cons, List.map_nil, List.cons_append, List.nil_append, List.append_nil, List.length_cons, List.length_nil, Nat.reduceAdd, Nat.reduceSub, List.replicate_succ, List.replicate_zero, List.getElem?_cons_zero, List.getElem?_cons_succ, List.set_cons_zero, List.set_cons_succ, Option.getD_some,
  Option.some.injEq, Sl.d.injEq, Sl.ol.injEq, Sl.oI.injEq, Sl.oP.injEq, Sl.oL.injEq, Sl.rd.injEq, Sl.oN.injEq, Sl.rN.injEq, Dat.int.injEq, Dat.bl.injEq, Dat.lst.injEq, Dat.tup.injEq, Dat.pool.injEq, Dat.scr.injEq, Dat.dI.injEq, Dat.dP.injEq, List.cons.injEq, map_int_inj, reduceCtorEq, exists_eq_left', exists_eq_left, exists_eq_right, exists_and_left, exists_const, and_true, true_and, and_false, false_and, or_false, false_or, exists_false, if_true, if_false, ite_true, ite_false, Bool.false_eq_true, and_assoc, and_self, decide_eq_true_eq, exists_prop, true_or, or_true, or_self, List.length_map, Nat.reduceLeDiff, Nat.reduceLT, atI_z, atI_1, atI_map, Option.map_some, Option.map_none, atI_nat', Int.toNat_natCast, Int.zero_add, rngD_len, enumD_len, isN_pr, Option.isNone_some, Option.isNone_none, isN_non, isN_int, isN_lst, isN_tup, isN_pool, pr_none, pr_some, List.getElem?_map, lsts_inj, isN_vB, vB_some, vB_none, kvB_len, rowB_len, clean_d, clean_no, clean_nil, Bool.not_true, Bool.not_false, fP1, fP2, fP3, fP4, lkA, lkP2, fG1, fG2, fG3, fG4, fG5, fG6, fG7, lkG1, lkG2, lkG3, lkG4, lkG5])
local macro_rules | `(tactic| walk_at "rs") => `(tactic| simp only [dRet, dRetN, dRetO, dRetM, dRetG, dSeq, dIf, dNext, dNever, dDrop, dAsg, dAsgN, dApp, dFrz, dFrzI, dTest, dB, dYes, dOp, dOpN, dC, dVar, dCall, dCallN, dCons, dNil, dTup, dLst, dAnd, dOr, dNot, dAndV, dOrV, dNotV, dIfE, dIsi, d2I, d2B, d2C, dIxL, dIxT, dIxS, dLen, d2Min, d2Max, dAbs, dInt, dTupOf, dListOf, dCaps, dHold, dSeats, dPieces, dIsN, dNotN, dNotB, dIn, dSorted, dSortedT, dMinB, dLenSet, dEnum, dgN, dgTup, dgCons, dgNil, dItL, dItT, dRng1, dRng2, dCat, dRep, dCatT, dSl, dNoP, dP1, dRev, dCntN, dListR, dListI,
  dIxO, dLenO, dThaw, dSetO, dAugO, dAug, dInI, dPutI, dIxI, dGetF, dAsgP, dAsgL, dGetP, dIxP, dPutP, dSetM, dSetd, dCRO, dLenGet, dOF, dSetF, dSetX, dIfNN, dCallG, dCallMt, dMtR, dCRN, dMkN, dMkP, dIsP, endsOf, endsN, endsM, endsG, startD, startR, startG, wipeD, isSc,
  List.map_cons, List.map_nil, List.cons_append, List.nil_append, List.append_nil, List.length_cons, List.length_nil, Nat.reduceAdd, Nat.reduceSub, List.replicate_succ, List.replicate_zero, List.getElem?_cons_zero, List.getElem?_cons_succ, List.set_cons_zero, List.set_cons_succ, Option.getD_some,
  Option.some.injEq, Sl.d.injEq, Sl.ol.injEq, Sl.oI.injEq, Sl.oP.injEq, Sl.oL.injEq, Sl.rd.injEq, Sl.oN.injEq, Sl.rN.injEq, Dat.int.injEq, Dat.bl.injEq, Dat.lst.injEq, Dat.tup.injEq, Dat.pool.injEq, Dat.scr.injEq, Dat.dI.injEq, Dat.dP.injEq, List.cons.injEq, map_int_inj, reduceCtorEq, exists_eq_left', exists_eq_left, exists_eq_right, exists_and_left, exists_const, and_true, true_and, and_false, false_and, or_false, false_or, exists_false, if_true, if_false, ite_true, ite_false, Bool.false_eq_true, and_assoc, and_self, decide_eq_true_eq, exists_prop, true_or, or_true, or_self, List.length_map, Nat.reduceLeDiff, Nat.reduceLT, atI_z, atI_1, atI_map, Option.map_some, Option.map_none, atI_nat', Int.toNat_natCast, Int.zero_add, rngD_len, enumD_len, isN_pr, Option.isNone_some, Option.isNone_none, isN_non, isN_int, isN_lst, isN_tup, isN_pool, pr_none, pr_some, List.getElem?_map, lsts_inj, isN_vB, vB_some, vB_none, kvB_len, rowB_len, clean_d, clean_no, clean_nil, Bool.not_true, Bool.not_false, fP1, fP2, fP3, fP4, lkA, lkP2, fG1, fG2, fG3, fG4, fG5, fG6, fG7, lkG1, lkG2, lkG3, lkG4, lkG5])
section
variable {P : Program} {w : World} {K : PySem.W.Frag} {mg : Str → Option Value} {base : Heap}
/-! Rounds. -/
def sp_others_of (ds : List Dat) (post : Dat → Prop) : Prop := ∃ row s, ds = [tI row, .int s] ∧ row.length ≤ 64 ∧ post (tI (row.filter fun x => decide (x ≠ s)))
theorem len_others_of {ds : List Dat} {post : Dat → Prop} (h : sp_others_of ds post) : ds.length = 2 := by
  obtain ⟨_, _, rfl, _⟩ := h
  rfl
theorem c_others_of (T : Top K mg) : Cal P w K mg base 1 "others_of" (spD K sp_others_of) := by
  refine calD T d_others_of 19 18 sc_others_of (fun ds post h => len_others_of h) (fun cdv A outer s H E hr => ⟨_, (xss_one (xs_ret (xe_callT call_tuple_of cd_tupOf T.m_tuple (xa_cons (xe_new (xn_lc (own := [("other", 2)]) rfl sc_others_of.nd (xi_tup (xv 0)) (blkOk_by (own := [("other", 2)]) (N := N_others_of) (sc := defScope s_others_of) (by decide +kernel)) (fun _ _ _ _ _ => (xg_name 2 sc_others_of.nd)) (fun _ _ _ _ _ => (xts_one (xt_cmp op_ne od_ne (xv 2) (xv 1)))) (fun _ _ _ _ _ => (xv 2)))) xa_nil)))), fun ds post h => ?_⟩)
    (fun _ _ _ _ _ _ us hl => match us, hl with | [_, _], _ => rfl)
  obtain ⟨row, s, rfl, hl, hp⟩ := h
  walk_at "rs"
  refine dLc_go row .int (fun x => decide (x ≠ s)) .int (by omega) (fun Q h => ?_) (fun x hx Y N h1 h2 => ?_) ?_
  · walk_at "rs"
    exact h
  · walk_at "rs"
    by_cases e : x = s
    · rw [decide_eq_true e]
      walk_at "rs"
      exact h2 (by simp [e])
    · rw [decide_eq_false e]
      walk_at "rs"
      exact h1 (by simp [e])
  · exact hp
def sp_after_loss (ds : List Dat) (post : Dat → Prop) : Prop := ∃ c r s, ds = [.pool c r, .int s] ∧ PoolOk c r ∧ post (.pool c (lossR r s))
theorem len_after_loss {ds : List Dat} {post : Dat → Prop} (h : sp_after_loss ds post) : ds.length = 2 := by
  obtain ⟨_, _, _, rfl, _⟩ := h
  rfl
theorem c_after_loss (T : Top K mg) : Cal P w K mg base 6 "after_loss" (spD K sp_after_loss) := by
  refine calD T d_after_loss 20 19 sc_after_loss (fun ds post h => len_after_loss h) (fun cdv A outer s H E hr => ⟨_, (xss_one (xs_ret (xe_c (c_pool_with T) hr (xa_cons (xv 0) (xa_cons (xe_new (xn_lc (own := [("held", 2)]) rfl sc_after_loss.nd (xi_tup (xe_hold T.pc (xv 0))) (blkOk_by (own := [("held", 2)]) (N := N_after_loss) (sc := defScope s_after_loss) (by decide +kernel)) (fun _ _ _ _ _ => (xg_name 2 sc_after_loss.nd)) (fun _ _ _ _ _ => xts_nil) (fun _ _ _ _ _ => (xe_c (c_others_of T) hr (xa_cons (xv 2) (xa_cons (xv 1) xa_nil)))))) xa_nil))))), fun ds post h => ?_⟩)
    (fun _ _ _ _ _ _ us hl => match us, hl with | [_, _], _ => rfl)
  obtain ⟨c, r, s, rfl, ok, hp⟩ := h
  walk_at "rs"
  refine dLc_map r tI (fun row => tI (row.filter fun x => decide (x ≠ s))) (by have := ok.p1; omega) (fun Q h => ?_) (fun row hx Y h1 => ?_) ?_
  · walk_at "rs"
    exact h
  · walk_at "rs"
    exact ⟨row, s, rfl, by have := ok.rowLen hx; omega, h1⟩
  · refine ⟨c, r, lossR r s, ?_, ok.loss s, hp⟩
    unfold lossR
    rw [List.map_map]
    rfl
def sp_first_wrong (ds : List Dat) (post : Dat → Prop) : Prop := ∃ c r s S, (ds = [.pool c r, .int s, .lst ((S : Sends).map dPair)] ∨ ds = [.pool c r, .int s, .tup (S.map dPair)]) ∧ PoolOk c r ∧ Allowed c r s S ∧ post .non
theorem len_first_wrong {ds : List Dat} {post : Dat → Prop} (h : sp_first_wrong ds post) : ds.length = 3 := by
  obtain ⟨_, _, _, _, rfl | rfl, _⟩ := h <;> rfl
theorem c_first_wrong (T : Top K mg) : Cal P w K mg base 1 "first_wrong" (spD K sp_first_wrong) := by
  refine calD T d_first_wrong 21 20 sc_first_wrong (fun ds post h => len_first_wrong h) (fun cdv A outer s H E hr => ⟨_, (xss_cons (xs_setN (i := 3) sc_first_wrong.nd (xn_op op_rep on_rep (xe_new (xn_lst (xa_cons xbl xa_nil))) (xe_pieces T.pc (xv 0))))
      (xss_cons (xs_setN (i := 4) sc_first_wrong.nd (xn_op op_rep on_rep (xe_new (xn_lst (xa_cons xint xa_nil))) (xe_seats T.pc (xv 0))))
      (xss_cons (xs_for (vs := [5, 6, 7]) rfl (xi_enum T.m_enumerate (xa_cons (xv 2) xa_nil)) (xg_tup (n := 2) rfl (xgs_cons (xg_name 5 sc_first_wrong.nd) (xgs_cons (xg_tup (n := 2) rfl (xgs_cons (xg_name 6 sc_first_wrong.nd) (xgs_cons (xg_name 7 sc_first_wrong.nd) xgs_nil))) xgs_nil))) (xss_cons (xs_if (xw_t (xw_or (xt_cmp op_lt od_B (xv 6) xint) (xw_or (xt_cmp op_ge od_B (xv 6) (xe_pieces T.pc (xv 0))) (xw_or1 (xt_val (xe_ixO 3 (xv 6))))))) (xss_one (xs_ret (xv 5))) xss_nil)
      (xss_cons (xs_set (i := 8) sc_first_wrong.nd (xe_ix ix_tup od_ixT (xe_hold T.pc (xv 0)) (xv 6)))
      (xss_cons (xs_if (xw_t (xw_or (xt_cmp op_notIn_seq od_in (xv 1) (xv 8)) (xw_or (xt_cmp op_eq od_eq (xv 7) (xv 1)) (xw_or1 (xt_cmp op_notIn_seq od_in (xv 7) (xv 8)))))) (xss_one (xs_ret (xv 5))) xss_nil)
      (xss_cons (xs_if (xt_cmp op_ge od_B (xe_ixO 4 (xv 7)) (xe_ix ix_tup od_ixT (xe_caps T.pc (xv 0)) (xv 7))) (xss_one (xs_ret (xv 5))) xss_nil)
      (xss_cons (xs_setO 3 (xv 6) xbl)
      (xss_one (xs_augO 4 (xv 7) xint))))))))
      (xss_one (xs_ret xnon))))), fun ds post h => ?_⟩)
    (fun _ _ _ _ _ _ us hl => match us, hl with | [_, _, _], _ => rfl)
  obtain ⟨c, r, s, S, hds, ok, al, hp⟩ := h
  have hpl := ok.p1
  have hsl := ok.s1
  rcases hds with rfl | rfl
  all_goals
    walk_at "rd"
    refine ⟨by omega, by omega, by omega, by omega, ?_⟩
    rw [range_rep, range_rep]
    obtain ⟨I, hI⟩ : ∃ I : Nat → List Sl → Prop, ∀ m δ, I m δ ↔ ∃ s2 s5 s6 s7 s8, δ = [Sl.d (.pool c r), Sl.d (.int s), s2, Sl.ol ((List.range r.length).map fun (i : Nat) => Dat.bl (decide ((i : Int) ∈ (S.take m).map (·.1)))), Sl.ol ((List.range c.length).map fun (x : Nat) => Dat.int ((((S.take m).map (·.2)).count (x : Int) : Nat) : Int)), s5, s6, s7, s8] := ⟨_, fun _ _ => Iff.rfl⟩
    refine ⟨I, (hI _ _).mpr ⟨_, _, _, _, _, rfl⟩, fun k x δ' hk h => ?_, fun δ' h => hp⟩
    obtain ⟨s2, s5, s6, s7, s8, rfl⟩ := (hI _ _).mp h
    obtain ⟨⟨p, t⟩, hpt, rfl⟩ := enum_at hk
    obtain ⟨i, row, e1, hrow, hs, ht, hne⟩ := al.ok _ (List.mem_of_getElem? hpt)
    have e1 : p = (i : Int) := e1
    subst e1
    have hm := List.mem_of_getElem? hrow
    have hir := (List.getElem?_eq_some_iff.mp hrow).1
    have ht2 := ok.rng row hm t ht
    obtain ⟨tn, rfl⟩ : ∃ n : Nat, t = (n : Int) := ⟨t.toNat, by have := ht2.1; omega⟩
    have htn : tn < c.length := by have := ht2.2; omega
    have hnin : ¬ ((i : Int) ∈ (S.take k).map (·.1)) := fun z => by
      have hsplit : S.map (·.1) = (S.take k).map (·.1) ++ (S.drop k).map (·.1) := by rw [← List.map_append, List.take_append_drop]
      have nd := al.nd
      rw [hsplit] at nd
      have hd : (i : Int) ∈ (S.drop k).map (·.1) := List.mem_map.mpr ⟨((i : Int), (tn : Int)), List.mem_iff_getElem?.mpr ⟨0, by rw [List.getElem?_drop]; exact hpt⟩, rfl⟩
      exact (List.nodup_append.mp nd).2.2 _ z _ hd rfl
    have ecap : atI c (tn : Int) = some (capOf c (tn : Int)) := capOf_at ht2.1 ht2.2
    rw [atI_nat'] at ecap
    have es := take_succ_of hpt
    have hcnt : ((((S.take (k + 1)).map (·.2)).count (tn : Int) : Nat) : Int) ≤ capOf c (tn : Int) := by
      have h1 : ((S.take (k + 1)).map (·.2)).count (tn : Int) ≤ (S.map (·.2)).count (tn : Int) := ((List.take_sublist (k + 1) S).map _).count_le _
      have h2 := al.cap (tn : Int) (List.mem_map.mpr ⟨_, List.mem_of_getElem? hpt, rfl⟩)
      omega
    have hcs : ((S.take (k + 1)).map (·.2)).count (tn : Int) = ((S.take k).map (·.2)).count (tn : Int) + 1 := by
      rw [es, List.map_append, List.count_append]
      simp
    walk_at "rd"
    rw [if_neg (by omega), if_neg (by omega), List.getElem?_range hir]
    walk_at "rd"
    rw [if_neg hnin, hrow]
    walk_at "rd"
    rw [decide_eq_true hs]
    walk_at "rd"
    rw [if_neg (show ¬ ((tn : Int) = s) from hne)]
    rw [decide_eq_true (show (tn : Int) ∈ row from ht), List.getElem?_range htn, ecap]
    walk_at "rd"
    rw [if_neg (by omega), ixN_of (by omega) (by rw [List.length_range]; exact Int.ofNat_lt.mpr hir), Int.toNat_natCast]
    walk_at "rd"
    refine ⟨tn, rfl, by omega, ?_⟩
    rw [List.getElem?_range htn]
    walk_at "rd"
    rw [range_set (g := fun (i : Nat) => Dat.bl (decide ((i : Int) ∈ (S.take (k + 1)).map (·.1)))) ?_ hir ?_, range_set (g := fun (x : Nat) => Dat.int ((((S.take (k + 1)).map (·.2)).count (x : Int) : Nat) : Int)) ?_ htn ?_]
    · exact (hI _ _).mpr ⟨_, _, _, _, _, rfl⟩
    · intro j hj hjn
      show Dat.int _ = Dat.int _
      rw [es, List.map_append, List.count_append]
      have : List.count (j : Int) (List.map (fun x => x.snd) [((i : Int), (tn : Int))]) = 0 := by
        refine List.count_eq_zero.mpr fun z => hjn ?_
        have : (j : Int) = (tn : Int) := by simpa using z
        omega
      rw [this]
      rfl
    · show Dat.int _ = Dat.int _
      rw [hcs]
      rfl
    · intro j hj hjn
      show Dat.bl _ = Dat.bl _
      congr 1
      rw [es, List.map_append]
      have : (j : Int) ≠ (i : Int) := by omega
      simp [this]
    · show Dat.bl _ = Dat.bl _
      rw [es, List.map_append]
      simp
def sp_after_round (ds : List Dat) (post : Dat → Prop) : Prop := ∃ c r s S, (ds = [.pool c r, .int s, .lst ((S : Sends).map dPair)] ∨ ds = [.pool c r, .int s, .tup (S.map dPair)]) ∧ PoolOk c r ∧ Allowed c r s S ∧ post (.pool c (roundR r s S))
theorem len_after_round {ds : List Dat} {post : Dat → Prop} (h : sp_after_round ds post) : ds.length = 3 := by
  obtain ⟨_, _, _, _, rfl | rfl, _⟩ := h <;> rfl
theorem c_after_round (T : Top K mg) : Cal P w K mg base 7 "after_round" (spD K sp_after_round) := by
  refine calD T d_after_round 22 21 sc_after_round (fun ds post h => len_after_round h) (fun cdv A outer s H E hr => ⟨_, (xss_cons (xs_set (i := 3) sc_after_round.nd (xe_c (c_first_wrong T) hr (xa_cons (xv 0) (xa_cons (xv 1) (xa_cons (xv 2) xa_nil)))))
      (xss_cons (xs_if (xt_cmp op_notN od_notN (xv 3) xnon) (xss_one xs_never) xss_nil)
      (xss_cons (xs_setN (i := 4) sc_after_round.nd (xn_callT call_list_of cn_listOf T.m_list (xa_cons (xe_hold T.pc (xe_c (c_after_loss T) hr (xa_cons (xv 0) (xa_cons (xv 1) xa_nil)))) xa_nil)))
      (xss_cons (xs_for (vs := [5, 6]) rfl (xi_or (xi_list (xv 2)) (xi_tup (xv 2))) (xg_tup (n := 2) rfl (xgs_cons (xg_name 5 sc_after_round.nd) (xgs_cons (xg_name 6 sc_after_round.nd) xgs_nil))) (xss_one (xs_setO 4 (xv 5) (xe_callT call_tuple_of cd_tupOf T.m_tuple (xa_cons (xe_new (xn_callB (cr_or cr_sorted cr_sortedTup) (cn_or cn_sorted cn_sortedT) T.m_sorted (xa_cons (xe_op op_catA od_catT (xe_ixO 4 (xv 5)) (xe_tup (xa_cons (xv 1) xa_nil))) xa_nil))) xa_nil)))))
      (xss_frz 4 (xss_one (xs_ret (xe_c (c_pool_with T) hr (xa_cons (xv 0) (xa_cons (xv 4) xa_nil)))))))))), fun ds post h => ?_⟩)
    (fun _ _ _ _ _ _ us hl => match us, hl with | [_, _, _], _ => rfl)
  obtain ⟨c, r, s, S, hds, ok, al, hp⟩ := h
  have hpl := ok.p1
  have hsl := ok.s1
  have e0 : (lossR r s).map tI = (roundR r s (S.take 0)).map tI := by rw [List.take_zero, roundR_nil]
  rcases hds with rfl | rfl
  all_goals
    walk_at "rd"
    refine ⟨c, r, s, S, by simp, ok, al, ?_⟩
    walk_at "rd"
    refine ⟨c, r, s, rfl, ok, ?_⟩
    walk_at "rd"
    rw [e0]
    obtain ⟨I, hI⟩ : ∃ I : Nat → List Sl → Prop, ∀ m δ, I m δ ↔ ∃ s2 s3 s5 s6, δ = [Sl.d (.pool c r), Sl.d (.int s), s2, s3, Sl.ol ((roundR r s (S.take m)).map tI), s5, s6] := ⟨_, fun _ _ => Iff.rfl⟩
    refine ⟨I, (hI _ _).mpr ⟨_, _, _, _, rfl⟩, fun k x δ' hk h => ?_, fun δ' h => ?_⟩
    · obtain ⟨s2, s3, s5, s6, rfl⟩ := (hI _ _).mp h
      obtain ⟨⟨p, t⟩, hpt, rfl⟩ := map_at hk
      obtain ⟨i, row, e1, hrow, hs, ht, hne⟩ := al.ok _ (List.mem_of_getElem? hpt)
      have e1 : p = (i : Int) := e1
      subst e1
      have hm := List.mem_of_getElem? hrow
      have hir := (List.getElem?_eq_some_iff.mp hrow).1
      have hnin : ¬ ((i : Int) ∈ (S.take k).map (·.1)) := fun z => by
        have hsplit : S.map (·.1) = (S.take k).map (·.1) ++ (S.drop k).map (·.1) := by rw [← List.map_append, List.take_append_drop]
        have nd := al.nd
        rw [hsplit] at nd
        have hd : (i : Int) ∈ (S.drop k).map (·.1) := List.mem_map.mpr ⟨((i : Int), t), List.mem_iff_getElem?.mpr ⟨0, by rw [List.getElem?_drop]; exact hpt⟩, rfl⟩
        exact (List.nodup_append.mp nd).2.2 _ z _ hd rfl
      have hat : (roundR r s (S.take k))[i]? = some (row.filter fun x => decide (x ≠ s)) := by
        rw [roundR_at, hrow]
        simp only [Option.map_some, if_neg hnin]
      have hrl := ok.rowLen hm
      have hfl : (row.filter fun x => decide (x ≠ s)).length ≤ row.length := List.length_filter_le _ _
      walk_at "rd"
      rw [hat, ixN_of (by omega) (by rw [roundR_len]; exact Int.ofNat_lt.mpr hir), Int.toNat_natCast]
      walk_at "rd"
      refine ⟨by omega, (row.filter fun x => decide (x ≠ s)) ++ [s], by rw [List.map_append]; rfl, by rw [List.length_append]; show _ + 1 < 64; omega, fun ms h1 h2 => ?_⟩
      have em := back_row (ok.asc row hm) hs h1 h2
      subst em
      have e3 : ((roundR r s (S.take k)).map tI).set i (Dat.tup (ms.map Dat.int)) = (roundR r s (S.take (k + 1))).map tI := by
        rw [← roundR_step hpt hrow, List.map_set]
      rw [e3]
      exact (hI _ _).mpr ⟨_, _, _, _, rfl⟩
    · obtain ⟨s2, s3, s5, s6, rfl⟩ := (hI _ _).mp h
      walk_at "rd"
      rw [List.take_length]
      exact ⟨c, r, _, rfl, ok.round s S, hp⟩
/-- rounds as they are handed over: f, g the kinds of the outer and the inner rows -/
abbrev dRound (g : List Dat → Dat) (e : Int × Sends) : Dat := .tup [.int e.1, g (e.2.map dPair)]
def sp_first_sends (ds : List Dat) (post : List Dat → Prop) : Prop := ∃ c r R, (ds = [.pool c r, .lst ((R : Rnds).map (dRound .lst))] ∨ ds = [.pool c r, .tup (R.map (dRound .tup))]) ∧ PoolOk c r ∧ Good c r R ∧ R.length ≤ 64 ∧ post ((firsts r.length (flat R)).map pr)
theorem len_first_sends {ds : List Dat} {post : List Dat → Prop} (h : sp_first_sends ds post) : ds.length = 2 := by
  obtain ⟨_, _, _, rfl | rfl, _⟩ := h <;> rfl
theorem c_first_sends (T : Top K mg) : Cal P w K mg base 8 "first_sends" (spDN K sp_first_sends) := by
  refine calDN T d_first_sends 24 23 sc_first_sends (fun ds post h => len_first_sends h) (fun cdv A outer s H E hr => ⟨_, (xss_cons (xs_set (i := 2) sc_first_sends.nd (xv 0))
      (xss_cons (xs_setN (i := 3) sc_first_sends.nd (xn_op op_rep on_rep (xe_new (xn_lst (xa_cons xnon xa_nil))) (xe_pieces T.pc (xv 0))))
      (xss_cons (xs_for (vs := [4, 5]) rfl (xi_or (xi_list (xv 1)) (xi_tup (xv 1))) (xg_tup (n := 2) rfl (xgs_cons (xg_name 4 sc_first_sends.nd) (xgs_cons (xg_name 5 sc_first_sends.nd) xgs_nil))) (xss_cons (xs_set (i := 2) sc_first_sends.nd (xe_c (c_after_round T) hr (xa_cons (xv 2) (xa_cons (xv 4) (xa_cons (xv 5) xa_nil)))))
      (xss_one (xs_for (vs := [6, 7]) rfl (xi_or (xi_list (xv 5)) (xi_tup (xv 5))) (xg_tup (n := 2) rfl (xgs_cons (xg_name 6 sc_first_sends.nd) (xgs_cons (xg_name 7 sc_first_sends.nd) xgs_nil))) (xss_one (xs_if (xt_cmp op_isN od_isN (xe_ixO 3 (xv 6)) xnon) (xss_one (xs_setO 3 (xv 6) (xe_tup (xa_cons (xe_callB (call_min2 rfl) cd_min2 T.m_min (xa_cons (xv 4) (xa_cons (xv 7) xa_nil))) (xa_cons (xe_callB (call_max2 rfl) cd_max2 T.m_max (xa_cons (xv 4) (xa_cons (xv 7) xa_nil))) xa_nil))))) xss_nil))))))
      (xss_one (xs_retO 3))))), fun ds post h => ?_⟩)
    (fun _ _ _ _ _ _ us hl => match us, hl with | [_, _], _ => rfl)
  obtain ⟨c, r, R, hds, ok, hg, hRl, hp⟩ := h
  have hpl := ok.p1
  have hsl := ok.s1
  have e0 : List.replicate r.length Dat.non = (firsts r.length (flat (R.take 0))).map pr := by
    rw [List.take_zero]
    show _ = (firsts r.length []).map pr
    rw [firsts_nil, List.map_replicate]
    rfl
  rcases hds with rfl | rfl
  all_goals
    walk_at "rd"
    refine ⟨by omega, by omega, ?_⟩
    rw [e0]
    obtain ⟨I, hI⟩ : ∃ I : Nat → List Sl → Prop, ∀ m δ, I m δ ↔ ∃ s1 s4 s5 s6 s7, δ = [Sl.d (.pool c r), s1, Sl.d (.pool c (runR r (R.take m))), Sl.ol ((firsts r.length (flat (R.take m))).map pr), s4, s5, s6, s7] := ⟨_, fun _ _ => Iff.rfl⟩
    refine ⟨I, (hI _ _).mpr ⟨_, _, _, _, _, rfl⟩, fun k x δ' hk h => ?_, fun δ' h => ?_⟩
    · obtain ⟨s1, s4, s5, s6, s7, rfl⟩ := (hI _ _).mp h
      obtain ⟨⟨s, S⟩, hsS, rfl⟩ := map_at hk
      have al := hg k _ hsS
      have okr : PoolOk c (runR r (R.take k)) := ok.run
      walk_at "rd"
      refine ⟨c, _, s, S, by simp, okr, al, ?_⟩
      walk_at "rd"
      have e2 : firsts r.length (flat (R.take k)) = firsts r.length (flat (R.take k) ++ (S.take 0).map fun p => (p.1, (s, p.2))) := by rw [List.take_zero, List.map_nil, List.append_nil]
      rw [e2]
      obtain ⟨J, hJ⟩ : ∃ J : Nat → List Sl → Prop, ∀ m δ, J m δ ↔ ∃ s1 s5 s6 s7, δ = [Sl.d (.pool c r), s1, Sl.d (.pool c (roundR (runR r (R.take k)) s S)), Sl.ol ((firsts r.length (flat (R.take k) ++ (S.take m).map fun p => (p.1, (s, p.2)))).map pr), Sl.d (.int s), s5, s6, s7] := ⟨_, fun _ _ => Iff.rfl⟩
      refine ⟨J, (hJ _ _).mpr ⟨_, _, _, _, rfl⟩, fun m y δ2 hm h2 => ?_, fun δ2 h2 => ?_⟩
      · obtain ⟨t1, t5, t6, t7, rfl⟩ := (hJ _ _).mp h2
        obtain ⟨⟨p, t⟩, hpt, rfl⟩ := map_at hm
        obtain ⟨i, row, ei, hrow, _⟩ := al.ok _ (List.mem_of_getElem? hpt)
        have ei : p = (i : Int) := ei
        subst ei
        have hir : i < r.length := by
          have := (List.getElem?_eq_some_iff.mp hrow).1
          rwa [runR_len] at this
        have e3 : (S.take (m + 1)).map (fun p => (p.1, (s, p.2))) = (S.take m).map (fun p => (p.1, (s, p.2))) ++ [((i : Int), (s, t))] := by
          rw [take_succ_of hpt, List.map_append]
          rfl
        have e4 := firsts_snoc (L := flat (R.take k) ++ (S.take m).map fun p => (p.1, (s, p.2))) (s := s) (t := t) hir
        rw [List.append_assoc, ← e3] at e4
        walk_at "rd"
        rw [firsts_at hir]
        walk_at "rd"
        cases hf : fstOf (flat (R.take k) ++ (S.take m).map fun p => (p.1, (s, p.2))) (i : Int) with
        | none =>
          rw [hf, if_pos rfl] at e4
          walk_at "rd"
          rw [ixN_of (by omega) (by rw [firsts_len]; exact Int.ofNat_lt.mpr hir), Int.toNat_natCast]
          walk_at "rd"
          have e5 : ((firsts r.length (flat (R.take k) ++ (S.take m).map fun p => (p.1, (s, p.2)))).map pr).set i (Dat.tup [Dat.int (if t < s then t else s), Dat.int (if t > s then t else s)]) = (firsts r.length (flat (R.take k) ++ (S.take (m + 1)).map fun p => (p.1, (s, p.2)))).map pr := by
            rw [e4]
            exact map_set_pr (q := mkP s t)
          rw [e5]
          exact (hJ _ _).mpr ⟨_, _, _, _, rfl⟩
        | some q =>
          rw [hf, if_neg (by simp)] at e4
          walk_at "rd"
          rw [← e4]
          exact (hJ _ _).mpr ⟨_, _, _, _, rfl⟩
      · obtain ⟨t1, t5, t6, t7, rfl⟩ := (hJ _ _).mp h2
        rw [List.take_length, ← flat_succ hsS, ← runR_succ hsS]
        exact (hI _ _).mpr ⟨_, _, _, _, _, rfl⟩
    · obtain ⟨s1, s4, s5, s6, s7, rfl⟩ := (hI _ _).mp h
      walk_at "rd"
      rw [List.take_length]
      exact hp
end
end Pw
set_option Elab.async false
set_option linter.all false
set_option maxRecDepth 100000
set_option maxHeartbeats 1000000
namespace Pw
open PySem PySem.Spec L2
/-- the reading of the data, unfolded -/
local macro_rules | `(tactic| walk_at "rd") => `(tactic| simp only [dRet, dRetN, dRetO, dRetM, dRetG, dSeq, dIf, dNext, dNever, dDrop, dAsg, dAsgN, dApp, dFrz, dFrzI, dTest, dB, dYes, dOp, dOpN, dC, dVar, dCall, dCallN, dCons, dNil, dTup, dLst, dAnd, dOr, dNot, dAndV, dOrV, dNotV, dIfE, dIsi, d2I, d2B, d2C, dIxL, dIxT, dIxS, dLen, d2Min, d2Max, dAbs, dInt, dTupOf, dListOf, dCaps, dHold, dSeats, dPieces, dIsN, dNotN, dNotB, dIn, dSorted, dSortedT, dMinB, dLenSet, dEnum, dgN, dgTup, dgCons, dgNil, dItL, dItT, dRng1, dRng2, dCat, dRep, dCatT, dSl, dNoP, dP1, dRev, dCntN, dListR, dListI,
  dIxO, dLenO, dThaw, dSetO, dAugO, dAug, dInI, dPutI, dIxI, dGetF, dAsgP, dAsgL, dGetP, dIxP, dPutP, dSetM, dSetd, dCRO, dLenGet, dOF, dSetF, dSetX, dIfNN, dCallG, dCallMt, dMtR, dCRN, dMkN, dMkP, dIsP, dFor, dForI, dLc, dLc2, dDc, dWhile, endsOf, endsN, endsM, endsG, startD, startR, startG, wipeD, isSc,
  List.map_cons, List.map_nil, List.cons_append, List.nil_append, List.append_nil, List.length_cons, List.length_nil, Nat.reduceAdd, Nat.reduceSub, List.replicate_succ, List.replicate_zero, List.getElem?_cons_zero, List.getElem?_cons_succ, List.set_cons_zero, List.set_cons_succ, Option.getD_some,
  Option.some.injEq, Sl.d.injEq, Sl.ol.injEq, Sl.oI.injEq, Sl.oP.injEq, Sl.oL.injEq, Sl.rd.injEq, Sl.oN.injEq, Sl.rN.injEq, Dat.int.injEq, Dat.bl.injEq, Dat.lst.injEq, Dat.tup.injEq, Dat.pool.injEq, Dat.scr.injEq, Dat.dI.injEq, Dat.dP.injEq, List.cons.injEq, map_int_inj, reduceCtorEq, exists_eq_left', exists_eq_left, exists_eq_right, exists_and_left, exists_const, and_true, true_and, and_false, false_and, or_false, false_or, exists_false, if_true, if_false, ite_true, ite_false, Bool.false_eq_true, and_assoc, and_self, decide_eq_true_eq, exists_prop, true_or, or_true, or_self, List.length_map, Nat.reduceLeDiff, Nat.reduceLT, atI_z, atI_1, atI_map, Option.map_some, Option.map_none, atI_nat', Int.toNat_natCast, Int.zero_add, rngD_len, enumD_len, isN_pr, Option.isNone_some, Option.isNone_none, isN_non, isN_int, isN_lst, isN_tup, isN_pool, pr_none, pr_some, List.getElem?_map, lsts_inj, isN_vB, vB_some, vB_none, kvB_len, rowB_len, clean_d, clean_no, clean_nil, Bool.not_true, Bool.not_false, fP1, fP2, fP3, fP4, lkA, lkP2, fG1, fG2, fG3, fG4, fG5, fG6, fG7, lkG1, lkG2, lkG3, lkG4, lkG5])
local macro_rules | `(tactic| walk_at "rs") => `(tactic| simp only [dRet, dRetN, dRetO, dRetM, dRetG, dSeq, dIf, dNext, dNever, dDrop, dAsg, dAsgN, dApp, dFrz, dFrzI, dTest, dB, dYes, dOp, dOpN, dC, dVar, dCall, dCallN, dCons, dNil, dTup, dLst, dAnd, dOr, dNot, dAndV, dOrV, dNotV, dIfE, dIsi, d2I, d2B, d2C, dIxL, dIxT, dIxS, dLen, d2Min, d2Max, dAbs, dInt, dTupOf, dListOf, dCaps, dHold, dSeats, dPieces, dIsN, dNotN, dNotB, dIn, dSorted, dSortedT, dMinB, dLenSet, dEnum, dgN, dgTup, dgCons, dgNil, dItL, dItT, dRng1, dRng2, dCat, dRep, dCatT, dSl, dNoP, dP1, dRev, dCntN, dListR, dListI,
  dIxO, dLenO, dThaw, dSetO, dAugO, dAug, dInI, dPutI, dIxI, dGetF, dAsgP, dAsgL, dGetP, dIxP, dPutP, dSetM, dSetd, dCRO, dLenGet, dOF, dSetF, dSetX, dIfNN, dCallG, dCallMt, dMtR, dCRN, dMkN, dMkP, dIsP, endsOf, endsN, endsM, endsG, startD, startR, startG, wipeD, isSc,
  List.map_cons, List.map_nil, List.cons_append, List.nil_append, List.append_nil, List.length_cons, List.length_nil, Nat.reduceAdd, Nat.reduceSub, List.replicate_succ, List.replicate_zero, List.getElem?_cons_zero, List.getElem?_cons_succ, List.set_cons_zero, List.set_cons_succ, Option.getD_some,
  Option.some.injEq, Sl.d.injEq, Sl.ol.injEq, Sl.oI.injEq, Sl.oP.injEq, Sl.oL.injEq, Sl.rd.injEq, Sl.oN.injEq, Sl.rN.injEq, Dat.int.injEq, Dat.bl.injEq, Dat.lst.injEq, Dat.tup.injEq, Dat.pool.injEq, Dat.scr.injEq, Dat.dI.injEq, Dat.dP.injEq, List.cons.injEq, map_int_inj, reduceCtorEq, exists_eq_left', exists_eq_left, exists_eq_right, exists_and_left, exists_const, and_true, true_and, and_false, false_and, or_false, false_or, exists_false, if_true, if_false, ite_true, ite_false, Bool.false_eq_true, and_assoc, and_self, decide_eq_true_eq, exists_prop, true_or, or_true, or_self, List.length_map, Nat.reduceLeDiff, Nat.reduceLT, atI_z, atI_1, atI_map, Option.map_some, Option.map_none, atI_nat', Int.toNat_natCast, Int.zero_add, rngD_len, enumD_len, isN_pr, Option.isNone_some, Option.isNone_none, isN_non, isN_int, isN_lst, isN_tup, isN_pool, pr_none, pr_some, List.getElem?_map, lsts_inj, isN_vB, vB_some, vB_none, kvB_len, rowB_len, clean_d, clean_no, clean_nil, Bool.not_true, Bool.not_false, fP1, fP2, fP3, fP4, lkA, lkP2, fG1, fG2, fG3, fG4, fG5, fG6, fG7, lkG1, lkG2, lkG3, lkG4, lkG5])
section
variable {P : Program} {w : World} {K : PySem.W.Frag} {mg : Str → Option Value} {base : Heap}
/-! Games. -/
/-- a game's fields -/
def gmF (c : List Int) (r : List (List Int)) (c0 : List Int) (r0 : List (List Int)) (rounds : List Dat) (ft : Dat) : List (Str × Dat) := [("start", .pool c0 r0), ("pool", .pool c r), ("rounds", .tup rounds), ("fault", ft)]
def FtOk (ft : Dat) : Prop := ft = .non ∨ ∃ i, ft = .int i
def sp_Game_init (fs : List (Str × Dat)) (ds : List Dat) (post : List (Str × Dat) → Dat → Prop) : Prop := ∃ c r, fs = [] ∧ ds = [.pool c r] ∧ PoolOk c r ∧ ∀ ft, FtOk ft → post (gmF c r c r [] ft) .non
theorem len_Game_init {fs : List (Str × Dat)} {ds : List Dat} {post : List (Str × Dat) → Dat → Prop} (h : sp_Game_init fs ds post) : ds.length + 1 = 2 := by
  obtain ⟨_, _, _, rfl, _⟩ := h
  rfl
theorem c_Game_init (T : Top K mg) : C8.Mak P w K mg base 8 "Game" (He.ga K "Game") (spG K "Game" sp_Game_init) [] := by
  refine makG T d_Game_init 25 51 sc_Game_init "Game" (fun _ _ _ _ _ _ us hl => match us, hl with | [_, _], _ => rfl) (fun fs ds post h => len_Game_init h) T.mkGame (fun cdv A outer s H E hr => ⟨_, (xss_cons (xs_setF 0 "Game" (T.gmFld 72) (xv 1))
      (xss_cons (xs_setF 0 "Game" (T.gmFld 73) (xv 1))
      (xss_cons (xs_setF 0 "Game" (T.gmFld 74) (xe_tup xa_nil))
      (xss_cons (xs_setF 0 "Game" (T.gmFld 75) xnon)
      (xss_one (xs_if (xt_not (xt_val (xe_c (c_is_safe T) hr (xa_cons (xv 1) xa_nil)))) (xss_one (xs_setF 0 "Game" (T.gmFld 75) xint)) xss_nil)))))), fun a fs ds post h => ?_⟩)
  obtain ⟨c, r, rfl, rfl, ok, hp⟩ := h
  walk_at "rd"
  refine ⟨c, r, rfl, ok, fun b => ?_⟩
  walk_at "rd"
  cases b with
  | true =>
    walk_at "rd"
    exact hp .non (.inl rfl)
  | false =>
    walk_at "rd"
    exact hp (.int 0) (.inr ⟨0, rfl⟩)
def sp_Game_play (fs : List (Str × Dat)) (ds : List Dat) (post : List (Str × Dat) → Dat → Prop) : Prop := ∃ c r c0 r0 s S Rd ft, fs = gmF c r c0 r0 Rd ft ∧ ds = [.int s, .lst ((S : Sends).map dPair)] ∧ PoolOk c r ∧ Allowed c r s S ∧ FtOk ft ∧ Rd.length ≤ 900 ∧
  ∀ ft', FtOk ft' → post (gmF c (roundR r s S) c0 r0 (Rd ++ [dRound .tup (s, S)]) ft') .non
theorem len_Game_play {fs : List (Str × Dat)} {ds : List Dat} {post : List (Str × Dat) → Dat → Prop} (h : sp_Game_play fs ds post) : ds.length + 1 = 3 := by
  obtain ⟨_, _, _, _, _, _, _, _, _, rfl, _⟩ := h
  rfl
theorem c_Game_play (T : Top K mg) : C8.Met P w K mg base 8 (He.ga K "Game") "play" (spG K "Game" sp_Game_play) [] := by
  refine metG T d_Game_play 26 sc_Game_play "Game" (fun _ _ _ _ _ _ us hl => match us, hl with | [_, _, _], _ => rfl) (fun fs ds post h => len_Game_play h) T.gmCls T.play (fun cdv A outer s H E hr => ⟨_, (xss_cons (xs_set (i := 3) sc_Game_play.nd (xe_c (c_after_round T) hr (xa_cons (xe_oF 0 "Game" (T.gmFld 73)) (xa_cons (xv 1) (xa_cons (xv 2) xa_nil)))))
      (xss_cons (xs_setF 0 "Game" (T.gmFld 73) (xv 3))
      (xss_cons (xs_setF 0 "Game" (T.gmFld 74) (xe_op op_catA od_catT (xe_oF 0 "Game" (T.gmFld 74)) (xe_tup (xa_cons (xe_tup (xa_cons (xv 1) (xa_cons (xe_callT call_tuple_of cd_tupOf T.m_tuple (xa_cons (xv 2) xa_nil)) xa_nil))) xa_nil))))
      (xss_one (xs_if (xw_t (xw_and (xt_cmp op_isN od_isN (xe_oF 0 "Game" (T.gmFld 75)) xnon) (xw_and1 (xt_not (xt_val (xe_c (c_is_safe T) hr (xa_cons (xv 3) xa_nil))))))) (xss_one (xs_setF 0 "Game" (T.gmFld 75) (xe_len T.m_len (xa_cons (xe_oF 0 "Game" (T.gmFld 74)) xa_nil)))) xss_nil))))), fun a fs ds post h => ?_⟩)
  obtain ⟨c, r, c0, r0, s, S, Rd, ft, rfl, rfl, ok, al, hft, hRd, hp⟩ := h
  unfold gmF at hp ⊢
  walk_at "rd"
  refine ⟨c, r, s, S, by simp, ok, al, by omega, ?_⟩
  rcases hft with rfl | ⟨i, rfl⟩
  · walk_at "rd"
    refine ⟨c, _, rfl, ok.round s S, fun b => ?_⟩
    walk_at "rd"
    cases b with
    | true =>
      walk_at "rd"
      exact hp .non (.inl rfl)
    | false =>
      walk_at "rd"
      exact hp _ (.inr ⟨_, rfl⟩)
  · walk_at "rd"
    exact hp _ (.inr ⟨_, rfl⟩)
def sp_Game_dead (fs : List (Str × Dat)) (ds : List Dat) (post : Dat → Prop) : Prop := ∃ c r c0 r0 Rd ft, fs = gmF c r c0 r0 Rd ft ∧ ds = [] ∧ PoolOk c r ∧ post (.lst (((List.range r.length).filter fun i => r[i]? == some []).map fun (i : Nat) => .int (i : Int)))
theorem len_Game_dead {fs : List (Str × Dat)} {ds : List Dat} {post : Dat → Prop} (h : sp_Game_dead fs ds post) : ds.length + 1 = 1 := by
  obtain ⟨_, _, _, _, _, _, _, rfl, _⟩ := h
  rfl
theorem c_Game_dead (T : Top K mg) : C8.Met P w K mg base 1 (He.ga K "Game") "dead" (spRN K "Game" sp_Game_dead) [] := by
  refine metRN T d_Game_dead 27 sc_Game_dead "Game" (fun _ _ _ _ _ _ us hl => match us, hl with | [_], _ => rfl) (fun fs ds post h => len_Game_dead h) T.gmCls T.dead (fun cdv A outer s H E hr => ⟨_, (xss_one (xs_retN (xn_lc (own := [("piece", 1)]) rfl sc_Game_dead.nd (xi_rng1 T.m_range (xa_cons (xe_pieces T.pc (xe_oF 0 "Game" (T.gmFld 73))) xa_nil)) (blkOk_by (own := [("piece", 1)]) (N := N_Game_dead) (sc := defScope s_Game_dead) (by decide +kernel)) (fun _ _ _ _ _ => (xg_name 1 sc_Game_dead.nd)) (fun _ _ _ _ _ => (xts_one (xt_cmp op_eq od_eq (xe_len T.m_len (xa_cons (xe_ix ix_tup od_ixT (xe_hold T.pc (xe_oF 0 "Game" (T.gmFld 73))) (xv 1)) xa_nil)) xint))) (fun _ _ _ _ _ => (xv 1))))), fun fs ds post h => ?_⟩)
  obtain ⟨c, r, c0, r0, Rd, ft, rfl, rfl, ok, hp⟩ := h
  unfold gmF
  walk_at "rs"
  have hpl := ok.p1
  refine dLc_go (List.range r.length) (fun (k : Nat) => Dat.int (k : Int)) (fun i => r[i]? == some []) (fun (k : Nat) => Dat.int (k : Int)) (by rw [List.length_range]; omega) (fun Q h => ?_) (fun k hk Y N h1 h2 => ?_) hp
  · walk_at "rs"
    rw [rngD_0]
    exact ⟨by omega, by omega, h⟩
  · obtain ⟨row, hrow⟩ : ∃ row, r[k]? = some row := ⟨_, List.getElem?_eq_getElem (List.mem_range.mp hk)⟩
    walk_at "rs"
    rw [hrow]
    walk_at "rs"
    cases row with
    | nil =>
      rw [if_pos (by rfl)]
      exact h1 (by simp [hrow])
    | cons x row =>
      rw [if_neg (by simp; omega)]
      exact h2 (by simp [hrow])
end
end Pw
set_option Elab.async false
set_option linter.all false
set_option maxRecDepth 100000
set_option maxHeartbeats 1000000
namespace Pw
open PySem PySem.Spec L2
/-- the reading of the data, unfolded -/
local macro_rules | `(tactic| walk_at "rd") => `(tactic| simp only [dRet, dRetN, dRetO, dRetM, dRetG, dSeq, dIf, dNext, dNever, dDrop, dAsg, dAsgN, dApp, dFrz, dFrzI, dTest, dB, dYes, dOp, dOpN, dC, dVar, dCall, dCallN, dCons, dNil, dTup, dLst, dAnd, dOr, dNot, dAndV, dOrV, dNotV, dIfE, dIsi, d2I, d2B, d2C, dIxL, dIxT, dIxS, dLen, d2Min, d2Max, dAbs, dInt, dTupOf, dListOf, dCaps, dHold, dSeats, dPieces, dIsN, dNotN, dNotB, dIn, dSorted, dSortedT, dMinB, dLenSet, dEnum, dgN, dgTup, dgCons, dgNil, dItL, dItT, dRng1, dRng2, dCat, dRep, dCatT, dSl, dNoP, dP1, dRev, dCntN, dListR, dListI,
  dIxO, dLenO, dThaw, dSetO, dAugO, dAug, dInI, dPutI, dIxI, dGetF, dAsgP, dAsgL, dGetP, dIxP, dPutP, dSetM, dSetd, dCRO, dLenGet, dOF, dSetF, dSetX, dIfNN, dCallG, dCallMt, dMtR, dCRN, dMkN, dMkP, dIsP, dFor, dForI, dLc, dLc2, dDc, dWhile, endsOf, endsN, endsM, endsG, startD, startR, startG, wipeD, isSc,
  List.map_cons, List.map_nil, List.cons_append, List.nil_append, List.append_nil, List.length_cons, List.length_nil, Nat.reduceAdd, Nat.reduceSub, List.replicate_succ, List.replicate_zero, List.getElem?_cons_zero, List.getElem?_cons_succ, List.set_cons_zero, List.set_cons_succ, Option.getD_some,
  Option.some.injEq, Sl.d.injEq, Sl.ol.injEq, Sl.oI.injEq, Sl.oP.injEq, Sl.oL.injEq, Sl.rd.injEq, Sl.oN.injEq, Sl.rN.injEq, Dat.int.injEq, Dat.bl.injEq, Dat.lst.injEq, Dat.tup.injEq, Dat.pool.injEq, Dat.scr.injEq, Dat.dI.injEq, Dat.dP.injEq, List.cons.injEq, map_int_inj, reduceCtorEq, exists_eq_left', exists_eq_left, exists_eq_right, exists_and_left, exists_const, and_true, true_and, and_false, false_and, or_false, false_or, exists_false, if_true, if_false, ite_true, ite_false, Bool.false_eq_true, and_assoc, and_self, decide_eq_true_eq, exists_prop, true_or, or_true, or_self, List.length_map, Nat.reduceLeDiff, Nat.reduceLT, atI_z, atI_1, atI_map, Option.map_some, Option.map_none, atI_nat', Int.toNat_natCast, Int.zero_add, rngD_len, enumD_len, isN_pr, Option.isNone_some, Option.isNone_none, isN_non, isN_int, isN_lst, isN_tup, isN_pool, pr_none, pr_some, List.getElem?_map, lsts_inj, isN_vB, vB_some, vB_none, kvB_len, rowB_len, clean_d, clean_no, clean_nil, Bool.not_true, Bool.not_false, fP1, fP2, fP3, fP4, lkA, lkP2, fG1, fG2, fG3, fG4, fG5, fG6, fG7, lkG1, lkG2, lkG3, lkG4, lkG5])
local macro_rules | `(tactic| walk_at "rs") => `(tactic| simp only [dRet, dRetN, dRetO, dRetM, dRetG, dSeq, dIf, dNext, dNever, dDrop, dAsg, dAsgN, dApp, dFrz, dFrzI, dTest, dB, dYes, dOp, dOpN, dC, dVar, dCall, dCallN, dCons, dNil, dTup, dLst, dAnd, dOr, dNot, dAndV, dOrV, dNotV, dIfE, dIsi, d2I, d2B, d2C, dIxL, dIxT, dIxS, dLen, d2Min, d2Max, dAbs, dInt, dTupOf, dListOf, dCaps, dHold, dSeats, dPieces, dIsN, dNotN, dNotB, dIn, dSorted, dSortedT, dMinB, dLenSet, dEnum, dgN, dgTup, dgCons, dgNil, dItL, dItT, dRng1, dRng2, dCat, dRep, dCatT, dSl, dNoP, dP1, dRev, dCntN, dListR, dListI,
  dIxO, dLenO, dThaw, dSetO, dAugO, dAug, dInI, dPutI, dIxI, dGetF, dAsgP, dAsgL, dGetP, dIxP, dPutP, dSetM, dSetd, dCRO, dLenGet, dOF, dSetF, dSetX, dIfNN, dCallG, dCallMt, dMtR, dCRN, dMkN, dMkP, dIsP, endsOf, endsN, endsM, endsG, startD, startR, startG, wipeD, isSc,
  List.map_cons, List.map_nil, List.cons_append, List.nil_append, List.append_nil, List.length_cons, List.length_nil, Nat.reduceAdd, Nat.reduceSub, List.replicate_succ, List.replicate_zero, List.getElem?_cons_zero, List.getElem?_cons_succ, List.set_cons_zero, List.set_cons_succ, Option.getD_some,
  Option.some.injEq, Sl.d.injEq, Sl.ol.injEq, Sl.oI.injEq, Sl.oP.injEq, Sl.oL.injEq, Sl.rd.injEq, Sl.oN.injEq, Sl.rN.injEq, Dat.int.injEq, Dat.bl.injEq, Dat.lst.injEq, Dat.tup.injEq, Dat.pool.injEq, Dat.scr.injEq, Dat.dI.injEq, Dat.dP.injEq, List.cons.injEq, map_int_inj, reduceCtorEq, exists_eq_left', exists_eq_left, exists_eq_right, exists_and_left, exists_const, and_true, true_and, and_false, false_and, or_false, false_or, exists_false, if_true, if_false, ite_true, ite_false, Bool.false_eq_true, and_assoc, and_self, decide_eq_true_eq, exists_prop, true_or, or_true, or_self, List.length_map, Nat.reduceLeDiff, Nat.reduceLT, atI_z, atI_1, atI_map, Option.map_some, Option.map_none, atI_nat', Int.toNat_natCast, Int.zero_add, rngD_len, enumD_len, isN_pr, Option.isNone_some, Option.isNone_none, isN_non, isN_int, isN_lst, isN_tup, isN_pool, pr_none, pr_some, List.getElem?_map, lsts_inj, isN_vB, vB_some, vB_none, kvB_len, rowB_len, clean_d, clean_no, clean_nil, Bool.not_true, Bool.not_false, fP1, fP2, fP3, fP4, lkA, lkP2, fG1, fG2, fG3, fG4, fG5, fG6, fG7, lkG1, lkG2, lkG3, lkG4, lkG5])
section
variable {P : Program} {w : World} {K : PySem.W.Frag} {mg : Str → Option Value} {base : Heap}
/-! The law's helpers. -/
def sp_l_cell (ds : List Dat) (post : Dat → Prop) : Prop := ∃ ns k, ds = [.scr ns, .int ((k : Nat) : Int)] ∧ ∀ n, post (.int n)
theorem len_l_cell {ds : List Dat} {post : Dat → Prop} (h : sp_l_cell ds post) : ds.length = 2 := by
  obtain ⟨_, _, rfl, _⟩ := h
  rfl
theorem c_l_cell (T : Top K mg) : Cal P w K mg base 1 "_law_cell" (spD K sp_l_cell) := by
  refine calD T d_l_cell 28 24 sc_l_cell (fun ds post h => len_l_cell h) (fun cdv A outer s H E hr => ⟨_, (xss_cons (xs_if (xt_cmp op_lt od_B (xv 1) (xe_len T.m_len (xa_cons (xv 0) xa_nil))) (xss_one (xs_ret (xe_ix ix_list od_ixS (xv 0) (xv 1)))) xss_nil)
      (xss_one (xs_ret xint))), fun ds post h => ?_⟩)
    (fun _ _ _ _ _ _ us hl => match us, hl with | [_, _], _ => rfl)
  obtain ⟨ns, k, rfl, hp⟩ := h
  walk_at "rd"
  by_cases hlt : (k : Int) < (ns.length : Int)
  · rw [if_pos hlt]
    exact ⟨_, List.getElem?_eq_getElem (by omega), hp _⟩
  · rw [if_neg hlt]
    exact hp 0
/-- drawn within the sizes -/
def Drawn (sizes ds : List Int) : Prop := ds.length = sizes.length ∧ ∀ (i : Nat) d s, ds[i]? = some d → sizes[i]? = some s → 0 ≤ d ∧ d < s
def sp_l_draws (ds : List Dat) (post : Dat → Prop) : Prop := ∃ z sizes, ds = [.int z, lI sizes] ∧ sizes.length ≤ 64 ∧ (∀ s ∈ sizes, 0 < s ∧ s ≤ 100000) ∧ ∀ dr, Drawn sizes dr → post (lI dr)
theorem len_l_draws {ds : List Dat} {post : Dat → Prop} (h : sp_l_draws ds post) : ds.length = 2 := by
  obtain ⟨_, _, rfl, _⟩ := h
  rfl
theorem c_l_draws (T : Top K mg) : Cal P w K mg base 1 "_law_draws" (spD K sp_l_draws) := by
  refine calD T d_l_draws 29 25 sc_l_draws (fun ds post h => len_l_draws h) (fun cdv A outer s H E hr => ⟨_, (xss_cons (xs_set (i := 2) sc_l_draws.nd (xe_callB call_abs cd_abs T.m_abs (xa_cons (xe_callT call_int1 cd_int T.m_int (xa_cons (xv 0) xa_nil)) xa_nil)))
      (xss_cons (xs_set (i := 3) sc_l_draws.nd (xe_cmp op_ge od_B (xv 2) (xe_op op_pow od_C xint xint)))
      (xss_cons (xs_setN (i := 4) sc_l_draws.nd (xn_lst xa_nil))
      (xss_cons (xs_for (vs := [5]) rfl (xi_rng1 T.m_range (xa_cons (xe_len T.m_len (xa_cons (xv 1) xa_nil)) xa_nil)) (xg_name 5 sc_l_draws.nd) (xss_cons (xs_set (i := 6) sc_l_draws.nd (xe_ix ix_list od_ixL (xv 1) (xv 5)))
      (xss_one (xs_if (xw_t (xw_and (xt_val (xv 3)) (xw_and1 (xt_cmp op_gt od_B (xv 2) xint)))) (xss_cons (xs_app 4 (xe_op op_modN od_C (xe_callT call_int1 cd_int T.m_int (xa_cons (xv 2) xa_nil)) (xv 6)))
      (xss_one (xs_set (i := 2) sc_l_draws.nd (xe_op op_fdivN od_C (xv 2) (xv 6))))) (xss_cons (xs_set (i := 7) sc_l_draws.nd (xe_op op_modN od_C (xe_callT call_int1 cd_int T.m_int (xa_cons (xe_op op_add od_I (xe_op op_add od_I (xe_callB call_abs cd_abs T.m_abs (xa_cons (xe_callT call_int1 cd_int T.m_int (xa_cons (xv 0) xa_nil)) xa_nil)) (xe_op op_mul od_C xint (xv 5))) xint) xa_nil)) xint))
      (xss_cons (xs_set (i := 7) sc_l_draws.nd (xe_op op_modN od_C (xe_callT call_int1 cd_int T.m_int (xa_cons (xe_op op_mul od_C (xv 7) (xe_op op_add od_I (xv 7) xint)) xa_nil)) xint))
      (xss_cons (xs_set (i := 7) sc_l_draws.nd (xe_op op_modN od_C (xe_callT call_int1 cd_int T.m_int (xa_cons (xe_op op_add od_I (xe_op op_mul od_C (xv 7) (xe_op op_add od_I (xv 7) xint)) (xe_op op_mul od_C xint (xv 5))) xa_nil)) xint))
      (xss_one (xs_app 4 (xe_op op_modN od_C (xe_callT call_int1 cd_int T.m_int (xa_cons (xe_op op_fdivN od_C (xv 7) xint) xa_nil)) (xv 6)))))))))))
      (xss_one (xs_retO 4)))))), fun ds post h => ?_⟩)
    (fun _ _ _ _ _ _ us hl => match us, hl with | [_, _], _ => rfl)
  obtain ⟨z, sizes, rfl, hl, hs, hp⟩ := h
  walk_at "rd"
  refine ⟨⟨by omega, by omega, by decide⟩, by omega, by omega, ?_⟩
  obtain ⟨I, hI⟩ : ∃ I : Nat → List Sl → Prop, ∀ m δ, I m δ ↔ ∃ left b s5 s6 s7 dr, δ = [Sl.d (.int z), Sl.d (lI sizes), Sl.d (.int left), Sl.d (.bl b), Sl.ol (dr.map Dat.int), s5, s6, s7] ∧ Drawn (sizes.take m) dr := ⟨_, fun _ _ => Iff.rfl⟩
  refine ⟨I, (hI _ _).mpr ⟨_, _, _, _, _, [], rfl, rfl, fun i d s h => by simp at h⟩, fun k x δ' hk h => ?_, fun δ' h => ?_⟩
  · obtain ⟨left, b, s5, s6, s7, dr, rfl, hd⟩ := (hI _ _).mp h
    obtain ⟨hkl, rfl⟩ := rngD_at hk
    obtain ⟨s, hsk⟩ : ∃ s, sizes[k]? = some s := ⟨_, List.getElem?_eq_getElem hkl⟩
    have hs0 := hs s (List.mem_of_getElem? hsk)
    have et := take_succ_of hsk
    have hdl : dr.length = k := by
      have := hd.1
      rw [List.length_take] at this
      omega
    have more : ∀ d : Int, 0 ≤ d → d < s → Drawn (sizes.take (k + 1)) (dr ++ [d]) := fun d h0 h1 => by
      rw [et]
      refine ⟨by rw [List.length_append, List.length_append, hd.1]; rfl, fun i d' s' e1 e2 => ?_⟩
      by_cases hi : i < dr.length
      · rw [List.getElem?_append_left hi] at e1
        rw [List.getElem?_append_left (by rw [← hd.1]; exact hi)] at e2
        exact hd.2 i d' s' e1 e2
      · have h2 := (List.getElem?_eq_some_iff.mp e1).1
        rw [List.length_append] at h2
        have : i = dr.length := by
          have : [d].length = 1 := rfl
          omega
        subst this
        rw [List.getElem?_append_right (Nat.le_refl _), Nat.sub_self] at e1
        rw [List.getElem?_append_right (by rw [hd.1]; exact Nat.le_refl _), hd.1, Nat.sub_self] at e2
        cases e1
        cases e2
        exact ⟨h0, h1⟩
    have fm : ∀ a : Int, Drawn (sizes.take (k + 1)) (dr ++ [a.fmod s]) := fun a => more _ (Int.fmod_nonneg_of_pos a hs0.1) (Int.fmod_lt_of_pos a hs0.1)
    have ea : ∀ d : Int, dr.map Dat.int ++ [Dat.int d] = (dr ++ [d]).map Dat.int := fun d => by rw [List.map_append]; rfl
    have f1 : ∀ a : Int, 0 ≤ a.fmod 2147483647 ∧ a.fmod 2147483647 < 2147483647 := fun a => ⟨Int.fmod_nonneg_of_pos a (by decide), Int.fmod_lt_of_pos a (by decide)⟩
    have f2 : ∀ a : Int, 0 ≤ a.fmod 2147483629 ∧ a.fmod 2147483629 < 2147483629 := fun a => ⟨Int.fmod_nonneg_of_pos a (by decide), Int.fmod_lt_of_pos a (by decide)⟩
    have cm : ∀ a c : Int, 0 ≤ a ∧ a < 2147483647 → CMul a c := fun a c h => .inl ⟨by omega, by omega⟩
    have cm2 : ∀ a c : Int, CMul (a.fmod 2147483629) c := fun a c => .inl ⟨by have := f2 a; omega, by have := f2 a; omega⟩
    walk_at "rd"
    rw [hsk]
    walk_at "rd"
    cases b with
    | true =>
      walk_at "rd"
      by_cases h0 : 0 < left
      · rw [if_pos h0]
        refine ⟨by omega, by omega, ⟨by omega, by omega⟩, ?_⟩
        rw [ea]
        exact (hI _ _).mpr ⟨_, _, _, _, _, _, rfl, fm _⟩
      · rw [if_neg h0]
        refine ⟨.inl ⟨by omega, by omega⟩, by decide, cm _ _ (f1 _), by decide, cm2 _ _, .inl ⟨by omega, by omega⟩, by decide, by omega, ⟨by decide, by decide⟩, by omega, ?_⟩
        rw [ea]
        exact (hI _ _).mpr ⟨_, _, _, _, _, _, rfl, fm _⟩
    | false =>
      walk_at "rd"
      refine ⟨.inl ⟨by omega, by omega⟩, by decide, cm _ _ (f1 _), by decide, cm2 _ _, .inl ⟨by omega, by omega⟩, by decide, by omega, ⟨by decide, by decide⟩, by omega, ?_⟩
      rw [ea]
      exact (hI _ _).mpr ⟨_, _, _, _, _, _, rfl, fm _⟩
  · obtain ⟨left, b, s5, s6, s7, dr, rfl, hd⟩ := (hI _ _).mp h
    rw [List.take_length] at hd
    walk_at "rd"
    exact hp dr hd
theorem lI_nat (xs : List Nat) : Dat.lst (xs.map fun (k : Nat) => Dat.int (k : Int)) = lI (xs.map fun (k : Nat) => (k : Int)) := by
  show _ = Dat.lst (List.map _ _)
  rw [List.map_map]
  rfl
def pw2 (k : Nat) : Int := ([1, 2, 4, 8, 16, 32, 64][k]?).getD 1
theorem pw2_at {k : Nat} (h : k < 7) : ([Dat.int 1, Dat.int 2, Dat.int 4, Dat.int 8, Dat.int 16, Dat.int 32, Dat.int 64] : List Dat)[k]? = some (.int (pw2 k)) ∧ pw2 k ≠ 0 ∧ (pw2 k).natAbs < 1073741824 := by
  match k, h with
  | 0, _ => exact ⟨rfl, by decide, by decide⟩
  | 1, _ => exact ⟨rfl, by decide, by decide⟩
  | 2, _ => exact ⟨rfl, by decide, by decide⟩
  | 3, _ => exact ⟨rfl, by decide, by decide⟩
  | 4, _ => exact ⟨rfl, by decide, by decide⟩
  | 5, _ => exact ⟨rfl, by decide, by decide⟩
  | 6, _ => exact ⟨rfl, by decide, by decide⟩
theorem asc_range (n : Nat) (p : Nat → Bool) : (((List.range n).filter p).map fun (k : Nat) => (k : Int)).Pairwise (· < ·) ∧ ∀ x ∈ ((List.range n).filter p).map fun (k : Nat) => (k : Int), 0 ≤ x ∧ x < (n : Int) := by
  constructor
  · refine List.Pairwise.map (R := (· < ·)) _ (fun a b h => by omega) ?_
    exact List.Pairwise.filter _ List.pairwise_lt_range
  · intro x hx
    obtain ⟨k, hk, rfl⟩ := List.mem_map.mp hx
    have := List.mem_range.mp (List.mem_filter.mp hk).1
    omega
def sp_l_bits (ds : List Dat) (post : Dat → Prop) : Prop := ∃ m n, ds = [.int m, .int ((n : Nat) : Int)] ∧ n ≤ 7 ∧ ∀ row : List Int, row.Pairwise (· < ·) → (∀ x ∈ row, 0 ≤ x ∧ x < (n : Int)) → post (lI row)
theorem len_l_bits {ds : List Dat} {post : Dat → Prop} (h : sp_l_bits ds post) : ds.length = 2 := by
  obtain ⟨_, _, rfl, _⟩ := h
  rfl
theorem c_l_bits (T : Top K mg) : Cal P w K mg base 1 "_law_bits" (spD K sp_l_bits) := by
  refine calD T d_l_bits 30 26 sc_l_bits (fun ds post h => len_l_bits h) (fun cdv A outer s H E hr => ⟨_, (xss_one (xs_retN (xn_lc (own := [("_law_k", 2)]) rfl sc_l_bits.nd (xi_rng1 T.m_range (xa_cons (xv 1) xa_nil)) (blkOk_by (own := [("_law_k", 2)]) (N := N_l_bits) (sc := defScope s_l_bits) (by decide +kernel)) (fun _ _ _ _ _ => (xg_name 2 sc_l_bits.nd)) (fun _ _ _ _ _ => (xts_one (xt_cmp op_eq od_eq (xe_op op_modN od_C (xe_callT call_int1 cd_int T.m_int (xa_cons (xe_op op_fdivN od_C (xv 0) (xe_ix ix_tup od_ixT (xe_tup (xa_cons xint (xa_cons xint (xa_cons xint (xa_cons xint (xa_cons xint (xa_cons xint (xa_cons xint xa_nil)))))))) (xv 2))) xa_nil)) xint) xint))) (fun _ _ _ _ _ => (xv 2))))), fun ds post h => ?_⟩)
    (fun _ _ _ _ _ _ us hl => match us, hl with | [_, _], _ => rfl)
  obtain ⟨m, n, rfl, hn, hp⟩ := h
  walk_at "rs"
  refine dLc_go (List.range n) (fun (k : Nat) => Dat.int (k : Int)) (fun k => decide ((m.fdiv (pw2 k)).fmod 2 = 1)) (fun (k : Nat) => Dat.int (k : Int)) (by rw [List.length_range]; omega) (fun Q h => ?_) (fun k hk Y N h1 h2 => ?_) ?_
  · walk_at "rs"
    rw [rngD_0]
    exact ⟨by omega, by omega, h⟩
  · have hk7 : k < 7 := by have := List.mem_range.mp hk; omega
    obtain ⟨e1, e2, e3⟩ := pw2_at hk7
    walk_at "rs"
    rw [e1]
    walk_at "rs"
    refine ⟨⟨by omega, by omega⟩, by decide, ?_⟩
    by_cases e : (m.fdiv (pw2 k)).fmod 2 = 1
    · rw [if_pos e]
      exact h1 (decide_eq_true e)
    · rw [if_neg e]
      exact h2 (decide_eq_false e)
  · have := asc_range n fun k => decide ((m.fdiv (pw2 k)).fmod 2 = 1)
    rw [lI_nat]
    exact hp _ this.1 this.2
def sp_l_pairs (ds : List Dat) (post : Dat → Prop) : Prop := ∃ n, ds = [.int ((n : Nat) : Int)] ∧ n ≤ 8 ∧ ∀ ps : List (Int × Int), (∀ q, q ∈ ps ↔ 0 ≤ q.1 ∧ q.1 < q.2 ∧ q.2 < (n : Int)) → ps.length ≤ 64 → post (.lst (ps.map dPair))
theorem len_l_pairs {ds : List Dat} {post : Dat → Prop} (h : sp_l_pairs ds post) : ds.length = 1 := by
  obtain ⟨_, rfl, _⟩ := h
  rfl
theorem c_l_pairs (T : Top K mg) : Cal P w K mg base 1 "_law_pairs" (spD K sp_l_pairs) := by
  refine calD T d_l_pairs 31 27 sc_l_pairs (fun ds post h => len_l_pairs h) (fun cdv A outer s H E hr => ⟨_, (xss_cons (xs_setN (i := 1) sc_l_pairs.nd (xn_lst xa_nil))
      (xss_cons (xs_for (vs := [2]) rfl (xi_rng1 T.m_range (xa_cons (xv 0) xa_nil)) (xg_name 2 sc_l_pairs.nd) (xss_one (xs_for (vs := [3]) rfl (xi_rng2 T.m_range (xa_cons (xe_op op_add od_I (xv 2) xint) (xa_cons (xv 0) xa_nil))) (xg_name 3 sc_l_pairs.nd) (xss_one (xs_app 1 (xe_tup (xa_cons (xv 2) (xa_cons (xv 3) xa_nil))))))))
      (xss_one (xs_retO 1)))), fun ds post h => ?_⟩)
    (fun _ _ _ _ _ _ us hl => match us, hl with | [_], _ => rfl)
  obtain ⟨n, rfl, hn, hp⟩ := h
  walk_at "rd"
  refine ⟨by omega, by omega, ?_⟩
  obtain ⟨I, hI⟩ : ∃ I : Nat → List Sl → Prop, ∀ m δ, I m δ ↔ ∃ ps s2 s3, δ = [Sl.d (.int (n : Nat)), Sl.ol ((ps : List (Int × Int)).map dPair), s2, s3] ∧ (∀ q, q ∈ ps ↔ 0 ≤ q.1 ∧ q.1 < (m : Int) ∧ q.1 < q.2 ∧ q.2 < (n : Int)) ∧ ps.length ≤ m * n ∧ m ≤ n := ⟨_, fun _ _ => Iff.rfl⟩
  refine ⟨I, (hI _ _).mpr ⟨[], _, _, rfl, fun q => ⟨fun h => (by cases h), fun h => (by omega)⟩, by simp, Nat.zero_le _⟩, fun k x δ' hk h => ?_, fun δ' h => ?_⟩
  · obtain ⟨ps, s2, s3, rfl, h1, h2, h3⟩ := (hI _ _).mp h
    obtain ⟨hkn, rfl⟩ := rngD_at hk
    have hmul : (k + 1) * n ≤ 8 * 8 := Nat.mul_le_mul (by omega) hn
    rw [Nat.add_mul] at hmul
    walk_at "rd"
    refine ⟨by omega, by omega, by omega, by omega, ?_⟩
    obtain ⟨J, hJ⟩ : ∃ J : Nat → List Sl → Prop, ∀ j δ, J j δ ↔ ∃ ps s3, δ = [Sl.d (.int (n : Nat)), Sl.ol ((ps : List (Int × Int)).map dPair), Sl.d (.int ((k : Nat) : Int)), s3] ∧ (∀ q, q ∈ ps ↔ (0 ≤ q.1 ∧ q.1 < (k : Int) ∧ q.1 < q.2 ∧ q.2 < (n : Int)) ∨ (q.1 = (k : Int) ∧ (k : Int) < q.2 ∧ q.2 < (k : Int) + 1 + (j : Int))) ∧ ps.length ≤ k * n + j ∧ (j : Int) ≤ (n : Int) - ((k : Int) + 1) := ⟨_, fun _ _ => Iff.rfl⟩
    refine ⟨J, (hJ _ _).mpr ⟨ps, _, rfl, fun q => ?_, by omega, by omega⟩, fun j y δ2 hj h2 => ?_, fun δ2 h2 => ?_⟩
    · rw [h1]
      constructor
      · exact .inl
      · rintro (z | z)
        · exact z
        · omega
    · obtain ⟨ps, t3, rfl, g1, g2, g3⟩ := (hJ _ _).mp h2
      obtain ⟨hjn, rfl⟩ := rngD_at hj
      walk_at "rd"
      refine ⟨by omega, (hJ _ _).mpr ⟨ps ++ [((k : Int), (k : Int) + 1 + (j : Int))], _, by rw [List.map_append]; rfl, fun q => ?_, by rw [List.length_append]; show _ + 1 ≤ _; omega, by omega⟩⟩
      rw [List.mem_append, g1, List.mem_singleton]
      constructor
      · rintro ((z | z) | z)
        · exact .inl z
        · exact .inr (by omega)
        · rw [z]
          exact .inr (by omega)
      · rintro (z | z)
        · exact .inl (.inl z)
        · by_cases e : q.2 = (k : Int) + 1 + (j : Int)
          · exact .inr (Prod.ext z.1 e)
          · exact .inl (.inr (by omega))
    · obtain ⟨ps, t3, rfl, g1, g2, g3⟩ := (hJ _ _).mp h2
      refine (hI _ _).mpr ⟨ps, _, _, rfl, fun q => ?_, by rw [Nat.add_mul]; omega, by omega⟩
      rw [g1]
      omega
  · obtain ⟨ps, s2, s3, rfl, h1, h2, h3⟩ := (hI _ _).mp h
    walk_at "rd"
    refine hp ps (fun q => ?_) (Nat.le_trans h2 (Nat.mul_le_mul hn hn))
    rw [h1]
    omega
end
end Pw
set_option Elab.async false
set_option linter.all false
set_option maxRecDepth 100000
set_option maxHeartbeats 1000000
namespace Pw
open PySem PySem.Spec L2
/-- the reading of the data, unfolded -/
local macro_rules | `(tactic| walk_at "rd") => `(tactic| simp only [dRet, dRetN, dRetO, dRetM, dRetG, dSeq, dIf, dNext, dNever, dDrop, dAsg, dAsgN, dApp, dFrz, dFrzI, dTest, dB, dYes, dOp, dOpN, dC, dVar, dCall, dCallN, dCons, dNil, dTup, dLst, dAnd, dOr, dNot, dAndV, dOrV, dNotV, dIfE, dIsi, d2I, d2B, d2C, dIxL, dIxT, dIxS, dLen, d2Min, d2Max, dAbs, dInt, dTupOf, dListOf, dCaps, dHold, dSeats, dPieces, dIsN, dNotN, dNotB, dIn, dSorted, dSortedT, dMinB, dLenSet, dEnum, dgN, dgTup, dgCons, dgNil, dItL, dItT, dRng1, dRng2, dCat, dRep, dCatT, dSl, dNoP, dP1, dRev, dCntN, dListR, dListI,
  dIxO, dLenO, dThaw, dSetO, dAugO, dAug, dInI, dPutI, dIxI, dGetF, dAsgP, dAsgL, dGetP, dIxP, dPutP, dSetM, dSetd, dCRO, dLenGet, dOF, dSetF, dSetX, dIfNN, dCallG, dCallMt, dMtR, dCRN, dMkN, dMkP, dIsP, dFor, dForI, dLc, dLc2, dDc, dWhile, endsOf, endsN, endsM, endsG, startD, startR, startG, wipeD, isSc,
  List.map_cons, List.map_nil, List.cons_append, List.nil_append, List.append_nil, List.length_cons, List.length_nil, Nat.reduceAdd, Nat.reduceSub, List.replicate_succ, List.replicate_zero, List.getElem?_cons_zero, List.getElem?_cons_succ, List.set_cons_zero, List.set_cons_succ, Option.getD_some,
  Option.some.injEq, Sl.d.injEq, Sl.ol.injEq, Sl.oI.injEq, Sl.oP.injEq, Sl.oL.injEq, Sl.rd.injEq, Sl.oN.injEq, Sl.rN.injEq, Dat.int.injEq, Dat.bl.injEq, Dat.lst.injEq, Dat.tup.injEq, Dat.pool.injEq, Dat.scr.injEq, Dat.dI.injEq, Dat.dP.injEq, List.cons.injEq, map_int_inj, reduceCtorEq, exists_eq_left', exists_eq_left, exists_eq_right, exists_and_left, exists_const, and_true, true_and, and_false, false_and, or_false, false_or, exists_false, if_true, if_false, ite_true, ite_false, Bool.false_eq_true, and_assoc, and_self, decide_eq_true_eq, exists_prop, true_or, or_true, or_self, List.length_map, Nat.reduceLeDiff, Nat.reduceLT, atI_z, atI_1, atI_map, Option.map_some, Option.map_none, atI_nat', Int.toNat_natCast, Int.zero_add, rngD_len, enumD_len, isN_pr, Option.isNone_some, Option.isNone_none, isN_non, isN_int, isN_lst, isN_tup, isN_pool, pr_none, pr_some, List.getElem?_map, tyI, tyL, tyT, kII, kIB, kLL, kTT, decide_true, lsts_inj, isN_vB, vB_some, vB_none, kvB_len, rowB_len, clean_d, clean_no, clean_nil, Bool.not_true, Bool.not_false, fP1, fP2, fP3, fP4, lkA, lkP2, fG1, fG2, fG3, fG4, fG5, fG6, fG7, lkG1, lkG2, lkG3, lkG4, lkG5])
local macro_rules | `(tactic| walk_at "rs") => `(tactic| simp only [dRet, dRetN, dRetO, dRetM, dRetG, dSeq, dIf, dNext, dNever, dDrop, dAsg, dAsgN, dApp, dFrz, dFrzI, dTest, dB, dYes, dOp, dOpN, dC, dVar, dCall, dCallN, dCons, dNil, dTup, dLst, dAnd, dOr, dNot, dAndV, dOrV, dNotV, dIfE, dIsi, d2I, d2B, d2C, dIxL, dIxT, dIxS, dLen, d2Min, d2Max, dAbs, dInt, dTupOf, dListOf, dCaps, dHold, dSeats, dPieces, dIsN, dNotN, dNotB, dIn, dSorted, dSortedT, dMinB, dLenSet, dEnum, dgN, dgTup, dgCons, dgNil, dItL, dItT, dRng1, dRng2, dCat, dRep, dCatT, dSl, dNoP, dP1, dRev, dCntN, dListR, dListI,
  dIxO, dLenO, dThaw, dSetO, dAugO, dAug, dInI, dPutI, dIxI, dGetF, dAsgP, dAsgL, dGetP, dIxP, dPutP, dSetM, dSetd, dCRO, dLenGet, dOF, dSetF, dSetX, dIfNN, dCallG, dCallMt, dMtR, dCRN, dMkN, dMkP, dIsP, endsOf, endsN, endsM, endsG, startD, startR, startG, wipeD, isSc,
  List.map_cons, List.map_nil, List.cons_append, List.nil_append, List.append_nil, List.length_cons, List.length_nil, Nat.reduceAdd, Nat.reduceSub, List.replicate_succ, List.replicate_zero, List.getElem?_cons_zero, List.getElem?_cons_succ, List.set_cons_zero, List.set_cons_succ, Option.getD_some,
  Option.some.injEq, Sl.d.injEq, Sl.ol.injEq, Sl.oI.injEq, Sl.oP.injEq, Sl.oL.injEq, Sl.rd.injEq, Sl.oN.injEq, Sl.rN.injEq, Dat.int.injEq, Dat.bl.injEq, Dat.lst.injEq, Dat.tup.injEq, Dat.pool.injEq, Dat.scr.injEq, Dat.dI.injEq, Dat.dP.injEq, List.cons.injEq, map_int_inj, reduceCtorEq, exists_eq_left', exists_eq_left, exists_eq_right, exists_and_left, exists_const, and_true, true_and, and_false, false_and, or_false, false_or, exists_false, if_true, if_false, ite_true, ite_false, Bool.false_eq_true, and_assoc, and_self, decide_eq_true_eq, exists_prop, true_or, or_true, or_self, List.length_map, Nat.reduceLeDiff, Nat.reduceLT, atI_z, atI_1, atI_map, Option.map_some, Option.map_none, atI_nat', Int.toNat_natCast, Int.zero_add, rngD_len, enumD_len, isN_pr, Option.isNone_some, Option.isNone_none, isN_non, isN_int, isN_lst, isN_tup, isN_pool, pr_none, pr_some, List.getElem?_map, tyI, tyL, tyT, kII, kIB, kLL, kTT, decide_true, lsts_inj, isN_vB, vB_some, vB_none, kvB_len, rowB_len, clean_d, clean_no, clean_nil, Bool.not_true, Bool.not_false, fP1, fP2, fP3, fP4, lkA, lkP2, fG1, fG2, fG3, fG4, fG5, fG6, fG7, lkG1, lkG2, lkG3, lkG4, lkG5])
section
variable {P : Program} {w : World} {K : PySem.W.Frag} {mg : Str → Option Value} {base : Heap}
/-! The law's looks. -/
def sp_l_is_integer (ds : List Dat) (post : Dat → Prop) : Prop := ∃ i, ds = [.int i] ∧ post (.bl true)
theorem len_l_is_integer {ds : List Dat} {post : Dat → Prop} (h : sp_l_is_integer ds post) : ds.length = 1 := by
  obtain ⟨_, rfl, _⟩ := h
  rfl
theorem c_l_is_integer (T : Top K mg) : Cal P w K mg base 1 "_law_is_integer" (spD K sp_l_is_integer) := by
  refine calD T d_l_is_integer 35 31 sc_l_is_integer (fun ds post h => len_l_is_integer h) (fun cdv A outer s H E hr => ⟨_, (xss_one (xs_ret (xe_and (xe_isi (T := "int") T.m_isinstance T.m_int (xv 0)) (xe_one (xe_not (xe_isi (T := "bool") T.m_isinstance T.m_bool (xv 0))))))), fun ds post h => ?_⟩)
    (fun _ _ _ _ _ _ us hl => match us, hl with | [_], _ => rfl)
  obtain ⟨i, rfl, hp⟩ := h
  walk_at "rd"
  exact hp
def sp_l_is_list (ds : List Dat) (post : Dat → Prop) : Prop := ∃ xs, ds = [.lst xs, .int xs.length] ∧ post (.bl true)
theorem len_l_is_list {ds : List Dat} {post : Dat → Prop} (h : sp_l_is_list ds post) : ds.length = 2 := by
  obtain ⟨_, rfl, _⟩ := h
  rfl
theorem c_l_is_list (T : Top K mg) : Cal P w K mg base 1 "_law_is_list" (spD K sp_l_is_list) := by
  refine calD T d_l_is_list 36 32 sc_l_is_list (fun ds post h => len_l_is_list h) (fun cdv A outer s H E hr => ⟨_, (xss_one (xs_ret (xe_and (xe_isi (T := "list") T.m_isinstance T.m_list (xv 0)) (xe_one (xe_cmp op_eq od_eq (xe_len T.m_len (xa_cons (xv 0) xa_nil)) (xv 1)))))), fun ds post h => ?_⟩)
    (fun _ _ _ _ _ _ us hl => match us, hl with | [_, _], _ => rfl)
  obtain ⟨xs, rfl, hp⟩ := h
  walk_at "rd"
  exact hp
def sp_l_is_row (ds : List Dat) (post : Dat → Prop) : Prop := ∃ row, (ds = [tI row, lI row] ∨ ds = [tI row, tI row]) ∧ row.length ≤ 64 ∧ post (.bl true)
theorem len_l_is_row {ds : List Dat} {post : Dat → Prop} (h : sp_l_is_row ds post) : ds.length = 2 := by
  obtain ⟨_, rfl | rfl, _⟩ := h <;> rfl
theorem c_l_is_row (T : Top K mg) : Cal P w K mg base 2 "_law_is_row" (spD K sp_l_is_row) := by
  refine calD T d_l_is_row 39 35 sc_l_is_row (fun ds post h => len_l_is_row h) (fun cdv A outer s H E hr => ⟨_, (xss_cons (xs_if (xw_t (xw_or (xt_not (xt_val (xe_isi (T := "tuple") T.m_isinstance T.m_tuple (xv 0)))) (xw_or1 (xt_cmp op_ne od_ne (xe_len T.m_len (xa_cons (xv 0) xa_nil)) (xe_len T.m_len (xa_cons (xv 1) xa_nil)))))) (xss_one (xs_ret xbl)) xss_nil)
      (xss_cons (xs_for (vs := [2]) rfl (xi_rng1 T.m_range (xa_cons (xe_len T.m_len (xa_cons (xv 1) xa_nil)) xa_nil)) (xg_name 2 sc_l_is_row.nd) (xss_one (xs_if (xw_t (xw_or (xt_not (xt_val (xe_c (c_l_is_integer T) hr (xa_cons (xe_ix ix_tup od_ixT (xv 0) (xv 2)) xa_nil)))) (xw_or1 (xt_cmp op_ne od_ne (xe_ix ix_tup od_ixT (xv 0) (xv 2)) (xe_orr (xe_ix ix_list od_ixL (xv 1) (xv 2)) (xe_ix ix_tup od_ixT (xv 1) (xv 2))))))) (xss_one (xs_ret xbl)) xss_nil)))
      (xss_one (xs_ret xbl)))), fun ds post h => ?_⟩)
    (fun _ _ _ _ _ _ us hl => match us, hl with | [_, _], _ => rfl)
  obtain ⟨row, hds, hl, hp⟩ := h
  rcases hds with rfl | rfl
  all_goals
    walk_at "rd"
    refine ⟨by omega, by omega, ?_⟩
    obtain ⟨I, hI⟩ : ∃ I : Nat → List Sl → Prop, ∀ m δ, I m δ ↔ ∃ s2, (δ = [Sl.d (tI row), Sl.d (lI row), s2] ∨ δ = [Sl.d (tI row), Sl.d (tI row), s2]) := ⟨_, fun _ _ => Iff.rfl⟩
    refine ⟨I, (hI _ _).mpr ⟨_, by first | exact .inl rfl | exact .inr rfl⟩, fun k x δ' hk h => ?_, fun δ' h => hp⟩
    obtain ⟨hkl, rfl⟩ := rngD_at hk
    obtain ⟨i, hi⟩ : ∃ i, row[k]? = some i := ⟨_, List.getElem?_eq_getElem hkl⟩
    obtain ⟨s2, rfl | rfl⟩ := (hI _ _).mp h
    all_goals
      walk_at "rd"
      rw [hi]
      walk_at "rd"
      refine ⟨i, rfl, ?_⟩
      walk_at "rd"
      exact (hI _ _).mpr ⟨_, by first | exact .inl rfl | exact .inr rfl⟩
def sp_l_are_numbers (ds : List Dat) (post : Dat → Prop) : Prop := ∃ row, ds = [lI row, lI row] ∧ row.length ≤ 64 ∧ post (.bl true)
theorem len_l_are_numbers {ds : List Dat} {post : Dat → Prop} (h : sp_l_are_numbers ds post) : ds.length = 2 := by
  obtain ⟨_, rfl, _⟩ := h
  rfl
theorem c_l_are_numbers (T : Top K mg) : Cal P w K mg base 2 "_law_are_numbers" (spD K sp_l_are_numbers) := by
  refine calD T d_l_are_numbers 43 39 sc_l_are_numbers (fun ds post h => len_l_are_numbers h) (fun cdv A outer s H E hr => ⟨_, (xss_cons (xs_if (xt_not (xt_val (xe_c (c_l_is_list T) hr (xa_cons (xv 0) (xa_cons (xe_len T.m_len (xa_cons (xv 1) xa_nil)) xa_nil))))) (xss_one (xs_ret xbl)) xss_nil)
      (xss_cons (xs_for (vs := [2]) rfl (xi_rng1 T.m_range (xa_cons (xe_len T.m_len (xa_cons (xv 1) xa_nil)) xa_nil)) (xg_name 2 sc_l_are_numbers.nd) (xss_one (xs_if (xw_t (xw_or (xt_not (xt_val (xe_c (c_l_is_integer T) hr (xa_cons (xe_ix ix_list od_ixL (xv 0) (xv 2)) xa_nil)))) (xw_or1 (xt_cmp op_ne od_ne (xe_ix ix_list od_ixL (xv 0) (xv 2)) (xe_ix ix_list od_ixL (xv 1) (xv 2)))))) (xss_one (xs_ret xbl)) xss_nil)))
      (xss_one (xs_ret xbl)))), fun ds post h => ?_⟩)
    (fun _ _ _ _ _ _ us hl => match us, hl with | [_, _], _ => rfl)
  obtain ⟨row, rfl, hl, hp⟩ := h
  walk_at "rd"
  refine ⟨row.map Dat.int, by rw [List.length_map], ?_⟩
  walk_at "rd"
  refine ⟨by omega, by omega, ?_⟩
  obtain ⟨I, hI⟩ : ∃ I : Nat → List Sl → Prop, ∀ m δ, I m δ ↔ ∃ s2, δ = [Sl.d (lI row), Sl.d (lI row), s2] := ⟨_, fun _ _ => Iff.rfl⟩
  refine ⟨I, (hI _ _).mpr ⟨_, rfl⟩, fun k x δ' hk h => ?_, fun δ' h => hp⟩
  obtain ⟨s2, rfl⟩ := (hI _ _).mp h
  obtain ⟨hkl, rfl⟩ := rngD_at hk
  obtain ⟨i, hi⟩ : ∃ i, row[k]? = some i := ⟨_, List.getElem?_eq_getElem hkl⟩
  walk_at "rd"
  rw [hi]
  walk_at "rd"
  refine ⟨i, rfl, ?_⟩
  walk_at "rd"
  exact (hI _ _).mpr ⟨_, rfl⟩
def sp_l_are_entries (ds : List Dat) (post : Dat → Prop) : Prop := ∃ D : Deal, ds = [prs D, prs D] ∧ D.length ≤ 64 ∧ post (.bl true)
theorem len_l_are_entries {ds : List Dat} {post : Dat → Prop} (h : sp_l_are_entries ds post) : ds.length = 2 := by
  obtain ⟨_, rfl, _⟩ := h
  rfl
theorem c_l_are_entries (T : Top K mg) : Cal P w K mg base 3 "_law_are_entries" (spD K sp_l_are_entries) := by
  refine calD T d_l_are_entries 44 40 sc_l_are_entries (fun ds post h => len_l_are_entries h) (fun cdv A outer s H E hr => ⟨_, (xss_cons (xs_if (xt_not (xt_val (xe_c (c_l_is_list T) hr (xa_cons (xv 0) (xa_cons (xe_len T.m_len (xa_cons (xv 1) xa_nil)) xa_nil))))) (xss_one (xs_ret xbl)) xss_nil)
      (xss_cons (xs_for (vs := [2]) rfl (xi_rng1 T.m_range (xa_cons (xe_len T.m_len (xa_cons (xv 1) xa_nil)) xa_nil)) (xg_name 2 sc_l_are_entries.nd) (xss_cons (xs_if (xw_t (xw_and (xt_cmp op_isN od_isN (xe_ix ix_list od_ixL (xv 1) (xv 2)) xnon) (xw_and1 (xt_cmp op_notN od_notN (xe_ix ix_list od_ixL (xv 0) (xv 2)) xnon)))) (xss_one (xs_ret xbl)) xss_nil)
      (xss_one (xs_if (xw_t (xw_and (xt_cmp op_notN od_notN (xe_ix ix_list od_ixL (xv 1) (xv 2)) xnon) (xw_and1 (xt_not (xt_val (xe_c (c_l_is_row T) hr (xa_cons (xe_ix ix_list od_ixL (xv 0) (xv 2)) (xa_cons (xe_ix ix_list od_ixL (xv 1) (xv 2)) xa_nil)))))))) (xss_one (xs_ret xbl)) xss_nil))))
      (xss_one (xs_ret xbl)))), fun ds post h => ?_⟩)
    (fun _ _ _ _ _ _ us hl => match us, hl with | [_, _], _ => rfl)
  obtain ⟨D, rfl, hl, hp⟩ := h
  walk_at "rd"
  refine ⟨_, by rw [List.length_map], ?_⟩
  walk_at "rd"
  refine ⟨by omega, by omega, ?_⟩
  obtain ⟨I, hI⟩ : ∃ I : Nat → List Sl → Prop, ∀ m δ, I m δ ↔ ∃ s2, δ = [Sl.d (prs D), Sl.d (prs D), s2] := ⟨_, fun _ _ => Iff.rfl⟩
  refine ⟨I, (hI _ _).mpr ⟨_, rfl⟩, fun k x δ' hk h => ?_, fun δ' h => hp⟩
  obtain ⟨s2, rfl⟩ := (hI _ _).mp h
  obtain ⟨hkl, rfl⟩ := rngD_at hk
  obtain ⟨o, ho⟩ : ∃ i, D[k]? = some i := ⟨_, List.getElem?_eq_getElem hkl⟩
  walk_at "rd"
  rw [ho]
  cases o with
  | none =>
    walk_at "rd"
    exact (hI _ _).mpr ⟨_, rfl⟩
  | some q =>
    walk_at "rd"
    refine ⟨[q.1, q.2], .inr rfl, by simp, ?_⟩
    walk_at "rd"
    exact (hI _ _).mpr ⟨_, rfl⟩
def sp_l_is_pool (ds : List Dat) (post : Dat → Prop) : Prop := ∃ c r, ds = [.pool c r, lI c, .lst (r.map lI)] ∧ PoolOk c r ∧ post (.bl true)
theorem len_l_is_pool {ds : List Dat} {post : Dat → Prop} (h : sp_l_is_pool ds post) : ds.length = 3 := by
  obtain ⟨_, _, rfl, _⟩ := h
  rfl
theorem c_l_is_pool (T : Top K mg) : Cal P w K mg base 3 "_law_is_pool" (spD K sp_l_is_pool) := by
  refine calD T d_l_is_pool 40 36 sc_l_is_pool (fun ds post h => len_l_is_pool h) (fun cdv A outer s H E hr => ⟨_, (xss_cons (xs_if (xw_t (xw_or (xt_not (xt_val (xe_isP T.m_isinstance (T.glo 50) T.isPool (xv 0)))) (xw_or (xt_not (xt_val (xe_c (c_l_is_integer T) hr (xa_cons (xe_seats T.pc (xv 0)) xa_nil)))) (xw_or1 (xt_not (xt_val (xe_c (c_l_is_integer T) hr (xa_cons (xe_pieces T.pc (xv 0)) xa_nil)))))))) (xss_one (xs_ret xbl)) xss_nil)
      (xss_cons (xs_if (xw_t (xw_or (xt_cmp op_ne od_ne (xe_seats T.pc (xv 0)) (xe_len T.m_len (xa_cons (xv 1) xa_nil))) (xw_or (xt_cmp op_ne od_ne (xe_pieces T.pc (xv 0)) (xe_len T.m_len (xa_cons (xv 2) xa_nil))) (xw_or1 (xt_not (xt_val (xe_c (c_l_is_row T) hr (xa_cons (xe_caps T.pc (xv 0)) (xa_cons (xv 1) xa_nil))))))))) (xss_one (xs_ret xbl)) xss_nil)
      (xss_cons (xs_if (xw_t (xw_or (xt_not (xt_val (xe_isi (T := "tuple") T.m_isinstance T.m_tuple (xe_hold T.pc (xv 0))))) (xw_or1 (xt_cmp op_ne od_ne (xe_len T.m_len (xa_cons (xe_hold T.pc (xv 0)) xa_nil)) (xe_len T.m_len (xa_cons (xv 2) xa_nil)))))) (xss_one (xs_ret xbl)) xss_nil)
      (xss_cons (xs_for (vs := [3]) rfl (xi_rng1 T.m_range (xa_cons (xe_len T.m_len (xa_cons (xv 2) xa_nil)) xa_nil)) (xg_name 3 sc_l_is_pool.nd) (xss_one (xs_if (xt_not (xt_val (xe_c (c_l_is_row T) hr (xa_cons (xe_ix ix_tup od_ixT (xe_hold T.pc (xv 0)) (xv 3)) (xa_cons (xe_ix ix_list od_ixL (xv 2) (xv 3)) xa_nil))))) (xss_one (xs_ret xbl)) xss_nil)))
      (xss_one (xs_ret xbl)))))), fun ds post h => ?_⟩)
    (fun _ _ _ _ _ _ us hl => match us, hl with | [_, _, _], _ => rfl)
  obtain ⟨c, r, rfl, ok, hp⟩ := h
  walk_at "rd"
  have hpl := ok.p1
  have hsl := ok.s1
  refine ⟨⟨r, rfl⟩, _, rfl, ?_⟩
  walk_at "rd"
  refine ⟨_, rfl, ?_⟩
  walk_at "rd"
  refine ⟨c, .inl rfl, by omega, ?_⟩
  walk_at "rd"
  refine ⟨by omega, by omega, ?_⟩
  obtain ⟨I, hI⟩ : ∃ I : Nat → List Sl → Prop, ∀ m δ, I m δ ↔ ∃ s3, δ = [Sl.d (.pool c r), Sl.d (lI c), Sl.d (.lst (r.map lI)), s3] := ⟨_, fun _ _ => Iff.rfl⟩
  refine ⟨I, (hI _ _).mpr ⟨_, rfl⟩, fun k x δ' hk h => ?_, fun δ' h => hp⟩
  obtain ⟨s3, rfl⟩ := (hI _ _).mp h
  obtain ⟨hkl, rfl⟩ := rngD_at hk
  obtain ⟨row, hrow⟩ : ∃ i, r[k]? = some i := ⟨_, List.getElem?_eq_getElem hkl⟩
  have hrl := ok.rowLen (List.mem_of_getElem? hrow)
  walk_at "rd"
  rw [hrow]
  walk_at "rd"
  refine ⟨row, .inl rfl, by omega, ?_⟩
  walk_at "rd"
  exact (hI _ _).mpr ⟨_, rfl⟩
end
end Pw
set_option Elab.async false
set_option linter.all false
set_option maxRecDepth 100000
set_option maxHeartbeats 1000000
namespace Pw
open PySem PySem.Spec L2
/-- the reading of the data, unfolded -/
local macro_rules | `(tactic| walk_at "rd") => `(tactic| simp only [dRet, dRetN, dRetO, dRetM, dRetG, dSeq, dIf, dNext, dNever, dDrop, dAsg, dAsgN, dApp, dFrz, dFrzI, dTest, dB, dYes, dOp, dOpN, dC, dVar, dCall, dCallN, dCons, dNil, dTup, dLst, dAnd, dOr, dNot, dAndV, dOrV, dNotV, dIfE, dIsi, d2I, d2B, d2C, dIxL, dIxT, dIxS, dLen, d2Min, d2Max, dAbs, dInt, dTupOf, dListOf, dCaps, dHold, dSeats, dPieces, dIsN, dNotN, dNotB, dIn, dSorted, dSortedT, dMinB, dLenSet, dEnum, dgN, dgTup, dgCons, dgNil, dItL, dItT, dRng1, dRng2, dCat, dRep, dCatT, dSl, dNoP, dP1, dRev, dCntN, dListR, dListI,
  dIxO, dLenO, dThaw, dSetO, dAugO, dAug, dInI, dPutI, dIxI, dGetF, dAsgP, dAsgL, dGetP, dIxP, dPutP, dSetM, dSetd, dCRO, dLenGet, dOF, dSetF, dSetX, dIfNN, dCallG, dCallMt, dMtR, dCRN, dMkN, dMkP, dIsP, dFor, dForI, dLc, dLc2, dDc, dWhile, endsOf, endsN, endsM, endsG, startD, startR, startG, wipeD, isSc,
  List.map_cons, List.map_nil, List.cons_append, List.nil_append, List.append_nil, List.length_cons, List.length_nil, Nat.reduceAdd, Nat.reduceSub, List.replicate_succ, List.replicate_zero, List.getElem?_cons_zero, List.getElem?_cons_succ, List.set_cons_zero, List.set_cons_succ, Option.getD_some,
  Option.some.injEq, Sl.d.injEq, Sl.ol.injEq, Sl.oI.injEq, Sl.oP.injEq, Sl.oL.injEq, Sl.rd.injEq, Sl.oN.injEq, Sl.rN.injEq, Dat.int.injEq, Dat.bl.injEq, Dat.lst.injEq, Dat.tup.injEq, Dat.pool.injEq, Dat.scr.injEq, Dat.dI.injEq, Dat.dP.injEq, List.cons.injEq, map_int_inj, reduceCtorEq, exists_eq_left', exists_eq_left, exists_eq_right, exists_and_left, exists_const, and_true, true_and, and_false, false_and, or_false, false_or, exists_false, if_true, if_false, ite_true, ite_false, Bool.false_eq_true, and_assoc, and_self, decide_eq_true_eq, exists_prop, true_or, or_true, or_self, List.length_map, Nat.reduceLeDiff, Nat.reduceLT, atI_z, atI_1, atI_map, Option.map_some, Option.map_none, atI_nat', Int.toNat_natCast, Int.zero_add, rngD_len, enumD_len, isN_pr, Option.isNone_some, Option.isNone_none, isN_non, isN_int, isN_lst, isN_tup, isN_pool, pr_none, pr_some, List.getElem?_map, tyI, tyL, tyT, kII, kIB, kLL, kTT, decide_true, lsts_inj, isN_vB, vB_some, vB_none, kvB_len, rowB_len, clean_d, clean_no, clean_nil, Bool.not_true, Bool.not_false, fP1, fP2, fP3, fP4, lkA, lkP2, fG1, fG2, fG3, fG4, fG5, fG6, fG7, lkG1, lkG2, lkG3, lkG4, lkG5])
local macro_rules | `(tactic| walk_at "rs") => `(tactic| simp only [dRet, dRetN, dRetO, dRetM, dRetG, dSeq, dIf, dNext, dNever, dDrop, dAsg, dAsgN, dApp, dFrz, dFrzI, dTest, dB, dYes, dOp, dOpN, dC, dVar, dCall, dCallN, dCons, dNil, dTup, dLst, dAnd, dOr, dNot, dAndV, dOrV, dNotV, dIfE, dIsi, d2I, d2B, d2C, dIxL, dIxT, dIxS, dLen, d2Min, d2Max, dAbs, dInt, dTupOf, dListOf, dCaps, dHold, dSeats, dPieces, dIsN, dNotN, dNotB, dIn, dSorted, dSortedT, dMinB, dLenSet, dEnum, dgN, dgTup, dgCons, dgNil, dItL, dItT, dRng1, dRng2, dCat, dRep, dCatT, dSl, dNoP, dP1, dRev, dCntN, dListR, dListI,
  dIxO, dLenO, dThaw, dSetO, dAugO, dAug, dInI, dPutI, dIxI, dGetF, dAsgP, dAsgL, dGetP, dIxP, dPutP, dSetM, dSetd, dCRO, dLenGet, dOF, dSetF, dSetX, dIfNN, dCallG, dCallMt, dMtR, dCRN, dMkN, dMkP, dIsP, endsOf, endsN, endsM, endsG, startD, startR, startG, wipeD, isSc,
  List.map_cons, List.map_nil, List.cons_append, List.nil_append, List.append_nil, List.length_cons, List.length_nil, Nat.reduceAdd, Nat.reduceSub, List.replicate_succ, List.replicate_zero, List.getElem?_cons_zero, List.getElem?_cons_succ, List.set_cons_zero, List.set_cons_succ, Option.getD_some,
  Option.some.injEq, Sl.d.injEq, Sl.ol.injEq, Sl.oI.injEq, Sl.oP.injEq, Sl.oL.injEq, Sl.rd.injEq, Sl.oN.injEq, Sl.rN.injEq, Dat.int.injEq, Dat.bl.injEq, Dat.lst.injEq, Dat.tup.injEq, Dat.pool.injEq, Dat.scr.injEq, Dat.dI.injEq, Dat.dP.injEq, List.cons.injEq, map_int_inj, reduceCtorEq, exists_eq_left', exists_eq_left, exists_eq_right, exists_and_left, exists_const, and_true, true_and, and_false, false_and, or_false, false_or, exists_false, if_true, if_false, ite_true, ite_false, Bool.false_eq_true, and_assoc, and_self, decide_eq_true_eq, exists_prop, true_or, or_true, or_self, List.length_map, Nat.reduceLeDiff, Nat.reduceLT, atI_z, atI_1, atI_map, Option.map_some, Option.map_none, atI_nat', Int.toNat_natCast, Int.zero_add, rngD_len, enumD_len, isN_pr, Option.isNone_some, Option.isNone_none, isN_non, isN_int, isN_lst, isN_tup, isN_pool, pr_none, pr_some, List.getElem?_map, tyI, tyL, tyT, kII, kIB, kLL, kTT, decide_true, lsts_inj, isN_vB, vB_some, vB_none, kvB_len, rowB_len, clean_d, clean_no, clean_nil, Bool.not_true, Bool.not_false, fP1, fP2, fP3, fP4, lkA, lkP2, fG1, fG2, fG3, fG4, fG5, fG6, fG7, lkG1, lkG2, lkG3, lkG4, lkG5])
section
variable {P : Program} {w : World} {K : PySem.W.Frag} {mg : Str → Option Value} {base : Heap}
/-! The law's helpers over rounds. -/
def sp_l_says_dead (fs : List (Str × Dat)) (ds : List Dat) (post : Dat → Prop) : Prop := ∃ c r c0 r0 Rd ft, fs = gmF c r c0 r0 Rd ft ∧ ds = [.lst (r.map lI)] ∧ PoolOk c r ∧ post (.bl true)
theorem len_l_says_dead {fs : List (Str × Dat)} {ds : List Dat} {post : Dat → Prop} (h : sp_l_says_dead fs ds post) : ds.length + 1 = 2 := by
  obtain ⟨_, _, _, _, _, _, _, rfl, _⟩ := h
  rfl
theorem c_l_says_dead (T : Top K mg) : Cal P w K mg base 3 "_law_says_dead" (spRN K "Game" sp_l_says_dead) := by
  refine calRN T d_l_says_dead 49 45 sc_l_says_dead "Game" (fun _ _ _ _ _ _ us hl => match us, hl with | [_, _], _ => rfl) (fun fs ds post h => len_l_says_dead h) (fun cdv A outer s H E hr => ⟨_, (xss_one (xs_ret (xe_c (c_l_are_numbers T) hr (xa_cons (xe_mtR (i := 0) (c_Game_dead T) hr) (xa_cons (xe_new (xn_lc (own := [("_law_p", 2)]) rfl sc_l_says_dead.nd (xi_rng1 T.m_range (xa_cons (xe_len T.m_len (xa_cons (xv 1) xa_nil)) xa_nil)) (blkOk_by (own := [("_law_p", 2)]) (N := N_l_says_dead) (sc := defScope s_l_says_dead) (by decide +kernel)) (fun _ _ _ _ _ => (xg_name 2 sc_l_says_dead.nd)) (fun _ _ _ _ _ => (xts_one (xt_cmp op_eq od_eq (xe_len T.m_len (xa_cons (xe_ix ix_list od_ixL (xv 1) (xv 2)) xa_nil)) xint))) (fun _ _ _ _ _ => (xv 2)))) xa_nil))))), fun fs ds post h => ?_⟩)
  obtain ⟨c, r, c0, r0, Rd, ft, rfl, rfl, ok, hp⟩ := h
  have hpl := ok.p1
  unfold gmF
  walk_at "rs"
  refine ⟨c, r, c0, r0, Rd, ft, rfl, rfl, ok, ?_⟩
  refine dLc_go (List.range r.length) (fun (k : Nat) => Dat.int (k : Int)) (fun i => r[i]? == some []) (fun (k : Nat) => Dat.int (k : Int)) (by rw [List.length_range]; omega) (fun Q h => ?_) (fun k hk Y N h1 h2 => ?_) ?_
  · walk_at "rs"
    rw [rngD_0]
    exact ⟨by omega, by omega, h⟩
  · obtain ⟨row, hrow⟩ : ∃ row, r[k]? = some row := ⟨_, List.getElem?_eq_getElem (List.mem_range.mp hk)⟩
    walk_at "rs"
    rw [hrow]
    walk_at "rs"
    cases row with
    | nil =>
      rw [if_pos (by rfl)]
      exact h1 (by simp [hrow])
    | cons x row =>
      rw [if_neg (by simp; omega)]
      exact h2 (by simp [hrow])
  · rw [lI_nat]
    refine ⟨_, rfl, ?_, hp⟩
    rw [List.length_map]
    refine Nat.le_trans (List.length_filter_le _ _) ?_
    rw [List.length_range]
    omega
def sp_l_copied (ds : List Dat) (post : Dat → Prop) : Prop := ∃ R : Rnds, ds = [.lst (R.map (dRound .lst))] ∧ R.length ≤ 64 ∧ post (.lst (R.map (dRound .lst)))
theorem len_l_copied {ds : List Dat} {post : Dat → Prop} (h : sp_l_copied ds post) : ds.length = 1 := by
  obtain ⟨_, rfl, _⟩ := h
  rfl
theorem c_l_copied (T : Top K mg) : Cal P w K mg base 1 "_law_copied" (spD K sp_l_copied) := by
  refine calD T d_l_copied 45 41 sc_l_copied (fun ds post h => len_l_copied h) (fun cdv A outer s H E hr => ⟨_, (xss_one (xs_retN (xn_lc (own := [("_law_one", 1)]) rfl sc_l_copied.nd (xi_list (xv 0)) (blkOk_by (own := [("_law_one", 1)]) (N := N_l_copied) (sc := defScope s_l_copied) (by decide +kernel)) (fun _ _ _ _ _ => (xg_name 1 sc_l_copied.nd)) (fun _ _ _ _ _ => xts_nil) (fun _ _ _ _ _ => (xe_tup (xa_cons (xe_ix ix_tup od_ixT (xv 1) xint) (xa_cons (xe_new (xn_callT call_list_of cn_listOf T.m_list (xa_cons (xe_ix ix_tup od_ixT (xv 1) xint) xa_nil))) xa_nil))))))), fun ds post h => ?_⟩)
    (fun _ _ _ _ _ _ us hl => match us, hl with | [_], _ => rfl)
  obtain ⟨R, rfl, hl, hp⟩ := h
  walk_at "rs"
  refine dLc_map R (dRound .lst) (dRound .lst) (by omega) (fun Q h => ?_) (fun x hx Y h1 => ?_) hp
  · walk_at "rs"
    exact h
  · walk_at "rs"
    exact h1
def sp_l_made (ds : List Dat) (post : Dat → Prop) : Prop := ∃ c r, ds = [lI c, .lst (r.map lI)] ∧ PoolOk c r ∧ post (.pool c r)
theorem len_l_made {ds : List Dat} {post : Dat → Prop} (h : sp_l_made ds post) : ds.length = 2 := by
  obtain ⟨_, _, rfl, _⟩ := h
  rfl
theorem c_l_made (T : Top K mg) : Cal P w K mg base 5 "_law_made" (spD K sp_l_made) := by
  refine calD T d_l_made 42 38 sc_l_made (fun ds post h => len_l_made h) (fun cdv A outer s H E hr => ⟨_, (xss_one (xs_ret (xe_mkP (c_Pool_init T) hr (xa_cons (xe_new (xn_callT call_list_of cn_listOf T.m_list (xa_cons (xv 0) xa_nil))) (xa_cons (xe_new (xn_lc (own := [("_law_row", 2)]) rfl sc_l_made.nd (xi_list (xv 1)) (blkOk_by (own := [("_law_row", 2)]) (N := N_l_made) (sc := defScope s_l_made) (by decide +kernel)) (fun _ _ _ _ _ => (xg_name 2 sc_l_made.nd)) (fun _ _ _ _ _ => xts_nil) (fun _ _ _ _ _ => (xe_new (xn_callT call_list_of cn_listOf T.m_list (xa_cons (xv 2) xa_nil)))))) xa_nil))))), fun ds post h => ?_⟩)
    (fun _ _ _ _ _ _ us hl => match us, hl with | [_, _], _ => rfl)
  obtain ⟨c, r, rfl, ok, hp⟩ := h
  have hpl := ok.p1
  walk_at "rs"
  refine dLc_map r lI lI (by omega) (fun Q h => ?_) (fun x hx Y h1 => ?_) ?_
  · walk_at "rs"
    exact h
  · walk_at "rs"
    exact h1
  · exact ⟨c, r, rfl, ⟨_, _, rfl, .inl rfl, .inl rfl⟩, ok, rfl, c, r, rfl, hp⟩
def sp_l_order (ds : List Dat) (post : Dat → Prop) : Prop := ∃ n nu, ds = [.int ((n : Nat) : Int), lI nu] ∧ n ≤ 8 ∧ n ≤ nu.length ∧ ∀ row : List Int, row.Perm ((List.range n).map fun (i : Nat) => (i : Int)) → post (lI row)
theorem len_l_order {ds : List Dat} {post : Dat → Prop} (h : sp_l_order ds post) : ds.length = 2 := by
  obtain ⟨_, _, rfl, _⟩ := h
  rfl
theorem c_l_order (T : Top K mg) : Cal P w K mg base 1 "_law_order" (spD K sp_l_order) := by
  refine calD T d_l_order 47 43 sc_l_order (fun ds post h => len_l_order h) (fun cdv A outer s H E hr => ⟨_, (xss_cons (xs_set (i := 2) sc_l_order.nd (xe_new (xn_listR rfl T.m_list T.m_range (xv 0))))
      (xss_cons (xs_setN (i := 3) sc_l_order.nd (xn_lst xa_nil))
      (xss_cons (xs_for (vs := [4]) rfl (xi_rng1 T.m_range (xa_cons (xv 0) xa_nil)) (xg_name 4 sc_l_order.nd) (xss_cons (xs_set (i := 5) sc_l_order.nd (xe_op op_modN od_C (xe_callT call_int1 cd_int T.m_int (xa_cons (xe_ix ix_list od_ixL (xv 1) (xv 4)) xa_nil)) (xe_len T.m_len (xa_cons (xv 2) xa_nil))))
      (xss_cons (xs_app 3 (xe_ix ix_list od_ixL (xv 2) (xv 5)))
      (xss_one (xs_set (i := 2) sc_l_order.nd (xe_new (xn_op op_cat on_cat (xe_new (xn_slice (xv 2) xo_none (xo_some (xv 5)))) (xe_new (xn_slice (xv 2) (xo_some (xe_op op_add od_I (xv 5) xint)) xo_none)))))))))
      (xss_one (xs_retO 3))))), fun ds post h => ?_⟩)
    (fun _ _ _ _ _ _ us hl => match us, hl with | [_, _], _ => rfl)
  obtain ⟨n, nu, rfl, hn, hnu, hp⟩ := h
  walk_at "rd"
  refine ⟨by omega, by omega, by omega, by omega, ?_⟩
  rw [rngD_0, lI_nat]
  obtain ⟨I, hI⟩ : ∃ I : Nat → List Sl → Prop, ∀ m δ, I m δ ↔ ∃ left dn s4 s5, δ = [Sl.d (.int (n : Nat)), Sl.d (lI nu), Sl.d (lI left), Sl.ol (dn.map Dat.int), s4, s5] ∧ (dn ++ left).Perm ((List.range n).map fun (i : Nat) => (i : Int)) ∧ dn.length = m := ⟨_, fun _ _ => Iff.rfl⟩
  refine ⟨I, (hI _ _).mpr ⟨_, [], _, _, rfl, by rw [List.nil_append], rfl⟩, fun k x δ' hk h => ?_, fun δ' h => ?_⟩
  · obtain ⟨left, dn, s4, s5, rfl, hpm, hdl⟩ := (hI _ _).mp h
    rw [← rngD_0] at hk
    obtain ⟨hkn, rfl⟩ := rngD_at hk
    obtain ⟨i, hi⟩ : ∃ i, nu[k]? = some i := ⟨_, List.getElem?_eq_getElem (by omega)⟩
    have hll : left.length = n - k := by
      have := hpm.length_eq
      rw [List.length_append, List.length_map, List.length_range] at this
      omega
    walk_at "rd"
    rw [hi]
    walk_at "rd"
    have hpos : (0 : Int) < (left.length : Int) := by omega
    obtain ⟨j, hj⟩ : ∃ j : Nat, i.fmod (left.length : Int) = (j : Int) := ⟨_, (Int.toNat_of_nonneg (Int.fmod_nonneg_of_pos i hpos)).symm⟩
    have hjl : j < left.length := by
      have := Int.fmod_lt_of_pos i hpos
      omega
    obtain ⟨x, hx⟩ : ∃ x, left[j]? = some x := ⟨_, List.getElem?_eq_getElem hjl⟩
    have e1 : (j : Int) + 1 = ((j + 1 : Nat) : Int) := by omega
    rw [hj, e1, cutD_take (by rw [List.length_map]; omega), cutD_drop (by rw [List.length_map]; omega)]
    walk_at "rd"
    rw [hx]
    walk_at "rd"
    have e2 : (left.map Dat.int).take j ++ (left.map Dat.int).drop (j + 1) = (left.take j ++ left.drop (j + 1)).map Dat.int := by rw [List.map_append, List.map_take, List.map_drop]
    have e3 : dn.map Dat.int ++ [Dat.int x] = (dn ++ [x]).map Dat.int := by rw [List.map_append]; rfl
    rw [e2, e3]
    refine ⟨by omega, by omega, ?_, (hI _ _).mpr ⟨_, _, _, _, rfl, ?_, by rw [List.length_append, hdl]; rfl⟩⟩
    · have h1 := List.length_take_le j (left.map Dat.int)
      have h2 : ((left.map Dat.int).drop (j + 1)).length ≤ left.length := by rw [List.length_drop, List.length_map]; omega
      omega
    · refine List.Perm.trans ?_ hpm
      have hs : left = left.take j ++ x :: left.drop (j + 1) := by
        have h3 := (List.getElem?_eq_some_iff.mp hx).2
        rw [← h3, ← List.drop_eq_getElem_cons hjl, List.take_append_drop]
      rw [List.append_assoc]
      refine List.Perm.append_left dn ?_
      show (x :: (left.take j ++ left.drop (j + 1))).Perm left
      exact (List.perm_middle.symm).trans (by rw [← hs])
  · obtain ⟨left, dn, s4, s5, rfl, hpm, hdl⟩ := (hI _ _).mp h
    walk_at "rd"
    refine hp dn ?_
    have hll : left.length = 0 := by
      have := hpm.length_eq
      rw [List.length_append, List.length_map, List.length_range] at this
      omega
    rw [List.length_eq_zero_iff.mp hll, List.append_nil] at hpm
    exact hpm
end
end Pw
set_option Elab.async false
set_option linter.all false
set_option maxRecDepth 100000
set_option maxHeartbeats 1000000
namespace Pw
open PySem PySem.Spec L2
/-- the reading of the data, unfolded -/
local macro_rules | `(tactic| walk_at "rd") => `(tactic| simp only [dRet, dRetN, dRetO, dRetM, dRetG, dSeq, dIf, dNext, dNever, dDrop, dAsg, dAsgN, dApp, dFrz, dFrzI, dTest, dB, dYes, dOp, dOpN, dC, dVar, dCall, dCallN, dCons, dNil, dTup, dLst, dAnd, dOr, dNot, dAndV, dOrV, dNotV, dIfE, dIsi, d2I, d2B, d2C, dIxL, dIxT, dIxS, dLen, d2Min, d2Max, dAbs, dInt, dTupOf, dListOf, dCaps, dHold, dSeats, dPieces, dIsN, dNotN, dNotB, dIn, dSorted, dSortedT, dLenL, dMinB, dLenSet, dEnum, dgN, dgTup, dgCons, dgNil, dItL, dItT, dRng1, dRng2, dCat, dRep, dCatT, dSl, dNoP, dP1, dRev, dCntN, dListR, dListI,
  dIxO, dLenO, dThaw, dSetO, dAugO, dAug, dInI, dPutI, dIxI, dGetF, dAsgP, dAsgL, dGetP, dIxP, dPutP, dSetM, dSetd, dCRO, dLenGet, dOF, dSetF, dSetX, dIfNN, dCallG, dCallMt, dMtR, dCRN, dMkN, dMkP, dIsP, dFor, dForI, dLc, dLc2, dDc, dWhile, endsOf, endsN, endsM, endsG, startD, startR, startG, wipeD, isSc,
  List.map_cons, List.map_nil, List.cons_append, List.nil_append, List.append_nil, List.length_cons, List.length_nil, Nat.reduceAdd, Nat.reduceSub, List.replicate_succ, List.replicate_zero, List.getElem?_cons_zero, List.getElem?_cons_succ, List.set_cons_zero, List.set_cons_succ, Option.getD_some,
  Option.some.injEq, Sl.d.injEq, Sl.ol.injEq, Sl.oI.injEq, Sl.oP.injEq, Sl.oL.injEq, Sl.rd.injEq, Sl.oN.injEq, Sl.rN.injEq, Dat.int.injEq, Dat.bl.injEq, Dat.lst.injEq, Dat.tup.injEq, Dat.pool.injEq, Dat.scr.injEq, Dat.dI.injEq, Dat.dP.injEq, List.cons.injEq, map_int_inj, reduceCtorEq, exists_eq_left', exists_eq_left, exists_eq_right, exists_and_left, exists_const, and_true, true_and, and_false, false_and, or_false, false_or, exists_false, if_true, if_false, ite_true, ite_false, Bool.false_eq_true, and_assoc, and_self, decide_eq_true_eq, exists_prop, true_or, or_true, or_self, List.length_map, Nat.reduceLeDiff, Nat.reduceLT, atI_z, atI_1, atI_map, Option.map_some, Option.map_none, atI_nat', Int.toNat_natCast, Int.zero_add, rngD_len, enumD_len, isN_pr, Option.isNone_some, Option.isNone_none, isN_non, isN_int, isN_lst, isN_tup, isN_pool, pr_none, pr_some, List.getElem?_map, tyI, tyL, tyT, kII, kIB, kLL, kTT, decide_true, lsts_inj, isN_vB, vB_some, vB_none, kvB_len, rowB_len, clean_d, clean_no, clean_nil, Bool.not_true, Bool.not_false, fP1, fP2, fP3, fP4, lkA, lkP2, fG1, fG2, fG3, fG4, fG5, fG6, fG7, lkG1, lkG2, lkG3, lkG4, lkG5])
local macro_rules | `(tactic| walk_at "rs") => `(tactic| simp only [dRet, dRetN, dRetO, dRetM, dRetG, dSeq, dIf, dNext, dNever, dDrop, dAsg, dAsgN, dApp, dFrz, dFrzI, dTest, dB, dYes, dOp, dOpN, dC, dVar, dCall, dCallN, dCons, dNil, dTup, dLst, dAnd, dOr, dNot, dAndV, dOrV, dNotV, dIfE, dIsi, d2I, d2B, d2C, dIxL, dIxT, dIxS, dLen, d2Min, d2Max, dAbs, dInt, dTupOf, dListOf, dCaps, dHold, dSeats, dPieces, dIsN, dNotN, dNotB, dIn, dSorted, dSortedT, dLenL, dMinB, dLenSet, dEnum, dgN, dgTup, dgCons, dgNil, dItL, dItT, dRng1, dRng2, dCat, dRep, dCatT, dSl, dNoP, dP1, dRev, dCntN, dListR, dListI,
  dIxO, dLenO, dThaw, dSetO, dAugO, dAug, dInI, dPutI, dIxI, dGetF, dAsgP, dAsgL, dGetP, dIxP, dPutP, dSetM, dSetd, dCRO, dLenGet, dOF, dSetF, dSetX, dIfNN, dCallG, dCallMt, dMtR, dCRN, dMkN, dMkP, dIsP, endsOf, endsN, endsM, endsG, startD, startR, startG, wipeD, isSc,
  List.map_cons, List.map_nil, List.cons_append, List.nil_append, List.append_nil, List.length_cons, List.length_nil, Nat.reduceAdd, Nat.reduceSub, List.replicate_succ, List.replicate_zero, List.getElem?_cons_zero, List.getElem?_cons_succ, List.set_cons_zero, List.set_cons_succ, Option.getD_some,
  Option.some.injEq, Sl.d.injEq, Sl.ol.injEq, Sl.oI.injEq, Sl.oP.injEq, Sl.oL.injEq, Sl.rd.injEq, Sl.oN.injEq, Sl.rN.injEq, Dat.int.injEq, Dat.bl.injEq, Dat.lst.injEq, Dat.tup.injEq, Dat.pool.injEq, Dat.scr.injEq, Dat.dI.injEq, Dat.dP.injEq, List.cons.injEq, map_int_inj, reduceCtorEq, exists_eq_left', exists_eq_left, exists_eq_right, exists_and_left, exists_const, and_true, true_and, and_false, false_and, or_false, false_or, exists_false, if_true, if_false, ite_true, ite_false, Bool.false_eq_true, and_assoc, and_self, decide_eq_true_eq, exists_prop, true_or, or_true, or_self, List.length_map, Nat.reduceLeDiff, Nat.reduceLT, atI_z, atI_1, atI_map, Option.map_some, Option.map_none, atI_nat', Int.toNat_natCast, Int.zero_add, rngD_len, enumD_len, isN_pr, Option.isNone_some, Option.isNone_none, isN_non, isN_int, isN_lst, isN_tup, isN_pool, pr_none, pr_some, List.getElem?_map, tyI, tyL, tyT, kII, kIB, kLL, kTT, decide_true, lsts_inj, isN_vB, vB_some, vB_none, kvB_len, rowB_len, clean_d, clean_no, clean_nil, Bool.not_true, Bool.not_false, fP1, fP2, fP3, fP4, lkA, lkP2, fG1, fG2, fG3, fG4, fG5, fG6, fG7, lkG1, lkG2, lkG3, lkG4, lkG5])
section
variable {P : Program} {w : World} {K : PySem.W.Frag} {mg : Str → Option Value} {base : Heap}
/-! The law's rounds. -/
def sp_l_sends (ds : List Dat) (post : Dat → Prop) : Prop := ∃ c r s dr k, ds = [lI c, .lst (r.map lI), .int s, lI dr, .int ((k : Nat) : Int)] ∧ PoolOk c r ∧ k + r.length ≤ dr.length ∧ ∀ S, Allowed c r s S → post (.lst ((S : Sends).map dPair))
theorem len_l_sends {ds : List Dat} {post : Dat → Prop} (h : sp_l_sends ds post) : ds.length = 5 := by
  obtain ⟨_, _, _, _, _, rfl, _⟩ := h
  rfl
theorem c_l_sends (T : Top K mg) : Cal P w K mg base 1 "_law_sends" (spD K sp_l_sends) := by
  refine calD T d_l_sends 37 33 sc_l_sends (fun ds post h => len_l_sends h) (fun cdv A outer s H E hr => ⟨_, (xss_cons (xs_setN (i := 5) sc_l_sends.nd (xn_lst xa_nil))
      (xss_cons (xs_for (vs := [6]) rfl (xi_rng1 T.m_range (xa_cons (xe_lenL T.m_len (xv 1)) xa_nil)) (xg_name 6 sc_l_sends.nd) (xss_cons (xs_setLc (i := 7) (own := [("_law_j", 11)]) rfl sc_l_sends.nd (xi_list (xe_ix ix_list od_ixL (xv 1) (xv 6))) (blkOk_by (own := [("_law_j", 11)]) (N := N_l_sends) (sc := defScope s_l_sends) (by decide +kernel)) (fun _ _ _ _ _ => (xg_name 11 sc_l_sends.nd)) (fun _ _ _ _ _ => (xts_one (xt_cmp op_ne od_ne (xv 11) (xv 2)))) (fun _ _ _ _ _ => (xv 11)))
      (xss_one (xs_if (xw_t (xw_and (xt_cmp op_in_seq od_in (xv 2) (xe_ix ix_list od_ixL (xv 1) (xv 6))) (xw_and1 (xt_cmp op_gt od_B (xe_lenL T.m_len (xv 7)) xint)))) (xss_cons (xs_set (i := 8) sc_l_sends.nd (xe_callT call_int1 cd_int T.m_int (xa_cons (xe_ix ix_list od_ixL (xv 3) (xe_op op_add od_I (xv 4) (xv 6))) xa_nil)))
      (xss_cons (xs_set (i := 9) sc_l_sends.nd (xe_ix ix_list od_ixL (xv 7) (xe_op op_modN od_C (xv 8) (xe_lenL T.m_len (xv 7)))))
      (xss_cons (xs_set (i := 10) sc_l_sends.nd (xe_thaw 5 (xe_lenL T.m_len (xe_new (xn_lc (own := [("_law_step", 12)]) rfl sc_l_sends.nd (xi_list (xv 5)) (blkOk_by (own := [("_law_step", 12)]) (N := N_l_sends) (sc := defScope s_l_sends) (by decide +kernel)) (fun _ _ _ _ _ => (xg_name 12 sc_l_sends.nd)) (fun _ _ _ _ _ => (xts_one (xt_cmp op_eq od_eq (xe_ix ix_tup od_ixT (xv 12) xint) (xv 9)))) (fun _ _ _ _ _ => (xv 12)))))))
      (xss_one (xs_if (xw_t (xw_and (xt_cmp op_lt od_B (xv 10) (xe_ix ix_list od_ixL (xv 0) (xv 9))) (xw_and1 (xt_cmp op_gt od_B (xe_op op_modN od_C (xe_callT call_int1 cd_int T.m_int (xa_cons (xe_op op_fdivN od_C (xv 8) xint) xa_nil)) xint) xint)))) (xss_one (xs_app 5 (xe_tup (xa_cons (xv 6) (xa_cons (xv 9) xa_nil))))) xss_nil))))) xss_nil))))
      (xss_one (xs_retO 5)))), fun ds post h => ?_⟩)
    (fun _ _ _ _ _ _ us hl => match us, hl with | [_, _, _, _, _], _ => rfl)
  obtain ⟨c, r, s, dr, k, rfl, ok, hk, hp⟩ := h
  have hpl := ok.p1
  have hsl := ok.s1
  walk_at "rs"
  obtain ⟨I, hI⟩ : ∃ I : Nat → List Sl → Prop, ∀ m δ, I m δ ↔ ∃ S s6 s7 s8 s9 s10 s11 s12, δ = [Sl.d (lI c), Sl.d (.lst (r.map lI)), Sl.d (.int s), Sl.d (lI dr), Sl.d (.int ((k : Nat) : Int)), Sl.ol ((S : Sends).map dPair), s6, s7, s8, s9, s10, s11, s12] ∧ Allowed c r s S ∧ (∀ e ∈ S, e.1 < (m : Int)) ∧ S.length ≤ m := ⟨_, fun _ _ => Iff.rfl⟩
  refine dFor_go (rngD 0 r.length) (fun Q h => ?_) I ((hI _ _).mpr ⟨[], _, _, _, _, _, _, _, rfl, Allowed.nil, fun e h => (by cases h), Nat.le_refl _⟩) (fun m x δ' hm h => ?_) fun δ' h => ?_
  · walk_at "rs"
    exact ⟨by omega, by omega, h⟩
  · obtain ⟨S, s6, s7, s8, s9, s10, s11, s12, rfl, al, hlt, hSl⟩ := (hI _ _).mp h
    obtain ⟨hmr, rfl⟩ := rngD_at hm
    obtain ⟨row, hrow⟩ : ∃ row, r[m]? = some row := ⟨_, List.getElem?_eq_getElem hmr⟩
    have hrl := ok.rowLen (List.mem_of_getElem? hrow)
    have hlt2 : ∀ e ∈ S, e.1 < ((m + 1 : Nat) : Int) := fun e he => by have := hlt e he; omega
    walk_at "rs"
    refine dLc_go row .int (fun x => decide (x ≠ s)) .int (by omega) (fun Q h => ?_) (fun x hx Y N h1 h2 => ?_) ?_
    · walk_at "rs"
      rw [hrow]
      walk_at "rs"
      exact h
    · walk_at "rs"
      by_cases e : x = s
      · rw [decide_eq_true e]
        walk_at "rs"
        exact h2 (by simp [e])
      · rw [decide_eq_false e]
        walk_at "rs"
        exact h1 (by simp [e])
    · walk_at "rs"
      rw [hrow]
      walk_at "rs"
      by_cases hs : s ∈ row
      · rw [if_pos hs]
        by_cases h0 : (0 : Int) < ((row.filter fun x => decide (x ≠ s)).length : Int)
        · rw [if_pos h0]
          obtain ⟨nb, hnb⟩ : ∃ nb, dr[k + m]? = some nb := ⟨_, List.getElem?_eq_getElem (by omega)⟩
          have e1 : (k : Int) + (m : Int) = ((k + m : Nat) : Int) := by omega
          rw [e1, atI_nat', hnb]
          walk_at "rs"
          obtain ⟨j, hj⟩ : ∃ j : Nat, nb.fmod ((row.filter fun x => decide (x ≠ s)).length : Int) = (j : Int) := ⟨_, (Int.toNat_of_nonneg (Int.fmod_nonneg_of_pos nb h0)).symm⟩
          have hjl : j < (row.filter fun x => decide (x ≠ s)).length := by
            have := Int.fmod_lt_of_pos nb h0
            omega
          obtain ⟨t, ht⟩ : ∃ t, (row.filter fun x => decide (x ≠ s))[j]? = some t := ⟨_, List.getElem?_eq_getElem hjl⟩
          have htm := List.mem_filter.mp (List.mem_of_getElem? ht)
          have htr := ok.rng row (List.mem_of_getElem? hrow) t htm.1
          have htn : t ≠ s := by simpa using htm.2
          rw [hj, atI_nat', ht]
          walk_at "rs"
          refine ⟨by omega, ?_⟩
          refine dLc_go S dPair (fun e => decide (e.2 = t)) dPair (by omega) (fun Q h => ?_) (fun e he Y N h1 h2 => ?_) ?_
          · walk_at "rs"
            exact h
          · walk_at "rs"
            by_cases z : e.2 = t
            · rw [if_pos z]
              exact h1 (decide_eq_true z)
            · rw [if_neg z]
              exact h2 (decide_eq_false z)
          · walk_at "rs"
            rw [capOf_at htr.1 htr.2, ← count_snd]
            walk_at "rs"
            by_cases hc : (((S.map (·.2)).count t : Nat) : Int) < capOf c t
            · rw [if_pos hc]
              refine ⟨⟨by decide, by decide⟩, by decide, ?_⟩
              by_cases h5 : 0 < (nb.fdiv 60).fmod 5
              · rw [if_pos h5]
                refine ⟨by omega, (hI _ _).mpr ⟨S ++ [((m : Int), t)], _, _, _, _, _, _, _, by rw [List.map_append]; rfl, al.snoc hlt hrow hs htm.1 htn hc, fun e he => ?_, by rw [List.length_append]; show _ + 1 ≤ _; omega⟩⟩
                rcases List.mem_append.mp he with z | z
                · exact hlt2 e z
                · have : e = ((m : Int), t) := by simpa using z
                  rw [this]
                  show (m : Int) < _
                  omega
              · rw [if_neg h5]
                exact (hI _ _).mpr ⟨S, _, _, _, _, _, _, _, rfl, al, hlt2, by omega⟩
            · rw [if_neg hc]
              exact (hI _ _).mpr ⟨S, _, _, _, _, _, _, _, rfl, al, hlt2, by omega⟩
        · rw [if_neg h0]
          exact (hI _ _).mpr ⟨S, _, _, _, _, _, _, _, rfl, al, hlt2, by omega⟩
      · rw [if_neg hs]
        exact (hI _ _).mpr ⟨S, _, _, _, _, _, _, _, rfl, al, hlt2, by omega⟩
  · obtain ⟨S, s6, s7, s8, s9, s10, s11, s12, rfl, al, hlt, hSl⟩ := (hI _ _).mp h
    walk_at "rs"
    exact hp S al
def sp_l_round (ds : List Dat) (post : Dat → Prop) : Prop := ∃ c r s S, ds = [.lst (r.map lI), .int s, .lst ((S : Sends).map dPair)] ∧ PoolOk c r ∧ Allowed c r s S ∧ post (.lst ((roundR r s S).map lI))
theorem len_l_round {ds : List Dat} {post : Dat → Prop} (h : sp_l_round ds post) : ds.length = 3 := by
  obtain ⟨_, _, _, _, rfl, _⟩ := h
  rfl
theorem c_l_round (T : Top K mg) : Cal P w K mg base 1 "_law_round" (spD K sp_l_round) := by
  refine calD T d_l_round 38 34 sc_l_round (fun ds post h => len_l_round h) (fun cdv A outer s H E hr => ⟨_, (xss_cons (xs_setLc (i := 3) (own := [("_law_step", 7)]) rfl sc_l_round.nd (xi_list (xv 2)) (blkOk_by (own := [("_law_step", 7)]) (N := N_l_round) (sc := defScope s_l_round) (by decide +kernel)) (fun _ _ _ _ _ => (xg_name 7 sc_l_round.nd)) (fun _ _ _ _ _ => xts_nil) (fun _ _ _ _ _ => (xe_ix ix_tup od_ixT (xv 7) xint)))
      (xss_cons (xs_setN (i := 4) sc_l_round.nd (xn_lst xa_nil))
      (xss_cons (xs_for (vs := [5]) rfl (xi_rng1 T.m_range (xa_cons (xe_lenL T.m_len (xv 0)) xa_nil)) (xg_name 5 sc_l_round.nd) (xss_cons (xs_setLc (i := 6) (own := [("_law_j", 8)]) rfl sc_l_round.nd (xi_list (xe_ix ix_list od_ixL (xv 0) (xv 5))) (blkOk_by (own := [("_law_j", 8)]) (N := N_l_round) (sc := defScope s_l_round) (by decide +kernel)) (fun _ _ _ _ _ => (xg_name 8 sc_l_round.nd)) (fun _ _ _ _ _ => (xts_one (xt_cmp op_ne od_ne (xv 8) (xv 1)))) (fun _ _ _ _ _ => (xv 8)))
      (xss_cons (xs_if (xt_cmp op_in_seq od_in (xv 5) (xv 3)) (xss_one (xs_set (i := 6) sc_l_round.nd (xe_new (xn_callB (cr_or cr_sorted cr_sortedTup) (cn_or cn_sorted cn_sortedT) T.m_sorted (xa_cons (xe_new (xn_op op_cat on_cat (xv 6) (xe_new (xn_lst (xa_cons (xv 1) xa_nil))))) xa_nil))))) xss_nil)
      (xss_one (xs_app 4 (xv 6))))))
      (xss_one (xs_retO 4))))), fun ds post h => ?_⟩)
    (fun _ _ _ _ _ _ us hl => match us, hl with | [_, _, _], _ => rfl)
  obtain ⟨c, r, s, S, rfl, ok, al, hp⟩ := h
  have hpl := ok.p1
  walk_at "rs"
  have hSl : S.length ≤ r.length := by
    have h1 := lenSub (ms := (List.range r.length).map fun (i : Nat) => (i : Int)) al.nd fun x hx => by
      obtain ⟨e, he, rfl⟩ := List.mem_map.mp hx
      obtain ⟨i, row, e1, hrow, _⟩ := al.ok e he
      exact List.mem_map.mpr ⟨i, List.mem_range.mpr (List.getElem?_eq_some_iff.mp hrow).1, e1.symm⟩
    rw [List.length_map, List.length_map, List.length_range] at h1
    exact h1
  refine dLc_map S dPair (fun e => .int e.1) (by omega) (fun Q h => ?_) (fun e he Y h1 => ?_) ?_
  · walk_at "rs"
    exact h
  · walk_at "rs"
    exact h1
  · have e0 : S.map (fun e => Dat.int e.1) = (S.map (·.1)).map Dat.int := by rw [List.map_map]; rfl
    rw [e0]
    obtain ⟨I, hI⟩ : ∃ I : Nat → List Sl → Prop, ∀ m δ, I m δ ↔ ∃ s5 s6 s7 s8, δ = [Sl.d (.lst (r.map lI)), Sl.d (.int s), Sl.d (.lst (S.map dPair)), Sl.d (lI (S.map (·.1))), Sl.ol (((roundR r s S).take m).map lI), s5, s6, s7, s8] := ⟨_, fun _ _ => Iff.rfl⟩
    refine dFor_go (rngD 0 r.length) (fun Q h => ?_) I ((hI _ _).mpr ⟨_, _, _, _, rfl⟩) (fun m x δ' hm h => ?_) fun δ' h => ?_
    · walk_at "rs"
      exact ⟨by omega, by omega, h⟩
    · obtain ⟨s5, s6, s7, s8, rfl⟩ := (hI _ _).mp h
      obtain ⟨hmr, rfl⟩ := rngD_at hm
      obtain ⟨row, hrow⟩ : ∃ row, r[m]? = some row := ⟨_, List.getElem?_eq_getElem hmr⟩
      have hrl := ok.rowLen (List.mem_of_getElem? hrow)
      have hfl : (row.filter fun x => decide (x ≠ s)).length ≤ row.length := List.length_filter_le _ _
      have hat : (roundR r s S)[m]? = some (if (m : Int) ∈ S.map (·.1) then row else row.filter fun x => decide (x ≠ s)) := by
        rw [roundR_at, hrow]
        rfl
      have et := take_succ_of hat
      have htl : ((roundR r s S).take m).length ≤ m := List.length_take_le m _
      walk_at "rs"
      refine dLc_go row .int (fun x => decide (x ≠ s)) .int (by omega) (fun Q h => ?_) (fun x hx Y N h1 h2 => ?_) ?_
      · walk_at "rs"
        rw [hrow]
        walk_at "rs"
        exact h
      · walk_at "rs"
        by_cases e : x = s
        · rw [decide_eq_true e]
          walk_at "rs"
          exact h2 (by simp [e])
        · rw [decide_eq_false e]
          walk_at "rs"
          exact h1 (by simp [e])
      · walk_at "rs"
        by_cases hin : (m : Int) ∈ S.map (·.1)
        · rw [if_pos hin] at et
          obtain ⟨e, he, e1⟩ := List.mem_map.mp hin
          obtain ⟨i, row', e2, hrow', hs', ht', _⟩ := al.ok e he
          have : i = m := by omega
          subst this
          rw [hrow] at hrow'
          cases hrow'
          rw [if_pos hin]
          refine ⟨by omega, (row.filter fun x => decide (x ≠ s)) ++ [s], by rw [List.map_append]; rfl, by rw [List.length_append]; show _ + 1 < 64; omega, fun ms h1 h2 => ?_⟩
          have em := back_row (ok.asc row (List.mem_of_getElem? hrow)) hs' h1 h2
          subst em
          have ee : ((roundR r s S).take i).map lI ++ [Dat.lst (ms.map Dat.int)] = ((roundR r s S).take (i + 1)).map lI := by rw [et, List.map_append]; rfl
          rw [ee]
          exact ⟨by omega, (hI _ _).mpr ⟨_, _, _, _, rfl⟩⟩
        · rw [if_neg hin] at et
          rw [if_neg hin]
          have ee : ((roundR r s S).take m).map lI ++ [Dat.lst ((row.filter fun x => decide (x ≠ s)).map Dat.int)] = ((roundR r s S).take (m + 1)).map lI := by rw [et, List.map_append]; rfl
          rw [ee]
          exact ⟨by omega, (hI _ _).mpr ⟨_, _, _, _, rfl⟩⟩
    · obtain ⟨s5, s6, s7, s8, rfl⟩ := (hI _ _).mp h
      walk_at "rs"
      rw [List.take_of_length_le (by rw [roundR_len]; exact Nat.le_refl _)]
      exact hp
def sp_l_firsts (ds : List Dat) (post : Dat → Prop) : Prop := ∃ n R, ds = [.int ((n : Nat) : Int), .lst ((R : Rnds).map (dRound .lst))] ∧ n ≤ 64 ∧ (∀ e ∈ R, ∀ p ∈ e.2, ∃ i : Nat, p.1 = (i : Int) ∧ i < n) ∧ post (prs (firsts n (flat R)))
theorem len_l_firsts {ds : List Dat} {post : Dat → Prop} (h : sp_l_firsts ds post) : ds.length = 2 := by
  obtain ⟨_, _, rfl, _⟩ := h
  rfl
theorem c_l_firsts (T : Top K mg) : Cal P w K mg base 1 "_law_firsts" (spD K sp_l_firsts) := by
  refine calD T d_l_firsts 46 42 sc_l_firsts (fun ds post h => len_l_firsts h) (fun cdv A outer s H E hr => ⟨_, (xss_cons (xs_setN (i := 2) sc_l_firsts.nd (xn_op op_rep on_rep (xe_new (xn_lst (xa_cons xnon xa_nil))) (xv 0)))
      (xss_cons (xs_for (vs := [3]) rfl (xi_list (xv 1)) (xg_name 3 sc_l_firsts.nd) (xss_one (xs_for (vs := [4]) rfl (xi_list (xe_ix ix_tup od_ixT (xv 3) xint)) (xg_name 4 sc_l_firsts.nd) (xss_one (xs_if (xt_cmp op_isN od_isN (xe_ixO 2 (xe_ix ix_tup od_ixT (xv 4) xint)) xnon) (xss_one (xs_setO 2 (xe_ix ix_tup od_ixT (xv 4) xint) (xe_tup (xa_cons (xe_callB (call_min2 rfl) cd_min2 T.m_min (xa_cons (xe_ix ix_tup od_ixT (xv 4) xint) (xa_cons (xe_ix ix_tup od_ixT (xv 3) xint) xa_nil))) (xa_cons (xe_callB (call_max2 rfl) cd_max2 T.m_max (xa_cons (xe_ix ix_tup od_ixT (xv 4) xint) (xa_cons (xe_ix ix_tup od_ixT (xv 3) xint) xa_nil))) xa_nil))))) xss_nil)))))
      (xss_one (xs_retO 2)))), fun ds post h => ?_⟩)
    (fun _ _ _ _ _ _ us hl => match us, hl with | [_, _], _ => rfl)
  obtain ⟨n, R, rfl, hn, hR, hp⟩ := h
  have e0 : List.replicate n Dat.non = (firsts n (flat (R.take 0))).map pr := by
    rw [List.take_zero]
    show _ = (firsts n []).map pr
    rw [firsts_nil, List.map_replicate]
    rfl
  walk_at "rs"
  refine ⟨by omega, by omega, ?_⟩
  rw [e0]
  obtain ⟨I, hI⟩ : ∃ I : Nat → List Sl → Prop, ∀ m δ, I m δ ↔ ∃ s3 s4, δ = [Sl.d (.int (n : Nat)), Sl.d (.lst (R.map (dRound .lst))), Sl.ol ((firsts n (flat (R.take m))).map pr), s3, s4] := ⟨_, fun _ _ => Iff.rfl⟩
  refine dFor_go (R.map (dRound .lst)) (fun Q h => ?_) I ((hI _ _).mpr ⟨_, _, rfl⟩) (fun k x δ' hk h => ?_) fun δ' h => ?_
  · walk_at "rs"
    exact h
  · obtain ⟨s3, s4, rfl⟩ := (hI _ _).mp h
    rw [List.getElem?_map] at hk
    obtain ⟨⟨s, S⟩, hsS, rfl⟩ := map_at hk
    have hRk := hR _ (List.mem_of_getElem? hsS)
    walk_at "rs"
    have e2 : firsts n (flat (R.take k)) = firsts n (flat (R.take k) ++ (S.take 0).map fun p => (p.1, (s, p.2))) := by rw [List.take_zero, List.map_nil, List.append_nil]
    rw [e2]
    obtain ⟨J, hJ⟩ : ∃ J : Nat → List Sl → Prop, ∀ m δ, J m δ ↔ ∃ s4, δ = [Sl.d (.int (n : Nat)), Sl.d (.lst (R.map (dRound .lst))), Sl.ol ((firsts n (flat (R.take k) ++ (S.take m).map fun p => (p.1, (s, p.2)))).map pr), Sl.d (dRound .lst (s, S)), s4] := ⟨_, fun _ _ => Iff.rfl⟩
    refine dFor_go (S.map dPair) (fun Q h => ?_) J ((hJ _ _).mpr ⟨_, rfl⟩) (fun m y δ2 hm h2 => ?_) fun δ2 h2 => ?_
    · walk_at "rs"
      exact h
    · obtain ⟨s4, rfl⟩ := (hJ _ _).mp h2
      rw [List.getElem?_map] at hm
      obtain ⟨⟨p, t⟩, hpt, rfl⟩ := map_at hm
      obtain ⟨i, ei, hir⟩ := hRk _ (List.mem_of_getElem? hpt)
      have ei : p = (i : Int) := ei
      subst ei
      have e3 : (S.take (m + 1)).map (fun p => (p.1, (s, p.2))) = (S.take m).map (fun p => (p.1, (s, p.2))) ++ [((i : Int), (s, t))] := by
        rw [take_succ_of hpt, List.map_append]
        rfl
      have e4 := firsts_snoc (L := flat (R.take k) ++ (S.take m).map fun p => (p.1, (s, p.2))) (s := s) (t := t) hir
      rw [List.append_assoc, ← e3] at e4
      walk_at "rs"
      rw [firsts_at hir]
      walk_at "rs"
      cases hf : fstOf (flat (R.take k) ++ (S.take m).map fun p => (p.1, (s, p.2))) (i : Int) with
      | none =>
        rw [hf, if_pos rfl] at e4
        walk_at "rs"
        rw [ixN_of (by omega) (by rw [firsts_len]; exact Int.ofNat_lt.mpr hir), Int.toNat_natCast]
        walk_at "rs"
        have e5 : ((firsts n (flat (R.take k) ++ (S.take m).map fun p => (p.1, (s, p.2)))).map pr).set i (Dat.tup [Dat.int (if s < t then s else t), Dat.int (if s > t then s else t)]) = (firsts n (flat (R.take k) ++ (S.take (m + 1)).map fun p => (p.1, (s, p.2)))).map pr := by
          rw [e4, mkP_comm]
          exact map_set_pr (q := mkP t s)
        rw [e5]
        exact (hJ _ _).mpr ⟨_, rfl⟩
      | some q =>
        rw [hf, if_neg (by simp)] at e4
        walk_at "rs"
        rw [← e4]
        exact (hJ _ _).mpr ⟨_, rfl⟩
    · obtain ⟨s4, rfl⟩ := (hJ _ _).mp h2
      rw [List.length_map, List.take_length, ← flat_succ hsS]
      exact (hI _ _).mpr ⟨_, _, rfl⟩
  · obtain ⟨s3, s4, rfl⟩ := (hI _ _).mp h
    walk_at "rs"
    rw [List.take_length]
    exact hp
def sp_l_is_dealing (ds : List Dat) (post : Dat → Prop) : Prop := ∃ c r D, ds = [lI c, .lst (r.map lI), prs D] ∧ PoolOk c r ∧ IsDeal c r D ∧ post (.bl true)
theorem len_l_is_dealing {ds : List Dat} {post : Dat → Prop} (h : sp_l_is_dealing ds post) : ds.length = 3 := by
  obtain ⟨_, _, _, rfl, _⟩ := h
  rfl
theorem c_l_is_dealing (T : Top K mg) : Cal P w K mg base 2 "_law_is_dealing" (spD K sp_l_is_dealing) := by
  refine calD T d_l_is_dealing 34 30 sc_l_is_dealing (fun ds post h => len_l_is_dealing h) (fun cdv A outer s H E hr => ⟨_, (xss_cons (xs_if (xw_t (xw_or (xt_not (xt_val (xe_isi (T := "list") T.m_isinstance T.m_list (xv 2)))) (xw_or1 (xt_cmp op_ne od_ne (xe_lenL T.m_len (xv 2)) (xe_lenL T.m_len (xv 1)))))) (xss_one (xs_ret xbl)) xss_nil)
      (xss_cons (xs_for (vs := [3]) rfl (xi_rng1 T.m_range (xa_cons (xe_lenL T.m_len (xv 1)) xa_nil)) (xg_name 3 sc_l_is_dealing.nd) (xss_cons (xs_set (i := 4) sc_l_is_dealing.nd (xe_ix ix_list od_ixL (xv 2) (xv 3)))
      (xss_one (xs_if (xt_cmp op_notN od_notN (xv 4) xnon) (xss_cons (xs_if (xw_t (xw_or (xt_not (xt_val (xe_isi (T := "tuple") T.m_isinstance T.m_tuple (xv 4)))) (xw_or1 (xt_cmp op_ne od_ne (xe_len T.m_len (xa_cons (xv 4) xa_nil)) xint)))) (xss_one (xs_ret xbl)) xss_nil)
      (xss_cons (xs_if (xw_t (xw_or (xt_not (xt_val (xe_c (c_l_is_integer T) hr (xa_cons (xe_ix ix_tup od_ixT (xv 4) xint) xa_nil)))) (xw_or1 (xt_not (xt_val (xe_c (c_l_is_integer T) hr (xa_cons (xe_ix ix_tup od_ixT (xv 4) xint) xa_nil))))))) (xss_one (xs_ret xbl)) xss_nil)
      (xss_one (xs_if (xw_t (xw_or (xt_not (xt_cmp op_lt od_B (xe_ix ix_tup od_ixT (xv 4) xint) (xe_ix ix_tup od_ixT (xv 4) xint))) (xw_or (xt_cmp op_notIn_seq od_in (xe_ix ix_tup od_ixT (xv 4) xint) (xe_ix ix_list od_ixL (xv 1) (xv 3))) (xw_or1 (xt_cmp op_notIn_seq od_in (xe_ix ix_tup od_ixT (xv 4) xint) (xe_ix ix_list od_ixL (xv 1) (xv 3))))))) (xss_one (xs_ret xbl)) xss_nil)))) xss_nil))))
      (xss_cons (xs_for (vs := [4]) rfl (xi_list (xe_c (c_l_pairs T) hr (xa_cons (xe_lenL T.m_len (xv 0)) xa_nil))) (xg_name 4 sc_l_is_dealing.nd) (xss_one (xs_if (xt_cmp op_gt od_B (xe_lenL T.m_len (xe_new (xn_lc (own := [("_law_one", 5)]) rfl sc_l_is_dealing.nd (xi_list (xv 2)) (blkOk_by (own := [("_law_one", 5)]) (N := N_l_is_dealing) (sc := defScope s_l_is_dealing) (by decide +kernel)) (fun _ _ _ _ _ => (xg_name 5 sc_l_is_dealing.nd)) (fun _ _ _ _ _ => (xts_one (xt_cmp (op_eqD hr.units) od_eqD (xv 5) (xv 4)))) (fun _ _ _ _ _ => (xv 5))))) (xe_callB (call_min2 rfl) cd_min2 T.m_min (xa_cons (xe_ix ix_list od_ixL (xv 0) (xe_ix ix_tup od_ixT (xv 4) xint)) (xa_cons (xe_ix ix_list od_ixL (xv 0) (xe_ix ix_tup od_ixT (xv 4) xint)) xa_nil)))) (xss_one (xs_ret xbl)) xss_nil)))
      (xss_one (xs_ret xbl))))), fun ds post h => ?_⟩)
    (fun _ _ _ _ _ _ us hl => match us, hl with | [_, _, _], _ => rfl)
  obtain ⟨c, r, D, rfl, ok, hD, hp⟩ := h
  have hpl := ok.p1
  have hsl := ok.s1
  have hl := hD.len
  walk_at "rs"
  rw [if_neg (by simp [hl])]
  obtain ⟨I, hI⟩ : ∃ I : Nat → List Sl → Prop, ∀ m δ, I m δ ↔ ∃ s3 s4 s5, δ = [Sl.d (lI c), Sl.d (.lst (r.map lI)), Sl.d (prs D), s3, s4, s5] := ⟨_, fun _ _ => Iff.rfl⟩
  refine dFor_go (rngD 0 r.length) (fun Q h => ?_) I ((hI _ _).mpr ⟨_, _, _, rfl⟩) (fun m x δ' hm h => ?_) fun δ' h => ?_
  · walk_at "rs"
    exact ⟨by omega, by omega, h⟩
  · obtain ⟨s3, s4, s5, rfl⟩ := (hI _ _).mp h
    obtain ⟨hmr, rfl⟩ := rngD_at hm
    obtain ⟨o, ho⟩ : ∃ o, D[m]? = some o := ⟨_, List.getElem?_eq_getElem (by omega)⟩
    walk_at "rs"
    rw [ho]
    cases o with
    | none =>
      walk_at "rs"
      exact (hI _ _).mpr ⟨_, _, _, rfl⟩
    | some q =>
      obtain ⟨a, b⟩ := q
      obtain ⟨row, hrow, h1, h2, h3, _⟩ := hD.held m (a, b) ho
      walk_at "rs"
      rw [if_neg (by simp)]
      refine ⟨a, rfl, ?_⟩
      walk_at "rs"
      refine ⟨b, rfl, ?_⟩
      walk_at "rs"
      rw [decide_eq_true (show a < b from h3), hrow]
      walk_at "rs"
      rw [decide_eq_true (show a ∈ row from h1), decide_eq_true (show b ∈ row from h2)]
      walk_at "rs"
      exact (hI _ _).mpr ⟨_, _, _, rfl⟩
  · obtain ⟨s3, s4, s5, rfl⟩ := (hI _ _).mp h
    unfold dFor
    walk_at "rs"
    refine ⟨c.length, rfl, hsl, fun ps hps hpsl => ?_⟩
    walk_at "rs"
    obtain ⟨J, hJ⟩ : ∃ J : Nat → List Sl → Prop, ∀ m δ, J m δ ↔ ∃ s3 s4 s5, δ = [Sl.d (lI c), Sl.d (.lst (r.map lI)), Sl.d (prs D), s3, s4, s5] := ⟨_, fun _ _ => Iff.rfl⟩
    refine ⟨J, (hJ _ _).mpr ⟨_, _, _, rfl⟩, fun m x δ' hm h => ?_, fun δ' h => hp⟩
    obtain ⟨s3, s4, s5, rfl⟩ := (hJ _ _).mp h
    obtain ⟨⟨a, b⟩, hq, rfl⟩ := map_at hm
    have hab := (hps _).mp (List.mem_of_getElem? hq)
    have ha := capOf_at (c := c) (s := a) hab.1 (by have := hab.2.1; have := hab.2.2; omega)
    have hb := capOf_at (c := c) (s := b) (by have := hab.1; have := hab.2.1; omega) hab.2.2
    walk_at "rs"
    refine dLc_go D pr (fun o => decide (o = some (a, b))) pr (by omega) (fun Q h => ?_) (fun o ho Y N h1 h2 => ?_) ?_
    · walk_at "rs"
      exact h
    · walk_at "rs"
      have hsh : Sh 1 (pr o) (prPy o) := by
        cases o with
        | none => exact sh_non 1
        | some q => exact sh_pair q
      refine dEqD_sh hsh (sh_pair (a, b)) (by decide) fun bb hbb => ?_
      walk_at "rs"
      have hiff : bb = true ↔ o = some (a, b) := by
        rw [hbb]
        cases o with
        | none => exact ⟨fun z => (by cases z), fun z => (by cases z)⟩
        | some q =>
          constructor
          · intro z
            rw [pair_py (q := q) (p := (a, b)) z]
          · intro z
            cases z
            rfl
      by_cases z : bb = true
      · rw [if_pos z]
        exact h1 (decide_eq_true (hiff.mp z))
      · rw [if_neg z]
        exact h2 (decide_eq_false fun y => z (hiff.mpr y))
    · walk_at "rs"
      rw [ha, hb]
      walk_at "rs"
      have hcnt : (D.filter fun o => decide (o = some (a, b))).length = D.count (some (a, b)) := by
        rw [← List.countP_eq_length_filter, List.count_eq_countP]
        refine List.countP_congr fun o _ => ?_
        simp
      have hle : ((D.count (some (a, b)) : Nat) : Int) ≤ room c (a, b) := by
        by_cases hm : some (a, b) ∈ D
        · exact hD.full (a, b) (mem_pairs.mpr hm)
        · rw [List.count_eq_zero.mpr hm]
          have g1 := ok.cap _ (capOf_mem (c := c) (s := a) hab.1 (by have := hab.2.1; have := hab.2.2; omega))
          have g2 := ok.cap _ (capOf_mem (c := c) (s := b) (by have := hab.1; have := hab.2.1; omega) hab.2.2)
          unfold room
          split <;> (show (0 : Int) ≤ _; assumption)
      rw [hcnt, if_neg (by unfold room at hle; simp only at hle; omega)]
      exact (hJ _ _).mpr ⟨_, _, _, rfl⟩
end
end Pw
set_option Elab.async false
set_option linter.all false
set_option maxRecDepth 100000
set_option maxHeartbeats 1000000
namespace Pw
open PySem PySem.Spec L2
/-- the reading of the data, unfolded -/
local macro_rules | `(tactic| walk_at "rd") => `(tactic| simp only [dRet, dRetN, dRetO, dRetM, dRetG, dSeq, dIf, dNext, dNever, dDrop, dAsg, dAsgN, dApp, dFrz, dFrzI, dTest, dB, dYes, dOp, dOpN, dC, dVar, dCall, dCallN, dCons, dNil, dTup, dLst, dAnd, dOr, dNot, dAndV, dOrV, dNotV, dIfE, dIsi, d2I, d2B, d2C, dIxL, dIxT, dIxS, dLen, d2Min, d2Max, dAbs, dInt, dTupOf, dListOf, dCaps, dHold, dSeats, dPieces, dIsN, dNotN, dNotB, dIn, dSorted, dSortedT, dLenL, dMinB, dLenSet, dEnum, dgN, dgTup, dgCons, dgNil, dItL, dItT, dRng1, dRng2, dCat, dRep, dCatT, dSl, dNoP, dP1, dRev, dCntN, dListR, dListI,
  dIxO, dLenO, dThaw, dSetO, dAugO, dAug, dInI, dPutI, dIxI, dGetF, dAsgP, dAsgL, dGetP, dIxP, dPutP, dSetM, dSetd, dCRO, dLenGet, dOF, dSetF, dSetX, dIfNN, dCallG, dCallMt, dMtR, dCRN, dMkN, dMkP, dIsP, dFor, dForI, dLc, dLc2, dDc, dWhile, endsOf, endsN, endsM, endsG, startD, startR, startG, wipeD, isSc,
  List.map_cons, List.map_nil, List.cons_append, List.nil_append, List.append_nil, List.length_cons, List.length_nil, Nat.reduceAdd, Nat.reduceSub, List.replicate_succ, List.replicate_zero, List.getElem?_cons_zero, List.getElem?_cons_succ, List.set_cons_zero, List.set_cons_succ, Option.getD_some,
  Option.some.injEq, Sl.d.injEq, Sl.ol.injEq, Sl.oI.injEq, Sl.oP.injEq, Sl.oL.injEq, Sl.rd.injEq, Sl.oN.injEq, Sl.rN.injEq, Dat.int.injEq, Dat.bl.injEq, Dat.lst.injEq, Dat.tup.injEq, Dat.pool.injEq, Dat.scr.injEq, Dat.dI.injEq, Dat.dP.injEq, List.cons.injEq, map_int_inj, reduceCtorEq, exists_eq_left', exists_eq_left, exists_eq_right, exists_and_left, exists_const, and_true, true_and, and_false, false_and, or_false, false_or, exists_false, if_true, if_false, ite_true, ite_false, Bool.false_eq_true, and_assoc, and_self, decide_eq_true_eq, exists_prop, true_or, or_true, or_self, List.length_map, Nat.reduceLeDiff, Nat.reduceLT, atI_z, atI_1, atI_map, Option.map_some, Option.map_none, atI_nat', Int.toNat_natCast, Int.zero_add, rngD_len, enumD_len, isN_pr, Option.isNone_some, Option.isNone_none, isN_non, isN_int, isN_lst, isN_tup, isN_pool, pr_none, pr_some, List.getElem?_map, tyI, tyL, tyT, kII, kIB, kLL, kTT, decide_true, lsts_inj, isN_vB, vB_some, vB_none, kvB_len, rowB_len, clean_d, clean_no, clean_nil, Bool.not_true, Bool.not_false, fP1, fP2, fP3, fP4, lkA, lkP2, fG1, fG2, fG3, fG4, fG5, fG6, fG7, lkG1, lkG2, lkG3, lkG4, lkG5])
local macro_rules | `(tactic| walk_at "rs") => `(tactic| simp only [dRet, dRetN, dRetO, dRetM, dRetG, dSeq, dIf, dNext, dNever, dDrop, dAsg, dAsgN, dApp, dFrz, dFrzI, dTest, dB, dYes, dOp, dOpN, dC, dVar, dCall, dCallN, dCons, dNil, dTup, dLst, dAnd, dOr, dNot, dAndV, dOrV, dNotV, dIfE, dIsi, d2I, d2B, d2C, dIxL, dIxT, dIxS, dLen, d2Min, d2Max, dAbs, dInt, dTupOf, dListOf, dCaps, dHold, dSeats, dPieces, dIsN, dNotN, dNotB, dIn, dSorted, dSortedT, dLenL, dMinB, dLenSet, dEnum, dgN, dgTup, dgCons, dgNil, dItL, dItT, dRng1, dRng2, dCat, dRep, dCatT, dSl, dNoP, dP1, dRev, dCntN, dListR, dListI,
  dIxO, dLenO, dThaw, dSetO, dAugO, dAug, dInI, dPutI, dIxI, dGetF, dAsgP, dAsgL, dGetP, dIxP, dPutP, dSetM, dSetd, dCRO, dLenGet, dOF, dSetF, dSetX, dIfNN, dCallG, dCallMt, dMtR, dCRN, dMkN, dMkP, dIsP, endsOf, endsN, endsM, endsG, startD, startR, startG, wipeD, isSc,
  List.map_cons, List.map_nil, List.cons_append, List.nil_append, List.append_nil, List.length_cons, List.length_nil, Nat.reduceAdd, Nat.reduceSub, List.replicate_succ, List.replicate_zero, List.getElem?_cons_zero, List.getElem?_cons_succ, List.set_cons_zero, List.set_cons_succ, Option.getD_some,
  Option.some.injEq, Sl.d.injEq, Sl.ol.injEq, Sl.oI.injEq, Sl.oP.injEq, Sl.oL.injEq, Sl.rd.injEq, Sl.oN.injEq, Sl.rN.injEq, Dat.int.injEq, Dat.bl.injEq, Dat.lst.injEq, Dat.tup.injEq, Dat.pool.injEq, Dat.scr.injEq, Dat.dI.injEq, Dat.dP.injEq, List.cons.injEq, map_int_inj, reduceCtorEq, exists_eq_left', exists_eq_left, exists_eq_right, exists_and_left, exists_const, and_true, true_and, and_false, false_and, or_false, false_or, exists_false, if_true, if_false, ite_true, ite_false, Bool.false_eq_true, and_assoc, and_self, decide_eq_true_eq, exists_prop, true_or, or_true, or_self, List.length_map, Nat.reduceLeDiff, Nat.reduceLT, atI_z, atI_1, atI_map, Option.map_some, Option.map_none, atI_nat', Int.toNat_natCast, Int.zero_add, rngD_len, enumD_len, isN_pr, Option.isNone_some, Option.isNone_none, isN_non, isN_int, isN_lst, isN_tup, isN_pool, pr_none, pr_some, List.getElem?_map, tyI, tyL, tyT, kII, kIB, kLL, kTT, decide_true, lsts_inj, isN_vB, vB_some, vB_none, kvB_len, rowB_len, clean_d, clean_no, clean_nil, Bool.not_true, Bool.not_false, fP1, fP2, fP3, fP4, lkA, lkP2, fG1, fG2, fG3, fG4, fG5, fG6, fG7, lkG1, lkG2, lkG3, lkG4, lkG5])
section
variable {P : Program} {w : World} {K : PySem.W.Frag} {mg : Str → Option Value} {base : Heap}
/-! The law's pools. -/
def sp_l_kept (ds : List Dat) (post : Dat → Prop) : Prop := ∃ c r s dr k kd, ds = [lI c, .lst (r.map lI), .int s, lI dr, .int ((k : Nat) : Int), .int kd] ∧ PoolOk c r ∧ k + r.length ≤ dr.length ∧ dr.length ≤ 64 ∧ ∀ S, Allowed c r s S → post (.lst ((S : Sends).map dPair))
theorem len_l_kept {ds : List Dat} {post : Dat → Prop} (h : sp_l_kept ds post) : ds.length = 6 := by
  obtain ⟨_, _, _, _, _, _, rfl, _⟩ := h
  rfl
theorem c_l_kept (T : Top K mg) : Cal P w K mg base 2 "_law_kept" (spD K sp_l_kept) := by
  refine calD T d_l_kept 41 37 sc_l_kept (fun ds post h => len_l_kept h) (fun cdv A outer s H E hr => ⟨_, (xss_cons (xs_if (xt_cmp op_eq od_eq (xv 5) xint) (xss_one (xs_ret (xe_c (c_l_sends T) hr (xa_cons (xv 0) (xa_cons (xv 1) (xa_cons (xv 2) (xa_cons (xv 3) (xa_cons (xv 4) xa_nil)))))))) xss_nil)
      (xss_cons (xs_if (xt_cmp op_eq od_eq (xv 5) xint) (xss_one (xs_ret (xe_c (c_l_sends T) hr (xa_cons (xv 0) (xa_cons (xv 1) (xa_cons (xv 2) (xa_cons (xe_new (xn_lc (own := [("_law_number", 8)]) rfl sc_l_kept.nd (xi_list (xv 3)) (blkOk_by (own := [("_law_number", 8)]) (N := N_l_kept) (sc := defScope s_l_kept) (by decide +kernel)) (fun _ _ _ _ _ => (xg_name 8 sc_l_kept.nd)) (fun _ _ _ _ _ => xts_nil) (fun _ _ _ _ _ => (xe_op op_add od_I (xe_op op_modN od_C (xe_callT call_int1 cd_int T.m_int (xa_cons (xv 8) xa_nil)) xint) xint)))) (xa_cons (xv 4) xa_nil)))))))) xss_nil)
      (xss_cons (xs_set (i := 6) sc_l_kept.nd (xe_op op_sub od_I (xe_lenL T.m_len (xv 1)) xint))
      (xss_cons (xs_setLc (i := 7) (own := [("_law_p", 9)]) rfl sc_l_kept.nd (xi_rng1 T.m_range (xa_cons (xe_lenL T.m_len (xv 1)) xa_nil)) (blkOk_by (own := [("_law_p", 9)]) (N := N_l_kept) (sc := defScope s_l_kept) (by decide +kernel)) (fun _ _ _ _ _ => (xg_name 9 sc_l_kept.nd)) (fun _ _ _ _ _ => xts_nil) (fun _ _ _ _ _ => (xe_ix ix_list od_ixL (xv 1) (xe_op op_sub od_I (xv 6) (xv 9)))))
      (xss_one (xs_retN (xn_lc (own := [("_law_step", 10)]) rfl sc_l_kept.nd (xi_list (xe_c (c_l_sends T) hr (xa_cons (xv 0) (xa_cons (xv 7) (xa_cons (xv 2) (xa_cons (xv 3) (xa_cons (xv 4) xa_nil))))))) (blkOk_by (own := [("_law_step", 10)]) (N := N_l_kept) (sc := defScope s_l_kept) (by decide +kernel)) (fun _ _ _ _ _ => (xg_name 10 sc_l_kept.nd)) (fun _ _ _ _ _ => xts_nil) (fun _ _ _ _ _ => (xe_tup (xa_cons (xe_op op_sub od_I (xv 6) (xe_ix ix_tup od_ixT (xv 10) xint)) (xa_cons (xe_ix ix_tup od_ixT (xv 10) xint) xa_nil))))))))))), fun ds post h => ?_⟩)
    (fun _ _ _ _ _ _ us hl => match us, hl with | [_, _, _, _, _, _], _ => rfl)
  obtain ⟨c, r, s, dr, k, kd, rfl, ok, hk, hdl, hp⟩ := h
  have hpl := ok.p1
  walk_at "rs"
  by_cases h0 : kd = 0
  · rw [if_pos h0]
    exact ⟨c, r, s, dr, k, rfl, ok, hk, hp⟩
  · rw [if_neg h0]
    by_cases h1 : kd = 1
    · rw [if_pos h1]
      refine dLc_map dr .int (fun x => .int (x.fmod 60 + 60)) (by omega) (fun Q h => ?_) (fun x hx Y h => ?_) ?_
      · walk_at "rs"
        exact h
      · walk_at "rs"
        exact ⟨by decide, h⟩
      · rw [lI_map]
        exact ⟨c, r, s, dr.map fun x => x.fmod 60 + 60, k, rfl, ok, by rw [List.length_map]; exact hk, hp⟩
    · rw [if_neg h1]
      refine dLc_map (List.range r.length) (fun (k : Nat) => .int (k : Int)) (fun k => lI ((r.reverse[k]?).getD [])) (by rw [List.length_range]; omega) (fun Q h => ?_) (fun x hx Y h => ?_) ?_
      · walk_at "rs"
        rw [rngD_0]
        exact ⟨by omega, by omega, h⟩
      · have hxr := List.mem_range.mp hx
        have e1 : (r.length : Int) - 1 - (x : Int) = ((r.length - 1 - x : Nat) : Int) := by omega
        have e2 := List.getElem?_reverse hxr
        obtain ⟨row, hrow⟩ : ∃ row, r[r.length - 1 - x]? = some row := ⟨_, List.getElem?_eq_getElem (by omega)⟩
        rw [e2, hrow] at h
        walk_at "rs"
        rw [e1, atI_nat', hrow]
        walk_at "rs"
        exact h
      · have e3 : (List.range r.length).map (fun k => lI ((r.reverse[k]?).getD [])) = r.reverse.map lI := by
          refine List.ext_getElem? fun k => ?_
          by_cases hkr : k < r.length
          · rw [range_at hkr, List.getElem?_map]
            obtain ⟨row, hrow⟩ : ∃ row, r.reverse[k]? = some row := ⟨_, List.getElem?_eq_getElem (by simpa using hkr)⟩
            rw [hrow]
            rfl
          · rw [List.getElem?_eq_none (by simp; omega), List.getElem?_eq_none (by simp; omega)]
        rw [e3]
        refine dLc_it ?_
        walk_at "rs"
        refine ⟨c, r.reverse, s, dr, k, rfl, ok.rev, by rw [List.length_reverse]; exact hk, fun S al => ?_⟩
        have hSl : S.length ≤ r.length := by
          have h1 := lenSub (ms := (List.range r.length).map fun (i : Nat) => (i : Int)) al.nd fun x hx => by
            obtain ⟨e, he, rfl⟩ := List.mem_map.mp hx
            obtain ⟨i, row, e1, hrow, _⟩ := al.ok e he
            exact List.mem_map.mpr ⟨i, List.mem_range.mpr (by have := (List.getElem?_eq_some_iff.mp hrow).1; simpa using this), e1.symm⟩
          rw [List.length_map, List.length_map, List.length_range] at h1
          exact h1
        walk_at "rs"
        refine dLc_map S dPair (fun e => dPair ((r.length : Int) - 1 - e.1, e.2)) (by omega) (fun Q h => ?_) (fun x hx Y h => ?_) ?_
        · exact h
        · walk_at "rs"
          exact h
        · have := hp _ al.rev
          rw [List.map_map] at this
          exact this
/-- what the law's pools are -/
structure Shape (c : List Int) (r : List (List Int)) : Prop where
  ok : PoolOk c r
  s5 : c.length ≤ 5
  p8 : r.length ≤ 8
theorem Drawn.get {sizes dr : List Int} (h : Drawn sizes dr) {i : Nat} {s : Int} (hi : sizes[i]? = some s) : ∃ d, dr[i]? = some d ∧ 0 ≤ d ∧ d < s := by
  have hl := (List.getElem?_eq_some_iff.mp hi).1
  obtain ⟨d, hd⟩ : ∃ d, dr[i]? = some d := ⟨_, List.getElem?_eq_getElem (by rw [h.1]; exact hl)⟩
  exact ⟨d, hd, h.2 i d s hd hi⟩
abbrev szPool : List Int := [5, 9, 5] ++ List.replicate 5 6 ++ List.replicate 8 32 ++ List.replicate 8 10
abbrev szCrowd : List Int := [3, 6] ++ List.replicate 5 6 ++ List.replicate 16 60
theorem szP3 {k : Nat} (h : k < 5) : szPool[3 + k]? = some 6 := by
  match k, h with
  | 0, _ => rfl
  | 1, _ => rfl
  | 2, _ => rfl
  | 3, _ => rfl
  | 4, _ => rfl
theorem szP8 {k : Nat} (h : k < 8) : szPool[8 + k]? = some 32 := by
  match k, h with
  | 0, _ => rfl
  | 1, _ => rfl
  | 2, _ => rfl
  | 3, _ => rfl
  | 4, _ => rfl
  | 5, _ => rfl
  | 6, _ => rfl
  | 7, _ => rfl
theorem szP16 {k : Nat} (h : k < 8) : szPool[16 + k]? = some 10 := by
  match k, h with
  | 0, _ => rfl
  | 1, _ => rfl
  | 2, _ => rfl
  | 3, _ => rfl
  | 4, _ => rfl
  | 5, _ => rfl
  | 6, _ => rfl
  | 7, _ => rfl
theorem szC2 {k : Nat} (h : k < 5) : szCrowd[2 + k]? = some 6 := by
  match k, h with
  | 0, _ => rfl
  | 1, _ => rfl
  | 2, _ => rfl
  | 3, _ => rfl
  | 4, _ => rfl
theorem szC7 {k : Nat} (h : k < 16) : szCrowd[7 + k]? = some 60 := by
  have : ∀ k : Fin 16, szCrowd[7 + k.1]? = some 60 := by decide
  exact this ⟨k, h⟩
/-- a row of holders -/
def RowOk (n : Nat) (row : List Int) : Prop := row.Pairwise (· < ·) ∧ ∀ x ∈ row, 0 ≤ x ∧ x < (n : Int)
def sp_l_pool (ds : List Dat) (post : Dat → Prop) : Prop := ∃ z, ds = [.int z, .int 8] ∧ ∀ c r, Shape c r → post (.tup [lI c, .lst (r.map lI)])
theorem len_l_pool {ds : List Dat} {post : Dat → Prop} (h : sp_l_pool ds post) : ds.length = 2 := by
  obtain ⟨_, rfl, _⟩ := h
  rfl
theorem c_l_pool (T : Top K mg) : Cal P w K mg base 2 "_law_pool" (spD K sp_l_pool) := by
  refine calD T d_l_pool 32 28 sc_l_pool (fun ds post h => len_l_pool h) (fun cdv A outer s H E hr => ⟨_, (xss_cons (xs_set (i := 2) sc_l_pool.nd (xe_c (c_l_draws T) hr (xa_cons (xv 0) (xa_cons (xe_new (xn_op op_cat on_cat (xe_new (xn_op op_cat on_cat (xe_new (xn_op op_cat on_cat (xe_new (xn_lst (xa_cons xint (xa_cons (xe_op op_add od_I (xv 1) xint) (xa_cons xint xa_nil))))) (xe_new (xn_op op_rep on_rep (xe_new (xn_lst (xa_cons xint xa_nil))) xint)))) (xe_new (xn_op op_rep on_rep (xe_new (xn_lst (xa_cons xint xa_nil))) xint)))) (xe_new (xn_op op_rep on_rep (xe_new (xn_lst (xa_cons xint xa_nil))) xint)))) xa_nil))))
      (xss_cons (xs_set (i := 3) sc_l_pool.nd (xe_op op_add od_I (xe_ix ix_list od_ixL (xv 2) xint) xint))
      (xss_cons (xs_set (i := 4) sc_l_pool.nd (xe_new (xn_lc (own := [("_law_k", 10)]) rfl sc_l_pool.nd (xi_rng1 T.m_range (xa_cons (xv 3) xa_nil)) (blkOk_by (own := [("_law_k", 10)]) (N := N_l_pool) (sc := defScope s_l_pool) (by decide +kernel)) (fun _ _ _ _ _ => (xg_name 10 sc_l_pool.nd)) (fun _ _ _ _ _ => xts_nil) (fun _ _ _ _ _ => (xe_ix ix_tup od_ixT (xe_tup (xa_cons xint (xa_cons xint (xa_cons xint (xa_cons xint (xa_cons xint (xa_cons (xe_op op_add od_I (xe_op op_pow od_C xint xint) (xv 10)) xa_nil))))))) (xe_ix ix_list od_ixL (xv 2) (xe_op op_add od_I xint (xv 10))))))))
      (xss_cons (xs_set (i := 5) sc_l_pool.nd (xe_c (c_l_pairs T) hr (xa_cons (xv 3) xa_nil)))
      (xss_cons (xs_setN (i := 6) sc_l_pool.nd (xn_lst xa_nil))
      (xss_cons (xs_for (vs := [7]) rfl (xi_rng1 T.m_range (xa_cons (xe_ix ix_list od_ixL (xv 2) xint) xa_nil)) (xg_name 7 sc_l_pool.nd) (xss_cons (xs_set (i := 8) sc_l_pool.nd (xe_c (c_l_bits T) hr (xa_cons (xe_ix ix_list od_ixL (xv 2) (xe_op op_add od_I xint (xv 7))) (xa_cons (xv 3) xa_nil))))
      (xss_cons (xs_if (xw_t (xw_and (xt_cmp op_eq od_eq (xe_ix ix_list od_ixL (xv 2) xint) xint) (xw_and1 (xt_cmp op_gt od_B (xe_lenL T.m_len (xv 5)) xint)))) (xss_cons (xs_set (i := 9) sc_l_pool.nd (xe_ix ix_list od_ixL (xv 5) (xe_op op_modN od_C (xe_callT call_int1 cd_int T.m_int (xa_cons (xe_ix ix_list od_ixL (xv 2) (xe_op op_add od_I xint (xv 7))) xa_nil)) (xe_lenL T.m_len (xv 5)))))
      (xss_one (xs_set (i := 8) sc_l_pool.nd (xe_new (xn_lc (own := [("_law_k", 10)]) rfl sc_l_pool.nd (xi_rng1 T.m_range (xa_cons (xv 3) xa_nil)) (blkOk_by (own := [("_law_k", 10)]) (N := N_l_pool) (sc := defScope s_l_pool) (by decide +kernel)) (fun _ _ _ _ _ => (xg_name 10 sc_l_pool.nd)) (fun _ _ _ _ _ => (xts_one (xw_t (xw_or (xt_cmp op_in_seq od_in (xv 10) (xv 8)) (xw_or1 (xt_cmp op_in_seq od_in (xv 10) (xv 9))))))) (fun _ _ _ _ _ => (xv 10))))))) xss_nil)
      (xss_cons (xs_if (xw_t (xw_and (xt_cmp op_eq od_eq (xe_ix ix_list od_ixL (xv 2) xint) xint) (xw_and1 (xt_cmp op_gt od_B (xe_lenL T.m_len (xv 5)) xint)))) (xss_one (xs_set (i := 8) sc_l_pool.nd (xe_new (xn_callT call_list_of cn_listOf T.m_list (xa_cons (xe_ix ix_list od_ixL (xv 5) (xe_op op_modN od_C (xe_callT call_int1 cd_int T.m_int (xa_cons (xe_ix ix_list od_ixL (xv 2) (xe_op op_add od_I xint (xv 7))) xa_nil)) (xe_lenL T.m_len (xv 5)))) xa_nil))))) xss_nil)
      (xss_cons (xs_if (xt_cmp op_eq od_eq (xe_ix ix_list od_ixL (xv 2) xint) xint) (xss_one (xs_set (i := 8) sc_l_pool.nd (xe_c (c_l_bits T) hr (xa_cons (xe_ix ix_list od_ixL (xv 2) (xe_op op_add od_I xint (xe_op op_fdivN od_C (xv 7) xint))) (xa_cons (xv 3) xa_nil))))) xss_nil)
      (xss_one (xs_app 6 (xv 8))))))))
      (xss_cons (xs_if (xt_cmp op_eq od_eq (xe_ix ix_list od_ixL (xv 2) xint) xint) (xss_one (xs_set (i := 4) sc_l_pool.nd (xe_new (xn_lc (own := [("_law_k", 10)]) rfl sc_l_pool.nd (xi_rng1 T.m_range (xa_cons (xv 3) xa_nil)) (blkOk_by (own := [("_law_k", 10)]) (N := N_l_pool) (sc := defScope s_l_pool) (by decide +kernel)) (fun _ _ _ _ _ => (xg_name 10 sc_l_pool.nd)) (fun _ _ _ _ _ => xts_nil) (fun _ _ _ _ _ => (xe_ix ix_list od_ixL (xv 4) xint)))))) xss_nil)
      (xss_frz 6 (xss_one (xs_ret (xe_tup (xa_cons (xv 4) (xa_cons (xv 6) xa_nil))))))))))))), fun ds post h => ?_⟩)
    (fun _ _ _ _ _ _ us hl => match us, hl with | [_, _], _ => rfl)
  obtain ⟨z, rfl, hp⟩ := h
  walk_at "rs"
  refine ⟨by decide, by decide, by decide, by decide, by decide, by decide, by decide, by decide, by decide, z, szPool, rfl, by decide, by decide, fun dr hdr => ?_⟩
  obtain ⟨d0, e0, h0, h0'⟩ := hdr.get (i := 0) (s := 5) rfl
  obtain ⟨d1, e1, h1, h1'⟩ := hdr.get (i := 1) (s := 9) rfl
  obtain ⟨d2, e2, h2, h2'⟩ := hdr.get (i := 2) (s := 5) rfl
  obtain ⟨n, hn⟩ : ∃ n : Nat, d0 + 1 = (n : Int) := ⟨(d0 + 1).toNat, by omega⟩
  have a0 : atI dr 0 = some d0 := (atI_of (j := 0) rfl).trans e0
  have a1 : atI dr 1 = some d1 := (atI_of (j := 1) rfl).trans e1
  have a2 : atI dr 2 = some d2 := (atI_of (j := 2) rfl).trans e2
  walk_at "rs"
  rw [a0]
  walk_at "rs"
  rw [hn]
  have hn1 : 1 ≤ n := by omega
  have hn5 : n ≤ 5 := by omega
  refine dLc_ints n (by omega) (fun Q h => ?_) (fun x => 0 ≤ x) (fun k hk Y hY => ?_) fun c hcl hc0 => ?_
  · walk_at "rs"
    rw [rngD_0]
    exact ⟨by omega, by omega, h⟩
  · obtain ⟨d, ed, hd0, hd6⟩ := hdr.get (i := 3 + k) (s := 6) (szP3 (by omega))
    have ek : (3 : Int) + (k : Int) = ((3 + k : Nat) : Int) := by omega
    walk_at "rs"
    rw [ek, atI_nat', ed]
    walk_at "rs"
    refine ⟨⟨by decide, by decide, by decide⟩, ?_⟩
    obtain ⟨j, rfl⟩ : ∃ j : Nat, d = (j : Int) := ⟨d.toNat, by omega⟩
    rw [atI_nat']
    have hj : j = 0 ∨ j = 1 ∨ j = 2 ∨ j = 3 ∨ j = 4 ∨ j = 5 := by omega
    rcases hj with rfl | rfl | rfl | rfl | rfl | rfl
    all_goals
      refine ⟨_, rfl, hY _ ?_⟩
      first | decide | (have : (0 : Int) ≤ 10 ^ Int.toNat 12 := by decide
                        omega)
  · refine ⟨n, rfl, by omega, fun ps hps hpl => ?_⟩
    obtain ⟨I, hI⟩ : ∃ I : Nat → List Sl → Prop, ∀ m δ, I m δ ↔ ∃ hs s7 s8 s9 s10, δ = [Sl.d (.int z), Sl.d (.int 8), Sl.d (lI dr), Sl.d (.int ((n : Nat) : Int)), Sl.d (lI c), Sl.d (.lst (ps.map dPair)), Sl.ol ((hs : List (List Int)).map lI), s7, s8, s9, s10] ∧ (∀ row ∈ hs, RowOk n row) ∧ hs.length = m := ⟨_, fun _ _ => Iff.rfl⟩
    refine dFor_go (rngD 0 d1.toNat) (fun Q h => ?_) I ((hI _ _).mpr ⟨[], _, _, _, _, rfl, fun row h => (by cases h), rfl⟩) (fun m x δ' hm h => ?_) fun δ' h => ?_
    · walk_at "rs"
      rw [a1]
      walk_at "rs"
      exact ⟨by omega, by omega, h⟩
    · obtain ⟨hs, s7, s8, s9, s10, rfl, hrows, hhl⟩ := (hI _ _).mp h
      obtain ⟨hm1, rfl⟩ := rngD_at hm
      have hm8 : m < 8 := by omega
      obtain ⟨b, eb, _, _⟩ := hdr.get (i := 8 + m) (s := 32) (szP8 hm8)
      obtain ⟨t, et, ht0, _⟩ := hdr.get (i := 16 + m) (s := 10) (szP16 hm8)
      have k8 : (8 : Int) + (m : Int) = ((8 + m : Nat) : Int) := by omega
      have k16 : (16 : Int) + (m : Int) = ((16 + m : Nat) : Int) := by omega
      have hend : ∀ (row : List Int) (s9 : Sl), RowOk n row → I (m + 1) [Sl.d (.int z), Sl.d (.int 8), Sl.d (lI dr), Sl.d (.int ((n : Nat) : Int)), Sl.d (lI c), Sl.d (.lst (ps.map dPair)), Sl.ol (hs.map lI ++ [lI row]), Sl.d (.int ((m : Nat) : Int)), Sl.d (lI row), s9, s10] := fun row s9 hr => by
        have e : hs.map lI ++ [lI row] = (hs ++ [row]).map lI := by rw [List.map_append]; rfl
        rw [e]
        refine (hI _ _).mpr ⟨hs ++ [row], _, _, _, _, rfl, fun row' h => ?_, by rw [List.length_append, hhl]; rfl⟩
        rcases List.mem_append.mp h with q | q
        · exact hrows row' q
        · have : row' = row := by simpa using q
          rw [this]
          exact hr
      have hd2 : d2 = 0 ∨ d2 = 1 ∨ d2 = 2 ∨ d2 = 3 ∨ d2 = 4 := by omega
      -- a pair drawn
      have hpair : 0 < (ps.length : Int) → ∃ q, atI ps (t.fmod (ps.length : Int)) = some q ∧ 0 ≤ q.1 ∧ q.1 < q.2 ∧ q.2 < (n : Int) := fun h0 => by
        obtain ⟨j, hj⟩ : ∃ j : Nat, t.fmod (ps.length : Int) = (j : Int) := ⟨_, (Int.toNat_of_nonneg (Int.fmod_nonneg_of_pos t h0)).symm⟩
        have hjl : j < ps.length := by
          have := Int.fmod_lt_of_pos t h0
          omega
        rw [hj, atI_nat']
        exact ⟨ps[j], List.getElem?_eq_getElem hjl, (hps _).mp (List.getElem_mem hjl)⟩
      have hhs : hs.length < 100000 := by omega
      walk_at "rs"
      rw [k8, k16, atI_nat', atI_nat', eb, et, a2]
      walk_at "rs"
      refine ⟨b, n, rfl, by omega, fun row hrow hrng => ?_⟩
      rcases hd2 with rfl | rfl | rfl | rfl | rfl
      · simp only [Int.reduceEq, if_false]
        exact ⟨hhs, hend row _ ⟨hrow, hrng⟩⟩
      · simp only [Int.reduceEq, if_false, if_true]
        by_cases h0 : (0 : Int) < (ps.length : Int)
        · rw [if_pos h0]
          obtain ⟨q, eq, hq⟩ := hpair h0
          rw [eq]
          walk_at "rs"
          refine ⟨by omega, ?_⟩
          refine dLc_go (List.range n) (fun (k : Nat) => Dat.int (k : Int)) (fun k => decide ((k : Int) ∈ row) || decide ((k : Int) ∈ [q.1, q.2])) (fun (k : Nat) => Dat.int (k : Int)) (by rw [List.length_range]; omega) (fun Q h => ?_) (fun k hk Y N h1 h2 => ?_) ?_
          · walk_at "rs"
            rw [rngD_0]
            exact ⟨by omega, by omega, h⟩
          · walk_at "rs"
            by_cases g1 : (k : Int) ∈ row
            · rw [if_pos g1]
              exact h1 (by simp [g1])
            · rw [if_neg g1]
              refine ⟨[q.1, q.2], by simp, ?_⟩
              by_cases g2 : (k : Int) ∈ [q.1, q.2]
              · rw [if_pos g2]
                exact h1 (by rw [decide_eq_true g2]; simp)
              · rw [if_neg g2]
                exact h2 (by rw [decide_eq_false g1, decide_eq_false g2]; rfl)
          · rw [lI_nat]
            exact ⟨hhs, hend _ _ (asc_range n _)⟩
        · rw [if_neg h0]
          exact ⟨hhs, hend row _ ⟨hrow, hrng⟩⟩
      · simp only [Int.reduceEq, if_false, if_true]
        by_cases h0 : (0 : Int) < (ps.length : Int)
        · rw [if_pos h0]
          obtain ⟨q, eq, hq⟩ := hpair h0
          rw [eq]
          walk_at "rs"
          refine ⟨by omega, hhs, hend [q.1, q.2] _ ⟨by simp; omega, fun x hx => ?_⟩⟩
          rcases List.mem_cons.mp hx with z | z
          · omega
          · have : x = q.2 := by simpa using z
            omega
        · rw [if_neg h0]
          exact ⟨hhs, hend row _ ⟨hrow, hrng⟩⟩
      · simp only [Int.reduceEq, if_false, if_true]
        have k4 : (8 : Int) + (m : Int).fdiv 4 = ((8 + m / 4 : Nat) : Int) := by
          have : ((m / 4 : Nat) : Int) = (m : Int).fdiv 4 := Int.ofNat_fdiv m 4
          omega
        obtain ⟨b4, eb4, _, _⟩ := hdr.get (i := 8 + m / 4) (s := 32) (szP8 (by omega))
        rw [k4, atI_nat', eb4]
        walk_at "rs"
        exact ⟨⟨by decide, by decide⟩, b4, n, rfl, by omega, fun row2 hrow2 hrng2 => ⟨hhs, hend row2 _ ⟨hrow2, hrng2⟩⟩⟩
      · simp only [Int.reduceEq, if_false]
        exact ⟨hhs, hend row _ ⟨hrow, hrng⟩⟩
    · obtain ⟨hs, s7, s8, s9, s10, rfl, hrows, hhl⟩ := (hI _ _).mp h
      rw [rngD_len] at hhl
      have hfin : ∀ c' : List Int, c'.length = n → (∀ x ∈ c', 0 ≤ x) → post (.tup [lI c', .lst (hs.map lI)]) := fun c' h1 h2 => hp c' hs ⟨⟨by omega, by omega, by omega, h2, fun row h => (hrows row h).1, fun row h x hx => by rw [h1]; exact (hrows row h).2 x hx⟩, by omega, by omega⟩
      walk_at "rs"
      rw [a2]
      walk_at "rs"
      by_cases h4 : d2 = 4
      · rw [if_pos h4]
        obtain ⟨x0, hx0⟩ : ∃ x, c[0]? = some x := ⟨_, List.getElem?_eq_getElem (by omega)⟩
        have a0c : atI c 0 = some x0 := (atI_of (j := 0) rfl).trans hx0
        refine dLc_ints n (by omega) (fun Q h => ?_) (fun x => 0 ≤ x) (fun k hk Y hY => ?_) fun c' h1 h2 => hfin c' h1 h2
        · walk_at "rs"
          rw [rngD_0]
          exact ⟨by omega, by omega, h⟩
        · walk_at "rs"
          rw [a0c]
          walk_at "rs"
          exact hY x0 (hc0 x0 (List.mem_of_getElem? hx0))
      · rw [if_neg h4]
        exact hfin c hcl hc0
def sp_l_crowded (ds : List Dat) (post : Dat → Prop) : Prop := ∃ z, ds = [.int z, .int 8] ∧ ∀ c r, Shape c r → post (.tup [lI c, .lst (r.map lI)])
theorem len_l_crowded {ds : List Dat} {post : Dat → Prop} (h : sp_l_crowded ds post) : ds.length = 2 := by
  obtain ⟨_, rfl, _⟩ := h
  rfl
theorem c_l_crowded (T : Top K mg) : Cal P w K mg base 2 "_law_crowded" (spD K sp_l_crowded) := by
  refine calD T d_l_crowded 33 29 sc_l_crowded (fun ds post h => len_l_crowded h) (fun cdv A outer s H E hr => ⟨_, (xss_cons (xs_set (i := 2) sc_l_crowded.nd (xe_c (c_l_draws T) hr (xa_cons (xv 0) (xa_cons (xe_new (xn_op op_cat on_cat (xe_new (xn_op op_cat on_cat (xe_new (xn_lst (xa_cons xint (xa_cons (xe_op op_sub od_I (xv 1) xint) xa_nil)))) (xe_new (xn_op op_rep on_rep (xe_new (xn_lst (xa_cons xint xa_nil))) xint)))) (xe_new (xn_op op_rep on_rep (xe_new (xn_lst (xa_cons xint xa_nil))) xint)))) xa_nil))))
      (xss_cons (xs_set (i := 3) sc_l_crowded.nd (xe_op op_add od_I (xe_ix ix_list od_ixL (xv 2) xint) xint))
      (xss_cons (xs_set (i := 4) sc_l_crowded.nd (xe_c (c_l_pairs T) hr (xa_cons (xv 3) xa_nil)))
      (xss_cons (xs_setLc (i := 5) (own := [("_law_k", 10)]) rfl sc_l_crowded.nd (xi_rng1 T.m_range (xa_cons (xv 3) xa_nil)) (blkOk_by (own := [("_law_k", 10)]) (N := N_l_crowded) (sc := defScope s_l_crowded) (by decide +kernel)) (fun _ _ _ _ _ => (xg_name 10 sc_l_crowded.nd)) (fun _ _ _ _ _ => xts_nil) (fun _ _ _ _ _ => (xe_ix ix_tup od_ixT (xe_tup (xa_cons xint (xa_cons xint (xa_cons xint (xa_cons xint (xa_cons xint (xa_cons xint xa_nil))))))) (xe_ix ix_list od_ixL (xv 2) (xe_op op_add od_I xint (xv 10))))))
      (xss_cons (xs_setN (i := 6) sc_l_crowded.nd (xn_lst xa_nil))
      (xss_cons (xs_for (vs := [7]) rfl (xi_rng1 T.m_range (xa_cons (xe_op op_add od_I (xe_ix ix_list od_ixL (xv 2) xint) xint) xa_nil)) (xg_name 7 sc_l_crowded.nd) (xss_cons (xs_set (i := 8) sc_l_crowded.nd (xe_ix ix_list od_ixL (xv 4) (xe_op op_modN od_C (xe_callT call_int1 cd_int T.m_int (xa_cons (xe_ix ix_list od_ixL (xv 2) (xe_op op_add od_I xint (xv 7))) xa_nil)) (xe_lenL T.m_len (xv 4)))))
      (xss_cons (xs_set (i := 9) sc_l_crowded.nd (xe_op op_modN od_C (xe_callT call_int1 cd_int T.m_int (xa_cons (xe_ix ix_list od_ixL (xv 2) (xe_op op_add od_I xint (xv 7))) xa_nil)) (xe_op op_add od_I (xv 3) xint)))
      (xss_one (xs_app 6 (xe_new (xn_lc (own := [("_law_k", 10)]) rfl sc_l_crowded.nd (xi_rng1 T.m_range (xa_cons (xv 3) xa_nil)) (blkOk_by (own := [("_law_k", 10)]) (N := N_l_crowded) (sc := defScope s_l_crowded) (by decide +kernel)) (fun _ _ _ _ _ => (xg_name 10 sc_l_crowded.nd)) (fun _ _ _ _ _ => (xts_one (xw_t (xw_or (xt_cmp op_in_seq od_in (xv 10) (xv 8)) (xw_or1 (xt_cmp op_eq od_eq (xv 10) (xv 9))))))) (fun _ _ _ _ _ => (xv 10)))))))))
      (xss_frz 6 (xss_one (xs_ret (xe_tup (xa_cons (xv 5) (xa_cons (xv 6) xa_nil)))))))))))), fun ds post h => ?_⟩)
    (fun _ _ _ _ _ _ us hl => match us, hl with | [_, _], _ => rfl)
  obtain ⟨z, rfl, hp⟩ := h
  walk_at "rs"
  refine ⟨by decide, by decide, by decide, by decide, by decide, by decide, z, szCrowd, rfl, by decide, by decide, fun dr hdr => ?_⟩
  obtain ⟨d0, e0, h0, h0'⟩ := hdr.get (i := 0) (s := 3) rfl
  obtain ⟨d1, e1, h1, h1'⟩ := hdr.get (i := 1) (s := 6) rfl
  obtain ⟨n, hn⟩ : ∃ n : Nat, d0 + 3 = (n : Int) := ⟨(d0 + 3).toNat, by omega⟩
  have a0 : atI dr 0 = some d0 := (atI_of (j := 0) rfl).trans e0
  have a1 : atI dr 1 = some d1 := (atI_of (j := 1) rfl).trans e1
  walk_at "rs"
  rw [a0]
  walk_at "rs"
  rw [hn]
  have hn1 : 3 ≤ n := by omega
  have hn5 : n ≤ 5 := by omega
  refine ⟨n, rfl, by omega, fun ps hps hpl => ?_⟩
  refine dLc_ints n (by omega) (fun Q h => ?_) (fun x => 0 ≤ x) (fun k hk Y hY => ?_) fun c hcl hc0 => ?_
  · walk_at "rs"
    rw [rngD_0]
    exact ⟨by omega, by omega, h⟩
  · obtain ⟨d, ed, hd0, hd6⟩ := hdr.get (i := 2 + k) (s := 6) (szC2 (by omega))
    have ek : (2 : Int) + (k : Int) = ((2 + k : Nat) : Int) := by omega
    walk_at "rs"
    rw [ek, atI_nat', ed]
    walk_at "rs"
    obtain ⟨j, rfl⟩ : ∃ j : Nat, d = (j : Int) := ⟨d.toNat, by omega⟩
    rw [atI_nat']
    have hj : j = 0 ∨ j = 1 ∨ j = 2 ∨ j = 3 ∨ j = 4 ∨ j = 5 := by omega
    rcases hj with rfl | rfl | rfl | rfl | rfl | rfl
    all_goals exact ⟨_, rfl, hY _ (by decide)⟩
  · obtain ⟨I, hI⟩ : ∃ I : Nat → List Sl → Prop, ∀ m δ, I m δ ↔ ∃ hs s7 s8 s9 s10, δ = [Sl.d (.int z), Sl.d (.int 8), Sl.d (lI dr), Sl.d (.int ((n : Nat) : Int)), Sl.d (.lst (ps.map dPair)), Sl.d (lI c), Sl.ol ((hs : List (List Int)).map lI), s7, s8, s9, s10] ∧ (∀ row ∈ hs, RowOk n row) ∧ hs.length = m := ⟨_, fun _ _ => Iff.rfl⟩
    refine dFor_go (rngD 0 (d1 + 3).toNat) (fun Q h => ?_) I ((hI _ _).mpr ⟨[], _, _, _, _, rfl, fun row h => (by cases h), rfl⟩) (fun m x δ' hm h => ?_) fun δ' h => ?_
    · walk_at "rs"
      rw [a1]
      walk_at "rs"
      exact ⟨by omega, by omega, h⟩
    · obtain ⟨hs, s7, s8, s9, s10, rfl, hrows, hhl⟩ := (hI _ _).mp h
      obtain ⟨hm1, rfl⟩ := rngD_at hm
      have hm8 : m < 8 := by omega
      obtain ⟨t, et, ht0, _⟩ := hdr.get (i := 7 + m) (s := 60) (szC7 (by omega))
      obtain ⟨u, eu, hu0, _⟩ := hdr.get (i := 7 + (8 + m)) (s := 60) (szC7 (by omega))
      have k7 : (7 : Int) + (m : Int) = ((7 + m : Nat) : Int) := by omega
      have k15 : (15 : Int) + (m : Int) = ((7 + (8 + m) : Nat) : Int) := by omega
      have hpl0 : 0 < (ps.length : Int) := by
        have := List.length_pos_of_mem ((hps (0, 1)).mpr ⟨by decide, by decide, by show (1 : Int) < _; omega⟩)
        omega
      obtain ⟨j, hj⟩ : ∃ j : Nat, t.fmod (ps.length : Int) = (j : Int) := ⟨_, (Int.toNat_of_nonneg (Int.fmod_nonneg_of_pos t hpl0)).symm⟩
      have hjl : j < ps.length := by
        have := Int.fmod_lt_of_pos t hpl0
        omega
      obtain ⟨q, hq⟩ : ∃ q, ps[j]? = some q := ⟨_, List.getElem?_eq_getElem hjl⟩
      walk_at "rs"
      rw [k7, k15, atI_nat', atI_nat', et, eu]
      walk_at "rs"
      rw [hj, atI_nat', hq]
      walk_at "rs"
      refine ⟨by omega, by omega, by omega, ?_⟩
      refine dLc_go (List.range n) (fun (k : Nat) => Dat.int (k : Int)) (fun k => decide ((k : Int) ∈ [q.1, q.2]) || decide ((k : Int) = u.fmod ((n : Int) + 2))) (fun (k : Nat) => Dat.int (k : Int)) (by rw [List.length_range]; omega) (fun Q h => ?_) (fun k hk Y N h1 h2 => ?_) ?_
      · walk_at "rs"
        rw [rngD_0]
        exact ⟨by omega, by omega, h⟩
      · walk_at "rs"
        refine ⟨[q.1, q.2], by simp, ?_⟩
        by_cases g1 : (k : Int) ∈ [q.1, q.2]
        · rw [if_pos g1]
          exact h1 (by rw [decide_eq_true g1]; rfl)
        · rw [if_neg g1]
          by_cases g2 : (k : Int) = u.fmod ((n : Int) + 2)
          · rw [if_pos g2]
            exact h1 (by rw [decide_eq_true g2]; simp)
          · rw [if_neg g2]
            exact h2 (by rw [decide_eq_false g1, decide_eq_false g2]; rfl)
      · rw [lI_nat]
        have hr := asc_range n fun (k : Nat) => decide ((k : Int) ∈ [q.1, q.2]) || decide ((k : Int) = u.fmod ((n : Int) + 2))
        generalize ((List.range n).filter fun (k : Nat) => decide ((k : Int) ∈ [q.1, q.2]) || decide ((k : Int) = u.fmod ((n : Int) + 2))).map (fun (k : Nat) => (k : Int)) = row at hr
        have e : hs.map lI ++ [lI row] = (hs ++ [row]).map lI := by rw [List.map_append]; rfl
        rw [e]
        refine (hI _ _).mpr ⟨hs ++ [row], _, _, _, _, rfl, fun row' h => ?_, by rw [List.length_append, hhl]; rfl⟩
        rcases List.mem_append.mp h with z | z
        · exact hrows row' z
        · have : row' = row := by simpa using z
          rw [this]
          exact hr
    · obtain ⟨hs, s7, s8, s9, s10, rfl, hrows, hhl⟩ := (hI _ _).mp h
      rw [rngD_len] at hhl
      walk_at "rs"
      exact hp c hs ⟨⟨by omega, by omega, by omega, hc0, fun row h => (hrows row h).1, fun row h x hx => by rw [hcl]; exact (hrows row h).2 x hx⟩, by omega, by omega⟩
end
end Pw
set_option Elab.async false
set_option linter.all false
set_option maxRecDepth 100000
set_option maxHeartbeats 1000000
namespace Pw
open PySem PySem.Spec L2
/-- the reading of the data, unfolded -/
local macro_rules | `(tactic| walk_at "rd") => `(tactic| simp only [dRet, dRetN, dRetO, dRetM, dRetG, dSeq, dIf, dNext, dNever, dDrop, dAsg, dAsgN, dApp, dFrz, dFrzI, dTest, dB, dYes, dOp, dOpN, dC, dVar, dCall, dCallN, dCons, dNil, dTup, dLst, dAnd, dOr, dNot, dAndV, dOrV, dNotV, dIfE, dIsi, d2I, d2B, d2C, dIxL, dIxT, dIxS, dLen, d2Min, d2Max, dAbs, dInt, dTupOf, dListOf, dCaps, dHold, dSeats, dPieces, dIsN, dNotN, dNotB, dIn, dSorted, dSortedT, dLenL, dMinB, dLenSet, dEnum, dgN, dgTup, dgCons, dgNil, dItL, dItT, dRng1, dRng2, dCat, dRep, dCatT, dSl, dNoP, dP1, dRev, dCntN, dListR, dListI,
  dIxO, dLenO, dThaw, dSetO, dAugO, dAug, dInI, dPutI, dIxI, dGetF, dAsgP, dAsgL, dGetP, dIxP, dPutP, dSetM, dSetd, dCRO, dLenGet, dOF, dSetF, dSetX, dIfNN, dCallG, dCallMt, dMtR, dCRN, dMkN, dMkP, dIsP, dFor, dForI, dLc, dLc2, dDc, dWhile, endsOf, endsN, endsM, endsG, startD, startR, startG, wipeD, isSc,
  List.map_cons, List.map_nil, List.cons_append, List.nil_append, List.append_nil, List.length_cons, List.length_nil, Nat.reduceAdd, Nat.reduceSub, List.replicate_succ, List.replicate_zero, List.getElem?_cons_zero, List.getElem?_cons_succ, List.set_cons_zero, List.set_cons_succ, Option.getD_some,
  Option.some.injEq, Sl.d.injEq, Sl.ol.injEq, Sl.oI.injEq, Sl.oP.injEq, Sl.oL.injEq, Sl.rd.injEq, Sl.oN.injEq, Sl.rN.injEq, Dat.int.injEq, Dat.bl.injEq, Dat.lst.injEq, Dat.tup.injEq, Dat.pool.injEq, Dat.scr.injEq, Dat.dI.injEq, Dat.dP.injEq, List.cons.injEq, map_int_inj, reduceCtorEq, exists_eq_left', exists_eq_left, exists_eq_right, exists_and_left, exists_const, and_true, true_and, and_false, false_and, or_false, false_or, exists_false, if_true, if_false, ite_true, ite_false, Bool.false_eq_true, and_assoc, and_self, decide_eq_true_eq, exists_prop, true_or, or_true, or_self, List.length_map, Nat.reduceLeDiff, Nat.reduceLT, atI_z, atI_1, atI_map, Option.map_some, Option.map_none, atI_nat', Int.toNat_natCast, Int.zero_add, rngD_len, enumD_len, isN_pr, Option.isNone_some, Option.isNone_none, isN_non, isN_int, isN_lst, isN_tup, isN_pool, pr_none, pr_some, List.getElem?_map, tyI, tyL, tyT, kII, kIB, kLL, kTT, decide_true, lsts_inj, isN_vB, vB_some, vB_none, kvB_len, rowB_len, clean_d, clean_no, clean_nil, Bool.not_true, Bool.not_false, fP1, fP2, fP3, fP4, lkA, lkP2, fG1, fG2, fG3, fG4, fG5, fG6, fG7, lkG1, lkG2, lkG3, lkG4, lkG5])
local macro_rules | `(tactic| walk_at "rs") => `(tactic| simp only [dRet, dRetN, dRetO, dRetM, dRetG, dSeq, dIf, dNext, dNever, dDrop, dAsg, dAsgN, dApp, dFrz, dFrzI, dTest, dB, dYes, dOp, dOpN, dC, dVar, dCall, dCallN, dCons, dNil, dTup, dLst, dAnd, dOr, dNot, dAndV, dOrV, dNotV, dIfE, dIsi, d2I, d2B, d2C, dIxL, dIxT, dIxS, dLen, d2Min, d2Max, dAbs, dInt, dTupOf, dListOf, dCaps, dHold, dSeats, dPieces, dIsN, dNotN, dNotB, dIn, dSorted, dSortedT, dLenL, dMinB, dLenSet, dEnum, dgN, dgTup, dgCons, dgNil, dItL, dItT, dRng1, dRng2, dCat, dRep, dCatT, dSl, dNoP, dP1, dRev, dCntN, dListR, dListI,
  dIxO, dLenO, dThaw, dSetO, dAugO, dAug, dInI, dPutI, dIxI, dGetF, dAsgP, dAsgL, dGetP, dIxP, dPutP, dSetM, dSetd, dCRO, dLenGet, dOF, dSetF, dSetX, dIfNN, dCallG, dCallMt, dMtR, dCRN, dMkN, dMkP, dIsP, endsOf, endsN, endsM, endsG, startD, startR, startG, wipeD, isSc,
  List.map_cons, List.map_nil, List.cons_append, List.nil_append, List.append_nil, List.length_cons, List.length_nil, Nat.reduceAdd, Nat.reduceSub, List.replicate_succ, List.replicate_zero, List.getElem?_cons_zero, List.getElem?_cons_succ, List.set_cons_zero, List.set_cons_succ, Option.getD_some,
  Option.some.injEq, Sl.d.injEq, Sl.ol.injEq, Sl.oI.injEq, Sl.oP.injEq, Sl.oL.injEq, Sl.rd.injEq, Sl.oN.injEq, Sl.rN.injEq, Dat.int.injEq, Dat.bl.injEq, Dat.lst.injEq, Dat.tup.injEq, Dat.pool.injEq, Dat.scr.injEq, Dat.dI.injEq, Dat.dP.injEq, List.cons.injEq, map_int_inj, reduceCtorEq, exists_eq_left', exists_eq_left, exists_eq_right, exists_and_left, exists_const, and_true, true_and, and_false, false_and, or_false, false_or, exists_false, if_true, if_false, ite_true, ite_false, Bool.false_eq_true, and_assoc, and_self, decide_eq_true_eq, exists_prop, true_or, or_true, or_self, List.length_map, Nat.reduceLeDiff, Nat.reduceLT, atI_z, atI_1, atI_map, Option.map_some, Option.map_none, atI_nat', Int.toNat_natCast, Int.zero_add, rngD_len, enumD_len, isN_pr, Option.isNone_some, Option.isNone_none, isN_non, isN_int, isN_lst, isN_tup, isN_pool, pr_none, pr_some, List.getElem?_map, tyI, tyL, tyT, kII, kIB, kLL, kTT, decide_true, lsts_inj, isN_vB, vB_some, vB_none, kvB_len, rowB_len, clean_d, clean_no, clean_nil, Bool.not_true, Bool.not_false, fP1, fP2, fP3, fP4, lkA, lkP2, fG1, fG2, fG3, fG4, fG5, fG6, fG7, lkG1, lkG2, lkG3, lkG4, lkG5])
section
variable {P : Program} {w : World} {K : PySem.W.Frag} {mg : Str → Option Value} {base : Heap}
/-! A round of the law's game. -/
def sp_l_after (fs : List (Str × Dat)) (ds : List Dat) (post : List (Str × Dat) → Dat → Prop) : Prop := ∃ c r c0 r0 s S Rd ft, fs = gmF c r c0 r0 Rd ft ∧ ds = [lI c, .lst (r.map lI), .int s, .lst ((S : Sends).map dPair)] ∧ PoolOk c r ∧ Allowed c r s S ∧ FtOk ft ∧ Rd.length ≤ 900 ∧
  ∀ ft', FtOk ft' → post (gmF c (roundR r s S) c0 r0 (Rd ++ [dRound .tup (s, S)]) ft') (.lst ((roundR r s S).map lI))
theorem len_l_after {fs : List (Str × Dat)} {ds : List Dat} {post : List (Str × Dat) → Dat → Prop} (h : sp_l_after fs ds post) : ds.length + 1 = 5 := by
  obtain ⟨_, _, _, _, _, _, _, _, _, rfl, _⟩ := h
  rfl
theorem c_l_after (T : Top K mg) : Cal P w K mg base 9 "_law_after" (spG K "Game" sp_l_after) := by
  refine calG T d_l_after 48 44 sc_l_after "Game" (fun _ _ _ _ _ _ us hl => match us, hl with | [_, _, _, _, _], _ => rfl) (fun fs ds post h => len_l_after h) (fun cdv A outer s H E hr => ⟨_, (xss_cons (xs_ifNN (xm_mt (i := 0) (c_Game_play T) hr (xa_cons (xv 3) (xa_cons (xe_new (xn_callT call_list_of cn_listOf T.m_list (xa_cons (xv 4) xa_nil))) xa_nil))))
      (xss_cons (xs_set (i := 5) sc_l_after.nd (xe_c (c_l_round T) hr (xa_cons (xv 2) (xa_cons (xv 3) (xa_cons (xv 4) xa_nil)))))
      (xss_cons (xs_if (xt_not (xt_val (xe_c (c_l_is_pool T) hr (xa_cons (xe_oF 0 "Game" (T.gmFld 73)) (xa_cons (xv 1) (xa_cons (xv 5) xa_nil)))))) (xss_one xs_never) xss_nil)
      (xss_one (xs_retG (xv 5)))))), fun a fs ds post h => ?_⟩)
  obtain ⟨c, r, c0, r0, s, S, Rd, ft, rfl, rfl, ok, al, hft, hRd, hp⟩ := h
  unfold gmF at hp ⊢
  walk_at "rs"
  refine ⟨c, r, c0, r0, s, S, Rd, ft, rfl, rfl, ok, al, hft, hRd, fun ft' hft' => ⟨rfl, c, r, s, S, rfl, ok, al, ?_⟩⟩
  unfold gmF
  walk_at "rs"
  refine ⟨c, roundR r s S, rfl, ok.round s S, ?_⟩
  walk_at "rs"
  exact hp ft' hft'
end
end Pw
set_option Elab.async false
set_option linter.all false
set_option maxRecDepth 100000
set_option maxHeartbeats 1000000
/-! First sends of equal caps are a dealing. Plain. -/
namespace Pw
open PySem PySem.Spec L2
theorem flat_cons {e : Int × Sends} {R : Rnds} : flat (e :: R) = (e.2.map fun p => (p.1, (e.1, p.2))) ++ flat R := by
  unfold flat
  rw [List.flatMap_cons]
theorem fstOf_append {A B : List (Int × (Int × Int))} {i : Int} : fstOf (A ++ B) i = (fstOf A i).or (fstOf B i) := by
  unfold fstOf
  rw [List.find?_append, Option.map_or]
theorem fstOf_one {s : Int} {i : Int} : ∀ {S : Sends}, (fstOf (S.map fun p => (p.1, (s, p.2))) i = Option.none ↔ i ∉ S.map (·.1)) ∧ ∀ p, fstOf (S.map fun p => (p.1, (s, p.2))) i = some p → ∃ t, (i, t) ∈ S ∧ p = mkP s t
  | [] => ⟨by simp [fstOf], fun p h => by simp [fstOf] at h⟩
  | (a, t) :: S => by
    obtain ⟨h1, h2⟩ := fstOf_one (s := s) (i := i) (S := S)
    have e : fstOf (((a, t) :: S).map fun p => (p.1, (s, p.2))) i = if a = i then some (mkP s t) else fstOf (S.map fun p => (p.1, (s, p.2))) i := by
      rw [List.map_cons]
      unfold fstOf
      rw [List.find?_cons]
      by_cases h : a = i
      · simp [h]
      · simp [h]
    rw [e]
    by_cases h : a = i
    · rw [if_pos h]
      refine ⟨⟨fun z => (by cases z), fun z => absurd (by simp [h]) z⟩, fun p hp => ?_⟩
      cases hp
      exact ⟨t, by simp [h], rfl⟩
    · rw [if_neg h, h1]
      refine ⟨by simp [Ne.symm h], fun p hp => ?_⟩
      obtain ⟨t', g1, g2⟩ := h2 p hp
      exact ⟨t', List.mem_cons_of_mem _ g1, g2⟩
theorem fstOf_none {i : Int} : ∀ {R : Rnds}, fstOf (flat R) i = Option.none ↔ ∀ e ∈ R, i ∉ e.2.map (·.1)
  | [] => by simp [flat, fstOf]
  | e :: R => by
    rw [flat_cons, fstOf_append, Option.or_eq_none_iff, (fstOf_one (s := e.1) (i := i) (S := e.2)).1, fstOf_none (R := R)]
    simp
theorem fstOf_some {i : Int} {p : Int × Int} : ∀ {R : Rnds}, fstOf (flat R) i = some p → ∃ (k : Nat) (s : Int) (S : Sends) (t : Int), R[k]? = some (s, S) ∧ (i, t) ∈ S ∧ p = mkP s t ∧ ∀ (j : Nat) e, j < k → R[j]? = some e → i ∉ e.2.map (·.1)
  | [], h => by simp [flat, fstOf] at h
  | e :: R, h => by
    rw [flat_cons, fstOf_append] at h
    obtain ⟨g1, g2⟩ := fstOf_one (s := e.1) (i := i) (S := e.2)
    cases q : fstOf (e.2.map fun p => (p.1, (e.1, p.2))) i with
    | some p' =>
      rw [q] at h
      cases h
      obtain ⟨t, a, b⟩ := g2 p q
      exact ⟨0, e.1, e.2, t, rfl, a, b, fun j e' hj => absurd hj (Nat.not_lt_zero _)⟩
    | none =>
      rw [q] at h
      obtain ⟨k, s, S, t, a1, a2, a3, a4⟩ := fstOf_some (R := R) h
      refine ⟨k + 1, s, S, t, by simpa using a1, a2, a3, fun j e' hj he => ?_⟩
      cases j with
      | zero =>
        simp at he
        subst he
        exact g1.mp q
      | succ j => exact a4 j e' (by omega) (by simpa using he)
/-- a piece that was not sent: its holders are those whose seats were not asked -/
theorem run_row {c : List Int} {r : List (List Int)} {R : Rnds} {i : Nat} : ∀ (k : Nat), k ≤ R.length → (∀ (j : Nat) e, j < k → R[j]? = some e → (i : Int) ∉ e.2.map (·.1)) → ∀ row, r[i]? = some row → ∃ row', (runR r (R.take k))[i]? = some row' ∧ ∀ x, x ∈ row' ↔ x ∈ row ∧ ∀ (j : Nat) e, j < k → R[j]? = some e → e.1 ≠ x
  | 0, _, _, row, h => ⟨row, by rw [List.take_zero]; exact h, fun x => ⟨fun z => ⟨z, fun j e hj => absurd hj (Nat.not_lt_zero _)⟩, fun z => z.1⟩⟩
  | k + 1, hk, hn, row, h => by
    obtain ⟨row', h1, h2⟩ := run_row (c := c) k (by omega) (fun j e hj he => hn j e (by omega) he) row h
    obtain ⟨e, he⟩ : ∃ e, R[k]? = some e := ⟨_, List.getElem?_eq_getElem (by omega)⟩
    have hni := hn k e (Nat.lt_succ_self k) he
    refine ⟨row'.filter fun x => decide (x ≠ e.1), ?_, fun x => ?_⟩
    · rw [runR_succ he, roundR_at, h1]
      simp only [Option.map_some, if_neg hni]
    · rw [List.mem_filter, h2]
      constructor
      · rintro ⟨⟨a, b⟩, d⟩
        refine ⟨a, fun j e' hj he' => ?_⟩
        by_cases z : j = k
        · subst z
          rw [he] at he'
          cases he'
          have := of_decide_eq_true d
          exact fun y => this y.symm
        · exact b j e' (by omega) he'
      · rintro ⟨a, b⟩
        exact ⟨⟨a, fun j e' hj he' => b j e' (by omega) he'⟩, decide_eq_true fun y => b k e (Nat.lt_succ_self k) he y.symm⟩
theorem mkP_eq {s t s' t' : Int} (h : mkP s t = mkP s' t') : (s = s' ∧ t = t') ∨ (s = t' ∧ t = s') := by
  unfold mkP at h
  injection h with h1 h2
  split at h1 <;> split at h1 <;> split at h2 <;> split at h2 <;> omega
theorem mkP_mem {s t : Int} : (mkP s t).1 ≤ (mkP s t).2 ∧ ((mkP s t).1 = s ∧ (mkP s t).2 = t ∨ (mkP s t).1 = t ∧ (mkP s t).2 = s) := by
  unfold mkP
  simp only
  split <;> split <;> omega
/-- what is known of a first send -/
theorem first_send {c : List Int} {r : List (List Int)} {R : Rnds} (hg : Good c r R) {i : Nat} {row : List Int} (hr : r[i]? = some row) {p : Int × Int} (h : fstOf (flat R) (i : Int) = some p) :
    ∃ (k : Nat) (s : Int) (S : Sends) (t : Int), R[k]? = some (s, S) ∧ ((i : Int), t) ∈ S ∧ p = mkP s t ∧ s ∈ row ∧ t ∈ row ∧ t ≠ s ∧ (∀ (j : Nat) e, j < k → R[j]? = some e → e.1 ≠ s ∧ e.1 ≠ t) ∧ Allowed c (runR r (R.take k)) s S := by
  obtain ⟨k, s, S, t, h1, h2, h3, h4⟩ := fstOf_some h
  have hk := (List.getElem?_eq_some_iff.mp h1).1
  obtain ⟨row', g1, g2⟩ := run_row (c := c) k (by omega) h4 row hr
  have al := hg k _ h1
  obtain ⟨i', row2, e1, e2, e3, e4, e5⟩ := al.ok _ h2
  have : i' = i := by
    have : ((i : Int)) = (i' : Int) := e1
    omega
  subst this
  rw [g1] at e2
  cases e2
  have a := (g2 s).mp e3
  have b := (g2 t).mp e4
  exact ⟨k, s, S, t, h1, h2, h3, a.1, b.1, e5, fun j e hj he => ⟨a.2 j e hj he, b.2 j e hj he⟩, al⟩
theorem room_eq {c : List Int} {x : Int} (hx : ∀ y ∈ c, y = x) {q : Int × Int} (h1 : 0 ≤ q.1 ∧ q.1 < (c.length : Int)) (h2 : 0 ≤ q.2 ∧ q.2 < (c.length : Int)) : room c q = x := by
  have a := hx _ (capOf_mem h1.1 h1.2)
  have b := hx _ (capOf_mem h2.1 h2.2)
  unfold room
  split <;> assumption
theorem firsts_deal {c : List Int} {r : List (List Int)} (ok : PoolOk c r) {x : Int} (hx : ∀ y ∈ c, y = x) {R : Rnds} (hg : Good c r R) : IsDeal c r (firsts r.length (flat R)) := by
  have at_ : ∀ (i : Nat) q, (firsts r.length (flat R))[i]? = some (some q) → i < r.length ∧ fstOf (flat R) (i : Int) = some q := fun i q h => by
    have hi : i < r.length := by
      have := (List.getElem?_eq_some_iff.mp h).1
      rwa [firsts_len] at this
    rw [firsts_at hi] at h
    exact ⟨hi, Option.some.inj h⟩
  refine ⟨firsts_len, fun i q h => ?_, fun q hq => ?_⟩
  · obtain ⟨hi, hf⟩ := at_ i q h
    obtain ⟨row, hrow⟩ : ∃ row, r[i]? = some row := ⟨_, List.getElem?_eq_getElem hi⟩
    obtain ⟨k, s, S, t, h1, h2, h3, h4, h5, h6, h7, al⟩ := first_send hg hrow hf
    have hm := List.mem_of_getElem? hrow
    have bs := ok.rng row hm s h4
    have bt := ok.rng row hm t h5
    have hcap := al.cap t (List.mem_map.mpr ⟨_, h2, rfl⟩)
    have hpos : 0 < (S.map (·.2)).count t := List.count_pos_iff.mpr (List.mem_map.mpr ⟨_, h2, rfl⟩)
    have hxt := hx _ (capOf_mem bt.1 bt.2)
    obtain ⟨m1, m2⟩ := mkP_mem (s := s) (t := t)
    subst h3
    refine ⟨row, hrow, ?_, ?_, ?_, ?_⟩
    · rcases m2 with z | z
      · rw [z.1]; exact h4
      · rw [z.1]; exact h5
    · rcases m2 with z | z
      · rw [z.2]; exact h5
      · rw [z.2]; exact h4
    · omega
    · rw [room_eq hx (by rcases m2 with z | z <;> rw [z.1] <;> assumption) (by rcases m2 with z | z <;> rw [z.2] <;> assumption)]
      omega
  · obtain ⟨i0, hi0⟩ := List.mem_iff_getElem?.mp (mem_pairs.mp hq)
    obtain ⟨hl0, hf0⟩ := at_ i0 q hi0
    obtain ⟨row0, hrow0⟩ : ∃ row, r[i0]? = some row := ⟨_, List.getElem?_eq_getElem hl0⟩
    obtain ⟨k, s, S, t, h1, h2, h3, h4, h5, h6, h7, al⟩ := first_send hg hrow0 hf0
    have hm := List.mem_of_getElem? hrow0
    have bs := ok.rng row0 hm s h4
    have bt := ok.rng row0 hm t h5
    obtain ⟨m1, m2⟩ := mkP_mem (s := s) (t := t)
    have hroom : room c q = x := by
      rw [h3]
      exact room_eq hx (by rcases m2 with z | z <;> rw [z.1] <;> assumption) (by rcases m2 with z | z <;> rw [z.2] <;> assumption)
    have hcap := al.cap t (List.mem_map.mpr ⟨_, h2, rfl⟩)
    rw [hx _ (capOf_mem bt.1 bt.2)] at hcap
    rw [hroom, cnt_range, firsts_len]
    have hsub : ∀ i, i ∈ ((List.range r.length).filter fun i => (firsts r.length (flat R))[i]? == some (some q)) → ((i : Int), t) ∈ S := fun i hi => by
      have hi2 : (firsts r.length (flat R))[i]? = some (some q) := by simpa using (List.mem_filter.mp hi).2
      obtain ⟨hl, hf⟩ := at_ i q hi2
      obtain ⟨row, hrow⟩ : ∃ row, r[i]? = some row := ⟨_, List.getElem?_eq_getElem hl⟩
      obtain ⟨k', s', S', t', g1, g2, g3, g4, g5, g6, g7, _⟩ := first_send hg hrow hf
      have hp := mkP_eq (h3.symm.trans g3)
      have hk : k = k' := by
        rcases Nat.lt_trichotomy k k' with z | z | z
        · have := g7 k _ z h1
          simp only at this
          omega
        · exact z
        · have := h7 k' _ z g1
          simp only at this
          omega
      subst hk
      rw [h1] at g1
      cases g1
      have : t' = t := by omega
      rw [← this]
      exact g2
    have hlen : ((List.range r.length).filter fun i => (firsts r.length (flat R))[i]? == some (some q)).length ≤ (S.map (·.2)).count t := by
      rw [count_snd]
      have h := lenSub (ms := (S.filter fun e => decide (e.2 = t)).map (·.1)) (ns := ((List.range r.length).filter fun i => (firsts r.length (flat R))[i]? == some (some q)).map fun (i : Nat) => (i : Int)) (List.Pairwise.map (R := (· ≠ ·)) _ (fun a b hab z => hab (by omega)) (List.nodup_range.filter _)) fun y hy => by
        obtain ⟨i, hi, rfl⟩ := List.mem_map.mp hy
        exact List.mem_map.mpr ⟨((i : Int), t), List.mem_filter.mpr ⟨hsub i hi, by simp⟩, rfl⟩
      rwa [List.length_map, List.length_map] at h
    omega
/-- where every seat was asked, a piece never sent has no holder -/
theorem never_sent {c : List Int} {r : List (List Int)} (ok : PoolOk c r) {R : Rnds} (hall : ∀ s : Int, 0 ≤ s → s < (c.length : Int) → ∃ e ∈ R, e.1 = s) {i : Nat} (hi : i < r.length) (h : fstOf (flat R) (i : Int) = Option.none) : (runR r R)[i]? = some [] := by
  obtain ⟨row, hrow⟩ : ∃ row, r[i]? = some row := ⟨_, List.getElem?_eq_getElem hi⟩
  obtain ⟨row', h1, h2⟩ := run_row (c := c) R.length (Nat.le_refl _) (fun j e hj he => fstOf_none.mp h e (List.mem_of_getElem? he)) row hrow
  rw [List.take_length] at h1
  have : row' = [] := by
    refine List.eq_nil_iff_forall_not_mem.mpr fun x hx => ?_
    obtain ⟨a, b⟩ := (h2 x).mp hx
    have hb := ok.rng row (List.mem_of_getElem? hrow) x a
    obtain ⟨e, he, ee⟩ := hall x hb.1 hb.2
    obtain ⟨j, hj⟩ := List.mem_iff_getElem?.mp he
    exact b j e (List.getElem?_eq_some_iff.mp hj).1 hj ee
  rw [h1, this]
end Pw
set_option Elab.async false
set_option linter.all false
set_option maxRecDepth 100000
set_option maxHeartbeats 1000000
/-! Two seats of unequal caps, all pieces held by both. Plain. -/
namespace Pw
open PySem PySem.Spec L2
structure Two (c : List Int) (n : Nat) (lo sm : Int) : Prop where
  l2 : c.length = 2
  h0 : 0 ≤ lo
  hn : lo < (n : Int)
  n6 : n ≤ 6
  s0 : 0 ≤ sm
  s1 : sm < 2
  cl : capOf c sm = lo
  ch : capOf c (1 - sm) = (n : Int)
  cp : ∀ x ∈ c, 0 ≤ x
abbrev rTwo (n : Nat) : List (List Int) := List.replicate n [0, 1]
theorem two_of {n : Nat} {lo sm : Int} (h0 : 0 ≤ lo) (hn : lo < (n : Int)) (n6 : n ≤ 6) (s0 : 0 ≤ sm) (s1 : sm < 2) : Two (if sm = 1 then [(n : Int), lo] else [lo, (n : Int)]) n lo sm := by
  have : sm = 0 ∨ sm = 1 := by omega
  rcases this with rfl | rfl
  · exact ⟨rfl, h0, hn, n6, s0, s1, rfl, rfl, fun x hx => by simp at hx; omega⟩
  · exact ⟨rfl, h0, hn, n6, s0, s1, rfl, rfl, fun x hx => by simp at hx; omega⟩
variable {c : List Int} {n : Nat} {lo sm : Int}
theorem Two.pool (t : Two c n lo sm) : PoolOk c (rTwo n) := by
  have := t.l2
  have := t.n6
  refine ⟨by omega, by omega, by rw [List.length_replicate]; omega, t.cp, fun row h => ?_, fun row h x hx => ?_⟩
  · rw [List.eq_of_mem_replicate h]
    decide
  · rw [List.eq_of_mem_replicate h] at hx
    simp at hx
    omega
theorem rTwo_at {i : Nat} (h : i < n) : (rTwo n)[i]? = some [0, 1] := by
  rw [List.getElem?_replicate, if_pos h]
theorem Two.mem (t : Two c n lo sm) {x : Int} : x ∈ [(0 : Int), 1] ↔ x = sm ∨ x = 1 - sm := by
  have := t.s0
  have := t.s1
  simp
  omega
theorem Two.mk01 (t : Two c n lo sm) : mkP sm (1 - sm) = (0, 1) ∧ mkP (1 - sm) sm = (0, 1) := by
  have := t.s0
  have := t.s1
  have : sm = 0 ∨ sm = 1 := by omega
  rcases this with rfl | rfl <;> exact ⟨rfl, rfl⟩
theorem Two.room (t : Two c n lo sm) : Pw.room c (0, 1) = lo := by
  have := t.s0
  have := t.s1
  have := t.hn
  have a := t.cl
  have b := t.ch
  have : sm = 0 ∨ sm = 1 := by omega
  unfold Pw.room
  rcases this with rfl | rfl
  · rw [show (1 : Int) - 0 = 1 by omega] at b
    show (if capOf c 1 < capOf c 0 then capOf c 1 else capOf c 0) = lo
    rw [a, b, if_neg (by omega)]
  · rw [show (1 : Int) - 1 = 0 by omega] at b
    show (if capOf c 1 < capOf c 0 then capOf c 1 else capOf c 0) = lo
    rw [a, b, if_pos (by omega)]
/-! ### all pieces to the high seat -/
def allS (n : Nat) (h : Int) (sp : Nat) : Sends := (((List.range n).map fun (k : Nat) => ((k : Int), h)).drop sp) ++ (((List.range n).map fun (k : Nat) => ((k : Int), h)).take sp)
theorem allS_perm {h : Int} {sp : Nat} : (allS n h sp).Perm ((List.range n).map fun (k : Nat) => ((k : Int), h)) := by
  unfold allS
  refine List.perm_append_comm.trans ?_
  rw [List.take_append_drop]
theorem allS_mem {h : Int} {sp : Nat} {e : Int × Int} : e ∈ allS n h sp ↔ ∃ k : Nat, k < n ∧ e = ((k : Int), h) := by
  rw [allS_perm.mem_iff, List.mem_map]
  constructor
  · rintro ⟨k, hk, rfl⟩
    exact ⟨k, List.mem_range.mp hk, rfl⟩
  · rintro ⟨k, hk, rfl⟩
    exact ⟨k, List.mem_range.mpr hk, rfl⟩
theorem allS_len {h : Int} {sp : Nat} : (allS n h sp).length = n := by
  rw [allS_perm.length_eq, List.length_map, List.length_range]
theorem Two.allowed (t : Two c n lo sm) {sp : Nat} : Allowed c (rTwo n) sm (allS n (1 - sm) sp) := by
  have := t.s0
  have := t.s1
  refine ⟨?_, fun e he => ?_, fun x hx => ?_⟩
  · refine (allS_perm.map _).nodup_iff.mpr ?_
    rw [List.map_map]
    refine List.pairwise_map.mpr (List.nodup_range.imp fun h => ?_)
    intro q
    exact h (Int.ofNat.inj q)
  · obtain ⟨k, hk, rfl⟩ := allS_mem.mp he
    exact ⟨k, [0, 1], rfl, rTwo_at hk, t.mem.mpr (.inl rfl), t.mem.mpr (.inr rfl), by show 1 - sm ≠ sm; omega⟩
  · obtain ⟨e, he, rfl⟩ := List.mem_map.mp hx
    obtain ⟨k, hk, rfl⟩ := allS_mem.mp he
    show _ ≤ capOf c (1 - sm)
    rw [t.ch]
    have := List.count_le_length (a := ((k : Int), 1 - sm).2) (l := (allS n (1 - sm) sp).map (·.2))
    rw [List.length_map, allS_len] at this
    omega
theorem allS_round {s h : Int} {sp : Nat} : roundR (rTwo n) s (allS n h sp) = rTwo n := by
  refine List.ext_getElem? fun i => ?_
  rw [roundR_at]
  by_cases hi : i < n
  · rw [rTwo_at hi]
    have hm : (i : Int) ∈ (allS n h sp).map (·.1) := List.mem_map.mpr ⟨((i : Int), h), allS_mem.mpr ⟨i, hi, rfl⟩, rfl⟩
    show some (if (i : Int) ∈ (allS n h sp).map (·.1) then [0, 1] else _) = _
    rw [if_pos hm]
  · rw [List.getElem?_eq_none (by rw [List.length_replicate]; omega)]
    rfl
theorem Two.lowGood (t : Two c n lo sm) {sp : Nat} {S : Sends} (al : Allowed c (rTwo n) (1 - sm) S) : Good c (rTwo n) [(sm, allS n (1 - sm) sp), (1 - sm, S)] := by
  have g0 : Good c (rTwo n) [] := fun k e h => by simp at h
  have g1 : Good c (rTwo n) ([] ++ [(sm, allS n (1 - sm) sp)]) := g0.snoc t.allowed
  refine g1.snoc (e := (1 - sm, S)) ?_
  show Allowed c (roundR (rTwo n) sm (allS n (1 - sm) sp)) (1 - sm) S
  rw [allS_round]
  exact al
theorem Two.lowFirsts (t : Two c n lo sm) {sp : Nat} {S : Sends} : firsts n (flat [(sm, allS n (1 - sm) sp), (1 - sm, S)]) = List.replicate n (some (0, 1)) := by
  refine List.ext_getElem? fun i => ?_
  by_cases hi : i < n
  · rw [firsts_at hi, List.getElem?_replicate, if_pos hi]
    have hm : (i : Int) ∈ (allS n (1 - sm) sp).map (·.1) := List.mem_map.mpr ⟨_, allS_mem.mpr ⟨i, hi, rfl⟩, rfl⟩
    cases h : fstOf (flat [(sm, allS n (1 - sm) sp), (1 - sm, S)]) (i : Int) with
    | none => exact absurd hm (fstOf_none.mp h _ List.mem_cons_self)
    | some p =>
      obtain ⟨k, s, S', u, h1, h2, h3, h4⟩ := fstOf_some h
      have hk : k = 0 := by
        by_cases hk : k = 0
        · exact hk
        · exact absurd hm (h4 0 _ (by omega) rfl)
      subst hk
      cases h1
      obtain ⟨k, _, e⟩ := allS_mem.mp h2
      injection e with _ e
      rw [h3, e, t.mk01.1]
  · rw [List.getElem?_eq_none (by rw [firsts_len]; omega), List.getElem?_eq_none (by rw [List.length_replicate]; omega)]
theorem Two.lowNot (t : Two c n lo sm) : ¬ IsDeal c (rTwo n) (List.replicate n (some (0, 1))) := by
  intro h
  have hn := t.hn
  have h0 := t.h0
  have := h.full (0, 1) (by
    rw [List.mem_filterMap]
    exact ⟨some (0, 1), List.mem_replicate.mpr ⟨by omega, rfl⟩, rfl⟩)
  rw [List.count_replicate_self, t.room] at this
  omega
theorem Two.lowLive (t : Two c n lo sm) {S : Sends} {row : List Int} (h : row ∈ roundR (rTwo n) (1 - sm) S) : row ≠ [] := by
  have := t.s0
  have := t.s1
  obtain ⟨i, hi⟩ := List.getElem?_of_mem h
  rw [roundR_at] at hi
  obtain ⟨w, h1, h2⟩ := Option.map_eq_some_iff.mp hi
  have hw : w = [0, 1] := List.eq_of_mem_replicate (List.mem_of_getElem? h1)
  subst hw
  have hs : sm ∈ row := by
    rw [← h2]
    split
    · exact t.mem.mpr (.inl rfl)
    · exact List.mem_filter.mpr ⟨t.mem.mpr (.inl rfl), decide_eq_true (by omega)⟩
  intro e
  rw [e] at hs
  cases hs
end Pw
set_option Elab.async false
set_option linter.all false
set_option maxRecDepth 100000
set_option maxHeartbeats 1000000
namespace Pw
open PySem PySem.Spec L2
/-- the reading of the data, unfolded -/
local macro_rules | `(tactic| walk_at "rd") => `(tactic| simp only [dRet, dRetN, dRetO, dRetM, dRetG, dSeq, dIf, dNext, dNever, dDrop, dAsg, dAsgN, dApp, dFrz, dFrzI, dTest, dB, dYes, dOp, dOpN, dC, dVar, dCall, dCallN, dCons, dNil, dTup, dLst, dAnd, dOr, dNot, dAndV, dOrV, dNotV, dIfE, dIsi, d2I, d2B, d2C, dIxL, dIxT, dIxS, dLen, d2Min, d2Max, dAbs, dInt, dTupOf, dListOf, dCaps, dHold, dSeats, dPieces, dIsN, dNotN, dNotB, dIn, dSorted, dSortedT, dLenL, dMinB, dLenSet, dEnum, dgN, dgTup, dgCons, dgNil, dItL, dItT, dRng1, dRng2, dCat, dRep, dCatT, dSl, dNoP, dP1, dRev, dCntN, dListR, dListI,
  dIxO, dLenO, dThaw, dSetO, dAugO, dAug, dInI, dPutI, dIxI, dGetF, dAsgP, dAsgL, dGetP, dIxP, dPutP, dSetM, dSetd, dCRO, dLenGet, dOF, dSetF, dSetX, dIfNN, dCallG, dCallMt, dMtR, dCRN, dMkN, dMkP, dIsP, dFor, dForI, dLc, dLc2, dDc, dWhile, endsOf, endsN, endsM, endsG, startD, startR, startG, wipeD, isSc,
  List.map_cons, List.map_nil, List.cons_append, List.nil_append, List.append_nil, List.length_cons, List.length_nil, Nat.reduceAdd, Nat.reduceSub, List.replicate_succ, List.replicate_zero, List.getElem?_cons_zero, List.getElem?_cons_succ, List.set_cons_zero, List.set_cons_succ, Option.getD_some,
  Option.some.injEq, Sl.d.injEq, Sl.ol.injEq, Sl.oI.injEq, Sl.oP.injEq, Sl.oL.injEq, Sl.rd.injEq, Sl.oN.injEq, Sl.rN.injEq, Dat.int.injEq, Dat.bl.injEq, Dat.lst.injEq, Dat.tup.injEq, Dat.pool.injEq, Dat.scr.injEq, Dat.dI.injEq, Dat.dP.injEq, List.cons.injEq, map_int_inj, reduceCtorEq, exists_eq_left', exists_eq_left, exists_eq_right, exists_and_left, exists_const, and_true, true_and, and_false, false_and, or_false, false_or, exists_false, if_true, if_false, ite_true, ite_false, Bool.false_eq_true, and_assoc, and_self, decide_eq_true_eq, exists_prop, true_or, or_true, or_self, List.length_map, Nat.reduceLeDiff, Nat.reduceLT, atI_z, atI_1, atI_map, Option.map_some, Option.map_none, atI_nat', Int.toNat_natCast, Int.zero_add, rngD_len, enumD_len, isN_pr, Option.isNone_some, Option.isNone_none, isN_non, isN_int, isN_lst, isN_tup, isN_pool, pr_none, pr_some, List.getElem?_map, tyI, tyL, tyT, kII, kIB, kLL, kTT, decide_true, lsts_inj, isN_vB, vB_some, vB_none, kvB_len, rowB_len, clean_d, clean_no, clean_nil, Bool.not_true, Bool.not_false, fP1, fP2, fP3, fP4, lkA, lkP2, fG1, fG2, fG3, fG4, fG5, fG6, fG7, lkG1, lkG2, lkG3, lkG4, lkG5])
local macro_rules | `(tactic| walk_at "rs") => `(tactic| simp only [dRet, dRetN, dRetO, dRetM, dRetG, dSeq, dIf, dNext, dNever, dDrop, dAsg, dAsgN, dApp, dFrz, dFrzI, dTest, dB, dYes, dOp, dOpN, dC, dVar, dCall, dCallN, dCons, dNil, dTup, dLst, dAnd, dOr, dNot, dAndV, dOrV, dNotV, dIfE, dIsi, d2I, d2B, d2C, dIxL, dIxT, dIxS, dLen, d2Min, d2Max, dAbs, dInt, dTupOf, dListOf, dCaps, dHold, dSeats, dPieces, dIsN, dNotN, dNotB, dIn, dSorted, dSortedT, dLenL, dMinB, dLenSet, dEnum, dgN, dgTup, dgCons, dgNil, dItL, dItT, dRng1, dRng2, dCat, dRep, dCatT, dSl, dNoP, dP1, dRev, dCntN, dListR, dListI,
  dIxO, dLenO, dThaw, dSetO, dAugO, dAug, dInI, dPutI, dIxI, dGetF, dAsgP, dAsgL, dGetP, dIxP, dPutP, dSetM, dSetd, dCRO, dLenGet, dOF, dSetF, dSetX, dIfNN, dCallG, dCallMt, dMtR, dCRN, dMkN, dMkP, dIsP, endsOf, endsN, endsM, endsG, startD, startR, startG, wipeD, isSc,
  List.map_cons, List.map_nil, List.cons_append, List.nil_append, List.append_nil, List.length_cons, List.length_nil, Nat.reduceAdd, Nat.reduceSub, List.replicate_succ, List.replicate_zero, List.getElem?_cons_zero, List.getElem?_cons_succ, List.set_cons_zero, List.set_cons_succ, Option.getD_some,
  Option.some.injEq, Sl.d.injEq, Sl.ol.injEq, Sl.oI.injEq, Sl.oP.injEq, Sl.oL.injEq, Sl.rd.injEq, Sl.oN.injEq, Sl.rN.injEq, Dat.int.injEq, Dat.bl.injEq, Dat.lst.injEq, Dat.tup.injEq, Dat.pool.injEq, Dat.scr.injEq, Dat.dI.injEq, Dat.dP.injEq, List.cons.injEq, map_int_inj, reduceCtorEq, exists_eq_left', exists_eq_left, exists_eq_right, exists_and_left, exists_const, and_true, true_and, and_false, false_and, or_false, false_or, exists_false, if_true, if_false, ite_true, ite_false, Bool.false_eq_true, and_assoc, and_self, decide_eq_true_eq, exists_prop, true_or, or_true, or_self, List.length_map, Nat.reduceLeDiff, Nat.reduceLT, atI_z, atI_1, atI_map, Option.map_some, Option.map_none, atI_nat', Int.toNat_natCast, Int.zero_add, rngD_len, enumD_len, isN_pr, Option.isNone_some, Option.isNone_none, isN_non, isN_int, isN_lst, isN_tup, isN_pool, pr_none, pr_some, List.getElem?_map, tyI, tyL, tyT, kII, kIB, kLL, kTT, decide_true, lsts_inj, isN_vB, vB_some, vB_none, kvB_len, rowB_len, clean_d, clean_no, clean_nil, Bool.not_true, Bool.not_false, fP1, fP2, fP3, fP4, lkA, lkP2, fG1, fG2, fG3, fG4, fG5, fG6, fG7, lkG1, lkG2, lkG3, lkG4, lkG5])
section
variable {P : Program} {w : World} {K : PySem.W.Frag} {mg : Str → Option Value} {base : Heap}
/-! The law's first part: any order of equal caps. -/
def cutI (xs : List Int) (lo hi : Option Int) : List Int := (xs.drop (HT.sIx xs.length 0 lo)).take (HT.sIx xs.length xs.length hi - HT.sIx xs.length 0 lo)
theorem cutD_int {xs : List Int} {lo hi : Option Int} : cutD (xs.map Dat.int) lo hi = (cutI xs lo hi).map Dat.int := by
  unfold cutD cutI
  rw [List.length_map, ← List.map_drop, ← List.map_take]
theorem cutI_len (xs : List Int) (lo hi : Option Int) : (cutI xs lo hi).length ≤ xs.length := by
  unfold cutI
  rw [List.length_take, List.length_drop]
  omega
theorem cutI_27 {xs : List Int} (h : xs.length = 12) : cutI xs (some 2) (some 7) = (xs.drop 2).take 5 := by
  unfold cutI
  rw [h]
  rfl
theorem Good.rng {c : List Int} {r : List (List Int)} {R : Rnds} (h : Good c r R) : ∀ e ∈ R, ∀ p ∈ e.2, ∃ i : Nat, p.1 = (i : Int) ∧ i < r.length := by
  intro e he p hp
  obtain ⟨k, hk⟩ := List.getElem?_of_mem he
  obtain ⟨i, row, h1, h2, _⟩ := (h k e hk).ok p hp
  have := (List.getElem?_eq_some_iff.mp h2).1
  rw [runR_len] at this
  exact ⟨i, h1, this⟩
theorem living_le {F : Deal} (p : Nat → Bool) (hp : ∀ i, i < F.length → p i = true → F[i]? ≠ some Option.none) : ((List.range F.length).filter p).length + F.count Option.none ≤ F.length := by
  rw [List.count_eq_countP, countP_range, ← List.countP_eq_length_filter]
  have h1 : (List.range F.length).countP p ≤ (List.range F.length).countP fun i => decide ¬ ((F[i]?).any (· == Option.none)) = true := by
    refine List.countP_mono_left fun i hi h => ?_
    have h0 := hp i (List.mem_range.mp hi) h
    refine decide_eq_true fun hq => h0 ?_
    cases e : F[i]? with
    | none =>
      rw [e] at hq
      cases hq
    | some o =>
      rw [e] at hq
      have : (o == Option.none) = true := hq
      rw [eq_of_beq this]
  have h2 := List.length_eq_countP_add_countP (fun i => (F[i]?).any (· == Option.none)) (l := List.range F.length)
  rw [List.length_range] at h2
  omega
def rndPy (e : Int × Sends) : PyData := .tuple [.int e.1, .list (e.2.map fun q => .tuple ([q.1, q.2].map .int))]
theorem sh_two {n : Nat} {x y : Dat} {p q : PyData} (hx : Sh n x p) (hy : Sh n y q) : Sh (n + 1) (.tup [x, y]) (.tuple [p, q]) := by
  have := sh_tup (n := n) (f := fun b : Bool => if b then x else y) (g := fun b : Bool => if b then p else q) (xs := [true, false]) fun b _ => by
    cases b
    · exact hy
    · exact hx
  exact this
theorem sh_rnd (e : Int × Sends) : Sh 3 (dRound .lst e) (rndPy e) := sh_two (sh_int 2 e.1) (sh_lst fun q _ => sh_pair q)
def sp_l_any_order (ds : List Dat) (post : Dat → Prop) : Prop := ∃ ns c r nu, ds = [.scr ns, lI c, .lst (r.map lI), lI nu] ∧ Shape c r ∧ (∃ x, ∀ y ∈ c, y = x) ∧ Drawn ([2, 10] ++ List.replicate 10 60) nu ∧ post (.bl true)
theorem len_l_any_order {ds : List Dat} {post : Dat → Prop} (h : sp_l_any_order ds post) : ds.length = 4 := by
  obtain ⟨_, _, _, _, rfl, _⟩ := h
  rfl
theorem c_l_any_order (T : Top K mg) : Cal P w K mg base 10 "_law_any_order" (spD K sp_l_any_order) := by
  refine calD T d_l_any_order 50 46 sc_l_any_order (fun ds post h => len_l_any_order h) (fun cdv A outer s H E hr => ⟨_, (xss_cons (xs_set (i := 4) sc_l_any_order.nd (xe_c (c_l_order T) hr (xa_cons (xe_lenL T.m_len (xv 1)) (xa_cons (xe_new (xn_slice (xv 3) (xo_some xint) (xo_some xint))) xa_nil))))
      (xss_cons (xs_set (i := 4) sc_l_any_order.nd (xe_new (xn_op op_cat on_cat (xv 4) (xe_new (xn_lc (own := [("_law_number", 17)]) rfl sc_l_any_order.nd (xi_list (xe_new (xn_slice (xv 3) (xo_some xint) (xo_some (xe_op op_add od_I xint (xe_callB (call_max2 rfl) cd_max2 T.m_max (xa_cons xint (xa_cons (xe_op op_sub od_I (xe_ix ix_list od_ixL (xv 3) xint) xint) xa_nil)))))))) (blkOk_by (own := [("_law_number", 17)]) (N := N_l_any_order) (sc := defScope s_l_any_order) (by decide +kernel)) (fun _ _ _ _ _ => (xg_name 17 sc_l_any_order.nd)) (fun _ _ _ _ _ => xts_nil) (fun _ _ _ _ _ => (xe_op op_modN od_C (xe_callT call_int1 cd_int T.m_int (xa_cons (xv 17) xa_nil)) (xe_lenL T.m_len (xv 1)))))))))
      (xss_cons (xs_set (i := 5) sc_l_any_order.nd (xe_c (c_l_made T) hr (xa_cons (xv 1) (xa_cons (xv 2) xa_nil))))
      (xss_cons (xs_mkN (i := 6) sc_l_any_order.nd (c_Game_init T) hr (xa_cons (xv 5) xa_nil))
      (xss_cons (xs_setN (i := 7) sc_l_any_order.nd (xn_lst xa_nil))
      (xss_cons (xs_set (i := 8) sc_l_any_order.nd (xv 2))
      (xss_cons (xs_for (vs := [9]) rfl (xi_rng1 T.m_range (xa_cons (xe_lenL T.m_len (xv 4)) xa_nil)) (xg_name 9 sc_l_any_order.nd) (xss_cons (xs_set (i := 10) sc_l_any_order.nd (xe_c (c_l_draws T) hr (xa_cons (xe_op op_add od_I (xe_callT call_int1 cd_int T.m_int (xa_cons (xe_c (c_l_cell T) hr (xa_cons (xv 0) (xa_cons (xe_op op_add od_I xint (xv 9)) xa_nil))) xa_nil)) (xe_op op_mul od_C xint (xv 9))) (xa_cons (xe_new (xn_op op_cat on_cat (xe_new (xn_lst (xa_cons xint xa_nil))) (xe_new (xn_op op_rep on_rep (xe_new (xn_lst (xa_cons xint xa_nil))) xint)))) xa_nil))))
      (xss_cons (xs_set (i := 11) sc_l_any_order.nd (xe_c (c_l_kept T) hr (xa_cons (xv 1) (xa_cons (xv 8) (xa_cons (xe_ix ix_list od_ixL (xv 4) (xv 9)) (xa_cons (xv 10) (xa_cons xint (xa_cons (xe_ix ix_list od_ixL (xv 10) xint) xa_nil))))))))
      (xss_cons (xs_app 7 (xe_tup (xa_cons (xe_ix ix_list od_ixL (xv 4) (xv 9)) (xa_cons (xv 11) xa_nil))))
      (xss_cons (xs_setX (i := 8) sc_l_any_order.nd (xm_c (i := 6) (c_l_after T) hr (xa_cons (xv 1) (xa_cons (xv 8) (xa_cons (xe_ix ix_list od_ixL (xv 4) (xv 9)) (xa_cons (xv 11) xa_nil))))))
      (xss_one (xs_if (xt_cmp op_isN od_isN (xv 8) xnon) (xss_one (xs_ret xbl)) xss_nil)))))))
      (xss_frz 7 (xss_cons (xs_set (i := 12) sc_l_any_order.nd (xe_c (c_l_firsts T) hr (xa_cons (xe_lenL T.m_len (xv 2)) (xa_cons (xv 7) xa_nil))))
      (xss_cons (xs_set (i := 13) sc_l_any_order.nd (xe_c (c_l_copied T) hr (xa_cons (xv 7) xa_nil)))
      (xss_cons (xs_setN (i := 14) sc_l_any_order.nd (xn_c (c_first_sends T) hr (xa_cons (xv 5) (xa_cons (xv 13) xa_nil))))
      (xss_cons (xs_if (xw_t (xw_or (xt_cmp (op_neD hr.units) od_neD (xv 13) (xv 7)) (xw_or (xt_not (xt_val (xe_thaw 14 (xe_c (c_l_are_entries T) hr (xa_cons (xv 14) (xa_cons (xv 12) xa_nil)))))) (xw_or1 (xt_not (xt_val (xe_thaw 14 (xe_c (c_l_is_dealing T) hr (xa_cons (xv 1) (xa_cons (xv 2) (xa_cons (xv 14) xa_nil))))))))))) (xss_one (xs_ret xbl)) xss_nil)
      (xss_cons (xs_setLc (i := 15) (own := [("_law_p", 18)]) rfl sc_l_any_order.nd (xi_rng1 T.m_range (xa_cons (xe_lenL T.m_len (xv 8)) xa_nil)) (blkOk_by (own := [("_law_p", 18)]) (N := N_l_any_order) (sc := defScope s_l_any_order) (by decide +kernel)) (fun _ _ _ _ _ => (xg_name 18 sc_l_any_order.nd)) (fun _ _ _ _ _ => (xts_one (xt_cmp op_gt od_B (xe_len T.m_len (xa_cons (xe_ix ix_list od_ixL (xv 8) (xv 18)) xa_nil)) xint))) (fun _ _ _ _ _ => (xv 18)))
      (xss_cons (xs_if (xw_t (xw_or (xt_cmp op_gt od_B (xe_thaw 14 (xe_lenL T.m_len (xe_new (xn_lc (own := [("_law_p", 18)]) rfl sc_l_any_order.nd (xi_list (xv 15)) (blkOk_by (own := [("_law_p", 18)]) (N := N_l_any_order) (sc := defScope s_l_any_order) (by decide +kernel)) (fun _ _ _ _ _ => (xg_name 18 sc_l_any_order.nd)) (fun _ _ _ _ _ => (xts_one (xt_cmp op_isN od_isN (xe_ix ix_list od_ixL (xv 14) (xv 18)) xnon))) (fun _ _ _ _ _ => (xv 18)))))) xint) (xw_or1 (xt_cmp op_notBl od_notB (xe_thaw 14 (xe_c (c_is_dealing T) hr (xa_cons (xv 5) (xa_cons (xe_new (xn_callT call_list_of cn_listOf T.m_list (xa_cons (xv 14) xa_nil))) xa_nil)))) xbl)))) (xss_one (xs_ret xbl)) xss_nil)
      (xss_cons (xs_set (i := 16) sc_l_any_order.nd (xe_c (c_most_dealt T) hr (xa_cons (xv 5) xa_nil)))
      (xss_cons (xs_if (xw_t (xw_or (xt_not (xt_val (xe_c (c_l_is_integer T) hr (xa_cons (xv 16) xa_nil)))) (xw_or1 (xt_cmp op_gt od_B (xe_len T.m_len (xa_cons (xv 15) xa_nil)) (xv 16))))) (xss_one (xs_ret xbl)) xss_nil)
      (xss_cons (xs_app 14 xnon)
      (xss_cons (xs_if (xt_not (xt_val (xe_c (c_l_are_entries T) hr (xa_cons (xe_new (xn_c (c_first_sends T) hr (xa_cons (xv 5) (xa_cons (xe_oF 6 "Game" (T.gmFld 74)) xa_nil)))) (xa_cons (xv 12) xa_nil))))) (xss_one (xs_ret xbl)) xss_nil)
      (xss_one (xs_ret (xe_and (xe_cRN (i := 6) (c_l_says_dead T) hr (xa_cons (xv 8) xa_nil)) (xe_one (xe_c (c_l_is_pool T) hr (xa_cons (xv 5) (xa_cons (xv 1) (xa_cons (xv 2) xa_nil)))))))))))))))))))))))))), fun ds post h => ?_⟩)
    (fun _ _ _ _ _ _ us hl => match us, hl with | [_, _, _, _], _ => rfl)
  obtain ⟨ns, c, r, nu, rfl, sh, heq, hnu, hp⟩ := h
  have ok := sh.ok
  have hcl := ok.s0
  have h5 := sh.s5
  have h8 := sh.p8
  have hnl : nu.length = 12 := hnu.1
  obtain ⟨xq, hxq⟩ := heq
  walk_at "rs"
  rw [cutD_int, cutI_27 hnl]
  refine ⟨c.length, (nu.drop 2).take 5, rfl, by omega, by rw [List.length_take, List.length_drop]; omega, fun row hrow => ?_⟩
  obtain ⟨n1, en1, hn10, hn11⟩ := hnu.get (i := 1) (s := 10) rfl
  have a1 : atI nu 1 = some n1 := (atI_of (j := 1) rfl).trans en1
  refine dLc_it ?_
  walk_at "rs"
  rw [a1]
  walk_at "rs"
  rw [cutD_int]
  have hcut : (cutI nu (some 7) (some (7 + if n1 - 4 > 0 then n1 - 4 else 0))).length ≤ 12 := by
    have := cutI_len nu (some 7) (some (7 + if n1 - 4 > 0 then n1 - 4 else 0))
    omega
  generalize cutI nu (some 7) (some (7 + if n1 - 4 > 0 then n1 - 4 else 0)) = ex at hcut
  refine dLc_map ex .int (fun x => .int (x.fmod (c.length : Int))) (by omega) (fun Q h => h) (fun x hx Y h => ?_) ?_
  · walk_at "rs"
    exact ⟨by omega, h⟩
  · have hrl : row.length = c.length := by
      have := hrow.length_eq
      rwa [List.length_map, List.length_range] at this
    obtain ⟨W, hW⟩ : ∃ W : List Int, W = row ++ ex.map fun x => x.fmod (c.length : Int) := ⟨_, rfl⟩
    have hWl : W.length ≤ 20 := by
      rw [hW, List.length_append, List.length_map]
      omega
    have eW : row.map Dat.int ++ ex.map (fun x => Dat.int (x.fmod (c.length : Int))) = W.map Dat.int := by
      rw [hW, List.map_append, List.map_map]
      rfl
    walk_at "rs"
    refine ⟨by omega, c, r, rfl, ok, c, r, rfl, rfl, ok, fun ft hft => ⟨rfl, fun a => ?_⟩⟩
    rw [eW]
    obtain ⟨I, hI⟩ : ∃ I : Nat → List Sl → Prop, ∀ m δ, I m δ ↔ ∃ R ft s9 s10 s11 s12 s13 s14 s15 s16 s17 s18, δ = [Sl.d (.scr ns), Sl.d (lI c), Sl.d (.lst (r.map lI)), Sl.d (lI nu), Sl.d (lI W), Sl.d (.pool c r), Sl.oN a "Game" (gmF c (runR r R) c r (R.map (dRound .tup)) ft), Sl.ol (R.map (dRound .lst)), Sl.d (.lst ((runR r R).map lI)), s9, s10, s11, s12, s13, s14, s15, s16, s17, s18] ∧ Good c r R ∧ FtOk ft ∧ R.map (·.1) = W.take m ∧ R.length = m := ⟨_, fun _ _ => Iff.rfl⟩
    refine dFor_go (rngD 0 W.length) (fun Q h => ?_) I ((hI _ _).mpr ⟨[], ft, _, _, _, _, _, _, _, _, _, _, rfl, fun k e h => (by simp at h), hft, rfl, rfl⟩) (fun m x δ' hm h => ?_) fun δ' h => ?_
    · walk_at "rs"
      exact ⟨by omega, by omega, h⟩
    · obtain ⟨R, ft, s9, s10, s11, s12, s13, s14, s15, s16, s17, s18, rfl, hg, hft, hR1, hR2⟩ := (hI _ _).mp h
      obtain ⟨hmW, rfl⟩ := rngD_at hm
      obtain ⟨s, hs⟩ : ∃ s, W[m]? = some s := ⟨_, List.getElem?_eq_getElem hmW⟩
      have k2 : (2 : Int) + (m : Int) = ((2 + m : Nat) : Int) := by omega
      have okR : PoolOk c (runR r R) := ok.run
      walk_at "rs"
      refine ⟨ns, 2 + m, by rw [k2], fun z => ?_⟩
      walk_at "rs"
      refine ⟨.inl ⟨by omega, by omega⟩, by decide, by decide, by decide, z + 17 * (m : Int), [3] ++ List.replicate 8 300, rfl, by decide, by decide, fun dr hdr => ?_⟩
      obtain ⟨kd, ekd, _, _⟩ := hdr.get (i := 0) (s := 3) rfl
      have hdl : dr.length = 9 := hdr.1
      have a0 : atI dr 0 = some kd := (atI_of (j := 0) rfl).trans ekd
      walk_at "rs"
      rw [hs, a0]
      walk_at "rs"
      refine ⟨c, runR r R, s, dr, 1, kd, rfl, okR, by rw [runR_len]; omega, by omega, fun S al => ?_⟩
      walk_at "rs"
      refine ⟨by omega, c, runR r R, c, r, s, S, R.map (dRound .tup), ft, rfl, rfl, okR, al, hft, by rw [List.length_map]; omega, fun ft' hft' => ?_⟩
      have e1 : R.map (dRound .lst) ++ [Dat.tup [.int s, .lst (S.map dPair)]] = (R ++ [(s, S)]).map (dRound .lst) := by
        rw [List.map_append]
        rfl
      have e2 : R.map (dRound .tup) ++ [dRound .tup (s, S)] = (R ++ [(s, S)]).map (dRound .tup) := by
        rw [List.map_append]
        rfl
      rw [e1, e2, show roundR (runR r R) s S = runR r (R ++ [(s, S)]) from (runR_snoc (e := (s, S))).symm]
      show I (m + 1) _
      refine (hI _ _).mpr ⟨R ++ [(s, S)], ft', _, _, _, _, _, _, _, _, _, _, rfl, hg.snoc al, hft', ?_, ?_⟩
      · rw [List.map_append, hR1, take_succ_of hs]
        rfl
      · rw [List.length_append, hR2]
        rfl
    · obtain ⟨R, ft, s9, s10, s11, s12, s13, s14, s15, s16, s17, s18, rfl, hg, hft, hR1, hR2⟩ := (hI _ _).mp h
      walk_at "rs"
      rw [rngD_len] at hR1 hR2
      rw [List.take_length] at hR1
      have hall : ∀ s : Int, 0 ≤ s → s < (c.length : Int) → ∃ e ∈ R, e.1 = s := fun s h0 h1 => by
        have m1 : s ∈ row := hrow.mem_iff.mpr (List.mem_map.mpr ⟨s.toNat, List.mem_range.mpr (by omega), by omega⟩)
        have m2 : s ∈ R.map (·.1) := by
          rw [hR1, hW]
          exact List.mem_append_left _ m1
        obtain ⟨e, he, e1⟩ := List.mem_map.mp m2
        exact ⟨e, he, e1⟩
      have hF := firsts_deal ok hxq hg
      have hFl := hF.len
      obtain ⟨F, eF⟩ : ∃ F, F = firsts r.length (flat R) := ⟨_, rfl⟩
      have hns : ∀ i, i < r.length → F[i]? = some Option.none → (runR r R)[i]? = some [] := fun i hi h => by
        rw [eF, firsts_at hi] at h
        exact never_sent ok hall hi (Option.some.inj h)
      refine ⟨r.length, R, rfl, by omega, hg.rng, ?_⟩
      rw [← eF] at hF hFl ⊢
      refine ⟨R, rfl, by omega, c, r, R, .inl rfl, ok, hg, by omega, ?_⟩
      rw [← eF]
      refine dEqD_sh (sh_lst fun e _ => sh_rnd e) (sh_lst fun e _ => sh_rnd e) (by decide) fun bb hbb => ?_
      have hbt : bb = true := hbb.mpr rfl
      subst hbt
      walk_at "rs"
      refine ⟨F, rfl, by omega, trivial, true, rfl, ?_⟩
      walk_at "rs"
      refine ⟨c, r, F, rfl, ok, hF, trivial, true, rfl, ?_⟩
      walk_at "rs"
      refine dLc_go (List.range F.length) (fun (k : Nat) => Dat.int (k : Int)) (fun i => !((runR r R)[i]? == some [])) (fun (k : Nat) => Dat.int (k : Int)) (by rw [List.length_range]; omega) (fun Q h => ?_) (fun k hk Y N h1 h2 => ?_) ?_
      · walk_at "rs"
        rw [rngD_0, runR_len, ← hFl]
        exact ⟨by omega, by omega, h⟩
      · obtain ⟨row', hrow'⟩ : ∃ row', (runR r R)[k]? = some row' := ⟨_, List.getElem?_eq_getElem (by rw [runR_len]; have := List.mem_range.mp hk; omega)⟩
        walk_at "rs"
        rw [hrow']
        walk_at "rs"
        cases row' with
        | nil =>
          rw [if_neg (by simp)]
          exact h2 (by simp [hrow'])
        | cons x row' =>
          rw [if_pos (by simp)]
          exact h1 (by simp [hrow'])
      · have hlive := living_le (F := F) (fun i => !((runR r R)[i]? == some [])) fun i hi h hn => by
          have := hns i (by omega) hn
          simp [this] at h
        refine dLc_it ?_
        walk_at "rs"
        refine dLc_go ((List.range F.length).filter fun i => !((runR r R)[i]? == some [])) (fun (k : Nat) => Dat.int (k : Int)) (fun _ => false) (fun (k : Nat) => Dat.int (k : Int)) (by have := List.length_filter_le (fun i => !((runR r R)[i]? == some [])) (List.range F.length); rw [List.length_range] at this; omega) (fun Q h => ?_) (fun k hk Y N h1 h2 => ?_) ?_
        · exact h
        · have hkl := List.mem_filter.mp hk
          obtain ⟨o, ho⟩ : ∃ o, F[k]? = some o := ⟨_, List.getElem?_eq_getElem (List.mem_range.mp hkl.1)⟩
          walk_at "rs"
          rw [ho]
          cases o with
          | none =>
            have h3 := hkl.2
            have := hns k (by have := List.mem_range.mp hkl.1; omega) ho
            simp [this] at h3
          | some q =>
            refine ⟨pr (some q), rfl, ?_⟩
            rw [if_neg (by rw [isN_pr]; simp)]
            exact h2 rfl
        · walk_at "rs"
          rw [if_neg (by simp)]
          refine ⟨c, r, F, rfl, ok, fun b hb => ?_⟩
          have hbt : b = true := hb.mpr hF
          subst hbt
          refine ⟨trivial, true, rfl, ?_⟩
          walk_at "rs"
          refine ⟨c, r, rfl, ok, fun D hD hG => ?_⟩
          have hGF := hG F hF
          have hDl := hD.len
          refine ⟨_, rfl, true, rfl, ?_⟩
          walk_at "rs"
          rw [if_neg (show ¬ ((r.length : Int) - (D.count Option.none : Nat) < (((List.range F.length).filter fun i => !((runR r R)[i]? == some [])).length : Nat)) by omega)]
          refine ⟨by omega, _, by unfold gmF; rw [lkG2, lkA], c, r, R, .inr rfl, ok, hg, by omega, ?_⟩
          rw [← eF]
          refine ⟨F, rfl, by omega, true, rfl, ?_⟩
          walk_at "rs"
          refine ⟨c, runR r R, c, r, R.map (dRound .tup), ft, rfl, rfl, ok.run, true, rfl, ?_⟩
          walk_at "rs"
          exact ⟨c, r, rfl, ok, hp⟩
end
end Pw
set_option Elab.async false
set_option linter.all false
set_option maxRecDepth 100000
set_option maxHeartbeats 1000000
namespace Pw
open PySem PySem.Spec L2
/-- the reading of the data, unfolded -/
local macro_rules | `(tactic| walk_at "rd") => `(tactic| simp only [dRet, dRetN, dRetO, dRetM, dRetG, dSeq, dIf, dNext, dNever, dDrop, dAsg, dAsgN, dApp, dFrz, dFrzI, dTest, dB, dYes, dOp, dOpN, dC, dVar, dCall, dCallN, dCons, dNil, dTup, dLst, dAnd, dOr, dNot, dAndV, dOrV, dNotV, dIfE, dIsi, d2I, d2B, d2C, dIxL, dIxT, dIxS, dLen, d2Min, d2Max, dAbs, dInt, dTupOf, dListOf, dCaps, dHold, dSeats, dPieces, dIsN, dNotN, dNotB, dIn, dSorted, dSortedT, dLenL, dMinB, dLenSet, dEnum, dgN, dgTup, dgCons, dgNil, dItL, dItT, dRng1, dRng2, dCat, dRep, dCatT, dSl, dNoP, dP1, dRev, dCntN, dListR, dListI,
  dIxO, dLenO, dThaw, dSetO, dAugO, dAug, dInI, dPutI, dIxI, dGetF, dAsgP, dAsgL, dGetP, dIxP, dPutP, dSetM, dSetd, dCRO, dLenGet, dOF, dSetF, dSetX, dIfNN, dCallG, dCallMt, dMtR, dCRN, dMkN, dMkP, dIsP, dFor, dForI, dLc, dLc2, dDc, dWhile, endsOf, endsN, endsM, endsG, startD, startR, startG, wipeD, isSc,
  List.map_cons, List.map_nil, List.cons_append, List.nil_append, List.append_nil, List.length_cons, List.length_nil, Nat.reduceAdd, Nat.reduceSub, List.replicate_succ, List.replicate_zero, List.getElem?_cons_zero, List.getElem?_cons_succ, List.set_cons_zero, List.set_cons_succ, Option.getD_some,
  Option.some.injEq, Sl.d.injEq, Sl.ol.injEq, Sl.oI.injEq, Sl.oP.injEq, Sl.oL.injEq, Sl.rd.injEq, Sl.oN.injEq, Sl.rN.injEq, Dat.int.injEq, Dat.bl.injEq, Dat.lst.injEq, Dat.tup.injEq, Dat.pool.injEq, Dat.scr.injEq, Dat.dI.injEq, Dat.dP.injEq, List.cons.injEq, map_int_inj, reduceCtorEq, exists_eq_left', exists_eq_left, exists_eq_right, exists_and_left, exists_const, and_true, true_and, and_false, false_and, or_false, false_or, exists_false, if_true, if_false, ite_true, ite_false, Bool.false_eq_true, and_assoc, and_self, decide_eq_true_eq, exists_prop, true_or, or_true, or_self, List.length_map, Nat.reduceLeDiff, Nat.reduceLT, atI_z, atI_1, atI_map, Option.map_some, Option.map_none, atI_nat', Int.toNat_natCast, Int.zero_add, rngD_len, enumD_len, isN_pr, Option.isNone_some, Option.isNone_none, isN_non, isN_int, isN_lst, isN_tup, isN_pool, pr_none, pr_some, List.getElem?_map, tyI, tyL, tyT, kII, kIB, kLL, kTT, decide_true, lsts_inj, isN_vB, vB_some, vB_none, kvB_len, rowB_len, clean_d, clean_no, clean_nil, Bool.not_true, Bool.not_false, fP1, fP2, fP3, fP4, lkA, lkP2, fG1, fG2, fG3, fG4, fG5, fG6, fG7, lkG1, lkG2, lkG3, lkG4, lkG5])
local macro_rules | `(tactic| walk_at "rs") => `(tactic| simp only [dRet, dRetN, dRetO, dRetM, dRetG, dSeq, dIf, dNext, dNever, dDrop, dAsg, dAsgN, dApp, dFrz, dFrzI, dTest, dB, dYes, dOp, dOpN, dC, dVar, dCall, dCallN, dCons, dNil, dTup, dLst, dAnd, dOr, dNot, dAndV, dOrV, dNotV, dIfE, dIsi, d2I, d2B, d2C, dIxL, dIxT, dIxS, dLen, d2Min, d2Max, dAbs, dInt, dTupOf, dListOf, dCaps, dHold, dSeats, dPieces, dIsN, dNotN, dNotB, dIn, dSorted, dSortedT, dLenL, dMinB, dLenSet, dEnum, dgN, dgTup, dgCons, dgNil, dItL, dItT, dRng1, dRng2, dCat, dRep, dCatT, dSl, dNoP, dP1, dRev, dCntN, dListR, dListI,
  dIxO, dLenO, dThaw, dSetO, dAugO, dAug, dInI, dPutI, dIxI, dGetF, dAsgP, dAsgL, dGetP, dIxP, dPutP, dSetM, dSetd, dCRO, dLenGet, dOF, dSetF, dSetX, dIfNN, dCallG, dCallMt, dMtR, dCRN, dMkN, dMkP, dIsP, endsOf, endsN, endsM, endsG, startD, startR, startG, wipeD, isSc,
  List.map_cons, List.map_nil, List.cons_append, List.nil_append, List.append_nil, List.length_cons, List.length_nil, Nat.reduceAdd, Nat.reduceSub, List.replicate_succ, List.replicate_zero, List.getElem?_cons_zero, List.getElem?_cons_succ, List.set_cons_zero, List.set_cons_succ, Option.getD_some,
  Option.some.injEq, Sl.d.injEq, Sl.ol.injEq, Sl.oI.injEq, Sl.oP.injEq, Sl.oL.injEq, Sl.rd.injEq, Sl.oN.injEq, Sl.rN.injEq, Dat.int.injEq, Dat.bl.injEq, Dat.lst.injEq, Dat.tup.injEq, Dat.pool.injEq, Dat.scr.injEq, Dat.dI.injEq, Dat.dP.injEq, List.cons.injEq, map_int_inj, reduceCtorEq, exists_eq_left', exists_eq_left, exists_eq_right, exists_and_left, exists_const, and_true, true_and, and_false, false_and, or_false, false_or, exists_false, if_true, if_false, ite_true, ite_false, Bool.false_eq_true, and_assoc, and_self, decide_eq_true_eq, exists_prop, true_or, or_true, or_self, List.length_map, Nat.reduceLeDiff, Nat.reduceLT, atI_z, atI_1, atI_map, Option.map_some, Option.map_none, atI_nat', Int.toNat_natCast, Int.zero_add, rngD_len, enumD_len, isN_pr, Option.isNone_some, Option.isNone_none, isN_non, isN_int, isN_lst, isN_tup, isN_pool, pr_none, pr_some, List.getElem?_map, tyI, tyL, tyT, kII, kIB, kLL, kTT, decide_true, lsts_inj, isN_vB, vB_some, vB_none, kvB_len, rowB_len, clean_d, clean_no, clean_nil, Bool.not_true, Bool.not_false, fP1, fP2, fP3, fP4, lkA, lkP2, fG1, fG2, fG3, fG4, fG5, fG6, fG7, lkG1, lkG2, lkG3, lkG4, lkG5])
section
variable {P : Program} {w : World} {K : PySem.W.Frag} {mg : Str → Option Value} {base : Heap}
/-! The law's second part: the seat of the low cap dies first. -/
def sp_l_low_first (ds : List Dat) (post : Dat → Prop) : Prop := ∃ ns lo hi sm sp, ds = [.scr ns, lI (if sm = 1 then [hi, lo] else [lo, hi]), .lst ((List.replicate hi.toNat [0, 1]).map lI), .int sm, .int sp] ∧ 0 ≤ lo ∧ lo < hi ∧ hi ≤ 6 ∧ 0 ≤ sm ∧ sm < 2 ∧ 0 ≤ sp ∧ sp < hi ∧ post (.bl true)
theorem len_l_low_first {ds : List Dat} {post : Dat → Prop} (h : sp_l_low_first ds post) : ds.length = 5 := by
  obtain ⟨_, _, _, _, _, rfl, _⟩ := h
  rfl
theorem c_l_low_first (T : Top K mg) : Cal P w K mg base 10 "_law_low_first" (spD K sp_l_low_first) := by
  refine calD T d_l_low_first 51 47 sc_l_low_first (fun ds post h => len_l_low_first h) (fun cdv A outer s H E hr => ⟨_, (xss_cons (xs_set (i := 5) sc_l_low_first.nd (xe_c (c_l_made T) hr (xa_cons (xv 1) (xa_cons (xv 2) xa_nil))))
      (xss_cons (xs_mkN (i := 6) sc_l_low_first.nd (c_Game_init T) hr (xa_cons (xv 5) xa_nil))
      (xss_cons (xs_setLc (i := 7) (own := [("_law_p", 11)]) rfl sc_l_low_first.nd (xi_rng1 T.m_range (xa_cons (xe_lenL T.m_len (xv 2)) xa_nil)) (blkOk_by (own := [("_law_p", 11)]) (N := N_l_low_first) (sc := defScope s_l_low_first) (by decide +kernel)) (fun _ _ _ _ _ => (xg_name 11 sc_l_low_first.nd)) (fun _ _ _ _ _ => xts_nil) (fun _ _ _ _ _ => (xe_tup (xa_cons (xv 11) (xa_cons (xe_op op_sub od_I xint (xv 3)) xa_nil)))))
      (xss_cons (xs_setX (i := 8) sc_l_low_first.nd (xm_c (i := 6) (c_l_after T) hr (xa_cons (xv 1) (xa_cons (xv 2) (xa_cons (xv 3) (xa_cons (xe_new (xn_op op_cat on_cat (xe_new (xn_slice (xv 7) (xo_some (xv 4)) xo_none)) (xe_new (xn_slice (xv 7) xo_none (xo_some (xv 4)))))) xa_nil))))))
      (xss_cons (xs_if (xt_cmp op_isN od_isN (xv 8) xnon) (xss_one (xs_ret xbl)) xss_nil)
      (xss_cons (xs_set (i := 9) sc_l_low_first.nd (xe_c (c_l_draws T) hr (xa_cons (xe_op op_add od_I (xe_callT call_int1 cd_int T.m_int (xa_cons (xe_c (c_l_cell T) hr (xa_cons (xv 0) (xa_cons xint xa_nil))) xa_nil)) xint) (xa_cons (xe_new (xn_op op_cat on_cat (xe_new (xn_lst (xa_cons xint xa_nil))) (xe_new (xn_op op_rep on_rep (xe_new (xn_lst (xa_cons xint xa_nil))) xint)))) xa_nil))))
      (xss_cons (xs_set (i := 7) sc_l_low_first.nd (xe_c (c_l_kept T) hr (xa_cons (xv 1) (xa_cons (xv 8) (xa_cons (xe_op op_sub od_I xint (xv 3)) (xa_cons (xv 9) (xa_cons xint (xa_cons (xe_ix ix_list od_ixL (xv 9) xint) xa_nil))))))))
      (xss_cons (xs_setX (i := 8) sc_l_low_first.nd (xm_c (i := 6) (c_l_after T) hr (xa_cons (xv 1) (xa_cons (xv 8) (xa_cons (xe_op op_sub od_I xint (xv 3)) (xa_cons (xv 7) xa_nil))))))
      (xss_cons (xs_if (xw_t (xw_or (xt_cmp op_isN od_isN (xv 8) xnon) (xw_or1 (xt_cmp op_gt od_B (xe_lenL T.m_len (xe_new (xn_lc (own := [("_law_row", 12)]) rfl sc_l_low_first.nd (xi_list (xv 8)) (blkOk_by (own := [("_law_row", 12)]) (N := N_l_low_first) (sc := defScope s_l_low_first) (by decide +kernel)) (fun _ _ _ _ _ => (xg_name 12 sc_l_low_first.nd)) (fun _ _ _ _ _ => (xts_one (xt_cmp op_eq od_eq (xe_lenL T.m_len (xv 12)) xint))) (fun _ _ _ _ _ => (xv 12))))) xint)))) (xss_one (xs_ret xbl)) xss_nil)
      (xss_cons (xs_setN (i := 10) sc_l_low_first.nd (xn_c (c_first_sends T) hr (xa_cons (xv 5) (xa_cons (xe_oF 6 "Game" (T.gmFld 74)) xa_nil))))
      (xss_cons (xs_if (xw_t (xw_or (xt_not (xt_val (xe_thaw 10 (xe_c (c_l_are_entries T) hr (xa_cons (xv 10) (xa_cons (xe_new (xn_lc (own := [("_law_row", 12)]) rfl sc_l_low_first.nd (xi_list (xv 2)) (blkOk_by (own := [("_law_row", 12)]) (N := N_l_low_first) (sc := defScope s_l_low_first) (by decide +kernel)) (fun _ _ _ _ _ => (xg_name 12 sc_l_low_first.nd)) (fun _ _ _ _ _ => xts_nil) (fun _ _ _ _ _ => (xe_tup (xa_cons xint (xa_cons xint xa_nil)))))) xa_nil)))))) (xw_or1 (xt_cmp op_notBl od_notB (xe_thaw 10 (xe_c (c_is_dealing T) hr (xa_cons (xv 5) (xa_cons (xv 10) xa_nil)))) xbl)))) (xss_one (xs_ret xbl)) xss_nil)
      (xss_one (xs_ret (xe_and (xe_cRN (i := 6) (c_l_says_dead T) hr (xa_cons (xv 8) xa_nil)) (xe_one (xe_c (c_l_is_pool T) hr (xa_cons (xv 5) (xa_cons (xv 1) (xa_cons (xv 2) xa_nil))))))))))))))))))), fun ds post h => ?_⟩)
    (fun _ _ _ _ _ _ us hl => match us, hl with | [_, _, _, _, _], _ => rfl)
  obtain ⟨ns, lo, hi, sm, sp, rfl, h0, h1, h2, h3, h4, h5, h6, hp⟩ := h
  obtain ⟨n, rfl⟩ : ∃ n : Nat, hi = (n : Int) := ⟨hi.toNat, by omega⟩
  obtain ⟨q, rfl⟩ : ∃ q : Nat, sp = (q : Int) := ⟨sp.toNat, by omega⟩
  rw [Int.toNat_natCast]
  have t := two_of (n := n) h0 h1 (by omega) h3 h4
  obtain ⟨c, ec⟩ : ∃ c, c = (if sm = 1 then [(n : Int), lo] else [lo, (n : Int)]) := ⟨_, rfl⟩
  rw [← ec] at t ⊢
  have ok := t.pool
  have okl : (rTwo n).length = n := List.length_replicate
  have hn6 : n ≤ 6 := by omega
  walk_at "rs"
  refine ⟨c, rTwo n, rfl, ok, c, rTwo n, rfl, rfl, ok, fun ft hft => ⟨rfl, fun a => ?_⟩⟩
  refine dLc_map (List.range n) (fun (k : Nat) => Dat.int (k : Int)) (fun (k : Nat) => dPair ((k : Int), 1 - sm)) (by rw [List.length_range]; omega) (fun Q h => ?_) (fun k hk Y h => ?_) ?_
  · walk_at "rs"
    rw [okl, rngD_0]
    exact ⟨by omega, by omega, h⟩
  · walk_at "rs"
    exact h
  · have e1 : ((List.range n).map fun (k : Nat) => dPair ((k : Int), 1 - sm)) = ((List.range n).map fun (k : Nat) => ((k : Int), 1 - sm)).map dPair := by
      rw [List.map_map]
      rfl
    have hlen : (((List.range n).map fun (k : Nat) => ((k : Int), 1 - sm)).map dPair).length = n := by
      rw [List.length_map, List.length_map, List.length_range]
    rw [e1, cutD_drop (by omega), cutD_take (by omega), ← List.map_drop, ← List.map_take, ← List.map_append]
    have al := t.allowed (sp := q)
    refine ⟨?_, c, rTwo n, c, rTwo n, sm, allS n (1 - sm) q, [], ft, rfl, rfl, ok, al, hft, by simp, fun ft' hft' => ?_⟩
    · rw [List.length_map, List.length_map, List.length_drop, List.length_take, List.length_map, List.length_range]
      omega
    rw [allS_round]
    walk_at "rs"
    refine ⟨ns, 13, rfl, fun z => ?_⟩
    walk_at "rs"
    refine ⟨by decide, by decide, by decide, z + 5, [3] ++ List.replicate 6 300, rfl, by decide, by decide, fun dr hdr => ?_⟩
    obtain ⟨kd, ekd, _, _⟩ := hdr.get (i := 0) (s := 3) rfl
    have hdl : dr.length = 7 := hdr.1
    have a0 : atI dr 0 = some kd := (atI_of (j := 0) rfl).trans ekd
    walk_at "rs"
    rw [a0]
    walk_at "rs"
    refine ⟨c, rTwo n, 1 - sm, dr, 1, kd, rfl, ok, by omega, by omega, fun S2 al2 => ?_⟩
    walk_at "rs"
    refine ⟨c, rTwo n, c, rTwo n, 1 - sm, S2, _, ft', rfl, rfl, ok, al2, hft', by simp, fun ft2 hft2 => ?_⟩
    have hg := t.lowGood (sp := q) al2
    have hF := t.lowFirsts (sp := q) (S := S2)
    obtain ⟨R, eR⟩ : ∃ R : Rnds, R = [(sm, allS n (1 - sm) q), (1 - sm, S2)] := ⟨_, rfl⟩
    have eRd : [dRound Dat.tup (sm, allS n (1 - sm) q)] ++ [dRound Dat.tup (1 - sm, S2)] = R.map (dRound .tup) := by
      rw [eR]
      rfl
    have hRl : R.length = 2 := by
      rw [eR]
      rfl
    rw [← eR] at hg hF
    rw [eRd]
    have hlive := fun row h => t.lowLive (S := S2) (row := row) h
    have okE := ok.round (1 - sm) S2
    have hEl : (roundR (rTwo n) (1 - sm) S2).length = n := by rw [roundR_len, okl]
    generalize roundR (rTwo n) (1 - sm) S2 = rE at hlive okE hEl
    walk_at "rs"
    refine dLc_it ?_
    walk_at "rs"
    refine dLc_go rE lI (fun _ => false) lI (by omega) (fun Q h => h) (fun row hrow Y N h1 h2 => ?_) ?_
    · walk_at "rs"
      rw [if_neg (by have := hlive row hrow; cases row with | nil => exact absurd rfl this | cons _ _ => simp; omega)]
      exact h2 rfl
    · have hE : ((rE.filter fun _ => false).map lI) = [] := by simp
      rw [hE]
      walk_at "rs"
      rw [if_neg (by simp)]
      refine ⟨_, by unfold gmF; rw [lkG2, lkA], c, rTwo n, R, .inr rfl, ok, hg, by omega, ?_⟩
      rw [okl, hF]
      refine dLc_map (rTwo n) lI (fun _ => pr (some (0, 1))) (by omega) (fun Q h => ?_) (fun k hk Y h => ?_) ?_
      · walk_at "rs"
        exact h
      · walk_at "rs"
        exact h
      · have e3 : ((rTwo n).map fun _ => pr (some (0, 1))) = (List.replicate n (some ((0 : Int), (1 : Int)))).map pr := by rw [List.map_replicate, List.map_replicate]
        rw [e3]
        refine ⟨List.replicate n (some (0, 1)), rfl, by rw [List.length_replicate]; omega, trivial, true, rfl, ?_⟩
        walk_at "rs"
        refine ⟨c, rTwo n, List.replicate n (some (0, 1)), rfl, ok, fun b hb => ?_⟩
        have hbf : b = false := by
          cases b with
          | false => rfl
          | true => exact absurd (hb.mp rfl) t.lowNot
        subst hbf
        refine ⟨trivial, false, rfl, ?_⟩
        walk_at "rs"
        refine ⟨c, rE, c, rTwo n, R.map (dRound .tup), ft2, rfl, rfl, okE, true, rfl, ?_⟩
        walk_at "rs"
        exact ⟨c, rTwo n, rfl, ok, hp⟩
end
end Pw
set_option Elab.async false
set_option linter.all false
set_option maxRecDepth 100000
set_option maxHeartbeats 1000000
/-! sorted(range(2), key=lambda seat: (-pool.caps[seat], seat)): the lambda made, called, the row sorted by it. -/
namespace Pw
open PySem PySem.Spec L2
open PyProof.Rows (IsTup)
/-! ### data over a heap whose code tables grew -/
section
variable {K : PySem.W.Frag} {H H' : Hp}
theorem tN {H H' : Hp} {a : Addr} {o : HO} (e : LamX.ExtN H H') (h : H a = some o) (n : ∀ ps, o ≠ .tbl ps) : H' a = some o := e a o h n
theorem tRd {a : Addr} {o : HO} (e : LamX.ExtN H H') (h : Rd H a o) (n : ∀ ps, o ≠ .tbl ps) : Rd H' a o := by
  rcases h with h | ⟨ob, h⟩
  · exact .inl (e a _ h n)
  · exact .inr ⟨ob, e a _ h fun _ z => by cases z⟩
theorem tSq {a : Addr} {xs : List V} (e : LamX.ExtN H H') (h : SqL K H a xs) : SqL K H' a xs := by
  rcases h with h | h
  · exact .inl (tRd e h fun _ z => by cases z)
  · exact .inr h
mutual
theorem Rp.extN (e : LamX.ExtN H H') : ∀ {v : V} {d : Dat}, Rp K H v d → Rp K H' v d
  | _, _, .non => .non
  | _, _, .bl b => .bl b
  | _, _, .int i => .int i
  | _, _, .lst h r => .lst (tN e h fun _ z => by cases z) (RpL.extN e r)
  | _, _, .tup h r => .tup (tN e h fun _ z => by cases z) (RpL.extN e r)
  | _, _, .pool h l1 l2 l3 l4 ha hb r => .pool (tN e h fun _ z => by cases z) l1 l2 l3 l4 (tN e ha fun _ z => by cases z) (tN e hb fun _ z => by cases z) (RpL.extN e r)
  | _, _, .dI h r => .dI (tRd e h fun _ z => by cases z) (RpI.extN e r)
  | _, _, .dP h r => .dP (tN e h fun _ z => by cases z) (RpP.extN e r)
  | _, _, .scr h => .scr (tSq e h)
  | _, _, .ins h r => .ins (tN e h fun _ z => by cases z) (RpF.extN e r)
theorem RpF.extN (e : LamX.ExtN H H') : ∀ {v : List (Str × V)} {d : List (Str × Dat)}, RpF K H v d → RpF K H' v d
  | _, _, .nil => .nil
  | _, _, .cons h r => .cons (Rp.extN e h) (RpF.extN e r)
theorem RpL.extN (e : LamX.ExtN H H') : ∀ {v : List V} {d : List Dat}, RpL K H v d → RpL K H' v d
  | _, _, .nil => .nil
  | _, _, .cons h r => .cons (Rp.extN e h) (RpL.extN e r)
theorem RpI.extN (e : LamX.ExtN H H') : ∀ {v : List (Key × V)} {d : List (Int × Dat)}, RpI K H v d → RpI K H' v d
  | _, _, .nil => .nil
  | _, _, .cons h r => .cons (Rp.extN e h) (RpI.extN e r)
theorem RpP.extN (e : LamX.ExtN H H') : ∀ {v : List (List Key × V)} {d : List ((Int × Int) × Dat)}, RpP K H v d → RpP K H' v d
  | _, _, .nil => .nil
  | _, _, .cons h r => .cons (Rp.extN e h) (RpP.extN e r)
end
end
/-- F without its tables -/
def bare (F : Hp) : Hp := fun a => match F a with
  | some (.tbl _) => Option.none
  | o => o
theorem bare_ext (F : Hp) : LamX.ExtN F (bare F) := fun b o h n => by
  unfold bare
  rw [h]
  cases o with
  | tbl ps => exact absurd rfl (n ps)
  | _ => rfl
theorem bare_same {F H H' : Hp} (s : Same F H) (e : LamX.ExtN H H') : Same (bare F) H' := fun b o h => by
  unfold bare at h
  cases q : F b with
  | none =>
    rw [q] at h
    cases h
  | some u =>
    rw [q] at h
    cases u with
    | tbl ps => cases h
    | _ =>
      cases h
      exact e b _ (s b _ q) fun _ z => by cases z
/-! ### the key, called -/
section
variable {X : Cx} {pins : List (Addr × Obj)} {σ : L2.St} {H : Hp} {s : Shared} {A : Around}
/-- an attribute read: the state but for the count of tokens stays -/
theorem attr_tok {E : Value → Shared → Prop} {a C dx : Addr} {fs : List (Str × V)} {f : Str} {v : V} {b : Bool} {Q : Value → Shared → Prop} (I : Inv X pins σ H s) (e : H a = some (.ins C dx fs)) (c : Cls X.K C) (n : NoAttr X.K C f) (l : fs.lookup f = some v)
    (h : ∀ u, RelV v u → Q u { s with toks := s.toks + 1 }) : wpAny (model X.prog X.w) A (getAttr (.ref a) f b) Q E s := by
  obtain ⟨mA, O, r, _⟩ := ins_get I.hok e
  have hr := r f
  rw [l] at hr
  obtain ⟨u, hu, ru⟩ := RelO.some_of hr
  exact get_map I.kIn O (c.get f) c.hd n hu (handed_of ru) (h u ru)
abbrev keyE (p1 p2 p3 p4 p5 p6 p7 : Pos) (n : Nat) : Expr := .Tuple [.UnaryOp .USub (.Subscript (.Attribute (.Name "pool" p1) "caps" p2) (.Name "seat" p3) p4) p5, .Name "seat" p6] n p7
abbrev keyS : Scope := { kind := .function, names := [(Str.ofString "seat", .local), (Str.ofString "pool", .free)], isGenerator := false, isCoroutine := false, more := [] }
theorem key_body {env : Env} {E : Value → Shared → Prop} {cc p C dx ac : Addr} {fs : List (Str × V)} {cs : List Int} {k ck : Int} {t : Tok} {p1 p2 p3 p4 p5 p6 p7 : Pos} {n : Nat} {m : Str → Option Value}
    (J : Inv X pins σ H s) (hsc : env.scope = keyS) (hm : s.heap.Ns env.locals m) (hs : m ("seat" : Str) = some (Value.int k t)) (hcl : env.cells.lookup ("pool" : Str) = some cc) (hcell : s.heap.IsCell cc (some (.ref p)))
    (hp : H p = some (.ins C dx fs)) (cC : Cls X.K C) (nC : NoAttr X.K C "caps") (l : fs.lookup ("caps" : Str) = some (.ref ac)) (ht : H ac = some (.tup (cs.map V.int))) (hk : atI cs k = some ck) :
    wpAny (model X.prog X.w) A (eval (keyE p1 p2 p3 p4 p5 p6 p7 n) env) (PySem.W.KeyPure (.tuple [.int (-ck), .int k]) s) E s := by
  have kind : env.scope.kind = .function := by rw [hsc]
  have kS : env.kindOf "seat" = some .local := by
    unfold Env.kindOf
    rw [hsc]
    rfl
  have kP : env.kindOf "pool" = some .free := by
    unfold Env.kindOf
    rw [hsc]
    rfl
  refine wpAny_Tuple_spliced ?_
  show wpAny _ _ (spliced ((false, eval (.UnaryOp .USub (.Subscript (.Attribute (.Name "pool" p1) "caps" p2) (.Name "seat" p3) p4) p5) env) :: backTo p7 (starEach [.Name "seat" p6] env))) _ _ s
  refine Calls.spliced_cons ?_
  refine PyProof.Rows.UnaryOp_ (PyProof.Rows.Subscript_ (attr_of rfl ?_))
  refine wpAny_Name (wpAny_loadName_free kind kP hcl hcell ?_ (by decide)) (by decide)
  refine attr_tok J hp cC nC l fun u ru => ?_
  obtain rfl : u = Value.ref ac := ru
  refine wpAny_Name (wpAny_loadName_local kind kS hm hs ?_) (by decide)
  obtain ⟨its, rv, pl, hz⟩ := (J.tok (s.toks + 1)).tuple (SqT.of ht)
  obtain ⟨j, h1, h2, h3, h4, h5⟩ := atI_get hk
  have hj : (cs.map V.int)[j]? = some (.int ck) := by rw [List.getElem?_map, h2]; rfl
  obtain ⟨w, ew, tw, rw'⟩ := rv.get hj
  have hl := rv.length
  rw [List.length_map] at hl hz
  have hn := line63
  refine PyProof.Rows.subscriptTail_builtinR (x := w) pl.typeIs PyProof.Rows.slot_tuple_getitem.lookup
    (PyProof.Rows.getItem_tuple (j := j) (Q := fun r s' => r = w ∧ _) pl (by omega) (by omega) (by rw [List.size_toArray, ← hl]; exact h1) (by simpa using ew) ⟨rfl, ?_⟩) rfl
  rw [rw']
  refine PyProof.Rows.neg_int ?_
  show wpAny _ _ (spliced ((false, eval (.Name "seat" p6) env) :: backTo p7 (starEach [] env))) _ _ _
  refine Calls.spliced_cons ?_
  refine wpAny_Name (wpAny_loadName_local kind kS hm hs ?_) (by decide)
  refine Calls.spliced_nil ⟨by show (2 : Nat) ≤ _; exact sz1000 (by decide), ?_⟩
  exact ⟨_, _, rfl, fun b o e => Heap.get?_push_of_some _ e, .tuple (Heap.get?_push_size _ rfl) rfl rfl (.cons (.int _ _) (.cons (.int _ _) .nil))⟩
abbrev keyP (p : Pos) : Arguments := { posonlyargs := [], args := [{ arg := "seat", annotation := Option.none, pos := p }], vararg := Option.none, kwonlyargs := [], kw_defaults := [], kwarg := Option.none, defaults := [] }
theorem key_call {f c' cc p C dx ac : Addr} {q : Str} {cl : List (Str × Addr)} {pm ctv : Value} {fs : List (Str × V)} {cs : List Int} {k ck : Int} {t : Tok} {p0 p1 p2 p3 p4 p5 p6 p7 : Pos} {n : Nat}
    (J : Inv X pins σ H s) (hA : A.depth < recursionLimit) (hf : s.heap.get? f = some (PySem.W.kla_obj "<lambda>" q (keyP p0) (keyE p1 p2 p3 p4 p5 p6 p7 n) keyS cl pm c' ctv)) (hc : H c' = some (LamX.CodeO c' q))
    (hcl : cl.lookup ("pool" : Str) = some cc) (hcell : s.heap.IsCell cc (some (.ref p)))
    (hp : H p = some (.ins C dx fs)) (cC : Cls X.K C) (nC : NoAttr X.K C "caps") (l : fs.lookup ("caps" : Str) = some (.ref ac)) (ht : H ac = some (.tup (cs.map V.int))) (hk : atI cs k = some ck) :
    wpAny (model X.prog X.w) A (call (.ref f) [Value.int k t]) (PySem.W.KeyPure (.tuple [.int (-ck), .int k]) s) (fun _ _ => False) s := by
  obtain ⟨⟨oc, vs, tq, hoc, hdc, hvc⟩, _, _⟩ := J.hok c' _ hc
  have hbind : bindArgs (PySem.W.kla_fn "<lambda>" q (keyP p0) (keyE p1 p2 p3 p4 p5 p6 p7 n) keyS cl pm (.ref c') ctv) ⟨[Value.int k t], []⟩ = pure [(("seat" : Str), Value.int k t)] := rfl
  refine wpAny_call (PySem.W.kla_callFunE hA hf rfl rfl rfl rfl ⟨c', oc, vs, tq, rfl, hoc, hdc, hvc⟩ ?_)
  rw [hbind]
  refine wpAny_pure (wpAny_newFunctionEnv (fun y hy => ?_) (fun y hy => ?_) (fun h₁ hns hsb => ⟨J.nolimit.fresh _ hsb, ?_⟩) rfl)
  · simp only [List.mem_cons, List.not_mem_nil, or_false] at hy
    rcases hy with rfl | rfl <;> exact fun z => nomatch z
  · simp only [List.mem_cons, List.not_mem_nil, or_false] at hy
    subst hy
    rfl
  · have kp : ∀ b o, s.heap.get? b = some o → h₁.get? b = some o := fun b o e => hsb.extBut b o (Nat.ne_of_lt (Heap.lt_size e)) (Heap.get?_push_of_some _ e)
    have J1 : Inv X pins σ H { s with heap := h₁, toks := s.toks + 1 } := J.kept kp
    obtain ⟨ob, ho, hd⟩ := hcell
    refine PySem.W.kla_codeExpr (wpAny_mono (key_body (E := fun _ _ => False) (m := fun x => [(("seat" : Str), Value.int k t)].reverse.lookup x) J1 rfl hns rfl hcl ⟨ob, kp _ _ ho, hd⟩ hp cC nC l ht hk) (fun v s' hq => ?_) fun e s' hq => False.elim hq)
    obtain ⟨h', tk, rfl, h2, h3⟩ := hq
    exact ⟨h', tk, rfl, fun b o e => h2 b o (kp b o e), h3⟩
end
end Pw
set_option Elab.async false
set_option linter.all false
set_option maxRecDepth 100000
set_option maxHeartbeats 1000000
namespace Pw
open PySem PySem.Spec L2
open PyProof.Rows (IsTup)
def killRow (c0 c1 : Int) : List Int := if c0 < c1 then [1, 0] else [0, 1]
def capN (c0 c1 x : Int) : Int := if x = 0 then c0 else c1
def kKey (c0 c1 x : Int) : PyData := .tuple [.int (-capN c0 c1 x), .int x]
theorem kill_sort {c0 c1 : Int} (h : c0 ≠ c1) : [(0 : Int), 1].mergeSort (PySem.W.dataLe false (kKey c0 c1)) = killRow c0 c1 := by
  have e : PySem.W.dataLe false (kKey c0 c1) = fun p q => decide (-capN c0 c1 p < -capN c0 c1 q ∨ (-capN c0 c1 p = -capN c0 c1 q ∧ p ≤ q)) := PySem.W.dataLe_ii (fun x => -capN c0 c1 x) fun x => x
  rw [e]
  have hm : ∀ le : Int → Int → Bool, [(0 : Int), 1].mergeSort le = if le 0 1 = true then [0, 1] else [1, 0] := fun le => by
    simp [List.mergeSort, List.MergeSort.Internal.splitInTwo, List.merge]
  rw [hm]
  have h0 : capN c0 c1 0 = c0 := if_pos rfl
  have h1 : capN c0 c1 1 = c1 := if_neg (by decide)
  simp only [h0, h1]
  unfold killRow
  by_cases q : c0 < c1
  · rw [if_pos q, if_neg]
    simp
    omega
  · rw [if_neg q, if_pos]
    simp
    omega
/-! ### range(n) as a thing that is known -/
def rRng1 : List V → Hp → VK → Prop := fun vs H Q => ∃ n, vs = [V.int n] ∧ ∀ p, H p = Option.none → Q (.ref p) (upd H p (.rng 0 n))
section
variable {X : Cx}
theorem cr_rng1 : CallR X (.type "range") rRng1 := by
  intro pins s σ H vs us Q I r h
  obtain ⟨n, rfl, q⟩ := h
  obtain ⟨u, rfl, ru⟩ := vals1 r
  obtain ⟨t, rfl⟩ := ru
  exact call_range_1 ⟨.ref s.heap.objs.size, upd H s.heap.objs.size (.rng 0 n), I.laid (fun b o e => Heap.get?_push_of_some _ e) (Nat.le_refl _) ⟨_, _, _, Heap.get?_push_size _ rfl⟩, rfl, q _ (I.hok.fresh (Nat.le_refl _))⟩
/-- what the row of the seats asks -/
def tKill (K : PySem.W.Frag) (T : List (Addr × Str)) : TE := fun σ H Q => LamX.Tabs T H ∧ ∃ (p C dx ac : Addr) (fs : List (Str × V)) (c0 c1 : Int), σ[0]? = some (some (.ref p)) ∧ H p = some (.ins C dx fs) ∧ Cls K C ∧ NoAttr K C "caps" ∧ NoAttr K C "seats" ∧
  fs.lookup ("caps" : Str) = some (.ref ac) ∧ fs.lookup ("seats" : Str) = some (.int 2) ∧ H ac = some (.tup ([c0, c1].map V.int)) ∧ c0 ≠ c1 ∧ ∀ H' a, LamX.ExtN H H' → (∀ o, H a = some o → ∃ ps, o = .tbl ps) → H' a = some (.lst ((killRow c0 c1).map V.int)) → Q (.ref a) H'
theorem two_items {acc : Array Value} (h : ItemsOf (fun (i : Nat) v => ∃ t, v = Value.int (0 + i * 1) t) acc 2) : PySem.W.EachIs (fun v x => ∃ t, v = Value.int x t) acc.toList [(0 : Int), 1] := by
  have r := vals_rg (a := 0) (b := 2) (by simpa using h)
  have e : rgV 0 2 = [V.int 0, V.int 1] := rfl
  rw [e] at r
  generalize acc.toList = l at r
  cases r with
  | cons r1 r =>
    cases r with
    | cons r2 r =>
      cases r
      exact .cons r1 (.cons r2 .nil)
theorem each_vals : ∀ {us : List Value} {ns : List Int}, PySem.W.EachIs (fun v x => ∃ t, v = Value.int x t) us ns → Vals (ns.map V.int) us
  | _, _, .nil => .nil
  | _, _, .cons h t => .cons h (each_vals t)
theorem pe_kill {T : List (Addr × Str)} {c P : Addr} {k : Nat} {q1 q2 q3 q4 q5 p0 p1 p2 p3 p4 p5 p6 p7 lpos kpos pos : Pos} {n : Nat} (hc : X.calm = true) (m1 : X.mg "sorted" = Option.none) (m2 : X.mg "range" = Option.none) (hr : Room (k + 3) X.A)
    (TB : LamX.TabB X.base X.mg c P) (hcode : X.env.code = .ref c) (hmT : (P, X.env.qual ++ "<lambda>") ∈ T) (hu : ∀ p ∈ T, p.1 = P → p.2 = X.env.qual ++ "<lambda>") (hN : X.N[0]? = some ("pool" : Str)) (hsc : X.env.scope.names.lookup ("pool" : Str) = some .cell) (g1 : Gl X "sorted") (g2 : Gl X "range") :
    PE X (.Call (.Name "sorted" q1) [.Call (.Name "range" q2) [.Attribute (.Name "pool" q3) "seats" q4] [] q5] [⟨some "key", .Lambda (keyP p0) (keyE p1 p2 p3 p4 p5 p6 p7 n) keyS lpos, kpos⟩] pos) (tKill X.K T) := by
  refine ⟨fun pins s σ H Q I h => ?_⟩
  obtain ⟨hT, p, C, dx, ac, fs, c0, c1, hs, hp, cC, n1, n2, l1, l2, ht, hne, hq⟩ := h
  refine wpAny_Call_Name_kw (ld_blt I g1 m1 PyProof.Rows.boot_sorted ?_)
  refine PyProof.Rows.callWith_kw ?_ rfl rfl rfl rfl
  have hrg : PE X (.Call (.Name "range" q2) [.Attribute (.Name "pool" q3) "seats" q4] [] q5) _ := pe_callTy cr_rng1 g2 m2 PyProof.Rows.boot_range (pa_cons (pe_fld (pe_var (i := 0) hN (.inr (.inl hsc))) rfl) pa_nil) (by decide) (by decide) rfl rfl
  show wpAny _ _ (spliced ((false, eval (.Call (.Name "range" q2) [.Attribute (.Name "pool" q3) "seats" q4] [] q5) X.env) :: backTo pos (starEach [] X.env))) _ _ s
  refine Calls.spliced_cons (thn (hrg.run pins s σ H (fun x H1 => ∃ r, x = .ref r ∧ H r = Option.none ∧ H1 = upd H r (.rng 0 2)) I ?_) fun x s1 ⟨vx, H1, I1, rx, r, ex, hrn, eH⟩ => ?_)
  · exact ⟨_, hs, _, _, _, _, _, rfl, hp, cC, n2, l2, 2, rfl, fun a ha => ⟨a, rfl, ha, rfl⟩⟩
  subst ex eH
  obtain rfl : x = Value.ref r := rx
  have hE1 : LamX.ExtN H (upd H r (.rng 0 2)) := LamX.ExtN.of (upd_same' hrn)
  have hT1 : LamX.Tabs T (upd H r (.rng 0 2)) := hT.ext (upd_same' hrn)
  refine Calls.spliced_nil ?_
  show wpAny _ _ (evalAll ((do let v ← eval (.Lambda (keyP p0) (keyE p1 p2 p3 p4 p5 p6 p7 n) keyS lpos) X.env; standAt pos; pure v) :: [])) _ _ _
  refine wpAny_evalAll_cons (wpAny_bind (LamX.lam_make2 I1 TB hcode hmT hu hT1 rfl (fun y hy e => ?_) fun f c' pm ctv H2 s2 I2 eN T2 hf hfn hfr hco => wpAny_bind (wpAny_standAt (wpAny_pure (wpAny_evalAll_nil ?_)))))
  · simp only [List.mem_cons, List.not_mem_nil, or_false] at hy
    rcases hy with rfl | rfl
    · exact nomatch e
    · exact I.ok.has _ (.inl hsc)
  show wpAny _ _ (call (.builtin "sorted") [.ref r] [(Str.ofString "key", .ref f)]) _ _ s2
  have hE2 : LamX.ExtN H H2 := hE1.trans eN
  have hr2 : H2 r = some (.rng 0 2) := eN r _ upd_same fun ps z => by cases z
  have hp2 : H2 p = some (.ins C dx fs) := hE2 p _ hp fun ps z => by cases z
  have ht2 : H2 ac = some (.tup ([c0, c1].map V.int)) := hE2 ac _ ht fun ps z => by cases z
  obtain ⟨tr, ur, vr, hro⟩ := I2.hok r _ hr2
  obtain ⟨m, hn, hl⟩ := I2.loc
  obtain ⟨w', rw', hcell⟩ := hl 0 "pool" (.ref p) hN hs (.inr (.inl hsc))
  obtain rfl : w' = Value.ref p := rw'
  obtain ⟨cc, hcc, hcell⟩ : ∃ cc, X.env.cells.lookup ("pool" : Str) = some cc ∧ s2.heap.IsCell cc (some (.ref p)) := by
    rcases hcell with ⟨z, _⟩ | ⟨_, cc, a, b⟩
    · have z' : X.env.scope.names.lookup ("pool" : Str) = some .local := z
      rw [hsc] at z'
      cases z'
    · exact ⟨cc, a, b⟩
  have hclo : (cloFrom X.env.cells keyS.names []).lookup ("pool" : Str) = some cc := by
    show (cloFrom X.env.cells [(Str.ofString "seat", .local), (Str.ofString "pool", .free)] []).lookup ("pool" : Str) = some cc
    unfold cloFrom
    simp only [cloFrom]
    show ((Str.ofString "pool", (X.env.cells.lookup (Str.ofString "pool")).getD 0) :: []).lookup ("pool" : Str) = some cc
    have e2 : X.env.cells.lookup (Str.ofString "pool") = some cc := hcc
    rw [e2]
    rfl
  refine PyProof.Rows.call_function_entry_kw PyProof.Rows.kind_sorted PyProof.Rows.plain_sorted PyProof.Rows.entry_sorted (PyProof.Rows.ksk_s1 _ _) ?_
  unfold Builtin.«sorted»
  refine wpAny_bind (m := checkCount "sorted" 1 1 _) (wpAny_pure ?_)
  refine wpAny_bind (collect_range (n := 2) (I2.ok.hd hc) hro (small_one (by decide) (by decide) (by decide) (by decide)) (by rw [PyProof.Rows.rangeSize_nat] <;> rfl) (by decide) fun h3 tk3 acc k3 hi => ?_)
  have I3 : Inv X pins σ H2 { s2 with heap := h3, toks := tk3 } := I2.kept k3
  have each := two_items hi
  have hlen : acc.toList.length = 2 := each.length
  refine wpAny_bind (wpAny_newList ?_ (by rw [hlen]; exact sz1000 (by decide)))
  have hoL : (h3.push (PyProof.Rows.seqObj "list" acc.toList.toArray 0)).get? h3.objs.size = some (PyProof.Rows.seqObj "list" acc.toList.toArray 0) := Heap.get?_push_size _ rfl
  have kL : ∀ b o, h3.get? b = some o → b ≠ h3.objs.size ∧ (h3.push (PyProof.Rows.seqObj "list" acc.toList.toArray 0)).get? b = some o := fun b o e => ⟨Nat.ne_of_lt (Heap.lt_size e), Heap.get?_push_of_some _ e⟩
  refine wpAny_bind (wpAny_holding (PySem.W.list_sort_key_data (β := Int) (b := false) (bs := [(0 : Int), 1]) (R := fun v x => ∃ t, v = Value.int x t) (s := { s2 with heap := h3.push (PyProof.Rows.seqObj "list" acc.toList.toArray 0), toks := tk3 }) (kKey c0 c1) hoL each
    (PySem.W.AllAlike.of fun b b' => by simp [kKey, PySem.W.alike, PySem.W.alikeAll]) (PySem.W.Sortable.tuples fun b => ⟨_, _, rfl⟩) (sz1000 (by decide)) (fun x _ => ?_) (PyProof.Rows.ksk_l1 _ _) (PyProof.Rows.ksk_t1 f _) (fun v x hv hx h4 tk4 kb => ?_) fun out ce h5 tk5 kb5 hD ho5 each5 => ?_))
  · have := hr.un
    have e : (kKey c0 c1 x).depth ≤ 1 := by simp [kKey, PyData.depth, PyData.depthAll]
    show X.A.units + 1 + 1 + _ < _
    omega
  · obtain ⟨t, rfl⟩ := hv
    have k4 : ∀ b o, s2.heap.get? b = some o → h4.get? b = some o := fun b o e => by
      obtain ⟨n1, e1⟩ := kL b o (k3 b o e)
      exact kb b o n1 e1
    have I4 : Inv X pins σ H2 { s2 with heap := h4, toks := tk4 } := I2.kept k4
    have hx2 : atI [c0, c1] x = some (capN c0 c1 x) := by
      simp only [List.mem_cons, List.not_mem_nil, or_false] at hx
      rcases hx with rfl | rfl <;> rfl
    obtain ⟨ob, ho, hd⟩ := hcell
    have := hr.dp
    exact key_call I4 (by show X.A.depth < recursionLimit; omega) (k4 _ _ hf) hco hclo ⟨ob, k4 _ _ ho, hd⟩ hp2 cC n1 l1 ht2 hx2
  · rw [kill_sort hne] at each5
    have na : H2 h3.objs.size = Option.none := I3.hok.fresh (Nat.le_refl _)
    refine wpAny_pure ⟨_, rfl, .ref h3.objs.size, upd H2 h3.objs.size (.lst ((killRow c0 c1).map V.int)), I3.laid (fun b o e => ?_) (Nat.le_refl _) ⟨?_, out, ce, each_vals each5, hD⟩, rfl, hq _ _ (hE2.trans (LamX.ExtN.of (upd_same' na))) ?_ upd_same⟩
    · obtain ⟨n1, e1⟩ := kL b o e
      exact kb5 b o n1 e1
    · have := (each_vals each5).length
      rw [this, ho5]
      exact sz1000 (by decide)
    · intro o z
      cases o with
      | tbl ps => exact ⟨ps, rfl⟩
      | _ =>
        have y := hE2 _ _ z fun ps w => by cases w
        rw [na] at y
        cases y
end
end Pw
set_option Elab.async false
set_option linter.all false
set_option maxRecDepth 100000
set_option maxHeartbeats 1000000
/-! killing_row's promise; the state told anew behind it. -/
namespace Pw
open PySem PySem.Spec L2
abbrev kD : He.Defn := ("killing_row", Option.none)
abbrev kQ : Str := (("killing_row" : Str) ++ ".<locals>.") ++ "<lambda>"
/-- the table of killing_row's code object -/
abbrev Tk (K : PySem.W.Frag) : List (Addr × Str) := [((He.cT K kD).2, kQ)]
def spKill (K : PySem.W.Frag) : Sp := fun vs H Q _ => ∃ (F : Hp) (c0 c1 : Int) (r : List (List Int)) (v : V), vs = [v] ∧ Same F H ∧ Rp K F v (.pool [c0, c1] r) ∧ LamX.Tabs (Tk K) H ∧ c0 ≠ c1 ∧
  ∀ H' a, LamX.ExtN H H' → (∀ o, H a = some o → ∃ ps, o = .tbl ps) → H' a = some (.lst ((killRow c0 c1).map V.int)) → Q (.ref a) H'
section
variable {P : Program} {w : World} {K : PySem.W.Frag} {mg : Str → Option Value} {base : Heap}
theorem c_killing_row (T : Top K mg) (TB : LamX.TabB base mg (He.cT K kD).1 (He.cT K kD).2) : Cal P w K mg base 4 "killing_row" (spKill K) := by
  obtain ⟨fd, F⟩ := T.c.def_ 23 (d := d_killing_row) rfl
  have b : Binds K fd ["pool"] [] := FunD.bindsN F fun _ _ _ _ _ _ us hl => match us, hl with | [_], _ => rfl
  have hm : mg d_killing_row.name = some (.ref (He.fAd K d_killing_row.at_)) := T.glo 22
  refine ⟨He.fAd K d_killing_row.at_, fd, ["pool"], [], ?_, hm, F.kp, b, .nil⟩
  obtain ⟨oc, od, dV, kV, doc, pm, an, cdv, ct, osl, rfl, lk, hcd, _, _⟩ := F.ex
  obtain ⟨c, rfl⟩ := He.codeIn_ref hcd
  have ec : (He.cT K kD).1 = c := He.codeOf_eq lk rfl
  rw [ec] at TB
  refine fn_of (k := 3) lk hcd sc_killing_row (fun vs H Q E h => ?_) fun A outer s H vs Q E hr h => ?_
  · obtain ⟨_, _, _, _, _, rfl, _⟩ := h
    rfl
  · obtain ⟨F, c0, c1, r, v, rfl, sF, rv, hT, hne, q⟩ := h
    refine ⟨_, PSs.nox (pss_one (ps_ret (pe_kill (k := 0) (T := Tk K) rfl T.m_sorted T.m_range hr TB rfl List.mem_cons_self (fun p hp _ => ?_) rfl rfl rfl rfl))), ?_⟩
    · rcases List.mem_cons.mp hp with e | e
      · rw [e]
        rfl
      · cases e
    · cases rv with
      | pool h l1 l2 l3 l4 ha hb rr => exact ⟨hT, _, _, _, _, _, c0, c1, rfl, sF _ _ h, T.pc.cl, T.pc.c, T.pc.s, l1, l3, sF _ _ ha, hne, fun H' a e1 e2 e3 => q H' a e1 e2 e3⟩
end
/-- nothing own in the slots -/
def Plain (δ : List Sl) : Prop := ∀ (i : Nat) (s : Sl), δ[i]? = some s → s = Sl.no ∨ ∃ x, s = Sl.d x
theorem Stt.again {K : PySem.W.Frag} {F0 H0 F H F1 H1 : Hp} {σ : L2.St} {δ : List Sl} (S : Stt K F0 H0 F H σ δ) (pl : Plain δ) (e : LamX.ExtN F F1) (s1 : Same F1 H1) : Stt K F1 H1 F1 H1 σ δ := by
  obtain ⟨fp, h1, h2, h3⟩ := S.own
  refine ⟨Ext.refl s1, S.len, fun _ _ => False, fun _ _ z => z.elim, fun _ _ _ z => z.elim, fun i s hs => ?_⟩
  rcases pl i s hs with rfl | ⟨x, rfl⟩
  · trivial
  · obtain ⟨v, e1, r⟩ := h3 i _ hs
    exact ⟨v, e1, r.extN e⟩
end Pw
set_option Elab.async false
set_option linter.all false
set_option maxRecDepth 100000
set_option maxHeartbeats 1000000
/-! Two seats of unequal caps, the seat of the high cap dies first. Plain. -/
namespace Pw
open PySem PySem.Spec L2
variable {c : List Int} {n : Nat} {lo sm : Int} {S S' : Sends}
theorem Two.sent (t : Two c n lo sm) (al : Allowed c (rTwo n) (1 - sm) S) {e : Int × Int} (he : e ∈ S) : ∃ k : Nat, k < n ∧ e = ((k : Int), sm) := by
  obtain ⟨i, row, h1, h2, h3, h4, h5⟩ := al.ok e he
  have hi := (List.getElem?_eq_some_iff.mp h2).1
  rw [List.length_replicate] at hi
  rw [rTwo_at hi] at h2
  cases h2
  refine ⟨i, hi, Prod.ext h1 ?_⟩
  rcases t.mem.mp h4 with z | z
  · exact z
  · exact absurd z h5
theorem Two.sent_le (t : Two c n lo sm) (al : Allowed c (rTwo n) (1 - sm) S) : (S.length : Int) ≤ lo := by
  by_cases hS : S = []
  · subst hS
    have := t.h0
    simpa using this
  · obtain ⟨e, he⟩ := List.exists_mem_of_ne_nil S hS
    obtain ⟨k, _, rfl⟩ := t.sent al he
    have h := al.cap sm (List.mem_map.mpr ⟨_, he, rfl⟩)
    rw [t.cl] at h
    have : (S.map (·.2)).count sm = S.length := by
      rw [← List.length_map (f := fun e : Int × Int => e.2) (as := S)]
      refine List.count_eq_length.mpr fun x hx => ?_
      obtain ⟨e, he, rfl⟩ := List.mem_map.mp hx
      obtain ⟨k, _, rfl⟩ := t.sent al he
      rfl
    omega
theorem Two.row1 (t : Two c n lo sm) {i : Nat} (hi : i < n) : (roundR (rTwo n) (1 - sm) S)[i]? = some (if (i : Int) ∈ S.map (·.1) then [0, 1] else [0, 1].filter fun x => decide (x ≠ 1 - sm)) := by
  rw [roundR_at, rTwo_at hi]
  rfl
theorem Two.sub (t : Two c n lo sm) (al' : Allowed c (roundR (rTwo n) (1 - sm) S) sm S') {x : Int} (hx : x ∈ S'.map (·.1)) : x ∈ S.map (·.1) := by
  obtain ⟨e, he, rfl⟩ := List.mem_map.mp hx
  obtain ⟨i, row, h1, h2, h3, h4, h5⟩ := al'.ok e he
  have hi := (List.getElem?_eq_some_iff.mp h2).1
  rw [roundR_len, List.length_replicate] at hi
  rw [t.row1 hi] at h2
  show e.1 ∈ _
  rw [h1]
  by_cases q : (i : Int) ∈ S.map (·.1)
  · exact q
  · rw [if_neg q] at h2
    cases h2
    obtain ⟨a, b⟩ := List.mem_filter.mp h4
    rcases t.mem.mp a with z | z
    · exact absurd z h5
    · exact absurd z (of_decide_eq_true b)
/-- behind both rounds just the pieces live that were sent in the first -/
theorem Two.row2 (t : Two c n lo sm) (al' : Allowed c (roundR (rTwo n) (1 - sm) S) sm S') {i : Nat} (hi : i < n) : ∃ row, (roundR (roundR (rTwo n) (1 - sm) S) sm S')[i]? = some row ∧ (row ≠ [] ↔ (i : Int) ∈ S.map (·.1)) := by
  have h0 := t.s0
  have h1 := t.s1
  rw [roundR_at, t.row1 hi]
  refine ⟨_, rfl, ?_⟩
  dsimp only
  by_cases q : (i : Int) ∈ S.map (·.1)
  · rw [if_pos q]
    refine ⟨fun _ => q, fun _ z => ?_⟩
    have m : 1 - sm ∈ (if (i : Int) ∈ S'.map (·.1) then [(0 : Int), 1] else [0, 1].filter fun x => decide (x ≠ sm)) := by
      split
      · exact t.mem.mpr (.inr rfl)
      · exact List.mem_filter.mpr ⟨t.mem.mpr (.inr rfl), decide_eq_true (by omega)⟩
    rw [z] at m
    cases m
  · rw [if_neg q, if_neg fun z => q (t.sub al' z)]
    refine ⟨fun z => absurd ?_ z, fun z => absurd z q⟩
    refine List.eq_nil_iff_forall_not_mem.mpr fun x hx => ?_
    obtain ⟨a, b⟩ := List.mem_filter.mp hx
    obtain ⟨a, d⟩ := List.mem_filter.mp a
    rcases t.mem.mp a with z | z
    · exact absurd z (of_decide_eq_true b)
    · exact absurd z (of_decide_eq_true d)
def hiF (n : Nat) (S : Sends) : Deal := (List.range n).map fun (i : Nat) => if (i : Int) ∈ S.map (·.1) then some (0, 1) else Option.none
theorem hiF_at {i : Nat} (hi : i < n) : (hiF n S)[i]? = some (if (i : Int) ∈ S.map (·.1) then some (0, 1) else Option.none) := by
  unfold hiF
  rw [List.getElem?_map, List.getElem?_range hi]
  rfl
theorem hiF_len : (hiF n S).length = n := by
  unfold hiF
  rw [List.length_map, List.length_range]
theorem Two.hiFirsts (t : Two c n lo sm) (al : Allowed c (rTwo n) (1 - sm) S) (al' : Allowed c (roundR (rTwo n) (1 - sm) S) sm S') : firsts n (flat [(1 - sm, S), (sm, S')]) = hiF n S := by
  refine List.ext_getElem? fun i => ?_
  by_cases hi : i < n
  · rw [firsts_at hi, hiF_at hi]
    congr 1
    cases h : fstOf (flat [(1 - sm, S), (sm, S')]) (i : Int) with
    | none =>
      rw [if_neg (fstOf_none.mp h _ List.mem_cons_self)]
    | some p =>
      obtain ⟨k, s, T, u, h1, h2, h3, h4⟩ := fstOf_some h
      have hm : (i : Int) ∈ T.map (·.1) := List.mem_map.mpr ⟨_, h2, rfl⟩
      have hk : k = 0 := by
        by_cases hk : k = 0
        · exact hk
        · have hk1 : k = 1 := by
            have := (List.getElem?_eq_some_iff.mp h1).1
            simp at this
            omega
          subst hk1
          cases h1
          exact absurd (t.sub al' hm) (h4 0 _ (by omega) rfl)
      subst hk
      cases h1
      obtain ⟨k, _, e⟩ := t.sent al h2
      injection e with _ e
      rw [if_pos hm, h3, e, t.mk01.2]
  · rw [List.getElem?_eq_none (by rw [firsts_len]; omega), List.getElem?_eq_none (by rw [hiF_len]; omega)]
/-- the pieces that were sent, in order -/
def liv (n : Nat) (S : Sends) : List Nat := (List.range n).filter fun (i : Nat) => decide ((i : Int) ∈ S.map (·.1))
theorem Two.liv_perm (t : Two c n lo sm) (al : Allowed c (rTwo n) (1 - sm) S) : ((liv n S).map fun (i : Nat) => (i : Int)).Perm (S.map (·.1)) := by
  refine (List.perm_ext_iff_of_nodup (List.Pairwise.map (R := (· ≠ ·)) _ (fun a b hab z => hab (by omega)) (List.nodup_range.filter _)) al.nd).mpr fun x => ?_
  constructor
  · intro h
    obtain ⟨i, hi, rfl⟩ := List.mem_map.mp h
    exact of_decide_eq_true (List.mem_filter.mp hi).2
  · intro h
    obtain ⟨e, he, rfl⟩ := List.mem_map.mp h
    obtain ⟨k, hk, rfl⟩ := t.sent al he
    exact List.mem_map.mpr ⟨k, List.mem_filter.mpr ⟨List.mem_range.mpr hk, decide_eq_true h⟩, rfl⟩
theorem Two.liv_sorted (t : Two c n lo sm) (al : Allowed c (rTwo n) (1 - sm) S) {ms : List Int} (hm : ms.Perm (S.map (·.1))) (hp : ms.Pairwise (· ≤ ·)) : ms = (liv n S).map fun (i : Nat) => (i : Int) := by
  refine perm_asc (hm.trans (t.liv_perm al).symm) hp ?_
  refine List.Pairwise.map _ (fun a b h => ?_) (List.pairwise_lt_range.filter _)
  omega
theorem Two.liv_le (t : Two c n lo sm) (al : Allowed c (rTwo n) (1 - sm) S) : ((liv n S).length : Int) ≤ lo := by
  have h := (t.liv_perm al).length_eq
  rw [List.length_map, List.length_map] at h
  rw [h]
  exact t.sent_le al
theorem Two.held (t : Two c n lo sm) {i : Nat} (hi : i < n) (h : 0 < lo) : Held c (rTwo n) i (0, 1) :=
  ⟨[0, 1], rTwo_at hi, by decide, by decide, by decide, by rw [t.room]; exact h⟩
theorem Two.pair_of (t : Two c n lo sm) {i : Nat} {q : Int × Int} (h : Held c (rTwo n) i q) : q = (0, 1) := by
  obtain ⟨row, h1, h2, h3, h4, _⟩ := h
  have hi := (List.getElem?_eq_some_iff.mp h1).1
  rw [List.length_replicate] at hi
  rw [rTwo_at hi] at h1
  cases h1
  simp at h2 h3
  exact Prod.ext (by show q.1 = 0; omega) (by show q.2 = 1; omega)
theorem Two.hiDeal (t : Two c n lo sm) (al : Allowed c (rTwo n) (1 - sm) S) : IsDeal c (rTwo n) (hiF n S) := by
  have hle := t.liv_le al
  have hcnt : (hiF n S).count (some (0, 1)) = (liv n S).length := by
    unfold hiF liv
    rw [List.count_eq_countP, List.countP_map, ← List.countP_eq_length_filter]
    refine List.countP_congr fun i _ => ?_
    by_cases q : (i : Int) ∈ S.map (·.1)
    · simp only [Function.comp, if_pos q, decide_eq_true q]
      decide
    · simp only [Function.comp, if_neg q, decide_eq_false q]
      decide
  have pos : ∀ i : Nat, i < n → (i : Int) ∈ S.map (·.1) → 0 < lo := fun i hi h => by
    have : 0 < (liv n S).length := List.length_pos_of_mem (List.mem_filter.mpr ⟨List.mem_range.mpr hi, decide_eq_true h⟩)
    omega
  refine ⟨by rw [hiF_len, List.length_replicate], fun i q h => ?_, fun q hq => ?_⟩
  · have hi := (List.getElem?_eq_some_iff.mp h).1
    rw [hiF_len] at hi
    rw [hiF_at hi] at h
    by_cases z : (i : Int) ∈ S.map (·.1)
    · rw [if_pos z] at h
      cases h
      exact t.held hi (pos i hi z)
    · rw [if_neg z] at h
      cases h
  · obtain ⟨i, h⟩ := List.mem_iff_getElem?.mp (mem_pairs.mp hq)
    have hi := (List.getElem?_eq_some_iff.mp h).1
    rw [hiF_len] at hi
    rw [hiF_at hi] at h
    by_cases z : (i : Int) ∈ S.map (·.1)
    · rw [if_pos z] at h
      cases h
      rw [hcnt, t.room]
      exact hle
    · rw [if_neg z] at h
      cases h
/-- a greatest dealing deals lo pieces -/
theorem Two.most (t : Two c n lo sm) {D : Deal} (h : IsDeal c (rTwo n) D) (g : Greatest c (rTwo n) D) : (n : Int) - (D.count Option.none : Nat) = lo := by
  have h0 := t.h0
  have hn := t.hn
  have hlen : D.length = n := by rw [h.len, List.length_replicate]
  have all : ∀ o ∈ D, o = Option.none ∨ o = some (0, 1) := fun o ho => by
    cases o with
    | none => exact .inl rfl
    | some q =>
      obtain ⟨i, hi⟩ := List.mem_iff_getElem?.mp ho
      rw [t.pair_of (h.held i q hi)]
      exact .inr rfl
  have hsum : ∀ E : Deal, (∀ o ∈ E, o = Option.none ∨ o = some (0, 1)) → E.count Option.none + E.count (some (0, 1)) = E.length := by
    intro E
    induction E with
    | nil => intro _; rfl
    | cons o E ih =>
      intro hE
      have := ih fun o ho => hE o (List.mem_cons_of_mem _ ho)
      rcases hE o List.mem_cons_self with rfl | rfl
      · rw [List.count_cons_self, List.count_cons_of_ne (by decide), List.length_cons]
        omega
      · rw [List.count_cons_self, List.count_cons_of_ne (by decide), List.length_cons]
        omega
  have hc := hsum D all
  have up : (D.count (some (0, 1)) : Int) ≤ lo := by
    by_cases z : D.count (some (0, 1)) = 0
    · omega
    · have hm : some (0, 1) ∈ D := List.count_pos_iff.mp (by omega)
      have := h.full (0, 1) (mem_pairs.mpr hm)
      rwa [t.room] at this
  obtain ⟨l, rfl⟩ : ∃ l : Nat, lo = (l : Int) := ⟨lo.toNat, by omega⟩
  have dn := g (List.replicate l (some (0, 1)) ++ List.replicate (n - l) Option.none) (by
    refine ⟨by rw [List.length_append, List.length_replicate, List.length_replicate, List.length_replicate]; omega, fun i q hq => ?_, fun q hq => ?_⟩
    · have hi := (List.getElem?_eq_some_iff.mp hq).1
      rw [List.length_append, List.length_replicate, List.length_replicate] at hi
      by_cases hil : i < l
      · rw [List.getElem?_append_left (by rw [List.length_replicate]; exact hil), List.getElem?_replicate, if_pos hil] at hq
        cases hq
        exact t.held (by omega) (by omega)
      · rw [List.getElem?_append_right (by rw [List.length_replicate]; omega), List.getElem?_replicate] at hq
        split at hq
        · cases hq
        · cases hq
    · have hm := mem_pairs.mp hq
      rcases List.mem_append.mp hm with z | z
      · have e := List.eq_of_mem_replicate z
        cases e
        rw [List.count_append, List.count_replicate_self, t.room]
        have : List.count (some ((0 : Int), (1 : Int))) (List.replicate (n - l) Option.none) = 0 := List.count_eq_zero.mpr fun z => by
          have := List.eq_of_mem_replicate z
          cases this
        omega
      · have e := List.eq_of_mem_replicate z
        cases e)
  rw [List.count_append, List.count_replicate_self] at dn
  have z : List.count Option.none (List.replicate l (some ((0 : Int), (1 : Int)))) = 0 := List.count_eq_zero.mpr fun z => by
    have := List.eq_of_mem_replicate z
    cases this
  omega
end Pw
set_option Elab.async false
set_option linter.all false
set_option maxRecDepth 100000
set_option maxHeartbeats 1000000
namespace Pw
open PySem PySem.Spec L2
/-- the reading of the data, unfolded -/
local macro_rules | `(tactic| walk_at "rd") => `(tactic| simp only [dRet, dRetN, dRetO, dRetM, dRetG, dSeq, dIf, dNext, dNever, dDrop, dAsg, dAsgN, dApp, dFrz, dFrzI, dTest, dB, dYes, dOp, dOpN, dC, dVar, dCall, dCallN, dCons, dNil, dTup, dLst, dAnd, dOr, dNot, dAndV, dOrV, dNotV, dIfE, dIsi, d2I, d2B, d2C, dIxL, dIxT, dIxS, dLen, d2Min, d2Max, dAbs, dInt, dTupOf, dListOf, dCaps, dHold, dSeats, dPieces, dIsN, dNotN, dNotB, dIn, dSorted, dSortedT, dLenL, dMinB, dLenSet, dEnum, dgN, dgTup, dgCons, dgNil, dItL, dItT, dRng1, dRng2, dCat, dRep, dCatT, dSl, dNoP, dP1, dRev, dCntN, dListR, dListI,
  dIxO, dLenO, dThaw, dSetO, dAugO, dAug, dInI, dPutI, dIxI, dGetF, dAsgP, dAsgL, dGetP, dIxP, dPutP, dSetM, dSetd, dCRO, dLenGet, dOF, dSetF, dSetX, dIfNN, dCallG, dCallMt, dMtR, dCRN, dMkN, dMkP, dIsP, dFor, dForI, dLc, dLc2, dDc, dWhile, endsOf, endsN, endsM, endsG, startD, startR, startG, wipeD, isSc,
  List.map_cons, List.map_nil, List.cons_append, List.nil_append, List.append_nil, List.length_cons, List.length_nil, Nat.reduceAdd, Nat.reduceSub, List.replicate_succ, List.replicate_zero, List.getElem?_cons_zero, List.getElem?_cons_succ, List.set_cons_zero, List.set_cons_succ, Option.getD_some,
  Option.some.injEq, Sl.d.injEq, Sl.ol.injEq, Sl.oI.injEq, Sl.oP.injEq, Sl.oL.injEq, Sl.rd.injEq, Sl.oN.injEq, Sl.rN.injEq, Dat.int.injEq, Dat.bl.injEq, Dat.lst.injEq, Dat.tup.injEq, Dat.pool.injEq, Dat.scr.injEq, Dat.dI.injEq, Dat.dP.injEq, List.cons.injEq, map_int_inj, reduceCtorEq, exists_eq_left', exists_eq_left, exists_eq_right, exists_and_left, exists_const, and_true, true_and, and_false, false_and, or_false, false_or, exists_false, if_true, if_false, ite_true, ite_false, Bool.false_eq_true, and_assoc, and_self, decide_eq_true_eq, exists_prop, true_or, or_true, or_self, List.length_map, Nat.reduceLeDiff, Nat.reduceLT, atI_z, atI_1, atI_map, Option.map_some, Option.map_none, atI_nat', Int.toNat_natCast, Int.zero_add, rngD_len, enumD_len, isN_pr, Option.isNone_some, Option.isNone_none, isN_non, isN_int, isN_lst, isN_tup, isN_pool, pr_none, pr_some, List.getElem?_map, tyI, tyL, tyT, kII, kIB, kLL, kTT, decide_true, lsts_inj, isN_vB, vB_some, vB_none, kvB_len, rowB_len, clean_d, clean_no, clean_nil, Bool.not_true, Bool.not_false, fP1, fP2, fP3, fP4, lkA, lkP2, fG1, fG2, fG3, fG4, fG5, fG6, fG7, lkG1, lkG2, lkG3, lkG4, lkG5])
local macro_rules | `(tactic| walk_at "rs") => `(tactic| simp only [dRet, dRetN, dRetO, dRetM, dRetG, dSeq, dIf, dNext, dNever, dDrop, dAsg, dAsgN, dApp, dFrz, dFrzI, dTest, dB, dYes, dOp, dOpN, dC, dVar, dCall, dCallN, dCons, dNil, dTup, dLst, dAnd, dOr, dNot, dAndV, dOrV, dNotV, dIfE, dIsi, d2I, d2B, d2C, dIxL, dIxT, dIxS, dLen, d2Min, d2Max, dAbs, dInt, dTupOf, dListOf, dCaps, dHold, dSeats, dPieces, dIsN, dNotN, dNotB, dIn, dSorted, dSortedT, dLenL, dMinB, dLenSet, dEnum, dgN, dgTup, dgCons, dgNil, dItL, dItT, dRng1, dRng2, dCat, dRep, dCatT, dSl, dNoP, dP1, dRev, dCntN, dListR, dListI,
  dIxO, dLenO, dThaw, dSetO, dAugO, dAug, dInI, dPutI, dIxI, dGetF, dAsgP, dAsgL, dGetP, dIxP, dPutP, dSetM, dSetd, dCRO, dLenGet, dOF, dSetF, dSetX, dIfNN, dCallG, dCallMt, dMtR, dCRN, dMkN, dMkP, dIsP, endsOf, endsN, endsM, endsG, startD, startR, startG, wipeD, isSc,
  List.map_cons, List.map_nil, List.cons_append, List.nil_append, List.append_nil, List.length_cons, List.length_nil, Nat.reduceAdd, Nat.reduceSub, List.replicate_succ, List.replicate_zero, List.getElem?_cons_zero, List.getElem?_cons_succ, List.set_cons_zero, List.set_cons_succ, Option.getD_some,
  Option.some.injEq, Sl.d.injEq, Sl.ol.injEq, Sl.oI.injEq, Sl.oP.injEq, Sl.oL.injEq, Sl.rd.injEq, Sl.oN.injEq, Sl.rN.injEq, Dat.int.injEq, Dat.bl.injEq, Dat.lst.injEq, Dat.tup.injEq, Dat.pool.injEq, Dat.scr.injEq, Dat.dI.injEq, Dat.dP.injEq, List.cons.injEq, map_int_inj, reduceCtorEq, exists_eq_left', exists_eq_left, exists_eq_right, exists_and_left, exists_const, and_true, true_and, and_false, false_and, or_false, false_or, exists_false, if_true, if_false, ite_true, ite_false, Bool.false_eq_true, and_assoc, and_self, decide_eq_true_eq, exists_prop, true_or, or_true, or_self, List.length_map, Nat.reduceLeDiff, Nat.reduceLT, atI_z, atI_1, atI_map, Option.map_some, Option.map_none, atI_nat', Int.toNat_natCast, Int.zero_add, rngD_len, enumD_len, isN_pr, Option.isNone_some, Option.isNone_none, isN_non, isN_int, isN_lst, isN_tup, isN_pool, pr_none, pr_some, List.getElem?_map, tyI, tyL, tyT, kII, kIB, kLL, kTT, decide_true, lsts_inj, isN_vB, vB_some, vB_none, kvB_len, rowB_len, clean_d, clean_no, clean_nil, Bool.not_true, Bool.not_false, fP1, fP2, fP3, fP4, lkA, lkP2, fG1, fG2, fG3, fG4, fG5, fG6, fG7, lkG1, lkG2, lkG3, lkG4, lkG5])
section
variable {P : Program} {w : World} {K : PySem.W.Frag} {mg : Str → Option Value} {base : Heap}
/-! The law's third part: the seat of the high cap dies first. -/
theorem pt_imp {X : Cx} {e : Expr} {t t' : TT} (h : PT X e t) (i : ∀ σ H Q, t' σ H Q → t σ H Q) : PT X e t' := ⟨fun pins s σ H Q I q => h.run pins s σ H Q I (i σ H Q q)⟩
/-- the test of the killing row: nothing to be said against it -/
def tHi (K : PySem.W.Frag) : TT := fun σ H Q => ∃ (F0 H0 F : Hp) (δ : List Sl) (c0 c1 : Int) (r : List (List Int)) (sm : Int), Stt K F0 H0 F H σ δ ∧ Plain δ ∧ δ[3]? = some (.d (.int sm)) ∧ δ[4]? = some (.d (.pool [c0, c1] r)) ∧ LamX.Tabs (Tk K) H ∧ c0 ≠ c1 ∧
  killRow c0 c1 = [1 - sm, sm] ∧ ∀ H', LamX.ExtN H H' → Q false H'
def spHi (K : PySem.W.Frag) : Sp := fun vs H Q _ => ∃ (F : Hp) (ns c : List Int) (n : Nat) (lo sm : Int), Same F H ∧ RpL K F vs [.scr ns, lI c, .lst ((rTwo n).map lI), .int sm] ∧ Two c n lo sm ∧ c = (if sm = 1 then [(n : Int), lo] else [lo, (n : Int)]) ∧ LamX.Tabs (Tk K) H ∧ ∀ H', Q (.bl true) H'
theorem c_l_high_first (T : Top K mg) (TB : LamX.TabB base mg (He.cT K kD).1 (He.cT K kD).2) : Cal P w K mg base 10 "_law_high_first" (spHi K) := by
  obtain ⟨fd, F⟩ := T.c.def_ 52 (d := d_l_high_first) rfl
  have b : Binds K fd ["_law_script", "_law_caps", "_law_holders", "_law_small"] [] := FunD.bindsN F fun _ _ _ _ _ _ us hl => match us, hl with | [_, _, _, _], _ => rfl
  have hm : mg d_l_high_first.name = some (.ref (He.fAd K d_l_high_first.at_)) := T.glo 48
  refine ⟨He.fAd K d_l_high_first.at_, fd, _, [], F.ok (k := 9) sc_l_high_first (fun vs H Q E h => ?_) (fun cdv A outer s H vs Q E hr h => ⟨_, PSs.nox (pss_cons (X := cxD P w K mg base N_l_high_first d_l_high_first cdv A outer s H E)
    (xs_set (i := 4) sc_l_high_first.nd (xe_c (c_l_made T) hr (xa_cons (xv 1) (xa_cons (xv 2) xa_nil))))
    (pss_cons (ps_if (pt_imp (t' := tHi K) (pt_not (pt_val (C8.pe_c (c_l_are_numbers T) hr (by decide) rfl (pa_cons (C8.pe_c (c_killing_row T TB) hr (by decide) rfl (xa_cons (xv 4) xa_nil)) (xa_cons (xe_new (xn_lst (xa_cons (xe_op op_sub od_I xint (xv 3)) (xa_cons (xv 3) xa_nil)))) xa_nil))))) ?test) (xss_one (xs_ret xbl)) xss_nil)
    (xss_cons (xs_mkN (i := 5) sc_l_high_first.nd (c_Game_init T) hr (xa_cons (xv 4) xa_nil))
      (xss_cons (xs_set (i := 6) sc_l_high_first.nd (xv 2))
      (xss_cons (xs_setN (i := 7) sc_l_high_first.nd (xn_lst xa_nil))
      (xss_cons (xs_for (vs := [8]) rfl (xi_list (xe_new (xn_lst (xa_cons (xe_op op_sub od_I xint (xv 3)) (xa_cons (xv 3) xa_nil))))) (xg_name 8 sc_l_high_first.nd) (xss_cons (xs_set (i := 9) sc_l_high_first.nd (xe_c (c_l_draws T) hr (xa_cons (xe_op op_add od_I (xe_callT call_int1 cd_int T.m_int (xa_cons (xe_c (c_l_cell T) hr (xa_cons (xv 0) (xa_cons (xe_op op_add od_I xint (xe_lenO 7 T.m_len)) xa_nil))) xa_nil)) (xe_op op_mul od_C xint (xe_lenO 7 T.m_len))) (xa_cons (xe_new (xn_op op_cat on_cat (xe_new (xn_lst (xa_cons xint xa_nil))) (xe_new (xn_op op_rep on_rep (xe_new (xn_lst (xa_cons xint xa_nil))) xint)))) xa_nil))))
      (xss_cons (xs_set (i := 10) sc_l_high_first.nd (xe_c (c_l_kept T) hr (xa_cons (xv 1) (xa_cons (xv 6) (xa_cons (xv 8) (xa_cons (xv 9) (xa_cons xint (xa_cons (xe_ix ix_list od_ixL (xv 9) xint) xa_nil))))))))
      (xss_cons (xs_app 7 (xe_new (xn_lc (own := [("_law_step", 15)]) rfl sc_l_high_first.nd (xi_list (xv 10)) (blkOk_by (own := [("_law_step", 15)]) (N := N_l_high_first) (sc := defScope s_l_high_first) (by decide +kernel)) (fun _ _ _ _ _ => (xg_name 15 sc_l_high_first.nd)) (fun _ _ _ _ _ => xts_nil) (fun _ _ _ _ _ => (xe_ix ix_tup od_ixT (xv 15) xint)))))
      (xss_cons (xs_setX (i := 6) sc_l_high_first.nd (xm_c (i := 5) (c_l_after T) hr (xa_cons (xv 1) (xa_cons (xv 6) (xa_cons (xv 8) (xa_cons (xv 10) xa_nil))))))
      (xss_one (xs_if (xt_cmp op_isN od_isN (xv 6) xnon) (xss_one (xs_ret xbl)) xss_nil)))))))
      (xss_frz 7 (xss_cons (xs_setLc (i := 11) (own := [("_law_p", 16)]) rfl sc_l_high_first.nd (xi_rng1 T.m_range (xa_cons (xe_lenL T.m_len (xv 6)) xa_nil)) (blkOk_by (own := [("_law_p", 16)]) (N := N_l_high_first) (sc := defScope s_l_high_first) (by decide +kernel)) (fun _ _ _ _ _ => (xg_name 16 sc_l_high_first.nd)) (fun _ _ _ _ _ => (xts_one (xt_cmp op_gt od_B (xe_len T.m_len (xa_cons (xe_ix ix_list od_ixL (xv 6) (xv 16)) xa_nil)) xint))) (fun _ _ _ _ _ => (xv 16)))
      (xss_cons (xs_set (i := 12) sc_l_high_first.nd (xe_c (c_most_dealt T) hr (xa_cons (xv 4) xa_nil)))
      (xss_cons (xs_if (xw_t (xw_or (xt_cmp (op_neD hr.units) od_neD (xv 11) (xe_new (xn_callB (cr_or cr_sorted cr_sortedTup) (cn_or cn_sorted cn_sortedT) T.m_sorted (xa_cons (xe_ix ix_list od_ixL (xv 7) xint) xa_nil)))) (xw_or (xt_not (xt_val (xe_c (c_l_is_integer T) hr (xa_cons (xv 12) xa_nil)))) (xw_or (xt_cmp op_ne od_ne (xv 12) (xe_ix ix_list od_ixL (xv 1) (xv 3))) (xw_or1 (xt_cmp op_gt od_B (xe_lenL T.m_len (xv 11)) (xv 12))))))) (xss_one (xs_ret xbl)) xss_nil)
      (xss_cons (xs_setLc (i := 13) (own := [("_law_p", 16)]) rfl sc_l_high_first.nd (xi_rng1 T.m_range (xa_cons (xe_lenL T.m_len (xv 2)) xa_nil)) (blkOk_by (own := [("_law_p", 16)]) (N := N_l_high_first) (sc := defScope s_l_high_first) (by decide +kernel)) (fun _ _ _ _ _ => (xg_name 16 sc_l_high_first.nd)) (fun _ _ _ _ _ => xts_nil) (fun _ _ _ _ _ => (xe_if (xt_cmp op_in_seq od_in (xv 16) (xe_ix ix_list od_ixL (xv 7) xint)) (xe_tup (xa_cons xint (xa_cons xint xa_nil))) xnon)))
      (xss_cons (xs_setN (i := 14) sc_l_high_first.nd (xn_c (c_first_sends T) hr (xa_cons (xv 4) (xa_cons (xe_oF 5 "Game" (T.gmFld 74)) xa_nil))))
      (xss_cons (xs_if (xw_t (xw_or (xt_not (xt_val (xe_thaw 14 (xe_c (c_l_are_entries T) hr (xa_cons (xv 14) (xa_cons (xv 13) xa_nil)))))) (xw_or1 (xt_cmp op_notBl od_notB (xe_thaw 14 (xe_c (c_is_dealing T) hr (xa_cons (xv 4) (xa_cons (xv 14) xa_nil)))) xbl)))) (xss_one (xs_ret xbl)) xss_nil)
      (xss_one (xs_ret (xe_and (xe_cRN (i := 5) (c_l_says_dead T) hr (xa_cons (xv 6) xa_nil)) (xe_one (xe_c (c_l_is_pool T) hr (xa_cons (xv 4) (xa_cons (xv 1) (xa_cons (xv 2) xa_nil))))))))))))))))))))), ?body⟩), hm, F.kp, b, .nil⟩
  · obtain ⟨_, _, _, _, _, _, _, r, _⟩ := h
    exact r.length
  case test =>
    intro σ1 H1 Q1 ⟨F0, H0, F1, δ, c0, c1, r, sm, S, pl, d3, d4, hT, hne, hk, hq⟩
    refine snd_tDA (dCons (dVar 4) dNil) F0 H0 F1 H1 σ1 δ (fun xs => xs = [.pool [c0, c1] r]) S ⟨_, d4, rfl⟩ _ fun vs F2 H2 xs e2 rx ex => ?_
    subst ex
    obtain ⟨v, rfl, rv⟩ : ∃ v, vs = [v] ∧ Rp K F2 v (.pool [c0, c1] r) := by
      cases rx with
      | cons h r =>
        cases r
        exact ⟨_, rfl, h⟩
    refine ⟨F2, c0, c1, r, v, rfl, e2.s, rv, hT.ext e2.h, hne, fun H3 a eN hn ha => ?_⟩
    have hF : bare F2 a = Option.none := by
      cases q : bare F2 a with
      | none => rfl
      | some o =>
        have hs := bare_same e2.s (LamX.ExtN.refl H2) a o q
        obtain ⟨ps, rfl⟩ := hn o hs
        unfold bare at q
        cases z : F2 a with
        | none =>
          rw [z] at q
          cases q
        | some u =>
          rw [z] at q
          cases u <;> cases q
    have sB := bare_same e2.s eN
    have s3 : Same (upd (bare F2) a (.lst ((killRow c0 c1).map V.int))) H3 := fun b o h => by
      by_cases hb : b = a
      · subst hb
        rw [upd_same] at h
        rw [ha]
        exact h
      · rw [upd_ne hb] at h
        exact sB b o h
    have eF : LamX.ExtN F1 (upd (bare F2) a (.lst ((killRow c0 c1).map V.int))) := ((LamX.ExtN.of e2.f).trans (bare_ext F2)).trans (LamX.ExtN.of (upd_same' hF))
    have S3 := S.again pl eF s3
    have ra : Rp K (upd (bare F2) a (.lst ((killRow c0 c1).map V.int))) (.ref a) (lI (killRow c0 c1)) := .lst upd_same (RpL.of_ints _)
    refine snd_tDA _ _ H3 _ H3 σ1 δ (fun xs => xs = [lI [1 - sm, sm]]) S3 ?_ _ fun ws F4 H4 xs e4 rs ex => ?_
    · walk_at "rs"
      exact ⟨_, d3, _, rfl, _, d3, by first | rfl | simp | decide, by first | rfl | simp⟩
    · subst ex
      refine ⟨F4, [lI (killRow c0 c1), lI [1 - sm, sm]], fun d => d = .bl true, e4.s, .cons (ra.mono e4.f) (by show RpL _ _ (ws ++ []) _; rw [List.append_nil]; exact rs), ⟨[1 - sm, sm], by rw [hk], by simp, rfl⟩, fun v F5 H5 d e5 rd hd => ?_⟩
      subst hd
      exact ⟨true, rd.of_bl, hq H5 (((LamX.ExtN.of e2.h).trans eN).trans (LamX.ExtN.of (e4.h.trans e5.h)))⟩
  case body =>
    obtain ⟨G, ns, c, n, lo, sm, sG, r, t, ec, hT, q⟩ := h
    have ok := t.pool
    have h0 := t.s0
    have h1 := t.s1
    obtain ⟨c0, c1, e2, hne, hk⟩ : ∃ c0 c1, c = [c0, c1] ∧ c0 ≠ c1 ∧ killRow c0 c1 = [1 - sm, sm] := by
      have hn := t.hn
      have : sm = 0 ∨ sm = 1 := by omega
      rcases this with rfl | rfl
      · exact ⟨lo, n, by rw [ec, if_neg (by decide)], by omega, if_pos hn⟩
      · exact ⟨n, lo, by rw [ec, if_pos rfl], by omega, if_neg (by omega)⟩
    obtain ⟨rr, err⟩ : ∃ rr, rr = rTwo n := ⟨_, rfl⟩
    obtain ⟨δ1, e1⟩ : ∃ δ1 : List Sl, δ1 = [Sl.d (.scr ns), Sl.d (lI c), Sl.d (.lst ((rTwo n).map lI)), Sl.d (.int sm), Sl.d (.pool c (rTwo n))] ++ List.replicate 12 Sl.no := ⟨_, rfl⟩
    have pl : Plain δ1 := fun i s hs => by
      have hm := List.mem_of_getElem? hs
      rw [e1] at hm
      simp only [List.mem_append, List.mem_cons, List.not_mem_nil, or_false, List.mem_replicate] at hm
      rcases hm with (rfl | rfl | rfl | rfl | rfl) | ⟨_, rfl⟩
      · exact .inr ⟨_, rfl⟩
      · exact .inr ⟨_, rfl⟩
      · exact .inr ⟨_, rfl⟩
      · exact .inr ⟨_, rfl⟩
      · exact .inr ⟨_, rfl⟩
      · exact .inl rfl
    refine snd_tDS _ G H G H _ _ _ ⟨fun δ' => δ' = δ1, fun _ => False, fun _ => False, fun _ => False, fun _ => False, fun _ => False, fun _ _ => False⟩ (stt_start sG r) ?s0 ⟨fun F1 H1 σ1 δ' S1 sF e => ?_, fun _ _ _ _ _ _ h => h.elim, fun _ _ _ _ _ _ _ _ _ _ h => h.elim, fun _ _ _ _ _ _ _ _ _ _ _ h => h.elim, fun _ _ _ _ _ _ h => h.elim, fun _ _ _ _ _ _ h => h.elim, fun _ _ _ _ _ _ _ _ _ h => h.elim⟩
    case s0 =>
      walk_at "rs"
      exact ⟨c, rTwo n, rfl, ok, e1.symm⟩
    · subst e
      have d3 : δ'[3]? = some (.d (.int sm)) := by rw [e1]; rfl
      have d4 : δ'[4]? = some (.d (.pool [c0, c1] (rTwo n))) := by rw [e1, ← e2]; rfl
      refine ⟨G, H, F1, δ', c0, c1, rTwo n, sm, S1, pl, d3, d4, hT.ext S1.ext.h, hne, hk, fun H2 eN => ?_⟩
      have S2 := S1.again pl (bare_ext F1) (bare_same S1.ext.s eN)
      refine snd_tDS dNext _ _ _ _ σ1 δ' _ ⟨fun δ2 => δ2 = δ', fun _ => False, fun _ => False, fun _ => False, fun _ => False, fun _ => False, fun _ _ => False⟩ S2 rfl ⟨fun F3 H3 σ3 δ2 S3 s3 e => ?_, fun _ _ _ _ _ _ h => h.elim, fun _ _ _ _ _ _ _ _ _ _ h => h.elim, fun _ _ _ _ _ _ _ _ _ _ _ h => h.elim, fun _ _ _ _ _ _ h => h.elim, fun _ _ _ _ _ _ h => h.elim, fun _ _ _ _ _ _ _ _ _ h => h.elim⟩
      subst e
      refine snd_tDS _ _ _ F3 H3 σ3 δ2 _ (endsOf fun d => d = .bl true) S3 ?_ ((ends_ok fun v F4 H4 d e4 rd hd => by
        subst hd
        rw [rd.of_bl]
        exact q H4).grow s3)
      subst e1
      clear S3 S2 S1 d3 d4 hT q sG r
      have okl : (rTwo n).length = n := List.length_replicate
      have hn6 := t.n6
      walk_at "rs"
      refine ⟨c, rTwo n, rfl, rfl, ok, fun ft hft => ⟨rfl, fun a => ?_⟩⟩
      refine dFor_it ?_
      walk_at "rs"
      obtain ⟨W, hW⟩ : ∃ W : List Int, W = [1 - sm, sm] := ⟨_, rfl⟩
      obtain ⟨I, hI⟩ : ∃ I : Nat → List Sl → Prop, ∀ m δ, I m δ ↔ ∃ R ft s8 s9 s10 s11 s12 s13 s14 s15 s16, δ = [Sl.d (.scr ns), Sl.d (lI c), Sl.d (.lst ((rTwo n).map lI)), Sl.d (.int sm), Sl.d (.pool c (rTwo n)), Sl.oN a "Game" (gmF c (runR (rTwo n) R) c (rTwo n) (R.map (dRound .tup)) ft), Sl.d (.lst ((runR (rTwo n) R).map lI)), Sl.ol (R.map fun e => lI (e.2.map (·.1))), s8, s9, s10, s11, s12, s13, s14, s15, s16] ∧ Good c (rTwo n) R ∧ FtOk ft ∧ R.map (·.1) = W.take m ∧ R.length = m := ⟨_, fun _ _ => Iff.rfl⟩
      refine dFor_go (W.map Dat.int) (fun Q h => ?_) I ((hI _ _).mpr ⟨[], ft, _, _, _, _, _, _, _, _, _, rfl, fun k e h => (by simp at h), hft, rfl, rfl⟩) (fun m x δ' hm h => ?_) fun δ' h => ?_
      · rw [hW] at h
        exact h
      · obtain ⟨R, ft, s8, s9, s10, s11, s12, s13, s14, s15, s16, rfl, hg, hft, hR1, hR2⟩ := (hI _ _).mp h
        obtain ⟨s, hs, rfl⟩ : ∃ s, W[m]? = some s ∧ x = .int s := by
          rw [List.getElem?_map] at hm
          cases z : W[m]? with
          | none =>
            rw [z] at hm
            cases hm
          | some s =>
            rw [z] at hm
            cases hm
            exact ⟨s, rfl, rfl⟩
        have hm2 : m < 2 := by
          have := (List.getElem?_eq_some_iff.mp hs).1
          rw [hW] at this
          simpa using this
        have okR : PoolOk c (runR (rTwo n) R) := ok.run
        have k14 : (14 : Int) + (R.length : Int) = ((14 + R.length : Nat) : Int) := by omega
        walk_at "rs"
        refine ⟨ns, 14 + R.length, by rw [k14], fun z => ?_⟩
        walk_at "rs"
        refine ⟨.inl ⟨by omega, by omega⟩, by decide, by decide, by decide, z + 17 * (R.length : Int), [3] ++ List.replicate 6 300, rfl, by decide, by decide, fun dr hdr => ?_⟩
        obtain ⟨kd, ekd, _, _⟩ := hdr.get (i := 0) (s := 3) rfl
        have hdl : dr.length = 7 := hdr.1
        have a0 : atI dr 0 = some kd := (atI_of (j := 0) rfl).trans ekd
        walk_at "rs"
        rw [a0]
        walk_at "rs"
        refine ⟨c, runR (rTwo n) R, s, dr, 1, kd, rfl, okR, by rw [runR_len]; omega, by omega, fun S al => ?_⟩
        have hSl : S.length ≤ n := by
          have h1 := lenSub (ms := (List.range n).map fun (i : Nat) => (i : Int)) al.nd fun x hx => by
            obtain ⟨e, he, rfl⟩ := List.mem_map.mp hx
            obtain ⟨i, row, e1, hrow, _⟩ := al.ok e he
            have := (List.getElem?_eq_some_iff.mp hrow).1
            rw [runR_len, okl] at this
            exact List.mem_map.mpr ⟨i, List.mem_range.mpr this, e1.symm⟩
          rw [List.length_map, List.length_map, List.length_range] at h1
          exact h1
        refine ⟨by omega, dLc_it ?_⟩
        walk_at "rs"
        refine dLc_map S dPair (fun e => Dat.int e.1) (by omega) (fun Q h => h) (fun e he Y h => ?_) ?_
        · walk_at "rs"
          exact h
        · have e0 : S.map (fun e => Dat.int e.1) = (S.map (·.1)).map Dat.int := by rw [List.map_map]; rfl
          rw [e0]
          refine ⟨c, runR (rTwo n) R, c, rTwo n, s, S, R.map (dRound .tup), ft, rfl, rfl, okR, al, hft, by rw [List.length_map]; omega, fun ft' hft' => ?_⟩
          have e1 : (R.map fun e => lI (e.2.map (·.1))) ++ [Dat.lst ((S.map (·.1)).map Dat.int)] = (R ++ [(s, S)]).map fun e => lI (e.2.map (·.1)) := by
            rw [List.map_append]
            rfl
          have e2 : R.map (dRound .tup) ++ [dRound .tup (s, S)] = (R ++ [(s, S)]).map (dRound .tup) := by
            rw [List.map_append]
            rfl
          rw [e1, e2, show roundR (runR (rTwo n) R) s S = runR (rTwo n) (R ++ [(s, S)]) from (runR_snoc (e := (s, S))).symm]
          show I (m + 1) _
          refine (hI _ _).mpr ⟨R ++ [(s, S)], ft', _, _, _, _, _, _, _, _, _, rfl, hg.snoc al, hft', ?_, ?_⟩
          · rw [List.map_append, hR1, take_succ_of hs]
            rfl
          · rw [List.length_append, hR2]
            rfl
      · obtain ⟨R, ft, s8, s9, s10, s11, s12, s13, s14, s15, s16, rfl, hg, hft, hR1, hR2⟩ := (hI _ _).mp h
        obtain ⟨S, S', rfl⟩ : ∃ S S', R = [(1 - sm, S), (sm, S')] := by
          have hl : (W.map Dat.int).length = 2 := by rw [hW]; rfl
          rw [hl] at hR1 hR2
          rw [hW] at hR1
          match R, hR2, hR1 with
          | [(a, S), (b, S')], _, h =>
            injection h with h1 h2
            injection h2 with h2 _
            exact ⟨S, S', by rw [show a = 1 - sm from h1, show b = sm from h2]⟩
        have al := hg 0 _ rfl
        have al' := hg 1 _ rfl
        have al : Allowed c (rTwo n) (1 - sm) S := al
        have al' : Allowed c (roundR (rTwo n) (1 - sm) S) sm S' := al'
        have hrow2 : ∀ i, i < n → ∃ row, (runR (rTwo n) [(1 - sm, S), (sm, S')])[i]? = some row ∧ (row ≠ [] ↔ (i : Int) ∈ S.map (·.1)) := fun i hi => t.row2 al' hi
        have hFi := t.hiFirsts al al'
        have hDl := t.hiDeal al
        have hle := t.liv_le al
        have hat : atI c sm = some lo := by
          have : sm = 0 ∨ sm = 1 := by omega
          rcases this with rfl | rfl
          · rw [ec, if_neg (by decide)]
            rfl
          · rw [ec, if_pos rfl]
            rfl
        have hSl : S.length ≤ n := by
          have h1 := lenSub (ms := (List.range n).map fun (i : Nat) => (i : Int)) al.nd fun x hx => by
            obtain ⟨e, he, rfl⟩ := List.mem_map.mp hx
            obtain ⟨k, hk, rfl⟩ := t.sent al he
            exact List.mem_map.mpr ⟨k, List.mem_range.mpr hk, rfl⟩
          rw [List.length_map, List.length_map, List.length_range] at h1
          exact h1
        have okE : PoolOk c (runR (rTwo n) [(1 - sm, S), (sm, S')]) := ok.run
        have hEl : (runR (rTwo n) [(1 - sm, S), (sm, S')]).length = n := by rw [runR_len, okl]
        walk_at "rs"
        have eRd : [dRound Dat.tup (1 - sm, S), dRound Dat.tup (sm, S')] = ([(1 - sm, S), (sm, S')] : Rnds).map (dRound .tup) := rfl
        rw [eRd]
        have hRl : ([(1 - sm, S), (sm, S')] : Rnds).length = 2 := rfl
        generalize ([(1 - sm, S), (sm, S')] : Rnds) = R at hrow2 hFi okE hEl hg hRl
        generalize hrE : runR (rTwo n) R = rE at hrow2 okE hEl
        refine dLc_go (List.range n) (fun (k : Nat) => Dat.int (k : Int)) (fun (i : Nat) => decide ((i : Int) ∈ S.map (·.1))) (fun (k : Nat) => Dat.int (k : Int)) (by rw [List.length_range]; omega) (fun Q h => ?_) (fun k hk Y N h1 h2 => ?_) ?_
        · walk_at "rs"
          rw [rngD_0, hEl]
          exact ⟨by omega, by omega, h⟩
        · obtain ⟨row, hrow, hl⟩ := hrow2 k (List.mem_range.mp hk)
          walk_at "rs"
          rw [hrow]
          walk_at "rs"
          by_cases z : (k : Int) ∈ S.map (·.1)
          · have hne : row ≠ [] := hl.mpr z
            rw [if_pos (by cases row with | nil => exact absurd rfl hne | cons _ _ => simp)]
            exact h1 (decide_eq_true z)
          · have hne : row = [] := Decidable.byContradiction fun y => z (hl.mp y)
            rw [if_neg (by rw [hne]; simp)]
            exact h2 (decide_eq_false z)
        · refine ⟨c, rTwo n, rfl, ok, fun D hD hG => ?_⟩
          have hmost := t.most hD hG
          rw [okl, hmost]
          refine ⟨by omega, fun ms hp hs => ?_⟩
          have ems := t.liv_sorted al hp hs
          subst ems
          have e5 : ((liv n S).map fun (i : Nat) => (i : Int)).map Dat.int = (liv n S).map fun (i : Nat) => Dat.int (i : Int) := by
            rw [List.map_map]
            rfl
          rw [e5]
          refine dEqD_sh (sh_lst fun e _ => sh_int 3 _) (sh_lst fun e _ => sh_int 3 _) (by decide) fun bb hbb => ?_
          have hbt : bb = true := hbb.mpr rfl
          subst hbt
          walk_at "rs"
          refine ⟨lo, rfl, true, rfl, ?_⟩
          walk_at "rs"
          rw [hat]
          walk_at "rs"
          unfold liv at hle
          rw [if_neg (Int.not_lt.mpr hle)]
          refine dLc_map (List.range n) (fun (k : Nat) => Dat.int (k : Int)) (fun (k : Nat) => pr (if (k : Int) ∈ S.map (·.1) then some (0, 1) else Option.none)) (by rw [List.length_range]; omega) (fun Q h => ?_) (fun k hk Y h => ?_) ?_
          · walk_at "rs"
            rw [rngD_0, okl]
            exact ⟨by omega, by omega, h⟩
          · walk_at "rs"
            by_cases z : (k : Int) ∈ S.map (·.1)
            · rw [if_pos z] at h
              rw [if_pos z]
              exact h
            · rw [if_neg z] at h
              rw [if_neg z]
              exact h
          · have e6 : ((List.range n).map fun (k : Nat) => pr (if (k : Int) ∈ S.map (·.1) then some (0, 1) else Option.none)) = (hiF n S).map pr := by
              unfold hiF
              rw [List.map_map]
              rfl
            rw [e6]
            refine ⟨_, by unfold gmF; rw [lkG2, lkA], c, rTwo n, R, .inr rfl, ok, hg, by omega, ?_⟩
            rw [okl, hFi]
            refine ⟨hiF n S, rfl, by rw [hiF_len]; omega, trivial, true, rfl, ?_⟩
            walk_at "rs"
            refine ⟨c, rTwo n, hiF n S, rfl, ok, fun b hb => ?_⟩
            have hbt : b = true := hb.mpr hDl
            subst hbt
            refine ⟨trivial, true, rfl, ?_⟩
            walk_at "rs"
            refine ⟨c, rE, c, rTwo n, R.map (dRound .tup), ft, rfl, rfl, okE, true, rfl, ?_⟩
            walk_at "rs"
            exact ⟨c, rTwo n, rfl, ok, rfl⟩
end
end Pw
set_option Elab.async false
set_option linter.all false
set_option maxRecDepth 100000
set_option maxHeartbeats 1000000
namespace Pw
open PySem PySem.Spec L2
/-- the reading of the data, unfolded -/
local macro_rules | `(tactic| walk_at "rd") => `(tactic| simp only [dRet, dRetN, dRetO, dRetM, dRetG, dSeq, dIf, dNext, dNever, dDrop, dAsg, dAsgN, dApp, dFrz, dFrzI, dTest, dB, dYes, dOp, dOpN, dC, dVar, dCall, dCallN, dCons, dNil, dTup, dLst, dAnd, dOr, dNot, dAndV, dOrV, dNotV, dIfE, dIsi, d2I, d2B, d2C, dIxL, dIxT, dIxS, dLen, d2Min, d2Max, dAbs, dInt, dTupOf, dListOf, dCaps, dHold, dSeats, dPieces, dIsN, dNotN, dNotB, dIn, dSorted, dSortedT, dLenL, dMinB, dLenSet, dEnum, dgN, dgTup, dgCons, dgNil, dItL, dItT, dRng1, dRng2, dCat, dRep, dCatT, dSl, dNoP, dP1, dRev, dCntN, dListR, dListI,
  dIxO, dLenO, dThaw, dSetO, dAugO, dAug, dInI, dPutI, dIxI, dGetF, dAsgP, dAsgL, dGetP, dIxP, dPutP, dSetM, dSetd, dCRO, dLenGet, dOF, dSetF, dSetX, dIfNN, dCallG, dCallMt, dMtR, dCRN, dMkN, dMkP, dIsP, dFor, dForI, dLc, dLc2, dDc, dWhile, endsOf, endsN, endsM, endsG, startD, startR, startG, wipeD, isSc,
  List.map_cons, List.map_nil, List.cons_append, List.nil_append, List.append_nil, List.length_cons, List.length_nil, Nat.reduceAdd, Nat.reduceSub, List.replicate_succ, List.replicate_zero, List.getElem?_cons_zero, List.getElem?_cons_succ, List.set_cons_zero, List.set_cons_succ, Option.getD_some,
  Option.some.injEq, Sl.d.injEq, Sl.ol.injEq, Sl.oI.injEq, Sl.oP.injEq, Sl.oL.injEq, Sl.rd.injEq, Sl.oN.injEq, Sl.rN.injEq, Dat.int.injEq, Dat.bl.injEq, Dat.lst.injEq, Dat.tup.injEq, Dat.pool.injEq, Dat.scr.injEq, Dat.dI.injEq, Dat.dP.injEq, List.cons.injEq, map_int_inj, reduceCtorEq, exists_eq_left', exists_eq_left, exists_eq_right, exists_and_left, exists_const, and_true, true_and, and_false, false_and, or_false, false_or, exists_false, if_true, if_false, ite_true, ite_false, Bool.false_eq_true, and_assoc, and_self, decide_eq_true_eq, exists_prop, true_or, or_true, or_self, List.length_map, Nat.reduceLeDiff, Nat.reduceLT, atI_z, atI_1, atI_map, Option.map_some, Option.map_none, atI_nat', Int.toNat_natCast, Int.zero_add, rngD_len, enumD_len, isN_pr, Option.isNone_some, Option.isNone_none, isN_non, isN_int, isN_lst, isN_tup, isN_pool, pr_none, pr_some, List.getElem?_map, tyI, tyL, tyT, kII, kIB, kLL, kTT, decide_true, lsts_inj, isN_vB, vB_some, vB_none, kvB_len, rowB_len, clean_d, clean_no, clean_nil, Bool.not_true, Bool.not_false, fP1, fP2, fP3, fP4, lkA, lkP2, fG1, fG2, fG3, fG4, fG5, fG6, fG7, lkG1, lkG2, lkG3, lkG4, lkG5])
local macro_rules | `(tactic| walk_at "rs") => `(tactic| simp only [dRet, dRetN, dRetO, dRetM, dRetG, dSeq, dIf, dNext, dNever, dDrop, dAsg, dAsgN, dApp, dFrz, dFrzI, dTest, dB, dYes, dOp, dOpN, dC, dVar, dCall, dCallN, dCons, dNil, dTup, dLst, dAnd, dOr, dNot, dAndV, dOrV, dNotV, dIfE, dIsi, d2I, d2B, d2C, dIxL, dIxT, dIxS, dLen, d2Min, d2Max, dAbs, dInt, dTupOf, dListOf, dCaps, dHold, dSeats, dPieces, dIsN, dNotN, dNotB, dIn, dSorted, dSortedT, dLenL, dMinB, dLenSet, dEnum, dgN, dgTup, dgCons, dgNil, dItL, dItT, dRng1, dRng2, dCat, dRep, dCatT, dSl, dNoP, dP1, dRev, dCntN, dListR, dListI,
  dIxO, dLenO, dThaw, dSetO, dAugO, dAug, dInI, dPutI, dIxI, dGetF, dAsgP, dAsgL, dGetP, dIxP, dPutP, dSetM, dSetd, dCRO, dLenGet, dOF, dSetF, dSetX, dIfNN, dCallG, dCallMt, dMtR, dCRN, dMkN, dMkP, dIsP, endsOf, endsN, endsM, endsG, startD, startR, startG, wipeD, isSc,
  List.map_cons, List.map_nil, List.cons_append, List.nil_append, List.append_nil, List.length_cons, List.length_nil, Nat.reduceAdd, Nat.reduceSub, List.replicate_succ, List.replicate_zero, List.getElem?_cons_zero, List.getElem?_cons_succ, List.set_cons_zero, List.set_cons_succ, Option.getD_some,
  Option.some.injEq, Sl.d.injEq, Sl.ol.injEq, Sl.oI.injEq, Sl.oP.injEq, Sl.oL.injEq, Sl.rd.injEq, Sl.oN.injEq, Sl.rN.injEq, Dat.int.injEq, Dat.bl.injEq, Dat.lst.injEq, Dat.tup.injEq, Dat.pool.injEq, Dat.scr.injEq, Dat.dI.injEq, Dat.dP.injEq, List.cons.injEq, map_int_inj, reduceCtorEq, exists_eq_left', exists_eq_left, exists_eq_right, exists_and_left, exists_const, and_true, true_and, and_false, false_and, or_false, false_or, exists_false, if_true, if_false, ite_true, ite_false, Bool.false_eq_true, and_assoc, and_self, decide_eq_true_eq, exists_prop, true_or, or_true, or_self, List.length_map, Nat.reduceLeDiff, Nat.reduceLT, atI_z, atI_1, atI_map, Option.map_some, Option.map_none, atI_nat', Int.toNat_natCast, Int.zero_add, rngD_len, enumD_len, isN_pr, Option.isNone_some, Option.isNone_none, isN_non, isN_int, isN_lst, isN_tup, isN_pool, pr_none, pr_some, List.getElem?_map, tyI, tyL, tyT, kII, kIB, kLL, kTT, decide_true, lsts_inj, isN_vB, vB_some, vB_none, kvB_len, rowB_len, clean_d, clean_no, clean_nil, Bool.not_true, Bool.not_false, fP1, fP2, fP3, fP4, lkA, lkP2, fG1, fG2, fG3, fG4, fG5, fG6, fG7, lkG1, lkG2, lkG3, lkG4, lkG5])
section
variable {P : Program} {w : World} {K : PySem.W.Frag} {mg : Str → Option Value} {base : Heap}
/-! The law. -/
theorem pss_imp {X : Cx} {sts : List Stmt} {t t' : TS} (h : PSs X sts t) (i : ∀ D σ H, t' D σ H → t D σ H) : PSs X sts t' := ⟨fun pins s σ H D I q => h.run pins s σ H D I (i D σ H q)⟩
/-- statements told by data, then one that is not -/
theorem pss_front {X : Cx} {st : Stmt} {sts : List Stmt} {d u : DS} {t : TS} (h : XS X st d) (hu : PSs X sts (tSeq (tDS X.K u) t)) : PSs X (st :: sts) (tSeq (tDS X.K (dSeq d u)) t) := pss_imp (pss_cons h hu) fun D σ H ⟨F0, H0, F, δ, DD, S, hd, en⟩ =>
  ⟨F0, H0, F, δ, { DD with nx := u DD }, S, hd, fun F' H' σ' δ' S' s hn => ⟨F0, H0, F', δ', DD, S', hn, en.grow s⟩, en.rt, en.rtn, en.rtm, en.bk, en.ct, en.rtg⟩
theorem pss_last {X : Cx} {sts : List Stmt} {t : TS} (h : PSs X sts t) : PSs X sts (tSeq (tDS X.K dNext) t) := pss_imp h fun D σ H ⟨F0, H0, F, δ, DD, S, hd, en⟩ => en.nx F H σ δ S (Same.refl F) hd
def spLaw (K : PySem.W.Frag) : Sp := fun vs H Q _ => ∃ (a : Addr) (ns : List Int), vs = [.ref a] ∧ SqL K H a (ns.map V.int) ∧ LamX.Tabs (Tk K) H ∧ ∀ H', Q (.bl true) H'
theorem Shape.same {c : List Int} {r : List (List Int)} (sh : Shape c r) {x : Int} (hx : x ∈ c) : Shape (List.replicate c.length x) r := by
  have ok := sh.ok
  refine ⟨⟨by rw [List.length_replicate]; exact ok.s0, by rw [List.length_replicate]; exact ok.s1, ok.p1, fun y hy => ?_, ok.asc, fun row h y hy => by rw [List.length_replicate]; exact ok.rng row h y hy⟩, by rw [List.length_replicate]; exact sh.s5, sh.p8⟩
  rw [List.eq_of_mem_replicate hy]
  exact ok.cap x hx
theorem ok_law (T : Top K mg) (TB : LamX.TabB base mg (He.cT K kD).1 (He.cT K kD).2) {f : Addr} {fd : FuncData} (F : FunD K d_law.name d_law.qual d_law.params d_law.body d_law.scope [] [] f fd) : FnOk P w K mg base C8.CX0 11 f fd ["_law_script"] (spLaw K) := by
  refine F.ok (k := 10) sc_law (fun vs H Q E h => ?_) (fun cdv A outer s H vs Q E hr h => ⟨_, PSs.nox (X := (cxOf C8.CX0 P w K mg base N_law d_law.qual d_law.scope f cdv A outer s H E))
    (pss_front (xs_set (i := 1) sc_law.nd (xe_c (c_l_draws T) hr (xa_cons (xe_op op_add od_I (xe_callT call_int1 cd_int T.m_int (xa_cons (xe_c (c_l_cell T) hr (xa_cons (xv 0) (xa_cons xint xa_nil))) xa_nil)) xint) (xa_cons (xe_new (xn_op op_cat on_cat (xe_new (xn_lst (xa_cons xint (xa_cons xint xa_nil)))) (xe_new (xn_op op_rep on_rep (xe_new (xn_lst (xa_cons xint xa_nil))) xint)))) xa_nil))))
      (pss_front (xs_set (i := 2) sc_law.nd (xe_c (c_l_pool T) hr (xa_cons (xe_op op_add od_I (xe_callT call_int1 cd_int T.m_int (xa_cons (xe_c (c_l_cell T) hr (xa_cons (xv 0) (xa_cons xint xa_nil))) xa_nil)) xint) (xa_cons xint xa_nil))))
      (pss_front (xs_if (xt_cmp op_eq od_eq (xe_ix ix_list od_ixL (xv 1) xint) xint) (xss_one (xs_set (i := 2) sc_law.nd (xe_c (c_l_crowded T) hr (xa_cons (xe_c (c_l_cell T) hr (xa_cons (xv 0) (xa_cons xint xa_nil))) (xa_cons xint xa_nil))))) xss_nil)
      (pss_front (xs_if (xt_not (xt_val (xe_c (c_l_any_order T) hr (xa_cons (xv 0) (xa_cons (xe_new (xn_lc (own := [("_law_k", 8)]) rfl sc_law.nd (xi_rng1 T.m_range (xa_cons (xe_lenL T.m_len (xe_ix ix_tup od_ixT (xv 2) xint)) xa_nil)) (blkOk_by (own := [("_law_k", 8)]) (N := N_law) (sc := defScope s_law) (by decide +kernel)) (fun _ _ _ _ _ => (xg_name 8 sc_law.nd)) (fun _ _ _ _ _ => xts_nil) (fun _ _ _ _ _ => (xe_ix ix_list od_ixL (xe_ix ix_tup od_ixT (xv 2) xint) xint)))) (xa_cons (xe_ix ix_tup od_ixT (xv 2) xint) (xa_cons (xv 1) xa_nil))))))) (xss_one (xs_ret xbl)) xss_nil)
      (pss_front (xs_set (i := 3) sc_law.nd (xe_c (c_l_draws T) hr (xa_cons (xe_op op_add od_I (xe_callT call_int1 cd_int T.m_int (xa_cons (xe_c (c_l_cell T) hr (xa_cons (xv 0) (xa_cons xint xa_nil))) xa_nil)) xint) (xa_cons (xe_new (xn_lst (xa_cons xint (xa_cons xint (xa_cons xint (xa_cons xint xa_nil)))))) xa_nil))))
      (pss_front (xs_set (i := 4) sc_law.nd (xe_op op_add od_I (xe_op op_add od_I (xe_ix ix_list od_ixL (xv 3) xint) xint) (xe_op op_modN od_C (xe_callT call_int1 cd_int T.m_int (xa_cons (xe_ix ix_list od_ixL (xv 3) xint) xa_nil)) (xe_op op_sub od_I xint (xe_ix ix_list od_ixL (xv 3) xint)))))
      (pss_front (xs_set (i := 5) sc_law.nd (xe_ix ix_list od_ixL (xv 3) xint))
      (pss_front (xs_set (i := 6) sc_law.nd (xe_new (xn_lst (xa_cons (xe_ix ix_list od_ixL (xv 3) xint) (xa_cons (xv 4) xa_nil)))))
      (pss_front (xs_if (xt_cmp op_eq od_eq (xv 5) xint) (xss_one (xs_set (i := 6) sc_law.nd (xe_new (xn_lst (xa_cons (xv 4) (xa_cons (xe_ix ix_list od_ixL (xv 3) xint) xa_nil)))))) xss_nil)
      (pss_front (xs_setLc (i := 7) (own := [("_law_p", 9)]) rfl sc_law.nd (xi_rng1 T.m_range (xa_cons (xv 4) xa_nil)) (blkOk_by (own := [("_law_p", 9)]) (N := N_law) (sc := defScope s_law) (by decide +kernel)) (fun _ _ _ _ _ => (xg_name 9 sc_law.nd)) (fun _ _ _ _ _ => xts_nil) (fun _ _ _ _ _ => (xe_new (xn_lst (xa_cons xint (xa_cons xint xa_nil))))))
      (pss_front (xs_if (xt_not (xt_val (xe_c (c_l_low_first T) hr (xa_cons (xv 0) (xa_cons (xv 6) (xa_cons (xv 7) (xa_cons (xv 5) (xa_cons (xe_op op_modN od_C (xe_callT call_int1 cd_int T.m_int (xa_cons (xe_ix ix_list od_ixL (xv 3) xint) xa_nil)) (xv 4)) xa_nil)))))))) (xss_one (xs_ret xbl)) xss_nil)
      (pss_last (pss_one (ps_ret (C8.pe_c (c_l_high_first T TB) hr (by decide) rfl (xa_cons (xv 0) (xa_cons (xv 6) (xa_cons (xv 7) (xa_cons (xv 5) xa_nil))))))))))))))))))), ?body⟩)
  · obtain ⟨_, _, rfl, _⟩ := h
    rfl
  case body =>
    obtain ⟨a, ns, rfl, hS, hT, q⟩ := h
    obtain ⟨N, hN⟩ : ∃ N : List Sl → Prop, ∀ δ, N δ ↔ ∃ (c : List Int) (n : Nat) (lo sm : Int) (s1 s2 s3 s4 s8 s9 : Sl), δ = [Sl.d (.scr ns), s1, s2, s3, s4, Sl.d (.int sm), Sl.d (lI c), Sl.d (.lst ((rTwo n).map lI)), s8, s9] ∧ Two c n lo sm ∧ c = (if sm = 1 then [(n : Int), lo] else [lo, (n : Int)]) := ⟨_, fun _ => Iff.rfl⟩
    refine ⟨H, H, H, _, ⟨N, fun _ => False, fun _ => False, fun _ => False, fun _ => False, fun _ => False, fun _ _ => False⟩, stt_start (ds := [.scr ns]) (Same.refl H) (.cons (.scr hS) .nil), ?data, ⟨fun F1 H1 σ1 δ' S1 sF hz => ?ends, fun _ _ _ _ _ _ h => h.elim, fun _ _ _ _ _ _ _ _ _ _ h => h.elim, fun _ _ _ _ _ _ _ _ _ _ _ h => h.elim, fun _ _ _ _ _ _ h => h.elim, fun _ _ _ _ _ _ h => h.elim, fun _ _ _ _ _ _ _ _ _ h => h.elim⟩⟩
    case ends =>
      obtain ⟨c, n, lo, sm, s1, s2, s3, s4, s8, s9, rfl, t, ec⟩ := (hN _).mp hz
      refine snd_tDA (dCons (dVar 0) (dCons (dVar 6) (dCons (dVar 7) (dCons (dVar 5) dNil)))) H H F1 H1 σ1 _ (fun xs => xs = [.scr ns, lI c, .lst ((rTwo n).map lI), .int sm]) S1 ⟨_, rfl, _, rfl, _, rfl, _, rfl, rfl⟩ _ fun vs F2 H2 xs e2 rx ex => ?_
      subst ex
      exact ⟨F2, ns, c, n, lo, sm, e2.s, (by show RpL _ _ (vs ++ []) _; rw [List.append_nil]; exact rx), t, ec, (hT.ext S1.ext.h).ext e2.h, fun H3 => q H3⟩
    case data =>
      refine dSeq_gen fun N1 h1 => ?_
      walk_at "rs"
      refine ⟨ns, 1, rfl, fun z => ?_⟩
      walk_at "rs"
      refine ⟨by decide, by decide, by decide, z + 2, [2, 10] ++ List.replicate 10 60, rfl, by decide, by decide, fun nu hnu => ?_⟩
      obtain ⟨n0, en0, _, _⟩ := hnu.get (i := 0) (s := 2) rfl
      have a0 : atI nu 0 = some n0 := (atI_of (j := 0) rfl).trans en0
      refine (h1 _).mpr (dSeq_gen fun N2 h2 => ?_)
      walk_at "rs"
      refine ⟨ns, 0, rfl, fun z => ?_⟩
      walk_at "rs"
      refine ⟨z + 93, rfl, fun c r sh => ?_⟩
      refine (h2 _).mpr (dSeq_gen fun N3 h3 => ?_)
      have cont : ∀ c r, Shape c r → N3 [Sl.d (.scr ns), Sl.d (lI nu), Sl.d (.tup [lI c, .lst (r.map lI)]), .no, .no, .no, .no, .no, .no, .no] := fun c r sh => by
        have ok := sh.ok
        obtain ⟨x, c', ec⟩ : ∃ x c', c = x :: c' := by
          have := ok.s0
          cases c with
          | nil => simp at this
          | cons x c' => exact ⟨x, c', rfl⟩
        have hx : x ∈ c := by rw [ec]; exact List.mem_cons_self
        have hcx : atI c 0 = some x := by rw [ec]; exact atI_z
        have hcl := ok.s1
        refine (h3 _).mpr (dSeq_gen fun N4 h4 => ?_)
        walk_at "rs"
        refine dLc_map (List.range c.length) (fun (k : Nat) => Dat.int (k : Int)) (fun _ => Dat.int x) (by rw [List.length_range]; omega) (fun Q h => ?_) (fun k hk Y h => ?_) ?_
        · walk_at "rs"
          rw [rngD_0]
          exact ⟨by omega, by omega, h⟩
        · walk_at "rs"
          rw [hcx]
          walk_at "rs"
          exact h
        · have e1 : ((List.range c.length).map fun _ => Dat.int x) = (List.replicate c.length x).map Dat.int := by
            rw [List.map_replicate, List.map_const', List.length_range]
          rw [e1]
          refine ⟨ns, List.replicate c.length x, r, nu, rfl, sh.same hx, ⟨x, fun y hy => List.eq_of_mem_replicate hy⟩, hnu, true, rfl, ?_⟩
          refine (h4 _).mpr (dSeq_gen fun N5 h5 => ?_)
          walk_at "rs"
          refine ⟨ns, 12, rfl, fun z => ?_⟩
          walk_at "rs"
          refine ⟨z + 17, [6, 60, 2, 60], rfl, by decide, by decide, fun dr hdr => ?_⟩
          obtain ⟨d0, e0, p0, q0⟩ := hdr.get (i := 0) (s := 6) rfl
          obtain ⟨d1, e1, p1, q1⟩ := hdr.get (i := 1) (s := 60) rfl
          obtain ⟨d2, e2, p2, q2⟩ := hdr.get (i := 2) (s := 2) rfl
          obtain ⟨d3, e3, p3, q3⟩ := hdr.get (i := 3) (s := 60) rfl
          have b0 : atI dr 0 = some d0 := (atI_of (j := 0) rfl).trans e0
          have b1 : atI dr 1 = some d1 := (atI_of (j := 1) rfl).trans e1
          have b2 : atI dr 2 = some d2 := (atI_of (j := 2) rfl).trans e2
          have b3 : atI dr 3 = some d3 := (atI_of (j := 3) rfl).trans e3
          refine (h5 _).mpr (dSeq_gen fun N6 h6 => ?_)
          walk_at "rs"
          rw [b0, b1]
          walk_at "rs"
          refine ⟨by omega, ?_⟩
          have f0 : 0 ≤ d1.fmod (6 - d0) := Int.fmod_nonneg_of_pos d1 (by omega)
          have f1 : d1.fmod (6 - d0) < 6 - d0 := Int.fmod_lt_of_pos d1 (by omega)
          obtain ⟨n, hn⟩ : ∃ n : Nat, d0 + 1 + d1.fmod (6 - d0) = (n : Int) := ⟨(d0 + 1 + d1.fmod (6 - d0)).toNat, by omega⟩
          rw [hn]
          have hn6 : (n : Int) ≤ 6 := by omega
          have hn1 : d0 < (n : Int) := by omega
          have g0 : 0 ≤ d3.fmod (n : Int) := Int.fmod_nonneg_of_pos d3 (by omega)
          have g1 : d3.fmod (n : Int) < (n : Int) := Int.fmod_lt_of_pos d3 (by omega)
          refine (h6 _).mpr (dSeq_gen fun N7 h7 => ?_)
          walk_at "rs"
          rw [b2]
          walk_at "rs"
          refine (h7 _).mpr (dSeq_gen fun N8 h8 => ?_)
          walk_at "rs"
          rw [b0]
          walk_at "rs"
          refine (h8 _).mpr (dSeq_gen fun N9 h9 => ?_)
          have fin : N9 [Sl.d (.scr ns), Sl.d (lI nu), Sl.d (.tup [lI c, .lst (r.map lI)]), Sl.d (lI dr), Sl.d (.int (n : Int)), Sl.d (.int d2), Sl.d (lI (if d2 = 1 then [(n : Int), d0] else [d0, (n : Int)])), .no, .no, .no] := by
            have t2 := two_of (n := n) p0 hn1 (by omega) p2 q2
            generalize ec : (if d2 = 1 then [(n : Int), d0] else [d0, (n : Int)]) = cc at t2
            refine (h9 _).mpr (dSeq_gen fun N10 h10 => ?_)
            walk_at "rs"
            refine dLc_map (List.range n) (fun (k : Nat) => Dat.int (k : Int)) (fun _ => lI [0, 1]) (by rw [List.length_range]; omega) (fun Q h => ?_) (fun k hk Y h => ?_) ?_
            · walk_at "rs"
              rw [rngD_0]
              exact ⟨by omega, by omega, h⟩
            · walk_at "rs"
              exact h
            · have e4 : ((List.range n).map fun _ => lI [0, 1]) = (rTwo n).map lI := by
                rw [List.map_const', List.length_range, List.map_replicate]
              rw [e4]
              refine (h10 _).mpr (dSeq_gen fun N11 h11 => ?_)
              walk_at "rs"
              rw [b3]
              walk_at "rs"
              refine ⟨by omega, ns, d0, n, d2, d3.fmod (n : Int), by rw [ec, Int.toNat_natCast], p0, hn1, hn6, p2, q2, g0, g1, true, rfl, ?_⟩
              refine (h11 _).mpr ((hN _).mpr ⟨cc, n, d0, d2, _, _, _, _, _, _, rfl, t2, ec.symm⟩)
          walk_at "rs"
          by_cases hz : d2 = 1
          · rw [if_pos hz] at fin ⊢
            rw [b0]
            exact ⟨_, rfl, fin⟩
          · rw [if_neg hz] at fin ⊢
            exact fin
      walk_at "rs"
      rw [a0]
      walk_at "rs"
      by_cases hz : n0 = 1
      · rw [if_pos hz]
        refine ⟨ns, 0, rfl, fun z => ?_⟩
        exact ⟨z, rfl, fun c r sh => cont c r sh⟩
      · rw [if_neg hz]
        exact cont c r sh
end
end Pw
set_option Elab.async false
set_option linter.all false
set_option maxRecDepth 100000
set_option maxHeartbeats 0
namespace Pw
open PySem PySem.Spec PyProof.Rows L2
def tf : List He.Defn := [("killing_row", none)]
abbrev R : PySem.W.OpenRow := PySem.W.OpenLaw.row PySem.Challenge.rw_pairwarden_k88_whole_any_order_of_equal
abbrev hk : PySem.W.Hook := He.hookX 6 fa fn [] tf exB
def ob (s : PySem.W.SharedT) : He.AlX := He.obsX 6 fa fn [] tf exB (HandSHeadRun.getT s)
theorem ob_eq (s : PySem.W.SharedT) : ob s = hk.obs s.abs := He.obsX_eq (HandSHeadRun.getT_eq s)
def loose1 : List PySem.Str := [("_wall" : PySem.Str), ("PoolError" : PySem.Str), ("InvalidPool" : PySem.Str), ("InvalidDealing" : PySem.Str), ("InvalidSends" : PySem.Str), ("pairs_among" : PySem.Str), ("has_twice" : PySem.Str), ("are_below" : PySem.Str), ("clean_holders" : PySem.Str), ("Pool" : PySem.Str), ("pair_room" : PySem.Str), ("held_pairs" : PySem.Str), ("pool_with" : PySem.Str), ("is_dealing" : PySem.Str), ("pieces_on" : PySem.Str), ("forest" : PySem.Str), ("free_pair" : PySem.Str), ("walk_back" : PySem.Str), ("find_walk" : PySem.Str), ("take_walk" : PySem.Str), ("first_fit" : PySem.Str), ("greatest_dealing" : PySem.Str), ("most_dealt" : PySem.Str), ("is_safe" : PySem.Str), ("others_of" : PySem.Str), ("after_loss" : PySem.Str), ("first_wrong" : PySem.Str), ("after_round" : PySem.Str), ("killing_row" : PySem.Str), ("first_sends" : PySem.Str), ("Game" : PySem.Str), ("_law_cell" : PySem.Str), ("_law_draws" : PySem.Str), ("_law_bits" : PySem.Str), ("_law_pairs" : PySem.Str)]
def loose2 : List PySem.Str := [("_law_pool" : PySem.Str), ("_law_crowded" : PySem.Str), ("_law_is_dealing" : PySem.Str), ("_law_is_integer" : PySem.Str), ("_law_is_list" : PySem.Str), ("_law_sends" : PySem.Str), ("_law_round" : PySem.Str), ("_law_is_row" : PySem.Str), ("_law_is_pool" : PySem.Str), ("_law_kept" : PySem.Str), ("_law_made" : PySem.Str), ("_law_are_numbers" : PySem.Str), ("_law_are_entries" : PySem.Str), ("_law_copied" : PySem.Str), ("_law_firsts" : PySem.Str), ("_law_order" : PySem.Str), ("_law_after" : PySem.Str), ("_law_says_dead" : PySem.Str), ("_law_any_order" : PySem.Str), ("_law_low_first" : PySem.Str), ("_law_high_first" : PySem.Str)]
theorem run (w : World) : HandSHeadRun.RunEq R (PySem.W.view R.prog [66]) hk ob 6000 (loose1 ++ loose2) w := by
  intro os
  kernel_rfl
end Pw
set_option Elab.async false
set_option linter.all false
set_option maxRecDepth 100000
set_option maxHeartbeats 0
namespace Pw
open PySem PySem.Spec L2
theorem facts {l : PySem.W.OpenLaw} {w : World} {K : PySem.W.Frag} {h : Heap} {mg : Str → Option Value} {f : Addr} (X : K.In h) (G : h.Ns mainGlobals mg) (hfa : mg ("law" : Str) = some (.ref f)) (c : He.SaysX fa fn [] tf exB w h K) : LamX.LawAtS l w K C8.CX0 11 63 "_law_script" mg f h := by
  have T : Top K mg := ⟨c.t.d, ⟨h, X, G⟩, c.more⟩
  obtain ⟨fd, F⟩ := T.c.def_ 53 (d := d_law) rfl
  have e := hfa.symm.trans (T.glo 49)
  cases e
  have b := FunD.bindsA (ps := ["_law_script"]) F fun _ _ _ _ _ _ us hl => match us, hl with | [_], _ => rfl
  have one : ∀ {Pr : Addr × Addr → Prop}, Pr (He.cT K kD) → ∀ p ∈ [He.cT K kD], Pr p := fun h p hp => by
    rcases List.mem_cons.mp hp with e | e
    · rw [e]
      exact h
    · cases e
  have m : kD ∈ tf := List.mem_cons_self
  refine ⟨fd, [He.cT K kD], spLaw K, one (c.empty kD m), one (c.out kD m), one (PySem.W.codeHd_of_K X (c.hd kD m)), fun s v => b s [v] rfl, fun H a ns _ _ hT hS => ⟨a, ns, rfl, hS, fun p hp => ?_, fun _ => rfl⟩, fun base _ _ TB => ok_law T (TB _ List.mem_cons_self) F⟩
  rcases List.mem_cons.mp hp with e | e
  · rw [e]
    exact LamX.TabS.nil (hT _ List.mem_cons_self)
  · cases e
end Pw
open PySem PySem.W PySem.Calls PyProof.Rows
theorem PySem.Challenge.cw_pairwarden_k88_whole_any_order_of_equal_holds : PySem.Challenge.rw_pairwarden_k88_whole_any_order_of_equal.Holds := by
  w_on; o_law
  refine HandSHeadRun.head_any (r := OpenLaw.row PySem.Challenge.rw_pairwarden_k88_whole_any_order_of_equal) (q := view (OpenLaw.row PySem.Challenge.rw_pairwarden_k88_whole_any_order_of_equal).prog [66]) (H := Pw.hk) (ob := Pw.ob) (M := 6000) (loose := Pw.loose1 ++ Pw.loose2) (d := HandSHeadRun.topDef (OpenLaw.row PySem.Challenge.rw_pairwarden_k88_whole_any_order_of_equal).prog 66) (kwd := []) Pw.ob_eq
    (by kernel_rfl) (fun s => by kernel_rfl) Pw.run (by kernel_rfl) (by kernel_rfl) (by kernel_rfl) (by rfl) (by first | assumption | decide +kernel) (by decide +kernel) ⟨rfl, rfl, rfl, rfl, rfl, by decide +kernel⟩ ?hw ?hc
  case hw => w_witness2
  case hc =>
    refine LamX.walk_ofTsE (l := PySem.Challenge.rw_pairwarden_k88_whole_any_order_of_equal) (n := 63) (k := 11) (x := "_law_script") (CX := fun _ => C8.CX0) rfl (by decide) (by kernel_rfl) ⟨rfl, by decide, by decide⟩ ?F (fun _ _ _ _ _ z => z)
    intro w mg fa h Y G hmg0
    obtain ⟨K, KX, c⟩ := Y
    have hmg : mg ("law" : PySem.Str) = some (.ref fa) := by
      have e : (HandSHeadRun.topDef (OpenLaw.row PySem.Challenge.rw_pairwarden_k88_whole_any_order_of_equal).prog 66).name = ("law" : PySem.Str) := by kernel_rfl
      rw [← e]
      exact hmg0
    exact ⟨K, KX, Pw.facts KX G hmg c⟩
